import PyProof.Rows.All
import Wide.All
import OpenK.AllK
import Wide.FinOn
import HandS.ForMost
import HandS.WordsExc
import HandS.GenList
import HandS.SetFor
import HandS.Strs
import HandS.SetBool
import KE.SortData
import HandS.SortInts
import HandS.DictComp
import HandS.Defaults
import HandS.Property
import HandS.ClsMeth
import HandS.Head0
import HandS.Head1
import HandS.Head2
import HandS.HeadEnd
import HandS.HeadHook1
import HandS.HeadHook2
import HandS.TupAny
import HandS.IsInst
import HandS.FStr
import HandS.Star
import HandS.Wide
import HandS.DictTup
import HandS.Walk
import PySem.Challenge.RW_forkbeats_k45_whole_counts_scaled
section
set_option autoImplicit false
namespace FB
/-! ### plain mathematics: what the program computes, and how it scales -/
section
variable {A : Type} [DecidableEq A]
/-- a strike: two forks and a count -/
abbrev Stk (A : Type) := A × A × Int
/-- a walking order: each fork with its ties to earlier ones -/
abbrev Wk (A : Type) := List (A × List (A × Int))
/-- pitches by name -/
abbrev Lv (A : Type) := List (A × Int)

def absI (i : Int) : Int := if i < 0 then -i else i
def tieOne (fresh : A) (placed : List A) (t : Stk A) : Option (A × Int) :=
  if t.1 = fresh ∧ t.2.1 ∈ placed then some (t.2.1, t.2.2) else if t.2.1 = fresh ∧ t.1 ∈ placed then some (t.1, t.2.2) else none
def tiesM (fresh : A) (placed : List A) (S : List (Stk A)) : List (A × Int) := S.filterMap (tieOne fresh placed)
def stepM (S : List (Stk A)) (st : Wk A × Bool) (t : Stk A) : Wk A × Bool :=
  if decide (t.1 ∈ st.1.map (·.1)) = decide (t.2.1 ∈ st.1.map (·.1)) then st
  else (st.1 ++ [((if t.1 ∈ st.1.map (·.1) then t.2.1 else t.1), tiesM (if t.1 ∈ st.1.map (·.1) then t.2.1 else t.1) (st.1.map (·.1) ++ [if t.1 ∈ st.1.map (·.1) then t.2.1 else t.1]) S)], true)
def passM (S : List (Stk A)) (f : Wk A) : Wk A × Bool := S.foldl (stepM S) (f, false)
def growM (S : List (Stk A)) : Nat → Wk A → Wk A
  | 0, f => f
  | n + 1, f => if (passM S f).2 = true then growM S n (passM S f).1 else (passM S f).1
def orderStep (names : List A) (S : List (Stk A)) (f : Wk A) (x : A) : Wk A :=
  if x ∈ f.map (·.1) then f else growM S (names.length + 1) (f ++ [(x, [])])
def orderM (names : List A) (S : List (Stk A)) : Wk A := names.foldl (orderStep names S) []

def getL (lv : Lv A) (x : A) : Int := ((lv.find? fun p => decide (p.1 = x)).map (·.2)).getD 0
def putL (lv : Lv A) (x : A) (v : Int) : Lv A :=
  if lv.any (fun p => decide (p.1 = x)) then lv.map (fun p => if p.1 = x then (p.1, v) else p) else lv ++ [(x, v)]
def marksM (c : Int) : List Int := if c = 0 then [0] else [-c, c]
def okM (tied : List (A × Int)) (lv : Lv A) (p : Int) : Bool := tied.all fun t => decide (absI (p - getL lv t.1) = t.2)
def choicesM : List (A × Int) → Lv A → List Int
  | [], _ => []
  | (f, c) :: r, lv => ((marksM c).map fun m => getL lv f + m).filter (okM ((f, c) :: r) lv)
def levelsM : Wk A → Lv A → List (Lv A)
  | [], lv => [lv]
  | (x, []) :: r, lv => levelsM r (putL lv x 0)
  | (x, t :: ts) :: r, lv => (choicesM (t :: ts) lv).flatMap fun p => levelsM r (putL lv x p)
def rowLe (p q : List Int) : Bool := decide (p ≤ q)
def rawM (names : List A) (S : List (Stk A)) : List (List Int) := (levelsM (orderM names S) []).map fun lv => names.map (getL lv)
def fitM (names : List A) (S : List (Stk A)) : List (List Int) := (rawM names S).mergeSort rowLe
/-- the number of shapes -/
def shapesM : List (List Int) → List (List Int) → Nat
  | _, [] => 0
  | seen, r :: rs => (if r.map (fun x => -x) ∈ seen then 0 else 1) + shapesM (seen ++ [r]) rs

/-! ### reaching -/
def reach1 (here : A) (f : List A) (t : Stk A) : List A :=
  let g := if t.1 = here ∧ t.2.1 ∉ f then f ++ [t.2.1] else f
  if t.2.1 = here ∧ t.1 ∉ g then g ++ [t.1] else g
def reachStep (S : List (Stk A)) (here : A) (f : List A) : List A := S.foldl (reach1 here) f
def reachM (S : List (Stk A)) : Nat → Nat → List A → List A
  | 0, _, f => f
  | n + 1, i, f => match f[i]? with
    | none => f
    | some h => reachM S n (i + 1) (reachStep S h f)
def reachF (S : List (Stk A)) (x : A) : List A := reachM S 32 0 [x]
def pieceStep (names : List A) (S : List (Stk A)) (st : List (List A) × List A) (x : A) : List (List A) × List A :=
  if x ∈ st.2 then st else (st.1 ++ [names.filter fun y => decide (y ∈ reachF S x)], st.2 ++ reachF S x)
def piecesM (names : List A) (S : List (Stk A)) : List (List A) := (names.foldl (pieceStep names S) ([], [])).1
/-- the place of the last piece that has a name -/
def ixFrom (x : A) : Nat → Option Int → List (List A) → Option Int
  | _, acc, [] => acc
  | i, acc, p :: ps => ixFrom x (i + 1) (if x ∈ p then some (i : Int) else acc) ps
def pairsM (names : List A) (P : List (List A)) : List (A × A) :=
  names.flatMap fun a => (names.filter fun b => decide (a ≠ b ∧ ixFrom a 0 none P = ixFrom b 0 none P)).map fun b => (a, b)
def rowAt (names : List A) (r : List Int) (x : A) : Int := getL (names.zip r) x
def beatM (names : List A) (r : List Int) (a b : A) : Int := absI (rowAt names r a - rowAt names r b)
/-- the one value that all items have -/
def oneM : List Int → Option Int
  | [] => none
  | x :: xs => if ∀ y ∈ xs, y = x then some x else none
def sureM (names : List A) (rows : List (List Int)) (ps : List (A × A)) : List (A × A × Int) :=
  ps.filterMap fun p => if names.idxOf p.1 < names.idxOf p.2 then (oneM (rows.map fun r => beatM names r p.1 p.2)).map fun t => (p.1, p.2, t) else none

/-! ### blocks -/
structure BSt (A : Type) where
  order : List A
  low : A → Option Int
  stack : List Nat
  found : List (List Int)
def putO (low : A → Option Int) (x : A) (v : Int) : A → Option Int := fun y => if y = x then some v else low y
def lowD (st : BSt A) (x : A) : Int := (st.low x).getD 0
def minI (a b : Int) : Int := if b < a then b else a
def sortI (l : List Int) : List Int := l.mergeSort fun a b => decide (a ≤ b)
def closeM (i : Nat) (st : BSt A) : BSt A :=
  { st with found := st.found ++ [sortI ((st.stack.drop (st.stack.idxOf i)).map fun j : Nat => (j : Int))], stack := st.stack.take (st.stack.idxOf i) }
def treeM (rec : A → Int → BSt A → BSt A) (here there : A) (i : Nat) (st : BSt A) : BSt A :=
  let s1 := rec there (i : Int) { st with stack := st.stack ++ [i] }
  let s2 : BSt A := { s1 with low := putO s1.low here (minI (lowD s1 here) (lowD s1 there)) }
  if (s2.order.idxOf here : Int) ≤ lowD s2 there then closeM i s2 else s2
def visit1 (rec : A → Int → BSt A → BSt A) (here : A) (came : Int) (st : BSt A) (q : Stk A × Nat) : BSt A :=
  if (q.2 : Int) ≠ came ∧ (here = q.1.1 ∨ here = q.1.2.1) then
    let there := if here = q.1.1 then q.1.2.1 else q.1.1
    if there ∉ st.order then treeM rec here there q.2 st
    else if st.order.idxOf there < st.order.idxOf here then
      { st with stack := st.stack ++ [q.2], low := putO st.low here (minI (lowD st here) (st.order.idxOf there : Int)) }
    else st
  else st
def enterM (here : A) (st : BSt A) : BSt A := { st with order := st.order ++ [here], low := putO st.low here (st.order.length : Int) }
def visitM (S : List (Stk A)) : Nat → A → Int → BSt A → BSt A
  | 0, _, _, st => st
  | n + 1, here, came, st => S.zipIdx.foldl (visit1 (visitM S n) here came) (enterM here st)
def blocksStep (names : List A) (S : List (Stk A)) (st : BSt A) (x : A) : BSt A :=
  if x ∈ st.order then st else visitM S names.length x (-1) st
def initB : BSt A := ⟨[], fun _ => none, [], []⟩
def searchM (names : List A) (S : List (Stk A)) : BSt A := names.foldl (blocksStep names S) initB
def blocksM (names : List A) (S : List (Stk A)) : List (List Int) := (searchM names S).found.mergeSort rowLe
/-- strikes at places -/
def pickM (S : List (Stk A)) (b : List Int) : List (Stk A) := b.filterMap fun i => S[i.toNat]?
def bforksM (S : List (Stk A)) (b : List Int) : List A := (pickM S b).foldl (fun f t =>
  let g := if t.1 ∈ f then f else f ++ [t.1]
  if t.2.1 ∈ g then g else g ++ [t.2.1]) []
def partN (names : List A) (S : List (Stk A)) (b : List Int) : List A := names.filter fun x => decide (x ∈ bforksM S b)
def bcountsM (names : List A) (S : List (Stk A)) : List Int :=
  (blocksM names S).map fun b => ((fitM (partN names S b) (pickM S b)).length : Int)
end
end FB
end
section
set_option autoImplicit false
set_option linter.all false
namespace FB
section
variable {A : Type} [DecidableEq A]
/-! ### the walking order stays within the names -/
def Good (names : List A) (f : Wk A) : Prop := (f.map (·.1)).Nodup ∧ ∀ y ∈ f.map (·.1), y ∈ names
def Ends (names : List A) (S : List (Stk A)) : Prop := ∀ s ∈ S, s.1 ∈ names ∧ s.2.1 ∈ names
theorem nodup_len : ∀ {l m : List A}, l.Nodup → (∀ y ∈ l, y ∈ m) → l.length ≤ m.length
  | [], _, _, _ => Nat.zero_le _
  | x :: l, m, hn, h => by
    have hx := h x List.mem_cons_self
    have h1 := List.nodup_cons.mp hn
    have h2 : l.length ≤ (m.erase x).length := nodup_len h1.2 fun y hy => (List.mem_erase_of_ne (fun (e : y = x) => h1.1 (e ▸ hy))).mpr (h y (List.mem_cons_of_mem _ hy))
    rw [List.length_erase_of_mem hx] at h2
    have h3 : 0 < m.length := List.length_pos_of_mem hx
    rw [List.length_cons]
    omega
theorem Good.len {names : List A} {f : Wk A} (h : Good names f) : f.length ≤ names.length := by
  have : (f.map (·.1)).length ≤ names.length := nodup_len h.1 h.2
  rwa [List.length_map] at this
theorem Good.snoc {names : List A} {f : Wk A} {x : A} {l : List (A × Int)} (h : Good names f) (hx : x ∈ names) (hn : x ∉ f.map (·.1)) : Good names (f ++ [(x, l)]) := by
  refine ⟨?_, ?_⟩
  · rw [List.map_append, List.nodup_append]
    refine ⟨h.1, by simp, ?_⟩
    intro a ha b hb
    simp at hb
    subst hb
    exact fun e => hn (e ▸ ha)
  · intro y hy
    rw [List.map_append, List.mem_append] at hy
    rcases hy with hy | hy
    · exact h.2 y hy
    · simp at hy
      rw [hy]; exact hx
theorem step_cases {S : List (Stk A)} {st : Wk A × Bool} {t : Stk A} :
    (stepM S st t = st ∧ decide (t.1 ∈ st.1.map (·.1)) = decide (t.2.1 ∈ st.1.map (·.1))) ∨ ∃ x, (x = t.1 ∨ x = t.2.1) ∧ x ∉ st.1.map (·.1) ∧ x = (if t.1 ∈ st.1.map (·.1) then t.2.1 else t.1) ∧
      decide (t.1 ∈ st.1.map (·.1)) ≠ decide (t.2.1 ∈ st.1.map (·.1)) ∧ stepM S st t = (st.1 ++ [(x, tiesM x (st.1.map (·.1) ++ [x]) S)], true) := by
  unfold stepM
  by_cases h : decide (t.1 ∈ st.1.map (·.1)) = decide (t.2.1 ∈ st.1.map (·.1))
  · rw [if_pos h]; exact .inl ⟨rfl, h⟩
  · rw [if_neg h]
    refine .inr ⟨_, ?_, ?_, rfl, h, rfl⟩
    · split
      · exact .inr rfl
      · exact .inl rfl
    · by_cases h1 : t.1 ∈ st.1.map (·.1)
      · rw [if_pos h1]
        intro h2
        exact h (by rw [decide_eq_true h1, decide_eq_true h2])
      · rw [if_neg h1]
        exact h1
theorem step_good {names : List A} {S : List (Stk A)} {st : Wk A × Bool} {t : Stk A} (h : Good names st.1) (ht : t.1 ∈ names ∧ t.2.1 ∈ names) : Good names (stepM S st t).1 ∧ st.1.length ≤ (stepM S st t).1.length ∧ ((stepM S st t).2 = true → st.2 = true ∨ st.1.length < (stepM S st t).1.length) := by
  rcases step_cases (S := S) (st := st) (t := t) with ⟨e, _⟩ | ⟨x, hx, hn, _, _, e⟩
  · rw [e]; exact ⟨h, Nat.le_refl _, fun z => .inl z⟩
  · rw [e]
    refine ⟨h.snoc ?_ hn, by simp, fun _ => .inr (by simp)⟩
    rcases hx with rfl | rfl
    · exact ht.1
    · exact ht.2
theorem fold_good {names : List A} {S : List (Stk A)} : ∀ (l : List (Stk A)) (st : Wk A × Bool), Good names st.1 → (∀ t ∈ l, t.1 ∈ names ∧ t.2.1 ∈ names) →
    Good names (l.foldl (stepM S) st).1 ∧ st.1.length ≤ (l.foldl (stepM S) st).1.length ∧ ((l.foldl (stepM S) st).2 = true → st.2 = true ∨ st.1.length < (l.foldl (stepM S) st).1.length)
  | [], st, h, _ => ⟨h, Nat.le_refl _, fun z => .inl z⟩
  | t :: l, st, h, ht => by
    obtain ⟨a, b, c⟩ := step_good (S := S) h (ht t List.mem_cons_self)
    obtain ⟨a2, b2, c2⟩ := fold_good (S := S) l (stepM S st t) a fun u hu => ht u (List.mem_cons_of_mem _ hu)
    refine ⟨a2, Nat.le_trans b b2, fun z => ?_⟩
    rcases c2 z with q | q
    · rcases c q with q | q
      · exact .inl q
      · exact .inr (Nat.lt_of_lt_of_le q b2)
    · exact .inr (Nat.lt_of_le_of_lt b q)
theorem pass_good {names : List A} {S : List (Stk A)} {f : Wk A} (h : Good names f) (hS : Ends names S) : Good names (passM S f).1 ∧ f.length ≤ (passM S f).1.length ∧ ((passM S f).2 = true → f.length < (passM S f).1.length) := by
  obtain ⟨a, b, c⟩ := fold_good (S := S) S (f, false) h hS
  refine ⟨a, b, fun z => ?_⟩
  rcases c z with q | q
  · cases q
  · exact q
theorem grow_good {names : List A} {S : List (Stk A)} (hS : Ends names S) : ∀ (n : Nat) (f : Wk A), Good names f → Good names (growM S n f)
  | 0, _, h => h
  | n + 1, f, h => by
    unfold growM
    split
    · exact grow_good hS n _ (pass_good h hS).1
    · exact (pass_good h hS).1
theorem ostep_good {names : List A} {S : List (Stk A)} {f : Wk A} {x : A} (hS : Ends names S) (h : Good names f) (hx : x ∈ names) : Good names (orderStep names S f x) := by
  unfold orderStep
  split
  · exact h
  · rename_i q
    exact grow_good hS _ _ (h.snoc hx q)
theorem ofold_good {names : List A} {S : List (Stk A)} (hS : Ends names S) : ∀ (l : List A) (f : Wk A), (∀ x ∈ l, x ∈ names) → Good names f → Good names (l.foldl (orderStep names S) f)
  | [], _, _, h => h
  | x :: l, f, hl, h => ofold_good hS l _ (fun y hy => hl y (List.mem_cons_of_mem _ hy)) (ostep_good hS h (hl x List.mem_cons_self))
theorem order_good {names : List A} {S : List (Stk A)} (hS : Ends names S) : Good names (orderM names S) := ofold_good hS names [] (fun _ h => h) ⟨List.nodup_nil, fun _ h => by simp at h⟩
end
end FB
end
section
set_option autoImplicit false
set_option linter.all false
namespace FB
section
variable {A : Type} [DecidableEq A]
theorem putL_keys (lv : Lv A) (x : A) (v : Int) (h : x ∉ lv.map (·.1)) : putL lv x v = lv ++ [(x, v)] := by
  unfold putL
  rw [if_neg]
  rw [List.any_eq_true]
  rintro ⟨q, hq, e⟩
  exact h (List.mem_map.mpr ⟨q, hq, of_decide_eq_true e⟩)
theorem choices_len (t : List (A × Int)) (lv : Lv A) : (choicesM t lv).length ≤ 2 := by
  cases t with
  | nil => show (0 : Nat) ≤ 2; decide
  | cons p r =>
    obtain ⟨f, c⟩ := p
    refine Nat.le_trans (List.length_filter_le _ _) ?_
    rw [List.length_map]
    unfold marksM
    split <;> simp
theorem flatMap_len {α β : Type} {f : α → List β} {k : Nat} : ∀ (l : List α), (∀ x ∈ l, (f x).length ≤ k) → (l.flatMap f).length ≤ l.length * k
  | [], _ => by simp
  | a :: l, h => by
    have ih := flatMap_len l fun x hx => h x (List.mem_cons_of_mem _ hx)
    have h1 := h a List.mem_cons_self
    rw [List.flatMap_cons, List.length_append, List.length_cons, Nat.succ_mul]
    omega
theorem levels_len : ∀ (wk : Wk A) (lv : Lv A), (levelsM wk lv).length ≤ 2 ^ wk.length
  | [], lv => by simp [levelsM]
  | (x, []) :: r, lv => by
    have := levels_len r (putL lv x 0)
    rw [List.length_cons, Nat.pow_succ]
    show (levelsM r (putL lv x 0)).length ≤ _
    omega
  | (x, t :: ts) :: r, lv => by
    show ((choicesM (t :: ts) lv).flatMap fun p => levelsM r (putL lv x p)).length ≤ _
    have h := flatMap_len (f := fun p => levelsM r (putL lv x p)) (k := 2 ^ r.length) (choicesM (t :: ts) lv) fun p _ => levels_len r (putL lv x p)
    have h2 := choices_len (t :: ts) lv
    rw [List.length_cons, Nat.pow_succ]
    have : (choicesM (t :: ts) lv).length * 2 ^ r.length ≤ 2 * 2 ^ r.length := Nat.mul_le_mul_right _ h2
    omega
theorem flatMap_take_len {α β : Type} (f : α → List β) : ∀ (l : List α) (i : Nat), ((l.take i).flatMap f).length ≤ (l.flatMap f).length
  | [], i => by simp
  | a :: l, 0 => by simp
  | a :: l, i + 1 => by
    have ih := flatMap_take_len f l i
    rw [List.take_succ_cons, List.flatMap_cons, List.flatMap_cons, List.length_append, List.length_append]
    omega
/-- all ties are to earlier names -/
def TiesOk (wk : Wk A) : Prop := ∀ (i : Nat) (e : A × List (A × Int)), wk[i]? = some e → ∀ t ∈ e.2, t.1 ∈ (wk.take i).map (·.1)
end
end FB
end
section
set_option autoImplicit false
set_option linter.all false
namespace FB
section
variable {A : Type} [DecidableEq A]
/-- ties to earlier names, of strikes of S -/
structure TOk (S : List (Stk A)) (f : Wk A) : Prop where
  ties : TiesOk f
  of : ∀ e ∈ f, (∀ t ∈ e.2, ∃ s ∈ S, t.2 = s.2.2) ∧ e.2.length ≤ S.length
theorem TOk.nil {S : List (Stk A)} : TOk S ([] : Wk A) := ⟨fun i e h => by simp at h, fun e h => by simp at h⟩
theorem TOk.snoc {S : List (Stk A)} {f : Wk A} {x : A} {l : List (A × Int)} (h : TOk S f) (h1 : ∀ t ∈ l, t.1 ∈ f.map (·.1)) (h2 : ∀ t ∈ l, ∃ s ∈ S, t.2 = s.2.2) (h3 : l.length ≤ S.length) : TOk S (f ++ [(x, l)]) := by
  refine ⟨fun i e hi t ht => ?_, fun e he => ?_⟩
  · rcases Nat.lt_or_ge i f.length with c | c
    · rw [List.getElem?_append_left c] at hi
      rw [List.take_append_of_le_length (Nat.le_of_lt c)]
      exact h.ties i e hi t ht
    · rw [List.getElem?_append_right c] at hi
      cases hk : i - f.length with
      | zero =>
        rw [hk] at hi
        simp at hi
        subst hi
        have : i = f.length := by omega
        rw [this, List.take_append_of_le_length (Nat.le_refl _), List.take_length]
        exact h1 t ht
      | succ k => rw [hk] at hi; simp at hi
  · rcases List.mem_append.mp he with q | q
    · exact h.of e q
    · simp at q
      subst q
      exact ⟨h2, h3⟩
theorem ties_mem {S : List (Stk A)} {x : A} {pl : List A} (hne : ∀ s ∈ S, s.1 ≠ s.2.1) : ∀ t ∈ tiesM x (pl ++ [x]) S, t.1 ∈ pl ∧ ∃ s ∈ S, t.2 = s.2.2 := by
  intro t ht
  unfold tiesM at ht
  rw [List.mem_filterMap] at ht
  obtain ⟨s, hs, e⟩ := ht
  unfold tieOne at e
  split at e
  · rename_i c
    cases e
    refine ⟨?_, s, hs, rfl⟩
    rcases List.mem_append.mp c.2 with q | q
    · exact q
    · simp at q
      exact absurd (c.1.trans q.symm) (hne s hs)
  · split at e
    · rename_i c
      cases e
      refine ⟨?_, s, hs, rfl⟩
      rcases List.mem_append.mp c.2 with q | q
      · exact q
      · simp at q
        exact absurd (q.trans c.1.symm) (hne s hs)
    · cases e
theorem step_tok {S : List (Stk A)} {st : Wk A × Bool} {t : Stk A} (hne : ∀ s ∈ S, s.1 ≠ s.2.1) (h : TOk S st.1) : TOk S (stepM S st t).1 ∧ ∀ y ∈ st.1.map (·.1), y ∈ (stepM S st t).1.map (·.1) := by
  rcases step_cases (S := S) (st := st) (t := t) with ⟨e, _⟩ | ⟨x, hx, hn, _, _, e⟩
  · rw [e]; exact ⟨h, fun _ z => z⟩
  · rw [e]
    refine ⟨h.snoc (fun t ht => (ties_mem hne t ht).1) (fun t ht => (ties_mem hne t ht).2) (List.length_filterMap_le _ _), fun y hy => ?_⟩
    rw [List.map_append]
    exact List.mem_append_left _ hy
theorem fold_tok {S : List (Stk A)} (hne : ∀ s ∈ S, s.1 ≠ s.2.1) : ∀ (l : List (Stk A)) (st : Wk A × Bool), TOk S st.1 → TOk S (l.foldl (stepM S) st).1 ∧ ∀ y ∈ st.1.map (·.1), y ∈ (l.foldl (stepM S) st).1.map (·.1)
  | [], _, h => ⟨h, fun _ z => z⟩
  | t :: l, st, h => by
    obtain ⟨a, b⟩ := step_tok (t := t) hne h
    obtain ⟨a2, b2⟩ := fold_tok hne l (stepM S st t) a
    exact ⟨a2, fun y hy => b2 y (b y hy)⟩
theorem grow_tok {S : List (Stk A)} (hne : ∀ s ∈ S, s.1 ≠ s.2.1) : ∀ (n : Nat) (f : Wk A), TOk S f → TOk S (growM S n f) ∧ ∀ y ∈ f.map (·.1), y ∈ (growM S n f).map (·.1)
  | 0, f, h => ⟨h, fun _ z => z⟩
  | n + 1, f, h => by
    obtain ⟨a, b⟩ := fold_tok hne S (f, false) h
    unfold growM
    split
    · obtain ⟨a2, b2⟩ := grow_tok hne n (passM S f).1 a
      exact ⟨a2, fun y hy => b2 y (b y hy)⟩
    · exact ⟨a, b⟩
theorem ostep_tok {names : List A} {S : List (Stk A)} {f : Wk A} {x : A} (hne : ∀ s ∈ S, s.1 ≠ s.2.1) (h : TOk S f) : TOk S (orderStep names S f x) ∧ (∀ y ∈ f.map (·.1), y ∈ (orderStep names S f x).map (·.1)) ∧ x ∈ (orderStep names S f x).map (·.1) := by
  unfold orderStep
  split
  · rename_i q
    exact ⟨h, fun _ z => z, q⟩
  · obtain ⟨a, b⟩ := grow_tok hne (names.length + 1) (f ++ [(x, [])]) (h.snoc (fun t ht => by simp at ht) (fun t ht => by simp at ht) (Nat.zero_le _))
    refine ⟨a, fun y hy => b y ?_, b x ?_⟩
    · rw [List.map_append]; exact List.mem_append_left _ hy
    · rw [List.map_append]; exact List.mem_append_right _ (by simp)
theorem ofold_tok {names : List A} {S : List (Stk A)} (hne : ∀ s ∈ S, s.1 ≠ s.2.1) : ∀ (l : List A) (f : Wk A), TOk S f → TOk S (l.foldl (orderStep names S) f) ∧ (∀ y ∈ f.map (·.1), y ∈ (l.foldl (orderStep names S) f).map (·.1)) ∧ ∀ x ∈ l, x ∈ (l.foldl (orderStep names S) f).map (·.1)
  | [], f, h => ⟨h, fun _ z => z, fun x hx => by simp at hx⟩
  | a :: l, f, h => by
    obtain ⟨a1, b1, c1⟩ := ostep_tok (names := names) (x := a) hne h
    obtain ⟨a2, b2, c2⟩ := ofold_tok hne l (orderStep names S f a) a1
    refine ⟨a2, fun y hy => b2 y (b1 y hy), fun x hx => ?_⟩
    rcases List.mem_cons.mp hx with rfl | q
    · exact b2 _ c1
    · exact c2 x q
theorem order_tok {names : List A} {S : List (Stk A)} (hne : ∀ s ∈ S, s.1 ≠ s.2.1) : TOk S (orderM names S) ∧ ∀ x ∈ names, x ∈ (orderM names S).map (·.1) :=
  let h := ofold_tok (names := names) hne names [] TOk.nil
  ⟨h.1, h.2.2⟩
/-- each level has the names of the walking order -/
theorem levels_keys : ∀ (wk : Wk A) (lv : Lv A), (lv.map (·.1) ++ wk.map (·.1)).Nodup → ∀ l ∈ levelsM wk lv, l.map (·.1) = lv.map (·.1) ++ wk.map (·.1)
  | [], lv, _, l, hl => by
    simp [levelsM] at hl
    rw [hl]; simp
  | (x, ts) :: r, lv, hn, l, hl => by
    have hx : x ∉ lv.map (·.1) := fun q => by
      rw [List.nodup_append] at hn
      exact hn.2.2 x q x (by simp) rfl
    have hk : ∀ v, (putL lv x v).map (·.1) = lv.map (·.1) ++ [x] := fun v => by
      rw [putL_keys lv x v hx, List.map_append]
      rfl
    have go : ∀ v, l ∈ levelsM r (putL lv x v) → l.map (·.1) = lv.map (·.1) ++ ((x, ts) :: r).map (·.1) := fun v hv => by
      have := levels_keys r (putL lv x v) (by rw [hk, List.append_assoc]; exact hn) l hv
      rw [this, hk, List.append_assoc]
      rfl
    cases ts with
    | nil => exact go 0 hl
    | cons t ts =>
      have hl : l ∈ (choicesM (t :: ts) lv).flatMap fun p => levelsM r (putL lv x p) := hl
      rw [List.mem_flatMap] at hl
      obtain ⟨p, _, hp⟩ := hl
      exact go p hp
end
end FB
end
section
set_option autoImplicit false
set_option linter.all false
namespace FB
section
variable {A : Type} [DecidableEq A]
/-! ### reaching stays within the names -/
def RG (names f : List A) : Prop := f.Nodup ∧ ∀ y ∈ f, y ∈ names
theorem RG.snoc {names f : List A} {x : A} (h : RG names f) (hx : x ∈ names) (hn : x ∉ f) : RG names (f ++ [x]) := by
  refine ⟨?_, fun y hy => ?_⟩
  · rw [List.nodup_append]
    refine ⟨h.1, by simp, ?_⟩
    intro a ha b hb
    simp at hb
    subst hb
    exact fun e => hn (e ▸ ha)
  · rcases List.mem_append.mp hy with q | q
    · exact h.2 y q
    · simp at q
      rw [q]; exact hx
theorem reach1_good {names f : List A} {h : A} {t : Stk A} (g : RG names f) (ht : t.1 ∈ names ∧ t.2.1 ∈ names) : RG names (reach1 h f t) ∧ f.length ≤ (reach1 h f t).length ∧ ∀ y ∈ f, y ∈ reach1 h f t := by
  have g1 : RG names (if t.1 = h ∧ t.2.1 ∉ f then f ++ [t.2.1] else f) ∧ f.length ≤ (if t.1 = h ∧ t.2.1 ∉ f then f ++ [t.2.1] else f).length ∧ ∀ y ∈ f, y ∈ (if t.1 = h ∧ t.2.1 ∉ f then f ++ [t.2.1] else f) := by
    split
    · rename_i c
      exact ⟨g.snoc ht.2 c.2, by simp, fun y hy => List.mem_append_left _ hy⟩
    · exact ⟨g, Nat.le_refl _, fun _ z => z⟩
  unfold reach1
  dsimp only
  generalize (if t.1 = h ∧ t.2.1 ∉ f then f ++ [t.2.1] else f) = f1 at g1 ⊢
  split
  · rename_i c
    exact ⟨g1.1.snoc ht.1 c.2, Nat.le_trans g1.2.1 (by simp), fun y hy => List.mem_append_left _ (g1.2.2 y hy)⟩
  · exact g1
theorem rfold_good {names : List A} {h : A} : ∀ (l : List (Stk A)) (f : List A), RG names f → (∀ t ∈ l, t.1 ∈ names ∧ t.2.1 ∈ names) → RG names (l.foldl (reach1 h) f) ∧ f.length ≤ (l.foldl (reach1 h) f).length ∧ ∀ y ∈ f, y ∈ l.foldl (reach1 h) f
  | [], f, g, _ => ⟨g, Nat.le_refl _, fun _ z => z⟩
  | t :: l, f, g, ht => by
    obtain ⟨a, b, c⟩ := reach1_good (h := h) g (ht t List.mem_cons_self)
    obtain ⟨a2, b2, c2⟩ := rfold_good (h := h) l (reach1 h f t) a fun u hu => ht u (List.mem_cons_of_mem _ hu)
    exact ⟨a2, Nat.le_trans b b2, fun y hy => c2 y (c y hy)⟩
theorem reach_good {names : List A} {S : List (Stk A)} (hS : Ends names S) : ∀ (n i : Nat) (f : List A), RG names f → RG names (reachM S n i f) ∧ ∀ y ∈ f, y ∈ reachM S n i f
  | 0, _, f, g => ⟨g, fun _ z => z⟩
  | n + 1, i, f, g => by
    unfold reachM
    split
    · exact ⟨g, fun _ z => z⟩
    · obtain ⟨a, b, c⟩ := rfold_good (h := by assumption) S f g hS
      obtain ⟨a2, c2⟩ := reach_good hS n (i + 1) _ a
      exact ⟨a2, fun y hy => c2 y (c y hy)⟩
theorem reachF_good {names : List A} {S : List (Stk A)} {x : A} (hS : Ends names S) (hx : x ∈ names) : RG names (reachF S x) ∧ x ∈ reachF S x := by
  have g : RG names [x] := ⟨by simp, fun y hy => by simp at hy; rw [hy]; exact hx⟩
  obtain ⟨a, b⟩ := reach_good hS 32 0 [x] g
  exact ⟨a, b x (by simp)⟩
theorem reach_some {S : List (Stk A)} {n i : Nat} {f : List A} {h : A} (e : f[i]? = some h) : reachM S (n + 1) i f = reachM S n (i + 1) (reachStep S h f) := by
  rw [reachM, e]
theorem reach_none {S : List (Stk A)} {n i : Nat} {f : List A} (e : f[i]? = none) : reachM S (n + 1) i f = f := by
  rw [reachM, e]
/-! ### pieces -/
theorem pstep_mem {names : List A} {S : List (Stk A)} {st : List (List A) × List A} {x : A} (hS : Ends names S) (hx : x ∈ names) (h : ∀ y ∈ st.2, y ∈ names → ∃ p ∈ st.1, y ∈ p) :
    (∀ y ∈ (pieceStep names S st x).2, y ∈ names → ∃ p ∈ (pieceStep names S st x).1, y ∈ p) ∧ (∀ y ∈ st.2, y ∈ (pieceStep names S st x).2) ∧ x ∈ (pieceStep names S st x).2 := by
  unfold pieceStep
  split
  · rename_i q
    exact ⟨h, fun _ z => z, q⟩
  · refine ⟨fun y hy hn => ?_, fun y hy => List.mem_append_left _ hy, List.mem_append_right _ (reachF_good hS hx).2⟩
    rcases List.mem_append.mp hy with q | q
    · obtain ⟨p, hp, hyp⟩ := h y q hn
      exact ⟨p, List.mem_append_left _ hp, hyp⟩
    · exact ⟨names.filter fun y => decide (y ∈ reachF S x), List.mem_append_right _ (by simp), List.mem_filter.mpr ⟨hn, by simpa using q⟩⟩
theorem pfold_mem {names : List A} {S : List (Stk A)} (hS : Ends names S) : ∀ (l : List A) (st : List (List A) × List A), (∀ x ∈ l, x ∈ names) → (∀ y ∈ st.2, y ∈ names → ∃ p ∈ st.1, y ∈ p) →
    (∀ y ∈ (l.foldl (pieceStep names S) st).2, y ∈ names → ∃ p ∈ (l.foldl (pieceStep names S) st).1, y ∈ p) ∧ (∀ y ∈ st.2, y ∈ (l.foldl (pieceStep names S) st).2) ∧ ∀ x ∈ l, x ∈ (l.foldl (pieceStep names S) st).2
  | [], st, _, h => ⟨h, fun _ z => z, fun x hx => by simp at hx⟩
  | a :: l, st, hl, h => by
    obtain ⟨a1, b1, c1⟩ := pstep_mem (x := a) hS (hl a List.mem_cons_self) h
    obtain ⟨a2, b2, c2⟩ := pfold_mem hS l (pieceStep names S st a) (fun x hx => hl x (List.mem_cons_of_mem _ hx)) a1
    refine ⟨a2, fun y hy => b2 y (b1 y hy), fun x hx => ?_⟩
    rcases List.mem_cons.mp hx with rfl | q
    · exact b2 _ c1
    · exact c2 x q
theorem pieces_mem {names : List A} {S : List (Stk A)} (hS : Ends names S) {x : A} (hx : x ∈ names) : ∃ p ∈ piecesM names S, x ∈ p := by
  obtain ⟨a, _, c⟩ := pfold_mem hS names ([], []) (fun _ h => h) (fun y hy => by simp at hy)
  exact a x (c x hx) hx
theorem pieces_sub {names : List A} {S : List (Stk A)} : ∀ p ∈ piecesM names S, ∀ y ∈ p, y ∈ names := by
  have : ∀ (l : List A) (st : List (List A) × List A), (∀ p ∈ st.1, ∀ y ∈ p, y ∈ names) → ∀ p ∈ (l.foldl (pieceStep names S) st).1, ∀ y ∈ p, y ∈ names := by
    intro l
    induction l with
    | nil => exact fun st h => h
    | cons a l ih =>
      intro st h
      refine ih _ ?_
      unfold pieceStep
      split
      · exact h
      · intro p hp y hy
        rcases List.mem_append.mp hp with q | q
        · exact h p q y hy
        · simp at q
          subst q
          exact (List.mem_filter.mp hy).1
  exact this names ([], []) fun p hp => by simp at hp
theorem pieces_len {names : List A} {S : List (Stk A)} : (piecesM names S).length ≤ names.length := by
  have : ∀ (l : List A) (st : List (List A) × List A), (l.foldl (pieceStep names S) st).1.length ≤ st.1.length + l.length := by
    intro l
    induction l with
    | nil => intro st; simp
    | cons a l ih =>
      intro st
      have h1 := ih (pieceStep names S st a)
      have h2 : (pieceStep names S st a).1.length ≤ st.1.length + 1 := by
        unfold pieceStep
        split <;> simp
      rw [List.foldl_cons, List.length_cons]
      omega
  have h := this names ([], [])
  show (names.foldl (pieceStep names S) ([], [])).1.length ≤ _
  simp at h
  exact h
theorem pieces_plen {names : List A} {S : List (Stk A)} : ∀ p ∈ piecesM names S, p.length ≤ names.length := by
  have : ∀ (l : List A) (st : List (List A) × List A), (∀ p ∈ st.1, p.length ≤ names.length) → ∀ p ∈ (l.foldl (pieceStep names S) st).1, p.length ≤ names.length := by
    intro l
    induction l with
    | nil => exact fun st h => h
    | cons a l ih =>
      intro st h
      refine ih _ ?_
      unfold pieceStep
      split
      · exact h
      · intro p hp
        rcases List.mem_append.mp hp with q | q
        · exact h p q
        · simp at q
          subst q
          exact List.length_filter_le _ _
  exact this names ([], []) fun p hp => by simp at hp
theorem ix_some {x : A} : ∀ (ps : List (List A)) (i : Nat) (acc : Option Int), (acc.isSome = true ∨ ∃ p ∈ ps, x ∈ p) → (ixFrom x i acc ps).isSome = true
  | [], i, acc, h => by
    rcases h with h | ⟨p, hp, _⟩
    · exact h
    · simp at hp
  | p :: ps, i, acc, h => by
    unfold ixFrom
    refine ix_some ps (i + 1) _ ?_
    by_cases hx : x ∈ p
    · rw [if_pos hx]; exact .inl rfl
    · rw [if_neg hx]
      rcases h with h | ⟨q, hq, hxq⟩
      · exact .inl h
      · rcases List.mem_cons.mp hq with rfl | hq
        · exact absurd hxq hx
        · exact .inr ⟨q, hq, hxq⟩
theorem ix_snoc {x : A} {p : List A} : ∀ (ps : List (List A)) (i : Nat) (acc : Option Int), ixFrom x i acc (ps ++ [p]) = if x ∈ p then some ((i + ps.length : Nat) : Int) else ixFrom x i acc ps
  | [], i, acc => by
    show (if x ∈ p then some (i : Int) else acc) = _
    simp [ixFrom]
  | q :: ps, i, acc => by
    show ixFrom x (i + 1) (if x ∈ q then some (i : Int) else acc) (ps ++ [p]) = _
    rw [ix_snoc ps (i + 1)]
    have : i + 1 + ps.length = i + (q :: ps).length := by rw [List.length_cons]; omega
    rw [this]
    rfl
end
end FB
end
section
set_option autoImplicit false
set_option linter.all false
namespace FB
section
variable {A : Type} [DecidableEq A]
/-! ### the search for blocks: what holds all along -/
def Blk (S : List (Stk A)) (b : List Int) : Prop := ∃ l : List Nat, b.Perm (l.map fun j : Nat => (j : Int)) ∧ l.Nodup ∧ l ≠ [] ∧ ∀ i ∈ l, i < S.length
structure VI (names : List A) (S : List (Stk A)) (oo : List A) (st : BSt A) : Prop where
  ond : st.order.Nodup
  osub : ∀ z ∈ st.order, z ∈ names
  low : ∀ z, (st.low z).isSome = true ↔ z ∈ st.order
  snd : st.stack.Nodup
  sin : ∀ i ∈ st.stack, ∃ s, S[i]? = some s ∧ s.1 ∈ oo ∧ s.2.1 ∈ oo
  fin : ∀ b ∈ st.found, Blk S b
  fl : st.found.length ≤ st.order.length
structure Pre (names : List A) (S : List (Stk A)) (n : Nat) (here : A) (came : Int) (st : BSt A) : Prop where
  vi : VI names S (st.order ++ [here]) st
  new : here ∉ st.order
  mem : here ∈ names
  old : ∀ e ∈ st.stack, (e : Int) = came ∨ ∀ s, S[e]? = some s → s.1 ∈ st.order ∧ s.2.1 ∈ st.order
  fuel : names.length ≤ n + st.order.length
structure LI (names : List A) (S : List (Stk A)) (here : A) (st0 : BSt A) (i : Nat) (st : BSt A) : Prop where
  vi : VI names S st.order st
  pfx : ∃ m, st.order = st0.order ++ [here] ++ m
  cnt : st.found.length + st0.order.length + 1 ≤ st0.found.length + st.order.length
  ext : ∃ ext, st.stack = st0.stack ++ ext ∧ ∀ e ∈ ext, ∃ s, S[e]? = some s ∧ ((s.1 ∉ st0.order ++ [here] ∨ s.2.1 ∉ st0.order ++ [here]) ∨ ((s.1 = here ∨ s.2.1 = here) ∧ e < i))
structure Post (names : List A) (S : List (Stk A)) (here : A) (st0 st : BSt A) : Prop where
  vi : VI names S st.order st
  pfx : ∃ m, st.order = st0.order ++ [here] ++ m
  cnt : st.found.length + st0.order.length + 1 ≤ st0.found.length + st.order.length
  ext : ∃ ext, st.stack = st0.stack ++ ext ∧ ∀ e ∈ ext, ∃ s, S[e]? = some s ∧ (s.1 ∉ st0.order ∨ s.2.1 ∉ st0.order)
theorem pfx_sub {o o' : List A} {h : A} (p : ∃ m, o' = o ++ [h] ++ m) : ∀ z ∈ o ++ [h], z ∈ o' := by
  obtain ⟨m, e⟩ := p
  intro z hz
  rw [e]
  exact List.mem_append_left _ hz
theorem pfx_len {o o' : List A} {h : A} (p : ∃ m, o' = o ++ [h] ++ m) : o.length + 1 ≤ o'.length := by
  obtain ⟨m, e⟩ := p
  rw [e, List.length_append, List.length_append]
  show o.length + 1 ≤ o.length + 1 + m.length
  omega
theorem LI.sub {names : List A} {S : List (Stk A)} {here : A} {st0 st : BSt A} {i : Nat} (h : LI names S here st0 i st) : ∀ z ∈ st0.order ++ [here], z ∈ st.order := pfx_sub h.pfx
theorem LI.len {names : List A} {S : List (Stk A)} {here : A} {st0 st : BSt A} {i : Nat} (h : LI names S here st0 i st) : st0.order.length + 1 ≤ st.order.length := pfx_len h.pfx
theorem Post.sub {names : List A} {S : List (Stk A)} {here : A} {st0 st : BSt A} (h : Post names S here st0 st) : ∀ z ∈ st0.order ++ [here], z ∈ st.order := pfx_sub h.pfx
theorem Post.len {names : List A} {S : List (Stk A)} {here : A} {st0 st : BSt A} (h : Post names S here st0 st) : st0.order.length + 1 ≤ st.order.length := pfx_len h.pfx
theorem enter_LI {names : List A} {S : List (Stk A)} {n : Nat} {here : A} {came : Int} {st : BSt A} (p : Pre names S n here came st) : LI names S here st 0 (enterM here st) := by
  refine ⟨⟨?_, fun z hz => ?_, fun z => ?_, p.vi.snd, p.vi.sin, p.vi.fin, by have := p.vi.fl; show st.found.length ≤ (st.order ++ [here]).length; rw [List.length_append]; omega⟩, ⟨[], by simp [enterM]⟩, by show st.found.length + st.order.length + 1 ≤ st.found.length + (st.order ++ [here]).length; rw [List.length_append]; show _ ≤ st.found.length + (st.order.length + 1); omega, [], by simp [enterM], fun e he => by simp at he⟩
  · show (st.order ++ [here]).Nodup
    rw [List.nodup_append]
    refine ⟨p.vi.ond, by simp, ?_⟩
    intro a ha b hb
    simp at hb
    subst hb
    exact fun q => p.new (q ▸ ha)
  · rcases List.mem_append.mp hz with q | q
    · exact p.vi.osub z q
    · simp at q
      rw [q]; exact p.mem
  · show (putO st.low here (st.order.length : Int) z).isSome = true ↔ z ∈ st.order ++ [here]
    unfold putO
    by_cases e : z = here
    · simp [e]
    · rw [if_neg e, p.vi.low z]
      simp [e]
theorem LI.mono {names : List A} {S : List (Stk A)} {here : A} {st0 st : BSt A} {i : Nat} (h : LI names S here st0 i st) : LI names S here st0 (i + 1) st := by
  obtain ⟨ext, h1, h2⟩ := h.ext
  refine ⟨h.vi, h.pfx, h.cnt, ext, h1, fun e he => ?_⟩
  obtain ⟨s, hs, q⟩ := h2 e he
  refine ⟨s, hs, ?_⟩
  rcases q with q | q
  · exact .inl q
  · exact .inr ⟨q.1, by omega⟩
theorem LI.post {names : List A} {S : List (Stk A)} {n : Nat} {here : A} {came : Int} {st0 st : BSt A} {i : Nat} (p : Pre names S n here came st0) (h : LI names S here st0 i st) : Post names S here st0 st := by
  obtain ⟨ext, h1, h2⟩ := h.ext
  refine ⟨h.vi, h.pfx, h.cnt, ext, h1, fun e he => ?_⟩
  obtain ⟨s, hs, q⟩ := h2 e he
  refine ⟨s, hs, ?_⟩
  rcases q with (q | q) | ⟨q | q, _⟩
  · exact .inl fun z => q (List.mem_append_left _ z)
  · exact .inr fun z => q (List.mem_append_left _ z)
  · exact .inl (q ▸ p.new)
  · exact .inr (q ▸ p.new)
/-- ahead of a tree edge -/
theorem pre_rec {names : List A} {S : List (Stk A)} {n i : Nat} {here there : A} {came : Int} {st0 st : BSt A} {t : Stk A} (hS : Ends names S) (p : Pre names S (n + 1) here came st0) (h : LI names S here st0 i st) (ht : S[i]? = some t) (hh : (here = t.1 ∧ there = t.2.1) ∨ (here = t.2.1 ∧ there = t.1)) (hn : there ∉ st.order) :
    Pre names S n there i { st with stack := st.stack ++ [i] } := by
  have hmem := hS t (List.mem_of_getElem? ht)
  have hthere : there ∈ names := by
    rcases hh with ⟨_, e⟩ | ⟨_, e⟩
    · rw [e]; exact hmem.2
    · rw [e]; exact hmem.1
  have hho : here ∈ st.order := h.sub here (by simp)
  have hni : i ∉ st.stack := fun q => by
    obtain ⟨s, hs, a, b⟩ := h.vi.sin i q
    rw [ht] at hs
    cases hs
    rcases hh with ⟨_, e⟩ | ⟨_, e⟩
    · exact hn (e ▸ b)
    · exact hn (e ▸ a)
  refine ⟨⟨h.vi.ond, h.vi.osub, h.vi.low, ?_, fun j hj => ?_, h.vi.fin, h.vi.fl⟩, hn, hthere, fun e he => ?_, ?_⟩
  · show (st.stack ++ [i]).Nodup
    rw [List.nodup_append]
    refine ⟨h.vi.snd, by simp, ?_⟩
    intro a ha b hb
    simp at hb
    subst hb
    exact fun q => hni (q ▸ ha)
  · rcases List.mem_append.mp hj with q | q
    · obtain ⟨s, hs, a, b⟩ := h.vi.sin j q
      exact ⟨s, hs, List.mem_append_left _ a, List.mem_append_left _ b⟩
    · simp at q
      subst q
      refine ⟨t, ht, ?_⟩
      rcases hh with ⟨e1, e2⟩ | ⟨e1, e2⟩
      · exact ⟨List.mem_append_left _ (e1 ▸ hho), List.mem_append_right _ (by simp [e2])⟩
      · exact ⟨List.mem_append_right _ (by simp [e2]), List.mem_append_left _ (e1 ▸ hho)⟩
  · rcases List.mem_append.mp he with q | q
    · refine .inr fun s hs => ?_
      obtain ⟨s', hs', a, b⟩ := h.vi.sin e q
      rw [hs] at hs'
      cases hs'
      exact ⟨a, b⟩
    · simp at q
      exact .inl (by rw [q])
  · have := p.fuel
    have := h.len
    show names.length ≤ n + st.order.length
    omega
/-- behind it: i stands where it was pushed -/
theorem rec_at {names : List A} {S : List (Stk A)} {i : Nat} {there : A} {st st2 : BSt A} (hni : i ∉ st.stack) (q : Post names S there { st with stack := st.stack ++ [i] } st2) : i ∈ st2.stack ∧ st2.stack.take (st2.stack.idxOf i) = st.stack := by
  obtain ⟨ext, h1, _⟩ := q.ext
  have h1 : st2.stack = (st.stack ++ [i]) ++ ext := h1
  have hi : i ∈ st.stack ++ [i] := by simp
  refine ⟨by rw [h1]; exact List.mem_append_left _ hi, ?_⟩
  have hx : (st.stack ++ [i] ++ ext).idxOf i = st.stack.length := by
    rw [List.append_assoc, List.idxOf_append, if_neg hni, List.singleton_append, List.idxOf_cons_self, Nat.zero_add]
  rw [h1, hx, List.append_assoc, List.take_left']
  rfl
theorem low_put {st : BSt A} {here : A} {v : Int} (hl : ∀ z, (st.low z).isSome = true ↔ z ∈ st.order) (hh : here ∈ st.order) : ∀ z, (putO st.low here v z).isSome = true ↔ z ∈ st.order := fun z => by
  unfold putO
  by_cases e : z = here
  · simp [e, hh]
  · rw [if_neg e]; exact hl z
theorem step_LI {names : List A} {S : List (Stk A)} {n i : Nat} {here : A} {came : Int} {st0 st : BSt A} {t : Stk A} (hS : Ends names S) (p : Pre names S (n + 1) here came st0) (h : LI names S here st0 i st) (ht : S[i]? = some t)
    (hrec : ∀ there j st', Pre names S n there j st' → Post names S there st' (visitM S n there j st')) : LI names S here st0 (i + 1) (visit1 (visitM S n) here came st (t, i)) := by
  have hho : here ∈ st.order := h.sub here (by simp)
  unfold visit1
  by_cases hc : ((i : Int)) ≠ came ∧ (here = t.1 ∨ here = t.2.1)
  · rw [if_pos hc]
    dsimp only
    generalize hth : (if here = t.1 then t.2.1 else t.1) = there
    have hh : (here = t.1 ∧ there = t.2.1) ∨ (here = t.2.1 ∧ there = t.1) := by
      by_cases e : here = t.1
      · rw [if_pos e] at hth
        exact .inl ⟨e, hth.symm⟩
      · rw [if_neg e] at hth
        exact .inr ⟨hc.2.resolve_left e, hth.symm⟩
    have hie : t.1 = here ∨ t.2.1 = here := by
      rcases hh with ⟨e, _⟩ | ⟨e, _⟩
      · exact .inl e.symm
      · exact .inr e.symm
    by_cases hn : there ∉ st.order
    · rw [if_pos hn]
      have pr := pre_rec hS p h ht hh hn
      have q := hrec there i _ pr
      have hni : i ∉ st.stack := fun z => by
        obtain ⟨s, hs, a, b⟩ := h.vi.sin i z
        rw [ht] at hs
        cases hs
        rcases hh with ⟨_, e⟩ | ⟨_, e⟩
        · exact hn (e ▸ b)
        · exact hn (e ▸ a)
      unfold treeM
      dsimp only
      generalize visitM S n there (i : Int) { st with stack := st.stack ++ [i] } = s1 at q
      have hsub1 : ∀ z ∈ st.order, z ∈ s1.order := fun z hz => q.sub z (List.mem_append_left _ hz)
      have hlen1 : st.order.length + 1 ≤ s1.order.length := q.len
      obtain ⟨ext0, h0, hx0⟩ := h.ext
      obtain ⟨ext1, h1, hx1⟩ := q.ext
      have h1 : s1.stack = (st.stack ++ [i]) ++ ext1 := h1
      have hc1 := h.cnt
      have hc2 : s1.found.length + st.order.length + 1 ≤ st.found.length + s1.order.length := q.cnt
      have hcnt : s1.found.length + st0.order.length + 1 ≤ st0.found.length + s1.order.length := by omega
      have hfl0 := p.vi.fl
      have base : LI names S here st0 (i + 1) { s1 with low := putO s1.low here (minI (lowD s1 here) (lowD s1 there)) } := by
        refine ⟨⟨q.vi.ond, q.vi.osub, low_put q.vi.low (hsub1 here hho), q.vi.snd, q.vi.sin, q.vi.fin, q.vi.fl⟩, (by obtain ⟨m1, e1⟩ := h.pfx; obtain ⟨m2, e2⟩ := q.pfx; exact ⟨m1 ++ [there] ++ m2, by show s1.order = _; rw [e2]; show st.order ++ [there] ++ m2 = _; rw [e1]; simp⟩), hcnt, ext0 ++ [i] ++ ext1, by show s1.stack = _; rw [h1, h0]; simp, fun e he => ?_⟩
        rcases List.mem_append.mp he with he | he
        · rcases List.mem_append.mp he with he | he
          · obtain ⟨s, hs, a⟩ := hx0 e he
            refine ⟨s, hs, ?_⟩
            rcases a with a | a
            · exact .inl a
            · exact .inr ⟨a.1, by omega⟩
          · simp at he
            subst he
            exact ⟨t, ht, .inr ⟨hie, by omega⟩⟩
        · obtain ⟨s, hs, a⟩ := hx1 e he
          refine ⟨s, hs, .inl ?_⟩
          rcases a with a | a
          · exact .inl fun z => a (h.sub _ z)
          · exact .inr fun z => a (h.sub _ z)
      split
      · obtain ⟨hi1, htake⟩ := rec_at hni q
        have hst : (closeM i { s1 with low := putO s1.low here (minI (lowD s1 here) (lowD s1 there)) }).stack = st.stack := htake
        refine ⟨⟨q.vi.ond, q.vi.osub, base.vi.low, by rw [hst]; exact h.vi.snd, fun j hj => ?_, fun b hb => ?_, by show (s1.found ++ [_]).length ≤ s1.order.length; rw [List.length_append]; show s1.found.length + 1 ≤ _; omega⟩, base.pfx, by show (s1.found ++ [_]).length + _ + 1 ≤ _; rw [List.length_append]; show s1.found.length + 1 + st0.order.length + 1 ≤ st0.found.length + s1.order.length; omega, ext0, by rw [hst, h0], fun e he => ?_⟩
        · rw [hst] at hj
          obtain ⟨s, hs, a, b⟩ := h.vi.sin j hj
          exact ⟨s, hs, hsub1 _ a, hsub1 _ b⟩
        · rcases List.mem_append.mp hb with hb | hb
          · exact q.vi.fin b hb
          · have hb := List.mem_singleton.mp hb
            subst hb
            refine ⟨s1.stack.drop (s1.stack.idxOf i), List.mergeSort_perm _ _, q.vi.snd.sublist (List.drop_sublist _ _), ?_, fun j hj => ?_⟩
            · intro z
              have := List.drop_eq_nil_iff.mp z
              have := List.idxOf_lt_length_iff.mpr hi1
              omega
            · obtain ⟨s, hs, _⟩ := q.vi.sin j (List.mem_of_mem_drop hj)
              exact (List.getElem?_eq_some_iff.mp hs).1
        · obtain ⟨s, hs, a⟩ := hx0 e he
          refine ⟨s, hs, ?_⟩
          rcases a with a | a
          · exact .inl a
          · exact .inr ⟨a.1, by omega⟩
      · exact base
    · rw [if_neg hn]
      have hto : there ∈ st.order := Decidable.not_not.mp hn
      split
      · rename_i hlt
        obtain ⟨ext0, h0, hx0⟩ := h.ext
        have hni : i ∉ st.stack := fun z => by
          rw [h0] at z
          have hhn : here ∉ st0.order := p.new
          rcases List.mem_append.mp z with z | z
          · rcases p.old i z with e | e
            · exact hc.1 e
            · have := e t ht
              rcases hie with w | w
              · exact hhn (w ▸ this.1)
              · exact hhn (w ▸ this.2)
          · obtain ⟨s, hs, a⟩ := hx0 i z
            rw [ht] at hs
            cases hs
            rcases a with a | a
            · have hto0 : there ∈ st0.order ++ [here] := by
                obtain ⟨m, em⟩ := h.pfx
                have hih : st.order.idxOf here = st0.order.length := by
                  rw [em, List.append_assoc, List.idxOf_append, if_neg p.new, List.singleton_append, List.idxOf_cons_self, Nat.zero_add]
                rw [hih] at hlt
                by_cases w : there ∈ st0.order ++ [here]
                · exact w
                · rw [em, List.idxOf_append, if_neg w] at hlt
                  simp at hlt
                  omega
              have hhe : here ∈ st0.order ++ [here] := by simp
              rcases hh with ⟨e1, e2⟩ | ⟨e1, e2⟩
              · rcases a with a | a
                · exact a (e1 ▸ hhe)
                · exact a (e2 ▸ hto0)
              · rcases a with a | a
                · exact a (e2 ▸ hto0)
                · exact a (e1 ▸ hhe)
            · omega
        refine ⟨⟨h.vi.ond, h.vi.osub, low_put h.vi.low hho, ?_, fun j hj => ?_, h.vi.fin, h.vi.fl⟩, h.pfx, h.cnt, ext0 ++ [i], by show st.stack ++ [i] = _; rw [h0]; simp, fun e he => ?_⟩
        · show (st.stack ++ [i]).Nodup
          rw [List.nodup_append]
          refine ⟨h.vi.snd, by simp, ?_⟩
          intro a ha b hb
          simp at hb
          subst hb
          exact fun q => hni (q ▸ ha)
        · rcases List.mem_append.mp hj with q | q
          · exact h.vi.sin j q
          · simp at q
            subst q
            refine ⟨t, ht, ?_⟩
            rcases hh with ⟨e1, e2⟩ | ⟨e1, e2⟩
            · exact ⟨e1 ▸ hho, e2 ▸ hto⟩
            · exact ⟨e2 ▸ hto, e1 ▸ hho⟩
        · rcases List.mem_append.mp he with he | he
          · obtain ⟨s, hs, a⟩ := hx0 e he
            refine ⟨s, hs, ?_⟩
            rcases a with a | a
            · exact .inl a
            · exact .inr ⟨a.1, by omega⟩
          · simp at he
            subst he
            exact ⟨t, ht, .inr ⟨hie, by omega⟩⟩
      · exact h.mono
  · rw [if_neg hc]
    exact h.mono
theorem zipIdx_at {S : List (Stk A)} {i : Nat} {t : Stk A} (h : S[i]? = some t) : S.zipIdx[i]? = some (t, i) := by
  rw [List.getElem?_zipIdx, h]
  simp
theorem visit_post {names : List A} {S : List (Stk A)} (hS : Ends names S) : ∀ (n : Nat) (here : A) (came : Int) (st : BSt A), Pre names S n here came st → Post names S here st (visitM S n here came st) := by
  intro n
  induction n with
  | zero =>
    intro here came st p
    have h1 : (st.order ++ [here]).length ≤ names.length := by
      refine nodup_len ?_ fun z hz => ?_
      · have := (enter_LI p).vi.ond
        exact this
      · rcases List.mem_append.mp hz with q | q
        · exact p.vi.osub z q
        · simp at q
          rw [q]; exact p.mem
    have := p.fuel
    rw [List.length_append] at h1
    simp at h1
    omega
  | succ n ih =>
    intro here came st p
    have : ∀ i, i ≤ S.length → LI names S here st i ((S.zipIdx.take i).foldl (visit1 (visitM S n) here came) (enterM here st)) := by
      intro i
      induction i with
      | zero => intro _; exact enter_LI p
      | succ i ihi =>
        intro hi
        have hg : S[i]? = some S[i] := List.getElem?_eq_getElem hi
        rw [List.take_add_one, zipIdx_at hg, List.foldl_append]
        exact step_LI hS p (ihi (by omega)) hg fun there j st' pr => ih there j st' pr
    have h := this S.length (Nat.le_refl _)
    rw [List.take_of_length_le (by rw [List.length_zipIdx]; exact Nat.le_refl _)] at h
    exact h.post p
/-! ### the whole search -/
theorem VI.weak {names : List A} {S : List (Stk A)} {oo oo' : List A} {st : BSt A} (h : VI names S oo st) (hs : ∀ z ∈ oo, z ∈ oo') : VI names S oo' st :=
  ⟨h.ond, h.osub, h.low, h.snd, fun i hi => let ⟨s, a, b, c⟩ := h.sin i hi; ⟨s, a, hs _ b, hs _ c⟩, h.fin, h.fl⟩
theorem root_pre {names : List A} {S : List (Stk A)} {x : A} {st : BSt A} (h : VI names S st.order st) (hx : x ∈ names) (hn : x ∉ st.order) : Pre names S names.length x (-1) st := by
  refine ⟨h.weak fun z hz => List.mem_append_left _ hz, hn, hx, fun e he => .inr fun s hs => ?_, Nat.le_add_right _ _⟩
  obtain ⟨s', a, b, c⟩ := h.sin e he
  rw [hs] at a
  cases a
  exact ⟨b, c⟩
theorem bstep_vi {names : List A} {S : List (Stk A)} {x : A} {st : BSt A} (hS : Ends names S) (h : VI names S st.order st) (hx : x ∈ names) : VI names S (blocksStep names S st x).order (blocksStep names S st x) := by
  unfold blocksStep
  split
  · exact h
  · rename_i hn
    exact (visit_post hS _ _ _ _ (root_pre h hx hn)).vi
theorem init_vi {names : List A} {S : List (Stk A)} : VI names S (initB : BSt A).order initB :=
  ⟨List.nodup_nil, fun z hz => by simp [initB] at hz, fun z => by simp [initB], List.nodup_nil, fun i hi => by simp [initB] at hi, fun b hb => by simp [initB] at hb, Nat.le_refl _⟩
theorem search_vi {names : List A} {S : List (Stk A)} (hS : Ends names S) : ∀ (l : List A) (st : BSt A), (∀ x ∈ l, x ∈ names) → VI names S st.order st → VI names S (l.foldl (blocksStep names S) st).order (l.foldl (blocksStep names S) st)
  | [], _, _, h => h
  | x :: l, st, hl, h => search_vi hS l _ (fun y hy => hl y (List.mem_cons_of_mem _ hy)) (bstep_vi hS h (hl x List.mem_cons_self))
theorem blocks_blk {names : List A} {S : List (Stk A)} (hS : Ends names S) : ∀ b ∈ blocksM names S, Blk S b := fun b hb =>
  (search_vi hS names initB (fun _ h => h) init_vi).fin b ((List.mergeSort_perm _ _).mem_iff.mp hb)
end
end FB
end
section
set_option autoImplicit false
set_option linter.all false
namespace FB
section
variable {A : Type} [DecidableEq A]
/-! ### what scaling the counts does -/
def sS (k : Int) (t : Stk A) : Stk A := (t.1, t.2.1, t.2.2 * k)
def sT (k : Int) (t : A × Int) : A × Int := (t.1, t.2 * k)
def sE (k : Int) (e : A × List (A × Int)) : A × List (A × Int) := (e.1, e.2.map (sT k))
def sW (k : Int) (f : Wk A) : Wk A := f.map (sE k)
def sL (k : Int) (lv : Lv A) : Lv A := lv.map (sT k)
def sR (k : Int) (r : List Int) : List Int := r.map (· * k)
variable {k : Int}
theorem tie_s (fresh : A) (placed : List A) (t : Stk A) : tieOne fresh placed (sS k t) = (tieOne fresh placed t).map (sT k) := by
  unfold tieOne sS sT
  dsimp only
  split
  · rfl
  · split <;> rfl
theorem ties_s (fresh : A) (placed : List A) (S : List (Stk A)) : tiesM fresh placed (S.map (sS k)) = (tiesM fresh placed S).map (sT k) := by
  unfold tiesM
  rw [List.filterMap_map, List.map_filterMap]
  congr 1
  funext t
  exact tie_s fresh placed t
theorem keys_s (f : Wk A) : (sW k f).map (·.1) = f.map (·.1) := by
  unfold sW
  rw [List.map_map]; rfl
theorem step_s (S : List (Stk A)) (f : Wk A) (b : Bool) (t : Stk A) : stepM (S.map (sS k)) (sW k f, b) (sS k t) = (sW k (stepM S (f, b) t).1, (stepM S (f, b) t).2) := by
  unfold stepM
  dsimp only
  rw [keys_s]
  show (if decide (t.1 ∈ f.map (·.1)) = decide (t.2.1 ∈ f.map (·.1)) then (sW k f, b) else _) = _
  split
  · rfl
  · rw [ties_s]
    show (sW k f ++ [_], true) = (sW k (f ++ [_]), true)
    unfold sW
    rw [List.map_append]; rfl
theorem passf_s (S : List (Stk A)) : ∀ (l : List (Stk A)) (f : Wk A) (b : Bool), (l.map (sS k)).foldl (stepM (S.map (sS k))) (sW k f, b) = (sW k (l.foldl (stepM S) (f, b)).1, (l.foldl (stepM S) (f, b)).2)
  | [], _, _ => rfl
  | t :: l, f, b => by
    rw [List.map_cons, List.foldl_cons, step_s, List.foldl_cons]
    have := passf_s S l (stepM S (f, b) t).1 (stepM S (f, b) t).2
    exact this
theorem pass_s (S : List (Stk A)) (f : Wk A) : passM (S.map (sS k)) (sW k f) = (sW k (passM S f).1, (passM S f).2) := passf_s S S f false
theorem grow_s (S : List (Stk A)) : ∀ (n : Nat) (f : Wk A), growM (S.map (sS k)) n (sW k f) = sW k (growM S n f)
  | 0, _ => rfl
  | n + 1, f => by
    unfold growM
    rw [pass_s]
    dsimp only
    split
    · exact grow_s S n _
    · rfl
theorem ostep_s (names : List A) (S : List (Stk A)) (f : Wk A) (x : A) : orderStep names (S.map (sS k)) (sW k f) x = sW k (orderStep names S f x) := by
  unfold orderStep
  rw [keys_s]
  split
  · rfl
  · rw [← grow_s]
    congr 1
    unfold sW
    rw [List.map_append]; rfl
theorem ofold_s (names : List A) (S : List (Stk A)) : ∀ (l : List A) (f : Wk A), l.foldl (orderStep names (S.map (sS k))) (sW k f) = sW k (l.foldl (orderStep names S) f)
  | [], _ => rfl
  | x :: l, f => by rw [List.foldl_cons, List.foldl_cons, ostep_s, ofold_s names S l]
theorem order_s (names : List A) (S : List (Stk A)) : orderM names (S.map (sS k)) = sW k (orderM names S) := ofold_s names S names []
theorem getL_s (lv : Lv A) (x : A) : getL (sL k lv) x = getL lv x * k := by
  unfold getL sL
  rw [List.find?_map]
  show ((((lv.find? ((fun p : A × Int => decide (p.1 = x)) ∘ sT k)).map (sT k)).map (·.2)).getD 0) = _
  have e : ((fun p : A × Int => decide (p.1 = x)) ∘ sT k) = fun p => decide (p.1 = x) := rfl
  rw [e]
  cases lv.find? fun p => decide (p.1 = x) with
  | none => simp
  | some q => rfl
theorem putL_s (lv : Lv A) (x : A) (v : Int) : putL (sL k lv) x (v * k) = sL k (putL lv x v) := by
  unfold putL
  have e : (sL k lv).any (fun p => decide (p.1 = x)) = lv.any (fun p => decide (p.1 = x)) := by
    unfold sL
    rw [List.any_map]; rfl
  rw [e]
  split
  · unfold sL
    rw [List.map_map, List.map_map]
    apply List.map_congr_left
    intro q _
    show (if q.1 = x then (q.1, v * k) else (q.1, q.2 * k)) = sT k (if q.1 = x then (q.1, v) else q)
    split <;> rfl
  · unfold sL
    rw [List.map_append]; rfl
theorem marks_s (hk : 0 < k) (c : Int) : marksM (c * k) = (marksM c).map (· * k) := by
  unfold marksM
  by_cases h : c = 0
  · rw [h, Int.zero_mul, if_pos rfl]
    simp
  · rw [if_neg h, if_neg fun q => (Int.mul_eq_zero.mp q).elim h (by omega)]
    simp [Int.neg_mul]
theorem abs_s (hk : 0 < k) (a : Int) : absI (a * k) = absI a * k := by
  unfold absI
  by_cases h : a < 0
  · rw [if_pos h, if_pos (Int.mul_neg_of_neg_of_pos h hk), Int.neg_mul]
  · rw [if_neg h, if_neg (Int.not_lt.mpr (Int.mul_nonneg (Int.not_lt.mp h) (Int.le_of_lt hk)))]
theorem ok_s (hk : 0 < k) (tied : List (A × Int)) (lv : Lv A) (p : Int) : okM (tied.map (sT k)) (sL k lv) (p * k) = okM tied lv p := by
  unfold okM
  rw [List.all_map]
  congr 1
  funext t
  show decide (absI (p * k - getL (sL k lv) t.1) = t.2 * k) = decide (absI (p - getL lv t.1) = t.2)
  rw [getL_s, ← Int.sub_mul, abs_s hk]
  exact decide_eq_decide.mpr ⟨fun h => Int.eq_of_mul_eq_mul_right (by omega) h, fun h => by rw [h]⟩
theorem choices_s (hk : 0 < k) (tied : List (A × Int)) (lv : Lv A) : choicesM (tied.map (sT k)) (sL k lv) = (choicesM tied lv).map (· * k) := by
  cases tied with
  | nil => rfl
  | cons t r =>
    obtain ⟨f, c⟩ := t
    show ((marksM (c * k)).map fun m => getL (sL k lv) f + m).filter (okM (((f, c) :: r).map (sT k)) (sL k lv)) = (((marksM c).map fun m => getL lv f + m).filter (okM ((f, c) :: r) lv)).map (· * k)
    rw [marks_s hk, List.map_map, getL_s]
    have e : ((fun m => getL lv f * k + m) ∘ (· * k)) = ((· * k) ∘ fun m => getL lv f + m) := by
      funext m
      show getL lv f * k + m * k = (getL lv f + m) * k
      rw [Int.add_mul]
    rw [e, ← List.map_map, List.filter_map]
    congr 2
    funext p
    exact ok_s hk ((f, c) :: r) lv p
theorem levels_s (hk : 0 < k) : ∀ (wk : Wk A) (lv : Lv A), levelsM (sW k wk) (sL k lv) = (levelsM wk lv).map (sL k)
  | [], _ => rfl
  | (x, []) :: r, lv => by
    show levelsM (sW k r) (putL (sL k lv) x 0) = (levelsM r (putL lv x 0)).map (sL k)
    have h := putL_s (k := k) lv x 0
    rw [Int.zero_mul] at h
    rw [h, levels_s hk r]
  | (x, t :: ts) :: r, lv => by
    show ((choicesM ((t :: ts).map (sT k)) (sL k lv)).flatMap fun p => levelsM (sW k r) (putL (sL k lv) x p)) = ((choicesM (t :: ts) lv).flatMap fun p => levelsM r (putL lv x p)).map (sL k)
    rw [choices_s hk, List.flatMap_map, List.map_flatMap]
    congr 1
    funext p
    rw [putL_s, levels_s hk r]
theorem raw_s (hk : 0 < k) (names : List A) (S : List (Stk A)) : rawM names (S.map (sS k)) = (rawM names S).map (sR k) := by
  unfold rawM
  rw [order_s]
  have h := levels_s hk (orderM names S) ([] : Lv A)
  rw [show sL k ([] : Lv A) = [] from rfl] at h
  rw [h, List.map_map, List.map_map]
  apply List.map_congr_left
  intro lv _
  show names.map (getL (sL k lv)) = (names.map (getL lv)).map (· * k)
  rw [List.map_map]
  apply List.map_congr_left
  intro x _
  exact getL_s lv x
theorem lt_s (hk : 0 < k) : ∀ p q : List Int, sR k p < sR k q ↔ p < q
  | [], [] => by simp [sR]
  | [], _ :: _ => by simp [sR]
  | _ :: _, [] => by simp [sR]
  | a :: p, b :: q => by
    show (a * k :: sR k p) < (b * k :: sR k q) ↔ _
    rw [List.cons_lt_cons_iff, List.cons_lt_cons_iff, lt_s hk p q]
    have h1 : a * k < b * k ↔ a < b := ⟨fun h => Int.lt_of_mul_lt_mul_right h (Int.le_of_lt hk), fun h => Int.mul_lt_mul_of_pos_right h hk⟩
    have h2 : a * k = b * k ↔ a = b := ⟨fun h => Int.eq_of_mul_eq_mul_right (by omega) h, fun h => by rw [h]⟩
    rw [h1, h2]
theorem rowLe_s (hk : 0 < k) (p q : List Int) : rowLe (sR k p) (sR k q) = rowLe p q := by
  unfold rowLe
  refine decide_eq_decide.mpr ?_
  show ¬ (sR k q < sR k p) ↔ ¬ (q < p)
  rw [lt_s hk]
theorem fit_s (hk : 0 < k) (names : List A) (S : List (Stk A)) : fitM names (S.map (sS k)) = (fitM names S).map (sR k) := by
  unfold fitM
  rw [raw_s hk, List.map_mergeSort (r := rowLe) (s := rowLe) (f := sR k) (fun a _ b _ => (rowLe_s hk a b).symm)]
theorem sR_inj (hk : 0 < k) : ∀ {p q : List Int}, sR k p = sR k q → p = q
  | [], [], _ => rfl
  | [], _ :: _, h => by simp [sR] at h
  | _ :: _, [], h => by simp [sR] at h
  | a :: p, b :: q, h => by
    have h : a * k :: sR k p = b * k :: sR k q := h
    rw [List.cons.injEq] at h
    rw [Int.eq_of_mul_eq_mul_right (by omega) h.1, sR_inj hk h.2]
theorem shapes_s (hk : 0 < k) : ∀ (rs seen : List (List Int)), shapesM (seen.map (sR k)) (rs.map (sR k)) = shapesM seen rs
  | [], _ => rfl
  | r :: rs, seen => by
    show (if (sR k r).map (fun x => -x) ∈ seen.map (sR k) then 0 else 1) + shapesM (seen.map (sR k) ++ [sR k r]) (rs.map (sR k)) = (if r.map (fun x => -x) ∈ seen then 0 else 1) + shapesM (seen ++ [r]) rs
    have e : (sR k r).map (fun x => -x) = sR k (r.map fun x => -x) := by
      unfold sR
      rw [List.map_map, List.map_map]
      apply List.map_congr_left
      intro x _
      show -(x * k) = -x * k
      rw [Int.neg_mul]
    have e2 : seen.map (sR k) ++ [sR k r] = (seen ++ [r]).map (sR k) := by rw [List.map_append]; rfl
    rw [e, e2, shapes_s hk rs]
    congr 1
    have : sR k (r.map fun x => -x) ∈ seen.map (sR k) ↔ (r.map fun x => -x) ∈ seen := by
      rw [List.mem_map]
      exact ⟨fun ⟨a, ha, h⟩ => sR_inj hk h ▸ ha, fun h => ⟨_, h, rfl⟩⟩
    simp only [this]
theorem reachs_s (S : List (Stk A)) (here : A) (f : List A) : reachStep (S.map (sS k)) here f = reachStep S here f := by
  unfold reachStep
  rw [List.foldl_map]; rfl
theorem reachM_s (S : List (Stk A)) : ∀ (n i : Nat) (f : List A), reachM (S.map (sS k)) n i f = reachM S n i f
  | 0, _, _ => rfl
  | n + 1, i, f => by
    unfold reachM
    split
    · rfl
    · rw [reachs_s, reachM_s S n]
theorem pieces_s (names : List A) (S : List (Stk A)) : piecesM names (S.map (sS k)) = piecesM names S := by
  unfold piecesM
  congr 2
  funext st x
  unfold pieceStep reachF
  rw [reachM_s]
theorem one_s (hk : 0 < k) (l : List Int) : oneM (l.map (· * k)) = (oneM l).map (· * k) := by
  cases l with
  | nil => rfl
  | cons x xs =>
    show (if ∀ y ∈ xs.map (· * k), y = x * k then some (x * k) else none) = (if ∀ y ∈ xs, y = x then some x else none).map (· * k)
    have e : (∀ y ∈ xs.map (· * k), y = x * k) ↔ ∀ y ∈ xs, y = x := by
      refine ⟨fun h y hy => Int.eq_of_mul_eq_mul_right (by omega) (h (y * k) (List.mem_map.mpr ⟨y, hy, rfl⟩)), fun h y hy => ?_⟩
      obtain ⟨z, hz, rfl⟩ := List.mem_map.mp hy
      show z * k = x * k
      rw [h z hz]
    by_cases h : ∀ y ∈ xs, y = x
    · rw [if_pos h, if_pos (e.mpr h)]; rfl
    · rw [if_neg h, if_neg fun q => h (e.mp q)]; rfl
theorem rowAt_s (names : List A) (r : List Int) (x : A) : rowAt names (sR k r) x = rowAt names r x * k := by
  unfold rowAt
  rw [← getL_s]
  congr 1
  unfold sR sL
  rw [List.zip_map_right]; rfl
theorem beat_s (hk : 0 < k) (names : List A) (r : List Int) (a b : A) : beatM names (sR k r) a b = beatM names r a b * k := by
  unfold beatM
  rw [rowAt_s, rowAt_s, ← Int.sub_mul, abs_s hk]
theorem sure_s (hk : 0 < k) (names : List A) (rows : List (List Int)) (ps : List (A × A)) : sureM names (rows.map (sR k)) ps = (sureM names rows ps).map (sS k) := by
  unfold sureM
  rw [List.map_filterMap]
  congr 1
  funext p
  have e : ((rows.map (sR k)).map fun r => beatM names r p.1 p.2) = (rows.map fun r => beatM names r p.1 p.2).map (· * k) := by
    rw [List.map_map, List.map_map]
    apply List.map_congr_left
    intro r _
    exact beat_s hk names r p.1 p.2
  rw [e, one_s hk]
  split
  · cases oneM (rows.map fun r => beatM names r p.1 p.2) <;> rfl
  · rfl
theorem visit_s (S : List (Stk A)) : ∀ (n : Nat) (here : A) (came : Int) (st : BSt A), visitM (S.map (sS k)) n here came st = visitM S n here came st
  | 0, _, _, _ => rfl
  | n + 1, here, came, st => by
    unfold visitM
    have e : (visitM (S.map (sS k)) n) = visitM S n := by
      funext a b c
      exact visit_s S n a b c
    rw [e, List.zipIdx_map, List.foldl_map]
    rfl
theorem blocks_s (names : List A) (S : List (Stk A)) : blocksM names (S.map (sS k)) = blocksM names S := by
  unfold blocksM searchM
  congr 2
  congr 1
  funext st x
  unfold blocksStep
  rw [visit_s]
theorem pick_s (S : List (Stk A)) (b : List Int) : pickM (S.map (sS k)) b = (pickM S b).map (sS k) := by
  unfold pickM
  rw [List.map_filterMap]
  congr 1
  funext i
  rw [List.getElem?_map]
theorem bforks_s (S : List (Stk A)) (b : List Int) : bforksM (S.map (sS k)) b = bforksM S b := by
  unfold bforksM
  rw [pick_s, List.foldl_map]; rfl
theorem bcounts_s (hk : 0 < k) (names : List A) (S : List (Stk A)) : bcountsM names (S.map (sS k)) = bcountsM names S := by
  unfold bcountsM
  rw [blocks_s]
  apply List.map_congr_left
  intro b _
  unfold partN
  rw [bforks_s, pick_s, fit_s hk, List.length_map]
end
end FB
end
section
set_option Elab.async false
set_option linter.all false
set_option maxRecDepth 100000
set_option maxHeartbeats 1000000
/-! ### generators that sleep through a loop's body -/
namespace FBG
open PySem
open Sem (wp)

/-- a sleeping generator that can't be woken -/
def poi : GenState -> GenState
  | .suspended _ l c p fs cl => .suspended (fun _ => .unsupported "asleep") l c p fs cl
  | x => x
theorem poi_seen (x : GenState) : (poi x).seen = x.seen := by cases x <;> rfl
theorem poi_bare (x : GenState) : (poi x).bare = x.bare := by cases x <;> rfl
def Lone (x : GenState) : Prop := match x with
  | .suspended _ _ _ _ fs _ => splitAtGen fs = none
  | _ => True
/-- what stands at i in both states -/
def At2 (d x y : Option GenState) : Prop := match d with
  | some z => x = some z ∧ y = some (poi z)
  | none => y = x ∧ ∀ z, x = some z → Lone z
structure Sh (D : Nat -> Option GenState) (s t : Shared) : Prop where
  heap : t.heap = s.heap
  drawn : t.drawn = s.drawn
  toks : t.toks = s.toks
  os : t.os = s.os
  size : t.gens.size = s.gens.size
  less : ∀ i, s.gens.size ≤ i → D i = none
  at2 : ∀ i : Nat, At2 (D i) s.gens[i]? t.gens[i]?
def LoneE (e : End) : Prop := match e with
  | .susp _ _ _ _ _ _ fs => splitAtGen fs = none
  | _ => True
theorem lone_of {e : End} (h : LoneE e) : Lone e.genState := by
  cases e with
  | ret r => exact True.intro
  | susp v g l k c p fs => exact h
theorem no_unsup {M : Model} {G : Ctx} {p : Pos} {q : String} {fs : List Frame} {s t : Shared} {e : End} (h : Runs M G p (.unsupported q) fs s e t) : False := by
  cases fs with
  | nil => cases h
  | cons F r =>
    cases h with
    | segRet h1 _ => cases h1
    | segGen h1 _ => cases h1
    | segSuspOut _ h1 => cases h1
    | segSuspGen _ h1 _ _ => cases h1
section
variable {D : Nat -> Option GenState} {s t : Shared}
theorem Sh.put (x : Sh D s t) {h : Heap} {d : Drawn} {k : Nat} {o : OsState} : Sh D { s with heap := h, drawn := d, toks := k, os := o } { t with heap := h, drawn := d, toks := k, os := o } := ⟨rfl, rfl, rfl, rfl, x.size, x.less, x.at2⟩
theorem Sh.set (x : Sh D s t) {g : Nat} {z : GenState} (hg : D g = none) (hz : Lone z) : Sh D (s.setGen g z) (t.setGen g z) := by
  refine ⟨x.heap, x.drawn, x.toks, x.os, ?_, ?_, fun i => ?_⟩
  · show (t.gens.setIfInBounds g z).size = (s.gens.setIfInBounds g z).size
    rw [Array.size_setIfInBounds, Array.size_setIfInBounds]
    exact x.size
  · intro i hi
    have hi' : (s.gens.setIfInBounds g z).size ≤ i := hi
    rw [Array.size_setIfInBounds] at hi'
    exact x.less i hi'
  · show At2 (D i) (s.gens.setIfInBounds g z)[i]? (t.gens.setIfInBounds g z)[i]?
    by_cases e : g = i
    · subst e
      rw [hg]
      have q := x.size
      by_cases hlt : g < s.gens.size
      · have h1 : (s.gens.setIfInBounds g z)[g]? = some z := by simp [hlt]
        have h2 : (t.gens.setIfInBounds g z)[g]? = some z := by simp [q, hlt]
        rw [h1, h2]
        exact ⟨rfl, fun y hy => by cases hy; exact hz⟩
      · have h1 : (s.gens.setIfInBounds g z)[g]? = none := by simp; omega
        have h2 : (t.gens.setIfInBounds g z)[g]? = none := by simp [q]; omega
        rw [h1, h2]
        exact ⟨rfl, fun y hy => by cases hy⟩
    · rw [Array.getElem?_setIfInBounds_ne e, Array.getElem?_setIfInBounds_ne e]
      exact x.at2 i
theorem Sh.push (x : Sh D s t) {c : Code} : Sh D { s with gens := s.gens.push (.fresh c) } { t with gens := t.gens.push (.fresh c) } := by
  refine ⟨x.heap, x.drawn, x.toks, x.os, ?_, fun i hi => ?_, fun i => ?_⟩
  · show (t.gens.push _).size = (s.gens.push _).size
    rw [Array.size_push, Array.size_push, x.size]
  · have hi' : (s.gens.push (GenState.fresh c)).size ≤ i := hi
    rw [Array.size_push] at hi'
    exact x.less i (by omega)
  · show At2 (D i) (s.gens.push _)[i]? (t.gens.push _)[i]?
    have q := x.at2 i
    rw [Array.getElem?_push, Array.getElem?_push, x.size]
    split
    · rename_i h
      rw [x.less i (by omega)]
      exact ⟨rfl, fun y hy => by cases hy; exact True.intro⟩
    · exact q
/-- a generator that may be looked at -/
theorem Sh.seen (x : Sh D s t) {g : Nat} {y : GenState} (h : t.gens[g]? = some y) : ∃ z, s.gens[g]? = some z ∧ z.seen = y.seen := by
  have q := x.at2 g
  cases e : D g with
  | none =>
    rw [e] at q
    exact ⟨y, q.1.symm.trans h, rfl⟩
  | some z =>
    rw [e] at q
    rw [q.2] at h
    cases h
    exact ⟨z, q.1, (poi_seen z).symm⟩
/-- what is no sleeper is the same in both -/
theorem Sh.same (x : Sh D s t) {g : Nat} {y : GenState} (h : t.gens[g]? = some y) (n : ∀ z, y ≠ poi z ∨ D g ≠ some z) : D g = none ∧ s.gens[g]? = some y ∧ Lone y := by
  have q := x.at2 g
  cases e : D g with
  | none =>
    rw [e] at q
    have h2 := q.1.symm.trans h
    exact ⟨rfl, h2, q.2 y h2⟩
  | some z =>
    rw [e] at q
    rw [q.2] at h
    cases h
    rcases n z with n | n
    · exact absurd rfl n
    · exact absurd e n
end
theorem split_app {a b : List Frame} (h1 : splitAtGen a = none) (h2 : splitAtGen b = none) : splitAtGen (a ++ b) = none := by
  induction a with
  | nil => exact h2
  | cons F r ih =>
    cases F with
    | gen g k l c p => cases h1
    | ret k h g l c p kp =>
      show (splitAtGen (r ++ b)).map _ = none
      have h3 : splitAtGen r = none := by
        have h4 : (splitAtGen r).map (fun x => (Frame.ret k h g l c p kp :: x.1, x.2.1, x.2.2)) = none := h1
        cases q : splitAtGen r with
        | none => rfl
        | some y =>
          rw [q] at h4
          cases h4
      rw [ih h3]
      rfl
theorem split_tail {k : Result → Sem PySem.Fin} {h : Option Value} {g : Bool} {l : List Value} {c : Code} {p : Pos} {kp : List Value} {fs : List Frame} (h1 : splitAtGen (.ret k h g l c p kp :: fs) = none) : splitAtGen fs = none := by
  have h4 : (splitAtGen fs).map (fun x => (Frame.ret k h g l c p kp :: x.1, x.2.1, x.2.2)) = none := h1
  cases q : splitAtGen fs with
  | none => rfl
  | some y =>
    rw [q] at h4
    cases h4

/-- THE SHIELD: a run beside sleepers that can't be woken is a run beside those that can -/
theorem runs_sh {M : Model} {D : Nat -> Option GenState} (hD : ∀ i x, D i = some x → x.status = .suspended) {G : Ctx} {p : Pos} {tr : Sem PySem.Fin} {fs : List Frame} {t t' : Shared} {e : End} (h : Runs M G p tr fs t e t') :
    splitAtGen fs = none → LoneE e ∧ ∀ s, Sh D s t → ∃ s', Sh D s' t' ∧ Runs M G p tr fs s e s' := by
  have nofresh : ∀ {g : Nat} {c : Code} (z : GenState), GenState.fresh c ≠ poi z ∨ D g ≠ some z := fun {g c} z => by
    by_cases q : D g = some z
    · refine .inl fun e => ?_
      have w := hD g z q
      cases z with
      | fresh _ => cases w
      | suspended _ _ _ _ _ _ => cases e
      | running => cases e
      | finished => cases e
    · exact .inr q
  have norun : ∀ {g : Nat} (z : GenState), GenState.running ≠ poi z ∨ D g ≠ some z := fun {g} z => by
    by_cases q : D g = some z
    · refine .inl fun e => ?_
      have w := hD g z q
      cases z <;> cases w
      cases e
    · exact .inr q
  have nofin : ∀ {g : Nat} (z : GenState), GenState.finished ≠ poi z ∨ D g ≠ some z := fun {g} z => by
    by_cases q : D g = some z
    · refine .inl fun e => ?_
      have w := hD g z q
      cases z <;> cases w
      cases e
    · exact .inr q
  induction h with
  | done => exact fun _ => ⟨True.intro, fun s x => ⟨s, x, .done⟩⟩
  | raise => exact fun _ => ⟨True.intro, fun s x => ⟨s, x, .raise⟩⟩
  | again q _ ih => exact fun hf => ⟨(ih hf).1, fun s x => let ⟨s', x', r⟩ := (ih hf).2 s x; ⟨s', x', .again q r⟩⟩
  | rule _ ih => exact fun hf => ⟨(ih hf).1, fun s x => let ⟨s', x', r⟩ := (ih hf).2 s x; ⟨s', x', .rule r⟩⟩
  | «at» _ ih => exact fun hf => ⟨(ih hf).1, fun s x => let ⟨s', x', r⟩ := (ih hf).2 s x; ⟨s', x', .at r⟩⟩
  | load q _ ih => exact fun hf => ⟨(ih hf).1, fun s x => let ⟨s', x', r⟩ := (ih hf).2 s x; ⟨s', x', .load (by rw [← x.heap]; exact q) r⟩⟩
  | update q _ ih =>
    refine fun hf => ⟨(ih hf).1, fun s x => ?_⟩
    obtain ⟨s', x', r⟩ := (ih hf).2 _ (x.put)
    have e1 := x.heap
    rw [x.drawn, x.toks, x.os, x.heap] at r
    exact ⟨s', x', .update (by rw [← e1]; exact q) r⟩
  | loadIfAlive _ ih => exact fun hf => ⟨(ih hf).1, fun s x => let ⟨s', x', r⟩ := (ih hf).2 s x; ⟨s', x', .loadIfAlive (by rw [← x.heap]; exact r)⟩⟩
  | point _ ih => exact fun hf => ⟨(ih hf).1, fun s x => let ⟨s', x', r⟩ := (ih hf).2 s x; ⟨s', x', .point r⟩⟩
  | alloc _ ih =>
    refine fun hf => ⟨(ih hf).1, fun s x => ?_⟩
    obtain ⟨s', x', r⟩ := (ih hf).2 _ (x.put)
    rw [x.drawn, x.toks, x.os, x.heap] at r
    exact ⟨s', x', .alloc r⟩
  | fresh _ ih =>
    refine fun hf => ⟨(ih hf).1, fun s x => ?_⟩
    obtain ⟨s', x', r⟩ := (ih hf).2 _ (x.put)
    rw [x.drawn, x.toks, x.os, x.heap] at r
    exact ⟨s', x', .fresh r⟩
  | ask _ ih => exact fun hf => ⟨(ih hf).1, fun s x => let ⟨s', x', r⟩ := (ih hf).2 s x; ⟨s', x', .ask r⟩⟩
  | choose q _ ih =>
    refine fun hf => ⟨(ih hf).1, fun s x => ?_⟩
    obtain ⟨s', x', r⟩ := (ih hf).2 _ (x.put)
    rw [x.drawn, x.toks, x.os, x.heap] at r
    exact ⟨s', x', .choose q r⟩
  | os _ ih =>
    refine fun hf => ⟨(ih hf).1, fun s x => ?_⟩
    obtain ⟨s', x', r⟩ := (ih hf).2 _ (x.put)
    rw [x.drawn, x.toks, x.os, x.heap] at r
    exact ⟨s', x', .os r⟩
  | handled _ ih => exact fun hf => ⟨(ih hf).1, fun s x => let ⟨s', x', r⟩ := (ih hf).2 s x; ⟨s', x', .handled r⟩⟩
  | genState q _ ih =>
    refine fun hf => ⟨(ih hf).1, fun s x => ?_⟩
    obtain ⟨z, hz, e⟩ := x.seen q
    obtain ⟨s', x', r⟩ := (ih hf).2 s x
    rw [← e] at r
    exact ⟨s', x', .genState hz r⟩
  | stack _ ih => exact fun hf => ⟨(ih hf).1, fun s x => let ⟨s', x', r⟩ := (ih hf).2 s x; ⟨s', x', .stack r⟩⟩
  | thread _ ih => exact fun hf => ⟨(ih hf).1, fun s x => let ⟨s', x', r⟩ := (ih hf).2 s x; ⟨s', x', .thread r⟩⟩
  | newGen _ ih =>
    refine fun hf => ⟨(ih hf).1, fun s x => ?_⟩
    obtain ⟨s', x', r⟩ := (ih hf).2 _ (x.push)
    rw [x.size] at r
    exact ⟨s', x', .newGen r⟩
  | call _ _ ih1 ih2 =>
    refine fun hf => ⟨(ih2 hf).1, fun s x => ?_⟩
    obtain ⟨s1, x1, r1⟩ := (ih1 rfl).2 s x
    obtain ⟨s2, x2, r2⟩ := (ih2 hf).2 s1 x1
    exact ⟨s2, x2, .call r1 r2⟩
  | callSusp _ ih =>
    refine fun hf => ⟨split_app (ih rfl).1 rfl, fun s x => ?_⟩
    obtain ⟨s1, x1, r1⟩ := (ih rfl).2 s x
    exact ⟨s1, x1, .callSusp r1⟩
  | yield => exact fun _ => ⟨rfl, fun s x => ⟨s, x, .yield⟩⟩
  | resumeFresh hg _ hq _ ih1 ih2 =>
    refine fun hf => ⟨(ih2 hf).1, fun s x => ?_⟩
    obtain ⟨a1, a2, _⟩ := x.same hg nofresh
    obtain ⟨le, f1⟩ := ih1 rfl
    obtain ⟨s1, x1, r1⟩ := f1 _ (x.set a1 True.intro)
    obtain ⟨s2, x2, r2⟩ := (ih2 hf).2 _ (x1.set a1 (lone_of le))
    exact ⟨s2, x2, .resumeFresh a2 r1 hq r2⟩
  | @resumeSuspended G1 p1 g1 r1' l1 k1 t1 k0 l0 c0 p0 fs0 cl e1 t2 e2 t3 hg hr hq _ ih1 ih2 =>
    refine fun hf => ⟨(ih2 hf).1, fun s x => ?_⟩
    cases hd : D g1 with
    | some z =>
      have q := x.at2 g1
      rw [hd] at q
      have w := hD g1 z hd
      cases z <;> cases w
      rw [hg] at q
      have q2 := Option.some.inj q.2
      cases q2
      exact (no_unsup hr).elim
    | none =>
      have q := x.at2 g1
      rw [hd] at q
      have h2 := q.1.symm.trans hg
      have lo : splitAtGen fs0 = none := q.2 _ h2
      obtain ⟨le, f1⟩ := ih1 lo
      obtain ⟨s1, x1, r1⟩ := f1 _ (x.set hd True.intro)
      obtain ⟨s2, x2, r2⟩ := (ih2 hf).2 _ (x1.set hd (lone_of le))
      exact ⟨s2, x2, .resumeSuspended h2 r1 hq r2⟩
  | resumeJustStarted hg hv _ ih =>
    refine fun hf => ⟨(ih hf).1, fun s x => ?_⟩
    obtain ⟨a1, a2, _⟩ := x.same hg nofresh
    obtain ⟨s', x', r⟩ := (ih hf).2 s x
    exact ⟨s', x', .resumeJustStarted a2 hv r⟩
  | resumeThrowFresh hg _ ih =>
    refine fun hf => ⟨(ih hf).1, fun s x => ?_⟩
    obtain ⟨a1, a2, _⟩ := x.same hg nofresh
    obtain ⟨s', x', r⟩ := (ih hf).2 _ (x.set a1 True.intro)
    exact ⟨s', x', .resumeThrowFresh a2 r⟩
  | resumeRunning hg _ ih =>
    refine fun hf => ⟨(ih hf).1, fun s x => ?_⟩
    obtain ⟨a1, a2, _⟩ := x.same hg norun
    obtain ⟨s', x', r⟩ := (ih hf).2 s x
    exact ⟨s', x', .resumeRunning a2 r⟩
  | resumeFinished hg _ ih =>
    refine fun hf => ⟨(ih hf).1, fun s x => ?_⟩
    obtain ⟨a1, a2, _⟩ := x.same hg nofin
    obtain ⟨s', x', r⟩ := (ih hf).2 s x
    exact ⟨s', x', .resumeFinished a2 r⟩
  | segRet _ _ ih1 ih2 =>
    refine fun hf => ⟨(ih2 (split_tail hf)).1, fun s x => ?_⟩
    obtain ⟨s1, x1, r1⟩ := (ih1 rfl).2 s x
    obtain ⟨s2, x2, r2⟩ := (ih2 (split_tail hf)).2 s1 x1
    exact ⟨s2, x2, .segRet r1 r2⟩
  | segGen _ _ _ _ => exact fun hf => nomatch hf
  | segSuspOut hs _ ih =>
    refine fun hf => ⟨split_app (ih rfl).1 hs, fun s x => ?_⟩
    obtain ⟨s1, x1, r1⟩ := (ih rfl).2 s x
    exact ⟨s1, x1, .segSuspOut hs r1⟩
  | segSuspGen hs _ _ _ _ _ => exact fun hf => absurd (hs.symm.trans hf) (fun z => nomatch z)
theorem returns_sh {M : Model} {D : Nat -> Option GenState} (hD : ∀ i x, D i = some x → x.status = .suspended) {G : Ctx} {p : Pos} {s t t' : Shared} {r : Result} (h : Returns M G p t r t') (x : Sh D s t) : ∃ s', Sh D s' t' ∧ Returns M G p s r s' := (runs_sh hD h rfl).2 s x
theorem wakes_sh {M : Model} {D : Nat -> Option GenState} (hD : ∀ i x, D i = some x → x.status = .suspended) {G : Ctx} {p : Pos} {g : Nat} {r : Resume} {s t t' : Shared} {res : GenResult} (h : Wakes M G p g r t res t') (x : Sh D s t) : ∃ s', Sh D s' t' ∧ Wakes M G p g r s res s' := by
  have q := x.at2 g
  unfold Wakes at h ⊢
  cases hd : D g with
  | some z =>
    rw [hd] at q
    have w := hD g z hd
    cases z <;> cases w
    rw [q.2] at h
    obtain ⟨e1, s1, hr, _⟩ := h
    exact (no_unsup hr).elim
  | none =>
    rw [hd] at q
    obtain ⟨q1, q2⟩ := q
    rw [q1] at h
    cases hg : s.gens[g]? with
    | none =>
      rw [hg] at h
      exact h.elim
    | some y =>
      rw [hg] at h q2
      cases y with
      | fresh c =>
        cases r with
        | throw e =>
          obtain ⟨h1, h2⟩ := h
          rw [h2]
          exact ⟨_, x.set hd True.intro, h1, rfl⟩
        | send v =>
          have go : ∀ (hh : ∃ e₁ s₁, Runs M (G.wake c p) p (M.den c) [] (t.setGen g .running) e₁ s₁ ∧ e₁.quiet = true ∧ res = e₁.result ∧ t' = s₁.setGen g e₁.genState), ∃ s', Sh D s' t' ∧ ∃ e₁ s₁, Runs M (G.wake c p) p (M.den c) [] (s.setGen g .running) e₁ s₁ ∧ e₁.quiet = true ∧ res = e₁.result ∧ s' = s₁.setGen g e₁.genState := by
            rintro ⟨e1, t1, hr, h2, h3, h4⟩
            obtain ⟨le, f⟩ := runs_sh hD hr rfl
            obtain ⟨s1, x1, r1⟩ := f _ (x.set hd True.intro)
            rw [h4]
            exact ⟨_, x1.set hd (lone_of le), e1, s1, r1, h2, h3, rfl⟩
          cases v <;> first
            | exact go h
            | (obtain ⟨h1, h2⟩ := h; rw [h2]; exact ⟨s, x, h1, rfl⟩)
      | suspended k0 l0 c0 p0 fs cl =>
        obtain ⟨e1, t1, hr, h2, h3, h4⟩ := h
        obtain ⟨le, f⟩ := runs_sh hD hr (q2 _ rfl)
        obtain ⟨s1, x1, r1⟩ := f _ (x.set hd True.intro)
        rw [h4]
        exact ⟨_, x1.set hd (lone_of le), e1, s1, r1, h2, h3, rfl⟩
      | running =>
        obtain ⟨h1, h2⟩ := h
        rw [h2]
        exact ⟨s, x, h1, rfl⟩
      | finished =>
        obtain ⟨h1, h2⟩ := h
        rw [h2]
        exact ⟨s, x, h1, rfl⟩
theorem wp_sh {A : Type} {M : Model} {D : Nat -> Option GenState} (hD : ∀ i x, D i = some x → x.status = .suspended) (G : Ctx) (tr : Sem A) : ∀ (Q : A → Pos → Shared → Prop) (E : Value → Pos → Shared → Prop) (p : Pos) (s t : Shared), Sh D s t → wp M G tr Q E p t →
    wp M G tr (fun a p' s' => ∃ t', Sh D s' t' ∧ Q a p' t') (fun e p' s' => ∃ t', Sh D s' t' ∧ E e p' t') p s := by
  induction tr with
  | pure a => exact fun Q E p s t x h => ⟨t, x, h⟩
  | raise e => exact fun Q E p s t x h => ⟨t, x, h⟩
  | unsupported _ => exact fun Q E p s t x h => h.elim
  | finish _ => exact fun Q E p s t x h => h.elim
  | rule _ k ih => exact fun Q E p s t x h => ih () Q E p s t x h
  | «at» p' k ih => exact fun Q E p s t x h => ih () Q E p' s t x h
  | load a _ k ih => exact fun Q E p s t x h => let ⟨o, ho, h⟩ := h; ⟨o, by rw [← x.heap]; exact ho, ih o Q E p s t x h⟩
  | update a _ f k ih =>
    intro Q E p s t x h
    have r := ih () Q E p _ _ x.put h.2
    rw [x.heap, x.drawn, x.toks, x.os] at r
    exact ⟨by rw [← x.heap]; exact h.1, r⟩
  | loadIfAlive a k ih =>
    intro Q E p s t x h
    have r := ih _ Q E p s t x h
    rw [x.heap] at r
    exact r
  | point _ k ih => exact fun Q E p s t x h => ih () Q E p s t x h
  | register _ _ => exact fun Q E p s t x h => h.elim
  | alloc o k ih =>
    intro Q E p s t x h
    have r := ih _ Q E p _ _ x.put h
    rw [x.heap, x.drawn, x.toks, x.os] at r
    exact r
  | fresh k ih =>
    intro Q E p s t x h
    have r := ih _ Q E p _ _ x.put h
    rw [x.heap, x.drawn, x.toks, x.os] at r
    exact r
  | ask k ih => exact fun Q E p s t x h => ih _ Q E p s t x h
  | choose src m k ih =>
    intro Q E p s t x h
    have r := ih _ Q E p _ _ x.put h.2
    rw [x.heap, x.drawn, x.toks, x.os] at r
    exact ⟨h.1, r⟩
  | os q _ k ih =>
    intro Q E p s t x h
    have r := ih _ Q E p _ _ x.put h
    rw [x.heap, x.drawn, x.toks, x.os] at r
    exact r
  | call c hd _ _ k ih =>
    intro Q E p s t x h
    obtain ⟨r, t1, hr, h⟩ := h
    obtain ⟨s1, x1, r1⟩ := returns_sh hD hr x
    exact ⟨r, s1, r1, ih r Q E p s1 t1 x1 h⟩
  | handled own k ih => exact fun Q E p s t x h => ih _ Q E p s t x h
  | genState g k ih =>
    intro Q E p s t x h
    obtain ⟨st, hs, h⟩ := h
    obtain ⟨z, hz, e⟩ := x.seen hs
    have r := ih _ Q E p s t x h
    rw [← e] at r
    exact ⟨z, hz, r⟩
  | newGen c k ih =>
    intro Q E p s t x h
    have r := ih _ Q E p _ _ (x.push (c := c)) h
    rw [x.size] at r
    exact r
  | resume g r _ k ih =>
    intro Q E p s t x h
    obtain ⟨res, t1, hw, h⟩ := h
    obtain ⟨s1, x1, r1⟩ := wakes_sh hD hw x
    exact ⟨res, s1, r1, ih res Q E p s1 t1 x1 h⟩
  | yield _ _ _ _ => exact fun Q E p s t x h => h.elim
  | stack k ih => exact fun Q E p s t x h => ih _ Q E p s t x h
  | fork _ _ => exact fun Q E p s t x h => h.elim
  | thread k ih => exact fun Q E p s t x h => ih _ Q E p s t x h
  | await _ _ _ _ _ => exact fun Q E p s t x h => h.elim
/-! ### all that sleep in a state -/
def sleepers (s : Shared) : Nat -> Option GenState := fun i => match s.gens[i]? with
  | some (.suspended k l c p fs cl) => some (.suspended k l c p fs cl)
  | _ => none
theorem sleepers_susp (s : Shared) : ∀ i x, sleepers s i = some x → x.status = .suspended := by
  intro i x h
  unfold sleepers at h
  split at h
  · cases h
    rfl
  · cases h
def lulled (s : Shared) : Shared := { s with gens := s.gens.map poi }
theorem sh_lulled (s : Shared) : Sh (sleepers s) s (lulled s) := by
  refine ⟨rfl, rfl, rfl, rfl, ?_, fun i hi => ?_, fun i => ?_⟩
  · show (s.gens.map poi).size = _
    simp
  · unfold sleepers
    have e : s.gens[i]? = none := by simp; omega
    rw [e]
  · show At2 (sleepers s i) s.gens[i]? (s.gens.map poi)[i]?
    have e : (s.gens.map poi)[i]? = s.gens[i]?.map poi := by simp
    rw [e]
    unfold sleepers
    cases q : s.gens[i]? with
    | none => exact ⟨rfl, fun z h => by cases h⟩
    | some y =>
      cases y with
      | suspended k l c p fs cl => exact ⟨rfl, rfl⟩
      | fresh c => exact ⟨rfl, fun z h => by cases h; exact True.intro⟩
      | running => exact ⟨rfl, fun z h => by cases h; exact True.intro⟩
      | finished => exact ⟨rfl, fun z h => by cases h; exact True.intro⟩
open PyProof.Rows in
theorem bare_lulled {s : Shared} (h : AllBare s.gens) : AllBare (lulled s).gens := by
  intro y hy
  obtain ⟨z, hz, e⟩ := Array.mem_map.mp hy
  rw [← e, poi_bare]
  exact h z hz
open PyProof.Rows in
theorem bare_back {D : Nat -> Option GenState} {s t : Shared} (x : Sh D s t) (h : AllBare t.gens) : AllBare s.gens := by
  intro y hy
  obtain ⟨i, hi, e⟩ := Array.mem_iff_getElem.mp hy
  have e2 : s.gens[i]? = some y := by rw [Array.getElem?_eq_getElem hi, e]
  have q := x.at2 i
  cases hd : D i with
  | none =>
    rw [hd] at q
    exact h y (Array.mem_of_getElem? (q.1.trans e2))
  | some z =>
    rw [hd] at q
    have ez : y = z := Option.some.inj (e2.symm.trans q.1)
    have r := h _ (Array.mem_of_getElem? q.2)
    rw [poi_bare] at r
    rw [ez]
    exact r
/-- what sleeps, sleeps on -/
theorem wpAny_sh {B : Type} {M : Model} {A : Around} {tr : Sem B} {Q : B → Shared → Prop} {E : Value → Shared → Prop} {s : Shared} (h : wpAny M A tr Q E (lulled s)) :
    wpAny M A tr (fun a s' => ∃ t', Sh (sleepers s) s' t' ∧ Q a t') (fun e s' => ∃ t', Sh (sleepers s) s' t' ∧ E e t') s :=
  fun G p hG => wp_sh (sleepers_susp s) G tr _ _ p s (lulled s) (sh_lulled s) (h G p hG)
end FBG
end
section
set_option Elab.async false
set_option linter.all false
set_option maxRecDepth 100000
set_option maxHeartbeats 1000000
/-! ### one stretch of a generator's run, told by its end -/
namespace FBG
open PySem PySem.Spec PyProof.Rows L2
open Sem (wp)

def Sg (M : Model) (A : Around) (F : End → Shared → Prop) (c : Code) (t : Sem PySem.Fin) (fs : List Frame) (s : Shared) : Prop :=
  ∀ (G : PySem.Ctx) (p : Pos), G.code = c → G.Woken A → ∃ e s', Runs M G p t fs s e s' ∧ F e s'
section
variable {M : Model} {A : Around} {F : End → Shared → Prop} {c : Code} {fs : List Frame} {s : Shared}
theorem sg_wrap {B : Type} {m : Sem B} {K : B → Sem PySem.Fin} {J : Value → Sem PySem.Fin} {gd : Bool → Bool} {lv : List Value → List Value}
    (h : wpAny M (A.over c fs) m (fun a s' => Sg M A F c (K a) fs s') (fun x s' => Sg M A F c (J x) fs s') s) : Sg M A F c (m.wrap K J gd lv) fs s := by
  rintro G p rfl hG
  exact runs_wrap_of_wp K J gd lv m (h (G.over fs) p (hG.over fs)) (fun a p' s' q => q G p' rfl hG) fun x p' s' q => q G p' rfl hG
theorem sg_bind {B : Type} {m : Sem B} {K : B → Sem PySem.Fin} (h : wpAny M (A.over c fs) m (fun a s' => Sg M A F c (K a) fs s') (fun x s' => Sg M A F c (.raise x) fs s') s) : Sg M A F c (m >>= K) fs s := by
  rw [Sem.bind_eq_wrap']
  exact sg_wrap h
theorem sg_at {p' : Pos} {k : Unit → Sem PySem.Fin} (h : Sg M A F c (k ()) fs s) : Sg M A F c (.at p' k) fs s :=
  sg_wrap (m := standAt p') (K := k) (J := .raise) (gd := id) (lv := id) (wpAny_standAt h)
theorem sg_point {l : List Value} {k : Unit → Sem PySem.Fin} (h : Sg M A F c (k ()) fs s) : Sg M A F c (.point l k) fs s :=
  sg_wrap (m := point) (K := k) (J := .raise) (gd := id) (lv := fun _ => l) (wpAny_point h)
theorem sg_call {c' : Code} {h : Option Value} {g : Bool} {l : List Value} {k : Result → Sem PySem.Fin} (q : ∀ p, Sg M A F c' (M.den c') (.ret k h g l c p [] :: fs) s) : Sg M A F c (.call c' h g l k) fs s := by
  rintro G p rfl hG
  obtain ⟨e, s', r, f⟩ := q p (G.goto c') p rfl (hG.goto c')
  exact ⟨e, s', runs_call_seg r, f⟩
theorem sg_leaf {h : Option Value} {g : Bool} {l kp : List Value} {c1 : Code} {p1 : Pos} {k : Result → Sem PySem.Fin} (r : Result) (q : Sg M A F c1 (k r) fs s) : Sg M A F c (leafOf r) (.ret k h g l c1 p1 kp :: fs) s := by
  rintro G p rfl hG
  obtain ⟨e, s', z, f⟩ := q (G.goto c1) p1 rfl (hG.goto c1)
  exact ⟨e, s', Runs.pop r z, f⟩
theorem sg_again {c' : Code} (hq : c'.quiet = true) (q : Sg M A F c' (M.den c') fs s) : Sg M A F c (.pure (.again c')) fs s := by
  rintro G p rfl hG
  obtain ⟨e, s', r, f⟩ := q (G.goto c') p rfl (hG.goto c')
  exact ⟨e, s', Runs.head (c₁ := c') (fun _ _ x => .again hq x) r, f⟩
theorem sg_end (r : Result) (h : F (.ret r) s) : Sg M A F c (leafOf r) [] s := by
  rintro G p rfl _
  exact ⟨.ret r, s, Runs.leaf r, h⟩
theorem sg_yield {v : Value} {g : Bool} {l : List Value} {k : Resume → Sem PySem.Fin} (hfs : splitAtGen fs = none) (h : ∀ p, F (.susp v g l k c p fs) s) : Sg M A F c (.yield v g l k) fs s := by
  rintro G p rfl _
  exact ⟨_, s, Runs.yield' fs hfs, h p⟩
theorem sg_mono {F' : End → Shared → Prop} {t : Sem PySem.Fin} (h : Sg M A F c t fs s) (k : ∀ e s', F e s' → F' e s') : Sg M A F' c t fs s := fun G p e hG =>
  let ⟨x, s', r, f⟩ := h G p e hG
  ⟨x, s', r, k x s' f⟩
theorem sg_bind2 {B C D : Type} {m : Sem B} {f : B → Sem C} {f2 : C → Sem D} {K : D → Sem PySem.Fin} {J : Value → Sem PySem.Fin} {gd : Bool → Bool} {lv : List Value → List Value}
    (h : wpAny M (A.over c fs) m (fun a s' => Sg M A F c ((f a).wrap (fun b => (f2 b).wrap K J gd lv) J gd lv) fs s') (fun x s' => Sg M A F c (J x) fs s') s) : Sg M A F c (((m >>= f) >>= f2).wrap K J gd lv) fs s := by
  rw [Sem.bind_eq_wrap' (m >>= f) f2, Sem.wrap_wrap, Sem.bind_eq_wrap', Sem.wrap_wrap]
  exact sg_wrap h
theorem sg_bind1 {B C : Type} {m : Sem B} {f : B → Sem C} {K : C → Sem PySem.Fin} {J : Value → Sem PySem.Fin} {gd : Bool → Bool} {lv : List Value → List Value}
    (h : wpAny M (A.over c fs) m (fun a s' => Sg M A F c ((f a).wrap K J gd lv) fs s') (fun x s' => Sg M A F c (J x) fs s') s) : Sg M A F c ((m >>= f).wrap K J gd lv) fs s := by
  rw [Sem.bind_eq_wrap', Sem.wrap_wrap]
  exact sg_wrap h
/-- a generator is woken -/
theorem wpAny_wake {B : Type} {E : Value → Shared → Prop} {g : Nat} {gs : GenState} {l : List Value} {k : GenResult → Sem B} {Q : B → Shared → Prop} (hg : s.gens[g]? = some gs)
    (hgo : match gs with
      | .fresh c => Sg M A F c (M.den c) [] (s.setGen g .running)
      | .suspended k0 _ c _ fs _ => Sg M A F c (k0 (.send .none)) fs (s.setGen g .running)
      | _ => False)
    (h : ∀ e s1, F e s1 → s.gens.size ≤ s1.gens.size → e.quiet = true ∧ wpAny M A (k e.result) Q E (s1.setGen g e.genState)) : wpAny M A (.resume g (.send .none) l k) Q E s := by
  intro G p hG
  rw [Sem.wp_resume]
  have sz : (s.setGen g .running).gens.size = s.gens.size := GenW.setGen_size _ _ _
  cases gs with
  | fresh c =>
    obtain ⟨e, s1, r, f⟩ := hgo (G.wake c p) p rfl (hG.wake c p)
    have q := h e s1 f (by rw [← sz]; exact GenW.runs_gsz r)
    exact ⟨_, _, by unfold Wakes; rw [hg]; exact ⟨e, s1, r, q.1, rfl, rfl⟩, q.2 G p hG⟩
  | suspended k0 l0 c0 p0 fs0 cl =>
    obtain ⟨e, s1, r, f⟩ := hgo (G.wake c0 p) p0 rfl (hG.wake c0 p)
    have q := h e s1 f (by rw [← sz]; exact GenW.runs_gsz r)
    exact ⟨_, _, by unfold Wakes; rw [hg]; exact ⟨e, s1, r, q.1, rfl, rfl⟩, q.2 G p hG⟩
  | running => exact hgo.elim
  | finished => exact hgo.elim
end

/-! ### the list's iterator under «yield from» -/
section
variable {prog : Program} {w : World} {A : Around} {E : Value → Shared → Prop} {s : Shared}
/-- a new StopIteration -/
theorem new_stop {Q : Value → Shared → Prop} (h : ∀ (h' : Heap) (a : Addr) (o : Obj) (vs : Array Value), h'.get? a = some o → o.cls = .type "StopIteration" → o.data = .fields vs → vs[5]? = some Value.none → (∀ b u, s.heap.get? b = some u → h'.get? b = some u) → Q (.ref a) { s with heap := h' }) :
    wpAny (model prog w) A (newExc (.type "StopIteration") []) Q E s := by
  simp only [newExc, newTuple]
  refine wpAny_bind (wpAny_newObj_type (wpAny_bind (m := firstArgMember _ _) (wpAny_of_eq (a := Value.none) ?_ (wpAny_newObj_type (h _ _ _ _ (Heap.get?_push_size _ rfl) rfl rfl ?_ fun b u e => Heap.get?_push_of_some _ (Heap.get?_push_of_some _ e)) (by size_fits)))) (by size_fits))
  · first | rfl | (simp only [firstArgMember]; rfl)
  · first | rfl | (rw [Array.getElem?_append_left (by decide), show (5 : Nat) = 5 from rfl]; rfl) | kernel_rfl
/-- the list's iterator is asked for an item: it is there, or it is not -/
theorem lnext {it l : Addr} {i : Nat} {items : Array Value} {Q : Option Value → Shared → Prop} (hh : A.handled = none) (I : s.heap.IsListIter it l i) (L : s.heap.IsList l items)
    (some_ : ∀ x h', items[i]? = some x → h'.IsListIter it l (i + 1) → Heap.SameBut it s.heap h' → Q (some x) { s with heap := h' })
    (none_ : items[i]? = none → ∀ e h', StopX e h' → Heap.ExtBut it s.heap h' → E e { s with heap := h' }) : wpAny (model prog w) A (callSpecial? (.ref it) "__next__") Q E s := by
  obtain ⟨o, ho, oc, od⟩ := id I
  obtain ⟨ol, hol, _, nl, old⟩ := L
  refine wpAny_callSpecial?_slot (name := Str.ofString "__next__") I.typeIs slot_listiter_next (wpAny_call_entry slot_listiter_next I.typeIs entry_listiter_next ?_ (args_listiter_next _))
  show wpAny _ _ (field (.ref it) 0 >>= fun _ => _) _ _ s
  refine wpAny_bind (wpAny_field ho od (x := .ref l) rfl (wpAny_ite ?_))
  rw [if_neg (by simp)]
  show wpAny _ _ (field (.ref it) 1 >>= fun _ => _) _ _ s
  refine wpAny_bind (wpAny_field ho od (x := .int i 0) rfl ?_)
  show wpAny _ _ (seqItems? (.ref l) >>= fun _ => _) _ _ s
  refine wpAny_bind (wpAny_seqItems hol old ?_)
  simp only [Int.toNat_natCast]
  cases e : items[i]? with
  | some x =>
    simp only []
    refine wpAny_bind (wpAny_setField ho od (by simp) ?_)
    refine wpAny_pure ⟨x, rfl, some_ x _ e ⟨_, Heap.get?_update_self _ ho (Obj.isFreed_of_fields (Obj.data_mapFields od _)), (Obj.cls_mapFields ..).trans oc, ?_⟩ (Heap.SameBut.update ..)⟩
    rw [Obj.data_mapFields od]
    simp [rawInt]
  | none =>
    simp only []
    refine wpAny_bind (wpAny_rule (wpAny_bind (wpAny_setField ho od (by simp) ?_)))
    refine wpAny_bind (new_stop fun h' a u vs hu uc ud u5 ext => ?_)
    simp only [raiseNew]
    refine wpAny_bind (wpAny_handled ?_)
    rw [show A.in1.handled = none from hh]
    exact wpAny_bind <| wpAny_pure (wpAny_throw (none_ e _ _ ⟨a, u, vs, rfl, hu, uc, ud, u5⟩ fun b u n eb => ext b u ((Heap.SameBut.update ..).extBut b u n eb)))
end
theorem close_li : typeLookup (.type "list_iterator") "close" = pure none := by
  rw [typeLookup_type, builtinLookup_eq_fast]
  kernel_rfl

/-! ### the turns -/
/-- the list at l is xs, its iterator at it stands at j -/
def StL (xs : List V) (l it : Addr) (j : Nat) (s : Shared) : Prop := s.heap.IsListIter it l j ∧ ∃ its : List Value, Vals xs its ∧ s.heap.IsList l its.toArray
def KeptB (it : Addr) (s s' : Shared) : Prop := ∃ (h : Heap) (tk : Nat), s' = { s with heap := h, toks := tk } ∧ ∀ b o, b ≠ it → s.heap.get? b = some o → h.get? b = some o
/-- r items are to come -/
def Turns (M : Model) (A : Around) (xs : List V) (l it : Addr) : Nat → Code → (Resume → Sem PySem.Fin) → List Frame → Prop
  | 0, c, k, fs => ∀ s, StL xs l it xs.length s → Sg M A (fun e s' => e = .ret (.ok (.ret .none)) ∧ KeptB it s s') c (k (.send .none)) fs s
  | r + 1, c, k, fs => ∀ s, StL xs l it (xs.length - (r + 1)) s → Sg M A (fun e s' => ∃ v g lv k' c' p' fs' x, e = .susp v g lv k' c' p' fs' ∧ e.quiet = true ∧ xs[xs.length - (r + 1)]? = some x ∧ RelV x v ∧ KeptB it s s' ∧
      StL xs l it (xs.length - r) s' ∧ Turns M A xs l it r c' k' fs') c (k (.send .none)) fs s
section
variable {X : Cx} {A : Around} {fs : List Frame} {xs : List V} {l it : Addr}
abbrev cYf (it : Addr) : Code := .builtin "proto.yield_from" ⟨[.ref it, .bool false, .none], []⟩
/-- what «yield from» does from the j-th item on -/
theorem sg_items (hle : l ≠ it) (ho : (A.over (cYf it) fs).handled = none) (hsp : splitAtGen fs = none) (hgd : fs.any Frame.guarded = false)
    (hend : ∀ s, Sg (model X.prog X.w) A (fun e s' => e = .ret (.ok (.ret .none)) ∧ s' = s) (cYf it) (.pure (.done (.ret .none))) fs s) :
    ∀ (r : Nat) (F : End → Shared → Prop) (s : Shared), r ≤ xs.length → StL xs l it (xs.length - r) s →
      (r = 0 → ∀ s', KeptB it s s' → F (.ret (.ok (.ret .none))) s') →
      (∀ r', r = r' + 1 → ∀ v g lv k' c' p' fs' x s', (End.susp v g lv k' c' p' fs').quiet = true → xs[xs.length - r]? = some x → RelV x v → KeptB it s s' → StL xs l it (xs.length - r') s' → Turns (model X.prog X.w) A xs l it r' c' k' fs' → F (.susp v g lv k' c' p' fs') s') →
      Sg (model X.prog X.w) A F (cYf it) ((model X.prog X.w).den (cYf it)) fs s := by
  intro r
  induction r with
  | zero =>
    intro F s _ hst h0 _
    obtain ⟨hit, its, rv, hl⟩ := hst
    have hnone : its.toArray[xs.length - 0]? = none := by
      have e := rv.length
      have e2 : its[xs.length - 0]? = none := List.getElem?_eq_none_iff.mpr (by omega)
      simpa using e2
    rw [den_yf (X := X)]
    unfold Builtin.«proto.yield_from»
    try dsimp only
    refine sg_bind (wpAny_pure ?_)
    try dsimp only
    refine sg_bind (wpAny_attempt (wpAny_holding ?_))
    rw [if_neg Bool.false_ne_true, if_pos (show (Value.none == Value.none) = true from rfl)]
    refine wpAny_bind (wpAny_rule (wpAny_bind ?_))
    refine lnext ho hit hl (fun x h' e => by rw [hnone] at e; cases e) fun _ e h' hS hk => ?_
    obtain ⟨a, o, vs, rfl, hoa, hcls, hdat, h5⟩ := hS
    try dsimp only
    refine sg_bind (wpAny_endsTurn hoa hcls ?_)
    try dsimp only
    rw [if_pos rfl]
    first
      | refine sg_bind (wpAny_rule ?_)
      | (rw [if_neg Bool.false_ne_true]; refine sg_bind (wpAny_rule ?_))
      | (rw [if_neg Bool.false_ne_true]; refine sg_bind (wpAny_pure ?_); refine sg_bind (wpAny_rule ?_))
    refine sg_bind (wpAny_field hoa hdat h5 ?_)
    refine sg_mono (hend _) fun e s' q => ?_
    obtain ⟨rfl, rfl⟩ := q
    exact h0 rfl _ ⟨h', s.toks, rfl, fun b o hb eb => hk b o hb eb⟩
  | succ r ih =>
    intro F s hr hst _ h1
    obtain ⟨hit, its, rv, hl⟩ := hst
    obtain ⟨x, hx⟩ : ∃ x, xs[xs.length - (r + 1)]? = some x := ⟨xs[xs.length - (r + 1)]'(by omega), List.getElem?_eq_getElem _⟩
    obtain ⟨u, hu, ru⟩ := rv.get hx
    rw [den_yf (X := X)]
    unfold Builtin.«proto.yield_from»
    try dsimp only
    refine sg_bind (wpAny_pure ?_)
    try dsimp only
    refine sg_bind (wpAny_attempt (wpAny_holding ?_))
    rw [if_neg Bool.false_ne_true, if_pos (show (Value.none == Value.none) = true from rfl)]
    refine wpAny_bind (wpAny_rule (wpAny_bind ?_))
    refine lnext ho hit hl (fun z h' ez hit' hs => ?_) fun e => by rw [show its.toArray[xs.length - (r + 1)]? = some u by simpa using hu] at e; cases e
    obtain rfl : u = z := Option.some.inj ((show its.toArray[xs.length - (r + 1)]? = some u by simpa using hu).symm.trans ez)
    obtain ⟨oi, hoi, hoc, _⟩ := id hit'
    refine wpAny_pure ?_
    try dsimp only
    refine sg_bind (wpAny_typeOf (T := "list_iterator") ⟨oi, hoi, hoc⟩ ?_)
    try dsimp only
    first
      | (refine sg_bind (wpAny_of_eq close_li ?_); refine sg_bind (wpAny_pure ?_))
      | refine sg_bind (wpAny_bind (wpAny_of_eq close_li (wpAny_pure ?_)))
      | refine sg_bind (wpAny_of_eq close_li ?_)
    try dsimp only
    refine sg_bind (wpAny_sleptOver hoi hoc (by decide) ?_)
    refine sg_yield hsp fun p => ?_
    have ej : xs.length - (r + 1) + 1 = xs.length - r := by omega
    rw [ej] at hit'
    refine h1 r rfl _ _ _ _ _ _ _ x _ ?_ hx ru ⟨h', s.toks, rfl, fun b o hb eb => hs.extBut b o hb eb⟩ ⟨hit', its, rv, hl.extBut hs.extBut hle⟩ ?_
    · show (!(false || fs.any Frame.guarded)) = true
      rw [hgd]
      rfl
    · cases r with
      | zero =>
        intro s2 hs2
        obtain ⟨hit2, r2⟩ := id hs2
        obtain ⟨oj, hoj, hojc, _⟩ := id hit2
        show Sg _ _ _ _ (Builtin.Generator.sleptOver (.ref it) false >>= fun _ => _) fs s2
        refine sg_bind (wpAny_sleptOver hoj hojc (by decide) ?_)
        try dsimp only
        refine sg_bind (wpAny_pure ?_)
        exact sg_again (plainId_quiet plain_yf _) (ih _ s2 (Nat.zero_le _) hs2 (fun _ s' q => ⟨rfl, q⟩) fun r' e => by cases e)
      | succ m =>
        intro s2 hs2
        obtain ⟨hit2, r2⟩ := id hs2
        obtain ⟨oj, hoj, hojc, _⟩ := id hit2
        show Sg _ _ _ _ (Builtin.Generator.sleptOver (.ref it) false >>= fun _ => _) fs s2
        refine sg_bind (wpAny_sleptOver hoj hojc (by decide) ?_)
        try dsimp only
        refine sg_bind (wpAny_pure ?_)
        refine sg_again (plainId_quiet plain_yf _) (ih _ s2 (by omega) hs2 (fun e => by cases e) fun r' e v g lv k' c' p' fs' x2 s' a1 a2 a3 a4 a5 a6 => ?_)
        cases e
        exact ⟨v, g, lv, k', c', p', fs', x2, rfl, a1, a2, a3, a4, a5, a6⟩
end
end FBG
end
section
set_option Elab.async false
set_option linter.all false
set_option maxRecDepth 100000
set_option maxHeartbeats 2000000
/-! ### for x in g(..), g a def that is one «yield from» of a list -/
namespace FBG
open PySem PySem.Spec PyProof.Rows L2
open Sem (wp)

theorem inv_gens {X : Cx} {pins : List (Addr × Obj)} {σ : L2.St} {H : Hp} {s : Shared} {G : Array GenState} (I : Inv X pins σ H s) (hb : AllBare G) : Inv X pins σ H { s with gens := G } :=
  ⟨I.ok, I.os, hb, I.base, I.loc, I.cell, I.free, I.freeC, I.pin, I.hok, I.len⟩
theorem inv_sh {X : Cx} {pins : List (Addr × Obj)} {σ : L2.St} {H : Hp} {D : Nat → Option GenState} {s t : Shared} (I : Inv X pins σ H t) (x : Sh D s t) : Inv X pins σ H s := by
  have hb := bare_back x I.bare
  obtain ⟨h, g, d, k, o⟩ := s
  obtain ⟨h', g', d', k', o'⟩ := t
  have e1 : h' = h := x.heap
  have e4 : o' = o := x.os
  subst e1 e4
  exact ⟨I.ok, I.os, hb, I.base, I.loc, I.cell, I.free, I.freeC, I.pin, I.hok, I.len⟩
theorem inv_lull {X : Cx} {pins : List (Addr × Obj)} {σ : L2.St} {H : Hp} {s : Shared} (I : Inv X pins σ H s) : Inv X pins σ H (lulled s) := inv_gens I (bare_lulled I.bare)
theorem sleeper_at {s : Shared} {g : Nat} {k : Resume → Sem PySem.Fin} {l : List Value} {c : Code} {p : Pos} {fs : List Frame} {cl : Bool} (h : s.gens[g]? = some (.suspended k l c p fs cl)) : sleepers s g = some (.suspended k l c p fs cl) := by
  unfold sleepers
  rw [h]
theorem sleeper_stays {s s' t : Shared} {g : Nat} {x : GenState} (hx : sleepers s g = some x) (h : Sh (sleepers s) s' t) : s'.gens[g]? = some x := by
  have q := h.at2 g
  rw [hx] at q
  exact q.1
theorem bare_set {s : Shared} {g : Nat} {x : GenState} (h : AllBare s.gens) (hx : x.bare = true) : AllBare (s.setGen g x).gens := allBare_setGen h hx

section
variable {P : Program} {w : World} {A : Around} {E : Value → Shared → Prop} {s : Shared}
/-- next(g) of a generator -/
theorem next_gen {a : Addr} {g : Nat} {gs : GenState} {F : End → Shared → Prop} {Q : Option Value → Shared → Prop} (hh : A.handled = none) (hl : s.heap.NoLimit) (hroom : A.depth < recursionLimit) (hg : s.heap.IsGen a g) (hgs : s.gens[g]? = some gs)
    (hgo : match gs with
      | .fresh c => Sg (model P w) A.in1 F c ((model P w).den c) [] (s.setGen g .running)
      | .suspended k0 _ c _ fs _ => Sg (model P w) A.in1 F c (k0 (.send .none)) fs (s.setGen g .running)
      | _ => False)
    (hF : ∀ e s1, F e s1 → s.gens.size ≤ s1.gens.size → (e = .ret (.ok (.ret .none)) ∧ ∀ h', (∀ b o, s1.heap.get? b = some o → h'.get? b = some o) → Q none { s1.setGen g .finished with heap := h' }) ∨
      ∃ v gg l k c p fs, e = .susp v gg l k c p fs ∧ e.quiet = true ∧ Q (some v) (s1.setGen g e.genState)) : wpAny (model P w) A (pyNext (.ref a)) Q E s := by
  unfold pyNext
  refine wpAny_bind (wpAny_attempt (wpAny_callSpecial?_slot (name := Str.ofString "__next__") hg.typeIs slot_gen_next (wpAny_call_entry slot_gen_next hg.typeIs entry_gen_next ?_ (args_gen_next _))))
  show wpAny _ A.in1 (Builtin.Generator.genWake (.ref a) (.send .none)) _ _ s
  unfold Builtin.Generator.genWake
  refine wpAny_bind (wpAny_holding (wpAny_genNumber hg (wpAny_bind (wpAny_genState hgs ?_))))
  cases gs with
  | running => exact hgo.elim
  | finished => exact hgo.elim
  | _ =>
    refine wpAny_bind (wpAny_roomToWake hl hroom ?_)
    show wpAny _ A.in1 (.resume g (.send .none) [] _) _ _ s
    refine wpAny_wake hgs hgo fun e s1 f hz => ?_
    rcases hF e s1 f hz with ⟨rfl, hP⟩ | ⟨v, gg, l, k, c, p, fs, rfl, hq, hY⟩
    · refine ⟨rfl, ?_⟩
      show wpAny _ A.in1 (newExc (.type "StopIteration") [] >>= fun _ => _) _ _ (s1.setGen g .finished)
      refine wpAny_bind (new_stop fun h' x u vs hu uc ud u5 ext => ?_)
      simp only [raiseNew]
      refine wpAny_bind (wpAny_bind (wpAny_handled ?_))
      rw [show A.in1.handled = none from hh]
      exact wpAny_throw (wpAny_bind (wpAny_isInstance (T := "StopIteration") (b := true) ⟨u, hu, uc⟩ isSubtype_stop (wpAny_pure (hP h' ext))))
    · exact ⟨hq, wpAny_pure ⟨v, rfl, wpAny_pure hY⟩⟩
end
section
variable {P : Program} {w : World} {K : PySem.W.Frag} {mg : Str → Option Value} {base : Heap} {N : List Str} {qual : Str} {scope : Scope} {f : Addr} {cdv : Value} {e : Expr} {te : TE} {yp pos : Pos} {Aw : Around} {outer : List Env} {s : Shared} {H : Hp} {ga : Addr} {go : Obj} {σ : L2.St}
/-- how it stands behind the first stretch -/
structure Begun (P : Program) (w : World) (Aw : Around) (outer : List Env) (s : Shared) (H : Hp) (ga : Addr) (go : Obj) (cont : Addr → List V → Hp → Prop) (e : End) (s4 : Shared) (H' : Hp) (l it : Addr) (xs : List V) : Prop where
  ct : cont l xs H'
  os : s4.os = s.os
  bare : AllBare s4.gens
  un : Un (frs outer) [] H H' s.heap s4.heap
  hok : HOk P w H' s4.heap
  lst : H' l = some (.lst xs)
  gat : s4.heap.get? ga = some go
  gno : H' ga = none
  ino : H' it = none
  old : s.heap.objs.size ≤ it
  ends : (xs = [] ∧ e = .ret (.ok (.ret .none))) ∨ ∃ v g lv k c p fs x r, e = .susp v g lv k c p fs ∧ e.quiet = true ∧ xs[0]? = some x ∧ RelV x v ∧ xs.length = r + 1 ∧ s4.heap.IsListIter it l 1 ∧ Turns (model P w) Aw xs l it r c k fs
theorem sg_first {cont : Addr → List V → Hp → Prop} {s2 : Shared} (I : Inv (gcxOf P w K mg base N qual scope f cdv Aw outer s H E0 [(ga, go)]) [] σ H s2) (hgo : go.cls = .type "generator") (hah : Aw.handled = none)
    (he : PE (gcxOf P w K mg base N qual scope f cdv Aw outer s H E0 [(ga, go)]).nox e te) (hq : te σ H fun v H' => ∃ l xs, v = .ref l ∧ H' l = some (.lst xs) ∧ cont l xs H') :
    Sg (model P w) Aw (fun e s4 => ∃ H' l it xs, Begun P w Aw outer s H ga go cont e s4 H' l it xs) (.func [.Expr (.YieldFrom e yp) pos] (envOfC qual scope s.heap.objs.size f cdv))
      ((model P w).den (.func [.Expr (.YieldFrom e yp) pos] (envOfC qual scope s.heap.objs.size f cdv))) [] s2 := by
  generalize hX : gcxOf P w K mg base N qual scope f cdv Aw outer s H E0 [(ga, go)] = X at I he
  have eP : X.prog = P := by rw [← hX]; rfl
  have eW : X.w = w := by rw [← hX]; rfl
  have eA : X.A = Aw.deeper (envOfC qual scope s.heap.objs.size f cdv) := by rw [← hX]; rfl
  have eE : X.env = envOfC qual scope s.heap.objs.size f cdv := by rw [← hX]; rfl
  have eS : X.s_0 = s := by rw [← hX]; rfl
  have eH : X.H_0 = H := by rw [← hX]; rfl
  have eF : X.fs = frs outer := by rw [← hX]; rfl
  have eN : X.ex = [] := by rw [← hX]; rfl
  have eg : X.pn = [(ga, go)] := by rw [← hX]; rfl
  have hi : interactive X.env = false := I.quiet
  rw [← eE]
  show Sg _ _ _ _ (.point [] fun _ => ((execs [.Expr (.YieldFrom e yp) pos] X.env).onRaise (leaving X.env)) >>= _) [] s2
  refine sg_point ?_
  rw [Sem.onRaise_eq_wrap, Sem.bind_eq_wrap', Sem.wrap_wrap, execs_cons_wrap, exec_Expr X.env _ pos hi rfl]
  show Sg _ _ _ _ (.at pos fun _ => ((eval e X.env >>= fun v => (standAt yp >>= fun _ => yieldFrom X.env v)) >>= fun x => dropValue (.YieldFrom e yp) pos x).wrap _ _ _ _) [] s2
  refine sg_at (sg_bind2 ?_)
  have ov : Aw.over (.func [.Expr (.YieldFrom e yp) pos] X.env) [] = X.A := by
    rw [GenW.over_func, eA, eE]
  rw [ov]
  have run := he.run [] s2 σ H _ (I.wish _) hq
  rw [← eP, ← eW]
  refine wpAny_mono run (fun v s3 hv => ?_) fun x s' hx => hx.elim
  obtain ⟨v', H', I3, rv, l, xs, ev, hl, hc⟩ := hv
  subst ev
  obtain rfl : v = Value.ref l := rv
  have I3 := I3.unwish
  obtain ⟨hlen, its, n, rits, hob⟩ : xs.length ≤ sizeLine ∧ ∃ (its : List Value) (n : Nat), Vals xs its ∧ s3.heap.get? l = some { cls := .type "list", data := .seq its.toArray n } := I3.hok l _ hl
  have isl : s3.heap.IsList l its.toArray := ⟨_, hob, rfl, n, rfl⟩
  refine sg_at ?_
  show Sg _ _ _ _ ((yieldFrom X.env (.ref l)).wrap _ _ _ _) [] s3
  unfold yieldFrom
  refine sg_bind1 (wpAny_typeOf (T := "list") ⟨_, hob, rfl⟩ ?_)
  rw [if_neg (show ¬ ((Value.type "list" == Value.type "coroutine") = true) by decide)]
  refine sg_bind1 (wpAny_holding (wpAny_pyIter_list isl ?_))
  have hsz : s3.heap.objs.size ≤ s3.heap.objs.size := Nat.le_refl _
  have fresh : H' s3.heap.objs.size = none := I3.hok.fresh hsz
  have kp : ∀ b o, s3.heap.get? b = some o → (s3.heap.push { cls := .type "list_iterator", data := .fields #[.ref l, .int 0 0] }).get? b = some o := fun b o q => Heap.get?_push_of_some _ q
  have lne : l ≠ s3.heap.objs.size := Nat.ne_of_lt (Heap.lt_size hob)
  obtain ⟨hga, hgn, _⟩ := I3.pin (ga, go) (by rw [eg]; exact List.mem_append_left _ (List.mem_singleton.mpr rfl))
  have base3 := I3.base
  rw [eF, eN, eH, eS] at base3
  have hok3 := I3.hok
  rw [eP, eW] at hok3
  have os3 : s3.os = s.os := by rw [I3.os, eS]
  have old3 : s.heap.objs.size ≤ s3.heap.objs.size := by
    have q := I3.sz
    rw [eS] at q
    exact q
  have fin : ∀ (e4 : End) (s4 : Shared), KeptB s3.heap.objs.size { s3 with heap := s3.heap.push { cls := .type "list_iterator", data := .fields #[.ref l, .int 0 0] } } s4 →
      ((xs = [] ∧ e4 = .ret (.ok (.ret .none))) ∨ ∃ v g lv k c p fs x r, e4 = .susp v g lv k c p fs ∧ e4.quiet = true ∧ xs[0]? = some x ∧ RelV x v ∧ xs.length = r + 1 ∧ s4.heap.IsListIter s3.heap.objs.size l 1 ∧ Turns (model P w) Aw xs l s3.heap.objs.size r c k fs) →
      ∃ H' l it xs, Begun P w Aw outer s H ga go cont e4 s4 H' l it xs := by
    rintro e4 s4 ⟨h4, tk, rfl, k4⟩ hends
    have k34 : ∀ b o, s3.heap.get? b = some o → h4.get? b = some o := fun b o q => k4 b o (Nat.ne_of_lt (Heap.lt_size q)) (kp b o q)
    exact ⟨H', l, s3.heap.objs.size, xs, hc, os3, I3.bare, base3.trans (Un.kept k34), hok3.kept k34, hl, k34 _ _ hga, hgn, fresh, old3, hends⟩
  refine sg_call fun p => ?_
  refine sg_items (X := X) (xs := xs) lne ?_ rfl rfl (fun s5 => ?_) xs.length _ _ (Nat.le_refl _) ⟨⟨_, Heap.get?_push_size _ rfl, rfl, by rw [Nat.sub_self]; rfl⟩, its, rits, isl.push _⟩ (fun e0 s' q => ?_) fun r' er v g lv k' c' p' fs' x s' a1 a2 a3 a4 a5 a6 => ?_
  · exact hah
  · exact sg_leaf (.ok (.ret .none)) (sg_end (.ok (.ret .none)) ⟨rfl, rfl⟩)
  · rw [eP, eW]
    exact fin _ _ q (.inl ⟨List.length_eq_zero_iff.mp e0, rfl⟩)
  · rw [eP, eW] at a6
    have e1 : xs.length - r' = 1 := by omega
    have e2 : xs.length - xs.length = 0 := Nat.sub_self _
    rw [e1] at a5
    rw [e2] at a2
    rw [eP, eW]
    exact fin _ _ a4 (.inr ⟨v, g, lv, k', c', p', fs', x, r', rfl, a1, a2, a3, er, a5.1, a6⟩)
end
end FBG
end
section
set_option Elab.async false
set_option linter.all false
set_option maxRecDepth 100000
set_option maxHeartbeats 2000000
namespace FBG
open PySem PySem.Spec PyProof.Rows L2
open Sem (wp)
/-- what a loop over the list's items, handed out by a generator, is to show -/
def LoopG (K : PySem.W.Frag) (g : TG) (tb : TS) (D : Ends) (σ : L2.St) (l : Addr) (xs : List V) (H : Hp) : Prop :=
  ∃ Pv : Nat → L2.St → Hp → Prop, Pv 0 σ H ∧ (∀ i σ2 H2, i ≤ xs.length → Pv i σ2 H2 → SqL K H2 l xs) ∧
    (∀ i x σ2 H2, xs[i]? = some x → Pv i σ2 H2 → g x σ2 H2 fun σ3 H3 => tb { D with nx := Pv (i + 1), ct := Pv (i + 1), bk := fun _ _ => False } σ3 H3) ∧ ∀ σ2 H2, Pv xs.length σ2 H2 → D.nx σ2 H2
def tForG (K : PySem.W.Frag) (n : Nat) (N : List Str) (te : TE) (ta : TA) (g : TG) (tb : TS) : TS := fun D σ H => ta σ H fun vs H1 => vs.length = n ∧ te (start N vs) H1 fun v H2 => ∃ l xs, v = .ref l ∧ H2 l = some (.lst xs) ∧ LoopG K g tb D σ l xs H2
/-- at the loop's head: n items are to come, the generator sleeps -/
def HeadG (X : Cx) (pins : List (Addr × Obj)) (g : TG) (tb : TS) (D : Ends) (a : Addr) (go : Obj) (gi : Nat) (n : Nat) (s' : Shared) : Prop :=
  ∃ (l it : Addr) (xs : List V) (Pv : Nat → L2.St → Hp → Prop) (kk : Resume → Sem PySem.Fin) (lv : List Value) (c : Code) (pp : Pos) (fs : List Frame) (cl : Bool) (σ' : L2.St) (H' : Hp), n ≤ xs.length ∧ 0 < xs.length - n ∧ xs.length ≤ sizeLine ∧
    (∀ i σ2 H2, i ≤ xs.length → Pv i σ2 H2 → SqL X.K H2 l xs) ∧
    (∀ (i : Nat) x σ2 H2, xs[i]? = some x → Pv i σ2 H2 → g x σ2 H2 fun σ3 H3 => tb { D with nx := Pv (i + 1), ct := Pv (i + 1), bk := fun _ _ => False } σ3 H3) ∧ (∀ σ2 H2, Pv xs.length σ2 H2 → D.nx σ2 H2) ∧
    Inv X pins σ' H' s' ∧ s'.heap.get? a = some go ∧ s'.gens[gi]? = some (.suspended kk lv c pp fs cl) ∧ Turns (model X.prog X.w) X.A.in1 xs l it n c kk fs ∧ s'.heap.IsListIter it l (xs.length - n) ∧
    FpOk X pins H' it ∧ FpOk X pins H' a ∧ it ≠ a ∧ Pv (xs.length - n) σ' H'
section
variable {X : Cx} {f : Addr} {k : Nat} {name qual : Str} {params : Arguments} {scope : Scope} {dV kV doc pm cdv ct oc : Value} {an od : Option Addr} {osl : Array (Option Value)} {N ps : List Str} {ey : Expr} {yp yp2 : Pos} {te : TE} {ta : TA} {g : TG} {tb : TS}
  {x : Str} {e1 : Expr} {es : List Expr} {body : List Stmt} {tg : Expr} {p cp pos : Pos}
theorem ps_forG (hxe : X.xe = fun _ _ => False) (hr : Room (k + 2) X.A) (lk : X.K.lookup f = some ⟨oc, od, .func (PySem.W.fnOf name qual params [.Expr (.YieldFrom ey yp) yp2] scope dV kV doc pm an cdv ct), osl⟩) (hcd : PySem.W.codeIn X.K cdv qual = true) (S : GScope N ps scope)
    (hg : Gl X x) (hm : X.mg x = some (.ref f)) (hk : PySem.W.keepIn X.K (.ref f) = true) (hbi : Binds X.K (PySem.W.fnOf name qual params [.Expr (.YieldFrom ey yp) yp2] scope dV kV doc pm an cdv ct) ps []) (ha : PA X (e1 :: es) ta)
    (hbody : ∀ (Aw : Around) (outer : List Env) (s : Shared) (H : Hp) (pn : List (Addr × Obj)), Room k (Aw.deeper (envOfC qual scope s.heap.objs.size f cdv)) → PE (gcxOf X.prog X.w X.K X.mg X.base N qual scope f cdv Aw outer s H E0 pn).nox ey te)
    (hgt : PG X tg g) (hb : PSs X body tb) (htg : ∀ it v, letOwnedTupleGo tg it v = pure () := by intro _ _; rfl) (hdb : (x == ("__debug__" : Str)) = false := by decide)
    (he : starEach (e1 :: es) X.env = (false, eval e1 X.env) :: starEach es X.env := by rfl) (hpl : (backTo cp (starEach es X.env)).any (·.1) = false := by rfl) (hs : ∀ v, foldedSetIterable (.Call (.Name x p) (e1 :: es) [] cp) X.env v = pure v := by intro _; rfl) :
    PS X (.For tg (.Call (.Name x p) (e1 :: es) [] cp) body [] pos) (tForG X.K ps.length N te ta g tb) := by
  refine ⟨fun pins s σ H D I h => ?_⟩
  have hp : PassesOwn (model X.prog X.w) X.A X.env X.xe := by
    rw [hxe]
    exact PassesOwn.never
  refine wpAny_For (wpAny_Call_Name_kw (ld_glob I hg hm ?_ hdb)) hs
  refine PySem.W.callWith_K (h₀ := X.base) I.ok.mod.kin hk (thn (ha.run cp pins s σ H _ I h) fun us s1 h1 => ?_) he hpl
  obtain ⟨vs, H1, I1, rv, hvl, q⟩ := h1
  refine ⟨I1.kIn, ?_⟩
  -- the call
  have hul : us.length = ps.length := by rw [← rv.length]; exact hvl
  have hbt := hbi s1 us I1.kIn (by rw [List.append_nil]; exact hul)
  rw [List.append_nil] at hbt
  have hkind : ∀ y ∈ ps.zip us, scope.names.lookup y.1 = some .local ∨ (scope.names.lookup y.1 = some .cell ∧ ((cellsFrom (s1.heap.objs.size + 1) scope.names []).lookup y.1).isSome = true) := fun y hy => by
    rcases S.par y.1 (List.of_mem_zip hy).1 with z | z
    · exact .inl z
    · exact .inr ⟨z, PySem.W.cellsFrom_some _ _ _ (.inl z)⟩
  refine wpAny_call (codeAny_call_generator hr.depth (I1.kIn _ _ lk) rfl S.co S.gen rfl (PySem.W.codeRec_of I1.kIn hcd) (hbt _ _ _ _ ?_))
  refine wpAny_newFunctionEnv_cells S.kind hkind fun env henv s2 xc => ?_
  subst henv
  have lim1 : s2.heap.NoLimit := I1.nolimit.keeps xc.toInCall.keep
  refine ⟨lim1, ?_⟩
  obtain ⟨h2, tk, es2, hk2⟩ := xc.done
  have os2 : s2.os = s1.os := by rw [es2]
  have gen2 : s2.gens = s1.gens := by rw [es2]
  have lt2 : s1.heap.objs.size < s2.heap.objs.size := xc.toInCall.ns.lt
  have kp2 : ∀ b o, s1.heap.get? b = some o → s2.heap.get? b = some o := xc.toInCall.keep
  have hrw : Room (k + 1) X.A.in1 := hr.in1
  have e0 : Env0 X.prog X.w X.K X.mg X.base X.A.in1 X.stack s1 H1 := ⟨I1.ok.frames, I1.ok.mod, I1.bs, Nat.le_trans I1.ok.bsz I1.sz, I1.stack, I1.stkFree, I1.hok, I1.bare⟩
  have J1 : Inv (gcxOf X.prog X.w X.K X.mg X.base N qual scope f cdv X.A.in1 X.stack s1 H1 E0 []) [] (start N vs) H1 s2 := inv_startG S hr.hd e0 hvl rv xc
  have main : ∀ (go : Obj) (nm qn : Value) (tk2 : Nat), go.cls = .type "generator" → go.data = .fields #[.int s2.gens.size 0, nm, qn] → go.slots = #[] → (∀ hh : Heap, (hh.push go).get? hh.objs.size = some go) →
      wpAny (model X.prog X.w) X.A (pyIter (.ref s2.heap.objs.size)) (fun it s₂ => codeAny (model X.prog X.w) X.A (.forLoop tg it body [] X.env) (fun r s' => match r with | .ok f => SP X pins D f s' | .error e => cameBackBy (model X.prog X.w) X.A X.env X.xe e s') s₂) X.xe
        { s2 with gens := s2.gens.push (.fresh (.func [.Expr (.YieldFrom ey yp) yp2] (envOfC qual scope s1.heap.objs.size f cdv))), toks := tk2, heap := s2.heap.push go } := by
    intro go nm qn tk2 hgc hgd hgs hgp
    generalize hs3 : ({ s2 with gens := s2.gens.push (.fresh (.func [.Expr (.YieldFrom ey yp) yp2] (envOfC qual scope s1.heap.objs.size f cdv))), toks := tk2, heap := s2.heap.push go } : Shared) = s3
    have hga : s3.heap.get? s2.heap.objs.size = some go := by rw [← hs3]; exact hgp _
    have isgen : ∀ hh : Heap, hh.get? s2.heap.objs.size = some go → hh.IsGen s2.heap.objs.size s2.gens.size := fun hh z => ⟨go, nm, qn, z, hgc, hgd, hgs⟩
    have kp3 : ∀ b o, s2.heap.get? b = some o → s3.heap.get? b = some o := fun b o z => by rw [← hs3]; exact Heap.get?_push_of_some _ z
    have kp13 : ∀ b o, s1.heap.get? b = some o → s3.heap.get? b = some o := fun b o z => kp3 b o (kp2 b o z)
    have bare3 : AllBare s3.gens := by
      rw [← hs3]
      exact AllBare.push (by rw [gen2]; exact I1.bare) rfl
    have fresh3 : s3.gens[s2.gens.size]? = some (.fresh (.func [.Expr (.YieldFrom ey yp) yp2] (envOfC qual scope s1.heap.objs.size f cdv))) := by
      rw [← hs3]
      exact Array.getElem?_push_size ..
    have os3 : s3.os = s1.os := by
      rw [← hs3]
      exact os2
    have lim3 : s3.heap.NoLimit := lim1.keeps kp3
    have I3 : Inv X pins σ H1 s3 := I1.call' (ch := []) os3 (Un.kept kp13) (I1.hok.kept kp13) bare3 fun b z => by simp at z
    have old : s1.heap.objs.size ≤ s2.heap.objs.size := Nat.le_of_lt lt2
    -- the first stretch
    have J2 : Inv (gcxOf X.prog X.w X.K X.mg X.base N qual scope f cdv X.A.in1 X.stack s1 H1 E0 []) [] (start N vs) H1 (s3.setGen s2.gens.size .running) :=
      J1.call' (ch := []) (os3.trans os2.symm) (Un.kept kp3) (J1.hok.kept kp3) (bare_set bare3 rfl) fun b z => by simp at z
    have J3 : Inv (gcxOf X.prog X.w X.K X.mg X.base N qual scope f cdv X.A.in1 X.stack s1 H1 E0 [(s2.heap.objs.size, go)]) [] (start N vs) H1 (s3.setGen s2.gens.size .running) := by
      refine Inv.pinnedG J2 fun z hz => ?_
      have ez : z = (s2.heap.objs.size, go) := by
        rcases List.mem_append.mp hz with y | y
        · exact List.mem_singleton.mp y
        · simp at y
      subst ez
      exact ⟨hga, J1.hok.fresh (Nat.le_refl _), Nat.ne_of_gt lt2, J1.nofs (Nat.le_refl _), fun v y => by rw [hgd] at y; cases y⟩
    have first := sg_first (cont := fun l xs H2 => LoopG X.K g tb D σ l xs H2) (yp := yp) (pos := yp2) J3 hgc hr.hd (hbody X.A.in1 X.stack s1 H1 _ (hrw.deeper _)) q
    refine wpAny_pyIter_gen (isgen _ hga) ?_
    -- the loop
    refine codeAny_forLoop (fun n s' => (n = sizeLine + 5 ∧ s' = s3) ∨ HeadG X pins g tb D s2.heap.objs.size go s2.gens.size n s') ?_ (sizeLine + 5) (.inl ⟨rfl, rfl⟩) (htg _)
    -- behind an item
    have turn : ∀ (m n : Nat) (l it : Addr) (xs : List V) (Pv : Nat → L2.St → Hp → Prop) (kk : Resume → Sem PySem.Fin) (lv : List Value) (c : Code) (pp : Pos) (fs : List Frame) (cl : Bool) (H' : Hp) (s' : Shared) (y : V) (u : Value) (σ' : L2.St), m < n → m + 1 ≤ xs.length → xs.length ≤ sizeLine →
        (∀ i σ2 H2, i ≤ xs.length → Pv i σ2 H2 → SqL X.K H2 l xs) → (∀ (i : Nat) x σ2 H2, xs[i]? = some x → Pv i σ2 H2 → g x σ2 H2 fun σ3 H3 => tb { D with nx := Pv (i + 1), ct := Pv (i + 1), bk := fun _ _ => False } σ3 H3) → (∀ σ2 H2, Pv xs.length σ2 H2 → D.nx σ2 H2) →
        Inv X pins σ' H' s' → s'.heap.get? s2.heap.objs.size = some go → s'.gens[s2.gens.size]? = some (.suspended kk lv c pp fs cl) → Turns (model X.prog X.w) X.A.in1 xs l it m c kk fs → s'.heap.IsListIter it l (xs.length - m) → FpOk X pins H' it → FpOk X pins H' s2.heap.objs.size → it ≠ s2.heap.objs.size →
        Pv (xs.length - (m + 1)) σ' H' → xs[xs.length - (m + 1)]? = some y → RelV y u →
        wpAny (model X.prog X.w) X.A (assign tg X.env u) (fun _ s₂ => wpAny (model X.prog X.w) X.A (execs body X.env) (fun f s₃ => match f with
          | .next | .cont => ∃ m', m' < n ∧ ((m' = sizeLine + 5 ∧ s₃ = s3) ∨ HeadG X pins g tb D s2.heap.objs.size go s2.gens.size m' s₃)
          | .brk => SP X pins D .next s₃
          | .ret v => SP X pins D (.ret v) s₃) (notedBy (model X.prog X.w) X.A X.env fun e s' => cameBackBy (model X.prog X.w) X.A X.env X.xe e s') s₂) (notedBy (model X.prog X.w) X.A X.env fun e s' => cameBackBy (model X.prog X.w) X.A X.env X.xe e s') s' := by
      intro m n l it xs Pv kk lv c pp fs cl H' s' y u σ' hmn hm1 hsz hq1 hq2 hq3 IA hgo hgen hT hit f1 f2 hne hPv hy ry
      obtain ⟨oi, hoi, hoc, hod⟩ := id hit
      have IB : Inv X (pins ++ [(it, oi), (s2.heap.objs.size, go)]) σ' H' s' := IA.pins_of fun z hz => by
        rcases List.mem_append.mp hz with w1 | w1
        · exact IA.pin z (List.mem_append_right _ w1)
        · rcases List.mem_cons.mp w1 with w2 | w2
          · subst w2
            exact ⟨hoi, f1.1, f1.2.1, f1.2.2.1, fun v yy => by rw [hod] at yy; cases yy⟩
          · have w3 := List.mem_singleton.mp w2
            subst w3
            exact ⟨hgo, f2.1, f2.2.1, f2.2.2.1, fun v yy => by rw [hgd] at yy; cases yy⟩
      have st := hq2 _ y σ' H' hy hPv
      refine wpAny_passesOwn hp ?_
      refine wpAny_mono (wpAny_sh (hgt.run _ _ σ' H' y u _ (inv_lull IB) ry st)) (fun _ s5 h5 => ?_) fun e s5 h5 => ?_
      · obtain ⟨t5, x5, σ5, H5, I5, q5⟩ := h5
        have I5s := inv_sh I5 x5
        have g5 := sleeper_stays (sleeper_at hgen) x5
        refine wpAny_passesOwn hp ?_
        refine wpAny_mono (wpAny_sh (hb.run _ _ σ5 H5 _ (inv_lull I5s) q5)) (fun fl s6 h6 => ?_) fun e s6 h6 => ?_
        · obtain ⟨t6, x6, h6⟩ := h6
          have g6 := sleeper_stays (sleeper_at g5) x6
          have again : ∀ {σ6 : L2.St} {H6 : Hp}, Inv X (pins ++ [(it, oi), (s2.heap.objs.size, go)]) σ6 H6 t6 → Pv (xs.length - (m + 1) + 1) σ6 H6 → ∃ m', m' < n ∧ ((m' = sizeLine + 5 ∧ s6 = s3) ∨ HeadG X pins g tb D s2.heap.objs.size go s2.gens.size m' s6) := by
            intro σ6 H6 I6 p6
            have I6s := inv_sh I6 x6
            obtain ⟨a1, a2, _⟩ := I6s.pin (it, oi) (List.mem_append_right _ (List.mem_append_right _ List.mem_cons_self))
            obtain ⟨b1, b2, _⟩ := I6s.pin (s2.heap.objs.size, go) (List.mem_append_right _ (List.mem_append_right _ (List.mem_cons_of_mem _ List.mem_cons_self)))
            have ej : xs.length - (m + 1) + 1 = xs.length - m := by omega
            rw [ej] at p6
            exact ⟨m, hmn, .inr ⟨l, it, xs, Pv, kk, lv, c, pp, fs, cl, σ6, H6, by omega, by omega, hsz, hq1, hq2, hq3, I6s.unpinned, b1, g6, hT, ⟨oi, a1, hoc, hod⟩, ⟨a2, f1.2⟩, ⟨b2, f2.2⟩, hne, p6⟩⟩
          cases fl with
          | next =>
            obtain ⟨σ6, H6, I6, p6⟩ := h6
            exact again I6 p6
          | cont =>
            obtain ⟨σ6, H6, I6, p6⟩ := h6
            exact again I6 p6
          | brk =>
            obtain ⟨_, _, _, z⟩ := h6
            exact z.elim
          | ret v =>
            obtain ⟨y6, σ6, H6, I6, r6, q6⟩ := h6
            exact ⟨y6, σ6, H6, (inv_sh I6 x6).unpinned, r6, q6⟩
        · obtain ⟨t6, x6, h6⟩ := h6
          rw [hxe] at h6
          exact h6.elim
      · obtain ⟨t5, x5, h5⟩ := h5
        rw [hxe] at h5
        exact h5.elim
    -- at the loop's head
    have inA : X.A.in1.handled = none := hr.hd
    rintro n s4 (⟨rfl, rfl⟩ | ⟨l, it, xs, Pv, kk, lv, c, pp, fs, cl, σ', H', hn1, hn2, hsz, hq1, hq2, hq3, IA, hgo, hgen, hT, hit, f1, f2, hne, hPv⟩)
    · refine wpAny_passesOwn hp ?_
      refine next_gen hr.hd lim3 hr.depth (isgen _ hga) fresh3 first fun e s5 B hz => ?_
      obtain ⟨H', l, it, xs, B⟩ := B
      obtain ⟨Pv, p0, hq1, hq2, hq3⟩ := B.ct
      have I5 : ∀ (G : Array GenState), AllBare G → Inv X pins σ H' { s5 with gens := G } := fun G hG => inv_gens (I1.call' (ch := []) B.os B.un B.hok B.bare fun b z => by simp at z) hG
      have hxl : xs.length ≤ sizeLine := (B.hok l _ B.lst).1
      have gz : s2.gens.size < s5.gens.size := by
        have z1 := (Array.getElem?_eq_some_iff.mp fresh3).1
        omega
      rcases B.ends with ⟨ex, rfl⟩ | ⟨v, gg, lv, kk, c, pp, fs, y, r, rfl, hqt, hy, ry, hr1, hit, hT⟩
      · refine .inl ⟨rfl, fun h' hk' => ?_⟩
        subst ex
        have IZ := I5 (s5.setGen s2.gens.size .finished).gens (bare_set B.bare rfl)
        have IW : Inv X pins σ H' { s5.setGen s2.gens.size .finished with heap := h' } := IZ.kept (t' := s5.toks) (h' := h') hk'
        exact wpAny_execs_nil ⟨σ, H', IW, hq3 _ _ p0⟩
      · refine .inr ⟨v, gg, lv, kk, c, pp, fs, rfl, hqt, ?_⟩
        have ef := End.bare_of_quiet hqt
        have IZ := I5 (s5.setGen s2.gens.size (End.susp v gg lv kk c pp fs).genState).gens (bare_set B.bare ef)
        have fi : FpOk X pins H' it := I1.fpOk B.old B.ino
        have fg : FpOk X pins H' s2.heap.objs.size := I1.fpOk old B.gno
        have nig : it ≠ s2.heap.objs.size := fun z => by
          obtain ⟨o1, ho1, hc1, _⟩ := hit
          rw [z, B.gat] at ho1
          cases ho1
          rw [hgc] at hc1
          exact absurd hc1 (by decide)
        have e1 : xs.length - (r + 1) = 0 := by omega
        have e2 : xs.length - r = 1 := by omega
        refine turn r (sizeLine + 5) l it xs Pv kk lv c pp fs (gg || fs.any Frame.guarded) H' _ y v σ (by omega) (by omega) hxl hq1 hq2 hq3 IZ B.gat (setGen_at gz) hT (by rw [e2]; exact hit) fi fg nig (by rw [e1]; exact p0) (by rw [e1]; exact hy) ry
    · refine wpAny_passesOwn hp ?_
      have sq := hq1 _ σ' H' (Nat.sub_le _ _) hPv
      obtain ⟨its, rits, pl, _⟩ := IA.list sq
      have gz : s2.gens.size < s4.gens.size := (Array.getElem?_eq_some_iff.mp hgen).1
      have stl : ∀ j, s4.heap.IsListIter it l j → StL xs l it j (s4.setGen s2.gens.size .running) := fun j z => ⟨z, its, rits, pl.isList⟩
      have turned : ∀ (s5 : Shared) (G : Array GenState), KeptB it (s4.setGen s2.gens.size .running) s5 → AllBare G → Inv X pins σ' H' { s5 with gens := G } := fun s5 G ⟨h5, t5, e5, k5⟩ hG => by
        subst e5
        exact inv_gens (inv_gens (IA.turned (h' := h5) (t' := t5) k5 f1.1 f1.2.1 f1.2.2.2.1 f1.2.2.2.2.1 f1.2.2.2.2.2) (bare_set (s := s4) (g := s2.gens.size) (x := .running) IA.bare rfl)) hG
      have bareK : ∀ s5, KeptB it (s4.setGen s2.gens.size .running) s5 → AllBare s5.gens := fun s5 ⟨h5, t5, e5, k5⟩ => by
        subst e5
        exact bare_set IA.bare rfl
      cases n with
      | zero =>
        refine next_gen hr.hd IA.nolimit hr.depth (isgen _ hgo) hgen (hT _ (stl _ hit)) fun e s5 B hz => ?_
        obtain ⟨rfl, hk5⟩ := B
        refine .inl ⟨rfl, fun h' hk' => ?_⟩
        have IZ := turned s5 (s5.setGen s2.gens.size .finished).gens hk5 (bare_set (bareK s5 hk5) rfl)
        have IW : Inv X pins σ' H' { s5.setGen s2.gens.size .finished with heap := h' } := IZ.kept (t' := s5.toks) (h' := h') hk'
        exact wpAny_execs_nil ⟨σ', H', IW, hq3 _ _ hPv⟩
      | succ m =>
        refine next_gen hr.hd IA.nolimit hr.depth (isgen _ hgo) hgen (hT _ (stl _ hit)) fun e s5 B hz => ?_
        obtain ⟨v, gg, lv', kk', c', pp', fs', y, rfl, hqt, hy, ry, hk5, hst, hT'⟩ := B
        refine .inr ⟨v, gg, lv', kk', c', pp', fs', rfl, hqt, ?_⟩
        have ef := End.bare_of_quiet hqt
        have IZ := turned s5 (s5.setGen s2.gens.size (End.susp v gg lv' kk' c' pp' fs').genState).gens hk5 (bare_set (bareK s5 hk5) ef)
        have go5 : s5.heap.get? s2.heap.objs.size = some go := by
          obtain ⟨h5, t5, e5, k5⟩ := hk5
          subst e5
          exact k5 _ _ (Ne.symm hne) hgo
        have gz5 : s2.gens.size < s5.gens.size := by omega
        exact turn m (m + 1) l it xs Pv kk' lv' c' pp' fs' (gg || fs'.any Frame.guarded) H' _ y v σ' (by omega) hn1 hsz hq1 hq2 hq3 IZ go5 (setGen_at gz5) hT' hst.1 f1 f2 hne hPv hy ry
  exact main _ _ _ _ rfl rfl rfl fun hh => Heap.get?_push_size _ rfl
end
end FBG
end
section
set_option Elab.async false
set_option linter.all false
set_option maxRecDepth 100000
set_option maxHeartbeats 1000000
/-! ### own operators and subscripts of instances -/
namespace FBR
open PySem PySem.Spec PyProof.Rows L2
section
variable {X : Cx} {CX : CXT} {k : Nat} {C f : Addr} {fd : FuncData} {ps : List Str} {sp : Sp} {ds : List Value} {dvs : List V} {E : XK} {a b : Expr} {ta tb : TE} {pos : Pos}
/-- an instance's own one-place operator -/
def rOwnU (C : Addr) (sp : Sp) (dvs : List V) (E : XK) : V → Hp → VK → Prop := fun x H Q => ∃ a dx fs, x = .ref a ∧ H a = some (.ins C dx fs) ∧ sp (.ref a :: dvs) H Q E
theorem un_own_neg (hm : Meth X.K C "__neg__" f) (F : FnOk X.prog X.w X.K X.mg X.base CX k f fd ps sp) (hr : Room k X.A) (hb : Binds X.K fd ps ds) (hd : Vals dvs ds) (hx : Passes CX X E) : UnR X (unaryOp .USub) (rOwnU C sp dvs E) := by
  intro pins s σ H x v Q I rx h
  obtain ⟨a, dx, fs, rfl, ea, q⟩ := h
  obtain rfl : v = Value.ref a := rx
  obtain ⟨mA, O, _⟩ := ins_get I.hok ea
  obtain ⟨od, J, _⟩ := O.look
  obtain ⟨m, F0⟩ := I.fr
  exact PySem.W.ksp_neg F0 I.mod.kin J hm.at_ hm.fn (run_fn F hr hb hd hx I (vs := [.ref a]) (.cons rfl .nil) q)
/-- o[x] by the class's own __getitem__ -/
def rOwnIx (C : Addr) (sp : Sp) (dvs : List V) (E : XK) : R2 := fun x y H Q => ∃ a dx fs, x = .ref a ∧ H a = some (.ins C dx fs) ∧ sp (.ref a :: y :: dvs) H Q E
theorem ix_own (nox : Passes CX X.nox E) (hm : Meth X.K C "__getitem__" f) (hf : PySem.W.fnIn X.K f = true) (F : FnOk X.prog X.w X.K X.mg X.base CX k f fd ps sp) (hr : Room (k + 1) X.A) (hb : Binds X.K fd ps ds) (hd : Vals dvs ds) (ha : PE X a ta) (hbb : PE X b tb)
    (hsl : ∀ o i, subscripted b true o i = runValue (.builtin "lifetime.subscript" ⟨[o, i], []⟩) := by intro _ _; with_unfolding_all rfl) :
    PE X (.Subscript a b pos) (tOp (rOwnIx C sp dvs E) ta tb) := by
  refine ⟨fun pins s σ H Q I h => ?_⟩
  refine Subscript_ (binT ha hbb I h fun v u s2 x y H2 I2 rx ry q => ?_)
  obtain ⟨o, dx, fs, rfl, ea, q⟩ := q
  obtain rfl : v = Value.ref o := rx
  obtain ⟨mA, O, _⟩ := ins_get I2.hok ea
  obtain ⟨od, J, _⟩ := O.look
  obtain ⟨m, F0⟩ := I2.fr
  refine PySem.W.sub_K F0 I2.mod.kin J hm.at_ hf hm.fn ?_ (hsl _ _)
  have hl : ([Value.ref o, u] ++ ds).length = ps.length := by
    rw [← F.len _ _ _ _ q]
    show ds.length + 2 = dvs.length + 2
    rw [hd.length]
  refine wpAny_call (codeAny_mono (F.run X.A.in1 X.stack s2 H2 ⟨[.ref o, u], []⟩ ([.ref o, u] ++ ds) (.ref o :: y :: dvs) Q E hr.in1 I2.env0.in1 (hb _ _ I2.kIn hl) (.cons rfl (.cons ry hd)) q) fun r s' hq => ?_)
  cases r with
  | error er => exact False.elim (nox pins σ H2 s2 er s' (I2.wish _) hq)
  | ok fl =>
    cases fl with
    | ret u =>
      obtain ⟨v, H', I3, rv, q3⟩ := I2.after hq
      exact ⟨v, H', I3, rv, q3⟩
    | next => exact False.elim hq
    | brk => exact False.elim hq
    | cont => exact False.elim hq
/-! ### text * int -/
def repS (n : Nat) (z : Str) : Str := ⟨(List.replicate n z.cps).foldl (· ++ ·) #[]⟩
def rMulS : R2 := fun x y H Q => ∃ (z : Str), x = .str z ∧ y = .int 4 ∧ 0 < z.length ∧ z.length ≤ 1000 ∧ (repS 4 z).length ≤ 1000000 ∧ Q (.str (repS 4 z)) H
theorem op_mulS : OpR X (binaryOp .Mult) rMulS := by
  intro pins s σ H x y v u Q I rx ry h
  obtain ⟨z, rfl, rfl, h3, h4, h5, q⟩ := h
  obtain ⟨t, rfl⟩ := rx
  obtain ⟨t', rfl⟩ := ry
  have c2 : ((4 : Int) == 1 || z.length == 0) = false := by
    rw [Bool.or_eq_false_iff]
    exact ⟨by decide, beq_eq_false_iff_ne.mpr (by omega)⟩
  refine PySem.P.mul_str (by decide) (fun _ _ => by omega) (fun _ _ => ?_) ?_
  · refine decide_eq_false ?_
    rw [sizeLine_eq]
    show ¬ (z.length * 4 > _)
    omega
  · rw [if_neg (by decide), if_neg (by rw [c2]; exact Bool.false_ne_true)]
    exact ⟨by rw [sizeLine_eq]; show (repS 4 z).length ≤ _; omega, .str (repS 4 z), H, I.tok _, ⟨_, rfl⟩, q⟩
end
end FBR
end
section
set_option Elab.async false
set_option linter.all false
set_option maxRecDepth 100000
set_option maxHeartbeats 1000000
/-! ### displays of dicts with ** -/
namespace FBR
open PySem PySem.Spec PyProof.Rows L2
section
variable {prog : Program} {w : World} {A : Around} {E : Value → Shared → Prop} {K : Type} [DecidableEq K] {knd : KeyKind prog w K}
/-- a loop over 0 .. n - 1 that never breaks: J i ahead of the turn i -/
theorem each_below {f : Nat → PUnit → Sem (ForInStep PUnit)} {n : Nat} (J : Nat → Shared → Prop) (turn : ∀ i s, i < n → J i s → wpAny (model prog w) A (f i ⟨⟩) (fun r s' => r = .yield ⟨⟩ ∧ J (i + 1) s') E s) {Q : PUnit → Shared → Prop} (done : ∀ s, J n s → Q ⟨⟩ s) :
    ∀ (r i : Nat) (s : Shared), i + r = n → J i s → wpAny (model prog w) A (forIn (List.range' i r) PUnit.unit f) Q E s
  | 0, i, s, e, h => wpAny_pure (done s (e ▸ h))
  | r + 1, i, s, e, h => by
    rw [List.range'_succ, List.forIn_cons]
    refine wpAny_bind (wpAny_mono (turn i s (by omega) h) (fun x s1 q => ?_) fun _ _ z => z)
    obtain ⟨rfl, q⟩ := q
    exact each_below J turn done r (i + 1) s1 (by omega) q
/-- if c: first a part that changes nothing -/
theorem if_first {c : Prop} [Decidable c] {B C : Type} {m : Sem B} {f : B → Sem PUnit} {rest : Sem C} {s : Shared} {Q : C → Shared → Prop} (h1 : wpAny (model prog w) A m (fun b s1 => wpAny (model prog w) A (f b) (fun _ s2 => s2 = s) E s1) E s)
    (h2 : wpAny (model prog w) A rest Q E s) : wpAny (model prog w) A (if c then m >>= fun b => f b >>= fun _ => rest else rest) Q E s := by
  split
  · exact wpAny_bind (wpAny_mono h1 (fun _ _ q => wpAny_bind (wpAny_mono q (fun _ _ e => e ▸ h2) fun _ _ z => z)) fun _ _ z => z)
  · exact h2
/-- one pair into a dict, its hash known -/
theorem put_pairs {s : Shared} {d : Addr} {kvs : List (K × Value)} {k : K} {u v : Value} {Q : Unit → Shared → Prop} (hu : knd.is k u = true) (D : s.heap.DictOf knd d kvs) (room : kvs.length ≤ sizeLine)
    (q : ∀ h', h'.DictOf knd d (stored kvs k v) → Heap.SameBut d s.heap h' → Q () { s with heap := h' }) : wpAny (model prog w) A (dictPut d (knd.hash k) u v) Q E s := by
  obtain ⟨o, ⟨l⟩, ep, ho, hc, hd, hk, hp, nd⟩ := D
  have ln : l.length = kvs.length := hp.length
  have same : l.findIdx? (fun e => knd.is k e.key) = kvs.findIdx? fun z => decide (z.1 = k) := hp.findIdx k
  unfold dictPut
  refine wpAny_bind (wpAny_dictFind_of hu ho hd hk ?_)
  rw [List.findIdx?_toArray]
  cases e : l.findIdx? fun e => knd.is k e.key with
  | none =>
    have new : k ∉ kvs.map (·.1) := not_mem_of_findIdx_none (same ▸ e)
    have st : stored kvs k v = kvs ++ [(k, v)] := by
      unfold stored
      rw [if_neg fun z => ?_]
      obtain ⟨x, hx, hz⟩ := List.any_eq_true.mp z
      exact new (List.mem_map.mpr ⟨x, hx, of_decide_eq_true hz⟩)
    refine wpAny_updateDictKeys (hz := by show l.length ≤ _; omega) ho hd (q _ ⟨_, _, _, Heap.get?_update_self _ ho (Obj.isFreed_of_dict (Obj.data_mapDictKeys hd _)), hc.mapDictKeys _, Obj.data_mapDictKeys hd _, hk.push hu _, ?_, ?_⟩ (Heap.SameBut.update ..))
    · rw [st]
      simpa using hp.append hu (knd.hash k) v
    · rw [st, List.map_append]
      refine List.nodup_append.mpr ⟨nd, by simp, fun a ha b hb z => new ?_⟩
      have e2 : b = k := List.mem_singleton.mp hb
      rw [← e2, ← z]
      exact ha
  | some i =>
    have met := any_of_findIdx_some (same ▸ e)
    have st : stored kvs k v = _ := if_pos met
    refine wpAny_updateDict ho hd (q _ ⟨_, _, _, Heap.get?_update_self _ ho (Obj.isFreed_of_dict (Obj.data_mapDict hd _)), hc.mapDict _, Obj.data_mapDict hd _, hk.modify _ _, ?_, ?_⟩ (Heap.SameBut.update ..))
    · rw [st]
      simpa using hp.modify nd e v
    · rw [st, keys_map_store]
      exact nd
/-- {**o} into d: all pairs of o go in, in its order -/
theorem merge_pairs {s : Shared} {d o : Addr} {kvs more : List (K × Value)} {Q : Unit → Shared → Prop} (ne : d ≠ o) (ns : (o == sysModules) = false) (nr : ∀ k u, knd.is k u = true → ∀ a, u ≠ .ref a) (D : s.heap.DictOf knd d kvs) (O : s.heap.DictOf knd o more)
    (q : ∀ h', h'.DictOf knd d (merged kvs more) → h'.DictOf knd o more → Heap.SameBut d s.heap h' → Q () { s with heap := h' }) (room : kvs.length + more.length ≤ sizeLine) : wpAny (model prog w) A (mergeMapping d (.ref o) false) Q E s := by
  obtain ⟨_, ld, _, gd, _, dd, _⟩ := id D
  obtain ⟨ob, ⟨l⟩, ep, go, co, dO, ko, po, no⟩ := id O
  have ln : l.length = more.length := po.length
  unfold mergeMapping
  refine wpAny_bind (wpAny_isInstance O.typeIs isSubtype_dict_dict ?_)
  dsimp only
  rw [if_pos rfl]
  refine wpAny_bind (wpAny_specialOf O.typeIs F.slot_dict_iter.lookup (wpAny_bind (wpAny_pure ?_)))
  rw [show (some (Value.builtin "dict.__iter__") == some (.builtin "dict.__iter__")) = true by decide +kernel]
  dsimp only
  rw [ns, if_neg (by decide)]
  refine wpAny_bind (wpAny_dictEntries gd dd (if_first (wpAny_dictEntries go dO ?_) ?_))
  · rw [← Array.forIn_toList]
    refine wpAny_forIn_list _ (fun rest _ s1 => s1 = s ∧ ∀ x, x ∈ rest → x ∈ l) _ (fun x rest _ s1 h => ?_) (fun _ s1 h => h.1) _ _ ⟨rfl, fun _ z => z⟩
    obtain ⟨rfl, h⟩ := h
    obtain ⟨k, hk, _⟩ := ko x (by simpa using h x List.mem_cons_self)
    split
    · rename_i a z
      exact absurd z (nr k _ hk a)
    · exact wpAny_pure ⟨rfl, fun y hy => h y (List.mem_cons_of_mem _ hy)⟩
  · refine wpAny_bind (wpAny_dictEntries go dO (wpAny_bind (wpAny_dictEpoch go dO (wpAny_bind ?_))))
    rw [List.range_eq_range']
    refine each_below (fun i s1 => ∃ h, s1 = { s with heap := h } ∧ h.DictOf knd d (merged kvs (more.take i)) ∧ h.get? o = some ob ∧ Heap.SameBut d s.heap h) (fun i s1 lt J => ?_) (fun s1 J => ?_) _ 0 s (Nat.zero_add _) ⟨s.heap, rfl, D, go, Heap.SameBut.refl _ _⟩
    · obtain ⟨h, rfl, D1, g1, sb⟩ := J
      have li : i < l.length := lt
      obtain ⟨⟨k, v⟩, hm⟩ : ∃ z, more[i]? = some z := ⟨_, List.getElem?_eq_getElem (show i < more.length by omega)⟩
      obtain ⟨isk, val⟩ := po.get? (List.getElem?_eq_getElem li) hm
      obtain ⟨k2, isk2, hash⟩ := ko l[i] (by simp)
      cases knd.inj _ _ _ isk2 isk
      refine wpAny_bind (wpAny_dictEntries g1 dO ?_)
      rw [List.getElem?_toArray, List.getElem?_eq_getElem li]
      dsimp only
      rw [if_neg (by decide), hash, val]
      refine wpAny_bind (wpAny_holding (put_pairs isk D1 ?_ fun h2 D2 sb2 => ?_))
      · have a := merged_length_le kvs (more.take i)
        rw [List.length_take] at a
        omega
      · have g2 : h2.get? o = some ob := (sb2.2 o ne.symm).trans g1
        refine wpAny_bind (wpAny_dictEpoch g2 dO ?_)
        rw [if_neg (by simp)]
        exact wpAny_pure ⟨rfl, h2, rfl, by rw [merged_take_succ kvs more i (k, v) hm]; exact D2, g2, sb.trans sb2⟩
    · obtain ⟨h, rfl, D1, g1, sb⟩ := J
      have all : more.take l.toArray.size = more := List.take_of_length_le (by show more.length ≤ l.length; omega)
      rw [all] at D1
      exact wpAny_pure (q h D1 ⟨ob, _, ep, g1, co, dO, ko, po, no⟩ sb)
end
section
variable {X : Cx} {pins : List (Addr × Obj)} {σ : L2.St} {H : Hp} {s : Shared} {p a : Addr} {kvs more : List (Key × V)} {A : Around} {E : Value → Shared → Prop} {Q : Unit → Shared → Prop}
theorem merge_inv (I : Inv X pins σ H s) (hp : H p = some (.dK kvs)) (ha : H a = some (.dK more)) (hpa : p ≠ a) (hz : kvs.length + more.length ≤ sizeLine)
    (h : ∀ s', Inv X pins σ (upd H p (.dK (mergeK kvs more))) s' → Q () s') : wpAny (model X.prog X.w) A (mergeMapping p (.ref a) false) Q E s := by
  obtain ⟨_, hd, vs, r, dd⟩ := dk_of I.hok hp
  obtain ⟨_, hd2, ws, r2, dd2⟩ := dk_of I.hok ha
  refine merge_pairs (knd := mixKind X.prog X.w) hpa hd2 (fun k v hk b e => ?_) dd dd2 (fun h' d1 _ sb => ?_) (by have := Paired.length r; have := Paired.length r2; omega)
  · rcases keyIs_shape hk with ⟨_, _, _, rfl⟩ | ⟨_, _, _, rfl⟩ <;> cases e
  · refine h _ (d_write (t' := s.toks) I (by rw [hp]; trivial) sb (let ⟨q, _, _, hq, _⟩ := d1; ⟨q, hq⟩) (dk_new ?_ hd (r2.merge r) d1))
    have := length_mergeK more kvs
    omega
theorem merge_steps {x : Value} {kk : Value → Sem Unit} {k2 : Value → Sem Unit} {k3 : Value → Sem Unit} {l : List Value} (h : wpAny (model X.prog X.w) A (mergeMapping p x false) Q (fun _ _ => False) s) :
    wpAny (model X.prog X.w) A ((((holding l (mergeMapping p x false)).onRaise kk).tryCatch k2).onRaise k3) Q E s :=
  wpAny_onRaise (wpAny_mono (wpAny_tryCatch (wpAny_onRaise (wpAny_mono (wpAny_holding h) (fun _ _ z => z) fun _ _ z => False.elim z))) (fun _ _ z => z) fun _ _ z => False.elim z)
end
section
variable {X : Cx} {a b k v : Expr} {ta tb tk tv : TE} {pos : Pos}
/-- {**a, k: v} -/
def tStarK (ta tk tv : TE) : TE := fun σ H Q => ∀ p, H p = none → ta σ (upd H p (.dK [])) fun x H1 => ∃ (d : Addr) (kvs : List (Key × V)), x = .ref d ∧ H1 p = some (.dK []) ∧ H1 d = some (.dK kvs) ∧ p ≠ d ∧ kvs.length < sizeLine ∧
  ∀ q, upd H1 p (.dK (mergeK [] kvs)) q = none → tPairs [(tk, tv)] σ (upd (upd H1 p (.dK (mergeK [] kvs))) q (.dK [])) fun ps H2 => H2 q = some (.dK []) ∧ ∃ (key : Key) (y : V), ps = [(kV key, y)] ∧ H2 p = some (.dK (mergeK [] kvs)) ∧ p ≠ q ∧
    Q (.ref p) (upd (upd H2 q (.dK (mergeK [] [(key, y)]))) p (.dK (mergeK (mergeK [] kvs) [(key, y)])))
theorem pe_starK (ha : PE X a ta) (hk : PE X k tk) (hv : PE X v tv) : PE X (.Dict [none, some k] [a, v] pos) (tStarK ta tk tv) := by
  refine ⟨fun pins s σ H Q I q => ?_⟩
  have hn := I.hok.fresh (Nat.le_refl s.heap.objs.size)
  have I1 := I.laid (a := s.heap.objs.size) (o := .dK []) (h' := s.heap.push { cls := .type "dict", data := .dict #[] }) (t' := s.toks) (fun _ _ q => Heap.get?_push_of_some _ q) (Nat.le_refl _) (dk_empty s.heap I.big)
  rw [arm_eval_Dict]
  refine wpAny_bind (wpAny_standAt ?_)
  show wpAny _ _ (dictDisplay [(none, do let x ← eval a X.env; standAt pos; pure x), (some (eval k X.env), do let x ← eval v X.env; standAt pos; pure x)]) _ _ _
  unfold dictDisplay
  dsimp only [List.forIn_cons, List.forIn_nil]
  simp only [List.forIn_cons, List.forIn_nil, pure_bind, bind_assoc]
  rw [if_pos (show ([] : List (Sem Value × Sem Value)).isEmpty = true from rfl)]
  refine wpAny_bind (wpAny_pure ?_)
  dsimp only
  refine wpAny_bind (wpAny_bind (wpAny_alloc ?_))
  refine wpAny_bind (wpAny_holding (wpAny_bind (thn (ha.run pins _ σ _ _ I1 (q _ hn)) fun u s2 ⟨x, H2, I2, rx, q2⟩ => ?_)))
  obtain ⟨d, kvs, rfl, hp2, hd2, hpd, hz, q2⟩ := q2
  obtain rfl : u = .ref d := rx
  refine wpAny_bind (wpAny_standAt (wpAny_pure ?_))
  refine wpAny_bind (merge_steps (merge_inv I2 hp2 hd2 hpd (by simp; omega) fun s3 I3 => ?_))
  refine wpAny_pure ?_
  dsimp only
  rw [if_neg (by simp)]
  refine wpAny_bind (wpAny_bind (wpAny_pure (wpAny_pure ?_)))
  dsimp only
  rw [if_neg (by simp)]
  generalize hpp : s.heap.objs.size = p at *
  have hq2 := I3.hok.fresh (Nat.le_refl s3.heap.objs.size)
  have J := I3.laid (a := s3.heap.objs.size) (o := .dK []) (h' := s3.heap.push { cls := .type "dict", data := .dict #[] }) (t' := s3.toks) (fun _ _ q => Heap.get?_push_of_some _ q) (Nat.le_refl _) (dk_empty s3.heap I3.big)
  have pp : PPs X pos [some k] [v] [(tk, tv)] := pps_cons hk hv pps_nil
  refine wpAny_bind (wpAny_bind (wpAny_holding (wpAny_subDict (knd := mixKind X.prog X.w) (by simp) (thn (pp.run pins _ σ _ _ J (q2 _ hq2)) fun ws s4 ⟨ps, H4, I4, rel, e4, key, y, ep, hp4, hpq, q4⟩ => ?_))))
  subst ep
  obtain ⟨rs, c, rk⟩ := carries_of (P := X.prog) (w := X.w) (kvs := [(key, y)]) rel
  obtain ⟨z, hd, vs0, r0, dd⟩ := dk_of I4.hok e4
  cases r0
  refine ⟨rs, c, dd, fun h' dd' hs => ?_⟩
  have I5 := d_write (t' := s4.toks + ws.length) I4 (by rw [e4]; trivial) hs (let ⟨q, _, _, hq, _⟩ := dd'; ⟨q, hq⟩) (dk_new (H' := upd H4 s3.heap.objs.size (.dK (mergeK [] [(key, y)]))) (by rw [sizeLine_eq]; show List.length (mergeK [] [(key, y)]) ≤ _; have := length_mergeK [(key, y)] []; simp at this; omega) hd (rk.merge .nil) dd')
  refine wpAny_bind (wpAny_onRaise (wpAny_mono (wpAny_holding (merge_inv (E := fun _ _ => False) I5 (by rw [upd_ne hpq]; exact hp4) upd_same hpq ?_ fun s6 I6 => ?_)) (fun _ _ z => z) fun _ _ z => False.elim z))
  · have h1 := length_mergeK [(key, y)] []
    have h2 := length_mergeK kvs []
    simp at h1 h2
    omega
  · exact wpAny_pure (wpAny_pure ⟨.ref p, _, I6, rfl, q4⟩)
/-- {**a, **b} -/
def tStarS (ta tb : TE) : TE := fun σ H Q => ∀ p, H p = none → ta σ (upd H p (.dK [])) fun x H1 => ∃ (d : Addr) (kvs : List (Key × V)), x = .ref d ∧ H1 p = some (.dK []) ∧ H1 d = some (.dK kvs) ∧ p ≠ d ∧ kvs.length ≤ 1000 ∧
  tb σ (upd H1 p (.dK (mergeK [] kvs))) fun y H2 => ∃ (e : Addr) (more : List (Key × V)), y = .ref e ∧ H2 p = some (.dK (mergeK [] kvs)) ∧ H2 e = some (.dK more) ∧ p ≠ e ∧ more.length ≤ 1000 ∧ Q (.ref p) (upd H2 p (.dK (mergeK (mergeK [] kvs) more)))
theorem pe_starS (ha : PE X a ta) (hb : PE X b tb) : PE X (.Dict [none, none] [a, b] pos) (tStarS ta tb) := by
  refine ⟨fun pins s σ H Q I q => ?_⟩
  have hn := I.hok.fresh (Nat.le_refl s.heap.objs.size)
  have I1 := I.laid (a := s.heap.objs.size) (o := .dK []) (h' := s.heap.push { cls := .type "dict", data := .dict #[] }) (t' := s.toks) (fun _ _ q => Heap.get?_push_of_some _ q) (Nat.le_refl _) (dk_empty s.heap I.big)
  rw [arm_eval_Dict]
  refine wpAny_bind (wpAny_standAt ?_)
  show wpAny _ _ (dictDisplay [(none, do let x ← eval a X.env; standAt pos; pure x), (none, do let x ← eval b X.env; standAt pos; pure x)]) _ _ _
  unfold dictDisplay
  dsimp only [List.forIn_cons, List.forIn_nil]
  simp only [List.forIn_cons, List.forIn_nil, pure_bind, bind_assoc]
  rw [if_pos (show ([] : List (Sem Value × Sem Value)).isEmpty = true from rfl)]
  refine wpAny_bind (wpAny_pure ?_)
  dsimp only
  refine wpAny_bind (wpAny_bind (wpAny_alloc ?_))
  refine wpAny_bind (wpAny_holding (wpAny_bind (thn (ha.run pins _ σ _ _ I1 (q _ hn)) fun u s2 hu => ?_)))
  obtain ⟨x, H2, I2, rx, d, kvs, rfl, hp2, hd2, hpd, hz, q2⟩ := hu
  obtain rfl : u = .ref d := rx
  refine wpAny_bind (wpAny_standAt (wpAny_pure ?_))
  refine wpAny_bind (merge_steps (merge_inv I2 hp2 hd2 hpd (by simp; rw [sizeLine_eq]; omega) fun s3 I3 => ?_))
  refine wpAny_pure ?_
  dsimp only
  rw [if_pos (show ([] : List (Sem Value × Sem Value)).isEmpty = true from rfl)]
  generalize hpp : s.heap.objs.size = p at *
  refine wpAny_bind (wpAny_bind (wpAny_pure ?_))
  dsimp only
  refine wpAny_bind (wpAny_bind (wpAny_holding (wpAny_bind (thn (hb.run pins _ σ _ _ I3 q2) fun u s4 hu => ?_))))
  obtain ⟨y, H4, I4, ry, e, more, rfl, hp4, he4, hpe, hz2, q4⟩ := hu
  obtain rfl : u = .ref e := ry
  refine wpAny_bind (wpAny_standAt (wpAny_pure ?_))
  have hl := length_mergeK kvs []
  refine wpAny_bind (merge_steps (merge_inv I4 hp4 he4 hpe (by simp at hl; rw [sizeLine_eq]; omega) fun s5 I5 => ?_))
  refine wpAny_pure (wpAny_pure ?_)
  dsimp only
  rw [if_pos (show ([] : List (Sem Value × Sem Value)).isEmpty = true from rfl)]
  exact wpAny_bind (wpAny_pure (wpAny_pure ⟨.ref p, _, I5, rfl, q4⟩))
end
end FBR
end
section
set_option Elab.async false
set_option linter.all false
set_option maxRecDepth 100000
set_option maxHeartbeats 4000000
/-! ### sets of ints of lists and comprehensions; sorting -/
namespace FBR
open PySem PySem.Spec PyProof.Rows L2
section
variable {P : Program} {w : World} {A : Around} {E : Value → Shared → Prop} {s : Shared}
abbrev mt (w : World) : Obj := { cls := .type "set", dict := none, data := .set #[] 0 (.fresh 0 0 (!w.params.followText "set-order")) }
/-- what set(ns) is to leave: the set at S, all else as it stood -/
abbrev Made (w : World) (ns : List Int) (S : Addr) (g : Heap) (s s' : Shared) : Prop := ∃ (h' : Heap) (tk c : Nat), s' = { s with heap := h', toks := tk } ∧ SetR w h' S (fun j => decide (j ∈ ns)) c ∧ c ≤ ns.length ∧ ∀ b o, g.get? b = some o → h'.get? b = some o
/-- the new set's own start, over a list -/
theorem init_ls {A : Around} {g : Heap} {l : Addr} {items : Array Value} {ns : List Int} (hh : A.handled = none) (hl : g.IsList l items) (hit : IntsAre items.toList ns) (hb : ns.length + 1 < scanBound) (hs : s.heap = g.push (mt w)) :
    wpAny (model P w) A (Builtin.«set.__init__» ⟨[.ref g.objs.size, .ref l], []⟩) (fun r s' => r = .done (.ret .none) ∧ Made w ns g.objs.size g s s') E s := by
  have len : items.size = ns.length := by rw [← IntsAre.length hit, Array.length_toList]
  obtain ⟨g0, gs, d0, t0, o0⟩ := s
  cases hs
  have lS : l < g.objs.size := let ⟨_, e, _⟩ := hl; Heap.lt_size e
  have gS : (g.push (mt w)).get? g.objs.size = some (mt w) := Heap.get?_push_size _ rfl
  have ls : (g.push (mt w)).IsList l items := hl.push _
  have sz : (g.push (mt w)).objs.size = g.objs.size + 1 := Heap.size_push ..
  obtain ⟨⟨c0, dd, da, sl⟩, gl, ec, nl, ed⟩ := id ls
  cases ec
  cases ed
  have k1 := F.sub_list_set
  have k2 := F.sub_list_frozenset
  have k3 : (Value.type "list" == .type "dict") = false := by decide
  unfold Builtin.«set.__init__» noKeywords Builtin.Frozenset.updateFrom
  generalize hP : pyIter = PI
  wp_walk
  subst hP
  refine wpAny_pyIter_list ls (wpAny_bind (wpAny_runValue ?_))
  have ne : ∀ b, b < g.objs.size + 1 → b ≠ (g.push (mt w)).objs.size := fun b hb z => by rw [z, sz] at hb; exact Nat.lt_irrefl _ hb
  have val : ∀ i v, items[i]? = some v → ∃ k t, ns[i]? = some k ∧ v = Value.int k t := fun i v e => by
    obtain ⟨t, z⟩ := IntsAre.int_at hit i v (by simpa using e)
    have lt : i < ns.length := len ▸ (Array.getElem?_eq_some_iff.mp e).1
    exact ⟨ns[i], t, List.getElem?_eq_getElem lt, by rw [z, List.getD_eq_getElem?_getD, List.getElem?_eq_getElem lt]; rfl⟩
  refine set_update_ints (Walks.toS (Walks.list (by simp [hh]) _ l (ne l (Nat.lt_succ_of_lt lS)) items)) g.objs.size (fun z => ?_) ns len hb val (items.size - 0) 0 _ (by omega) (Nat.zero_le _)
    ⟨⟨_, Heap.get?_push_size _ rfl, rfl, rfl⟩, ls.push _⟩ ⟨0, Nat.le_refl 0, setR_new_at (Heap.get?_push_of_some _ gS)⟩ fun s' c mv hc R => ?_
  · rcases List.mem_cons.mp z with z | z
    · exact ne _ (Nat.lt_succ_self _) z
    · exact Nat.lt_irrefl _ (List.mem_singleton.mp z ▸ lS)
  · obtain ⟨h', g', d', tk, o'⟩ := s'
    obtain rfl : g' = gs := mv.gens
    obtain rfl : d' = d0 := mv.drawn
    obtain rfl : o' = o0 := mv.os
    refine wpAny_pure (wpAny_pure ⟨rfl, h', tk, c, rfl, R, len ▸ hc, fun b o e => ?_⟩)
    have lt := Heap.lt_size e
    refine mv.heap b o (fun z => ?_) (Heap.get?_push_of_some _ (Heap.get?_push_of_some _ e))
    rcases List.mem_cons.mp z with z | z
    · exact Nat.lt_irrefl _ (z ▸ lt)
    · exact ne b (Nat.lt_succ_of_lt lt) (List.mem_singleton.mp z)
theorem call_set_lsI {l : Addr} {items : Array Value} (ns : List Int) {Q : Value → Shared → Prop} (hh : A.handled = none) (hl : s.heap.IsList l items) (hit : IntsAre items.toList ns) (hb : ns.length + 1 < scanBound)
    (h : ∀ (h' : Heap) (tk c : Nat), SetR w h' s.heap.objs.size (fun j => decide (j ∈ ns)) c → c ≤ ns.length → (∀ b o, s.heap.get? b = some o → h'.get? b = some o) → Q (.ref s.heap.objs.size) { s with heap := h', toks := tk }) : wpAny (model P w) A (call (.type "set") [.ref l]) Q E s := by
  have c := F.called_set
  obtain ⟨_, _, k1⟩ := c.mro
  have k := And.intro c.made (And.intro c.sub (And.intro c.notType (And.intro c.canCreate (F.typeCall_set_1 (.ref l)))))
  obtain ⟨k2, k3, k4, k5, k6⟩ := k
  refine wpAny_call (codeAny_of_tree (wpAny_pure ⟨Code.quiet_builtin _ (by decide +kernel), codeAny_builtin F.entry_type_call (Around.under_plain (weight_type_call_type "set" [.ref l] []) rfl ▸ ?_)⟩))
  repeat any_goals first | assumption | wp_step
  refine codeAny_mono (code_set_led1 (.ref l) (E := E) (Q₁ := fun v s1 => v = .ref s.heap.objs.size ∧ s1 = { s with heap := s.heap.push (mt w) }) ⟨rfl, rfl⟩) fun r s1 q => ?_
  rcases r with e | _ | _ | _ | v
  all_goals first | exact q.elim | exact q | skip
  obtain ⟨rfl, rfl⟩ := q
  have ty : Shared.TypeIs { s with heap := s.heap.push (mt w) } (.ref s.heap.objs.size) "set" := ⟨_, Heap.get?_push_size _ rfl, rfl⟩
  have ki := F.called_set.init.lookup
  have kb := F.called_set.init.bind (.ref s.heap.objs.size)
  repeat any_goals first | assumption | wp_step
  refine codeAny_mono (codeAny_call_builtin (R := wants (fun r s2 => r = .none ∧ Made w ns s.heap.objs.size s.heap { s with heap := s.heap.push (mt w) } s2) E) F.called_set.init.plain F.entry_set_init (check_set_init_1 ty ?_)) fun r s2 q => ?_
  · exact wpAny_mono (init_ls (by first | exact hh | simp [hh]) hl hit hb rfl) (fun fin s2 q => by obtain ⟨rfl, q⟩ := q; exact ⟨rfl, q⟩) fun _ _ z => z
  · rcases r with e | _ | _ | _ | v
    all_goals first | exact q.elim | exact q | skip
    obtain ⟨rfl, h', tk, c, rfl, R, hc, kp⟩ := q
    repeat any_goals first | assumption | wp_step
    exact h _ _ _ R hc kp
end
section
variable {X : Cx}
/-- set(xs), xs a list of ints -/
def rSetL (K : PySem.W.Frag) (w : World) : List V → Hp → VK → Prop := fun vs H Q => ∃ (l : Addr) (ns : List Int), vs = [V.ref l] ∧ SqL K H l (ns.map V.int) ∧ ns.length + 1 < scanBound ∧
  ∀ p c, H p = none → c ≤ ns.length → Q (.ref p) (upd H p (SetO w p (fun j => decide (j ∈ ns)) c))
theorem cr_setL (hc : X.calm = true) : CallR X (.type "set") (rSetL X.K X.w) := by
  intro pins s σ H vs us Q I r h
  obtain ⟨l, ns, rfl, hs, hb, q⟩ := h
  obtain ⟨its, rv, pl, hz⟩ := I.list hs
  rw [Vals.ref1 r]
  refine call_set_lsI (P := X.prog) (w := X.w) ns (I.ok.hd hc) pl.isList (by simpa using ints_of_vals rv) hb fun h' tk c hS hcl hk => ?_
  exact ⟨.ref s.heap.objs.size, upd H s.heap.objs.size (SetO X.w s.heap.objs.size (fun j => decide (j ∈ ns)) c), I.laid (t' := tk) hk (Nat.le_refl _) (setO_new hS), rfl, q _ c (I.hok.fresh (Nat.le_refl _)) hcl⟩
end
end FBR
end
section
set_option Elab.async false
set_option linter.all false
set_option maxRecDepth 100000
set_option maxHeartbeats 4000000
/-! ### sets of ints by a comprehension -/
namespace FBR
open PySem PySem.Spec PyProof.Rows L2
section
variable {X : Cx} {pins : List (Addr × Obj)} {σ : L2.St} {H : Hp} {s : Shared}
/-- the set S, grown by c -/
abbrev insS (S : Int → Bool) (c : Int) : Int → Bool := fun j => S j || decide (j = c)
abbrev insN (S : Int → Bool) (n : Nat) (c : Int) : Nat := if S c = true then n else n + 1
abbrev set0 (w : World) (D : Addr) : HO := SetO w D (fun _ => false) 0
theorem addI_ok {E : Value → Shared → Prop} {Q : Value → Shared → Prop} {D : Addr} {S : Int → Bool} {n : Nat} {c : Int} {t : Tok} (I : Inv X pins σ H s) (hD : H D = some (SetO X.w D S n)) (room : n + 1 < scanBound)
    (h : ∀ s', Inv X pins σ (upd H D (SetO X.w D (insS S c) (insN S n c))) s' → Q .none s') : wpAny (model X.prog X.w) X.A (call (.builtin "set.add") [.ref D, .int c t]) Q E s :=
  setR_add (setO_get I hD) room fun h' sb R => h _ (I.write (e := D) (t' := s.toks + 1) (by rw [hD]; trivial) (Or.inl rfl) (fun b u n e => by rw [sb.2 b n]; exact e) (let ⟨o, _, _, _, e, _⟩ := R; ⟨o, e⟩) (setO_new R))
/-- the end of a turn: e's int goes to the set at D (if the tests hold), N is to stand -/
abbrev addTo (w : World) (D : Addr) (te : TE) (N : Hp → Prop) (σ : L2.St) (b : Bool) (H : Hp) : Prop :=
  if b = true then te σ H fun y H' => ∃ (c : Int) (S : Int → Bool) (n : Nat), y = .int c ∧ H' D = some (SetO w D S n) ∧ n + 1 < scanBound ∧ N (upd H' D (SetO w D (insS S c) (insN S n c))) else N H
/-- a walk over J that fills the set at D; m gets less; at the end: Z -/
abbrev Fills (w : World) (J : It) (g : TG) (tt : TT) (te : TE) (vs : List Nat) (σ : L2.St) (D : Addr) (Z : Hp → Prop) (W : Nat → Nat → Hp → Prop) : Prop :=
  ∀ i m H, W i m H → (J.stop i H ∧ Z H) ∨ (J.go i H ∧ ∃ N : Hp → Prop, (∀ H', N H' → ∃ k, k < m ∧ W (i + 1) k H') ∧
    ∀ x H', J.yld i H x H' → g x (wipe σ vs) H' fun σ2 H2 => wipe σ2 vs = wipe σ vs ∧ tt σ2 H2 (addTo w D te N σ2))
def tScI (w : World) (wi : TI) (g : TG) (tt : TT) (te : TE) (vs : List Nat) : TE := fun σ H Q => wi σ H fun J H1 => ∀ D, H1 D = none → ∃ W : Nat → Nat → Hp → Prop, (∃ m, W 0 m (upd H1 D (set0 w D))) ∧ Fills w J g tt te vs σ D (Q (.ref D)) W
end
/-! what stands at the head of a turn of a block (any container): Head; a turn is over: Head.next -/
section
variable {X B : Cx} {fp : List Addr} {tn : Nat → Heap → Prop} {τ ρ : L2.St} {i : Nat} {H : Hp} {s : Shared}
structure Head (B : Cx) (fp : List Addr) (tn : Nat → Heap → Prop) (τ : L2.St) (i : Nat) (H : Hp) (s : Shared) : Prop where
  inv : Inv B [] τ H s
  stands : tn i s.heap
  off : ∀ b ∈ fp, H b = none
theorem Head.own {s0 : Shared} {H0 : Hp} {scope : Scope} {ce : Env} (h : Head (X.blk s0 H0 scope ce fp) fp tn τ i H s) (b : Addr) (hb : b ∈ fp) : FpOk (X.blk s0 H0 scope ce fp) [] H b := by
  have q := h.inv.ok.exf b hb
  exact ⟨h.off b hb, q.1, h.inv.ok.exfs b hb, Or.inl hb, q.2, fun p hp => nomatch (show p ∈ ([] : List (Addr × Obj)) from hp)⟩
theorem Head.next {P : Program} {w : World} {K : PySem.W.Frag} {tg : Expr} {J : It} {it : Addr} {h : Heap} {σ : L2.St} {vs : List Nat} (T : Turn P w K tg J fp it tn) (st : tn i h) (I : Inv B ([] ++ pinsAt fp h) ρ H s) (hw : wipe ρ vs = wipe σ vs) : Head B fp tn (wipe σ vs) i H s := by
  have pin : ∀ b ∈ fp, ∀ o, h.get? b = some o → s.heap.get? b = some o ∧ H b = none := fun b hb o e => by
    have q := I.pin (b, o) (List.mem_append.mpr (Or.inr (List.mem_append.mpr (Or.inr (mem_pinsAt hb e)))))
    exact ⟨q.1, q.2.1⟩
  refine ⟨Inv.weak (Inv.unpinned (pins := []) I) (by rw [← hw, wipe_length]) fun j v e => ?_, T.keep i h _ st fun b hb o e => (pin b hb o e).1, fun b hb => ?_⟩
  · exact (wipe_some (by rw [hw]; exact e)).1
  · obtain ⟨o, e, _⟩ := T.obj i h st b hb
    exact (pin b hb o e).2
end
section
variable {X : Cx} {elt tg iter : Expr} {ifs : List Expr} {scope : Scope} {pos : Pos} {g : TG} {tt : TT} {te : TE} {vs : List Nat} {fp : List Addr} {tn : Nat → Heap → Prop} {σ : L2.St}
/-- the block's loop -/
theorem loopI {s0 : Shared} {H0 : Hp} {ce : Env} {J : It} {it D : Addr} {Z : Hp → Prop} {R : Result → Shared → Prop} {W : Nat → Nat → Hp → Prop} (hc : X.calm = true) (T : Turn X.prog X.w X.K tg J fp it tn)
    (pg : PG (X.blk s0 H0 scope ce fp) tg g) (pt : PTs (X.blk s0 H0 scope ce fp) ifs tt) (pe : PE (X.blk s0 H0 scope ce fp) elt te) (fill : Fills X.w J g tt te vs σ D Z W)
    (out : ∀ (H : Hp) (s : Shared), Inv (X.blk s0 H0 scope ce fp) [] (wipe σ vs) H s → Z H → R (.ok .next) s) {m : Nat} {H : Hp} {s : Shared} (hd : Head (X.blk s0 H0 scope ce fp) fp tn (wipe σ vs) 0 H s) (w0 : W 0 m H) :
    codeAny (model X.prog X.w) X.A (.compLoop (.SetComp elt [⟨tg, iter, ifs, 0⟩] scope pos) 0 (.ref it) (.ref D) ce) R s := by
  refine PpSet.compLoopS_any (fun m s => ∃ i H, Head (X.blk s0 H0 scope ce fp) fp tn (wipe σ vs) i H s ∧ W i m H) (fun m s ⟨i, H, hd, hW⟩ => ?_) m ⟨0, H, hd, w0⟩
  rcases fill i m H hW with ⟨js, z⟩ | ⟨jg, N, less, step⟩
  · refine thnF (T.done (X.blk s0 H0 scope ce fp) rfl rfl rfl hc i [] s _ H (fun _ _ => False) hd.inv hd.own hd.stands js) fun r s1 q => ?_
    rw [q.1]
    exact out H s1 q.2 z
  · refine thnF (T.item (X.blk s0 H0 scope ce fp) rfl rfl rfl hc i [] s _ H (fun _ _ => False) hd.inv hd.own hd.stands jg) fun r s1 q => ?_
    obtain ⟨u, hu, q⟩ := q
    rw [hu]
    refine thnF q fun _ s2 q2 => ?_
    obtain ⟨x, H2, I2, rx, y, st2, off2⟩ := q2
    have over : ∀ {ρ : L2.St} {H' : Hp} {s' : Shared}, wipe ρ vs = wipe σ vs → N H' → Inv (X.blk s0 H0 scope ce fp) ([] ++ pinsAt fp s2.heap) ρ H' s' → ∃ k, k < m ∧ ∃ i H, Head (X.blk s0 H0 scope ce fp) fp tn (wipe σ vs) i H s' ∧ W i k H := fun hw n I =>
      let ⟨k, l, z⟩ := less _ n
      ⟨k, l, _, _, Head.next T st2 I hw, z⟩
    have P2 := I2.pinned (Head.own ⟨I2, st2, off2⟩) (T.obj _ _ st2)
    refine thnF (pg.run _ s2 _ H2 x u _ P2 rx (step x H2 y)) fun _ s3 q3 => ?_
    obtain ⟨ρ, H3, I3, hw, q3⟩ := q3
    refine thnF (pt.run _ s3 ρ H3 _ I3 q3) fun b s4 q4 => ?_
    obtain ⟨H4, I4, q4⟩ := q4
    by_cases hb : b = true
    · rw [if_pos hb]
      rw [addTo, if_pos hb] at q4
      refine thnF (pe.run _ s4 ρ H4 _ I4 q4) fun z s5 q5 => ?_
      obtain ⟨v, H5, I5, rz, c, S, n, ev, hS, room, n5⟩ := q5
      rw [ev] at rz
      obtain ⟨t, ez⟩ := rz
      rw [ez]
      exact addI_ok (X := X.blk s0 H0 scope ce fp) I5 hS room fun s6 I6 => over hw n5 I6
    · rw [if_neg hb]
      rw [addTo, if_neg hb] at q4
      exact over hw q4 I4
theorem pe_scI {own : List (PySem.Str × Nat)} {wi : TI} (hc : X.calm = true) (hN : X.N.Nodup) (hi : PI X tg iter wi) (ok : BlkOk X.N X.env.scope scope own)
    (hg : ∀ (s : Shared) (H : Hp) (C : Addr) (cl : List (PySem.Str × Addr)) (fp : List Addr), PG (X.blk s H scope (compEnvC scope cl C X.env) fp) tg g)
    (ht : ∀ (s : Shared) (H : Hp) (C : Addr) (cl : List (PySem.Str × Addr)) (fp : List Addr), PTs (X.blk s H scope (compEnvC scope cl C X.env) fp) ifs tt)
    (he : ∀ (s : Shared) (H : Hp) (C : Addr) (cl : List (PySem.Str × Addr)) (fp : List Addr), PE (X.blk s H scope (compEnvC scope cl C X.env) fp) elt te)
    (hs : ∀ x, foldedSetIterable iter X.env x = pure x := by intro _; rfl) : PE X (.SetComp elt [⟨tg, iter, ifs, 0⟩] scope pos) (tScI X.w wi g tt te (own.map (·.2))) := by
  refine ⟨fun pins s σ H Q I h => ?_⟩
  rw [PpSet.eval_SetComp]
  have fr : ∀ y ∈ scope.names, y.2 = .free → ∃ c, X.env.cells.lookup y.1 = some c := fun y hy e => (ok.free y hy e).elim (fun k => I.ok.has _ (Or.inl k)) fun k => I.ok.has _ (Or.inr k)
  refine wpAny_comprehension_free (use := none) rfl hs (closure_ok fr) ok.kind (fun y hy e => e ▸ ok.uniq y hy) (thn (hi.run pins s σ H _ I h) fun _ _ q => thn q fun _ s1 q1 => ?_)
  obtain ⟨it, fp, tn, J, H1, rfl, I1, T, st, own1, q1⟩ := q1
  obtain ⟨W, ⟨m, w0⟩, fill⟩ := q1 s1.heap.objs.size (I1.hok.fresh (Nat.le_refl _))
  refine PpSet.newSet_ok (newEnv_comp ?_)
  have I2 := I1.laid (t' := s1.toks) (o := set0 X.w s1.heap.objs.size) (fun _ _ e => Heap.get?_push_of_some _ e) (Nat.le_refl _) (setO_new (setR_fresh X.w))
  have lt : ∀ b ∈ fp, b < s1.heap.objs.size := fun b hb => let ⟨_, e, _⟩ := T.obj _ _ st b hb; Heap.lt_size e
  have own2 : ∀ b ∈ fp, FpOk X pins (upd H1 s1.heap.objs.size (set0 X.w s1.heap.objs.size)) b := fun b hb => ⟨(upd_ne (Nat.ne_of_lt (lt b hb))).trans (own1 b hb).1, (own1 b hb).2⟩
  have B := block_start I2 ok hN fun b hb => ⟨own2 b hb, Nat.lt_of_lt_of_le (lt b hb) (by rw [Heap.size_push]; exact Nat.le_succ _)⟩
  have hd : Head _ fp tn _ 0 _ _ := ⟨B, T.keep _ _ _ st fun b _ o e => pushCells_keeps _ _ _ _ (Heap.get?_push_of_some _ (Heap.get?_push_of_some _ e)), fun b hb => (own2 b hb).1⟩
  have loop := loopI (iter := iter) (pos := pos) (R := compPost (model X.prog X.w) X.A X.xe none (EP X pins σ Q) (.ref s1.heap.objs.size) (s1.heap.push { cls := .type "set", dict := none, data := .set #[] 0 (.fresh 0 0 (!X.w.params.followText "set-order")) }).objs.size) hc T (hg _ _ _ _ _) (ht _ _ _ _ _) (he _ _ _ _ _) fill (fun H' s' I' z => ?_) hd w0
  · exact PpSet.codeAny_compStart_set loop (T.self X.A 0 _ _ _ hd.stands loop)
  · have back : Inv X pins σ H' s' := I2.call' (ch := fp) I'.os I'.base I'.hok I'.bare fun b hb => let f := (own2 b hb).2; ⟨f.2.2.1, f.1, f.2.2.2.1, f.2.2.2.2⟩
    obtain ⟨mm, hn, _⟩ := I'.loc
    have C := I2.fpOk (H' := H') (Nat.le_refl _) I'.free
    exact ⟨mm, hn, fun h' sb => ⟨.ref _, H', back.turned (t' := s'.toks) (fun b o nb e => by rw [sb.2 b nb]; exact e) C.1 C.2.1 C.2.2.2.1 C.2.2.2.2.1 C.2.2.2.2.2, rfl, z⟩⟩
/-- by what holds ahead of each turn; the list stays -/
theorem scI_list {w : World} {K : PySem.W.Frag} {a : Addr} {xs : List V} {H1 : Hp} {D : Addr} {Z : Hp → Prop} (Pv : Nat → Hp → Prop) (h0 : Pv 0 (upd H1 D (set0 w D))) (hl : ∀ i H, i ≤ xs.length → Pv i H → SqL K H a xs)
    (hs : ∀ i x H, xs[i]? = some x → Pv i H → g x (wipe σ vs) H fun σ2 H2 => wipe σ2 vs = wipe σ vs ∧ tt σ2 H2 (addTo w D te (Pv (i + 1)) σ2)) (hd : ∀ H, Pv xs.length H → Z H) :
    ∃ W : Nat → Nat → Hp → Prop, (∃ m, W 0 m (upd H1 D (set0 w D))) ∧ Fills w (Itl K a) g tt te vs σ D Z W := by
  refine ⟨fun i m H => i + m = xs.length ∧ Pv i H, ⟨xs.length, Nat.zero_add _, h0⟩, fun i m H ⟨e, p⟩ => ?_⟩
  have hi : i ≤ xs.length := by omega
  by_cases lt : i < xs.length
  · exact .inr ⟨⟨xs, xs[i], hl i H hi p, List.getElem?_eq_getElem lt⟩, Pv (i + 1), fun H' p' => ⟨m - 1, by omega, by omega, p'⟩, fun x H' y => by
      obtain ⟨rfl, y⟩ := y
      exact hs i x _ (y xs (hl i _ hi p)) p⟩
  · have e2 : i = xs.length := by omega
    subst e2
    exact .inl ⟨⟨xs, hl _ H hi p, Nat.le_refl _⟩, hd H p⟩
end
end FBR
end
section
set_option Elab.async false
set_option linter.all false
set_option maxRecDepth 100000
set_option maxHeartbeats 1000000
/-! ### sorted(xs) of rows of ints (tuples, lists), any number -/
namespace FBR
open PySem PySem.Spec PyProof.Rows L2
open PySem.W (EachIs dataLe dataLt AllAlike Sortable)
theorem reads_ints {h : Heap} : ∀ {ns : List Int} {us : List Value}, Vals (ns.map V.int) us → ReadsAll h us (ns.map PyData.int) []
  | [], _, r => by cases r; exact .nil
  | n :: ns, _, r => by
    cases r with
    | cons a b =>
      obtain ⟨t, rfl⟩ := a
      exact .cons (.int n t) (reads_ints b)
theorem dataLe_tups {β : Type} (x : β → List Int) : dataLe false (fun b => .tuple ((x b).map .int)) = fun p q => decide (x p ≤ x q) := by
  rw [← PySem.W.dataLe_rows x]
  funext p q
  rfl
theorem each_of {β : Type} {f : β → V} {R : Value → β → Prop} : ∀ {bs : List β} {us : List Value}, Vals (bs.map f) us → (∀ b ∈ bs, ∀ u, RelV (f b) u → R u b) → EachIs R us bs
  | [], _, r, _ => by cases r; exact .nil
  | b :: bs, _, r, h => by
    cases r with
    | cons a t => exact .cons (h b List.mem_cons_self _ a) (each_of t fun c hc => h c (List.mem_cons_of_mem _ hc))
theorem vals_each {β : Type} {f : β → V} : ∀ {bs : List β} {us : List Value}, EachIs (fun u b => RelV (f b) u) us bs → Vals (bs.map f) us
  | _, _, .nil => .nil
  | _, _, .cons a t => .cons a (vals_each t)
abbrev Rw := List Int × Addr
def leR (x y : Rw) : Bool := decide (x.1 ≤ y.1)
section
variable {X : Cx}
def rSortRw (K : PySem.W.Frag) (Sq : PySem.W.Frag → Hp → Addr → List V → Prop) (ne : Bool) : List V → Hp → VK → Prop := fun vs H Q => ∃ (a : Addr) (bs : List Rw), vs = [V.ref a] ∧ SqL K H a (bs.map fun b => V.ref b.2) ∧
  (∀ b ∈ bs, (ne = true → b.1 ≠ []) ∧ Sq K H b.2 (b.1.map V.int)) ∧ ∀ p, H p = none → Q (.ref p) (upd H p (.lst ((bs.mergeSort leR).map fun b => V.ref b.2)))
theorem sort_core (hu : X.A.units + 64 < cLine) {Sq : PySem.W.Frag → Hp → Addr → List V → Prop} {ne : Bool} (enc : List Int → PyData) (he : ∀ n m, PySem.W.alike (enc n) (enc m) = true) (hde : dataLe false (fun b : Rw => enc b.1) = leR) (hdp : ∀ n, (enc n).depth ≤ 10)
    (hso : ∀ bs : List Rw, (∀ b ∈ bs, ne = true → b.1 ≠ []) → Sortable (bs.map fun b => enc b.1))
    (hrd : ∀ pins s σ H b n, Inv X pins σ H s → Sq X.K H b (n.map V.int) → ∃ as, Reads s.heap (.ref b) (enc n) as) : CallR X (.builtin "sorted") (rSortRw X.K Sq ne) := by
  intro pins s σ H vs us Q I r h
  obtain ⟨a, bs, rfl, hs, hb, q⟩ := h
  obtain ⟨its, rv, hl, hz⟩ := I.list hs
  rw [Vals.ref1 r]
  rw [List.length_map] at hz
  refine PySem.W.sorted_data (enc := fun b : Rw => enc b.1) (R := fun u b => RelV (V.ref b.2) u) hl.isList (each_of rv fun _ _ _ z => z) (each_of rv fun b m u z => ?_) (AllAlike.of fun b c => he b.1 c.1) (hso bs fun b m => (hb b m).1) hz
    (fun b m => by have := hdp b.1; show X.A.units + 2 + (enc b.1).depth < cLine; omega) fun out ho eo => ?_
  · obtain rfl : u = .ref b.2 := z
    exact hrd pins s σ H b.2 b.1 I (hb b m).2
  · rw [hde] at eo
    obtain ⟨ep, hp⟩ := PyProof.Rows.sortedAll_at s.heap its out.toArray
    have hv := vals_each (f := fun b : Rw => V.ref b.2) eo
    have hlen : ((bs.mergeSort leR).map fun b => V.ref b.2).length ≤ sizeLine := by
      rw [List.length_map, List.length_mergeSort]
      exact hz
    exact ⟨.ref (s.heap.objs.size + 1), upd H (s.heap.objs.size + 1) (.lst ((bs.mergeSort leR).map fun b => V.ref b.2)), I.laid (t' := s.toks) (fun _ _ => PyProof.Rows.sortedAll_old) (Nat.le_succ _) ⟨hlen, out, ep, hv, hp⟩, rfl, q _ (I.hok.fresh (Nat.le_succ _))⟩
theorem depth_row (n : List Int) : (PyData.tuple (n.map .int)).depth ≤ 10 ∧ (PyData.list (n.map .int)).depth ≤ 10 := by
  simp [PyData.depth, PySem.W.depth_ints]
theorem cr_sortTups (hu : X.A.units + 64 < cLine) : CallR X (.builtin "sorted") (rSortRw X.K SqT true) := by
  refine sort_core hu (fun n => .tuple (n.map .int)) (fun n m => PySem.W.alike_ints n m) (dataLe_tups _) (fun n => (depth_row n).1) (fun bs h => .inl fun d hd => ?_) fun pins s σ H b n I h => ?_
  · obtain ⟨b, m, rfl⟩ := List.mem_map.mp hd
    cases q : b.1 with
    | nil => exact absurd q (h b m rfl)
    | cons x r => exact ⟨_, _, by rw [List.map_cons]⟩
  · obtain ⟨its, rv, ⟨o, ho, hc, k, hd⟩, _⟩ := I.tuple h
    exact ⟨_, reads_tuple_at ho hc hd (by simpa using reads_ints rv)⟩
theorem cr_sortLists (hu : X.A.units + 64 < cLine) : CallR X (.builtin "sorted") (rSortRw X.K SqL false) := by
  refine sort_core hu (fun n => .list (n.map .int)) (fun n m => PySem.W.alike_ints n m) (PySem.W.dataLe_rows _) (fun n => (depth_row n).2) (fun bs h => .inr fun d hd => ?_) fun pins s σ H b n I h => ?_
  · obtain ⟨b, m, rfl⟩ := List.mem_map.mp hd
    exact ⟨by simp, fun xs => by simp⟩
  · obtain ⟨its, rv, pl, _⟩ := I.list h
    obtain ⟨o, ho, hc, k, hd⟩ := pl.isList
    exact ⟨_, reads_list_at ho hc hd (by simpa using reads_ints rv)⟩
end
end FBR
end
section
set_option Elab.async false
set_option linter.all false
set_option maxRecDepth 100000
set_option maxHeartbeats 1000000
/-! ### y = {k: v for ..} -/
namespace FBR
open PySem PySem.Spec PyProof.Rows L2
section
variable {X : Cx}
theorem ps_setDc {i : Nat} {y : Str} {py : Pos} {kx vx tg iter : Expr} {ifs : List Expr} {scope : Scope} {own : List (Str × Nat)} {pos spos : Pos} {wi : TI} {g : TG} {tt : TT} {tk tv : TE} (hc : X.calm = true) (hN : X.N.Nodup) (hy : X.N[i]? = some y) (hyl : X.env.scope.names.lookup y = some .local)
    (hsw : swapsWith (.DictComp kx vx [⟨tg, iter, ifs, 0⟩] scope pos) (some (.Name y py)) spos.line X.env = pure true) (hi : PI X tg iter wi) (ok : BlkOk X.N X.env.scope scope own)
    (hg : ∀ (s : Shared) (H : Hp) (C : Addr) (cl : List (Str × Addr)) (fp : List Addr), PG (X.blk s H scope (compEnvC scope cl C X.env) fp) tg g) (ht : ∀ (s : Shared) (H : Hp) (C : Addr) (cl : List (Str × Addr)) (fp : List Addr), PTs (X.blk s H scope (compEnvC scope cl C X.env) fp) ifs tt)
    (hk : ∀ (s : Shared) (H : Hp) (C : Addr) (cl : List (Str × Addr)) (fp : List Addr), PE (X.blk s H scope (compEnvC scope cl C X.env) fp) kx tk) (he : ∀ (s : Shared) (H : Hp) (C : Addr) (cl : List (Str × Addr)) (fp : List Addr), PE (X.blk s H scope (compEnvC scope cl C X.env) fp) vx tv)
    (hs : ∀ x, foldedSetIterable iter X.env x = pure x := by intro _; rfl) :
    PS X (.Assign [.Name y py] (.DictComp kx vx [⟨tg, iter, ifs, 0⟩] scope pos) spos) (tAsg (tDc wi g tt tk tv (own.map (·.2))) (gName i)) := by
  refine ⟨fun pins s σ H D I h => ?_⟩
  have core := dc_core (pos := pos) (use := some (assign (.Name y py) X.env)) (pos' := firstIterPos [⟨tg, iter, ifs, 0⟩] pos) (Qf := fun _ s' => SP X pins D .next s') hc hN I hi ok hg ht hk he hs (show tDc wi g tt tk tv (own.map (·.2)) σ H (fun x H1 => gName i x σ H1 D.nx) from h) fun L C s1 m H1 I1 q hn f => ?_
  · rw [exec_Assign_Name_used _ _ _ _ hsw]
    exact wpAny_bind (wpAny_standAt (wpAny_bind (wpAny_bind (thn core fun _ _ q => wpAny_pure (wpAny_pure q)))))
  · refine wpAny_assign_Name (store_ok2 (v := V.ref L) I1 hN hy (.inl hyl) rfl (fun s2 I2 ⟨a, sb, ha⟩ => ?_) (.inr hyl))
    have away : C ≠ a := ha.elim (fun z => z ▸ f.2.1) fun z e => f.2.2.2.2.1 y a z e.symm
    exact ⟨m, hn.sameBut sb away, fun h3 sb3 => ⟨_, H1, I2.turned (t' := s2.toks) (fun b o n e => by rw [sb3.2 b n]; exact e) f.1 f.2.1 f.2.2.2.1 f.2.2.2.2.1 f.2.2.2.2.2, q⟩⟩
theorem sw_trueD {kx vx : Expr} {gs : List Comprehension} {scope : Scope} {pos py : Pos} {y : Str} {l : Nat} {env : Env} (hk : env.scope.kind = .function) (hy : env.scope.names.lookup y = some .local) (hl : (py.line == pos.line) = true)
    (ha : (scope.names.any fun (n, k) => n == y && (k == .local || k == .cell)) = false) : swapsWith (.DictComp kx vx gs scope pos) (some (.Name y py)) l env = pure true := by
  simp only [swapsWith, show env.blockKind = .function by rw [Env.blockKind, hk]; rfl, show env.kindOf y = some .local from hy, ha, Expr.pos, hl]
  rfl
end
/-- the end of a turn: the pair goes to the dict at D (if the tests hold), N is to stand -/
abbrev putTo (D : Addr) (tk tv : TE) (N : Hp → Prop) (σ : L2.St) (b : Bool) (H : Hp) : Prop :=
  if b = true then tk σ H fun y H1 => tv σ H1 fun z H2 => ∃ kvs k, y = kV k ∧ H2 D = some (.dK kvs) ∧ kvs.length < sizeLine ∧ N (upd H2 D (.dK (putK kvs k z))) else N H
/-- over a list that stays -/
theorem dc_list {K : PySem.W.Frag} {a : Addr} {xs : List V} {g : TG} {tt : TT} {tk tv : TE} {vs : List Nat} {σ : L2.St} {H1 : Hp} {D : Addr} {Z : Hp → Prop} (Pv : Nat → Hp → Prop) (h0 : Pv 0 (upd H1 D (.dK []))) (hl : ∀ i H, i ≤ xs.length → Pv i H → SqL K H a xs)
    (hs : ∀ i x H, xs[i]? = some x → Pv i H → g x (wipe σ vs) H fun σ2 H2 => wipe σ2 vs = wipe σ vs ∧ tt σ2 H2 (putTo D tk tv (Pv (i + 1)) σ2)) (hd : ∀ H, Pv xs.length H → Z H) :
    ∃ W : Nat → Nat → Hp → Prop, (∃ m, W 0 m (upd H1 D (.dK []))) ∧ ∀ i m H, W i m H → ((Itl K a).stop i H ∧ Z H) ∨
      ((Itl K a).go i H ∧ ∃ N : Hp → Prop, (∀ H', N H' → ∃ k, k < m ∧ W (i + 1) k H') ∧ ∀ x H', (Itl K a).yld i H x H' → g x (wipe σ vs) H' fun σ2 H2 => wipe σ2 vs = wipe σ vs ∧ tt σ2 H2 (putTo D tk tv N σ2)) := by
  refine ⟨fun i m H => i + m = xs.length ∧ Pv i H, ⟨xs.length, Nat.zero_add _, h0⟩, fun i m H ⟨e, p⟩ => ?_⟩
  have hi : i ≤ xs.length := by omega
  by_cases lt : i < xs.length
  · exact .inr ⟨⟨xs, xs[i], hl i H hi p, List.getElem?_eq_getElem lt⟩, Pv (i + 1), fun H' p' => ⟨m - 1, by omega, by omega, p'⟩, fun x H' y => by
      obtain ⟨rfl, y⟩ := y
      exact hs i x _ (y xs (hl i _ hi p)) p⟩
  · have e2 : i = xs.length := by omega
    subst e2
    exact .inl ⟨⟨xs, hl _ H hi p, Nat.le_refl _⟩, hd H p⟩
end FBR
end
section
set_option Elab.async false
set_option linter.all false
set_option maxRecDepth 100000
set_option maxHeartbeats 1000000
/-! ### defs by their promises; rules in short -/
namespace FBQ
open PySem PySem.Spec PyProof.Rows L2 FBR
/-- the def at f keeps sp by at most level k; dvs: defaults that are filled in -/
structure DefOk (P : Program) (w : World) (K : PySem.W.Frag) (mg : Str → Option Value) (base : Heap) (k : Nat) (f : Addr) (ps : List Str) (dvs : List V) (sp : Sp) : Prop where
  ex : ∃ (fd : FuncData) (ds : List Value), FnOk P w K mg base CX0 k f fd ps sp ∧ Binds K fd ps ds ∧ Vals dvs ds
  kp : PySem.W.keepIn K (.ref f) = true
abbrev FD (K : PySem.W.Frag) (x qual : Str) (st : Stmt) (dvs : List V) (f : Addr) : Prop := ∃ fd, FunD K x qual (defArgs st) (defBody st) (defScope st) dvs [] f fd
theorem defOk {P : Program} {w : World} {K : PySem.W.Frag} {mg : Str → Option Value} {base : Heap} {x qual : Str} {st : Stmt} {f : Addr} {N ps : List Str} {k : Nat} {sp : Sp} (F : FD K x qual st [] f) (S : FnScope N ps (defScope st))
    (hb : ∀ (kV doc pm : Value) (an : Option Addr) (cdv ct : Value) (us : List Value), us.length = ps.length → bindArgs (PySem.W.fnOf x qual (defArgs st) (defBody st) (defScope st) .none kV doc pm an cdv ct) ⟨us, []⟩ = pure (ps.zip us))
    (len : ∀ vs H Q E, sp vs H Q E → vs.length = ps.length)
    (hbody : ∀ (cdv : Value) (A : Around) (outer : List Env) (s : Shared) (H : Hp) (vs : List V) (Q : VK) (E : XK), Room k (A.deeper (envOfC qual (defScope st) s.heap.objs.size f cdv)) → sp vs H Q E →
      ∃ t, PSs (cxOf CX0 P w K mg base N qual (defScope st) f cdv A outer s H E).nox (defBody st) t ∧ t { nx := fun _ H' => Q .non H', rt := Q } (start N vs) H) : DefOk P w K mg base (k + 1) f ps [] sp := by
  obtain ⟨fd, F⟩ := F
  refine ⟨⟨fd, [], F.ok S len fun cdv A outer s H vs Q E hr h => ?_, F.bindsN hb, .nil⟩, F.kp⟩
  obtain ⟨t, h1, h2⟩ := hbody cdv A outer s H vs Q E hr h
  exact ⟨t, h1.nox, h2⟩
theorem DefOk.mono {P : Program} {w : World} {K : PySem.W.Frag} {mg : Str → Option Value} {base : Heap} {j k : Nat} {f : Addr} {ps : List Str} {dvs : List V} {sp : Sp} (D : DefOk P w K mg base j f ps dvs sp) (h : j ≤ k) : DefOk P w K mg base k f ps dvs sp := by
  obtain ⟨fd, ds, F, b, d⟩ := D.ex
  exact ⟨⟨fd, ds, F.mono h, b, d⟩, D.kp⟩
section
variable {X : Cx} {j k : Nat} {C f : Addr} {ps : List Str} {sp : Sp} {dvs : List V} {x m : Str} {p pos apos : Pos} {e o a b : Expr} {es : List Expr} {t : TA} {ta tb : TE}
abbrev DOk (X : Cx) := DefOk X.prog X.w X.K X.mg X.base
theorem pe_callD (D : DOk X j f ps dvs sp) (hr : Room k X.A) (hg : Gl X x) (hm : X.mg x = some (.ref f)) (ha : PA X (e :: es) t) (hj : j ≤ k := by first | decide | omega)
    (hdb : (x == ("__debug__" : Str)) = false := by decide) (he : starEach (e :: es) X.env = (false, eval e X.env) :: starEach es X.env := by rfl) (hpl : (backTo pos (starEach es X.env)).any (·.1) = false := by rfl) :
    PE X (.Call (.Name x p) (e :: es) [] pos) (tCall sp dvs E0 t) := by
  obtain ⟨fd, ds, F, hb, d⟩ := D.ex
  exact pe_call F (hr.mono hj) hg hm D.kp hb d pass0 ha hdb he hpl
theorem pe_methD {pl : Sem Bool} (he : PE X o ta) (c : Cls X.K C) (hm : Meth X.K C m f) (D : DOk X j f ps dvs sp) (hr : Room k X.A) (ha : PA X (e :: es) t) (hj : j ≤ k := by first | decide | omega)
    (hst : starEach (e :: es) X.env = (false, eval e X.env) :: starEach es X.env := by rfl) (hpl : (backTo pos (starEach es X.env)).any (·.1) = false := by rfl)
    (ht : eval (.Call (.Attribute o m apos) (e :: es) [] pos) X.env = (do
      let ov ← eval o X.env
      standAt apos.atName
      let (f, first) ← holding [ov] (getMethod ov m pl)
      callWith pos f first (backTo pos (starEach (e :: es) X.env)) (backToKw pos (keywordEach [] X.env))) := by rfl) :
    PE X (.Call (.Attribute o m apos) (e :: es) [] pos) (tMeth C m sp dvs E0 ta t) := by
  obtain ⟨fd, ds, F, hb, d⟩ := D.ex
  exact pe_meth he c hm F (hr.mono hj) hb d pass0 ha hst hpl ht
theorem pe_methD0 {pl : Sem Bool} (he : PE X o ta) (c : Cls X.K C) (hm : Meth X.K C m f) (D : DOk X j f ps dvs sp) (hr : Room k X.A) (hj : j ≤ k := by first | decide | omega)
    (ht : eval (.Call (.Attribute o m apos) [] [] pos) X.env = (do
      let ov ← eval o X.env
      standAt apos.atName
      let (f, first) ← holding [ov] (getMethod ov m pl)
      callWith pos f first (backTo pos (starEach [] X.env)) (backToKw pos (keywordEach [] X.env))) := by rfl) :
    PE X (.Call (.Attribute o m apos) [] [] pos) (tMeth C m sp dvs E0 ta tNil) := by
  obtain ⟨fd, ds, F, hb, d⟩ := D.ex
  exact pe_meth0 he c hm F (hr.mono hj) hb d pass0 ht
theorem pe_makeD (M : Mk X.K C f) (D : DOk X j f ps dvs sp) (hr : Room k X.A) (hg : Gl X x) (hm : X.mg x = some (.ref C)) (ha : PA X (e :: es) t) (hj : j + 1 ≤ k := by first | decide | omega)
    (hdb : (x == ("__debug__" : Str)) = false := by decide) (he : starEach (e :: es) X.env = (false, eval e X.env) :: starEach es X.env := by rfl) (hpl : (backTo pos (starEach es X.env)).any (·.1) = false := by rfl) :
    PE X (.Call (.Name x p) (e :: es) [] pos) (tMake C sp dvs E0 t) := by
  obtain ⟨fd, ds, F, hb, d⟩ := D.ex
  exact pe_make M F (hr.mono hj) hg hm hb d pass0 ha hdb he hpl
theorem pe_makeD0 (M : Mk X.K C f) (D : DOk X j f ps dvs sp) (hr : Room k X.A) (hg : Gl X x) (hm : X.mg x = some (.ref C)) (hj : j + 1 ≤ k := by first | decide | omega)
    (hdb : (x == ("__debug__" : Str)) = false := by decide) : PE X (.Call (.Name x p) [] [] pos) (tMake C sp dvs E0 tNil) := by
  obtain ⟨fd, ds, F, hb, d⟩ := D.ex
  exact pe_make0 M F (hr.mono hj) hg hm hb d pass0 hdb
theorem pe_negD (ha : PE X a ta) (hm : Meth X.K C "__neg__" f) (D : DOk X j f ps dvs sp) (hr : Room k X.A) (hj : j ≤ k := by first | decide | omega) : PE X (.UnaryOp .USub a pos) (tUn (rOwnU C sp dvs E0) ta) := by
  obtain ⟨fd, ds, F, hb, d⟩ := D.ex
  exact pe_un (un_own_neg hm F (hr.mono hj) hb d pass0) ha
theorem pe_ixD (ha : PE X a ta) (hb : PE X b tb) (hm : Meth X.K C "__getitem__" f) (hf : PySem.W.fnIn X.K f = true) (D : DOk X j f ps dvs sp) (hr : Room k X.A) (hj : j + 1 ≤ k := by first | decide | omega)
    (hsl : ∀ o i, subscripted b true o i = runValue (.builtin "lifetime.subscript" ⟨[o, i], []⟩) := by intro _ _; with_unfolding_all rfl) : PE X (.Subscript a b pos) (tOp (rOwnIx C sp dvs E0) ta tb) := by
  obtain ⟨fd, ds, F, hbb, d⟩ := D.ex
  exact ix_own pass0 hm hf F (hr.mono hj) hbb d ha hb hsl
theorem pe_propD {g q : Addr} (he : PE X e ta) (c : Cls X.K C) (hp : PropOf X.K C m q g) (D : DOk X j g ps dvs sp) (hr : Room k X.A) (hj : j + 1 ≤ k := by first | decide | omega)
    (hab : attributeBase e m X.env (eval e X.env) = eval e X.env := by rfl) : PE X (.Attribute e m pos) (tProp C sp dvs E0 ta) := by
  obtain ⟨fd, ds, F, hbb, d⟩ := D.ex
  exact pe_prop he c hp F (hr.mono hj) hbb d pass0 hab
theorem pe_gint {i : Int} (hg : Gl X x) (hm : ∃ t, X.mg x = some (.int i t)) (hd : (x == ("__debug__" : Str)) = false := by decide) : PE X (.Name x pos) (tC (.int i)) := by
  obtain ⟨t, hm⟩ := hm
  exact pe_glob hg hm ⟨t, rfl⟩ hd
theorem pe_gstr {z : Str} (hg : Gl X x) (hm : ∃ t, X.mg x = some (.str z t)) (hd : (x == ("__debug__" : Str)) = false := by decide) : PE X (.Name x pos) (tC (.str z)) := by
  obtain ⟨t, hm⟩ := hm
  exact pe_glob hg hm ⟨t, rfl⟩ hd
theorem pe_gref {f : Addr} (hg : Gl X x) (hm : X.mg x = some (.ref f)) (hd : (x == ("__debug__" : Str)) = false := by decide) : PE X (.Name x pos) (tC (.ref f)) := pe_glob hg hm rfl hd
/-- C.NAME, an int of the class -/
structure CInt (K : PySem.W.Frag) (C : Addr) (f : Str) (i : Int) : Prop where
  rd : ClX.CRead K C (.type "type")
  vl : ∃ t, ClX.CVal K C (.type "type") f (.int i) (.int i t)
theorem pe_cint {f : Str} {i : Int} (hg : Gl X x) (hm : X.mg x = some (.ref C)) (h : CInt X.K C f i) (hd : (x == ("__debug__" : Str)) = false := by decide)
    (hb : attributeBase (.Name x p) f X.env (eval (.Name x p) X.env) = eval (.Name x p) X.env := by rfl) : PE X (.Attribute (.Name x p) f pos) (tC (.int i)) := by
  obtain ⟨t, hv⟩ := h.vl
  refine ⟨fun pins s σ H Q I q => (ClX.pe_cval (pe_gref hg hm hd) hb).run pins s σ H Q I ?_⟩
  exact ⟨C, .type "type", .int i, .int i t, rfl, h.rd, hv, q⟩
end
end FBQ
end
section
set_option Elab.async false
set_option linter.all false
set_option maxRecDepth 100000
set_option maxHeartbeats 1000000
/-! ### the text: where each def stands, what of the module it reads -/
namespace FBQ
open PySem PySem.Spec PyProof.Rows L2 FBR
def top (i : Nat) : Stmt := PySem.Challenge.pw_forkbeats_k45_whole_counts_scaled.main.body.getD i (.Pass ⟨0, 0, 0, 0⟩)
abbrev s_is_name : Stmt := top 21
theorem sc_is_name : FnScope ["text", "letter"] ["text"] (defScope s_is_name) :=
  ⟨rfl, rfl, rfl, by decide +kernel, rfl, by decide +kernel, by decide +kernel⟩
abbrev s_TuningU_initU : Stmt := inClass (top 24) 0
theorem sc_TuningU_initU : FnScope ["self", "names", "pitches", "seen", "at", "name"] ["self", "names", "pitches"] (defScope s_TuningU_initU) :=
  ⟨rfl, rfl, rfl, by decide +kernel, rfl, by decide +kernel, by decide +kernel⟩
abbrev s_Tuning_pitches : Stmt := inClass (top 24) 4
theorem sc_Tuning_pitches : FnScope ["self", "name", "pitch"] ["self"] (defScope s_Tuning_pitches) :=
  ⟨rfl, rfl, rfl, by decide +kernel, rfl, by decide +kernel, by decide +kernel⟩
abbrev s_Tuning_beats : Stmt := inClass (top 24) 5
theorem sc_Tuning_beats : FnScope ["self", "a", "b", "first"] ["self", "a", "b"] (defScope s_Tuning_beats) :=
  ⟨rfl, rfl, rfl, by decide +kernel, rfl, by decide +kernel, by decide +kernel⟩
abbrev s_TuningU_getitemU : Stmt := inClass (top 24) 8
theorem sc_TuningU_getitemU : FnScope ["self", "at", "name", "pitch"] ["self", "at"] (defScope s_TuningU_getitemU) :=
  ⟨rfl, rfl, rfl, by decide +kernel, rfl, by decide +kernel, by decide +kernel⟩
abbrev s_TuningU_negU : Stmt := inClass (top 24) 13
theorem sc_TuningU_negU : FnScope ["self", "name", "pitch"] ["self"] (defScope s_TuningU_negU) :=
  ⟨rfl, rfl, rfl, by decide +kernel, rfl, by decide +kernel, by decide +kernel⟩
abbrev s_reached_from : Stmt := top 33
theorem sc_reached_from : FnScope ["start", "strikes", "found", "at", "here", "a", "b", "count"] ["start", "strikes"] (defScope s_reached_from) :=
  ⟨rfl, rfl, rfl, by decide +kernel, rfl, by decide +kernel, by decide +kernel⟩
abbrev s_BenchU_initU : Stmt := inClass (top 34) 4
theorem sc_BenchU_initU : FnScope ["self", "limit"] ["self", "limit"] (defScope s_BenchU_initU) :=
  ⟨rfl, rfl, rfl, by decide +kernel, rfl, by decide +kernel, by decide +kernel⟩
abbrev s_Bench_enter : Stmt := inClass (top 34) 6
theorem sc_Bench_enter : FnScope ["self", "text", "state"] ["self", "text", "state"] (defScope s_Bench_enter) :=
  ⟨rfl, rfl, rfl, by decide +kernel, rfl, by decide +kernel, by decide +kernel⟩
abbrev s_Bench_add : Stmt := inClass (top 34) 7
theorem sc_Bench_add : FnScope ["self", "names"] ["self", "names"] (defScope s_Bench_add) :=
  ⟨rfl, rfl, rfl, by decide +kernel, rfl, by decide +kernel, by decide +kernel⟩
abbrev s_Bench_add_all : Stmt := inClass (top 34) 8
theorem sc_Bench_add_all : FnScope ["self", "names", "forks", "strikes", "facts", "limit", "at", "name"] ["self", "names"] (defScope s_Bench_add_all) :=
  ⟨rfl, rfl, rfl, by decide +kernel, rfl, by decide +kernel, by decide +kernel⟩
abbrev s_Bench_strike : Stmt := inClass (top 34) 9
theorem sc_Bench_strike : FnScope ["self", "a", "b", "count", "forks", "strikes", "facts", "limit"] ["self", "a", "b", "count"] (defScope s_Bench_strike) :=
  ⟨rfl, rfl, rfl, by decide +kernel, rfl, by decide +kernel, by decide +kernel⟩
abbrev s_Bench_check_pair : Stmt := inClass (top 34) 10
theorem sc_Bench_check_pair : FnScope ["self", "a", "b"] ["self", "a", "b"] (defScope s_Bench_check_pair) :=
  ⟨rfl, rfl, rfl, by decide +kernel, rfl, by decide +kernel, by decide +kernel⟩
abbrev s_Bench_check_fork : Stmt := inClass (top 34) 11
theorem sc_Bench_check_fork : FnScope ["self", "name"] ["self", "name"] (defScope s_Bench_check_fork) :=
  ⟨rfl, rfl, rfl, by decide +kernel, rfl, by decide +kernel, by decide +kernel⟩
abbrev s_Bench_limit : Stmt := inClass (top 34) 15
theorem sc_Bench_limit : FnScope ["self"] ["self"] (defScope s_Bench_limit) :=
  ⟨rfl, rfl, rfl, by decide +kernel, rfl, by decide +kernel, by decide +kernel⟩
abbrev s_Bench_forks : Stmt := inClass (top 34) 21
theorem sc_Bench_forks : FnScope ["self"] ["self"] (defScope s_Bench_forks) :=
  ⟨rfl, rfl, rfl, by decide +kernel, rfl, by decide +kernel, by decide +kernel⟩
abbrev s_Bench_strikes : Stmt := inClass (top 34) 22
theorem sc_Bench_strikes : FnScope ["self"] ["self"] (defScope s_Bench_strikes) :=
  ⟨rfl, rfl, rfl, by decide +kernel, rfl, by decide +kernel, by decide +kernel⟩
abbrev s_Bench_told : Stmt := inClass (top 34) 24
theorem sc_Bench_told : FnScope ["self"] ["self"] (defScope s_Bench_told) :=
  ⟨rfl, rfl, rfl, by decide +kernel, rfl, by decide +kernel, by decide +kernel⟩
abbrev s_pieces : Stmt := top 36
theorem sc_pieces : FnScope ["bench", "found", "seen", "names", "strikes", "name", "members", "one"] ["bench"] (defScope s_pieces) :=
  ⟨rfl, rfl, rfl, by decide +kernel, rfl, by decide +kernel, by decide +kernel⟩
abbrev s_BlocksU_initU : Stmt := inClass (top 37) 0
theorem sc_BlocksU_initU : FnScope ["self", "strikes"] ["self", "strikes"] (defScope s_BlocksU_initU) :=
  ⟨rfl, rfl, rfl, by decide +kernel, rfl, by decide +kernel, by decide +kernel⟩
abbrev s_Blocks_visit : Stmt := inClass (top 37) 1
theorem sc_Blocks_visit : FnScope ["self", "here", "came", "at", "a", "b", "count", "there"] ["self", "here", "came"] (defScope s_Blocks_visit) :=
  ⟨rfl, rfl, rfl, by decide +kernel, rfl, by decide +kernel, by decide +kernel⟩
abbrev s_Blocks_close : Stmt := inClass (top 37) 2
theorem sc_Blocks_close : FnScope ["self", "at", "place"] ["self", "at"] (defScope s_Blocks_close) :=
  ⟨rfl, rfl, rfl, by decide +kernel, rfl, by decide +kernel, by decide +kernel⟩
abbrev s_blocks : Stmt := top 38
theorem sc_blocks : FnScope ["bench", "search", "name"] ["bench"] (defScope s_blocks) :=
  ⟨rfl, rfl, rfl, by decide +kernel, rfl, by decide +kernel, by decide +kernel⟩
abbrev s_block_forks : Stmt := top 39
theorem sc_block_forks : FnScope ["strikes", "block", "found", "at", "name"] ["strikes", "block"] (defScope s_block_forks) :=
  ⟨rfl, rfl, rfl, by decide +kernel, rfl, by decide +kernel, by decide +kernel⟩
abbrev s_block_at : Stmt := top 40
theorem sc_block_at : FnScope ["bench", "index", "found"] ["bench", "index"] (defScope s_block_at) :=
  ⟨rfl, rfl, rfl, by decide +kernel, rfl, by decide +kernel, by decide +kernel⟩
abbrev s_part : Stmt := top 41
theorem sc_part : FnScope ["bench", "index", "block", "strikes", "members", "result", "name", "at", "a", "b", "count"] ["bench", "index"] (defScope s_part) :=
  ⟨rfl, rfl, rfl, by decide +kernel, rfl, by decide +kernel, by decide +kernel⟩
abbrev s_order_of_walking : Stmt := top 43
theorem sc_order_of_walking : FnScope ["bench", "found", "placed", "strikes", "name", "grows", "a", "b", "count", "fresh"] ["bench"] (defScope s_order_of_walking) :=
  ⟨rfl, rfl, rfl, by decide +kernel, rfl, by decide +kernel, by decide +kernel⟩
abbrev s_ties : Stmt := top 44
theorem sc_ties : FnScope ["fresh", "placed", "strikes", "found", "a", "b", "count"] ["fresh", "placed", "strikes"] (defScope s_ties) :=
  ⟨rfl, rfl, rfl, by decide +kernel, rfl, by decide +kernel, by decide +kernel⟩
abbrev s_choices : Stmt := top 45
theorem sc_choices : FnScope ["tied", "level", "spare", "first", "count", "wide", "marks", "beats", "sign", "found", "mark", "pitch", "off", "name", "told", "gap"] ["tied", "level", "spare"] (defScope s_choices) :=
  ⟨rfl, rfl, rfl, by decide +kernel, rfl, by decide +kernel, by decide +kernel⟩
abbrev s_levels : Stmt := top 46
theorem sc_levels : FnScope ["row", "at", "level", "spare", "name", "tied", "found", "pitch", "off"] ["row", "at", "level", "spare"] (defScope s_levels) :=
  ⟨rfl, rfl, rfl, by decide +kernel, rfl, by decide +kernel, by decide +kernel⟩
abbrev s_found_fittings : Stmt := top 47
theorem sc_found_fittings : FnScope ["bench", "names", "facts", "found", "rows", "level", "name", "tunings", "row", "tuning", "fact"] ["bench"] (defScope s_found_fittings) :=
  ⟨rfl, rfl, rfl, by decide +kernel, rfl, by decide +kernel, by decide +kernel⟩
abbrev s_fittings : Stmt := top 48
abbrev s_count_fittings : Stmt := top 49
theorem sc_count_fittings : FnScope ["bench"] ["bench"] (defScope s_count_fittings) :=
  ⟨rfl, rfl, rfl, by decide +kernel, rfl, by decide +kernel, by decide +kernel⟩
abbrev s_found_shapes : Stmt := top 50
theorem sc_found_shapes : FnScope ["bench", "found", "seen", "tuning", "turned"] ["bench"] (defScope s_found_shapes) :=
  ⟨rfl, rfl, rfl, by decide +kernel, rfl, by decide +kernel, by decide +kernel⟩
abbrev s_count_shapes : Stmt := top 51
theorem sc_count_shapes : FnScope ["bench"] ["bench"] (defScope s_count_shapes) :=
  ⟨rfl, rfl, rfl, by decide +kernel, rfl, by decide +kernel, by decide +kernel⟩
abbrev s_block_counts : Stmt := top 52
theorem sc_block_counts : FnScope ["bench", "at"] ["bench"] (defScope s_block_counts) :=
  ⟨rfl, rfl, rfl, by decide +kernel, rfl, by decide +kernel, by decide +kernel⟩
abbrev s_some_fittings : Stmt := top 54
theorem sc_some_fittings : FnScope ["bench", "found"] ["bench"] (defScope s_some_fittings) :=
  ⟨rfl, rfl, rfl, by decide +kernel, rfl, by decide +kernel, by decide +kernel⟩
abbrev s_ordered_pairs : Stmt := top 55
theorem sc_ordered_pairs : FnScope ["bench", "piece", "at", "members", "name", "names", "a", "b"] ["bench"] (defScope s_ordered_pairs) :=
  ⟨rfl, rfl, rfl, by decide +kernel, rfl, by decide +kernel, by decide +kernel⟩
abbrev s_sure_beats : Stmt := top 56
theorem sc_sure_beats : FnScope ["bench", "found", "names", "result", "a", "b", "beats", "tuning"] ["bench"] (defScope s_sure_beats) :=
  ⟨rfl, rfl, rfl, by decide +kernel, rfl, by decide +kernel, by decide +kernel⟩
abbrev s__law_bag : Stmt := top 58
theorem sc__law_bag : FnScope ["_law_script", "_law_cells", "_law_cell", "_law_base"] ["_law_script"] (defScope s__law_bag) :=
  ⟨rfl, rfl, rfl, by decide +kernel, rfl, by decide +kernel, by decide +kernel⟩
abbrev s__law_mixed : Stmt := top 59
theorem sc__law_mixed : FnScope ["_law_cell", "_law_turn", "_law_number"] ["_law_cell", "_law_turn"] (defScope s__law_mixed) :=
  ⟨rfl, rfl, rfl, by decide +kernel, rfl, by decide +kernel, by decide +kernel⟩
abbrev s__law_take : Stmt := top 60
theorem sc__law_take : FnScope ["_law_bag_here", "_law_many_here", "_law_cell", "_law_digit"] ["_law_bag_here", "_law_many_here"] (defScope s__law_take) :=
  ⟨rfl, rfl, rfl, by decide +kernel, rfl, by decide +kernel, by decide +kernel⟩
abbrev s__law_name : Stmt := top 61
theorem sc__law_name : FnScope ["_law_bag_here", "_law_names_here", "_law_letters", "_law_number", "_law_row_here", "_law_name_here", "_law_pool", "_law_letter", "_law_one"] ["_law_bag_here", "_law_names_here"] (defScope s__law_name) :=
  ⟨rfl, rfl, rfl, by decide +kernel, rfl, by decide +kernel, by decide +kernel⟩
abbrev s__law_names : Stmt := top 62
theorem sc__law_names : FnScope ["_law_bag_here", "_law_many_here", "_law_names_here", "_law_k"] ["_law_bag_here", "_law_many_here"] (defScope s__law_names) :=
  ⟨rfl, rfl, rfl, by decide +kernel, rfl, by decide +kernel, by decide +kernel⟩
abbrev s__law_is_int : Stmt := top 63
theorem sc__law_is_int : FnScope ["_law_thing"] ["_law_thing"] (defScope s__law_is_int) :=
  ⟨rfl, rfl, rfl, by decide +kernel, rfl, by decide +kernel, by decide +kernel⟩
abbrev s__law_row : Stmt := top 64
theorem sc__law_row : FnScope ["_law_thing", "_law_due", "_law_one"] ["_law_thing", "_law_due"] (defScope s__law_row) :=
  ⟨rfl, rfl, rfl, by decide +kernel, rfl, by decide +kernel, by decide +kernel⟩
abbrev s__law_rows : Stmt := top 65
theorem sc__law_rows : FnScope ["_law_thing", "_law_due", "_law_k"] ["_law_thing", "_law_due"] (defScope s__law_rows) :=
  ⟨rfl, rfl, rfl, by decide +kernel, rfl, by decide +kernel, by decide +kernel⟩
abbrev s__law_some : Stmt := top 66
theorem sc__law_some : FnScope ["_law_bag_here", "_law_names_here", "_law_many_here", "_law_rest", "_law_found", "_law_k"] ["_law_bag_here", "_law_names_here", "_law_many_here"] (defScope s__law_some) :=
  ⟨rfl, rfl, rfl, by decide +kernel, rfl, by decide +kernel, by decide +kernel⟩
abbrev s__law_pairs : Stmt := top 67
theorem sc__law_pairs : FnScope ["_law_bag_here", "_law_names_here", "_law_extra", "_law_order", "_law_loose", "_law_pairs_here", "_law_k", "_law_near", "_law_mixed_here", "_law_a", "_law_b", "_law_pair"] ["_law_bag_here", "_law_names_here", "_law_extra"] (defScope s__law_pairs) :=
  ⟨rfl, rfl, rfl, by decide +kernel, rfl, by decide +kernel, by decide +kernel⟩
abbrev s__law_struck : Stmt := top 68
theorem sc__law_struck : FnScope ["_law_bag_here", "_law_pairs_here", "_law_level", "_law_way", "_law_strikes", "_law_a", "_law_b", "_law_count"] ["_law_bag_here", "_law_pairs_here", "_law_level"] (defScope s__law_struck) :=
  ⟨rfl, rfl, rfl, by decide +kernel, rfl, by decide +kernel, by decide +kernel⟩
abbrev s__law_many : Stmt := top 69
theorem sc__law_many : FnScope ["_law_bag_here", "_law_top"] ["_law_bag_here", "_law_top"] (defScope s__law_many) :=
  ⟨rfl, rfl, rfl, by decide +kernel, rfl, by decide +kernel, by decide +kernel⟩
abbrev s__law_bench : Stmt := top 70
theorem sc__law_bench : FnScope ["_law_names_here", "_law_strikes", "_law_spare", "_law_bench_here", "_law_name_here", "_law_a", "_law_b", "_law_count"] ["_law_names_here", "_law_strikes", "_law_spare"] (defScope s__law_bench) :=
  ⟨rfl, rfl, rfl, by decide +kernel, rfl, by decide +kernel, by decide +kernel⟩
abbrev s__law_pitches : Stmt := top 71
theorem sc__law_pitches : FnScope ["_law_bench_here", "_law_found", "_law_one"] ["_law_bench_here"] (defScope s__law_pitches) :=
  ⟨rfl, rfl, rfl, by decide +kernel, rfl, by decide +kernel, by decide +kernel⟩
abbrev s_law : Stmt := top 72
theorem sc_law : FnScope ["_law_script", "_law_bag_here", "_law_names_here", "_law_wide", "_law_level", "_law_name_here", "_law_strikes", "_law_factor", "_law_bench_here", "_law_other", "_law_a", "_law_b", "_law_count", "_law_rows_here", "_law_due", "_law_row_here", "_law_pitch", "_law_told"] ["_law_script"] (defScope s_law) :=
  ⟨rfl, rfl, rfl, by decide +kernel, rfl, by decide +kernel, by decide +kernel⟩
/-- what the walks read off the module -/
structure Tx (K : PySem.W.Frag) (mg : Str → Option Value) : Prop where
  b_len : mg "len" = none
  b_abs : mg "abs" = none
  b_max : mg "max" = none
  b_min : mg "min" = none
  b_int : mg "int" = none
  b_range : mg "range" = none
  b_sorted : mg "sorted" = none
  b_set : mg "set" = none
  b_tuple : mg "tuple" = none
  b_list : mg "list" = none
  b_isinstance : mg "isinstance" = none
  b_all : mg "all" = none
  b_enumerate : mg "enumerate" = none
  b_bool : mg "bool" = none
  g_is_name : mg "is_name" = some (.ref (He.ga K "is_name"))
  g_reached_from : mg "reached_from" = some (.ref (He.ga K "reached_from"))
  g_pieces : mg "pieces" = some (.ref (He.ga K "pieces"))
  g_blocks : mg "blocks" = some (.ref (He.ga K "blocks"))
  g_block_forks : mg "block_forks" = some (.ref (He.ga K "block_forks"))
  g_block_at : mg "block_at" = some (.ref (He.ga K "block_at"))
  g_part : mg "part" = some (.ref (He.ga K "part"))
  g_order_of_walking : mg "order_of_walking" = some (.ref (He.ga K "order_of_walking"))
  g_ties : mg "ties" = some (.ref (He.ga K "ties"))
  g_choices : mg "choices" = some (.ref (He.ga K "choices"))
  g_levels : mg "levels" = some (.ref (He.ga K "levels"))
  g_found_fittings : mg "found_fittings" = some (.ref (He.ga K "found_fittings"))
  g_fittings : mg "fittings" = some (.ref (He.ga K "fittings"))
  g_count_fittings : mg "count_fittings" = some (.ref (He.ga K "count_fittings"))
  g_found_shapes : mg "found_shapes" = some (.ref (He.ga K "found_shapes"))
  g_count_shapes : mg "count_shapes" = some (.ref (He.ga K "count_shapes"))
  g_block_counts : mg "block_counts" = some (.ref (He.ga K "block_counts"))
  g_some_fittings : mg "some_fittings" = some (.ref (He.ga K "some_fittings"))
  g_ordered_pairs : mg "ordered_pairs" = some (.ref (He.ga K "ordered_pairs"))
  g_sure_beats : mg "sure_beats" = some (.ref (He.ga K "sure_beats"))
  g__law_bag : mg "_law_bag" = some (.ref (He.ga K "_law_bag"))
  g__law_mixed : mg "_law_mixed" = some (.ref (He.ga K "_law_mixed"))
  g__law_take : mg "_law_take" = some (.ref (He.ga K "_law_take"))
  g__law_name : mg "_law_name" = some (.ref (He.ga K "_law_name"))
  g__law_names : mg "_law_names" = some (.ref (He.ga K "_law_names"))
  g__law_is_int : mg "_law_is_int" = some (.ref (He.ga K "_law_is_int"))
  g__law_row : mg "_law_row" = some (.ref (He.ga K "_law_row"))
  g__law_rows : mg "_law_rows" = some (.ref (He.ga K "_law_rows"))
  g__law_some : mg "_law_some" = some (.ref (He.ga K "_law_some"))
  g__law_pairs : mg "_law_pairs" = some (.ref (He.ga K "_law_pairs"))
  g__law_struck : mg "_law_struck" = some (.ref (He.ga K "_law_struck"))
  g__law_many : mg "_law_many" = some (.ref (He.ga K "_law_many"))
  g__law_bench : mg "_law_bench" = some (.ref (He.ga K "_law_bench"))
  g__law_pitches : mg "_law_pitches" = some (.ref (He.ga K "_law_pitches"))
  g_law : mg "law" = some (.ref (He.ga K "law"))
  g_Tuning : mg "Tuning" = some (.ref (He.ga K "Tuning"))
  g_Bench : mg "Bench" = some (.ref (He.ga K "Bench"))
  g_Blocks : mg "Blocks" = some (.ref (He.ga K "Blocks"))
  g_Fact : mg "Fact" = some (.ref (He.ga K "Fact"))
  c_LETTERS : ∃ t, mg "LETTERS" = some (.str "abcdefghijklmnopqrstuvwxyz" t)
  c_MOST_LETTERS : ∃ t, mg "MOST_LETTERS" = some (.int 12 t)
  cl_Tuning : Cls K (He.ga K "Tuning")
  mk_Tuning : Mk K (He.ga K "Tuning") (He.ma K (He.ga K "Tuning") "__init__")
  cl_Bench : Cls K (He.ga K "Bench")
  mk_Bench : Mk K (He.ga K "Bench") (He.ma K (He.ga K "Bench") "__init__")
  cl_Blocks : Cls K (He.ga K "Blocks")
  mk_Blocks : Mk K (He.ga K "Blocks") (He.ma K (He.ga K "Blocks") "__init__")
  m_Tuning_pitches : Meth K (He.ga K "Tuning") "pitches" (He.ma K (He.ga K "Tuning") "pitches")
  m_Tuning_beats : Meth K (He.ga K "Tuning") "beats" (He.ma K (He.ga K "Tuning") "beats")
  m_Tuning___getitem__ : Meth K (He.ga K "Tuning") "__getitem__" (He.ma K (He.ga K "Tuning") "__getitem__")
  m_Tuning___neg__ : Meth K (He.ga K "Tuning") "__neg__" (He.ma K (He.ga K "Tuning") "__neg__")
  m_Bench_enter : Meth K (He.ga K "Bench") "enter" (He.ma K (He.ga K "Bench") "enter")
  m_Bench_add : Meth K (He.ga K "Bench") "add" (He.ma K (He.ga K "Bench") "add")
  m_Bench_add_all : Meth K (He.ga K "Bench") "add_all" (He.ma K (He.ga K "Bench") "add_all")
  m_Bench_strike : Meth K (He.ga K "Bench") "strike" (He.ma K (He.ga K "Bench") "strike")
  m_Bench_check_pair : Meth K (He.ga K "Bench") "check_pair" (He.ma K (He.ga K "Bench") "check_pair")
  m_Bench_check_fork : Meth K (He.ga K "Bench") "check_fork" (He.ma K (He.ga K "Bench") "check_fork")
  m_Bench_forks : Meth K (He.ga K "Bench") "forks" (He.ma K (He.ga K "Bench") "forks")
  m_Bench_strikes : Meth K (He.ga K "Bench") "strikes" (He.ma K (He.ga K "Bench") "strikes")
  m_Bench_told : Meth K (He.ga K "Bench") "told" (He.ma K (He.ga K "Bench") "told")
  m_Blocks_visit : Meth K (He.ga K "Blocks") "visit" (He.ma K (He.ga K "Blocks") "visit")
  m_Blocks_close : Meth K (He.ga K "Blocks") "close" (He.ma K (He.ga K "Blocks") "close")
  n_Tuning___getitem__ : PySem.W.fnIn K (He.ma K (He.ga K "Tuning") "__getitem__") = true
  a_Tuning_level : NoAttr K (He.ga K "Tuning") "level"
  a_Tuning_name_row : NoAttr K (He.ga K "Tuning") "name_row"
  a_Bench_state : NoAttr K (He.ga K "Bench") "state"
  a_Bench_past : NoAttr K (He.ga K "Bench") "past"
  a_Bench_future : NoAttr K (He.ga K "Bench") "future"
  a_Blocks_struck : NoAttr K (He.ga K "Blocks") "struck"
  a_Blocks_order : NoAttr K (He.ga K "Blocks") "order"
  a_Blocks_low : NoAttr K (He.ga K "Blocks") "low"
  a_Blocks_stack : NoAttr K (He.ga K "Blocks") "stack"
  a_Blocks_found : NoAttr K (He.ga K "Blocks") "found"
  k_Bench_MOST_FORKS : CInt K (He.ga K "Bench") "MOST_FORKS" 10
  k_Bench_MOST_STRIKES : CInt K (He.ga K "Bench") "MOST_STRIKES" 20
  k_Bench_MOST_LIMIT : CInt K (He.ga K "Bench") "MOST_LIMIT" 3
  k_Fact_MOST_COUNT : CInt K (He.ga K "Fact") "MOST_COUNT" 1000000000
  ex_limit : ∃ p g, PropOf K (He.ga K "Bench") "limit" p g ∧ FD K "limit" "Bench.limit" s_Bench_limit [] g
  f_is_name : FD K "is_name" "is_name" s_is_name [] (He.ga K "is_name")
  f_TuningU_initU : FD K "__init__" "Tuning.__init__" s_TuningU_initU [] (He.ma K (He.ga K "Tuning") "__init__")
  f_Tuning_pitches : FD K "pitches" "Tuning.pitches" s_Tuning_pitches [] (He.ma K (He.ga K "Tuning") "pitches")
  f_Tuning_beats : FD K "beats" "Tuning.beats" s_Tuning_beats [] (He.ma K (He.ga K "Tuning") "beats")
  f_TuningU_getitemU : FD K "__getitem__" "Tuning.__getitem__" s_TuningU_getitemU [] (He.ma K (He.ga K "Tuning") "__getitem__")
  f_TuningU_negU : FD K "__neg__" "Tuning.__neg__" s_TuningU_negU [] (He.ma K (He.ga K "Tuning") "__neg__")
  f_reached_from : FD K "reached_from" "reached_from" s_reached_from [] (He.ga K "reached_from")
  f_BenchU_initU : FD K "__init__" "Bench.__init__" s_BenchU_initU [.int 0] (He.ma K (He.ga K "Bench") "__init__")
  f_Bench_enter : FD K "enter" "Bench.enter" s_Bench_enter [] (He.ma K (He.ga K "Bench") "enter")
  f_Bench_add : FD K "add" "Bench.add" s_Bench_add [] (He.ma K (He.ga K "Bench") "add")
  f_Bench_add_all : FD K "add_all" "Bench.add_all" s_Bench_add_all [] (He.ma K (He.ga K "Bench") "add_all")
  f_Bench_strike : FD K "strike" "Bench.strike" s_Bench_strike [] (He.ma K (He.ga K "Bench") "strike")
  f_Bench_check_pair : FD K "check_pair" "Bench.check_pair" s_Bench_check_pair [] (He.ma K (He.ga K "Bench") "check_pair")
  f_Bench_check_fork : FD K "check_fork" "Bench.check_fork" s_Bench_check_fork [] (He.ma K (He.ga K "Bench") "check_fork")
  f_Bench_forks : FD K "forks" "Bench.forks" s_Bench_forks [] (He.ma K (He.ga K "Bench") "forks")
  f_Bench_strikes : FD K "strikes" "Bench.strikes" s_Bench_strikes [] (He.ma K (He.ga K "Bench") "strikes")
  f_Bench_told : FD K "told" "Bench.told" s_Bench_told [] (He.ma K (He.ga K "Bench") "told")
  f_pieces : FD K "pieces" "pieces" s_pieces [] (He.ga K "pieces")
  f_BlocksU_initU : FD K "__init__" "Blocks.__init__" s_BlocksU_initU [] (He.ma K (He.ga K "Blocks") "__init__")
  f_Blocks_visit : FD K "visit" "Blocks.visit" s_Blocks_visit [] (He.ma K (He.ga K "Blocks") "visit")
  f_Blocks_close : FD K "close" "Blocks.close" s_Blocks_close [] (He.ma K (He.ga K "Blocks") "close")
  f_blocks : FD K "blocks" "blocks" s_blocks [] (He.ga K "blocks")
  f_block_forks : FD K "block_forks" "block_forks" s_block_forks [] (He.ga K "block_forks")
  f_block_at : FD K "block_at" "block_at" s_block_at [] (He.ga K "block_at")
  f_part : FD K "part" "part" s_part [] (He.ga K "part")
  f_order_of_walking : FD K "order_of_walking" "order_of_walking" s_order_of_walking [] (He.ga K "order_of_walking")
  f_ties : FD K "ties" "ties" s_ties [] (He.ga K "ties")
  f_choices : FD K "choices" "choices" s_choices [] (He.ga K "choices")
  f_levels : FD K "levels" "levels" s_levels [] (He.ga K "levels")
  f_found_fittings : FD K "found_fittings" "found_fittings" s_found_fittings [] (He.ga K "found_fittings")
  f_fittings : FD K "fittings" "fittings" s_fittings [] (He.ga K "fittings")
  f_count_fittings : FD K "count_fittings" "count_fittings" s_count_fittings [] (He.ga K "count_fittings")
  f_found_shapes : FD K "found_shapes" "found_shapes" s_found_shapes [] (He.ga K "found_shapes")
  f_count_shapes : FD K "count_shapes" "count_shapes" s_count_shapes [] (He.ga K "count_shapes")
  f_block_counts : FD K "block_counts" "block_counts" s_block_counts [] (He.ga K "block_counts")
  f_some_fittings : FD K "some_fittings" "some_fittings" s_some_fittings [] (He.ga K "some_fittings")
  f_ordered_pairs : FD K "ordered_pairs" "ordered_pairs" s_ordered_pairs [] (He.ga K "ordered_pairs")
  f_sure_beats : FD K "sure_beats" "sure_beats" s_sure_beats [] (He.ga K "sure_beats")
  f__law_bag : FD K "_law_bag" "_law_bag" s__law_bag [] (He.ga K "_law_bag")
  f__law_mixed : FD K "_law_mixed" "_law_mixed" s__law_mixed [] (He.ga K "_law_mixed")
  f__law_take : FD K "_law_take" "_law_take" s__law_take [] (He.ga K "_law_take")
  f__law_name : FD K "_law_name" "_law_name" s__law_name [] (He.ga K "_law_name")
  f__law_names : FD K "_law_names" "_law_names" s__law_names [] (He.ga K "_law_names")
  f__law_is_int : FD K "_law_is_int" "_law_is_int" s__law_is_int [] (He.ga K "_law_is_int")
  f__law_row : FD K "_law_row" "_law_row" s__law_row [] (He.ga K "_law_row")
  f__law_rows : FD K "_law_rows" "_law_rows" s__law_rows [] (He.ga K "_law_rows")
  f__law_some : FD K "_law_some" "_law_some" s__law_some [] (He.ga K "_law_some")
  f__law_pairs : FD K "_law_pairs" "_law_pairs" s__law_pairs [] (He.ga K "_law_pairs")
  f__law_struck : FD K "_law_struck" "_law_struck" s__law_struck [] (He.ga K "_law_struck")
  f__law_many : FD K "_law_many" "_law_many" s__law_many [] (He.ga K "_law_many")
  f__law_bench : FD K "_law_bench" "_law_bench" s__law_bench [] (He.ga K "_law_bench")
  f__law_pitches : FD K "_law_pitches" "_law_pitches" s__law_pitches [] (He.ga K "_law_pitches")
  f_law : FD K "law" "law" s_law [] (He.ga K "law")
end FBQ
end
section
set_option Elab.async false
set_option linter.all false
set_option maxRecDepth 100000
set_option maxHeartbeats 1000000
/-! ### rules within a comprehension: the written part is named -/
namespace FBQ
open PySem PySem.Spec PyProof.Rows L2 FBR
section
variable {X : Cx} {K : PySem.W.Frag} {tg l : Expr} {tl : TE} {es : List Expr} {k n : Nat} {t : TGs} {pos : Pos}
theorem pi_listK (K : PySem.W.Frag) (hl : PE X l tl) (h : X.K = K := by rfl) : PI X tg l (iList K tl) := h ▸ pi_list hl
theorem pi_tupK (K : PySem.W.Frag) (hl : PE X l tl) (h : X.K = K := by rfl) : PI X tg l (iTup K tl) := h ▸ pi_tup hl
theorem ix_tupK (K : PySem.W.Frag) (h : X.K = K := by rfl) : IxR X (rIxT K) := h ▸ ix_tup
theorem ix_listK (K : PySem.W.Frag) (h : X.K = K := by rfl) : IxR X (rIxL K) := h ▸ ix_list
theorem op_inK (K : PySem.W.Frag) (h : X.K = K := by rfl) : OpR X (compareOp .In) (rIn K false) := h ▸ op_in_seq
theorem op_ninK (K : PySem.W.Frag) (h : X.K = K := by rfl) : OpR X (compareOp .NotIn) (rIn K true) := h ▸ op_notIn_seq
def rListOf (K : PySem.W.Frag) : List V → Hp → VK → Prop := fun xs H Q => ∃ p ys, xs = [.ref p] ∧ (SqL K H p ys ∨ SqT K H p ys) ∧ ∀ l, H l = none → Q (.ref l) (upd H l (.lst ys))
def rTupOf (K : PySem.W.Frag) : List V → Hp → VK → Prop := fun xs H Q => ∃ p ys, xs = [.ref p] ∧ ((SqL K H p ys ∧ ∀ l, H l = none → Q (.ref l) (upd H l (.tup ys))) ∨ (SqT K H p ys ∧ Q (.ref p) H))
theorem list_ofK (K : PySem.W.Frag) (h : X.K = K := by rfl) : CallR X (.type "list") (rListOf K) := h ▸ call_list_of
theorem tuple_ofK (K : PySem.W.Frag) (h : X.K = K := by rfl) : CallR X (.type "tuple") (rTupOf K) := h ▸ call_tuple_of
theorem pg_tupK (K : PySem.W.Frag) (n : Nat) (hc : X.calm = true) (hs : PGs X es t) (h : X.K = K := by rfl)
    (hn : (assignEach es X.env).length = n := by rfl) (hst : (assignEach es X.env).findIdx? (·.1) = none := by rfl) : PG X (.Tuple es k pos) (gTup K n t) := h ▸ pg_tup hc hs hn hst
theorem cr_allK (K : PySem.W.Frag) (hc : X.calm = true) (h : X.K = K := by rfl) : CallR X (.builtin "all") (rAll K) := h ▸ cr_all hc
theorem cr_setLK (K : PySem.W.Frag) (w : World) (hc : X.calm = true) (h : X.K = K := by rfl) (hw : X.w = w := by rfl) : CallR X (.type "set") (rSetL K w) := by
  subst h hw
  exact cr_setL hc
theorem cr_sortedSetW (w : World) (hc : X.calm = true) (hw : X.w = w := by rfl) : CallR X (.builtin "sorted") (rSortedSet w) := by
  subst hw
  exact cr_sortedSet hc
theorem pe_scIW (w : World) {elt tg iter : Expr} {ifs : List Expr} {scope : Scope} {own : List (PySem.Str × Nat)} {pos : Pos} {wi : TI} {g : TG} {tt : TT} {te : TE} (hc : X.calm = true) (hN : X.N.Nodup) (hi : PI X tg iter wi) (ok : BlkOk X.N X.env.scope scope own)
    (hg : ∀ (s : Shared) (H : Hp) (C : Addr) (cl : List (PySem.Str × Addr)) (fp : List Addr), PG (X.blk s H scope (compEnvC scope cl C X.env) fp) tg g) (ht : ∀ (s : Shared) (H : Hp) (C : Addr) (cl : List (PySem.Str × Addr)) (fp : List Addr), PTs (X.blk s H scope (compEnvC scope cl C X.env) fp) ifs tt)
    (he : ∀ (s : Shared) (H : Hp) (C : Addr) (cl : List (PySem.Str × Addr)) (fp : List Addr), PE (X.blk s H scope (compEnvC scope cl C X.env) fp) elt te) (hs : ∀ x, foldedSetIterable iter X.env x = pure x := by intro _; rfl) (hw : X.w = w := by rfl) :
    PE X (.SetComp elt [⟨tg, iter, ifs, 0⟩] scope pos) (tScI w wi g tt te (own.map (·.2))) := by
  subst hw
  exact pe_scI hc hN hi ok hg ht he hs
/-- an expression that is never reached -/
theorem pe_never {e : Expr} : PE X e (fun _ _ _ => False) := ⟨fun _ _ _ _ _ _ h => h.elim⟩
end
end FBQ
end
section
set_option Elab.async false
set_option linter.all false
set_option maxRecDepth 100000
set_option maxHeartbeats 1000000
/-! ### what stands in the heap -/
namespace FBQ
open PySem PySem.Spec PyProof.Rows L2 FBR FB
/-- a list has changed at p, all else stands -/
def But (p : Addr) (H H' : Hp) : Prop := ∀ b o, b ≠ p → H b = some o → H' b = some o
theorem But.of {p : Addr} {H H' : Hp} (h : Same H H') : But p H H' := fun b o _ e => h b o e
theorem But.trans {p : Addr} {H H1 H2 : Hp} (a : But p H H1) (b : But p H1 H2) : But p H H2 := fun c o n h => b c o n (a c o n h)
theorem But.put {p : Addr} {H : Hp} {o : HO} : But p H (upd H p o) := fun b u n e => by rw [upd_ne n]; exact e
theorem _root_.L2.Same.new {H : Hp} {p : Addr} {o : HO} (h : H p = none) : Same H (upd H p o) := fun b u e => by rw [upd_ne (ne_of_none e h)]; exact e
/-- what the entry does not know may change -/
theorem _root_.L2.Same.mut {H H' : Hp} {p : Addr} {o : HO} (e : Same H H') (h : H p = none) : Same H (upd H' p o) := fun b u q => by rw [upd_ne (ne_of_none q h)]; exact e b u q
theorem But.mut {q : Addr} {H H' : Hp} {p : Addr} {o : HO} (e : But q H H') (h : H p = none) : But q H (upd H' p o) := fun b u n z => by rw [upd_ne (ne_of_none z h)]; exact e b u n z
theorem _root_.L2.Same.back {H H' : Hp} (e : Same H H') {l : Addr} (h : H' l = none) : H l = none := e.free h
theorem But.back {p : Addr} {H H' : Hp} (e : But p H H') {l : Addr} (h : H' l = none) (n : l ≠ p) : H l = none := by
  cases q : H l with
  | none => rfl
  | some o => rw [e l o n q] at h; cases h
theorem _root_.L2.Same.tup {K : PySem.W.Frag} {H H' : Hp} {a : Addr} {xs : List V} (e : Same H H') (h : SqT K H a xs) : SqT K H' a xs := by
  rcases h with (h | ⟨o, h⟩) | h
  · exact .inl (.inl (e _ _ h))
  · exact .inl (.inr ⟨o, e _ _ h⟩)
  · exact .inr h
theorem But.tup {K : PySem.W.Frag} {H H' : Hp} {p a : Addr} {xs : List V} (e : But p H H') (hp : ∀ ys, H p ≠ some (.tup ys)) (hf : ∀ o ys, H p ≠ some (.frz o (.tup ys))) (h : SqT K H a xs) : SqT K H' a xs := by
  rcases h with (h | ⟨o, h⟩) | h
  · exact .inl (.inl (e _ _ (fun z => hp xs (z ▸ h)) h))
  · exact .inl (.inr ⟨o, e _ _ (fun z => hf _ _ (z ▸ h)) h⟩)
  · exact .inr h
/-- tuples at ts -/
def Tups (K : PySem.W.Frag) (H : Hp) : List Addr → List (List V) → Prop
  | [], [] => True
  | t :: ts, r :: rs => SqT K H t r ∧ Tups K H ts rs
  | _, _ => False
section
variable {K : PySem.W.Frag} {H H' : Hp}
theorem Tups.imp : ∀ {ts : List Addr} {rs : List (List V)}, (∀ t r, SqT K H t r → SqT K H' t r) → Tups K H ts rs → Tups K H' ts rs
  | [], [], _, _ => trivial
  | [], _ :: _, _, h => h.elim
  | _ :: _, [], _, h => h.elim
  | _ :: _, _ :: _, f, h => ⟨f _ _ h.1, Tups.imp f h.2⟩
theorem Tups.same {ts : List Addr} {rs : List (List V)} (e : Same H H') (h : Tups K H ts rs) : Tups K H' ts rs := h.imp fun _ _ z => e.tup z
theorem Tups.but {p : Addr} {ts : List Addr} {rs : List (List V)} (e : But p H H') (hp : ∀ ys, H p ≠ some (.tup ys)) (hf : ∀ o ys, H p ≠ some (.frz o (.tup ys))) (h : Tups K H ts rs) : Tups K H' ts rs := h.imp fun _ _ z => e.tup hp hf z
theorem Tups.length : ∀ {ts : List Addr} {rs : List (List V)}, Tups K H ts rs → ts.length = rs.length
  | [], [], _ => rfl
  | [], _ :: _, h => h.elim
  | _ :: _, [], h => h.elim
  | _ :: _, _ :: _, h => by rw [List.length_cons, List.length_cons, Tups.length h.2]
theorem Tups.get : ∀ {ts : List Addr} {rs : List (List V)} {i : Nat} {t : Addr}, Tups K H ts rs → ts[i]? = some t → ∃ r, rs[i]? = some r ∧ SqT K H t r
  | [], [], _, _, _, h => by simp at h
  | [], _ :: _, _, _, h, _ => h.elim
  | _ :: _, [], _, _, h, _ => h.elim
  | _ :: _, r :: _, 0, _, h, e => by
    cases (Option.some.inj e)
    exact ⟨r, rfl, h.1⟩
  | _ :: _, _ :: rs, i + 1, t, h, e => Tups.get (i := i) h.2 e
theorem Tups.snoc : ∀ {ts : List Addr} {rs : List (List V)} {t : Addr} {r : List V}, Tups K H ts rs → SqT K H t r → Tups K H (ts ++ [t]) (rs ++ [r])
  | [], [], _, _, _, h => ⟨h, trivial⟩
  | [], _ :: _, _, _, h, _ => h.elim
  | _ :: _, [], _, _, h, _ => h.elim
  | _ :: _, _ :: _, _, _, h, z => ⟨h.1, Tups.snoc h.2 z⟩
/-- a list, a tuple of tuples -/
def LTs (K : PySem.W.Frag) (H : Hp) (l : Addr) (rs : List (List V)) : Prop := ∃ ts, SqL K H l (ts.map V.ref) ∧ Tups K H ts rs
def TTs (K : PySem.W.Frag) (H : Hp) (l : Addr) (rs : List (List V)) : Prop := ∃ ts, SqT K H l (ts.map V.ref) ∧ Tups K H ts rs
/-- a new list of tuples -/
def NTs (K : PySem.W.Frag) (H : Hp) (l : Addr) (rs : List (List V)) : Prop := ∃ ts, H l = some (.lst (ts.map V.ref)) ∧ Tups K H ts rs
theorem LTs.same {l : Addr} {rs : List (List V)} (e : Same H H') (h : LTs K H l rs) : LTs K H' l rs := let ⟨ts, a, b⟩ := h; ⟨ts, e.seq a, b.same e⟩
theorem TTs.same {l : Addr} {rs : List (List V)} (e : Same H H') (h : TTs K H l rs) : TTs K H' l rs := let ⟨ts, a, b⟩ := h; ⟨ts, e.tup a, b.same e⟩
theorem NTs.same {l : Addr} {rs : List (List V)} (e : Same H H') (h : NTs K H l rs) : NTs K H' l rs := let ⟨ts, a, b⟩ := h; ⟨ts, e _ _ a, b.same e⟩
theorem NTs.l {l : Addr} {rs : List (List V)} (h : NTs K H l rs) : LTs K H l rs := let ⟨ts, a, b⟩ := h; ⟨ts, SqL.of a, b⟩
theorem TTs.but {p l : Addr} {rs : List (List V)} (e : But p H H') (hp : ∀ ys, H p ≠ some (.tup ys)) (hf : ∀ o ys, H p ≠ some (.frz o (.tup ys))) (h : TTs K H l rs) : TTs K H' l rs := let ⟨ts, a, b⟩ := h; ⟨ts, e.tup hp hf a, b.but e hp hf⟩
end
theorem nl {H : Hp} {p : Addr} {xs : List V} (h : H p = some (.lst xs)) : (∀ ys, H p ≠ some (.tup ys)) ∧ (∀ o ys, H p ≠ some (.frz o (.tup ys))) := ⟨fun ys z => (by rw [h] at z; cases z), fun o u z => (by rw [h] at z; cases z)⟩
theorem ni {H : Hp} {p C dx : Addr} {fs : List (Str × V)} (h : H p = some (.ins C dx fs)) : (∀ ys, H p ≠ some (.tup ys)) ∧ (∀ o ys, H p ≠ some (.frz o (.tup ys))) := ⟨fun ys z => (by rw [h] at z; cases z), fun o u z => (by rw [h] at z; cases z)⟩
theorem nz {H : Hp} {p : Addr} {od : Obj} {kvs : List (Key × V)} (h : H p = some (.frz od (.dK kvs))) : (∀ ys, H p ≠ some (.tup ys)) ∧ (∀ o ys, H p ≠ some (.frz o (.tup ys))) := ⟨fun ys z => (by rw [h] at z; cases z), fun o u z => (by rw [h] at z; cases z)⟩
theorem nd {H : Hp} {p : Addr} {kvs : List (Key × V)} (h : H p = some (.dK kvs)) : (∀ ys, H p ≠ some (.tup ys)) ∧ (∀ o ys, H p ≠ some (.frz o (.tup ys))) := ⟨fun ys z => (by rw [h] at z; cases z), fun o u z => (by rw [h] at z; cases z)⟩
/-- what was locked stands again -/
theorem unlock {H1 H2 : Hp} {d : Addr} {od : Obj} {u : HO} (e : Same (upd H1 d (.frz od u)) H2) (h : H1 d = some u) : Same H1 (upd H2 d u) := fun b o hb => by
  by_cases q : b = d
  · rw [q, upd_same, ← h, ← q]; exact hb
  · rw [upd_ne q]
    exact e _ _ (by rw [upd_ne q]; exact hb)
theorem NTs.but {K : PySem.W.Frag} {H H' : Hp} {p l : Addr} {rs : List (List V)} (e : But p H H') (hp : ∀ ys, H p ≠ some (.tup ys)) (hf : ∀ o ys, H p ≠ some (.frz o (.tup ys))) (n : l ≠ p) (h : NTs K H l rs) : NTs K H' l rs := let ⟨ts, a, b⟩ := h; ⟨ts, e _ _ n a, b.but e hp hf⟩
/-- a loop over a list of tuples; the target takes the tuple -/
theorem for_tups {K : PySem.W.Frag} {l : Addr} {ts : List Addr} {rs : List (List V)} {g : TG} {tb : TS} {D : Ends} {σ : L2.St} {H : Hp} (Pv : Nat → L2.St → Hp → Prop) (h0 : Pv 0 σ H) (hl : ∀ i σ H, i ≤ rs.length → Pv i σ H → SqL K H l (ts.map V.ref) ∧ Tups K H ts rs) (hz : ts.length = rs.length)
    (hs : ∀ i t r σ H, rs[i]? = some r → SqT K H t r → Pv i σ H → g (.ref t) σ H fun σ2 H2 => tb { D with nx := Pv (i + 1), ct := Pv (i + 1), bk := D.nx } σ2 H2) (hd : ∀ σ H, Pv rs.length σ H → D.nx σ H) :
    ∃ W : Nat → Nat → L2.St → Hp → Prop, (∃ m, W 0 m σ H) ∧ ∀ i m σ H, W i m σ H →
      ((Itl K l).stop i H ∧ D.nx σ H) ∨ ((Itl K l).go i H ∧ ∃ N : L2.St → Hp → Prop, (∀ σ' H', N σ' H' → ∃ m', m' < m ∧ W (i + 1) m' σ' H') ∧ ∀ x H', (Itl K l).yld i H x H' → g x σ H' fun σ2 H2 => tb { D with nx := N, ct := N, bk := D.nx } σ2 H2) := by
  refine for_list (xs := ts.map V.ref) Pv h0 (fun i σ H hi p => (hl i σ H (by rw [List.length_map, hz] at hi; exact hi) p).1) (fun i x σ H hx p => ?_) fun σ H p => hd σ H (by rw [List.length_map, hz] at p; exact p)
  rw [List.getElem?_map] at hx
  cases e : ts[i]? with
  | none => rw [e] at hx; cases hx
  | some t =>
    rw [e] at hx
    cases (Option.some.inj hx)
    have hi : i ≤ rs.length := by rw [← hz]; exact Nat.le_of_lt (List.getElem?_eq_some_iff.mp e).1
    obtain ⟨r, hr, ht⟩ := (hl i σ H hi p).2.get e
    exact hs i t r σ H hr ht p
/-- the dict of placed names -/
def setK (pl : List Str) : List (Key × V) := pl.map fun x => (Sum.inr x, V.bl true)
theorem valV_setK : ∀ (pl : List Str) (x : Str), valV (setK pl) (Sum.inr x) = if x ∈ pl then some (V.bl true) else none
  | [], x => rfl
  | y :: pl, x => by
    show valV ((Sum.inr y, V.bl true) :: setK pl) (Sum.inr x) = _
    by_cases e : y = x
    · rw [valV_pos (by rw [e]), if_pos (by rw [e]; exact List.mem_cons_self)]
    · have ih := valV_setK pl x
      have h2 : valV ((Sum.inr y, V.bl true) :: setK pl) (Sum.inr x : Key) = valV (setK pl) (Sum.inr x) := by
        unfold valV
        rw [List.find?_cons_of_neg]
        simpa using fun z => e z
      rw [h2, ih]
      simp [List.mem_cons, Ne.symm e]
/-- a strike's, a tie's tuple -/
def sV (t : Stk Str) : List V := [.str t.1, .str t.2.1, .int t.2.2]
def tV (t : Str × Int) : List V := [.str t.1, .int t.2]
/-- a valid name -/
def OkN (z : Str) : Prop := 1 ≤ z.length ∧ z.length ≤ 12 ∧ ∀ c ∈ z.cps.toList, 97 ≤ c ∧ c ≤ 122
theorem take_s {α : Type} {l : List α} {i : Nat} {x : α} (h : l[i]? = some x) : l.take (i + 1) = l.take i ++ [x] := by
  rw [List.take_add_one, h]
  rfl
theorem get_map {α β : Type} {f : α → β} {l : List α} {i : Nat} {y : β} (h : (l.map f)[i]? = some y) : ∃ x, l[i]? = some x ∧ y = f x := by
  rw [List.getElem?_map] at h
  cases e : l[i]? with
  | none => rw [e] at h; cases h
  | some x => rw [e] at h; exact ⟨x, rfl, (Option.some.inj h).symm⟩
/-- xs.append(e), e a new tuple, xs a list of tuples that we own -/
theorem app_tup {K : PySem.W.Frag} {te : TE} {σ : L2.St} {H : Hp} {ip : Nat} {p : Addr} {us : List Addr} {rs : List (List V)} {r : List V} {Q : VK} (hσ : σ[ip]? = some (some (.ref p))) (hp : H p = some (.lst (us.map V.ref))) (hu : Tups K H us rs) (hl : us.length < 100000)
    (ht : ∀ Q : VK, (∀ t, H t = none → Q (.ref t) (upd H t (.tup r))) → te σ H Q) (q : ∀ H2, But p H H2 → H2 p ≠ none → NTs K H2 p (rs ++ [r]) → Q .non H2) :
    tBM K "list" rAppend (tVar ip) (tCons te tNil) σ H Q := by
  refine ⟨.ref p, hσ, .inl ⟨rfl, _, SqL.of hp⟩, ht _ fun t nt => ?_⟩
  have hne : p ≠ t := ne_of_none hp nt
  refine ⟨p, us.map V.ref, .ref t, rfl, rfl, by rw [upd_ne hne]; exact hp, by rw [List.length_map, sizeLine_eq]; omega, ?_⟩
  have b : But p H (upd (upd H t (.tup r)) p (.lst (us.map V.ref ++ [.ref t]))) := (But.of (L2.Same.new nt)).trans But.put
  refine q _ b (by rw [upd_same]; simp) ⟨us ++ [t], by rw [upd_same, List.map_append]; rfl, (hu.but b (nl hp).1 (nl hp).2).snoc ?_⟩
  exact SqT.of (by rw [upd_ne (Ne.symm hne), upd_same])
/-- (x, y): two slots -/
theorem tup2 {σ : L2.St} {H : Hp} {i j : Nat} {x y : V} (hi : σ[i]? = some (some x)) (hj : σ[j]? = some (some y)) : ∀ Q : VK, (∀ t, H t = none → Q (.ref t) (upd H t (.tup [x, y]))) → tTup (tCons (tVar i) (tCons (tVar j) tNil)) σ H Q :=
  fun Q q => ⟨x, hi, y, hj, by show 2 ≤ sizeLine; decide, fun t nt => q t nt⟩
theorem tup3 {σ : L2.St} {H : Hp} {i j k : Nat} {x y z : V} (hi : σ[i]? = some (some x)) (hj : σ[j]? = some (some y)) (hk : σ[k]? = some (some z)) : ∀ Q : VK, (∀ t, H t = none → Q (.ref t) (upd H t (.tup [x, y, z]))) → tTup (tCons (tVar i) (tCons (tVar j) (tCons (tVar k) tNil))) σ H Q :=
  fun Q q => ⟨x, hi, y, hj, z, hk, by show 3 ≤ sizeLine; decide, fun t nt => q t nt⟩
/-! tests -/
theorem dec_str {x y : Str} : decide (V.str x = V.str y) = decide (x = y) := by
  by_cases h : x = y
  · rw [h]; simp
  · rw [decide_eq_false h, decide_eq_false fun z => h (V.str.inj z)]
theorem t_eqS {σ : L2.St} {H : Hp} {i j : Nat} {x y : Str} {Q : Bool → Hp → Prop} (hi : σ[i]? = some (some (.str x))) (hj : σ[j]? = some (some (.str y))) (q : Q (decide (x = y)) H) : tTest (tOp rEq (tVar i) (tVar j)) σ H Q :=
  ⟨_, hi, _, hj, rfl, _, rfl, by rw [dec_str]; exact q⟩
theorem t_inD {σ : L2.St} {H : Hp} {i j : Nat} {x : Str} {d : Addr} {kvs : List (Key × V)} {Q : Bool → Hp → Prop} (hi : σ[i]? = some (some (.str x))) (hj : σ[j]? = some (some (.ref d))) (h : H d = some (.dK kvs)) (q : Q (valV kvs (Sum.inr x)).isSome H) : tB (tDIn (tVar i) (tVar j)) σ H Q :=
  ⟨_, hi, _, hj, d, _, rfl, DGet.k (k := Sum.inr x) h, _, rfl, q⟩
theorem in_setK {pl : List Str} {x : Str} : (valV (setK pl) (Sum.inr x)).isSome = decide (x ∈ pl) := by
  rw [valV_setK]
  by_cases h : x ∈ pl <;> simp [h]
theorem t_inK {σ : L2.St} {H : Hp} {i j : Nat} {x : Str} {d : Addr} {pl : List Str} {Q : Bool → Hp → Prop} (hi : σ[i]? = some (some (.str x))) (hj : σ[j]? = some (some (.ref d))) (h : H d = some (.dK (setK pl))) (q : Q (decide (x ∈ pl)) H) : tB (tDIn (tVar i) (tVar j)) σ H Q :=
  t_inD hi hj h (by rw [in_setK]; exact q)
/-! ### comprehensions whose block leaves what stood -/
abbrev LcW (J : It) (g : TG) (tt : TT) (te : TE) (vs : List Nat) (σ : L2.St) (H1 : Hp) (D : Addr) (Qd : Hp → Prop) : Prop := ∃ W : Nat → Nat → Hp → Prop, (∃ m, W 0 m (upd H1 D (.lst []))) ∧ ∀ i m H, W i m H →
      (J.stop i H ∧ Qd H) ∨ (J.go i H ∧ ∃ Nx : Hp → Prop, (∀ H', Nx H' → ∃ m', m' < m ∧ W (i + 1) m' H') ∧ ∀ x H', J.yld i H x H' → g x (wipe σ vs) H' fun σ2 H2 => wipe σ2 vs = wipe σ vs ∧ tt σ2 H2 fun b H3 =>
        if b = true then te σ2 H3 fun y H4 => ∃ acc, H4 D = some (.lst acc) ∧ acc.length < sizeLine ∧ Nx (upd H4 D (.lst (acc ++ [y]))) else Nx H3)
section
variable {K : PySem.W.Frag} {J : It} {n : Nat} {G : Hp → Prop} {Y : Nat → Hp → V → Hp → Prop} {g : TG} {tt : TT} {te : TE} {vs : List Nat} {σ : L2.St} {H1 : Hp} {D : Addr} {Qd : Hp → Prop}
/-- items that are values -/
theorem lc_opt (w : Walk J n G Y) (hD : H1 D = none) (hn : n ≤ 100000) (f : Nat → Option V) (hG : ∀ H, Same H1 H → G H)
    (hs : ∀ i x H H', i < n → Same H1 H → Y i H x H' → g x (wipe σ vs) H' fun σ2 H2 => wipe σ2 vs = wipe σ vs ∧ Same H H2 ∧ tt σ2 H2 fun b H3 => Same H2 H3 ∧ b = (f i).isSome ∧ ∀ v, f i = some v → ∀ Q : VK, (∀ H4, Same H3 H4 → Q v H4) → te σ2 H3 Q)
    (mono : ∀ σ H Q Q', (∀ b H1, Q b H1 → Q' b H1) → tt σ H Q → tt σ H Q') (gmono : ∀ x σ H Q Q', (∀ σ H1, Q σ H1 → Q' σ H1) → g x σ H Q → g x σ H Q')
    (hd : ∀ H, Same H1 H → H D = some (.lst ((List.range n).filterMap f)) → Qd H) : LcW J g tt te vs σ H1 D Qd := by
  refine lc_it w (fun i H => Same H1 H ∧ H D = some (.lst ((List.range i).filterMap f))) ⟨L2.Same.new hD, upd_same⟩ (fun i H _ p => hG H p.1) (fun i x H H' hi p y => ?_) fun H p => hd H p.1 p.2
  refine gmono _ _ _ _ _ (fun σ2 H2 q => ?_) (hs i x H H' hi p.1 y)
  refine ⟨q.1, mono _ _ _ _ (fun b H3 q3 => ?_) q.2.2⟩
  obtain ⟨e3, rfl, q3⟩ := q3
  have hD3 := e3 _ _ (q.2.1 _ _ p.2)
  rw [List.range_succ, List.filterMap_append]
  cases hf : f i with
  | none =>
    refine iteF ⟨(p.1.trans q.2.1).trans e3, ?_⟩
    simp only [List.filterMap_cons, hf, List.filterMap_nil, List.append_nil]
    exact hD3
  | some v =>
    refine iteT (q3 v hf _ fun H4 e4 => ⟨_, e4 _ _ hD3, ?_, L2.Same.mut (((p.1.trans q.2.1).trans e3).trans e4) hD, ?_⟩)
    · have := List.length_filterMap_le f (List.range i)
      rw [List.length_range] at this
      rw [sizeLine_eq]; omega
    · rw [upd_same]
      simp only [List.filterMap_cons, hf, List.filterMap_nil]
/-- items that are new tuples -/
theorem lc_tups (w : Walk J n G Y) (hD : H1 D = none) (hn : n ≤ 100000) (rs : List (List V)) (hr : rs.length = n) (hG : ∀ H, Same H1 H → G H)
    (hs : ∀ i x H H' r, rs[i]? = some r → Same H1 H → Y i H x H' → g x (wipe σ vs) H' fun σ2 H2 => wipe σ2 vs = wipe σ vs ∧ Same H H2 ∧ ∀ Q : VK, (∀ t H3, Same H2 H3 → SqT K H3 t r → Q (.ref t) H3) → te σ2 H2 Q)
    (gmono : ∀ x σ H Q Q', (∀ σ H1, Q σ H1 → Q' σ H1) → g x σ H Q → g x σ H Q')
    (hd : ∀ H, Same H1 H → NTs K H D rs → Qd H) : LcW J g tYes te vs σ H1 D Qd := by
  refine lc_it w (fun i H => Same H1 H ∧ NTs K H D (rs.take i)) ⟨L2.Same.new hD, ⟨[], upd_same, trivial⟩⟩ (fun i H _ p => hG H p.1) (fun i x H H' hi p y => ?_) fun H p => hd H p.1 (by have := p.2; rw [← hr, List.take_length] at this; exact this)
  obtain ⟨e, ts, hDs, ht⟩ := p
  have hir : i < rs.length := by omega
  refine gmono _ _ _ _ _ (fun σ2 H2 q => ?_) (hs i x H H' rs[i] (List.getElem?_eq_getElem hir) e y)
  obtain ⟨q1, q2, q3⟩ := q
  refine ⟨q1, ?_⟩
  unfold tYes
  dsimp only
  rw [if_pos rfl]
  refine q3 _ fun t H3 e3 h3 => ?_
  have hD3 := e3 _ _ (q2 _ _ hDs)
  have h := ht.length
  rw [List.length_take] at h
  have b : But D H3 (upd H3 D (.lst (ts.map V.ref ++ [.ref t]))) := But.put
  refine ⟨_, hD3, by rw [List.length_map, sizeLine_eq]; omega, L2.Same.mut ((e.trans q2).trans e3) hD, ts ++ [t], by rw [upd_same, List.map_append]; rfl, ?_⟩
  rw [take_s (List.getElem?_eq_getElem hir)]
  exact ((ht.same (q2.trans e3)).but b (nl hD3).1 (nl hD3).2).snoc (b.tup (nl hD3).1 (nl hD3).2 h3)
end
theorem gm_name {i : Nat} : ∀ x σ H Q Q', (∀ σ H1, Q σ H1 → Q' σ H1) → gName i x σ H Q → gName i x σ H Q' := fun _ _ _ _ _ h q => h _ _ q
theorem gm_tup2 {K : PySem.W.Frag} {i j : Nat} : ∀ x σ H Q Q', (∀ σ H1, Q σ H1 → Q' σ H1) → gTup K 2 (gCons (gName i) (gCons (gName j) gNil)) x σ H Q → gTup K 2 (gCons (gName i) (gCons (gName j) gNil)) x σ H Q' := by
  rintro x σ H Q Q' h ⟨a, xs, e, hq, hl, v, r, e1, v2, r2, e2, e3, q⟩
  exact ⟨a, xs, e, hq, hl, v, r, e1, v2, r2, e2, e3, h _ _ q⟩
theorem gm_tup3 {K : PySem.W.Frag} {i j k : Nat} : ∀ x σ H Q Q', (∀ σ H1, Q σ H1 → Q' σ H1) → gTup K 3 (gCons (gName i) (gCons (gName j) (gCons (gName k) gNil))) x σ H Q → gTup K 3 (gCons (gName i) (gCons (gName j) (gCons (gName k) gNil))) x σ H Q' := by
  rintro x σ H Q Q' h ⟨a, xs, e, hq, hl, v, r, e1, v2, r2, e2, v3, r3, e3, e4, q⟩
  exact ⟨a, xs, e, hq, hl, v, r, e1, v2, r2, e2, v3, r3, e3, e4, h _ _ q⟩
theorem tm_yes : ∀ σ H Q Q', (∀ b H1, Q b H1 → Q' b H1) → tYes σ H Q → tYes σ H Q' := fun _ _ _ _ h q => h _ _ q
/-- a tuple of values to slots -/
theorem g2 {K : PySem.W.Frag} {H : Hp} {σ : L2.St} {i j : Nat} {t : Addr} {x y : V} {Q : L2.St → Hp → Prop} (h : SqT K H t [x, y]) (q : Q ((σ.set i (some x)).set j (some y)) H) : gTup K 2 (gCons (gName i) (gCons (gName j) gNil)) (.ref t) σ H Q :=
  ⟨t, _, rfl, h, rfl, _, _, rfl, _, _, rfl, rfl, q⟩
theorem g3 {K : PySem.W.Frag} {H : Hp} {σ : L2.St} {i j k : Nat} {t : Addr} {x y z : V} {Q : L2.St → Hp → Prop} (h : SqT K H t [x, y, z]) (q : Q (((σ.set i (some x)).set j (some y)).set k (some z)) H) : gTup K 3 (gCons (gName i) (gCons (gName j) (gCons (gName k) gNil))) (.ref t) σ H Q :=
  ⟨t, _, rfl, h, rfl, _, _, rfl, _, _, rfl, _, _, rfl, rfl, q⟩
/-- an answer known -/
theorem iteY {c A B : Prop} [Decidable c] (h : c) (a : A) : if decide c = true then A else B := by rw [decide_eq_true h]; exact iteT a
theorem iteN {c A B : Prop} [Decidable c] (h : ¬ c) (b : B) : if decide c = true then A else B := by rw [decide_eq_false h]; exact iteF b
theorem iteB {c A B : Prop} [Decidable c] (h1 : c → A) (h2 : ¬ c → B) : if decide c = true then A else B := by
  by_cases h : c
  · exact iteY h (h1 h)
  · exact iteN h (h2 h)
theorem range_fm {α β : Type} (l : List α) (h : α → Option β) : ∀ n, (List.range n).filterMap (fun i => l[i]?.bind h) = (l.take n).filterMap h
  | 0 => rfl
  | n + 1 => by
    rw [List.range_succ, List.filterMap_append, range_fm l h n, List.take_add_one, List.filterMap_append]
    congr 1
    cases e : l[n]? with
    | none => simp [e]
    | some x => cases q : h x <;> simp [e, q]
theorem range_all {α β : Type} (l : List α) (f : α → β) {n : Nat} (hn : l.length ≤ n) : (List.range n).filterMap (fun i => l[i]?.map f) = l.map f := by
  have h := range_fm l (fun x => some (f x)) n
  rw [List.take_of_length_le hn] at h
  rw [← List.filterMap_eq_map, ← show (fun x => some (f x)) = some ∘ f from rfl] 
  rw [← h]
  congr 1
  funext i
  cases l[i]? <;> rfl
theorem range_fms {α β : Type} (l : List α) (h : α → Option β) {n : Nat} (hn : l.length ≤ n) : (List.range n).filterMap (fun i => l[i]?.bind h) = l.filterMap h := by
  rw [range_fm, List.take_of_length_le hn]
theorem inV_str : ∀ (ns : List Str) (z : Str), inV (.str z) (ns.map V.str) = decide (z ∈ ns)
  | [], z => rfl
  | n :: ns, z => by
    show (eqV (.str n) (.str z) || inV (.str z) (ns.map V.str)) = _
    rw [inV_str ns z]
    show ((n == z) || decide (z ∈ ns)) = _
    by_cases h : n = z
    · subst h; simp
    · have h2 : (n == z) = false := beq_eq_false_iff_ne.mpr h
      rw [h2, Bool.false_or]
      simp [List.mem_cons, Ne.symm h]
theorem flat_str (ns : List Str) : (ns.map V.str).all flatV = true := by simp [List.all_map, flatV]
theorem inV_int : ∀ (ns : List Int) (z : Int), inV (.int z) (ns.map V.int) = decide (z ∈ ns)
  | [], z => rfl
  | n :: ns, z => by
    show (eqV (.int n) (.int z) || inV (.int z) (ns.map V.int)) = _
    rw [inV_int ns z]
    show ((n == z) || decide (z ∈ ns)) = _
    by_cases h : n = z
    · subst h; simp
    · have h2 : (n == z) = false := beq_eq_false_iff_ne.mpr h
      rw [h2, Bool.false_or]
      simp [List.mem_cons, Ne.symm h]
theorem flat_int (ns : List Int) : (ns.map V.int).all flatV = true := by simp [List.all_map, flatV]
/-- x in xs, x not in xs: texts -/
theorem t_inS {K : PySem.W.Frag} {σ : L2.St} {H : Hp} {tb : TE} {i : Nat} {x : Str} {ns : List Str} {neg : Bool} {Q : Bool → Hp → Prop} (hi : σ[i]? = some (some (.str x))) (hb : ∀ Q : VK, (∀ p, SqL K H p (ns.map V.str) ∨ SqT K H p (ns.map V.str) → Q (.ref p) H) → tb σ H Q)
    (q : Q (if neg = true then !decide (x ∈ ns) else decide (x ∈ ns)) H) : tTest (tOp (rIn K neg) (tVar i) tb) σ H Q :=
  ⟨_, hi, hb _ fun p h => ⟨p, _, rfl, h, rfl, flat_str ns, _, rfl, by rw [inV_str]; exact q⟩⟩
theorem t_inS2 {K : PySem.W.Frag} {σ : L2.St} {H : Hp} {tb : TE} {i : Nat} {x : Str} {ns : List Str} {neg : Bool} {Q : Bool → Hp → Prop} (hi : σ[i]? = some (some (.str x))) (hb : ∀ Q : VK, (∀ p H2, Same H H2 → SqL K H2 p (ns.map V.str) ∨ SqT K H2 p (ns.map V.str) → Q (.ref p) H2) → tb σ H Q)
    (q : ∀ H2, Same H H2 → Q (if neg = true then !decide (x ∈ ns) else decide (x ∈ ns)) H2) : tTest (tOp (rIn K neg) (tVar i) tb) σ H Q :=
  ⟨_, hi, hb _ fun p H2 e h => ⟨p, _, rfl, h, rfl, flat_str ns, _, rfl, by rw [inV_str]; exact q H2 e⟩⟩
/-- xs[:i], xs[i:] -/
theorem cut_take (xs : List V) (i : Nat) (h : i ≤ xs.length) : cutV xs none (some (i : Int)) = xs.take i := by
  unfold cutV
  rw [HT.sIx_nat, HT.sIx_none, List.drop_zero, Nat.min_eq_left h, Nat.sub_zero]
theorem cut_drop (xs : List V) (i : Nat) (h : i ≤ xs.length) : cutV xs (some (i : Int)) none = xs.drop i := by
  unfold cutV
  rw [HT.sIx_nat, HT.sIx_none, Nat.min_eq_left h]
  exact List.take_of_length_le (by rw [List.length_drop]; omega)
end FBQ
end
section
set_option Elab.async false
set_option linter.all false
set_option maxRecDepth 100000
set_option maxHeartbeats 1000000
namespace FBQ
open PySem PySem.Spec PyProof.Rows L2 FBR FB
section
variable {P : Program} {w : World} {K : PySem.W.Frag} {mg : Str → Option Value} {base : Heap}
def spTies (K : PySem.W.Frag) : Sp := fun vs H Q _ => ∃ (z : Str) (d l : Addr) (pl : List Str) (S : List (Stk Str)), vs = [.str z, .ref d, .ref l] ∧ H d = some (.dK (setK pl)) ∧ LTs K H l (S.map sV) ∧ S.length ≤ 100 ∧
  ∀ p H', Same H H' → H p = none → NTs K H' p ((tiesM z pl S).map tV) → Q (.ref p) H'
theorem tiesM_take {z : Str} {pl : List Str} {S : List (Stk Str)} {i : Nat} {t : Stk Str} (h : S[i]? = some t) : tiesM z pl (S.take (i + 1)) = tiesM z pl (S.take i) ++ (tieOne z pl t).toList := by
  unfold tiesM
  rw [take_s h, List.filterMap_append]
  cases e : tieOne z pl t with
  | none => simp [e]
  | some v => simp [e]
theorem ok_ties (T : Tx K mg) : DefOk P w K mg base 1 (He.ga K "ties") ["fresh", "placed", "strikes"] [] (spTies K) := by
  refine defOk T.f_ties sc_ties (fun _ _ _ _ _ _ us hl => match us, hl with | [_, _, _], _ => rfl) (fun vs H Q E h => by obtain ⟨_, _, _, _, _, rfl, _⟩ := h; rfl) fun cdv A outer s H vs Q E hr h => ?_
  obtain ⟨z, d, l, pl, S, rfl, hd, ⟨ts, hl, ht⟩, hz, hQ⟩ := h
  refine ⟨_, ((pss_cons (ps_set (i := 3) sc_ties.nd rfl (.inl rfl) (pe_lst pa_nil))
 (pss_cons (ps_for PassesOwn.never rfl (pi_listK K (pv 2)) (pg_tup rfl (pgs_cons (pg_name (i := 4) sc_ties.nd rfl (.inl rfl) (.inl rfl)) (pgs_cons (pg_name (i := 5) sc_ties.nd rfl (.inl rfl) (.inl rfl)) (pgs_cons (pg_name (i := 6) sc_ties.nd rfl (.inl rfl) (.inl rfl)) pgs_nil))))
 (pss_one (ps_if (PW.pt (pw_and (pt_cmpR op_eq (pv 4) (pv 0) (nomark _)) (pw_and1 (pt_cmp (pc_din (hu_of hr) (pv 5) (pv 1))))))
 (pss_one (ps_expr (pe_bm PySem.F.plainAttrs_list PySem.F.slot_list_append PySem.F.type_list_append mt_append (pv 3) (pa_cons (pe_tup (pa_cons (pv 5) (pa_cons (pv 6) pa_nil))) pa_nil)))) (pss_one (ps_if (PW.pt (pw_and (pt_cmpR op_eq (pv 5) (pv 0) (nomark _)) (pw_and1 (pt_cmp (pc_din (hu_of hr) (pv 4) (pv 1))))))
 (pss_one (ps_expr (pe_bm PySem.F.plainAttrs_list PySem.F.slot_list_append PySem.F.type_list_append mt_append (pv 3) (pa_cons (pe_tup (pa_cons (pv 4) (pa_cons (pv 6) pa_nil))) pa_nil)))) pss_nil)))))
 (pss_one (ps_ret (pv 3)))))), ?_⟩
  refine ⟨Nat.zero_le _, fun p hp => ?_⟩
  refine ⟨.ref l, rfl, l, rfl, ⟨_, (L2.Same.new hp).seq hl⟩, ?_⟩
  refine for_tups (rs := S.map sV) (fun i σ H' => ∃ a b c, σ = [some (.str z), some (.ref d), some (.ref l), some (.ref p), a, b, c] ∧ Same H H' ∧ NTs K H' p ((tiesM z pl (S.take i)).map tV))
    ⟨none, none, none, rfl, L2.Same.new hp, ⟨[], upd_same, trivial⟩⟩ (fun i σ H' _ ⟨_, _, _, _, e, _⟩ => ⟨e.seq hl, ht.same e⟩) ht.length (fun i t r σ H' hr' htr hPv => ?_) fun σ H' hPv => ?_
  · obtain ⟨a, b, c, rfl, e, us, hp', hu⟩ := hPv
    obtain ⟨q, hq, rfl⟩ := get_map hr'
    obtain ⟨x, y, n⟩ := q
    rw [tiesM_take hq]
    have hd' := e d _ hd
    have hul : us.length < 100000 := by
      have h1 := hu.length
      have h2 : ((tiesM z pl (S.take i)).map tV).length ≤ S.length := by
        rw [List.length_map]
        exact Nat.le_trans (List.length_filterMap_le _ _) (by rw [List.length_take]; omega)
      omega
    have np : H p = none := hp
    refine ⟨t, _, rfl, htr, rfl, _, _, rfl, _, _, rfl, _, _, rfl, rfl, ?_⟩
    have fin : ∀ (v : Str), tieOne z pl (x, y, n) = some (v, n) → ∀ H2, But p H' H2 → NTs K H2 p ((tiesM z pl (S.take i)).map tV ++ [tV (v, n)]) →
        ∃ a b c, [some (V.str z), some (.ref d), some (.ref l), some (.ref p), some (.str x), some (.str y), some (.int n)] = [some (V.str z), some (.ref d), some (.ref l), some (.ref p), a, b, c] ∧ Same H H2 ∧ NTs K H2 p ((tiesM z pl (S.take i) ++ (tieOne z pl (x, y, n)).toList).map tV) := by
      intro v e2 H2 b2 N
      refine ⟨_, _, _, rfl, fun b o hb => b2 b o (fun q => ?_) (e b o hb), ?_⟩
      · rw [q, np] at hb; cases hb
      · rw [e2, List.map_append]; exact N
    have none' : tieOne z pl (x, y, n) = none → ∃ a b c, [some (V.str z), some (.ref d), some (.ref l), some (.ref p), some (.str x), some (.str y), some (.int n)] = [some (V.str z), some (.ref d), some (.ref l), some (.ref p), a, b, c] ∧ Same H H' ∧ NTs K H' p ((tiesM z pl (S.take i) ++ (tieOne z pl (x, y, n)).toList).map tV) := by
      intro e2
      rw [e2, Option.toList_none, List.append_nil]
      exact ⟨_, _, _, rfl, e, us, hp', hu⟩
    have snd : ¬ (x = z ∧ y ∈ pl) → tIfS (tAnd (tTest (tOp rEq (tVar 5) (tVar 0))) (tB (tDIn (tVar 4) (tVar 1)))) (tDrop (tBM K "list" rAppend (tVar 3) (tCons (tTup (tCons (tVar 4) (tCons (tVar 6) tNil))) tNil))) tNext
        { nx := fun σ' H2 => ∃ a b c, σ' = [some (V.str z), some (.ref d), some (.ref l), some (.ref p), a, b, c] ∧ Same H H2 ∧ NTs K H2 p ((tiesM z pl (S.take i) ++ (tieOne z pl (x, y, n)).toList).map tV), rt := Q }
        [some (V.str z), some (.ref d), some (.ref l), some (.ref p), some (.str x), some (.str y), some (.int n)] H' := by
      intro h1
      refine t_eqS rfl rfl (ite2 (fun h2 => t_inK rfl rfl hd' (ite2 (fun h3 => ?_) fun h3 => none' ?_)) fun h2 => iteF (none' ?_))
      · exact app_tup rfl hp' hu hul (tup2 rfl rfl) fun H2 b2 _ N => fin x ((if_neg h1).trans (if_pos ⟨of_decide_eq_true h2, of_decide_eq_true h3⟩)) H2 b2 N
      · exact (if_neg h1).trans (if_neg fun q => of_decide_eq_false (Bool.eq_false_iff.mpr h3) q.2)
      · exact (if_neg h1).trans (if_neg fun q => of_decide_eq_false (Bool.eq_false_iff.mpr h2) q.1)
    refine t_eqS rfl rfl (ite2 (fun h2 => t_inK rfl rfl hd' (ite2 (fun h3 => ?_) fun h3 => snd ?_)) fun h2 => iteF (snd ?_))
    · exact app_tup rfl hp' hu hul (tup2 rfl rfl) fun H2 b2 _ N => fin y (if_pos ⟨of_decide_eq_true h2, of_decide_eq_true h3⟩) H2 b2 N
    · exact fun q => of_decide_eq_false (Bool.eq_false_iff.mpr h3) q.2
    · exact fun q => of_decide_eq_false (Bool.eq_false_iff.mpr h2) q.1
  · obtain ⟨a, b, c, rfl, e, N⟩ := hPv
    rw [List.length_map, List.take_length] at N
    exact ⟨_, rfl, hQ p H' e hp N⟩
end
end FBQ
end
section
set_option Elab.async false
set_option linter.all false
set_option maxRecDepth 100000
set_option maxHeartbeats 1000000
namespace FBQ
open PySem PySem.Spec PyProof.Rows L2 FBR FB
section
variable {P : Program} {w : World} {K : PySem.W.Frag} {mg : Str → Option Value} {base : Heap}
def spIsName : Sp := fun vs H Q _ => ∃ z : Str, vs = [.str z] ∧ OkN z ∧ Q (.bl true) H
theorem letter_in {c : Nat} (h : 97 ≤ c ∧ c ≤ 122) : c ∈ ("abcdefghijklmnopqrstuvwxyz" : Str).cps.toList := by
  have : ∀ k, k < 26 → (97 + k) ∈ ("abcdefghijklmnopqrstuvwxyz" : Str).cps.toList := by decide +kernel
  have h2 := this (c - 97) (by omega)
  rwa [show 97 + (c - 97) = c by omega] at h2
theorem ok_is_name (T : Tx K mg) : DefOk P w K mg base 1 (He.ga K "is_name") ["text"] [] spIsName := by
  refine defOk T.f_is_name sc_is_name (fun _ _ _ _ _ _ us hl => match us, hl with | [_], _ => rfl) (fun vs H Q E h => by obtain ⟨_, rfl, _⟩ := h; rfl) fun cdv A outer s H vs Q E hr h => ?_
  obtain ⟨z, rfl, ⟨h1, h2, h3⟩, hQ⟩ := h
  have hz : z.length ≤ sizeLine := by rw [sizeLine_eq]; omega
  refine ⟨_, ((pss_cons (ps_if (PW.pt (pw_or (pt_cmpR op_lt (pe_callB call_len_str (by rfl) T.b_len (by decide +kernel) (pa_cons (pv 0) pa_nil)) pe_int (nomark _)) (pw_or1 (pt_cmpR op_gt (pe_callB call_len_str (by rfl) T.b_len (by decide +kernel) (pa_cons (pv 0) pa_nil)) (pe_gint rfl T.c_MOST_LETTERS) (nomark _)))))
 (pss_one (ps_ret pe_bl)) pss_nil)
 (pss_cons (ps_for PassesOwn.never rfl (pi_str (pv 0)) (pg_name (i := 1) sc_is_name.nd rfl (.inl rfl) (.inl rfl))
 (pss_one (ps_if (pt_cmpR op_notIn_sign (pv 1) (pe_gstr rfl T.c_LETTERS) rfl)
 (pss_one (ps_ret pe_bl)) pss_nil)))
 (pss_one (ps_ret pe_bl))))), ?_⟩
  refine ⟨_, rfl, z, rfl, hz, _, _, rfl, rfl, _, rfl, iteN (by omega) ?_⟩
  refine ⟨_, rfl, z, rfl, hz, _, _, rfl, rfl, _, rfl, iteN (by omega) ?_⟩
  refine ⟨.str z, rfl, z, rfl, ?_⟩
  refine for_it walk_str (fun i σ H' => H' = H ∧ ∃ o, σ = [some (.str z), o]) ⟨rfl, none, rfl⟩ (fun _ _ _ _ _ => trivial) (fun i x σ H1 H2 hi hp y => ?_) fun σ H' hp => ?_
  · obtain ⟨rfl, o, rfl⟩ := hp
    obtain ⟨rfl, c, hc, rfl⟩ := y
    have hm : c ∈ z.cps.toList := by
      rw [← Array.getElem?_toList] at hc
      exact List.mem_of_getElem? hc
    refine ⟨_, rfl, c, _, rfl, rfl, _, rfl, ?_⟩
    refine ite2 (fun h => ?_) fun _ => ⟨rfl, _, rfl⟩
    have := letter_in (h3 c hm)
    rw [decide_eq_true this] at h
    cases h
  · obtain ⟨rfl, o, rfl⟩ := hp
    exact hQ
/-- a tuning: its names with their pitches -/
def TunAt (K : PySem.W.Frag) (H : Hp) (x : Addr) (lv : Lv Str) : Prop := ∃ dx t r, H x = some (.ins (He.ga K "Tuning") dx [("level", .ref t), ("name_row", .ref r)]) ∧ TTs K H t (lv.map tV)
theorem TunAt.same {H H' : Hp} {x : Addr} {lv : Lv Str} (e : Same H H') (h : TunAt K H x lv) : TunAt K H' x lv := by
  obtain ⟨dx, t, r, a, b⟩ := h
  exact ⟨dx, t, r, e _ _ a, b.same e⟩
def spTpitches (K : PySem.W.Frag) : Sp := fun vs H Q _ => ∃ (x : Addr) (lv : Lv Str), vs = [.ref x] ∧ TunAt K H x lv ∧ lv.length ≤ 1000 ∧ ∀ p H', Same H H' → H p = none → H' p = some (.tup (lv.map fun q => V.int q.2)) → Q (.ref p) H'
theorem ok_pitches (T : Tx K mg) : DefOk P w K mg base 1 (He.ma K (He.ga K "Tuning") "pitches") ["self"] [] (spTpitches K) := by
  refine defOk T.f_Tuning_pitches sc_Tuning_pitches (fun _ _ _ _ _ _ us hl => match us, hl with | [_], _ => rfl) (fun vs H Q E h => by obtain ⟨_, _, rfl, _⟩ := h; rfl) fun cdv A outer s H vs Q E hr h => ?_
  obtain ⟨x, lv, rfl, ⟨dx, t, r, hx, ts, ht, hts⟩, hz, hQ⟩ := h
  refine ⟨_, ((pss_one (ps_ret (pe_callTy (tuple_ofK K) (by rfl) T.b_tuple (by decide +kernel) (pa_cons (pe_lc (own := [("name", 1), ("pitch", 2)]) (tt := tYes) rfl sc_Tuning_pitches.nd (pi_tupK K (pe_fld (pv 0) rfl)) (blkOk_by (own := [("name", 1), ("pitch", 2)]) (N := ["self", "name", "pitch"]) (sc := (defScope s_Tuning_pitches)) (by decide +kernel)) (fun _ _ _ _ _ => (pg_tupK K 2 rfl (pgs_cons (pg_name (i := 1) sc_Tuning_pitches.nd rfl (Or.inl rfl) (.inr rfl)) (pgs_cons (pg_name (i := 2) sc_Tuning_pitches.nd rfl (Or.inl rfl) (.inr rfl)) pgs_nil)))) (fun _ _ _ _ _ => pts_nil) (fun _ _ _ _ _ => (pv 2))) pa_nil))))), ?_⟩
  refine ⟨.ref x, rfl, x, _, dx, _, _, rfl, hx, T.cl_Tuning, T.a_Tuning_level, rfl, t, rfl, ⟨_, ht⟩, fun D hD => ?_⟩
  refine lc_opt (walk_tup (xs := ts.map V.ref)) hD (by rw [List.length_map, hts.length, List.length_map]; omega) (fun i => lv[i]?.map fun q => V.int q.2) (fun H1 e => e.tup ht) (fun i y H1 H2 hi e hy => ?_) tm_yes gm_tup2 fun H1 e hD1 => ?_
  · obtain ⟨rfl, hy⟩ := hy
    obtain ⟨a, ha, rfl⟩ := get_map hy
    obtain ⟨v, hv, hat⟩ := hts.get ha
    obtain ⟨q, hq, rfl⟩ := get_map hv
    refine g2 (e.tup hat) ⟨rfl, L2.Same.refl _, L2.Same.refl _, by rw [hq]; rfl, fun v hv Q q => ⟨_, rfl, ?_⟩⟩
    rw [hq] at hv
    cases hv
    exact q _ (L2.Same.refl _)
  · refine ⟨D, _, rfl, .inl ⟨SqL.of hD1, fun l nl => hQ l _ (e.trans (L2.Same.new nl)) (e.free nl) ?_⟩⟩
    rw [upd_same]
    rw [range_all lv _ (by rw [List.length_map, hts.length, List.length_map]; exact Nat.le_refl _)]
theorem getL_at {lv : Lv Str} (hn : (lv.map (·.1)).Nodup) {i : Nat} {q : Str × Int} (h : lv[i]? = some q) : getL lv q.1 = q.2 := by
  have : lv.find? (fun p => decide (p.1 = q.1)) = some q := by
    rw [List.find?_eq_some_iff_getElem]
    obtain ⟨hi, e⟩ := List.getElem?_eq_some_iff.mp h
    refine ⟨by simp, i, hi, e, fun j hj => ?_⟩
    simp only [Bool.not_eq_true', decide_eq_false_iff_not]
    intro z
    have h1 : (lv.map (·.1))[j]'(by rw [List.length_map]; omega) = (lv.map (·.1))[i]'(by rw [List.length_map]; exact hi) := by simp [z, e]
    have := (List.getElem_inj hn).mp h1
    omega
  unfold getL
  rw [this]
  rfl
def spTget (K : PySem.W.Frag) : Sp := fun vs H Q _ => ∃ (x : Addr) (lv : Lv Str) (a : Str), vs = [.ref x, .str a] ∧ TunAt K H x lv ∧ (lv.map (·.1)).Nodup ∧ a ∈ lv.map (·.1) ∧ Q (.int (getL lv a)) H
theorem ok_tget (T : Tx K mg) : DefOk P w K mg base 1 (He.ma K (He.ga K "Tuning") "__getitem__") ["self", "at"] [] (spTget K) := by
  refine defOk T.f_TuningU_getitemU sc_TuningU_getitemU (fun _ _ _ _ _ _ us hl => match us, hl with | [_, _], _ => rfl) (fun vs H Q E h => by obtain ⟨_, _, _, rfl, _⟩ := h; rfl) fun cdv A outer s H vs Q E hr h => ?_
  obtain ⟨x, lv, a, rfl, ⟨dx, t, r, hx, ts, ht, hts⟩, hn, ha, hQ⟩ := h
  refine ⟨_, ((pss_cons (ps_for PassesOwn.never rfl (pi_tupK K (pe_fld (pv 0) rfl)) (pg_tup rfl (pgs_cons (pg_name (i := 2) sc_TuningU_getitemU.nd rfl (.inl rfl) (.inl rfl)) (pgs_cons (pg_name (i := 3) sc_TuningU_getitemU.nd rfl (.inl rfl) (.inl rfl)) pgs_nil)))
 (pss_one (ps_if (pt_cmpR op_eq (pv 2) (pv 1) (nomark _))
 (pss_one (ps_ret (pv 3))) pss_nil)))
 (pss_one ps_never))), ?_⟩
  refine ⟨.ref x, rfl, x, _, dx, _, _, rfl, hx, T.cl_Tuning, T.a_Tuning_level, rfl, t, rfl, ⟨_, ht⟩, ?_⟩
  have hl := hts.length
  rw [List.length_map] at hl
  refine for_it (walk_tup (xs := ts.map V.ref)) (fun i σ H' => H' = H ∧ (∃ o q, σ = [some (.ref x), some (.str a), o, q]) ∧ a ∉ (lv.take i).map (·.1)) ⟨rfl, ⟨none, none, rfl⟩, by simp⟩ (fun i σ H1 _ p => by rw [p.1]; exact ht) (fun i y σ H1 H2 hi hp hy => ?_) fun σ H' hp => ?_
  · obtain ⟨rfl, ⟨o, o2, rfl⟩, hna⟩ := hp
    obtain ⟨rfl, hy⟩ := hy
    obtain ⟨b, hb, rfl⟩ := get_map hy
    obtain ⟨v, hv, hat⟩ := hts.get hb
    obtain ⟨q, hq, rfl⟩ := get_map hv
    refine g2 hat (t_eqS rfl rfl (iteB (fun h => ?_) fun h => ?_))
    · refine ⟨_, rfl, ?_⟩
      have := getL_at hn hq
      rw [h] at this
      rw [this] at hQ
      exact hQ
    · refine ⟨rfl, ⟨_, _, rfl⟩, ?_⟩
      rw [take_s hq, List.map_append, List.mem_append]
      rintro (z | z)
      · exact hna z
      · simp at z
        exact h z.symm
  · obtain ⟨rfl, ⟨o, o2, rfl⟩, hna⟩ := hp
    rw [List.length_map, hl, List.take_length] at hna
    exact absurd ha hna
def spTbeats (K : PySem.W.Frag) : Sp := fun vs H Q _ => ∃ (x : Addr) (lv : Lv Str) (a b : Str), vs = [.ref x, .str a, .str b] ∧ TunAt K H x lv ∧ (lv.map (·.1)).Nodup ∧ a ∈ lv.map (·.1) ∧ b ∈ lv.map (·.1) ∧ Q (.int (absI (getL lv a - getL lv b))) H
theorem ok_tbeats (T : Tx K mg) : DefOk P w K mg base 3 (He.ma K (He.ga K "Tuning") "beats") ["self", "a", "b"] [] (spTbeats K) := by
  have D_TuningU_getitemU := ok_tget (P := P) (w := w) (base := base) T
  refine defOk T.f_Tuning_beats sc_Tuning_beats (fun _ _ _ _ _ _ us hl => match us, hl with | [_, _, _], _ => rfl) (fun vs H Q E h => by obtain ⟨_, _, _, _, rfl, _⟩ := h; rfl) fun cdv A outer s H vs Q E hr h => ?_
  obtain ⟨x, lv, a, b, rfl, ht, hn, ha, hb, hQ⟩ := h
  refine ⟨_, ((pss_cons (ps_set (i := 3) sc_Tuning_beats.nd rfl (.inl rfl) (pe_ixD (pv 0) (pv 1) T.m_Tuning___getitem__ T.n_Tuning___getitem__ D_TuningU_getitemU hr))
 (pss_one (ps_ret (pe_callB call_abs (by rfl) T.b_abs (by decide +kernel) (pa_cons (pe_op op_sub (pv 3) (pe_ixD (pv 0) (pv 2) T.m_Tuning___getitem__ T.n_Tuning___getitem__ D_TuningU_getitemU hr)) pa_nil)))))), ?_⟩
  obtain ⟨dx, t, r, hx, _⟩ := id ht
  refine ⟨_, rfl, _, rfl, x, dx, _, rfl, hx, x, lv, a, rfl, ht, hn, ha, ?_⟩
  refine ⟨_, rfl, _, rfl, _, rfl, x, dx, _, rfl, hx, x, lv, b, rfl, ht, hn, hb, _, _, rfl, rfl, _, rfl, hQ⟩
/-- a dict of ints by names -/
def kI (lv : Lv Str) : List (Key × V) := lv.map fun q => (Sum.inr q.1, V.int q.2)
theorem valV_kI : ∀ (lv : Lv Str) (x : Str), valV (kI lv) (Sum.inr x) = (lv.find? fun p => decide (p.1 = x)).map fun q => V.int q.2
  | [], _ => rfl
  | q :: lv, x => by
    show valV ((Sum.inr q.1, V.int q.2) :: kI lv) (Sum.inr x) = _
    by_cases e : q.1 = x
    · rw [valV_pos (by rw [e]), List.find?_cons_of_pos (by simpa using e)]
      rfl
    · have h2 : valV ((Sum.inr q.1, V.int q.2) :: kI lv) (Sum.inr x : Key) = valV (kI lv) (Sum.inr x) := by
        unfold valV
        rw [List.find?_cons_of_neg]
        simpa using fun z => e z
      rw [h2, valV_kI lv x, List.find?_cons_of_neg (by simpa using e)]
theorem find_none {lv : Lv Str} {x : Str} (h : x ∉ lv.map (·.1)) : (lv.find? fun p => decide (p.1 = x)) = none := by
  rw [List.find?_eq_none]
  intro q hq
  simp only [decide_eq_true_eq]
  exact fun e => h (List.mem_map.mpr ⟨q, hq, e⟩)
theorem find_some {lv : Lv Str} {x : Str} (h : x ∈ lv.map (·.1)) : (lv.find? fun p => decide (p.1 = x)).map (fun q => V.int q.2) = some (.int (getL lv x)) := by
  unfold getL
  cases e : lv.find? fun p => decide (p.1 = x) with
  | some q => rfl
  | none =>
    rw [List.find?_eq_none] at e
    obtain ⟨q, hq, rfl⟩ := List.mem_map.mp h
    simpa using e q hq
theorem kI_in {lv : Lv Str} {x : Str} : (valV (kI lv) (Sum.inr x)).isSome = decide (x ∈ lv.map (·.1)) := by
  rw [valV_kI]
  by_cases h : x ∈ lv.map (·.1)
  · rw [find_some h, decide_eq_true h]; rfl
  · rw [find_none h, decide_eq_false h]; rfl
theorem kI_get {lv : Lv Str} {x : Str} (h : x ∈ lv.map (·.1)) : valV (kI lv) (Sum.inr x) = some (.int (getL lv x)) := by rw [valV_kI, find_some h]
theorem kI_put {lv : Lv Str} {x : Str} {v : Int} : putK (kI lv) (Sum.inr x) (V.int v) = kI (putL lv x v) := by
  unfold putK putL kI
  have e : ((lv.map fun q => ((Sum.inr q.1 : Key), V.int q.2)).any fun kv => decide (kv.1 = Sum.inr x)) = lv.any fun p => decide (p.1 = x) := by
    rw [List.any_map]
    congr 1
    funext q
    simp
  rw [e]
  split
  · rw [List.map_map, List.map_map]
    apply List.map_congr_left
    intro q _
    by_cases h : q.1 = x <;> simp [h]
  · rw [List.map_append]
    rfl
theorem putL_new {lv : Lv Str} {x : Str} {v : Int} (h : x ∉ lv.map (·.1)) : putL lv x v = lv ++ [(x, v)] := by
  unfold putL
  rw [if_neg]
  rw [List.any_eq_true]
  rintro ⟨q, hq, e⟩
  exact h (List.mem_map.mpr ⟨q, hq, of_decide_eq_true e⟩)
theorem t_inI {σ : L2.St} {H : Hp} {i j : Nat} {x : Str} {d : Addr} {lv : Lv Str} {Q : Bool → Hp → Prop} (hi : σ[i]? = some (some (.str x))) (hj : σ[j]? = some (some (.ref d))) (h : H d = some (.dK (kI lv))) (q : Q (decide (x ∈ lv.map (·.1))) H) : tB (tDIn (tVar i) (tVar j)) σ H Q :=
  t_inD hi hj h (by rw [kI_in]; exact q)
theorem kI_at {lv : Lv Str} {i : Nat} {k : Key} {v : V} (h : (kI lv)[i]? = some (k, v)) : ∃ q, lv[i]? = some q ∧ k = .inr q.1 ∧ v = .int q.2 := by
  obtain ⟨q, hq, e⟩ := get_map h
  cases e
  exact ⟨q, hq, rfl, rfl⟩
theorem zip_take_snoc {ns : List Str} {ps : List Int} {i : Nat} {n : Str} {p : Int} (h1 : ns[i]? = some n) (h2 : ps[i]? = some p) : (ns.zip ps).take (i + 1) = (ns.zip ps).take i ++ [(n, p)] :=
  take_s (by rw [List.getElem?_zip_eq_some]; exact ⟨h1, h2⟩)
theorem zip_fst_take {ns : List Str} {ps : List Int} (hl : ns.length = ps.length) (i : Nat) : ((ns.zip ps).take i).map (·.1) = ns.take i := by
  rw [List.map_take, List.map_fst_zip (Nat.le_of_eq hl)]
def spTinit (K : PySem.W.Frag) : Sp := fun vs H Q _ => ∃ (x a b dx : Addr) (ns : List Str) (ps : List Int), vs = [.ref x, .ref a, .ref b] ∧ H x = some (.ins (He.ga K "Tuning") dx []) ∧ SqL K H a (ns.map V.str) ∧ SqL K H b (ps.map V.int) ∧ ns.length = ps.length ∧ ns.length ≤ 1000 ∧ ns.Nodup ∧ (∀ z ∈ ns, OkN z) ∧
  ∀ H', But x H H' → TunAt K H' x (ns.zip ps) → Q .non H'
theorem ok_tinit (T : Tx K mg) : DefOk P w K mg base 2 (He.ma K (He.ga K "Tuning") "__init__") ["self", "names", "pitches"] [] (spTinit K) := by
  have D_is_name := ok_is_name (P := P) (w := w) (base := base) T
  refine defOk T.f_TuningU_initU sc_TuningU_initU (fun _ _ _ _ _ _ us hl => match us, hl with | [_, _, _], _ => rfl) (fun vs H Q E h => by obtain ⟨_, _, _, _, _, _, rfl, _⟩ := h; rfl) fun cdv A outer s H vs Q E hr h => ?_
  obtain ⟨x, a, b, dx, ns, ps, rfl, hx, ha, hb, hlen, hz, hn, hok, hQ⟩ := h
  refine ⟨_, ((pss_cons (ps_set (i := 3) sc_TuningU_initU.nd rfl (.inr rfl) (pe_dnewK))
 (pss_cons (ps_for PassesOwn.never rfl (pi_enum (by rfl) T.b_enumerate (pa_cons (pv 1) pa_nil)) (pg_tup rfl (pgs_cons (pg_name (i := 4) sc_TuningU_initU.nd rfl (.inl rfl) (.inl rfl)) (pgs_cons (pg_name (i := 5) sc_TuningU_initU.nd rfl (.inl rfl) (.inl rfl)) pgs_nil)))
 (pss_cons (ps_if (pt_not (pt_val (pe_callD D_is_name hr rfl T.g_is_name (pa_cons (pv 5) pa_nil))))
 (pss_one ps_never) pss_nil)
 (pss_cons (ps_if (pt_cmp (pc_din (hu_of hr) (pv 5) (pv 3)))
 (pss_one ps_never) pss_nil)
 (pss_one (ps_dput (hu_of hr) (pv 3) (pv 5) (pe_ix (ix_listK K) (pv 2) (pv 4) (fun _ _ => rfl)) rfl)))))
 (pss_cons (ps_fld (pv 0) (pe_callTy (tuple_ofK K) (by rfl) T.b_tuple (by decide +kernel) (pa_cons (pe_lock (pe_lc (own := [("name", 5)]) (tt := tYes) rfl sc_TuningU_initU.nd (pi_keys (pv 3)) (blkOk_by (own := [("name", 5)]) (N := ["self", "names", "pitches", "seen", "at", "name"]) (sc := (defScope s_TuningU_initU)) (by decide +kernel)) (fun _ _ _ _ _ => (pg_name (i := 5) sc_TuningU_initU.nd rfl (Or.inl rfl) (.inr rfl))) (fun _ _ _ _ _ => pts_nil) (fun _ _ _ _ _ => (pe_tup (pa_cons (pv 5) (pa_cons (pe_dget (hu_of hr) (pv 3) (pv 5) (fun _ _ => rfl)) pa_nil)))))) pa_nil)) rfl)
 (pss_one (ps_fld (pv 0) (pe_callTy (tuple_ofK K) (by rfl) T.b_tuple (by decide +kernel) (pa_cons (pe_lock (pe_lc (own := [("name", 5)]) (tt := tYes) rfl sc_TuningU_initU.nd (pi_keys (pv 3)) (blkOk_by (own := [("name", 5)]) (N := ["self", "names", "pitches", "seen", "at", "name"]) (sc := (defScope s_TuningU_initU)) (by decide +kernel)) (fun _ _ _ _ _ => (pg_name (i := 5) sc_TuningU_initU.nd rfl (Or.inl rfl) (.inr rfl))) (fun _ _ _ _ _ => pts_nil) (fun _ _ _ _ _ => (pv 5)))) pa_nil)) rfl)))))), ?_⟩
  intro d nd0
  have e0 : Same H (upd H d (.dK [])) := L2.Same.new nd0
  refine ⟨_, rfl, a, _, rfl, e0.seq ha, ?_⟩
  refine for_it (walk_enum (xs := ns.map V.str)) (fun i σ H' => Same H H' ∧ H' d = some (.dK (kI ((ns.zip ps).take i))) ∧ ∃ o o2, σ = [some (.ref x), some (.ref a), some (.ref b), some (.ref d), o, o2]) ⟨e0, upd_same, none, none, rfl⟩ (fun i σ H1 _ p => p.1.seq ha) (fun i y σ H1 H2 hi hp hy => ?_) fun σ H1 hp => ?_
  · obtain ⟨e, hd, o, o2, rfl⟩ := hp
    obtain ⟨t, v1, v2, rfl, nt, rfl, h1, h2⟩ := hy
    cases h1
    obtain ⟨n, hn1, rfl⟩ := get_map h2
    have hil : i < ns.length := (List.getElem?_eq_some_iff.mp hn1).1
    have hp1 : ps[i]? = some ps[i] := List.getElem?_eq_getElem (by omega)
    have e2 := e.trans (L2.Same.new nt (o := .tup [.int (i : Nat), .str n]))
    have hd2 := L2.Same.new nt (o := .tup [.int (i : Nat), .str n]) _ _ hd
    have hnew : n ∉ ((ns.zip ps).take i).map (·.1) := by
      rw [zip_fst_take hlen]
      intro q
      obtain ⟨j, hj, e3⟩ := List.mem_take_iff_getElem.mp q
      have := (List.getElem_inj hn).mp (e3.trans (List.getElem?_eq_some_iff.mp hn1).2.symm)
      omega
    refine g2 (SqT.of upd_same) ?_
    refine ⟨_, rfl, n, rfl, hok n (List.mem_of_getElem? hn1), true, rfl, iteF ?_⟩
    refine t_inI rfl rfl hd2 (iteN hnew ?_)
    refine ⟨_, rfl, _, rfl, b, _, _, .int ps[i], rfl, rfl, e2.seq hb, at_of rfl (by rw [List.getElem?_map, hp1]; rfl), _, rfl, _, rfl, d, _, rfl, DPut.k (k := .inr n) hd2 ?_, e2.mut nd0, ?_, _, _, rfl⟩
    · unfold kI
      rw [List.length_map, List.length_take, List.length_zip, sizeLine_eq]
      omega
    · rw [upd_same, kI_put, putL_new hnew, zip_take_snoc hn1 hp1]
  · obtain ⟨e, hd, o, o2, rfl⟩ := hp
    rw [List.length_map, List.take_of_length_le (by rw [List.length_zip]; omega)] at hd
    generalize hlv : ns.zip ps = lv at hd hQ
    have hlz : lv.length ≤ 1000 := by rw [← hlv, List.length_zip]; omega
    have hln : (lv.map (·.1)).Nodup := by rw [← hlv, List.map_fst_zip (Nat.le_of_eq hlen)]; exact hn
    have hxd : ∀ {H3 : Hp}, Same H H3 → x ≠ d := fun _ => ne_of_none hx nd0
    refine ⟨d, .dK (kI lv), hd, trivial, fun od => ⟨_, rfl, d, od, rfl, .inl ⟨kI lv, upd_same, fun D hD => ?_⟩⟩⟩
    refine lc_tups (K := K) (walk_keys (kvs := kI lv)) hD (by unfold kI; rw [List.length_map]; omega) (lv.map tV) (by unfold kI; rw [List.length_map, List.length_map]) (fun H2 e2 => e2 _ _ upd_same) (fun i y H2 H3 r hr2 e2 hy => ?_) gm_name fun H2 e2 N => ?_
    · obtain ⟨rfl, k, v, hk, rfl⟩ := hy
      obtain ⟨q, hq, rfl, rfl⟩ := kI_at hk
      obtain ⟨q', hq', rfl⟩ := get_map hr2
      rw [hq] at hq'
      cases hq'
      refine ⟨rfl, L2.Same.refl _, fun Q q2 => ?_⟩
      refine ⟨_, rfl, _, rfl, _, rfl, d, .int q.2, rfl, .inl ⟨kI lv, .inr q.1, .inr ⟨od, e2 _ _ upd_same⟩, rfl, ?_⟩, by show 2 ≤ sizeLine; decide, fun t nt => q2 t _ (L2.Same.new nt) (SqT.of upd_same)⟩
      rw [kI_get (List.mem_map.mpr ⟨q, List.mem_of_getElem? hq, rfl⟩), getL_at hln hq]
    · have hd2 := e2 _ _ upd_same
      have hDd : D ≠ d := fun z => by rw [z, upd_same] at hD; cases hD
      have e3 := unlock e2 hd
      have N3 : NTs K (upd H2 d (.dK (kI lv))) D (lv.map tV) := N.but But.put (nz hd2).1 (nz hd2).2 hDd
      obtain ⟨ts, hD3, ht⟩ := N3
      refine ⟨hd2, D, ts.map V.ref, rfl, .inl ⟨SqL.of hD3, fun l nl => ?_⟩⟩
      have hd3 : upd H2 d (.dK (kI lv)) d = some (.dK (kI lv)) := upd_same
      generalize hH3 : upd H2 d (.dK (kI lv)) = H3 at e3 hD3 ht nl hd3 ⊢
      have e4 : Same H (upd H3 l (.tup (ts.map V.ref))) := (e.trans e3).trans (L2.Same.new nl)
      have ht4 := ht.same (L2.Same.new nl (o := .tup (ts.map V.ref)))
      have hl4 : upd H3 l (.tup (ts.map V.ref)) l = some (.tup (ts.map V.ref)) := upd_same
      have hd4 := (L2.Same.new nl (o := .tup (ts.map V.ref))) _ _ hd3
      generalize hH4 : upd H3 l (.tup (ts.map V.ref)) = H4 at e4 ht4 hl4 hd4 ⊢
      have hx4 := e4 _ _ hx
      refine ⟨_, rfl, x, _, dx, [], rfl, hx4, T.cl_Tuning, T.a_Tuning_level, by decide, ?_⟩
      have b5 : But x H4 (upd H4 x (.ins (He.ga K "Tuning") dx (putF "level" (.ref l) []))) := But.put
      have hx5 : upd H4 x (.ins (He.ga K "Tuning") dx (putF "level" (.ref l) [])) x = some (.ins (He.ga K "Tuning") dx [("level", .ref l)]) := upd_same
      have hd5 := b5 _ _ (Ne.symm (hxd e)) hd4
      have tt5 : TTs K (upd H4 x (.ins (He.ga K "Tuning") dx (putF "level" (.ref l) []))) l (lv.map tV) := TTs.but b5 (ni hx4).1 (ni hx4).2 ⟨ts, SqT.of hl4, ht4⟩
      generalize upd H4 x (.ins (He.ga K "Tuning") dx (putF "level" (.ref l) [])) = H5 at b5 hx5 hd5 tt5 ⊢
      -- the names
      refine ⟨d, .dK (kI lv), hd5, trivial, fun od => ⟨_, rfl, d, od, rfl, .inl ⟨kI lv, upd_same, fun D hD => ?_⟩⟩⟩
      refine lc_opt (walk_keys (kvs := kI lv)) hD (by unfold kI; rw [List.length_map]; omega) (fun i => lv[i]?.map fun q => V.str q.1) (fun H2 e2 => e2 _ _ upd_same) (fun i y H2 H3 hi e2 hy => ?_) tm_yes gm_name fun H6 e6 hD6 => ?_
      · obtain ⟨rfl, k, v, hk, rfl⟩ := hy
        obtain ⟨q, hq, rfl, rfl⟩ := kI_at hk
        refine ⟨rfl, L2.Same.refl _, L2.Same.refl _, by rw [hq]; rfl, fun v hv Q q2 => ⟨_, rfl, ?_⟩⟩
        rw [hq] at hv
        cases hv
        exact q2 _ (L2.Same.refl _)
      · have hd6 := e6 _ _ upd_same
        have hDd : D ≠ d := fun z => by rw [z, upd_same] at hD; cases hD
        have e7 := unlock e6 hd5
        have hD7 : upd H6 d (.dK (kI lv)) D = some (.lst ((List.range (kI lv).length).filterMap fun i => lv[i]?.map fun q => V.str q.1)) := by rw [upd_ne hDd]; exact hD6
        refine ⟨hd6, D, _, rfl, .inl ⟨SqL.of hD7, fun r nr => ?_⟩⟩
        have e8 := e7.trans (L2.Same.new nr (o := .tup ((List.range (kI lv).length).filterMap fun i => lv[i]?.map fun q => V.str q.1)))
        have hx8 := e8 _ _ hx5
        have tt8 := tt5.same e8
        refine ⟨_, rfl, x, _, dx, _, rfl, hx8, T.cl_Tuning, T.a_Tuning_name_row, by show (1 : Nat) < 1000; decide, ?_⟩
        refine hQ _ ((((But.of e4).trans b5).trans (But.of e8)).trans But.put) ⟨dx, l, r, upd_same, TTs.but But.put (ni hx8).1 (ni hx8).2 tt8⟩
def negL (lv : Lv Str) : Lv Str := lv.map fun q => (q.1, -q.2)
def spTneg (K : PySem.W.Frag) : Sp := fun vs H Q _ => ∃ (x : Addr) (lv : Lv Str), vs = [.ref x] ∧ TunAt K H x lv ∧ (lv.map (·.1)).Nodup ∧ lv.length ≤ 1000 ∧ (∀ z ∈ lv.map (·.1), OkN z) ∧ ∀ p H', Same H H' → H p = none → TunAt K H' p (negL lv) → Q (.ref p) H'
theorem ok_tneg (T : Tx K mg) : DefOk P w K mg base 4 (He.ma K (He.ga K "Tuning") "__neg__") ["self"] [] (spTneg K) := by
  have D_TuningU_initU := ok_tinit (P := P) (w := w) (base := base) T
  refine defOk T.f_TuningU_negU sc_TuningU_negU (fun _ _ _ _ _ _ us hl => match us, hl with | [_], _ => rfl) (fun vs H Q E h => by obtain ⟨_, _, rfl, _⟩ := h; rfl) fun cdv A outer s H vs Q E hr h => ?_
  obtain ⟨x, lv, rfl, ⟨dx, t, r, hx, ts, ht, hts⟩, hn, hz, hok, hQ⟩ := h
  refine ⟨_, ((pss_one (ps_ret (pe_makeD T.mk_Tuning D_TuningU_initU hr rfl T.g_Tuning (pa_cons (pe_lc (own := [("name", 1), ("pitch", 2)]) (tt := tYes) rfl sc_TuningU_negU.nd (pi_tupK K (pe_fld (pv 0) rfl)) (blkOk_by (own := [("name", 1), ("pitch", 2)]) (N := ["self", "name", "pitch"]) (sc := (defScope s_TuningU_negU)) (by decide +kernel)) (fun _ _ _ _ _ => (pg_tupK K 2 rfl (pgs_cons (pg_name (i := 1) sc_TuningU_negU.nd rfl (Or.inl rfl) (.inr rfl)) (pgs_cons (pg_name (i := 2) sc_TuningU_negU.nd rfl (Or.inl rfl) (.inr rfl)) pgs_nil)))) (fun _ _ _ _ _ => pts_nil) (fun _ _ _ _ _ => (pv 1))) (pa_cons (pe_lc (own := [("name", 1), ("pitch", 2)]) (tt := tYes) rfl sc_TuningU_negU.nd (pi_tupK K (pe_fld (pv 0) rfl)) (blkOk_by (own := [("name", 1), ("pitch", 2)]) (N := ["self", "name", "pitch"]) (sc := (defScope s_TuningU_negU)) (by decide +kernel)) (fun _ _ _ _ _ => (pg_tupK K 2 rfl (pgs_cons (pg_name (i := 1) sc_TuningU_negU.nd rfl (Or.inl rfl) (.inr rfl)) (pgs_cons (pg_name (i := 2) sc_TuningU_negU.nd rfl (Or.inl rfl) (.inr rfl)) pgs_nil)))) (fun _ _ _ _ _ => pts_nil) (fun _ _ _ _ _ => (pe_un un_neg (pv 2)))) pa_nil)))))), ?_⟩
  have hlt : (ts.map V.ref).length = lv.length := by rw [List.length_map, hts.length, List.length_map]
  refine ⟨.ref x, rfl, x, _, dx, _, _, rfl, hx, T.cl_Tuning, T.a_Tuning_level, rfl, t, rfl, ⟨_, ht⟩, fun D hD => ?_⟩
  refine lc_opt (walk_tup (xs := ts.map V.ref)) hD (by rw [hlt]; omega) (fun i => lv[i]?.map fun q => V.str q.1) (fun H1 e => e.tup ht) (fun i y H1 H2 hi e hy => ?_) tm_yes gm_tup2 fun H1 e hD1 => ?_
  · obtain ⟨rfl, hy⟩ := hy
    obtain ⟨a, ha, rfl⟩ := get_map hy
    obtain ⟨v, hv, hat⟩ := hts.get ha
    obtain ⟨q, hq, rfl⟩ := get_map hv
    refine g2 (e.tup hat) ⟨rfl, L2.Same.refl _, L2.Same.refl _, by rw [hq]; rfl, fun v hv Q q => ⟨_, rfl, ?_⟩⟩
    rw [hq] at hv
    cases hv
    exact q _ (L2.Same.refl _)
  rw [range_all lv _ (by rw [hlt]; exact Nat.le_refl _)] at hD1
  refine ⟨.ref x, rfl, x, _, dx, _, _, rfl, e _ _ hx, T.cl_Tuning, T.a_Tuning_level, rfl, t, rfl, ⟨_, e.tup ht⟩, fun D2 hD2 => ?_⟩
  refine lc_opt (walk_tup (xs := ts.map V.ref)) hD2 (by rw [hlt]; omega) (fun i => lv[i]?.map fun q => V.int (-q.2)) (fun H1 e1 => (e.trans e1).tup ht) (fun i y H1 H2 hi e1 hy => ?_) tm_yes gm_tup2 fun H2 e2 hD3 => ?_
  · obtain ⟨rfl, hy⟩ := hy
    obtain ⟨a, ha, rfl⟩ := get_map hy
    obtain ⟨v, hv, hat⟩ := hts.get ha
    obtain ⟨q, hq, rfl⟩ := get_map hv
    refine g2 ((e.trans e1).tup hat) ⟨rfl, L2.Same.refl _, L2.Same.refl _, by rw [hq]; rfl, fun v hv Q q => ⟨_, rfl, _, rfl, ?_⟩⟩
    rw [hq] at hv
    cases hv
    exact q _ (L2.Same.refl _)
  rw [range_all lv _ (by rw [hlt]; exact Nat.le_refl _)] at hD3
  intro p dp np ndp nep
  have e3 := e.trans e2
  have hD4 := e2 _ _ hD1
  have hne : ∀ {b o}, H2 b = some o → b ≠ p ∧ b ≠ dp := fun h => ⟨ne_of_none h np, ne_of_none h ndp⟩
  have ll : (lv.map (·.1)).length = (lv.map fun q => -q.2).length := by rw [List.length_map, List.length_map]
  refine ⟨p, D, D2, dp, lv.map (·.1), lv.map fun q => -q.2, rfl, upd_same, SqL.of ?_, SqL.of ?_, ll, by rw [List.length_map]; exact hz, hn, hok, fun H3 b3 tt => ?_⟩
  · rw [upd_ne (hne hD4).1, upd_ne (hne hD4).2, hD4, List.map_map]
    rfl
  · rw [upd_ne (hne hD3).1, upd_ne (hne hD3).2, hD3, List.map_map]
    rfl
  · have e4 : Same H2 H3 := L2.Same.made np ndp fun b o hb n => b3 b o n hb
    refine ⟨rfl, hQ p H3 (e3.trans e4) (e3.free np) ?_⟩
    have : (lv.map (·.1)).zip (lv.map fun q => -q.2) = negL lv := by
      unfold negL
      rw [List.zip_map', ]
    rw [this] at tt
    exact tt
end
end FBQ
end
section
set_option Elab.async false
set_option linter.all false
set_option maxRecDepth 100000
set_option maxHeartbeats 1000000
namespace FBQ
open PySem PySem.Spec PyProof.Rows L2 FBR FB
section
variable {P : Program} {w : World} {K : PySem.W.Frag} {mg : Str → Option Value} {base : Heap}
theorem defOk1 {x qual : Str} {st : Stmt} {f : Addr} {N ps : List Str} {k : Nat} {sp : Sp} {dvs : List V} (F : FD K x qual st dvs f) (S : FnScope N ps (defScope st)) (n j : Nat) (hd : dvs ≠ []) (hn : n + (dvs.length - j) = ps.length)
    (hb : ∀ (T : Addr) (kV doc pm : Value) (an : Option Addr) (cdv ct : Value) (us its : List Value), us.length = n → its.length = dvs.length →
      ∃ k, bindArgs (PySem.W.fnOf x qual (defArgs st) (defBody st) (defScope st) (.ref T) kV doc pm an cdv ct) ⟨us, []⟩ = seqItems? (.ref T) >>= k ∧ k (some its.toArray) = pure (ps.zip (us ++ its.drop j)))
    (len : ∀ vs H Q E, sp vs H Q E → vs.length = ps.length)
    (hbody : ∀ (cdv : Value) (A : Around) (outer : List Env) (s : Shared) (H : Hp) (vs : List V) (Q : VK) (E : XK), Room k (A.deeper (envOfC qual (defScope st) s.heap.objs.size f cdv)) → sp vs H Q E →
      ∃ t, PSs (cxOf CX0 P w K mg base N qual (defScope st) f cdv A outer s H E).nox (defBody st) t ∧ t { nx := fun _ H' => Q .non H', rt := Q } (start N vs) H) : DefOk P w K mg base (k + 1) f ps (dvs.drop j) sp := by
  obtain ⟨fd, F⟩ := F
  obtain ⟨ds, h1, h2⟩ := F.binds1 n j hd hn hb
  refine ⟨⟨fd, ds, F.ok S len fun cdv A outer s H vs Q E hr h => ?_, h2, h1⟩, F.kp⟩
  obtain ⟨t, h1, h2⟩ := hbody cdv A outer s H vs Q E hr h
  exact ⟨t, h1.nox, h2⟩
abbrev CB (K : PySem.W.Frag) : Addr := He.ga K "Bench"
/-- a bench: its forks, its strikes, the number of steps behind it; no facts, limit 0 -/
def BenchAt (K : PySem.W.Frag) (H : Hp) (x : Addr) (names : List Str) (S : List (Stk Str)) (np : Nat) : Prop := ∃ dx st a b c pa fu past, H x = some (.ins (CB K) dx [("state", .ref st), ("past", .ref pa), ("future", .ref fu)]) ∧
  SqT K H st [.ref a, .ref b, .ref c, .int 0] ∧ SqT K H a (names.map V.str) ∧ TTs K H b (S.map sV) ∧ SqT K H c [] ∧ SqT K H pa past ∧ past.length = np
theorem BenchAt.same {H H' : Hp} {x : Addr} {names : List Str} {S : List (Stk Str)} {np : Nat} (e : Same H H') (h : BenchAt K H x names S np) : BenchAt K H' x names S np := by
  obtain ⟨dx, st, a, b, c, pa, fu, past, h1, h2, h3, h4, h5, h6, h7⟩ := h
  exact ⟨dx, st, a, b, c, pa, fu, past, e _ _ h1, e.tup h2, e.tup h3, h4.same e, e.tup h5, e.tup h6, h7⟩
def spBinit (K : PySem.W.Frag) : Sp := fun vs H Q _ => ∃ x dx, vs = [.ref x, .int 0] ∧ H x = some (.ins (CB K) dx []) ∧ ∀ H', But x H H' → BenchAt K H' x [] [] 0 → Q .non H'
theorem body_binit (T : Tx K mg) {cdv : Value} {A : Around} {outer : List Env} {s : Shared} {H : Hp} {vs : List V} {Q : VK} {E : XK} {f : Addr} (hr : Room 0 (A.deeper (envOfC "Bench.__init__" (defScope s_BenchU_initU) s.heap.objs.size f cdv))) (h : spBinit K vs H Q E) :
    ∃ t, PSs (cxOf CX0 P w K mg base ["self", "limit"] "Bench.__init__" (defScope s_BenchU_initU) f cdv A outer s H E).nox (defBody s_BenchU_initU) t ∧ t { nx := fun _ H' => Q .non H', rt := Q } (start ["self", "limit"] vs) H := by
  obtain ⟨x, dx, rfl, hx, hQ⟩ := h
  refine ⟨_, ((pss_cons (ps_if (PW.pt (pw_or (pt_cmpR op_lt (pv 1) pe_int (nomark _)) (pw_or1 (pt_cmpR op_gt (pv 1) (pe_cint rfl T.g_Bench T.k_Bench_MOST_LIMIT) (nomark _)))))
 (pss_one ps_never) pss_nil)
 (pss_cons (ps_fld (pv 0) (pe_tup (pa_cons (pe_tup pa_nil) (pa_cons (pe_tup pa_nil) (pa_cons (pe_tup pa_nil) (pa_cons (pv 1) pa_nil))))) rfl)
 (pss_cons (ps_fld (pv 0) (pe_tup pa_nil) rfl)
 (pss_one (ps_fld (pv 0) (pe_tup pa_nil) rfl)))))), ?_⟩
  refine ⟨_, rfl, _, _, rfl, rfl, _, rfl, iteN (by decide) ?_⟩
  refine ⟨_, rfl, _, _, rfl, rfl, _, rfl, iteN (by decide) ?_⟩
  refine ⟨Nat.zero_le _, fun a na => ⟨Nat.zero_le _, fun b nb => ⟨Nat.zero_le _, fun c nc => ⟨_, rfl, by show 4 ≤ sizeLine; decide, fun st ns => ?_⟩⟩⟩⟩
  have e1 := L2.Same.new na (o := .tup [])
  have e2 := L2.Same.new nb (o := .tup [])
  have e3 := L2.Same.new nc (o := .tup [])
  have e4 := L2.Same.new ns (o := .tup [.ref a, .ref b, .ref c, .int 0])
  have ha := (e2.trans (e3.trans e4)) a _ upd_same
  have hb := (e3.trans e4) b _ upd_same
  have hc := e4 c _ upd_same
  have hst : upd (upd (upd (upd H a (.tup [])) b (.tup [])) c (.tup [])) st (.tup [.ref a, .ref b, .ref c, .int 0]) st = some (.tup [.ref a, .ref b, .ref c, .int 0]) := upd_same
  have e := e1.trans (e2.trans (e3.trans e4))
  generalize upd (upd (upd (upd H a (.tup [])) b (.tup [])) c (.tup [])) st (.tup [.ref a, .ref b, .ref c, .int 0]) = H1 at ha hb hc hst e ⊢
  have hx1 := e _ _ hx
  refine ⟨_, rfl, x, _, dx, [], rfl, hx1, T.cl_Bench, T.a_Bench_state, by decide, ?_⟩
  refine ⟨Nat.zero_le _, fun pa npa => ?_⟩
  have hx2 := L2.Same.new npa (o := .tup []) x _ upd_same
  refine ⟨_, rfl, x, _, dx, _, rfl, hx2, T.cl_Bench, T.a_Bench_past, by show (1 : Nat) < 1000; decide, ?_⟩
  refine ⟨Nat.zero_le _, fun fu nfu => ?_⟩
  have hx3 := L2.Same.new nfu (o := .tup []) x _ upd_same
  refine ⟨_, rfl, x, _, dx, _, rfl, hx3, T.cl_Bench, T.a_Bench_future, by show (2 : Nat) < 1000; decide, ?_⟩
  have hpx : pa ≠ x := fun z => by rw [z, upd_same] at npa; cases npa
  have bb : But x H1 (upd (upd (upd (upd (upd H1 x (.ins (CB K) dx (putF "state" (.ref st) []))) pa (.tup [])) x (.ins (CB K) dx (putF "past" (.ref pa) (putF "state" (.ref st) [])))) fu (.tup [])) x (.ins (CB K) dx (putF "future" (.ref fu) (putF "past" (.ref pa) (putF "state" (.ref st) []))))) :=
    ((((But.put).trans (But.of (L2.Same.new npa))).trans But.put).trans (But.of (L2.Same.new nfu))).trans But.put
  have t1 := But.tup (K := K) bb (ni hx1).1 (ni hx1).2 (SqT.of hst)
  have t2 := But.tup (K := K) bb (ni hx1).1 (ni hx1).2 (SqT.of ha)
  have t3 := But.tup (K := K) bb (ni hx1).1 (ni hx1).2 (SqT.of hb)
  have t4 := But.tup (K := K) bb (ni hx1).1 (ni hx1).2 (SqT.of hc)
  refine hQ _ ((But.of e).trans bb) ⟨dx, st, a, b, c, pa, fu, [], upd_same, t1, t2, ⟨[], t3, trivial⟩, t4, SqT.of ?_, rfl⟩
  rw [upd_ne hpx]
  have h1 : upd (upd H1 x (.ins (CB K) dx (putF "state" (.ref st) []))) pa (.tup []) pa = some (.tup []) := upd_same
  have h2 : upd (upd (upd H1 x (.ins (CB K) dx (putF "state" (.ref st) []))) pa (.tup [])) x (.ins (CB K) dx (putF "past" (.ref pa) (putF "state" (.ref st) []))) pa = some (.tup []) := by rw [upd_ne hpx]; exact h1
  exact L2.Same.new nfu _ _ h2
theorem ok_binit (T : Tx K mg) : DefOk P w K mg base 1 (He.ma K (CB K) "__init__") ["self", "limit"] [] (spBinit K) :=
  defOk1 (dvs := [.int 0]) T.f_BenchU_initU sc_BenchU_initU 2 1 (by simp) rfl (fun T kV doc pm an cdv ct us its h1 h2 => match us, its, h1, h2 with | [_, _], [_], _, _ => ⟨_, rfl, rfl⟩)
    (fun vs H Q E h => by obtain ⟨_, _, rfl, _⟩ := h; rfl) fun cdv A outer s H vs Q E hr h => body_binit T hr h
theorem ok_binit0 (T : Tx K mg) : DefOk P w K mg base 1 (He.ma K (CB K) "__init__") ["self", "limit"] [.int 0] (spBinit K) :=
  defOk1 (dvs := [.int 0]) T.f_BenchU_initU sc_BenchU_initU 1 0 (by simp) rfl (fun T kV doc pm an cdv ct us its h1 h2 => match us, its, h1, h2 with | [_], [_], _, _ => ⟨_, rfl, rfl⟩)
    (fun vs H Q E h => by obtain ⟨_, _, rfl, _⟩ := h; rfl) fun cdv A outer s H vs Q E hr h => body_binit T hr h
/-- reading a part of the state -/
theorem state_at (T : Tx K mg) {σ : L2.St} {H : Hp} {x dx st : Addr} {pa fu v : V} {xs : List V} {i : Nat} (hσ : σ[0]? = some (some (.ref x))) (hx : H x = some (.ins (CB K) dx [("state", .ref st), ("past", pa), ("future", fu)])) (hst : SqT K H st xs) (hv : xs[i]? = some v) {Q : VK} (q : Q v H) :
    tOp (rIxT K) (tFld K (tVar 0) "state") (tC (.int (i : Nat))) σ H Q := ⟨_, hσ, x, _, dx, _, _, rfl, hx, T.cl_Bench, T.a_Bench_state, rfl, st, xs, (i : Nat), v, rfl, rfl, hst, at_of rfl hv, q⟩
def spForks (K : PySem.W.Frag) : Sp := fun vs H Q _ => ∃ x names S np, vs = [.ref x] ∧ BenchAt K H x names S np ∧ ∀ p H', Same H H' → H p = none → H' p = some (.lst (names.map V.str)) → Q (.ref p) H'
theorem ok_forks (T : Tx K mg) : DefOk P w K mg base 1 (He.ma K (CB K) "forks") ["self"] [] (spForks K) := by
  refine defOk T.f_Bench_forks sc_Bench_forks (fun _ _ _ _ _ _ us hl => match us, hl with | [_], _ => rfl) (fun vs H Q E h => by obtain ⟨_, _, _, _, rfl, _⟩ := h; rfl) fun cdv A outer s H vs Q E hr h => ?_
  obtain ⟨x, names, S, np, rfl, ⟨dx, st, a, b, c, pa, fu, past, hx, hst, ha, hb, hc, hp, hl⟩, hQ⟩ := h
  refine ⟨_, ((pss_one (ps_ret (pe_callTy (list_ofK K) (by rfl) T.b_list (by decide +kernel) (pa_cons (pe_ix (ix_tupK K) (pe_fld (pv 0) rfl) pe_int (fun _ _ => rfl)) pa_nil))))), ?_⟩
  exact state_at T (i := 0) rfl hx hst rfl ⟨a, _, rfl, .inr ha, fun l nl => hQ l _ (L2.Same.new nl) nl upd_same⟩
def spStrikes (K : PySem.W.Frag) : Sp := fun vs H Q _ => ∃ x names S np, vs = [.ref x] ∧ BenchAt K H x names S np ∧ ∀ p H', Same H H' → H p = none → NTs K H' p (S.map sV) → Q (.ref p) H'
theorem ok_strikes (T : Tx K mg) : DefOk P w K mg base 1 (He.ma K (CB K) "strikes") ["self"] [] (spStrikes K) := by
  refine defOk T.f_Bench_strikes sc_Bench_strikes (fun _ _ _ _ _ _ us hl => match us, hl with | [_], _ => rfl) (fun vs H Q E h => by obtain ⟨_, _, _, _, rfl, _⟩ := h; rfl) fun cdv A outer s H vs Q E hr h => ?_
  obtain ⟨x, names, S, np, rfl, ⟨dx, st, a, b, c, pa, fu, past, hx, hst, ha, ⟨ts, hb, ht⟩, hc, hp, hl⟩, hQ⟩ := h
  refine ⟨_, ((pss_one (ps_ret (pe_callTy (list_ofK K) (by rfl) T.b_list (by decide +kernel) (pa_cons (pe_ix (ix_tupK K) (pe_fld (pv 0) rfl) pe_int (fun _ _ => rfl)) pa_nil))))), ?_⟩
  exact state_at T (i := 1) rfl hx hst rfl ⟨b, _, rfl, .inr hb, fun l nl => hQ l _ (L2.Same.new nl) nl ⟨ts, upd_same, ht.same (L2.Same.new nl)⟩⟩
def spTold (K : PySem.W.Frag) : Sp := fun vs H Q _ => ∃ x names S np, vs = [.ref x] ∧ BenchAt K H x names S np ∧ ∀ p, SqT K H p [] → Q (.ref p) H
theorem ok_told (T : Tx K mg) : DefOk P w K mg base 1 (He.ma K (CB K) "told") ["self"] [] (spTold K) := by
  refine defOk T.f_Bench_told sc_Bench_told (fun _ _ _ _ _ _ us hl => match us, hl with | [_], _ => rfl) (fun vs H Q E h => by obtain ⟨_, _, _, _, rfl, _⟩ := h; rfl) fun cdv A outer s H vs Q E hr h => ?_
  obtain ⟨x, names, S, np, rfl, ⟨dx, st, a, b, c, pa, fu, past, hx, hst, ha, hb, hc, hp, hl⟩, hQ⟩ := h
  refine ⟨_, ((pss_one (ps_ret (pe_ix (ix_tupK K) (pe_fld (pv 0) rfl) pe_int (fun _ _ => rfl))))), ?_⟩
  exact state_at T (i := 2) rfl hx hst rfl (hQ c hc)
def spLimit (K : PySem.W.Frag) : Sp := fun vs H Q _ => ∃ x names S np, vs = [.ref x] ∧ BenchAt K H x names S np ∧ Q (.int 0) H
theorem ok_limit {g : Addr} (T : Tx K mg) (F : FD K "limit" "Bench.limit" s_Bench_limit [] g) : DefOk P w K mg base 1 g ["self"] [] (spLimit K) := by
  refine defOk F sc_Bench_limit (fun _ _ _ _ _ _ us hl => match us, hl with | [_], _ => rfl) (fun vs H Q E h => by obtain ⟨_, _, _, _, rfl, _⟩ := h; rfl) fun cdv A outer s H vs Q E hr h => ?_
  obtain ⟨x, names, S, np, rfl, ⟨dx, st, a, b, c, pa, fu, past, hx, hst, ha, hb, hc, hp, hl⟩, hQ⟩ := h
  refine ⟨_, ((pss_one (ps_ret (pe_ix (ix_tupK K) (pe_fld (pv 0) rfl) pe_int (fun _ _ => rfl))))), ?_⟩
  exact state_at T (i := 3) rfl hx hst rfl hQ
def spCheckFork (K : PySem.W.Frag) : Sp := fun vs H Q _ => ∃ x names S np z, vs = [.ref x, .str z] ∧ BenchAt K H x names S np ∧ z ∈ names ∧ Q .non H
theorem ok_check_fork (T : Tx K mg) : DefOk P w K mg base 1 (He.ma K (CB K) "check_fork") ["self", "name"] [] (spCheckFork K) := by
  refine defOk T.f_Bench_check_fork sc_Bench_check_fork (fun _ _ _ _ _ _ us hl => match us, hl with | [_, _], _ => rfl) (fun vs H Q E h => by obtain ⟨_, _, _, _, _, rfl, _⟩ := h; rfl) fun cdv A outer s H vs Q E hr h => ?_
  obtain ⟨x, names, S, np, z, rfl, ⟨dx, st, a, b, c, pa, fu, past, hx, hst, ha, hb, hc, hp, hl⟩, hz, hQ⟩ := h
  refine ⟨_, ((pss_one (ps_if (pt_cmpR (op_ninK K) (pv 1) (pe_ix (ix_tupK K) (pe_fld (pv 0) rfl) pe_int (fun _ _ => rfl)) rfl)
 (pss_one ps_never) pss_nil))), ?_⟩
  refine t_inS (x := z) (ns := names) rfl (fun Q q => state_at T (i := 0) rfl hx hst rfl (q a (.inr ha))) ?_
  rw [if_pos rfl, decide_eq_true hz]
  exact iteF hQ
def spCheckPair (K : PySem.W.Frag) : Sp := fun vs H Q _ => ∃ x names S np y z, vs = [.ref x, .str y, .str z] ∧ BenchAt K H x names S np ∧ y ∈ names ∧ z ∈ names ∧ y ≠ z ∧ Q .non H
theorem ok_check_pair (T : Tx K mg) : DefOk P w K mg base 2 (He.ma K (CB K) "check_pair") ["self", "a", "b"] [] (spCheckPair K) := by
  have D_Bench_check_fork := ok_check_fork (P := P) (w := w) (base := base) T
  refine defOk T.f_Bench_check_pair sc_Bench_check_pair (fun _ _ _ _ _ _ us hl => match us, hl with | [_, _, _], _ => rfl) (fun vs H Q E h => by obtain ⟨_, _, _, _, _, _, rfl, _⟩ := h; rfl) fun cdv A outer s H vs Q E hr h => ?_
  obtain ⟨x, names, S, np, y, z, rfl, hB, hy, hz, hn, hQ⟩ := h
  obtain ⟨dx, st, a, b, c, pa, fu, past, hx, _⟩ := id hB
  refine ⟨_, ((pss_cons (ps_expr (pe_methD (pv 0) T.cl_Bench T.m_Bench_check_fork D_Bench_check_fork hr (pa_cons (pv 1) pa_nil)))
 (pss_cons (ps_expr (pe_methD (pv 0) T.cl_Bench T.m_Bench_check_fork D_Bench_check_fork hr (pa_cons (pv 2) pa_nil)))
 (pss_one (ps_if (pt_cmpR op_eq (pv 1) (pv 2) (nomark _))
 (pss_one ps_never) pss_nil))))), ?_⟩
  refine ⟨_, rfl, x, dx, _, rfl, hx, rfl, _, rfl, x, names, S, np, y, rfl, hB, hy, ?_⟩
  refine ⟨_, rfl, x, dx, _, rfl, hx, rfl, _, rfl, x, names, S, np, z, rfl, hB, hz, ?_⟩
  exact t_eqS rfl rfl (iteN hn hQ)
def spEnter (K : PySem.W.Frag) : Sp := fun vs H Q _ => ∃ (x dx st0 pa fu st : Addr) (t : Str) (past : List V), vs = [.ref x, .str t, .ref st] ∧ H x = some (.ins (CB K) dx [("state", .ref st0), ("past", .ref pa), ("future", .ref fu)]) ∧ SqT K H pa past ∧ past.length ≤ 1000 ∧
  ∀ H' pa' fu' past', But x H H' → H' x = some (.ins (CB K) dx [("state", .ref st), ("past", .ref pa'), ("future", .ref fu')]) → SqT K H' pa' past' → past'.length = past.length + 1 → Q .non H'
theorem ok_enter (T : Tx K mg) : DefOk P w K mg base 1 (He.ma K (CB K) "enter") ["self", "text", "state"] [] (spEnter K) := by
  refine defOk T.f_Bench_enter sc_Bench_enter (fun _ _ _ _ _ _ us hl => match us, hl with | [_, _, _], _ => rfl) (fun vs H Q E h => by obtain ⟨_, _, _, _, _, _, _, _, rfl, _⟩ := h; rfl) fun cdv A outer s H vs Q E hr h => ?_
  obtain ⟨x, dx, st0, pa, fu, st, t, past, rfl, hx, hp, hl, hQ⟩ := h
  refine ⟨_, ((pss_cons (ps_fld (pv 0) (pe_op op_catA (pe_fld (pv 0) rfl) (pe_tup (pa_cons (pe_tup (pa_cons (pv 1) (pa_cons (pe_fld (pv 0) rfl) pa_nil))) pa_nil))) rfl)
 (pss_cons (ps_fld (pv 0) (pv 2) rfl)
 (pss_one (ps_fld (pv 0) (pe_tup pa_nil) rfl))))), ?_⟩
  refine ⟨_, rfl, x, _, dx, _, _, rfl, hx, T.cl_Bench, T.a_Bench_past, rfl, ?_⟩
  refine ⟨_, rfl, _, rfl, x, _, dx, _, _, rfl, hx, T.cl_Bench, T.a_Bench_state, rfl, by show 2 ≤ sizeLine; decide, fun q nq => ⟨by show 1 ≤ sizeLine; decide, fun r nr => ?_⟩⟩
  have e1 := (L2.Same.new nq (o := .tup [.str t, .ref st0])).trans (L2.Same.new nr (o := .tup [.ref q]))
  have hr1 : upd (upd H q (.tup [.str t, .ref st0])) r (.tup [.ref q]) r = some (.tup [.ref q]) := upd_same
  generalize upd (upd H q (.tup [.str t, .ref st0])) r (.tup [.ref q]) = H1 at e1 hr1 ⊢
  have fin : ∀ p H2 past', Same H1 H2 → SqT K H2 p past' → past'.length = past.length + 1 → (fun v H' => tVar 0 [some (V.ref x), some (V.str t), some (.ref st)] H' fun x1 H2 => ∃ a C dx fs, x1 = .ref a ∧ H2 a = some (.ins C dx fs) ∧ Cls K C ∧ NoAttr K C "past" ∧ fs.length < 1000 ∧
      tSeq (sFld K (tVar 0) (tVar 2) "state") (sFld K (tVar 0) (tTup tNil) "future") { nx := fun _ H' => Q .non H', rt := Q } [some (V.ref x), some (V.str t), some (.ref st)] (upd H2 a (.ins C dx (putF "past" v fs)))) (.ref p) H2 := by
    intro p H2 past' e2 hp2 hl2
    have hx2 := e2 _ _ (e1 _ _ hx)
    refine ⟨_, rfl, x, _, dx, _, rfl, hx2, T.cl_Bench, T.a_Bench_past, by show (3 : Nat) < 1000; decide, ?_⟩
    refine ⟨_, rfl, _, rfl, x, _, dx, _, rfl, upd_same, T.cl_Bench, T.a_Bench_state, by show (3 : Nat) < 1000; decide, ?_⟩
    refine ⟨Nat.zero_le _, fun f nf => ?_⟩
    refine ⟨_, rfl, x, _, dx, _, rfl, L2.Same.new nf x _ upd_same, T.cl_Bench, T.a_Bench_future, by show (3 : Nat) < 1000; decide, ?_⟩
    have bb : But x H2 (upd (upd (upd (upd H2 x (.ins (CB K) dx (putF "past" (.ref p) [("state", .ref st0), ("past", .ref pa), ("future", .ref fu)]))) x (.ins (CB K) dx (putF "state" (.ref st) (putF "past" (.ref p) [("state", .ref st0), ("past", .ref pa), ("future", .ref fu)])))) f (.tup [])) x
        (.ins (CB K) dx (putF "future" (.ref f) (putF "state" (.ref st) (putF "past" (.ref p) [("state", .ref st0), ("past", .ref pa), ("future", .ref fu)]))))) := ((But.put.trans But.put).trans (But.of (L2.Same.new nf))).trans But.put
    exact hQ _ p f past' ((But.of (e1.trans e2)).trans bb) upd_same (But.tup bb (ni hx2).1 (ni hx2).2 hp2) hl2
  refine ⟨pa, r, past, [.ref q], rfl, rfl, e1.tup hp, SqT.of hr1, ?_, fun h0 => ?_, fun _ h => (by cases h), fun h0 _ p np => ?_⟩
  · rw [sizeLine_eq]; show past.length + 1 ≤ _; omega
  · exact fin r H1 _ (L2.Same.refl _) (SqT.of hr1) (by rw [h0]; rfl)
  · exact fin p _ (past ++ [.ref q]) (L2.Same.new np) (SqT.of upd_same) (by rw [List.length_append]; rfl)
theorem catA {H : Hp} {a b : Addr} {xs ys : List V} {Q : VK} (ha : SqT K H a xs) (hb : SqT K H b ys) (hz : xs.length + ys.length ≤ 100000) (q : ∀ p H2, Same H H2 → SqT K H2 p (xs ++ ys) → Q (.ref p) H2) : rCatA K (.ref a) (.ref b) H Q := by
  refine ⟨a, b, xs, ys, rfl, rfl, ha, hb, by rw [sizeLine_eq]; omega, fun h => ?_, fun _ h => ?_, fun _ _ p np => q p _ (L2.Same.new np) (SqT.of upd_same)⟩
  · exact q b H (L2.Same.refl H) (by rw [h]; exact hb)
  · exact q a H (L2.Same.refl H) (by rw [h, List.append_nil]; exact ha)
theorem cat1 {σ : L2.St} {H : Hp} {i : Nat} {b : Addr} {rs : List (List V)} {r : List V} {te : TE} {Q : VK} (hσ : σ[i]? = some (some (.ref b))) (hb : TTs K H b rs) (hz : rs.length ≤ 1000) (ht : ∀ Q : VK, (∀ t, H t = none → Q (.ref t) (upd H t (.tup r))) → te σ H Q)
    (q : ∀ p H2, Same H H2 → TTs K H2 p (rs ++ [r]) → Q (.ref p) H2) : tOp (rCatA K) (tVar i) (tTup (tCons te tNil)) σ H Q := by
  obtain ⟨ts, h1, h2⟩ := hb
  refine ⟨_, hσ, ht _ fun t nt => ⟨by show 1 ≤ sizeLine; decide, fun o no => ?_⟩⟩
  have e1 := L2.Same.new nt (o := .tup r)
  have e2 := L2.Same.new no (o := .tup [.ref t])
  have ht1 := e2 _ _ (upd_same (H := H) (a := t) (o := .tup r))
  refine catA ((e1.trans e2).tup h1) (SqT.of upd_same) (by have := h2.length; rw [List.length_map]; show ts.length + 1 ≤ _; omega) fun p H2 e3 h3 => ?_
  exact q p H2 ((e1.trans e2).trans e3) ⟨ts ++ [t], by rw [List.map_append]; exact h3, (h2.same ((e1.trans e2).trans e3)).snoc (e3.tup (SqT.of ht1))⟩
def spStrike (K : PySem.W.Frag) : Sp := fun vs H Q _ => ∃ x names S np a b c, vs = [.ref x, .str a, .str b, .int c] ∧ BenchAt K H x names S np ∧ (∀ z ∈ names, OkN z) ∧ S.length < 20 ∧ np ≤ 900 ∧ a ∈ names ∧ b ∈ names ∧ a ≠ b ∧ 0 ≤ c ∧ c ≤ 1000000000 ∧
  ∀ H' v, But x H H' → BenchAt K H' x names (S ++ [(a, b, c)]) (np + 1) → Q v H'
theorem log_small {i : Int} (h0 : 0 ≤ i) (h : i ≤ 1000000000) : i.natAbs.log2 < 1920 := by
  rcases Nat.eq_zero_or_pos i.natAbs with q | q
  · rw [q]; decide
  · rw [Nat.log2_lt (by omega)]
    exact Nat.lt_of_lt_of_le (show i.natAbs < 2 ^ 32 by omega) (Nat.pow_le_pow_right (n := 2) (by decide) (by decide))
theorem ok_strike (T : Tx K mg) : DefOk P w K mg base 3 (He.ma K (CB K) "strike") ["self", "a", "b", "count"] [] (spStrike K) := by
  have D_Bench_check_pair := ok_check_pair (P := P) (w := w) (base := base) T
  have D_Bench_enter := ok_enter (P := P) (w := w) (base := base) T
  refine defOk T.f_Bench_strike sc_Bench_strike (fun _ _ _ _ _ _ us hl => match us, hl with | [_, _, _, _], _ => rfl) (fun vs H Q E h => by obtain ⟨_, _, _, _, _, _, _, rfl, _⟩ := h; rfl) fun cdv A outer s H vs Q E hr h => ?_
  obtain ⟨x, names, S, np, a, b, c, rfl, hB, hok, hS, hnp, ha, hb, hab, hc0, hc1, hQ⟩ := h
  obtain ⟨dx, st, fa, fb, fc, pa, fu, past, hx, hst, hfa, hfb, hfc, hp, hl⟩ := id hB
  have la := (hok a ha).2.1
  have lb := (hok b hb).2.1
  have lc : (Str.ofString (toString c)).length ≤ 10 := toString_length_le hc0 (by decide) (by omega)
  have hlen : (S.map sV).length < 20 := by rw [List.length_map]; omega
  refine ⟨_, ((pss_cons (ps_asg (pe_fld (pv 0) rfl) (pg_tup rfl (pgs_cons (pg_name (i := 4) sc_Bench_strike.nd rfl (.inl rfl) (.inl rfl)) (pgs_cons (pg_name (i := 5) sc_Bench_strike.nd rfl (.inl rfl) (.inl rfl)) (pgs_cons (pg_name (i := 6) sc_Bench_strike.nd rfl (.inl rfl) (.inl rfl)) (pgs_cons (pg_name (i := 7) sc_Bench_strike.nd rfl (.inl rfl) (.inl rfl)) pgs_nil))))))
 (pss_cons (ps_expr (pe_methD (pv 0) T.cl_Bench T.m_Bench_check_pair D_Bench_check_pair hr (pa_cons (pv 1) (pa_cons (pv 2) pa_nil))))
 (pss_cons (ps_if (PW.pt (pw_or (pt_cmpR op_lt (pv 3) pe_int (nomark _)) (pw_or1 (pt_cmpR op_gt (pv 3) (pe_cint rfl T.g_Fact T.k_Fact_MOST_COUNT) (nomark _)))))
 (pss_one ps_never) pss_nil)
 (pss_cons (ps_if (pt_cmpR op_ge (pe_callB call_len_seq (by rfl) T.b_len (by decide +kernel) (pa_cons (pv 5) pa_nil)) (pe_cint rfl T.g_Bench T.k_Bench_MOST_STRIKES) (nomark _))
 (pss_one ps_never) pss_nil)
 (pss_cons (ps_expr (pe_methD (pv 0) T.cl_Bench T.m_Bench_enter D_Bench_enter hr (pa_cons (pe_joined (.cons pe_str (.cons (pe_fmt (pv 1)) (.cons pe_str (.cons (pe_fmt (pv 2)) (.cons pe_str (.cons (pe_fmt (pv 3)) .nil))))))) (pa_cons (pe_tup (pa_cons (pv 4) (pa_cons (pe_op op_catA (pv 5) (pe_tup (pa_cons (pe_tup (pa_cons (pv 1) (pa_cons (pv 2) (pa_cons (pv 3) pa_nil)))) pa_nil))) (pa_cons (pv 6) (pa_cons (pv 7) pa_nil))))) pa_nil))))
 (pss_one (ps_ret (pe_callB call_len_seq (by rfl) T.b_len (by decide +kernel) (pa_cons (pv 5) pa_nil)))))))))), ?_⟩
  refine ⟨_, rfl, x, _, dx, _, _, rfl, hx, T.cl_Bench, T.a_Bench_state, rfl, ?_⟩
  refine ⟨st, _, rfl, hst, rfl, _, _, rfl, _, _, rfl, _, _, rfl, _, _, rfl, rfl, ?_⟩
  refine ⟨_, rfl, x, dx, _, rfl, hx, rfl, _, rfl, _, rfl, x, names, S, np, a, b, rfl, hB, ha, hb, hab, ?_⟩
  refine ⟨_, rfl, _, _, rfl, rfl, _, rfl, iteN (by omega) ?_⟩
  refine ⟨_, rfl, _, _, rfl, rfl, _, rfl, iteN (by omega) ?_⟩
  obtain ⟨ts, htb, hts⟩ := id hfb
  have htl := hts.length
  refine ⟨_, rfl, fb, _, rfl, .inr htb, _, _, rfl, rfl, _, rfl, iteN (by rw [List.length_map]; omega) ?_⟩
  refine ⟨_, rfl, x, dx, _, rfl, hx, rfl, ?_⟩
  have sz : ∀ u : Str, u.length ≤ 100 → u.length ≤ sizeLine := fun u h => by rw [sizeLine_eq]; omega
  have k1 : (Str.empty ++ ("strike " : Str)).length ≤ 7 := by decide
  have k2 : (Str.empty ++ ("strike " : Str) ++ a).length ≤ 19 := by rw [Str.length_append]; omega
  have k3 : (Str.empty ++ ("strike " : Str) ++ a ++ (" " : Str)).length ≤ 20 := by
    rw [Str.length_append]
    have : (" " : Str).length = 1 := by decide
    omega
  have k4 : (Str.empty ++ ("strike " : Str) ++ a ++ (" " : Str) ++ b).length ≤ 32 := by rw [Str.length_append]; omega
  have k5 : (Str.empty ++ ("strike " : Str) ++ a ++ (" " : Str) ++ b ++ (" " : Str)).length ≤ 33 := by
    rw [Str.length_append]
    have : (" " : Str).length = 1 := by decide
    omega
  have k6 : (Str.empty ++ ("strike " : Str) ++ a ++ (" " : Str) ++ b ++ (" " : Str) ++ Str.ofString (toString c)).length ≤ 43 := by rw [Str.length_append]; omega
  refine ⟨_, rfl, sz _ (by omega), ?_⟩
  refine ⟨_, rfl, .inl ⟨a, rfl, sz _ (by omega), _, rfl, sz _ (Nat.le_trans k2 (by decide)), ?_⟩⟩
  refine ⟨_, rfl, sz _ (Nat.le_trans k3 (by decide)), ?_⟩
  refine ⟨_, rfl, .inl ⟨b, rfl, sz _ (by omega), _, rfl, sz _ (Nat.le_trans k4 (by decide)), ?_⟩⟩
  refine ⟨_, rfl, sz _ (Nat.le_trans k5 (by decide)), ?_⟩
  refine ⟨_, rfl, .inr ⟨c, rfl, log_small hc0 hc1, _, rfl, sz _ (Nat.le_trans k6 (by decide)), ?_⟩⟩
  refine ⟨_, rfl, ?_⟩
  refine cat1 (r := sV (a, b, c)) rfl hfb (by omega) (tup3 rfl rfl rfl) fun p H2 e2 h2 => ?_
  refine ⟨_, rfl, _, rfl, by show 4 ≤ sizeLine; decide, fun q nq => ?_⟩
  have e3 := e2.trans (L2.Same.new nq (o := .tup [.ref fa, .ref p, .ref fc, .int 0]))
  have hq : upd H2 q (.tup [.ref fa, .ref p, .ref fc, .int 0]) q = some (.tup [.ref fa, .ref p, .ref fc, .int 0]) := upd_same
  have h3 := h2.same (L2.Same.new nq (o := .tup [.ref fa, .ref p, .ref fc, .int 0]))
  generalize upd H2 q (.tup [.ref fa, .ref p, .ref fc, .int 0]) = H3 at e3 hq h3 ⊢
  have hx3 := e3 _ _ hx
  refine ⟨x, dx, st, pa, fu, q, _, past, rfl, hx3, e3.tup hp, by omega, fun H4 pa' fu' past' b4 hx4 hp4 hl4 => ?_⟩
  have tr : ∀ {u : Addr} {xs : List V}, SqT K H3 u xs → SqT K H4 u xs := fun h => But.tup b4 (ni hx3).1 (ni hx3).2 h
  refine ⟨_, rfl, fb, _, rfl, .inr (tr (e3.tup htb)), ?_⟩
  refine hQ H4 _ ((But.of e3).trans b4) ⟨dx, q, fa, p, fc, pa', fu', past', hx4, tr (SqT.of hq), tr (e3.tup hfa), ?_, tr (e3.tup hfc), hp4, by omega⟩
  rw [List.map_append]
  exact TTs.but b4 (ni hx3).1 (ni hx3).2 h3
def spAddAll (K : PySem.W.Frag) : Sp := fun vs H Q _ => ∃ x l names S np ns, vs = [.ref x, .ref l] ∧ BenchAt K H x names S np ∧ SqL K H l (ns.map V.str) ∧ (∀ z ∈ ns, OkN z) ∧ ns.Nodup ∧ (∀ z ∈ ns, z ∉ names) ∧ names.length + ns.length ≤ 10 ∧ np ≤ 900 ∧
  ∀ H', But x H H' → BenchAt K H' x (names ++ ns) S (np + 1) → Q .non H'
theorem ok_add_all (T : Tx K mg) : DefOk P w K mg base 2 (He.ma K (CB K) "add_all") ["self", "names"] [] (spAddAll K) := by
  have D_is_name := ok_is_name (P := P) (w := w) (base := base) T
  have D_Bench_enter := ok_enter (P := P) (w := w) (base := base) T
  refine defOk T.f_Bench_add_all sc_Bench_add_all (fun _ _ _ _ _ _ us hl => match us, hl with | [_, _], _ => rfl) (fun vs H Q E h => by obtain ⟨_, _, _, _, _, _, rfl, _⟩ := h; rfl) fun cdv A outer s H vs Q E hr h => ?_
  obtain ⟨x, l, names, S, np, ns, rfl, hB, hl, hok, hnd, hdis, hlen, hnp, hQ⟩ := h
  obtain ⟨dx, st, fa, fb, fc, pa, fu, past, hx, hst, hfa, hfb, hfc, hp, hpl⟩ := id hB
  refine ⟨_, ((pss_cons (ps_asg (pe_fld (pv 0) rfl) (pg_tup rfl (pgs_cons (pg_name (i := 2) sc_Bench_add_all.nd rfl (.inl rfl) (.inl rfl)) (pgs_cons (pg_name (i := 3) sc_Bench_add_all.nd rfl (.inl rfl) (.inl rfl)) (pgs_cons (pg_name (i := 4) sc_Bench_add_all.nd rfl (.inl rfl) (.inl rfl)) (pgs_cons (pg_name (i := 5) sc_Bench_add_all.nd rfl (.inl rfl) (.inl rfl)) pgs_nil))))))
 (pss_cons (ps_for PassesOwn.never rfl (pi_enum (by rfl) T.b_enumerate (pa_cons (pv 1) pa_nil)) (pg_tup rfl (pgs_cons (pg_name (i := 6) sc_Bench_add_all.nd rfl (.inl rfl) (.inl rfl)) (pgs_cons (pg_name (i := 7) sc_Bench_add_all.nd rfl (.inl rfl) (.inl rfl)) pgs_nil)))
 (pss_cons (ps_if (pt_not (pt_val (pe_callD D_is_name hr rfl T.g_is_name (pa_cons (pv 7) pa_nil))))
 (pss_one ps_never) pss_nil)
 (pss_one (ps_if (PW.pt (pw_or (pt_cmpR (op_inK K) (pv 7) (pv 2) rfl) (pw_or1 (pt_cmpR (op_inK K) (pv 7) (pe_slice sl_list (pv 1) po_none (po_some (pv 6))) rfl))))
 (pss_one ps_never) pss_nil))))
 (pss_cons (ps_if (pt_cmpR op_gt (pe_op op_add (pe_callB call_len_seq (by rfl) T.b_len (by decide +kernel) (pa_cons (pv 2) pa_nil)) (pe_callB call_len_seq (by rfl) T.b_len (by decide +kernel) (pa_cons (pv 1) pa_nil))) (pe_cint rfl T.g_Bench T.k_Bench_MOST_FORKS) (nomark _))
 (pss_one ps_never) pss_nil)
 (pss_one (ps_expr (pe_methD (pv 0) T.cl_Bench T.m_Bench_enter D_Bench_enter hr (pa_cons (pe_join pe_str (pe_lst (pa_cons pe_str (StX.pa_star (pv 1) pa_nil)))) (pa_cons (pe_tup (pa_cons (pe_op op_catA (pv 2) (pe_callTy (tuple_ofK K) (by rfl) T.b_tuple (by decide +kernel) (pa_cons (pv 1) pa_nil))) (pa_cons (pv 3) (pa_cons (pv 4) (pa_cons (pv 5) pa_nil))))) pa_nil))))))))), ?_⟩
  refine ⟨_, rfl, x, _, dx, _, _, rfl, hx, T.cl_Bench, T.a_Bench_state, rfl, ?_⟩
  refine ⟨st, _, rfl, hst, rfl, _, _, rfl, _, _, rfl, _, _, rfl, _, _, rfl, rfl, ?_⟩
  refine ⟨_, rfl, l, _, rfl, hl, ?_⟩
  refine for_it (walk_enum (xs := ns.map V.str)) (fun i σ H' => Same H H' ∧ ∃ o o2, σ = [some (.ref x), some (.ref l), some (.ref fa), some (.ref fb), some (.ref fc), some (.int 0), o, o2]) ⟨L2.Same.refl H, none, none, rfl⟩ (fun i σ H1 _ p => p.1.seq hl) (fun i y σ H1 H2 hi hp hy => ?_) fun σ H1 hp => ?_
  · obtain ⟨e, o, o2, rfl⟩ := hp
    obtain ⟨t, v1, v2, rfl, nt, rfl, h1, h2⟩ := hy
    cases h1
    obtain ⟨n, hn1, rfl⟩ := get_map h2
    have hm : n ∈ ns := List.mem_of_getElem? hn1
    have hil : i < ns.length := (List.getElem?_eq_some_iff.mp hn1).1
    have e2 := e.trans (L2.Same.new nt (o := .tup [.int (i : Nat), .str n]))
    refine g2 (SqT.of upd_same) ?_
    refine ⟨_, rfl, n, rfl, hok n hm, true, rfl, iteF ?_⟩
    refine t_inS (x := n) (ns := names) (neg := false) rfl (fun Q q => ⟨_, rfl, q fa (.inr (e2.tup hfa))⟩) ?_
    rw [decide_eq_false (hdis n hm)]
    refine iteF ?_
    refine t_inS2 (x := n) (ns := ns.take i) (neg := false) rfl (fun Q q => ⟨_, rfl, _, rfl, (i : Int), rfl, l, _, rfl, e2.seq hl, fun p npp => ?_⟩) fun H3 e3 => ?_
    · refine q p _ (L2.Same.new npp) (.inl (SqL.of ?_))
      rw [upd_same, cut_take _ _ (by rw [List.length_map]; omega), List.map_take]
    · have hnt : n ∉ ns.take i := fun z => by
        obtain ⟨j, hj, e3⟩ := List.mem_take_iff_getElem.mp z
        have := (List.getElem_inj hnd).mp (e3.trans (List.getElem?_eq_some_iff.mp hn1).2.symm)
        omega
      rw [decide_eq_false hnt]
      exact iteF ⟨e2.trans e3, _, _, rfl⟩
  · obtain ⟨e, o, o2, rfl⟩ := hp
    refine ⟨_, rfl, fa, _, rfl, .inr (e.tup hfa), _, rfl, l, _, rfl, .inl (e.seq hl), _, _, rfl, rfl, _, _, rfl, rfl, _, rfl, iteN (by rw [List.length_map, List.length_map]; omega) ?_⟩
    have hx1 := e _ _ hx
    refine ⟨_, rfl, x, dx, _, rfl, hx1, rfl, ?_⟩
    refine ⟨⟨_, rfl⟩, _, rfl, l, _, rfl, .inr (e.seq hl), by rw [List.length_cons, List.length_append, List.length_map, sizeLine_eq]; show ns.length + 0 + 1 ≤ _; omega, fun q nq => ⟨_, q, ("add" : Str) :: ns, rfl, rfl, .inl (SqL.of ?_), ?_, ?_⟩⟩
    · rw [upd_same, List.append_nil]
      rfl
    · have hs : ∀ (l : List Str), (∀ z ∈ l, OkN z) → (l.map (·.length)).sum ≤ 12 * l.length := by
        intro l
        induction l with
        | nil => intro _; decide
        | cons a r ih =>
          intro h
          have h1 := (h a List.mem_cons_self).2.1
          have h2 := ih fun z hz => h z (List.mem_cons_of_mem _ hz)
          rw [List.map_cons, List.sum_cons, List.length_cons]
          omega
      have h1 := hs ns hok
      have h2 : ("add" : Str).length = 3 := by decide
      have h3 : (" " : Str).length = 1 := by decide
      rw [List.map_cons, List.sum_cons, List.length_cons, h2, h3]
      omega
    · have e2 := e.trans (L2.Same.new nq (o := .lst (V.str "add" :: (ns.map V.str ++ []))))
      generalize upd H1 q (.lst (V.str "add" :: (ns.map V.str ++ []))) = H2 at e2 ⊢
      refine ⟨_, rfl, _, rfl, l, _, rfl, .inl ⟨e2.seq hl, fun u nu => ?_⟩⟩
      have e3 := e2.trans (L2.Same.new nu (o := .tup (ns.map V.str)))
      refine catA (e3.tup hfa) (SqT.of upd_same) (by rw [List.length_map, List.length_map]; omega) fun p H3 e4 h4 => ?_
      have e5 := e3.trans e4
      refine ⟨_, rfl, _, rfl, _, rfl, by show 4 ≤ sizeLine; decide, fun r nr => ?_⟩
      have e6 := e5.trans (L2.Same.new nr (o := .tup [.ref p, .ref fb, .ref fc, .int 0]))
      have h6 := (L2.Same.new nr (o := .tup [.ref p, .ref fb, .ref fc, .int 0])).tup h4
      have hr6 : upd H3 r (.tup [.ref p, .ref fb, .ref fc, .int 0]) r = some (.tup [.ref p, .ref fb, .ref fc, .int 0]) := upd_same
      generalize upd H3 r (.tup [.ref p, .ref fb, .ref fc, .int 0]) = H6 at e6 h6 hr6 ⊢
      have hx6 := e6 _ _ hx
      refine ⟨x, dx, st, pa, fu, r, _, past, rfl, hx6, e6.tup hp, by omega, fun H7 pa' fu' past' b7 hx7 hp7 hl7 => ?_⟩
      have tr : ∀ {u : Addr} {xs : List V}, SqT K H6 u xs → SqT K H7 u xs := fun h => But.tup b7 (ni hx6).1 (ni hx6).2 h
      refine hQ H7 ((But.of e6).trans b7) ⟨dx, r, p, fb, fc, pa', fu', past', hx7, tr (SqT.of hr6), ?_, TTs.but b7 (ni hx6).1 (ni hx6).2 (hfb.same e6), tr (e6.tup hfc), hp7, by omega⟩
      rw [List.map_append]
      exact tr h6
def spAdd0 (K : PySem.W.Frag) : Sp := fun vs H Q _ => ∃ x t names S np n, vs = [.ref x, .ref t] ∧ BenchAt K H x names S np ∧ SqT K H t [.str n] ∧ OkN n ∧ n ∉ names ∧ names.length < 10 ∧ np ≤ 900 ∧ ∀ H', But x H H' → BenchAt K H' x (names ++ [n]) S (np + 1) → Q .non H'
def spAdd (K : PySem.W.Frag) : Sp := fun vs H Q _ => ∃ x names S np n, vs = [.ref x, .str n] ∧ BenchAt K H x names S np ∧ OkN n ∧ n ∉ names ∧ names.length < 10 ∧ np ≤ 900 ∧ ∀ H', But x H H' → BenchAt K H' x (names ++ [n]) S (np + 1) → Q .non H'
theorem ok_add (T : Tx K mg) : FnR P w K mg base CX0 3 (He.ma K (CB K) "add") (spAdd K) := by
  have D_Bench_add_all := ok_add_all (P := P) (w := w) (base := base) T
  obtain ⟨fd, F⟩ := T.f_Bench_add
  obtain ⟨oc, od, dV, kV, doc, pm, an, cdv, ct, osl, rfl, lk, hcd, hD, hK⟩ := F.ex
  rcases hD with ⟨_, rfl⟩ | ⟨e, _⟩
  · refine FnR.imp (StX.fn_star (ps := ["self"]) (pv := "names") (sp := spAdd0 K) lk hcd sc_Bench_add StX.cxUp_none (fun us rest h => match us, rest, h with | [_], [], _ => rfl | [_], _ :: _, _ => rfl) fun A outer s H vs Q E hr h => ?_) fun vs H Q E h => ?_
    · obtain ⟨x, t, names, S, np, n, rfl, hB, ht, hok, hn, hl, hp, hQ⟩ := h
      obtain ⟨dx, st, fa, fb, fc, pa, fu, past, hx, _⟩ := id hB
      refine (fun z : ∃ t, PSs _ _ t ∧ _ => let ⟨t, h1, h2⟩ := z; ⟨t, PSs.nox h1, h2⟩) ⟨_, ((pss_one (ps_expr (pe_methD (pv 0) T.cl_Bench T.m_Bench_add_all D_Bench_add_all hr (pa_cons (pe_callTy (list_ofK K) (by rfl) T.b_list (by decide +kernel) (pa_cons (pv 1) pa_nil)) pa_nil))))), ?_⟩
      refine ⟨_, rfl, x, dx, _, rfl, hx, rfl, _, rfl, t, _, rfl, .inr ht, fun l nl => ?_⟩
      have e := L2.Same.new nl (o := .lst [V.str n])
      refine ⟨x, l, names, S, np, [n], rfl, hB.same e, SqL.of upd_same, fun z hz => ?_, by simp, fun z hz => ?_, by show names.length + 1 ≤ 10; omega, hp, fun H' b' hB' => hQ H' ((But.of e).trans b') hB'⟩
      · rw [List.mem_singleton.mp hz]; exact hok
      · rw [List.mem_singleton.mp hz]; exact hn
    · obtain ⟨x, names, S, np, n, rfl, hB, hok, hn, hl, hp, hQ⟩ := h
      refine ⟨[.ref x], [.str n], rfl, rfl, by show 1 ≤ sizeLine; decide, fun p np2 => ?_⟩
      have e := L2.Same.new np2 (o := .tup [V.str n])
      exact ⟨x, p, names, S, np, n, rfl, hB.same e, SqT.of upd_same, hok, hn, hl, hp, fun H' b' hB' => hQ H' ((But.of e).trans b') hB'⟩
  · exact absurd rfl e
end
end FBQ
end
section
set_option Elab.async false
set_option linter.all false
set_option maxRecDepth 100000
set_option maxHeartbeats 1000000
namespace FBQ
open PySem PySem.Spec PyProof.Rows L2 FBR FB
/-- things at ts -/
def Al {β : Type} (R : Addr → β → Prop) : List Addr → List β → Prop
  | [], [] => True
  | t :: ts, b :: bs => R t b ∧ Al R ts bs
  | _, _ => False
section
variable {β : Type} {R R' : Addr → β → Prop}
theorem Al.imp : ∀ {ts : List Addr} {bs : List β}, (∀ t b, b ∈ bs → R t b → R' t b) → Al R ts bs → Al R' ts bs
  | [], [], _, _ => trivial
  | [], _ :: _, _, h => h.elim
  | _ :: _, [], _, h => h.elim
  | _ :: _, _ :: _, f, h => ⟨f _ _ List.mem_cons_self h.1, Al.imp (fun t b hb => f t b (List.mem_cons_of_mem _ hb)) h.2⟩
theorem Al.length : ∀ {ts : List Addr} {bs : List β}, Al R ts bs → ts.length = bs.length
  | [], [], _ => rfl
  | [], _ :: _, h => h.elim
  | _ :: _, [], h => h.elim
  | _ :: _, _ :: _, h => by rw [List.length_cons, List.length_cons, Al.length h.2]
theorem Al.get : ∀ {ts : List Addr} {bs : List β} {i : Nat} {t : Addr}, Al R ts bs → ts[i]? = some t → ∃ b, bs[i]? = some b ∧ R t b
  | [], [], _, _, _, h => by simp at h
  | [], _ :: _, _, _, h, _ => h.elim
  | _ :: _, [], _, _, h, _ => h.elim
  | _ :: _, b :: _, 0, _, h, e => by
    cases (Option.some.inj e)
    exact ⟨b, rfl, h.1⟩
  | _ :: _, _ :: bs, i + 1, t, h, e => Al.get (i := i) h.2 e
theorem Al.getR : ∀ {ts : List Addr} {bs : List β} {i : Nat} {b : β}, Al R ts bs → bs[i]? = some b → ∃ t, ts[i]? = some t ∧ R t b
  | [], [], _, _, _, h => by simp at h
  | [], _ :: _, _, _, h, _ => h.elim
  | _ :: _, [], _, _, h, _ => h.elim
  | t :: _, _ :: _, 0, _, h, e => by
    cases (Option.some.inj e)
    exact ⟨t, rfl, h.1⟩
  | _ :: ts, _ :: _, i + 1, b, h, e => Al.getR (i := i) h.2 e
theorem Al.snoc : ∀ {ts : List Addr} {bs : List β} {t : Addr} {b : β}, Al R ts bs → R t b → Al R (ts ++ [t]) (bs ++ [b])
  | [], [], _, _, _, h => ⟨h, trivial⟩
  | [], _ :: _, _, _, h, _ => h.elim
  | _ :: _, [], _, _, h, _ => h.elim
  | _ :: _, _ :: _, _, _, h, z => ⟨h.1, Al.snoc h.2 z⟩
end
section
variable {P : Program} {w : World} {K : PySem.W.Frag} {mg : Str → Option Value} {base : Heap}
/-- a sound bench -/
structure BOk (names : List Str) (S : List (Stk Str)) : Prop where
  pos : names ≠ []
  nd : names.Nodup
  len : names.length ≤ 10
  ok : ∀ z ∈ names, OkN z
  sl : S.length ≤ 20
  ends : Ends names S
  ne : ∀ s ∈ S, s.1 ≠ s.2.1
  lo : ∀ s ∈ S, 0 ≤ s.2.2 ∧ s.2.2 ≤ 1000000000
/-- a fork with its ties, as a tuple; its list isn't p -/
def WkE (K : PySem.W.Frag) (p : Addr) (H : Hp) (t : Addr) (e : Str × List (Str × Int)) : Prop := ∃ q, q ≠ p ∧ SqT K H t [.str e.1, .ref q] ∧ LTs K H q (e.2.map tV)
theorem WkE.same {p : Addr} {H H' : Hp} {t : Addr} {e : Str × List (Str × Int)} (h : Same H H') (w : WkE K p H t e) : WkE K p H' t e := by
  obtain ⟨q, a, b, c⟩ := w
  exact ⟨q, a, h.tup b, c.same h⟩
theorem LTs.but {H H' : Hp} {p l : Addr} {rs : List (List V)} (e : But p H H') (hp : ∀ ys, H p ≠ some (.tup ys)) (hf : ∀ o ys, H p ≠ some (.frz o (.tup ys))) (n : l ≠ p) (h : LTs K H l rs) : LTs K H' l rs := by
  obtain ⟨ts, a, b⟩ := h
  refine ⟨ts, ?_, b.but e hp hf⟩
  rcases a with (a | ⟨o, a⟩) | a
  · exact .inl (.inl (e _ _ n a))
  · exact .inl (.inr ⟨o, e _ _ n a⟩)
  · exact .inr a
theorem WkE.but {p d : Addr} {H H' : Hp} {t : Addr} {e : Str × List (Str × Int)} (h : But d H H') (hp : ∀ ys, H d ≠ some (.tup ys)) (hf : ∀ o ys, H d ≠ some (.frz o (.tup ys))) (hl : d = p ∨ ∃ kvs, H d = some (.dK kvs)) (w : WkE K p H t e) : WkE K p H' t e := by
  obtain ⟨q, a, b, c⟩ := w
  refine ⟨q, a, h.tup hp hf b, ?_⟩
  by_cases hq : q = d
  · rcases hl with z | ⟨kvs, z⟩
    · exact absurd (hq.trans z) a
    · obtain ⟨ts, h1, h2⟩ := c
      refine ⟨ts, ?_, h2.but h hp hf⟩
      rcases h1 with (h1 | ⟨o, h1⟩) | h1
      · rw [hq, z] at h1; cases h1
      · rw [hq, z] at h1; cases h1
      · exact .inr h1
  · exact LTs.but h hp hf hq c
def spOrder (K : PySem.W.Frag) : Sp := fun vs H Q _ => ∃ x names S np, vs = [.ref x] ∧ BenchAt K H x names S np ∧ BOk names S ∧ ∀ p ts H', Same H H' → H p = none → H' p = some (.lst (ts.map V.ref)) → Al (WkE K p H') ts (orderM names S) → Q (.ref p) H'
/-- the walking order so far, and the names that are placed -/
structure OSt (K : PySem.W.Frag) (H0 : Hp) (p d l u : Addr) (tss : List Addr) (names : List Str) (S : List (Stk Str)) (f : Wk Str) (H : Hp) : Prop where
  same : Same H0 H
  fp : H0 p = none
  fd : H0 d = none
  pl : H d = some (.dK (setK (f.map (·.1))))
  fo : ∃ ts, H p = some (.lst (ts.map V.ref)) ∧ Al (WkE K p H) ts f
  st : H l = some (.lst (tss.map V.ref))
  sv : Tups K H tss (S.map sV)
  fl : H0 l = none
  lp : l ≠ p
  uk : H u = some (.lst (names.map V.str))
  up : u ≠ p
theorem setK_put {pl : List Str} {x : Str} (h : x ∉ pl) : putK (setK pl) (Sum.inr x) (V.bl true) = setK (pl ++ [x]) := by
  rw [putK_new _ (by rw [valV_setK, if_neg h])]
  unfold setK
  rw [List.map_append]
  rfl
/-- placed[x] = True; found.append((x, e)), e a new list of ties -/
theorem OSt.add {H0 H : Hp} {p d l u : Addr} {tss : List Addr} {names : List Str} {S : List (Stk Str)} {f : Wk Str} {x : Str} (o : OSt K H0 p d l u tss names S f H) (hx : x ∉ f.map (·.1)) {H1 : Hp} {ties : List (Str × Int)} {q t : Addr} (e1 : Same (upd H d (.dK (setK (f.map (·.1) ++ [x])))) H1) (hqp : q ≠ p) (hqs : LTs K H1 q (ties.map tV)) (nt : H1 t = none) :
    ∀ ts : List Addr, H p = some (.lst (ts.map V.ref)) → OSt K H0 p d l u tss names S (f ++ [(x, ties)]) (upd (upd H1 t (.tup [.str x, .ref q])) p (.lst (ts.map V.ref ++ [.ref t]))) := by
  intro ts0 hp0
  obtain ⟨ts, hp, ha⟩ := o.fo
  have ets : ts0.map V.ref = ts.map V.ref := by
    rw [hp0] at hp
    exact HO.lst.inj (Option.some.inj hp)
  have hdp : d ≠ p := fun z => by have := o.pl; rw [z, hp] at this; cases this
  have b1 : But d H H1 := But.put.trans (But.of e1)
  have hd := o.pl
  have hp1 : H1 p = some (.lst (ts.map V.ref)) := b1 _ _ (Ne.symm hdp) hp
  have e2 : Same H1 (upd H1 t (.tup [.str x, .ref q])) := L2.Same.new nt
  have hp2 := e2 _ _ hp1
  have b3 : But p (upd H1 t (.tup [.str x, .ref q])) (upd (upd H1 t (.tup [.str x, .ref q])) p (.lst (ts0.map V.ref ++ [.ref t]))) := But.put
  have hld : l ≠ d := fun z => by have h1 := o.st; rw [z, hd] at h1; cases h1
  refine ⟨fun b u1 hb => ?_, o.fp, o.fd, ?_, ⟨ts0 ++ [t], by rw [upd_same, List.map_append]; rfl, ?_⟩, ?_, ?_, o.fl, o.lp, ?_, o.up⟩
  · have hbp : b ≠ p := fun z => by rw [z, o.fp] at hb; cases hb
    have hbd : b ≠ d := fun z => by rw [z, o.fd] at hb; cases hb
    exact b3 _ _ hbp (e2 _ _ (b1 _ _ hbd (o.same _ _ hb)))
  · rw [List.map_append]
    exact b3 _ _ hdp (e2 _ _ (e1 _ _ upd_same))
  · have a3 : Al (WkE K p (upd (upd H1 t (.tup [.str x, .ref q])) p (.lst (ts0.map V.ref ++ [.ref t])))) ts f := ha.imp fun u e _ w => (((w.but b1 (FBQ.nd hd).1 (FBQ.nd hd).2 (.inr ⟨_, hd⟩)).same e2).but b3 (nl hp2).1 (nl hp2).2 (.inl rfl))
    have e3 : ts0 = ts := by
      have := congrArg (List.map fun v => match v with | V.ref a => a | _ => 0) ets
      simpa [List.map_map, Function.comp_def] using this
    rw [e3]
    rw [e3] at b3 a3
    exact a3.snoc ⟨q, hqp, But.tup b3 (nl hp2).1 (nl hp2).2 (SqT.of upd_same), LTs.but b3 (nl hp2).1 (nl hp2).2 hqp (hqs.same e2)⟩
  · exact b3 _ _ o.lp (e2 _ _ (b1 _ _ hld o.st))
  · exact ((o.sv.but b1 (FBQ.nd hd).1 (FBQ.nd hd).2).same e2).but b3 (nl hp2).1 (nl hp2).2
  · have hud : u ≠ d := fun z => by have := o.uk; rw [z, hd] at this; cases this
    exact b3 _ _ o.up (e2 _ _ (b1 _ _ hud o.uk))
abbrev tNew (K : PySem.W.Frag) : TS := tSeq (sDPut (tVar 2) (tVar 4) (tC (.bl true))) (tDrop (tBM K "list" rAppend (tVar 1) (tCons (tTup (tCons (tVar 4) (tCons (tLst tNil) tNil))) tNil)))
abbrev tStep (K : PySem.W.Frag) : TS := tSeq (sDPut (tVar 2) (tVar 9) (tC (.bl true))) (tSeq (tDrop (tBM K "list" rAppend (tVar 1) (tCons (tTup (tCons (tVar 9) (tCons (tCall (spTies K) [] E0 (tCons (tVar 9) (tCons (tVar 2) (tCons (tVar 3) tNil)))) tNil))) tNil))) (tAsg (tC (.bl true)) (gName 5)))
theorem kl (f : Wk Str) (h : f.length ≤ 100) : (setK (f.map (·.1))).length < sizeLine := by
  unfold setK
  rw [List.length_map, List.length_map, sizeLine_eq]
  omega
theorem new_read {H0 H : Hp} {p d l u : Addr} {tss : List Addr} {names : List Str} {S : List (Stk Str)} {f : Wk Str} {n : Str} {c0 c3 c5 c6 c7 c8 c9 : Option V} {D : Ends} (o : OSt K H0 p d l u tss names S f H) (hn : n ∉ f.map (·.1)) (hf : f.length ≤ 100)
    (h : ∀ H', OSt K H0 p d l u tss names S (f ++ [(n, [])]) H' → D.nx [c0, some (.ref p), some (.ref d), c3, some (.str n), c5, c6, c7, c8, c9] H') : tNew K D [c0, some (.ref p), some (.ref d), c3, some (.str n), c5, c6, c7, c8, c9] H := by
  refine ⟨_, rfl, _, rfl, d, _, rfl, DPut.k (k := .inr n) o.pl (kl f hf), ?_⟩
  rw [setK_put hn]
  obtain ⟨ts, hp, ha⟩ := o.fo
  have hdp : p ≠ d := fun z => by have := o.pl; rw [← z, hp] at this; cases this
  have hp1 : upd H d (.dK (setK (f.map (·.1) ++ [n]))) p = some (.lst (ts.map V.ref)) := by rw [upd_ne hdp]; exact hp
  refine ⟨_, rfl, .inl ⟨rfl, _, SqL.of hp1⟩, _, rfl, Nat.zero_le _, fun q nq => ⟨by show 2 ≤ sizeLine; decide, fun t nt => ?_⟩⟩
  have e1 := L2.Same.new nq (o := .lst [])
  have hp2 := L2.Same.new nt (o := .tup [V.str n, .ref q]) _ _ (e1 _ _ hp1)
  refine ⟨p, _, .ref t, rfl, rfl, hp2, ?_, h _ (o.add (ties := []) hn e1 (ne_of_none hp1 nq).symm ⟨[], SqL.of upd_same, trivial⟩ nt ts hp)⟩
  have := ha.length
  rw [List.length_map, sizeLine_eq]
  omega
theorem step_read {H0 H : Hp} {p d l u : Addr} {tss : List Addr} {names : List Str} {S : List (Stk Str)} {f : Wk Str} {n : Str} {c0 c4 c5 c6 c7 c8 : Option V} {D : Ends} (o : OSt K H0 p d l u tss names S f H) (hn : n ∉ f.map (·.1)) (hf : f.length ≤ 100) (hS : S.length ≤ 100)
    (h : ∀ H', OSt K H0 p d l u tss names S (f ++ [(n, tiesM n (f.map (·.1) ++ [n]) S)]) H' → D.nx [c0, some (.ref p), some (.ref d), some (.ref l), c4, some (.bl true), c6, c7, c8, some (.str n)] H') : tStep K D [c0, some (.ref p), some (.ref d), some (.ref l), c4, c5, c6, c7, c8, some (.str n)] H := by
  refine ⟨_, rfl, _, rfl, d, _, rfl, DPut.k (k := .inr n) o.pl (kl f hf), ?_⟩
  rw [setK_put hn]
  obtain ⟨ts, hp, ha⟩ := o.fo
  have hd := o.pl
  have hdp : p ≠ d := fun z => by rw [← z, hp] at hd; cases hd
  have hld : l ≠ d := fun z => by have h1 := o.st; rw [z, hd] at h1; cases h1
  have hp1 : upd H d (.dK (setK (f.map (·.1) ++ [n]))) p = some (.lst (ts.map V.ref)) := by rw [upd_ne hdp]; exact hp
  have st1 : NTs K (upd H d (.dK (setK (f.map (·.1) ++ [n])))) l (S.map sV) := NTs.but But.put (FBQ.nd hd).1 (FBQ.nd hd).2 hld ⟨tss, o.st, o.sv⟩
  refine ⟨_, rfl, .inl ⟨rfl, _, SqL.of hp1⟩, _, rfl, _, rfl, _, rfl, _, rfl, n, d, l, _, S, rfl, upd_same, st1.l, hS, fun q H2 e2 nq hq => ⟨by show 2 ≤ sizeLine; decide, fun t nt => ?_⟩⟩
  have hp2 := L2.Same.new nt (o := .tup [V.str n, .ref q]) _ _ (e2 _ _ hp1)
  refine ⟨p, _, .ref t, rfl, rfl, hp2, ?_, h _ (o.add hn e2 (ne_of_none hp1 nq).symm hq.l nt ts hp)⟩
  have := ha.length
  rw [List.length_map, sizeLine_eq]
  omega
theorem t_neK {σ : L2.St} {H : Hp} {i j k : Nat} {x y : Str} {d : Addr} {pl : List Str} {Q : Bool → Hp → Prop} (hi : σ[i]? = some (some (.str x))) (hj : σ[j]? = some (some (.str y))) (hk : σ[k]? = some (some (.ref d))) (h : H d = some (.dK (setK pl))) (q : Q (!decide (decide (x ∈ pl) = decide (y ∈ pl))) H) :
    tTest (tOp rNe (tDIn (tVar i) (tVar k)) (tDIn (tVar j) (tVar k))) σ H Q := by
  refine ⟨_, hi, _, hk, d, _, rfl, DGet.k (k := Sum.inr x) h, _, hj, _, hk, d, _, rfl, DGet.k (k := Sum.inr y) h, rfl, _, rfl, ?_⟩
  rw [in_setK, in_setK]
  have e : decide (V.bl (decide (x ∈ pl)) = V.bl (decide (y ∈ pl))) = decide (decide (x ∈ pl) = decide (y ∈ pl)) := by
    by_cases z : decide (x ∈ pl) = decide (y ∈ pl)
    · rw [z]; simp
    · rw [decide_eq_false z, decide_eq_false fun q => z (V.bl.inj q)]
  rw [e]
  exact q
theorem ok_order (T : Tx K mg) : DefOk P w K mg base 2 (He.ga K "order_of_walking") ["bench"] [] (spOrder K) := by
  have D_ties := ok_ties (P := P) (w := w) (base := base) T
  have D_Bench_strikes := ok_strikes (P := P) (w := w) (base := base) T
  have D_Bench_forks := ok_forks (P := P) (w := w) (base := base) T
  refine defOk T.f_order_of_walking sc_order_of_walking (fun _ _ _ _ _ _ us hl => match us, hl with | [_], _ => rfl) (fun vs H Q E h => by obtain ⟨_, _, _, _, rfl, _⟩ := h; rfl) fun cdv A outer s H vs Q E hr h => ?_
  obtain ⟨x, names, S, np, rfl, hB, hO, hQ⟩ := h
  refine ⟨_, ((pss_cons (ps_set (i := 1) sc_order_of_walking.nd rfl (.inl rfl) (pe_lst pa_nil))
 (pss_cons (ps_set (i := 2) sc_order_of_walking.nd rfl (.inl rfl) (pe_dnewK))
 (pss_cons (ps_set (i := 3) sc_order_of_walking.nd rfl (.inl rfl) (pe_methD0 (pv 0) T.cl_Bench T.m_Bench_strikes D_Bench_strikes hr))
 (pss_cons (ps_for PassesOwn.never rfl (pi_listK K (pe_methD0 (pv 0) T.cl_Bench T.m_Bench_forks D_Bench_forks hr)) (pg_name (i := 4) sc_order_of_walking.nd rfl (.inl rfl) (.inl rfl))
 (pss_cons (ps_if (pt_cmp (pc_din (hu_of hr) (pv 4) (pv 2)))
 (pss_one ps_continue) pss_nil)
 (pss_cons (ps_dput (hu_of hr) (pv 2) (pv 4) pe_bl rfl)
 (pss_cons (ps_expr (pe_bm PySem.F.plainAttrs_list PySem.F.slot_list_append PySem.F.type_list_append mt_append (pv 1) (pa_cons (pe_tup (pa_cons (pv 4) (pa_cons (pe_lst pa_nil) pa_nil))) pa_nil)))
 (pss_cons (ps_set (i := 5) sc_order_of_walking.nd rfl (.inl rfl) pe_bl)
 (pss_one (ps_while PassesOwn.never (pt_val (pv 5))
 (pss_cons (ps_set (i := 5) sc_order_of_walking.nd rfl (.inl rfl) pe_bl)
 (pss_one (ps_for PassesOwn.never rfl (pi_listK K (pv 3)) (pg_tup rfl (pgs_cons (pg_name (i := 6) sc_order_of_walking.nd rfl (.inl rfl) (.inl rfl)) (pgs_cons (pg_name (i := 7) sc_order_of_walking.nd rfl (.inl rfl) (.inl rfl)) (pgs_cons (pg_name (i := 8) sc_order_of_walking.nd rfl (.inl rfl) (.inl rfl)) pgs_nil))))
 (pss_one (ps_if (pt_cmpR op_ne (pe_cmp (pc_din (hu_of hr) (pv 6) (pv 2)) rfl) (pe_cmp (pc_din (hu_of hr) (pv 7) (pv 2)) rfl) (nomark _))
 (pss_cons (ps_set (i := 9) sc_order_of_walking.nd rfl (.inl rfl) (pe_ifExp (pt_cmp (pc_din (hu_of hr) (pv 6) (pv 2))) (pv 7) (pv 6)))
 (pss_cons (ps_dput (hu_of hr) (pv 2) (pv 9) pe_bl rfl)
 (pss_cons (ps_expr (pe_bm PySem.F.plainAttrs_list PySem.F.slot_list_append PySem.F.type_list_append mt_append (pv 1) (pa_cons (pe_tup (pa_cons (pv 9) (pa_cons (pe_callD D_ties hr rfl T.g_ties (pa_cons (pv 9) (pa_cons (pv 2) (pa_cons (pv 3) pa_nil)))) pa_nil))) pa_nil)))
 (pss_one (ps_set (i := 5) sc_order_of_walking.nd rfl (.inl rfl) pe_bl))))) pss_nil))))))))))))
 (pss_one (ps_ret (pv 1)))))))), ?_⟩
  refine ⟨Nat.zero_le _, fun p np1 d nd1 => ?_⟩
  have e2 := (L2.Same.new np1 (o := .lst [])).trans (L2.Same.new nd1 (o := .dK []))
  have hp2 := (L2.Same.new nd1 (o := .dK [])) _ _ (upd_same (H := H) (a := p) (o := .lst []))
  have hd2 : upd (upd H p (.lst [])) d (.dK []) d = some (.dK []) := upd_same
  have fd := (L2.Same.new np1 (o := .lst [])).free nd1
  generalize upd (upd H p (.lst [])) d (.dK []) = H2 at e2 hp2 hd2 ⊢
  have hB2 := hB.same e2
  obtain ⟨dx, _, _, _, _, _, _, _, hx2, _⟩ := id hB2
  refine ⟨_, rfl, x, dx, _, rfl, hx2, rfl, x, names, S, np, rfl, hB2, fun l H3 e3 nl3 hl3 => ?_⟩
  have hB3 := hB2.same e3
  refine ⟨_, rfl, x, dx, _, rfl, e3 _ _ hx2, rfl, x, names, S, np, rfl, hB3, fun u H4 e4 nu4 hu4 => ⟨u, rfl, ⟨_, SqL.of hu4⟩, ?_⟩⟩
  have hend : ∀ f : Wk Str, Good names f → f.length ≤ 100 := fun f h => Nat.le_trans h.len (Nat.le_trans hO.len (by decide))
  have hS100 : S.length ≤ 100 := Nat.le_trans hO.sl (by decide)
  obtain ⟨tss, hts, htt⟩ := hl3.same e4
  have o0 : OSt K H p d l u tss names S [] H4 := ⟨(e2.trans e3).trans e4, np1, fd, e4 _ _ (e3 _ _ hd2), ⟨[], e4 _ _ (e3 _ _ hp2), trivial⟩, hts, htt, (e2.free nl3), (ne_of_none hp2 nl3).symm, hu4, (ne_of_none (e3 _ _ hp2) nu4).symm⟩
  refine for_list (xs := names.map V.str) (fun i σ H' => (∃ c4 c5 c6 c7 c8 c9, σ = [some (.ref x), some (.ref p), some (.ref d), some (.ref l), c4, c5, c6, c7, c8, c9]) ∧ OSt K H p d l u tss names S ((names.take i).foldl (orderStep names S) []) H' ∧ Good names ((names.take i).foldl (orderStep names S) []))
    ⟨⟨_, _, _, _, _, _, rfl⟩, o0, ⟨List.nodup_nil, fun _ h => by simp at h⟩⟩ (fun i σ H' _ p => SqL.of p.2.1.uk) (fun i y σ H' hi hPv => ?_) fun σ H' hPv => ?_
  · obtain ⟨⟨c4, c5, c6, c7, c8, c9, rfl⟩, o, g⟩ := hPv
    obtain ⟨n, hn, rfl⟩ := get_map hi
    have hnm : n ∈ names := List.mem_of_getElem? hn
    rw [take_s hn, List.foldl_append]
    generalize hf : (names.take i).foldl (orderStep names S) [] = f at o g
    have gs := ostep_good hO.ends g hnm
    have efold : [n].foldl (orderStep names S) f = orderStep names S f n := rfl
    rw [efold]
    refine t_inK rfl rfl o.pl (iteB (fun h => ?_) fun h => ?_)
    · have e : orderStep names S f n = f := if_pos h
      rw [e]
      exact ⟨⟨_, _, _, _, _, _, rfl⟩, o, g⟩
    · have e : orderStep names S f n = growM S (names.length + 1) (f ++ [(n, [])]) := if_neg h
      rw [e] at gs ⊢
      generalize hR : growM S (names.length + 1) (f ++ [(n, [])]) = R at gs ⊢
      have g1 : Good names (f ++ [(n, [])]) := g.snoc hnm h
      refine new_read (D := { nx := _, rt := _, bk := _, ct := _ }) o h (hend f g) fun H5 o5 => ?_
      refine ⟨fun m σ H6 => ∃ c6 c7 c8 c9 b f' k, σ = [some (.ref x), some (.ref p), some (.ref d), some (.ref l), some (.str n), some (.bl b), c6, c7, c8, c9] ∧ OSt K H p d l u tss names S f' H6 ∧ Good names f' ∧
        ((b = true ∧ m = k + 1 ∧ growM S k f' = R ∧ names.length + 1 ≤ k + f'.length) ∨ (b = false ∧ m = 0 ∧ f' = R)), ⟨_, _, _, _, _, true, _, names.length + 1, rfl, o5, g1, .inl ⟨rfl, rfl, hR, by omega⟩⟩, ?_⟩
      rintro m σ H6 ⟨c6, c7, c8, c9, b, f', k, rfl, o6, g6, hb⟩
      refine ⟨_, rfl, b, rfl, ?_⟩
      rcases hb with ⟨rfl, rfl, hk, hkf⟩ | ⟨rfl, rfl, rfl⟩
      · refine iteT ⟨fun σ' H' => ∃ m' < k + 1, ∃ c6 c7 c8 c9 b f' k, σ' = [some (.ref x), some (.ref p), some (.ref d), some (.ref l), some (.str n), some (.bl b), c6, c7, c8, c9] ∧ OSt K H p d l u tss names S f' H' ∧ Good names f' ∧
          ((b = true ∧ m' = k + 1 ∧ growM S k f' = R ∧ names.length + 1 ≤ k + f'.length) ∨ (b = false ∧ m' = 0 ∧ f' = R)), fun σ' H' h => let ⟨m', h1, h2⟩ := h; ⟨m', h1, h2⟩, ?_⟩
        refine ⟨.ref l, rfl, l, rfl, ⟨_, SqL.of o6.st⟩, ?_⟩
        refine for_tups (ts := tss) (rs := S.map sV) (fun j σ H' => (∃ c6 c7 c8 c9, σ = [some (.ref x), some (.ref p), some (.ref d), some (.ref l), some (.str n), some (.bl ((S.take j).foldl (stepM S) (f', false)).2), c6, c7, c8, c9]) ∧ OSt K H p d l u tss names S ((S.take j).foldl (stepM S) (f', false)).1 H' ∧
          Good names ((S.take j).foldl (stepM S) (f', false)).1) ⟨⟨_, _, _, _, rfl⟩, o6, g6⟩ (fun _ _ _ _ p => ⟨SqL.of p.2.1.st, p.2.1.sv⟩) o6.sv.length (fun j t r σ H7 hr7 htr hPv => ?_) fun σ H7 hPv => ?_
        · obtain ⟨⟨d6, d7, d8, d9, rfl⟩, o7, g7⟩ := hPv
          obtain ⟨⟨a, b, c⟩, hq, rfl⟩ := get_map hr7
          have hab := hO.ends _ (List.mem_of_getElem? hq)
          rw [take_s hq, List.foldl_append]
          generalize (S.take j).foldl (stepM S) (f', false) = st at o7 g7
          have es : [(a, b, c)].foldl (stepM S) st = stepM S st (a, b, c) := rfl
          rw [es]
          have gst := (step_good (S := S) (st := st) (t := (a, b, c)) g7 hab).1
          refine g3 htr ?_
          refine t_neK rfl rfl rfl o7.pl ?_
          rcases step_cases (S := S) (st := st) (t := (a, b, c)) with ⟨e7, h7⟩ | ⟨y, hy, hyn, hy2, h7, e7⟩
          · rw [decide_eq_true h7]
            refine iteF ?_
            rw [e7]
            exact ⟨⟨_, _, _, _, rfl⟩, o7, g7⟩
          · rw [decide_eq_false h7]
            rw [e7] at gst ⊢
            refine iteT ?_
            have fin : ∀ {D : Ends}, (∀ H', OSt K H p d l u tss names S (st.1 ++ [(y, tiesM y (st.1.map (·.1) ++ [y]) S)]) H' → D.nx [some (.ref x), some (.ref p), some (.ref d), some (.ref l), some (.str n), some (.bl true), some (.str a), some (.str b), some (.int c), some (.str y)] H') →
                tStep K D [some (.ref x), some (.ref p), some (.ref d), some (.ref l), some (.str n), some (.bl st.2), some (.str a), some (.str b), some (.int c), some (.str y)] H7 := fun {D} h => step_read o7 hyn (hend _ g7) hS100 h
            refine t_inK rfl rfl o7.pl (iteB (fun h => ⟨_, rfl, ?_⟩) fun h => ⟨_, rfl, ?_⟩)
            · have ey : y = b := by rw [hy2]; exact if_pos h
              subst ey
              exact fin (D := { nx := _, rt := _, bk := _, ct := _ }) fun H' o' => ⟨⟨_, _, _, _, rfl⟩, o', gst⟩
            · have ey : y = a := by rw [hy2]; exact if_neg h
              subst ey
              exact fin (D := { nx := _, rt := _, bk := _, ct := _ }) fun H' o' => ⟨⟨_, _, _, _, rfl⟩, o', gst⟩
        · obtain ⟨⟨d6, d7, d8, d9, rfl⟩, o7, g7⟩ := hPv
          rw [List.length_map, List.take_length] at o7 g7 ⊢
          have ep : S.foldl (stepM S) (f', false) = passM S f' := rfl
          rw [ep] at o7 g7 ⊢
          have pg := pass_good g6 hO.ends
          have hk1 : k ≠ 0 := fun z => by have := g6.len; omega
          obtain ⟨k', rfl⟩ := Nat.exists_eq_succ_of_ne_zero hk1
          by_cases hb : (passM S f').2 = true
          · refine ⟨k' + 1, by omega, _, _, _, _, _, _, k', rfl, o7, g7, .inl ⟨hb, rfl, ?_, ?_⟩⟩
            · rw [← hk]
              show _ = if (passM S f').2 = true then growM S k' (passM S f').1 else (passM S f').1
              rw [if_pos hb]
            · have := pg.2.2 hb
              omega
          · refine ⟨0, by omega, _, _, _, _, _, _, k', rfl, o7, g7, .inr ⟨by simpa using hb, rfl, ?_⟩⟩
            rw [← hk]
            show _ = if (passM S f').2 = true then growM S k' (passM S f').1 else (passM S f').1
            rw [if_neg hb]
      · exact iteF ⟨⟨_, _, _, _, _, _, rfl⟩, o6, g6⟩
  · obtain ⟨⟨c4, c5, c6, c7, c8, c9, rfl⟩, o, g⟩ := hPv
    rw [List.length_map, List.take_length] at o g
    obtain ⟨ts, hp, ha⟩ := o.fo
    exact ⟨_, rfl, hQ p ts H' o.same np1 hp ha⟩
end
end FBQ
end
section
set_option Elab.async false
set_option linter.all false
set_option maxRecDepth 100000
set_option maxHeartbeats 1000000
namespace FBQ
open PySem PySem.Spec PyProof.Rows L2 FBR FB
section
variable {J J1 : It} {n n1 : Nat} {G G1 : Hp → Prop} {Y Y1 : Nat → Hp → V → Hp → Prop} {g g1 : TG} {tt tt1 : TT} {te : TE} {wi1 : TI} {vs vs1 : List Nat} {σ σ2 : L2.St} {H1 H4 : Hp} {D : Addr} {Qd Nx : Hp → Prop}
abbrev LcIn (J1 : It) (g1 : TG) (tt1 : TT) (te : TE) (vs1 : List Nat) (σ2 : L2.St) (D : Addr) (Nx : Hp → Prop) (H4 : Hp) : Prop := ∃ W1 : Nat → Nat → Hp → Prop, (∃ m, W1 0 m H4) ∧ ∀ j k H, W1 j k H →
      (J1.stop j H ∧ Nx H) ∨ (J1.go j H ∧ ∃ Nx1 : Hp → Prop, (∀ H', Nx1 H' → ∃ k', k' < k ∧ W1 (j + 1) k' H') ∧ ∀ x H', J1.yld j H x H' → g1 x (wipe σ2 vs1) H' fun σ3 H5 => wipe σ3 vs1 = wipe σ2 vs1 ∧ tt1 σ3 H5 fun b H6 =>
        if b = true then te σ3 H6 fun y H7 => ∃ acc, H7 D = some (.lst acc) ∧ acc.length < sizeLine ∧ Nx1 (upd H7 D (.lst (acc ++ [y]))) else Nx1 H6)
/-- the inner for of a comprehension -/
theorem lcin_it (w : Walk J1 n1 G1 Y1) (Pv : Nat → Hp → Prop) (h0 : Pv 0 H4) (hG : ∀ i H, i ≤ n1 → Pv i H → G1 H)
    (hs : ∀ i x H H', i < n1 → Pv i H → Y1 i H x H' → g1 x (wipe σ2 vs1) H' fun σ3 H5 => wipe σ3 vs1 = wipe σ2 vs1 ∧ tt1 σ3 H5 fun b H6 =>
      if b = true then te σ3 H6 fun y H7 => ∃ acc, H7 D = some (.lst acc) ∧ acc.length < sizeLine ∧ Pv (i + 1) (upd H7 D (.lst (acc ++ [y]))) else Pv (i + 1) H6) (hd : ∀ H, Pv n1 H → Nx H) : LcIn J1 g1 tt1 te vs1 σ2 D Nx H4 := by
  refine ⟨fun i m H => m = n1 - i ∧ i ≤ n1 ∧ Pv i H, ⟨n1, by simp, Nat.zero_le _, h0⟩, fun i m H ⟨em, hi, p⟩ => ?_⟩
  subst em
  rcases Nat.lt_or_ge i n1 with lt | ge
  · exact .inr ⟨w.goes i H lt (hG i H hi p), Pv (i + 1), fun H' p' => ⟨n1 - (i + 1), by omega, rfl, lt, p'⟩, fun x H' y => hs i x H H' lt p (w.yields i H x H' lt (hG i H hi p) y)⟩
  · obtain rfl : i = n1 := Nat.le_antisymm hi ge
    exact .inl ⟨w.stops H (hG _ H hi p), hd H p⟩
/-- the outer one -/
theorem lc2_it (w : Walk J n G Y) (Pv : Nat → Hp → Prop) (h0 : Pv 0 (upd H1 D (.lst []))) (hG : ∀ i H, i ≤ n → Pv i H → G H)
    (hs : ∀ i x H H', i < n → Pv i H → Y i H x H' → g x (wipe σ vs) H' fun σ2 H2 => wipe σ2 vs = wipe σ vs ∧ tt σ2 H2 fun b H3 => if b = true then wi1 σ2 H3 fun J1 H4 => LcIn J1 g1 tt1 te vs1 σ2 D (Pv (i + 1)) H4 else Pv (i + 1) H3) (hd : ∀ H, Pv n H → Qd H) :
    ∃ W : Nat → Nat → Hp → Prop, (∃ m, W 0 m (upd H1 D (.lst []))) ∧ ∀ i m H, W i m H →
      (J.stop i H ∧ Qd H) ∨ (J.go i H ∧ ∃ Nx : Hp → Prop, (∀ H', Nx H' → ∃ m', m' < m ∧ W (i + 1) m' H') ∧ ∀ x H', J.yld i H x H' → g x (wipe σ vs) H' fun σ2 H2 => wipe σ2 vs = wipe σ vs ∧ tt σ2 H2 fun b H3 =>
        if b = true then wi1 σ2 H3 fun J1 H4 => LcIn J1 g1 tt1 te vs1 σ2 D Nx H4 else Nx H3) := by
  refine ⟨fun i m H => m = n - i ∧ i ≤ n ∧ Pv i H, ⟨n, by simp, Nat.zero_le _, h0⟩, fun i m H ⟨em, hi, p⟩ => ?_⟩
  subst em
  rcases Nat.lt_or_ge i n with lt | ge
  · exact .inr ⟨w.goes i H lt (hG i H hi p), Pv (i + 1), fun H' p' => ⟨n - (i + 1), by omega, rfl, lt, p'⟩, fun x H' y => hs i x H H' lt p (w.yields i H x H' lt (hG i H hi p) y)⟩
  · obtain rfl : i = n := Nat.le_antisymm hi ge
    exact .inl ⟨w.stops H (hG _ H hi p), hd H p⟩
end
section
variable {P : Program} {w : World} {K : PySem.W.Frag} {mg : Str → Option Value} {base : Heap}
theorem marks_of {c : Int} (hc : 0 ≤ c) {ns : List Int} (hp : ns.Pairwise (· < ·)) (hm : ∀ k : Int, k ∈ ns ↔ k ∈ [-c, c]) : ns = marksM c := by
  unfold marksM
  by_cases h : c = 0
  · rw [if_pos h]
    subst h
    match ns, hp, hm with
    | [], _, hm => have := (hm 0).mpr (by simp); simp at this
    | [a], _, hm => have := (hm a).mp (by simp); simp at this; rw [this]
    | a :: b :: r, hp, hm =>
      have h1 := (hm a).mp (by simp)
      have h2 := (hm b).mp (by simp)
      have h3 := (List.pairwise_cons.mp hp).1 b (by simp)
      simp at h1 h2
      omega
  · rw [if_neg h]
    match ns, hp, hm with
    | [], _, hm => have := (hm c).mpr (by simp); simp at this
    | [a], _, hm =>
      have h1 := (hm c).mpr (by simp)
      have h2 := (hm (-c)).mpr (by simp)
      simp at h1 h2
      omega
    | a :: b :: r, hp, hm =>
      have h1 := (hm a).mp (by simp)
      have h2 := (hm b).mp (by simp)
      have h3 := (List.pairwise_cons.mp hp).1 b (by simp)
      simp at h1 h2
      have ha : a = -c := by omega
      have hb : b = c := by omega
      subst ha hb
      cases r with
      | nil => rfl
      | cons d r =>
        have h4 := (hm d).mp (by simp)
        have h5 := (List.pairwise_cons.mp (List.pairwise_cons.mp hp).2).1 d (by simp)
        simp at h4
        omega
theorem yes_if {σ : L2.St} {H : Hp} {A B : Hp → Prop} (h : A H) : tYes σ H (fun b H3 => if b = true then A H3 else B H3) := by
  unfold tYes
  exact iteT h
theorem absI_nn (i : Int) : 0 ≤ absI i := by unfold absI; split <;> omega
theorem absI_zero (i : Int) : absI i = 0 ↔ i = 0 := by unfold absI; split <;> omega
def spChoices (K : PySem.W.Frag) : Sp := fun vs H Q _ => ∃ a d tied lv, vs = [.ref a, .ref d, .int 0] ∧ LTs K H a (tied.map tV) ∧ tied ≠ [] ∧ H d = some (.dK (kI lv)) ∧ (∀ t ∈ tied, t.1 ∈ lv.map (·.1) ∧ 0 ≤ t.2 ∧ t.2 ≤ 1000000000) ∧ tied.length ≤ 1000 ∧
  ∀ p H', Same H H' → H p = none → NTs K H' p ((choicesM tied lv).map fun q => [.int q, .int 0]) → Q (.ref p) H'
theorem ok_choices (T : Tx K mg) : DefOk P w K mg base 1 (He.ga K "choices") ["tied", "level", "spare"] [] (spChoices K) := by
  refine defOk T.f_choices sc_choices (fun _ _ _ _ _ _ us hl => match us, hl with | [_, _, _], _ => rfl) (fun vs H Q E h => by obtain ⟨_, _, _, _, rfl, _⟩ := h; rfl) fun cdv A outer s H vs Q E hr h => ?_
  obtain ⟨a, d, tied, lv, rfl, ⟨ts, hl, ht⟩, hne, hd, hin, hz, hQ⟩ := h
  cases tied with
  | nil => exact absurd rfl hne
  | cons q0 tr =>
  obtain ⟨f, c⟩ := q0
  obtain ⟨hfi, hc0, hc1⟩ := hin (f, c) List.mem_cons_self
  obtain ⟨t0, tsr, rfl⟩ : ∃ t0 tsr, ts = t0 :: tsr := by
    cases ts with
    | nil => exact ht.elim
    | cons t0 tsr => exact ⟨t0, tsr, rfl⟩
  refine ⟨_, ((pss_cons (ps_asg (pe_ix (ix_listK K) (pv 0) pe_int (fun _ _ => rfl)) (pg_tup rfl (pgs_cons (pg_name (i := 3) sc_choices.nd rfl (.inl rfl) (.inl rfl)) (pgs_cons (pg_name (i := 4) sc_choices.nd rfl (.inl rfl) (.inl rfl)) pgs_nil))))
 (pss_cons (ps_set (i := 5) sc_choices.nd rfl (.inl rfl) (pe_ifExp (pt_cmpR op_gt (pv 2) pe_int (nomark _)) pe_int pe_int))
 (pss_cons (ps_set (i := 6) sc_choices.nd rfl (.inl rfl) (pe_callB (cr_sortedSetW w rfl) (by rfl) T.b_sorted (by decide +kernel) (pa_cons (pe_callTy (cr_setLK K w rfl) (by rfl) T.b_set (by decide +kernel) (pa_cons (pe_lc2 (own := [("beats", 7), ("sign", 8)]) (vs1 := [8]) (by rfl) sc_choices.nd (pi_range2 rfl T.b_range (pa_cons (pe_callB (call_max2 rfl) (by rfl) T.b_max (by decide +kernel) (pa_cons pe_int (pa_cons (pe_op op_sub (pv 4) (pv 5)) pa_nil))) (pa_cons (pe_op op_add (pe_op op_add (pv 4) (pv 5)) pe_int) pa_nil))) (blkOk_by (own := [("beats", 7), ("sign", 8)]) (N := ["tied", "level", "spare", "first", "count", "wide", "marks", "beats", "sign", "found", "mark", "pitch", "off", "name", "told", "gap"]) (sc := (defScope s_choices)) (by decide +kernel)) (by decide) (fun _ _ _ _ _ => (pg_name (i := 7) sc_choices.nd rfl (Or.inl rfl) (.inr rfl))) (fun _ _ _ _ _ => pts_nil) (fun _ _ _ _ _ => (pi_tupK K (pe_tup (pa_cons (pe_un un_neg pe_int) (pa_cons pe_int pa_nil))))) (fun _ _ _ _ _ => (pg_name (i := 8) sc_choices.nd rfl (Or.inl rfl) (.inr rfl))) (fun _ _ _ _ _ => pts_nil) (fun _ _ _ _ _ => (pe_op op_mul (pv 8) (pv 7)))) pa_nil)) pa_nil)))
 (pss_cons (ps_set (i := 9) sc_choices.nd rfl (.inl rfl) (pe_lst pa_nil))
 (pss_cons (ps_for PassesOwn.never rfl (pi_listK K (pv 6)) (pg_name (i := 10) sc_choices.nd rfl (.inl rfl) (.inl rfl))
 (pss_cons (ps_set (i := 11) sc_choices.nd rfl (.inl rfl) (pe_op op_add (pe_dget (hu_of hr) (pv 1) (pv 3) (fun _ _ => rfl)) (pv 10)))
 (pss_cons (ps_set (i := 12) sc_choices.nd rfl (.inl rfl) pe_int)
 (pss_cons (ps_for PassesOwn.never rfl (pi_listK K (pv 0)) (pg_tup rfl (pgs_cons (pg_name (i := 13) sc_choices.nd rfl (.inl rfl) (.inl rfl)) (pgs_cons (pg_name (i := 14) sc_choices.nd rfl (.inl rfl) (.inl rfl)) pgs_nil)))
 (pss_cons (ps_set (i := 15) sc_choices.nd rfl (.inl rfl) (pe_callB call_abs (by rfl) T.b_abs (by decide +kernel) (pa_cons (pe_op op_sub (pe_callB call_abs (by rfl) T.b_abs (by decide +kernel) (pa_cons (pe_op op_sub (pv 11) (pe_dget (hu_of hr) (pv 1) (pv 13) (fun _ _ => rfl))) pa_nil)) (pv 14)) pa_nil)))
 (pss_one (ps_set (i := 12) sc_choices.nd rfl (.inl rfl) (pe_ifExp (pt_cmpR op_lt (pv 15) pe_int (nomark _)) (pe_op op_add (pv 12) (pv 15)) (pe_op op_add (pv 2) pe_int))))))
 (pss_one (ps_if (pt_cmpR op_le (pv 12) (pv 2) (nomark _))
 (pss_one (ps_expr (pe_bm PySem.F.plainAttrs_list PySem.F.slot_list_append PySem.F.type_list_append mt_append (pv 9) (pa_cons (pe_tup (pa_cons (pv 11) (pa_cons (pv 12) pa_nil))) pa_nil)))) pss_nil))))))
 (pss_one (ps_ret (pv 9))))))))), ?_⟩
  refine ⟨_, rfl, a, _, 0, .ref t0, rfl, rfl, hl, at_of (j := 0) rfl rfl, ?_⟩
  refine g2 ht.1 ?_
  refine ⟨_, rfl, _, _, rfl, rfl, _, rfl, iteN (by decide) ?_⟩
  have elo : (if c - 0 > 0 then c - 0 else 0) = c := by split <;> omega
  have eto : (c + 0 + 1 - (if c - 0 > 0 then c - 0 else 0)).toNat = 1 := by rw [elo]; omega
  refine ⟨_, rfl, _, rfl, _, _, rfl, rfl, 0, c - 0, rfl, _, rfl, _, rfl, _, _, rfl, rfl, _, _, rfl, rfl, (if c - 0 > 0 then c - 0 else 0), c + 0 + 1, rfl, ⟨by rw [elo]; omega, by rw [elo]; omega, by omega, by omega⟩, fun D hD => ?_⟩
  refine lc2_it walk_range (fun i H' => Same H H' ∧ H' D = some (.lst (if i = 0 then [] else [.int (-1 * c), .int (1 * c)]))) ⟨L2.Same.new hD, upd_same⟩ (fun _ _ _ _ => trivial) (fun i x H1 H2 hi hp hy => ?_) fun H1 hp => ?_
  · obtain ⟨rfl, hx⟩ := hy
    obtain ⟨e1, hD1⟩ := hp
    rw [eto] at hi
    obtain rfl : i = 0 := by omega
    rw [if_pos rfl] at hD1
    obtain rfl : x = .int c := by
      rw [hx]
      show V.int ((if c - 0 > 0 then c - 0 else 0) + ((0 : Nat) : Int)) = .int c
      rw [elo]
      congr 1
      omega
    refine ⟨rfl, yes_if ?_⟩
    refine ⟨1, rfl, by show 2 ≤ sizeLine; decide, fun t nt => ⟨t, rfl, ⟨_, SqT.of upd_same⟩, ?_⟩⟩
    have e2 := e1.trans (L2.Same.new nt (o := .tup [.int (-1), .int 1]))
    have hD2 := L2.Same.new nt (o := .tup [.int (-1), .int 1]) _ _ hD1
    have ht2 : upd H2 t (.tup [.int (-1), .int 1]) t = some (.tup [.int (-1), .int 1]) := upd_same
    have htD : t ≠ D := (ne_of_none hD1 nt).symm
    generalize upd H2 t (.tup [.int (-1), .int 1]) = H3 at e2 hD2 ht2 ⊢
    refine lcin_it (walk_tup (xs := [V.int (-1), V.int 1])) (fun j H' => Same H H' ∧ H' t = some (.tup [.int (-1), .int 1]) ∧ H' D = some (.lst ([V.int (-1 * c), .int (1 * c)].take j))) ⟨e2, ht2, hD2⟩ (fun _ _ _ p => SqT.of p.2.1) (fun j y H4 H5 hj hp hy => ?_) fun H4 hp => ?_
    · obtain ⟨rfl, hy⟩ := hy
      obtain ⟨e4, ht4, hD4⟩ := hp
      match j, hj, hy, hD4 with
      | 0, _, hy, hD4 =>
        cases hy
        refine ⟨rfl, yes_if ⟨_, rfl, _, rfl, -1, c, rfl, rfl, .inl ⟨by decide, by decide⟩, _, hD4, by show (0 : Nat) < sizeLine; decide, L2.Same.mut e4 hD, ?_, upd_same⟩⟩
        rw [upd_ne htD]; exact ht4
      | 1, _, hy, hD4 =>
        cases hy
        refine ⟨rfl, yes_if ⟨_, rfl, _, rfl, 1, c, rfl, rfl, .inl ⟨by decide, by decide⟩, _, hD4, by show (1 : Nat) < sizeLine; decide, L2.Same.mut e4 hD, ?_, upd_same⟩⟩
        rw [upd_ne htD]; exact ht4
      | n + 2, hj, _, _ => exact absurd hj (by show ¬ (n + 2 < 2); omega)
    · exact ⟨hp.1, hp.2.2⟩
  · rw [eto] at hp
    obtain ⟨e1, hD1⟩ := hp
    rw [if_neg (by decide)] at hD1
    refine ⟨D, [-1 * c, 1 * c], rfl, SqL.of hD1, by show (2 : Nat) + 1 < scanBound; decide, fun u cc nu hcc => ?_⟩
    have eu := L2.Same.new nu (o := SetO w u (fun j => decide (j ∈ [-1 * c, 1 * c])) cc)
    refine ⟨u, _, cc, rfl, upd_same, by have : cc ≤ 2 := hcc; omega, fun ns m hpw hmem hlen nm => ?_⟩
    have em : ns = marksM c := marks_of hc0 hpw fun k => by
      rw [hmem k]
      simp only [decide_eq_true_eq, Int.neg_one_mul, Int.one_mul]
    subst em
    have e2 := (e1.trans eu).trans (L2.Same.new nm (o := .lst ((marksM c).map V.int)))
    have hm : upd (upd H1 u (SetO w u (fun j => decide (j ∈ [-1 * c, 1 * c])) cc)) m (.lst ((marksM c).map V.int)) m = some (.lst ((marksM c).map V.int)) := upd_same
    generalize upd (upd H1 u (SetO w u (fun j => decide (j ∈ [-1 * c, 1 * c])) cc)) m (.lst ((marksM c).map V.int)) = H2 at e2 hm ⊢
    -- the marks
    refine ⟨Nat.zero_le _, fun p np => ?_⟩
    have e3 := e2.trans (L2.Same.new np (o := .lst []))
    have hm3 := L2.Same.new np (o := .lst []) _ _ hm
    have hp3 : upd H2 p (.lst []) p = some (.lst []) := upd_same
    have fp := e2.free np
    have hmp : m ≠ p := ne_of_none hm np
    generalize upd H2 p (.lst []) = H3 at e3 hm3 hp3 ⊢
    refine ⟨.ref m, rfl, m, rfl, ⟨_, SqL.of hm3⟩, ?_⟩
    have okc : ∀ k, okM ((f, c) :: tr) lv k = ((f, c) :: tr).all fun t => decide (absI (k - getL lv t.1) = t.2) := fun k => rfl
    refine for_list (xs := (marksM c).map V.int) (fun i σ H' => (∃ c7 c8 c10 c11 c12 c13 c14 c15, σ = [some (.ref a), some (.ref d), some (.int 0), some (.str f), some (.int c), some (.int 0), some (.ref m), c7, c8, some (.ref p), c10, c11, c12, c13, c14, c15]) ∧ Same H H' ∧ H' m = some (.lst ((marksM c).map V.int)) ∧
      NTs K H' p ((((((marksM c).take i).map fun k => getL lv f + k)).filter (okM ((f, c) :: tr) lv)).map fun q => [.int q, .int 0])) ⟨⟨_, _, _, _, _, _, _, _, rfl⟩, e3, hm3, [], hp3, trivial⟩ (fun i σ H' _ p => SqL.of p.2.2.1) (fun i y σ H4 hi hPv => ?_) fun σ H4 hPv => ?_
    · obtain ⟨⟨c7, c8, c10, c11, c12, c13, c14, c15, rfl⟩, e4, hm4, us, hp4, hu4⟩ := hPv
      obtain ⟨k, hk, rfl⟩ := get_map hi
      rw [take_s hk, List.map_append, List.filter_append]
      have hd4 := e4 _ _ hd
      refine ⟨_, rfl, _, rfl, d, .int (getL lv f), rfl, .inl ⟨kI lv, .inr f, .inl hd4, rfl, (kI_get hfi).symm⟩, _, rfl, _, _, rfl, rfl, ?_⟩
      refine ⟨_, rfl, a, rfl, ⟨_, e4.seq hl⟩, ?_⟩
      refine for_tups (ts := t0 :: tsr) (rs := ((f, c) :: tr).map tV) (fun j σ H' => H' = H4 ∧ ∃ off : Int, 0 ≤ off ∧ (off = 0 ↔ okM (((f, c) :: tr).take j) lv (getL lv f + k) = true) ∧ ∃ c13 c14 c15, σ = [some (.ref a), some (.ref d), some (.int 0), some (.str f), some (.int c), some (.int 0), some (.ref m), c7, c8, some (.ref p), some (.int k), some (.int (getL lv f + k)), some (.int off), c13, c14, c15])
        ⟨rfl, 0, by decide, by simp [okM], _, _, _, rfl⟩ (fun j σ H' _ p => by rw [p.1]; exact ⟨e4.seq hl, ht.same e4⟩) ht.length (fun j t r σ H5 hr5 htr hPv => ?_) fun σ H5 hPv => ?_
      · obtain ⟨rfl, off, ho0, hoff, d13, d14, d15, rfl⟩ := hPv
        obtain ⟨⟨n, told⟩, hq, rfl⟩ := get_map hr5
        obtain ⟨hni, hn0, hn1⟩ := hin (n, told) (List.mem_of_getElem? hq)
        rw [take_s hq]
        have eok : okM (((f, c) :: tr).take j ++ [(n, told)]) lv (getL lv f + k) = (okM (((f, c) :: tr).take j) lv (getL lv f + k) && decide (absI (getL lv f + k - getL lv n) = told)) := by
          unfold okM
          rw [List.all_append]
          simp
        rw [eok]
        refine g2 htr ?_
        refine ⟨_, rfl, _, rfl, _, rfl, d, .int (getL lv n), rfl, .inl ⟨kI lv, .inr n, .inl hd4, rfl, (kI_get hni).symm⟩, _, _, rfl, rfl, _, rfl, _, rfl, _, _, rfl, rfl, _, rfl, ?_⟩
        have h0 : 0 ≤ absI (absI (getL lv f + k - getL lv n) - told) := absI_nn _
        have hz : absI (absI (getL lv f + k - getL lv n) - told) = 0 ↔ absI (getL lv f + k - getL lv n) = told := by
          rw [absI_zero]
          omega
        refine ⟨_, rfl, _, _, rfl, rfl, _, rfl, iteB (fun hlt => ?_) fun hge => ?_⟩
        · refine ⟨_, rfl, _, rfl, _, _, rfl, rfl, rfl, off + absI (absI (getL lv f + k - getL lv n) - told), by omega, ?_, _, _, _, rfl⟩
          rw [Bool.and_eq_true, ← hoff, decide_eq_true_eq, ← hz]
          omega
        · refine ⟨_, rfl, _, _, rfl, rfl, rfl, 1, by decide, ?_, _, _, _, rfl⟩
          have hge' : ¬ absI (absI (getL lv f + k - getL lv n) - told) < 2 := hge
          rw [Bool.and_eq_true, decide_eq_true_eq, ← hz]
          omega
      · obtain ⟨rfl, off, ho0, hoff, d13, d14, d15, rfl⟩ := hPv
        rw [List.length_map, List.take_length] at hoff
        refine ⟨_, rfl, _, rfl, _, _, rfl, rfl, _, rfl, iteB (fun hle => ?_) fun hgt => ?_⟩
        · obtain rfl : off = 0 := by omega
          have hok := hoff.mp rfl
          have ef : [k].map (fun k => getL lv f + k) = [getL lv f + k] := rfl
          rw [ef, List.filter_cons_of_pos hok, List.filter_nil, List.map_append]
          refine app_tup rfl hp4 hu4 ?_ (tup2 rfl rfl) fun H6 b6 _ N6 => ?_
          · have h1 := hu4.length
            rw [List.length_map] at h1
            have h2 := List.length_filter_le (okM ((f, c) :: tr) lv) (((marksM c).take i).map fun k => getL lv f + k)
            rw [List.length_map, List.length_take] at h2
            have h3 : (marksM c).length ≤ 2 := by unfold marksM; split <;> simp
            omega
          · refine ⟨⟨_, _, _, _, _, _, _, _, rfl⟩, fun b o hb => b6 b o (fun z => ?_) (e4 b o hb), b6 _ _ hmp hm4, N6⟩
            rw [z, fp] at hb; cases hb
        · have hok : ¬ okM ((f, c) :: tr) lv (getL lv f + k) = true := fun z => by have := hoff.mpr z; omega
          have ef : [k].map (fun k => getL lv f + k) = [getL lv f + k] := rfl
          rw [ef, List.filter_cons_of_neg hok, List.filter_nil, List.append_nil]
          exact ⟨⟨_, _, _, _, _, _, _, _, rfl⟩, e4, hm4, us, hp4, hu4⟩
    · obtain ⟨⟨c7, c8, c10, c11, c12, c13, c14, c15, rfl⟩, e4, hm4, N⟩ := hPv
      rw [List.length_map, List.take_length] at N
      exact ⟨_, rfl, hQ p H4 e4 fp N⟩
end
end FBQ
end
section
set_option Elab.async false
set_option linter.all false
set_option maxRecDepth 100000
set_option maxHeartbeats 1000000
namespace FBQ
open PySem PySem.Spec PyProof.Rows L2 FBR FB
section
variable {P : Program} {w : World} {K : PySem.W.Frag} {mg : Str → Option Value} {base : Heap}
theorem Al.append {β : Type} {R : Addr → β → Prop} : ∀ {ts us : List Addr} {bs cs : List β}, Al R ts bs → Al R us cs → Al R (ts ++ us) (bs ++ cs)
  | [], _, [], _, _, h => h
  | [], _, _ :: _, _, h, _ => h.elim
  | _ :: _, _, [], _, h, _ => h.elim
  | _ :: _, _, _ :: _, _, h, z => ⟨h.1, Al.append h.2 z⟩
theorem merge_new : ∀ (more acc : List (Key × V)), ((acc ++ more).map (·.1)).Nodup → mergeK acc more = acc ++ more
  | [], acc, _ => by simp [mergeK]
  | kv :: r, acc, h => by
    have hn : valV acc kv.1 = none := by
      unfold valV
      rw [List.find?_eq_none.mpr]
      · rfl
      · intro x hx
        simp only [decide_eq_true_eq]
        intro e
        rw [List.map_append, List.map_cons, List.nodup_append] at h
        exact h.2.2 x.1 (List.mem_map.mpr ⟨x, hx, rfl⟩) kv.1 List.mem_cons_self e
    show mergeK (putK acc kv.1 kv.2) r = _
    rw [putK_new _ hn, merge_new r (acc ++ [(kv.1, kv.2)]) (by simpa using h)]
    simp
theorem merge_kI {lv : Lv Str} (h : (lv.map (·.1)).Nodup) : mergeK [] (kI lv) = kI lv := by
  refine (merge_new (kI lv) [] ?_).trans (List.nil_append _)
  rw [List.nil_append]
  unfold kI
  rw [List.map_map]
  have : ((fun x => x.1) ∘ fun q : Str × Int => ((Sum.inr q.1 : Key), V.int q.2)) = (fun x : Str => (Sum.inr x : Key)) ∘ fun q : Str × Int => q.1 := rfl
  rw [this, ← List.map_map]
  exact List.Pairwise.map _ (fun a b e q => e (Sum.inr.inj q)) h
theorem kI_len (lv : Lv Str) : (kI lv).length = lv.length := by unfold kI; rw [List.length_map]
/-- {**level, x: v} -/
theorem star_read {σ : L2.St} {H : Hp} {i j : Nat} {d : Addr} {x : Str} {v : Int} {lv : Lv Str} {tv : TE} {Q : VK} (hi : σ[i]? = some (some (.ref d))) (hj : σ[j]? = some (some (.str x))) (hv : ∀ H Q, Q (.int v) H → tv σ H Q) (hd : H d = some (.dK (kI lv))) (hn : (lv.map (·.1)).Nodup) (hl : lv.length ≤ 1000)
    (q : ∀ p H', Same H H' → H p = none → H' p = some (.dK (kI (putL lv x v))) → Q (.ref p) H') : tStarK (tVar i) (tVar j) tv σ H Q := by
  intro p np
  have e1 := L2.Same.new np (o := .dK [])
  have hpd : p ≠ d := (ne_of_none hd np).symm
  refine ⟨_, hi, d, kI lv, rfl, upd_same, e1 _ _ hd, hpd, by rw [kI_len, sizeLine_eq]; omega, fun r nr => ⟨_, hj, hv _ _ ⟨upd_same, .inr x, .int v, rfl, ?_, ?_, ?_⟩⟩⟩
  · have hrp : p ≠ r := fun z => by rw [← z, upd_same] at nr; cases nr
    rw [upd_ne hrp, upd_same]
  · exact fun z => by rw [← z, upd_same] at nr; cases nr
  · have hrp : r ≠ p := fun z => by rw [z, upd_same] at nr; cases nr
    have hr0 : H r = none := by rw [upd_ne hrp, upd_ne hrp] at nr; exact nr
    refine q p _ ?_ np ?_
    · exact L2.Same.mut (L2.Same.mut (L2.Same.mut (L2.Same.mut e1 np) hr0) hr0) np
    · rw [upd_same, merge_kI hn]
      show some (HO.dK (putK (kI lv) (Sum.inr x) (V.int v))) = _
      rw [kI_put]
def WkR (K : PySem.W.Frag) (H : Hp) (t : Addr) (e : Str × List (Str × Int)) : Prop := ∃ q, SqT K H t [.str e.1, .ref q] ∧ LTs K H q (e.2.map tV)
theorem WkR.same {H H' : Hp} {t : Addr} {e : Str × List (Str × Int)} (h : Same H H') (w : WkR K H t e) : WkR K H' t e := by
  obtain ⟨q, b, c⟩ := w
  exact ⟨q, h.tup b, c.same h⟩
structure WOk (wk : Wk Str) : Prop where
  nd : (wk.map (·.1)).Nodup
  len : wk.length ≤ 10
  ties : TiesOk wk
  lo : ∀ e ∈ wk, ∀ t ∈ e.2, 0 ≤ t.2 ∧ t.2 ≤ 1000000000
  tl : ∀ e ∈ wk, e.2.length ≤ 1000
def LvAt (H : Hp) (t : Addr) (lv : Lv Str) : Prop := H t = some (.dK (kI lv))
def spLevels (K : PySem.W.Frag) (n : Nat) : Sp := fun vs H Q _ => ∃ (r d : Addr) (at_ : Nat) (ts : List Addr) (wk : Wk Str) (lv : Lv Str), vs = [.ref r, .int at_, .ref d, .int 0] ∧ SqL K H r (ts.map V.ref) ∧ Al (WkR K H) ts wk ∧ WOk wk ∧ wk.length = at_ + n ∧ H d = some (.dK (kI lv)) ∧ lv.map (·.1) = (wk.take at_).map (·.1) ∧
  ∀ p ds H', Same H H' → H p = none → H' p = some (.lst (ds.map V.ref)) → Al (LvAt H') ds (levelsM (wk.drop at_) lv) → Q (.ref p) H'
theorem ok_levels (T : Tx K mg) : ∀ n : Nat, DefOk P w K mg base (n + 2) (He.ga K "levels") ["row", "at", "level", "spare"] [] (spLevels K n) := by
  intro n
  induction n with
  | zero =>
    have D_choices := ok_choices (P := P) (w := w) (base := base) T
    refine defOk T.f_levels sc_levels (fun _ _ _ _ _ _ us hl => match us, hl with | [_, _, _, _], _ => rfl) (fun vs H Q E h => by obtain ⟨_, _, _, _, _, _, rfl, _⟩ := h; rfl) fun cdv A outer s H vs Q E hr h => ?_
    obtain ⟨r, d, at_, ts, wk, lv, rfl, hr0, hw, hW, hlen, hd, hk, hQ⟩ := h
    have hwl := hw.length
    refine ⟨_, ((pss_cons (ps_if (pt_cmpR op_eq (pv 1) (pe_callB call_len_seq (by rfl) T.b_len (by decide +kernel) (pa_cons (pv 0) pa_nil)) (nomark _))
 (pss_one (ps_ret (pe_lst (pa_cons (pv 2) pa_nil)))) pss_nil)
 (pss_cons (ps_asg (pe_ix (ix_listK K) (pv 0) (pv 1) (fun _ _ => rfl)) (pg_tup rfl (pgs_cons (pg_name (i := 4) sc_levels.nd rfl (.inl rfl) (.inl rfl)) (pgs_cons (pg_name (i := 5) sc_levels.nd rfl (.inl rfl) (.inl rfl)) pgs_nil))))
 (pss_cons (ps_if (pt_cmpR op_eq (pe_callB call_len_seq (by rfl) T.b_len (by decide +kernel) (pa_cons (pv 5) pa_nil)) pe_int (nomark _))
 (pss_one (ps_ret pe_never)) pss_nil)
 (pss_cons (ps_set (i := 6) sc_levels.nd rfl (.inl rfl) (pe_lst pa_nil))
 (pss_cons (ps_for PassesOwn.never rfl (pi_listK K (pe_callD D_choices hr rfl T.g_choices (pa_cons (pv 5) (pa_cons (pv 2) (pa_cons (pv 3) pa_nil))))) (pg_tup rfl (pgs_cons (pg_name (i := 7) sc_levels.nd rfl (.inl rfl) (.inl rfl)) (pgs_cons (pg_name (i := 8) sc_levels.nd rfl (.inl rfl) (.inl rfl)) pgs_nil)))
 (pss_one (ps_set (i := 6) sc_levels.nd rfl (.inl rfl) (pe_op op_cat (pv 6) pe_never))))
 (pss_one (ps_ret (pv 6))))))))), ?_⟩
    refine ⟨_, rfl, _, rfl, r, _, rfl, .inl hr0, rfl, _, rfl, ite2 (fun h => ?_) fun h => ?_⟩
    · refine ⟨_, rfl, by show 1 ≤ sizeLine; decide, fun p np => ?_⟩
      have e1 := L2.Same.new np (o := .lst [V.ref d])
      refine hQ p [d] _ e1 np upd_same ?_
      rw [List.drop_of_length_le (by omega)]
      exact ⟨e1 _ _ hd, trivial⟩
    · refine absurd (decide_eq_true ?_) h
      congr 1
      rw [List.length_map]
      omega
  | succ n ih =>
  have D_levels := ih
  have D_choices := ok_choices (P := P) (w := w) (base := base) T
  refine defOk T.f_levels sc_levels (fun _ _ _ _ _ _ us hl => match us, hl with | [_, _, _, _], _ => rfl) (fun vs H Q E h => by obtain ⟨_, _, _, _, _, _, rfl, _⟩ := h; rfl) fun cdv A outer s H vs Q E hr h => ?_
  obtain ⟨r, d, at_, ts, wk, lv, rfl, hr0, hw, hW, hlen, hd, hk, hQ⟩ := h
  have hwl := hw.length
  refine ⟨_, ((pss_cons (ps_if (pt_cmpR op_eq (pv 1) (pe_callB call_len_seq (by rfl) T.b_len (by decide +kernel) (pa_cons (pv 0) pa_nil)) (nomark _))
 (pss_one (ps_ret (pe_lst (pa_cons (pv 2) pa_nil)))) pss_nil)
 (pss_cons (ps_asg (pe_ix (ix_listK K) (pv 0) (pv 1) (fun _ _ => rfl)) (pg_tup rfl (pgs_cons (pg_name (i := 4) sc_levels.nd rfl (.inl rfl) (.inl rfl)) (pgs_cons (pg_name (i := 5) sc_levels.nd rfl (.inl rfl) (.inl rfl)) pgs_nil))))
 (pss_cons (ps_if (pt_cmpR op_eq (pe_callB call_len_seq (by rfl) T.b_len (by decide +kernel) (pa_cons (pv 5) pa_nil)) pe_int (nomark _))
 (pss_one (ps_ret (pe_callD D_levels hr rfl T.g_levels (pa_cons (pv 0) (pa_cons (pe_op op_add (pv 1) pe_int) (pa_cons (pe_starK (pv 2) (pv 4) pe_int) (pa_cons (pv 3) pa_nil))))))) pss_nil)
 (pss_cons (ps_set (i := 6) sc_levels.nd rfl (.inl rfl) (pe_lst pa_nil))
 (pss_cons (ps_for PassesOwn.never rfl (pi_listK K (pe_callD D_choices hr rfl T.g_choices (pa_cons (pv 5) (pa_cons (pv 2) (pa_cons (pv 3) pa_nil))))) (pg_tup rfl (pgs_cons (pg_name (i := 7) sc_levels.nd rfl (.inl rfl) (.inl rfl)) (pgs_cons (pg_name (i := 8) sc_levels.nd rfl (.inl rfl) (.inl rfl)) pgs_nil)))
 (pss_one (ps_set (i := 6) sc_levels.nd rfl (.inl rfl) (pe_op op_cat (pv 6) (pe_callD D_levels hr rfl T.g_levels (pa_cons (pv 0) (pa_cons (pe_op op_add (pv 1) pe_int) (pa_cons (pe_starK (pv 2) (pv 4) (pv 7)) (pa_cons (pe_op op_sub (pv 3) (pv 8)) pa_nil)))))))))
 (pss_one (ps_ret (pv 6))))))))), ?_⟩
  refine ⟨_, rfl, _, rfl, r, _, rfl, .inl hr0, rfl, _, rfl, ite2 (fun h => ?_) fun _ => ?_⟩
  · have := V.int.inj (of_decide_eq_true h)
    rw [List.length_map] at this
    omega
  have hat : at_ < wk.length := by omega
  obtain ⟨t, ht, hWt⟩ := hw.getR (List.getElem?_eq_getElem hat)
  have hdrop : wk.drop at_ = wk[at_] :: wk.drop (at_ + 1) := List.drop_eq_getElem_cons hat
  have hmem : wk[at_] ∈ wk := List.getElem_mem hat
  have hties := hW.ties at_ _ (List.getElem?_eq_getElem hat)
  have hlo := hW.lo _ hmem
  have htl := hW.tl _ hmem
  have htake : wk.take (at_ + 1) = wk.take at_ ++ [wk[at_]] := take_s (List.getElem?_eq_getElem hat)
  have hnew : wk[at_].1 ∉ lv.map (·.1) := by
    rw [hk]
    intro q
    have h1 : ((wk.take (at_ + 1)).map (·.1)).Nodup := by rw [List.map_take]; exact hW.nd.sublist (List.take_sublist _ _)
    rw [htake, List.map_append, List.nodup_append] at h1
    exact h1.2.2 _ q _ (by simp) rfl
  have hlvn : (lv.map (·.1)).Nodup := by rw [hk, List.map_take]; exact hW.nd.sublist (List.take_sublist _ _)
  have hlvl : lv.length ≤ 1000 := by
    have := congrArg List.length hk
    rw [List.length_map, List.length_map, List.length_take] at this
    have := hW.len
    omega
  have hkeys : ∀ v, (putL lv wk[at_].1 v).map (·.1) = (wk.take (at_ + 1)).map (·.1) := fun v => by
    rw [putL_keys lv _ v hnew, htake, List.map_append, List.map_append, hk]
    rfl
  generalize wk[at_] = e at *
  obtain ⟨x, ties⟩ := e
  obtain ⟨q, hqt, hql⟩ := hWt
  refine ⟨_, rfl, _, rfl, r, _, (at_ : Nat), .ref t, rfl, rfl, hr0, at_of rfl (by rw [List.getElem?_map, ht]; rfl), g2 hqt ?_⟩
  obtain ⟨us, hqs, hqu⟩ := id hql
  have hul := hqu.length
  rw [List.length_map] at hul
  have hul' : us.length = ties.length := hul
  have e1 : (((at_ : Nat) : Int) + 1) = ((at_ + 1 : Nat) : Int) := by omega
  refine ⟨_, rfl, q, _, rfl, .inl hqs, rfl, _, rfl, ite2 (fun h => ?_) fun h => ?_⟩
  · have h0 := V.int.inj (of_decide_eq_true h)
    rw [List.length_map] at h0
    have : ties = [] := List.length_eq_zero_iff.mp (by show ties.length = 0; omega)
    subst this
    refine ⟨_, rfl, _, rfl, _, _, rfl, rfl, star_read (lv := lv) (v := 0) rfl rfl (fun _ _ q => q) hd hlvn hlvl fun p H1 e2 np hp => ⟨_, rfl, ?_⟩⟩
    refine ⟨r, p, at_ + 1, ts, wk, putL lv x 0, rfl, e2.seq hr0, hw.imp fun _ _ _ z => z.same e2, hW, by omega, hp, hkeys 0, fun p2 ds H2 e3 np2 hp2 hds => ?_⟩
    refine hQ p2 ds H2 (e2.trans e3) (e2.free np2) hp2 ?_
    rw [hdrop]
    exact hds
  · cases ties with
    | nil =>
      refine absurd (decide_eq_true ?_) h
      have : us.length = 0 := hul'
      rw [List.length_map, this]
      rfl
    | cons t0 tr =>
    refine ⟨Nat.zero_le _, fun p np => ?_⟩
    have e2 := L2.Same.new np (o := .lst [])
    have hp2 : upd H p (.lst []) p = some (.lst []) := upd_same
    generalize upd H p (.lst []) = H2 at e2 hp2 ⊢
    refine ⟨_, rfl, _, rfl, _, rfl, q, d, t0 :: tr, lv, rfl, hql.same e2, by simp, e2 _ _ hd, fun t1 h1 => ⟨by rw [hk]; exact hties t1 h1, hlo t1 h1⟩, htl, fun u H3 e3 nu N => ?_⟩
    obtain ⟨cs, hcs, hct⟩ := N
    refine ⟨u, rfl, ⟨_, SqL.of hcs⟩, ?_⟩
    have hup : ∀ pf, H pf = none → True := fun _ _ => trivial
    refine for_tups (ts := cs) (rs := (choicesM (t0 :: tr) lv).map fun q => [.int q, .int 0]) (fun i σ H' => (∃ c7 c8 pf ds, σ = [some (.ref r), some (.int at_), some (.ref d), some (.int 0), some (.str x), some (.ref q), some (.ref pf), c7, c8] ∧ H' pf = some (.lst (ds.map V.ref)) ∧ H pf = none ∧
      Al (LvAt H') ds (((choicesM (t0 :: tr) lv).take i).flatMap fun c => levelsM (wk.drop (at_ + 1)) (putL lv x c))) ∧ Same H H' ∧ H' u = some (.lst (cs.map V.ref)) ∧ Tups K H' cs ((choicesM (t0 :: tr) lv).map fun q => [.int q, .int 0]))
      ⟨⟨_, _, p, [], rfl, e3 _ _ hp2, np, trivial⟩, e2.trans e3, hcs, hct⟩ (fun _ _ _ _ p => ⟨SqL.of p.2.2.1, p.2.2.2⟩) hct.length (fun i t' r' σ H4 hr4 htr hPv => ?_) fun σ H4 hPv => ?_
    · obtain ⟨⟨c7, c8, pf, ds, rfl, hpf, npf, hds⟩, e4, hu4, ht4⟩ := hPv
      obtain ⟨pc, hpc, rfl⟩ := get_map hr4
      refine g2 htr ?_
      refine ⟨_, rfl, _, rfl, _, rfl, _, _, rfl, rfl, star_read (lv := lv) (v := pc) rfl rfl (fun _ _ q => ⟨_, rfl, q⟩) (e4 _ _ hd) hlvn hlvl fun p5 H5 e5 np5 hp5 => ⟨_, rfl, _, rfl, _, _, rfl, rfl, ?_⟩⟩
      refine ⟨r, p5, at_ + 1, ts, wk, putL lv x pc, rfl, (e4.trans e5).seq hr0, hw.imp fun _ _ _ z => z.same (e4.trans e5), hW, by omega, hp5, hkeys pc, fun p6 ds6 H6 e6 np6 hp6 hds6 => ?_⟩
      have e46 := e5.trans e6
      have hsz : ds.length + ds6.length ≤ 10000 := by
        have h1 := hds.length
        have h2 := hds6.length
        have h3 := flatMap_take_len (fun c => levelsM (wk.drop (at_ + 1)) (putL lv x c)) (choicesM (t0 :: tr) lv) i
        have h4 := flatMap_len (f := fun c => levelsM (wk.drop (at_ + 1)) (putL lv x c)) (k := 1024) (choicesM (t0 :: tr) lv) fun c _ => by
          refine Nat.le_trans (levels_len _ _) ?_
          have h5 : (wk.drop (at_ + 1)).length ≤ 10 := by rw [List.length_drop]; have := hW.len; omega
          exact Nat.pow_le_pow_right (n := 2) (by decide) h5
        have h6 := choices_len (t0 :: tr) lv
        have h7 := levels_len (wk.drop (at_ + 1)) (putL lv x pc)
        have h8 : 2 ^ (wk.drop (at_ + 1)).length ≤ 2 ^ 10 := Nat.pow_le_pow_right (by decide) (by rw [List.length_drop]; have := hW.len; omega)
        have h9 : (2 : Nat) ^ 10 = 1024 := by decide
        omega
      refine ⟨pf, p6, _, _, rfl, rfl, e46 _ _ hpf, hp6, by rw [List.length_map, List.length_map, sizeLine_eq]; omega, fun p7 np7 => ?_⟩
      have e7 := L2.Same.new np7 (o := .lst (ds.map V.ref ++ ds6.map V.ref))
      refine ⟨⟨_, _, p7, ds ++ ds6, rfl, by rw [upd_same, List.map_append], (e4.trans e46).free np7, ?_⟩, (e4.trans e46).trans e7, e7 _ _ (e46 _ _ hu4), ht4.same (e46.trans e7)⟩
      rw [take_s hpc, List.flatMap_append]
      have a1 : Al (LvAt (upd H6 p7 (.lst (ds.map V.ref ++ ds6.map V.ref)))) ds _ := hds.imp fun t b _ z => e7 _ _ (e46 _ _ z)
      have a2 : Al (LvAt (upd H6 p7 (.lst (ds.map V.ref ++ ds6.map V.ref)))) ds6 _ := hds6.imp fun t b _ z => e7 _ _ z
      refine a1.append ?_
      rw [List.flatMap_cons, List.flatMap_nil, List.append_nil]
      exact a2
    · obtain ⟨⟨c7, c8, pf, ds, rfl, hpf, npf, hds⟩, e4, hu4, ht4⟩ := hPv
      rw [List.length_map, List.take_length] at hds
      refine ⟨_, rfl, hQ pf ds H4 e4 npf hpf ?_⟩
      rw [hdrop]
      exact hds
end
end FBQ
end
section
set_option Elab.async false
set_option linter.all false
set_option maxRecDepth 100000
set_option maxHeartbeats 1000000
namespace FBQ
open PySem PySem.Spec PyProof.Rows L2 FBR FB
section
variable {K : PySem.W.Frag} {J : It} {n : Nat} {G : Hp → Prop} {Y : Nat → Hp → V → Hp → Prop} {g : TG} {tt : TT} {te : TE} {vs : List Nat} {σ : L2.St} {H1 : Hp} {D : Addr} {Qd : Hp → Prop}
/-- items that are values, the test any -/
theorem lc_opt2 (w : Walk J n G Y) (hD : H1 D = none) (hn : n ≤ 100000) (f : Nat → Option V) (hG : ∀ H, Same H1 H → G H)
    (hs : ∀ i x H H', i < n → Same H1 H → Y i H x H' → ∀ R : L2.St → Hp → Prop, (∀ σ2 H2, wipe σ2 vs = wipe σ vs → Same H H2 → (∀ Q : Bool → Hp → Prop, (∀ H3, Same H2 H3 → (∀ v, f i = some v → ∀ Q : VK, (∀ H4, Same H3 H4 → Q v H4) → te σ2 H3 Q) → Q (f i).isSome H3) → tt σ2 H2 Q) → R σ2 H2) → g x (wipe σ vs) H' R)
    (hd : ∀ H, Same H1 H → H D = some (.lst ((List.range n).filterMap f)) → Qd H) : LcW J g tt te vs σ H1 D Qd := by
  refine lc_it w (fun i H => Same H1 H ∧ H D = some (.lst ((List.range i).filterMap f))) ⟨L2.Same.new hD, upd_same⟩ (fun i H _ p => hG H p.1) (fun i x H H' hi p y => ?_) fun H p => hd H p.1 p.2
  refine hs i x H H' hi p.1 y _ fun σ2 H2 hw e2 q => ⟨hw, q _ fun H3 e3 q3 => ?_⟩
  have hD3 := e3 _ _ (e2 _ _ p.2)
  rw [List.range_succ, List.filterMap_append]
  cases hf : f i with
  | none =>
    refine iteF ⟨(p.1.trans e2).trans e3, ?_⟩
    simp only [List.filterMap_cons, hf, List.filterMap_nil, List.append_nil]
    exact hD3
  | some v =>
    refine iteT (q3 v hf _ fun H4 e4 => ⟨_, e4 _ _ hD3, ?_, L2.Same.mut (((p.1.trans e2).trans e3).trans e4) hD, ?_⟩)
    · have := List.length_filterMap_le f (List.range i)
      rw [List.length_range] at this
      rw [sizeLine_eq]; omega
    · rw [upd_same]
      simp only [List.filterMap_cons, hf, List.filterMap_nil]
/-- items that are new objects -/
theorem lc_objs {β : Type} (R : Hp → Addr → β → Prop) (hR : ∀ H H' t b, Same H H' → R H t b → R H' t b) (hB : ∀ H H' p xs t b, But p H H' → H p = some (.lst xs) → R H t b → R H' t b) (w : Walk J n G Y) (hD : H1 D = none) (hn : n ≤ 100000) (rs : List β) (hr : rs.length = n) (hG : ∀ H, Same H1 H → G H)
    (hs : ∀ i x H H' r, rs[i]? = some r → Same H1 H → Y i H x H' → ∀ Z : L2.St → Hp → Prop, (∀ σ2 H2, wipe σ2 vs = wipe σ vs → Same H H2 → (∀ Q : VK, (∀ t H3, Same H2 H3 → R H3 t r → Q (.ref t) H3) → te σ2 H2 Q) → Z σ2 H2) → g x (wipe σ vs) H' Z)
    (hd : ∀ H ts, Same H1 H → H D = some (.lst (ts.map V.ref)) → Al (R H) ts rs → Qd H) : LcW J g tYes te vs σ H1 D Qd := by
  refine lc_it w (fun i H => Same H1 H ∧ ∃ ts : List Addr, H D = some (.lst (ts.map V.ref)) ∧ Al (R H) ts (rs.take i)) ⟨L2.Same.new hD, [], upd_same, trivial⟩ (fun i H _ p => hG H p.1) (fun i x H H' hi p y => ?_) fun H p => ?_
  · obtain ⟨e, ts, hDs, ht⟩ := p
    have hir : i < rs.length := by omega
    refine hs i x H H' rs[i] (List.getElem?_eq_getElem hir) e y _ fun σ2 H2 q1 q2 q3 => ⟨q1, ?_⟩
    unfold tYes
    dsimp only
    rw [if_pos rfl]
    refine q3 _ fun t H3 e3 h3 => ?_
    have hD3 := e3 _ _ (q2 _ _ hDs)
    have h := ht.length
    rw [List.length_take] at h
    have b : But D H3 (upd H3 D (.lst (ts.map V.ref ++ [.ref t]))) := But.put
    refine ⟨_, hD3, by rw [List.length_map, sizeLine_eq]; omega, L2.Same.mut ((e.trans q2).trans e3) hD, ts ++ [t], by rw [upd_same, List.map_append]; rfl, ?_⟩
    rw [take_s (List.getElem?_eq_getElem hir)]
    exact (ht.imp fun u c _ z => hB _ _ _ _ _ _ b hD3 (hR _ _ _ _ (q2.trans e3) z)).snoc (hB _ _ _ _ _ _ b hD3 h3)
  · obtain ⟨e, ts, hDs, ht⟩ := p
    rw [← hr, List.take_length] at ht
    exact hd H ts e hDs ht
end
section
variable {P : Program} {w : World} {K : PySem.W.Frag} {mg : Str → Option Value} {base : Heap}
theorem BOk.wok {names : List Str} {S : List (Stk Str)} (h : BOk names S) : WOk (orderM names S) := by
  have t := order_tok (names := names) h.ne
  have g := order_good h.ends
  refine ⟨g.1, Nat.le_trans g.len h.len, t.1.ties, fun e he u hu => ?_, fun e he => Nat.le_trans (t.1.of e he).2 (Nat.le_trans h.sl (by decide))⟩
  obtain ⟨s, hs, es⟩ := (t.1.of e he).1 u hu
  rw [es]
  exact h.lo s hs
theorem TunAt.but {H H' : Hp} {p t : Addr} {xs : List V} {lv : Lv Str} (b : But p H H') (hp : H p = some (.lst xs)) (h : TunAt K H t lv) : TunAt K H' t lv := by
  obtain ⟨dx, u, r, h1, h2⟩ := h
  exact ⟨dx, u, r, b _ _ (fun z => by rw [z, hp] at h1; cases h1) h1, TTs.but b (nl hp).1 (nl hp).2 h2⟩
theorem al_mem {β : Type} {R : Addr → β → Prop} : ∀ {ss : List (β × Addr)}, (∀ b ∈ ss, R b.2 b.1) → Al R (ss.map (·.2)) (ss.map (·.1))
  | [], _ => trivial
  | b :: ss, h => ⟨h b List.mem_cons_self, al_mem fun c hc => h c (List.mem_cons_of_mem _ hc)⟩
theorem mem_al {β : Type} {R : Addr → β → Prop} {ts : List Addr} {bs : List β} (h : Al R ts bs) : ∀ b ∈ bs.zip ts, R b.2 b.1 := fun b hb => by
  obtain ⟨i, hi⟩ := List.mem_iff_getElem?.mp hb
  rw [List.getElem?_zip_eq_some] at hi
  obtain ⟨t, ht, hr⟩ := h.getR hi.1
  rw [hi.2] at ht
  cases ht
  exact hr
def rowV (r : List Int) : List V := r.map V.int
def spFound (K : PySem.W.Frag) : Sp := fun vs H Q _ => ∃ x names S np, vs = [.ref x] ∧ BenchAt K H x names S np ∧ BOk names S ∧ ∀ p ts H', Same H H' → H p = none → H' p = some (.lst (ts.map V.ref)) → Al (fun t r => TunAt K H' t (names.zip r)) ts (fitM names S) → Q (.ref p) H'
theorem ok_found (T : Tx K mg) : DefOk P w K mg base 13 (He.ga K "found_fittings") ["bench"] [] (spFound K) := by
  have D_Bench_forks := ok_forks (P := P) (w := w) (base := base) T
  have D_Bench_told := ok_told (P := P) (w := w) (base := base) T
  have D_order_of_walking := ok_order (P := P) (w := w) (base := base) T
  have D_TuningU_initU := ok_tinit (P := P) (w := w) (base := base) T
  obtain ⟨pL, gL, hpL, FL⟩ := T.ex_limit
  have D_Bench_limit := ok_limit (P := P) (w := w) (base := base) T FL
  refine defOk T.f_found_fittings sc_found_fittings (fun _ _ _ _ _ _ us hl => match us, hl with | [_], _ => rfl) (fun vs H Q E h => by obtain ⟨_, _, _, _, rfl, _⟩ := h; rfl) fun cdv A outer s H vs Q E hr h => ?_
  obtain ⟨x, names, S, np, rfl, hB, hO, hQ⟩ := h
  have hW := hO.wok
  have hmemW := (order_tok (names := names) hO.ne).2
  have D_levels : DefOk P w K mg base 12 (He.ga K "levels") ["row", "at", "level", "spare"] [] (spLevels K (orderM names S).length) := (ok_levels T _).mono (by have := hW.len; omega)
  refine ⟨_, ((pss_cons (ps_set (i := 1) sc_found_fittings.nd rfl (.inr rfl) (pe_methD0 (pv 0) T.cl_Bench T.m_Bench_forks D_Bench_forks hr))
 (pss_cons (ps_set (i := 2) sc_found_fittings.nd rfl (.inr rfl) (pe_methD0 (pv 0) T.cl_Bench T.m_Bench_told D_Bench_told hr))
 (pss_cons (ps_set (i := 3) sc_found_fittings.nd rfl (.inl rfl) (pe_callD D_levels hr rfl T.g_levels (pa_cons (pe_callD D_order_of_walking hr rfl T.g_order_of_walking (pa_cons (pv 0) pa_nil)) (pa_cons pe_int (pa_cons (pe_dnewK) (pa_cons (pe_propD (pv 0) T.cl_Bench hpL D_Bench_limit hr) pa_nil))))))
 (pss_cons (ps_set (i := 4) sc_found_fittings.nd rfl (.inl rfl) (pe_callB (cr_sortTups hr.units) (by rfl) T.b_sorted (by decide +kernel) (pa_cons (pe_lc (own := [("level", 5)]) (tt := tYes) rfl sc_found_fittings.nd (pi_listK K (pv 3)) (blkOk_by (own := [("level", 5)]) (N := ["bench", "names", "facts", "found", "rows", "level", "name", "tunings", "row", "tuning", "fact"]) (sc := (defScope s_found_fittings)) (by decide +kernel)) (fun _ _ _ _ _ => (pg_name (i := 5) sc_found_fittings.nd rfl (Or.inr rfl) (.inl rfl))) (fun _ _ _ _ _ => pts_nil) (fun _ _ _ _ _ => (pe_callTy (tuple_ofK K) (by rfl) T.b_tuple (by decide +kernel) (pa_cons (pe_lc (own := [("name", 6)]) (tt := tYes) rfl sc_found_fittings.nd (pi_listK K (pv 1)) (blkOk_by (own := [("name", 6)]) (N := ["bench", "names", "facts", "found", "rows", "level", "name", "tunings", "row", "tuning", "fact"]) rfl) (fun _ _ _ _ _ => (pg_name (i := 6) sc_found_fittings.nd rfl (Or.inl rfl) (.inr rfl))) (fun _ _ _ _ _ => pts_nil) (fun _ _ _ _ _ => (pe_dget (hu_of hr) (pv 5) (pv 6) (fun _ _ => rfl)))) pa_nil)))) pa_nil)))
 (pss_cons (ps_setLc (i := 7) (own := [("row", 8)]) (tt := tYes) rfl sc_found_fittings.nd rfl rfl (sw_true rfl rfl rfl (by decide +kernel)) (pi_listK K (pv 4)) (blkOk_by (own := [("row", 8)]) (N := ["bench", "names", "facts", "found", "rows", "level", "name", "tunings", "row", "tuning", "fact"]) (sc := (defScope s_found_fittings)) (by decide +kernel)) (fun _ _ _ _ _ => (pg_name (i := 8) sc_found_fittings.nd rfl (Or.inl rfl) (.inr rfl))) (fun _ _ _ _ _ => pts_nil) (fun _ _ _ _ _ => (pe_makeD T.mk_Tuning D_TuningU_initU hr rfl T.g_Tuning (pa_cons (pv 1) (pa_cons (pe_callTy (list_ofK K) (by rfl) T.b_list (by decide +kernel) (pa_cons (pv 8) pa_nil)) pa_nil)))))
 (pss_one (ps_ret (pe_lc (own := [("tuning", 9)]) (tt := _) rfl sc_found_fittings.nd (pi_listK K (pv 7)) (blkOk_by (own := [("tuning", 9)]) (N := ["bench", "names", "facts", "found", "rows", "level", "name", "tunings", "row", "tuning", "fact"]) (sc := (defScope s_found_fittings)) (by decide +kernel)) (fun _ _ _ _ _ => (pg_name (i := 9) sc_found_fittings.nd rfl (Or.inr rfl) (.inl rfl))) (fun _ _ _ _ _ => pts_one (pt_val (pe_callB (cr_allK K rfl) (by rfl) T.b_all (by decide +kernel) (pa_cons (pe_lc (own := [("fact", 10)]) (tt := tYes) rfl sc_found_fittings.nd (pi_tupK K (pv 2)) (blkOk_by (own := [("fact", 10)]) (N := ["bench", "names", "facts", "found", "rows", "level", "name", "tunings", "row", "tuning", "fact"]) rfl) (fun _ _ _ _ _ => (pg_name (i := 10) sc_found_fittings.nd rfl (Or.inl rfl) (.inr rfl))) (fun _ _ _ _ _ => pts_nil) (fun _ _ _ _ _ => pe_never)) pa_nil)))) (fun _ _ _ _ _ => (pv 9))))))))))), ?_⟩
  obtain ⟨dx, _, _, _, _, _, _, _, hx, _⟩ := id hB
  refine ⟨_, rfl, x, dx, _, rfl, hx, rfl, x, names, S, np, rfl, hB, fun nm H1 e1 nnm hnm => ?_⟩
  have hB1 := hB.same e1
  refine ⟨_, rfl, x, dx, _, rfl, e1 _ _ hx, rfl, x, names, S, np, rfl, hB1, fun fa hfa => ?_⟩
  refine ⟨_, rfl, x, names, S, np, rfl, hB1, hO, fun ow ts H2 e2 now how hts d nd => ?_⟩
  have e3 := L2.Same.new nd (o := .dK [])
  have hd3 : upd H2 d (.dK []) d = some (.dK []) := upd_same
  generalize upd H2 d (.dK []) = H3 at e3 hd3 ⊢
  have e13 := (e1.trans e2).trans e3
  have hB3 := hB.same e13
  have hn3 := e3 _ _ (e2 _ _ hnm)
  refine ⟨_, rfl, x, dx, _, rfl, e13 _ _ hx, x, names, S, np, rfl, hB3, ?_⟩
  refine ⟨ow, d, 0, ts, orderM names S, [], rfl, e3.seq (SqL.of how), hts.imp fun t e _ z => (by obtain ⟨q, _, a, b⟩ := z; exact ⟨q, e3.tup a, b.same e3⟩), hW, by rw [Nat.zero_add], hd3, rfl, fun lf ds H4 e4 nlf hlf hds => ?_⟩
  rw [List.drop_zero] at hds
  have e14 := e13.trans e4
  have hn4 := e4 _ _ hn3
  have hkeys : ∀ l ∈ levelsM (orderM names S) [], ∀ z ∈ names, z ∈ l.map (·.1) := fun l hl z hz => by
    rw [levels_keys (orderM names S) [] (by simpa using hW.nd) l hl]
    simpa using hmemW z hz
  have hll : (levelsM (orderM names S) []).length ≤ 1024 := by
    refine Nat.le_trans (levels_len _ _) ?_
    exact Nat.pow_le_pow_right (n := 2) (by decide) hW.len
  have hdl := hds.length
  -- the rows
  refine ⟨_, rfl, lf, rfl, ⟨_, SqL.of hlf⟩, fun D hD => ?_⟩
  refine lc_objs (β := List Int) (fun H t r => SqT K H t (rowV r)) (fun H H' t b e z => e.tup z) (fun H H' p xs t b e hp z => e.tup (nl hp).1 (nl hp).2 z) (walk_list (xs := ds.map V.ref)) hD (by rw [List.length_map]; omega) (rawM names S) (by unfold rawM; rw [List.length_map, List.length_map, hdl]) (fun H5 e5 => SqL.of (e5 _ _ hlf)) (fun i y H5 H6 r hr5 e5 hy Z hZ => ?_) fun H5 rs e5 hD5 hrs => ?_
  · obtain ⟨rfl, hy⟩ := hy
    obtain ⟨t, ht, rfl⟩ := get_map hy
    obtain ⟨lv, hlv, hat⟩ := hds.get ht
    have hr' : r = names.map (getL lv) := by
      unfold rawM at hr5
      rw [List.getElem?_map, hlv] at hr5
      exact (Option.some.inj hr5).symm
    refine hZ _ _ rfl (L2.Same.refl _) fun Q q => ?_
    refine ⟨_, rfl, nm, rfl, ⟨_, SqL.of (e5 _ _ hn4)⟩, fun D2 hD2 => ?_⟩
    refine lc_opt (walk_list (xs := names.map V.str)) hD2 (by rw [List.length_map]; have := hO.len; omega) (fun i => names[i]?.map fun z => V.int (getL lv z)) (fun H7 e7 => SqL.of (e7 _ _ (e5 _ _ hn4))) (fun i y H7 H8 hi e7 hy => ?_) tm_yes gm_name fun H7 e7 hD7 => ?_
    · obtain ⟨rfl, hy⟩ := hy
      obtain ⟨z, hz, rfl⟩ := get_map hy
      have hzl := hkeys lv (List.mem_of_getElem? hlv) z (List.mem_of_getElem? hz)
      refine ⟨rfl, L2.Same.refl _, L2.Same.refl _, by rw [hz]; rfl, fun v hv Q q => ⟨_, rfl, _, rfl, t, v, rfl, .inl ⟨kI lv, .inr z, .inl (e7 _ _ (e5 _ _ hat)), rfl, ?_⟩, q _ (L2.Same.refl _)⟩⟩
      rw [kI_get hzl, ← hv, hz]
      rfl
    · rw [range_all names _ (by rw [List.length_map]; exact Nat.le_refl _)] at hD7
      refine ⟨D2, _, rfl, .inl ⟨SqL.of hD7, fun l nl => q l _ (e7.trans (L2.Same.new nl)) (SqT.of ?_)⟩⟩
      rw [upd_same, hr']
      unfold rowV
      rw [List.map_map]
      rfl
  -- sorted
  have hrl := hrs.length
  have hrawl : (rawM names S).length ≤ 1024 := by unfold rawM; rw [List.length_map]; exact hll
  have hbs2 : ((rawM names S).zip rs).map (·.2) = rs := List.map_snd_zip (Nat.le_of_eq hrl)
  have hbs1 : ((rawM names S).zip rs).map (·.1) = rawM names S := List.map_fst_zip (Nat.le_of_eq hrl.symm)
  have hmem := mem_al hrs
  refine ⟨D, (rawM names S).zip rs, rfl, SqL.of ?_, fun b hb => ⟨fun _ => ?_, hmem b hb⟩, fun p np => ?_⟩
  · rw [hD5, show ((rawM names S).zip rs).map (fun b => V.ref b.2) = (((rawM names S).zip rs).map (·.2)).map V.ref by rw [List.map_map]; rfl, hbs2]
  · have := (List.of_mem_zip hb).1
    unfold rawM at this
    obtain ⟨l, _, e⟩ := List.mem_map.mp this
    rw [← e]
    intro z
    exact hO.pos (List.map_eq_nil_iff.mp z)
  have hfit : (((rawM names S).zip rs).mergeSort leR).map (·.1) = fitM names S := by
    unfold fitM
    rw [List.map_mergeSort (r := leR) (s := rowLe) (f := fun b : List Int × Addr => b.1) (fun a _ b _ => rfl), hbs1]
  have hal : Al (fun t r => SqT K H5 t (rowV r)) ((((rawM names S).zip rs).mergeSort leR).map (·.2)) (fitM names S) := by
    rw [← hfit]
    exact al_mem fun b hb => hmem b ((List.mergeSort_perm _ _).mem_iff.mp hb)
  have hssl : (((rawM names S).zip rs).mergeSort leR).map (fun b => V.ref b.2) = ((((rawM names S).zip rs).mergeSort leR).map (·.2)).map V.ref := by rw [List.map_map]; rfl
  rw [hssl]
  generalize (((rawM names S).zip rs).mergeSort leR).map (·.2) = us at hal ⊢
  have e6 := L2.Same.new np (o := .lst (us.map V.ref))
  have hp6 : upd H5 p (.lst (us.map V.ref)) p = some (.lst (us.map V.ref)) := upd_same
  generalize upd H5 p (.lst (us.map V.ref)) = H6 at e6 hp6 ⊢
  have hal6 : Al (fun t r => SqT K H6 t (rowV r)) us (fitM names S) := hal.imp fun _ _ _ z => e6.tup z
  have hfl : (fitM names S).length ≤ 1024 := by unfold fitM; rw [List.length_mergeSort]; exact hrawl
  have hul := hal.length
  have hn6 := e6 _ _ (e5 _ _ hn4)
  have e16 := (e14.trans e5).trans e6
  have hfitr : ∀ r ∈ fitM names S, r.length = names.length := fun r hr => by
    unfold fitM at hr
    have hr := (List.mergeSort_perm _ _).mem_iff.mp hr
    unfold rawM at hr
    obtain ⟨l, _, e⟩ := List.mem_map.mp hr
    rw [← e, List.length_map]
  -- the tunings
  refine ⟨_, rfl, p, rfl, ⟨_, SqL.of hp6⟩, fun D3 hD3 => ?_⟩
  refine lc_objs (β := List Int) (fun H t r => TunAt K H t (names.zip r)) (fun H H' t b e z => z.same e) (fun H H' p xs t b e hp z => z.but e hp) (walk_list (xs := us.map V.ref)) hD3 (by rw [List.length_map]; omega) (fitM names S) (by rw [List.length_map]; omega) (fun H7 e7 => SqL.of (e7 _ _ hp6)) (fun i y H7 H8 r hr7 e7 hy Z hZ => ?_) fun H7 tt7 e7 hD7 htt => ?_
  · obtain ⟨rfl, hy⟩ := hy
    obtain ⟨t, ht, rfl⟩ := get_map hy
    obtain ⟨r', hr', hat⟩ := hal6.get ht
    rw [hr7] at hr'
    cases hr'
    have hrl := hfitr r (List.mem_of_getElem? hr7)
    refine hZ _ _ rfl (L2.Same.refl _) fun Q q => ?_
    refine ⟨_, rfl, _, rfl, t, rowV r, rfl, .inr (e7.tup hat), fun l nl => ?_⟩
    have e8 := L2.Same.new nl (o := .lst (rowV r))
    intro x2 dx2 nx2 ndx2 ne2
    have hne : ∀ {b o}, upd H8 l (.lst (rowV r)) b = some o → b ≠ x2 ∧ b ≠ dx2 := fun h => ⟨ne_of_none h nx2, ne_of_none h ndx2⟩
    have hn8 := e8 _ _ (e7 _ _ hn6)
    refine ⟨x2, nm, l, dx2, names, r, rfl, upd_same, SqL.of ?_, SqL.of ?_, hrl.symm, by have := hO.len; omega, hO.nd, hO.ok, fun H9 b9 t9 => ⟨rfl, q x2 H9 (e8.trans (L2.Same.made nx2 ndx2 fun b o hb n => b9 b o n hb)) t9⟩⟩
    · rw [upd_ne (hne hn8).1, upd_ne (hne hn8).2, hn8]
    · have : upd H8 l (.lst (rowV r)) l = some (.lst (rowV r)) := upd_same
      rw [upd_ne (hne this).1, upd_ne (hne this).2, this]
      rfl
  -- all are kept
  have htl := htt.length
  have hfa7 : SqT K H7 fa [] := e7.tup ((((((e2.trans e3).trans e4).trans e5).trans e6)).tup hfa)
  refine ⟨_, rfl, D3, rfl, ⟨_, SqL.of hD7⟩, fun D4 hD4 => ?_⟩
  refine lc_opt2 (walk_list (xs := tt7.map V.ref)) hD4 (by rw [List.length_map]; omega) (fun i => tt7[i]?.map V.ref) (fun H8 e8 => SqL.of (e8 _ _ hD7)) (fun i y H8 H9 hi e8 hy R hR => ?_) fun H8 e8 hD8 => ?_
  · obtain ⟨rfl, hy⟩ := hy
    obtain ⟨t, ht, rfl⟩ := get_map hy
    refine hR _ _ rfl (L2.Same.refl _) fun Q q => ?_
    refine ⟨_, rfl, fa, rfl, ⟨[], e8.tup hfa7⟩, fun D5 hD5 => ?_⟩
    refine lc_opt (te := fun _ _ _ => False) (walk_tup (xs := [])) hD5 (by decide) (fun _ => none) (fun H' e => (e8.trans e).tup hfa7) (fun i x H H' hi _ _ => absurd hi (Nat.not_lt_zero _)) tm_yes gm_name fun H' e9 hD9 => ?_
    refine ⟨D5, [], rfl, SqL.of hD9, true, rfl, ?_⟩
    have hq := q H' e9 fun v hv Q2 q2 => ⟨_, rfl, ?_⟩
    · rw [ht] at hq
      exact hq
    · rw [ht] at hv
      cases hv
      exact q2 _ (L2.Same.refl _)
  · rw [range_all tt7 _ (by rw [List.length_map]; exact Nat.le_refl _)] at hD8
    exact hQ D4 tt7 H8 ((e16.trans e7).trans e8) ((e16.trans e7).free hD4) hD8 (htt.imp fun _ _ _ z => z.same e8)
end
end FBQ
end
section
set_option Elab.async false
set_option linter.all false
set_option maxRecDepth 100000
set_option maxHeartbeats 1000000
namespace FBQ
open PySem PySem.Spec PyProof.Rows L2 FBR FB
section
variable {P : Program} {w : World} {K : PySem.W.Frag} {mg : Str → Option Value} {base : Heap}
def spCount (K : PySem.W.Frag) : Sp := fun vs H Q _ => ∃ x names S np, vs = [.ref x] ∧ BenchAt K H x names S np ∧ BOk names S ∧ ∀ H', Same H H' → Q (.int (fitM names S).length) H'
theorem ok_count (T : Tx K mg) : DefOk P w K mg base 14 (He.ga K "count_fittings") ["bench"] [] (spCount K) := by
  have D_found_fittings := ok_found (P := P) (w := w) (base := base) T
  refine defOk T.f_count_fittings sc_count_fittings (fun _ _ _ _ _ _ us hl => match us, hl with | [_], _ => rfl) (fun vs H Q E h => by obtain ⟨_, _, _, _, rfl, _⟩ := h; rfl) fun cdv A outer s H vs Q E hr h => ?_
  obtain ⟨x, names, S, np, rfl, hB, hO, hQ⟩ := h
  refine ⟨_, ((pss_one (ps_ret (pe_callB call_len_seq (by rfl) T.b_len (by decide +kernel) (pa_cons (pe_callD D_found_fittings hr rfl T.g_found_fittings (pa_cons (pv 0) pa_nil)) pa_nil))))), ?_⟩
  refine ⟨_, rfl, x, names, S, np, rfl, hB, hO, fun p ts H1 e1 np1 hp hts => ⟨p, _, rfl, .inl (SqL.of hp), ?_⟩⟩
  rw [List.length_map, hts.length]
  exact hQ H1 e1
theorem ok_some (T : Tx K mg) : DefOk P w K mg base 14 (He.ga K "some_fittings") ["bench"] [] (fun vs H Q E => ∃ x names S np, vs = [.ref x] ∧ BenchAt K H x names S np ∧ BOk names S ∧ fitM names S ≠ [] ∧ ∀ p ts H', Same H H' → H p = none → H' p = some (.lst (ts.map V.ref)) → Al (fun t r => TunAt K H' t (names.zip r)) ts (fitM names S) → Q (.ref p) H') := by
  have D_found_fittings := ok_found (P := P) (w := w) (base := base) T
  refine defOk T.f_some_fittings sc_some_fittings (fun _ _ _ _ _ _ us hl => match us, hl with | [_], _ => rfl) (fun vs H Q E h => by obtain ⟨_, _, _, _, rfl, _⟩ := h; rfl) fun cdv A outer s H vs Q E hr h => ?_
  obtain ⟨x, names, S, np, rfl, hB, hO, hne, hQ⟩ := h
  refine ⟨_, ((pss_cons (ps_set (i := 1) sc_some_fittings.nd rfl (.inl rfl) (pe_callD D_found_fittings hr rfl T.g_found_fittings (pa_cons (pv 0) pa_nil)))
 (pss_cons (ps_if (pt_cmpR op_eq (pe_callB call_len_seq (by rfl) T.b_len (by decide +kernel) (pa_cons (pv 1) pa_nil)) pe_int (nomark _))
 (pss_one ps_never) pss_nil)
 (pss_one (ps_ret (pv 1)))))), ?_⟩
  refine ⟨_, rfl, x, names, S, np, rfl, hB, hO, fun p ts H1 e1 np1 hp hts => ?_⟩
  refine ⟨_, rfl, p, _, rfl, .inl (SqL.of hp), rfl, _, rfl, ite2 (fun h => ?_) fun _ => ?_⟩
  · have := V.int.inj (of_decide_eq_true h)
    rw [List.length_map, hts.length] at this
    exact absurd (List.length_eq_zero_iff.mp (by omega)) hne
  · exact ⟨_, rfl, hQ p ts H1 e1 np1 hp hts⟩
theorem TunAt.but2 {H H' : Hp} {p t : Addr} {lv : Lv Str} (b : But p H H') (hp : ∀ ys, H p ≠ some (.tup ys)) (hf : ∀ o ys, H p ≠ some (.frz o (.tup ys))) (hi : ∀ C dx fs, H p ≠ some (.ins C dx fs)) (h : TunAt K H t lv) : TunAt K H' t lv := by
  obtain ⟨dx, u, r, h1, h2⟩ := h
  exact ⟨dx, u, r, b _ _ (fun z => hi _ _ _ (z ▸ h1)) h1, TTs.but b hp hf h2⟩
def keyR (r : List Int) : List Key := r.map Sum.inl
theorem keyR_kV (r : List Int) : (keyR r).map kV = r.map V.int := by
  unfold keyR
  rw [List.map_map]
  rfl
theorem keyR_inj {r s : List Int} (h : keyR r = keyR s) : r = s := by
  have := congrArg (List.map fun k : Key => match k with | .inl i => i | .inr _ => 0) h
  simpa [keyR, List.map_map, Function.comp_def] using this
/-- the dict has these rows as keys -/
def KeysAre (kvs : List (List Key × V)) (rows : List (List Int)) : Prop := ∀ r : List Int, (valV kvs (keyR r)).isSome = decide (r ∈ rows)
theorem fit_len {names : List Str} {S : List (Stk Str)} (h : BOk names S) : (fitM names S).length ≤ 1024 := by
  unfold fitM
  rw [List.length_mergeSort]
  unfold rawM
  rw [List.length_map]
  exact Nat.le_trans (levels_len _ _) (Nat.pow_le_pow_right (n := 2) (by decide) h.wok.len)
theorem fit_row {names : List Str} {S : List (Stk Str)} {r : List Int} (hr : r ∈ fitM names S) : r.length = names.length := by
  unfold fitM at hr
  have hr := (List.mergeSort_perm _ _).mem_iff.mp hr
  unfold rawM at hr
  obtain ⟨l, _, e⟩ := List.mem_map.mp hr
  rw [← e, List.length_map]
theorem KeysAre.put {kvs : List (List Key × V)} {rows : List (List Int)} {r : List Int} {v : V} (h : KeysAre kvs rows) : KeysAre (putK kvs (keyR r) v) (rows ++ [r]) := fun s => by
  rw [valV_put]
  by_cases e : s = r
  · subst e
    rw [if_pos rfl]
    simp
  · rw [if_neg fun z => e (keyR_inj z), h s]
    simp [e]
def spShapes (K : PySem.W.Frag) : Sp := fun vs H Q _ => ∃ x names S np, vs = [.ref x] ∧ BenchAt K H x names S np ∧ BOk names S ∧ ∀ p (fs : List V) H', Same H H' → H p = none → H' p = some (.lst fs) → fs.length = shapesM [] (fitM names S) → Q (.ref p) H'
theorem ok_shapes (T : Tx K mg) : DefOk P w K mg base 14 (He.ga K "found_shapes") ["bench"] [] (spShapes K) := by
  have D_found_fittings := ok_found (P := P) (w := w) (base := base) T
  have D_TuningU_negU := ok_tneg (P := P) (w := w) (base := base) T
  have D_Tuning_pitches := ok_pitches (P := P) (w := w) (base := base) T
  refine defOk T.f_found_shapes sc_found_shapes (fun _ _ _ _ _ _ us hl => match us, hl with | [_], _ => rfl) (fun vs H Q E h => by obtain ⟨_, _, _, _, rfl, _⟩ := h; rfl) fun cdv A outer s H vs Q E hr h => ?_
  obtain ⟨x, names, S, np, rfl, hB, hO, hQ⟩ := h
  refine ⟨_, ((pss_cons (ps_set (i := 1) sc_found_shapes.nd rfl (.inl rfl) (pe_lst pa_nil))
 (pss_cons (ps_set (i := 2) sc_found_shapes.nd rfl (.inl rfl) (pe_dnewT))
 (pss_cons (ps_for PassesOwn.never rfl (pi_listK K (pe_callD D_found_fittings hr rfl T.g_found_fittings (pa_cons (pv 0) pa_nil))) (pg_name (i := 3) sc_found_shapes.nd rfl (.inl rfl) (.inl rfl))
 (pss_cons (ps_set (i := 4) sc_found_shapes.nd rfl (.inl rfl) (pe_negD (pv 3) T.m_Tuning___neg__ D_TuningU_negU hr))
 (pss_cons (ps_if (pt_cmp (pc_dnotin (hu_of hr) (pe_methD0 (pv 4) T.cl_Tuning T.m_Tuning_pitches D_Tuning_pitches hr) (pv 2)))
 (pss_one (ps_expr (pe_bm PySem.F.plainAttrs_list PySem.F.slot_list_append PySem.F.type_list_append mt_append (pv 1) (pa_cons (pv 3) pa_nil)))) pss_nil)
 (pss_one (ps_dput (hu_of hr) (pv 2) (pe_methD0 (pv 3) T.cl_Tuning T.m_Tuning_pitches D_Tuning_pitches hr) pe_bl rfl)))))
 (pss_one (ps_ret (pv 1))))))), ?_⟩
  refine ⟨Nat.zero_le _, fun p np1 d nd1 => ?_⟩
  have e2 := (L2.Same.new np1 (o := .lst [])).trans (L2.Same.new nd1 (o := .dT []))
  have hp2 := (L2.Same.new nd1 (o := .dT [])) _ _ (upd_same (H := H) (a := p) (o := .lst []))
  have hd2 : upd (upd H p (.lst [])) d (.dT []) d = some (.dT []) := upd_same
  have fd := (L2.Same.new np1 (o := .lst [])).free nd1
  generalize upd (upd H p (.lst [])) d (.dT []) = H2 at e2 hp2 hd2 ⊢
  refine ⟨_, rfl, x, names, S, np, rfl, hB.same e2, hO, fun l ts H3 e3 nl3 hl3 hts => ⟨l, rfl, ⟨_, SqL.of hl3⟩, ?_⟩⟩
  have hfl := fit_len hO
  have htl := hts.length
  have hpd : p ≠ d := fun z => by rw [z, hd2] at hp2; cases hp2
  have hlp : l ≠ p := (ne_of_none hp2 nl3).symm
  have hld : l ≠ d := (ne_of_none hd2 nl3).symm
  refine for_list (xs := ts.map V.ref) (fun i σ H' => (∃ c3 c4 fs kvs, σ = [some (.ref x), some (.ref p), some (.ref d), c3, c4] ∧ H' p = some (.lst fs) ∧ H' d = some (.dT kvs) ∧ KeysAre kvs ((fitM names S).take i) ∧ kvs.length ≤ i ∧ fs.length ≤ i ∧
      fs.length + shapesM ((fitM names S).take i) ((fitM names S).drop i) = shapesM [] (fitM names S)) ∧ Same H H' ∧ H' l = some (.lst (ts.map V.ref)) ∧ Al (fun t r => TunAt K H' t (names.zip r)) ts (fitM names S) ∧ i ≤ 1024)
    ⟨⟨_, _, [], [], rfl, e3 _ _ hp2, e3 _ _ hd2, fun r => by rfl, Nat.le_refl _, Nat.le_refl _, Nat.zero_add _⟩, e2.trans e3, hl3, hts, Nat.zero_le _⟩ (fun i σ H' _ p => SqL.of p.2.2.1) (fun i y σ H4 hi hPv => ?_) fun σ H4 hPv => ?_
  · obtain ⟨⟨c3, c4, fs, kvs, rfl, hp4, hd4, hk4, hkl, hfl4, hsum⟩, e4, hl4, ht4, hi4⟩ := hPv
    obtain ⟨t, ht, rfl⟩ := get_map hi
    obtain ⟨r, hr4, htun⟩ := ht4.get ht
    have hrl := fit_row (List.mem_of_getElem? hr4)
    have hzl : (names.zip r).map (·.1) = names := List.map_fst_zip (Nat.le_of_eq hrl.symm)
    have hzr : (names.zip r).map (·.2) = r := List.map_snd_zip (Nat.le_of_eq hrl)
    have hzz : (names.zip r).length ≤ 1000 := by rw [List.length_zip]; have := hO.len; omega
    have hil : i < (fitM names S).length := (List.getElem?_eq_some_iff.mp hr4).1
    obtain ⟨dx, _, _, hxt, _⟩ := id htun
    refine ⟨_, rfl, t, dx, _, rfl, hxt, t, names.zip r, rfl, htun, by rw [hzl]; exact hO.nd, hzz, by rw [hzl]; exact hO.ok, fun u H5 e5 nu hu => ?_⟩
    obtain ⟨dxu, _, _, hxu, _⟩ := id hu
    have hnl : (negL (names.zip r)).length ≤ 1000 := by unfold negL; rw [List.length_map]; exact hzz
    refine ⟨_, rfl, u, dxu, _, rfl, hxu, rfl, u, negL (names.zip r), rfl, hu, hnl, fun v H6 e6 nv hv => ?_⟩
    have ekey : (negL (names.zip r)).map (fun q => V.int q.2) = (keyR (r.map fun z => -z)).map kV := by
      rw [keyR_kV]
      unfold negL
      rw [List.map_map, List.map_map]
      have : (fun q : Str × Int => V.int q.2) ∘ (fun q : Str × Int => (q.1, -q.2)) = (V.int ∘ fun z : Int => -z) ∘ fun q : Str × Int => q.2 := rfl
      rw [this, ← List.map_map, hzr]
    rw [ekey] at hv
    have e46 := e5.trans e6
    have hd6 := e46 _ _ hd4
    refine ⟨_, rfl, d, _, rfl, DGet.t hd6 hv, _, rfl, ?_⟩
    rw [hk4]
    -- the store at the end
    have fin : ∀ (H7 : Hp) (fs7 : List V), But p H6 H7 → H7 p = some (.lst fs7) → fs7.length ≤ i + 1 → fs7.length + shapesM ((fitM names S).take (i + 1)) ((fitM names S).drop (i + 1)) = shapesM [] (fitM names S) → ∀ D : Ends,
        (∀ H', ((∃ c3 c4 fs kvs, [some (V.ref x), some (.ref p), some (.ref d), some (.ref t), some (.ref u)] = [some (V.ref x), some (.ref p), some (.ref d), c3, c4] ∧ H' p = some (.lst fs) ∧ H' d = some (.dT kvs) ∧ KeysAre kvs ((fitM names S).take (i + 1)) ∧ kvs.length ≤ i + 1 ∧ fs.length ≤ i + 1 ∧
      fs.length + shapesM ((fitM names S).take (i + 1)) ((fitM names S).drop (i + 1)) = shapesM [] (fitM names S)) ∧ Same H H' ∧ H' l = some (.lst (ts.map V.ref)) ∧ Al (fun t r => TunAt K H' t (names.zip r)) ts (fitM names S) ∧ i + 1 ≤ 1024) → D.nx [some (.ref x), some (.ref p), some (.ref d), some (.ref t), some (.ref u)] H') →
        sDPut (tVar 2) (tMeth (He.ga K "Tuning") "pitches" (spTpitches K) [] E0 (tVar 3) tNil) (tC (.bl true)) D [some (.ref x), some (.ref p), some (.ref d), some (.ref t), some (.ref u)] H7 := by
      intro H7 fs7 b7 hp7 hf7 hs7 D hD
      have hp6 := e46 _ _ hp4
      have tr : ∀ {t lv}, TunAt K H4 t lv → TunAt K H7 t lv := fun h => (h.same e46).but b7 hp6
      have htun7 := tr htun
      obtain ⟨dx7, _, _, hx7, _⟩ := id htun7
      refine ⟨_, rfl, _, rfl, t, dx7, _, rfl, hx7, rfl, t, names.zip r, rfl, htun7, hzz, fun a H8 e8 na ha => ?_⟩
      have ek2 : (names.zip r).map (fun q => V.int q.2) = (keyR r).map kV := by
        rw [keyR_kV]
        have : (fun q : Str × Int => V.int q.2) = V.int ∘ fun q : Str × Int => q.2 := rfl
        rw [this, ← List.map_map, hzr]
      rw [ek2] at ha
      have hd7 := b7 _ _ (Ne.symm hpd) hd6
      have hd8 := e8 _ _ hd7
      refine ⟨d, _, rfl, DPut.t hd8 ha (by rw [sizeLine_eq]; omega), hD _ ⟨⟨_, _, fs7, _, rfl, ?_, upd_same, ?_, ?_, hf7, hs7⟩, fun b o hb => ?_, ?_, ?_, by omega⟩⟩
      · rw [upd_ne hpd]; exact e8 _ _ hp7
      · rw [take_s hr4]; exact hk4.put
      · have := length_putK kvs (keyR r) (V.bl true)
        omega
      · have hbp : b ≠ p := fun z => by rw [z, np1] at hb; cases hb
        have hbd : b ≠ d := fun z => by rw [z, fd] at hb; cases hb
        rw [upd_ne hbd]
        exact e8 _ _ (b7 _ _ hbp (e46 _ _ (e4 _ _ hb)))
      · rw [upd_ne hld]
        exact e8 _ _ (b7 _ _ hlp (e46 _ _ hl4))
      · refine ht4.imp fun t r _ h => ((tr h).same e8).but2 But.put (fun ys z => ?_) (fun o ys z => ?_) fun C dx fs z => ?_
        · rw [hd8] at z; cases z
        · rw [hd8] at z; cases z
        · rw [hd8] at z; cases z
    have hstep : shapesM ((fitM names S).take i) ((fitM names S).drop i) = (if r.map (fun z => -z) ∈ (fitM names S).take i then 0 else 1) + shapesM ((fitM names S).take (i + 1)) ((fitM names S).drop (i + 1)) := by
      rw [List.drop_eq_getElem_cons hil, take_s hr4]
      have : (fitM names S)[i] = r := (List.getElem?_eq_some_iff.mp hr4).2
      rw [this]
      rfl
    rw [hstep] at hsum
    have hp6 := e46 _ _ hp4
    by_cases hin : r.map (fun z => -z) ∈ (fitM names S).take i
    · rw [if_pos hin] at hsum
      rw [decide_eq_true hin]
      refine iteF ?_
      refine fin H6 fs (But.of (L2.Same.refl _)) hp6 (by omega) (by omega) _ ?_
      exact fun H' h => h
    · rw [if_neg hin] at hsum
      rw [decide_eq_false hin]
      refine iteT ⟨_, rfl, .inl ⟨rfl, _, SqL.of hp6⟩, _, rfl, p, _, _, rfl, rfl, hp6, by rw [sizeLine_eq]; omega, ?_⟩
      refine fin _ (fs ++ [.ref t]) But.put upd_same (by rw [List.length_append]; show fs.length + 1 ≤ i + 1; omega) (by rw [List.length_append]; show fs.length + 1 + _ = _; omega) _ ?_
      exact fun H' h => h
  · obtain ⟨⟨c3, c4, fs, kvs, rfl, hp4, hd4, hk4, hkl, hfl4, hsum⟩, e4, hl4, ht4, hi4⟩ := hPv
    rw [List.length_map, htl, List.take_length, List.drop_length] at hsum
    exact ⟨_, rfl, hQ p fs H4 e4 np1 hp4 hsum⟩
theorem ok_cshapes (T : Tx K mg) : DefOk P w K mg base 15 (He.ga K "count_shapes") ["bench"] [] (fun vs H Q E => ∃ x names S np, vs = [.ref x] ∧ BenchAt K H x names S np ∧ BOk names S ∧ ∀ H', Same H H' → Q (.int (shapesM [] (fitM names S))) H') := by
  have D_found_shapes := ok_shapes (P := P) (w := w) (base := base) T
  refine defOk T.f_count_shapes sc_count_shapes (fun _ _ _ _ _ _ us hl => match us, hl with | [_], _ => rfl) (fun vs H Q E h => by obtain ⟨_, _, _, _, rfl, _⟩ := h; rfl) fun cdv A outer s H vs Q E hr h => ?_
  obtain ⟨x, names, S, np, rfl, hB, hO, hQ⟩ := h
  refine ⟨_, ((pss_one (ps_ret (pe_callB call_len_seq (by rfl) T.b_len (by decide +kernel) (pa_cons (pe_callD D_found_shapes hr rfl T.g_found_shapes (pa_cons (pv 0) pa_nil)) pa_nil))))), ?_⟩
  refine ⟨_, rfl, x, names, S, np, rfl, hB, hO, fun p fs H1 e1 np1 hp hfs => ⟨p, _, rfl, .inl (SqL.of hp), ?_⟩⟩
  rw [hfs]
  exact hQ H1 e1
end
end FBQ
end
section
set_option Elab.async false
set_option linter.all false
set_option maxRecDepth 100000
set_option maxHeartbeats 1000000
namespace FBQ
open PySem PySem.Spec PyProof.Rows L2 FBR FB
section
variable {P : Program} {w : World} {K : PySem.W.Frag} {mg : Str → Option Value} {base : Heap}
def spReach (K : PySem.W.Frag) : Sp := fun vs H Q _ => ∃ z l S names, vs = [.str z, .ref l] ∧ LTs K H l (S.map sV) ∧ z ∈ names ∧ Ends names S ∧ names.length ≤ 10 ∧ ∀ p H', Same H H' → H p = none → H' p = some (.lst ((reachF S z).map V.str)) → Q (.ref p) H'
theorem ok_reach (T : Tx K mg) : DefOk P w K mg base 1 (He.ga K "reached_from") ["start", "strikes"] [] (spReach K) := by
  refine defOk T.f_reached_from sc_reached_from (fun _ _ _ _ _ _ us hl => match us, hl with | [_, _], _ => rfl) (fun vs H Q E h => by obtain ⟨_, _, _, _, rfl, _⟩ := h; rfl) fun cdv A outer s H vs Q E hr h => ?_
  obtain ⟨z, l, S, names, rfl, ⟨ts, hl, ht⟩, hz, hS, hn, hQ⟩ := h
  refine ⟨_, ((pss_cons (ps_set (i := 2) sc_reached_from.nd rfl (.inl rfl) (pe_lst (pa_cons (pv 0) pa_nil)))
 (pss_cons (ps_set (i := 3) sc_reached_from.nd rfl (.inl rfl) pe_int)
 (pss_cons (ps_while PassesOwn.never (pt_cmpR op_lt (pv 3) (pe_callB call_len_seq (by rfl) T.b_len (by decide +kernel) (pa_cons (pv 2) pa_nil)) (nomark _))
 (pss_cons (ps_set (i := 4) sc_reached_from.nd rfl (.inl rfl) (pe_ix (ix_listK K) (pv 2) (pv 3) (fun _ _ => rfl)))
 (pss_cons (ps_aug (i := 3) sc_reached_from.nd rfl (.inl rfl) pe_int ip_add)
 (pss_one (ps_for PassesOwn.never rfl (pi_listK K (pv 1)) (pg_tup rfl (pgs_cons (pg_name (i := 5) sc_reached_from.nd rfl (.inl rfl) (.inl rfl)) (pgs_cons (pg_name (i := 6) sc_reached_from.nd rfl (.inl rfl) (.inl rfl)) (pgs_cons (pg_name (i := 7) sc_reached_from.nd rfl (.inl rfl) (.inl rfl)) pgs_nil))))
 (pss_cons (ps_if (PW.pt (pw_and (pt_cmpR op_eq (pv 5) (pv 4) (nomark _)) (pw_and1 (pt_cmpR (op_ninK K) (pv 6) (pv 2) rfl))))
 (pss_one (ps_expr (pe_bm PySem.F.plainAttrs_list PySem.F.slot_list_append PySem.F.type_list_append mt_append (pv 2) (pa_cons (pv 6) pa_nil)))) pss_nil)
 (pss_one (ps_if (PW.pt (pw_and (pt_cmpR op_eq (pv 6) (pv 4) (nomark _)) (pw_and1 (pt_cmpR (op_ninK K) (pv 5) (pv 2) rfl))))
 (pss_one (ps_expr (pe_bm PySem.F.plainAttrs_list PySem.F.slot_list_append PySem.F.type_list_append mt_append (pv 2) (pa_cons (pv 5) pa_nil)))) pss_nil))))))))
 (pss_one (ps_ret (pv 2))))))), ?_⟩
  refine ⟨_, rfl, by show 1 ≤ sizeLine; decide, fun p np => ?_⟩
  have e1 := L2.Same.new np (o := .lst [V.str z])
  generalize hR : reachF S z = R at hQ
  refine ⟨fun m σ H' => ∃ (i k : Nat) (f : List Str) (c4 c5 c6 c7 : Option V), σ = [some (.str z), some (.ref l), some (.ref p), some (.int i), c4, c5, c6, c7] ∧ Same H H' ∧ H' p = some (.lst (f.map V.str)) ∧ RG names f ∧ i ≤ f.length ∧ reachM S k i f = R ∧ k + i = 32 ∧ m = k,
    ⟨32, 0, 32, [z], _, _, _, _, rfl, e1, upd_same, ⟨by simp, fun y hy => by simp at hy; rw [hy]; exact hz⟩, Nat.zero_le _, hR, rfl, rfl⟩, ?_⟩
  rintro m σ H1 ⟨i, k, f, c4, c5, c6, c7, rfl, e, hp, g, hi, hk, hki, rfl⟩
  have hfl : f.length ≤ 10 := Nat.le_trans (nodup_len g.1 g.2) hn
  refine ⟨_, rfl, _, rfl, p, _, rfl, .inl (SqL.of hp), _, _, rfl, rfl, _, rfl, iteB (fun hlt => ?_) fun hge => ?_⟩
  · rw [List.length_map] at hlt
    have hil : i < f.length := by omega
    obtain ⟨k', rfl⟩ := Nat.exists_eq_succ_of_ne_zero (show m ≠ 0 by omega)
    have hget : f[i]? = some f[i] := List.getElem?_eq_getElem hil
    have hstep : reachM S k' (i + 1) (reachStep S f[i] f) = R := (reach_some hget).symm.trans hk
    generalize f[i] = h at hget hstep
    refine ⟨fun σ' H' => ∃ m' < k' + 1, ∃ (i k : Nat) (f : List Str) (c4 c5 c6 c7 : Option V), σ' = [some (.str z), some (.ref l), some (.ref p), some (.int i), c4, c5, c6, c7] ∧ Same H H' ∧ H' p = some (.lst (f.map V.str)) ∧ RG names f ∧ i ≤ f.length ∧ reachM S k i f = R ∧ k + i = 32 ∧ m' = k, fun σ' H' h => let ⟨m', h1, h2⟩ := h; ⟨m', h1, h2⟩, ?_⟩
    refine ⟨_, rfl, _, rfl, p, _, (i : Nat), .str h, rfl, rfl, SqL.of hp, at_of rfl (by rw [List.getElem?_map, hget]; rfl), ?_⟩
    refine ⟨_, rfl, _, _, rfl, rfl, ?_⟩
    refine ⟨_, rfl, l, rfl, ⟨_, e.seq hl⟩, ?_⟩
    have app : ∀ (σ : L2.St) (H2 : Hp) (ix : Nat) (fs : List Str) (y : Str) (Q : VK), σ[2]? = some (some (.ref p)) → σ[ix]? = some (some (.str y)) → H2 p = some (.lst (fs.map V.str)) → fs.length ≤ 100 → (∀ H3, But p H2 H3 → H3 p = some (.lst ((fs ++ [y]).map V.str)) → Q .non H3) →
        tBM K "list" rAppend (tVar 2) (tCons (tVar ix) tNil) σ H2 Q := fun σ H2 ix fs y Q h2 hx hp hf q =>
      ⟨_, h2, .inl ⟨rfl, _, SqL.of hp⟩, _, hx, p, _, _, rfl, rfl, hp, by rw [List.length_map, sizeLine_eq]; omega, q _ But.put (by rw [upd_same, List.map_append]; rfl)⟩
    refine for_tups (ts := ts) (rs := S.map sV) (fun j σ H' => (∃ c5 c6 c7, σ = [some (.str z), some (.ref l), some (.ref p), some (.int (i + 1 : Int)), some (.str h), c5, c6, c7]) ∧ Same H H' ∧ H' p = some (.lst (((S.take j).foldl (reach1 h) f).map V.str)) ∧ RG names ((S.take j).foldl (reach1 h) f) ∧ f.length ≤ ((S.take j).foldl (reach1 h) f).length)
      ⟨⟨_, _, _, rfl⟩, e, hp, g, Nat.le_refl _⟩ (fun j σ H' _ p => ⟨p.2.1.seq hl, ht.same p.2.1⟩) ht.length (fun j t r σ H2 hr2 htr hPv => ?_) fun σ H2 hPv => ?_
    · obtain ⟨⟨d5, d6, d7, rfl⟩, e2, hp2, g2', hfl2⟩ := hPv
      obtain ⟨⟨a, b, c⟩, hq, rfl⟩ := get_map hr2
      have hab := hS _ (List.mem_of_getElem? hq)
      rw [take_s hq, List.foldl_append]
      generalize (S.take j).foldl (reach1 h) f = f2 at hp2 g2' hfl2 ⊢
      have es : [(a, b, c)].foldl (reach1 h) f2 = reach1 h f2 (a, b, c) := rfl
      rw [es]
      have gg := reach1_good (h := h) (t := (a, b, c)) g2' hab
      have hf2 : f2.length ≤ 10 := Nat.le_trans (nodup_len g2'.1 g2'.2) hn
      have bs : ∀ {H3}, But p H2 H3 → Same H H3 := fun b3 b o hb => b3 b o (fun q => by rw [q, np] at hb; cases hb) (e2 b o hb)
      refine g3 htr ?_
      -- the second test
      have snd : ∀ (f3 : List Str) (H3 : Hp), Same H H3 → H3 p = some (.lst (f3.map V.str)) → f3.length ≤ 20 → f3 = (if a = h ∧ b ∉ f2 then f2 ++ [b] else f2) → tIfS (tAnd (tTest (tOp rEq (tVar 6) (tVar 4))) (tTest (tOp (rIn K true) (tVar 5) (tVar 2)))) (tDrop (tBM K "list" rAppend (tVar 2) (tCons (tVar 5) tNil))) tNext
          { nx := fun σ H' => (∃ c5 c6 c7, σ = [some (.str z), some (.ref l), some (.ref p), some (.int (i + 1 : Int)), some (.str h), c5, c6, c7]) ∧ Same H H' ∧ H' p = some (.lst ((reach1 h f2 (a, b, c)).map V.str)) ∧ RG names (reach1 h f2 (a, b, c)) ∧ f.length ≤ (reach1 h f2 (a, b, c)).length, rt := Q }
          [some (.str z), some (.ref l), some (.ref p), some (.int (i + 1 : Int)), some (.str h), some (.str a), some (.str b), some (.int c)] H3 := by
        intro f3 H3 e3 hp3 hl3 ef3
        have er : reach1 h f2 (a, b, c) = if b = h ∧ a ∉ f3 then f3 ++ [a] else f3 := by
          unfold reach1
          dsimp only
          rw [← ef3]
        refine t_eqS rfl rfl (iteB (fun h1 => ?_) fun h1 => ?_)
        · refine t_inS (x := a) (ns := f3) (neg := true) rfl (fun Q q => ⟨_, rfl, q p (.inl (SqL.of hp3))⟩) ?_
          rw [if_pos rfl]
          by_cases h2 : a ∈ f3
          · rw [decide_eq_true h2]
            refine iteF ⟨⟨_, _, _, rfl⟩, e3, ?_, gg.1, Nat.le_trans hfl2 gg.2.1⟩
            rw [er, if_neg fun q => q.2 h2]
            exact hp3
          · rw [decide_eq_false h2]
            refine iteT (app _ _ 5 f3 a _ rfl rfl hp3 (by omega) fun H4 b4 hp4 => ⟨⟨_, _, _, rfl⟩, fun u o hu => b4 u o (fun q => by rw [q, np] at hu; cases hu) (e3 u o hu), ?_, gg.1, Nat.le_trans hfl2 gg.2.1⟩)
            rw [er, if_pos ⟨h1, h2⟩]
            exact hp4
        · refine iteF ⟨⟨_, _, _, rfl⟩, e3, ?_, gg.1, Nat.le_trans hfl2 gg.2.1⟩
          rw [er, if_neg fun q => h1 q.1]
          exact hp3
      refine t_eqS rfl rfl (iteB (fun h1 => ?_) fun h1 => ?_)
      · refine t_inS (x := b) (ns := f2) (neg := true) rfl (fun Q q => ⟨_, rfl, q p (.inl (SqL.of hp2))⟩) ?_
        rw [if_pos rfl]
        by_cases h2 : b ∈ f2
        · rw [decide_eq_true h2]
          exact iteF (snd f2 H2 e2 hp2 (by omega) (if_neg fun q => q.2 h2).symm)
        · rw [decide_eq_false h2]
          refine iteT (app _ _ 6 f2 b _ rfl rfl hp2 (by omega) fun H4 b4 hp4 => ?_)
          exact snd (f2 ++ [b]) H4 (bs b4) hp4 (by rw [List.length_append]; show f2.length + 1 ≤ 20; omega) (if_pos ⟨h1, h2⟩).symm
      · exact iteF (snd f2 H2 e2 hp2 (by omega) (if_neg fun q => h1 q.1).symm)
    · obtain ⟨⟨d5, d6, d7, rfl⟩, e2, hp2, g2', hfl2⟩ := hPv
      rw [List.length_map, List.take_length] at hp2 g2' hfl2
      exact ⟨k', by omega, i + 1, k', _, _, _, _, _, rfl, e2, hp2, g2', by omega, hstep, by omega, rfl⟩
  · rw [List.length_map] at hge
    have : i = f.length := by omega
    have hnone : f[i]? = none := List.getElem?_eq_none (by omega)
    obtain ⟨k', rfl⟩ := Nat.exists_eq_succ_of_ne_zero (show m ≠ 0 by omega)
    have hfR : f = R := (reach_none hnone).symm.trans hk
    refine ⟨_, rfl, hQ p H1 e np ?_⟩
    rw [← hfR]
    exact hp
end
end FBQ
end
section
set_option Elab.async false
set_option linter.all false
set_option maxRecDepth 100000
set_option maxHeartbeats 1000000
namespace FBQ
open PySem PySem.Spec PyProof.Rows L2 FBR FB
section
variable {P : Program} {w : World} {K : PySem.W.Frag} {mg : Str → Option Value} {base : Heap}
theorem fm_if {α β : Type} (f : α → Bool) (g : α → β) : ∀ l : List α, l.filterMap (fun z => if f z = true then some (g z) else none) = (l.filter f).map g
  | [] => rfl
  | a :: r => by by_cases c : f a = true <;> simp [c, fm_if f g r]
theorem setK_old {pl : List Str} {x : Str} (h : x ∈ pl) : putK (setK pl) (Sum.inr x) (V.bl true) = setK pl := by
  unfold putK
  rw [if_pos]
  · unfold setK
    rw [List.map_map]
    apply List.map_congr_left
    intro y _
    by_cases e : y = x <;> simp [e]
  · rw [List.any_eq_true]
    exact ⟨(Sum.inr x, V.bl true), List.mem_map.mpr ⟨x, h, rfl⟩, by simp⟩
theorem merge_setK : ∀ (rs pl : List Str), pl.Nodup → ∃ pl', mergeK (setK pl) (setK rs) = setK pl' ∧ pl'.Nodup ∧ ∀ z, z ∈ pl' ↔ z ∈ pl ∨ z ∈ rs
  | [], pl, h => ⟨pl, rfl, h, fun z => by simp⟩
  | r :: rs, pl, h => by
    have e : mergeK (setK pl) (setK (r :: rs)) = mergeK (putK (setK pl) (Sum.inr r) (V.bl true)) (setK rs) := rfl
    by_cases hr : r ∈ pl
    · obtain ⟨pl', a, b, c⟩ := merge_setK rs pl h
      refine ⟨pl', by rw [e, setK_old hr, a], b, fun z => ?_⟩
      rw [c z, List.mem_cons]
      constructor
      · rintro (q | q)
        · exact .inl q
        · exact .inr (.inr q)
      · rintro (q | q | q)
        · exact .inl q
        · exact .inl (q ▸ hr)
        · exact .inr q
    · have hn : (pl ++ [r]).Nodup := by
        rw [List.nodup_append]
        refine ⟨h, by simp, ?_⟩
        intro a ha b hb
        simp at hb
        subst hb
        exact fun q => hr (q ▸ ha)
      obtain ⟨pl', a, b, c⟩ := merge_setK rs (pl ++ [r]) hn
      refine ⟨pl', by rw [e, setK_put hr, a], b, fun z => ?_⟩
      rw [c z]
      simp [or_assoc]
theorem merge_setK0 {pl : List Str} (h : pl.Nodup) : mergeK [] (setK pl) = setK pl := by
  refine (merge_new (setK pl) [] ?_).trans (List.nil_append _)
  rw [List.nil_append]
  unfold setK
  rw [List.map_map]
  have : ((fun x => x.1) ∘ fun q : Str => ((Sum.inr q : Key), V.bl true)) = fun q => Sum.inr q := rfl
  rw [this]
  exact List.Pairwise.map _ (fun a b e q => e (Sum.inr.inj q)) h
theorem t_ninK {σ : L2.St} {H : Hp} {i j : Nat} {x : Str} {d : Addr} {pl : List Str} {Q : Bool → Hp → Prop} (hi : σ[i]? = some (some (.str x))) (hj : σ[j]? = some (some (.ref d))) (h : H d = some (.dK (setK pl))) (q : Q (!decide (x ∈ pl)) H) : tB (tDNotIn (tVar i) (tVar j)) σ H Q :=
  ⟨_, hi, _, hj, d, _, rfl, DGet.k (k := Sum.inr x) h, _, rfl, by rw [in_setK]; exact q⟩
theorem setK_len (pl : List Str) : (setK pl).length = pl.length := by unfold setK; rw [List.length_map]
def spPieces (K : PySem.W.Frag) : Sp := fun vs H Q _ => ∃ x names S np, vs = [.ref x] ∧ BenchAt K H x names S np ∧ BOk names S ∧ ∀ p ts H', Same H H' → H p = none → H' p = some (.lst (ts.map V.ref)) → Al (fun t l => H' t = some (.lst (l.map V.str))) ts (piecesM names S) → Q (.ref p) H'
theorem ok_pieces (T : Tx K mg) : DefOk P w K mg base 2 (He.ga K "pieces") ["bench"] [] (spPieces K) := by
  have D_reached_from := ok_reach (P := P) (w := w) (base := base) T
  have D_Bench_strikes := ok_strikes (P := P) (w := w) (base := base) T
  have D_Bench_forks := ok_forks (P := P) (w := w) (base := base) T
  refine defOk T.f_pieces sc_pieces (fun _ _ _ _ _ _ us hl => match us, hl with | [_], _ => rfl) (fun vs H Q E h => by obtain ⟨_, _, _, _, rfl, _⟩ := h; rfl) fun cdv A outer s H vs Q E hr h => ?_
  obtain ⟨x, names, S, np, rfl, hB, hO, hQ⟩ := h
  refine ⟨_, ((pss_cons (ps_set (i := 1) sc_pieces.nd rfl (.inl rfl) (pe_lst pa_nil))
 (pss_cons (ps_set (i := 2) sc_pieces.nd rfl (.inl rfl) (pe_dnewK))
 (pss_cons (ps_set (i := 3) sc_pieces.nd rfl (.inl rfl) (pe_methD0 (pv 0) T.cl_Bench T.m_Bench_forks D_Bench_forks hr))
 (pss_cons (ps_set (i := 4) sc_pieces.nd rfl (.inl rfl) (pe_methD0 (pv 0) T.cl_Bench T.m_Bench_strikes D_Bench_strikes hr))
 (pss_cons (ps_for PassesOwn.never rfl (pi_listK K (pv 3)) (pg_name (i := 5) sc_pieces.nd rfl (.inl rfl) (.inl rfl))
 (pss_one (ps_if (pt_cmp (pc_dnotin (hu_of hr) (pv 5) (pv 2)))
 (pss_cons (ps_set (i := 6) sc_pieces.nd rfl (.inr rfl) (pe_dc (own := [("one", 7)]) rfl sc_pieces.nd (pi_listK K (pe_callD D_reached_from hr rfl T.g_reached_from (pa_cons (pv 5) (pa_cons (pv 4) pa_nil)))) (blkOk_by (own := [("one", 7)]) (N := ["bench", "found", "seen", "names", "strikes", "name", "members", "one"]) (sc := (defScope s_pieces)) (by decide +kernel)) (fun _ _ _ _ _ => (pg_name (i := 7) sc_pieces.nd rfl (Or.inl rfl) (.inr rfl))) (fun _ _ _ _ _ => pts_nil) (fun _ _ _ _ _ => (pv 7)) (fun _ _ _ _ _ => pe_bl)))
 (pss_cons (ps_set (i := 2) sc_pieces.nd rfl (.inl rfl) (pe_starS (pv 2) (pv 6)))
 (pss_one (ps_expr (pe_bm PySem.F.plainAttrs_list PySem.F.slot_list_append PySem.F.type_list_append mt_append (pv 1) (pa_cons (pe_lc (own := [("one", 7)]) (tt := _) rfl sc_pieces.nd (pi_listK K (pv 3)) (blkOk_by (own := [("one", 7)]) (N := ["bench", "found", "seen", "names", "strikes", "name", "members", "one"]) (sc := (defScope s_pieces)) (by decide +kernel)) (fun _ _ _ _ _ => (pg_name (i := 7) sc_pieces.nd rfl (Or.inl rfl) (.inr rfl))) (fun _ _ _ _ _ => pts_one (pt_cmp (pc_din (hu_of hr) (pv 7) (pv 6)))) (fun _ _ _ _ _ => (pv 7))) pa_nil)))))) pss_nil)))
 (pss_one (ps_ret (pv 1))))))))), ?_⟩
  refine ⟨Nat.zero_le _, fun p np1 d0 nd1 => ?_⟩
  have e2 := (L2.Same.new np1 (o := .lst [])).trans (L2.Same.new nd1 (o := .dK []))
  have hp2 := (L2.Same.new nd1 (o := .dK [])) _ _ (upd_same (H := H) (a := p) (o := .lst []))
  have hd2 : upd (upd H p (.lst [])) d0 (.dK []) d0 = some (.dK []) := upd_same
  generalize upd (upd H p (.lst [])) d0 (.dK []) = H2 at e2 hp2 hd2 ⊢
  have hB2 := hB.same e2
  obtain ⟨dx, _, _, _, _, _, _, _, hx2, _⟩ := id hB2
  refine ⟨_, rfl, x, dx, _, rfl, hx2, rfl, x, names, S, np, rfl, hB2, fun nm H3 e3 nnm hnm => ?_⟩
  have hB3 := hB2.same e3
  refine ⟨_, rfl, x, dx, _, rfl, e3 _ _ hx2, rfl, x, names, S, np, rfl, hB3, fun l H4 e4 nl4 hl4 => ?_⟩
  have hn4 := e4 _ _ hnm
  have hp4 := e4 _ _ (e3 _ _ hp2)
  have hd4 := e4 _ _ (e3 _ _ hd2)
  have e14 := (e2.trans e3).trans e4
  have hnp : nm ≠ p := (ne_of_none hp2 nnm).symm
  have hlp : l ≠ p := (ne_of_none (e3 _ _ hp2) nl4).symm
  have hdp : d0 ≠ p := fun z => by rw [z, hp4] at hd4; cases hd4
  refine ⟨_, rfl, nm, rfl, ⟨_, SqL.of hn4⟩, ?_⟩
  refine for_list (xs := names.map V.str) (fun i σ H' => (∃ d c5 c6 c7 pl, σ = [some (.ref x), some (.ref p), some (.ref d), some (.ref nm), some (.ref l), c5, c6, c7] ∧ H' d = some (.dK (setK pl)) ∧ d ≠ p ∧ pl.Nodup ∧ (∀ z ∈ pl, z ∈ names) ∧ ∀ z, z ∈ pl ↔ z ∈ ((names.take i).foldl (pieceStep names S) ([], [])).2) ∧ But p H4 H' ∧
      ∃ ts : List Addr, H' p = some (.lst (ts.map V.ref)) ∧ Al (fun t l => t ≠ p ∧ H' t = some (.lst (l.map V.str))) ts ((names.take i).foldl (pieceStep names S) ([], [])).1 ∧ ts.length ≤ i)
    ⟨⟨d0, _, _, _, [], rfl, hd4, hdp, List.nodup_nil, fun _ h => by simp at h, fun _ => Iff.rfl⟩, But.of (L2.Same.refl _), [], hp4, trivial, Nat.le_refl _⟩ (fun i σ H' _ p => SqL.of (p.2.1 _ _ hnp hn4)) (fun i y σ H5 hi hPv => ?_) fun σ H5 hPv => ?_
  · obtain ⟨⟨d, c5, c6, c7, pl, rfl, hd5, hdp5, hpn, hpm, hpl⟩, b5, ts, hp5, ht5, htl⟩ := hPv
    obtain ⟨n, hn, rfl⟩ := get_map hi
    have hnm' : n ∈ names := List.mem_of_getElem? hn
    have hil : i < names.length := (List.getElem?_eq_some_iff.mp hn).1
    rw [take_s hn, List.foldl_append]
    generalize (names.take i).foldl (pieceStep names S) ([], []) = st at hpl ht5 ⊢
    have es : [n].foldl (pieceStep names S) st = pieceStep names S st n := rfl
    rw [es]
    refine t_ninK rfl rfl hd5 ?_
    by_cases hin : n ∈ pl
    · rw [decide_eq_true hin]
      have ep : pieceStep names S st n = st := if_pos ((hpl n).mp hin)
      rw [ep]
      exact iteF ⟨⟨d, _, _, _, pl, rfl, hd5, hdp5, hpn, hpm, hpl⟩, b5, ts, hp5, ht5, by omega⟩
    · rw [decide_eq_false hin]
      have ep : pieceStep names S st n = (st.1 ++ [names.filter fun y => decide (y ∈ reachF S n)], st.2 ++ reachF S n) := if_neg fun q => hin ((hpl n).mpr q)
      rw [ep]
      obtain ⟨rg, _⟩ := reachF_good hO.ends hnm'
      generalize hrs : reachF S n = rs at rg ⊢
      have hn5 := b5 _ _ hnp hn4
      have hl5 : LTs K H5 l (S.map sV) := LTs.but b5 (nl hp4).1 (nl hp4).2 hlp hl4.l
      have hrl : rs.length ≤ 10 := Nat.le_trans (nodup_len rg.1 rg.2) hO.len
      have hpll : pl.length ≤ 10 := Nat.le_trans (nodup_len hpn hpm) hO.len
      refine iteT ⟨_, rfl, _, rfl, n, l, S, names, rfl, hl5, hnm', hO.ends, hO.len, fun q H6 e6 nq hq => ?_⟩
      rw [hrs] at hq
      refine ⟨q, rfl, ⟨_, SqL.of hq⟩, fun D hD => ?_⟩
      refine dc_list (xs := rs.map V.str) (fun j H' => Same H6 H' ∧ H' D = some (.dK (setK (rs.take j)))) ⟨L2.Same.new hD, upd_same⟩ (fun j H' _ p => SqL.of (p.1 _ _ hq)) (fun j y H7 hj hp7 => ?_) fun H7 hp7 => ?_
      · obtain ⟨e7, hD7⟩ := hp7
        obtain ⟨z, hz, rfl⟩ := get_map hj
        have hznew : z ∉ rs.take j := fun w => by
          obtain ⟨k, hk, e8⟩ := List.mem_take_iff_getElem.mp w
          have := (List.getElem_inj rg.1).mp (e8.trans (List.getElem?_eq_some_iff.mp hz).2.symm)
          omega
        refine ⟨rfl, yes_if ⟨_, rfl, setK (rs.take j), .inr z, rfl, hD7, by rw [setK_len, List.length_take, sizeLine_eq]; omega, L2.Same.mut e7 hD, ?_⟩⟩
        rw [upd_same, setK_put hznew, take_s hz]
      · obtain ⟨e7, hD7⟩ := hp7
        rw [List.length_map, List.take_length] at hD7
        have e57 := e6.trans e7
        have hd7 := e57 _ _ hd5
        have hDd : D ≠ d := fun z => by rw [z, e6 _ _ hd5] at hD; cases hD
        intro p2 np2
        have e8 := L2.Same.new np2 (o := .dK [])
        have hp2d : p2 ≠ d := (ne_of_none hd7 np2).symm
        have hp2D : p2 ≠ D := (ne_of_none hD7 np2).symm
        obtain ⟨pl', hm1, hm2, hm3⟩ := merge_setK rs pl hpn
        refine ⟨_, rfl, d, setK pl, rfl, upd_same, e8 _ _ hd7, hp2d, by rw [setK_len]; omega, _, rfl, D, setK rs, rfl, upd_same, ?_, hp2D, by rw [setK_len]; omega, ?_⟩
        · rw [upd_ne (Ne.symm hp2D)]; exact e8 _ _ hD7
        rw [merge_setK0 hpn, hm1]
        have eF : Same H7 (upd (upd (upd H7 p2 (.dK [])) p2 (.dK (setK pl))) p2 (.dK (setK pl'))) := L2.Same.mut (L2.Same.mut e8 np2) np2
        have hF : upd (upd (upd H7 p2 (.dK [])) p2 (.dK (setK pl))) p2 (.dK (setK pl')) p2 = some (.dK (setK pl')) := upd_same
        generalize upd (upd (upd H7 p2 (.dK [])) p2 (.dK (setK pl))) p2 (.dK (setK pl')) = H8 at eF hF ⊢
        have e58 := e57.trans eF
        have hp8 := e58 _ _ hp5
        have hD8 := eF _ _ hD7
        have hn8 := e58 _ _ hn5
        refine ⟨_, rfl, .inl ⟨rfl, _, SqL.of hp8⟩, _, rfl, nm, rfl, ⟨_, SqL.of hn8⟩, fun D2 hD2 => ?_⟩
        refine lc_opt2 (walk_list (xs := names.map V.str)) hD2 (by rw [List.length_map]; have := hO.len; omega) (fun k => names[k]?.bind fun z => if decide (z ∈ rs) = true then some (V.str z) else none) (fun H9 e9 => SqL.of (e9 _ _ hn8)) (fun k y H9 H10 hk e9 hy R hR => ?_) fun H9 e9 hD9 => ?_
        · obtain ⟨rfl, hy⟩ := hy
          obtain ⟨z, hz, rfl⟩ := get_map hy
          refine hR _ _ rfl (L2.Same.refl _) fun Q q => ?_
          refine t_inK rfl rfl (e9 _ _ hD8) ?_
          have hq := q H10 (L2.Same.refl _) fun v hv Q2 q2 => ⟨_, rfl, ?_⟩
          · rw [hz] at hq
            have eb : ((some z).bind fun z => if decide (z ∈ rs) = true then some (V.str z) else none).isSome = decide (z ∈ rs) := by
              by_cases c : z ∈ rs <;> simp [c]
            rw [eb] at hq
            exact hq
          · rw [hz] at hv
            by_cases c : z ∈ rs
            · simp [c] at hv
              rw [hv]
              exact q2 _ (L2.Same.refl _)
            · simp [c] at hv
        · rw [range_fms names _ (by rw [List.length_map]; exact Nat.le_refl _)] at hD9
          rw [fm_if (fun z => decide (z ∈ rs)) V.str names] at hD9
          have hp9 := e9 _ _ hp8
          have hD2p : D2 ≠ p := (ne_of_none hp8 hD2).symm
          have hlen5 : ts.length ≤ 10 := by have := hO.len; omega
          refine ⟨p, _, _, rfl, rfl, hp9, by rw [List.length_map, sizeLine_eq]; omega, ?_⟩
          have b9 : But p H9 (upd H9 p (.lst (ts.map V.ref ++ [.ref D2]))) := But.put
          have bAll : But p H5 (upd H9 p (.lst (ts.map V.ref ++ [.ref D2]))) := (But.of (e58.trans e9)).trans b9
          have hp2p : p2 ≠ p := (ne_of_none (e57 _ _ hp5) np2).symm
          refine ⟨⟨p2, _, _, _, pl', rfl, b9 _ _ hp2p (e9 _ _ hF), hp2p, hm2, fun z hz => ?_, fun z => ?_⟩, b5.trans bAll, ts ++ [D2], by rw [upd_same, List.map_append]; rfl, ?_, by rw [List.length_append]; show ts.length + 1 ≤ i + 1; omega⟩
          · rcases (hm3 z).mp hz with w | w
            · exact hpm z w
            · exact rg.2 z w
          · rw [hm3 z, hpl z, List.mem_append]
          · exact (ht5.imp fun t l _ w => ⟨w.1, bAll _ _ w.1 w.2⟩).snoc ⟨hD2p, b9 _ _ hD2p hD9⟩
  · obtain ⟨⟨d, c5, c6, c7, pl, rfl, hd5, hdp5, hpn, hpm, hpl⟩, b5, ts, hp5, ht5, htl⟩ := hPv
    rw [List.length_map, List.take_length] at ht5
    refine ⟨_, rfl, hQ p ts H5 (fun b o hb => b5 b o (fun z => by rw [z, np1] at hb; cases hb) (e14 b o hb)) np1 hp5 (ht5.imp fun _ _ _ z => z.2)⟩
end
end FBQ
end
section
set_option Elab.async false
set_option linter.all false
set_option maxRecDepth 100000
set_option maxHeartbeats 1000000
namespace FBQ
open PySem PySem.Spec PyProof.Rows L2 FBR FB
section
variable {P : Program} {w : World} {K : PySem.W.Frag} {mg : Str → Option Value} {base : Heap}
def pV (q : Str × Str) : List V := [.str q.1, .str q.2]
/-- the places of pieces, by names -/
def PK (kvs : List (Key × V)) (Ps : List (List Str)) : Prop := ∀ z : Str, valV kvs (Sum.inr z) = (ixFrom z 0 none Ps).map V.int
theorem PK.put {kvs : List (Key × V)} {P0 : Str → Option V} {z : Str} {v : V} (h : ∀ y, valV kvs (Sum.inr y) = P0 y) (y : Str) : valV (putK kvs (Sum.inr z) v) (Sum.inr y) = if y = z then some v else P0 y := by
  rw [valV_put, h y]
  by_cases e : y = z
  · rw [if_pos e, if_pos (by rw [e])]
  · rw [if_neg e, if_neg fun q => e (Sum.inr.inj q)]
def spPairs (K : PySem.W.Frag) : Sp := fun vs H Q _ => ∃ x names S np, vs = [.ref x] ∧ BenchAt K H x names S np ∧ BOk names S ∧ ∀ p H', Same H H' → H p = none → NTs K H' p ((pairsM names (piecesM names S)).map pV) → Q (.ref p) H'
theorem ok_pairs (T : Tx K mg) : DefOk P w K mg base 3 (He.ga K "ordered_pairs") ["bench"] [] (spPairs K) := by
  have D_pieces := ok_pieces (P := P) (w := w) (base := base) T
  have D_Bench_forks := ok_forks (P := P) (w := w) (base := base) T
  refine defOk T.f_ordered_pairs sc_ordered_pairs (fun _ _ _ _ _ _ us hl => match us, hl with | [_], _ => rfl) (fun vs H Q E h => by obtain ⟨_, _, _, _, rfl, _⟩ := h; rfl) fun cdv A outer s H vs Q E hr h => ?_
  obtain ⟨x, names, S, np, rfl, hB, hO, hQ⟩ := h
  refine ⟨_, ((pss_cons (ps_set (i := 1) sc_ordered_pairs.nd rfl (.inr rfl) (pe_dnewK))
 (pss_cons (ps_for PassesOwn.never rfl (pi_enum (by rfl) T.b_enumerate (pa_cons (pe_callD D_pieces hr rfl T.g_pieces (pa_cons (pv 0) pa_nil)) pa_nil)) (pg_tup rfl (pgs_cons (pg_name (i := 2) sc_ordered_pairs.nd rfl (.inl rfl) (.inl rfl)) (pgs_cons (pg_name (i := 3) sc_ordered_pairs.nd rfl (.inl rfl) (.inl rfl)) pgs_nil)))
 (pss_one (ps_for PassesOwn.never rfl (pi_listK K (pv 3)) (pg_name (i := 4) sc_ordered_pairs.nd rfl (.inl rfl) (.inl rfl))
 (pss_one (ps_dput (hu_of hr) (pv 1) (pv 4) (pv 2) rfl)))))
 (pss_cons (ps_set (i := 5) sc_ordered_pairs.nd rfl (.inr rfl) (pe_methD0 (pv 0) T.cl_Bench T.m_Bench_forks D_Bench_forks hr))
 (pss_one (ps_ret (pe_lc2 (own := [("a", 6), ("b", 7)]) (vs1 := [7]) (by rfl) sc_ordered_pairs.nd (pi_listK K (pv 5)) (blkOk_by (own := [("a", 6), ("b", 7)]) (N := ["bench", "piece", "at", "members", "name", "names", "a", "b"]) (sc := (defScope s_ordered_pairs)) (by decide +kernel)) (by decide) (fun _ _ _ _ _ => (pg_name (i := 6) sc_ordered_pairs.nd rfl (Or.inl rfl) (.inr rfl))) (fun _ _ _ _ _ => pts_nil) (fun _ _ _ _ _ => (pi_listK K (pv 5))) (fun _ _ _ _ _ => (pg_name (i := 7) sc_ordered_pairs.nd rfl (Or.inl rfl) (.inr rfl))) (fun _ _ _ _ _ => pts_one (PW.pt (pw_and (pt_cmpR op_ne (pv 6) (pv 7) (nomark _)) (pw_and1 (pt_cmpR op_eq (pe_dget (hu_of hr) (pv 1) (pv 6) (fun _ _ => rfl)) (pe_dget (hu_of hr) (pv 1) (pv 7) (fun _ _ => rfl)) (nomark _)))))) (fun _ _ _ _ _ => (pe_tup (pa_cons (pv 6) (pa_cons (pv 7) pa_nil))))))))))), ?_⟩
  intro d nd0
  have e1 := L2.Same.new nd0 (o := .dK [])
  have hd1 : upd H d (.dK []) d = some (.dK []) := upd_same
  generalize upd H d (.dK []) = H1 at e1 hd1 ⊢
  refine ⟨_, rfl, x, names, S, np, rfl, hB.same e1, hO, fun pl ts H2 e2 npl hpl hts => ⟨pl, _, rfl, SqL.of hpl, ?_⟩⟩
  have hd2 := e2 _ _ hd1
  have hpd : pl ≠ d := (ne_of_none hd1 npl).symm
  have hplen := pieces_plen (names := names) (S := S)
  have hcount := pieces_len (names := names) (S := S)
  have hmemP := fun {z} (hz : z ∈ names) => pieces_mem (S := S) hO.ends hz
  have e12 := e1.trans e2
  generalize hPs : piecesM names S = Ps at hts hplen hcount hmemP hQ
  have htl := hts.length
  have bH : ∀ {H'}, But d H2 H' → Same H H' := fun b u o hu => b u o (fun z => by rw [z, nd0] at hu; cases hu) (e12 u o hu)
  refine for_it (walk_enum (xs := ts.map V.ref)) (fun i σ H' => (∃ c2 c3 c4 c5 c6 c7, σ = [some (.ref x), some (.ref d), c2, c3, c4, c5, c6, c7]) ∧ But d H2 H' ∧ ∃ kvs, H' d = some (.dK kvs) ∧ PK kvs (Ps.take i) ∧ kvs.length ≤ 10 * i ∧ i ≤ 10)
    ⟨⟨_, _, _, _, _, _, rfl⟩, But.of (L2.Same.refl _), [], hd2, fun z => rfl, Nat.le_refl _, Nat.zero_le _⟩ (fun i σ H' _ p => SqL.of (p.2.1 _ _ hpd hpl)) (fun i y σ H3 H4 hi hPv hy => ?_) fun σ H3 hPv => ?_
  · obtain ⟨⟨c2, c3, c4, c5, c6, c7, rfl⟩, b3, kvs, hd3, hk3, hkl, hi10⟩ := hPv
    obtain ⟨t, v1, v2, rfl, nt, rfl, h1, h2⟩ := hy
    cases h1
    obtain ⟨m, hm, rfl⟩ := get_map h2
    obtain ⟨l, hl, hml⟩ := hts.get hm
    have hll : l.length ≤ 10 := Nat.le_trans (hplen l (List.mem_of_getElem? hl)) hO.len
    rw [List.length_map] at hi
    have e4 := L2.Same.new nt (o := .tup [.int (i : Nat), .ref m])
    have hd4 := e4 _ _ hd3
    have hmd : m ≠ d := fun z => by rw [z, hd2] at hml; cases hml
    have b4 : But d H2 (upd H3 t (.tup [.int (i : Nat), .ref m])) := b3.trans (But.of e4)
    refine g2 (SqT.of upd_same) ?_
    generalize upd H3 t (.tup [.int (i : Nat), .ref m]) = H4 at hd4 b4 ⊢
    refine ⟨_, rfl, m, rfl, ⟨_, SqL.of (b4 _ _ hmd hml)⟩, ?_⟩
    refine for_list (xs := l.map V.str) (fun j σ H' => (∃ c4 c5 c6 c7, σ = [some (.ref x), some (.ref d), some (.int (i : Nat)), some (.ref m), c4, c5, c6, c7]) ∧ But d H2 H' ∧ ∃ kvs, H' d = some (.dK kvs) ∧ (∀ z : Str, valV kvs (Sum.inr z) = if z ∈ l.take j then some (.int (i : Nat)) else (ixFrom z 0 none (Ps.take i)).map V.int) ∧ kvs.length ≤ 10 * i + j)
      ⟨⟨_, _, _, _, rfl⟩, b4, kvs, hd4, fun z => by rw [hk3 z]; simp, by omega⟩ (fun j σ H' _ p => SqL.of (p.2.1 _ _ hmd hml)) (fun j y σ H5 hj hPv => ?_) fun σ H5 hPv => ?_
    · obtain ⟨⟨c4, c5, c6, c7, rfl⟩, b5, kv5, hd5, hk5, hl5⟩ := hPv
      obtain ⟨z, hz, rfl⟩ := get_map hj
      have hjl : j < l.length := (List.getElem?_eq_some_iff.mp hz).1
      refine ⟨_, rfl, _, rfl, _, rfl, d, _, rfl, DPut.k (k := .inr z) hd5 (by rw [sizeLine_eq]; omega), ⟨_, _, _, _, rfl⟩, b5.trans But.put, _, upd_same, fun y => ?_, ?_⟩
      · rw [PK.put hk5 y, take_s hz]
        by_cases e : y = z
        · subst e; simp
        · rw [if_neg e]
          simp [e]
      · have := length_putK kv5 (Sum.inr z) (V.int (i : Nat))
        omega
    · obtain ⟨⟨c4, c5, c6, c7, rfl⟩, b5, kv5, hd5, hk5, hl5⟩ := hPv
      rw [List.length_map, List.take_length] at hk5
      rw [List.length_map] at hl5
      refine ⟨⟨_, _, _, _, _, _, rfl⟩, b5, kv5, hd5, fun z => ?_, by omega, by have := hO.len; omega⟩
      rw [hk5 z, take_s hl, ix_snoc, List.length_take, Nat.min_eq_left (by omega)]
      by_cases hzl : z ∈ l
      · rw [if_pos hzl, if_pos hzl]
        simp
      · rw [if_neg hzl, if_neg hzl]
  · obtain ⟨⟨c2, c3, c4, c5, c6, c7, rfl⟩, b3, kvs, hd3, hk3, hkl, hi10⟩ := hPv
    rw [List.length_map, List.take_of_length_le (by omega)] at hk3
    have e3 := bH b3
    have hB3 := hB.same e3
    obtain ⟨dx, _, _, _, _, _, _, _, hx3, _⟩ := id hB3
    refine ⟨_, rfl, x, dx, _, rfl, hx3, rfl, x, names, S, np, rfl, hB3, fun nm H4 e4 nnm hnm => ?_⟩
    have hd4 := e4 _ _ hd3
    have hix : ∀ z ∈ names, ∃ i : Int, ixFrom z 0 none Ps = some i := fun z hz => Option.isSome_iff_exists.mp (ix_some Ps 0 none (.inr (hmemP hz)))
    refine ⟨_, rfl, nm, rfl, ⟨_, SqL.of hnm⟩, fun D hD => ?_⟩
    refine lc2_it (walk_list (xs := names.map V.str)) (fun i H' => Same H4 H' ∧ NTs K H' D (((names.take i).flatMap fun a => (names.filter fun b => decide (a ≠ b ∧ ixFrom a 0 none Ps = ixFrom b 0 none Ps)).map fun b => (a, b)).map pV)) ⟨L2.Same.new hD, [], upd_same, trivial⟩ (fun i H' _ p => SqL.of (p.1 _ _ hnm)) (fun i y H5 H6 hi hp hy => ?_) fun H5 hp => ?_
    · obtain ⟨rfl, hy⟩ := hy
      obtain ⟨e5, N5⟩ := hp
      obtain ⟨a, ha, rfl⟩ := get_map hy
      have ham : a ∈ names := List.mem_of_getElem? ha
      obtain ⟨ia, hia⟩ := hix a ham
      rw [List.length_map] at hi
      refine ⟨rfl, yes_if ?_⟩
      refine ⟨_, rfl, nm, rfl, ⟨_, SqL.of (e5 _ _ hnm)⟩, ?_⟩
      have hfl : ∀ k, ((names.take k).flatMap fun a => (names.filter fun b => decide (a ≠ b ∧ ixFrom a 0 none Ps = ixFrom b 0 none Ps)).map fun b => (a, b)).length ≤ k * 10 := fun k => by
        refine Nat.le_trans (flatMap_len (k := 10) _ fun a _ => ?_) (Nat.mul_le_mul_right _ (by rw [List.length_take]; omega))
        rw [List.length_map]
        exact Nat.le_trans (List.length_filter_le _ _) hO.len
      refine lcin_it (walk_list (xs := names.map V.str)) (fun j H' => Same H4 H' ∧ NTs K H' D ((((names.take i).flatMap fun a => (names.filter fun b => decide (a ≠ b ∧ ixFrom a 0 none Ps = ixFrom b 0 none Ps)).map fun b => (a, b)) ++ ((names.take j).filter fun b => decide (a ≠ b ∧ ixFrom a 0 none Ps = ixFrom b 0 none Ps)).map fun b => (a, b)).map pV))
        ⟨e5, by simpa using N5⟩ (fun j H' _ p => SqL.of (p.1 _ _ hnm)) (fun j y H7 H8 hj hp hy => ?_) fun H7 hp => ?_
      · obtain ⟨rfl, hy⟩ := hy
        obtain ⟨e7, us, hD7, hu7⟩ := hp
        obtain ⟨b, hb, rfl⟩ := get_map hy
        have hbm : b ∈ names := List.mem_of_getElem? hb
        obtain ⟨ib, hib⟩ := hix b hbm
        rw [List.length_map] at hj
        have hd8 := e7 _ _ hd4
        have hga : valV kvs (Sum.inr a) = some (.int ia) := by rw [hk3 a, hia]; rfl
        have hgb : valV kvs (Sum.inr b) = some (.int ib) := by rw [hk3 b, hib]; rfl
        have hrw : ((((names.take i).flatMap fun a => (names.filter fun b => decide (a ≠ b ∧ ixFrom a 0 none Ps = ixFrom b 0 none Ps)).map fun b => (a, b)) ++ ((names.take (j + 1)).filter fun b => decide (a ≠ b ∧ ixFrom a 0 none Ps = ixFrom b 0 none Ps)).map fun b => (a, b)).map pV) =
            ((((names.take i).flatMap fun a => (names.filter fun b => decide (a ≠ b ∧ ixFrom a 0 none Ps = ixFrom b 0 none Ps)).map fun b => (a, b)) ++ ((names.take j).filter fun b => decide (a ≠ b ∧ ixFrom a 0 none Ps = ixFrom b 0 none Ps)).map fun b => (a, b)).map pV ++
            ((([b].filter fun b => decide (a ≠ b ∧ ixFrom a 0 none Ps = ixFrom b 0 none Ps)).map fun b => (a, b)).map pV)) := by
          rw [take_s hb, List.filter_append]
          simp only [List.map_append, List.append_assoc]
        rw [hrw]
        have hull := hu7.length
        have hun : us.length < 100000 := by
          rw [hull, List.length_map, List.length_append, List.length_map]
          have h1 := hfl i
          have h2 := List.length_filter_le (fun b => decide (a ≠ b ∧ ixFrom a 0 none Ps = ixFrom b 0 none Ps)) (names.take j)
          rw [List.length_take] at h2
          have := hO.len
          omega
        have no : (decide (a ≠ b ∧ ixFrom a 0 none Ps = ixFrom b 0 none Ps)) = false → Same H4 H8 ∧ NTs K H8 D ((((names.take i).flatMap fun a => (names.filter fun b => decide (a ≠ b ∧ ixFrom a 0 none Ps = ixFrom b 0 none Ps)).map fun b => (a, b)) ++ ((names.take j).filter fun b => decide (a ≠ b ∧ ixFrom a 0 none Ps = ixFrom b 0 none Ps)).map fun b => (a, b)).map pV ++
            ((([b].filter fun b => decide (a ≠ b ∧ ixFrom a 0 none Ps = ixFrom b 0 none Ps)).map fun b => (a, b)).map pV)) := fun hf => by
          rw [List.filter_cons_of_neg (by rw [hf]; exact Bool.false_ne_true), List.filter_nil, List.map_nil, List.map_nil, List.append_nil]
          exact ⟨e7, us, hD7, hu7⟩
        refine ⟨rfl, ?_⟩
        refine ⟨_, rfl, _, rfl, rfl, _, rfl, ?_⟩
        rw [dec_str]
        by_cases hab : a = b
        · rw [decide_eq_true hab]
          exact iteF (iteF (no (decide_eq_false fun q => q.1 hab)))
        · rw [decide_eq_false hab]
          refine iteT ⟨_, rfl, _, rfl, d, .int ia, rfl, .inl ⟨kvs, .inr a, .inl hd8, rfl, hga.symm⟩, _, rfl, _, rfl, d, .int ib, rfl, .inl ⟨kvs, .inr b, .inl hd8, rfl, hgb.symm⟩, rfl, _, rfl, ?_⟩
          by_cases hi2 : ia = ib
          · have hc : (decide (a ≠ b ∧ ixFrom a 0 none Ps = ixFrom b 0 none Ps)) = true := decide_eq_true ⟨hab, by rw [hia, hib, hi2]⟩
            rw [hi2, decide_eq_true rfl]
            refine iteT (tup2 (x := .str a) (y := .str b) rfl rfl _ fun t nt => ?_)
            have e8 := L2.Same.new nt (o := .tup [V.str a, .str b])
            have hD8 := e8 _ _ hD7
            have b8 : But D (upd H8 t (.tup [V.str a, .str b])) (upd (upd H8 t (.tup [V.str a, .str b])) D (.lst (us.map V.ref ++ [.ref t]))) := But.put
            refine ⟨_, hD8, by rw [List.length_map, sizeLine_eq]; omega, L2.Same.mut (e7.trans e8) hD, us ++ [t], by rw [upd_same, List.map_append]; rfl, ?_⟩
            have hfb : ([b].filter fun b => decide (a ≠ b ∧ ixFrom a 0 none Ps = ixFrom b 0 none Ps)) = [b] := by rw [List.filter_cons, if_pos hc, List.filter_nil]
            rw [hfb]
            exact ((hu7.same e8).but b8 (nl hD8).1 (nl hD8).2).snoc (But.tup b8 (nl hD8).1 (nl hD8).2 (SqT.of upd_same))
          · rw [decide_eq_false fun q => hi2 (V.int.inj q)]
            refine iteF (no (decide_eq_false fun q => hi2 ?_))
            have := q.2
            rw [hia, hib] at this
            exact Option.some.inj this
      · obtain ⟨e7, N7⟩ := hp
        rw [List.length_map, List.take_length] at N7
        refine ⟨e7, ?_⟩
        rw [take_s ha, List.flatMap_append, List.flatMap_cons, List.flatMap_nil, List.append_nil]
        exact N7
    · obtain ⟨e5, N5⟩ := hp
      rw [List.length_map, List.take_length] at N5
      exact hQ D H5 ((e3.trans e4).trans e5) ((e3.trans e4).free hD) N5
/-- the place of a name -/
theorem index_read {σ : L2.St} {H : Hp} {i j : Nat} {p : Addr} {a : Str} {names : List Str} {Q : VK} (hi : σ[i]? = some (some (.ref p))) (hj : σ[j]? = some (some (.str a))) (hp : SqL K H p (names.map V.str)) (ha : a ∈ names) (q : Q (.int (names.idxOf a : Nat)) H) :
    tBM K "list" (rIndex K) (tVar i) (tCons (tVar j) tNil) σ H Q := by
  have hlt := List.idxOf_lt_length_iff.mpr ha
  refine ⟨_, hi, .inl ⟨rfl, _, hp⟩, _, hj, p, _, .str a, names.idxOf a, .str a, rfl, rfl, hp, rfl, flat_str names, ?_, ?_, fun m z' hm hz => ?_, q⟩
  · rw [List.getElem?_map, List.getElem?_eq_getElem hlt, List.getElem_idxOf hlt]
    rfl
  · show (a == a) = true
    exact beq_self_eq_true a
  · obtain ⟨y, hy, rfl⟩ := get_map hz
    show (y == a) = false
    refine beq_eq_false_iff_ne.mpr fun e => ?_
    subst e
    obtain ⟨h1, h2⟩ := List.getElem?_eq_some_iff.mp hy
    have := List.not_of_lt_findIdx (p := (· == y)) (xs := names) hm
    simp [h2] at this
end
end FBQ
end
section
set_option Elab.async false
set_option linter.all false
set_option maxRecDepth 100000
set_option maxHeartbeats 1000000
namespace FBQ
open PySem PySem.Spec PyProof.Rows L2 FBR FB
section
variable {P : Program} {w : World} {K : PySem.W.Frag} {mg : Str → Option Value} {base : Heap}
theorem one_of {vals ns : List Int} (hv : vals ≠ []) (hp : ns.Pairwise (· < ·)) (hm : ∀ k : Int, k ∈ ns ↔ k ∈ vals) : oneM vals = if ns.length = 1 then ns[0]? else none := by
  cases vals with
  | nil => exact absurd rfl hv
  | cons x xs =>
    show (if ∀ y ∈ xs, y = x then some x else none) = _
    match ns, hp, hm with
    | [], _, hm => have := (hm x).mpr (by simp); simp at this
    | [a], _, hm =>
      have hx := (hm x).mpr (by simp)
      simp at hx
      have hall : ∀ y ∈ xs, y = x := fun y hy => by
        have := (hm y).mpr (by simp [hy])
        simp at this
        rw [this, hx]
      rw [if_pos hall, if_pos (show [a].length = 1 from rfl), hx]
      rfl
    | a :: b :: r, hp, hm =>
      have ha := (hm a).mp (by simp)
      have hb := (hm b).mp (by simp)
      have hab := (List.pairwise_cons.mp hp).1 b (by simp)
      rw [if_neg, if_neg]
      · simp
      · intro h
        simp at ha hb
        have h1 : a = x := by rcases ha with q | q; exact q; exact h a q
        have h2 : b = x := by rcases hb with q | q; exact q; exact h b q
        omega
def sureF (names : List Str) (rows : List (List Int)) (p : Str × Str) : Option (Str × Str × Int) := if names.idxOf p.1 < names.idxOf p.2 then (oneM (rows.map fun r => beatM names r p.1 p.2)).map fun t => (p.1, p.2, t) else none
theorem pairs_mem {names : List Str} {Ps : List (List Str)} : ∀ q ∈ pairsM names Ps, q.1 ∈ names ∧ q.2 ∈ names := by
  intro q hq
  unfold pairsM at hq
  obtain ⟨a, ha, h2⟩ := List.mem_flatMap.mp hq
  obtain ⟨b, hb, rfl⟩ := List.mem_map.mp h2
  exact ⟨ha, (List.mem_filter.mp hb).1⟩
theorem pairs_len {names : List Str} {Ps : List (List Str)} (h : names.length ≤ 10) : (pairsM names Ps).length ≤ 100 := by
  unfold pairsM
  refine Nat.le_trans (flatMap_len (k := 10) _ fun a _ => ?_) (by omega)
  rw [List.length_map]
  exact Nat.le_trans (List.length_filter_le _ _) h
def spSure (K : PySem.W.Frag) : Sp := fun vs H Q _ => ∃ x names S np, vs = [.ref x] ∧ BenchAt K H x names S np ∧ BOk names S ∧ fitM names S ≠ [] ∧ (fitM names S).length < 64 ∧ ∀ p H', Same H H' → H p = none → NTs K H' p ((sureM names (fitM names S) (pairsM names (piecesM names S))).map sV) → Q (.ref p) H'
theorem ok_sure (T : Tx K mg) : DefOk P w K mg base 15 (He.ga K "sure_beats") ["bench"] [] (spSure K) := by
  have D_some_fittings := ok_some (P := P) (w := w) (base := base) T
  have D_ordered_pairs := ok_pairs (P := P) (w := w) (base := base) T
  have D_Bench_forks := ok_forks (P := P) (w := w) (base := base) T
  have D_Tuning_beats := ok_tbeats (P := P) (w := w) (base := base) T
  refine defOk T.f_sure_beats sc_sure_beats (fun _ _ _ _ _ _ us hl => match us, hl with | [_], _ => rfl) (fun vs H Q E h => by obtain ⟨_, _, _, _, rfl, _⟩ := h; rfl) fun cdv A outer s H vs Q E hr h => ?_
  obtain ⟨x, names, S, np, rfl, hB, hO, hne, h64, hQ⟩ := h
  refine ⟨_, ((pss_cons (ps_set (i := 1) sc_sure_beats.nd rfl (.inl rfl) (pe_callD D_some_fittings hr rfl T.g_some_fittings (pa_cons (pv 0) pa_nil)))
 (pss_cons (ps_set (i := 2) sc_sure_beats.nd rfl (.inl rfl) (pe_methD0 (pv 0) T.cl_Bench T.m_Bench_forks D_Bench_forks hr))
 (pss_cons (ps_set (i := 3) sc_sure_beats.nd rfl (.inl rfl) (pe_lst pa_nil))
 (pss_cons (ps_for PassesOwn.never rfl (pi_listK K (pe_callD D_ordered_pairs hr rfl T.g_ordered_pairs (pa_cons (pv 0) pa_nil))) (pg_tup rfl (pgs_cons (pg_name (i := 4) sc_sure_beats.nd rfl (.inr rfl) (.inl rfl)) (pgs_cons (pg_name (i := 5) sc_sure_beats.nd rfl (.inr rfl) (.inl rfl)) pgs_nil)))
 (pss_one (ps_if (pt_cmpR op_lt (pe_bm PySem.F.plainAttrs_list PySem.F.slot_list_index PySem.F.type_list_index mt_index (pv 2) (pa_cons (pv 4) pa_nil)) (pe_bm PySem.F.plainAttrs_list PySem.F.slot_list_index PySem.F.type_list_index mt_index (pv 2) (pa_cons (pv 5) pa_nil)) (nomark _))
 (pss_cons (ps_set (i := 6) sc_sure_beats.nd rfl (.inl rfl) (pe_callB (cr_sortedSetW w rfl) (by rfl) T.b_sorted (by decide +kernel) (pa_cons (pe_scIW w (own := [("tuning", 7)]) rfl sc_sure_beats.nd (pi_listK K (pv 1)) (blkOk_by (own := [("tuning", 7)]) (N := ["bench", "found", "names", "result", "a", "b", "beats", "tuning"]) (sc := (defScope s_sure_beats)) (by decide +kernel)) (fun _ _ _ _ _ => (pg_name (i := 7) sc_sure_beats.nd rfl (Or.inl rfl) (.inr rfl))) (fun _ _ _ _ _ => pts_nil) (fun _ _ _ _ _ => (pe_methD (pv 7) T.cl_Tuning T.m_Tuning_beats D_Tuning_beats hr (pa_cons (pv 4) (pa_cons (pv 5) pa_nil))))) pa_nil)))
 (pss_one (ps_if (pt_cmpR op_eq (pe_callB call_len_seq (by rfl) T.b_len (by decide +kernel) (pa_cons (pv 6) pa_nil)) pe_int (nomark _))
 (pss_one (ps_expr (pe_bm PySem.F.plainAttrs_list PySem.F.slot_list_append PySem.F.type_list_append mt_append (pv 3) (pa_cons (pe_tup (pa_cons (pv 4) (pa_cons (pv 5) (pa_cons (pe_ix (ix_listK K) (pv 6) pe_int (fun _ _ => rfl)) pa_nil)))) pa_nil)))) pss_nil))) pss_nil)))
 (pss_one (ps_ret (pv 3)))))))), ?_⟩
  refine ⟨_, rfl, x, names, S, np, rfl, hB, hO, hne, fun fp fts H1 e1 nf hf hfa => ?_⟩
  have hB1 := hB.same e1
  obtain ⟨dx, _, _, _, _, _, _, _, hx1, _⟩ := id hB1
  refine ⟨_, rfl, x, dx, _, rfl, hx1, rfl, x, names, S, np, rfl, hB1, fun nm H2 e2 nnm hnm => ?_⟩
  refine ⟨Nat.zero_le _, fun p np2 => ?_⟩
  have e3 := L2.Same.new np2 (o := .lst [])
  have hp3 : upd H2 p (.lst []) p = some (.lst []) := upd_same
  generalize upd H2 p (.lst []) = H3 at e3 hp3 ⊢
  have e13 := (e1.trans e2).trans e3
  refine ⟨_, rfl, x, names, S, np, rfl, hB.same e13, hO, fun q H4 e4 nq N => ?_⟩
  obtain ⟨ts, hq, hts⟩ := N
  have e14 := e13.trans e4
  have hp4 := e4 _ _ hp3
  have hf4 := e4 _ _ (e3 _ _ (e2 _ _ hf))
  have hn4 := e4 _ _ (e3 _ _ hnm)
  have hfa4 : Al (fun t r => TunAt K H4 t (names.zip r)) fts (fitM names S) := hfa.imp fun _ _ _ z => z.same ((e2.trans e3).trans e4)
  have fp0 : H p = none := (e1.trans e2).free np2
  have hfp : fp ≠ p := ne_of_none (e2 _ _ hf) np2
  have hnp : nm ≠ p := ne_of_none hnm np2
  have hqp : q ≠ p := (ne_of_none hp3 nq).symm
  have hrowl : ∀ r ∈ fitM names S, r.length = names.length := fun r hr => fit_row hr
  have hpm := pairs_mem (names := names) (Ps := piecesM names S)
  have hplen := pairs_len (names := names) (Ps := piecesM names S) hO.len
  have hsure : ∀ l, sureM names (fitM names S) l = l.filterMap (sureF names (fitM names S)) := fun l => rfl
  generalize pairsM names (piecesM names S) = ps at hts hpm hplen hQ
  generalize fitM names S = rows at *
  refine ⟨q, rfl, ⟨_, SqL.of hq⟩, ?_⟩
  refine for_tups (ts := ts) (rs := ps.map pV) (fun i σ H' => (∃ c4 c5 c6 c7, σ = [some (.ref x), some (.ref fp), some (.ref nm), some (.ref p), c4, c5, c6, c7]) ∧ But p H4 H' ∧ NTs K H' p ((sureM names rows (ps.take i)).map sV))
    ⟨⟨_, _, _, _, rfl⟩, But.of (L2.Same.refl _), [], hp4, trivial⟩ (fun i σ H' _ p => ⟨SqL.of (p.2.1 _ _ hqp hq), hts.but p.2.1 (nl hp4).1 (nl hp4).2⟩) hts.length (fun i t r σ H5 hr5 htr hPv => ?_) fun σ H5 hPv => ?_
  · obtain ⟨⟨c4, c5, c6, c7, rfl⟩, b5, us, hp5, hu5⟩ := hPv
    obtain ⟨⟨a, b⟩, hab, rfl⟩ := get_map hr5
    obtain ⟨ham, hbm⟩ := hpm _ (List.mem_of_getElem? hab)
    have hn5 := b5 _ _ hnp hn4
    have hf5 := b5 _ _ hfp hf4
    have hfa5 : Al (fun t r => TunAt K H5 t (names.zip r)) fts rows := hfa4.imp fun _ _ _ z => z.but b5 hp4
    have estep : sureM names rows (ps.take (i + 1)) = sureM names rows (ps.take i) ++ (sureF names rows (a, b)).toList := by
      rw [hsure, hsure, take_s hab, List.filterMap_append]
      cases e : sureF names rows (a, b) <;> simp [e]
    rw [estep]
    have no : ∀ {H'}, Same H5 H' → sureF names rows (a, b) = none → ∀ {c6 c7 : Option V}, (∃ d4 d5 d6 d7, [some (V.ref x), some (.ref fp), some (.ref nm), some (.ref p), some (.str a), some (.str b), c6, c7] = [some (V.ref x), some (.ref fp), some (.ref nm), some (.ref p), d4, d5, d6, d7]) ∧ But p H4 H' ∧ NTs K H' p ((sureM names rows (ps.take i) ++ (sureF names rows (a, b)).toList).map sV) := by
      intro H' e6 ef c6 c7
      rw [ef, Option.toList_none, List.append_nil]
      exact ⟨⟨_, _, _, _, rfl⟩, b5.trans (But.of e6), us, e6 _ _ hp5, hu5.same e6⟩
    refine g2 htr ?_
    refine index_read rfl rfl (SqL.of hn5) ham (index_read rfl rfl (SqL.of hn5) hbm ⟨_, _, rfl, rfl, _, rfl, iteB (fun hlt => ?_) fun hge => ?_⟩)
    · have hlt' : names.idxOf a < names.idxOf b := Int.ofNat_lt.mp hlt
      refine ⟨_, rfl, fp, rfl, ⟨_, SqL.of hf5⟩, fun D hD => ?_⟩
      have hvals : rows.map (fun r => beatM names r a b) ≠ [] := fun z => hne (List.map_eq_nil_iff.mp z)
      refine scI_list (xs := fts.map V.ref) (fun j H' => Same H5 H' ∧ ∃ (Sx : Int → Bool) (n : Nat), H' D = some (SetO w D Sx n) ∧ (∀ k, Sx k = true ↔ k ∈ (rows.take j).map fun r => beatM names r a b) ∧ n ≤ j) ⟨L2.Same.new hD, _, 0, upd_same, fun k => by simp, Nat.le_refl _⟩ (fun j H' _ p => SqL.of (p.1 _ _ hf5)) (fun j y H6 hj hp6 => ?_) fun H6 hp6 => ?_
      · obtain ⟨e6, Sx, n, hD6, hS6, hn6⟩ := hp6
        obtain ⟨t, ht, rfl⟩ := get_map hj
        obtain ⟨r, hr6, htun⟩ := hfa5.get ht
        have htun6 := htun.same e6
        obtain ⟨dxt, _, _, hxt, _⟩ := id htun6
        have hjl : j < rows.length := (List.getElem?_eq_some_iff.mp hr6).1
        have hk : (names.zip r).map (·.1) = names := List.map_fst_zip (Nat.le_of_eq (hrowl r (List.mem_of_getElem? hr6)).symm)
        refine ⟨rfl, yes_if ⟨_, rfl, t, dxt, _, rfl, hxt, rfl, _, rfl, _, rfl, t, names.zip r, a, b, rfl, htun6, by rw [hk]; exact hO.nd, by rw [hk]; exact ham, by rw [hk]; exact hbm, _, Sx, n, rfl, hD6, Nat.lt_of_lt_of_le (show n + 1 < 65 by omega) (by decide), L2.Same.mut e6 hD, _, _, upd_same, fun k => ?_, ?_⟩⟩
        · rw [take_s hr6, List.map_append, List.mem_append, Bool.or_eq_true, hS6 k, decide_eq_true_eq]
          simp
          rfl
        · unfold insN
          split <;> omega
      · obtain ⟨e6, Sx, n, hD6, hS6, hn6⟩ := hp6
        have hfl := hfa.length
        rw [List.length_map, hfl] at hn6
        rw [List.length_map, hfl, List.take_length] at hS6
        refine ⟨D, Sx, n, rfl, hD6, by omega, fun ns m hpw hmem hlen nm2 => ?_⟩
        have hone := one_of hvals hpw fun k => (hmem k).trans (hS6 k)
        have e7 := L2.Same.new nm2 (o := .lst (ns.map V.int))
        have hm7 : upd H6 m (.lst (ns.map V.int)) m = some (.lst (ns.map V.int)) := upd_same
        have e57 := e6.trans e7
        generalize upd H6 m (.lst (ns.map V.int)) = H7 at e7 hm7 e57 ⊢
        refine ⟨_, rfl, m, _, rfl, .inl (SqL.of hm7), rfl, _, rfl, ite2 (fun h => ?_) fun h => ?_⟩
        · have hl1 := V.int.inj (of_decide_eq_true h)
          rw [List.length_map] at hl1
          have hl1 : ns.length = 1 := by omega
          rw [if_pos hl1] at hone
          obtain ⟨tv, rfl⟩ := List.length_eq_one_iff.mp hl1
          have hsf : sureF names rows (a, b) = some (a, b, tv) := by
            unfold sureF
            rw [if_pos hlt', hone]
            rfl
          rw [hsf, Option.toList_some, List.map_append]
          have hu7 := hu5.same e57
          refine app_tup (r := sV (a, b, tv)) rfl (e57 _ _ hp5) hu7 ?_ (fun Q q => ⟨_, rfl, _, rfl, _, rfl, m, _, 0, .int tv, rfl, rfl, SqL.of hm7, at_of (j := 0) rfl rfl, by show 3 ≤ sizeLine; decide, fun t nt => q t nt⟩) fun H8 b8 _ N8 => ⟨⟨_, _, _, _, rfl⟩, (b5.trans (But.of e57)).trans b8, N8⟩
          have h1 := hu5.length
          rw [List.length_map, hsure] at h1
          have h2 := List.length_filterMap_le (sureF names rows) (ps.take i)
          rw [List.length_take] at h2
          omega
        · have hl1 : ¬ ns.length = 1 := fun z => h (decide_eq_true (by rw [List.length_map, z]; rfl))
          rw [if_neg hl1] at hone
          refine no e57 ?_
          unfold sureF
          rw [if_pos hlt', hone]
          rfl
    · have hge' : ¬ names.idxOf a < names.idxOf b := fun z => hge (Int.ofNat_lt.mpr z)
      exact no (L2.Same.refl _) (if_neg hge')
  · obtain ⟨⟨c4, c5, c6, c7, rfl⟩, b5, N5⟩ := hPv
    rw [List.length_map, List.take_length] at N5
    exact ⟨_, rfl, hQ p H5 (fun b o hb => b5 b o (fun z => by rw [z, fp0] at hb; cases hb) (e14 b o hb)) fp0 N5⟩
end
end FBQ
end
section
set_option Elab.async false
set_option linter.all false
set_option maxRecDepth 100000
set_option maxHeartbeats 1000000
namespace FBQ
open PySem PySem.Spec PyProof.Rows L2 FBR FB
def ordL (order : List Str) : Lv Str := order.zipIdx.map fun p => (p.1, (p.2 : Int))
theorem ordL_keys (order : List Str) : (ordL order).map (·.1) = order := by
  unfold ordL
  rw [List.map_map]
  have : (fun x : Str × Int => x.1) ∘ (fun p : Str × Nat => (p.1, (p.2 : Int))) = fun p => p.1 := rfl
  rw [this]
  exact List.zipIdx_map_fst _ _
theorem ordL_snoc (order : List Str) (x : Str) : ordL (order ++ [x]) = ordL order ++ [(x, (order.length : Int))] := by
  unfold ordL
  rw [List.zipIdx_append, List.map_append]
  simp
theorem ordL_get {order : List Str} (hn : order.Nodup) {z : Str} (hz : z ∈ order) : getL (ordL order) z = (order.idxOf z : Nat) := by
  have hlt := List.idxOf_lt_length_iff.mpr hz
  have h1 : (ordL order)[order.idxOf z]? = some (z, ((order.idxOf z : Nat) : Int)) := by
    unfold ordL
    rw [List.getElem?_map, List.getElem?_zipIdx, List.getElem?_eq_getElem hlt, List.getElem_idxOf hlt]
    simp
  exact getL_at (by rw [ordL_keys]; exact hn) h1
theorem ordL_val {order : List Str} (hn : order.Nodup) {z : Str} (hz : z ∈ order) : valV (kI (ordL order)) (Sum.inr z) = some (.int (order.idxOf z : Nat)) := by
  rw [kI_get (by rw [ordL_keys]; exact hz), ordL_get hn hz]
theorem ordL_isSome {order : List Str} {z : Str} : (valV (kI (ordL order)) (Sum.inr z)).isSome = decide (z ∈ order) := by
  by_cases hz : z ∈ order
  · rw [kI_get (by rw [ordL_keys]; exact hz), decide_eq_true hz]; rfl
  · rw [decide_eq_false hz]
    have : valV (kI (ordL order)) (Sum.inr z) = none := by
      rw [valV_kI, List.find?_eq_none.mpr]
      · rfl
      · intro q hq
        simp only [decide_eq_true_eq]
        exact fun e => hz (by rw [← ordL_keys order]; exact List.mem_map.mpr ⟨q, hq, e⟩)
    rw [this]; rfl
theorem sortI_uniq {a b : List Int} (h : a.Perm b) (hs : a.Pairwise (· ≤ ·)) : a = sortI b := by
  have hb : (sortI b).Pairwise (· ≤ ·) := by
    have := List.pairwise_mergeSort (le := fun a b : Int => decide (a ≤ b)) (by simp only [decide_eq_true_eq]; intro a b c; omega) (by simp only [Bool.or_eq_true, decide_eq_true_eq]; intro a b; omega) b
    exact this.imp fun h => by simpa using h
  exact (h.trans (List.mergeSort_perm _ _).symm).eq_of_pairwise (fun x y _ _ h1 h2 => Int.le_antisymm h1 h2) hs hb
theorem putL_sub {lv : Lv Str} {x : Str} {v : Int} : ∀ z ∈ (putL lv x v).map (·.1), z = x ∨ z ∈ lv.map (·.1) := by
  intro z hz
  unfold putL at hz
  split at hz
  · rw [List.map_map] at hz
    obtain ⟨q, hq, e⟩ := List.mem_map.mp hz
    refine .inr (List.mem_map.mpr ⟨q, hq, ?_⟩)
    rw [← e]
    show q.1 = (if q.1 = x then (q.1, v) else q).1
    split <;> rfl
  · rw [List.map_append, List.mem_append] at hz
    rcases hz with q | q
    · exact .inr q
    · simp at q
      exact .inl q
theorem putL_nd {lv : Lv Str} {x : Str} {v : Int} (h : (lv.map (·.1)).Nodup) : ((putL lv x v).map (·.1)).Nodup := by
  by_cases hx : x ∈ lv.map (·.1)
  · have : (putL lv x v).map (·.1) = lv.map (·.1) := by
      unfold putL
      rw [if_pos]
      · rw [List.map_map]
        apply List.map_congr_left
        intro q _
        show (if q.1 = x then (q.1, v) else q).1 = q.1
        split <;> rfl
      · rw [List.any_eq_true]
        obtain ⟨q, hq, e⟩ := List.mem_map.mp hx
        exact ⟨q, hq, by simp [e]⟩
    rw [this]; exact h
  · rw [putL_new hx, List.map_append, List.nodup_append]
    refine ⟨h, by simp, ?_⟩
    intro a ha b hb
    simp at hb
    subst hb
    exact fun e => hx (e ▸ ha)
section
variable {P : Program} {w : World} {K : PySem.W.Frag} {mg : Str → Option Value} {base : Heap}
abbrev CK (K : PySem.W.Frag) : Addr := He.ga K "Blocks"
def ofF (l od lw sk fd : Addr) : List (Str × V) := [("struck", .ref l), ("order", .ref od), ("low", .ref lw), ("stack", .ref sk), ("found", .ref fd)]
def stV (l : List Nat) : List V := l.map fun n : Nat => V.int (n : Int)
/-- a search for blocks; H0: the heap ahead of it -/
structure BS (K : PySem.W.Frag) (H0 : Hp) (o dx l od lw sk fd : Addr) (ts : List Addr) (lvl : Lv Str) (names : List Str) (S : List (Stk Str)) (st : BSt Str) (H : Hp) : Prop where
  ob : H o = some (.ins (CK K) dx (ofF l od lw sk fd))
  same : Same H0 H
  fo : H0 o = none
  fod : H0 od = none
  flw : H0 lw = none
  fsk : H0 sk = none
  ffd : H0 fd = none
  li : LTs K H0 l (S.map sV)
  hod : H od = some (.dK (kI (ordL st.order)))
  hlw : H lw = some (.dK (kI lvl))
  lnd : (lvl.map (·.1)).Nodup
  lsb : ∀ z ∈ lvl.map (·.1), z ∈ names
  low : ∀ z : Str, valV (kI lvl) (Sum.inr z) = (st.low z).map V.int
  hsk : H sk = some (.lst (stV st.stack))
  hfd : H fd = some (.lst (ts.map V.ref))
  tsx : Al (fun t b => t ≠ sk ∧ t ≠ fd ∧ H t = some (.lst (b.map V.int))) ts st.found
  n1 : od ≠ lw
  n2 : sk ≠ fd
section
variable {H0 H H' : Hp} {o dx l od lw sk fd : Addr} {ts : List Addr} {lvl : Lv Str} {names : List Str} {S : List (Stk Str)} {st : BSt Str} {σ : L2.St} {Q : VK} {v : Int} {here : Str}
theorem BS.next (b : BS K H0 o dx l od lw sk fd ts lvl names S st H) (e : Same H H') : BS K H0 o dx l od lw sk fd ts lvl names S st H' :=
  ⟨e _ _ b.ob, b.same.trans e, b.fo, b.fod, b.flw, b.fsk, b.ffd, b.li, e _ _ b.hod, e _ _ b.hlw, b.lnd, b.lsb, b.low, e _ _ b.hsk, e _ _ b.hfd, b.tsx.imp fun _ _ _ z => ⟨z.1, z.2.1, e _ _ z.2.2⟩, b.n1, b.n2⟩
theorem BS.rd (T : Tx K mg) (b : BS K H0 o dx l od lw sk fd ts lvl names S st H) (hσ : σ[0]? = some (some (.ref o))) {f : Str} {v : V} (hn : NoAttr K (CK K) f) (hl : (ofF l od lw sk fd).lookup f = some v) (q : Q v H) : tFld K (tVar 0) f σ H Q := ⟨_, hσ, o, _, dx, _, _, rfl, b.ob, T.cl_Blocks, hn, hl, q⟩
theorem ho_ne {a b : Addr} {u v : HO} (h : H a = some u) (h2 : H b = some v) (n : u ≠ v) : a ≠ b := fun z => n (by rw [z, h2] at h; exact (Option.some.inj h).symm)
theorem BS.ond (b : BS K H0 o dx l od lw sk fd ts lvl names S st H) : o ≠ od ∧ o ≠ lw ∧ o ≠ sk ∧ o ≠ fd :=
  ⟨ho_ne b.ob b.hod nofun, ho_ne b.ob b.hlw nofun, ho_ne b.ob b.hsk nofun, ho_ne b.ob b.hfd nofun⟩
theorem BS.dl (b : BS K H0 o dx l od lw sk fd ts lvl names S st H) : od ≠ sk ∧ od ≠ fd ∧ lw ≠ sk ∧ lw ≠ fd :=
  ⟨ho_ne b.hod b.hsk nofun, ho_ne b.hod b.hfd nofun, ho_ne b.hlw b.hsk nofun, ho_ne b.hlw b.hfd nofun⟩
theorem upd_fresh {p : Addr} {u : HO} (e : Same H0 H) (h : H0 p = none) : Same H0 (upd H p u) := L2.Same.mut e h
theorem al_upd {p : Addr} {u : HO} {us : List Addr} {bs : List (List Int)} (hp : ∀ xs, H p ≠ some (.lst xs)) (h : Al (fun t b => t ≠ sk ∧ t ≠ fd ∧ H t = some (.lst (b.map V.int))) us bs) : Al (fun t b => t ≠ sk ∧ t ≠ fd ∧ upd H p u t = some (.lst (b.map V.int))) us bs :=
  h.imp fun t b _ z => ⟨z.1, z.2.1, by rw [upd_ne fun q => hp _ (q ▸ z.2.2)]; exact z.2.2⟩
/-- self.order[here] = len(self.order); self.low[here] = .. : both dicts -/
theorem BS.enter (b : BS K H0 o dx l od lw sk fd ts lvl names S st H) (hn : here ∉ st.order) (hm : here ∈ names) :
    BS K H0 o dx l od lw sk fd ts (putL lvl here (st.order.length : Int)) names S (enterM here st) (upd (upd H od (.dK (putK (kI (ordL st.order)) (Sum.inr here) (.int (st.order.length : Nat))))) lw (.dK (putK (kI lvl) (Sum.inr here) (.int (st.order.length : Nat))))) := by
  obtain ⟨o1, o2, o3, o4⟩ := b.ond
  obtain ⟨d1, d2, d3, d4⟩ := b.dl
  have hl1 : ∀ xs, H od ≠ some (.lst xs) := fun xs z => by rw [b.hod] at z; cases z
  have hl2 : ∀ xs, (upd H od (.dK (putK (kI (ordL st.order)) (Sum.inr here) (.int (st.order.length : Nat))))) lw ≠ some (.lst xs) := fun xs z => by rw [upd_ne (Ne.symm b.n1), b.hlw] at z; cases z
  refine ⟨?_, upd_fresh (upd_fresh b.same b.fod) b.flw, b.fo, b.fod, b.flw, b.fsk, b.ffd, b.li, ?_, ?_, putL_nd b.lnd, fun z hz => ?_, fun z => ?_, ?_, ?_, al_upd hl2 (al_upd hl1 b.tsx), b.n1, b.n2⟩
  · rw [upd_ne o2, upd_ne o1]; exact b.ob
  · rw [upd_ne b.n1, upd_same, kI_put, putL_new (by rw [ordL_keys]; exact hn)]
    show _ = some (HO.dK (kI (ordL (st.order ++ [here]))))
    rw [ordL_snoc]
  · rw [upd_same, kI_put]
  · rcases putL_sub z hz with q | q
    · rw [q]; exact hm
    · exact b.lsb z q
  · rw [← kI_put, PK.put b.low]
    show _ = Option.map V.int (putO st.low here (st.order.length : Int) z)
    unfold putO
    split <;> rfl
  · rw [upd_ne d3.symm, upd_ne d1.symm]; exact b.hsk
  · rw [upd_ne d4.symm, upd_ne d2.symm]; exact b.hfd
theorem BS.setlow (b : BS K H0 o dx l od lw sk fd ts lvl names S st H) (hm : here ∈ names) : BS K H0 o dx l od lw sk fd ts (putL lvl here v) names S { st with low := putO st.low here v } (upd H lw (.dK (putK (kI lvl) (Sum.inr here) (.int v)))) := by
  obtain ⟨o1, o2, o3, o4⟩ := b.ond
  obtain ⟨d1, d2, d3, d4⟩ := b.dl
  have hl2 : ∀ xs, H lw ≠ some (.lst xs) := fun xs z => by rw [b.hlw] at z; cases z
  refine ⟨?_, upd_fresh b.same b.flw, b.fo, b.fod, b.flw, b.fsk, b.ffd, b.li, ?_, ?_, putL_nd b.lnd, fun z hz => ?_, fun z => ?_, ?_, ?_, al_upd hl2 b.tsx, b.n1, b.n2⟩
  · rw [upd_ne o2]; exact b.ob
  · rw [upd_ne b.n1]; exact b.hod
  · rw [upd_same, kI_put]
  · rcases putL_sub z hz with q | q
    · rw [q]; exact hm
    · exact b.lsb z q
  · rw [← kI_put, PK.put b.low]
    show _ = Option.map V.int (putO st.low here v z)
    unfold putO
    split <;> rfl
  · rw [upd_ne d3.symm]; exact b.hsk
  · rw [upd_ne d4.symm]; exact b.hfd
theorem BS.push (b : BS K H0 o dx l od lw sk fd ts lvl names S st H) {i : Nat} : BS K H0 o dx l od lw sk fd ts lvl names S { st with stack := st.stack ++ [i] } (upd H sk (.lst (stV st.stack ++ [.int (i : Int)]))) := by
  obtain ⟨o1, o2, o3, o4⟩ := b.ond
  obtain ⟨d1, d2, d3, d4⟩ := b.dl
  refine ⟨?_, upd_fresh b.same b.fsk, b.fo, b.fod, b.flw, b.fsk, b.ffd, b.li, ?_, ?_, b.lnd, b.lsb, b.low, ?_, ?_, b.tsx.imp fun t c _ z => ⟨z.1, z.2.1, by rw [upd_ne z.1]; exact z.2.2⟩, b.n1, b.n2⟩
  · rw [upd_ne o3]; exact b.ob
  · rw [upd_ne d1]; exact b.hod
  · rw [upd_ne d3]; exact b.hlw
  · rw [upd_same]; unfold stV; rw [List.map_append]; rfl
  · rw [upd_ne b.n2.symm]; exact b.hfd
theorem BS.app (b : BS K H0 o dx l od lw sk fd ts lvl names S st H) {t : Addr} {c : List Int} (ht : H t = some (.lst (c.map V.int))) (n1 : t ≠ sk) (n2 : t ≠ fd) :
    BS K H0 o dx l od lw sk fd (ts ++ [t]) lvl names S { st with found := st.found ++ [c] } (upd H fd (.lst (ts.map V.ref ++ [.ref t]))) := by
  obtain ⟨o1, o2, o3, o4⟩ := b.ond
  obtain ⟨d1, d2, d3, d4⟩ := b.dl
  refine ⟨?_, upd_fresh b.same b.ffd, b.fo, b.fod, b.flw, b.fsk, b.ffd, b.li, ?_, ?_, b.lnd, b.lsb, b.low, ?_, ?_, (b.tsx.imp fun t c _ z => ⟨z.1, z.2.1, by rw [upd_ne z.2.1]; exact z.2.2⟩).append ⟨⟨n1, n2, by rw [upd_ne n2]; exact ht⟩, trivial⟩, b.n1, b.n2⟩
  · rw [upd_ne o4]; exact b.ob
  · rw [upd_ne d2]; exact b.hod
  · rw [upd_ne d4]; exact b.hlw
  · rw [upd_ne b.n2]; exact b.hsk
  · rw [upd_same, List.map_append]; rfl
theorem BS.newstack (b : BS K H0 o dx l od lw sk fd ts lvl names S st H) {p : Addr} (hp : H p = none) (s2 : List Nat) :
    BS K H0 o dx l od lw p fd ts lvl names S { st with stack := s2 } (upd (upd H p (.lst (stV s2))) o (.ins (CK K) dx (ofF l od lw p fd))) := by
  obtain ⟨o1, o2, o3, o4⟩ := b.ond
  have hpo : p ≠ o := fun z => by rw [z, b.ob] at hp; cases hp
  have hpd : p ≠ od := fun z => by rw [z, b.hod] at hp; cases hp
  have hpw : p ≠ lw := fun z => by rw [z, b.hlw] at hp; cases hp
  have hpf : p ≠ fd := fun z => by rw [z, b.hfd] at hp; cases hp
  refine ⟨upd_same, upd_fresh (upd_fresh b.same (b.same.back hp)) b.fo, b.fo, b.fod, b.flw, b.same.back hp, b.ffd, b.li, ?_, ?_, b.lnd, b.lsb, b.low, ?_, ?_, b.tsx.imp fun t c _ z => ?_, b.n1, hpf⟩
  · rw [upd_ne o1.symm, upd_ne hpd.symm]; exact b.hod
  · rw [upd_ne o2.symm, upd_ne hpw.symm]; exact b.hlw
  · rw [upd_ne hpo, upd_same]
  · rw [upd_ne o4.symm, upd_ne hpf.symm]; exact b.hfd
  · have h1 : t ≠ p := fun e => by rw [← e, z.2.2] at hp; cases hp
    have h2 : t ≠ o := fun e => by have h3 := z.2.2; rw [e, b.ob] at h3; cases h3
    exact ⟨h1, z.2.1, by rw [upd_ne h2, upd_ne h1]; exact z.2.2⟩
theorem BS.flen (b : BS K H0 o dx l od lw sk fd ts lvl names S st H) : ts.length = st.found.length := b.tsx.length
end
theorem vi_lens {names : List Str} {S : List (Stk Str)} {oo : List Str} {st : BSt Str} (h : VI names S oo st) : st.order.length ≤ names.length ∧ st.stack.length ≤ S.length ∧ st.found.length ≤ names.length := by
  have h1 := nodup_len h.ond h.osub
  have h2 : st.stack.length ≤ (List.range S.length).length := nodup_len h.snd fun i hi => by
    obtain ⟨s, hs, _⟩ := h.sin i hi
    exact List.mem_range.mpr (List.getElem?_eq_some_iff.mp hs).1
  rw [List.length_range] at h2
  exact ⟨h1, h2, Nat.le_trans h.fl h1⟩
theorem idx_at {l : List Nat} {i : Nat} (h : i ∈ l) : (stV l)[l.idxOf i]? = some (.int (i : Int)) := by
  have hlt := List.idxOf_lt_length_iff.mpr h
  unfold stV
  rw [List.getElem?_map, List.getElem?_eq_getElem hlt, List.getElem_idxOf hlt]; rfl
theorem idx_no {l : List Nat} {i m : Nat} {z : V} (h : m < l.idxOf i) (e : (stV l)[m]? = some z) : eqV z (.int (i : Int)) = false := by
  obtain ⟨n, hn, rfl⟩ := get_map e
  obtain ⟨hm, rfl⟩ := List.getElem?_eq_some_iff.mp hn
  have h1 := List.not_of_lt_findIdx h
  show ((l[m] : Int) == (i : Int)) = false
  rw [beq_eq_false_iff_ne]
  intro q
  exact Bool.false_ne_true (h1.symm.trans (beq_iff_eq.mpr (Int.ofNat.inj q)))
theorem st_flat (l : List Nat) : (stV l).all flatV = true := by simp [stV, List.all_map, flatV]
theorem cut_stD {l : List Nat} {k : Nat} (h : k ≤ l.length) : cutV (stV l) (some (k : Int)) none = ((l.drop k).map fun j : Nat => (j : Int)).map V.int := by
  rw [cut_drop _ _ (by unfold stV; rw [List.length_map]; exact h)]
  unfold stV
  rw [← List.map_drop, List.map_map]; rfl
theorem cut_stT {l : List Nat} {k : Nat} (h : k ≤ l.length) : cutV (stV l) none (some (k : Int)) = stV (l.take k) := by
  rw [cut_take _ _ (by unfold stV; rw [List.length_map]; exact h)]
  unfold stV
  rw [← List.map_take]
def spClose (K : PySem.W.Frag) : Sp := fun vs H Q _ => ∃ H0 o dx l od lw sk fd ts lvl names S st i, vs = [.ref o, .int ((i : Nat) : Int)] ∧ BS K H0 o dx l od lw sk fd ts lvl names S st H ∧ i ∈ st.stack ∧ st.stack.length ≤ 100 ∧ st.found.length ≤ 100 ∧
  ∀ H' sk' ts', BS K H0 o dx l od lw sk' fd ts' lvl names S (closeM i st) H' → Q .non H'
theorem ok_close (T : Tx K mg) : DefOk P w K mg base 1 (He.ma K (CK K) "close") ["self", "at"] [] (spClose K) := by
  refine defOk T.f_Blocks_close sc_Blocks_close (fun _ _ _ _ _ _ us hl => match us, hl with | [_, _], _ => rfl) (fun vs H Q E h => by obtain ⟨_, _, _, _, _, _, _, _, _, _, _, _, _, _, rfl, _⟩ := h; rfl) fun cdv A outer s H vs Q E hr h => ?_
  obtain ⟨H0, o, dx, l, od, lw, sk, fd, ts, lvl, names, S, st, i, rfl, b, hi, hs, hf, hQ⟩ := h
  refine ⟨_, ((pss_cons (ps_set (i := 2) sc_Blocks_close.nd rfl (.inl rfl) (pe_bm PySem.F.plainAttrs_list PySem.F.slot_list_index PySem.F.type_list_index mt_index (pe_fld (pv 0) rfl) (pa_cons (pv 1) pa_nil)))
 (pss_cons (ps_expr (pe_bm PySem.F.plainAttrs_list PySem.F.slot_list_append PySem.F.type_list_append mt_append (pe_fld (pv 0) rfl) (pa_cons (pe_callB cr_sortedI (by rfl) T.b_sorted (by decide +kernel) (pa_cons (pe_slice sl_list (pe_fld (pv 0) rfl) (po_some (pv 2)) po_none) pa_nil)) pa_nil)))
 (pss_one (ps_fld (pv 0) (pe_slice sl_list (pe_fld (pv 0) rfl) po_none (po_some (pv 2))) rfl))))), ?_⟩
  have hlt := List.idxOf_lt_length_iff.mpr hi
  refine ⟨_, rfl, o, _, dx, _, _, rfl, b.ob, T.cl_Blocks, T.a_Blocks_stack, rfl, .inl ⟨rfl, _, SqL.of b.hsk⟩, _, rfl, sk, _, _, st.stack.idxOf i, _, rfl, rfl, SqL.of b.hsk, rfl, st_flat _, idx_at hi, (by show ((i : Int) == (i : Int)) = true; simp), fun m z hm hz => idx_no hm hz, ?_⟩
  refine ⟨_, rfl, o, _, dx, _, _, rfl, b.ob, T.cl_Blocks, T.a_Blocks_found, rfl, .inl ⟨rfl, _, SqL.of b.hfd⟩, ⟨_, rfl, o, _, dx, _, _, rfl, b.ob, T.cl_Blocks, T.a_Blocks_stack, rfl, _, rfl, _, rfl, sk, _, rfl, SqL.of b.hsk, fun t1 n1 => ?_⟩⟩
  rw [cut_stD (Nat.le_of_lt hlt)]
  have e1 := L2.Same.new n1 (o := .lst (((st.stack.drop (st.stack.idxOf i)).map fun j : Nat => (j : Int)).map V.int))
  refine ⟨t1, _, rfl, SqL.of upd_same, fun ns' t2 hp hsrt n2 => ?_⟩
  have b2 := (b.next e1).next (L2.Same.new n2 (o := .lst (ns'.map V.int)))
  have m1 : t2 ≠ sk := (ne_of_none (b.next e1).hsk n2).symm
  have m2 : t2 ≠ fd := (ne_of_none (b.next e1).hfd n2).symm
  have ht2 : upd (upd H t1 (.lst (((st.stack.drop (st.stack.idxOf i)).map fun j : Nat => (j : Int)).map V.int))) t2 (.lst (ns'.map V.int)) t2 = some (.lst (ns'.map V.int)) := upd_same
  have hns := sortI_uniq hp hsrt
  generalize upd (upd H t1 (.lst (((st.stack.drop (st.stack.idxOf i)).map fun j : Nat => (j : Int)).map V.int))) t2 (.lst (ns'.map V.int)) = H2 at b2 ht2 ⊢
  have hfl := b.flen
  refine ⟨fd, _, _, rfl, rfl, b2.hfd, by rw [List.length_map, sizeLine_eq]; omega, ?_⟩
  have b3 := b2.app ht2 m1 m2
  refine ⟨_, rfl, o, _, dx, _, _, rfl, b3.ob, T.cl_Blocks, T.a_Blocks_stack, rfl, _, rfl, _, rfl, sk, _, rfl, SqL.of b3.hsk, fun t3 n3 => ?_⟩
  rw [show cutV (stV st.stack) none (some ((st.stack.idxOf i : Nat) : Int)) = stV (st.stack.take (st.stack.idxOf i)) from cut_stT (Nat.le_of_lt hlt)]
  have b4 := b3.newstack n3 (st.stack.take (st.stack.idxOf i))
  have ho3 : t3 ≠ o := fun z => by rw [z, b3.ob] at n3; cases n3
  refine ⟨_, rfl, o, _, dx, _, rfl, (by rw [upd_ne ho3.symm]; exact b3.ob), T.cl_Blocks, T.a_Blocks_stack, by show (5 : Nat) < 1000; decide, ?_⟩
  rw [hns] at b4
  exact hQ _ t3 (ts ++ [t2]) b4
theorem t_there {σ : L2.St} {H : Hp} {x a c : Str} {Q : VK} (h1 : σ[1]? = some (some (.str x))) (h4 : σ[4]? = some (some (.str a))) (h5 : σ[5]? = some (some (.str c))) (q : ∀ z, z = (if x = a then c else a) → Q (.str z) H) :
    tIf (tTest (tOp rEq (tVar 1) (tVar 4))) (tVar 5) (tVar 4) σ H Q := by
  refine t_eqS h1 h4 ?_
  exact iteB (fun e => ⟨_, h5, q _ (if_pos e).symm⟩) fun e => ⟨_, h4, q _ (if_neg e).symm⟩
theorem low_some {names : List Str} {S : List (Stk Str)} {oo : List Str} {st : BSt Str} {z : Str} (h : VI names S oo st) (hz : z ∈ st.order) : st.low z = some (lowD st z) := by
  obtain ⟨v, hv⟩ := Option.isSome_iff_exists.mp ((h.low z).mpr hz)
  unfold lowD
  rw [hv]; rfl
def spVisit (K : PySem.W.Frag) (n : Nat) : Sp := fun vs H Q _ => ∃ H0 o dx l od lw sk fd ts lvl names S st here came, vs = [.ref o, .str here, .int came] ∧ BS K H0 o dx l od lw sk fd ts lvl names S st H ∧ Ends names S ∧ Pre names S n here came st ∧ names.length ≤ 10 ∧ S.length ≤ 20 ∧
  ∀ H' sk' ts' lvl', BS K H0 o dx l od lw sk' fd ts' lvl' names S (visitM S n here came st) H' → Q .non H'
theorem ok_visit (T : Tx K mg) : ∀ n, DefOk P w K mg base (n + 2) (He.ma K (CK K) "visit") ["self", "here", "came"] [] (spVisit K n)
  | 0 => by
    have hex : ∀ vs H Q E, spVisit K 0 vs H Q E → False := fun vs H Q E h => by
      obtain ⟨H0, o, dx, l, od, lw, sk, fd, ts, lvl, names, S, st, here, came, rfl, b, hE, hp, _⟩ := h
      have h1 := hp.fuel
      have h2 : (st.order ++ [here]).length ≤ names.length := nodup_len (enter_LI hp).vi.ond (enter_LI hp).vi.osub
      rw [List.length_append] at h2
      simp at h2
      omega
    exact defOk T.f_Blocks_visit sc_Blocks_visit (fun _ _ _ _ _ _ us hl => match us, hl with | [_, _, _], _ => rfl) (fun vs H Q E h => (hex vs H Q E h).elim) fun cdv A outer s H vs Q E hr h => (hex vs H Q E h).elim
  | n + 1 => by
    have D_Blocks_close := ok_close (P := P) (w := w) (base := base) T
    have D_Blocks_visit := ok_visit T n
    refine defOk T.f_Blocks_visit sc_Blocks_visit (fun _ _ _ _ _ _ us hl => match us, hl with | [_, _, _], _ => rfl) (fun vs H Q E h => by obtain ⟨_, _, _, _, _, _, _, _, _, _, _, _, _, _, _, rfl, _⟩ := h; rfl) fun cdv A outer s H vs Q E hr h => ?_
    obtain ⟨H0, o, dx, l, od, lw, sk, fd, ts, lvl, names, S, st, here, came, rfl, b, hE, hp, hn10, hs20, hQ⟩ := h
    refine ⟨_, ((pss_cons (ps_dput (hu_of hr) (pe_fld (pv 0) rfl) (pv 1) (pe_callB call_lenD (by rfl) T.b_len (by decide +kernel) (pa_cons (pe_fld (pv 0) rfl) pa_nil)) rfl)
 (pss_cons (ps_dput (hu_of hr) (pe_fld (pv 0) rfl) (pv 1) (pe_dget (hu_of hr) (pe_fld (pv 0) rfl) (pv 1) (fun _ _ => rfl)) rfl)
 (pss_one (ps_for PassesOwn.never rfl (pi_enum (by rfl) T.b_enumerate (pa_cons (pe_fld (pv 0) rfl) pa_nil)) (pg_tup rfl (pgs_cons (pg_name (i := 3) sc_Blocks_visit.nd rfl (.inl rfl) (.inl rfl)) (pgs_cons (pg_tup rfl (pgs_cons (pg_name (i := 4) sc_Blocks_visit.nd rfl (.inl rfl) (.inl rfl)) (pgs_cons (pg_name (i := 5) sc_Blocks_visit.nd rfl (.inl rfl) (.inl rfl)) (pgs_cons (pg_name (i := 6) sc_Blocks_visit.nd rfl (.inl rfl) (.inl rfl)) pgs_nil)))) pgs_nil)))
 (pss_one (ps_if (PW.pt (pw_and (pt_cmpR op_ne (pv 3) (pv 2) (nomark _)) (pw_and1 (pt_cmpR (op_inK K) (pv 1) (pe_tup (pa_cons (pv 4) (pa_cons (pv 5) pa_nil))) rfl))))
 (pss_cons (ps_set (i := 7) sc_Blocks_visit.nd rfl (.inl rfl) (pe_ifExp (pt_cmpR op_eq (pv 1) (pv 4) (nomark _)) (pv 5) (pv 4)))
 (pss_one (ps_if (pt_cmp (pc_dnotin (hu_of hr) (pv 7) (pe_fld (pv 0) rfl)))
 (pss_cons (ps_expr (pe_bm PySem.F.plainAttrs_list PySem.F.slot_list_append PySem.F.type_list_append mt_append (pe_fld (pv 0) rfl) (pa_cons (pv 3) pa_nil)))
 (pss_cons (ps_expr (pe_methD (pv 0) T.cl_Blocks T.m_Blocks_visit D_Blocks_visit hr (pa_cons (pv 7) (pa_cons (pv 3) pa_nil))))
 (pss_cons (ps_dput (hu_of hr) (pe_fld (pv 0) rfl) (pv 1) (pe_callB (call_min2 rfl) (by rfl) T.b_min (by decide +kernel) (pa_cons (pe_dget (hu_of hr) (pe_fld (pv 0) rfl) (pv 1) (fun _ _ => rfl)) (pa_cons (pe_dget (hu_of hr) (pe_fld (pv 0) rfl) (pv 7) (fun _ _ => rfl)) pa_nil))) rfl)
 (pss_one (ps_if (pt_cmpR op_ge (pe_dget (hu_of hr) (pe_fld (pv 0) rfl) (pv 7) (fun _ _ => rfl)) (pe_dget (hu_of hr) (pe_fld (pv 0) rfl) (pv 1) (fun _ _ => rfl)) (nomark _))
 (pss_one (ps_expr (pe_methD (pv 0) T.cl_Blocks T.m_Blocks_close D_Blocks_close hr (pa_cons (pv 3) pa_nil)))) pss_nil))))) (pss_one (ps_if (pt_cmpR op_lt (pe_dget (hu_of hr) (pe_fld (pv 0) rfl) (pv 7) (fun _ _ => rfl)) (pe_dget (hu_of hr) (pe_fld (pv 0) rfl) (pv 1) (fun _ _ => rfl)) (nomark _))
 (pss_cons (ps_expr (pe_bm PySem.F.plainAttrs_list PySem.F.slot_list_append PySem.F.type_list_append mt_append (pe_fld (pv 0) rfl) (pa_cons (pv 3) pa_nil)))
 (pss_one (ps_dput (hu_of hr) (pe_fld (pv 0) rfl) (pv 1) (pe_callB (call_min2 rfl) (by rfl) T.b_min (by decide +kernel) (pa_cons (pe_dget (hu_of hr) (pe_fld (pv 0) rfl) (pv 1) (fun _ _ => rfl)) (pa_cons (pe_dget (hu_of hr) (pe_fld (pv 0) rfl) (pv 7) (fun _ _ => rfl)) pa_nil))) rfl))) pss_nil))))) pss_nil))))))), ?_⟩
    obtain ⟨o1, o2, o3, o4⟩ := b.ond
    have hkl : (kI (ordL st.order)).length = st.order.length := by simp [kI, ordL]
    have hvl := vi_lens hp.vi
    have hll : (kI lvl).length ≤ 10 := by
      have := nodup_len b.lnd b.lsb
      rw [List.length_map] at this
      unfold kI
      rw [List.length_map]; omega
    refine ⟨_, rfl, o, _, dx, _, _, rfl, b.ob, T.cl_Blocks, T.a_Blocks_order, rfl, od, _, rfl, b.hod, ?_⟩
    rw [hkl]
    refine ⟨_, rfl, o, _, dx, _, _, rfl, b.ob, T.cl_Blocks, T.a_Blocks_order, rfl, _, rfl, od, _, rfl, DPut.k (k := .inr here) b.hod (by rw [sizeLine_eq]; omega), ?_⟩
    have hob1 : upd H od (.dK (putK (kI (ordL st.order)) (Sum.inr here) (.int (st.order.length : Nat)))) o = some (.ins (CK K) dx (ofF l od lw sk fd)) := by rw [upd_ne o1]; exact b.ob
    have hlw1 : upd H od (.dK (putK (kI (ordL st.order)) (Sum.inr here) (.int (st.order.length : Nat)))) lw = some (.dK (kI lvl)) := by rw [upd_ne (Ne.symm b.n1)]; exact b.hlw
    have hv1 : some (V.int (st.order.length : Nat)) = valV (putK (kI (ordL st.order)) (Sum.inr here) (.int (st.order.length : Nat))) (Sum.inr here) := by rw [PK.put (fun y => rfl) here, if_pos rfl]
    refine ⟨_, rfl, o, _, dx, _, _, rfl, hob1, T.cl_Blocks, T.a_Blocks_order, rfl, _, rfl, od, .int (st.order.length : Nat), rfl, .inl ⟨_, .inr here, .inl upd_same, rfl, hv1⟩, ?_⟩
    refine ⟨_, rfl, o, _, dx, _, _, rfl, hob1, T.cl_Blocks, T.a_Blocks_low, rfl, _, rfl, lw, _, rfl, DPut.k (k := .inr here) hlw1 (by rw [sizeLine_eq]; omega), ?_⟩
    have bE := b.enter hp.new hp.mem
    generalize upd (upd H od (.dK (putK (kI (ordL st.order)) (Sum.inr here) (.int (st.order.length : Nat))))) lw (.dK (putK (kI lvl) (Sum.inr here) (.int (st.order.length : Nat)))) = H1 at bE ⊢
    obtain ⟨us, hlq0, htu0⟩ := b.li
    have hul := htu0.length
    rw [List.length_map] at hul
    refine ⟨_, rfl, o, _, dx, _, _, rfl, bE.ob, T.cl_Blocks, T.a_Blocks_struck, rfl, l, us.map V.ref, rfl, bE.same.seq hlq0, ?_⟩
    have F0 : ∀ i t, S[i]? = some t → (S.zipIdx.take (i + 1)).foldl (visit1 (visitM S n) here came) (enterM here st) = visit1 (visitM S n) here came ((S.zipIdx.take i).foldl (visit1 (visitM S n) here came) (enterM here st)) (t, i) := fun i t ht => by
      rw [take_s (zipIdx_at ht), List.foldl_append]; rfl
    refine for_it (walk_enum (xs := us.map V.ref)) (fun i σ H' => (∃ c3 c4 c5 c6 c7, σ = [some (.ref o), some (.str here), some (.int came), c3, c4, c5, c6, c7]) ∧ ∃ stI, stI = (S.zipIdx.take i).foldl (visit1 (visitM S n) here came) (enterM here st) ∧ LI names S here st i stI ∧ ∃ sk' ts' lvl', BS K H0 o dx l od lw sk' fd ts' lvl' names S stI H')
      ⟨⟨_, _, _, _, _, rfl⟩, _, rfl, enter_LI hp, _, _, _, bE⟩ (fun i σ H' _ p => ?_) (fun i y σ H3 H4 hi hPv hy => ?_) fun σ H3 hPv => ?_
    · obtain ⟨_, _, _, _, _, _, _, bI⟩ := p
      exact bI.same.seq hlq0
    · obtain ⟨⟨c3, c4, c5, c6, c7, rfl⟩, stI, hst, hLI, sk1, ts1, lvl1, bI⟩ := hPv
      obtain ⟨tp, v1, v2, rfl, ntp, rfl, h1, h2⟩ := hy
      cases h1
      obtain ⟨m, hm, rfl⟩ := get_map h2
      obtain ⟨r, hr1, hrm0⟩ := htu0.get hm
      obtain ⟨⟨xa, xb, cnt⟩, ht, rfl⟩ := get_map hr1
      have hF := F0 i _ ht
      rw [← hst] at hF
      have e4 := L2.Same.new ntp (o := .tup [.int (i : Nat), .ref m])
      have b4 := bI.next e4
      have hrm := b4.same.tup hrm0
      have htp : SqT K (upd H3 tp (.tup [.int (i : Nat), .ref m])) tp [.int (i : Nat), .ref m] := SqT.of upd_same
      generalize upd H3 tp (.tup [.int (i : Nat), .ref m]) = H4 at b4 hrm htp ⊢
      refine ⟨tp, _, rfl, htp, rfl, _, _, rfl, _, _, rfl, m, _, rfl, hrm, rfl, _, _, rfl, _, _, rfl, _, _, rfl, rfl, rfl, ?_⟩
      have hLn := step_LI hE hp hLI ht fun there j st' hp' => visit_post hE n there j st' hp'
      have hvI := vi_lens hLI.vi
      have hlI : (kI lvl1).length ≤ 10 := by
        have := nodup_len bI.lnd bI.lsb
        rw [List.length_map] at this
        unfold kI
        rw [List.length_map]; omega
      clear bI htp
      rw [← hF] at hLn
      have done : ∀ {H' : Hp} {c3 c4 c5 c6 c7 : Option V} {sk' ts' lvl'}, BS K H0 o dx l od lw sk' fd ts' lvl' names S (visit1 (visitM S n) here came stI ((xa, xb, cnt), i)) H' → (∃ d3 d4 d5 d6 d7, [some (.ref o), some (.str here), some (.int came), c3, c4, c5, c6, c7] = [some (V.ref o), some (.str here), some (.int came), d3, d4, d5, d6, d7]) ∧ ∃ stI, stI = (S.zipIdx.take (i + 1)).foldl (visit1 (visitM S n) here came) (enterM here st) ∧ LI names S here st (i + 1) stI ∧ ∃ sk' ts' lvl', BS K H0 o dx l od lw sk' fd ts' lvl' names S stI H' :=
        fun hb => ⟨⟨_, _, _, _, _, rfl⟩, _, rfl, hLn, _, _, _, by rw [hF]; exact hb⟩
      dsimp only
      refine ⟨_, rfl, _, rfl, rfl, _, rfl, ?_⟩
      by_cases hc1 : ((i : Nat) : Int) = came
      · have hv : visit1 (visitM S n) here came stI ((xa, xb, cnt), i) = stI := by
          unfold visit1
          rw [if_neg fun q => q.1 hc1]
        have hb : decide (V.int (i : Nat) = V.int came) = true := decide_eq_true (by rw [hc1])
        show if (!decide (V.int (i : Nat) = V.int came)) = true then _ else _
        rw [hb]
        exact iteF (iteF (done (by rw [hv]; exact b4)))
      have hb : decide (V.int (i : Nat) = V.int came) = false := decide_eq_false fun q => hc1 (V.int.inj q)
      show if (!decide (V.int (i : Nat) = V.int came)) = true then _ else _
      rw [hb]
      refine iteT ?_
      refine t_inS2 (x := here) (ns := [xa, xb]) rfl (fun Q q => tup2 rfl rfl Q fun t nt => q t _ (L2.Same.new nt) (.inr (SqT.of upd_same))) fun H5 e5 => ?_
      have b5 := b4.next e5
      by_cases hc2 : here = xa ∨ here = xb
      case neg =>
        have hv : visit1 (visitM S n) here came stI ((xa, xb, cnt), i) = stI := by
          unfold visit1
          rw [if_neg fun q => hc2 q.2]
        refine iteN (c := here ∈ [xa, xb]) (by simpa using hc2) (done (by rw [hv]; exact b5))
      refine iteY (c := here ∈ [xa, xb]) (by simpa using hc2) ?_
      refine t_there rfl rfl rfl fun there hth => ?_
      have hh : (here = (xa, xb, cnt).1 ∧ there = (xa, xb, cnt).2.1) ∨ (here = (xa, xb, cnt).2.1 ∧ there = (xa, xb, cnt).1) := by
        by_cases e : here = xa
        · rw [if_pos e] at hth
          exact .inl ⟨e, hth⟩
        · rw [if_neg e] at hth
          exact .inr ⟨hc2.resolve_left e, hth⟩
      have hv : visit1 (visitM S n) here came stI ((xa, xb, cnt), i) = if there ∉ stI.order then treeM (visitM S n) here there i stI else if stI.order.idxOf there < stI.order.idxOf here then { stI with stack := stI.stack ++ [i], low := putO stI.low here (minI (lowD stI here) (stI.order.idxOf there : Int)) } else stI := by
        unfold visit1
        rw [if_pos ⟨hc1, hc2⟩]
        dsimp only
        rw [← hth]
      have hho : here ∈ stI.order := hLI.sub here (by simp)
      have hhm : here ∈ names := hLI.vi.osub _ hho
      have hsl : (stV stI.stack).length < sizeLine := by unfold stV; rw [List.length_map, sizeLine_eq]; omega
      refine ⟨_, rfl, _, rfl, o, _, dx, _, _, rfl, b5.ob, T.cl_Blocks, T.a_Blocks_order, rfl, od, _, rfl, DGet.k (k := .inr there) b5.hod, _, rfl, ?_⟩
      rw [ordL_isSome]
      by_cases hn : there ∉ stI.order
      · rw [decide_eq_false hn]
        rw [if_pos hn] at hv
        refine iteT ?_
        have hni : i ∉ stI.stack := fun z => by
          obtain ⟨s, hs, q1, q2⟩ := hLI.vi.sin i z
          rw [ht] at hs
          cases hs
          rcases hh with ⟨_, e⟩ | ⟨_, e⟩
          · exact hn (e ▸ q2)
          · exact hn (e ▸ q1)
        have pr := pre_rec hE hp hLI ht hh hn
        have post := visit_post hE n there i _ pr
        refine ⟨_, rfl, o, _, dx, _, _, rfl, b5.ob, T.cl_Blocks, T.a_Blocks_stack, rfl, .inl ⟨rfl, _, SqL.of b5.hsk⟩, _, rfl, sk1, _, _, rfl, rfl, b5.hsk, hsl, ?_⟩
        have b6 := b5.push (i := i)
        refine ⟨_, rfl, o, dx, _, rfl, b6.ob, rfl, _, rfl, _, rfl, H0, o, dx, l, od, lw, sk1, fd, ts1, lvl1, names, S, { stI with stack := stI.stack ++ [i] }, there, (i : Int), rfl, b6, hE, pr, hn10, hs20, fun H7 sk7 ts7 lvl7 b7 => ?_⟩
        unfold treeM at hv
        dsimp only at hv
        obtain ⟨hi1, _⟩ := rec_at hni post
        generalize visitM S n there (i : Int) { stI with stack := stI.stack ++ [i] } = s1 at post b7 hv hi1
        have h1 := post.sub here (List.mem_append_left _ hho)
        have h2 := post.sub there (List.mem_append_right _ (by simp))
        have hs1 := vi_lens post.vi
        have hl7 : (kI lvl7).length ≤ 10 := by
          have := nodup_len b7.lnd b7.lsb
          rw [List.length_map] at this
          unfold kI
          rw [List.length_map]; omega
        have g1 : some (V.int (lowD s1 here)) = valV (kI lvl7) (Sum.inr here) := by rw [b7.low, low_some post.vi h1]; rfl
        have g2 : some (V.int (lowD s1 there)) = valV (kI lvl7) (Sum.inr there) := by rw [b7.low, low_some post.vi h2]; rfl
        refine ⟨_, rfl, o, _, dx, _, _, rfl, b7.ob, T.cl_Blocks, T.a_Blocks_low, rfl, _, rfl, lw, _, rfl, .inl ⟨_, .inr here, .inl b7.hlw, rfl, g1⟩, _, rfl, o, _, dx, _, _, rfl, b7.ob, T.cl_Blocks, T.a_Blocks_low, rfl, _, rfl, lw, _, rfl, .inl ⟨_, .inr there, .inl b7.hlw, rfl, g2⟩, _, _, rfl, _, rfl, o, _, dx, _, _, rfl, b7.ob, T.cl_Blocks, T.a_Blocks_low, rfl, _, rfl, lw, _, rfl, DPut.k (k := .inr here) b7.hlw (by rw [sizeLine_eq]; omega), ?_⟩
        have b8 := b7.setlow (v := minI (lowD s1 here) (lowD s1 there)) hhm
        have hvi8 : VI names S s1.order { s1 with low := putO s1.low here (minI (lowD s1 here) (lowD s1 there)) } := ⟨post.vi.ond, post.vi.osub, low_put post.vi.low h1, post.vi.snd, post.vi.sin, post.vi.fin, post.vi.fl⟩
        have g3 := low_some (z := there) hvi8 h2
        have g4 : valV (kI (putL lvl7 here (minI (lowD s1 here) (lowD s1 there)))) (Sum.inr there) = _ := b8.low there
        rw [g3] at g4
        have g5 := ordL_val post.vi.ond h1
        unfold minI at b8
        refine ⟨_, rfl, o, _, dx, _, _, rfl, b8.ob, T.cl_Blocks, T.a_Blocks_low, rfl, _, rfl, lw, _, rfl, .inl ⟨_, .inr there, .inl b8.hlw, rfl, g4.symm⟩, _, rfl, o, _, dx, _, _, rfl, b8.ob, T.cl_Blocks, T.a_Blocks_order, rfl, _, rfl, od, _, rfl, .inl ⟨_, .inr here, .inl b8.hod, rfl, g5.symm⟩, _, _, rfl, rfl, _, rfl, ?_⟩
        refine iteB (fun hc => ?_) fun hc => ?_
        · rw [if_pos hc] at hv
          refine ⟨_, rfl, o, dx, _, rfl, b8.ob, rfl, _, rfl, H0, o, dx, l, od, lw, sk7, fd, ts7, _, names, S, _, i, rfl, b8, hi1, by show s1.stack.length ≤ 100; omega, by show s1.found.length ≤ 100; omega, fun H9 sk9 ts9 b9 => done (by rw [hv]; exact b9)⟩
        · rw [if_neg hc] at hv
          exact done (by rw [hv]; exact b8)
      · rw [if_neg hn] at hv
        have hto : there ∈ stI.order := Decidable.not_not.mp hn
        rw [decide_eq_true hto]
        refine iteF ?_
        have g1 := ordL_val hLI.vi.ond hto
        have g2 := ordL_val hLI.vi.ond hho
        refine ⟨_, rfl, o, _, dx, _, _, rfl, b5.ob, T.cl_Blocks, T.a_Blocks_order, rfl, _, rfl, od, _, rfl, .inl ⟨_, .inr there, .inl b5.hod, rfl, g1.symm⟩, _, rfl, o, _, dx, _, _, rfl, b5.ob, T.cl_Blocks, T.a_Blocks_order, rfl, _, rfl, od, _, rfl, .inl ⟨_, .inr here, .inl b5.hod, rfl, g2.symm⟩, _, _, rfl, rfl, _, rfl, ?_⟩
        refine iteB (fun hc => ?_) fun hc => ?_
        · rw [if_pos (Int.ofNat_lt.mp hc)] at hv
          refine ⟨_, rfl, o, _, dx, _, _, rfl, b5.ob, T.cl_Blocks, T.a_Blocks_stack, rfl, .inl ⟨rfl, _, SqL.of b5.hsk⟩, _, rfl, sk1, _, _, rfl, rfl, b5.hsk, hsl, ?_⟩
          have b6 := b5.push (i := i)
          have g3 : some (V.int (lowD stI here)) = valV (kI lvl1) (Sum.inr here) := by rw [b6.low]; show _ = Option.map V.int (stI.low here); rw [low_some hLI.vi hho]; rfl
          refine ⟨_, rfl, o, _, dx, _, _, rfl, b6.ob, T.cl_Blocks, T.a_Blocks_low, rfl, _, rfl, lw, _, rfl, .inl ⟨_, .inr here, .inl b6.hlw, rfl, g3⟩, _, rfl, o, _, dx, _, _, rfl, b6.ob, T.cl_Blocks, T.a_Blocks_order, rfl, _, rfl, od, _, rfl, .inl ⟨_, .inr there, .inl b6.hod, rfl, g1.symm⟩, _, _, rfl, _, rfl, o, _, dx, _, _, rfl, b6.ob, T.cl_Blocks, T.a_Blocks_low, rfl, _, rfl, lw, _, rfl, DPut.k (k := .inr here) b6.hlw (by rw [sizeLine_eq]; omega), ?_⟩
          exact done (by rw [hv]; exact b6.setlow hhm)
        · rw [if_neg fun q => hc (Int.ofNat_lt.mpr q)] at hv
          exact done (by rw [hv]; exact b5)
    · obtain ⟨⟨c3, c4, c5, c6, c7, rfl⟩, stI, hst, hLI, sk1, ts1, lvl1, bI⟩ := hPv
      refine hQ _ sk1 ts1 lvl1 ?_
      rw [List.length_map, List.take_of_length_le (by rw [List.length_zipIdx]; omega)] at hst
      rw [hst] at bI
      exact bI
end
end FBQ
end
section
set_option Elab.async false
set_option linter.all false
set_option maxRecDepth 100000
set_option maxHeartbeats 1000000
namespace FBQ
open PySem PySem.Spec PyProof.Rows L2 FBR FB
section
variable {P : Program} {w : World} {K : PySem.W.Frag} {mg : Str → Option Value} {base : Heap}
/-- self.f = a new thing -/
theorem put_step {H0 H : Hp} {x p : Addr} {u v z : HO} (e : Same H0 H) (hx0 : H0 x = none) (hx : H x = some v) (hp : H p = none) :
    Same H0 (upd (upd H p u) x z) ∧ upd (upd H p u) x z p = some u ∧ But x H (upd (upd H p u) x z) ∧ upd (upd H p u) x z x = some z ∧ H0 p = none ∧ p ≠ x := by
  have hpx : p ≠ x := fun q => by rw [q, hx] at hp; cases hp
  refine ⟨L2.Same.mut (e.trans (L2.Same.new hp)) hx0, by rw [upd_ne hpx, upd_same], (But.of (L2.Same.new hp)).trans But.put, upd_same, e.back hp, hpx⟩
def spKinit (K : PySem.W.Frag) : Sp := fun vs H Q _ => ∃ H0 x dx l names S, vs = [.ref x, .ref l] ∧ H0 x = none ∧ Same H0 H ∧ H x = some (.ins (CK K) dx []) ∧ LTs K H0 l (S.map sV) ∧ ∀ H' od lw sk fd, BS K H0 x dx l od lw sk fd [] [] names S initB H' → Q .non H'
theorem ok_binitK (T : Tx K mg) : DefOk P w K mg base 1 (He.ma K (CK K) "__init__") ["self", "strikes"] [] (spKinit K) := by
  refine defOk T.f_BlocksU_initU sc_BlocksU_initU (fun _ _ _ _ _ _ us hl => match us, hl with | [_, _], _ => rfl) (fun vs H Q E h => by obtain ⟨_, _, _, _, _, _, rfl, _⟩ := h; rfl) fun cdv A outer s H vs Q E hr h => ?_
  obtain ⟨H0, x, dx, l, names, S, rfl, hx0, e0, hx, hli, hQ⟩ := h
  refine ⟨_, ((pss_cons (ps_fld (pv 0) (pv 1) rfl)
 (pss_cons (ps_fld (pv 0) (pe_dnewK) rfl)
 (pss_cons (ps_fld (pv 0) (pe_dnewK) rfl)
 (pss_cons (ps_fld (pv 0) (pe_lst pa_nil) rfl)
 (pss_one (ps_fld (pv 0) (pe_lst pa_nil) rfl))))))), ?_⟩
  refine ⟨_, rfl, _, rfl, x, _, dx, [], rfl, hx, T.cl_Blocks, T.a_Blocks_struck, by decide, ?_⟩
  have e1 : Same H0 (upd H x (.ins (CK K) dx [("struck", .ref l)])) := L2.Same.mut e0 hx0
  have hx1 : upd H x (.ins (CK K) dx [("struck", .ref l)]) x = some (.ins (CK K) dx [("struck", .ref l)]) := upd_same
  show tSeq _ _ _ _ (upd H x (.ins (CK K) dx [("struck", .ref l)]))
  generalize upd H x (.ins (CK K) dx [("struck", .ref l)]) = H1 at e1 hx1 ⊢
  intro od n1
  obtain ⟨e2, ho2, b2, hx2, no, xo⟩ := put_step (u := .dK []) (z := .ins (CK K) dx [("struck", .ref l), ("order", .ref od)]) e1 hx0 hx1 n1
  refine ⟨_, rfl, x, _, dx, _, rfl, (by rw [upd_ne xo.symm]; exact hx1), T.cl_Blocks, T.a_Blocks_order, by show (1 : Nat) < 1000; decide, ?_⟩
  show tSeq _ _ _ _ (upd (upd H1 od (.dK [])) x (.ins (CK K) dx [("struck", .ref l), ("order", .ref od)]))
  generalize upd (upd H1 od (.dK [])) x (.ins (CK K) dx [("struck", .ref l), ("order", .ref od)]) = H2 at e2 ho2 hx2 ⊢
  intro lw n2
  obtain ⟨e3, hl3, b3, hx3, nl3, xl⟩ := put_step (u := .dK []) (z := .ins (CK K) dx [("struck", .ref l), ("order", .ref od), ("low", .ref lw)]) e2 hx0 hx2 n2
  refine ⟨_, rfl, x, _, dx, _, rfl, (by rw [upd_ne xl.symm]; exact hx2), T.cl_Blocks, T.a_Blocks_low, by show (2 : Nat) < 1000; decide, ?_⟩
  show tSeq _ _ _ _ (upd (upd H2 lw (.dK [])) x (.ins (CK K) dx [("struck", .ref l), ("order", .ref od), ("low", .ref lw)]))
  have ho3 := b3 _ _ xo ho2
  have dlo : lw ≠ od := (ne_of_none ho2 n2).symm
  generalize upd (upd H2 lw (.dK [])) x (.ins (CK K) dx [("struck", .ref l), ("order", .ref od), ("low", .ref lw)]) = H3 at e3 hl3 hx3 ho3 ⊢
  refine ⟨Nat.zero_le _, fun sk n3 => ?_⟩
  obtain ⟨e4, hs4, b4, hx4, ns4, xs⟩ := put_step (u := .lst []) (z := .ins (CK K) dx [("struck", .ref l), ("order", .ref od), ("low", .ref lw), ("stack", .ref sk)]) e3 hx0 hx3 n3
  refine ⟨_, rfl, x, _, dx, _, rfl, (by rw [upd_ne xs.symm]; exact hx3), T.cl_Blocks, T.a_Blocks_stack, by show (3 : Nat) < 1000; decide, ?_⟩
  show sFld _ (tVar 0) (tLst tNil) "found" { nx := fun x H' => Q V.non H', rt := Q } _ (upd (upd H3 sk (.lst [])) x (.ins (CK K) dx [("struck", .ref l), ("order", .ref od), ("low", .ref lw), ("stack", .ref sk)]))
  have ho4 := b4 _ _ xo ho3
  have hl4 := b4 _ _ xl hl3
  generalize upd (upd H3 sk (.lst [])) x (.ins (CK K) dx [("struck", .ref l), ("order", .ref od), ("low", .ref lw), ("stack", .ref sk)]) = H4 at e4 hs4 hx4 ho4 hl4 ⊢
  refine ⟨Nat.zero_le _, fun fd n4 => ?_⟩
  obtain ⟨e5, hf5, b5, hx5, nf5, xf⟩ := put_step (u := .lst []) (z := .ins (CK K) dx (ofF l od lw sk fd)) e4 hx0 hx4 n4
  refine ⟨_, rfl, x, _, dx, _, rfl, (by rw [upd_ne xf.symm]; exact hx4), T.cl_Blocks, T.a_Blocks_found, by show (4 : Nat) < 1000; decide, ?_⟩
  have ho5 := b5 _ _ xo ho4
  have hl5 := b5 _ _ xl hl4
  have hs5 := b5 _ _ xs hs4
  exact hQ _ od lw sk fd ⟨hx5, e5, hx0, no, nl3, ns4, nf5, hli, ho5, hl5, List.nodup_nil, fun z hz => by simp at hz, fun z => rfl, hs5, hf5, trivial, dlo.symm, ne_of_none hs4 n4⟩
theorem BS.rebase {H0 H H' : Hp} {o dx l od lw sk fd p : Addr} {ts : List Addr} {lvl : Lv Str} {names : List Str} {S : List (Stk Str)} {st : BSt Str} {u : HO} (b : BS K H0 o dx l od lw sk fd ts lvl names S st H) (hp : H p = none) (hp' : H' p = some u) (e : Same H H') :
    BS K (upd H0 p u) o dx l od lw sk fd ts lvl names S st H' := by
  have h := b.next e
  have s0 : Same H0 (upd H0 p u) := L2.Same.new (b.same.back hp)
  refine ⟨h.ob, fun a v hv => ?_, ?_, ?_, ?_, ?_, ?_, h.li.same s0, h.hod, h.hlw, h.lnd, h.lsb, h.low, h.hsk, h.hfd, h.tsx, h.n1, h.n2⟩
  · by_cases q : a = p
    · rw [q, upd_same] at hv
      rw [q, hp']; exact hv
    · rw [upd_ne q] at hv
      exact h.same _ _ hv
  · rw [upd_ne (ne_of_none b.ob hp)]; exact b.fo
  · rw [upd_ne (ne_of_none b.hod hp)]; exact b.fod
  · rw [upd_ne (ne_of_none b.hlw hp)]; exact b.flw
  · rw [upd_ne (ne_of_none b.hsk hp)]; exact b.fsk
  · rw [upd_ne (ne_of_none b.hfd hp)]; exact b.ffd
def spBlocks (K : PySem.W.Frag) : Sp := fun vs H Q _ => ∃ x names S np, vs = [.ref x] ∧ BenchAt K H x names S np ∧ BOk names S ∧ ∀ p ts H', Same H H' → H p = none → H' p = some (.lst (ts.map V.ref)) → Al (fun t b => SqL K H' t (b.map V.int)) ts (blocksM names S) → Q (.ref p) H'
theorem ok_blocks (T : Tx K mg) : DefOk P w K mg base 14 (He.ga K "blocks") ["bench"] [] (spBlocks K) := by
  have D_BlocksU_initU := ok_binitK (P := P) (w := w) (base := base) T
  have D_Bench_forks := ok_forks (P := P) (w := w) (base := base) T
  have D_Bench_strikes := ok_strikes (P := P) (w := w) (base := base) T
  refine defOk T.f_blocks sc_blocks (fun _ _ _ _ _ _ us hl => match us, hl with | [_], _ => rfl) (fun vs H Q E h => by obtain ⟨_, _, _, _, rfl, _⟩ := h; rfl) fun cdv A outer s H vs Q E hr h => ?_
  obtain ⟨x, names, S, np, rfl, hB, hO, hQ⟩ := h
  have hlen := hO.len
  have D_Blocks_visit := ok_visit (P := P) (w := w) (base := base) T names.length
  refine ⟨_, ((pss_cons (ps_set (i := 1) sc_blocks.nd rfl (.inl rfl) (pe_makeD T.mk_Blocks D_BlocksU_initU hr rfl T.g_Blocks (pa_cons (pe_methD0 (pv 0) T.cl_Bench T.m_Bench_strikes D_Bench_strikes hr) pa_nil)))
 (pss_cons (ps_for PassesOwn.never rfl (pi_listK K (pe_methD0 (pv 0) T.cl_Bench T.m_Bench_forks D_Bench_forks hr)) (pg_name (i := 2) sc_blocks.nd rfl (.inl rfl) (.inl rfl))
 (pss_one (ps_if (pt_cmp (pc_dnotin (hu_of hr) (pv 2) (pe_fld (pv 1) rfl)))
 (pss_one (ps_expr (pe_methD (pv 1) T.cl_Blocks T.m_Blocks_visit D_Blocks_visit hr (pa_cons (pv 2) (pa_cons (pe_un un_neg pe_int) pa_nil))))) pss_nil)))
 (pss_one (ps_ret (pe_callB (cr_sortLists hr.units) (by rfl) T.b_sorted (by decide +kernel) (pa_cons (pe_fld (pv 1) rfl) pa_nil))))))), ?_⟩
  obtain ⟨bx, _, _, _, _, _, _, _, hbx, _⟩ := id hB
  refine ⟨_, rfl, x, bx, _, rfl, hbx, rfl, x, names, S, np, rfl, hB, fun sl H1 e1 nsl hsl => ?_⟩
  intro o dx no ndx hne
  have eo : Same H1 (upd (upd H1 dx (.own o)) o (.ins (CK K) dx [])) := L2.Same.mut (L2.Same.new ndx) no
  refine ⟨H1, o, dx, sl, names, S, rfl, no, eo, upd_same, hsl.l, fun H2 od lw sk fd b2 => ⟨rfl, ?_⟩⟩
  have hB2 := hB.same (e1.trans b2.same)
  obtain ⟨bx2, _, _, _, _, _, _, _, hbx2, _⟩ := id hB2
  refine ⟨_, rfl, x, bx2, _, rfl, hbx2, rfl, x, names, S, np, rfl, hB2, fun nm H3 e3 nnm hnm => ?_⟩
  have b3 := b2.rebase nnm hnm e3
  have hnm1 : H1 nm = none := b2.same.back nnm
  have hsame : Same H1 (upd H1 nm (.lst (names.map V.str))) := L2.Same.new hnm1
  have eH : Same H (upd H1 nm (.lst (names.map V.str))) := e1.trans hsame
  have hnm0 : upd H1 nm (.lst (names.map V.str)) nm = some (.lst (names.map V.str)) := upd_same
  generalize upd H1 nm (.lst (names.map V.str)) = G at b3 hnm0 eH
  refine ⟨nm, rfl, ⟨_, SqL.of hnm⟩, ?_⟩
  refine for_it (walk_list (xs := names.map V.str)) (fun i σ H' => (∃ c2, σ = [some (.ref x), some (.ref o), c2]) ∧ ∃ stI, stI = (names.take i).foldl (blocksStep names S) initB ∧ VI names S stI.order stI ∧ ∃ sk' ts' lvl', BS K G o dx sl od lw sk' fd ts' lvl' names S stI H')
    ⟨⟨_, rfl⟩, _, rfl, init_vi, _, _, _, b3⟩ (fun i σ H' _ p => ?_) (fun i y σ H4 H5 hi hPv hy => ?_) fun σ H4 hPv => ?_
  · obtain ⟨_, _, _, _, _, _, _, bI⟩ := p
    exact SqL.of (bI.same _ _ hnm0)
  · obtain ⟨⟨c2, rfl⟩, stI, hst, hvi, sk1, ts1, lvl1, bI⟩ := hPv
    obtain ⟨rfl, hy⟩ := hy
    obtain ⟨z, hz, rfl⟩ := get_map hy
    have hzm : z ∈ names := List.mem_of_getElem? hz
    have hF : (names.take (i + 1)).foldl (blocksStep names S) initB = blocksStep names S stI z := by rw [take_s hz, List.foldl_append, ← hst]; rfl
    have hvn := bstep_vi hO.ends hvi hzm
    refine ⟨_, rfl, _, rfl, o, _, dx, _, _, rfl, bI.ob, T.cl_Blocks, T.a_Blocks_order, rfl, od, _, rfl, DGet.k (k := .inr z) bI.hod, _, rfl, ?_⟩
    rw [ordL_isSome]
    have hbs : blocksStep names S stI z = if z ∈ stI.order then stI else visitM S names.length z (-1) stI := rfl
    rw [hbs] at hF hvn
    by_cases hin : z ∈ stI.order
    · rw [if_pos hin] at hF hvn
      rw [decide_eq_true hin]
      exact iteF ⟨⟨_, rfl⟩, _, rfl, by rw [hF]; exact hvi, _, _, _, by rw [hF]; exact bI⟩
    · rw [if_neg hin] at hF hvn
      rw [decide_eq_false hin]
      refine iteT ?_
      refine ⟨_, rfl, o, dx, _, rfl, bI.ob, rfl, _, rfl, _, rfl, G, o, dx, sl, od, lw, sk1, fd, ts1, lvl1, names, S, stI, z, -1, rfl, bI, hO.ends, root_pre hvi hzm hin, hO.len, hO.sl, fun H6 sk6 ts6 lvl6 b6 => ?_⟩
      exact ⟨⟨_, rfl⟩, _, rfl, by rw [hF]; exact hvn, _, _, _, by rw [hF]; exact b6⟩
  · obtain ⟨⟨c2, rfl⟩, stI, hst, hvi, sk1, ts1, lvl1, bI⟩ := hPv
    rw [List.length_map, List.take_length] at hst
    have hfl := bI.flen
    have hsr : stI.found.mergeSort rowLe = blocksM names S := by rw [hst]; rfl
    refine ⟨_, rfl, o, _, dx, _, _, rfl, bI.ob, T.cl_Blocks, T.a_Blocks_found, rfl, ?_⟩
    have hbs2 : (stI.found.zip ts1).map (·.2) = ts1 := List.map_snd_zip (Nat.le_of_eq hfl)
    have hbs1 : (stI.found.zip ts1).map (·.1) = stI.found := List.map_fst_zip (Nat.le_of_eq hfl.symm)
    have hmem := mem_al (bI.tsx.imp (R' := fun t b => SqL K H4 t (b.map V.int)) fun _ _ _ z => SqL.of z.2.2)
    refine ⟨fd, stI.found.zip ts1, rfl, SqL.of ?_, fun b hb => ⟨fun z => (by cases z), hmem b hb⟩, fun p np2 => ?_⟩
    · rw [bI.hfd, show (stI.found.zip ts1).map (fun b => V.ref b.2) = ((stI.found.zip ts1).map (·.2)).map V.ref by rw [List.map_map]; rfl, hbs2]
    have hfit : ((stI.found.zip ts1).mergeSort leR).map (·.1) = blocksM names S := by
      rw [List.map_mergeSort (r := leR) (s := rowLe) (f := fun b : List Int × Addr => b.1) (fun a _ b _ => rfl), hbs1, hsr]
    have hal : Al (fun t b => SqL K H4 t (b.map V.int)) (((stI.found.zip ts1).mergeSort leR).map (·.2)) (blocksM names S) := by
      rw [← hfit]
      exact al_mem fun b hb => hmem b ((List.mergeSort_perm _ _).mem_iff.mp hb)
    have hssl : ((stI.found.zip ts1).mergeSort leR).map (fun b => V.ref b.2) = (((stI.found.zip ts1).mergeSort leR).map (·.2)).map V.ref := by rw [List.map_map]; rfl
    rw [hssl]
    generalize ((stI.found.zip ts1).mergeSort leR).map (·.2) = us at hal ⊢
    have e6 := L2.Same.new np2 (o := .lst (us.map V.ref))
    have eG := eH.trans bI.same
    exact hQ p us _ (eG.trans e6) (eG.back np2) upd_same (hal.imp fun _ _ _ z => e6.seq z)
end
end FBQ
end
section
set_option Elab.async false
set_option linter.all false
set_option maxRecDepth 100000
set_option maxHeartbeats 1000000
namespace FBQ
open PySem PySem.Spec PyProof.Rows L2 FBR FB
/-! ### a block's forks, its part -/
def putU (f : List Str) (x : Str) : List Str := if x ∈ f then f else f ++ [x]
def putT (f : List Str) (t : Stk Str) : List Str := putU (putU f t.1) t.2.1
theorem bforks_eq (S : List (Stk Str)) (b : List Int) : bforksM S b = (pickM S b).foldl putT [] := rfl
theorem putU_mem {f : List Str} {x : Str} : (∀ y ∈ f, y ∈ putU f x) ∧ x ∈ putU f x ∧ (putU f x).length ≤ f.length + 1 := by
  unfold putU
  split
  · rename_i h
    exact ⟨fun _ z => z, h, by omega⟩
  · exact ⟨fun _ z => List.mem_append_left _ z, by simp, by simp⟩
theorem putT_mem {f : List Str} {t : Stk Str} : (∀ y ∈ f, y ∈ putT f t) ∧ t.1 ∈ putT f t ∧ t.2.1 ∈ putT f t ∧ (putT f t).length ≤ f.length + 2 := by
  have h1 := putU_mem (f := f) (x := t.1)
  have h2 := putU_mem (f := putU f t.1) (x := t.2.1)
  exact ⟨fun y hy => h2.1 y (h1.1 y hy), h2.1 _ h1.2.1, h2.2.1, by have := h1.2.2; have := h2.2.2; unfold putT; omega⟩
theorem putT_fold : ∀ (l : List (Stk Str)) (f : List Str), (∀ y ∈ f, y ∈ l.foldl putT f) ∧ (∀ t ∈ l, t.1 ∈ l.foldl putT f ∧ t.2.1 ∈ l.foldl putT f) ∧ (l.foldl putT f).length ≤ f.length + 2 * l.length
  | [], f => ⟨fun _ z => z, fun _ h => by simp at h, by simp⟩
  | t :: l, f => by
    have h := putT_mem (f := f) (t := t)
    obtain ⟨a, b, c⟩ := putT_fold l (putT f t)
    refine ⟨fun y hy => a y (h.1 y hy), fun u hu => ?_, by rw [List.length_cons]; show (l.foldl putT (putT f t)).length ≤ _; omega⟩
    rcases List.mem_cons.mp hu with e | e
    · rw [e]
      exact ⟨a _ h.2.1, a _ h.2.2.1⟩
    · exact b u e
def InB (S : List (Stk Str)) (b : List Int) : Prop := ∀ i ∈ b, ∃ j : Nat, i = (j : Int) ∧ j < S.length
theorem blk_in {S : List (Stk Str)} {b : List Int} (h : Blk S b) : InB S b ∧ b.length ≤ S.length ∧ b ≠ [] := by
  obtain ⟨l, hp, hn, hne, hl⟩ := h
  refine ⟨fun i hi => ?_, ?_, ?_⟩
  · obtain ⟨j, hj, e⟩ := List.mem_map.mp (hp.mem_iff.mp hi)
    exact ⟨j, e.symm, hl j hj⟩
  · rw [hp.length_eq, List.length_map]
    have := nodup_len hn (m := List.range S.length) fun i hi => List.mem_range.mpr (hl i hi)
    rw [List.length_range] at this
    exact this
  · intro z
    rw [z] at hp
    have := hp.length_eq
    rw [List.length_map] at this
    exact hne (List.length_eq_zero_iff.mp this.symm)
theorem pick_snoc {S : List (Stk Str)} {b : List Int} {i j : Nat} {t : Stk Str} (hb : b[i]? = some (j : Int)) (hj : S[j]? = some t) : pickM S (b.take (i + 1)) = pickM S (b.take i) ++ [t] := by
  unfold pickM
  rw [take_s hb, List.filterMap_append]
  simp [hj]
theorem pick_len (S : List (Stk Str)) (b : List Int) : (pickM S b).length ≤ b.length := List.length_filterMap_le _ _
theorem pick_mem {S : List (Stk Str)} {b : List Int} : ∀ t ∈ pickM S b, t ∈ S := fun t ht => by
  obtain ⟨i, _, e⟩ := List.mem_filterMap.mp ht
  exact List.mem_of_getElem? e
theorem BOk.part {names : List Str} {S : List (Stk Str)} {b : List Int} (h : BOk names S) (hb : Blk S b) : BOk (partN names S b) (pickM S b) := by
  obtain ⟨h1, h2, h3⟩ := blk_in hb
  have hf := putT_fold (pickM S b) []
  rw [← bforks_eq] at hf
  have hm : ∀ t ∈ pickM S b, t.1 ∈ partN names S b ∧ t.2.1 ∈ partN names S b := fun t ht => by
    have he := h.ends t (pick_mem t ht)
    have hq := hf.2.1 t ht
    exact ⟨List.mem_filter.mpr ⟨he.1, decide_eq_true hq.1⟩, List.mem_filter.mpr ⟨he.2, decide_eq_true hq.2⟩⟩
  refine ⟨?_, h.nd.sublist List.filter_sublist, Nat.le_trans (List.length_filter_le _ _) h.len, fun z hz => h.ok z (List.mem_filter.mp hz).1, Nat.le_trans (pick_len S b) (Nat.le_trans h2 h.sl), hm, fun s hs => h.ne s (pick_mem s hs), fun s hs => h.lo s (pick_mem s hs)⟩
  obtain ⟨i, hi⟩ := List.exists_mem_of_ne_nil b h3
  obtain ⟨j, rfl, hj⟩ := h1 i hi
  have ht : S[j] ∈ pickM S b := List.mem_filterMap.mpr ⟨(j : Int), hi, by simp [hj]⟩
  exact List.ne_nil_of_mem (hm _ ht).1
section
variable {P : Program} {w : World} {K : PySem.W.Frag} {mg : Str → Option Value} {base : Heap}
def spBforks (K : PySem.W.Frag) : Sp := fun vs H Q _ => ∃ sl l S b, vs = [.ref sl, .ref l] ∧ LTs K H sl (S.map sV) ∧ SqL K H l (b.map V.int) ∧ InB S b ∧ b.length ≤ 1000 ∧ ∀ p H', Same H H' → H p = none → H' p = some (.lst ((bforksM S b).map V.str)) → Q (.ref p) H'
theorem ok_bforks (T : Tx K mg) : DefOk P w K mg base 1 (He.ga K "block_forks") ["strikes", "block"] [] (spBforks K) := by
  refine defOk T.f_block_forks sc_block_forks (fun _ _ _ _ _ _ us hl => match us, hl with | [_, _], _ => rfl) (fun vs H Q E h => by obtain ⟨_, _, _, _, rfl, _⟩ := h; rfl) fun cdv A outer s H vs Q E hr h => ?_
  obtain ⟨sl, l, S, b, rfl, ⟨ts, hsl, hts⟩, hl, hin, hlen, hQ⟩ := h
  refine ⟨_, ((pss_cons (ps_set (i := 2) sc_block_forks.nd rfl (.inl rfl) (pe_lst pa_nil))
 (pss_cons (ps_for PassesOwn.never rfl (pi_listK K (pv 1)) (pg_name (i := 3) sc_block_forks.nd rfl (.inl rfl) (.inl rfl))
 (pss_one (ps_for PassesOwn.never rfl (pi_tupK K (pe_slice sl_tup (pe_ix (ix_listK K) (pv 0) (pv 3) (fun _ _ => rfl)) po_none (po_some pe_int))) (pg_name (i := 4) sc_block_forks.nd rfl (.inl rfl) (.inl rfl))
 (pss_one (ps_if (pt_cmpR (op_ninK K) (pv 4) (pv 2) rfl)
 (pss_one (ps_expr (pe_bm PySem.F.plainAttrs_list PySem.F.slot_list_append PySem.F.type_list_append mt_append (pv 2) (pa_cons (pv 4) pa_nil)))) pss_nil)))))
 (pss_one (ps_ret (pv 2)))))), ?_⟩
  refine ⟨Nat.zero_le _, fun p np => ?_⟩
  have e1 := L2.Same.new np (o := .lst [])
  have hp1 : upd H p (.lst []) p = some (.lst []) := upd_same
  show tSeq _ _ _ _ (upd H p (.lst []))
  generalize upd H p (.lst []) = H1 at e1 hp1 ⊢
  refine ⟨_, rfl, l, rfl, ⟨_, e1.seq hl⟩, ?_⟩
  refine for_it (walk_list (xs := b.map V.int)) (fun i σ H' => (∃ c3 c4, σ = [some (.ref sl), some (.ref l), some (.ref p), c3, c4]) ∧ Same H H' ∧ H' p = some (.lst ((bforksM S (b.take i)).map V.str)))
    ⟨⟨_, _, rfl⟩, e1, hp1⟩ (fun i σ H' _ q => q.2.1.seq hl) (fun i y σ H2 H3 hi hPv hy => ?_) fun σ H2 hPv => ?_
  · obtain ⟨⟨c3, c4, rfl⟩, e2, hp2⟩ := hPv
    obtain ⟨rfl, hy⟩ := hy
    obtain ⟨k, hk, rfl⟩ := get_map hy
    obtain ⟨j, rfl, hj⟩ := hin k (List.mem_of_getElem? hk)
    have hts2 := hts.same e2
    have htl := hts.length
    rw [List.length_map] at htl
    have hjt : j < ts.length := by omega
    obtain ⟨r, hr1, hrt⟩ := hts2.get (List.getElem?_eq_getElem hjt)
    obtain ⟨t, ht, rfl⟩ := get_map hr1
    refine ⟨_, rfl, _, rfl, sl, _, (j : Nat), .ref ts[j], rfl, rfl, e2.seq hsl, at_of rfl (by rw [List.getElem?_map, List.getElem?_eq_getElem hjt]; rfl), ?_⟩
    refine ⟨2, rfl, ts[j], sV t, rfl, hrt, (by show ¬ (HT.sIx 3 0 none = 0 ∧ HT.sIx 3 3 (some 2) = 3); decide), fun tp ntp => ⟨tp, rfl, ⟨_, SqT.of upd_same⟩, ?_⟩⟩
    rw [show cutV (sV t) none (some 2) = [t.1, t.2.1].map V.str from cut_take (sV t) 2 (by show 2 ≤ 3; decide)]
    have e3 := L2.Same.new ntp (o := .tup ([t.1, t.2.1].map V.str))
    have hp3 := e3 _ _ hp2
    have htp : upd H3 tp (.tup ([t.1, t.2.1].map V.str)) tp = some (.tup ([t.1, t.2.1].map V.str)) := upd_same
    have htpp : tp ≠ p := (ne_of_none hp2 ntp).symm
    have e23 := e2.trans e3
    generalize upd H3 tp (.tup ([t.1, t.2.1].map V.str)) = H4 at hp3 htp e23 ⊢
    have hfin : bforksM S (b.take (i + 1)) = [t.1, t.2.1].foldl putU (bforksM S (b.take i)) := by
      rw [bforks_eq, pick_snoc hk ht, List.foldl_append, ← bforks_eq]; rfl
    have hfl := (putT_fold (pickM S (b.take i)) []).2.2
    rw [← bforks_eq] at hfl
    have hpl := pick_len S (b.take i)
    rw [List.length_take] at hpl
    rw [List.length_map] at hi
    refine for_it (walk_tup (xs := [t.1, t.2.1].map V.str)) (fun m σ H' => (∃ c4, σ = [some (.ref sl), some (.ref l), some (.ref p), some (.int (j : Nat)), c4]) ∧ Same H H' ∧ H' tp = some (.tup ([t.1, t.2.1].map V.str)) ∧ ∃ f, f = ([t.1, t.2.1].take m).foldl putU (bforksM S (b.take i)) ∧ f.length ≤ 2000 + m ∧ H' p = some (.lst (f.map V.str)))
      ⟨⟨_, rfl⟩, e23, htp, _, rfl, by simp only [List.take_zero, List.foldl_nil]; simp at hfl; omega, hp3⟩ (fun m σ H' _ q => SqT.of q.2.2.1) (fun m y σ H5 H6 hm hPv hy => ?_) fun σ H5 hPv => ?_
    · obtain ⟨⟨c4, rfl⟩, e5, ht5, f, hf, hfl5, hp5⟩ := hPv
      obtain ⟨rfl, hy⟩ := hy
      obtain ⟨z, hz, rfl⟩ := get_map hy
      have hf2 : ([t.1, t.2.1].take (m + 1)).foldl putU (bforksM S (b.take i)) = putU f z := by rw [take_s hz, List.foldl_append, ← hf]; rfl
      have hm : m < 2 := hm
      refine t_inS (x := z) (ns := f) rfl (fun Q q => ⟨_, rfl, q p (.inl (SqL.of hp5))⟩) ?_
      rw [if_pos rfl]
      by_cases hin2 : z ∈ f
      · rw [decide_eq_true hin2]
        exact iteF ⟨⟨_, rfl⟩, e5, ht5, f, by rw [hf2]; unfold putU; rw [if_pos hin2], by omega, hp5⟩
      · rw [decide_eq_false hin2]
        refine iteT ⟨_, rfl, .inl ⟨rfl, _, SqL.of hp5⟩, _, rfl, p, _, _, rfl, rfl, hp5, by rw [List.length_map, sizeLine_eq]; omega, ?_⟩
        refine ⟨⟨_, rfl⟩, L2.Same.mut e5 np, by rw [upd_ne htpp]; exact ht5, f ++ [z], by rw [hf2]; unfold putU; rw [if_neg hin2], by rw [List.length_append]; simp; omega, ?_⟩
        rw [upd_same, List.map_append]; rfl
    · obtain ⟨⟨c4, rfl⟩, e5, ht5, f, hf, hfl5, hp5⟩ := hPv
      refine ⟨⟨_, _, rfl⟩, e5, ?_⟩
      rw [hp5, hf, hfin]; rfl
  · obtain ⟨⟨c3, c4, rfl⟩, e2, hp2⟩ := hPv
    rw [List.length_map, List.take_length] at hp2
    exact ⟨_, rfl, hQ p _ e2 np hp2⟩
end
end FBQ
end
section
set_option Elab.async false
set_option linter.all false
set_option maxRecDepth 100000
set_option maxHeartbeats 1000000
namespace FBQ
open PySem PySem.Spec PyProof.Rows L2 FBR FB
section
variable {P : Program} {w : World} {K : PySem.W.Frag} {mg : Str → Option Value} {base : Heap}
theorem blocks_len {names : List Str} {S : List (Stk Str)} (h : BOk names S) : (blocksM names S).length ≤ 10 := by
  have hv := search_vi h.ends names initB (fun _ z => z) init_vi
  have hl := vi_lens hv
  unfold blocksM
  rw [List.length_mergeSort]
  exact Nat.le_trans hl.2.2 h.len
def spBat (K : PySem.W.Frag) : Sp := fun vs H Q _ => ∃ x names S np i b, vs = [.ref x, .int ((i : Nat) : Int)] ∧ BenchAt K H x names S np ∧ BOk names S ∧ (blocksM names S)[i]? = some b ∧ ∀ p H', Same H H' → SqL K H' p (b.map V.int) → Q (.ref p) H'
theorem ok_bat (T : Tx K mg) : DefOk P w K mg base 15 (He.ga K "block_at") ["bench", "index"] [] (spBat K) := by
  have D_blocks := ok_blocks (P := P) (w := w) (base := base) T
  refine defOk T.f_block_at sc_block_at (fun _ _ _ _ _ _ us hl => match us, hl with | [_, _], _ => rfl) (fun vs H Q E h => by obtain ⟨_, _, _, _, _, _, rfl, _⟩ := h; rfl) fun cdv A outer s H vs Q E hr h => ?_
  obtain ⟨x, names, S, np, i, b, rfl, hB, hO, hb, hQ⟩ := h
  refine ⟨_, ((pss_cons (ps_set (i := 2) sc_block_at.nd rfl (.inl rfl) (pe_callD D_blocks hr rfl T.g_blocks (pa_cons (pv 0) pa_nil)))
 (pss_cons (ps_if (PW.pt (pw_or (pt_cmpR op_lt (pv 1) pe_int (nomark _)) (pw_or1 (pt_cmpR op_ge (pv 1) (pe_callB call_len_seq (by rfl) T.b_len (by decide +kernel) (pa_cons (pv 2) pa_nil)) (nomark _)))))
 (pss_one ps_never) pss_nil)
 (pss_one (ps_ret (pe_ix (ix_listK K) (pv 2) (pv 1) (fun _ _ => rfl))))))), ?_⟩
  refine ⟨_, rfl, x, names, S, np, rfl, hB, hO, fun p ts H1 e1 np1 hp ha => ?_⟩
  have hal := ha.length
  have hi := (List.getElem?_eq_some_iff.mp hb).1
  obtain ⟨t, ht, htb⟩ := ha.getR hb
  refine ⟨_, rfl, _, _, rfl, rfl, _, rfl, iteN (by omega) ?_⟩
  refine ⟨_, rfl, _, rfl, p, ts.map V.ref, rfl, .inl (SqL.of hp), _, _, rfl, rfl, _, rfl, iteN (by rw [List.length_map]; omega) ?_⟩
  exact ⟨_, rfl, _, rfl, p, _, (i : Nat), .ref t, rfl, rfl, SqL.of hp, at_of rfl (by rw [List.getElem?_map, ht]; rfl), hQ t H1 e1 htb⟩
theorem tm_in {i j : Nat} {neg : Bool} : ∀ σ H Q Q', (∀ b H1, Q b H1 → Q' b H1) → tTest (tOp (rIn K neg) (tVar i) (tVar j)) σ H Q → tTest (tOp (rIn K neg) (tVar i) (tVar j)) σ H Q' := by
  rintro σ H Q Q' h ⟨a, ha, c, hc, p, xs, e, hs, f1, f2, k, ek, q⟩
  exact ⟨a, ha, c, hc, p, xs, e, hs, f1, f2, k, ek, h _ _ q⟩
theorem filter_fm (M : List Str) : ∀ l : List Str, l.filterMap (fun z => if z ∈ M then some (V.str z) else none) = (l.filter fun z => decide (z ∈ M)).map V.str
  | [] => rfl
  | z :: l => by
    by_cases h : z ∈ M
    · rw [List.filterMap_cons, if_pos h, List.filter_cons_of_pos (by simpa using h), List.map_cons, filter_fm M l]
    · rw [List.filterMap_cons, if_neg h, List.filter_cons_of_neg (by simpa using h), filter_fm M l]
def spPart (K : PySem.W.Frag) : Sp := fun vs H Q _ => ∃ x names S np i b, vs = [.ref x, .int ((i : Nat) : Int)] ∧ BenchAt K H x names S np ∧ BOk names S ∧ (blocksM names S)[i]? = some b ∧ ∀ p H' np', Same H H' → BenchAt K H' p (partN names S b) (pickM S b) np' → Q (.ref p) H'
theorem ok_part (T : Tx K mg) : DefOk P w K mg base 16 (He.ga K "part") ["bench", "index"] [] (spPart K) := by
  have D_block_at := ok_bat (P := P) (w := w) (base := base) T
  have D_Bench_strikes := ok_strikes (P := P) (w := w) (base := base) T
  have D_Bench_forks := ok_forks (P := P) (w := w) (base := base) T
  have D_block_forks := ok_bforks (P := P) (w := w) (base := base) T
  have D_BenchU_initU0 := ok_binit0 (P := P) (w := w) (base := base) T
  have D_Bench_add_all := ok_add_all (P := P) (w := w) (base := base) T
  have D_Bench_strike := ok_strike (P := P) (w := w) (base := base) T
  refine defOk T.f_part sc_part (fun _ _ _ _ _ _ us hl => match us, hl with | [_, _], _ => rfl) (fun vs H Q E h => by obtain ⟨_, _, _, _, _, _, rfl, _⟩ := h; rfl) fun cdv A outer s H vs Q E hr h => ?_
  obtain ⟨x, names, S, np, i, b, rfl, hB, hO, hb, hQ⟩ := h
  refine ⟨_, ((pss_cons (ps_set (i := 2) sc_part.nd rfl (.inl rfl) (pe_callD D_block_at hr rfl T.g_block_at (pa_cons (pv 0) (pa_cons (pv 1) pa_nil))))
 (pss_cons (ps_set (i := 3) sc_part.nd rfl (.inl rfl) (pe_methD0 (pv 0) T.cl_Bench T.m_Bench_strikes D_Bench_strikes hr))
 (pss_cons (ps_set (i := 4) sc_part.nd rfl (.inr rfl) (pe_callD D_block_forks hr rfl T.g_block_forks (pa_cons (pv 3) (pa_cons (pv 2) pa_nil))))
 (pss_cons (ps_set (i := 5) sc_part.nd rfl (.inl rfl) (pe_makeD0 T.mk_Bench D_BenchU_initU0 hr rfl T.g_Bench))
 (pss_cons (ps_expr (pe_methD (pv 5) T.cl_Bench T.m_Bench_add_all D_Bench_add_all hr (pa_cons (pe_lc (own := [("name", 6)]) (tt := _) rfl sc_part.nd (pi_listK K (pe_methD0 (pv 0) T.cl_Bench T.m_Bench_forks D_Bench_forks hr)) (blkOk_by (own := [("name", 6)]) (N := ["bench", "index", "block", "strikes", "members", "result", "name", "at", "a", "b", "count"]) (sc := (defScope s_part)) (by decide +kernel)) (fun _ _ _ _ _ => (pg_name (i := 6) sc_part.nd rfl (Or.inl rfl) (.inr rfl))) (fun _ _ _ _ _ => pts_one (pt_cmpR (op_inK K) (pv 6) (pv 4) rfl)) (fun _ _ _ _ _ => (pv 6))) pa_nil)))
 (pss_cons (ps_for PassesOwn.never rfl (pi_listK K (pv 2)) (pg_name (i := 7) sc_part.nd rfl (.inl rfl) (.inl rfl))
 (pss_cons (ps_asg (pe_ix (ix_listK K) (pv 3) (pv 7) (fun _ _ => rfl)) (pg_tup rfl (pgs_cons (pg_name (i := 8) sc_part.nd rfl (.inl rfl) (.inl rfl)) (pgs_cons (pg_name (i := 9) sc_part.nd rfl (.inl rfl) (.inl rfl)) (pgs_cons (pg_name (i := 10) sc_part.nd rfl (.inl rfl) (.inl rfl)) pgs_nil)))))
 (pss_one (ps_expr (pe_methD (pv 5) T.cl_Bench T.m_Bench_strike D_Bench_strike hr (pa_cons (pv 8) (pa_cons (pv 9) (pa_cons (pv 10) pa_nil))))))))
 (pss_one (ps_ret (pv 5)))))))))), ?_⟩
  have hblk := blocks_blk hO.ends b (List.mem_of_getElem? hb)
  obtain ⟨hin, hbl, hbn⟩ := blk_in hblk
  have hOp := hO.part hblk
  have hsl := hO.sl
  refine ⟨_, rfl, _, rfl, x, names, S, np, i, b, rfl, hB, hO, hb, fun bl H1 e1 hbl1 => ?_⟩
  have hB1 := hB.same e1
  obtain ⟨bx, _, _, _, _, _, _, _, hbx, _⟩ := id hB1
  refine ⟨_, rfl, x, bx, _, rfl, hbx, rfl, x, names, S, np, rfl, hB1, fun sl H2 e2 nsl hsl2 => ?_⟩
  refine ⟨_, rfl, _, rfl, sl, bl, S, b, rfl, hsl2.l, e2.seq hbl1, hin, by omega, fun mm H3 e3 nmm hmm => ?_⟩
  intro o dx no ndx hne
  have eo : Same H3 (upd (upd H3 dx (.own o)) o (.ins (CB K) dx [])) := L2.Same.mut (L2.Same.new ndx) no
  refine ⟨o, dx, rfl, upd_same, fun H4 b4 hB4 => ⟨rfl, ?_⟩⟩
  have bO : ∀ {H'}, But o (upd (upd H3 dx (.own o)) o (.ins (CB K) dx [])) H' → Same H3 H' := fun bb u v hu => bb u v (fun z => by rw [z, no] at hu; cases hu) (eo u v hu)
  have e4 := bO b4
  have e3t := (e1.trans e2).trans e3
  have hBx4 := hB.same (e3t.trans e4)
  obtain ⟨bx4, _, _, _, _, _, _, _, hbx4, _⟩ := id hBx4
  obtain ⟨bo4, _, _, _, _, _, _, _, hbo4, _⟩ := id hB4
  refine ⟨_, rfl, o, bo4, _, rfl, hbo4, rfl, _, rfl, x, bx4, _, rfl, hbx4, rfl, x, names, S, np, rfl, hBx4, fun nm H5 e5 nnm hnm => ⟨nm, rfl, ⟨_, SqL.of hnm⟩, fun D hD => ?_⟩⟩
  have hmm5 := e5 _ _ (e4 _ _ hmm)
  refine lc_opt (walk_list (xs := names.map V.str)) hD (by rw [List.length_map]; have := hO.len; omega) (fun k => names[k]?.bind fun z => if z ∈ bforksM S b then some (V.str z) else none) (fun H' e => SqL.of (e _ _ hnm)) (fun k y H6 H7 hk e6 hy => ?_) tm_in gm_name fun H6 e6 hD6 => ?_
  · obtain ⟨rfl, hy⟩ := hy
    obtain ⟨z, hz, rfl⟩ := get_map hy
    refine ⟨rfl, L2.Same.refl _, ?_⟩
    refine t_inS (x := z) (ns := bforksM S b) rfl (fun Q q => ⟨_, rfl, q mm (.inl (SqL.of (e6 _ _ hmm5)))⟩) ?_
    rw [if_neg Bool.false_ne_true]
    refine ⟨L2.Same.refl _, ?_, fun v hv Q q => ?_⟩
    · show _ = ((names[k]?.bind fun z => if z ∈ bforksM S b then some (V.str z) else none)).isSome
      rw [hz]
      show _ = (if z ∈ bforksM S b then some (V.str z) else none).isSome
      by_cases hin2 : z ∈ bforksM S b
      · rw [if_pos hin2, decide_eq_true hin2]; rfl
      · rw [if_neg hin2, decide_eq_false hin2]; rfl
    · have hv : (names[k]?.bind fun z => if z ∈ bforksM S b then some (V.str z) else none) = some v := hv
      rw [hz] at hv
      have hv : (if z ∈ bforksM S b then some (V.str z) else none) = some v := hv
      split at hv
      · cases hv
        exact ⟨_, rfl, q _ (L2.Same.refl _)⟩
      · cases hv
  have hpn : (List.range (names.map V.str).length).filterMap (fun k => names[k]?.bind fun z => if z ∈ bforksM S b then some (V.str z) else none) = (partN names S b).map V.str := by
    rw [range_fms names _ (by rw [List.length_map]; exact Nat.le_refl _), filter_fm]; rfl
  rw [hpn] at hD6
  have e46 := e5.trans e6
  have bo6 := b4.trans (But.of e46)
  have hB6 := hB4.same e46
  refine ⟨o, D, [], [], 0, partN names S b, rfl, hB6, SqL.of hD6, hOp.ok, hOp.nd, fun z _ h => by simp at h, by have := hOp.len; simp; omega, by decide, fun H7 b7 hB7 => ?_⟩
  have b47 := bo6.trans b7
  have hB7 : BenchAt K H7 o (partN names S b) [] 1 := hB7
  have hts0 := hsl2.l
  obtain ⟨ts, hsq, hts⟩ := hts0
  have e23 : ∀ {H'}, But o (upd (upd H3 dx (.own o)) o (.ins (CB K) dx [])) H' → Same H2 H' := fun q => e3.trans (bO q)
  have htl := hts.length
  rw [List.length_map] at htl
  refine ⟨_, rfl, bl, rfl, ⟨_, (e23 b47).seq (e2.seq hbl1)⟩, ?_⟩
  refine for_it (walk_list (xs := b.map V.int)) (fun m σ H' => (∃ c6 c7 c8 c9 c10, σ = [some (.ref x), some (.int (i : Nat)), some (.ref bl), some (.ref sl), some (.ref mm), some (.ref o), c6, c7, c8, c9, c10]) ∧ But o (upd (upd H3 dx (.own o)) o (.ins (CB K) dx [])) H' ∧ BenchAt K H' o (partN names S b) (pickM S (b.take m)) (1 + m) ∧ m ≤ 20)
    ⟨⟨_, _, _, _, _, rfl⟩, b47, hB7, Nat.zero_le _⟩ (fun m σ H' _ q => (e23 q.2.1).seq (e2.seq hbl1)) (fun m y σ H8 H9 hm hPv hy => ?_) fun σ H8 hPv => ?_
  · obtain ⟨⟨c6, c7, c8, c9, c10, rfl⟩, b8, hB8, hm20⟩ := hPv
    obtain ⟨rfl, hy⟩ := hy
    obtain ⟨k, hk, rfl⟩ := get_map hy
    obtain ⟨j, rfl, hj⟩ := hin k (List.mem_of_getElem? hk)
    rw [List.length_map] at hm
    have e8 := e23 b8
    have hjt : j < ts.length := by omega
    obtain ⟨r, hr1, hrt⟩ := (hts.same e8).get (List.getElem?_eq_getElem hjt)
    obtain ⟨t, ht, rfl⟩ := get_map hr1
    refine ⟨_, rfl, _, rfl, sl, _, (j : Nat), .ref ts[j], rfl, rfl, e8.seq hsq, at_of rfl (by rw [List.getElem?_map, List.getElem?_eq_getElem hjt]; rfl), ts[j], _, rfl, hrt, rfl, _, _, rfl, _, _, rfl, _, _, rfl, rfl, ?_⟩
    obtain ⟨bo8, _, _, _, _, _, _, _, hbo8, _⟩ := id hB8
    have htp : t ∈ pickM S b := List.mem_filterMap.mpr ⟨(j : Int), List.mem_of_getElem? hk, by simpa using ht⟩
    have hpk := pick_len S (b.take m)
    rw [List.length_take] at hpk
    have hen := hOp.ends t htp
    have hlo := hOp.lo t htp
    refine ⟨_, rfl, o, bo8, _, rfl, hbo8, rfl, _, rfl, _, rfl, _, rfl, o, partN names S b, pickM S (b.take m), 1 + m, t.1, t.2.1, t.2.2, rfl, hB8, hOp.ok, by omega, by omega, hen.1, hen.2, hOp.ne t htp, hlo.1, hlo.2, fun H' v b9 hB9 => ?_⟩
    refine ⟨⟨_, _, _, _, _, rfl⟩, b8.trans b9, ?_, by omega⟩
    rw [pick_snoc hk ht]
    exact hB9
  · obtain ⟨⟨c6, c7, c8, c9, c10, rfl⟩, b8, hB8, hm20⟩ := hPv
    rw [List.length_map, List.take_length] at hB8
    exact ⟨_, rfl, hQ o _ _ (e3t.trans (bO b8)) hB8⟩
def spBcounts (K : PySem.W.Frag) : Sp := fun vs H Q _ => ∃ x names S np, vs = [.ref x] ∧ BenchAt K H x names S np ∧ BOk names S ∧ ∀ p H', Same H H' → H p = none → H' p = some (.lst ((bcountsM names S).map V.int)) → Q (.ref p) H'
theorem ok_bcounts (T : Tx K mg) : DefOk P w K mg base 17 (He.ga K "block_counts") ["bench"] [] (spBcounts K) := by
  have D_blocks := ok_blocks (P := P) (w := w) (base := base) T
  have D_part := ok_part (P := P) (w := w) (base := base) T
  have D_count_fittings := ok_count (P := P) (w := w) (base := base) T
  refine defOk T.f_block_counts sc_block_counts (fun _ _ _ _ _ _ us hl => match us, hl with | [_], _ => rfl) (fun vs H Q E h => by obtain ⟨_, _, _, _, rfl, _⟩ := h; rfl) fun cdv A outer s H vs Q E hr h => ?_
  obtain ⟨x, names, S, np, rfl, hB, hO, hQ⟩ := h
  refine ⟨_, ((pss_one (ps_ret (pe_lc (own := [("at", 1)]) (tt := tYes) rfl sc_block_counts.nd (pi_range1 rfl T.b_range (pa_cons (pe_callB call_len_seq (by rfl) T.b_len (by decide +kernel) (pa_cons (pe_callD D_blocks hr rfl T.g_blocks (pa_cons (pv 0) pa_nil)) pa_nil)) pa_nil)) (blkOk_by (own := [("at", 1)]) (N := ["bench", "at"]) (sc := (defScope s_block_counts)) (by decide +kernel)) (fun _ _ _ _ _ => (pg_name (i := 1) sc_block_counts.nd rfl (Or.inl rfl) (.inr rfl))) (fun _ _ _ _ _ => pts_nil) (fun _ _ _ _ _ => (pe_callD D_count_fittings hr rfl T.g_count_fittings (pa_cons (pe_callD D_part hr rfl T.g_part (pa_cons (pv 0) (pa_cons (pv 1) pa_nil))) pa_nil))))))), ?_⟩
  refine ⟨_, rfl, x, names, S, np, rfl, hB, hO, fun p ts H1 e1 np1 hp ha => ?_⟩
  have hal := ha.length
  have hbl := blocks_len hO
  have htl : (ts.map V.ref).length = (blocksM names S).length := by rw [List.length_map]; exact hal
  have htn : ((ts.map V.ref).length : Int).toNat = (blocksM names S).length := by rw [htl]; rfl
  refine ⟨p, _, rfl, .inl (SqL.of hp), _, rfl, by omega, by omega, fun D hD => ?_⟩
  have hcl : (bcountsM names S).length = (blocksM names S).length := by unfold bcountsM; rw [List.length_map]
  refine lc_opt walk_range hD (by omega) (fun k => (bcountsM names S)[k]?.map V.int) (fun _ _ => trivial) (fun k y H2 H3 hk e2 hy => ?_) tm_yes gm_name fun H2 e2 hD2 => ?_
  · obtain ⟨rfl, rfl⟩ := hy
    rw [htn] at hk
    have hb : (blocksM names S)[k]? = some (blocksM names S)[k] := List.getElem?_eq_getElem hk
    generalize (blocksM names S)[k] = b at hb
    have hblk := blocks_blk hO.ends b (List.mem_of_getElem? hb)
    have hc : (bcountsM names S)[k]? = some ((fitM (partN names S b) (pickM S b)).length : Int) := by
      unfold bcountsM
      rw [List.getElem?_map, hb]; rfl
    refine ⟨rfl, L2.Same.refl _, L2.Same.refl _, ?_, fun v hv Q q => ?_⟩
    · show true = ((bcountsM names S)[k]?.map V.int).isSome
      rw [hc]; rfl
    · have hv : (bcountsM names S)[k]?.map V.int = some v := hv
      rw [hc] at hv
      cases hv
      refine ⟨_, rfl, _, rfl, x, names, S, np, k, b, ?_, hB.same (e1.trans e2), hO, hb, fun pp H4 np' e4 hP => ⟨pp, _, _, np', rfl, hP, hO.part hblk, fun H5 e5 => q _ (e4.trans e5)⟩⟩
      show [V.ref x, V.int (0 + (k : Int))] = [V.ref x, V.int (k : Int)]
      rw [Int.zero_add]
  · rw [htn, range_all (bcountsM names S) V.int (by omega)] at hD2
    exact hQ D _ (e1.trans e2) (e1.back hD) hD2
end
end FBQ
end
section
set_option Elab.async false
set_option linter.all false
set_option maxRecDepth 100000
set_option maxHeartbeats 1000000
namespace FBQ
open PySem PySem.Spec PyProof.Rows L2 FBR FB
section
variable {P : Program} {w : World} {K : PySem.W.Frag} {mg : Str → Option Value} {base : Heap}
/-! ### the bag of numbers -/
def BagC (H : Hp) (b cl : Addr) (cs : List Int) : Prop := ∃ (n r : Int) (p : Nat) (z : Int), H b = some (.lst [.int n, .int r, .int (p : Int), .int z, .ref cl]) ∧ cl ≠ b ∧ H cl = some (.lst (cs.map V.int)) ∧ (∀ c ∈ cs, 0 ≤ c) ∧ 0 ≤ r ∧ p ≤ cs.length ∧ 0 ≤ z ∧ z < 2147483647
theorem BagC.same {H H' : Hp} {b cl : Addr} {cs : List Int} (e : Same H H') (h : BagC H b cl cs) : BagC H' b cl cs := by
  obtain ⟨n, r, p, z, h1, h2, h3, h4⟩ := h
  exact ⟨n, r, p, z, e _ _ h1, h2, e _ _ h3, h4⟩
theorem BagC.but {H H' : Hp} {b cl p : Addr} {cs : List Int} (e : But p H H') (n1 : b ≠ p) (n2 : cl ≠ p) (h : BagC H b cl cs) : BagC H' b cl cs := by
  obtain ⟨n, r, q, z, h1, h2, h3, h4⟩ := h
  exact ⟨n, r, q, z, e _ _ n1 h1, h2, e _ _ n2 h3, h4⟩
theorem BagC.ne {H : Hp} {b cl p : Addr} {cs : List Int} (h : BagC H b cl cs) (hp : H p = none) : b ≠ p ∧ cl ≠ p := by
  obtain ⟨n, r, q, z, h1, h2, h3, h4⟩ := h
  exact ⟨ne_of_none h1 hp, ne_of_none h3 hp⟩
theorem But.seq {H H' : Hp} {p a : Addr} {xs : List V} (b : But p H H') (n : a ≠ p) (h : SqL K H a xs) : SqL K H' a xs := by
  rcases h with (h | h) | h
  · exact .inl (.inl (b _ _ n h))
  · obtain ⟨o, h⟩ := h
    exact .inl (.inr ⟨o, b _ _ n h⟩)
  · exact .inr h
theorem g_sub {b : Addr} {xs xs2 : List V} {k : Int} {j : Nat} {v : V} {σ : L2.St} {H : Hp} {Q : L2.St → Hp → Prop} (h0 : σ[0]? = some (some (.ref b))) (hb : H b = some (.lst xs)) (hj : ixN xs.length k = some j) (hx : xs.set j v = xs2) (q : ∀ H', But b H H' → H' b = some (.lst xs2) → Q σ H') :
    gSub (tVar 0) (tC (.int k)) L2.rSetL v σ H Q := ⟨_, h0, b, xs, k, j, rfl, rfl, hb, hj, by rw [hx]; exact q _ But.put upd_same⟩
theorem seq_inv {t : TT} {A B R : TS} {D : Ends} {σ : L2.St} {H : Hp} (I : L2.St → Hp → Prop) (tail : ∀ σ' H', I σ' H' → R D σ' H') (main : ∀ N : L2.St → Hp → Prop, (∀ σ' H', I σ' H' → N σ' H') → tIfS t A B { D with nx := N } σ H) : tSeq (tIfS t A B) R D σ H := main _ tail
def spBag (K : PySem.W.Frag) : Sp := fun vs H Q _ => ∃ (l : Addr) (ns : List Int), vs = [.ref l] ∧ SqL K H l (ns.map V.int) ∧ ns.length ≤ 63 ∧ ∀ b H' cl cs, Same H H' → H b = none → BagC H' b cl cs → Q (.ref b) H'
theorem ok_bag (T : Tx K mg) : DefOk P w K mg base 1 (He.ga K "_law_bag") ["_law_script"] [] (spBag K) := by
  refine defOk T.f__law_bag sc__law_bag (fun _ _ _ _ _ _ us hl => match us, hl with | [_], _ => rfl) (fun vs H Q E h => by obtain ⟨_, _, rfl, _⟩ := h; rfl) fun cdv A outer s H vs Q E hr h => ?_
  obtain ⟨l, ns, rfl, hl, hlen, hQ⟩ := h
  refine ⟨_, ((pss_cons (ps_setLc (i := 1) (own := [("_law_cell", 2)]) (tt := tYes) rfl sc__law_bag.nd rfl rfl (sw_true rfl rfl rfl (by decide +kernel)) (pi_listK K (pe_slice sl_list (pv 0) po_none (po_some pe_int))) (blkOk_by (own := [("_law_cell", 2)]) (N := ["_law_script", "_law_cells", "_law_cell", "_law_base"]) (sc := (defScope s__law_bag)) (by decide +kernel)) (fun _ _ _ _ _ => (pg_name (i := 2) sc__law_bag.nd rfl (Or.inl rfl) (.inr rfl))) (fun _ _ _ _ _ => pts_nil) (fun _ _ _ _ _ => (pe_callB call_abs (by rfl) T.b_abs (by decide +kernel) (pa_cons (pe_callTy call_int1 (by rfl) T.b_int (by decide +kernel) (pa_cons (pv 2) pa_nil)) pa_nil))))
 (pss_cons (ps_set (i := 3) sc__law_bag.nd rfl (.inl rfl) pe_int)
 (pss_cons (ps_for PassesOwn.never rfl (pi_listK K (pv 1)) (pg_name (i := 2) sc__law_bag.nd rfl (.inl rfl) (.inl rfl))
 (pss_one (ps_set (i := 3) sc__law_bag.nd rfl (.inl rfl) (pe_op op_mod (pe_callTy call_int1 (by rfl) T.b_int (by decide +kernel) (pa_cons (pe_op op_add (pe_op op_mul (pv 3) pe_int) (pv 2)) pa_nil)) pe_int))))
 (pss_one (ps_ret (pe_lst (pa_cons pe_int (pa_cons pe_int (pa_cons pe_int (pa_cons (pv 3) (pa_cons (pv 1) pa_nil)))))))))))), ?_⟩
  have hcut : cutV (ns.map V.int) none (some 63) = ns.map V.int := by
    unfold cutV
    rw [show (some (63 : Int)) = some ((63 : Nat) : Int) from rfl, HT.sIx_nat, HT.sIx_none, List.drop_zero, Nat.sub_zero]
    exact List.take_of_length_le (by rw [List.length_map]; omega)
  refine ⟨_, rfl, 63, rfl, l, _, rfl, hl, fun p np => ⟨p, rfl, ⟨_, SqL.of upd_same⟩, fun D hD => ?_⟩⟩
  rw [hcut] at hD ⊢
  have e1 := L2.Same.new np (o := .lst (ns.map V.int))
  have hp1 : upd H p (.lst (ns.map V.int)) p = some (.lst (ns.map V.int)) := upd_same
  generalize upd H p (.lst (ns.map V.int)) = H1 at e1 hp1 hD ⊢
  refine lc_opt (walk_list (xs := ns.map V.int)) hD (by rw [List.length_map]; omega) (fun k => ns[k]?.map fun c => V.int (absI c)) (fun H' e => SqL.of (e _ _ hp1)) (fun k y H2 H3 hk e2 hy => ?_) tm_yes gm_name fun H2 e2 hD2 => ?_
  · obtain ⟨rfl, hy⟩ := hy
    obtain ⟨c, hc, rfl⟩ := get_map hy
    refine ⟨rfl, L2.Same.refl _, L2.Same.refl _, ?_, fun v hv Q q => ?_⟩
    · show true = (ns[k]?.map fun c => V.int (absI c)).isSome
      rw [hc]; rfl
    · have hv : (ns[k]?.map fun c => V.int (absI c)) = some v := hv
      rw [hc] at hv
      cases hv
      exact ⟨_, rfl, .inl ⟨_, rfl, c, rfl, q _ (L2.Same.refl _)⟩⟩
  rw [List.length_map, range_all ns (fun c => V.int (absI c)) (Nat.le_refl _), show ns.map (fun c => V.int (absI c)) = (ns.map absI).map V.int by rw [List.map_map]; rfl] at hD2
  refine ⟨_, rfl, D, rfl, ⟨_, SqL.of hD2⟩, ?_⟩
  refine for_it (walk_list (xs := (ns.map absI).map V.int)) (fun i σ H' => H' = H2 ∧ ∃ (c2 : Option V) (z : Int), σ = [some (.ref l), some (.ref D), c2, some (.int z)] ∧ 0 ≤ z ∧ z < 2147483647) ⟨rfl, _, 0, rfl, by decide, by decide⟩ (fun i σ H' _ q => by rw [q.1]; exact SqL.of hD2) (fun i y σ H3 H4 hi hPv hy => ?_) fun σ H3 hPv => ?_
  · obtain ⟨rfl, c2, z, rfl, z0, z1⟩ := hPv
    obtain ⟨rfl, hy⟩ := hy
    obtain ⟨c, hc, rfl⟩ := get_map hy
    exact ⟨_, rfl, _, _, rfl, rfl, .inl ⟨by omega, by omega⟩, _, rfl, _, _, rfl, rfl, .inl ⟨_, rfl, _, _, rfl, rfl, by show (0 : Int) < 2147483647; decide, rfl, _, _, rfl, Int.emod_nonneg _ (by decide), Int.emod_lt_of_pos _ (by decide)⟩⟩
  · obtain ⟨rfl, c2, z, rfl, z0, z1⟩ := hPv
    refine ⟨_, rfl, _, rfl, by show 5 ≤ sizeLine; decide, fun b nb => ?_⟩
    have e3 := L2.Same.new nb (o := .lst [.int 0, .int 0, .int 0, .int z, .ref D])
    have e := (e1.trans e2).trans e3
    have hDb : D ≠ b := ne_of_none hD2 nb
    exact hQ b _ D (ns.map absI) e ((e1.trans e2).back nb) ⟨0, 0, 0, z, upd_same, hDb, e3 _ _ hD2, fun c hc => by obtain ⟨x, _, rfl⟩ := List.mem_map.mp hc; unfold absI; split <;> omega, by decide, Nat.zero_le _, z0, z1⟩
def spMixed : Sp := fun vs H Q _ => ∃ c t : Int, vs = [.int c, .int t] ∧ 0 ≤ c ∧ c < 1000000000000000000 ∧ ∀ v, 0 ≤ v → Q (.int v) H
theorem ok_mixed (T : Tx K mg) : DefOk P w K mg base 1 (He.ga K "_law_mixed") ["_law_cell", "_law_turn"] [] spMixed := by
  refine defOk T.f__law_mixed sc__law_mixed (fun _ _ _ _ _ _ us hl => match us, hl with | [_, _], _ => rfl) (fun vs H Q E h => by obtain ⟨_, _, rfl, _⟩ := h; rfl) fun cdv A outer s H vs Q E hr h => ?_
  obtain ⟨c, t, rfl, h0, h1, hQ⟩ := h
  refine ⟨_, ((pss_cons (ps_set (i := 2) sc__law_mixed.nd rfl (.inl rfl) (pe_op op_mod (pe_callTy call_int1 (by rfl) T.b_int (by decide +kernel) (pa_cons (pe_op op_mul (pv 0) (pe_op op_add (pe_op op_mul pe_int (pv 1)) pe_int)) pa_nil)) pe_int))
 (pss_cons (ps_set (i := 2) sc__law_mixed.nd rfl (.inl rfl) (pe_op op_mod (pe_callTy call_int1 (by rfl) T.b_int (by decide +kernel) (pa_cons (pe_op op_add (pe_op op_mul (pv 2) pe_int) (pe_op op_fdivN (pv 2) pe_int)) pa_nil)) pe_int))
 (pss_one (ps_ret (pe_op op_fdivN (pv 2) pe_int)))))), ?_⟩
  refine ⟨_, rfl, _, rfl, _, _, rfl, rfl, .inl ⟨by decide, by decide⟩, _, _, rfl, rfl, _, _, rfl, rfl, .inl ⟨by omega, by omega⟩, .inl ⟨_, rfl, _, _, rfl, rfl, by show (0 : Int) < 2147483647; decide, ?_⟩⟩
  generalize hn : c * (48271 * t + 69621) % 2147483647 = n
  have n0 : 0 ≤ n := by rw [← hn]; exact Int.emod_nonneg _ (by decide)
  have n1 : n < 2147483647 := by rw [← hn]; exact Int.emod_lt_of_pos _ (by decide)
  refine ⟨_, rfl, _, _, rfl, rfl, .inl ⟨by omega, by omega⟩, _, rfl, _, _, rfl, rfl, ⟨by decide, by decide⟩, _, _, rfl, rfl, .inl ⟨_, rfl, _, _, rfl, rfl, by show (0 : Int) < 2147483399; decide, ?_⟩⟩
  refine ⟨_, rfl, _, _, rfl, rfl, ⟨by decide, by decide⟩, hQ _ ?_⟩
  rw [Int.fdiv_eq_ediv_of_nonneg _ (by decide)]
  exact Int.ediv_nonneg (Int.emod_nonneg _ (by decide)) (by decide)
def spTake (K : PySem.W.Frag) : Sp := fun vs H Q _ => ∃ b cl cs m, vs = [.ref b, .int m] ∧ BagC H b cl cs ∧ 1 ≤ m ∧ m ≤ 1000000 ∧ ∀ v H', But b H H' → BagC H' b cl cs → 0 ≤ v → v < m → Q (.int v) H'
theorem ok_take (T : Tx K mg) : DefOk P w K mg base 2 (He.ga K "_law_take") ["_law_bag_here", "_law_many_here"] [] (spTake K) := by
  have D__law_mixed := ok_mixed (P := P) (w := w) (base := base) T
  refine defOk T.f__law_take sc__law_take (fun _ _ _ _ _ _ us hl => match us, hl with | [_, _], _ => rfl) (fun vs H Q E h => by obtain ⟨_, _, _, _, rfl, _⟩ := h; rfl) fun cdv A outer s H vs Q E hr h => ?_
  obtain ⟨b, cl, cs, m, rfl, ⟨n, r, p, z, hb, hcb, hcl, hcs, hr0, hp, hz0, hz1⟩, hm1, hm2, hQ⟩ := h
  refine ⟨_, ((pss_cons (ps_set (i := 1) sc__law_take.nd rfl (.inl rfl) (pe_callB (call_max2 rfl) (by rfl) T.b_max (by decide +kernel) (pa_cons pe_int (pa_cons (pv 1) pa_nil))))
 (pss_cons (ps_asg (pe_op op_add (pe_ix (ix_listK K) (pv 0) pe_int (fun _ _ => rfl)) pe_int) (pg_sub (pv 0) pe_int set_list))
 (pss_cons (ps_if (PW.pt (pw_and (pt_cmpR op_lt (pe_ix (ix_listK K) (pv 0) pe_int (fun _ _ => rfl)) (pv 1) (nomark _)) (pw_and1 (pt_cmpR op_lt (pe_ix (ix_listK K) (pv 0) pe_int (fun _ _ => rfl)) (pe_callB call_len_seq (by rfl) T.b_len (by decide +kernel) (pa_cons (pe_ix (ix_listK K) (pv 0) pe_int (fun _ _ => rfl)) pa_nil)) (nomark _)))))
 (pss_cons (ps_set (i := 2) sc__law_take.nd rfl (.inl rfl) (pe_ix (ix_listK K) (pe_ix (ix_listK K) (pv 0) pe_int (fun _ _ => rfl)) (pe_ix (ix_listK K) (pv 0) pe_int (fun _ _ => rfl)) (fun _ _ => rfl)))
 (pss_cons (ps_asg (pe_op op_add (pe_ix (ix_listK K) (pv 0) pe_int (fun _ _ => rfl)) pe_int) (pg_sub (pv 0) pe_int set_list))
 (pss_cons (ps_if (pt_cmpR op_lt (pv 2) (pe_op op_pow pe_int pe_int) (nomark _))
 (pss_one (ps_ret (pe_op op_mod (pe_callTy call_int1 (by rfl) T.b_int (by decide +kernel) (pa_cons (pe_callD D__law_mixed hr rfl T.g__law_mixed (pa_cons (pv 2) (pa_cons (pe_ix (ix_listK K) (pv 0) pe_int (fun _ _ => rfl)) pa_nil))) pa_nil)) (pv 1)))) pss_nil)
 (pss_one (ps_asg (pv 2) (pg_sub (pv 0) pe_int set_list)))))) pss_nil)
 (pss_cons (ps_if (pt_cmpR op_ge (pe_ix (ix_listK K) (pv 0) pe_int (fun _ _ => rfl)) (pv 1) (nomark _))
 (pss_cons (ps_set (i := 3) sc__law_take.nd rfl (.inl rfl) (pe_op op_mod (pe_callTy call_int1 (by rfl) T.b_int (by decide +kernel) (pa_cons (pe_ix (ix_listK K) (pv 0) pe_int (fun _ _ => rfl)) pa_nil)) (pv 1)))
 (pss_cons (ps_asg (pe_op op_fdivW (pe_ix (ix_listK K) (pv 0) pe_int (fun _ _ => rfl)) (pv 1)) (pg_sub (pv 0) pe_int set_list))
 (pss_one (ps_ret (pv 3))))) pss_nil)
 (pss_one (ps_ret (pe_op op_mod (pe_callTy call_int1 (by rfl) T.b_int (by decide +kernel) (pa_cons (pe_callD D__law_mixed hr rfl T.g__law_mixed (pa_cons (pe_ix (ix_listK K) (pv 0) pe_int (fun _ _ => rfl)) (pa_cons (pe_ix (ix_listK K) (pv 0) pe_int (fun _ _ => rfl)) pa_nil))) pa_nil)) (pv 1))))))))), ?_⟩
  refine ⟨_, rfl, _, _, rfl, ?_⟩
  rw [show (if m > 1 then m else 1) = m by split <;> omega]
  refine ⟨_, rfl, b, _, 0, .int n, rfl, rfl, SqL.of hb, rfl, _, _, rfl, rfl, g_sub rfl hb rfl rfl fun H1 b1 hb1 => ?_⟩
  have hcl1 := b1 _ _ hcb hcl
  have md : ∀ x : Int, 0 ≤ x % m ∧ x % m < m := fun x => ⟨Int.emod_nonneg _ (by omega), Int.emod_lt_of_pos _ (by omega)⟩
  dsimp only
  refine seq_inv (fun σ' H' => (∃ c2 c3, σ' = [some (.ref b), some (.int m), c2, c3]) ∧ But b H H' ∧ ∃ (n' r' : Int) (p' : Nat), H' b = some (.lst [.int n', .int r', .int (p' : Int), .int z, .ref cl]) ∧ 0 ≤ r' ∧ p' ≤ cs.length) (fun σ' H' h => ?_) fun N hN => ?_
  · obtain ⟨⟨c2, c3, rfl⟩, b2, n', r', p', hb2, hr2, hp2⟩ := h
    refine ⟨_, rfl, b, _, 1, .int r', rfl, rfl, SqL.of hb2, rfl, _, rfl, _, _, rfl, rfl, _, rfl, iteB (fun hc => ?_) fun hc => ?_⟩
    · refine ⟨_, rfl, b, _, 1, .int r', rfl, rfl, SqL.of hb2, rfl, .inl ⟨_, rfl, _, rfl, _, _, rfl, rfl, by omega, ?_⟩⟩
      refine ⟨_, rfl, b, _, 1, .int r', rfl, rfl, SqL.of hb2, rfl, _, rfl, _, _, rfl, rfl, ⟨by omega, ?_⟩, _, rfl, b, _, 1, 1, rfl, rfl, hb2, rfl, ?_⟩
      · have : m.natAbs < 2 ^ 9000 := Nat.lt_of_lt_of_le (show m.natAbs < 2 ^ 20 by omega) (Nat.pow_le_pow_right (by decide) (show 20 ≤ 9000 by decide))
        exact (Nat.log2_lt (by omega)).mpr this
      · refine ⟨_, rfl, hQ _ _ (b2.trans But.put) ⟨n', r' / m, p', z, upd_same, hcb, (b2.trans But.put) _ _ hcb hcl, hcs, Int.ediv_nonneg hr2 (by omega), hp2, hz0, hz1⟩ (md r').1 (md r').2⟩
    · refine ⟨_, rfl, b, _, 3, .int z, rfl, rfl, SqL.of hb2, rfl, _, rfl, b, _, 0, .int n', rfl, rfl, SqL.of hb2, rfl, z, n', rfl, hz0, by omega, fun v hv => .inl ⟨_, rfl, _, rfl, _, _, rfl, rfl, by omega, ?_⟩⟩
      exact hQ _ _ b2 ⟨n', r', p', z, hb2, hcb, b2 _ _ hcb hcl, hcs, hr2, hp2, hz0, hz1⟩ (md v).1 (md v).2
  · refine ⟨_, rfl, b, _, 1, .int r, rfl, rfl, SqL.of hb1, rfl, _, rfl, _, _, rfl, rfl, _, rfl, ?_⟩
    refine iteB (fun c1 => ?_) fun c1 => iteF (hN _ _ ⟨⟨_, _, rfl⟩, b1, _, _, _, hb1, hr0, hp⟩)
    refine ⟨_, rfl, b, _, 2, .int (p : Int), rfl, rfl, SqL.of hb1, rfl, _, rfl, b, _, 4, .ref cl, rfl, rfl, SqL.of hb1, rfl, cl, _, rfl, .inl (SqL.of hcl1), _, _, rfl, rfl, _, rfl, ?_⟩
    refine iteB (fun c2 => ?_) fun c2 => hN _ _ ⟨⟨_, _, rfl⟩, b1, _, _, _, hb1, hr0, hp⟩
    rw [List.length_map] at c2
    have c2 : p < cs.length := by omega
    have hcp := hcs _ (List.getElem_mem c2)
    refine ⟨_, rfl, b, _, 4, .ref cl, rfl, rfl, SqL.of hb1, rfl, _, rfl, b, _, 2, .int (p : Int), rfl, rfl, SqL.of hb1, rfl, cl, _, (p : Int), .int cs[p], rfl, rfl, SqL.of hcl1, at_of rfl (by rw [List.getElem?_map, List.getElem?_eq_getElem c2]; rfl), ?_⟩
    refine ⟨_, rfl, b, _, 2, .int (p : Int), rfl, rfl, SqL.of hb1, rfl, _, _, rfl, rfl, g_sub (xs2 := [.int (n + 1), .int r, .int ((p + 1 : Nat) : Int), .int z, .ref cl]) rfl hb1 rfl rfl fun H2 b12 hb2 => ?_⟩
    have b2 := b1.trans b12
    refine ⟨_, rfl, _, _, rfl, rfl, ⟨by decide, by decide, by decide⟩, _, _, rfl, rfl, _, rfl, iteB (fun c3 => ?_) fun c3 => ?_⟩
    · have c3 : cs[p] < 1000000000000000000 := c3
      refine ⟨_, rfl, _, rfl, b, _, 0, .int (n + 1), rfl, rfl, SqL.of hb2, rfl, cs[p], n + 1, rfl, hcp, c3, fun v hv => .inl ⟨_, rfl, _, rfl, _, _, rfl, rfl, by omega, ?_⟩⟩
      exact hQ _ _ b2 ⟨n + 1, r, p + 1, z, hb2, hcb, b2 _ _ hcb hcl, hcs, hr0, c2, hz0, hz1⟩ (md v).1 (md v).2
    · exact ⟨_, rfl, _, rfl, b, _, 1, 1, rfl, rfl, hb2, rfl, hN _ _ ⟨⟨_, _, rfl⟩, b2.trans But.put, n + 1, cs[p], p + 1, upd_same, hcp, c2⟩⟩
end
end FBQ
end
section
set_option Elab.async false
set_option linter.all false
set_option maxRecDepth 100000
set_option maxHeartbeats 1000000
namespace FBQ
open PySem PySem.Spec PyProof.Rows L2 FBR FB
/-! ### small texts of letters -/
def OkC (z : Str) : Prop := ∀ c ∈ z.cps.toList, 97 ≤ c ∧ c ≤ 122
theorem OkC.app {x y : Str} (h1 : OkC x) (h2 : OkC y) : OkC (x ++ y) := fun c hc => by
  have hc : c ∈ (x.cps ++ y.cps).toList := hc
  rw [Array.toList_append, List.mem_append] at hc
  exact hc.elim (h1 c) (h2 c)
theorem app_len {x y : Str} : (x ++ y).length = x.length + y.length := Array.size_append
theorem OkC.one {c : Nat} (h : 97 ≤ c ∧ c ≤ 122) : OkC ⟨#[c]⟩ := fun d hd => by
  have hd : d ∈ [c] := hd
  simp at hd
  rw [hd]; exact h
theorem OkC.nil : OkC (Str.ofString "") := fun d hd => by
  have e : (Str.ofString "").cps = #[] := by decide
  rw [e] at hd
  simp at hd
theorem join_fine0 : ∀ ys : List Str, (∀ y ∈ ys, OkC y ∧ y.length = 1) → OkC (Str.join (Str.ofString "") ys) ∧ (Str.join (Str.ofString "") ys).length = ys.length
  | [], _ => ⟨fun d hd => by simp [Str.join, Str.empty] at hd, rfl⟩
  | [x], h => ⟨(h x (by simp)).1, (h x (by simp)).2⟩
  | x :: y :: r, h => by
    have ih := join_fine0 (y :: r) fun z hz => h z (List.mem_cons_of_mem _ hz)
    have hx := h x (by simp)
    have e : Str.join (Str.ofString "") (x :: y :: r) = x ++ Str.ofString "" ++ Str.join (Str.ofString "") (y :: r) := rfl
    rw [e]
    refine ⟨(hx.1.app OkC.nil).app ih.1, ?_⟩
    rw [app_len, app_len, ih.2, hx.2]
    rw [List.length_cons (a := x)]
    have : (Str.ofString "").length = 0 := by decide
    omega
theorem join_fine (ys : List Str) (h : ∀ y ∈ ys, OkC y ∧ y.length = 1) : OkC (Txt.join (Str.ofString "") ys) ∧ (Txt.join (Str.ofString "") ys).length = ys.length := by
  have e : Txt.join (Str.ofString "") ys = Str.join (Str.ofString "") ys := StrLaws.glued_eq_join _ _
  rw [e]
  exact join_fine0 ys h
theorem cut_fine {z : Str} {n : Nat} (h : OkC z) : OkC (cutS z none (some (n : Int))) ∧ (cutS z none (some (n : Int))).length = min n z.length := by
  have e : (cutS z none (some (n : Int))).cps = (z.cps.toList.take (min n z.length)).toArray := by
    unfold cutS
    rw [HT.sIx_nat, HT.sIx_none, List.drop_zero, Nat.sub_zero]
  refine ⟨fun c hc => ?_, ?_⟩
  · rw [e] at hc
    exact h c (List.mem_of_mem_take hc)
  · show (cutS z none (some (n : Int))).cps.size = _
    rw [e, List.size_toArray, List.length_take, Array.length_toList]
    show min (min n z.length) z.length = _
    omega
theorem rep_fine {z : Str} (h : OkC z) : OkC (repS 4 z) ∧ (repS 4 z).length = 4 * z.length := by
  have e : (repS 4 z).cps = #[] ++ z.cps ++ z.cps ++ z.cps ++ z.cps := rfl
  refine ⟨fun c hc => ?_, ?_⟩
  · rw [e] at hc
    simp only [Array.toList_append, List.mem_append] at hc
    rcases hc with (((hc | hc) | hc) | hc) | hc
    · simp at hc
    all_goals exact h c hc
  · show (repS 4 z).cps.size = _
    rw [e]
    simp only [Array.size_append]
    show 0 + z.cps.size + z.cps.size + z.cps.size + z.cps.size = 4 * z.cps.size
    omega
def lettersS : Str := Str.ofString "qwertyuiopasdfghjklzxcvbnm"
def twelveS : Str := Str.ofString "abcdefghijkl"
theorem letters_at {i : Int} (h0 : 0 ≤ i) (h1 : i < 26) : ∃ c, atI lettersS.cps.toList i = some c ∧ 97 ≤ c ∧ c ≤ 122 := by
  have h : ∀ n : Fin 26, ∃ c, atI lettersS.cps.toList ((n.val : Nat) : Int) = some c ∧ 97 ≤ c ∧ c ≤ 122 := by
    have hh : ∀ n : Fin 26, (match atI lettersS.cps.toList ((n.val : Nat) : Int) with | some c => decide (97 ≤ c ∧ c ≤ 122) | none => false) = true := by decide +kernel
    intro n
    have := hh n
    cases e : atI lettersS.cps.toList ((n.val : Nat) : Int) with
    | none => rw [e] at this; cases this
    | some c => rw [e] at this; exact ⟨c, rfl, of_decide_eq_true this⟩
  have hi : i = ((i.toNat : Nat) : Int) := by omega
  rw [hi]
  exact h ⟨i.toNat, by omega⟩
theorem twelve_ok : twelveS.cps.toList.Nodup ∧ twelveS.cps.toList.length = 12 ∧ ∀ c ∈ twelveS.cps.toList, 97 ≤ c ∧ c ≤ 122 := by decide +kernel
def poolS (z : Str) : List Str := z :: twelveS.cps.toList.map fun c => cutS z none (some 3) ++ ⟨#[c]⟩
theorem pool_ok {z : Str} (h : OkN z) : ∀ y ∈ poolS z, OkN y := by
  intro y hy
  rcases List.mem_cons.mp hy with e | e
  · rw [e]; exact h
  · obtain ⟨c, hc, rfl⟩ := List.mem_map.mp e
    have hf := cut_fine (n := 3) (z := z) h.2.2
    have ho := hf.1.app (OkC.one (twelve_ok.2.2 c hc))
    refine ⟨?_, ?_, ho⟩
    · rw [app_len]
      show 1 ≤ _ + 1
      omega
    · rw [app_len, show cutS z none (some 3) = cutS z none (some ((3 : Nat) : Int)) from rfl, hf.2]
      show min 3 z.length + 1 ≤ 12
      omega
theorem pool_new {z : Str} {names : List Str} (h : names.length ≤ 11) : ∃ y r, (poolS z).filter (fun y => decide (y ∉ names)) = y :: r := by
  cases e : (poolS z).filter (fun y => decide (y ∉ names)) with
  | cons y r => exact ⟨y, r, rfl⟩
  | nil =>
    have hall : ∀ y ∈ poolS z, y ∈ names := fun y hy => by
      have := List.filter_eq_nil_iff.mp e y hy
      simpa using this
    have hn : (twelveS.cps.toList.map fun c => cutS z none (some 3) ++ (⟨#[c]⟩ : Str)).Nodup := by
      refine List.Pairwise.map _ (fun a b hab q => hab ?_) twelve_ok.1
      have q2 := congrArg (fun s : Str => s.cps.toList) q
      have q2 : ((cutS z none (some 3)).cps ++ #[a]).toList = ((cutS z none (some 3)).cps ++ #[b]).toList := q2
      rw [Array.toList_append, Array.toList_append] at q2
      have q3 : (cutS z none (some 3)).cps.toList ++ [a] = (cutS z none (some 3)).cps.toList ++ [b] := q2
      simpa using List.append_cancel_left q3
    have := nodup_len hn fun y hy => hall y (List.mem_cons_of_mem _ hy)
    rw [List.length_map, twelve_ok.2.1] at this
    omega
theorem cut_takeM (xs : List V) (k : Nat) : cutV xs none (some (k : Int)) = xs.take (min k xs.length) := by
  unfold cutV
  rw [HT.sIx_nat, HT.sIx_none, List.drop_zero, Nat.sub_zero]
theorem filter_fmN (M : List Str) : ∀ l : List Str, l.filterMap (fun z => if z ∈ M then none else some (V.str z)) = (l.filter fun z => decide (z ∉ M)).map V.str
  | [] => rfl
  | z :: l => by
    by_cases h : z ∈ M
    · rw [List.filterMap_cons, if_pos h, List.filter_cons_of_neg (by simpa using h), filter_fmN M l]
    · rw [List.filterMap_cons, if_neg h, List.filter_cons_of_pos (by simpa using h), List.map_cons, filter_fmN M l]
section
variable {P : Program} {w : World} {K : PySem.W.Frag} {mg : Str → Option Value} {base : Heap}
def spName (K : PySem.W.Frag) : Sp := fun vs H Q _ => ∃ (b l cl : Addr) (cs : List Int) (names : List Str), vs = [.ref b, .ref l] ∧ BagC H b cl cs ∧ H l = some (.lst (names.map V.str)) ∧ l ≠ b ∧ names.length ≤ 10 ∧ ∀ z H', But b H H' → BagC H' b cl cs → OkN z → z ∉ names → Q (.str z) H'
theorem ok_name (T : Tx K mg) : DefOk P w K mg base 3 (He.ga K "_law_name") ["_law_bag_here", "_law_names_here"] [] (spName K) := by
  have D__law_take := ok_take (P := P) (w := w) (base := base) T
  refine defOk T.f__law_name sc__law_name (fun _ _ _ _ _ _ us hl => match us, hl with | [_, _], _ => rfl) (fun vs H Q E h => by obtain ⟨_, _, _, _, _, rfl, _⟩ := h; rfl) fun cdv A outer s H vs Q E hr h => ?_
  obtain ⟨b, l, cl, cs, names, rfl, hb, hl, hlb, hlen, hQ⟩ := h
  refine ⟨_, ((pss_cons (ps_set (i := 2) sc__law_name.nd rfl (.inl rfl) pe_str)
 (pss_cons (ps_set (i := 3) sc__law_name.nd rfl (.inl rfl) (pe_callD D__law_take hr rfl T.g__law_take (pa_cons (pv 0) (pa_cons (pe_op op_mul (pe_op op_mul (pe_op op_mul pe_int pe_int) pe_int) pe_int) pa_nil))))
 (pss_cons (ps_set (i := 4) sc__law_name.nd rfl (.inl rfl) (pe_lst (pa_cons (pe_ix ix_str (pv 2) (pe_op op_mod (pe_callTy call_int1 (by rfl) T.b_int (by decide +kernel) (pa_cons (pe_op op_fdivN (pv 3) pe_int) pa_nil)) pe_int) (fun _ _ => rfl)) (pa_cons (pe_ix ix_str (pv 2) (pe_op op_mod (pe_callTy call_int1 (by rfl) T.b_int (by decide +kernel) (pa_cons (pe_op op_fdivN (pv 3) pe_int) pa_nil)) pe_int) (fun _ _ => rfl)) (pa_cons (pe_ix ix_str (pv 2) (pe_op op_mod (pe_callTy call_int1 (by rfl) T.b_int (by decide +kernel) (pa_cons (pe_op op_fdivN (pv 3) pe_int) pa_nil)) pe_int) (fun _ _ => rfl)) pa_nil)))))
 (pss_cons (ps_set (i := 5) sc__law_name.nd rfl (.inr rfl) (pe_join pe_str (pe_slice sl_list (pv 4) po_none (po_some (pe_op op_add pe_int (pe_op op_mod (pe_callTy call_int1 (by rfl) T.b_int (by decide +kernel) (pa_cons (pv 3) pa_nil)) pe_int))))))
 (pss_cons (ps_if (pt_cmpR op_eq (pe_op op_mod (pe_callTy call_int1 (by rfl) T.b_int (by decide +kernel) (pa_cons (pv 3) pa_nil)) pe_int) pe_int (nomark _))
 (pss_one (ps_set (i := 5) sc__law_name.nd rfl (.inr rfl) (pe_slice sl_str (pe_op op_mulS (pe_join pe_str (pv 4)) pe_int) po_none (po_some pe_int)))) pss_nil)
 (pss_cons (ps_set (i := 6) sc__law_name.nd rfl (.inl rfl) (pe_op op_cat (pe_lst (pa_cons (pv 5) pa_nil)) (pe_lc (own := [("_law_letter", 7)]) (tt := tYes) rfl sc__law_name.nd (pi_str pe_str) (blkOk_by (own := [("_law_letter", 7)]) (N := ["_law_bag_here", "_law_names_here", "_law_letters", "_law_number", "_law_row_here", "_law_name_here", "_law_pool", "_law_letter", "_law_one"]) (sc := (defScope s__law_name)) (by decide +kernel)) (fun _ _ _ _ _ => (pg_name (i := 7) sc__law_name.nd rfl (Or.inl rfl) (.inr rfl))) (fun _ _ _ _ _ => pts_nil) (fun _ _ _ _ _ => (pe_op op_add_str (pe_slice sl_str (pv 5) po_none (po_some pe_int)) (pv 7))))))
 (pss_one (ps_ret (pe_ix (ix_listK K) (pe_lc (own := [("_law_one", 8)]) (tt := _) rfl sc__law_name.nd (pi_listK K (pv 6)) (blkOk_by (own := [("_law_one", 8)]) (N := ["_law_bag_here", "_law_names_here", "_law_letters", "_law_number", "_law_row_here", "_law_name_here", "_law_pool", "_law_letter", "_law_one"]) (sc := (defScope s__law_name)) (by decide +kernel)) (fun _ _ _ _ _ => (pg_name (i := 8) sc__law_name.nd rfl (Or.inl rfl) (.inr rfl))) (fun _ _ _ _ _ => pts_one (pt_cmpR (op_ninK K) (pv 8) (pv 1) rfl)) (fun _ _ _ _ _ => (pv 8))) pe_int (fun _ _ => rfl))))))))))), ?_⟩
  refine ⟨_, rfl, _, _, rfl, rfl, .inl ⟨by decide, by decide⟩, _, _, rfl, rfl, .inl ⟨by decide, by decide⟩, _, _, rfl, rfl,   .inl ⟨by decide, by decide⟩, b, cl, cs, _, rfl, hb, by decide, by decide, fun n H1 b1 hb1 n0 n1 => ?_⟩
  have fd : ∀ k : Int, 0 < k → 0 ≤ n.fdiv k := fun k hk => by rw [Int.fdiv_eq_ediv_of_nonneg _ (by omega)]; exact Int.ediv_nonneg n0 (by omega)
  have h26 : ∀ x : Int, ∃ c, atI lettersS.cps.toList (x % 26) = some c ∧ 97 ≤ c ∧ c ≤ 122 := fun x => letters_at (Int.emod_nonneg _ (by decide)) (Int.emod_lt_of_pos _ (by decide))
  obtain ⟨c1, hc1, k1⟩ := h26 (n.fdiv 8)
  obtain ⟨c2, hc2, k2⟩ := h26 (n.fdiv 208)
  obtain ⟨c3, hc3, k3⟩ := h26 (n.fdiv 5408)
  have hlz : lettersS.length ≤ sizeLine := by decide +kernel
  have hm26 : (0 : Int) < 26 := by decide
  refine ⟨_, rfl, _, rfl, _, _, rfl, rfl, ⟨by decide, by decide⟩, .inl ⟨_, rfl, _, _, rfl, rfl, hm26, lettersS, _, c1, rfl, rfl, hlz, hc1, ?_⟩⟩
  refine ⟨_, rfl, _, rfl, _, _, rfl, rfl, ⟨by decide, by decide⟩, .inl ⟨_, rfl, _, _, rfl, rfl, hm26, lettersS, _, c2, rfl, rfl, hlz, hc2, ?_⟩⟩
  refine ⟨_, rfl, _, rfl, _, _, rfl, rfl, ⟨by decide, by decide⟩, .inl ⟨_, rfl, _, _, rfl, rfl, hm26, lettersS, _, c3, rfl, rfl, hlz, hc3, ?_⟩⟩
  refine ⟨by show 3 ≤ sizeLine; decide, fun rl nrl => ?_⟩
  have hrow : ∀ y ∈ [(⟨#[c1]⟩ : Str), ⟨#[c2]⟩, ⟨#[c3]⟩], OkC y ∧ y.length = 1 := fun y hy => by
    simp at hy
    rcases hy with e | e | e
    · rw [e]; exact ⟨.one k1, rfl⟩
    · rw [e]; exact ⟨.one k2, rfl⟩
    · rw [e]; exact ⟨.one k3, rfl⟩
  have hrl3 : [(⟨#[c1]⟩ : Str), ⟨#[c2]⟩, ⟨#[c3]⟩].length = 3 := rfl
  have e2 := L2.Same.new nrl (o := .lst ([(⟨#[c1]⟩ : Str), ⟨#[c2]⟩, ⟨#[c3]⟩].map V.str))
  have hrl : upd H1 rl (.lst ([(⟨#[c1]⟩ : Str), ⟨#[c2]⟩, ⟨#[c3]⟩].map V.str)) rl = some (.lst ([(⟨#[c1]⟩ : Str), ⟨#[c2]⟩, ⟨#[c3]⟩].map V.str)) := upd_same
  dsimp only [gName]
  rw [show [V.str (⟨#[c1]⟩ : Str), V.str ⟨#[c2]⟩, V.str ⟨#[c3]⟩] = [(⟨#[c1]⟩ : Str), ⟨#[c2]⟩, ⟨#[c3]⟩].map V.str from rfl]
  generalize [(⟨#[c1]⟩ : Str), ⟨#[c2]⟩, ⟨#[c3]⟩] = row at hrow hrl3 e2 hrl ⊢
  generalize upd H1 rl (.lst (row.map V.str)) = H2 at e2 hrl ⊢
  have hm4 : (0 : Int) < 4 := by decide
  have hm8 : (0 : Int) < 8 := by decide
  have hk : (1 : Int) + n % 4 = (((1 + n % 4).toNat : Nat) : Int) := by have := Int.emod_nonneg n (show (4 : Int) ≠ 0 by decide); omega
  have hk1 : 1 ≤ (1 + n % 4).toNat := by have := Int.emod_nonneg n (show (4 : Int) ≠ 0 by decide); omega
  generalize (1 + n % 4).toNat = k at hk hk1
  refine ⟨⟨_, rfl⟩, _, rfl, _, rfl, .inl ⟨_, rfl, _, _, rfl, rfl, hm4, _, _, rfl, rfl, _, rfl, rl, _, rfl, SqL.of hrl, fun p np => ?_⟩⟩
  have hcut : cutV (row.map V.str) none (some (1 + n % 4)) = (row.take (min k 3)).map V.str := by
    rw [hk, cut_takeM, List.length_map, hrl3, ← List.map_take]
  have hrt := join_fine (row.take (min k 3)) fun y hy => hrow y (List.mem_of_mem_take hy)
  have hrtl : (row.take (min k 3)).length = min k 3 := by rw [List.length_take, hrl3]; omega
  have hsum : ∀ ys : List Str, (∀ y ∈ ys, OkC y ∧ y.length = 1) → (ys.map fun x => x.length).sum = ys.length := by
    intro ys
    induction ys with
    | nil => intro _; rfl
    | cons a ys ih =>
      intro h
      rw [List.map_cons, List.sum_cons, ih fun y hy => h y (List.mem_cons_of_mem _ hy), (h a (by simp)).2, List.length_cons]
      omega
  have he0 : (Str.ofString "").length = 0 := by decide
  refine ⟨Str.ofString "", p, row.take (min k 3), rfl, rfl, .inl (SqL.of (by rw [upd_same, hcut])), by rw [hsum _ fun y hy => hrow y (List.mem_of_mem_take hy), hrtl, he0]; omega, ?_⟩
  have hz0 : OkN (Txt.join (Str.ofString "") (row.take (min k 3))) := ⟨by rw [hrt.2, hrtl]; omega, by rw [hrt.2, hrtl]; omega, hrt.1⟩
  have e3 := L2.Same.new np (o := .lst (cutV (row.map V.str) none (some (1 + n % 4))))
  generalize Txt.join (Str.ofString "") (row.take (min k 3)) = z0 at hz0 ⊢
  dsimp only [gName]
  have hrl4 := e3 _ _ hrl
  generalize upd H2 p (.lst (cutV (row.map V.str) none (some (1 + n % 4)))) = H3 at e3 hrl4 ⊢
  have e13 := e2.trans e3
  refine seq_inv (fun σ' H' => H' = H3 ∧ ∃ z, OkN z ∧ σ' = [some (.ref b), some (.ref l), some (.str lettersS), some (.int n), some (.ref rl), some (.str z), none, none, none]) (fun σ' H' h => ?_) fun N hN => ?_
  · obtain ⟨rfl, z, hz, rfl⟩ := h
    refine ⟨_, rfl, by show 1 ≤ sizeLine; decide, fun a na => ⟨twelveS, rfl, fun D hD => ?_⟩⟩
    have ea := L2.Same.new na (o := .lst [V.str z])
    have ha : upd H' a (.lst [V.str z]) a = some (.lst [V.str z]) := upd_same
    have e14 := e13.trans ea
    generalize upd H' a (.lst [V.str z]) = H4 at ea ha hD e14 ⊢
    have hz3 := cut_fine (n := 3) (z := z) hz.2.2
    refine lc_opt (walk_str (z := twelveS)) hD (by decide +kernel) (fun k => twelveS.cps.toList[k]?.map fun c => V.str (cutS z none (some 3) ++ ⟨#[c]⟩)) (fun _ _ => trivial) (fun k y H5 H6 hk e hy => ?_) tm_yes gm_name fun H5 e5 hD5 => ?_
    · obtain ⟨rfl, c, hc, rfl⟩ := hy
      have hc : twelveS.cps.toList[k]? = some c := by rw [Array.getElem?_toList]; exact hc
      refine ⟨rfl, L2.Same.refl _, L2.Same.refl _, ?_, fun v hv Q q => ?_⟩
      · show true = (twelveS.cps.toList[k]?.map fun c => V.str (cutS z none (some 3) ++ (⟨#[c]⟩ : Str))).isSome
        rw [hc]; rfl
      · have hv : (twelveS.cps.toList[k]?.map fun c => V.str (cutS z none (some 3) ++ (⟨#[c]⟩ : Str))) = some v := hv
        rw [hc] at hv
        cases hv
        refine ⟨_, rfl, 3, rfl, z, rfl, by rw [sizeLine_eq]; have := hz.2.1; omega, _, rfl, _, _, rfl, rfl, ?_, q _ (L2.Same.refl _)⟩
        rw [show cutS z none (some 3) = cutS z none (some ((3 : Nat) : Int)) from rfl, hz3.2, sizeLine_eq]
        show min 3 z.length + 1 ≤ _
        omega
    rw [range_all twelveS.cps.toList _ (by rw [Array.length_toList]; exact Nat.le_refl _)] at hD5
    refine ⟨a, D, _, _, rfl, rfl, e5 _ _ ha, hD5, by rw [List.length_map, twelve_ok.2.1, sizeLine_eq]; show 1 + 12 ≤ 16777216; decide, fun p2 np2 => ?_⟩
    have e6 := L2.Same.new np2 (o := .lst ((poolS z).map V.str))
    have hp2 : upd H5 p2 (.lst ((poolS z).map V.str)) p2 = some (.lst ((poolS z).map V.str)) := upd_same
    have hpe : [V.str z] ++ twelveS.cps.toList.map (fun c => V.str (cutS z none (some 3) ++ (⟨#[c]⟩ : Str))) = (poolS z).map V.str := by
      unfold poolS
      rw [List.map_cons, List.map_map]; rfl
    rw [hpe]
    have e16 := (e14.trans e5).trans e6
    dsimp only [gName]
    generalize upd H5 p2 (.lst ((poolS z).map V.str)) = H6 at e6 hp2 e16 ⊢
    refine ⟨_, rfl, p2, rfl, ⟨_, SqL.of hp2⟩, fun D2 hD2 => ?_⟩
    have hpl : (poolS z).length = 13 := by unfold poolS; rw [List.length_cons, List.length_map, twelve_ok.2.1]
    have hl6 := e16 _ _ (b1 _ _ hlb hl)
    have hpn := pool_new (z := z) (names := names) (by omega)
    have hpo := pool_ok hz
    generalize poolS z = pool at hp2 hpl hpn hpo
    obtain ⟨y0, r0, hy0⟩ := hpn
    have hf0 := List.mem_filter.mp (show y0 ∈ pool.filter (fun y => decide (y ∉ names)) by rw [hy0]; simp)
    refine lc_opt (walk_list (xs := pool.map V.str)) hD2 (by rw [List.length_map, hpl]; decide) (fun k => pool[k]?.bind fun y => if y ∈ names then none else some (V.str y)) (fun H' e => SqL.of (e _ _ hp2)) (fun k y H7 H8 hk e7 hy => ?_) tm_in gm_name fun H7 e7 hD7 => ?_
    · obtain ⟨rfl, hy⟩ := hy
      obtain ⟨y, hy2, rfl⟩ := get_map hy
      refine ⟨rfl, L2.Same.refl _, ?_⟩
      refine t_inS (x := y) (ns := names) rfl (fun Q q => ⟨_, rfl, q l (.inl (SqL.of (e7 _ _ hl6)))⟩) ?_
      rw [if_pos rfl]
      refine ⟨L2.Same.refl _, ?_, fun v hv Q q => ?_⟩
      · show _ = (pool[k]?.bind fun y => if y ∈ names then none else some (V.str y)).isSome
        rw [hy2]
        show _ = (if y ∈ names then none else some (V.str y)).isSome
        by_cases hin2 : y ∈ names
        · rw [if_pos hin2, decide_eq_true hin2]; rfl
        · rw [if_neg hin2, decide_eq_false hin2]; rfl
      · have hv : (pool[k]?.bind fun y => if y ∈ names then none else some (V.str y)) = some v := hv
        rw [hy2] at hv
        have hv : (if y ∈ names then none else some (V.str y)) = some v := hv
        split at hv
        · cases hv
        · cases hv
          exact ⟨_, rfl, q _ (L2.Same.refl _)⟩
    rw [range_fms pool _ (by rw [List.length_map]; exact Nat.le_refl _), filter_fmN, hy0] at hD7
    have hbq := b1.trans (But.of (e16.trans e7))
    exact ⟨D2, _, 0, .str y0, rfl, rfl, SqL.of hD7, at_of (j := 0) rfl rfl, hQ y0 _ hbq ((hb1.same e16).same e7) (hpo _ hf0.1) (of_decide_eq_true hf0.2)⟩
  · refine ⟨_, rfl, .inl ⟨_, rfl, _, _, rfl, rfl, hm8, rfl, _, rfl, iteB (fun hc => ?_) fun hc => hN _ _ ⟨rfl, z0, hz0, rfl⟩⟩⟩
    have hja := join_fine row hrow
    refine ⟨⟨_, rfl⟩, _, rfl, Str.ofString "", rl, row, rfl, rfl, .inl (SqL.of hrl4), by rw [hsum _ hrow, hrl3, he0]; omega, ?_⟩
    have hrf := rep_fine hja.1
    have hcf := cut_fine (n := 12) hrf.1
    refine ⟨_, rfl, rfl, by rw [hja.2, hrl3]; omega, by rw [hja.2, hrl3]; omega, by rw [hrf.2, hja.2, hrl3]; omega, _, rfl, _, rfl, by rw [hrf.2, hja.2, hrl3, sizeLine_eq]; omega, hN _ _ ⟨rfl, _, ⟨?_, ?_, hcf.1⟩, rfl⟩⟩
    · rw [hcf.2, hrf.2, hja.2, hrl3]; omega
    · rw [hcf.2, hrf.2, hja.2, hrl3]; omega
end
end FBQ
end
section
set_option Elab.async false
set_option linter.all false
set_option maxRecDepth 100000
set_option maxHeartbeats 1000000
namespace FBQ
open PySem PySem.Spec PyProof.Rows L2 FBR FB
section
variable {P : Program} {w : World} {K : PySem.W.Frag} {mg : Str → Option Value} {base : Heap}
theorem perm_insert {α : Type} (l : List α) (k : Nat) (z : α) : (l.take k ++ [z] ++ l.drop k).Perm (z :: l) := by
  have h : (l.take k ++ [z] ++ l.drop k).Perm (z :: (l.take k ++ l.drop k)) := by
    rw [List.append_assoc]
    exact List.perm_middle
  rwa [List.take_append_drop] at h
theorem map_erase {α β : Type} (f : α → β) : ∀ (l : List α) (k : Nat), (l.map f).eraseIdx k = (l.eraseIdx k).map f
  | [], _ => rfl
  | _ :: _, 0 => rfl
  | a :: l, k + 1 => by
    show f a :: (l.map f).eraseIdx k = f a :: (l.eraseIdx k).map f
    rw [map_erase f l k]
theorem erase_perm {α : Type} : ∀ {l : List α} {k : Nat} (h : k < l.length), ([l[k]] ++ l.eraseIdx k).Perm l
  | [], _, h => absurd h (Nat.not_lt_zero _)
  | _ :: _, 0, _ => List.Perm.refl _
  | a :: l, k + 1, h => by
    have ih := erase_perm (l := l) (k := k) (Nat.lt_of_succ_lt_succ h)
    show (l[k]'(Nat.lt_of_succ_lt_succ h) :: a :: l.eraseIdx k).Perm (a :: l)
    exact (List.Perm.swap _ _ _).trans (List.Perm.cons a ih)
def spMany (K : PySem.W.Frag) : Sp := fun vs H Q _ => ∃ (b cl : Addr) (cs : List Int) (t : Int), vs = [.ref b, .int t] ∧ BagC H b cl cs ∧ 1 ≤ t ∧ t ≤ 1000000 ∧ ∀ v H', But b H H' → BagC H' b cl cs → 1 ≤ v → v ≤ t → Q (.int v) H'
theorem ok_many (T : Tx K mg) : DefOk P w K mg base 3 (He.ga K "_law_many") ["_law_bag_here", "_law_top"] [] (spMany K) := by
  have D__law_take := ok_take (P := P) (w := w) (base := base) T
  refine defOk T.f__law_many sc__law_many (fun _ _ _ _ _ _ us hl => match us, hl with | [_, _], _ => rfl) (fun vs H Q E h => by obtain ⟨_, _, _, _, rfl, _⟩ := h; rfl) fun cdv A outer s H vs Q E hr h => ?_
  obtain ⟨b, cl, cs, t, rfl, hb, h1, h2, hQ⟩ := h
  refine ⟨_, ((pss_one (ps_ret (pe_op op_add pe_int (pe_op op_mod (pe_callTy call_int1 (by rfl) T.b_int (by decide +kernel) (pa_cons (pe_op op_add pe_int (pe_callD D__law_take hr rfl T.g__law_take (pa_cons (pv 0) (pa_cons (pv 1) pa_nil)))) pa_nil)) (pv 1)))))), ?_⟩
  refine ⟨_, rfl, _, rfl, b, cl, cs, t, rfl, hb, h1, h2, fun v H1 b1 hb1 v0 v1 => ⟨_, _, rfl, rfl, .inl ⟨_, rfl, _, rfl, _, _, rfl, rfl, by omega, _, _, rfl, rfl, hQ _ _ b1 hb1 ?_ ?_⟩⟩⟩
  · have := Int.emod_nonneg (1 + v) (show t ≠ 0 by omega); omega
  · have := Int.emod_lt_of_pos (1 + v) (show 0 < t by omega); omega
def spNames (K : PySem.W.Frag) : Sp := fun vs H Q _ => ∃ (b cl : Addr) (cs : List Int) (c : Nat), vs = [.ref b, .int (c : Int)] ∧ BagC H b cl cs ∧ c ≤ 10 ∧ ∀ (p : Addr) (names : List Str) (H' : Hp), But b H H' → BagC H' b cl cs → H p = none → H' p = some (.lst (names.map V.str)) → names.length = c → names.Nodup → (∀ z ∈ names, OkN z) → Q (.ref p) H'
theorem ok_names (T : Tx K mg) : DefOk P w K mg base 4 (He.ga K "_law_names") ["_law_bag_here", "_law_many_here"] [] (spNames K) := by
  have D__law_take := ok_take (P := P) (w := w) (base := base) T
  have D__law_name := ok_name (P := P) (w := w) (base := base) T
  refine defOk T.f__law_names sc__law_names (fun _ _ _ _ _ _ us hl => match us, hl with | [_, _], _ => rfl) (fun vs H Q E h => by obtain ⟨_, _, _, _, rfl, _⟩ := h; rfl) fun cdv A outer s H vs Q E hr h => ?_
  obtain ⟨b, cl, cs, c, rfl, hb, hc, hQ⟩ := h
  refine ⟨_, ((pss_cons (ps_set (i := 2) sc__law_names.nd rfl (.inl rfl) (pe_lst pa_nil))
 (pss_cons (ps_for PassesOwn.never rfl (pi_range1 rfl T.b_range (pa_cons (pv 1) pa_nil)) (pg_name (i := 3) sc__law_names.nd rfl (.inl rfl) (.inl rfl))
 (pss_one (ps_expr (pe_bm PySem.F.plainAttrs_list PySem.F.slot_list_insert PySem.F.type_list_insert mt_insert (pv 2) (pa_cons (pe_callD D__law_take hr rfl T.g__law_take (pa_cons (pv 0) (pa_cons (pe_op op_add (pe_callB call_len_seq (by rfl) T.b_len (by decide +kernel) (pa_cons (pv 2) pa_nil)) pe_int) pa_nil))) (pa_cons (pe_callD D__law_name hr rfl T.g__law_name (pa_cons (pv 0) (pa_cons (pv 2) pa_nil))) pa_nil))))))
 (pss_one (ps_ret (pv 2)))))), ?_⟩
  refine ⟨Nat.zero_le _, fun p np => ?_⟩
  have e1 := L2.Same.new np (o := .lst [])
  have hp1 : upd H p (.lst []) p = some (.lst []) := upd_same
  have hb1 := hb.same e1
  obtain ⟨hbp, hcp⟩ := hb.ne np
  dsimp only [gName]
  generalize upd H p (.lst []) = H1 at e1 hp1 hb1 ⊢
  refine ⟨_, rfl, (c : Int), rfl, by omega, by omega, ?_⟩
  refine for_it walk_range (fun i σ H' => (∃ c3, σ = [some (.ref b), some (.int (c : Int)), some (.ref p), c3]) ∧ But b H H' ∧ BagC H' b cl cs ∧ ∃ names : List Str, H' p = some (.lst (names.map V.str)) ∧ names.length = i ∧ names.Nodup ∧ ∀ z ∈ names, OkN z)
    ⟨⟨_, rfl⟩, But.of e1, hb1, [], hp1, rfl, List.nodup_nil, fun z hz => by simp at hz⟩ (fun _ _ _ _ _ => trivial) (fun i y σ H2 H3 hi hPv hy => ?_) fun σ H2 hPv => ?_
  · obtain ⟨⟨c3, rfl⟩, b2, hb2, names, hp2, hl2, hnd, hok⟩ := hPv
    obtain ⟨rfl, rfl⟩ := hy
    have hi : i < c := by simpa using hi
    refine ⟨_, rfl, .inl ⟨rfl, _, SqL.of hp2⟩, _, rfl, _, rfl, p, _, rfl, .inl (SqL.of hp2), _, _, rfl, rfl, b, cl, cs, _, rfl, hb2, by omega, by rw [List.length_map]; omega, fun v H4 b4 hb4 v0 v1 => ?_⟩
    rw [List.length_map] at v1
    have hp4 := b4 _ _ hbp.symm hp2
    refine ⟨_, rfl, _, rfl, b, p, cl, cs, names, rfl, hb4, hp4, hbp.symm, by omega, fun z H5 b5 hb5 hz hzn => ?_⟩
    have hp5 := b5 _ _ hbp.symm hp4
    refine ⟨p, _, v, .str z, rfl, rfl, hp5, by rw [List.length_map, sizeLine_eq]; omega, v0, by omega, ⟨_, rfl⟩, ((b2.trans b4).trans b5).mut np, hb5.but But.put hbp hcp, names.take v.toNat ++ [z] ++ names.drop v.toNat, ?_, ?_, ?_, fun y hy => ?_⟩
    · rw [upd_same, List.map_append, List.map_append, List.map_take, List.map_drop]; rfl
    · rw [(perm_insert names v.toNat z).length_eq, List.length_cons, hl2]
    · rw [(perm_insert names v.toNat z).nodup_iff, List.nodup_cons]
      exact ⟨hzn, hnd⟩
    · rcases List.mem_cons.mp ((perm_insert names v.toNat z).mem_iff.mp hy) with e | e
      · rw [e]; exact hz
      · exact hok y e
  · obtain ⟨⟨c3, rfl⟩, b2, hb2, names, hp2, hl2, hnd, hok⟩ := hPv
    exact ⟨_, rfl, hQ p names _ b2 hb2 np hp2 (by simpa using hl2) hnd hok⟩
def spSome (K : PySem.W.Frag) : Sp := fun vs H Q _ => ∃ (b cl l : Addr) (cs : List Int) (names : List Str) (m : Nat), vs = [.ref b, .ref l, .int (m : Int)] ∧ BagC H b cl cs ∧ l ≠ b ∧ H l = some (.lst (names.map V.str)) ∧ names.Nodup ∧ names.length ≤ 10 ∧ m ≤ 10 ∧
  ∀ (p : Addr) (found : List Str) (H' : Hp), But b H H' → BagC H' b cl cs → H p = none → H' p = some (.lst (found.map V.str)) → found.Nodup → (∀ z ∈ found, z ∈ names) → found.length = min m names.length → Q (.ref p) H'
theorem ok_lsome (T : Tx K mg) : DefOk P w K mg base 4 (He.ga K "_law_some") ["_law_bag_here", "_law_names_here", "_law_many_here"] [] (spSome K) := by
  have D__law_take := ok_take (P := P) (w := w) (base := base) T
  refine defOk T.f__law_some sc__law_some (fun _ _ _ _ _ _ us hl => match us, hl with | [_, _, _], _ => rfl) (fun vs H Q E h => by obtain ⟨_, _, _, _, _, _, rfl, _⟩ := h; rfl) fun cdv A outer s H vs Q E hr h => ?_
  obtain ⟨b, cl, l, cs, names, m, rfl, hb, hlb, hl, hnd, hlen, hm, hQ⟩ := h
  refine ⟨_, ((pss_cons (ps_set (i := 3) sc__law_some.nd rfl (.inl rfl) (pe_callTy (list_ofK K) (by rfl) T.b_list (by decide +kernel) (pa_cons (pv 1) pa_nil)))
 (pss_cons (ps_set (i := 4) sc__law_some.nd rfl (.inl rfl) (pe_lst pa_nil))
 (pss_cons (ps_for PassesOwn.never rfl (pi_range1 rfl T.b_range (pa_cons (pe_callB (call_min2 rfl) (by rfl) T.b_min (by decide +kernel) (pa_cons (pv 2) (pa_cons (pe_callB call_len_seq (by rfl) T.b_len (by decide +kernel) (pa_cons (pv 1) pa_nil)) pa_nil))) pa_nil)) (pg_name (i := 5) sc__law_some.nd rfl (.inl rfl) (.inl rfl))
 (pss_one (ps_expr (pe_bm PySem.F.plainAttrs_list PySem.F.slot_list_append PySem.F.type_list_append mt_append (pv 4) (pa_cons (pe_bm PySem.F.plainAttrs_list PySem.F.slot_list_pop PySem.F.type_list_pop mt_popAt (pv 3) (pa_cons (pe_callD D__law_take hr rfl T.g__law_take (pa_cons (pv 0) (pa_cons (pe_callB call_len_seq (by rfl) T.b_len (by decide +kernel) (pa_cons (pv 3) pa_nil)) pa_nil))) pa_nil)) pa_nil)))))
 (pss_one (ps_ret (pv 4))))))), ?_⟩
  refine ⟨_, rfl, l, _, rfl, .inl (SqL.of hl), fun rl nrl => ?_⟩
  have e1 := L2.Same.new nrl (o := .lst (names.map V.str))
  have hrl1 : upd H rl (.lst (names.map V.str)) rl = some (.lst (names.map V.str)) := upd_same
  have hlr : l ≠ rl := ne_of_none hl nrl
  obtain ⟨hbr, hcr⟩ := hb.ne nrl
  dsimp only [gName]
  generalize upd H rl (.lst (names.map V.str)) = H1 at e1 hrl1 ⊢
  refine ⟨Nat.zero_le _, fun p np => ?_⟩
  have e2 := L2.Same.new np (o := .lst [])
  have hp2 : upd H1 p (.lst []) p = some (.lst []) := upd_same
  have hrp : rl ≠ p := ne_of_none hrl1 np
  obtain ⟨hbp, hcp⟩ := (hb.same e1).ne np
  have np0 := e1.back np
  have hlp : l ≠ p := ne_of_none hl np0
  have e12 := e1.trans e2
  dsimp only [gName]
  generalize upd H1 p (.lst []) = H2 at e2 hp2 e12 ⊢
  refine ⟨_, rfl, _, rfl, l, _, rfl, .inl (SqL.of (e12 _ _ hl)), _, _, rfl, ((min m names.length : Nat) : Int), ?_, by omega, by omega, ?_⟩
  · rw [List.length_map]
    show [V.int (if (names.length : Int) < (m : Int) then (names.length : Int) else (m : Int))] = [V.int ((min m names.length : Nat) : Int)]
    congr 2
    split <;> omega
  refine for_it walk_range (fun i σ H' => (∃ c5, σ = [some (.ref b), some (.ref l), some (.int (m : Int)), some (.ref rl), some (.ref p), c5]) ∧ But b H H' ∧ BagC H' b cl cs ∧ ∃ found rest : List Str, H' p = some (.lst (found.map V.str)) ∧ H' rl = some (.lst (rest.map V.str)) ∧ (found ++ rest).Perm names ∧ found.length = i)
    ⟨⟨_, rfl⟩, But.of e12, hb.same e12, [], names, hp2, e2 _ _ hrl1, List.Perm.refl _, rfl⟩ (fun _ _ _ _ _ => trivial) (fun i y σ H3 H4 hi hPv hy => ?_) fun σ H3 hPv => ?_
  · obtain ⟨⟨c5, rfl⟩, b3, hb3, found, rest, hp3, hrl3, hperm, hfl⟩ := hPv
    obtain ⟨rfl, rfl⟩ := hy
    have hi : i < min m names.length := by simpa using hi
    have hpl := hperm.length_eq
    rw [List.length_append] at hpl
    refine ⟨_, rfl, .inl ⟨rfl, _, SqL.of hp3⟩, _, rfl, .inl ⟨rfl, _, SqL.of hrl3⟩, _, rfl, _, rfl, rl, _, rfl, .inl (SqL.of hrl3), b, cl, cs, _, rfl, hb3, by rw [List.length_map]; omega, by rw [List.length_map]; omega, fun v H5 b5 hb5 v0 v1 => ?_⟩
    rw [List.length_map] at v1
    have hk : v.toNat < rest.length := by omega
    have hp5 := b5 _ _ hbp.symm hp3
    have hrl5 := b5 _ _ hbr.symm hrl3
    refine ⟨rl, _, v, v.toNat, .str rest[v.toNat], rfl, rfl, hrl5, by omega, by omega, PySem.seqIndex_of v0 (by rw [List.length_map]; omega), by rw [List.getElem?_map, List.getElem?_eq_getElem hk]; rfl, ?_⟩
    refine ⟨p, _, .str rest[v.toNat], rfl, rfl, by rw [upd_ne hrp.symm]; exact hp5, by rw [List.length_map, sizeLine_eq]; omega, ⟨_, rfl⟩, ((b3.trans b5).mut nrl).mut np0, (hb5.but But.put hbr hcr).but But.put hbp hcp, found ++ [rest[v.toNat]], rest.eraseIdx v.toNat, ?_, ?_, ?_, by rw [List.length_append, hfl]; rfl⟩
    · rw [upd_same, List.map_append]; rfl
    · rw [upd_ne hrp, upd_same, map_erase]
    · rw [List.append_assoc]
      exact (List.Perm.append_left found (erase_perm hk)).trans hperm
  · obtain ⟨⟨c5, rfl⟩, b3, hb3, found, rest, hp3, hrl3, hperm, hfl⟩ := hPv
    have hn2 := (hperm.nodup_iff).mpr hnd
    refine ⟨_, rfl, hQ p found _ b3 hb3 np0 hp3 (List.nodup_append.mp hn2).1 (fun z hz => hperm.mem_iff.mp (List.mem_append_left _ hz)) (by simpa using hfl)⟩
end
end FBQ
end
section
set_option Elab.async false
set_option linter.all false
set_option maxRecDepth 100000
set_option maxHeartbeats 1000000
namespace FBQ
open PySem PySem.Spec PyProof.Rows L2 FBR FB
section
variable {P : Program} {w : World} {K : PySem.W.Frag} {mg : Str → Option Value} {base : Heap}
theorem ty_tup {H : Hp} {a : Addr} {xs : List V} (h : SqT K H a xs) : TyX K H (.ref a) (.type "tuple") := by
  rcases h with (h | ⟨o, h⟩) | h
  · exact .base (.tup h)
  · exact .fTuple h
  · obtain ⟨o, its, n, ho, hc, _⟩ := h
    exact .kTuple ho hc
def spIsInt : Sp := fun vs H Q _ => ∃ i : Int, vs = [.int i] ∧ Q (.bl true) H
theorem ok_isint (T : Tx K mg) : DefOk P w K mg base 1 (He.ga K "_law_is_int") ["_law_thing"] [] spIsInt := by
  refine defOk T.f__law_is_int sc__law_is_int (fun _ _ _ _ _ _ us hl => match us, hl with | [_], _ => rfl) (fun vs H Q E h => by obtain ⟨_, rfl, _⟩ := h; rfl) fun cdv A outer s H vs Q E hr h => ?_
  obtain ⟨i, rfl, hQ⟩ := h
  refine ⟨_, ((pss_one (ps_ret (pe_and (pe_callB call_isi (by rfl) T.b_isinstance (by decide +kernel) (pa_cons (pv 0) (pa_cons (pe_bltn (v := .ty "int") rfl T.b_int (by decide +kernel) rfl) pa_nil))) (pe_one (pe_not (pe_callB call_isi (by rfl) T.b_isinstance (by decide +kernel) (pa_cons (pv 0) (pa_cons (pe_bltn (v := .ty "bool") rfl T.b_bool (by decide +kernel) rfl) pa_nil))))))))), ?_⟩
  refine ⟨_, rfl, _, _, _, _, true, rfl, .ty "int", .base (.int i), rfl, true, rfl, iteT ?_⟩
  refine ⟨_, rfl, _, _, _, _, false, rfl, .ty "bool", .base (.int i), rfl, false, rfl, hQ⟩
theorem dp_ints {H : Hp} : ∀ r : List Int, DpAll K H (r.map V.int) (r.map PyData.int)
  | [] => .nil
  | n :: r => .cons (.int n) (dp_ints r)
theorem lay_ints : ∀ r : List Int, PyData.canLayAll0 (r.map PyData.int) = true
  | [] => by simp [PyData.canLayAll0]
  | n :: r => by
    show PyData.canLayAll0 (.int n :: r.map PyData.int) = true
    rw [PyData.canLayAll0, lay_ints r]
    simp [PyData.canLay0]
theorem sh_tup (r : List Int) : SeqAt.shaped (.tuple (r.map PyData.int)) = true := by
  unfold SeqAt.shaped
  rw [Bool.and_eq_true]
  refine ⟨?_, decide_eq_true (Nat.le_trans (depth_row r).1 (by decide))⟩
  rw [PyData.canLay0]
  exact lay_ints r
theorem sh_lst (r : List Int) : SeqAt.shaped (.list (r.map PyData.int)) = true := by
  unfold SeqAt.shaped
  rw [Bool.and_eq_true]
  refine ⟨?_, decide_eq_true (Nat.le_trans (depth_row r).2 (by decide))⟩
  rw [PyData.canLay0]
  exact lay_ints r
theorem eqv_ints : ∀ r s : List Int, PyData.eqvAll (r.map PyData.int) (s.map PyData.int) = decide (r = s)
  | [], [] => by simp [PyData.eqvAll]
  | [], _ :: _ => by simp [PyData.eqvAll]
  | _ :: _, [] => by simp [PyData.eqvAll]
  | a :: r, b :: s => by
    show PyData.eqvAll (.int a :: r.map PyData.int) (.int b :: s.map PyData.int) = _
    rw [PyData.eqvAll, eqv_ints r s, PyData.eqv]
    by_cases h1 : a = b <;> by_cases h2 : r = s <;> simp [h1, h2]
def spRow (K : PySem.W.Frag) : Sp := fun vs H Q _ => ∃ (t d : Addr) (r : List Int), vs = [.ref t, .ref d] ∧ SqT K H t (r.map V.int) ∧ SqT K H d (r.map V.int) ∧ r.length ≤ 1000 ∧ ∀ H', Same H H' → Q (.bl true) H'
theorem ok_row (T : Tx K mg) : DefOk P w K mg base 2 (He.ga K "_law_row") ["_law_thing", "_law_due"] [] (spRow K) := by
  have D__law_is_int := ok_isint (P := P) (w := w) (base := base) T
  refine defOk T.f__law_row sc__law_row (fun _ _ _ _ _ _ us hl => match us, hl with | [_, _], _ => rfl) (fun vs H Q E h => by obtain ⟨_, _, _, rfl, _⟩ := h; rfl) fun cdv A outer s H vs Q E hr h => ?_
  obtain ⟨t, d, r, rfl, ht, hd, hlen, hQ⟩ := h
  refine ⟨_, ((pss_cons (ps_if (PW.pt (pw_or (pt_not (pt_val (pe_callB call_isi (by rfl) T.b_isinstance (by decide +kernel) (pa_cons (pv 0) (pa_cons (pe_bltn (v := .ty "tuple") rfl T.b_tuple (by decide +kernel) rfl) pa_nil))))) (pw_or1 (pt_cmpR op_ne (pe_callB call_len_seq (by rfl) T.b_len (by decide +kernel) (pa_cons (pv 0) pa_nil)) (pe_callB call_len_seq (by rfl) T.b_len (by decide +kernel) (pa_cons (pv 1) pa_nil)) (nomark _)))))
 (pss_one (ps_ret pe_bl)) pss_nil)
 (pss_one (ps_ret (pe_and (pe_callB (cr_allK K rfl) (by rfl) T.b_all (by decide +kernel) (pa_cons (pe_lc (own := [("_law_one", 2)]) (tt := tYes) rfl sc__law_row.nd (pi_tupK K (pv 0)) (blkOk_by (own := [("_law_one", 2)]) (N := ["_law_thing", "_law_due", "_law_one"]) (sc := (defScope s__law_row)) (by decide +kernel)) (fun _ _ _ _ _ => (pg_name (i := 2) sc__law_row.nd rfl (Or.inl rfl) (.inr rfl))) (fun _ _ _ _ _ => pts_nil) (fun _ _ _ _ _ => (pe_callD D__law_is_int hr rfl T.g__law_is_int (pa_cons (pv 2) pa_nil)))) pa_nil)) (pe_one (pe_cmpR (op_eqD hr.units) (pv 0) (pv 1) (nomark _)))))))), ?_⟩
  refine ⟨_, rfl, _, _, _, _, true, rfl, .ty "tuple", ty_tup ht, rfl, true, rfl, iteF ?_⟩
  refine ⟨_, rfl, t, _, rfl, .inr ht, _, rfl, d, _, rfl, .inr hd, rfl, _, rfl, ?_⟩
  rw [decide_eq_true rfl]
  refine iteF ?_
  refine ⟨_, rfl, t, rfl, ⟨_, ht⟩, fun D hD => ?_⟩
  refine lc_opt (walk_tup (xs := r.map V.int)) hD (by rw [List.length_map]; omega) (fun k => r[k]?.map fun _ => V.bl true) (fun H' e => e.tup ht) (fun k y H1 H2 hk e1 hy => ?_) tm_yes gm_name fun H1 e1 hD1 => ?_
  · obtain ⟨rfl, hy⟩ := hy
    obtain ⟨c, hc, rfl⟩ := get_map hy
    refine ⟨rfl, L2.Same.refl _, L2.Same.refl _, ?_, fun v hv Q q => ?_⟩
    · show true = (r[k]?.map fun _ => V.bl true).isSome
      rw [hc]; rfl
    · have hv : (r[k]?.map fun _ => V.bl true) = some v := hv
      rw [hc] at hv
      cases hv
      exact ⟨_, rfl, c, rfl, q _ (L2.Same.refl _)⟩
  rw [List.length_map, range_all r (fun _ => V.bl true) (Nat.le_refl _), show r.map (fun _ => V.bl true) = (r.map fun _ => true).map V.bl by rw [List.map_map]; rfl] at hD1
  refine ⟨D, r.map fun _ => true, rfl, SqL.of hD1, _, rfl, ?_⟩
  rw [if_pos (by simp)]
  refine ⟨_, rfl, _, rfl, .tuple (r.map PyData.int), .tuple (r.map PyData.int), .tup (e1.tup ht) (dp_ints r), .tup (e1.tup hd) (dp_ints r), sh_tup r, sh_tup r, ?_⟩
  rw [PyData.eqv, eqv_ints, decide_eq_true rfl]
  exact hQ _ e1
abbrev RowsAt (K : PySem.W.Frag) (H : Hp) (ts : List Addr) (rows : List (List Int)) : Prop := Al (fun t r => SqT K H t (r.map V.int)) ts rows
def spRows (K : PySem.W.Frag) : Sp := fun vs H Q _ => ∃ (p d : Addr) (ts us : List Addr) (rows : List (List Int)), vs = [.ref p, .ref d] ∧ H p = some (.lst (ts.map V.ref)) ∧ RowsAt K H ts rows ∧ H d = some (.lst (us.map V.ref)) ∧ RowsAt K H us rows ∧ (∀ r ∈ rows, r.length ≤ 1000) ∧ rows.length ≤ 10000 ∧ ∀ H', Same H H' → Q (.bl true) H'
theorem ok_rows (T : Tx K mg) : DefOk P w K mg base 3 (He.ga K "_law_rows") ["_law_thing", "_law_due"] [] (spRows K) := by
  have D__law_row := ok_row (P := P) (w := w) (base := base) T
  refine defOk T.f__law_rows sc__law_rows (fun _ _ _ _ _ _ us hl => match us, hl with | [_, _], _ => rfl) (fun vs H Q E h => by obtain ⟨_, _, _, _, _, rfl, _⟩ := h; rfl) fun cdv A outer s H vs Q E hr h => ?_
  obtain ⟨p, d, ts, us, rows, rfl, hp, hts, hd, hus, hrl, hlen, hQ⟩ := h
  refine ⟨_, ((pss_cons (ps_if (PW.pt (pw_or (pt_not (pt_val (pe_callB call_isi (by rfl) T.b_isinstance (by decide +kernel) (pa_cons (pv 0) (pa_cons (pe_bltn (v := .ty "list") rfl T.b_list (by decide +kernel) rfl) pa_nil))))) (pw_or1 (pt_cmpR op_ne (pe_callB call_len_seq (by rfl) T.b_len (by decide +kernel) (pa_cons (pv 0) pa_nil)) (pe_callB call_len_seq (by rfl) T.b_len (by decide +kernel) (pa_cons (pv 1) pa_nil)) (nomark _)))))
 (pss_one (ps_ret pe_bl)) pss_nil)
 (pss_cons (ps_for PassesOwn.never rfl (pi_range1 rfl T.b_range (pa_cons (pe_callB call_len_seq (by rfl) T.b_len (by decide +kernel) (pa_cons (pv 1) pa_nil)) pa_nil)) (pg_name (i := 2) sc__law_rows.nd rfl (.inl rfl) (.inl rfl))
 (pss_one (ps_if (pt_not (pt_val (pe_callD D__law_row hr rfl T.g__law_row (pa_cons (pe_ix (ix_listK K) (pv 0) (pv 2) (fun _ _ => rfl)) (pa_cons (pe_ix (ix_listK K) (pv 1) (pv 2) (fun _ _ => rfl)) pa_nil)))))
 (pss_one (ps_ret pe_bl)) pss_nil)))
 (pss_one (ps_ret pe_bl))))), ?_⟩
  have h1 := hts.length
  have h2 := hus.length
  refine ⟨_, rfl, _, _, _, _, true, rfl, .ty "list", .base (.lst hp), rfl, true, rfl, iteF ?_⟩
  refine ⟨_, rfl, p, _, rfl, .inl (SqL.of hp), _, rfl, d, _, rfl, .inl (SqL.of hd), rfl, _, rfl, ?_⟩
  rw [decide_eq_true (by rw [List.length_map, List.length_map, h1, h2])]
  refine iteF ?_
  refine ⟨_, rfl, d, _, rfl, .inl (SqL.of hd), _, rfl, by omega, by rw [List.length_map]; omega, ?_⟩
  refine for_it walk_range (fun i σ H' => (∃ c2, σ = [some (.ref p), some (.ref d), c2]) ∧ Same H H') ⟨⟨_, rfl⟩, L2.Same.refl _⟩ (fun _ _ _ _ _ => trivial) (fun i y σ H2 H3 hi hPv hy => ?_) fun σ H2 hPv => ?_
  · obtain ⟨⟨c2, rfl⟩, e2⟩ := hPv
    obtain ⟨rfl, rfl⟩ := hy
    have hi : i < us.length := by simpa using hi
    have hr1 : rows[i]? = some (rows[i]'(by omega)) := List.getElem?_eq_getElem (by omega)
    generalize rows[i]'(by omega) = r at hr1
    obtain ⟨t, ht, htr⟩ := hts.getR hr1
    obtain ⟨u, hu, hur⟩ := hus.getR hr1
    have e0 : (0 : Int) + (i : Int) = ((i : Nat) : Int) := Int.zero_add _
    refine ⟨_, rfl, _, rfl, p, _, 0 + (i : Int), .ref t, rfl, rfl, SqL.of (e2 _ _ hp), at_of e0 (by rw [List.getElem?_map, ht]; rfl), _, rfl, _, rfl, d, _, 0 + (i : Int), .ref u, rfl, rfl, SqL.of (e2 _ _ hd), at_of e0 (by rw [List.getElem?_map, hu]; rfl), t, u, r, rfl, e2.tup htr, e2.tup hur, hrl r (List.mem_of_getElem? hr1), fun H4 e4 => ⟨true, rfl, iteF ⟨⟨_, rfl⟩, e2.trans e4⟩⟩⟩
  · obtain ⟨⟨c2, rfl⟩, e2⟩ := hPv
    exact hQ _ e2
end
end FBQ
end
section
set_option Elab.async false
set_option linter.all false
set_option maxRecDepth 100000
set_option maxHeartbeats 1000000
namespace FBQ
open PySem PySem.Spec PyProof.Rows L2 FBR FB
theorem if_inv {t : TT} {A : TS} {D : Ends} {σ : L2.St} {H : Hp} (I : Hp → Prop) (hc : ∀ R : Bool → Hp → Prop, (∀ c H', I H' → R c H') → t σ H R) (hA : ∀ H', I H' → A D σ H') (hN : ∀ H', I H' → D.nx σ H') : tIfS t A tNext D σ H :=
  hc _ fun c H' h => by
    cases c
    · exact iteF (hN H' h)
    · exact iteT (hA H' h)
section
variable {P : Program} {w : World} {K : PySem.W.Frag} {mg : Str → Option Value} {base : Heap}
theorem BagC.nl {H : Hp} {b cl : Addr} {cs : List Int} (h : BagC H b cl cs) : (∀ ys, H b ≠ some (.tup ys)) ∧ ∀ o ys, H b ≠ some (.frz o (.tup ys)) := by
  obtain ⟨n, r, q, z, h1, _⟩ := h
  exact FBQ.nl h1
def PairsOk (names : List Str) (ps : List (Str × Str)) : Prop := ∀ q ∈ ps, q.1 ∈ names ∧ q.2 ∈ names ∧ q.1 ≠ q.2
theorem PairsOk.snoc {names : List Str} {ps : List (Str × Str)} {q : Str × Str} (h : PairsOk names ps) (h1 : q.1 ∈ names) (h2 : q.2 ∈ names) (h3 : q.1 ≠ q.2) : PairsOk names (ps ++ [q]) := fun x hx => by
  rcases List.mem_append.mp hx with e | e
  · exact h x e
  · simp at e
    rw [e]; exact ⟨h1, h2, h3⟩
structure Ph (K : PySem.W.Frag) (H : Hp) (b cl : Addr) (cs : List Int) (po : Addr) (order : List Str) (pp : Addr) (names : List Str) (H' : Hp) (ps : List (Str × Str)) : Prop where
  bt : But b H H'
  bg : BagC H' b cl cs
  od : H' po = some (.lst (order.map V.str))
  pr : NTs K H' pp (ps.map pV)
  ok : PairsOk names ps
theorem Ph.take {H : Hp} {b cl : Addr} {cs : List Int} {po : Addr} {order : List Str} {pp : Addr} {names : List Str} {H' H2 : Hp} {ps : List (Str × Str)} (h : Ph K H b cl cs po order pp names H' ps) (n1 : po ≠ b) (n2 : pp ≠ b) (b2 : But b H' H2) (hb : BagC H2 b cl cs) : Ph K H b cl cs po order pp names H2 ps :=
  ⟨h.bt.trans b2, hb, b2 _ _ n1 h.od, h.pr.but b2 h.bg.nl.1 h.bg.nl.2 n2, h.ok⟩
/-- a tuple appended -/
theorem Ph.push {H : Hp} {b cl : Addr} {cs : List Int} {po : Addr} {order : List Str} {pp : Addr} {names : List Str} {H' : Hp} {ps : List (Str × Str)} {t : Addr} {us : List Addr} {q : Str × Str} (h : Ph K H b cl cs po order pp names H' ps) (np : H pp = none) (n1 : po ≠ pp) (n2 : b ≠ pp) (n3 : cl ≠ pp)
    (hus : H' pp = some (.lst (us.map V.ref))) (hu : Tups K H' us (ps.map pV)) (ht : SqT K H' t (pV q)) (h1 : q.1 ∈ names) (h2 : q.2 ∈ names) (h3 : q.1 ≠ q.2) :
    Ph K H b cl cs po order pp names (upd H' pp (.lst (us.map V.ref ++ [.ref t]))) (ps ++ [q]) := by
  have bp : But pp H' (upd H' pp (.lst (us.map V.ref ++ [.ref t]))) := But.put
  refine ⟨h.bt.mut np, h.bg.but bp n2 n3, bp _ _ n1 h.od, ⟨us ++ [t], by rw [upd_same, List.map_append]; rfl, ?_⟩, h.ok.snoc h1 h2 h3⟩
  rw [List.map_append]
  exact (hu.but bp (FBQ.nl hus).1 (FBQ.nl hus).2).snoc (bp.tup (FBQ.nl hus).1 (FBQ.nl hus).2 ht)
theorem Ph.same {H : Hp} {b cl : Addr} {cs : List Int} {po : Addr} {order : List Str} {pp : Addr} {names : List Str} {H' H2 : Hp} {ps : List (Str × Str)} (h : Ph K H b cl cs po order pp names H' ps) (e : Same H' H2) : Ph K H b cl cs po order pp names H2 ps :=
  ⟨h.bt.trans (But.of e), h.bg.same e, e _ _ h.od, h.pr.same e, h.ok⟩
theorem Tups.append {H : Hp} : ∀ {ts us : List Addr} {rs qs : List (List V)}, Tups K H ts rs → Tups K H us qs → Tups K H (ts ++ us) (rs ++ qs)
  | [], _, [], _, _, h => h
  | [], _, _ :: _, _, h, _ => h.elim
  | _ :: _, _, [], _, h, _ => h.elim
  | _ :: _, _, _ :: _, _, h, g => ⟨h.1, Tups.append h.2 g⟩
theorem Tups.take {H : Hp} : ∀ {ts : List Addr} {rs : List (List V)} (n : Nat), Tups K H ts rs → Tups K H (ts.take n) (rs.take n)
  | _, _, 0, _ => by simp [Tups]
  | [], [], _ + 1, _ => trivial
  | [], _ :: _, _ + 1, h => h.elim
  | _ :: _, [], _ + 1, h => h.elim
  | _ :: _, _ :: _, n + 1, h => ⟨h.1, Tups.take n h.2⟩
theorem Tups.drop {H : Hp} : ∀ {ts : List Addr} {rs : List (List V)} (n : Nat), Tups K H ts rs → Tups K H (ts.drop n) (rs.drop n)
  | _, _, 0, h => h
  | [], [], _ + 1, _ => trivial
  | [], _ :: _, _ + 1, h => h.elim
  | _ :: _, [], _ + 1, h => h.elim
  | _ :: _, _ :: _, n + 1, h => Tups.drop n h.2
def spLpairs (K : PySem.W.Frag) : Sp := fun vs H Q _ => ∃ (b cl l : Addr) (cs : List Int) (names : List Str) (m : Nat), vs = [.ref b, .ref l, .int (m : Int)] ∧ BagC H b cl cs ∧ l ≠ b ∧ H l = some (.lst (names.map V.str)) ∧ names.Nodup ∧ names.length ≤ 10 ∧ m ≤ 5 ∧
  ∀ (p : Addr) (ps : List (Str × Str)) (H' : Hp), But b H H' → BagC H' b cl cs → H p = none → NTs K H' p (ps.map pV) → ps.length ≤ names.length + m → PairsOk names ps → Q (.ref p) H'
theorem ok_lpairs (T : Tx K mg) : DefOk P w K mg base 5 (He.ga K "_law_pairs") ["_law_bag_here", "_law_names_here", "_law_extra"] [] (spLpairs K) := by
  have D__law_take := ok_take (P := P) (w := w) (base := base) T
  have D__law_some := ok_lsome (P := P) (w := w) (base := base) T
  refine defOk T.f__law_pairs sc__law_pairs (fun _ _ _ _ _ _ us hl => match us, hl with | [_, _, _], _ => rfl) (fun vs H Q E h => by obtain ⟨_, _, _, _, _, _, rfl, _⟩ := h; rfl) fun cdv A outer s H vs Q E hr h => ?_
  obtain ⟨b, cl, l, cs, names, m, rfl, hb, hlb, hl, hnd, hlen, hm, hQ⟩ := h
  refine ⟨_, ((pss_cons (ps_set (i := 3) sc__law_pairs.nd rfl (.inl rfl) (pe_callD D__law_some hr rfl T.g__law_some (pa_cons (pv 0) (pa_cons (pv 1) (pa_cons (pe_callB call_len_seq (by rfl) T.b_len (by decide +kernel) (pa_cons (pv 1) pa_nil)) pa_nil)))))
 (pss_cons (ps_set (i := 4) sc__law_pairs.nd rfl (.inl rfl) (pe_cmpR op_eq (pe_callD D__law_take hr rfl T.g__law_take (pa_cons (pv 0) (pa_cons pe_int pa_nil))) pe_int (nomark _)))
 (pss_cons (ps_set (i := 5) sc__law_pairs.nd rfl (.inl rfl) (pe_lst pa_nil))
 (pss_cons (ps_for PassesOwn.never rfl (pi_range2 rfl T.b_range (pa_cons pe_int (pa_cons (pe_callB call_len_seq (by rfl) T.b_len (by decide +kernel) (pa_cons (pv 3) pa_nil)) pa_nil))) (pg_name (i := 6) sc__law_pairs.nd rfl (.inl rfl) (.inl rfl))
 (pss_cons (ps_set (i := 7) sc__law_pairs.nd rfl (.inl rfl) (pe_ix (ix_listK K) (pv 3) (pe_callD D__law_take hr rfl T.g__law_take (pa_cons (pv 0) (pa_cons (pv 6) pa_nil))) (fun _ _ => rfl)))
 (pss_one (ps_if (PW.pt (pw_or (pt_not (pt_val (pv 4))) (pw_or1 (pt_cmpR op_gt (pe_callD D__law_take hr rfl T.g__law_take (pa_cons (pv 0) (pa_cons pe_int pa_nil))) pe_int (nomark _)))))
 (pss_one (ps_expr (pe_bm PySem.F.plainAttrs_list PySem.F.slot_list_append PySem.F.type_list_append mt_append (pv 5) (pa_cons (pe_tup (pa_cons (pv 7) (pa_cons (pe_ix (ix_listK K) (pv 3) (pv 6) (fun _ _ => rfl)) pa_nil))) pa_nil)))) pss_nil))))
 (pss_cons (ps_if (pt_cmpR op_gt (pe_callB call_len_seq (by rfl) T.b_len (by decide +kernel) (pa_cons (pv 1) pa_nil)) pe_int (nomark _))
 (pss_one (ps_for PassesOwn.never rfl (pi_range1 rfl T.b_range (pa_cons (pe_callD D__law_take hr rfl T.g__law_take (pa_cons (pv 0) (pa_cons (pe_op op_add (pv 2) pe_int) pa_nil))) pa_nil)) (pg_name (i := 6) sc__law_pairs.nd rfl (.inl rfl) (.inl rfl))
 (pss_one (ps_expr (pe_bm PySem.F.plainAttrs_list PySem.F.slot_list_append PySem.F.type_list_append mt_append (pv 5) (pa_cons (pe_callTy (tuple_ofK K) (by rfl) T.b_tuple (by decide +kernel) (pa_cons (pe_callD D__law_some hr rfl T.g__law_some (pa_cons (pv 0) (pa_cons (pv 1) (pa_cons pe_int pa_nil)))) pa_nil)) pa_nil)))))) pss_nil)
 (pss_cons (ps_set (i := 8) sc__law_pairs.nd rfl (.inl rfl) (pe_lst pa_nil))
 (pss_cons (ps_for PassesOwn.never rfl (pi_listK K (pv 5)) (pg_tup rfl (pgs_cons (pg_name (i := 9) sc__law_pairs.nd rfl (.inl rfl) (.inl rfl)) (pgs_cons (pg_name (i := 10) sc__law_pairs.nd rfl (.inl rfl) (.inl rfl)) pgs_nil)))
 (pss_cons (ps_set (i := 11) sc__law_pairs.nd rfl (.inl rfl) (pe_tup (pa_cons (pv 9) (pa_cons (pv 10) pa_nil))))
 (pss_cons (ps_if (pt_cmpR op_eq (pe_callD D__law_take hr rfl T.g__law_take (pa_cons (pv 0) (pa_cons pe_int pa_nil))) pe_int (nomark _))
 (pss_one (ps_set (i := 11) sc__law_pairs.nd rfl (.inl rfl) (pe_tup (pa_cons (pv 10) (pa_cons (pv 9) pa_nil))))) pss_nil)
 (pss_one (ps_expr (pe_bm PySem.F.plainAttrs_list PySem.F.slot_list_insert PySem.F.type_list_insert mt_insert (pv 8) (pa_cons (pe_callD D__law_take hr rfl T.g__law_take (pa_cons (pv 0) (pa_cons (pe_op op_add (pe_callB call_len_seq (by rfl) T.b_len (by decide +kernel) (pa_cons (pv 8) pa_nil)) pe_int) pa_nil))) (pa_cons (pv 11) pa_nil))))))))
 (pss_one (ps_ret (pv 8))))))))))), ?_⟩
  refine ⟨_, rfl, _, rfl, _, rfl, l, _, rfl, .inl (SqL.of hl), b, cl, l, cs, names, names.length, by rw [List.length_map]; rfl, hb, hlb, hl, hnd, hlen, hlen, fun po order H1 b1 hb1 npo hpo hond hosub holen => ?_⟩
  rw [Nat.min_self] at holen
  have hpob : po ≠ b := fun z => by obtain ⟨_, _, _, _, h1, _⟩ := hb; rw [z, h1] at npo; cases npo
  refine ⟨_, rfl, b, cl, cs, _, rfl, hb1, by decide, by decide, fun v H2 b2 hb2 v0 v1 => ⟨rfl, ?_⟩⟩
  generalize decide (V.int v = V.int 4) = loose
  have b12 := b1.trans b2
  have hpo2 := b2 _ _ hpob hpo
  refine ⟨Nat.zero_le _, fun pp npp => ?_⟩
  have e3 := L2.Same.new npp (o := .lst [])
  have hpp3 : upd H2 pp (.lst []) pp = some (.lst []) := upd_same
  obtain ⟨hbpp, hcpp⟩ := hb2.ne npp
  have npp0 := b12.back npp hbpp.symm
  have hlpp : l ≠ pp := ne_of_none hl npp0
  have hopp : po ≠ pp := ne_of_none hpo2 npp
  have b13 := b12.trans (But.of e3)
  have hb3 := hb2.same e3
  have hpo3 := e3 _ _ hpo2
  dsimp only [gName]
  generalize upd H2 pp (.lst []) = H3 at e3 hpp3 b13 hb3 hpo3 ⊢
  have h0 : Ph K H b cl cs po order pp names H3 [] := ⟨b13, hb3, hpo3, ⟨[], hpp3, trivial⟩, fun q hq => by simp at hq⟩
  have n1 := hpob
  have n2 := hbpp.symm
  refine ⟨_, rfl, po, _, rfl, .inl (SqL.of hpo3), 1, ((order.map V.str).length : Int), rfl, ⟨by omega, by omega, by omega, by rw [List.length_map]; omega⟩, ?_⟩
  refine for_it walk_range (fun i σ H' => (∃ c6 c7, σ = [some (.ref b), some (.ref l), some (.int (m : Int)), some (.ref po), some (.bl loose), some (.ref pp), c6, c7, none, none, none, none]) ∧ ∃ ps, Ph K H b cl cs po order pp names H' ps ∧ ps.length ≤ i)
    ⟨⟨_, _, rfl⟩, [], h0, Nat.le_refl _⟩ (fun _ _ _ _ _ => trivial) (fun i y σ H4 H5 hi hPv hy => ?_) fun σ H4 hPv => ?_
  · obtain ⟨⟨c6, c7, rfl⟩, ps, h4, hpsl⟩ := hPv
    obtain ⟨rfl, rfl⟩ := hy
    rw [List.length_map] at hi
    have hi2 : i + 1 < order.length := by omega
    refine ⟨_, rfl, _, rfl, _, rfl, b, cl, cs, 1 + (i : Int), rfl, h4.bg, by omega, by omega, fun v H6 b6 hb6 v0 v1 => ?_⟩
    have h6 := h4.take n1 n2 b6 hb6
    have hv : v.toNat < order.length := by omega
    refine ⟨po, _, v, .str order[v.toNat], rfl, rfl, SqL.of h6.od, at_of (j := v.toNat) (by omega) (by rw [List.getElem?_map, List.getElem?_eq_getElem hv]; rfl), ?_⟩
    dsimp only [gName]
    refine if_inv (fun H' => Ph K H b cl cs po order pp names H' ps) (fun R hR => ?_) (fun H7 h7 => ?_) fun H7 h7 => ?_
    · refine ⟨_, rfl, loose, rfl, ?_⟩
      cases loose
      · exact iteT (hR true _ h6)
      · refine iteF ⟨_, rfl, b, cl, cs, _, rfl, h6.bg, by decide, by decide, fun v5 H7 b7 hb7 _ _ => ⟨_, _, rfl, rfl, _, rfl, hR _ _ (h6.take n1 n2 b7 hb7)⟩⟩
    · obtain ⟨us, hus, hu⟩ := h7.pr
      have hul := hu.length
      rw [List.length_map] at hul
      refine ⟨_, rfl, .inl ⟨rfl, _, SqL.of hus⟩, _, rfl, _, rfl, _, rfl, po, _, 1 + (i : Int), .str order[i + 1], rfl, rfl, SqL.of h7.od, at_of (j := i + 1) (by omega) (by rw [List.getElem?_map, List.getElem?_eq_getElem hi2]; rfl), by show 2 ≤ sizeLine; decide, fun t nt => ?_⟩
      have e8 := L2.Same.new nt (o := .tup [V.str order[v.toNat], .str order[i + 1]])
      have h8 := h7.same e8
      refine ⟨pp, _, .ref t, rfl, rfl, e8 _ _ hus, by rw [List.length_map, sizeLine_eq]; omega, ⟨_, _, rfl⟩, ps ++ [(order[v.toNat], order[i + 1])], h8.push npp0 hopp hbpp hcpp (e8 _ _ hus) (hu.same e8) (SqT.of upd_same) (hosub _ (List.getElem_mem hv)) (hosub _ (List.getElem_mem hi2)) ?_, by rw [List.length_append]; show ps.length + 1 ≤ _; omega⟩
      intro z
      have := (List.getElem_inj hond).mp z
      omega
    · exact ⟨⟨_, _, rfl⟩, ps, h7, by omega⟩
  obtain ⟨⟨c6, c7, rfl⟩, ps, h4, hpsl⟩ := hPv
  rw [List.length_map] at hpsl
  have hpsl : ps.length ≤ names.length := by omega
  dsimp only
  refine seq_inv (fun σ' H' => (∃ c6 c7, σ' = [some (.ref b), some (.ref l), some (.int (m : Int)), some (.ref po), some (.bl loose), some (.ref pp), c6, c7, none, none, none, none]) ∧ ∃ ps, Ph K H b cl cs po order pp names H' ps ∧ ps.length ≤ names.length + m) (fun σ' H5 h => ?_) fun N hN => ?_
  · obtain ⟨⟨c6, c7, rfl⟩, ps, h5, hpsl⟩ := h
    refine ⟨Nat.zero_le _, fun pm npm => ?_⟩
    have e6 := L2.Same.new npm (o := .lst [])
    have hpm6 : upd H5 pm (.lst []) pm = some (.lst []) := upd_same
    obtain ⟨hbpm, hcpm⟩ := h5.bg.ne npm
    have npm0 := h5.bt.back npm hbpm.symm
    have h6 := h5.same e6
    obtain ⟨us, hus, hu⟩ := h6.pr
    have hppm : pp ≠ pm := by
      obtain ⟨us5, hus5, _⟩ := h5.pr
      exact ne_of_none hus5 npm
    dsimp only [gName]
    generalize upd H5 pm (.lst []) = H6 at e6 hpm6 h6 hus hu ⊢
    refine ⟨_, rfl, pp, rfl, ⟨_, SqL.of hus⟩, ?_⟩
    refine for_tups (ts := us) (rs := ps.map pV) (fun i σ H' => (∃ c6 c7 c9 c10 c11, σ = [some (.ref b), some (.ref l), some (.int (m : Int)), some (.ref po), some (.bl loose), some (.ref pp), c6, c7, some (.ref pm), c9, c10, c11]) ∧ But b H H' ∧ BagC H' b cl cs ∧ H' pp = some (.lst (us.map V.ref)) ∧ Tups K H' us (ps.map pV) ∧ ∃ qs : List (Str × Str), NTs K H' pm (qs.map pV) ∧ qs.length = i ∧ PairsOk names qs)
      ⟨⟨_, _, _, _, _, rfl⟩, h6.bt, h6.bg, hus, hu, [], ⟨[], hpm6, (trivial : Tups K H6 [] [])⟩, rfl, fun q hq => by simp at hq⟩ (fun i σ H' _ p => ⟨SqL.of p.2.2.2.1, p.2.2.2.2.1⟩) hu.length (fun i t r σ H7 hr ht hPv => ?_) fun σ H7 hPv => ?_
    · obtain ⟨⟨c6, c7, c9, c10, c11, rfl⟩, b7, hb7, hus7, hu7, qs, ⟨ws, hws, hw⟩, hql, hqok⟩ := hPv
      obtain ⟨⟨xa, xb⟩, hx, rfl⟩ := get_map hr
      have hxo := h5.ok _ (List.mem_of_getElem? hx)
      have hix : i < ps.length := (List.getElem?_eq_some_iff.mp hx).1
      refine g2 ht ?_
      refine ⟨_, rfl, _, rfl, by show 2 ≤ sizeLine; decide, fun t1 nt1 => ?_⟩
      have e8 := L2.Same.new nt1 (o := .tup [V.str xa, .str xb])
      have ht1 : SqT K (upd H7 t1 (.tup [V.str xa, .str xb])) t1 (pV (xa, xb)) := SqT.of upd_same
      have hb8 := hb7.same e8
      have b78 : But b H7 (upd H7 t1 (.tup [V.str xa, .str xb])) := But.of e8
      dsimp only [gName]
      generalize upd H7 t1 (.tup [V.str xa, .str xb]) = H8 at e8 ht1 hb8 b78 ⊢
      refine seq_inv (fun σ' H' => (∃ q t', σ' = [some (.ref b), some (.ref l), some (.int (m : Int)), some (.ref po), some (.bl loose), some (.ref pp), c6, c7, some (.ref pm), some (.str xa), some (.str xb), some (.ref t')] ∧ SqT K H' t' (pV q) ∧ (q = (xa, xb) ∨ q = (xb, xa))) ∧ But b H7 H' ∧ BagC H' b cl cs) (fun σ' H9 h => ?_) fun N hN => ?_
      · obtain ⟨⟨q, t', rfl, htq, hq⟩, b9, hb9⟩ := h
        have hws9 := b9 _ _ hbpm.symm hws
        have hwl := hw.length
        rw [List.length_map] at hwl
        have hpn : ps.length ≤ 100 := by omega
        refine ⟨_, rfl, .inl ⟨rfl, _, SqL.of hws9⟩, _, rfl, _, rfl, pm, _, rfl, .inl (SqL.of hws9), _, _, rfl, rfl, b, cl, cs, _, rfl, hb9, by omega, by rw [List.length_map]; omega, fun v H10 b10 hb10 v0 v1 => ?_⟩
        have b710 := b9.trans b10
        have nb9 := hb7.nl
        have hws10 := b10 _ _ hbpm.symm hws9
        have hw10 := hw.but b710 nb9.1 nb9.2
        have hu10 := hu7.but b710 nb9.1 nb9.2
        have ht10 := b10.tup hb9.nl.1 hb9.nl.2 htq
        rw [List.length_map] at v1
        refine ⟨_, rfl, pm, _, v, .ref t', rfl, rfl, hws10, by rw [List.length_map, sizeLine_eq]; omega, v0, by omega, ?_⟩
        have bp : But pm H10 (upd H10 pm (.lst ((ws.map V.ref).take v.toNat ++ [.ref t'] ++ (ws.map V.ref).drop v.toNat))) := But.put
        have nm := FBQ.nl hws10
        have hwi := ((hw10.take v.toNat).append (show Tups K H10 [t'] [pV q] from ⟨ht10, trivial⟩)).append (hw10.drop v.toNat)
        refine ⟨⟨_, _, _, _, _, rfl⟩, ((b7.trans b710).mut npm0), hb10.but bp hbpm hcpm, bp _ _ hppm (b710 _ _ hbpp.symm hus7), hu10.but bp nm.1 nm.2, qs.take v.toNat ++ [q] ++ qs.drop v.toNat, ⟨ws.take v.toNat ++ [t'] ++ ws.drop v.toNat, by rw [upd_same, List.map_append, List.map_append, List.map_take, List.map_drop]; rfl, ?_⟩, by rw [(perm_insert qs v.toNat q).length_eq, List.length_cons, hql], fun y hy => ?_⟩
        · rw [List.map_append, List.map_append, List.map_take, List.map_drop]
          exact hwi.but bp nm.1 nm.2
        · rcases List.mem_cons.mp ((perm_insert qs v.toNat q).mem_iff.mp hy) with e | e
          · rw [e]
            rcases hq with hq | hq
            · rw [hq]; exact hxo
            · rw [hq]; exact ⟨hxo.2.1, hxo.1, fun z => hxo.2.2 z.symm⟩
          · exact hqok y e
      · refine ⟨_, rfl, b, cl, cs, _, rfl, hb8, by decide, by decide, fun v H9 b9 hb9 _ _ => ⟨rfl, _, rfl, iteB (fun hc => ?_) fun hc => hN _ _ ⟨⟨_, t1, rfl, b9.tup hb8.nl.1 hb8.nl.2 ht1, .inl rfl⟩, b78.trans b9, hb9⟩⟩⟩
        refine ⟨_, rfl, _, rfl, by show 2 ≤ sizeLine; decide, fun t2 nt2 => ?_⟩
        have e10 := L2.Same.new nt2 (o := .tup [V.str xb, .str xa])
        exact hN _ _ ⟨⟨(xb, xa), t2, rfl, SqT.of upd_same, .inr rfl⟩, (b78.trans b9).trans (But.of e10), hb9.same e10⟩
    · obtain ⟨⟨c6, c7, c9, c10, c11, rfl⟩, b7, hb7, hus7, hu7, qs, hqs, hql, hqok⟩ := hPv
      exact ⟨_, rfl, hQ pm qs _ b7 hb7 npm0 hqs (by rw [hql, List.length_map]; exact hpsl) hqok⟩
  · have hl4 := h4.bt _ _ hlb hl
    refine ⟨_, rfl, l, _, rfl, .inl (SqL.of hl4), _, _, rfl, rfl, _, rfl, iteB (fun hc => ?_) fun hc => hN _ _ ⟨⟨_, _, rfl⟩, ps, h4, by omega⟩⟩
    rw [List.length_map] at hc
    refine ⟨_, rfl, _, rfl, _, _, rfl, rfl, b, cl, cs, (m : Int) + 1, rfl, h4.bg, by omega, by omega, fun v H5 b5 hb5 v0 v1 => ⟨v, rfl, by omega, by omega, ?_⟩⟩
    have h5 := h4.take n1 n2 b5 hb5
    refine for_it walk_range (fun i σ H' => (∃ c6 c7, σ = [some (.ref b), some (.ref l), some (.int (m : Int)), some (.ref po), some (.bl loose), some (.ref pp), c6, c7, none, none, none, none]) ∧ ∃ ps, Ph K H b cl cs po order pp names H' ps ∧ ps.length ≤ names.length + i)
      ⟨⟨_, _, rfl⟩, ps, h5, by omega⟩ (fun _ _ _ _ _ => trivial) (fun i y σ H6 H7 hi hPv hy => ?_) fun σ H6 hPv => ?_
    · obtain ⟨⟨c6, c7, rfl⟩, ps, h6, hpsl⟩ := hPv
      obtain ⟨rfl, rfl⟩ := hy
      obtain ⟨us0, hus0, hu0⟩ := h6.pr
      refine ⟨_, rfl, .inl ⟨rfl, _, SqL.of hus0⟩, _, rfl, _, rfl, b, cl, l, cs, names, 2, rfl, h6.bg, hlb, h6.bt _ _ hlb hl, hnd, hlen, by decide, fun p2 fnd H8 b8 hb8 np2 hp2 hnd2 hsub2 hlen2 => ⟨p2, _, rfl, .inl ⟨SqL.of hp2, fun t nt => ?_⟩⟩⟩
      have h8 := h6.take n1 n2 b8 hb8
      match fnd, hnd2, hsub2, hlen2, hp2 with
      | [], _, _, q, _ => exact absurd q (by simp; omega)
      | [_], _, _, q, _ => exact absurd q (by simp; omega)
      | _ :: _ :: _ :: _, _, _, q, _ => exact absurd q (by simp; omega)
      | [fx, fy], hnd2, hsub2, _, hp2 =>
        have e9 := L2.Same.new nt (o := .tup ([fx, fy].map V.str))
        have h9 := h8.same e9
        obtain ⟨us, hus, hu⟩ := h9.pr
        have hul := hu.length
        rw [List.length_map] at hul
        have hxy : fx ≠ fy := by simpa using hnd2
        refine ⟨pp, _, .ref t, rfl, rfl, hus, by rw [List.length_map, sizeLine_eq]; omega, ⟨_, _, rfl⟩, ps ++ [(fx, fy)], h9.push npp0 hopp hbpp hcpp hus hu (SqT.of upd_same) (hsub2 _ (by simp)) (hsub2 _ (by simp)) hxy, by rw [List.length_append]; show ps.length + 1 ≤ _; omega⟩
    · obtain ⟨⟨c6, c7, rfl⟩, ps, h6, hpsl⟩ := hPv
      exact hN _ _ ⟨⟨_, _, rfl⟩, ps, h6, by omega⟩
end
end FBQ
end
section
set_option Elab.async false
set_option linter.all false
set_option maxRecDepth 100000
set_option maxHeartbeats 1000000
namespace FBQ
open PySem PySem.Spec PyProof.Rows L2 FBR FB
section
variable {P : Program} {w : World} {K : PySem.W.Frag} {mg : Str → Option Value} {base : Heap}
/-- strikes that a bench takes: ends among the names, small counts -/
def StrOk (names : List Str) (S : List (Stk Str)) : Prop := ∀ s ∈ S, s.1 ∈ names ∧ s.2.1 ∈ names ∧ s.1 ≠ s.2.1 ∧ 0 ≤ s.2.2 ∧ s.2.2 ≤ 1000
def spStruck (K : PySem.W.Frag) : Sp := fun vs H Q _ => ∃ (b cl l d : Addr) (cs : List Int) (names : List Str) (ps : List (Str × Str)) (lv : List (Key × V)), vs = [.ref b, .ref l, .ref d] ∧ BagC H b cl cs ∧ l ≠ b ∧ NTs K H l (ps.map pV) ∧ H d = some (.dK lv) ∧ (∀ z ∈ names, ∃ i : Int, valV lv (Sum.inr z) = some (.int i) ∧ 0 ≤ i ∧ i ≤ 100) ∧ PairsOk names ps ∧ ps.length ≤ 20 ∧
  ∀ (p : Addr) (S : List (Stk Str)) (H' : Hp), But b H H' → BagC H' b cl cs → H p = none → NTs K H' p (S.map sV) → S.length = ps.length → StrOk names S → Q (.ref p) H'
theorem ok_struck (T : Tx K mg) : DefOk P w K mg base 3 (He.ga K "_law_struck") ["_law_bag_here", "_law_pairs_here", "_law_level"] [] (spStruck K) := by
  have D__law_take := ok_take (P := P) (w := w) (base := base) T
  refine defOk T.f__law_struck sc__law_struck (fun _ _ _ _ _ _ us hl => match us, hl with | [_, _, _], _ => rfl) (fun vs H Q E h => by obtain ⟨_, _, _, _, _, _, _, _, rfl, _⟩ := h; rfl) fun cdv A outer s H vs Q E hr h => ?_
  obtain ⟨b, cl, l, d, cs, names, ps, lv, rfl, hb, hlb, ⟨us, hus, hu⟩, hd, hlv, hps, hpl, hQ⟩ := h
  refine ⟨_, ((pss_cons (ps_set (i := 3) sc__law_struck.nd rfl (.inl rfl) (pe_callD D__law_take hr rfl T.g__law_take (pa_cons (pv 0) (pa_cons pe_int pa_nil))))
 (pss_cons (ps_set (i := 4) sc__law_struck.nd rfl (.inl rfl) (pe_lst pa_nil))
 (pss_cons (ps_for PassesOwn.never rfl (pi_listK K (pv 1)) (pg_tup rfl (pgs_cons (pg_name (i := 5) sc__law_struck.nd rfl (.inl rfl) (.inl rfl)) (pgs_cons (pg_name (i := 6) sc__law_struck.nd rfl (.inl rfl) (.inl rfl)) pgs_nil)))
 (pss_cons (ps_set (i := 7) sc__law_struck.nd rfl (.inl rfl) (pe_callB call_abs (by rfl) T.b_abs (by decide +kernel) (pa_cons (pe_op op_sub (pe_dget (hu_of hr) (pv 2) (pv 5) (fun _ _ => rfl)) (pe_dget (hu_of hr) (pv 2) (pv 6) (fun _ _ => rfl))) pa_nil)))
 (pss_cons (ps_if (pt_cmpR op_eq (pv 3) pe_int (nomark _))
 (pss_one (ps_set (i := 7) sc__law_struck.nd rfl (.inl rfl) (pe_callD D__law_take hr rfl T.g__law_take (pa_cons (pv 0) (pa_cons pe_int pa_nil))))) pss_nil)
 (pss_cons (ps_if (PW.pt (pw_and (pt_cmpR op_eq (pv 3) pe_int (nomark _)) (pw_and1 (pt_cmpR op_eq (pe_callD D__law_take hr rfl T.g__law_take (pa_cons (pv 0) (pa_cons pe_int pa_nil))) pe_int (nomark _)))))
 (pss_one (ps_set (i := 7) sc__law_struck.nd rfl (.inl rfl) (pe_callB call_abs (by rfl) T.b_abs (by decide +kernel) (pa_cons (pe_op op_sub (pe_op op_add (pv 7) (pe_op op_mul pe_int (pe_callD D__law_take hr rfl T.g__law_take (pa_cons (pv 0) (pa_cons pe_int pa_nil))))) pe_int) pa_nil)))) pss_nil)
 (pss_one (ps_expr (pe_bm PySem.F.plainAttrs_list PySem.F.slot_list_append PySem.F.type_list_append mt_append (pv 4) (pa_cons (pe_tup (pa_cons (pv 5) (pa_cons (pv 6) (pa_cons (pv 7) pa_nil)))) pa_nil))))))))
 (pss_one (ps_ret (pv 4))))))), ?_⟩
  refine ⟨_, rfl, b, cl, cs, _, rfl, hb, by decide, by decide, fun way H1 b1 hb1 w0 w1 => ?_⟩
  have hdb : d ≠ b := fun z => by obtain ⟨_, _, _, _, h1, _⟩ := hb; rw [z, h1] at hd; cases hd
  refine ⟨Nat.zero_le _, fun p np => ?_⟩
  have e2 := L2.Same.new np (o := .lst [])
  have hp2 : upd H1 p (.lst []) p = some (.lst []) := upd_same
  obtain ⟨hbp, hcp⟩ := hb1.ne np
  have np0 := b1.back np hbp.symm
  have hlp : l ≠ p := ne_of_none hus np0
  have hdp : d ≠ p := ne_of_none hd np0
  have b2 := b1.trans (But.of e2)
  have hb2 := hb1.same e2
  have hu2 := (hu.but b1 hb.nl.1 hb.nl.2).same e2
  dsimp only [gName]
  generalize upd H1 p (.lst []) = H2 at e2 hp2 b2 hb2 hu2 ⊢
  refine ⟨_, rfl, l, rfl, ⟨_, SqL.of (b2 _ _ hlb hus)⟩, ?_⟩
  refine for_tups (ts := us) (rs := ps.map pV) (fun i σ H' => (∃ c5 c6 c7, σ = [some (.ref b), some (.ref l), some (.ref d), some (.int way), some (.ref p), c5, c6, c7]) ∧ But b H H' ∧ BagC H' b cl cs ∧ Tups K H' us (ps.map pV) ∧ ∃ S : List (Stk Str), NTs K H' p (S.map sV) ∧ S.length = i ∧ StrOk names S)
    ⟨⟨_, _, _, rfl⟩, b2, hb2, hu2, [], ⟨[], hp2, trivial⟩, rfl, fun q hq => by simp at hq⟩ (fun i σ H' _ q => ⟨SqL.of (q.2.1 _ _ hlb hus), q.2.2.2.1⟩) hu.length (fun i t r σ H3 hr ht hPv => ?_) fun σ H3 hPv => ?_
  · obtain ⟨⟨c5, c6, c7, rfl⟩, b3, hb3, hu3, S, ⟨ws, hws, hw⟩, hSl, hSo⟩ := hPv
    obtain ⟨⟨xa, xb⟩, hx, rfl⟩ := get_map hr
    have hxo := hps _ (List.mem_of_getElem? hx)
    have hix : i < ps.length := (List.getElem?_eq_some_iff.mp hx).1
    obtain ⟨i1, g1, g10, g11⟩ := hlv _ hxo.1
    obtain ⟨i2, g2', g20, g21⟩ := hlv _ hxo.2.1
    have hd3 := b3 _ _ hdb hd
    refine g2 ht ?_
    refine ⟨_, rfl, _, rfl, d, .int i1, rfl, .inl ⟨lv, .inr xa, .inl hd3, rfl, g1.symm⟩, _, rfl, _, rfl, d, .int i2, rfl, .inl ⟨lv, .inr xb, .inl hd3, rfl, g2'.symm⟩, _, _, rfl, rfl, _, rfl, ?_⟩
    have hc0 : 0 ≤ (if i1 - i2 < 0 then -(i1 - i2) else i1 - i2) ∧ (if i1 - i2 < 0 then -(i1 - i2) else i1 - i2) ≤ 100 := by split <;> omega
    generalize (if i1 - i2 < 0 then -(i1 - i2) else i1 - i2) = c0 at hc0 ⊢
    dsimp only [gName]
    refine seq_inv (fun σ' H' => (∃ c : Int, σ' = [some (.ref b), some (.ref l), some (.ref d), some (.int way), some (.ref p), some (.str xa), some (.str xb), some (.int c)] ∧ 0 ≤ c ∧ c ≤ 100) ∧ But b H3 H' ∧ BagC H' b cl cs) (fun σ' H4 h => ?_) fun N hN => ?_
    · obtain ⟨⟨c, rfl, k0, k1⟩, b4, hb4⟩ := h
      refine seq_inv (fun σ' H' => (∃ c : Int, σ' = [some (.ref b), some (.ref l), some (.ref d), some (.int way), some (.ref p), some (.str xa), some (.str xb), some (.int c)] ∧ 0 ≤ c ∧ c ≤ 1000) ∧ But b H3 H' ∧ BagC H' b cl cs) (fun σ' H5 h => ?_) fun N hN => ?_
      · obtain ⟨⟨c, rfl, k0, k1⟩, b5, hb5⟩ := h
        have hws5 := b5 _ _ hbp.symm hws
        have hw5 := hw.but b5 hb3.nl.1 hb3.nl.2
        have hu5 := hu3.but b5 hb3.nl.1 hb3.nl.2
        have hwl := hw.length
        rw [List.length_map] at hwl
        refine ⟨_, rfl, .inl ⟨rfl, _, SqL.of hws5⟩, _, rfl, _, rfl, _, rfl, by show 3 ≤ sizeLine; decide, fun t1 nt1 => ?_⟩
        have e6 := L2.Same.new nt1 (o := .tup [V.str xa, .str xb, .int c])
        have ht1 : SqT K (upd H5 t1 (.tup [V.str xa, .str xb, .int c])) t1 (sV (xa, xb, c)) := SqT.of upd_same
        have hws6 := e6 _ _ hws5
        have bp : But p (upd H5 t1 (.tup [V.str xa, .str xb, .int c])) (upd (upd H5 t1 (.tup [V.str xa, .str xb, .int c])) p (.lst (ws.map V.ref ++ [.ref t1]))) := But.put
        have nm := FBQ.nl hws6
        refine ⟨p, _, .ref t1, rfl, rfl, hws6, by rw [List.length_map, sizeLine_eq]; omega, ⟨_, _, _, rfl⟩, ((b3.trans b5).trans (But.of e6)).mut np0, (hb5.same e6).but bp hbp hcp, (hu5.same e6).but bp nm.1 nm.2, S ++ [(xa, xb, c)], ⟨ws ++ [t1], by rw [upd_same, List.map_append]; rfl, ?_⟩, by rw [List.length_append, hSl]; rfl, fun y hy => ?_⟩
        · rw [List.map_append]
          exact ((hw5.same e6).but bp nm.1 nm.2).snoc (bp.tup nm.1 nm.2 ht1)
        · rcases List.mem_append.mp hy with e | e
          · exact hSo y e
          · simp at e
            rw [e]; exact ⟨hxo.1, hxo.2.1, hxo.2.2, k0, k1⟩
      · refine ⟨_, rfl, rfl, _, rfl, iteB (fun hc => ?_) fun hc => iteF (hN _ _ ⟨⟨c, rfl, k0, by omega⟩, b4, hb4⟩)⟩
        refine ⟨_, rfl, b, cl, cs, _, rfl, hb4, by decide, by decide, fun v H5 b5 hb5 _ _ => ⟨rfl, _, rfl, iteB (fun hc => ?_) fun hc => hN _ _ ⟨⟨c, rfl, k0, by omega⟩, b4.trans b5, hb5⟩⟩⟩
        refine ⟨_, rfl, _, rfl, b, cl, cs, _, rfl, hb5, by decide, by decide, fun v2 H6 b6 hb6 v20 v21 => ⟨_, _, rfl, rfl, .inl ⟨by decide, by decide⟩, _, _, rfl, rfl, _, _, rfl, rfl, _, rfl, hN _ _ ⟨⟨_, rfl, ?_, ?_⟩, (b4.trans b5).trans b6, hb6⟩⟩⟩
        · split <;> omega
        · split <;> omega
    · refine ⟨_, rfl, rfl, _, rfl, iteB (fun hc => ?_) fun hc => hN _ _ ⟨⟨c0, rfl, hc0.1, hc0.2⟩, But.of (L2.Same.refl _), hb3⟩⟩
      exact ⟨_, rfl, b, cl, cs, _, rfl, hb3, by decide, by decide, fun v H5 b5 hb5 v0 v1 => hN _ _ ⟨⟨v, rfl, v0, by omega⟩, b5, hb5⟩⟩
  · obtain ⟨⟨c5, c6, c7, rfl⟩, b3, hb3, hu3, S, hS, hSl, hSo⟩ := hPv
    exact ⟨_, rfl, hQ p S _ b3 hb3 np0 hS (by rw [hSl, List.length_map]) hSo⟩
end
end FBQ
end
section
set_option Elab.async false
set_option linter.all false
set_option maxRecDepth 100000
set_option maxHeartbeats 1000000
namespace FBQ
open PySem PySem.Spec PyProof.Rows L2 FBR FB
section
variable {P : Program} {w : World} {K : PySem.W.Frag} {mg : Str → Option Value} {base : Heap}
def spLbench (K : PySem.W.Frag) : Sp := fun vs H Q _ => ∃ (l sl : Addr) (names : List Str) (S : List (Stk Str)), vs = [.ref l, .ref sl, .int 0] ∧ H l = some (.lst (names.map V.str)) ∧ NTs K H sl (S.map sV) ∧ BOk names S ∧
  ∀ (x : Addr) (np : Nat) (H' : Hp), Same H H' → H x = none → BenchAt K H' x names S np → Q (.ref x) H'
theorem ok_lbench (T : Tx K mg) : DefOk P w K mg base 5 (He.ga K "_law_bench") ["_law_names_here", "_law_strikes", "_law_spare"] [] (spLbench K) := by
  have D_BenchU_initU := ok_binit (P := P) (w := w) (base := base) T
  have D_Bench_add := ok_add (P := P) (w := w) (base := base) T
  have D_Bench_strike := ok_strike (P := P) (w := w) (base := base) T
  refine defOk T.f__law_bench sc__law_bench (fun _ _ _ _ _ _ us hl => match us, hl with | [_, _, _], _ => rfl) (fun vs H Q E h => by obtain ⟨_, _, _, _, rfl, _⟩ := h; rfl) fun cdv A outer s H vs Q E hr h => ?_
  obtain ⟨l, sl, names, S, rfl, hl, ⟨ts, hsl, hts⟩, hO, hQ⟩ := h
  refine ⟨_, ((pss_cons (ps_set (i := 3) sc__law_bench.nd rfl (.inl rfl) (pe_makeD T.mk_Bench D_BenchU_initU hr rfl T.g_Bench (pa_cons (pv 2) pa_nil)))
 (pss_cons (ps_for PassesOwn.never rfl (pi_listK K (pv 0)) (pg_name (i := 4) sc__law_bench.nd rfl (.inl rfl) (.inl rfl))
 (pss_one (ps_expr (pe_methR (pv 3) T.cl_Bench T.m_Bench_add D_Bench_add (hr.mono (by decide)) pass0 (pa_cons (pv 4) pa_nil)))))
 (pss_cons (ps_for PassesOwn.never rfl (pi_listK K (pv 1)) (pg_tup rfl (pgs_cons (pg_name (i := 5) sc__law_bench.nd rfl (.inl rfl) (.inl rfl)) (pgs_cons (pg_name (i := 6) sc__law_bench.nd rfl (.inl rfl) (.inl rfl)) (pgs_cons (pg_name (i := 7) sc__law_bench.nd rfl (.inl rfl) (.inl rfl)) pgs_nil))))
 (pss_one (ps_expr (pe_methD (pv 3) T.cl_Bench T.m_Bench_strike D_Bench_strike hr (pa_cons (pv 5) (pa_cons (pv 6) (pa_cons (pv 7) pa_nil)))))))
 (pss_one (ps_ret (pv 3))))))), ?_⟩
  refine ⟨_, rfl, ?_⟩
  intro x dx nx ndx hne
  have eo : Same H (upd (upd H dx (.own x)) x (.ins (CB K) dx [])) := L2.Same.mut (L2.Same.new ndx) nx
  refine ⟨x, dx, rfl, upd_same, fun H1 b1 hB1 => ⟨rfl, ?_⟩⟩
  have bO : ∀ {H'}, But x (upd (upd H dx (.own x)) x (.ins (CB K) dx [])) H' → Same H H' := fun bb u v hu => bb u v (fun z => by rw [z, nx] at hu; cases hu) (eo u v hu)
  have hll := hO.len
  refine ⟨_, rfl, l, rfl, ⟨_, SqL.of (bO b1 _ _ hl)⟩, ?_⟩
  refine for_it (walk_list (xs := names.map V.str)) (fun i σ H' => (∃ c4 c5 c6 c7, σ = [some (.ref l), some (.ref sl), some (.int 0), some (.ref x), c4, c5, c6, c7]) ∧ But x (upd (upd H dx (.own x)) x (.ins (CB K) dx [])) H' ∧ BenchAt K H' x (names.take i) [] i)
    ⟨⟨_, _, _, _, rfl⟩, b1, hB1⟩ (fun i σ H' _ p => SqL.of (bO p.2.1 _ _ hl)) (fun i y σ H2 H3 hi hPv hy => ?_) fun σ H2 hPv => ?_
  · obtain ⟨⟨c4, c5, c6, c7, rfl⟩, b2, hB2⟩ := hPv
    obtain ⟨rfl, hy⟩ := hy
    obtain ⟨z, hz, rfl⟩ := get_map hy
    have hil : i < names.length := (List.getElem?_eq_some_iff.mp hz).1
    obtain ⟨bx, _, _, _, _, _, _, _, hbx, _⟩ := id hB2
    have hnew : z ∉ names.take i := fun q => by
      obtain ⟨j, hj, e3⟩ := List.mem_take_iff_getElem.mp q
      have := (List.getElem_inj hO.nd).mp (e3.trans (List.getElem?_eq_some_iff.mp hz).2.symm)
      omega
    refine ⟨_, rfl, x, bx, _, rfl, hbx, rfl, _, rfl, x, names.take i, [], i, z, rfl, hB2, hO.ok z (List.mem_of_getElem? hz), hnew, by rw [List.length_take]; omega, by omega, fun H4 b4 hB4 => ⟨⟨_, _, _, _, rfl⟩, b2.trans b4, ?_⟩⟩
    rw [take_s hz]
    exact hB4
  · obtain ⟨⟨c4, c5, c6, c7, rfl⟩, b2, hB2⟩ := hPv
    rw [List.length_map, List.take_length] at hB2
    refine ⟨_, rfl, sl, rfl, ⟨_, SqL.of (bO b2 _ _ hsl)⟩, ?_⟩
    refine for_tups (ts := ts) (rs := S.map sV) (fun i σ H' => (∃ c4 c5 c6 c7, σ = [some (.ref l), some (.ref sl), some (.int 0), some (.ref x), c4, c5, c6, c7]) ∧ But x (upd (upd H dx (.own x)) x (.ins (CB K) dx [])) H' ∧ BenchAt K H' x names (S.take i) (names.length + i))
      ⟨⟨_, _, _, _, rfl⟩, b2, hB2⟩ (fun i σ H' _ p => ⟨SqL.of (bO p.2.1 _ _ hsl), hts.same (bO p.2.1)⟩) hts.length (fun i t r σ H3 hr ht hPv => ?_) fun σ H3 hPv => ?_
    · obtain ⟨⟨c4, c5, c6, c7, rfl⟩, b3, hB3⟩ := hPv
      obtain ⟨q, hq, rfl⟩ := get_map hr
      have hqm := List.mem_of_getElem? hq
      have hil : i < S.length := (List.getElem?_eq_some_iff.mp hq).1
      have hsl2 := hO.sl
      obtain ⟨bx, _, _, _, _, _, _, _, hbx, _⟩ := id hB3
      have hen := hO.ends q hqm
      have hlo := hO.lo q hqm
      refine g3 ht ?_
      refine ⟨_, rfl, x, bx, _, rfl, hbx, rfl, _, rfl, _, rfl, _, rfl, x, names, S.take i, names.length + i, q.1, q.2.1, q.2.2, rfl, hB3, hO.ok, by rw [List.length_take]; omega, by omega, hen.1, hen.2, hO.ne q hqm, hlo.1, hlo.2, fun H4 v b4 hB4 => ⟨⟨_, _, _, _, rfl⟩, b3.trans b4, ?_⟩⟩
      rw [take_s hq]
      exact hB4
    · obtain ⟨⟨c4, c5, c6, c7, rfl⟩, b3, hB3⟩ := hPv
      rw [List.length_map, List.take_length] at hB3
      exact ⟨_, rfl, hQ x _ _ (bO b3) nx hB3⟩
end
end FBQ
end
section
set_option Elab.async false
set_option linter.all false
set_option maxRecDepth 100000
set_option maxHeartbeats 1000000
namespace FBQ
open PySem PySem.Spec PyProof.Rows L2 FBR FB
section
variable {P : Program} {w : World} {K : PySem.W.Frag} {mg : Str → Option Value} {base : Heap}
theorem gs_fittings : GScope ["bench"] ["bench"] (defScope s_fittings) := ⟨rfl, rfl, rfl, by decide +kernel, rfl, by decide +kernel, by decide +kernel⟩
def spLpitches (K : PySem.W.Frag) : Sp := fun vs H Q _ => ∃ x names S np, vs = [.ref x] ∧ BenchAt K H x names S np ∧ BOk names S ∧ ∀ p ts H', Same H H' → H p = none → H' p = some (.lst (ts.map V.ref)) → RowsAt K H' ts (fitM names S) → Q (.ref p) H'
theorem ok_lpitches (T : Tx K mg) : DefOk P w K mg base 17 (He.ga K "_law_pitches") ["_law_bench_here"] [] (spLpitches K) := by
  have D_found := @ok_found P w K mg base T
  have D_Tuning_pitches := ok_pitches (P := P) (w := w) (base := base) T
  obtain ⟨fdg, F⟩ := T.f_fittings
  have hbi := F.bindsN (ps := ["bench"]) fun _ _ _ _ _ _ us hl => match us, hl with | [_], _ => rfl
  have hkp := F.kp
  obtain ⟨oc, od, dV, kV, doc, pm, an, cdg, ct, osl, rfl, lk, hcd, hD, hK⟩ := F.ex
  refine defOk T.f__law_pitches sc__law_pitches (fun _ _ _ _ _ _ us hl => match us, hl with | [_], _ => rfl) (fun vs H Q E h => by obtain ⟨_, _, _, _, rfl, _⟩ := h; rfl) fun cdv A outer s H vs Q E hr h => ?_
  obtain ⟨x, names, S, np, rfl, hB, hO, hQ⟩ := h
  refine ⟨_, pss_cons (ps_set (i := 1) sc__law_pitches.nd rfl (.inl rfl) (pe_lst pa_nil)) (pss_cons (FBG.ps_forG (k := 14) rfl hr lk hcd gs_fittings rfl T.g_fittings hkp hbi (pa_cons (pv 0) pa_nil) (fun Aw outer s H pn hr2 => pe_callD D_found hr2 rfl T.g_found_fittings (pa_cons (pv 0) pa_nil)) (pg_name (i := 2) sc__law_pitches.nd rfl (.inl rfl) (.inl rfl)) (pss_one (ps_expr (pe_bm PySem.F.plainAttrs_list PySem.F.slot_list_append PySem.F.type_list_append mt_append (pv 1) (pa_cons (pe_methD0 (pv 2) T.cl_Tuning T.m_Tuning_pitches D_Tuning_pitches hr) pa_nil))))) (pss_one (ps_ret (pv 1)))), ?_⟩
  refine ⟨Nat.zero_le _, fun p npp => ?_⟩
  have e1 := L2.Same.new npp (o := .lst [])
  have hp1 : upd H p (.lst []) p = some (.lst []) := upd_same
  dsimp only [gName]
  generalize upd H p (.lst []) = H1 at e1 hp1 ⊢
  refine ⟨_, rfl, rfl, _, rfl, x, names, S, np, rfl, hB.same e1, hO, fun fp fts H2 e2 nf hf hfa => ⟨fp, _, rfl, hf, ?_⟩⟩
  have hfpp : fp ≠ p := (ne_of_none hp1 nf).symm
  have hp2 := e2 _ _ hp1
  have e12 := e1.trans e2
  have bH : ∀ {H'}, But p H2 H' → Same H H' := fun bb u v hu => bb u v (fun z => by rw [z, npp] at hu; cases hu) (e12 u v hu)
  have hfl := hfa.length
  have hf1024 := fit_len hO
  refine ⟨fun i σ H' => (∃ c2, σ = [some (.ref x), some (.ref p), c2]) ∧ But p H2 H' ∧ ∃ us : List Addr, H' p = some (.lst (us.map V.ref)) ∧ RowsAt K H' us ((fitM names S).take i), ⟨⟨_, rfl⟩, But.of (L2.Same.refl _), [], hp2, trivial⟩, fun i σ H' _ q => SqL.of (q.2.1 _ _ hfpp hf), fun i y σ H3 hy hPv => ?_, fun σ H3 hPv => ?_⟩
  · obtain ⟨⟨c2, rfl⟩, b3, us, hus, hu⟩ := hPv
    obtain ⟨t, ht, rfl⟩ := get_map hy
    obtain ⟨r, hr1, htr⟩ := hfa.get ht
    have htr3 := htr.but b3 hp2
    have hrl : r.length = names.length := fit_row (List.mem_of_getElem? hr1)
    have hnl := hO.len
    obtain ⟨dx, tt, rr, htt, _⟩ := id htr3
    have hul := hu.length
    rw [List.length_take] at hul
    refine ⟨_, rfl, .inl ⟨rfl, _, SqL.of hus⟩, _, rfl, t, dx, _, rfl, htt, rfl, t, names.zip r, rfl, htr3, by rw [List.length_zip]; omega, fun q H4 e4 nq hq => ?_⟩
    have hus4 := e4 _ _ hus
    have bp : But p H4 (upd H4 p (.lst (us.map V.ref ++ [.ref q]))) := But.put
    have nm := FBQ.nl hus4
    have hqr : SqT K H4 q (r.map V.int) := by
      have e : (names.zip r).map (fun q : Str × Int => V.int q.2) = r.map V.int := by
        rw [show (fun q : Str × Int => V.int q.2) = V.int ∘ Prod.snd from rfl, ← List.map_map, List.map_snd_zip (by omega)]
      rw [← e]
      exact SqT.of hq
    refine ⟨p, _, .ref q, rfl, rfl, hus4, by rw [List.length_map, sizeLine_eq]; omega, ⟨_, rfl⟩, (b3.trans (But.of e4)).trans bp, us ++ [q], by rw [upd_same, List.map_append]; rfl, ?_⟩
    rw [take_s hr1]
    exact Al.append (hu.imp fun _ _ _ z => bp.tup nm.1 nm.2 (e4.tup z)) ⟨bp.tup nm.1 nm.2 hqr, trivial⟩
  · obtain ⟨⟨c2, rfl⟩, b3, us, hus, hu⟩ := hPv
    rw [List.length_map, List.take_of_length_le (by omega)] at hu
    exact ⟨_, rfl, hQ p us _ (bH b3) npp hus hu⟩
end
end FBQ
end
section
set_option Elab.async false
set_option linter.all false
set_option maxRecDepth 100000
set_option maxHeartbeats 2000000
namespace FBQ
open PySem PySem.Spec PyProof.Rows L2 FBR FB
section
variable {P : Program} {w : World} {K : PySem.W.Frag} {mg : Str → Option Value} {base : Heap}
/-! ### strikes as data; the scaled bench is sound -/
def dTr (t : Stk Str) : PyData := .tuple [.str t.1, .str t.2.1, .int t.2.2]
theorem dp_trip {H : Hp} : ∀ {ts : List Addr} {S : List (Stk Str)}, Tups K H ts (S.map sV) → DpAll K H (ts.map V.ref) (S.map dTr)
  | [], [], _ => .nil
  | [], _ :: _, h => h.elim
  | _ :: _, [], h => h.elim
  | t :: ts, s :: S, h => .cons (.tup h.1 (.cons (.str s.1) (.cons (.str s.2.1) (.cons (.int s.2.2) .nil)))) (dp_trip h.2)
theorem lay_trip : ∀ S : List (Stk Str), (∀ s ∈ S, PyData.strOk s.1 = true ∧ PyData.strOk s.2.1 = true) → PyData.canLayAll0 (S.map dTr) = true
  | [], _ => by simp [PyData.canLayAll0]
  | s :: S, h => by
    show PyData.canLayAll0 (dTr s :: S.map dTr) = true
    rw [PyData.canLayAll0, lay_trip S fun x hx => h x (List.mem_cons_of_mem _ hx)]
    have h1 := h s List.mem_cons_self
    simp [dTr, PyData.canLay0, PyData.canLayAll0, h1.1, h1.2]
theorem depth_trip : ∀ S : List (Stk Str), PyData.depthAll (S.map dTr) ≤ 1
  | [] => by simp [PyData.depthAll]
  | s :: S => by
    show PyData.depthAll (dTr s :: S.map dTr) ≤ 1
    rw [PyData.depthAll]
    have h := depth_trip S
    have h1 : (dTr s).depth = 1 := by simp [dTr, PyData.depth, PyData.depthAll]
    omega
theorem sh_trip (S : List (Stk Str)) (h : ∀ s ∈ S, PyData.strOk s.1 = true ∧ PyData.strOk s.2.1 = true) : SeqAt.shaped (.list (S.map dTr)) = true := by
  unfold SeqAt.shaped
  rw [Bool.and_eq_true]
  refine ⟨?_, decide_eq_true ?_⟩
  · rw [PyData.canLay0]
    exact lay_trip S h
  · rw [PyData.depth]
    have := depth_trip S
    omega
theorem eqv_trip : ∀ S : List (Stk Str), PyData.eqvAll (S.map dTr) (S.map dTr) = true
  | [] => by simp [PyData.eqvAll]
  | s :: S => by
    show PyData.eqvAll (dTr s :: S.map dTr) (dTr s :: S.map dTr) = true
    rw [PyData.eqvAll, eqv_trip S]
    simp [dTr, PyData.eqv, PyData.eqvAll]
theorem okn_str {z : Str} (h : OkN z) : PyData.strOk z = true := by
  unfold PyData.strOk
  rw [Array.all_eq_true']
  intro c hc
  have := h.2.2 c (by simpa using hc)
  exact decide_eq_true (by omega)
theorem bok_str {names : List Str} {S : List (Stk Str)} (hp : names ≠ []) (hnd : names.Nodup) (hl : names.length ≤ 10) (hok : ∀ z ∈ names, OkN z) (hS : StrOk names S) (hs : S.length ≤ 20) : BOk names S :=
  ⟨hp, hnd, hl, hok, hs, fun s h => ⟨(hS s h).1, (hS s h).2.1⟩, fun s h => (hS s h).2.2.1, fun s h => ⟨(hS s h).2.2.2.1, by have := (hS s h).2.2.2.2; omega⟩⟩
theorem bok_scale {names : List Str} {S : List (Stk Str)} {k : Int} (h : BOk names S) (hS : StrOk names S) (k0 : 1 ≤ k) (k1 : k ≤ 20) : BOk names (S.map (sS k)) := by
  refine ⟨h.pos, h.nd, h.len, h.ok, by rw [List.length_map]; exact h.sl, fun s hs => ?_, fun s hs => ?_, fun s hs => ?_⟩
  · obtain ⟨t, ht, rfl⟩ := List.mem_map.mp hs
    exact h.ends t ht
  · obtain ⟨t, ht, rfl⟩ := List.mem_map.mp hs
    exact h.ne t ht
  · obtain ⟨t, ht, rfl⟩ := List.mem_map.mp hs
    obtain ⟨_, _, _, c0, c1⟩ := hS t ht
    refine ⟨Int.mul_nonneg c0 (by omega), ?_⟩
    have := Int.mul_le_mul c1 k1 (by omega) (by decide)
    show t.2.2 * k ≤ 1000000000
    omega
theorem fit_32 {names : List Str} {S : List (Stk Str)} (h : BOk names S) (h5 : names.length ≤ 5) : (fitM names S).length < 64 := by
  unfold fitM
  rw [List.length_mergeSort]
  unfold rawM
  rw [List.length_map]
  have hl : (orderM names S).length ≤ 5 := Nat.le_trans (order_good h.ends).len h5
  exact Nat.lt_of_le_of_lt (Nat.le_trans (levels_len _ _) (Nat.pow_le_pow_right (n := 2) (by decide) hl)) (by decide)
/-- a list comprehension over strikes: the counts times k -/
theorem lc_scale {l : Addr} {ts : List Addr} {S : List (Stk Str)} {te : TE} {i1 i2 i3 : Nat} {vs : List Nat} {σ : L2.St} {H : Hp} {D : Addr} {Qd : Hp → Prop} (k : Int) (hl : SqL K H l (ts.map V.ref)) (ht : Tups K H ts (S.map sV)) (hD : H D = none) (hn : S.length ≤ 1000)
    (hw : ∀ x y z : V, wipe ((((wipe σ vs).set i1 (some x)).set i2 (some y)).set i3 (some z)) vs = wipe σ vs)
    (he : ∀ (s : Stk Str) (H2 : Hp) (Q : VK), (∀ t, H2 t = none → Q (.ref t) (upd H2 t (.tup (sV (sS k s))))) → te ((((wipe σ vs).set i1 (some (.str s.1))).set i2 (some (.str s.2.1))).set i3 (some (.int s.2.2))) H2 Q)
    (hd : ∀ H', Same H H' → NTs K H' D ((S.map (sS k)).map sV) → Qd H') :
    LcW (Itl K l) (gTup K 3 (gCons (gName i1) (gCons (gName i2) (gCons (gName i3) gNil)))) tYes te vs σ H D Qd := by
  have htl := ht.length
  rw [List.length_map] at htl
  refine lc_tups (K := K) (walk_list (xs := ts.map V.ref)) hD (by rw [List.length_map]; omega) ((S.map (sS k)).map sV) (by rw [List.length_map, List.length_map, List.length_map, htl]) (fun H' e => e.seq hl) (fun i y H2 H3 r hr e2 hy => ?_) gm_tup3 fun H2 e2 N => hd H2 e2 N
  obtain ⟨rfl, hy⟩ := hy
  obtain ⟨t, htt, rfl⟩ := get_map hy
  obtain ⟨r', hr', hat⟩ := ht.get htt
  obtain ⟨s, hs, rfl⟩ := get_map hr'
  rw [List.getElem?_map, List.getElem?_map, hs] at hr
  cases (Option.some.inj hr)
  refine g3 (e2.tup hat) ⟨hw _ _ _, L2.Same.refl _, fun Q q => he s _ Q fun u nu => q u _ (L2.Same.new nu) (SqT.of upd_same)⟩
def dRow (r : List Int) : PyData := .tuple (r.map PyData.int)
theorem dp_rows {H : Hp} : ∀ {ts : List Addr} {rows : List (List Int)}, RowsAt K H ts rows → DpAll K H (ts.map V.ref) (rows.map dRow)
  | [], [], _ => .nil
  | [], _ :: _, h => h.elim
  | _ :: _, [], h => h.elim
  | _ :: _, r :: _, h => .cons (.tup h.1 (dp_ints r)) (dp_rows h.2)
theorem lay_rows : ∀ rows : List (List Int), PyData.canLayAll0 (rows.map dRow) = true
  | [] => by simp [PyData.canLayAll0]
  | r :: rows => by
    show PyData.canLayAll0 (dRow r :: rows.map dRow) = true
    rw [PyData.canLayAll0, lay_rows rows]
    unfold dRow
    rw [PyData.canLay0, lay_ints r]
    rfl
theorem depth_rows : ∀ rows : List (List Int), PyData.depthAll (rows.map dRow) ≤ 10
  | [] => by simp [PyData.depthAll]
  | r :: rows => by
    show PyData.depthAll (dRow r :: rows.map dRow) ≤ 10
    rw [PyData.depthAll]
    have h := depth_rows rows
    have h1 : (dRow r).depth ≤ 10 := (depth_row r).1
    omega
theorem sh_rows (rows : List (List Int)) : SeqAt.shaped (.list (rows.map dRow)) = true := by
  unfold SeqAt.shaped
  rw [Bool.and_eq_true]
  refine ⟨?_, decide_eq_true ?_⟩
  · rw [PyData.canLay0]
    exact lay_rows rows
  · rw [PyData.depth]
    have := depth_rows rows
    omega
theorem eqv_rows0 (rows : List (List Int)) : PyData.eqv (.list (rows.map dRow)) (.list []) = decide (rows = []) := by
  cases rows <;> simp [PyData.eqv, PyData.eqvAll]
theorem sure_mem {names : List Str} {rows : List (List Int)} {ps : List (Str × Str)} (h : ∀ q ∈ ps, q.1 ∈ names ∧ q.2 ∈ names) : ∀ s ∈ sureM names rows ps, s.1 ∈ names ∧ s.2.1 ∈ names := by
  intro s hs
  rw [show sureM names rows ps = ps.filterMap (sureF names rows) from rfl] at hs
  obtain ⟨q, hq, e⟩ := List.mem_filterMap.mp hs
  unfold sureF at e
  split at e
  · cases e2 : oneM (rows.map fun r => beatM names r q.1 q.2) with
    | none => rw [e2] at e; cases e
    | some t =>
      rw [e2] at e
      cases (Option.some.inj e)
      exact h q hq
  · cases e
theorem sure_len {names : List Str} {rows : List (List Int)} {ps : List (Str × Str)} (h : ps.length ≤ 100) : (sureM names rows ps).length ≤ 100 := by
  rw [show sureM names rows ps = ps.filterMap (sureF names rows) from rfl]
  exact Nat.le_trans (List.length_filterMap_le _ _) h
def spLaw (K : PySem.W.Frag) : Sp := fun vs H Q _ => ∃ (a : Addr) (ns : List Int), vs = [.ref a] ∧ SqL K H a (ns.map V.int) ∧ ns.length ≤ 63 ∧ ∀ H', Q (.bl true) H'
theorem defOkF {x qual : Str} {st : Stmt} {f : Addr} {fd : FuncData} {N ps : List Str} {k : Nat} {sp : Sp} (F : FunD K x qual (defArgs st) (defBody st) (defScope st) [] [] f fd) (S : FnScope N ps (defScope st)) (len : ∀ vs H Q E, sp vs H Q E → vs.length = ps.length)
    (hbody : ∀ (cdv : Value) (A : Around) (outer : List Env) (s : Shared) (H : Hp) (vs : List V) (Q : VK) (E : XK), Room k (A.deeper (envOfC qual (defScope st) s.heap.objs.size f cdv)) → sp vs H Q E →
      ∃ t, PSs (cxOf CX0 P w K mg base N qual (defScope st) f cdv A outer s H E).nox (defBody st) t ∧ t { nx := fun _ H' => Q .non H', rt := Q } (start N vs) H) : FnOk P w K mg base CX0 (k + 1) f fd ps sp :=
  F.ok S len fun cdv A outer s H vs Q E hr h => by
    obtain ⟨t, h1, h2⟩ := hbody cdv A outer s H vs Q E hr h
    exact ⟨t, h1.nox, h2⟩
theorem ok_law (T : Tx K mg) {fd : FuncData} (F : FunD K "law" "law" (defArgs s_law) (defBody s_law) (defScope s_law) [] [] (He.ga K "law") fd) : FnOk P w K mg base CX0 20 (He.ga K "law") fd ["_law_script"] (spLaw K) := by
  have D__law_bag := ok_bag (P := P) (w := w) (base := base) T
  have D__law_many := ok_many (P := P) (w := w) (base := base) T
  have D__law_names := ok_names (P := P) (w := w) (base := base) T
  have D__law_take := ok_take (P := P) (w := w) (base := base) T
  have D__law_pairs := ok_lpairs (P := P) (w := w) (base := base) T
  have D__law_struck := ok_struck (P := P) (w := w) (base := base) T
  have D__law_bench := ok_lbench (P := P) (w := w) (base := base) T
  have D__law_pitches := ok_lpitches (P := P) (w := w) (base := base) T
  have D__law_rows := ok_rows (P := P) (w := w) (base := base) T
  have D_count_shapes := ok_cshapes (P := P) (w := w) (base := base) T
  have D_block_counts := ok_bcounts (P := P) (w := w) (base := base) T
  have D_count_fittings := ok_count (P := P) (w := w) (base := base) T
  have D_sure_beats := ok_sure (P := P) (w := w) (base := base) T
  refine defOkF F sc_law (fun vs H Q E h => by obtain ⟨_, _, rfl, _⟩ := h; rfl) fun cdv A outer s H vs Q E hr h => ?_
  obtain ⟨a, ns, rfl, hS, hlen, hQ⟩ := h
  refine ⟨_, ((pss_cons (ps_set (i := 1) sc_law.nd rfl (.inl rfl) (pe_callD D__law_bag hr rfl T.g__law_bag (pa_cons (pv 0) pa_nil)))
 (pss_cons (ps_set (i := 2) sc_law.nd rfl (.inl rfl) (pe_callD D__law_names hr rfl T.g__law_names (pa_cons (pv 1) (pa_cons (pe_callD D__law_many hr rfl T.g__law_many (pa_cons (pv 1) (pa_cons pe_int pa_nil))) pa_nil))))
 (pss_cons (ps_set (i := 3) sc_law.nd rfl (.inl rfl) (pe_callD D__law_take hr rfl T.g__law_take (pa_cons (pv 1) (pa_cons pe_int pa_nil))))
 (pss_cons (ps_set (i := 4) sc_law.nd rfl (.inl rfl) (pe_dnewK))
 (pss_cons (ps_for PassesOwn.never rfl (pi_listK K (pv 2)) (pg_name (i := 5) sc_law.nd rfl (.inl rfl) (.inl rfl))
 (pss_one (ps_dput (hu_of hr) (pv 4) (pv 5) (pe_callD D__law_take hr rfl T.g__law_take (pa_cons (pv 1) (pa_cons (pe_op op_add pe_int (pv 3)) pa_nil))) rfl)))
 (pss_cons (ps_set (i := 6) sc_law.nd rfl (.inl rfl) (pe_callD D__law_struck hr rfl T.g__law_struck (pa_cons (pv 1) (pa_cons (pe_callD D__law_pairs hr rfl T.g__law_pairs (pa_cons (pv 1) (pa_cons (pv 2) (pa_cons pe_int pa_nil)))) (pa_cons (pv 4) pa_nil)))))
 (pss_cons (ps_set (i := 7) sc_law.nd rfl (.inr rfl) (pe_op op_add pe_int (pe_callD D__law_take hr rfl T.g__law_take (pa_cons (pv 1) (pa_cons pe_int pa_nil)))))
 (pss_cons (ps_set (i := 8) sc_law.nd rfl (.inl rfl) (pe_callD D__law_bench hr rfl T.g__law_bench (pa_cons (pv 2) (pa_cons (pv 6) (pa_cons pe_int pa_nil)))))
 (pss_cons (ps_set (i := 9) sc_law.nd rfl (.inl rfl) (pe_callD D__law_bench hr rfl T.g__law_bench (pa_cons (pv 2) (pa_cons (pe_lc (own := [("_law_a", 10), ("_law_b", 11), ("_law_count", 12)]) (tt := tYes) rfl sc_law.nd (pi_listK K (pv 6)) (blkOk_by (own := [("_law_a", 10), ("_law_b", 11), ("_law_count", 12)]) (N := ["_law_script", "_law_bag_here", "_law_names_here", "_law_wide", "_law_level", "_law_name_here", "_law_strikes", "_law_factor", "_law_bench_here", "_law_other", "_law_a", "_law_b", "_law_count", "_law_rows_here", "_law_due", "_law_row_here", "_law_pitch", "_law_told"]) (sc := (defScope s_law)) (by decide +kernel)) (fun _ _ _ _ _ => (pg_tupK K 3 rfl (pgs_cons (pg_name (i := 10) sc_law.nd rfl (Or.inl rfl) (.inr rfl)) (pgs_cons (pg_name (i := 11) sc_law.nd rfl (Or.inl rfl) (.inr rfl)) (pgs_cons (pg_name (i := 12) sc_law.nd rfl (Or.inl rfl) (.inr rfl)) pgs_nil))))) (fun _ _ _ _ _ => pts_nil) (fun _ _ _ _ _ => (pe_tup (pa_cons (pv 10) (pa_cons (pv 11) (pa_cons (pe_op op_mul (pv 12) (pv 7)) pa_nil)))))) (pa_cons pe_int pa_nil)))))
 (pss_cons (ps_set (i := 13) sc_law.nd rfl (.inl rfl) (pe_callD D__law_pitches hr rfl T.g__law_pitches (pa_cons (pv 8) pa_nil)))
 (pss_cons (ps_setLc (i := 14) (own := [("_law_row_here", 15)]) (tt := tYes) rfl sc_law.nd rfl rfl (sw_true rfl rfl rfl (by decide +kernel)) (pi_listK K (pv 13)) (blkOk_by (own := [("_law_row_here", 15)]) (N := ["_law_script", "_law_bag_here", "_law_names_here", "_law_wide", "_law_level", "_law_name_here", "_law_strikes", "_law_factor", "_law_bench_here", "_law_other", "_law_a", "_law_b", "_law_count", "_law_rows_here", "_law_due", "_law_row_here", "_law_pitch", "_law_told"]) (sc := (defScope s_law)) (by decide +kernel)) (fun _ _ _ _ _ => (pg_name (i := 15) sc_law.nd rfl (Or.inl rfl) (.inr rfl))) (fun _ _ _ _ _ => pts_nil) (fun _ _ _ _ _ => (pe_callTy (tuple_ofK K) (by rfl) T.b_tuple (by decide +kernel) (pa_cons (pe_lc (own := [("_law_pitch", 16)]) (tt := tYes) rfl sc_law.nd (pi_tupK K (pv 15)) (blkOk_by (own := [("_law_pitch", 16)]) (N := ["_law_script", "_law_bag_here", "_law_names_here", "_law_wide", "_law_level", "_law_name_here", "_law_strikes", "_law_factor", "_law_bench_here", "_law_other", "_law_a", "_law_b", "_law_count", "_law_rows_here", "_law_due", "_law_row_here", "_law_pitch", "_law_told"]) rfl) (fun _ _ _ _ _ => (pg_name (i := 16) sc_law.nd rfl (Or.inl rfl) (.inr rfl))) (fun _ _ _ _ _ => pts_nil) (fun _ _ _ _ _ => (pe_op op_mul (pv 16) (pv 7)))) pa_nil))))
 (pss_cons (ps_if (PW.pt (pw_or (pt_not (pt_val (pe_callD D__law_rows hr rfl T.g__law_rows (pa_cons (pe_callD D__law_pitches hr rfl T.g__law_pitches (pa_cons (pv 9) pa_nil)) (pa_cons (pv 14) pa_nil))))) (pw_or1 (pt_cmpR op_ne (pe_callD D_count_shapes hr rfl T.g_count_shapes (pa_cons (pv 9) pa_nil)) (pe_callD D_count_shapes hr rfl T.g_count_shapes (pa_cons (pv 8) pa_nil)) (nomark _)))))
 (pss_one (ps_ret pe_bl)) pss_nil)
 (pss_cons (ps_if (pt_cmpR (op_neD hr.units) (pe_callD D_block_counts hr rfl T.g_block_counts (pa_cons (pv 9) pa_nil)) (pe_callD D_block_counts hr rfl T.g_block_counts (pa_cons (pv 8) pa_nil)) (nomark _))
 (pss_one (ps_ret pe_bl)) pss_nil)
 (pss_cons (ps_if (pt_cmpR (op_eqD hr.units) (pv 13) (pe_lst pa_nil) (nomark _))
 (pss_one (ps_ret (pe_cmpR op_eq (pe_callD D_count_fittings hr rfl T.g_count_fittings (pa_cons (pv 9) pa_nil)) pe_int (nomark _)))) pss_nil)
 (pss_one (ps_ret (pe_cmpR (op_eqD hr.units) (pe_callD D_sure_beats hr rfl T.g_sure_beats (pa_cons (pv 9) pa_nil)) (pe_lc (own := [("_law_a", 10), ("_law_b", 11), ("_law_told", 17)]) (tt := tYes) rfl sc_law.nd (pi_listK K (pe_callD D_sure_beats hr rfl T.g_sure_beats (pa_cons (pv 8) pa_nil))) (blkOk_by (own := [("_law_a", 10), ("_law_b", 11), ("_law_told", 17)]) (N := ["_law_script", "_law_bag_here", "_law_names_here", "_law_wide", "_law_level", "_law_name_here", "_law_strikes", "_law_factor", "_law_bench_here", "_law_other", "_law_a", "_law_b", "_law_count", "_law_rows_here", "_law_due", "_law_row_here", "_law_pitch", "_law_told"]) (sc := (defScope s_law)) (by decide +kernel)) (fun _ _ _ _ _ => (pg_tupK K 3 rfl (pgs_cons (pg_name (i := 10) sc_law.nd rfl (Or.inl rfl) (.inr rfl)) (pgs_cons (pg_name (i := 11) sc_law.nd rfl (Or.inl rfl) (.inr rfl)) (pgs_cons (pg_name (i := 17) sc_law.nd rfl (Or.inl rfl) (.inr rfl)) pgs_nil))))) (fun _ _ _ _ _ => pts_nil) (fun _ _ _ _ _ => (pe_tup (pa_cons (pv 10) (pa_cons (pv 11) (pa_cons (pe_op op_mul (pv 17) (pv 7)) pa_nil)))))) (nomark _))))))))))))))))))), ?_⟩
  refine ⟨_, rfl, a, ns, rfl, hS, hlen, fun b H1 cl cs e1 nb hb1 => ?_⟩
  refine ⟨_, rfl, _, rfl, b, cl, cs, 5, rfl, hb1, by decide, by decide, fun c H2 b2 hb2 c1 c5 => ⟨b, cl, cs, c.toNat, ?_, hb2, by omega, fun p names H3 b3 hb3 np hp hnl hnd hok => ?_⟩⟩
  · show [V.ref b, V.int c] = [V.ref b, V.int (c.toNat : Int)]
    rw [Int.toNat_of_nonneg (by omega)]
  refine ⟨_, rfl, b, cl, cs, _, rfl, hb3, by decide, by decide, fun wd H4 b4 hb4 w0 w1 d nd => ?_⟩
  have hpb : p ≠ b := (hb2.ne np).1.symm
  have hp4 := b4 _ _ hpb hp
  have e5 := L2.Same.new nd (o := .dK [])
  have hd5 : upd H4 d (.dK []) d = some (.dK []) := upd_same
  have hb5 := hb4.same e5
  have hp5 := e5 _ _ hp4
  have hpd : p ≠ d := ne_of_none hp4 nd
  obtain ⟨hbd, hcd⟩ := hb4.ne nd
  dsimp only [gName]
  generalize upd H4 d (.dK []) = H5 at e5 hd5 hb5 hp5 ⊢
  refine ⟨_, rfl, p, rfl, ⟨_, SqL.of hp5⟩, ?_⟩
  refine for_it (walk_list (xs := names.map V.str)) (fun i σ H' => (∃ c5, σ = [some (.ref a), some (.ref b), some (.ref p), some (.int wd), some (.ref d), c5, none, none, none, none, none, none, none, none, none, none, none, none]) ∧ BagC H' b cl cs ∧ H' p = some (.lst (names.map V.str)) ∧
      ∃ kvs : List (Key × V), H' d = some (.dK kvs) ∧ kvs.length ≤ i ∧ ∀ z ∈ names.take i, ∃ j : Int, valV kvs (Sum.inr z) = some (.int j) ∧ 0 ≤ j ∧ j ≤ 100)
    ⟨⟨_, rfl⟩, hb5, hp5, [], hd5, Nat.le_refl _, fun z hz => by simp at hz⟩ (fun i σ H' _ q => SqL.of q.2.2.1) (fun i y σ H6 H7 hi hPv hy => ?_) fun σ H6 hPv => ?_
  · obtain ⟨⟨c5, rfl⟩, hb6, hp6, kvs, hd6, hkl, hkv⟩ := hPv
    obtain ⟨rfl, hy⟩ := hy
    obtain ⟨z, hz, rfl⟩ := get_map hy
    have hil : i < names.length := (List.getElem?_eq_some_iff.mp hz).1
    refine ⟨_, rfl, _, rfl, _, _, rfl, rfl, b, cl, cs, _, rfl, hb6, by omega, by omega, fun v H8 b8 hb8 v0 v1 => ?_⟩
    have hd8 := b8 _ _ (Ne.symm hbd) hd6
    refine ⟨_, rfl, _, rfl, d, _, rfl, DPut.k (k := .inr z) hd8 (by rw [sizeLine_eq]; omega), ⟨_, rfl⟩, hb8.but But.put hbd hcd, ?_, _, upd_same, ?_, fun y hy => ?_⟩
    · rw [upd_ne hpd]; exact b8 _ _ hpb hp6
    · have := length_putK kvs (Sum.inr z : Key) (V.int v)
      omega
    · rw [valV_put]
      by_cases e : (Sum.inr y : Key) = Sum.inr z
      · rw [if_pos e]
        exact ⟨v, rfl, v0, by omega⟩
      · rw [if_neg e]
        rw [take_s hz] at hy
        rcases List.mem_append.mp hy with q | q
        · exact hkv y q
        · simp at q
          exact absurd (by rw [q]) e
  obtain ⟨⟨c5, rfl⟩, hb6, hp6, kvs, hd6, hkl, hkv⟩ := hPv
  rw [List.length_map, List.take_length] at hkv
  have hnl5 : names.length ≤ 5 := by omega
  have hne : names ≠ [] := fun z => by rw [z] at hnl; simp at hnl; omega
  refine ⟨_, rfl, _, rfl, _, rfl, b, cl, p, cs, names, 2, rfl, hb6, hpb, hp6, hnd, by omega, by decide, fun pp ps H7 b7 hb7 npp hpp hpl hpok => ⟨_, rfl, b, cl, pp, d, cs, names, ps, kvs, rfl, hb7, ?_, hpp, b7 _ _ (Ne.symm hbd) hd6, hkv, hpok, by omega, fun sl S H8 b8 hb8 nsl hsl hSl hSo => ?_⟩⟩
  · exact (hb6.ne npp).1.symm
  refine ⟨_, rfl, b, cl, cs, _, rfl, hb8, by decide, by decide, fun f H9 b9 hb9 f0 f1 => ⟨_, _, rfl, rfl, ?_⟩⟩
  have hslb : sl ≠ b := (hb7.ne nsl).1.symm
  have hp9 := b9 _ _ hpb (b8 _ _ hpb (b7 _ _ hpb hp6))
  have hsl9 := hsl.but b9 hb8.nl.1 hb8.nl.2 hslb
  have hk : ∃ k : Int, k = 1 + f := ⟨_, rfl⟩
  obtain ⟨k, hk⟩ := hk
  have k0 : 1 ≤ k := by omega
  have k1 : k ≤ 20 := by omega
  dsimp only [gName]
  rw [← hk]
  clear hk
  have hkp : (0 : Int) < k := by omega
  have hO := bok_str hne hnd (by omega) hok hSo (by omega)
  have hO2 := bok_scale hO hSo k0 k1
  refine ⟨_, rfl, _, rfl, p, sl, names, S, rfl, hp9, hsl9, hO, fun x np1 H10 e10 nx hx => ?_⟩
  have hp10 := e10 _ _ hp9
  obtain ⟨ts, hsl10, hts10⟩ := hsl9.same e10
  refine ⟨_, rfl, _, rfl, sl, rfl, ⟨_, SqL.of hsl10⟩, fun D hD => ?_⟩
  refine lc_scale k (SqL.of hsl10) hts10 hD (by omega) (fun _ _ _ => rfl) (fun s H2 Q q => ?_) fun H11 e11 hD11 => ?_
  · exact ⟨_, rfl, _, rfl, _, rfl, _, rfl, _, _, rfl, rfl, .inr ⟨by omega, by omega⟩, by show 3 ≤ sizeLine; decide, fun t nt => q t nt⟩
  refine ⟨p, D, names, S.map (sS k), rfl, e11 _ _ hp10, hD11, hO2, fun x2 np2 H12 e12 nx2 hx2 => ?_⟩
  have hx12 := hx.same (e11.trans e12)
  refine ⟨_, rfl, x, names, S, np1, rfl, hx12, hO, fun rp rts H13 e13 nrp hrp hrows => ?_⟩
  have hfl := fit_len hO
  have hrtl := hrows.length
  have hrow : ∀ r ∈ fitM names S, r.length = names.length := fun r hr => fit_row hr
  -- the rows due
  refine ⟨_, rfl, rp, rfl, ⟨_, SqL.of hrp⟩, fun E hE => ?_⟩
  refine lc_objs (β := List Int) (fun H t r => SqT K H t (r.map V.int)) (fun H H' t b e z => e.tup z) (fun H H' p xs t b e hp z => e.tup (nl hp).1 (nl hp).2 z) (walk_list (xs := rts.map V.ref)) hE (by rw [List.length_map]; omega) ((fitM names S).map (sR k)) (by rw [List.length_map, List.length_map, hrtl]) (fun H5 e5 => SqL.of (e5 _ _ hrp)) (fun i y H5 H6 r hr5 e5 hy Z hZ => ?_) fun H14 dts e14 hE14 hdts => ?_
  · obtain ⟨rfl, hy⟩ := hy
    obtain ⟨t, ht, rfl⟩ := get_map hy
    obtain ⟨r0, hr0, hat⟩ := hrows.get ht
    rw [List.getElem?_map, hr0] at hr5
    cases (Option.some.inj hr5)
    have hat5 := e5.tup hat
    have hrl := hrow _ (List.mem_of_getElem? hr0)
    refine hZ _ _ rfl (L2.Same.refl _) fun Q q => ?_
    refine ⟨_, rfl, t, rfl, ⟨_, hat5⟩, fun D2 hD2 => ?_⟩
    refine lc_opt (walk_tup (xs := r0.map V.int)) hD2 (by rw [List.length_map]; omega) (fun i => r0[i]?.map fun z => V.int (z * k)) (fun H7 e7 => e7.tup hat5) (fun i y H7 H8 hi e7 hy => ?_) tm_yes gm_name fun H7 e7 hD7 => ?_
    · obtain ⟨rfl, hy⟩ := hy
      obtain ⟨z, hz, rfl⟩ := get_map hy
      refine ⟨rfl, L2.Same.refl _, L2.Same.refl _, ?_, fun v hv Q q => ?_⟩
      · show true = (r0[i]?.map fun z => V.int (z * k)).isSome
        rw [hz]; rfl
      · have hv : (r0[i]?.map fun z => V.int (z * k)) = some v := hv
        rw [hz] at hv
        cases hv
        exact ⟨_, rfl, _, rfl, _, _, rfl, rfl, .inr ⟨by omega, by omega⟩, q _ (L2.Same.refl _)⟩
    · rw [List.length_map, range_all r0 (fun z => V.int (z * k)) (Nat.le_refl _)] at hD7
      refine ⟨D2, _, rfl, .inl ⟨SqL.of hD7, fun l nl => q l _ (e7.trans (L2.Same.new nl)) (SqT.of ?_)⟩⟩
      rw [upd_same]
      unfold sR
      rw [List.map_map]
      rfl
  -- the rows of the other
  have hx2_14 := hx2.same (e13.trans e14)
  have hx14 := hx12.same (e13.trans e14)
  have hrp14 := e14 _ _ hrp
  refine ⟨_, rfl, x2, names, S.map (sS k), np2, rfl, hx2_14, hO2, fun op ots H15 e15 nop hop horows => ?_⟩
  rw [fit_s hkp] at horows
  refine ⟨_, rfl, op, E, ots, dts, (fitM names S).map (sR k), rfl, hop, horows, e15 _ _ hE14, hdts.imp fun _ _ _ z => e15.tup z, ?_, by rw [List.length_map]; omega, fun H16 e16 => ?_⟩
  · intro r hr
    obtain ⟨q, hq, rfl⟩ := List.mem_map.mp hr
    unfold sR
    rw [List.length_map, hrow q hq]
    omega
  have hx2_16 := hx2_14.same (e15.trans e16)
  have hx16 := hx14.same (e15.trans e16)
  -- the shapes
  refine ⟨_, rfl, iteF ⟨_, rfl, x2, names, S.map (sS k), np2, rfl, hx2_16, hO2, fun H17 e17 => ⟨_, rfl, x, names, S, np1, rfl, hx16.same e17, hO, fun H18 e18 => ⟨rfl, _, rfl, ?_⟩⟩⟩⟩
  rw [fit_s hkp, show shapesM [] ((fitM names S).map (sR k)) = shapesM [] (fitM names S) from shapes_s hkp _ [], decide_eq_true rfl]
  refine iteF ?_
  have e618 := e17.trans e18
  have hx2_18 := hx2_16.same e618
  have hx18 := hx16.same e618
  -- the blocks
  refine ⟨_, rfl, x2, names, S.map (sS k), np2, rfl, hx2_18, hO2, fun q1 H19 e19 nq1 hq1 => ⟨_, rfl, x, names, S, np1, rfl, hx18.same e19, hO, fun q2 H20 e20 nq2 hq2 => ?_⟩⟩
  rw [bcounts_s hkp] at hq1
  refine ⟨.list ((bcountsM names S).map PyData.int), .list ((bcountsM names S).map PyData.int), .lst (SqL.of (e20 _ _ hq1)) (dp_ints _), .lst (SqL.of hq2) (dp_ints _), sh_lst _, sh_lst _, _, rfl, ?_⟩
  rw [PyData.eqv, eqv_ints, decide_eq_true rfl]
  refine iteF ?_
  have e1820 := e19.trans e20
  have hx2_20 := hx2_18.same e1820
  have hx20 := hx18.same e1820
  have e1420 := ((e15.trans e16).trans e618).trans e1820
  have hrp20 := e1420 _ _ hrp14
  have hrows20 : RowsAt K H20 rts (fitM names S) := hrows.imp fun _ _ _ z => (e14.trans e1420).tup z
  -- no fitting
  refine ⟨_, rfl, Nat.zero_le _, fun l nl => ?_⟩
  have e21 := L2.Same.new nl (o := .lst [])
  have hl21 : upd H20 l (.lst []) l = some (.lst []) := upd_same
  generalize upd H20 l (.lst []) = H21 at e21 hl21 ⊢
  refine ⟨.list ((fitM names S).map dRow), .list [], .lst (SqL.of (e21 _ _ hrp20)) (dp_rows (hrows20.imp fun _ _ _ z => e21.tup z)), .lst (SqL.of hl21) .nil, sh_rows _, sh_rows [], _, rfl, ?_⟩
  rw [eqv_rows0]
  have hx2_21 := hx2_20.same e21
  have hx21 := hx20.same e21
  refine iteB (fun h0 => ?_) fun h0 => ?_
  · refine ⟨_, rfl, x2, names, S.map (sS k), np2, rfl, hx2_21, hO2, fun H22 e22 => ⟨rfl, ?_⟩⟩
    rw [fit_s hkp, h0]
    exact hQ _
  have h64 := fit_32 hO hnl5
  have h64b : (fitM names (S.map (sS k))).length < 64 := by rw [fit_s hkp, List.length_map]; exact h64
  have hneb : fitM names (S.map (sS k)) ≠ [] := by
    rw [fit_s hkp]
    exact fun z => h0 (List.map_eq_nil_iff.mp z)
  have hpm := pairs_mem (names := names) (Ps := piecesM names S)
  have hplen := pairs_len (names := names) (Ps := piecesM names S) (by omega)
  refine ⟨_, rfl, x2, names, S.map (sS k), np2, rfl, hx2_21, hO2, hneb, h64b, fun u H22 e22 nu hu => ?_⟩
  rw [fit_s hkp, pieces_s, sure_s hkp] at hu
  refine ⟨_, rfl, x, names, S, np1, rfl, hx21.same e22, hO, h0, h64, fun v H23 e23 nv hv => ?_⟩
  have hsm := sure_mem (rows := fitM names S) hpm
  have hsl2 := sure_len (names := names) (rows := fitM names S) hplen
  generalize sureM names (fitM names S) (pairsM names (piecesM names S)) = U at hu hv hsm hsl2
  obtain ⟨vts, hv, hvt⟩ := hv
  refine ⟨v, rfl, ⟨_, SqL.of hv⟩, fun D3 hD3 => ?_⟩
  refine lc_scale k (SqL.of hv) hvt hD3 (by omega) (fun _ _ _ => rfl) (fun s H2 Q q => ?_) fun H24 e24 hD24 => ?_
  · exact ⟨_, rfl, _, rfl, _, rfl, _, rfl, _, _, rfl, rfl, .inr ⟨by omega, by omega⟩, by show 3 ≤ sizeLine; decide, fun t nt => q t nt⟩
  obtain ⟨uts, hu, hut⟩ := hu.same (e23.trans e24)
  obtain ⟨dts2, hd24, hdt⟩ := hD24
  have hstr : ∀ s ∈ U.map (sS k), PyData.strOk s.1 = true ∧ PyData.strOk s.2.1 = true := fun s hs => by
    obtain ⟨t, ht, rfl⟩ := List.mem_map.mp hs
    exact ⟨okn_str (hok _ (hsm t ht).1), okn_str (hok _ (hsm t ht).2)⟩
  refine ⟨.list ((U.map (sS k)).map dTr), .list ((U.map (sS k)).map dTr), .lst (SqL.of hu) (dp_trip hut), .lst (SqL.of hd24) (dp_trip hdt), sh_trip _ hstr, sh_trip _ hstr, ?_⟩
  rw [PyData.eqv, eqv_trip]
  exact hQ _
end
end FBQ
end
section
set_option Elab.async false
set_option linter.all false
set_option maxRecDepth 100000
set_option maxHeartbeats 0
/-! ### the head: all that the walks take, read off the module by a Hook -/
namespace FBH
open PySem PySem.Spec PyProof.Rows L2 FBQ
abbrev d_is_name : He.DefD := ⟨("is_name", none), "is_name", "is_name", defArgs s_is_name, defBody s_is_name, defScope s_is_name, [], []⟩
abbrev d_TuningU_initU : He.DefD := ⟨("Tuning", some "__init__"), "__init__", "Tuning.__init__", defArgs s_TuningU_initU, defBody s_TuningU_initU, defScope s_TuningU_initU, [], []⟩
abbrev d_Tuning_pitches : He.DefD := ⟨("Tuning", some "pitches"), "pitches", "Tuning.pitches", defArgs s_Tuning_pitches, defBody s_Tuning_pitches, defScope s_Tuning_pitches, [], []⟩
abbrev d_Tuning_beats : He.DefD := ⟨("Tuning", some "beats"), "beats", "Tuning.beats", defArgs s_Tuning_beats, defBody s_Tuning_beats, defScope s_Tuning_beats, [], []⟩
abbrev d_TuningU_getitemU : He.DefD := ⟨("Tuning", some "__getitem__"), "__getitem__", "Tuning.__getitem__", defArgs s_TuningU_getitemU, defBody s_TuningU_getitemU, defScope s_TuningU_getitemU, [], []⟩
abbrev d_TuningU_negU : He.DefD := ⟨("Tuning", some "__neg__"), "__neg__", "Tuning.__neg__", defArgs s_TuningU_negU, defBody s_TuningU_negU, defScope s_TuningU_negU, [], []⟩
abbrev d_reached_from : He.DefD := ⟨("reached_from", none), "reached_from", "reached_from", defArgs s_reached_from, defBody s_reached_from, defScope s_reached_from, [], []⟩
abbrev d_BenchU_initU : He.DefD := ⟨("Bench", some "__init__"), "__init__", "Bench.__init__", defArgs s_BenchU_initU, defBody s_BenchU_initU, defScope s_BenchU_initU, [.int 0], []⟩
abbrev d_Bench_enter : He.DefD := ⟨("Bench", some "enter"), "enter", "Bench.enter", defArgs s_Bench_enter, defBody s_Bench_enter, defScope s_Bench_enter, [], []⟩
abbrev d_Bench_add : He.DefD := ⟨("Bench", some "add"), "add", "Bench.add", defArgs s_Bench_add, defBody s_Bench_add, defScope s_Bench_add, [], []⟩
abbrev d_Bench_add_all : He.DefD := ⟨("Bench", some "add_all"), "add_all", "Bench.add_all", defArgs s_Bench_add_all, defBody s_Bench_add_all, defScope s_Bench_add_all, [], []⟩
abbrev d_Bench_strike : He.DefD := ⟨("Bench", some "strike"), "strike", "Bench.strike", defArgs s_Bench_strike, defBody s_Bench_strike, defScope s_Bench_strike, [], []⟩
abbrev d_Bench_check_pair : He.DefD := ⟨("Bench", some "check_pair"), "check_pair", "Bench.check_pair", defArgs s_Bench_check_pair, defBody s_Bench_check_pair, defScope s_Bench_check_pair, [], []⟩
abbrev d_Bench_check_fork : He.DefD := ⟨("Bench", some "check_fork"), "check_fork", "Bench.check_fork", defArgs s_Bench_check_fork, defBody s_Bench_check_fork, defScope s_Bench_check_fork, [], []⟩
abbrev d_Bench_forks : He.DefD := ⟨("Bench", some "forks"), "forks", "Bench.forks", defArgs s_Bench_forks, defBody s_Bench_forks, defScope s_Bench_forks, [], []⟩
abbrev d_Bench_strikes : He.DefD := ⟨("Bench", some "strikes"), "strikes", "Bench.strikes", defArgs s_Bench_strikes, defBody s_Bench_strikes, defScope s_Bench_strikes, [], []⟩
abbrev d_Bench_told : He.DefD := ⟨("Bench", some "told"), "told", "Bench.told", defArgs s_Bench_told, defBody s_Bench_told, defScope s_Bench_told, [], []⟩
abbrev d_pieces : He.DefD := ⟨("pieces", none), "pieces", "pieces", defArgs s_pieces, defBody s_pieces, defScope s_pieces, [], []⟩
abbrev d_BlocksU_initU : He.DefD := ⟨("Blocks", some "__init__"), "__init__", "Blocks.__init__", defArgs s_BlocksU_initU, defBody s_BlocksU_initU, defScope s_BlocksU_initU, [], []⟩
abbrev d_Blocks_visit : He.DefD := ⟨("Blocks", some "visit"), "visit", "Blocks.visit", defArgs s_Blocks_visit, defBody s_Blocks_visit, defScope s_Blocks_visit, [], []⟩
abbrev d_Blocks_close : He.DefD := ⟨("Blocks", some "close"), "close", "Blocks.close", defArgs s_Blocks_close, defBody s_Blocks_close, defScope s_Blocks_close, [], []⟩
abbrev d_blocks : He.DefD := ⟨("blocks", none), "blocks", "blocks", defArgs s_blocks, defBody s_blocks, defScope s_blocks, [], []⟩
abbrev d_block_forks : He.DefD := ⟨("block_forks", none), "block_forks", "block_forks", defArgs s_block_forks, defBody s_block_forks, defScope s_block_forks, [], []⟩
abbrev d_block_at : He.DefD := ⟨("block_at", none), "block_at", "block_at", defArgs s_block_at, defBody s_block_at, defScope s_block_at, [], []⟩
abbrev d_part : He.DefD := ⟨("part", none), "part", "part", defArgs s_part, defBody s_part, defScope s_part, [], []⟩
abbrev d_order_of_walking : He.DefD := ⟨("order_of_walking", none), "order_of_walking", "order_of_walking", defArgs s_order_of_walking, defBody s_order_of_walking, defScope s_order_of_walking, [], []⟩
abbrev d_ties : He.DefD := ⟨("ties", none), "ties", "ties", defArgs s_ties, defBody s_ties, defScope s_ties, [], []⟩
abbrev d_choices : He.DefD := ⟨("choices", none), "choices", "choices", defArgs s_choices, defBody s_choices, defScope s_choices, [], []⟩
abbrev d_levels : He.DefD := ⟨("levels", none), "levels", "levels", defArgs s_levels, defBody s_levels, defScope s_levels, [], []⟩
abbrev d_found_fittings : He.DefD := ⟨("found_fittings", none), "found_fittings", "found_fittings", defArgs s_found_fittings, defBody s_found_fittings, defScope s_found_fittings, [], []⟩
abbrev d_fittings : He.DefD := ⟨("fittings", none), "fittings", "fittings", defArgs s_fittings, defBody s_fittings, defScope s_fittings, [], []⟩
abbrev d_count_fittings : He.DefD := ⟨("count_fittings", none), "count_fittings", "count_fittings", defArgs s_count_fittings, defBody s_count_fittings, defScope s_count_fittings, [], []⟩
abbrev d_found_shapes : He.DefD := ⟨("found_shapes", none), "found_shapes", "found_shapes", defArgs s_found_shapes, defBody s_found_shapes, defScope s_found_shapes, [], []⟩
abbrev d_count_shapes : He.DefD := ⟨("count_shapes", none), "count_shapes", "count_shapes", defArgs s_count_shapes, defBody s_count_shapes, defScope s_count_shapes, [], []⟩
abbrev d_block_counts : He.DefD := ⟨("block_counts", none), "block_counts", "block_counts", defArgs s_block_counts, defBody s_block_counts, defScope s_block_counts, [], []⟩
abbrev d_some_fittings : He.DefD := ⟨("some_fittings", none), "some_fittings", "some_fittings", defArgs s_some_fittings, defBody s_some_fittings, defScope s_some_fittings, [], []⟩
abbrev d_ordered_pairs : He.DefD := ⟨("ordered_pairs", none), "ordered_pairs", "ordered_pairs", defArgs s_ordered_pairs, defBody s_ordered_pairs, defScope s_ordered_pairs, [], []⟩
abbrev d_sure_beats : He.DefD := ⟨("sure_beats", none), "sure_beats", "sure_beats", defArgs s_sure_beats, defBody s_sure_beats, defScope s_sure_beats, [], []⟩
abbrev d__law_bag : He.DefD := ⟨("_law_bag", none), "_law_bag", "_law_bag", defArgs s__law_bag, defBody s__law_bag, defScope s__law_bag, [], []⟩
abbrev d__law_mixed : He.DefD := ⟨("_law_mixed", none), "_law_mixed", "_law_mixed", defArgs s__law_mixed, defBody s__law_mixed, defScope s__law_mixed, [], []⟩
abbrev d__law_take : He.DefD := ⟨("_law_take", none), "_law_take", "_law_take", defArgs s__law_take, defBody s__law_take, defScope s__law_take, [], []⟩
abbrev d__law_name : He.DefD := ⟨("_law_name", none), "_law_name", "_law_name", defArgs s__law_name, defBody s__law_name, defScope s__law_name, [], []⟩
abbrev d__law_names : He.DefD := ⟨("_law_names", none), "_law_names", "_law_names", defArgs s__law_names, defBody s__law_names, defScope s__law_names, [], []⟩
abbrev d__law_is_int : He.DefD := ⟨("_law_is_int", none), "_law_is_int", "_law_is_int", defArgs s__law_is_int, defBody s__law_is_int, defScope s__law_is_int, [], []⟩
abbrev d__law_row : He.DefD := ⟨("_law_row", none), "_law_row", "_law_row", defArgs s__law_row, defBody s__law_row, defScope s__law_row, [], []⟩
abbrev d__law_rows : He.DefD := ⟨("_law_rows", none), "_law_rows", "_law_rows", defArgs s__law_rows, defBody s__law_rows, defScope s__law_rows, [], []⟩
abbrev d__law_some : He.DefD := ⟨("_law_some", none), "_law_some", "_law_some", defArgs s__law_some, defBody s__law_some, defScope s__law_some, [], []⟩
abbrev d__law_pairs : He.DefD := ⟨("_law_pairs", none), "_law_pairs", "_law_pairs", defArgs s__law_pairs, defBody s__law_pairs, defScope s__law_pairs, [], []⟩
abbrev d__law_struck : He.DefD := ⟨("_law_struck", none), "_law_struck", "_law_struck", defArgs s__law_struck, defBody s__law_struck, defScope s__law_struck, [], []⟩
abbrev d__law_many : He.DefD := ⟨("_law_many", none), "_law_many", "_law_many", defArgs s__law_many, defBody s__law_many, defScope s__law_many, [], []⟩
abbrev d__law_bench : He.DefD := ⟨("_law_bench", none), "_law_bench", "_law_bench", defArgs s__law_bench, defBody s__law_bench, defScope s__law_bench, [], []⟩
abbrev d__law_pitches : He.DefD := ⟨("_law_pitches", none), "_law_pitches", "_law_pitches", defArgs s__law_pitches, defBody s__law_pitches, defScope s__law_pitches, [], []⟩
abbrev d_law : He.DefD := ⟨("law", none), "law", "law", defArgs s_law, defBody s_law, defScope s_law, [], []⟩
def dfs : List He.DefD := [d_is_name, d_TuningU_initU, d_Tuning_pitches, d_Tuning_beats, d_TuningU_getitemU, d_TuningU_negU, d_reached_from, d_BenchU_initU, d_Bench_enter, d_Bench_add, d_Bench_add_all, d_Bench_strike, d_Bench_check_pair, d_Bench_check_fork, d_Bench_forks, d_Bench_strikes, d_Bench_told, d_pieces, d_BlocksU_initU, d_Blocks_visit, d_Blocks_close, d_blocks, d_block_forks, d_block_at, d_part, d_order_of_walking, d_ties, d_choices, d_levels, d_found_fittings, d_fittings, d_count_fittings, d_found_shapes, d_count_shapes, d_block_counts, d_some_fittings, d_ordered_pairs, d_sure_beats, d__law_bag, d__law_mixed, d__law_take, d__law_name, d__law_names, d__law_is_int, d__law_row, d__law_rows, d__law_some, d__law_pairs, d__law_struck, d__law_many, d__law_bench, d__law_pitches, d_law]
def fas : List He.Fa := [.free "len", .free "abs", .free "max", .free "min", .free "int", .free "range", .free "sorted", .free "set", .free "tuple", .free "list", .free "isinstance", .free "all", .free "enumerate", .free "bool", .glo "is_name", .glo "reached_from", .glo "pieces", .glo "blocks", .glo "block_forks", .glo "block_at", .glo "part", .glo "order_of_walking", .glo "ties", .glo "choices", .glo "levels", .glo "found_fittings", .glo "fittings", .glo "count_fittings", .glo "found_shapes", .glo "count_shapes", .glo "block_counts", .glo "some_fittings", .glo "ordered_pairs", .glo "sure_beats", .glo "_law_bag", .glo "_law_mixed", .glo "_law_take", .glo "_law_name", .glo "_law_names", .glo "_law_is_int", .glo "_law_row", .glo "_law_rows", .glo "_law_some", .glo "_law_pairs", .glo "_law_struck", .glo "_law_many", .glo "_law_bench", .glo "_law_pitches", .glo "law", .glo "Tuning", .glo "Bench", .glo "Blocks", .glo "Fact", .str "LETTERS" "abcdefghijklmnopqrstuvwxyz", .int "MOST_LETTERS" 12, .cls "Tuning", .mkr "Tuning", .cls "Bench", .mkr "Bench", .cls "Blocks", .mkr "Blocks", .meth "Tuning" "pitches", .meth "Tuning" "beats", .meth "Tuning" "__getitem__", .meth "Tuning" "__neg__", .meth "Bench" "enter", .meth "Bench" "add", .meth "Bench" "add_all", .meth "Bench" "strike", .meth "Bench" "check_pair", .meth "Bench" "check_fork", .meth "Bench" "forks", .meth "Bench" "strikes", .meth "Bench" "told", .meth "Blocks" "visit", .meth "Blocks" "close", .noat "Tuning" "level", .noat "Tuning" "name_row", .noat "Bench" "state", .noat "Bench" "past", .noat "Bench" "future", .noat "Blocks" "struck", .noat "Blocks" "order", .noat "Blocks" "low", .noat "Blocks" "stack", .noat "Blocks" "found"]
def cis : List (Str × Str × Int) := [("Bench", "MOST_FORKS", 10), ("Bench", "MOST_STRIKES", 20), ("Bench", "MOST_LIMIT", 3), ("Fact", "MOST_COUNT", 1000000000)]
def csN : List Str := ["Tuning", "Bench", "Blocks", "Fact"]
def dsN0 : List Str := ["is_name", "reached_from", "pieces", "blocks", "block_forks", "block_at", "part", "order_of_walking", "ties", "choices", "levels", "found_fittings", "fittings", "count_fittings"]
def dsN1 : List Str := ["found_shapes", "count_shapes", "block_counts", "some_fittings", "ordered_pairs", "sure_beats", "_law_bag", "_law_mixed", "_law_take", "_law_name", "_law_names", "_law_is_int", "_law_row", "_law_rows"]
def dsN2 : List Str := ["_law_some", "_law_pairs", "_law_struck", "_law_many", "_law_bench", "_law_pitches", "law"]
def dsN : List Str := dsN0 ++ (dsN1 ++ (dsN2))
abbrev R : PySem.W.OpenRow := PySem.W.OpenLaw.row PySem.Challenge.rw_forkbeats_k45_whole_counts_scaled
/-! a property's getter, ints of a class -/
def pAd (K : PySem.W.Frag) : Addr := He.ma K (He.ga K "Bench") "limit"
def gAd (K : PySem.W.Frag) : Addr := match PySem.W.recIn K (pAd K) "property" with
  | some (.ref g :: _) => g
  | _ => 0
def clI (K : PySem.W.Frag) (q : Str × Str × Int) : Bool := match PySem.W.findCls K (.ref (He.ga K q.1)) (.type "type") q.2.1 with
  | some (.val (.int j _)) => decide (j = q.2.2)
  | _ => false
def cint (K : PySem.W.Frag) (q : Str × Str × Int) : Bool := PySem.W.readsIn K (He.ga K q.1) (.type "type") && (He.eqO (PySem.W.specialIn K (.ref (He.ga K q.1)) "__getattribute__") (some (some (.builtin "type.__getattribute__"))) && clI K q)
theorem cint_ok {K : PySem.W.Frag} {q : Str × Str × Int} (h : cint K q = true) : CInt K (He.ga K q.1) q.2.1 q.2.2 := by
  obtain ⟨h1, h⟩ := He.ba h
  obtain ⟨h2, h3⟩ := He.ba h
  refine ⟨⟨h1, He.eqO_ok h2⟩, ?_⟩
  unfold clI at h3
  split at h3
  · rename_i j t e
    have := of_decide_eq_true h3
    subst this
    exact ⟨t, e, t, rfl⟩
  · cases h3
def limF (K : PySem.W.Frag) : He.FnW := match K.lookup (gAd K) with
  | some ⟨_, _, .func fd, _⟩ => some (fd.name, fd.qualname, fd.params, fd.body, fd.scope, fd.globals, fd.closure, fd.builtins)
  | _ => none
def limV : He.FnW := some ("limit", "Bench.limit", defArgs s_Bench_limit, .stmts (defBody s_Bench_limit), defScope s_Bench_limit, mainGlobals, [], builtinsNs)
def limC (K : PySem.W.Frag) : Bool := match K.lookup (gAd K) with
  | some ⟨_, _, .func fd, _⟩ => PySem.W.codeIn K fd.code "Bench.limit" && (He.dflB K fd.defaults [] && He.kwdB K fd.kwdefaults [])
  | _ => false
def limR (K : PySem.W.Frag) : Bool := match PySem.W.recIn K (pAd K) "property" with
  | some (.ref _ :: _) => true
  | _ => false
def limB (K : PySem.W.Frag) : Bool := He.eqO (PySem.W.findIn K (.ref (He.ga K "Bench")) "limit") (some (some (.ref (pAd K)))) && (He.eqO (PySem.W.specialIn K (.ref (pAd K)) "__get__") (some (some (.builtin "property.__get__"))) && (decide (PySem.W.takesIn K (.ref (pAd K)) = some true) && (limR K && (PySem.W.keepIn K (.ref (gAd K)) && limC K))))
theorem lim_ok {K : PySem.W.Frag} (h : limB K = true) (hv : limF K = limV) : ∃ p g, PropOf K (He.ga K "Bench") "limit" p g ∧ FD K "limit" "Bench.limit" s_Bench_limit [] g := by
  obtain ⟨h1, h⟩ := He.ba h
  obtain ⟨h2, h⟩ := He.ba h
  obtain ⟨h3, h⟩ := He.ba h
  obtain ⟨h4, h⟩ := He.ba h
  obtain ⟨h5, h6⟩ := He.ba h
  refine ⟨pAd K, gAd K, ⟨He.eqO_ok h1, He.eqO_ok h2, of_decide_eq_true h3, ?_⟩, ?_⟩
  · unfold limR at h4
    unfold gAd
    split at h4
    · rename_i g rest e
      exact ⟨rest, by rw [e]⟩
    · cases h4
  · unfold limF at hv
    unfold limC at h6
    split at h6
    · rename_i oc od fd osl e
      rw [e] at hv
      obtain ⟨k1, k2⟩ := He.ba h6
      obtain ⟨k3, k4⟩ := He.ba k2
      have hv : (some (fd.name, fd.qualname, fd.params, fd.body, fd.scope, fd.globals, fd.closure, fd.builtins) : He.FnW) = limV := hv
      obtain ⟨a1, a2, a3, a4, a5, a6, a7, a8, a9, a10, a11, a12, a13, a14, a15⟩ := fd
      unfold limV at hv
      simp only [Option.some.injEq, Prod.mk.injEq] at hv
      obtain ⟨rfl, rfl, rfl, rfl, rfl, rfl, rfl, rfl⟩ := hv
      exact ⟨_, ⟨oc, od, a8, a9, a10, a11, a12, a13, a14, osl, rfl, e, k1, He.dflB_ok k3, He.kwdB_ok k4⟩, h5⟩
    · cases h6
/-! the Hook: the facts are read off the objects that these names reach -/
def entAt (g : Addr → Option Obj) (d : Addr) (x : Str) : List Addr := match g d with
  | some ⟨_, _, .dict es _, _⟩ => (match es.toList.find? (fun e => e.key.isStr x) with
    | some e => He.refV e.val
    | none => [])
  | _ => []
def fnAs (g : Addr → Option Obj) (a : Addr) : List Addr := match g a with
  | some ⟨_, _, .func fd, _⟩ => a :: (He.refV fd.code ++ He.refV fd.defaults)
  | _ => [a]
def fnBs (g : Addr → Option Obj) (a : Addr) : List Addr := match g a with
  | some ⟨_, _, .fields vs, _⟩ => a :: vs.toList.flatMap fun v => (He.refV v).flatMap (fnAs g)
  | _ => fnAs g a
def clsAs (g : Addr → Option Obj) (a : Addr) : List Addr := match g a with
  | some ⟨_, _, .cls cd, _⟩ => a :: cd.ns :: (match g cd.ns with
    | some ⟨_, _, .dict es _, _⟩ => es.toList.flatMap fun e => (He.refV e.val).flatMap (fnBs g)
    | _ => [])
  | _ => [a]
def asOf (g : Addr → Option Obj) : List Addr :=
  mainGlobals :: cStatics :: ((csN.flatMap fun x => (entAt g mainGlobals x).flatMap (clsAs g)) ++ dsN.flatMap fun x => (entAt g mainGlobals x).flatMap (fnAs g))
abbrev AlF : Type := He.AlD × Bool × Bool × He.FnW
def obsF (K : PySem.W.Frag) : AlF := (He.obsD fas dfs K, cis.all (cint K), limB K, limF K)
def valF : AlF := (He.valD dfs, true, true, limV)
def Says (K : PySem.W.Frag) : Prop := obsF K = valF
section
variable {K : PySem.W.Frag}
theorem Says.d (c : Says K) : He.SaysD fas dfs K := congrArg (fun z : AlF => z.1) c
theorem Says.ci (c : Says K) : cis.all (cint K) = true := congrArg (fun z : AlF => z.2.1) c
theorem Says.lm (c : Says K) : limB K = true := congrArg (fun z : AlF => z.2.2.1) c
theorem Says.lv (c : Says K) : limF K = limV := congrArg (fun z : AlF => z.2.2.2) c
theorem Says.fa (c : Says K) (i : Nat) {f : He.Fa} (h : fas[i]? = some f := by rfl) : f.ok K = true := c.d.fact i h
theorem Says.df (c : Says K) (i : Nat) {d : He.DefD} (h : dfs[i]? = some d := by rfl) : ∃ fd, FunD K d.name d.qual d.params d.body d.scope (d.dvs K) (d.kws K) (He.fAd K d.at_) fd := c.d.def_ i h
end
theorem fn_of {K : PySem.W.Frag} {d : He.DefD} (h : ∃ fd, FunD K d.name d.qual d.params d.body d.scope (d.dvs K) (d.kws K) (He.fAd K d.at_) fd) : PySem.W.fnIn K (He.fAd K d.at_) = true := by
  obtain ⟨_, F⟩ := h
  obtain ⟨_, _, _, _, _, _, _, _, _, _, _, lk, _⟩ := F.ex
  unfold PySem.W.fnIn
  rw [lk]
abbrev hk : PySem.W.Hook where
  α := AlF
  obs := fun s => obsF (He.frG s.heap.get? (asOf s.heap.get?))
  val := fun _ => valF
  says := fun _ h => ∃ K : PySem.W.Frag, K.In h ∧ Says K
  of := fun _ _ e => ⟨_, He.frG_in, e⟩
  keeps := fun _ _ _ ⟨K, hK, c⟩ k => ⟨K, PySem.W.Frag.In.keeps hK k, c⟩
def ob (s : PySem.W.SharedT) : AlF := obsF (He.frG (HandSHeadRun.getT s) (asOf (HandSHeadRun.getT s)))
theorem ob_eq (s : PySem.W.SharedT) : ob s = hk.obs s.abs := by
  have e : HandSHeadRun.getT s = s.abs.heap.get? := funext (HandSHeadRun.getT_eq s)
  unfold ob
  rw [e]


theorem tx_of {K : PySem.W.Frag} {h : Heap} {mg : Str → Option Value} (X : K.In h) (G : h.Ns mainGlobals mg) (c : Says K) : Tx K mg where
  b_len := He.free_ok X G (c.fa 0)
  b_abs := He.free_ok X G (c.fa 1)
  b_max := He.free_ok X G (c.fa 2)
  b_min := He.free_ok X G (c.fa 3)
  b_int := He.free_ok X G (c.fa 4)
  b_range := He.free_ok X G (c.fa 5)
  b_sorted := He.free_ok X G (c.fa 6)
  b_set := He.free_ok X G (c.fa 7)
  b_tuple := He.free_ok X G (c.fa 8)
  b_list := He.free_ok X G (c.fa 9)
  b_isinstance := He.free_ok X G (c.fa 10)
  b_all := He.free_ok X G (c.fa 11)
  b_enumerate := He.free_ok X G (c.fa 12)
  b_bool := He.free_ok X G (c.fa 13)
  g_is_name := He.glo_ok X G (c.fa 14)
  g_reached_from := He.glo_ok X G (c.fa 15)
  g_pieces := He.glo_ok X G (c.fa 16)
  g_blocks := He.glo_ok X G (c.fa 17)
  g_block_forks := He.glo_ok X G (c.fa 18)
  g_block_at := He.glo_ok X G (c.fa 19)
  g_part := He.glo_ok X G (c.fa 20)
  g_order_of_walking := He.glo_ok X G (c.fa 21)
  g_ties := He.glo_ok X G (c.fa 22)
  g_choices := He.glo_ok X G (c.fa 23)
  g_levels := He.glo_ok X G (c.fa 24)
  g_found_fittings := He.glo_ok X G (c.fa 25)
  g_fittings := He.glo_ok X G (c.fa 26)
  g_count_fittings := He.glo_ok X G (c.fa 27)
  g_found_shapes := He.glo_ok X G (c.fa 28)
  g_count_shapes := He.glo_ok X G (c.fa 29)
  g_block_counts := He.glo_ok X G (c.fa 30)
  g_some_fittings := He.glo_ok X G (c.fa 31)
  g_ordered_pairs := He.glo_ok X G (c.fa 32)
  g_sure_beats := He.glo_ok X G (c.fa 33)
  g__law_bag := He.glo_ok X G (c.fa 34)
  g__law_mixed := He.glo_ok X G (c.fa 35)
  g__law_take := He.glo_ok X G (c.fa 36)
  g__law_name := He.glo_ok X G (c.fa 37)
  g__law_names := He.glo_ok X G (c.fa 38)
  g__law_is_int := He.glo_ok X G (c.fa 39)
  g__law_row := He.glo_ok X G (c.fa 40)
  g__law_rows := He.glo_ok X G (c.fa 41)
  g__law_some := He.glo_ok X G (c.fa 42)
  g__law_pairs := He.glo_ok X G (c.fa 43)
  g__law_struck := He.glo_ok X G (c.fa 44)
  g__law_many := He.glo_ok X G (c.fa 45)
  g__law_bench := He.glo_ok X G (c.fa 46)
  g__law_pitches := He.glo_ok X G (c.fa 47)
  g_law := He.glo_ok X G (c.fa 48)
  g_Tuning := He.glo_ok X G (c.fa 49)
  g_Bench := He.glo_ok X G (c.fa 50)
  g_Blocks := He.glo_ok X G (c.fa 51)
  g_Fact := He.glo_ok X G (c.fa 52)
  c_LETTERS := He.str_ok X G (c.fa 53)
  c_MOST_LETTERS := He.int_ok X G (c.fa 54)
  cl_Tuning := He.cls_ok (c.fa 55)
  mk_Tuning := He.mkr_ok (c.fa 56)
  cl_Bench := He.cls_ok (c.fa 57)
  mk_Bench := He.mkr_ok (c.fa 58)
  cl_Blocks := He.cls_ok (c.fa 59)
  mk_Blocks := He.mkr_ok (c.fa 60)
  m_Tuning_pitches := He.meth_ok (c.fa 61)
  m_Tuning_beats := He.meth_ok (c.fa 62)
  m_Tuning___getitem__ := He.meth_ok (c.fa 63)
  m_Tuning___neg__ := He.meth_ok (c.fa 64)
  m_Bench_enter := He.meth_ok (c.fa 65)
  m_Bench_add := He.meth_ok (c.fa 66)
  m_Bench_add_all := He.meth_ok (c.fa 67)
  m_Bench_strike := He.meth_ok (c.fa 68)
  m_Bench_check_pair := He.meth_ok (c.fa 69)
  m_Bench_check_fork := He.meth_ok (c.fa 70)
  m_Bench_forks := He.meth_ok (c.fa 71)
  m_Bench_strikes := He.meth_ok (c.fa 72)
  m_Bench_told := He.meth_ok (c.fa 73)
  m_Blocks_visit := He.meth_ok (c.fa 74)
  m_Blocks_close := He.meth_ok (c.fa 75)
  a_Tuning_level := He.noat_ok (c.fa 76)
  a_Tuning_name_row := He.noat_ok (c.fa 77)
  a_Bench_state := He.noat_ok (c.fa 78)
  a_Bench_past := He.noat_ok (c.fa 79)
  a_Bench_future := He.noat_ok (c.fa 80)
  a_Blocks_struck := He.noat_ok (c.fa 81)
  a_Blocks_order := He.noat_ok (c.fa 82)
  a_Blocks_low := He.noat_ok (c.fa 83)
  a_Blocks_stack := He.noat_ok (c.fa 84)
  a_Blocks_found := He.noat_ok (c.fa 85)
  k_Bench_MOST_FORKS := cint_ok (List.all_eq_true.mp c.ci ("Bench", "MOST_FORKS", 10) (by simp [cis]))
  k_Bench_MOST_STRIKES := cint_ok (List.all_eq_true.mp c.ci ("Bench", "MOST_STRIKES", 20) (by simp [cis]))
  k_Bench_MOST_LIMIT := cint_ok (List.all_eq_true.mp c.ci ("Bench", "MOST_LIMIT", 3) (by simp [cis]))
  k_Fact_MOST_COUNT := cint_ok (List.all_eq_true.mp c.ci ("Fact", "MOST_COUNT", 1000000000) (by simp [cis]))
  ex_limit := lim_ok c.lm c.lv
  f_is_name := c.df 0 (d := d_is_name)
  f_TuningU_initU := c.df 1 (d := d_TuningU_initU)
  f_Tuning_pitches := c.df 2 (d := d_Tuning_pitches)
  f_Tuning_beats := c.df 3 (d := d_Tuning_beats)
  f_TuningU_getitemU := c.df 4 (d := d_TuningU_getitemU)
  f_TuningU_negU := c.df 5 (d := d_TuningU_negU)
  f_reached_from := c.df 6 (d := d_reached_from)
  f_BenchU_initU := c.df 7 (d := d_BenchU_initU)
  f_Bench_enter := c.df 8 (d := d_Bench_enter)
  f_Bench_add := c.df 9 (d := d_Bench_add)
  f_Bench_add_all := c.df 10 (d := d_Bench_add_all)
  f_Bench_strike := c.df 11 (d := d_Bench_strike)
  f_Bench_check_pair := c.df 12 (d := d_Bench_check_pair)
  f_Bench_check_fork := c.df 13 (d := d_Bench_check_fork)
  f_Bench_forks := c.df 14 (d := d_Bench_forks)
  f_Bench_strikes := c.df 15 (d := d_Bench_strikes)
  f_Bench_told := c.df 16 (d := d_Bench_told)
  f_pieces := c.df 17 (d := d_pieces)
  f_BlocksU_initU := c.df 18 (d := d_BlocksU_initU)
  f_Blocks_visit := c.df 19 (d := d_Blocks_visit)
  f_Blocks_close := c.df 20 (d := d_Blocks_close)
  f_blocks := c.df 21 (d := d_blocks)
  f_block_forks := c.df 22 (d := d_block_forks)
  f_block_at := c.df 23 (d := d_block_at)
  f_part := c.df 24 (d := d_part)
  f_order_of_walking := c.df 25 (d := d_order_of_walking)
  f_ties := c.df 26 (d := d_ties)
  f_choices := c.df 27 (d := d_choices)
  f_levels := c.df 28 (d := d_levels)
  f_found_fittings := c.df 29 (d := d_found_fittings)
  f_fittings := c.df 30 (d := d_fittings)
  f_count_fittings := c.df 31 (d := d_count_fittings)
  f_found_shapes := c.df 32 (d := d_found_shapes)
  f_count_shapes := c.df 33 (d := d_count_shapes)
  f_block_counts := c.df 34 (d := d_block_counts)
  f_some_fittings := c.df 35 (d := d_some_fittings)
  f_ordered_pairs := c.df 36 (d := d_ordered_pairs)
  f_sure_beats := c.df 37 (d := d_sure_beats)
  f__law_bag := c.df 38 (d := d__law_bag)
  f__law_mixed := c.df 39 (d := d__law_mixed)
  f__law_take := c.df 40 (d := d__law_take)
  f__law_name := c.df 41 (d := d__law_name)
  f__law_names := c.df 42 (d := d__law_names)
  f__law_is_int := c.df 43 (d := d__law_is_int)
  f__law_row := c.df 44 (d := d__law_row)
  f__law_rows := c.df 45 (d := d__law_rows)
  f__law_some := c.df 46 (d := d__law_some)
  f__law_pairs := c.df 47 (d := d__law_pairs)
  f__law_struck := c.df 48 (d := d__law_struck)
  f__law_many := c.df 49 (d := d__law_many)
  f__law_bench := c.df 50 (d := d__law_bench)
  f__law_pitches := c.df 51 (d := d__law_pitches)
  f_law := c.df 52 (d := d_law)
  n_Tuning___getitem__ := fn_of (c.df 4 (d := d_TuningU_getitemU))
end FBH
end
set_option Elab.async false
set_option linter.all false
set_option maxRecDepth 100000
set_option maxHeartbeats 0
namespace FBH
open PySem PySem.Spec PyProof.Rows L2 FBQ
def names1 : List Str := ["_wall", "ForkError", "BadName", "UnknownFork", "RepeatedFork", "BadCount", "BadLimit", "BadWord", "BadText", "TooDeep", "TooMany", "Apart", "Clash", "NoBlock", "NoFitting", "LETTERS"]
def names2 : List Str := ["DIGITS", "MOST_LETTERS", "MOST_FIGURES", "is_name", "is_number", "read_pitch", "Tuning", "without_duplicates", "Fact", "deeper", "Not", "Both", "Either", "reached_from", "Bench", "pieces"]
def names3 : List Str := ["Blocks", "blocks", "block_forks", "block_at", "part", "order_of_walking", "ties", "choices", "levels", "found_fittings", "fittings", "count_fittings", "found_shapes", "count_shapes", "block_counts", "some_fittings"]
def names4 : List Str := ["ordered_pairs", "sure_beats", "_law_bag", "_law_mixed", "_law_take", "_law_name", "_law_names", "_law_is_int", "_law_row", "_law_rows", "_law_some", "_law_pairs", "_law_struck", "_law_many", "_law_bench", "_law_pitches"]
def names : List Str := names1 ++ (names2 ++ (names3 ++ names4))
theorem run (w : World) : HandSHeadRun.RunEq R (PySem.W.view R.prog [72]) hk ob 9000 names w := by
  intro os
  kernel_rfl
theorem facts {P : Program} {w : World} {K : PySem.W.Frag} {h : Heap} {mg : Str → Option Value} {f : Addr} (X : K.In h) (G : h.Ns mainGlobals mg) (hf : mg ("law" : Str) = some (.ref f)) (c : Says K) :
    ∃ fd : FuncData, (∀ (s : Shared) (v : Value), BindsTo s fd ⟨[v], []⟩ [("_law_script", v)]) ∧ ∀ base : Heap, K.In base → base.Ns mainGlobals mg → FnOk P w K mg base CX0 20 f fd ["_law_script"] (spLaw K) := by
  have T := tx_of X G c
  obtain ⟨fd, F⟩ := T.f_law
  cases hf.symm.trans T.g_law
  have b := FunD.bindsA (ps := ["_law_script"]) F fun _ _ _ _ _ _ us hl => match us, hl with | [_], _ => rfl
  exact ⟨fd, fun s v => b s [v] rfl, fun base _ _ => ok_law T F⟩
end FBH
open PySem PySem.W PySem.Calls PyProof.Rows
theorem PySem.Challenge.cw_forkbeats_k45_whole_counts_scaled_holds : PySem.Challenge.rw_forkbeats_k45_whole_counts_scaled.Holds := by
  w_on; o_law
  refine HandSHeadRun.head_any (r := FBH.R) (q := view FBH.R.prog [72]) (H := FBH.hk) (ob := FBH.ob) (M := 9000) (loose := FBH.names) (d := HandSHeadRun.topDef FBH.R.prog 72) (kwd := []) FBH.ob_eq
    (by kernel_rfl) (fun s => by kernel_rfl) FBH.run (by kernel_rfl) (by kernel_rfl) (by kernel_rfl) (by rfl) (by first | assumption | decide +kernel) (by decide +kernel) ⟨rfl, rfl, rfl, rfl, rfl, by decide +kernel⟩ ?hw ?hc
  case hw => w_witness2
  case hc =>
    refine L2.walk_ofE (l := PySem.Challenge.rw_forkbeats_k45_whole_counts_scaled) (n := 63) (k := 20) (x := "_law_script") (CX := L2.CX0) rfl (by decide) (by kernel_rfl) ⟨rfl, by decide, by decide⟩ ?F (fun _ _ _ _ z => z)
    intro w mg f h Y G hmg0
    obtain ⟨K, KX, c⟩ := Y
    have hmg : mg ("law" : PySem.Str) = some (.ref f) := by
      have e : (HandSHeadRun.topDef FBH.R.prog 72).name = ("law" : PySem.Str) := by kernel_rfl
      rw [← e]
      exact hmg0
    obtain ⟨fd, hb, hF⟩ := FBH.facts (P := (PySem.Challenge.rw_forkbeats_k45_whole_counts_scaled).prog) (w := w) KX G hmg c
    exact ⟨K, fd, FBQ.spLaw K, KX, hb, fun H a ns hl _ hS => ⟨a, ns, rfl, hS, hl, fun _ => rfl⟩, hF⟩

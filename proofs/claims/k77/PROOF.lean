import PyProof.Rows.All
import Wide.All
import OpenK.AllK
import Wide.FinOn
import KE.KStateDown
import Lean
import HandS.ForMost
import HandS.WordsExc
import HandS.Defaults
import HandS.Style
import HandS.Flow
import HandS.IsInst
import HandS.Conv
import HandS.TupAny
import HandS.DictComp
import HandS.SortOrd
import HandS.SortKw
import HandS.SetKeys
import HandS.TupSets
import HandS.RaiseMore
import HandS.Head0
import HandS.Head1
import HandS.Head2
import HandS.HeadEnd
import HandS.HeadHook1
import HandS.HeadHook2
import KE.KDictKeyed
import KE.KSortRegAny
import PySem.Challenge.RW_faxhouse_k77_whole_sureness_by_all_lines
import HandS.Set
import HandS.SetFor
import HandS.Strs
import KE.GoesEnum
import HandS.Walk
/-! K77M: the plain law. What the package's functions compute (mirrors), and that it is what the law asks. No program in sight. -/
set_option linter.all false
namespace K77

/-! ### data -/
/-- dots: true is black -/
abbrev Dots := List Bool
inductive Mode where
  | stay (d : Int)
  | pass
  | runs (n m : Nat)
  deriving DecidableEq
/-- a state: place, colour, whether something is told, what is known of the line ahead from the place on -/
structure S where
  pl : Nat
  co : Bool
  to : Bool
  kn : Dots
  deriving DecidableEq

/-! ### tables -/
section
variable {κ : Type} [DecidableEq κ] {β : Type}
def look (d : List (κ × Nat)) (k : κ) : Nat := ((d.find? fun p => decide (p.1 = k)).map (·.2)).getD 0
def put (d : List (κ × β)) (k : κ) (v : β) : List (κ × β) :=
  if (d.any fun p => decide (p.1 = k)) = true then d.map (fun p => if p.1 = k then (p.1, v) else p) else d ++ [(k, v)]
def add (d : List (κ × Nat)) (k : κ) (n : Nat) : List (κ × Nat) := put d k (look d k + n)
def ins (d : List κ) (k : κ) : List κ := if k ∈ d then d else d ++ [k]
end

/-! ### the reading of a line beside another -/
/-- how many dots stand ahead of the first change from c, where prev stands ahead of them -/
def scan (c : Bool) : Bool → Dots → Nat
  | _, [] => 0
  | prev, d :: ds => if prev = c ∧ d ≠ c then 0 else scan c d ds + 1
def seek (c : Bool) : Dots → Nat
  | [] => 0
  | d :: ds => if d = c then 0 else seek c ds + 1
/-- the change, counted from the place; x is the line ahead from the place on -/
def chg (c t : Bool) (x : Dots) : Nat := if t = true then (match x with | [] => 0 | d :: ds => scan c d ds + 1) else scan c false x
def back (c : Bool) (x : Dots) (j : Nat) : Nat := j + 1 + seek c (x.drop (j + 1))
def stepR (m : Mode) (c t : Bool) (x : Dots) : Option (Nat × Bool) :=
  match m with
  | .runs n k => if n + k > x.length ∨ (n = 0 ∧ t = true) ∨ (k = 0 ∧ n < x.length) then none else some (n + k, c)
  | .pass => if chg c t x < x.length then some (back c x (chg c t x), c) else none
  | .stay d => if (chg c t x : Int) + d > x.length ∨ (chg c t x : Int) + d < 0 ∨ ((chg c t x : Int) + d ≤ 0 ∧ t = true) then none else some (((chg c t x : Int) + d).toNat, !c)
/-- the dots that a mode tells that goes on by e -/
def toldBy (m : Mode) (e : Nat) (c : Bool) : Dots :=
  match m with
  | .runs n k => List.replicate n c ++ List.replicate k (!c)
  | _ => List.replicate e c
def run : List Mode → Bool → Bool → Dots → Option Dots
  | [], _, _, x => if x = [] then some [] else none
  | m :: ms, c, t, x => if x = [] then none else
    match stepR m c t x with
    | none => none
    | some (e, c') => (run ms c' true (x.drop e)).map (toldBy m e c ++ ·)
/-- the line that a telling tells beside x -/
def rd (x : Dots) (ms : List Mode) : Option Dots := run ms false false x

/-! ### the package's search -/
abbrev Chg := Nat × Dots × Dots × Nat
def dotsAt (rest : Dots) : Dots := match rest with
  | [] => [false, true]
  | d :: _ => [d]
def last (w : Dots) : Bool := w.getLast?.getD false
def last4 (w : Dots) : Dots := w.drop (w.length - 4)
abbrev Acc := List Chg × List (Dots × Nat)
def dotTurn (c : Bool) (h : Nat) (rest w : Dots) (n : Nat) (a : Acc) (d : Bool) : Acc :=
  if last w = c ∧ d ≠ c then (a.1 ++ [(h, last4 (w ++ [d]), rest.tail, n)], a.2) else (a.1, add a.2 (last4 (w ++ [d])) n)
def winTurn (c : Bool) (h : Nat) (rest : Dots) (a : Acc) (p : Dots × Nat) : Acc := (dotsAt rest).foldl (dotTurn c h rest p.1 p.2) a
def chLoop (c : Bool) : Nat → Nat → List (Dots × Nat) → Dots → List Chg → Acc
  | 0, _, ways, _, found => (found, ways)
  | n + 1, h, ways, rest, found => chLoop c n (h + 1) (ways.foldl (winTurn c h rest) (found, [])).2 rest.tail (ways.foldl (winTurn c h rest) (found, [])).1
def begun (p : Nat) (t : Bool) (k : Dots) : List Dots × Dots × Nat :=
  if t = true then (match k with
    | d :: r => ([[d]], r, p + 1)
    | [] => ([[false], [true]], [], p + 1)) else ([[]], k, p)
def changes (w p : Nat) (c t : Bool) (k : Dots) : List Chg :=
  (chLoop c (w - (begun p t k).2.2) (begun p t k).2.2 ((begun p t k).1.map (·, 1)) (begun p t k).2.1 []).1 ++
  (chLoop c (w - (begun p t k).2.2) (begun p t k).2.2 ((begun p t k).1.map (·, 1)) (begun p t k).2.1 []).2.map fun x => (w, x.1, [], x.2)
def backs (w : Nat) (c : Bool) : Nat → Nat → Dots → List (Nat × Dots)
  | 0, _, _ => [(w, [])]
  | n + 1, h, [] => (h, [c]) :: backs w c n (h + 1) []
  | n + 1, h, d :: r => if d = c then [(h, c :: r)] else backs w c n (h + 1) r
def skipped (w p : Nat) (k : Dots) (e : Nat) : Dots × Nat := if e - p ≤ k.length then (k.drop (e - p), 1) else ([], 2 ^ (min e w - (p + k.length)))
def stayOf (w p : Nat) (t : Bool) (more : Int) (x : Chg) : List (Nat × Dots × Nat) :=
  if 0 ≤ (x.1 : Int) + more ∧ (x.1 : Int) + more ≤ w ∧ ((x.1 : Int) + more > p ∨ t = false) then
    if ((x.1 : Int) + more).toNat ≤ min (x.1 + 1) w then
      [(((x.1 : Int) + more).toNat, x.2.1.drop (x.2.1.length - (min (x.1 + 1) w - ((x.1 : Int) + more).toNat)) ++ x.2.2.1, x.2.2.2)]
    else [(((x.1 : Int) + more).toNat, (skipped w (x.1 + 1) x.2.2.1 ((x.1 : Int) + more).toNat).1, x.2.2.2 * (skipped w (x.1 + 1) x.2.2.1 ((x.1 : Int) + more).toNat).2)]
  else []
def passOf (w : Nat) (c : Bool) (x : Chg) : List (Nat × Dots × Nat) :=
  if x.1 < w then (backs w c (w - (x.1 + 1)) (x.1 + 1) x.2.2.1).map fun b => (b.1, b.2, x.2.2.2) else []
def endsOf (w : Nat) (s : S) (m : Mode) : List (Nat × Dots × Nat) :=
  match m with
  | .runs n k => if s.pl + n + k > w ∨ (n = 0 ∧ s.to = true) ∨ (k = 0 ∧ s.pl + n < w) then [] else
      [(s.pl + n + k, (skipped w s.pl s.kn (s.pl + n + k)).1, (skipped w s.pl s.kn (s.pl + n + k)).2)]
  | .stay d => (changes w s.pl s.co s.to s.kn).flatMap (stayOf w s.pl s.to d)
  | .pass => (changes w s.pl s.co s.to s.kn).flatMap (passOf w s.co)
def lastCo (m : Mode) (c : Bool) : Bool := match m with
  | .stay _ => !c
  | _ => c
abbrev Nx := S × Dots × Nat
def nexts (w : Nat) (s : S) (m : Mode) : List Nx :=
  if s.pl ≥ w then [] else (endsOf w s m).map fun e => (⟨e.1, lastCo m s.co, true, e.2.1⟩, toldBy m (e.1 - s.pl) s.co, e.2.2)
/-- the dots of a line from a place to another one -/
def cut (l : Dots) (a b : Nat) : Dots := (l.take b).drop a
def fits (line : Option Dots) (a b : Nat) (ds : Dots) : Bool := match line with
  | none => true
  | some l => decide (cut l a b = ds)
def nxTurn (line : Option Dots) (s : S) (n : Nat) (fr : List (S × Nat)) (x : Nx) : List (S × Nat) :=
  if fits line s.pl x.1.pl x.2.1 = true then add fr x.1 (n * x.2.2) else fr
def wayTurn (w : Nat) (line : Option Dots) (m : Mode) (fr : List (S × Nat)) (p : S × Nat) : List (S × Nat) := (nexts w p.1 m).foldl (nxTurn line p.1 p.2) fr
def waysOf (w : Nat) (line : Option Dots) (ms : List Mode) : List (S × Nat) := ms.foldl (fun ways m => ways.foldl (wayTurn w line m) []) [(⟨0, false, false, []⟩, 1)]
def manyBy (w : Nat) (ms : List Mode) (line : Option Dots) : Nat := (((waysOf w line ms).filter fun p => decide (p.1.pl = w)).map (·.2)).sum

/-! ### sums over all lines of a width that begin with what is known -/
def T : Nat → Dots → (Dots → Nat) → Nat
  | 0, _, f => f []
  | n + 1, [], f => T n [] (fun x => f (false :: x)) + T n [] (fun x => f (true :: x))
  | n + 1, d :: k, f => T n k (fun x => f (d :: x))
theorem T_congr : ∀ (n : Nat) (k : Dots) {f g : Dots → Nat}, (∀ x, x.length = n → f x = g x) → T n k f = T n k g
  | 0, _, _, _, h => h [] rfl
  | n + 1, [], f, g, h => by
    show T n [] (fun x => f (false :: x)) + T n [] (fun x => f (true :: x)) = T n [] (fun x => g (false :: x)) + T n [] (fun x => g (true :: x))
    rw [T_congr n [] (f := fun x => f (false :: x)) fun x e => h (false :: x) (by rw [List.length_cons, e]), T_congr n [] (f := fun x => f (true :: x)) fun x e => h (true :: x) (by rw [List.length_cons, e])]
  | n + 1, d :: k, f, g, h => T_congr n k fun x e => h (d :: x) (by rw [List.length_cons, e])
theorem T_add : ∀ (n : Nat) (k : Dots) (f g : Dots → Nat), T n k (fun x => f x + g x) = T n k f + T n k g
  | 0, _, _, _ => rfl
  | n + 1, [], f, g => by
    show T n [] (fun x => f (false :: x) + g (false :: x)) + T n [] (fun x => f (true :: x) + g (true :: x)) = (T n [] (fun x => f (false :: x)) + T n [] (fun x => f (true :: x))) + (T n [] (fun x => g (false :: x)) + T n [] (fun x => g (true :: x)))
    rw [T_add n [] (fun x => f (false :: x)), T_add n [] (fun x => f (true :: x))]
    omega
  | n + 1, d :: k, f, g => T_add n k _ _
theorem T_zero : ∀ (n : Nat) (k : Dots), T n k (fun _ => 0) = 0
  | 0, _ => rfl
  | n + 1, [] => by
    show T n [] (fun _ => 0) + T n [] (fun _ => 0) = 0
    rw [T_zero n []]
  | n + 1, _ :: k => T_zero n k
theorem T_mul (a : Nat) : ∀ (n : Nat) (k : Dots) (f : Dots → Nat), T n k (fun x => a * f x) = a * T n k f
  | 0, _, _ => rfl
  | n + 1, [], f => by
    show T n [] (fun x => a * f (false :: x)) + T n [] (fun x => a * f (true :: x)) = a * (T n [] (fun x => f (false :: x)) + T n [] (fun x => f (true :: x)))
    rw [T_mul a n [] (fun x => f (false :: x)), T_mul a n [] (fun x => f (true :: x)), Nat.mul_add]
  | n + 1, _ :: k, f => T_mul a n k _
theorem T_dots (n : Nat) (rest : Dots) (f : Dots → Nat) : T (n + 1) rest f = ((dotsAt rest).map fun d => T n rest.tail fun y => f (d :: y)).sum := by
  cases rest with
  | nil =>
    show _ + _ = _ + (_ + 0)
    rw [Nat.add_zero]
    rfl
  | cons d r =>
    show _ = _ + 0
    rw [Nat.add_zero]
    rfl
theorem T_app (n : Nat) (r : Dots) : ∀ (a : Dots) (f : Dots → Nat), T (a.length + n) (a ++ r) f = T n r fun y => f (a ++ y)
  | [], f => by
    show T (0 + n) r f = T n r f
    rw [Nat.zero_add]
  | d :: a, f => by
    have e : (d :: a).length + n = (a.length + n) + 1 := by
      rw [List.length_cons]
      omega
    rw [e]
    exact T_app n r a _
theorem T_skip : ∀ (j n : Nat) (k : Dots) (g : Dots → Nat), j ≤ k.length → j ≤ n → T n k (fun x => g (x.drop j)) = T (n - j) (k.drop j) g
  | 0, n, k, g, _, _ => rfl
  | j + 1, 0, k, g, _, h => by omega
  | j + 1, n + 1, [], g, h, _ => by
    rw [List.length_nil] at h
    omega
  | j + 1, n + 1, d :: k, g, h, h2 => by
    have ih := T_skip j n k g (by rw [List.length_cons] at h; omega) (by omega)
    rw [Nat.add_sub_add_right]
    exact ih
theorem T_free : ∀ (j n : Nat) (g : Dots → Nat), j ≤ n → T n [] (fun x => g (x.drop j)) = 2 ^ j * T (n - j) [] g
  | 0, n, g, _ => by
    show T n [] g = 1 * T n [] g
    rw [Nat.one_mul]
  | j + 1, 0, g, h => by omega
  | j + 1, n + 1, g, h => by
    have ih := T_free j n g (by omega)
    show T n [] (fun x => g (x.drop j)) + T n [] (fun x => g (x.drop j)) = _
    rw [ih, Nat.add_sub_add_right, Nat.pow_succ, Nat.mul_assoc, ← Nat.two_mul, Nat.mul_left_comm]
theorem T_over : ∀ (k : Dots) (j n : Nat) (g : Dots → Nat), k.length ≤ j → j ≤ n → T n k (fun x => g (x.drop j)) = 2 ^ (j - k.length) * T (n - j) [] g
  | [], j, n, g, _, h => T_free j n g h
  | d :: k, 0, n, g, h, _ => by
    rw [List.length_cons] at h
    omega
  | d :: k, j + 1, 0, g, _, h => by omega
  | d :: k, j + 1, n + 1, g, h, h2 => by
    have ih := T_over k j n g (by rw [List.length_cons] at h; omega) (by omega)
    rw [Nat.add_sub_add_right, List.length_cons, Nat.add_sub_add_right]
    exact ih
theorem T_le : ∀ (n : Nat) (k : Dots) (f : Dots → Nat), (∀ x, f x ≤ 1) → T n k f ≤ 2 ^ n
  | 0, _, f, h => h []
  | n + 1, [], f, h => by
    have h1 := T_le n [] (fun x => f (false :: x)) fun x => h _
    have h2 := T_le n [] (fun x => f (true :: x)) fun x => h _
    show _ + _ ≤ _
    rw [Nat.pow_succ]
    omega
  | n + 1, d :: k, f, h => by
    have h1 := T_le n k (fun x => f (d :: x)) fun x => h _
    show T n k _ ≤ _
    rw [Nat.pow_succ]
    omega
theorem T_one : ∀ (n : Nat) (k : Dots), 0 < T n k (fun _ => 1)
  | 0, _ => Nat.one_pos
  | n + 1, [] => by
    have h1 := T_one n []
    show 0 < T n [] (fun _ => 1) + T n [] (fun _ => 1)
    omega
  | n + 1, _ :: k => T_one n k
/-- what begins with k, as far as it goes -/
def Fits (k x : Dots) : Prop := x.take k.length = k.take x.length
theorem T_pos : ∀ (n : Nat) (k : Dots) (f : Dots → Nat), 0 < T n k f ↔ ∃ x, x.length = n ∧ Fits k x ∧ 0 < f x
  | 0, k, f => by
    constructor
    · intro h
      exact ⟨[], rfl, by simp [Fits], h⟩
    · rintro ⟨x, hx, _, h⟩
      have e : x = [] := List.eq_nil_of_length_eq_zero hx
      rw [e] at h
      exact h
  | n + 1, [], f => by
    have h1 := T_pos n [] (fun x => f (false :: x))
    have h2 := T_pos n [] (fun x => f (true :: x))
    constructor
    · intro h
      have h' : 0 < T n [] (fun x => f (false :: x)) ∨ 0 < T n [] (fun x => f (true :: x)) := by
        have : 0 < T n [] (fun x => f (false :: x)) + T n [] (fun x => f (true :: x)) := h
        omega
      rcases h' with h' | h'
      · obtain ⟨x, e, _, p⟩ := h1.mp h'
        exact ⟨false :: x, by rw [List.length_cons, e], by simp [Fits], p⟩
      · obtain ⟨x, e, _, p⟩ := h2.mp h'
        exact ⟨true :: x, by rw [List.length_cons, e], by simp [Fits], p⟩
    · rintro ⟨x, hx, _, h⟩
      show 0 < T n [] (fun x => f (false :: x)) + T n [] (fun x => f (true :: x))
      cases x with
      | nil => simp at hx
      | cons d x =>
        have hx' : x.length = n := by simpa using hx
        cases d with
        | false =>
          have := h1.mpr ⟨x, hx', by simp [Fits], h⟩
          omega
        | true =>
          have := h2.mpr ⟨x, hx', by simp [Fits], h⟩
          omega
  | n + 1, d :: k, f => by
    have ih := T_pos n k (fun x => f (d :: x))
    constructor
    · intro h
      obtain ⟨x, e, q, p⟩ := ih.mp h
      exact ⟨d :: x, by rw [List.length_cons, e], by simpa [Fits] using q, p⟩
    · rintro ⟨x, hx, q, h⟩
      cases x with
      | nil => simp at hx
      | cons d' x =>
        have hx' : x.length = n := by simpa using hx
        have q' : d' = d ∧ Fits k x := by simpa [Fits] using q
        obtain ⟨rfl, q'⟩ := q'
        exact ih.mpr ⟨x, hx', q', h⟩

/-! ### sums over lists -/
def sm {α : Type} (l : List α) (f : α → Nat) : Nat := (l.map f).sum
section
variable {α β : Type}
theorem sm_nil (f : α → Nat) : sm [] f = 0 := rfl
theorem sm_cons (x : α) (l : List α) (f : α → Nat) : sm (x :: l) f = f x + sm l f := by
  show ((x :: l).map f).sum = _
  rw [List.map_cons, List.sum_cons]
  rfl
theorem sm_app (a b : List α) (f : α → Nat) : sm (a ++ b) f = sm a f + sm b f := by
  unfold sm
  rw [List.map_append, List.sum_append]
theorem sm_one (x : α) (f : α → Nat) : sm [x] f = f x := by
  rw [sm_cons, sm_nil, Nat.add_zero]
theorem sm_map (l : List α) (g : α → β) (f : β → Nat) : sm (l.map g) f = sm l fun x => f (g x) := by
  unfold sm
  rw [List.map_map]
  rfl
theorem sm_flat (g : α → List β) (f : β → Nat) : ∀ l : List α, sm (l.flatMap g) f = sm l fun x => sm (g x) f
  | [] => rfl
  | x :: l => by rw [List.flatMap_cons, sm_app, sm_cons, sm_flat g f l]
theorem sm_congr {f g : α → Nat} : ∀ {l : List α}, (∀ x ∈ l, f x = g x) → sm l f = sm l g
  | [], _ => rfl
  | x :: l, h => by rw [sm_cons, sm_cons, h x List.mem_cons_self, sm_congr fun y hy => h y (List.mem_cons_of_mem _ hy)]
theorem sm_mul (a : Nat) (f : α → Nat) : ∀ l : List α, sm l (fun x => a * f x) = a * sm l f
  | [] => rfl
  | x :: l => by rw [sm_cons, sm_cons, sm_mul a f l, Nat.mul_add]
theorem sm_le {f : α → Nat} {x : α} : ∀ {l : List α}, x ∈ l → f x ≤ sm l f
  | y :: l, h => by
    rw [sm_cons]
    rcases List.mem_cons.mp h with rfl | h
    · omega
    · have := sm_le (f := f) h
      omega
theorem sm_pos {f : α → Nat} : ∀ {l : List α}, 0 < sm l f ↔ ∃ x ∈ l, 0 < f x
  | [] => by
    constructor
    · intro h
      rw [sm_nil] at h
      omega
    · rintro ⟨x, h, _⟩
      cases h
  | y :: l => by
    have ih := sm_pos (f := f) (l := l)
    rw [sm_cons]
    constructor
    · intro h
      by_cases h0 : 0 < f y
      · exact ⟨y, List.mem_cons_self, h0⟩
      · obtain ⟨x, hx, p⟩ := ih.mp (by omega)
        exact ⟨x, List.mem_cons_of_mem _ hx, p⟩
    · rintro ⟨x, hx, p⟩
      rcases List.mem_cons.mp hx with rfl | hx
      · omega
      · have := ih.mpr ⟨x, hx, p⟩
        omega
end

/-! ### tables: sums over them -/
section
variable {κ : Type} [DecidableEq κ] {β : Type}
theorem any_key (k : κ) : ∀ d : List (κ × β), (d.any fun p => decide (p.1 = k)) = true ↔ k ∈ d.map (·.1)
  | [] => by simp
  | p :: d => by
    rw [List.any_cons, List.map_cons, List.mem_cons, Bool.or_eq_true, any_key k d, decide_eq_true_iff]
    constructor
    · rintro (h | h)
      · exact .inl h.symm
      · exact .inr h
    · rintro (h | h)
      · exact .inl h.symm
      · exact .inr h
theorem keys_map (k : κ) (v : β) (d : List (κ × β)) : (d.map fun p => if p.1 = k then (p.1, v) else p).map (·.1) = d.map (·.1) := by
  rw [List.map_map]
  refine List.map_congr_left fun p _ => ?_
  show (if p.1 = k then (p.1, v) else p).1 = p.1
  split <;> rfl
theorem put_keys (d : List (κ × β)) (k : κ) (v : β) : (put d k v).map (·.1) = if k ∈ d.map (·.1) then d.map (·.1) else d.map (·.1) ++ [k] := by
  unfold put
  by_cases h : k ∈ d.map (·.1)
  · rw [if_pos ((any_key k d).mpr h), if_pos h, keys_map]
  · rw [if_neg (fun z => h ((any_key k d).mp z)), if_neg h, List.map_append]
    rfl
theorem put_nodup {d : List (κ × β)} (k : κ) (v : β) (h : (d.map (·.1)).Nodup) : ((put d k v).map (·.1)).Nodup := by
  rw [put_keys]
  split
  · exact h
  · rename_i hk
    rw [List.nodup_append]
    refine ⟨h, by simp, ?_⟩
    intro a ha b hb
    rw [List.mem_singleton] at hb
    intro e
    exact hk (hb ▸ e ▸ ha)
theorem put_mem {d : List (κ × β)} {k : κ} {v : β} {p : κ × β} (h : p ∈ put d k v) : p = (k, v) ∨ p ∈ d := by
  unfold put at h
  split at h
  · obtain ⟨q, hq, e⟩ := List.mem_map.mp h
    split at e
    · rename_i hk
      rw [← e, hk]
      exact .inl rfl
    · rw [← e]
      exact .inr hq
  · rcases List.mem_append.mp h with h | h
    · exact .inr h
    · exact .inl (List.mem_singleton.mp h)
theorem look_out {d : List (κ × Nat)} {k : κ} (h : k ∉ d.map (·.1)) : look d k = 0 := by
  unfold look
  have e : (d.find? fun p => decide (p.1 = k)) = none := by
    rw [List.find?_eq_none]
    intro p hp hk
    exact h (List.mem_map.mpr ⟨p, hp, of_decide_eq_true hk⟩)
  rw [e]
  rfl
theorem sm_add (g : κ → Nat) (k : κ) (n : Nat) : ∀ d : List (κ × Nat), (d.map (·.1)).Nodup → sm (add d k n) (fun p => p.2 * g p.1) = sm d (fun p => p.2 * g p.1) + n * g k := by
  intro d hd
  by_cases h : k ∈ d.map (·.1)
  · unfold add put
    rw [if_pos ((any_key k d).mpr h)]
    have key : ∀ (v : Nat) (d : List (κ × Nat)), (d.map (·.1)).Nodup → k ∈ d.map (·.1) → sm (d.map fun p => if p.1 = k then (p.1, look d k + v) else p) (fun p => p.2 * g p.1) = sm d (fun p => p.2 * g p.1) + v * g k := by
      intro v d
      induction d with
      | nil => intro _ h; simp at h
      | cons p d ih =>
        intro hn hk
        rw [List.map_cons, List.nodup_cons] at hn
        rw [List.map_cons, sm_cons, sm_cons]
        by_cases e : p.1 = k
        · have hl : look (p :: d) k = p.2 := by simp [look, e]
          have hr : (d.map fun q => if q.1 = k then (q.1, look (p :: d) k + v) else q) = d := by
            rw [List.map_congr_left (g := id)]
            · rw [List.map_id]
            · intro q hq
              rw [if_neg]
              · rfl
              · intro z
                exact hn.1 (by rw [e, ← z]; exact List.mem_map.mpr ⟨q, hq, rfl⟩)
          rw [hr, if_pos e, hl]
          dsimp only
          rw [e, Nat.add_mul]
          omega
        · have hk' : k ∈ d.map (·.1) := by
            rcases List.mem_cons.mp hk with z | z
            · exact absurd z.symm e
            · exact z
          have hl : look (p :: d) k = look d k := by simp [look, e]
          rw [hl, if_neg e, ih hn.2 hk']
          omega
    exact key n d hd h
  · unfold add put
    rw [if_neg (fun z => h ((any_key k d).mp z)), sm_app, sm_one, look_out h, Nat.zero_add]
end

/-! ### the windows -/
theorem last4_le (w : Dots) : (last4 w).length ≤ 4 := by
  unfold last4
  rw [List.length_drop]
  omega
theorem last4_self {w : Dots} (h : w.length ≤ 4) : last4 w = w := by
  unfold last4
  rw [show w.length - 4 = 0 by omega, List.drop_zero]
theorem last4_len (w : Dots) : (last4 w).length = min 4 w.length := by
  unfold last4
  rw [List.length_drop]
  omega
theorem last4_app (a b : Dots) : last4 (last4 a ++ b) = last4 (a ++ b) := by
  unfold last4
  rw [List.length_append, List.length_drop, List.length_append]
  by_cases h : a.length ≤ 4
  · rw [show a.length - 4 = 0 by omega, List.drop_zero, Nat.sub_zero]
  · have e : a = a.take (a.length - 4) ++ a.drop (a.length - 4) := (List.take_append_drop _ _).symm
    have e2 : a ++ b = a.take (a.length - 4) ++ (a.drop (a.length - 4) ++ b) := by rw [← List.append_assoc, ← e]
    rw [e2, List.drop_append (l₁ := a.take (a.length - 4)), List.drop_of_length_le (l := a.take (a.length - 4)), List.nil_append]
    · congr 1
      rw [List.length_take]
      omega
    · rw [List.length_take]
      omega
theorem last_snoc (w : Dots) (d : Bool) : last (w ++ [d]) = d := by
  unfold last
  rw [List.getLast?_append, List.getLast?_singleton]
  rfl
theorem last_last4 (w : Dots) (d : Bool) : last (last4 (w ++ [d])) = d := by
  unfold last4
  have e : (w ++ [d]).drop ((w ++ [d]).length - 4) = w.drop ((w ++ [d]).length - 4) ++ [d] := by
    rw [List.drop_append_of_le_length]
    rw [List.length_append, List.length_singleton]
    omega
  rw [e, last_snoc]
/-- the last r of what was read are the last r of the last four -/
theorem last4_drop (a : Dots) (r : Nat) (h : r ≤ 4) (h2 : r ≤ a.length) : (last4 a).drop ((last4 a).length - r) = a.drop (a.length - r) := by
  unfold last4
  rw [List.drop_drop, List.length_drop]
  congr 1
  omega

/-! ### the changes that can come, and in how many ways -/
abbrev FF := Nat → Dots → Dots → Nat
def scF (c : Bool) (F : FF) (h : Nat) (win y : Dots) : Nat := F (h + scan c (last win) y) (last4 (win ++ y.take (scan c (last win) y + 1))) (y.drop (scan c (last win) y + 1))
def valC (w : Nat) (F : FF) (x : Chg) : Nat := x.2.2.2 * T (w - (x.1 + 1)) x.2.2.1 (F x.1 x.2.1)
def valW (c : Bool) (F : FF) (n h : Nat) (rest : Dots) (p : Dots × Nat) : Nat := p.2 * T n rest (scF c F h p.1)
structure WayOk (a : List (Dots × Nat)) : Prop where
  nd : (a.map (·.1)).Nodup
  le : ∀ p ∈ a, p.1.length ≤ 4
theorem WayOk.add {a : List (Dots × Nat)} (o : WayOk a) {k : Dots} {n : Nat} (h : k.length ≤ 4) : WayOk (add a k n) :=
  ⟨put_nodup _ _ o.nd, fun p hp => by
    rcases put_mem hp with rfl | hp
    · exact h
    · exact o.le p hp⟩
theorem dotTurn_ok {c : Bool} {h : Nat} {rest w : Dots} {n : Nat} {a : Acc} {d : Bool} (o : WayOk a.2) : WayOk (dotTurn c h rest w n a d).2 := by
  unfold dotTurn
  split
  · exact o
  · exact o.add (last4_le _)
theorem scF_go {c : Bool} {F : FF} {h : Nat} {win y : Dots} {d : Bool} (e : ¬ (last win = c ∧ d ≠ c)) : scF c F h win (d :: y) = scF c F (h + 1) (last4 (win ++ [d])) y := by
  unfold scF
  have e1 : scan c (last win) (d :: y) = scan c d y + 1 := by
    show (if last win = c ∧ d ≠ c then 0 else scan c d y + 1) = _
    rw [if_neg e]
  rw [e1, last_last4, last4_app, List.take_succ_cons, List.drop_succ_cons, List.append_assoc, List.singleton_append]
  congr 1
  omega
theorem scF_stop {c : Bool} {F : FF} {h : Nat} {win y : Dots} {d : Bool} (e : last win = c ∧ d ≠ c) : scF c F h win (d :: y) = F h (last4 (win ++ [d])) y := by
  unfold scF
  have e1 : scan c (last win) (d :: y) = 0 := by
    show (if last win = c ∧ d ≠ c then 0 else scan c d y + 1) = _
    rw [if_pos e]
  rw [e1]
  rfl
section
variable {w : Nat} {c : Bool} {F : FF} {n h : Nat} {rest : Dots}
theorem dotTurn_sum {win : Dots} {cnt : Nat} {a : Acc} {d : Bool} (o : WayOk a.2) (hn : n = w - (h + 1)) :
    sm (dotTurn c h rest win cnt a d).1 (valC w F) + sm (dotTurn c h rest win cnt a d).2 (valW c F n (h + 1) rest.tail) =
      sm a.1 (valC w F) + sm a.2 (valW c F n (h + 1) rest.tail) + cnt * T n rest.tail fun y => scF c F h win (d :: y) := by
  unfold dotTurn
  by_cases e : last win = c ∧ d ≠ c
  · rw [if_pos e]
    dsimp only
    rw [sm_app, sm_one]
    have e1 : valC w F (h, last4 (win ++ [d]), rest.tail, cnt) = cnt * T n rest.tail fun y => scF c F h win (d :: y) := by
      unfold valC
      dsimp only
      rw [← hn]
      congr 1
      exact T_congr _ _ fun y _ => (scF_stop e).symm
    rw [e1]
    omega
  · rw [if_neg e]
    dsimp only
    have e1 : sm (add a.2 (last4 (win ++ [d])) cnt) (valW c F n (h + 1) rest.tail) = sm a.2 (valW c F n (h + 1) rest.tail) + cnt * T n rest.tail (scF c F (h + 1) (last4 (win ++ [d]))) :=
      sm_add (fun k => T n rest.tail (scF c F (h + 1) k)) _ _ _ o.nd
    have e2 : (T n rest.tail fun y => scF c F h win (d :: y)) = T n rest.tail (scF c F (h + 1) (last4 (win ++ [d]))) := T_congr n rest.tail fun y _ => scF_go e
    rw [e1, e2]
    omega
theorem dots_sum {win : Dots} {cnt : Nat} (hn : n = w - (h + 1)) : ∀ (ds : List Bool) (a : Acc), WayOk a.2 →
    WayOk (ds.foldl (dotTurn c h rest win cnt) a).2 ∧
    sm (ds.foldl (dotTurn c h rest win cnt) a).1 (valC w F) + sm (ds.foldl (dotTurn c h rest win cnt) a).2 (valW c F n (h + 1) rest.tail) =
      sm a.1 (valC w F) + sm a.2 (valW c F n (h + 1) rest.tail) + cnt * (ds.map fun d => T n rest.tail fun y => scF c F h win (d :: y)).sum
  | [], a, o => ⟨o, by simp⟩
  | d :: ds, a, o => by
    obtain ⟨o2, e⟩ := dots_sum hn ds (dotTurn c h rest win cnt a d) (dotTurn_ok o)
    refine ⟨o2, ?_⟩
    rw [List.foldl_cons, e, dotTurn_sum o hn, List.map_cons, List.sum_cons, Nat.mul_add]
    omega
theorem wins_sum (hn : n = w - (h + 1)) : ∀ (ps : List (Dots × Nat)) (a : Acc), WayOk a.2 →
    WayOk (ps.foldl (winTurn c h rest) a).2 ∧
    sm (ps.foldl (winTurn c h rest) a).1 (valC w F) + sm (ps.foldl (winTurn c h rest) a).2 (valW c F n (h + 1) rest.tail) =
      sm a.1 (valC w F) + sm a.2 (valW c F n (h + 1) rest.tail) + sm ps (valW c F (n + 1) h rest)
  | [], a, o => ⟨o, by simp [sm_nil]⟩
  | p :: ps, a, o => by
    obtain ⟨o1, e1⟩ := dots_sum (F := F) (rest := rest) (win := p.1) (cnt := p.2) hn (dotsAt rest) a o
    obtain ⟨o2, e2⟩ := wins_sum hn ps (winTurn c h rest a p) o1
    refine ⟨o2, ?_⟩
    rw [List.foldl_cons, e2, sm_cons]
    have e3 : valW c F (n + 1) h rest p = p.2 * ((dotsAt rest).map fun d => T n rest.tail fun y => scF c F h p.1 (d :: y)).sum := by
      unfold valW
      rw [T_dots]
    rw [e3]
    unfold winTurn
    rw [e1]
    omega
end
theorem loop_sum {w : Nat} {c : Bool} {F : FF} : ∀ (n h : Nat) (ways : List (Dots × Nat)) (rest : Dots) (found : List Chg), n = w - h → h ≤ w → WayOk ways →
    WayOk (chLoop c n h ways rest found).2 ∧
    sm (chLoop c n h ways rest found).1 (valC w F) + sm (chLoop c n h ways rest found).2 (fun p => p.2 * F w p.1 []) =
      sm found (valC w F) + sm ways (valW c F n h rest)
  | 0, h, ways, rest, found, hn, hh, o => by
    refine ⟨o, ?_⟩
    have hw : h = w := by omega
    subst hw
    show sm found _ + sm ways _ = _
    congr 1
    refine sm_congr fun p hp => ?_
    unfold valW
    show p.2 * F h p.1 [] = p.2 * F (h + 0) (last4 (p.1 ++ [])) []
    rw [List.append_nil, last4_self (o.le p hp)]
    rfl
  | n + 1, h, ways, rest, found, hn, hh, o => by
    obtain ⟨o1, e1⟩ := wins_sum (F := F) (c := c) (rest := rest) (w := w) (h := h) (n := n) (by omega) ways (found, []) ⟨by simp, fun _ z => nomatch z⟩
    obtain ⟨o2, e2⟩ := loop_sum (F := F) (w := w) (c := c) n (h + 1) (ways.foldl (winTurn c h rest) (found, [])).2 rest.tail (ways.foldl (winTurn c h rest) (found, [])).1 (by omega) (by omega) o1
    refine ⟨o2, ?_⟩
    show sm (chLoop c n (h + 1) _ _ _).1 _ + sm (chLoop c n (h + 1) _ _ _).2 _ = _
    rw [e2, e1, sm_nil, Nat.add_zero]
/-- where a reading stands at a change: the change, what was read up to it, what stands behind it -/
def chF (p : Nat) (c t : Bool) (F : FF) (x : Dots) : Nat := F (p + chg c t x) (last4 (x.take (chg c t x + 1))) (x.drop (chg c t x + 1))
theorem last4_short {w : Dots} (h : w.length ≤ 4) : last4 w = w := last4_self h
/-- the changes are all that can come -/
theorem changes_sum {w p : Nat} {c t : Bool} {k : Dots} (F : FF) (hp : p < w) : T (w - p) k (chF p c t F) = sm (changes w p c t k) (valC w F) := by
  have fin : ∀ (b : List Dots × Dots × Nat), (b.1.Nodup ∧ ∀ l ∈ b.1, l.length ≤ 4) → b.2.2 ≤ w →
      sm ((chLoop c (w - b.2.2) b.2.2 (b.1.map (·, 1)) b.2.1 []).1 ++ (chLoop c (w - b.2.2) b.2.2 (b.1.map (·, 1)) b.2.1 []).2.map fun x => (w, x.1, [], x.2)) (valC w F) =
        sm b.1 fun l => T (w - b.2.2) b.2.1 (scF c F b.2.2 l) := by
    intro b hb hw
    obtain ⟨_, e⟩ := loop_sum (F := F) (c := c) (w - b.2.2) b.2.2 (b.1.map (·, 1)) b.2.1 [] rfl hw ⟨by rw [List.map_map]; exact (by simpa [Function.comp_def] using hb.1), fun q hq => by
      obtain ⟨l, hl, rfl⟩ := List.mem_map.mp hq
      exact hb.2 l hl⟩
    rw [sm_app, sm_map]
    have e0 : ∀ q : Dots × Nat, valC w F (w, q.1, [], q.2) = q.2 * F w q.1 [] := fun q => by
      unfold valC
      dsimp only
      rw [show w - (w + 1) = 0 by omega]
      rfl
    rw [sm_congr fun q _ => e0 q, e, sm_nil, Nat.zero_add, sm_map]
    refine sm_congr fun l _ => ?_
    unfold valW
    rw [Nat.one_mul]
  unfold changes
  cases t with
  | false =>
    have eb : begun p false k = ([[]], k, p) := rfl
    rw [eb, fin ([[]], k, p) ⟨by simp, by simp⟩ (by show p ≤ w; omega)]
    rw [sm_one]
    refine T_congr _ _ fun x _ => ?_
    show F (p + scan c false x) (last4 (x.take (scan c false x + 1))) (x.drop (scan c false x + 1)) = F (p + scan c (last []) x) (last4 ([] ++ x.take (scan c (last []) x + 1))) (x.drop (scan c (last []) x + 1))
    rfl
  | true =>
    have one : ∀ (d : Bool) (x : Dots), chF p c true F (d :: x) = scF c F (p + 1) [d] x := fun d x => by
      unfold chF scF
      have e1 : chg c true (d :: x) = scan c d x + 1 := rfl
      have e2 : last [d] = d := rfl
      rw [e1, e2, List.take_succ_cons, List.drop_succ_cons, List.singleton_append]
      congr 1
      omega
    obtain ⟨n, hn⟩ : ∃ n, w - p = n + 1 := ⟨w - p - 1, by omega⟩
    have hn' : w - (p + 1) = n := by omega
    cases k with
    | nil =>
      have eb : begun p true [] = ([[false], [true]], [], p + 1) := rfl
      rw [eb, fin ([[false], [true]], [], p + 1) ⟨by simp, by simp⟩ (by show p + 1 ≤ w; omega)]
      rw [sm_cons, sm_one, hn]
      show T n [] (fun x => chF p c true F (false :: x)) + T n [] (fun x => chF p c true F (true :: x)) = T (w - (p + 1)) [] (scF c F (p + 1) [false]) + T (w - (p + 1)) [] (scF c F (p + 1) [true])
      rw [hn', T_congr n [] fun x _ => one false x, T_congr n [] fun x _ => one true x]
    | cons d r =>
      have eb : begun p true (d :: r) = ([[d]], r, p + 1) := rfl
      rw [eb, fin ([[d]], r, p + 1) ⟨by simp, by simp⟩ (by show p + 1 ≤ w; omega)]
      rw [sm_one, hn]
      show T n r (fun x => chF p c true F (d :: x)) = T (w - (p + 1)) r (scF c F (p + 1) [d])
      rw [hn', T_congr n r fun x _ => one d x]

/-! ### the changes back -/
theorem backs_sum {w : Nat} {c : Bool} (G : Nat → Dots → Nat) : ∀ (n h : Nat) (rest : Dots), n = w - h → h ≤ w →
    T n rest (fun y => G (h + seek c y) (y.drop (seek c y))) = sm (backs w c n h rest) fun b => T (w - b.1) b.2 (G b.1)
  | 0, h, rest, hn, hh => by
    have e : h = w := by omega
    subst e
    show G (h + 0) [] = sm [(h, [])] _
    rw [sm_one, Nat.sub_self]
    rfl
  | n + 1, h, [], hn, hh => by
    have ih := backs_sum (w := w) (c := c) G n (h + 1) [] (by omega) (by omega)
    show _ = sm ((h, [c]) :: backs w c n (h + 1) []) _
    rw [sm_cons, ← ih, ← hn]
    have e : ∀ d : Bool, T n [] (fun y => G (h + seek c (d :: y)) ((d :: y).drop (seek c (d :: y)))) = if d = c then T (n + 1) [c] (G h) else T n [] (fun y => G (h + 1 + seek c y) (y.drop (seek c y))) := by
      intro d
      by_cases hd : d = c
      · subst hd
        rw [if_pos rfl]
        show _ = T n [] fun x => G h (d :: x)
        refine T_congr _ _ fun y _ => ?_
        have e1 : seek d (d :: y) = 0 := by show (if d = d then 0 else _) = 0; rw [if_pos rfl]
        rw [e1]
        rfl
      · rw [if_neg hd]
        refine T_congr _ _ fun y _ => ?_
        have e1 : seek c (d :: y) = seek c y + 1 := by show (if d = c then 0 else _) = _; rw [if_neg hd]
        rw [e1, List.drop_succ_cons]
        congr 1
        omega
    show T n [] _ + T n [] _ = _
    rw [e false, e true]
    cases c with
    | false => rw [if_pos rfl, if_neg (by decide)]
    | true => rw [if_neg (by decide), if_pos rfl, Nat.add_comm]
  | n + 1, h, d :: r, hn, hh => by
    show T n r _ = sm (if d = c then [(h, c :: r)] else backs w c n (h + 1) r) _
    by_cases hd : d = c
    · subst hd
      rw [if_pos rfl, sm_one, ← hn]
      show T n r _ = T n r fun x => G h (d :: x)
      refine T_congr _ _ fun y _ => ?_
      have e1 : seek d (d :: y) = 0 := by show (if d = d then 0 else _) = 0; rw [if_pos rfl]
      dsimp only
      rw [e1]
      rfl
    · rw [if_neg hd, ← backs_sum (w := w) (c := c) G n (h + 1) r (by omega) (by omega)]
      refine T_congr _ _ fun y _ => ?_
      have e1 : seek c (d :: y) = seek c y + 1 := by show (if d = c then 0 else _) = _; rw [if_neg hd]
      dsimp only
      rw [e1, List.drop_succ_cons]
      congr 1
      omega

/-! ### what is skipped -/
theorem skipped_sum {w p e : Nat} {k : Dots} (g : Dots → Nat) (h1 : p ≤ e) (h2 : e ≤ w) : T (w - p) k (fun x => g (x.drop (e - p))) = (skipped w p k e).2 * T (w - e) (skipped w p k e).1 g := by
  unfold skipped
  have e3 : w - p - (e - p) = w - e := by omega
  split
  · rename_i h
    rw [T_skip (e - p) (w - p) k g h (by omega), e3]
    show _ = 1 * _
    rw [Nat.one_mul]
  · rename_i h
    rw [T_over k (e - p) (w - p) g (by omega) (by omega), e3]
    show _ = 2 ^ _ * _
    congr 2
    omega
end K77
set_option linter.all false
/-! K77N: the plain law, further: the readings place by place. -/
namespace K77
/-! ### a reading, place by place -/
def prevAt (x : Dots) (k : Nat) : Bool := if k = 0 then false else x[k - 1]?.getD false
theorem scan_at {c prev : Bool} {x : Dots} {k : Nat} (h : k < x.length) : scan c prev (x.drop k) = if prev = c ∧ x[k] ≠ c then 0 else scan c x[k] (x.drop (k + 1)) + 1 := by
  rw [List.drop_eq_getElem_cons h]
  rfl
theorem prevAt_succ {x : Dots} {k : Nat} (h : k < x.length) : prevAt x (k + 1) = x[k] := by
  unfold prevAt
  rw [if_neg (by omega), Nat.add_sub_cancel, List.getElem?_eq_getElem h]
  rfl
/-- the change, as a place -/
def chgAt (x : Dots) (p : Nat) (c t : Bool) : Nat := p + chg c t (x.drop p)
def lo (p : Nat) (t : Bool) : Nat := if t = true then p + 1 else p
theorem chgAt_lo {x : Dots} {p : Nat} {c t : Bool} (h : p < x.length) (h0 : t = false → p = 0) : chgAt x p c t = lo p t + scan c (prevAt x (lo p t)) (x.drop (lo p t)) := by
  unfold chgAt lo
  cases t with
  | true =>
    rw [if_pos rfl, List.drop_eq_getElem_cons h, prevAt_succ h]
    show p + (scan c x[p] (x.drop (p + 1)) + 1) = _
    omega
  | false =>
    have e := h0 rfl
    subst e
    rfl
theorem lo_le {x : Dots} {p : Nat} {t : Bool} (h : p < x.length) : lo p t ≤ x.length := by
  unfold lo
  split <;> omega
theorem scan_le (c : Bool) : ∀ (x : Dots) (prev : Bool), scan c prev x ≤ x.length
  | [], _ => Nat.le_refl _
  | d :: x, prev => by
    show (if prev = c ∧ d ≠ c then 0 else scan c d x + 1) ≤ x.length + 1
    have := scan_le c x d
    split <;> omega
theorem chg_le (c t : Bool) (x : Dots) : chg c t x ≤ x.length := by
  unfold chg
  cases t with
  | false => exact scan_le c x false
  | true =>
    rw [if_pos rfl]
    cases x with
    | nil => exact Nat.le_refl _
    | cons d x =>
      have := scan_le c x d
      show scan c d x + 1 ≤ x.length + 1
      omega
theorem chgAt_le {x : Dots} {p : Nat} {c t : Bool} (h : p ≤ x.length) : chgAt x p c t ≤ x.length := by
  have := chg_le c t (x.drop p)
  rw [List.length_drop] at this
  unfold chgAt
  omega
theorem chgAt_ge (x : Dots) (p : Nat) (c t : Bool) : p ≤ chgAt x p c t := by
  unfold chgAt
  omega
theorem seek_at {c : Bool} {x : Dots} {k : Nat} (h : k < x.length) : seek c (x.drop k) = if x[k] = c then 0 else seek c (x.drop (k + 1)) + 1 := by
  rw [List.drop_eq_getElem_cons h]
  rfl
theorem seek_le (c : Bool) : ∀ x : Dots, seek c x ≤ x.length
  | [] => Nat.le_refl _
  | d :: x => by
    show (if d = c then 0 else seek c x + 1) ≤ x.length + 1
    have := seek_le c x
    split <;> omega
def backAt (x : Dots) (k : Nat) (c : Bool) : Nat := k + 1 + seek c (x.drop (k + 1))
theorem backAt_le {x : Dots} {k : Nat} {c : Bool} (h : k < x.length) : backAt x k c ≤ x.length := by
  have := seek_le c (x.drop (k + 1))
  rw [List.length_drop] at this
  unfold backAt
  omega
/-- the step, with places -/
theorem step_pass {x : Dots} {p : Nat} {c t : Bool} (h : p < x.length) : stepR .pass c t (x.drop p) = if chgAt x p c t < x.length then some (backAt x (chgAt x p c t) c - p, c) else none := by
  unfold stepR
  have e : (chg c t (x.drop p) < (x.drop p).length) = (chgAt x p c t < x.length) := by
    rw [List.length_drop]
    unfold chgAt
    apply propext
    omega
  dsimp only
  simp only [e]
  by_cases hc : chgAt x p c t < x.length
  · rw [if_pos hc, if_pos hc]
    congr 1
    congr 1
    unfold back backAt chgAt
    rw [List.drop_drop]
    have e2 : p + (chg c t (x.drop p) + 1) = p + chg c t (x.drop p) + 1 := by omega
    rw [e2]
    omega
  · rw [if_neg hc, if_neg hc]
theorem step_stay {x : Dots} {p : Nat} {c t : Bool} {d : Int} (h : p < x.length) (h0 : t = false → p = 0) :
    stepR (.stay d) c t (x.drop p) = if (chgAt x p c t : Int) + d > x.length ∨ (chgAt x p c t : Int) + d < 0 ∨ ((chgAt x p c t : Int) + d ≤ p ∧ t = true) then none else some (((chgAt x p c t : Int) + d).toNat - p, !c) := by
  unfold stepR
  have ec : (chgAt x p c t : Int) = p + chg c t (x.drop p) := by
    unfold chgAt
    omega
  dsimp only
  rw [List.length_drop]
  have e : ((chg c t (x.drop p) : Int) + d > ((x.length - p : Nat) : Int) ∨ (chg c t (x.drop p) : Int) + d < 0 ∨ ((chg c t (x.drop p) : Int) + d ≤ 0 ∧ t = true)) = ((chgAt x p c t : Int) + d > x.length ∨ (chgAt x p c t : Int) + d < 0 ∨ ((chgAt x p c t : Int) + d ≤ p ∧ t = true)) := by
    apply propext
    cases t with
    | true =>
      simp only [and_true]
      omega
    | false =>
      have := h0 rfl
      simp only [Bool.false_eq_true, and_false, or_false]
      omega
  simp only [e]
  split
  · rfl
  · congr 1
    congr 1
    omega
theorem step_runs {x : Dots} {p n k : Nat} {c t : Bool} (h : p < x.length) :
    stepR (.runs n k) c t (x.drop p) = if p + n + k > x.length ∨ (n = 0 ∧ t = true) ∨ (k = 0 ∧ p + n < x.length) then none else some (n + k, c) := by
  unfold stepR
  dsimp only
  rw [List.length_drop]
  have e : (n + k > x.length - p ∨ (n = 0 ∧ t = true) ∨ (k = 0 ∧ n < x.length - p)) = (p + n + k > x.length ∨ (n = 0 ∧ t = true) ∨ (k = 0 ∧ p + n < x.length)) := by
    apply propext
    cases t with
    | true =>
      simp only [and_true]
      omega
    | false =>
      simp only [Bool.false_eq_true, and_false, false_or]
      omega
  simp only [e]
theorem told_len {m : Mode} {c t : Bool} {x : Dots} {e : Nat} {c' : Bool} (h : stepR m c t x = some (e, c')) : (toldBy m e c).length = e ∧ e ≤ x.length := by
  cases m with
  | runs n k =>
    unfold stepR at h
    dsimp only at h
    split at h
    · cases h
    · rename_i hn
      injection h with h
      injection h with h1 h2
      refine ⟨?_, by omega⟩
      show (List.replicate n c ++ List.replicate k (!c)).length = e
      rw [List.length_append, List.length_replicate, List.length_replicate]
      exact h1
  | pass =>
    unfold stepR at h
    dsimp only at h
    split at h
    · rename_i hn
      injection h with h
      injection h with h1 h2
      refine ⟨List.length_replicate, ?_⟩
      rw [← h1]
      unfold back
      have := seek_le c (x.drop (chg c t x + 1))
      rw [List.length_drop] at this
      omega
    · cases h
  | stay d =>
    unfold stepR at h
    dsimp only at h
    split at h
    · cases h
    · rename_i hn
      injection h with h
      injection h with h1 h2
      exact ⟨List.length_replicate, by omega⟩
end K77
set_option linter.all false
/-! K77N2: plain facts that the search's walk asks: few windows, few states, what a change holds. -/
namespace K77
/-! ### few -/
theorem nodup_lt : ∀ (N : Nat) (l : List Nat), l.Nodup → (∀ x ∈ l, x < N) → l.length ≤ N
  | 0, l, _, h => by
    cases l with
    | nil => exact Nat.le_refl _
    | cons a l => exact absurd (h a List.mem_cons_self) (Nat.not_lt_zero _)
  | N + 1, l, nd, h => by
    have h1 := nodup_lt N (l.filter fun x => decide (x ≠ N)) (List.Nodup.sublist List.filter_sublist nd) fun x hx => by
      obtain ⟨a, b⟩ := List.mem_filter.mp hx
      have := h x a
      have := of_decide_eq_true b
      omega
    have h2 : l.length ≤ (l.filter fun x => decide (x ≠ N)).length + 1 := by
      clear h h1
      induction l with
      | nil => exact Nat.zero_le _
      | cons a l ih =>
        have nd2 := List.nodup_cons.mp nd
        by_cases ha : a = N
        · subst ha
          have e : (l.filter fun x => decide (x ≠ a)) = l := List.filter_eq_self.mpr fun x hx => decide_eq_true fun z => nd2.1 (z ▸ hx)
          rw [List.filter_cons_of_neg (by simp), e, List.length_cons]
          exact Nat.le_refl _
        · rw [List.filter_cons_of_pos (by simpa using ha), List.length_cons, List.length_cons]
          have := ih nd2.2
          omega
    omega
theorem nodup_few {α : Type} (f : α → Nat) (N : Nat) (l : List α) (nd : l.Nodup) (inj : ∀ a ∈ l, ∀ b ∈ l, f a = f b → a = b) (h : ∀ a ∈ l, f a < N) : l.length ≤ N := by
  have := nodup_lt N (l.map f) ?_ fun x hx => by
    obtain ⟨a, ha, rfl⟩ := List.mem_map.mp hx
    exact h a ha
  · rw [List.length_map] at this
    exact this
  · clear h
    induction l with
    | nil => exact List.Pairwise.nil
    | cons a l ih =>
      have nd2 := List.nodup_cons.mp nd
      rw [List.map_cons]
      refine List.nodup_cons.mpr ⟨fun hx => ?_, ih nd2.2 fun a ha b hb => inj a (List.mem_cons_of_mem _ ha) b (List.mem_cons_of_mem _ hb)⟩
      obtain ⟨b, hb, e⟩ := List.mem_map.mp hx
      have := inj b (List.mem_cons_of_mem _ hb) a List.mem_cons_self e
      exact nd2.1 (this ▸ hb)
/-- a number for dots -/
def num : Dots → Nat
  | [] => 1
  | d :: l => 2 * num l + (if d = true then 1 else 0)
theorem num_pos : ∀ l, 0 < num l
  | [] => by decide
  | d :: l => by
    have := num_pos l
    show 0 < 2 * num l + _
    omega
theorem num_inj : ∀ {a b : Dots}, num a = num b → a = b
  | [], [], _ => rfl
  | [], d :: l, h => by
    have := num_pos l
    have h : 1 = 2 * num l + (if d = true then 1 else 0) := h
    omega
  | d :: l, [], h => by
    have := num_pos l
    have h : 2 * num l + (if d = true then 1 else 0) = 1 := h
    omega
  | x :: a, y :: b, h => by
    have h : 2 * num a + (if x = true then 1 else 0) = 2 * num b + (if y = true then 1 else 0) := h
    have e : num a = num b := by
      cases x <;> cases y <;> simp at h <;> omega
    have e2 : x = y := by
      cases x <;> cases y <;> simp at h <;> first | rfl | omega
    rw [num_inj e, e2]
theorem num_lt : ∀ (n : Nat) (l : Dots), l.length ≤ n → num l < 2 ^ (n + 1)
  | n, [], _ => by
    show 1 < 2 ^ (n + 1)
    have := Nat.one_le_two_pow (n := n)
    rw [Nat.pow_succ]
    omega
  | 0, d :: l, h => by simp at h
  | n + 1, d :: l, h => by
    have := num_lt n l (by simpa using h)
    show 2 * num l + _ < 2 ^ (n + 2)
    rw [Nat.pow_succ]
    split <;> omega
theorem WayOk.few {a : List (Dots × Nat)} (o : WayOk a) : a.length ≤ 32 := by
  have := nodup_few num 32 (a.map (·.1)) o.nd (fun a _ b _ e => num_inj e) fun x hx => by
    obtain ⟨p, hp, rfl⟩ := List.mem_map.mp hx
    exact num_lt 4 p.1 (o.le p hp)
  rw [List.length_map] at this
  exact this
/-! ### what a change holds -/
structure ChgOk (w p : Nat) (k : Dots) (x : Chg) : Prop where
  ge : p ≤ x.1
  le : x.1 ≤ w
  win : x.2.1.length = min 4 (min (x.1 + 1) w - p)
  rest : x.2.2.1 = [] ∨ (x.1 < w ∧ x.2.2.1 = k.drop (x.1 + 1 - p))
/-- the table of windows at a turn -/
structure WinAt (h p : Nat) (a : List (Dots × Nat)) : Prop where
  ok : WayOk a
  len : ∀ x ∈ a, x.1.length = min 4 (h - p)
section
variable {w p : Nat} {k : Dots} {c : Bool}
structure AccOk (w p : Nat) (k : Dots) (h : Nat) (a : Acc) : Prop where
  fo : ∀ x ∈ a.1, ChgOk w p k x
  fr : WinAt (h + 1) p a.2
theorem dotTurn_acc {h : Nat} {win : Dots} {n : Nat} {a : Acc} {d : Bool} (o : AccOk w p k h a) (hp : p ≤ h) (hw : h < w) (hl : win.length = min 4 (h - p)) : AccOk w p k h (dotTurn c h (k.drop (h - p)) win n a d) := by
  have el : (last4 (win ++ [d])).length = min 4 (h + 1 - p) := by
    rw [last4_len, List.length_append, hl]
    show min 4 (min 4 (h - p) + 1) = _
    omega
  unfold dotTurn
  split
  · refine ⟨fun x hx => ?_, o.fr⟩
    rcases List.mem_append.mp hx with hx | hx
    · exact o.fo x hx
    · rw [List.mem_singleton.mp hx]
      refine ⟨hp, by show h ≤ w; omega, ?_, .inr ⟨hw, ?_⟩⟩
      · show (last4 (win ++ [d])).length = min 4 (min (h + 1) w - p)
        rw [el]
        omega
      · show (k.drop (h - p)).tail = k.drop (h + 1 - p)
        rw [List.tail_drop]
        congr 1
        omega
  · refine ⟨o.fo, o.fr.ok.add (by rw [el]; omega), fun x hx => ?_⟩
    rcases put_mem hx with rfl | hx
    · exact el
    · exact o.fr.len x hx
theorem dots_acc {h : Nat} {win : Dots} {n : Nat} (hp : p ≤ h) (hw : h < w) (hl : win.length = min 4 (h - p)) : ∀ (ds : List Bool) {a : Acc}, AccOk w p k h a → AccOk w p k h (ds.foldl (dotTurn c h (k.drop (h - p)) win n) a)
  | [], _, o => o
  | _ :: ds, _, o => dots_acc hp hw hl ds (dotTurn_acc o hp hw hl)
theorem wins_acc {h : Nat} (hp : p ≤ h) (hw : h < w) : ∀ (ps : List (Dots × Nat)) {a : Acc}, (∀ x ∈ ps, x.1.length = min 4 (h - p)) → AccOk w p k h a → AccOk w p k h (ps.foldl (winTurn c h (k.drop (h - p))) a)
  | [], _, _, o => o
  | q :: ps, _, hl, o => wins_acc hp hw ps (fun x hx => hl x (List.mem_cons_of_mem _ hx)) (dots_acc hp hw (hl q List.mem_cons_self) _ o)
theorem loop_ok : ∀ (n h : Nat) (ways : List (Dots × Nat)) (found : List Chg), n = w - h → p ≤ h → h ≤ w → WinAt h p ways → (∀ x ∈ found, ChgOk w p k x) →
    (∀ x ∈ (chLoop c n h ways (k.drop (h - p)) found).1, ChgOk w p k x) ∧ WinAt w p (chLoop c n h ways (k.drop (h - p)) found).2
  | 0, h, ways, found, hn, hp, hh, o, fo => by
    have e : h = w := by omega
    subst e
    exact ⟨fo, o⟩
  | n + 1, h, ways, found, hn, hp, hh, o, fo => by
    have o1 := wins_acc (c := c) (k := k) hp (show h < w by omega) ways (a := (found, [])) o.len ⟨fo, ⟨by simp, fun _ z => nomatch z⟩, fun _ z => nomatch z⟩
    have := loop_ok n (h + 1) _ _ (by omega) (by omega) (by omega) o1.fr o1.fo
    rw [show h + 1 - p = h - p + 1 by omega, ← List.drop_drop, ← List.tail_drop] at this
    rw [List.drop_zero] at this
    exact this
end
theorem begun_win (p : Nat) (t : Bool) (k : Dots) : WinAt (begun p t k).2.2 p ((begun p t k).1.map (·, 1)) ∧ (begun p t k).2.1 = k.drop ((begun p t k).2.2 - p) ∧ p ≤ (begun p t k).2.2 ∧ (begun p t k).2.2 ≤ p + 1 := by
  unfold begun
  cases t with
  | false => exact ⟨⟨⟨by simp, by simp⟩, by simp⟩, by simp, by simp, by simp⟩
  | true =>
    cases k with
    | nil => exact ⟨⟨⟨by simp, by simp⟩, by simp⟩, by simp, by simp, by simp⟩
    | cons d k => exact ⟨⟨⟨by simp, by simp⟩, by simp⟩, by simp [Nat.add_sub_cancel_left], by simp, by simp⟩
theorem changes_ok {w p : Nat} {c t : Bool} {k : Dots} (hp : p < w) : ∀ x ∈ changes w p c t k, ChgOk w p k x := by
  obtain ⟨h1, h2, h3, h4⟩ := begun_win p t k
  unfold changes
  rw [h2]
  obtain ⟨a, b⟩ := loop_ok (w := w) (p := p) (k := k) (c := c) (w - (begun p t k).2.2) (begun p t k).2.2 ((begun p t k).1.map (·, 1)) [] rfl h3 (by omega) h1 fun _ z => nomatch z
  intro x hx
  rcases List.mem_append.mp hx with hx | hx
  · exact a x hx
  · obtain ⟨q, hq, rfl⟩ := List.mem_map.mp hx
    refine ⟨by show p ≤ w; omega, Nat.le_refl _, ?_, .inl rfl⟩
    show q.1.length = min 4 (min (w + 1) w - p)
    rw [b.len q hq]
    omega
/-! ### how many changes -/
theorem dotTurn_len {c : Bool} {h : Nat} {rest win : Dots} {n : Nat} {a : Acc} {d : Bool} : (dotTurn c h rest win n a d).1.length ≤ a.1.length + 1 := by
  unfold dotTurn
  split
  · rw [List.length_append]
    exact Nat.le_refl _
  · exact Nat.le_succ _
theorem dots_len {c : Bool} {h : Nat} {rest win : Dots} {n : Nat} : ∀ (ds : List Bool) (a : Acc), (ds.foldl (dotTurn c h rest win n) a).1.length ≤ a.1.length + ds.length
  | [], _ => Nat.le_refl _
  | d :: ds, a => by
    have h1 := dots_len (c := c) (h := h) (rest := rest) (win := win) (n := n) ds (dotTurn c h rest win n a d)
    have h2 := dotTurn_len (c := c) (h := h) (rest := rest) (win := win) (n := n) (a := a) (d := d)
    rw [List.foldl_cons, List.length_cons]
    omega
theorem dotsAt_len (rest : Dots) : (dotsAt rest).length ≤ 2 := by
  cases rest <;> simp [dotsAt]
theorem wins_len {c : Bool} {h : Nat} {rest : Dots} : ∀ (ps : List (Dots × Nat)) (a : Acc), (ps.foldl (winTurn c h rest) a).1.length ≤ a.1.length + 2 * ps.length
  | [], _ => Nat.le_refl _
  | q :: ps, a => by
    have h1 := wins_len (c := c) (h := h) (rest := rest) ps (winTurn c h rest a q)
    have h2 := dots_len (c := c) (h := h) (rest := rest) (win := q.1) (n := q.2) (dotsAt rest) a
    have h3 := dotsAt_len rest
    have h4 : (winTurn c h rest a q).1.length ≤ a.1.length + 2 := by
      show ((dotsAt rest).foldl (dotTurn c h rest q.1 q.2) a).1.length ≤ _
      omega
    rw [List.foldl_cons, List.length_cons]
    omega
theorem wins_ok {c : Bool} {h : Nat} {rest : Dots} : ∀ (ps : List (Dots × Nat)) (a : Acc), WayOk a.2 → WayOk (ps.foldl (winTurn c h rest) a).2
  | [], _, o => o
  | q :: ps, a, o => by
    have h2 : ∀ (ds : List Bool) (a : Acc), WayOk a.2 → WayOk (ds.foldl (dotTurn c h rest q.1 q.2) a).2 := by
      intro ds
      induction ds with
      | nil => intro a o; exact o
      | cons d ds ih => intro a o; exact ih _ (dotTurn_ok o)
    exact wins_ok ps _ (h2 _ a o)
theorem loop_len {c : Bool} : ∀ (n h : Nat) (ways : List (Dots × Nat)) (rest : Dots) (found : List Chg), WayOk ways →
    (chLoop c n h ways rest found).1.length ≤ found.length + 64 * n ∧ WayOk (chLoop c n h ways rest found).2
  | 0, _, _, _, _, o => ⟨Nat.le_refl _, o⟩
  | n + 1, h, ways, rest, found, o => by
    have h1 := wins_len (c := c) (h := h) (rest := rest) ways (found, [])
    have h2 := o.few
    obtain ⟨h3, h4⟩ := loop_len (c := c) n (h + 1) (ways.foldl (winTurn c h rest) (found, [])).2 rest.tail (ways.foldl (winTurn c h rest) (found, [])).1 (wins_ok ways (found, []) ⟨by simp, fun _ z => nomatch z⟩)
    refine ⟨?_, h4⟩
    show (chLoop c n (h + 1) _ _ _).1.length ≤ _
    dsimp only at h1
    omega
theorem changes_len (w p : Nat) (c t : Bool) (k : Dots) : (changes w p c t k).length ≤ 64 * w + 32 := by
  obtain ⟨h1, _, _, _⟩ := begun_win p t k
  obtain ⟨h3, h4⟩ := loop_len (c := c) (w - (begun p t k).2.2) (begun p t k).2.2 ((begun p t k).1.map (·, 1)) (begun p t k).2.1 [] h1.ok
  have := h4.few
  unfold changes
  rw [List.length_append, List.length_map]
  rw [List.length_nil] at h3
  omega
theorem backs_len (w : Nat) (c : Bool) : ∀ (n h : Nat) (r : Dots), (backs w c n h r).length ≤ n + 1
  | 0, _, _ => Nat.le_refl _
  | n + 1, h, [] => by
    have := backs_len w c n (h + 1) []
    show (backs w c n (h + 1) []).length + 1 ≤ _
    omega
  | n + 1, h, d :: r => by
    have := backs_len w c n (h + 1) r
    show (if d = c then [(h, c :: r)] else backs w c n (h + 1) r).length ≤ _
    split
    · show 1 ≤ _
      omega
    · omega
theorem skipped_le (w p : Nat) (k : Dots) (e : Nat) : (skipped w p k e).2 ≤ 2 ^ w := by
  unfold skipped
  split
  · exact Nat.one_le_two_pow
  · exact Nat.pow_le_pow_right (by decide) (by omega)
theorem stayOf_len (w p : Nat) (t : Bool) (d : Int) (x : Chg) : (stayOf w p t d x).length ≤ 1 := by
  unfold stayOf
  split
  · split <;> exact Nat.le_refl _
  · exact Nat.zero_le _
theorem flat_len {α β : Type} {f : α → List β} {n : Nat} : ∀ (l : List α), (∀ x ∈ l, (f x).length ≤ n) → (l.flatMap f).length ≤ n * l.length
  | [], _ => Nat.zero_le _
  | a :: l, h => by
    have h1 := h a List.mem_cons_self
    have h2 := flat_len (f := f) (n := n) l fun x hx => h x (List.mem_cons_of_mem _ hx)
    rw [List.flatMap_cons, List.length_append, List.length_cons, Nat.mul_add, Nat.mul_one]
    omega
theorem passOf_len (w : Nat) (c : Bool) (x : Chg) : (passOf w c x).length ≤ w + 1 := by
  unfold passOf
  split
  · rw [List.length_map]
    have := backs_len w c (w - (x.1 + 1)) (x.1 + 1) x.2.2.1
    omega
  · exact Nat.zero_le _
theorem ends_len {w : Nat} {s : S} {m : Mode} (hw : w ≤ 40) : (endsOf w s m).length ≤ 200000 := by
  have h1 := changes_len w s.pl s.co s.to s.kn
  cases m with
  | runs n k =>
    show (if _ then [] else [_] : List (Nat × Dots × Nat)).length ≤ _
    split
    · exact Nat.zero_le _
    · show 1 ≤ _
      decide
  | stay d =>
    have h2 := flat_len (f := stayOf w s.pl s.to d) (n := 1) (changes w s.pl s.co s.to s.kn) fun x _ => stayOf_len w s.pl s.to d x
    show (List.flatMap _ _).length ≤ _
    omega
  | pass =>
    have h2 := flat_len (f := passOf w s.co) (n := 41) (changes w s.pl s.co s.to s.kn) fun x _ => by
      have := passOf_len w s.co x
      omega
    show (List.flatMap _ _).length ≤ _
    omega
end K77
set_option linter.all false
/-! K77N3: plain facts of ends and next states. -/
namespace K77
theorem backs_ok {w : Nat} {c : Bool} : ∀ (n h : Nat) (r : Dots), n = w - h → h ≤ w → ∀ b ∈ backs w c n h r, h ≤ b.1 ∧ b.1 ≤ w ∧ b.2.length ≤ max 1 r.length
  | 0, h, r, hn, hh, b, hb => by
    have e : b = (w, []) := List.mem_singleton.mp hb
    subst e
    exact ⟨hh, Nat.le_refl _, Nat.zero_le _⟩
  | n + 1, h, [], hn, hh, b, hb => by
    rcases List.mem_cons.mp (show b ∈ (h, [c]) :: backs w c n (h + 1) [] from hb) with e | hb
    · subst e
      exact ⟨Nat.le_refl _, hh, by simp⟩
    · have := backs_ok n (h + 1) [] (by omega) (by omega) b hb
      exact ⟨by omega, this.2.1, this.2.2⟩
  | n + 1, h, d :: r, hn, hh, b, hb => by
    have hb : b ∈ (if d = c then [(h, c :: r)] else backs w c n (h + 1) r) := hb
    split at hb
    · have e := List.mem_singleton.mp hb
      subst e
      exact ⟨Nat.le_refl _, hh, by simp⟩
    · have := backs_ok n (h + 1) r (by omega) (by omega) b hb
      refine ⟨by omega, this.2.1, ?_⟩
      rw [List.length_cons]
      omega
theorem skipped_len (w p : Nat) (k : Dots) (e : Nat) : (skipped w p k e).1.length ≤ k.length := by
  unfold skipped
  split
  · show (k.drop (e - p)).length ≤ _
    rw [List.length_drop]
    omega
  · exact Nat.zero_le _
/-- a state that the search may meet -/
structure SOk (wd : Nat) (s : S) : Prop where
  lt : s.pl < wd
  kn : s.kn.length ≤ 4
  to : s.to = false → s.pl = 0
structure SGood (wd : Nat) (s : S) : Prop where
  le : s.pl ≤ wd
  kn : s.kn.length ≤ 4
  to : s.to = false → s.pl = 0
theorem rest_len {w p : Nat} {k : Dots} {x : Chg} (o : ChgOk w p k x) : x.2.2.1.length ≤ k.length := by
  rcases o.rest with h | ⟨_, h⟩
  · rw [h]
    exact Nat.zero_le _
  · rw [h, List.length_drop]
    omega
theorem ends_ok {w : Nat} {s : S} {m : Mode} (so : SOk w s) (hm : ∀ d, m = .stay d → -3 ≤ d) : ∀ x ∈ endsOf w s m, s.pl ≤ x.1 ∧ x.1 ≤ w ∧ x.2.1.length ≤ 4 := by
  have cok := changes_ok (w := w) (p := s.pl) (c := s.co) (t := s.to) (k := s.kn) so.lt
  have hk := so.kn
  cases m with
  | runs n k =>
    intro x hx
    have hx : x ∈ (if s.pl + n + k > w ∨ (n = 0 ∧ s.to = true) ∨ (k = 0 ∧ s.pl + n < w) then [] else [(s.pl + n + k, (skipped w s.pl s.kn (s.pl + n + k)).1, (skipped w s.pl s.kn (s.pl + n + k)).2)]) := hx
    split at hx
    · cases hx
    · rename_i hn
      rw [List.mem_singleton.mp hx]
      have := skipped_len w s.pl s.kn (s.pl + n + k)
      exact ⟨by dsimp only; omega, by dsimp only; omega, by dsimp only; omega⟩
  | stay d =>
    intro x hx
    have hd := hm d rfl
    obtain ⟨q, hq, hx⟩ := List.mem_flatMap.mp (show x ∈ (changes w s.pl s.co s.to s.kn).flatMap (stayOf w s.pl s.to d) from hx)
    have o := cok q hq
    have hr := rest_len o
    unfold stayOf at hx
    split at hx
    · rename_i hc
      obtain ⟨c1, c2, c3⟩ := hc
      obtain ⟨e, he⟩ : ∃ e : Nat, (q.1 : Int) + d = (e : Int) := ⟨((q.1 : Int) + d).toNat, by omega⟩
      rw [he, Int.toNat_natCast] at hx
      have hge : s.pl ≤ e := by
        rcases c3 with z | z
        · omega
        · have := so.to z
          omega
      split at hx
      · rename_i h2
        rw [List.mem_singleton.mp hx]
        refine ⟨hge, by show e ≤ w; omega, ?_⟩
        show (q.2.1.drop (q.2.1.length - (min (q.1 + 1) w - e)) ++ q.2.2.1).length ≤ 4
        rw [List.length_append, List.length_drop]
        have hw := o.win
        rcases o.rest with h | ⟨h3, h⟩
        · rw [h, List.length_nil]
          omega
        · have h4 : q.2.2.1.length = s.kn.length - (q.1 + 1 - s.pl) := by rw [h, List.length_drop]
          have := o.ge
          omega
      · rename_i h2
        rw [List.mem_singleton.mp hx]
        have := skipped_len w (q.1 + 1) q.2.2.1 e
        exact ⟨hge, by show e ≤ w; omega, by show (skipped w (q.1 + 1) q.2.2.1 e).1.length ≤ 4; omega⟩
    · cases hx
  | pass =>
    intro x hx
    obtain ⟨q, hq, hx⟩ := List.mem_flatMap.mp (show x ∈ (changes w s.pl s.co s.to s.kn).flatMap (passOf w s.co) from hx)
    have o := cok q hq
    have hr := rest_len o
    unfold passOf at hx
    split at hx
    · rename_i hc
      obtain ⟨b, hb, rfl⟩ := List.mem_map.mp hx
      have := backs_ok (w := w) (c := s.co) (w - (q.1 + 1)) (q.1 + 1) q.2.2.1 rfl hc b hb
      have := o.ge
      exact ⟨by dsimp only; omega, by dsimp only; omega, by dsimp only; omega⟩
    · cases hx
theorem sm_mem {α : Type} (f : α → Nat) : ∀ (l : List α) (x : α), x ∈ l → f x ≤ sm l f
  | a :: l, x, h => by
    rw [sm_cons]
    rcases List.mem_cons.mp h with rfl | h
    · omega
    · have := sm_mem f l x h
      omega
theorem chg_cnt {w p : Nat} {c t : Bool} {k : Dots} (hp : p < w) : ∀ x ∈ changes w p c t k, x.2.2.2 * T (w - (x.1 + 1)) x.2.2.1 (fun _ => 1) ≤ 2 ^ w := by
  intro x hx
  have h1 := changes_sum (w := w) (p := p) (c := c) (t := t) (k := k) (fun _ _ _ => 1) hp
  have h2 := T_le (w - p) k (chF p c t fun _ _ _ => 1) fun _ => Nat.le_refl _
  have h3 := sm_mem (valC w fun _ _ _ => 1) _ x hx
  have h4 : 2 ^ (w - p) ≤ 2 ^ w := Nat.pow_le_pow_right (by decide) (by omega)
  rw [← h1] at h3
  exact Nat.le_trans h3 (Nat.le_trans h2 h4)
theorem ends_cnt {w : Nat} {s : S} {m : Mode} (so : SOk w s) : ∀ x ∈ endsOf w s m, x.2.2 ≤ 2 ^ w := by
  have cok := changes_ok (w := w) (p := s.pl) (c := s.co) (t := s.to) (k := s.kn) so.lt
  have cnt := chg_cnt (w := w) (p := s.pl) (c := s.co) (t := s.to) (k := s.kn) so.lt
  have c1 : ∀ q ∈ changes w s.pl s.co s.to s.kn, q.2.2.2 ≤ 2 ^ w := fun q hq => by
    have h1 := cnt q hq
    have h2 := T_one (w - (q.1 + 1)) q.2.2.1
    have h3 : q.2.2.2 * 1 ≤ q.2.2.2 * T (w - (q.1 + 1)) q.2.2.1 (fun _ => 1) := Nat.mul_le_mul_left _ h2
    omega
  cases m with
  | runs n k =>
    intro x hx
    have hx : x ∈ (if s.pl + n + k > w ∨ (n = 0 ∧ s.to = true) ∨ (k = 0 ∧ s.pl + n < w) then [] else [(s.pl + n + k, (skipped w s.pl s.kn (s.pl + n + k)).1, (skipped w s.pl s.kn (s.pl + n + k)).2)]) := hx
    split at hx
    · cases hx
    · rw [List.mem_singleton.mp hx]
      exact skipped_le _ _ _ _
  | stay d =>
    intro x hx
    obtain ⟨q, hq, hx⟩ := List.mem_flatMap.mp (show x ∈ (changes w s.pl s.co s.to s.kn).flatMap (stayOf w s.pl s.to d) from hx)
    unfold stayOf at hx
    split at hx
    · rename_i hc
      obtain ⟨e, he⟩ : ∃ e : Nat, (q.1 : Int) + d = (e : Int) := ⟨((q.1 : Int) + d).toNat, by omega⟩
      rw [he, Int.toNat_natCast] at hx
      split at hx
      · rw [List.mem_singleton.mp hx]
        exact c1 q hq
      · rename_i h2
        rw [List.mem_singleton.mp hx]
        have h3 := cnt q hq
        have h4 := skipped_sum (w := w) (p := q.1 + 1) (e := e) (k := q.2.2.1) (fun _ => 1) (by omega) (by omega)
        have h5 := T_one (w - e) (skipped w (q.1 + 1) q.2.2.1 e).1
        rw [h4] at h3
        show q.2.2.2 * (skipped w (q.1 + 1) q.2.2.1 e).2 ≤ _
        have h6 : q.2.2.2 * ((skipped w (q.1 + 1) q.2.2.1 e).2 * 1) ≤ q.2.2.2 * ((skipped w (q.1 + 1) q.2.2.1 e).2 * T (w - e) (skipped w (q.1 + 1) q.2.2.1 e).1 (fun _ => 1)) := Nat.mul_le_mul_left _ (Nat.mul_le_mul_left _ h5)
        rw [Nat.mul_one] at h6
        exact Nat.le_trans h6 h3
    · cases hx
  | pass =>
    intro x hx
    obtain ⟨q, hq, hx⟩ := List.mem_flatMap.mp (show x ∈ (changes w s.pl s.co s.to s.kn).flatMap (passOf w s.co) from hx)
    unfold passOf at hx
    split at hx
    · obtain ⟨b, hb, rfl⟩ := List.mem_map.mp hx
      exact c1 q hq
    · cases hx
structure NxOk (w : Nat) (s : S) (x : Nx) : Prop where
  good : SGood w x.1
  to : x.1.to = true
  ge : s.pl ≤ x.1.pl
  cnt : x.2.2 ≤ 2 ^ w
theorem nexts_ok {w : Nat} {s : S} {m : Mode} (sg : SGood w s) (hm : ∀ d, m = .stay d → -3 ≤ d) : ∀ x ∈ nexts w s m, NxOk w s x := by
  intro x hx
  unfold nexts at hx
  split at hx
  · cases hx
  · rename_i h
    have so : SOk w s := ⟨by omega, sg.kn, sg.to⟩
    obtain ⟨e, he, rfl⟩ := List.mem_map.mp hx
    obtain ⟨a, b, c⟩ := ends_ok so hm e he
    exact ⟨⟨b, c, nofun⟩, rfl, a, ends_cnt so e he⟩
end K77
set_option linter.all false
/-! K77N4: tables of states: few keys. -/
namespace K77
def b01 (b : Bool) : Nat := if b = true then 1 else 0
theorem b01_inj {a b : Bool} (h : b01 a = b01 b) : a = b := by
  cases a <;> cases b <;> first | rfl | cases h
theorem b01_lt (b : Bool) : b01 b < 2 := by
  cases b <;> decide
def code (s : S) : Nat := ((s.pl * 2 + b01 s.co) * 2 + b01 s.to) * 32 + num s.kn
theorem code_inj {w : Nat} {a b : S} (ha : SGood w a) (hb : SGood w b) (h : code a = code b) : a = b := by
  have h1 := num_lt 4 a.kn ha.kn
  have h2 := num_lt 4 b.kn hb.kn
  have h3 := b01_lt a.co
  have h4 := b01_lt b.co
  have h5 := b01_lt a.to
  have h6 := b01_lt b.to
  unfold code at h
  have e1 : num a.kn = num b.kn := by omega
  have e2 : b01 a.to = b01 b.to := by omega
  have e3 : b01 a.co = b01 b.co := by omega
  have e4 : a.pl = b.pl := by omega
  cases a
  cases b
  dsimp only at e1 e2 e3 e4
  rw [num_inj e1, b01_inj e2, b01_inj e3, e4]
theorem code_lt {w : Nat} {a : S} (ha : SGood w a) (hw : w ≤ 40) : code a < 6000 := by
  have h1 := num_lt 4 a.kn ha.kn
  have h3 := b01_lt a.co
  have h5 := b01_lt a.to
  have h7 := ha.le
  unfold code
  omega
theorem good_few {w : Nat} {l : List S} (nd : l.Nodup) (h : ∀ s ∈ l, SGood w s) (hw : w ≤ 40) : l.length ≤ 6000 :=
  nodup_few code 6000 l nd (fun a ha b hb e => code_inj (h a ha) (h b hb) e) fun a ha => code_lt (h a ha) hw
/-- a table of states -/
structure StOk (w : Nat) (a : List (S × Nat)) : Prop where
  nd : (a.map (·.1)).Nodup
  good : ∀ p ∈ a, SGood w p.1
theorem StOk.few {w : Nat} {a : List (S × Nat)} (o : StOk w a) (hw : w ≤ 40) : a.length ≤ 6000 := by
  have := good_few o.nd (fun s hs => by
    obtain ⟨p, hp, rfl⟩ := List.mem_map.mp hs
    exact o.good p hp) hw
  rw [List.length_map] at this
  exact this
theorem StOk.add {w : Nat} {a : List (S × Nat)} (o : StOk w a) {s : S} {n : Nat} (h : SGood w s) : StOk w (add a s n) :=
  ⟨put_nodup _ _ o.nd, fun p hp => by
    rcases put_mem hp with rfl | hp
    · exact h
    · exact o.good p hp⟩
theorem StOk.nil {w : Nat} : StOk w [] := ⟨List.nodup_nil, fun _ h => nomatch h⟩
theorem StOk.turn {w : Nat} {a : List (S × Nat)} {line : Option Dots} {s : S} {n : Nat} {x : Nx} (o : StOk w a) (h : SGood w x.1) : StOk w (nxTurn line s n a x) := by
  unfold nxTurn
  split
  · exact o.add h
  · exact o
theorem StOk.turns {w : Nat} {line : Option Dots} {s : S} {n : Nat} : ∀ (xs : List Nx) (a : List (S × Nat)), (∀ x ∈ xs, SGood w x.1) → StOk w a → StOk w (xs.foldl (nxTurn line s n) a)
  | [], _, _, o => o
  | x :: xs, a, h, o => StOk.turns xs _ (fun y hy => h y (List.mem_cons_of_mem _ hy)) (o.turn (h x List.mem_cons_self))
theorem StOk.way {w : Nat} {line : Option Dots} {m : Mode} (hm : ∀ d, m = .stay d → -3 ≤ d) {a : List (S × Nat)} {p : S × Nat} (hp : SGood w p.1) (o : StOk w a) : StOk w (wayTurn w line m a p) :=
  StOk.turns _ _ (fun x hx => (nexts_ok hp hm x hx).good) o
theorem StOk.ways {w : Nat} {line : Option Dots} {m : Mode} (hm : ∀ d, m = .stay d → -3 ≤ d) : ∀ (ps : List (S × Nat)) (a : List (S × Nat)), (∀ p ∈ ps, SGood w p.1) → StOk w a → StOk w (ps.foldl (wayTurn w line m) a)
  | [], _, _, o => o
  | p :: ps, a, h, o => StOk.ways hm ps _ (fun y hy => h y (List.mem_cons_of_mem _ hy)) (o.way hm (h p List.mem_cons_self))
theorem StOk.one {w : Nat} : StOk w [(⟨0, false, false, []⟩, 1)] := ⟨by simp, fun p hp => by
  rw [List.mem_singleton.mp hp]
  exact ⟨Nat.zero_le _, Nat.zero_le _, fun _ => rfl⟩⟩
/-- the lines of a width, as the package makes them -/
def allL : Nat → List Dots
  | 0 => [[]]
  | n + 1 => (allL n).flatMap fun l => [l ++ [true], l ++ [false]]
theorem allL_count : ∀ n, (allL n).length = 2 ^ n
  | 0 => rfl
  | n + 1 => by
    have h : ∀ ls : List Dots, (ls.flatMap fun l => [l ++ [true], l ++ [false]]).length = 2 * ls.length := by
      intro ls
      induction ls with
      | nil => rfl
      | cons a ls ih =>
        rw [List.flatMap_cons, List.length_append, ih]
        show 2 + 2 * ls.length = 2 * (ls.length + 1)
        omega
    show ((allL n).flatMap _).length = _
    rw [h, allL_count n, Nat.pow_succ, Nat.mul_comm]
theorem allL_len : ∀ (n : Nat), ∀ l ∈ allL n, l.length = n
  | 0, l, h => by
    rw [List.mem_singleton.mp h]
    rfl
  | n + 1, l, h => by
    obtain ⟨k, hk, h⟩ := List.mem_flatMap.mp (show l ∈ (allL n).flatMap fun l => [l ++ [true], l ++ [false]] from h)
    have := allL_len n k hk
    rcases List.mem_cons.mp h with rfl | h
    · rw [List.length_append, this]
      rfl
    · rw [List.mem_singleton.mp h, List.length_append, this]
      rfl
end K77
set_option linter.all false
/-! K77N5: mirrors of the layers and of the sure row. -/
namespace K77
def sBegin : S := ⟨0, false, false, []⟩
def layTurn (w : Nat) (m : Mode) (fr : List S) (s : S) : List S := (nexts w s m).foldl (fun fr x => ins fr x.1) fr
def layNext (w : Nat) (m : Mode) (ss : List S) : List S := ss.foldl (layTurn w m) []
def lays (w : Nat) : List Mode → List S → List (List S)
  | [], ss => [ss]
  | m :: ms, ss => ss :: lays w ms (layNext w m ss)
def layers (w : Nat) (ms : List Mode) : List (List S) := lays w ms [sBegin]
/-- what is seen at the places -/
abbrev Seen := List (List Bool)
def markAt (seen : Seen) (i : Nat) (d : Bool) : Seen := seen.set i (ins (seen.getD i []) d)
def mark : Nat → Dots → Seen → Seen
  | _, [], seen => seen
  | p, d :: ds, seen => mark (p + 1) ds (markAt seen p d)
abbrev Bk := List S × Seen
def bkTurn (good : List S) (s : S) (a : Bk) (x : Nx) : Bk := if x.1 ∈ good then (ins a.1 s, mark s.pl x.2.1 a.2) else a
def bkState (w : Nat) (m : Mode) (good : List S) (a : Bk) (s : S) : Bk := (nexts w s m).foldl (bkTurn good s) a
def bkLayer (w : Nat) (m : Mode) (layer : List S) (a : Bk) : Bk := layer.foldl (bkState w m a.1) ([], a.2)
/-- the layers from the last to the first -/
def backAll (w : Nat) : List Mode → List S → Bk → Bk
  | [], _, a => a
  | m :: ms, ss, a => bkLayer w m ss (backAll w ms (layNext w m ss) a)
def lastLay (w : Nat) : List Mode → List S → List S
  | [], ss => ss
  | m :: ms, ss => lastLay w ms (layNext w m ss)
def goodEnd (w : Nat) (ms : List Mode) : List S := (lastLay w ms [sBegin]).filter fun s => decide (s.pl = w)
abbrev Row := List (Option Bool)
def rowOf (seen : Seen) : Row := seen.map fun ks => match ks with
  | [d] => some d
  | _ => none
def sureRow (w : Nat) (ms : List Mode) : Option Row :=
  if goodEnd w ms = [] then none else some (rowOf (backAll w ms [sBegin] (goodEnd w ms, List.replicate w [])).2)
/-! ### layers, states -/
theorem ins_nodup {κ : Type} [DecidableEq κ] {d : List κ} {k : κ} (h : d.Nodup) : (ins d k).Nodup := by
  unfold ins
  split
  · exact h
  · rename_i hn
    exact List.nodup_append.mpr ⟨h, List.nodup_cons.mpr ⟨nofun, List.nodup_nil⟩, fun a ha b hb z => hn (by
      rw [← List.mem_singleton.mp hb, ← z]
      exact ha)⟩
theorem ins_mem {κ : Type} [DecidableEq κ] {d : List κ} {k a : κ} : a ∈ ins d k ↔ a = k ∨ a ∈ d := by
  unfold ins
  split
  · rename_i h
    constructor
    · exact .inr
    · rintro (rfl | h2)
      · exact h
      · exact h2
  · rw [List.mem_append, List.mem_singleton]
    exact Or.comm
/-- a layer -/
structure LayOk (w : Nat) (ss : List S) : Prop where
  nd : ss.Nodup
  good : ∀ s ∈ ss, SGood w s
theorem LayOk.few {w : Nat} {ss : List S} (o : LayOk w ss) (hw : w ≤ 40) : ss.length ≤ 6000 := good_few o.nd o.good hw
theorem LayOk.ins {w : Nat} {ss : List S} {s : S} (o : LayOk w ss) (h : SGood w s) : LayOk w (ins ss s) :=
  ⟨ins_nodup o.nd, fun t ht => by
    rcases ins_mem.mp ht with rfl | ht
    · exact h
    · exact o.good t ht⟩
theorem LayOk.nil {w : Nat} : LayOk w [] := ⟨List.nodup_nil, fun _ h => nomatch h⟩
theorem LayOk.begin {w : Nat} : LayOk w [sBegin] := ⟨by simp, fun p hp => by
  rw [List.mem_singleton.mp hp]
  exact ⟨Nat.zero_le _, Nat.zero_le _, fun _ => rfl⟩⟩
theorem LayOk.inss {w : Nat} : ∀ (xs : List Nx) {fr : List S}, (∀ x ∈ xs, SGood w x.1) → LayOk w fr → LayOk w (xs.foldl (fun fr x => K77.ins fr x.1) fr)
  | [], _, _, o => o
  | x :: xs, _, h, o => LayOk.inss xs (fun y hy => h y (List.mem_cons_of_mem _ hy)) (o.ins (h x List.mem_cons_self))
theorem LayOk.turn {w : Nat} {m : Mode} (hm : ∀ d, m = .stay d → -3 ≤ d) {fr : List S} {s : S} (hs : SGood w s) (o : LayOk w fr) : LayOk w (layTurn w m fr s) :=
  LayOk.inss _ (fun x hx => (nexts_ok hs hm x hx).good) o
theorem LayOk.turns {w : Nat} {m : Mode} (hm : ∀ d, m = .stay d → -3 ≤ d) : ∀ (ss : List S) {fr : List S}, (∀ s ∈ ss, SGood w s) → LayOk w fr → LayOk w (ss.foldl (layTurn w m) fr)
  | [], _, _, o => o
  | s :: ss, _, h, o => LayOk.turns hm ss (fun y hy => h y (List.mem_cons_of_mem _ hy)) (o.turn hm (h s List.mem_cons_self))
theorem LayOk.next {w : Nat} {m : Mode} (hm : ∀ d, m = .stay d → -3 ≤ d) {ss : List S} (o : LayOk w ss) : LayOk w (layNext w m ss) := LayOk.turns hm ss o.good LayOk.nil
theorem lays_ok {w : Nat} : ∀ (ms : List Mode) (ss : List S), (∀ m ∈ ms, ∀ d, m = .stay d → -3 ≤ d) → LayOk w ss → ∀ l ∈ lays w ms ss, LayOk w l
  | [], ss, _, o, l, hl => by
    rw [List.mem_singleton.mp hl]
    exact o
  | m :: ms, ss, h, o, l, hl => by
    rcases List.mem_cons.mp (show l ∈ ss :: lays w ms (layNext w m ss) from hl) with rfl | hl
    · exact o
    · exact lays_ok ms _ (fun m' hm' => h m' (List.mem_cons_of_mem _ hm')) (o.next (h m List.mem_cons_self)) l hl
theorem lays_len {w : Nat} : ∀ (ms : List Mode) (ss : List S), (lays w ms ss).length = ms.length + 1
  | [], _ => rfl
  | m :: ms, ss => by
    show (lays w ms _).length + 1 = _
    rw [lays_len ms]
    rfl
theorem told_fits {w : Nat} {s : S} {m : Mode} (sg : SGood w s) (hm : ∀ d, m = .stay d → -3 ≤ d) : ∀ x ∈ nexts w s m, s.pl + x.2.1.length = x.1.pl := by
  intro x hx
  have hge := (nexts_ok sg hm x hx).ge
  unfold nexts at hx
  split at hx
  · cases hx
  · rename_i h
    obtain ⟨e, he, rfl⟩ := List.mem_map.mp hx
    dsimp only at hge ⊢
    cases m with
    | runs n k =>
      have he : e ∈ (if s.pl + n + k > w ∨ (n = 0 ∧ s.to = true) ∨ (k = 0 ∧ s.pl + n < w) then [] else [(s.pl + n + k, (skipped w s.pl s.kn (s.pl + n + k)).1, (skipped w s.pl s.kn (s.pl + n + k)).2)]) := he
      split at he
      · cases he
      · rw [List.mem_singleton.mp he]
        show s.pl + (List.replicate n s.co ++ List.replicate k (!s.co)).length = _
        rw [List.length_append, List.length_replicate, List.length_replicate]
        dsimp only
        omega
    | stay d =>
      show s.pl + (List.replicate (e.1 - s.pl) s.co).length = _
      rw [List.length_replicate]
      omega
    | pass =>
      show s.pl + (List.replicate (e.1 - s.pl) s.co).length = _
      rw [List.length_replicate]
      omega
end K77
set_option linter.all false
/-! K77N6: layers by their number. -/
namespace K77
theorem lay_step {w : Nat} : ∀ (ms : List Mode) (ss : List S) (k : Nat) (l : List S) (h : k < ms.length), (lays w ms ss)[k]? = some l → (lays w ms ss)[k + 1]? = some (layNext w ms[k] l)
  | [], _, k, _, h, _ => by simp at h
  | m :: ms, ss, 0, l, h, e => by
    have e : some ss = some l := e
    cases e
    show (lays w ms (layNext w m ss))[0]? = _
    cases ms <;> rfl
  | m :: ms, ss, k + 1, l, h, e => lay_step ms (layNext w m ss) k l (Nat.lt_of_succ_lt_succ h) e
theorem lay_last {w : Nat} : ∀ (ms : List Mode) (ss : List S), (lays w ms ss)[ms.length]? = some (lastLay w ms ss)
  | [], _ => rfl
  | m :: ms, ss => lay_last ms (layNext w m ss)
theorem lay_zero {w : Nat} (ms : List Mode) (ss : List S) : (lays w ms ss)[0]? = some ss := by
  cases ms <;> rfl
theorem back_step {w : Nat} {ms : List Mode} {k : Nat} (h : k < ms.length) (l : List S) (a : Bk) : backAll w (ms.drop k) l a = bkLayer w ms[k] l (backAll w (ms.drop (k + 1)) (layNext w ms[k] l) a) := by
  rw [List.drop_eq_getElem_cons h]
  rfl
theorem mark_len : ∀ (ds : Dots) (p : Nat) (seen : Seen), (mark p ds seen).length = seen.length
  | [], _, _ => rfl
  | d :: ds, p, seen => by
    show (mark (p + 1) ds (markAt seen p d)).length = _
    rw [mark_len ds]
    exact List.length_set
theorem bkTurns_len {good : List S} {s : S} : ∀ (xs : List Nx) (a : Bk), (xs.foldl (bkTurn good s) a).2.length = a.2.length
  | [], _ => rfl
  | x :: xs, a => by
    rw [List.foldl_cons, bkTurns_len xs]
    unfold bkTurn
    split
    · exact mark_len _ _ _
    · rfl
theorem bkStates_len {w : Nat} {m : Mode} {good : List S} : ∀ (ss : List S) (a : Bk), (ss.foldl (bkState w m good) a).2.length = a.2.length
  | [], _ => rfl
  | s :: ss, a => by
    rw [List.foldl_cons, bkStates_len ss]
    exact bkTurns_len _ _
theorem bkLayer_len {w : Nat} {m : Mode} {l : List S} {a : Bk} : (bkLayer w m l a).2.length = a.2.length := bkStates_len l ([], a.2)
theorem backAll_len {w : Nat} : ∀ (ms : List Mode) (ss : List S) (a : Bk), (backAll w ms ss a).2.length = a.2.length
  | [], _, _ => rfl
  | m :: ms, ss, a => by
    show (bkLayer w m ss _).2.length = _
    rw [bkLayer_len, backAll_len ms]
/-- what is seen at the places of a width -/
structure SnOk (w : Nat) (seen : Seen) : Prop where
  len : seen.length = w
  nd : ∀ ks ∈ seen, ks.Nodup
theorem SnOk.mark {w : Nat} {seen : Seen} (o : SnOk w seen) {i : Nat} {d : Bool} : SnOk w (markAt seen i d) := by
  refine ⟨List.length_set.trans o.len, fun ks hk => ?_⟩
  rcases List.mem_or_eq_of_mem_set hk with h | h
  · exact o.nd ks h
  · rw [h]
    refine ins_nodup ?_
    rw [List.getD_eq_getElem?_getD]
    cases e : seen[i]? with
    | none => exact List.nodup_nil
    | some ks => exact o.nd ks (List.mem_of_getElem? e)
theorem SnOk.few {w : Nat} {seen : Seen} (o : SnOk w seen) (i : Nat) : (seen.getD i []).length ≤ 2 := by
  have h : (seen.getD i []).Nodup := by
    rw [List.getD_eq_getElem?_getD]
    cases e : seen[i]? with
    | none => exact List.nodup_nil
    | some ks => exact o.nd ks (List.mem_of_getElem? e)
  exact nodup_few b01 2 _ h (fun a _ b _ e => b01_inj e) fun a _ => b01_lt a
theorem SnOk.begin {w : Nat} : SnOk w (List.replicate w []) := ⟨List.length_replicate, fun ks h => by
  rw [List.eq_of_mem_replicate h]
  exact List.nodup_nil⟩
end K77
set_option linter.all false
/-! K77N7: what the next states count. -/
namespace K77
abbrev NF := Nat → Bool → Dots → Dots → Nat
/-- a step's worth -/
def stepF (m : Mode) (p : Nat) (c t : Bool) (F : NF) (x : Dots) : Nat := match stepR m c t x with
  | none => 0
  | some (e, c') => F (p + e) c' (toldBy m e c) (x.drop e)
/-- a next state's worth -/
def nxF (w : Nat) (F : NF) (y : Nx) : Nat := y.2.2 * T (w - y.1.pl) y.1.kn (F y.1.pl y.1.co y.2.1)
def enF (w : Nat) (s : S) (m : Mode) (F : NF) (e : Nat × Dots × Nat) : Nat := e.2.2 * T (w - e.1) e.2.1 (F e.1 (lastCo m s.co) (toldBy m (e.1 - s.pl) s.co))
theorem nexts_en {w : Nat} {s : S} {m : Mode} (F : NF) (h : s.pl < w) : sm (nexts w s m) (nxF w F) = sm (endsOf w s m) (enF w s m F) := by
  unfold nexts
  rw [if_neg (by omega), sm_map]
  rfl
/-- the tail behind an end, by what stood at the change -/
theorem tail_at {x : Dots} {g e : Nat} (he : e ≤ min (g + 1) x.length) (h4 : min (g + 1) x.length - e ≤ 4) :
    x.drop e = (last4 (x.take (g + 1))).drop ((last4 (x.take (g + 1))).length - (min (g + 1) x.length - e)) ++ x.drop (g + 1) := by
  have hl : (x.take (g + 1)).length = min (g + 1) x.length := List.length_take
  rw [last4_drop (x.take (g + 1)) (min (g + 1) x.length - e) h4 (by rw [hl]; omega), hl, show min (g + 1) x.length - (min (g + 1) x.length - e) = e by omega]
  have e1 : x = x.take (g + 1) ++ x.drop (g + 1) := (List.take_append_drop _ _).symm
  conv => lhs; rw [e1]
  rw [List.drop_append_of_le_length (by rw [hl]; exact he)]
def stayF (w p : Nat) (c t : Bool) (d : Int) (F : NF) : FF := fun a win y =>
  if 0 ≤ (a : Int) + d ∧ (a : Int) + d ≤ w ∧ ((a : Int) + d > p ∨ t = false) then
    if ((a : Int) + d).toNat ≤ min (a + 1) w then F ((a : Int) + d).toNat (!c) (List.replicate (((a : Int) + d).toNat - p) c) (win.drop (win.length - (min (a + 1) w - ((a : Int) + d).toNat)) ++ y)
    else F ((a : Int) + d).toNat (!c) (List.replicate (((a : Int) + d).toNat - p) c) (y.drop (((a : Int) + d).toNat - (a + 1)))
  else 0
def passF (w p : Nat) (c : Bool) (F : NF) : FF := fun a _ y =>
  if a < w then F (a + 1 + seek c y) c (List.replicate (a + 1 + seek c y - p) c) (y.drop (seek c y)) else 0
theorem step_sum {w : Nat} {s : S} {m : Mode} (F : NF) (so : SOk w s) (hm : ∀ d, m = .stay d → -3 ≤ d) : T (w - s.pl) s.kn (stepF m s.pl s.co s.to F) = sm (nexts w s m) (nxF w F) := by
  rw [nexts_en F so.lt]
  have hlt := so.lt
  have cok := changes_ok (w := w) (p := s.pl) (c := s.co) (t := s.to) (k := s.kn) so.lt
  cases m with
  | runs n k =>
    show _ = sm (if s.pl + n + k > w ∨ (n = 0 ∧ s.to = true) ∨ (k = 0 ∧ s.pl + n < w) then [] else [(s.pl + n + k, (skipped w s.pl s.kn (s.pl + n + k)).1, (skipped w s.pl s.kn (s.pl + n + k)).2)]) _
    have hst : ∀ x : Dots, x.length = w - s.pl → stepR (.runs n k) s.co s.to x = if s.pl + n + k > w ∨ (n = 0 ∧ s.to = true) ∨ (k = 0 ∧ s.pl + n < w) then none else some (n + k, s.co) := by
      intro x hx
      unfold stepR
      dsimp only
      rw [hx]
      have e : (n + k > w - s.pl ∨ (n = 0 ∧ s.to = true) ∨ (k = 0 ∧ n < w - s.pl)) = (s.pl + n + k > w ∨ (n = 0 ∧ s.to = true) ∨ (k = 0 ∧ s.pl + n < w)) := by
        apply propext
        constructor
        · rintro (h | h | ⟨h1, h2⟩)
          · exact .inl (by omega)
          · exact .inr (.inl h)
          · exact .inr (.inr ⟨h1, by omega⟩)
        · rintro (h | h | ⟨h1, h2⟩)
          · exact .inl (by omega)
          · exact .inr (.inl h)
          · exact .inr (.inr ⟨h1, by omega⟩)
      simp only [e]
    by_cases hc : s.pl + n + k > w ∨ (n = 0 ∧ s.to = true) ∨ (k = 0 ∧ s.pl + n < w)
    · rw [if_pos hc, sm_nil, ← T_zero (w - s.pl) s.kn]
      refine T_congr _ _ fun x hx => ?_
      unfold stepF
      rw [hst x hx, if_pos hc]
    · rw [if_neg hc, sm_one]
      have h1 := skipped_sum (w := w) (p := s.pl) (e := s.pl + n + k) (k := s.kn) (F (s.pl + n + k) s.co (toldBy (.runs n k) (n + k) s.co)) (by omega) (by omega)
      rw [show s.pl + n + k - s.pl = n + k by omega] at h1
      rw [T_congr (w - s.pl) s.kn (g := fun x => F (s.pl + n + k) s.co (toldBy (.runs n k) (n + k) s.co) (x.drop (n + k)))]
      · rw [h1]
        rfl
      · intro x hx
        unfold stepF
        rw [hst x hx, if_neg hc]
        dsimp only
        rw [Nat.add_assoc]
  | stay d =>
    have hd := hm d rfl
    show _ = sm ((changes w s.pl s.co s.to s.kn).flatMap (stayOf w s.pl s.to d)) _
    rw [sm_flat]
    have h1 := changes_sum (w := w) (p := s.pl) (c := s.co) (t := s.to) (k := s.kn) (stayF w s.pl s.co s.to d F) so.lt
    have h2 : T (w - s.pl) s.kn (stepF (.stay d) s.pl s.co s.to F) = T (w - s.pl) s.kn (chF s.pl s.co s.to (stayF w s.pl s.co s.to d F)) := by
      refine T_congr _ _ fun x hx => ?_
      have hle := chg_le s.co s.to x
      unfold stepF stepR chF stayF
      dsimp only
      obtain ⟨g, hg⟩ : ∃ g, g = chg s.co s.to x := ⟨_, rfl⟩
      rw [← hg] at hle ⊢
      rw [hx]
      by_cases hc : (g : Int) + d > ((w - s.pl : Nat) : Int) ∨ (g : Int) + d < 0 ∨ ((g : Int) + d ≤ 0 ∧ s.to = true)
      · rw [if_pos hc, if_neg]
        rintro ⟨a, b, c⟩
        rcases hc with h | h | ⟨h, h'⟩
        · omega
        · rcases c with c | c
          · omega
          · have := so.to c
            omega
        · rcases c with c | c
          · omega
          · rw [h'] at c
            cases c
      · rw [if_neg hc]
        have hto : s.to = false ∨ 0 < (g : Int) + d := by
          cases h : s.to with
          | false => exact .inl rfl
          | true =>
            refine .inr ?_
            have h0 : ¬ ((g : Int) + d ≤ 0) := fun z => hc (.inr (.inr ⟨z, h⟩))
            omega
        rw [if_pos ⟨by omega, by omega, by
          rcases hto with h | h
          · exact .inr h
          · exact .inl (by omega)⟩]
        obtain ⟨e, he⟩ : ∃ e : Nat, (g : Int) + d = (e : Int) := ⟨((g : Int) + d).toNat, by omega⟩
        have he2 : (((s.pl + g : Nat) : Int) + d).toNat = s.pl + e := by omega
        rw [he2, he, Int.toNat_natCast, Nat.add_sub_cancel_left]
        dsimp only
        show F (s.pl + e) (!s.co) (List.replicate e s.co) (x.drop e) = _
        by_cases h3 : s.pl + e ≤ min (s.pl + g + 1) w
        · rw [if_pos h3]
          congr 1
          have e4 : min (s.pl + g + 1) w - (s.pl + e) = min (g + 1) x.length - e := by omega
          rw [e4]
          exact tail_at (by omega) (by omega)
        · rw [if_neg h3, List.drop_drop]
          congr 2
          omega
    rw [h2, h1]
    refine sm_congr fun q hq => ?_
    have o := cok q hq
    unfold valC stayF stayOf
    by_cases hc : 0 ≤ (q.1 : Int) + d ∧ (q.1 : Int) + d ≤ w ∧ ((q.1 : Int) + d > s.pl ∨ s.to = false)
    · rw [if_pos hc]
      simp only [if_pos hc]
      obtain ⟨c1, c2, c3⟩ := hc
      obtain ⟨e, he⟩ : ∃ e : Nat, (q.1 : Int) + d = (e : Int) := ⟨((q.1 : Int) + d).toNat, by omega⟩
      simp only [he, Int.toNat_natCast]
      have hge : s.pl ≤ e := by
        rcases c3 with z | z
        · omega
        · have := so.to z
          omega
      by_cases h3 : e ≤ min (q.1 + 1) w
      · simp only [if_pos h3]
        rw [sm_one]
        unfold enF
        dsimp only
        congr 1
        have hpl : (q.2.1.drop (q.2.1.length - (min (q.1 + 1) w - e))).length = min (q.1 + 1) w - e := by
          rw [List.length_drop]
          have := o.win
          omega
        generalize q.2.1.drop (q.2.1.length - (min (q.1 + 1) w - e)) = pre at hpl ⊢
        have h5 := T_app (w - (q.1 + 1)) q.2.2.1 pre (F e (!s.co) (List.replicate (e - s.pl) s.co))
        have h6 : pre.length + (w - (q.1 + 1)) = w - e := by
          have := o.le
          omega
        rw [h6] at h5
        exact h5.symm
      · simp only [if_neg h3]
        rw [sm_one]
        unfold enF
        dsimp only
        rw [Nat.mul_assoc]
        congr 1
        exact skipped_sum (w := w) (p := q.1 + 1) (e := e) (k := q.2.2.1) (F e (!s.co) (List.replicate (e - s.pl) s.co)) (by omega) (by omega)
    · rw [if_neg hc]
      simp only [if_neg hc]
      rw [T_zero, Nat.mul_zero, sm_nil]
  | pass =>
    show _ = sm ((changes w s.pl s.co s.to s.kn).flatMap (passOf w s.co)) _
    rw [sm_flat]
    have h1 := changes_sum (w := w) (p := s.pl) (c := s.co) (t := s.to) (k := s.kn) (passF w s.pl s.co F) so.lt
    have h2 : T (w - s.pl) s.kn (stepF .pass s.pl s.co s.to F) = T (w - s.pl) s.kn (chF s.pl s.co s.to (passF w s.pl s.co F)) := by
      refine T_congr _ _ fun x hx => ?_
      have hle := chg_le s.co s.to x
      unfold stepF stepR chF passF
      dsimp only
      obtain ⟨g, hg⟩ : ∃ g, g = chg s.co s.to x := ⟨_, rfl⟩
      rw [← hg] at hle ⊢
      rw [hx]
      by_cases hc : g < w - s.pl
      · rw [if_pos hc, if_pos (by omega)]
        unfold back
        dsimp only
        have e9 : x.drop (g + 1 + seek s.co (x.drop (g + 1))) = (x.drop (g + 1)).drop (seek s.co (x.drop (g + 1))) := List.drop_drop.symm
        rw [e9]
        show F (s.pl + (g + 1 + seek s.co (x.drop (g + 1)))) s.co (List.replicate (g + 1 + seek s.co (x.drop (g + 1))) s.co) _ = _
        congr 1
        · omega
        · congr 1
          omega
      · rw [if_neg hc, if_neg (by omega)]
    rw [h2, h1]
    refine sm_congr fun q hq => ?_
    have o := cok q hq
    unfold valC passF passOf
    by_cases hc : q.1 < w
    · rw [if_pos hc]
      simp only [if_pos hc]
      rw [sm_map]
      have h5 := backs_sum (w := w) (c := s.co) (fun h y => F h s.co (List.replicate (h - s.pl) s.co) y) (w - (q.1 + 1)) (q.1 + 1) q.2.2.1 rfl hc
      rw [h5, ← sm_mul]
      rfl
    · rw [if_neg hc]
      simp only [if_neg hc]
      rw [T_zero, Nat.mul_zero, sm_nil]
end K77
set_option linter.all false
/-! K77N8: many_by counts the references. -/
namespace K77
/-- the rest of a reading: 1 if it ends and fits the line -/
def cont (line : Option Dots) (w : Nat) (ms : List Mode) (p : Nat) (c t : Bool) (x : Dots) : Nat := match run ms c t x with
  | none => 0
  | some ds => if fits line p w ds = true then 1 else 0
theorem cut_app {l : Dots} {a b c : Nat} (h1 : a ≤ b) (h2 : b ≤ c) : cut l a c = cut l a b ++ cut l b c := by
  unfold cut
  have e1 : l.take b = (l.take c).take b := by
    rw [List.take_take, Nat.min_eq_left h2]
  rw [e1]
  generalize l.take c = m
  rw [List.drop_take]
  have e2 : m.drop b = (m.drop a).drop (b - a) := by
    rw [List.drop_drop]
    congr 1
    omega
  rw [e2, List.take_append_drop]
theorem cut_len {l : Dots} {a b : Nat} (h : b ≤ l.length) : (cut l a b).length = b - a := by
  unfold cut
  rw [List.length_drop, List.length_take]
  omega
theorem fits_app {line : Option Dots} {w p e : Nat} {a b : Dots} (hl : ∀ l, line = some l → l.length = w) (ha : a.length = e) (he : p + e ≤ w) : fits line p w (a ++ b) = (fits line p (p + e) a && fits line (p + e) w b) := by
  cases line with
  | none => rfl
  | some l =>
    have hw := hl l rfl
    unfold fits
    dsimp only
    rw [cut_app (l := l) (a := p) (b := p + e) (c := w) (by omega) he, Bool.eq_iff_iff, Bool.and_eq_true, decide_eq_true_iff, decide_eq_true_iff, decide_eq_true_iff]
    constructor
    · intro h
      exact List.append_inj h (by rw [cut_len (by omega), ha]; omega)
    · rintro ⟨h1, h2⟩
      rw [h1, h2]
section
variable {line : Option Dots} {w : Nat}
/-- the worth of a table of states -/
def worth (line : Option Dots) (w : Nat) (ms : List Mode) (s : S) : Nat := T (w - s.pl) s.kn (cont line w ms s.pl s.co s.to)
def fitF (line : Option Dots) (w : Nat) (ms : List Mode) (p : Nat) : NF := fun e c told y => if fits line p e told = true then cont line w ms e c true y else 0
theorem cont_cons {m : Mode} {ms : List Mode} {p : Nat} {c t : Bool} {x : Dots} (hl : ∀ l, line = some l → l.length = w) (hx : x.length = w - p) (hp : p < w) : cont line w (m :: ms) p c t x = stepF m p c t (fitF line w ms p) x := by
  have hne : x ≠ [] := by
    intro z
    rw [z, List.length_nil] at hx
    omega
  unfold cont stepF run
  rw [if_neg hne]
  cases hs : stepR m c t x with
  | none => rfl
  | some q =>
    obtain ⟨e, c'⟩ := q
    obtain ⟨h1, h2⟩ := told_len hs
    dsimp only
    unfold fitF cont
    cases hr : run ms c' true (x.drop e) with
    | none =>
      dsimp only [Option.map]
      split <;> rfl
    | some ds =>
      dsimp only [Option.map]
      rw [fits_app (p := p) (e := e) hl h1 (by omega)]
      cases fits line p (p + e) (toldBy m e c) <;> cases fits line (p + e) w ds <;> rfl
theorem worth_step {m : Mode} {ms : List Mode} {s : S} (hl : ∀ l, line = some l → l.length = w) (sg : SGood w s) (hm : ∀ d, m = .stay d → -3 ≤ d) :
    worth line w (m :: ms) s = sm (nexts w s m) fun y => if fits line s.pl y.1.pl y.2.1 = true then y.2.2 * worth line w ms y.1 else 0 := by
  by_cases h : s.pl < w
  · have so : SOk w s := ⟨h, sg.kn, sg.to⟩
    have h1 := step_sum (fitF line w ms s.pl) so hm
    have h2 : worth line w (m :: ms) s = T (w - s.pl) s.kn (stepF m s.pl s.co s.to (fitF line w ms s.pl)) := T_congr _ _ fun x hx => cont_cons hl hx h
    rw [h2, h1]
    refine sm_congr fun y hy => ?_
    have ho := nexts_ok sg hm y hy
    unfold nxF fitF
    by_cases hf : fits line s.pl y.1.pl y.2.1 = true
    · simp only [if_pos hf]
      unfold worth
      rw [ho.to]
    · simp only [if_neg hf]
      rw [T_zero, Nat.mul_zero]
  · have hw : s.pl = w := by
      have := sg.le
      omega
    have hn : nexts w s m = [] := if_pos (by omega)
    rw [hn, sm_nil]
    unfold worth
    rw [hw, Nat.sub_self]
    show cont line w (m :: ms) w s.co s.to [] = 0
    rfl
theorem turns_worth {ms : List Mode} {s : S} {n : Nat} : ∀ (xs : List Nx) (fr : List (S × Nat)), (fr.map (·.1)).Nodup →
    sm (xs.foldl (nxTurn line s n) fr) (fun p => p.2 * worth line w ms p.1) = sm fr (fun p => p.2 * worth line w ms p.1) + n * sm xs fun y => if fits line s.pl y.1.pl y.2.1 = true then y.2.2 * worth line w ms y.1 else 0
  | [], fr, _ => by
    rw [sm_nil, Nat.mul_zero]
    rfl
  | x :: xs, fr, nd => by
    rw [List.foldl_cons, sm_cons, Nat.mul_add]
    have nd2 : ((nxTurn line s n fr x).map (·.1)).Nodup := by
      unfold nxTurn
      split
      · exact put_nodup _ _ nd
      · exact nd
    rw [turns_worth xs _ nd2]
    unfold nxTurn
    by_cases hf : fits line s.pl x.1.pl x.2.1 = true
    · rw [if_pos hf, if_pos hf, sm_add (worth line w ms) x.1 (n * x.2.2) fr nd, Nat.mul_assoc]
      omega
    · rw [if_neg hf, if_neg hf, Nat.mul_zero]
      omega
theorem ways_worth {m : Mode} {ms : List Mode} (hl : ∀ l, line = some l → l.length = w) (hm : ∀ d, m = .stay d → -3 ≤ d) : ∀ (ps : List (S × Nat)) (fr : List (S × Nat)), (∀ p ∈ ps, SGood w p.1) → StOk w fr →
    sm (ps.foldl (wayTurn w line m) fr) (fun p => p.2 * worth line w ms p.1) = sm fr (fun p => p.2 * worth line w ms p.1) + sm ps fun p => p.2 * worth line w (m :: ms) p.1
  | [], fr, _, _ => by
    rw [sm_nil]
    rfl
  | q :: ps, fr, h, o => by
    have hq := h q List.mem_cons_self
    rw [List.foldl_cons, ways_worth hl hm ps _ (fun p hp => h p (List.mem_cons_of_mem _ hp)) (o.way hm hq), sm_cons, worth_step hl hq hm]
    unfold wayTurn
    rw [turns_worth _ _ o.nd]
    omega
theorem end_worth : ∀ (ps : List (S × Nat)), (∀ p ∈ ps, SGood w p.1) → (∀ l, line = some l → l.length = w) → ((ps.filter fun p => decide (p.1.pl = w)).map (·.2)).sum = sm ps fun p => p.2 * worth line w [] p.1
  | [], _, _ => rfl
  | q :: ps, h, hl => by
    have ih := end_worth ps (fun p hp => h p (List.mem_cons_of_mem _ hp)) hl
    have hq := h q List.mem_cons_self
    rw [sm_cons, ← ih]
    by_cases hw : q.1.pl = w
    · rw [List.filter_cons_of_pos (by simpa using hw), List.map_cons, List.sum_cons]
      have e1 : worth line w [] q.1 = 1 := by
        unfold worth
        rw [hw, Nat.sub_self]
        show cont line w [] w q.1.co q.1.to [] = 1
        unfold cont run
        rw [if_pos rfl]
        dsimp only
        rw [if_pos]
        cases line with
        | none => rfl
        | some l =>
          unfold fits
          dsimp only
          refine decide_eq_true (List.eq_nil_of_length_eq_zero ?_)
          rw [cut_len (by have := hl l rfl; omega)]
          omega
      rw [e1, Nat.mul_one]
    · rw [List.filter_cons_of_neg (by simpa using hw)]
      have e1 : worth line w [] q.1 = 0 := by
        unfold worth
        rw [← T_zero (w - q.1.pl) q.1.kn]
        refine T_congr _ _ fun x hx => ?_
        unfold cont run
        rw [if_neg]
        intro z
        rw [z, List.length_nil] at hx
        have := hq.le
        omega
      rw [e1, Nat.mul_zero, Nat.zero_add]
theorem many_worth (hl : ∀ l, line = some l → l.length = w) : ∀ (ms : List Mode) (ways : List (S × Nat)), (∀ m ∈ ms, ∀ d, m = .stay d → -3 ≤ d) → StOk w ways →
    (((ms.foldl (fun ways m => ways.foldl (wayTurn w line m) []) ways).filter fun p => decide (p.1.pl = w)).map (·.2)).sum = sm ways fun p => p.2 * worth line w ms p.1
  | [], ways, _, o => end_worth ways o.good hl
  | m :: ms, ways, h, o => by
    have hm := h m List.mem_cons_self
    rw [List.foldl_cons, many_worth hl ms _ (fun m' hm' => h m' (List.mem_cons_of_mem _ hm')) (StOk.ways hm ways [] o.good StOk.nil), ways_worth hl hm ways [] o.good StOk.nil, sm_nil, Nat.zero_add]
theorem many_sum {ms : List Mode} (hl : ∀ l, line = some l → l.length = w) (hm : ∀ m ∈ ms, ∀ d, m = .stay d → -3 ≤ d) : manyBy w ms line = T w [] (cont line w ms 0 false false) := by
  have := many_worth (w := w) hl ms [(⟨0, false, false, []⟩, 1)] hm StOk.one
  rw [sm_one] at this
  unfold manyBy waysOf
  rw [this, Nat.one_mul]
  rfl
end
/-! ### all lines of a width -/
theorem T_snoc : ∀ (n : Nat) (f : Dots → Nat), T (n + 1) [] f = T n [] fun x => f (x ++ [true]) + f (x ++ [false])
  | 0, f => by
    show f [false] + f [true] = f [true] + f [false]
    omega
  | n + 1, f => by
    show T (n + 1) [] (fun x => f (false :: x)) + T (n + 1) [] (fun x => f (true :: x)) = T n [] (fun x => f ((false :: x) ++ [true]) + f ((false :: x) ++ [false])) + T n [] (fun x => f ((true :: x) ++ [true]) + f ((true :: x) ++ [false]))
    rw [T_snoc n (fun x => f (false :: x)), T_snoc n (fun x => f (true :: x))]
    rfl
theorem T_all : ∀ (n : Nat) (f : Dots → Nat), T n [] f = sm (allL n) f
  | 0, f => by
    show f [] = sm [[]] f
    rw [sm_one]
  | n + 1, f => by
    rw [T_snoc, T_all n]
    show _ = sm ((allL n).flatMap fun l => [l ++ [true], l ++ [false]]) f
    rw [sm_flat]
    refine sm_congr fun l _ => ?_
    rw [sm_cons, sm_one]
/-- the lines that a telling tells beside all references of a width -/
def goodL (w : Nat) (ms : List Mode) : List Dots := (allL w).filterMap fun x => rd x ms
theorem sm_filterMap {α β : Type} (g : α → Option β) (f : β → Nat) : ∀ l : List α, sm (l.filterMap g) f = sm l fun x => match g x with | none => 0 | some y => f y
  | [] => rfl
  | x :: l => by
    rw [sm_cons, List.filterMap_cons]
    cases h : g x with
    | none =>
      dsimp only
      rw [sm_filterMap g f l, Nat.zero_add]
    | some y =>
      dsimp only
      rw [sm_cons, sm_filterMap g f l]
theorem sm_ones {α : Type} : ∀ l : List α, sm l (fun _ => 1) = l.length
  | [] => rfl
  | x :: l => by
    rw [sm_cons, sm_ones l, List.length_cons]
    omega
theorem sm_count {α : Type} [DecidableEq α] [BEq α] [LawfulBEq α] (a : α) : ∀ l : List α, (sm l fun x => if a = x then 1 else 0) = l.count a
  | [] => rfl
  | x :: l => by
    rw [sm_cons, sm_count a l, List.count_cons]
    by_cases h : a = x
    · subst h
      rw [if_pos rfl]
      simp
      omega
    · rw [if_neg h]
      have : ¬ (x == a) = true := by simpa using fun z : x = a => h z.symm
      rw [if_neg this]
      omega
theorem many_none {w : Nat} {ms : List Mode} (hm : ∀ m ∈ ms, ∀ d, m = .stay d → -3 ≤ d) : manyBy w ms none = (goodL w ms).length := by
  rw [many_sum (by intro l h; cases h) hm, T_all, ← sm_ones (goodL w ms)]
  unfold goodL
  rw [sm_filterMap]
  refine sm_congr fun x _ => ?_
  unfold cont rd
  cases run ms false false x <;> rfl
theorem many_some {w : Nat} {ms : List Mode} {l : Dots} (hl : l.length = w) (hm : ∀ m ∈ ms, ∀ d, m = .stay d → -3 ≤ d) : manyBy w ms (some l) = (goodL w ms).count l := by
  rw [many_sum (fun l' h => by cases h; exact hl) hm, T_all, ← sm_count l (goodL w ms)]
  unfold goodL
  rw [sm_filterMap]
  refine sm_congr fun x _ => ?_
  unfold cont rd
  cases run ms false false x with
  | none => rfl
  | some ds =>
    dsimp only
    have e : cut l 0 w = l := by
      unfold cut
      rw [List.drop_zero, List.take_of_length_le (by omega)]
    have e2 : fits (some l) 0 w ds = decide (l = ds) := by
      unfold fits
      dsimp only
      rw [e]
    rw [e2]
    by_cases h : l = ds
    · rw [if_pos h, if_pos (decide_eq_true h)]
    · rw [if_neg h, if_neg (by simpa using h)]
end K77
set_option linter.all false
/-! K77N9: the sure row. -/
namespace K77
/-! ### no count is none -/
def CntPos (a : List (Dots × Nat)) : Prop := ∀ p ∈ a, 1 ≤ p.2
def AccPos (a : Acc) : Prop := (∀ x ∈ a.1, 1 ≤ x.2.2.2) ∧ CntPos a.2
theorem dotTurn_pos {c : Bool} {h : Nat} {rest win : Dots} {n : Nat} {a : Acc} {d : Bool} (o : AccPos a) (hn : 1 ≤ n) : AccPos (dotTurn c h rest win n a d) := by
  unfold dotTurn
  split
  · refine ⟨fun x hx => ?_, o.2⟩
    rcases List.mem_append.mp hx with hx | hx
    · exact o.1 x hx
    · rw [List.mem_singleton.mp hx]
      exact hn
  · refine ⟨o.1, fun p hp => ?_⟩
    rcases put_mem hp with rfl | hp
    · dsimp only
      omega
    · exact o.2 p hp
theorem dots_pos {c : Bool} {h : Nat} {rest win : Dots} {n : Nat} (hn : 1 ≤ n) : ∀ (ds : List Bool) {a : Acc}, AccPos a → AccPos (ds.foldl (dotTurn c h rest win n) a)
  | [], _, o => o
  | _ :: ds, _, o => dots_pos hn ds (dotTurn_pos o hn)
theorem wins_pos {c : Bool} {h : Nat} {rest : Dots} : ∀ (ps : List (Dots × Nat)) {a : Acc}, CntPos ps → AccPos a → AccPos (ps.foldl (winTurn c h rest) a)
  | [], _, _, o => o
  | q :: ps, _, hp, o => wins_pos ps (fun p h => hp p (List.mem_cons_of_mem _ h)) (dots_pos (hp q List.mem_cons_self) _ o)
theorem loop_pos {c : Bool} : ∀ (n h : Nat) (ways : List (Dots × Nat)) (rest : Dots) (found : List Chg), CntPos ways → (∀ x ∈ found, 1 ≤ x.2.2.2) → AccPos (chLoop c n h ways rest found)
  | 0, _, _, _, _, p, f => ⟨f, p⟩
  | n + 1, h, ways, rest, found, p, f => by
    have o := wins_pos (c := c) (h := h) (rest := rest) ways (a := (found, [])) p ⟨f, fun _ z => nomatch z⟩
    exact loop_pos n (h + 1) _ _ _ o.2 o.1
theorem changes_pos {w p : Nat} {c t : Bool} {k : Dots} : ∀ x ∈ changes w p c t k, 1 ≤ x.2.2.2 := by
  have o := loop_pos (c := c) (w - (begun p t k).2.2) (begun p t k).2.2 ((begun p t k).1.map (·, 1)) (begun p t k).2.1 [] (fun q hq => by
    obtain ⟨l, _, rfl⟩ := List.mem_map.mp hq
    exact Nat.le_refl _) fun _ z => nomatch z
  intro x hx
  unfold changes at hx
  rcases List.mem_append.mp hx with hx | hx
  · exact o.1 x hx
  · obtain ⟨q, hq, rfl⟩ := List.mem_map.mp hx
    exact o.2 q hq
theorem skipped_pos (w p : Nat) (k : Dots) (e : Nat) : 1 ≤ (skipped w p k e).2 := by
  unfold skipped
  split
  · exact Nat.le_refl _
  · exact Nat.one_le_two_pow
theorem ends_pos {w : Nat} {s : S} {m : Mode} : ∀ x ∈ endsOf w s m, 1 ≤ x.2.2 := by
  cases m with
  | runs n k =>
    intro x hx
    have hx : x ∈ (if s.pl + n + k > w ∨ (n = 0 ∧ s.to = true) ∨ (k = 0 ∧ s.pl + n < w) then [] else [(s.pl + n + k, (skipped w s.pl s.kn (s.pl + n + k)).1, (skipped w s.pl s.kn (s.pl + n + k)).2)]) := hx
    split at hx
    · cases hx
    · rw [List.mem_singleton.mp hx]
      exact skipped_pos _ _ _ _
  | stay d =>
    intro x hx
    obtain ⟨q, hq, hx⟩ := List.mem_flatMap.mp (show x ∈ (changes w s.pl s.co s.to s.kn).flatMap (stayOf w s.pl s.to d) from hx)
    have hp := changes_pos q hq
    unfold stayOf at hx
    split at hx
    · split at hx
      · rw [List.mem_singleton.mp hx]
        exact hp
      · rw [List.mem_singleton.mp hx]
        exact Nat.mul_pos hp (skipped_pos _ _ _ _)
    · cases hx
  | pass =>
    intro x hx
    obtain ⟨q, hq, hx⟩ := List.mem_flatMap.mp (show x ∈ (changes w s.pl s.co s.to s.kn).flatMap (passOf w s.co) from hx)
    have hp := changes_pos q hq
    unfold passOf at hx
    split at hx
    · obtain ⟨b, _, rfl⟩ := List.mem_map.mp hx
      exact hp
    · cases hx
theorem nexts_pos {w : Nat} {s : S} {m : Mode} : ∀ x ∈ nexts w s m, 1 ≤ x.2.2 := by
  intro x hx
  unfold nexts at hx
  split at hx
  · cases hx
  · obtain ⟨e, he, rfl⟩ := List.mem_map.mp hx
    exact ends_pos e he
/-! ### a step, a next state -/
/-- what may stand ahead of a state -/
def Ahead (w : Nat) (s : S) (z : Dots) : Prop := z.length = w - s.pl ∧ Fits s.kn z
def pick (e0 : Nat) (c0 : Bool) (told0 y0 : Dots) : NF := fun e c told y => if e = e0 ∧ c = c0 ∧ told = told0 ∧ y = y0 then 1 else 0
theorem pick_pos {e0 e : Nat} {c0 c : Bool} {told0 told y0 y : Dots} : 0 < pick e0 c0 told0 y0 e c told y ↔ e = e0 ∧ c = c0 ∧ told = told0 ∧ y = y0 := by
  unfold pick
  split
  · rename_i h
    exact ⟨fun _ => h, fun _ => Nat.one_pos⟩
  · rename_i h
    exact ⟨fun z => absurd z (Nat.lt_irrefl 0), fun z => absurd z h⟩
section
variable {w : Nat} {s : S} {m : Mode}
theorem nx_of_step (so : SOk w s) (hm : ∀ d, m = .stay d → -3 ≤ d) {z : Dots} (hz : Ahead w s z) {e : Nat} {c' : Bool} (hs : stepR m s.co s.to z = some (e, c')) :
    ∃ x ∈ nexts w s m, x.1.pl = s.pl + e ∧ x.1.co = c' ∧ x.2.1 = toldBy m e s.co ∧ Ahead w x.1 (z.drop e) := by
  have h1 := step_sum (pick (s.pl + e) c' (toldBy m e s.co) (z.drop e)) so hm
  have h2 : 0 < T (w - s.pl) s.kn (stepF m s.pl s.co s.to (pick (s.pl + e) c' (toldBy m e s.co) (z.drop e))) := by
    refine (T_pos _ _ _).mpr ⟨z, hz.1, hz.2, ?_⟩
    unfold stepF
    rw [hs]
    exact pick_pos.mpr ⟨rfl, rfl, rfl, rfl⟩
  rw [h1] at h2
  obtain ⟨x, hx, hp⟩ := sm_pos.mp h2
  unfold nxF at hp
  have h3 : 0 < T (w - x.1.pl) x.1.kn (pick (s.pl + e) c' (toldBy m e s.co) (z.drop e) x.1.pl x.1.co x.2.1) := Nat.pos_of_ne_zero fun z => by
    rw [z, Nat.mul_zero] at hp
    exact Nat.lt_irrefl 0 hp
  obtain ⟨y, y1, y2, y3⟩ := (T_pos _ _ _).mp h3
  obtain ⟨a, b, c, d⟩ := pick_pos.mp y3
  subst d
  exact ⟨x, hx, a, b, c, y1, y2⟩
theorem step_of_nx (so : SOk w s) (hm : ∀ d, m = .stay d → -3 ≤ d) {x : Nx} (hx : x ∈ nexts w s m) {z' : Dots} (hz : Ahead w x.1 z') :
    ∃ z e, Ahead w s z ∧ stepR m s.co s.to z = some (e, x.1.co) ∧ s.pl + e = x.1.pl ∧ toldBy m e s.co = x.2.1 ∧ z.drop e = z' := by
  have h1 := step_sum (pick x.1.pl x.1.co x.2.1 z') so hm
  have h2 : 0 < sm (nexts w s m) (nxF w (pick x.1.pl x.1.co x.2.1 z')) := by
    refine sm_pos.mpr ⟨x, hx, ?_⟩
    unfold nxF
    refine Nat.mul_pos (nexts_pos x hx) ((T_pos _ _ _).mpr ⟨z', hz.1, hz.2, pick_pos.mpr ⟨rfl, rfl, rfl, rfl⟩⟩)
  rw [← h1] at h2
  obtain ⟨z, a, b, c⟩ := (T_pos _ _ _).mp h2
  unfold stepF at c
  cases hs : stepR m s.co s.to z with
  | none =>
    rw [hs] at c
    exact absurd c (Nat.lt_irrefl 0)
  | some q =>
    obtain ⟨e, c'⟩ := q
    rw [hs] at c
    obtain ⟨p1, p2, p3, p4⟩ := pick_pos.mp c
    subst p2
    exact ⟨z, e, ⟨a, b⟩, hs, p1, p3, p4⟩
end
/-! ### the layers, backward -/
def Alive (w : Nat) (ms : List Mode) (s : S) : Prop := ∃ z ds, Ahead w s z ∧ run ms s.co s.to z = some ds
def Tells (w : Nat) (ms : List Mode) (s : S) (j : Nat) (d : Bool) : Prop := ∃ z ds, Ahead w s z ∧ run ms s.co s.to z = some ds ∧ s.pl ≤ j ∧ ds[j - s.pl]? = some d
def seenAt (seen : Seen) (j : Nat) (d : Bool) : Prop := d ∈ seen.getD j []
theorem markAt_seen {w : Nat} {seen : Seen} (o : SnOk w seen) {i j : Nat} {c d : Bool} (hi : i < w) : seenAt (markAt seen i c) j d ↔ (j = i ∧ d = c) ∨ seenAt seen j d := by
  unfold seenAt markAt
  rw [List.getD_eq_getElem?_getD, List.getElem?_set]
  by_cases h : i = j
  · subst h
    rw [if_pos rfl, if_pos (by rw [o.len]; exact hi)]
    show d ∈ ins (seen.getD i []) c ↔ _
    rw [ins_mem]
    constructor
    · rintro (h | h)
      · exact .inl ⟨rfl, h⟩
      · exact .inr h
    · rintro (⟨_, h⟩ | h)
      · exact .inl h
      · exact .inr h
  · rw [if_neg h, ← List.getD_eq_getElem?_getD]
    constructor
    · exact .inr
    · rintro (⟨h', _⟩ | h')
      · exact absurd h'.symm h
      · exact h'
theorem mark_seen {w : Nat} : ∀ (ds : Dots) {seen : Seen} (o : SnOk w seen) {p j : Nat} {d : Bool}, p + ds.length ≤ w → (seenAt (mark p ds seen) j d ↔ (p ≤ j ∧ ds[j - p]? = some d) ∨ seenAt seen j d)
  | [], seen, o, p, j, d, _ => by
    show seenAt seen j d ↔ _
    constructor
    · exact .inr
    · rintro (⟨_, h⟩ | h)
      · simp at h
      · exact h
  | c :: ds, seen, o, p, j, d, h => by
    have h' : p + 1 + ds.length ≤ w := by
      rw [List.length_cons] at h
      omega
    show seenAt (mark (p + 1) ds (markAt seen p c)) j d ↔ _
    rw [mark_seen ds o.mark h', markAt_seen o (by omega)]
    constructor
    · rintro (⟨h1, h2⟩ | ⟨h1, h2⟩ | h1)
      · refine .inl ⟨by omega, ?_⟩
        rw [show j - p = j - (p + 1) + 1 by omega, List.getElem?_cons_succ]
        exact h2
      · subst h1
        rw [h2, Nat.sub_self]
        exact .inl ⟨Nat.le_refl _, rfl⟩
      · exact .inr h1
    · rintro (⟨h1, h2⟩ | h1)
      · by_cases e : j = p
        · subst e
          rw [Nat.sub_self, List.getElem?_cons_zero] at h2
          exact .inr (.inl ⟨rfl, (Option.some.inj h2).symm⟩)
        · rw [show j - p = j - (p + 1) + 1 by omega, List.getElem?_cons_succ] at h2
          exact .inl ⟨by omega, h2⟩
      · exact .inr (.inr h1)
theorem mark_ok {w : Nat} : ∀ (ds : Dots) {seen : Seen} {p : Nat}, SnOk w seen → SnOk w (mark p ds seen)
  | [], _, _, o => o
  | _ :: ds, _, _, o => mark_ok ds o.mark
section
variable {w : Nat} {m : Mode} {good : List S}
/-- the turns over a state's next states -/
theorem turns_bk {s : S} : ∀ (xs : List Nx) (a : Bk), (∀ x ∈ xs, s.pl + x.2.1.length = x.1.pl ∧ x.1.pl ≤ w) → SnOk w a.2 →
    SnOk w (xs.foldl (bkTurn good s) a).2 ∧ (∀ t, t ∈ (xs.foldl (bkTurn good s) a).1 ↔ t ∈ a.1 ∨ (t = s ∧ ∃ x ∈ xs, x.1 ∈ good)) ∧
    ∀ j d, seenAt (xs.foldl (bkTurn good s) a).2 j d ↔ seenAt a.2 j d ∨ ∃ x ∈ xs, x.1 ∈ good ∧ s.pl ≤ j ∧ x.2.1[j - s.pl]? = some d
  | [], a, _, o => ⟨o, fun t => ⟨.inl, fun h => h.elim id fun ⟨_, _, hx, _⟩ => nomatch hx⟩, fun j d => ⟨.inl, fun h => h.elim id fun ⟨_, hx, _⟩ => nomatch hx⟩⟩
  | x :: xs, a, h, o => by
    have hx := h x List.mem_cons_self
    by_cases hg : x.1 ∈ good
    · have e : bkTurn good s a x = (ins a.1 s, mark s.pl x.2.1 a.2) := if_pos hg
      obtain ⟨h1, h2, h3⟩ := turns_bk xs (bkTurn good s a x) (fun y hy => h y (List.mem_cons_of_mem _ hy)) (by rw [e]; exact mark_ok _ o)
      rw [List.foldl_cons]
      refine ⟨h1, fun t => ?_, fun j d => ?_⟩
      · rw [h2 t, e]
        dsimp only
        rw [ins_mem]
        constructor
        · rintro ((r | r) | ⟨r, y, hy, hy2⟩)
          · exact .inr ⟨r, x, List.mem_cons_self, hg⟩
          · exact .inl r
          · exact .inr ⟨r, y, List.mem_cons_of_mem _ hy, hy2⟩
        · rintro (r | ⟨r, _⟩)
          · exact .inl (.inr r)
          · exact .inl (.inl r)
      · rw [h3 j d, e]
        dsimp only
        rw [mark_seen x.2.1 o (by omega)]
        constructor
        · rintro ((⟨r1, r2⟩ | r) | ⟨y, hy, hy2⟩)
          · exact .inr ⟨x, List.mem_cons_self, hg, r1, r2⟩
          · exact .inl r
          · exact .inr ⟨y, List.mem_cons_of_mem _ hy, hy2⟩
        · rintro (r | ⟨y, hy, hy2⟩)
          · exact .inl (.inr r)
          · rcases List.mem_cons.mp hy with rfl | hy
            · exact .inl (.inl hy2.2)
            · exact .inr ⟨y, hy, hy2⟩
    · have e : bkTurn good s a x = a := if_neg hg
      obtain ⟨h1, h2, h3⟩ := turns_bk xs a (fun y hy => h y (List.mem_cons_of_mem _ hy)) o
      rw [List.foldl_cons, e]
      refine ⟨h1, fun t => ?_, fun j d => ?_⟩
      · rw [h2 t]
        constructor
        · rintro (r | ⟨r, y, hy, hy2⟩)
          · exact .inl r
          · exact .inr ⟨r, y, List.mem_cons_of_mem _ hy, hy2⟩
        · rintro (r | ⟨r, y, hy, hy2⟩)
          · exact .inl r
          · rcases List.mem_cons.mp hy with rfl | hy
            · exact absurd hy2 hg
            · exact .inr ⟨r, y, hy, hy2⟩
      · rw [h3 j d]
        constructor
        · rintro (r | ⟨y, hy, hy2⟩)
          · exact .inl r
          · exact .inr ⟨y, List.mem_cons_of_mem _ hy, hy2⟩
        · rintro (r | ⟨y, hy, hy2⟩)
          · exact .inl r
          · rcases List.mem_cons.mp hy with rfl | hy
            · exact absurd hy2.1 hg
            · exact .inr ⟨y, hy, hy2⟩
theorem states_bk (hm : ∀ d, m = .stay d → -3 ≤ d) : ∀ (ss : List S) (a : Bk), (∀ s ∈ ss, SGood w s) → SnOk w a.2 →
    SnOk w (ss.foldl (bkState w m good) a).2 ∧ (∀ t, t ∈ (ss.foldl (bkState w m good) a).1 ↔ t ∈ a.1 ∨ (t ∈ ss ∧ ∃ x ∈ nexts w t m, x.1 ∈ good)) ∧
    ∀ j d, seenAt (ss.foldl (bkState w m good) a).2 j d ↔ seenAt a.2 j d ∨ ∃ s ∈ ss, ∃ x ∈ nexts w s m, x.1 ∈ good ∧ s.pl ≤ j ∧ x.2.1[j - s.pl]? = some d
  | [], a, _, o => ⟨o, fun t => ⟨.inl, fun h => h.elim id fun ⟨hx, _⟩ => nomatch hx⟩, fun j d => ⟨.inl, fun h => h.elim id fun ⟨_, hx, _⟩ => nomatch hx⟩⟩
  | s :: ss, a, h, o => by
    have sg := h s List.mem_cons_self
    obtain ⟨g1, g2, g3⟩ := turns_bk (w := w) (good := good) (s := s) (nexts w s m) a (fun x hx => ⟨told_fits sg hm x hx, (nexts_ok sg hm x hx).good.le⟩) o
    obtain ⟨h1, h2, h3⟩ := states_bk hm ss (bkState w m good a s) (fun t ht => h t (List.mem_cons_of_mem _ ht)) g1
    rw [List.foldl_cons]
    refine ⟨h1, fun t => ?_, fun j d => ?_⟩
    · rw [h2 t]
      have g2 := g2 t
      show t ∈ (bkState w m good a s).1 ∨ _ ↔ _
      unfold bkState
      rw [g2]
      constructor
      · rintro ((r | ⟨r, r2⟩) | ⟨r, r2⟩)
        · exact .inl r
        · subst r
          exact .inr ⟨List.mem_cons_self, r2⟩
        · exact .inr ⟨List.mem_cons_of_mem _ r, r2⟩
      · rintro (r | ⟨r, r2⟩)
        · exact .inl (.inl r)
        · rcases List.mem_cons.mp r with rfl | r
          · exact .inl (.inr ⟨rfl, r2⟩)
          · exact .inr ⟨r, r2⟩
    · rw [h3 j d]
      have g3 := g3 j d
      show seenAt (bkState w m good a s).2 j d ∨ _ ↔ _
      unfold bkState
      rw [g3]
      constructor
      · rintro ((r | r) | ⟨t, r, r2⟩)
        · exact .inl r
        · exact .inr ⟨s, List.mem_cons_self, r⟩
        · exact .inr ⟨t, List.mem_cons_of_mem _ r, r2⟩
      · rintro (r | ⟨t, r, r2⟩)
        · exact .inl (.inl r)
        · rcases List.mem_cons.mp r with rfl | r
          · exact .inl (.inr r2)
          · exact .inr ⟨t, r, r2⟩
end
theorem turn_mem {w : Nat} {m : Mode} : ∀ (xs : List Nx) (fr : List S) (t : S), t ∈ xs.foldl (fun fr x => ins fr x.1) fr ↔ t ∈ fr ∨ ∃ x ∈ xs, x.1 = t
  | [], fr, t => ⟨.inl, fun h => h.elim id fun ⟨_, hx, _⟩ => nomatch hx⟩
  | x :: xs, fr, t => by
    rw [List.foldl_cons, turn_mem (w := w) (m := m) xs, ins_mem]
    constructor
    · rintro ((r | r) | ⟨y, hy, r⟩)
      · exact .inr ⟨x, List.mem_cons_self, r.symm⟩
      · exact .inl r
      · exact .inr ⟨y, List.mem_cons_of_mem _ hy, r⟩
    · rintro (r | ⟨y, hy, r⟩)
      · exact .inl (.inr r)
      · rcases List.mem_cons.mp hy with rfl | hy
        · exact .inl (.inl r.symm)
        · exact .inr ⟨y, hy, r⟩
theorem lay_mem {w : Nat} {m : Mode} : ∀ (ss : List S) (fr : List S) (t : S), t ∈ ss.foldl (layTurn w m) fr ↔ t ∈ fr ∨ ∃ s ∈ ss, ∃ x ∈ nexts w s m, x.1 = t
  | [], fr, t => ⟨.inl, fun h => h.elim id fun ⟨_, hx, _⟩ => nomatch hx⟩
  | s :: ss, fr, t => by
    rw [List.foldl_cons, lay_mem ss]
    unfold layTurn
    rw [turn_mem (w := w) (m := m)]
    constructor
    · rintro ((r | r) | ⟨y, hy, r⟩)
      · exact .inl r
      · exact .inr ⟨s, List.mem_cons_self, r⟩
      · exact .inr ⟨y, List.mem_cons_of_mem _ hy, r⟩
    · rintro (r | ⟨y, hy, r⟩)
      · exact .inl (.inl r)
      · rcases List.mem_cons.mp hy with rfl | hy
        · exact .inl (.inr r)
        · exact .inr ⟨y, hy, r⟩
theorem next_mem {w : Nat} {m : Mode} {ss : List S} {t : S} : t ∈ layNext w m ss ↔ ∃ s ∈ ss, ∃ x ∈ nexts w s m, x.1 = t := by
  unfold layNext
  rw [lay_mem]
  exact ⟨fun h => h.elim (fun z => nomatch z) id, .inr⟩
end K77
set_option linter.all false
/-! K77N10: the sure row is what all told lines share. -/
namespace K77
theorem run_cons {m : Mode} {ms : List Mode} {c t : Bool} {x ds : Dots} : run (m :: ms) c t x = some ds ↔ x ≠ [] ∧ ∃ e c' ds', stepR m c t x = some (e, c') ∧ run ms c' true (x.drop e) = some ds' ∧ ds = toldBy m e c ++ ds' := by
  have e0 : run (m :: ms) c t x = if x = [] then none else match stepR m c t x with
    | none => none
    | some (e, c') => (run ms c' true (x.drop e)).map (toldBy m e c ++ ·) := rfl
  rw [e0]
  by_cases hx : x = []
  · rw [if_pos hx]
    exact ⟨fun h => (nomatch h), fun h => absurd hx h.1⟩
  · rw [if_neg hx]
    cases hs : stepR m c t x with
    | none => exact ⟨fun h => (nomatch h), fun ⟨_, e, c', ds', h, _⟩ => nomatch h⟩
    | some q =>
      obtain ⟨e, c'⟩ := q
      dsimp only
      constructor
      · intro h
        obtain ⟨ds', h1, h2⟩ := Option.map_eq_some_iff.mp h
        exact ⟨hx, e, c', ds', rfl, h1, h2.symm⟩
      · rintro ⟨_, e2, c2, ds', h1, h2, h3⟩
        cases h1
        rw [h2, h3]
        rfl
theorem pl_of_nx {w : Nat} {s : S} {m : Mode} {x : Nx} (hx : x ∈ nexts w s m) : s.pl < w := by
  unfold nexts at hx
  split at hx
  · cases hx
  · omega
theorem pl_of_ahead {w : Nat} {s : S} {z : Dots} (hz : Ahead w s z) (hn : z ≠ []) : s.pl < w := by
  have : z.length ≠ 0 := fun h => hn (List.eq_nil_of_length_eq_zero h)
  have := hz.1
  omega
section
variable {w : Nat} {m : Mode} {ms : List Mode}
/-- forward: from a state by a next state to a reading -/
theorem go_nx {s : S} (sg : SGood w s) (hm : ∀ d, m = .stay d → -3 ≤ d) {x : Nx} (hx : x ∈ nexts w s m) {z' ds' : Dots} (hz : Ahead w x.1 z') (hr : run ms x.1.co x.1.to z' = some ds') :
    ∃ z, Ahead w s z ∧ run (m :: ms) s.co s.to z = some (x.2.1 ++ ds') := by
  have hlt := pl_of_nx hx
  obtain ⟨z, e, h1, h2, h3, h4, h5⟩ := step_of_nx ⟨hlt, sg.kn, sg.to⟩ hm hx hz
  refine ⟨z, h1, run_cons.mpr ⟨fun q => ?_, e, x.1.co, ds', h2, ?_, by rw [h4]⟩⟩
  · have := h1.1
    rw [q, List.length_nil] at this
    omega
  · rw [h5, ← hr, (nexts_ok sg hm x hx).to]
/-- backward -/
theorem nx_go {s : S} (sg : SGood w s) (hm : ∀ d, m = .stay d → -3 ≤ d) {z ds : Dots} (hz : Ahead w s z) (hr : run (m :: ms) s.co s.to z = some ds) :
    ∃ x ∈ nexts w s m, ∃ z' ds', Ahead w x.1 z' ∧ run ms x.1.co x.1.to z' = some ds' ∧ ds = x.2.1 ++ ds' := by
  obtain ⟨hn, e, c', ds', h1, h2, h3⟩ := run_cons.mp hr
  have hlt := pl_of_ahead hz hn
  obtain ⟨x, hx, g1, g2, g3, g4⟩ := nx_of_step ⟨hlt, sg.kn, sg.to⟩ hm hz h1
  refine ⟨x, hx, z.drop e, ds', g4, ?_, by rw [h3, g3]⟩
  rw [(nexts_ok sg hm x hx).to, g2]
  exact h2
theorem alive_step {s : S} (sg : SGood w s) (hm : ∀ d, m = .stay d → -3 ≤ d) : Alive w (m :: ms) s ↔ ∃ x ∈ nexts w s m, Alive w ms x.1 := by
  constructor
  · rintro ⟨z, ds, hz, hr⟩
    obtain ⟨x, hx, z', ds', h1, h2, _⟩ := nx_go sg hm hz hr
    exact ⟨x, hx, z', ds', h1, h2⟩
  · rintro ⟨x, hx, z', ds', h1, h2⟩
    obtain ⟨z, h3, h4⟩ := go_nx sg hm hx h1 h2
    exact ⟨z, _, h3, h4⟩
theorem tells_step {s : S} (sg : SGood w s) (hm : ∀ d, m = .stay d → -3 ≤ d) {j : Nat} {d : Bool} :
    Tells w (m :: ms) s j d ↔ (∃ x ∈ nexts w s m, Alive w ms x.1 ∧ s.pl ≤ j ∧ x.2.1[j - s.pl]? = some d) ∨ ∃ x ∈ nexts w s m, Tells w ms x.1 j d := by
  constructor
  · rintro ⟨z, ds, hz, hr, hj, hd⟩
    obtain ⟨x, hx, z', ds', h1, h2, h3⟩ := nx_go sg hm hz hr
    have ht := told_fits sg hm x hx
    subst h3
    by_cases h : j - s.pl < x.2.1.length
    · rw [List.getElem?_append_left h] at hd
      exact .inl ⟨x, hx, ⟨z', ds', h1, h2⟩, hj, hd⟩
    · rw [List.getElem?_append_right (by omega)] at hd
      refine .inr ⟨x, hx, z', ds', h1, h2, by omega, ?_⟩
      rw [← hd]
      congr 1
      omega
  · rintro (⟨x, hx, ⟨z', ds', h1, h2⟩, hj, hd⟩ | ⟨x, hx, z', ds', h1, h2, hj, hd⟩)
    · obtain ⟨z, h3, h4⟩ := go_nx sg hm hx h1 h2
      refine ⟨z, _, h3, h4, hj, ?_⟩
      rw [List.getElem?_append_left (List.getElem?_eq_some_iff.mp hd).1]
      exact hd
    · have ht := told_fits sg hm x hx
      obtain ⟨z, h3, h4⟩ := go_nx sg hm hx h1 h2
      refine ⟨z, _, h3, h4, by omega, ?_⟩
      rw [List.getElem?_append_right (by omega), ← hd]
      congr 1
      omega
end
theorem back_all {w : Nat} : ∀ (ms : List Mode) (ss : List S) (seen : Seen), (∀ m ∈ ms, ∀ d, m = .stay d → -3 ≤ d) → LayOk w ss → SnOk w seen →
    SnOk w (backAll w ms ss ((lastLay w ms ss).filter fun s => decide (s.pl = w), seen)).2 ∧
    (∀ s, s ∈ (backAll w ms ss ((lastLay w ms ss).filter fun s => decide (s.pl = w), seen)).1 ↔ s ∈ ss ∧ Alive w ms s) ∧
    ∀ j d, seenAt (backAll w ms ss ((lastLay w ms ss).filter fun s => decide (s.pl = w), seen)).2 j d ↔ seenAt seen j d ∨ ∃ s ∈ ss, Tells w ms s j d
  | [], ss, seen, _, lo, so => by
    refine ⟨so, fun s => ?_, fun j d => ?_⟩
    · show s ∈ ss.filter (fun s => decide (s.pl = w)) ↔ _
      rw [List.mem_filter, decide_eq_true_iff]
      constructor
      · rintro ⟨h1, h2⟩
        exact ⟨h1, [], [], ⟨by rw [h2, Nat.sub_self]; rfl, by simp [Fits]⟩, rfl⟩
      · rintro ⟨h1, z, ds, h2, h3⟩
        refine ⟨h1, ?_⟩
        have hz : z = [] := Decidable.byContradiction fun hn => by
          have : run [] s.co s.to z = none := if_neg hn
          rw [this] at h3
          cases h3
        have h4 := h2.1
        have h5 := (lo.good s h1).le
        rw [hz, List.length_nil] at h4
        omega
    · show seenAt seen j d ↔ _
      refine ⟨.inl, fun h => h.elim id ?_⟩
      rintro ⟨s, h1, z, ds, h2, h3, h4, h5⟩
      have hd : ds = [] := by
        have e : run [] s.co s.to z = if z = [] then some [] else none := rfl
        rw [e] at h3
        split at h3
        · exact (Option.some.inj h3).symm
        · cases h3
      rw [hd] at h5
      simp at h5
  | m :: ms, ss, seen, hm, lo, so => by
    have hm0 := hm m List.mem_cons_self
    obtain ⟨i1, i2, i3⟩ := back_all ms (layNext w m ss) seen (fun m' h => hm m' (List.mem_cons_of_mem _ h)) (lo.next hm0) so
    obtain ⟨g1, g2, g3⟩ := states_bk (w := w) (m := m) (good := (backAll w ms (layNext w m ss) ((lastLay w ms (layNext w m ss)).filter fun s => decide (s.pl = w), seen)).1) hm0 ss ([], (backAll w ms (layNext w m ss) ((lastLay w ms (layNext w m ss)).filter fun s => decide (s.pl = w), seen)).2) lo.good i1
    refine ⟨g1, fun s => ?_, fun j d => ?_⟩
    · refine (g2 s).trans ?_
      constructor
      · rintro (h | ⟨h, x, hx, hx2⟩)
        · exact nomatch h
        · exact ⟨h, (alive_step (lo.good s h) hm0).mpr ⟨x, hx, ((i2 x.1).mp hx2).2⟩⟩
      · rintro ⟨h, ha⟩
        obtain ⟨x, hx, hx2⟩ := (alive_step (lo.good s h) hm0).mp ha
        exact .inr ⟨h, x, hx, (i2 x.1).mpr ⟨next_mem.mpr ⟨s, h, x, hx, rfl⟩, hx2⟩⟩
    · refine (g3 j d).trans ?_
      rw [i3 j d]
      constructor
      · rintro ((h | ⟨t, ht, h⟩) | ⟨s, hs, x, hx, hx2, h1, h2⟩)
        · exact .inl h
        · obtain ⟨s, hs, x, hx, e⟩ := next_mem.mp ht
          subst e
          exact .inr ⟨s, hs, (tells_step (lo.good s hs) hm0).mpr (.inr ⟨x, hx, h⟩)⟩
        · exact .inr ⟨s, hs, (tells_step (lo.good s hs) hm0).mpr (.inl ⟨x, hx, ((i2 x.1).mp hx2).2, h1, h2⟩)⟩
      · rintro (h | ⟨s, hs, h⟩)
        · exact .inl (.inl h)
        · rcases (tells_step (lo.good s hs) hm0).mp h with ⟨x, hx, hx2, h1, h2⟩ | ⟨x, hx, h⟩
          · exact .inr ⟨s, hs, x, hx, (i2 x.1).mpr ⟨next_mem.mpr ⟨s, hs, x, hx, rfl⟩, hx2⟩, h1, h2⟩
          · exact .inl (.inr ⟨x.1, next_mem.mpr ⟨s, hs, x, hx, rfl⟩, h⟩)
theorem last_lay {w : Nat} : ∀ (ms : List Mode) (ss : List S), (∀ m ∈ ms, ∀ d, m = .stay d → -3 ≤ d) → LayOk w ss → ((lastLay w ms ss).filter (fun s => decide (s.pl = w)) ≠ [] ↔ ∃ s ∈ ss, Alive w ms s)
  | [], ss, _, lo => by
    have h := (back_all (w := w) [] ss (List.replicate w []) (fun _ h => nomatch h) lo SnOk.begin).2.1
    constructor
    · intro hn
      obtain ⟨s, hs⟩ := List.exists_mem_of_ne_nil _ hn
      have := (h s).mp hs
      exact ⟨s, this.1, this.2⟩
    · rintro ⟨s, hs, ha⟩ hn
      have := (h s).mpr ⟨hs, ha⟩
      rw [hn] at this
      exact nomatch this
  | m :: ms, ss, hm, lo => by
    have hm0 := hm m List.mem_cons_self
    refine (last_lay ms (layNext w m ss) (fun m' h => hm m' (List.mem_cons_of_mem _ h)) (lo.next hm0)).trans ?_
    constructor
    · rintro ⟨t, ht, ha⟩
      obtain ⟨s, hs, x, hx, e⟩ := next_mem.mp ht
      subst e
      exact ⟨s, hs, (alive_step (lo.good s hs) hm0).mpr ⟨x, hx, ha⟩⟩
    · rintro ⟨s, hs, ha⟩
      obtain ⟨x, hx, h⟩ := (alive_step (lo.good s hs) hm0).mp ha
      exact ⟨x.1, next_mem.mpr ⟨s, hs, x, hx, rfl⟩, h⟩
/-! ### the row -/
/-- the law's row of some lines -/
def lawSign (ls : List Dots) (k : Nat) : Option Bool := match ls with
  | [] => none
  | l :: _ => if ls.all (fun l' => decide (l'[k]? = l[k]?)) = true then l[k]? else none
def lawRow (w : Nat) (ls : List Dots) : Option Row := if ls = [] then none else some ((List.range w).map (lawSign ls))
theorem ahead_begin {w : Nat} {z : Dots} : Ahead w sBegin z ↔ z.length = w := by
  unfold Ahead
  constructor
  · exact fun h => h.1
  · exact fun h => ⟨h, by simp [Fits, sBegin]⟩
theorem allL_mem : ∀ (n : Nat) (x : Dots), x ∈ allL n ↔ x.length = n
  | 0, x => by
    show x ∈ [[]] ↔ _
    rw [List.mem_singleton]
    exact ⟨fun h => by rw [h]; rfl, List.eq_nil_of_length_eq_zero⟩
  | n + 1, x => by
    constructor
    · exact allL_len (n + 1) x
    · intro h
      have hne : x ≠ [] := by
        intro z
        rw [z] at h
        cases h
      have e : x = x.dropLast ++ [x.getLast hne] := (List.dropLast_concat_getLast hne).symm
      show x ∈ (allL n).flatMap fun l => [l ++ [true], l ++ [false]]
      refine List.mem_flatMap.mpr ⟨x.dropLast, (allL_mem n _).mpr (by rw [List.length_dropLast, h]; rfl), ?_⟩
      rw [e]
      generalize x.getLast hne = b
      rw [List.dropLast_concat]
      cases b <;> simp
theorem good_mem {w : Nat} {ms : List Mode} {l : Dots} : l ∈ goodL w ms ↔ ∃ x, x.length = w ∧ rd x ms = some l := by
  unfold goodL
  rw [List.mem_filterMap]
  constructor
  · rintro ⟨x, h1, h2⟩
    exact ⟨x, (allL_mem w x).mp h1, h2⟩
  · rintro ⟨x, h1, h2⟩
    exact ⟨x, (allL_mem w x).mpr h1, h2⟩
theorem run_len : ∀ (ms : List Mode) (c t : Bool) (x ds : Dots), run ms c t x = some ds → ds.length = x.length
  | [], c, t, x, ds, h => by
    have e : run [] c t x = if x = [] then some [] else none := rfl
    rw [e] at h
    split at h
    · rename_i hx
      rw [← Option.some.inj h, hx]
    · cases h
  | m :: ms, c, t, x, ds, h => by
    obtain ⟨_, e, c', ds', h1, h2, h3⟩ := run_cons.mp h
    obtain ⟨h4, h5⟩ := told_len h1
    have := run_len ms c' true _ _ h2
    rw [List.length_drop] at this
    rw [h3, List.length_append, h4, this]
    omega
theorem good_len {w : Nat} {ms : List Mode} {l : Dots} (h : l ∈ goodL w ms) : l.length = w := by
  obtain ⟨x, h1, h2⟩ := good_mem.mp h
  rw [← h1]
  exact run_len ms false false x l h2
theorem bool_list {ks : List Bool} (nd : ks.Nodup) : (∃ d, ks = [d]) ↔ ∃ d, ∀ c, c ∈ ks ↔ c = d := by
  constructor
  · rintro ⟨d, rfl⟩
    exact ⟨d, fun c => List.mem_singleton⟩
  · rintro ⟨d, h⟩
    match ks, nd, h with
    | [], _, h => exact nomatch (h d).mpr rfl
    | [c], _, h => exact ⟨c, rfl⟩
    | a :: b :: r, nd, h =>
      have h1 := (h a).mp List.mem_cons_self
      have h2 := (h b).mp (List.mem_cons_of_mem _ List.mem_cons_self)
      have := (List.nodup_cons.mp nd).1
      rw [h1, ← h2] at this
      exact absurd List.mem_cons_self this
theorem sure_law {w : Nat} {ms : List Mode} (hm : ∀ m ∈ ms, ∀ d, m = .stay d → -3 ≤ d) : sureRow w ms = lawRow w (goodL w ms) := by
  have hl := last_lay (w := w) ms [sBegin] hm LayOk.begin
  obtain ⟨h1, _, h3⟩ := back_all (w := w) ms [sBegin] (List.replicate w []) hm LayOk.begin SnOk.begin
  have halive : (∃ s ∈ [sBegin], Alive w ms s) ↔ goodL w ms ≠ [] := by
    constructor
    · rintro ⟨s, hs, z, ds, hz, hr⟩
      rw [List.mem_singleton.mp hs] at hz hr
      have : ds ∈ goodL w ms := good_mem.mpr ⟨z, ahead_begin.mp hz, hr⟩
      intro e
      rw [e] at this
      exact nomatch this
    · intro hn
      obtain ⟨l, hlm⟩ := List.exists_mem_of_ne_nil _ hn
      obtain ⟨x, hx, hr⟩ := good_mem.mp hlm
      exact ⟨sBegin, List.mem_cons_self, x, l, ahead_begin.mpr hx, hr⟩
  unfold sureRow lawRow goodEnd
  by_cases hg : goodL w ms = []
  · have e : (lastLay w ms [sBegin]).filter (fun s => decide (s.pl = w)) = [] := Decidable.byContradiction fun h => absurd hg (halive.mp (hl.mp h))
    rw [if_pos e, if_pos hg]
  · have e : ¬ (lastLay w ms [sBegin]).filter (fun s => decide (s.pl = w)) = [] := hl.mpr (halive.mpr hg)
    rw [if_neg e, if_neg hg]
    congr 1
    generalize (backAll w ms [sBegin] ((lastLay w ms [sBegin]).filter fun s => decide (s.pl = w), List.replicate w [])).2 = seen at h1 h3 ⊢
    have hseen : ∀ j d, j < w → (d ∈ seen.getD j [] ↔ ∃ l ∈ goodL w ms, l[j]? = some d) := by
      intro j d hj
      refine (h3 j d).trans ?_
      have h0 : ¬ seenAt (List.replicate w []) j d := by
        unfold seenAt
        rw [List.getD_eq_getElem?_getD, List.getElem?_replicate]
        split <;> simp
      constructor
      · rintro (h | ⟨s, hs, z, ds, hz, hr, _, hd⟩)
        · exact absurd h h0
        · rw [List.mem_singleton.mp hs] at hz hr hd
          exact ⟨ds, good_mem.mpr ⟨z, ahead_begin.mp hz, hr⟩, hd⟩
      · rintro ⟨l, hlm, hd⟩
        obtain ⟨x, hx, hr⟩ := good_mem.mp hlm
        exact .inr ⟨sBegin, List.mem_cons_self, x, l, ahead_begin.mpr hx, hr, Nat.zero_le _, hd⟩
    refine List.ext_getElem? fun j => ?_
    unfold rowOf
    rw [List.getElem?_map, List.getElem?_map]
    by_cases hj : j < w
    · have hj2 : j < seen.length := by
        rw [h1.len]
        exact hj
      rw [List.getElem?_range hj, List.getElem?_eq_getElem hj2]
      have hgD : seen.getD j [] = seen[j] := by
        rw [List.getD_eq_getElem?_getD, List.getElem?_eq_getElem hj2]
        rfl
      have hs := fun d => hseen j d hj
      rw [hgD] at hs
      have nd := h1.nd _ (List.getElem_mem hj2)
      generalize seen[j] = ks at hs nd
      have hlen : ∀ l ∈ goodL w ms, l.length = w := fun l h => good_len h
      generalize goodL w ms = gl at hg hs hlen
      show some _ = some _
      congr 1
      match gl, hg, hs, hlen with
      | l :: r, _, hs, hlen =>
        have hjl : j < l.length := by
          rw [hlen l List.mem_cons_self]
          exact hj
        have el : l[j]? = some l[j] := List.getElem?_eq_getElem hjl
        unfold lawSign
        dsimp only
        by_cases hall : (l :: r).all (fun l' => decide (l'[j]? = l[j]?)) = true
        · rw [if_pos hall]
          have hk : ∃ d, ks = [d] := by
            refine (bool_list nd).mpr ⟨l[j], fun c => ?_⟩
            rw [hs c]
            constructor
            · rintro ⟨l', h, hc⟩
              have := of_decide_eq_true (List.all_eq_true.mp hall l' h)
              rw [hc, el] at this
              exact Option.some.inj this
            · intro h
              exact ⟨l, List.mem_cons_self, by rw [h, el]⟩
          obtain ⟨d, rfl⟩ := hk
          have : d = l[j] := (List.mem_singleton.mp ((hs l[j]).mpr ⟨l, List.mem_cons_self, el⟩)).symm
          rw [el, ← this]
        · rw [if_neg hall]
          match ks, nd, hs with
          | [], _, _ => rfl
          | [d], _, hs =>
            exfalso
            apply hall
            refine List.all_eq_true.mpr fun l' h => decide_eq_true ?_
            have hl' : j < l'.length := by
              rw [hlen l' h]
              exact hj
            have e1 : l'[j]? = some l'[j] := List.getElem?_eq_getElem hl'
            have g1 := List.mem_singleton.mp ((hs l'[j]).mpr ⟨l', h, e1⟩)
            have g2 := List.mem_singleton.mp ((hs l[j]).mpr ⟨l, List.mem_cons_self, el⟩)
            rw [e1, el, g1, g2]
          | _ :: _ :: _, _, _ => rfl
    · rw [List.getElem?_eq_none (by rw [h1.len]; omega), List.getElem?_eq_none (by rw [List.length_range]; omega)]
      rfl
end K77
set_option linter.all false
/-! K77N11: the law's lines in their order. -/
namespace K77
def keyF (k : Nat) (l : Dots) : Nat := l.foldl (fun k d => 2 * k + (if d = true then 0 else 1)) k
def key (l : Dots) : Nat := keyF 0 l
theorem keyF_eq : ∀ (l : Dots) (k : Nat), keyF k l = 2 ^ l.length * k + keyF 0 l
  | [], k => by
    show k = 1 * k + 0
    omega
  | d :: l, k => by
    show keyF (2 * k + (if d = true then 0 else 1)) l = 2 ^ (l.length + 1) * k + keyF (2 * 0 + (if d = true then 0 else 1)) l
    rw [keyF_eq l (2 * k + _), keyF_eq l (2 * 0 + _), Nat.pow_succ, Nat.mul_add, Nat.mul_add, Nat.mul_assoc]
    omega
theorem keyF_lt : ∀ (l : Dots), keyF 0 l < 2 ^ l.length
  | [] => by decide
  | d :: l => by
    have := keyF_lt l
    show keyF (2 * 0 + (if d = true then 0 else 1)) l < 2 ^ (l.length + 1)
    rw [keyF_eq, Nat.pow_succ]
    cases d
    · show 2 ^ l.length * 1 + _ < _
      omega
    · show 2 ^ l.length * 0 + _ < _
      omega
theorem key_snoc (l : Dots) (b : Bool) : key (l ++ [b]) = 2 * key l + (if b = true then 0 else 1) := by
  unfold key keyF
  rw [List.foldl_append]
  rfl
theorem key_cons (d : Bool) (l : Dots) : key (d :: l) = 2 ^ l.length * (if d = true then 0 else 1) + key l := by
  show keyF (2 * 0 + _) l = _
  rw [keyF_eq, Nat.mul_zero, Nat.zero_add]
  rfl
theorem key_inj : ∀ {a b : Dots}, a.length = b.length → key a = key b → a = b
  | [], [], _, _ => rfl
  | x :: a, y :: b, hl, h => by
    have hl : a.length = b.length := by simpa using hl
    have ha := keyF_lt a
    have hb := keyF_lt b
    rw [key_cons, key_cons, hl] at h
    rw [hl] at ha
    have ha : key a < 2 ^ b.length := ha
    have hb : key b < 2 ^ b.length := hb
    have hk : x = y → key a = key b → x :: a = y :: b := fun e1 e2 => by rw [e1, key_inj (a := a) (b := b) hl e2]
    cases x <;> cases y <;> simp at h
    · exact hk rfl h
    · omega
    · omega
    · exact hk rfl h
theorem allL_rise : ∀ n, (allL n).Pairwise fun a b => key a ≤ key b
  | 0 => List.pairwise_singleton _ _
  | n + 1 => by
    show ((allL n).flatMap fun l => [l ++ [true], l ++ [false]]).Pairwise _
    have ih := allL_rise n
    have hl := allL_len n
    have strict : (allL n).Pairwise fun a b => key a < key b := by
      have hnd : (allL n).Nodup := by
        clear ih hl
        induction n with
        | zero => exact List.nodup_cons.mpr ⟨nofun, List.nodup_nil⟩
        | succ n ih =>
          show ((allL n).flatMap fun l => [l ++ [true], l ++ [false]]).Nodup
          generalize allL n = ls at ih
          induction ls with
          | nil => exact List.nodup_nil
          | cons a ls ih2 =>
            have h2 := List.nodup_cons.mp ih
            rw [List.flatMap_cons]
            refine List.nodup_append.mpr ⟨by simp, ih2 h2.2, fun x hx y hy e => ?_⟩
            subst e
            obtain ⟨b, hb, hy⟩ := List.mem_flatMap.mp hy
            have hd : a = b := by
              have e1 : x.dropLast = a := by
                rcases List.mem_cons.mp hx with rfl | hx
                · exact List.dropLast_concat
                · rw [List.mem_singleton.mp hx]
                  exact List.dropLast_concat
              have e2 : x.dropLast = b := by
                rcases List.mem_cons.mp hy with rfl | hy
                · exact List.dropLast_concat
                · rw [List.mem_singleton.mp hy]
                  exact List.dropLast_concat
              rw [← e1, ← e2]
            exact h2.1 (hd ▸ hb)
      have : (allL n).Pairwise fun a b => key a ≤ key b ∧ a ≠ b := ih.and hnd
      refine List.Pairwise.imp_of_mem (fun {a b} ha hb h => ?_) this
      have : key a ≠ key b := fun z => h.2 (key_inj ((hl a ha).trans (hl b hb).symm) z)
      omega
    clear ih hl
    generalize allL n = ls at strict
    induction ls with
    | nil => exact List.Pairwise.nil
    | cons a ls ih =>
      have h2 := List.pairwise_cons.mp strict
      rw [List.flatMap_cons]
      refine List.pairwise_append.mpr ⟨?_, ih h2.2, fun x hx y hy => ?_⟩
      · refine List.pairwise_cons.mpr ⟨fun y hy => ?_, List.pairwise_singleton _ _⟩
        rw [List.mem_singleton.mp hy, key_snoc, key_snoc]
        simp
      · obtain ⟨b, hb, hy⟩ := List.mem_flatMap.mp hy
        have hab := h2.1 b hb
        have hx2 : key x ≤ 2 * key a + 1 := by
          rcases List.mem_cons.mp hx with rfl | hx
          · rw [key_snoc]
            simp
          · rw [List.mem_singleton.mp hx, key_snoc]
            simp
        have hy2 : 2 * key b ≤ key y := by
          rcases List.mem_cons.mp hy with rfl | hy
          · rw [key_snoc]
            simp
          · rw [List.mem_singleton.mp hy, key_snoc]
            simp
        omega
/-- the lines as the law makes them -/
def lawL : Nat → List Dots
  | 0 => [[]]
  | n + 1 => (lawL n).map (fun l => l ++ [true]) ++ (lawL n).map fun l => l ++ [false]
theorem two_perm (f g : Dots → Dots) : ∀ ls : List Dots, (ls.map f ++ ls.map g).Perm (ls.flatMap fun l => [f l, g l])
  | [] => .refl _
  | a :: ls => by
    rw [List.map_cons, List.map_cons, List.flatMap_cons]
    show (f a :: (ls.map f ++ g a :: ls.map g)).Perm (f a :: g a :: ls.flatMap _)
    refine .cons _ ?_
    exact List.perm_middle.trans (.cons _ (two_perm f g ls))
theorem flat_perm {α β : Type} (f : α → List β) {a b : List α} (h : a.Perm b) : (a.flatMap f).Perm (b.flatMap f) := by
  induction h with
  | nil => exact .refl _
  | cons x _ ih =>
    rw [List.flatMap_cons, List.flatMap_cons]
    exact .append (.refl _) ih
  | swap x y l =>
    rw [List.flatMap_cons, List.flatMap_cons, List.flatMap_cons, List.flatMap_cons, ← List.append_assoc, ← List.append_assoc]
    exact .append List.perm_append_comm (.refl _)
  | trans _ _ h1 h2 => exact h1.trans h2
theorem lawL_perm : ∀ n, (lawL n).Perm (allL n)
  | 0 => .refl _
  | n + 1 => (two_perm _ _ (lawL n)).trans (flat_perm _ (lawL_perm n))
theorem lawL_len {n : Nat} : ∀ l ∈ lawL n, l.length = n := fun l h => allL_len n l ((lawL_perm n).mem_iff.mp h)
/-- what rises and holds the law's lines is the package's lines -/
theorem sorted_all {n : Nat} {ls : List Dots} (hp : ls.Perm (lawL n)) (hs : ls.Pairwise fun a b => key a ≤ key b) : ls = allL n := by
  have hp2 := hp.trans (lawL_perm n)
  exact List.Perm.eq_of_pairwise (le := fun a b => key a ≤ key b) (fun a b ha hb h1 h2 => key_inj ((allL_len n a (hp2.mem_iff.mp ha)).trans (allL_len n b hb).symm) (Nat.le_antisymm h1 h2)) hs (allL_rise n) hp2
end K77
set_option linter.all false
/-! K77N12: tellings that tell one line beside all references; runs, then a stay or a pass. -/
namespace K77
theorem allL_sm1 (n : Nat) : (allL n).length = 2 ^ n := allL_count n
theorem fm_const {α β : Type} {f : α → Option β} {b : β} : ∀ (l : List α), (∀ x ∈ l, f x = some b) → l.filterMap f = List.replicate l.length b
  | [], _ => rfl
  | x :: l, h => by
    rw [List.filterMap_cons, h x List.mem_cons_self]
    dsimp only
    rw [fm_const l fun y hy => h y (List.mem_cons_of_mem _ hy)]
    rfl
section
variable {w : Nat} {ms : List Mode} {L : Dots}
theorem const_good (h : ∀ x : Dots, x.length = w → rd x ms = some L) : goodL w ms = List.replicate (2 ^ w) L := by
  unfold goodL
  rw [fm_const (allL w) fun x hx => h x (allL_len w x hx), allL_count]
theorem const_none (hm : ∀ m ∈ ms, ∀ d, m = .stay d → -3 ≤ d) (h : ∀ x : Dots, x.length = w → rd x ms = some L) : manyBy w ms none = 2 ^ w := by
  rw [many_none hm, const_good h, List.length_replicate]
theorem const_some (hm : ∀ m ∈ ms, ∀ d, m = .stay d → -3 ≤ d) (hl : L.length = w) (h : ∀ x : Dots, x.length = w → rd x ms = some L) : manyBy w ms (some L) = 2 ^ w := by
  rw [many_some hl hm, const_good h, List.count_replicate_self]
theorem const_row (hm : ∀ m ∈ ms, ∀ d, m = .stay d → -3 ≤ d) (hl : L.length = w) (h : ∀ x : Dots, x.length = w → rd x ms = some L) : sureRow w ms = some (L.map some) := by
  rw [sure_law hm, const_good h]
  have h2 : 0 < 2 ^ w := Nat.two_pow_pos w
  obtain ⟨k, hk⟩ : ∃ k, 2 ^ w = k + 1 := ⟨2 ^ w - 1, by omega⟩
  rw [hk, List.replicate_succ]
  unfold lawRow
  rw [if_neg (List.cons_ne_nil _ _)]
  congr 1
  refine List.ext_getElem? fun j => ?_
  rw [List.getElem?_map, List.getElem?_map]
  by_cases hj : j < w
  · have hj2 : j < L.length := by omega
    rw [List.getElem?_range hj, List.getElem?_eq_getElem hj2]
    show some _ = some _
    congr 1
    unfold lawSign
    dsimp only
    rw [if_pos, List.getElem?_eq_getElem hj2]
    refine List.all_eq_true.mpr fun l' h' => decide_eq_true ?_
    rcases List.mem_cons.mp h' with rfl | h'
    · rfl
    · rw [List.eq_of_mem_replicate h']
  · rw [List.getElem?_eq_none (by rw [List.length_range]; omega), List.getElem?_eq_none (by omega)]
    rfl
end
/-! ### tiles -/
/-- what stands so far of a telling by runs alone -/
structure Tiles (w : Nat) (ms : List Mode) (p : Nat) (ds : Dots) : Prop where
  le : p ≤ w
  len : ds.length = p
  num : ms.length ≤ p
  ok : ∀ m ∈ ms, ∃ n k, m = .runs n k ∧ n ≤ w ∧ k ≤ w
  go : ∀ (rest : List Mode) (x : Dots), x.length = w → run (ms ++ rest) false false x = (run rest false (decide (ms ≠ [])) (x.drop p)).map (ds ++ ·)
theorem Tiles.nil (w : Nat) : Tiles w [] 0 [] := ⟨Nat.zero_le _, rfl, Nat.le_refl _, fun _ h => (nomatch h), fun rest x _ => by
  show run rest false false x = (run rest false false x).map ([] ++ ·)
  cases run rest false false x <;> rfl⟩
theorem Tiles.step {w : Nat} {ms : List Mode} {p : Nat} {ds : Dots} (t : Tiles w ms p ds) {n k : Nat} (hn : 1 ≤ n) (hk : p + n + k ≤ w) (h0 : k = 0 → p + n = w) :
    Tiles w (ms ++ [.runs n k]) (p + n + k) (ds ++ (List.replicate n false ++ List.replicate k true)) := by
  have hle := t.le
  refine ⟨hk, ?_, ?_, fun m hm => ?_, fun rest x hx => ?_⟩
  · rw [List.length_append, List.length_append, List.length_replicate, List.length_replicate, t.len]
    omega
  · rw [List.length_append]
    have := t.num
    show ms.length + 1 ≤ _
    omega
  · rcases List.mem_append.mp hm with h | h
    · exact t.ok m h
    · exact ⟨n, k, List.mem_singleton.mp h, by omega, by omega⟩
  · rw [List.append_assoc, t.go _ x hx]
    have hne : x.drop p ≠ [] := by
      intro z
      have := congrArg List.length z
      rw [List.length_drop, List.length_nil] at this
      omega
    have hst : stepR (.runs n k) false (decide (ms ≠ [])) (x.drop p) = some (n + k, false) := by
      unfold stepR
      dsimp only
      rw [List.length_drop, if_neg]
      rintro (h | ⟨h, _⟩ | ⟨h, h'⟩)
      · omega
      · omega
      · have := h0 h
        omega
    have e1 : run ([.runs n k] ++ rest) false (decide (ms ≠ [])) (x.drop p) = (run rest false true ((x.drop p).drop (n + k))).map (toldBy (.runs n k) (n + k) false ++ ·) := by
      show (if x.drop p = [] then none else match stepR (.runs n k) false (decide (ms ≠ [])) (x.drop p) with
        | none => none
        | some (e, c') => (run rest c' true ((x.drop p).drop e)).map (toldBy (.runs n k) e false ++ ·)) = _
      rw [if_neg hne, hst]
    rw [e1, Option.map_map, List.drop_drop]
    have e2 : decide (ms ++ [Mode.runs n k] ≠ []) = true := decide_eq_true (by simp)
    rw [e2, ← Nat.add_assoc]
    congr 1
    funext l
    show ds ++ (List.replicate n false ++ List.replicate k true ++ l) = _
    rw [List.append_assoc ds]
theorem Tiles.done {w : Nat} {ms : List Mode} {ds : Dots} (t : Tiles w ms w ds) : ∀ x : Dots, x.length = w → rd x ms = some ds := by
  intro x hx
  have := t.go [] x hx
  rw [List.append_nil, List.drop_eq_nil_of_le (by omega)] at this
  show run ms false false x = _
  rw [this]
  show some (ds ++ []) = _
  rw [List.append_nil]
theorem Tiles.nostay {w : Nat} {ms : List Mode} {p : Nat} {ds : Dots} (t : Tiles w ms p ds) : ∀ m ∈ ms, ∀ d, m = .stay d → -3 ≤ d := fun m hm d hd => by
  obtain ⟨n, k, h, _⟩ := t.ok m hm
  rw [hd] at h
  cases h
/-! ### runs, then one mode more -/
/-- is there a reading -/
def gets (m : Mode) (y : Dots) : Nat := match run [m] false true y with
  | none => 0
  | some _ => 1
theorem runs_then {w j : Nat} {m : Mode} (hj : 2 ≤ j) (hw : j < w) (hm : ∀ d, m = .stay d → -3 ≤ d) : manyBy w [.runs 1 (j - 1), m] none = 2 ^ j * T (w - j) [] (gets m) := by
  rw [many_sum (w := w) (line := none) (by intro l h; cases h) (fun m' h d hd => by
    rcases List.mem_cons.mp h with rfl | h
    · cases hd
    · rw [List.mem_singleton.mp h] at hd
      exact hm d hd), ← T_free j w (gets m) (by omega)]
  refine T_congr _ _ fun x hx => ?_
  have t1 := (Tiles.nil w).step (n := 1) (k := j - 1) (by omega) (by omega) (by omega)
  have hgo := t1.go [m] x hx
  unfold cont gets
  have e1 : run [.runs 1 (j - 1), m] false false x = (run [m] false true (x.drop j)).map ([] ++ (List.replicate 1 false ++ List.replicate (j - 1) true) ++ ·) := by
    rw [show 0 + 1 + (j - 1) = j by omega] at hgo
    exact hgo
  rw [e1]
  cases run [m] false true (x.drop j) <;> rfl
theorem said1 {w : Nat} (hw : 4 ≤ w) : manyBy w [.runs 1 (w - 2), .stay 0] none = 2 ^ w := by
  have h := runs_then (w := w) (j := w - 1) (m := .stay 0) (by omega) (by omega) (fun d h => by cases h; decide)
  rw [show w - 1 - 1 = w - 2 by omega, show w - (w - 1) = 1 by omega] at h
  rw [h, show T 1 [] (gets (.stay 0)) = 2 by decide]
  obtain ⟨k, hk⟩ : ∃ k, w = k + 1 := ⟨w - 1, by omega⟩
  rw [hk, Nat.add_sub_cancel, Nat.pow_succ]
theorem said2 {w : Nat} (hw : 4 ≤ w) : manyBy w [.runs 1 (w - 2), .pass] none = 0 := by
  have h := runs_then (w := w) (j := w - 1) (m := .pass) (by omega) (by omega) (fun d h => by cases h)
  rw [show w - 1 - 1 = w - 2 by omega, show w - (w - 1) = 1 by omega] at h
  rw [h, show T 1 [] (gets .pass) = 0 by decide, Nat.mul_zero]
theorem said3 {w : Nat} (hw : 4 ≤ w) : manyBy w [.runs 1 (w - 3), .stay 0] none = 2 ^ w / 4 * 3 := by
  have h := runs_then (w := w) (j := w - 2) (m := .stay 0) (by omega) (by omega) (fun d h => by cases h; decide)
  rw [show w - 2 - 1 = w - 3 by omega, show w - (w - 2) = 2 by omega] at h
  rw [h, show T 2 [] (gets (.stay 0)) = 3 by decide]
  obtain ⟨k, hk⟩ : ∃ k, w = k + 2 := ⟨w - 2, by omega⟩
  rw [hk, Nat.add_sub_cancel, Nat.pow_succ, Nat.pow_succ]
  omega
theorem said4 {w : Nat} (hw : 4 ≤ w) : manyBy w [.runs 1 (w - 3), .pass] none = 2 ^ w / 4 := by
  have h := runs_then (w := w) (j := w - 2) (m := .pass) (by omega) (by omega) (fun d h => by cases h)
  rw [show w - 2 - 1 = w - 3 by omega, show w - (w - 2) = 2 by omega] at h
  rw [h, show T 2 [] (gets .pass) = 1 by decide]
  obtain ⟨k, hk⟩ : ∃ k, w = k + 2 := ⟨w - 2, by omega⟩
  rw [hk, Nat.add_sub_cancel, Nat.pow_succ, Nat.pow_succ]
  omega
def lastL (w : Nat) : Dots := List.replicate 1 false ++ List.replicate (w - 2) true ++ [false]
theorem last_read {w : Nat} (hw : 4 ≤ w) : ∀ x : Dots, x.length = w → rd x [.runs 1 (w - 2), .stay 0] = some (lastL w) := by
  intro x hx
  have t1 := (Tiles.nil w).step (n := 1) (k := w - 2) (by omega) (by omega) (by omega)
  have hgo := t1.go [.stay 0] x hx
  rw [show 0 + 1 + (w - 2) = w - 1 by omega] at hgo
  have hy : (x.drop (w - 1)).length = 1 := by
    rw [List.length_drop]
    omega
  have e0 : run [.stay 0] false (decide (([] : List Mode) ++ [Mode.runs 1 (w - 2)] ≠ [])) (x.drop (w - 1)) = some [false] := by
    generalize x.drop (w - 1) = y at hy
    match y, hy with
    | [d], _ => cases d <;> rfl
  rw [e0] at hgo
  exact hgo
end K77
set_option Elab.async false
set_option linter.all false
set_option maxRecDepth 100000
set_option maxHeartbeats 4000000
/-! K77B: the program's text by places, a def's promise by its name, the way dots stand as signs. -/
namespace K77
open PySem PySem.Spec PyProof.Rows L2
/-! ### the text -/
def topS (i : Nat) : Stmt := PySem.Challenge.pw_faxhouse_k77_whole_sureness_by_all_lines.main.body.getD i (.Pass ⟨0, 0, 0, 0⟩)
abbrev sIsWhole : Stmt := topS 8
abbrev sIsLine : Stmt := topS 9
abbrev sOtherColour : Stmt := topS 10
abbrev sIsMode : Stmt := topS 20
abbrev sIsFull : Stmt := topS 21
abbrev sNeedTelling : Stmt := topS 22
abbrev sChangeFrom : Stmt := topS 23
abbrev sChangeBack : Stmt := topS 24
abbrev sAfterMode : Stmt := topS 25
abbrev sDotsOf : Stmt := topS 26
abbrev sReadBeside : Stmt := topS 27
abbrev sNeedWidth : Stmt := topS 32
abbrev sNeedBeside : Stmt := topS 33
abbrev sBegunWith : Stmt := topS 34
abbrev sChangesFrom : Stmt := topS 35
abbrev sBacksFrom : Stmt := topS 36
abbrev sSkipped : Stmt := topS 37
abbrev sStaysFrom : Stmt := topS 38
abbrev sEndsFrom : Stmt := topS 39
abbrev sNextStates : Stmt := topS 40
abbrev sManyBy : Stmt := topS 41
abbrev sManyRight : Stmt := topS 42
abbrev sManyTelling : Stmt := topS 43
abbrev sLayersOf : Stmt := topS 44
abbrev sSureIn : Stmt := topS 45
abbrev sSure : Stmt := topS 46
abbrev sLinesOfWidth : Stmt := topS 47
abbrev sNeedTwo : Stmt := topS 48
abbrev sApart : Stmt := topS 49
abbrev sAlike : Stmt := topS 50
abbrev sLMix : Stmt := topS 52
abbrev sLBegun : Stmt := topS 53
abbrev sLDraw : Stmt := topS 54
abbrev sLChange : Stmt := topS 55
abbrev sLAgain : Stmt := topS 56
abbrev sLStep : Stmt := topS 57
abbrev sLRead : Stmt := topS 58
abbrev sLLine : Stmt := topS 59
abbrev sLWalk : Stmt := topS 60
abbrev sLEvery : Stmt := topS 61
abbrev sLRow : Stmt := topS 62
abbrev sLBent : Stmt := topS 63
abbrev sLRight : Stmt := topS 64
abbrev sLFreeRight : Stmt := topS 65
abbrev sLaw : Stmt := topS 66
/-- what the top has bound -/
structure Tx (K : PySem.W.Frag) (mg : Str → Option Value) : Prop where
  len_ : mg "len" = none
  isinstance_ : mg "isinstance" = none
  int_ : mg "int" = none
  bool_ : mg "bool" = none
  str_ : mg "str" = none
  tuple_ : mg "tuple" = none
  all_ : mg "all" = none
  enumerate_ : mg "enumerate" = none
  range_ : mg "range" = none
  min_ : mg "min" = none
  sum_ : mg "sum" = none
  list_ : mg "list" = none
  sorted_ : mg "sorted" = none
  set_ : mg "set" = none
  repr_ : mg "repr" = none
  WHITE : ∃ t, mg "WHITE" = some (.str "." t)
  BLACK : ∃ t, mg "BLACK" = some (.str "#" t)
  STAY : ∃ t, mg "STAY" = some (.str "stay" t)
  PASS : ∃ t, mg "PASS" = some (.str "pass" t)
  RUNS : ∃ t, mg "RUNS" = some (.str "runs" t)
  FULL : ∃ t, mg "FULL" = some (.str "full" t)
  UNSURE : ∃ t, mg "UNSURE" = some (.str "?" t)
  MOST_WIDTH : ∃ t, mg "MOST_WIDTH" = some (.int 40 t)
  MOST_MODES : ∃ t, mg "MOST_MODES" = some (.int 80 t)
  MOST_STAY : ∃ t, mg "MOST_STAY" = some (.int 3 t)
  MOST_ALIKE : ∃ t, mg "MOST_ALIKE" = some (.int 12 t)
  WINDOW : ∃ t, mg "WINDOW" = some (.int 4 t)
/-! ### a def by its name -/
abbrev FnP (K : PySem.W.Frag) (x : Str) (st : Stmt) (f : Addr) (fd : FuncData) : Prop := FunD K x x (defArgs st) (defBody st) (defScope st) [] [] f fd
/-- the def stands under its name -/
def Stands (K : PySem.W.Frag) (mg : Str → Option Value) (x : Str) (st : Stmt) : Prop := ∃ f fd, mg x = some (.ref f) ∧ FnP K x st f fd
/-- what a def under a name promises -/
def Has (P : Program) (w : World) (K : PySem.W.Frag) (mg : Str → Option Value) (base : Heap) (x : Str) (ps : List Str) (k : Nat) (sp : Sp) : Prop :=
  ∃ f fd, mg x = some (.ref f) ∧ PySem.W.keepIn K (.ref f) = true ∧ Binds K fd ps [] ∧ FnOk P w K mg base CX0 k f fd ps sp
section
variable {P : Program} {w : World} {K : PySem.W.Frag} {mg : Str → Option Value} {base : Heap} {x : Str} {st : Stmt} {N ps : List Str} {k j : Nat} {sp : Sp}
/-- the context of a def's body -/
abbrev CtX (P : Program) (w : World) (K : PySem.W.Frag) (mg : Str → Option Value) (base : Heap) (N : List Str) (x : Str) (st : Stmt) (f : Addr) (cdv : Value) (A : Around) (outer : List Env) (s : Shared) (H : Hp) (E : XK) : Cx :=
  (cxOf CX0 P w K mg base N x (defScope st) f cdv A outer s H E).nox
theorem has_of (D : Stands K mg x st) (S : FnScope N ps (defScope st))
    (hb : ∀ (kV doc pm : Value) (an : Option Addr) (cdv ct : Value) (us : List Value), us.length = ps.length → bindArgs (PySem.W.fnOf x x (defArgs st) (defBody st) (defScope st) .none kV doc pm an cdv ct) ⟨us, []⟩ = pure (ps.zip us))
    (len : ∀ vs H Q E, sp vs H Q E → vs.length = ps.length)
    (body : ∀ (f : Addr) (cdv : Value) (A : Around) (outer : List Env) (s : Shared) (H : Hp) (vs : List V) (Q : VK) (E : XK), Room k (CtX P w K mg base N x st f cdv A outer s H E).A → sp vs H Q E →
      ∃ t, PSs (CtX P w K mg base N x st f cdv A outer s H E) (defBody st) t ∧ t { nx := fun _ H' => Q .non H', rt := Q } (start N vs) H) : Has P w K mg base x ps (k + 1) sp := by
  obtain ⟨f, fd, g, F⟩ := D
  refine ⟨f, fd, g, F.kp, F.bindsN hb, F.ok S len fun cdv A outer s H vs Q E hr h => ?_⟩
  obtain ⟨t, p, q⟩ := body f cdv A outer s H vs Q E hr h
  exact ⟨t, PSs.nox p, q⟩
end
section
variable {X : Cx} {x : Str} {ps : List Str} {k : Nat} {sp : Sp} {p pos : Pos} {e : Expr} {es : List Expr} {t : TA}
/-- a call of a def by its promise -/
theorem pe_do (h : Has X.prog X.w X.K X.mg X.base x ps k sp) (hr : Room k X.A) (ha : PA X (e :: es) t) (hg : Gl X x := by rfl) (hdb : (x == ("__debug__" : Str)) = false := by decide)
    (he : starEach (e :: es) X.env = (false, eval e X.env) :: starEach es X.env := by rfl) (hpl : (backTo pos (starEach es X.env)).any (·.1) = false := by rfl) :
    PE X (.Call (.Name x p) (e :: es) [] pos) (tCall sp [] E0 t) := by
  obtain ⟨f, fd, g, kp, b, F⟩ := h
  exact pe_call F hr hg g kp b .nil pass0 ha hdb he hpl
end
section
variable {X : Cx} {x : Str} {pos : Pos}
/-- a module's text, int -/
theorem pe_gs {z : Str} {t : Tok} (hm : X.mg x = some (.str z t)) (hg : Gl X x := by rfl) (hd : (x == ("__debug__" : Str)) = false := by decide) : PE X (.Name x pos) (tC (.str z)) := pe_glob hg hm ⟨t, rfl⟩ hd
theorem pe_gi {i : Int} {t : Tok} (hm : X.mg x = some (.int i t)) (hg : Gl X x := by rfl) (hd : (x == ("__debug__" : Str)) = false := by decide) : PE X (.Name x pos) (tC (.int i)) := pe_glob hg hm ⟨t, rfl⟩ hd
end
/-- t[i] of a tuple; len of a tuple or list -/
abbrev ixT {X : Cx} {a b : Expr} {ta tb : TE} {pos : Pos} (ha : PE X a ta) (hb : PE X b tb) (hs : PlainIx b := by exact fun _ _ => rfl) := pe_ix (pos := pos) (X := X) ix_tup ha hb hs
/-! ### dots as signs -/
def dc (b : Bool) : Nat := if b = true then 35 else 46
def enc (l : Dots) : Str := ⟨(l.map dc).toArray⟩
def col (b : Bool) : Str := enc [b]
theorem col_w : col false = "." := by decide +kernel
theorem col_b : col true = "#" := by decide +kernel
theorem enc_len (l : Dots) : (enc l).length = l.length := by
  show (l.map dc).toArray.size = _
  simp
theorem dc_inj {a b : Bool} (h : dc a = dc b) : a = b := by
  cases a <;> cases b <;> first | rfl | cases h
theorem map_dc_inj : ∀ {a b : Dots}, a.map dc = b.map dc → a = b
  | [], [], _ => rfl
  | [], _ :: _, h => by simp at h
  | _ :: _, [], h => by simp at h
  | x :: a, y :: b, h => by
    rw [List.map_cons, List.map_cons] at h
    injection h with h1 h2
    rw [dc_inj h1, map_dc_inj h2]
theorem enc_inj {a b : Dots} (h : enc a = enc b) : a = b := by
  have e : (a.map dc).toArray = (b.map dc).toArray := congrArg Str.cps h
  exact map_dc_inj (by simpa using congrArg Array.toList e)
theorem enc_iff {a b : Dots} : enc a = enc b ↔ a = b := ⟨enc_inj, fun e => by rw [e]⟩
theorem enc_app (a b : Dots) : enc a ++ enc b = enc (a ++ b) := by
  show Str.mk ((a.map dc).toArray ++ (b.map dc).toArray) = Str.mk ((a ++ b).map dc).toArray
  rw [List.map_append]
  simp
theorem Tx.white {K : PySem.W.Frag} {mg : Str → Option Value} (T : Tx K mg) : ∃ t, mg "WHITE" = some (.str (col false) t) := by
  obtain ⟨t, h⟩ := T.WHITE
  exact ⟨t, by rw [h, col_w]⟩
theorem Tx.black {K : PySem.W.Frag} {mg : Str → Option Value} (T : Tx K mg) : ∃ t, mg "BLACK" = some (.str (col true) t) := by
  obtain ⟨t, h⟩ := T.BLACK
  exact ⟨t, by rw [h, col_b]⟩
theorem col_inj {a b : Bool} (h : col a = col b) : a = b := by
  have e := enc_inj h
  injection e
theorem col_dec (a b : Bool) : decide (V.str (col a) = V.str (col b)) = (a == b) := by
  cases a <;> cases b <;> first | rfl | (exact decide_eq_false fun z => by injection z with z; exact absurd (col_inj z) (by decide)) | (exact decide_eq_true rfl)
theorem enc_dec (a b : Dots) : decide (V.str (enc a) = V.str (enc b)) = decide (a = b) := by
  by_cases h : a = b
  · subst h
    simp
  · rw [decide_eq_false h]
    exact decide_eq_false fun z => by
      injection z with z
      exact h (enc_inj z)
theorem enc_nil : enc [] = "" := by decide +kernel
theorem enc_at {l : Dots} {i : Nat} {b : Bool} (h : l[i]? = some b) : atI (enc l).cps.toList (i : Int) = some (dc b) := by
  refine atI_nat ?_
  show (l.map dc).toArray.toList[i]? = _
  rw [List.toList_toArray, List.getElem?_map, h]
  rfl
theorem enc_szl {l : Dots} (h : l.length ≤ 1000) : (enc l).length ≤ sizeLine := by
  rw [enc_len, sizeLine_eq]
  omega
/-! ### modes, tellings -/
def modeV : Mode → List V
  | .stay d => [.str "stay", .int d]
  | .pass => [.str "pass"]
  | .runs n m => [.str "runs", .int n, .int m]
def ModeAt (H : Hp) (a : Addr) (m : Mode) : Prop := H a = some (.tup (modeV m))
def TelAt (H : Hp) (t : Addr) (ms : List Mode) : Prop := ∃ as : List Addr, H t = some (.tup (as.map V.ref)) ∧ Paired (ModeAt H) as ms
/-- a mode of the interface -/
def MOk : Mode → Prop
  | .stay d => -3 ≤ d ∧ d ≤ 3
  | .pass => True
  | .runs n m => n ≤ 40 ∧ m ≤ 40
theorem TelAt.same {H H' : Hp} {t : Addr} {ms : List Mode} (h : TelAt H t ms) (s : Same H H') : TelAt H' t ms := by
  obtain ⟨as, e, p⟩ := h
  exact ⟨as, s _ _ e, Paired.mapP p fun a m q => s _ _ q⟩
theorem same_new {H : Hp} {p : Addr} {o : HO} (h : H p = none) : Same H (upd H p o) := fun b x e => by
  rw [upd_ne (ne_of_none e h)]
  exact e
/-- an object that stood not at first may change -/
theorem same_mut {H H' : Hp} {p : Addr} {o : HO} (s : Same H H') (h : H p = none) : Same H (upd H' p o) := fun b x e => by
  rw [upd_ne (ne_of_none e h)]
  exact s _ _ e
theorem TelAt.get {H : Hp} {t : Addr} {ms : List Mode} (h : TelAt H t ms) : ∃ as : List Addr, H t = some (.tup (as.map V.ref)) ∧ as.length = ms.length ∧ ∀ (i : Nat) (m : Mode), ms[i]? = some m → ∃ a, as[i]? = some a ∧ ModeAt H a m := by
  obtain ⟨as, e, p⟩ := h
  refine ⟨as, e, Paired.length p, ?_⟩
  clear e
  induction p with
  | nil => intro i m h; simp at h
  | @cons a m as ms q t ih =>
    intro i m' h
    cases i with
    | zero =>
      simp only [List.getElem?_cons_zero, Option.some.injEq] at h
      subst h
      exact ⟨a, rfl, q⟩
    | succ i =>
      simp only [List.getElem?_cons_succ] at h ⊢
      exact ih i m' h
end K77
set_option Elab.async false
set_option linter.all false
set_option maxRecDepth 100000
set_option maxHeartbeats 4000000
/-! K77D: the dicts whose keys are states (tuples of an int, a text, a bool, a text). -/
namespace K77
open PySem PySem.Spec PyProof.Rows L2
/-- a state as a tuple's items, as a key -/
def skV (s : S) : List V := [.int s.pl, .str (col s.co), .bl s.to, .str (enc s.kn)]
def skL (s : S) : List Leaf := [.num s.pl, .text (col s.co), .num (if s.to = true then 1 else 0), .text (enc s.kn)]
theorem skL_inj {a b : S} (h : skL a = skL b) : a = b := by
  obtain ⟨p, c, t, k⟩ := a
  obtain ⟨p', c', t', k'⟩ := b
  unfold skL at h
  injection h with h1 h
  injection h with h2 h
  injection h with h3 h
  injection h with h4 _
  injection h1 with h1
  injection h2 with h2
  injection h3 with h3
  injection h4 with h4
  have e1 : p = p' := by
    have z : (p : Int) = (p' : Int) := h1
    omega
  have e2 : c = c' := by
    have z := enc_inj h2
    injection z
  have e4 : k = k' := enc_inj h4
  have e3 : t = t' := by
    dsimp only at h3
    cases t <;> cases t' <;> first | rfl | (simp at h3)
  rw [e1, e2, e3, e4]
theorem skL_iff {a b : S} : skL a = skL b ↔ a = b := ⟨skL_inj, fun e => by rw [e]⟩
theorem skV_inj {a b : S} (h : skV a = skV b) : a = b := by
  obtain ⟨p, c, t, k⟩ := a
  obtain ⟨p', c', t', k'⟩ := b
  unfold skV at h
  injection h with h1 h
  injection h with h2 h
  injection h with h3 h
  injection h with h4 _
  injection h1 with h1
  injection h2 with h2
  injection h3 with h3
  injection h4 with h4
  have e1 : p = p' := by
    have z : (p : Int) = (p' : Int) := h1
    omega
  have e2 : c = c' := by
    have z := enc_inj h2
    injection z
  rw [e1, e2, show t = t' from h3, show k = k' from enc_inj h4]
abbrev sKnd (P : Program) (w : World) : HeapKind P w (List Leaf) := tupleKind (leafKind P w)
/-- an entry: the key, where its tuple stands, the value -/
abbrev Ent := S × Addr × V
abbrev EntsAre : List Ent → List (List Leaf × Addr × Value) → Prop := Paired fun p q => skL p.1 = q.1 ∧ p.2.1 = q.2.1 ∧ RelV p.2.2 q.2.2
/-- the dict itself -/
def DsO (P : Program) (w : World) (a : Addr) (kvs : List Ent) : HO := .ext fun h => kvs.length ≤ sizeLine ∧ (a == sysModules) = false ∧ ∃ xs, EntsAre kvs xs ∧
  ∃ o es ep, h.get? a = some o ∧ o.ExactDict ∧ o.data = .dict es ep ∧ es.toList = xs.map (entryOfKey (sKnd P w)) ∧ (xs.map (·.1)).Nodup
/-- the keys' own tuples -/
def KeysAt (H : Hp) (kvs : List Ent) : Prop := ∀ x ∈ kvs, H x.2.1 = some (.tup (skV x.1))
def prs (kvs : List Ent) : List (S × V) := kvs.map fun x => (x.1, x.2.2)
/-- at a stands such a dict, with these pairs: to be written, to be read -/
def DsAt (P : Program) (w : World) (H : Hp) (a : Addr) (ps : List (S × V)) : Prop := ∃ kvs, H a = some (DsO P w a kvs) ∧ KeysAt H kvs ∧ prs kvs = ps
def putE (kvs : List Ent) (s : S) (b : Addr) (v : V) : List Ent := if (kvs.any fun x => decide (x.1 = s)) = true then kvs.map (fun x => if x.1 = s then (x.1, x.2.1, v) else x) else kvs ++ [(s, b, v)]
theorem prs_any (s : S) (kvs : List Ent) : ((prs kvs).any fun x => decide (x.1 = s)) = kvs.any fun x => decide (x.1 = s) := by
  unfold prs
  rw [List.any_map]
  rfl
theorem prs_put (kvs : List Ent) (s : S) (b : Addr) (v : V) : prs (putE kvs s b v) = putK (prs kvs) s v := by
  unfold putE putK
  rw [prs_any]
  by_cases h : (kvs.any fun x => decide (x.1 = s)) = true
  · rw [if_pos h, if_pos h]
    unfold prs
    rw [List.map_map, List.map_map]
    refine List.map_congr_left fun x _ => ?_
    by_cases e : x.1 = s <;> simp [e]
  · rw [if_neg h, if_neg h]
    simp [prs]
theorem putE_keys {H : Hp} {kvs : List Ent} {s : S} {b : Addr} {v : V} (k : KeysAt H kvs) (hb : H b = some (.tup (skV s))) : KeysAt H (putE kvs s b v) := by
  intro x hx
  unfold putE at hx
  split at hx
  · obtain ⟨y, hy, e⟩ := List.mem_map.mp hx
    by_cases q : y.1 = s
    · rw [if_pos q] at e
      rw [← e]
      exact k y hy
    · rw [if_neg q] at e
      rw [← e]
      exact k y hy
  · rcases List.mem_append.mp hx with hx | hx
    · exact k x hx
    · rw [List.mem_singleton.mp hx]
      exact hb
theorem putE_len (kvs : List Ent) (s : S) (b : Addr) (v : V) : (putE kvs s b v).length ≤ kvs.length + 1 := by
  unfold putE
  split
  · rw [List.length_map]
    omega
  · rw [List.length_append, List.length_singleton]
    omega
section
variable {P : Program} {w : World} {H : Hp} {h : Heap} {a b : Addr} {s : S}
/-- a tracked tuple of such items is a key -/
theorem sk_is (ok : HOk P w H h) (e : H b = some (.tup (skV s))) : (sKnd P w).is h (skL s) b := by
  obtain ⟨_, its, r, o, h1, h2, n, h3⟩ := (show ObjOk P w H h b (.tup (skV s)) from ok b _ e)
  refine ⟨o, its.toArray, n, h1, h2, h3, ?_⟩
  have r' : Vals [.int s.pl, .str (col s.co), .bl s.to, .str (enc s.kn)] its := r
  cases r' with
  | cons q1 r1 => cases r1 with
    | cons q2 r2 => cases r2 with
      | cons q3 r3 => cases r3 with
        | cons q4 r4 =>
          cases r4
          obtain ⟨t1, rfl⟩ := q1
          obtain ⟨t2, rfl⟩ := q2
          obtain ⟨t4, rfl⟩ := q4
          cases q3
          refine .cons ?_ (.cons ?_ (.cons ?_ (.cons ?_ .nil)))
          · show decide ((s.pl : Int) = s.pl) = true
            exact decide_eq_true rfl
          · show Value.isStrOf (col s.co) (.str (col s.co) t2) = true
            simp [Value.isStrOf]
          · show decide ((if s.to = true then (1 : Int) else 0) = if s.to = true then 1 else 0) = true
            exact decide_eq_true rfl
          · show Value.isStrOf (enc s.kn) (.str (enc s.kn) t4) = true
            simp [Value.isStrOf]
theorem ents_mem {kvs : List Ent} {xs : List (List Leaf × Addr × Value)} (r : EntsAre kvs xs) (k : KeysAt H kvs) (ok : HOk P w H h) : ∀ x ∈ xs, (sKnd P w).is h x.1 x.2.1 := by
  induction r with
  | nil =>
    intro x hx
    cases hx
  | @cons p q ps qs hq t ih =>
    intro x hx
    rcases List.mem_cons.mp hx with e | hx
    · subst e
      rw [← hq.1, ← hq.2.1]
      exact sk_is ok (k p List.mem_cons_self)
    · exact ih (fun y hy => k y (List.mem_cons_of_mem _ hy)) x hx
/-- what the library's rules ask of it -/
theorem ds_raw {kvs : List Ent} (ok : HOk P w H h) (e : Rd H a (DsO P w a kvs)) (k : KeysAt H kvs) : kvs.length ≤ sizeLine ∧ (a == sysModules) = false ∧ ∃ xs, EntsAre kvs xs ∧ h.DictOfH (sKnd P w) a xs := by
  obtain ⟨⟨z, y, xs, r, o, es, ep, h1, h2, h3, h4, h5⟩, _, _⟩ := (show ObjOk P w H h a (DsO P w a kvs) from e.ok ok)
  exact ⟨z, y, xs, r, o, es, ep, h1, h2, h3, h4, ents_mem r k ok, h5⟩
theorem ds_new {kvs : List Ent} {xs : List (List Leaf × Addr × Value)} {H' : Hp} (z : kvs.length ≤ sizeLine) (y : (a == sysModules) = false) (r : EntsAre kvs xs) (dd : h.DictOfH (sKnd P w) a xs) : ObjOk P w H' h a (DsO P w a kvs) := by
  obtain ⟨o, es, ep, h1, h2, h3, h4, _, h5⟩ := dd
  refine ⟨⟨z, y, xs, r, o, es, ep, h1, h2, h3, h4, h5⟩, ⟨o, h1⟩, ?_⟩
  rintro g g' ⟨z, y, xs, r, o, es, ep, q1, q⟩ k
  exact ⟨z, y, xs, r, o, es, ep, k o q1, q⟩
end
theorem ents_look {kvs : List Ent} {xs : List (List Leaf × Addr × Value)} (r : EntsAre kvs xs) (s : S) : RelO (valV (prs kvs) s) ((atKey xs (skL s)).map (·.2)) := by
  induction r with
  | nil => exact True.intro
  | @cons p q ps qs h t ih =>
    obtain ⟨h1, h2, h3⟩ := h
    have hp : prs (p :: ps) = (p.1, p.2.2) :: prs ps := rfl
    rw [hp]
    by_cases e : p.1 = s
    · have e' : q.1 = skL s := by rw [← h1, e]
      rw [valV_pos (p := (p.1, p.2.2)) e, show atKey (q :: qs) (skL s) = some q.2 by simp [atKey, List.find?_cons, e']]
      exact h3
    · have e' : ¬ q.1 = skL s := fun z => e (skL_inj (h1.trans z))
      rw [valV_neg (p := (p.1, p.2.2)) e, show atKey (q :: qs) (skL s) = atKey qs (skL s) by simp [atKey, List.find?_cons, e']]
      exact ih
theorem ents_any {kvs : List Ent} {xs : List (List Leaf × Addr × Value)} (r : EntsAre kvs xs) (s : S) : (kvs.any fun x => decide (x.1 = s)) = (atKey xs (skL s)).isSome := by
  have h := (ents_look r s).isSome_eq
  rw [Option.isSome_map, ← valV_any, prs_any] at h
  exact h
theorem ents_put {kvs : List Ent} {xs : List (List Leaf × Addr × Value)} (r : EntsAre kvs xs) (s : S) {b : Addr} {v : V} {u : Value} (rv : RelV v u) : EntsAre (putE kvs s b v) (storedH xs (skL s) b u) := by
  unfold putE storedH
  rw [ents_any r s]
  by_cases q : (atKey xs (skL s)).isSome = true
  · rw [if_pos q, if_pos q]
    clear q
    induction r with
    | nil => exact .nil
    | @cons p q ps qs h t ih =>
      rw [List.map_cons, List.map_cons]
      refine .cons ?_ ih
      obtain ⟨h1, h2, h3⟩ := h
      unfold putAt
      by_cases e : p.1 = s
      · rw [if_pos e, if_pos (h1 ▸ e ▸ rfl : q.1 = skL s)]
        exact ⟨h1, h2, rv⟩
      · rw [if_neg e, if_neg (fun z => e (skL_inj (h1.trans z)))]
        exact ⟨h1, h2, h3⟩
  · rw [if_neg q, if_neg q]
    exact Paired.snoc r ⟨rfl, rfl, rv⟩

/-! ### frames -/
theorem DsAt.same {P : Program} {w : World} {H H' : Hp} {a : Addr} {ps : List (S × V)} (d : DsAt P w H a ps) (k : Same H H') : DsAt P w H' a ps := by
  obtain ⟨kvs, e, q, r⟩ := d
  exact ⟨kvs, k _ _ e, fun x hx => k _ _ (q x hx), r⟩
/-- another object is written, that is no tuple -/
theorem DsAt.upd {P : Program} {w : World} {H : Hp} {a b : Addr} {ps : List (S × V)} {o : HO} (d : DsAt P w H a ps) (hb : b ≠ a) (nt : ∀ xs, H b ≠ some (.tup xs)) : DsAt P w (upd H b o) a ps := by
  obtain ⟨kvs, e, q, r⟩ := d
  refine ⟨kvs, ?_, fun x hx => ?_, r⟩
  · rw [upd_ne hb.symm]
    exact e
  · have z := q x hx
    rw [upd_ne (fun e => nt _ (e ▸ z))]
    exact z
theorem DsAt.some {P : Program} {w : World} {H : Hp} {a : Addr} {ps : List (S × V)} (d : DsAt P w H a ps) : ∃ o, H a = Option.some o := let ⟨_, e, _⟩ := d; ⟨_, e⟩
theorem DsAt.ext {P : Program} {w : World} {H : Hp} {a : Addr} {ps : List (S × V)} (d : DsAt P w H a ps) : ∃ φ, H a = Option.some (.ext φ) := let ⟨_, e, _⟩ := d; ⟨_, e⟩

/-! ### the operations -/
section
variable {X : Cx} {pins : List (Addr × Obj)} {σ : L2.St} {H : Hp} {s : Shared} {a b : Addr} {ps : List (S × V)} {k : S} {v : V} {u r : Value} {A : Around} {E : Value → Shared → Prop}
theorem room_of (hu : A.units + 1 < cLine) : (sKnd X.prog X.w).room A.in1 := tupleKind_room_in1 hu
theorem ds_get2 {Q : Value → Shared → Prop} (hu : A.units + 1 < cLine) (I : Inv X pins σ H s) (d : DsAt X.prog X.w H a ps) (hb : H b = some (.tup (skV k))) (rv : RelV v r)
    (h : ∀ w' s', Inv X pins σ H s' → RelV ((valV ps k).getD v) w' → Q w' s') : wpAny (model X.prog X.w) A (call (.builtin "dict.get") [.ref a, .ref b, r]) Q E s := by
  obtain ⟨kvs, e, ka, rfl⟩ := d
  obtain ⟨z, hd, xs, rel, dd⟩ := ds_raw I.hok (.inl e) ka
  have q := (ents_look rel k).getD rv
  exact call_meetsIn PySem.F.slot_dict_get dd.typeIs PySem.F.entry_dict_get (PySem.F.args_dict_get_3 _ _ _) (meetsH_dict_get_default (sKnd X.prog X.w) a b hd r) ⟨room_of hu, skL k, xs, sk_is I.hok hb, dd, h _ _ (I.tok _) q⟩
theorem ds_in {Q : Value → Shared → Prop} (hu : A.units + 1 < cLine) (I : Inv X pins σ H s) (d : DsAt X.prog X.w H a ps) (hb : H b = some (.tup (skV k)))
    (h : ∀ s', Inv X pins σ H s' → Q (.bool (valV ps k).isSome) s') : wpAny (model X.prog X.w) A (compareOp .In (.ref b) (.ref a)) Q E s := by
  obtain ⟨kvs, e, ka, rfl⟩ := d
  obtain ⟨z, hd, xs, rel, dd⟩ := ds_raw I.hok (.inl e) ka
  refine wpAny_in_heap (room_of hu) (sk_is I.hok hb) hd dd ?_
  have q := (ents_look rel k).isSome_eq
  rw [Option.isSome_map] at q
  rw [← q]
  exact h _ (I.tok _)
/-- the dict's object is replaced -/
theorem ds_write {kvs kvs' : List Ent} {xs : List (List Leaf × Addr × Value)} {h' : Heap} {t' : Nat} (I : Inv X pins σ H s) (e : H a = some (DsO X.prog X.w a kvs)) (hs : Heap.SameBut a s.heap h') (z : kvs'.length ≤ sizeLine) (y : (a == sysModules) = false) (r : EntsAre kvs' xs)
    (dd : h'.DictOfH (sKnd X.prog X.w) a xs) : Inv X pins σ (upd H a (DsO X.prog X.w a kvs')) { s with heap := h', toks := t' } := by
  have he : ∃ q, h'.get? a = some q := let ⟨q, _, _, hq, _⟩ := dd; ⟨q, hq⟩
  exact I.write (x := a) (e := a) (by rw [e]; exact True.intro) (.inl rfl) (fun c q hc z => (hs.2 c hc).trans z) he (ds_new z y r dd)
theorem ds_put_at {kvs : List Ent} (ka : KeysAt H kvs) (e : H a = some (DsO X.prog X.w a kvs)) (hb : H b = some (.tup (skV k))) : DsAt X.prog X.w (upd H a (DsO X.prog X.w a (putE kvs k b v))) a (putK (prs kvs) k v) := by
  refine ⟨_, upd_same, fun x hx => ?_, prs_put kvs k b v⟩
  have q := putE_keys ka hb x hx
  rw [upd_ne (ne_of q e (fun z => nomatch z))]
  exact q
theorem ds_set {Q : Unit → Shared → Prop} (hu : A.units + 1 < cLine) (I : Inv X pins σ H s) (d : DsAt X.prog X.w H a ps) (hb : H b = some (.tup (skV k))) (hl : ps.length < sizeLine) (rv : RelV v r)
    (h : ∀ s' o, Inv X pins σ (upd H a o) s' → DsAt X.prog X.w (upd H a o) a (putK ps k v) → Q () s') : wpAny (model X.prog X.w) A (setItem (.ref a) (.ref b) r) Q E s := by
  obtain ⟨kvs, e, ka, rfl⟩ := d
  obtain ⟨z, hd, xs, rel, dd⟩ := ds_raw I.hok (.inl e) ka
  have hz : xs.length ≤ sizeLine := by rw [← Paired.length rel]; exact z
  have hl' : (putE kvs k b v).length ≤ sizeLine := by
    have := putE_len kvs k b v
    unfold prs at hl
    rw [List.length_map] at hl
    omega
  refine wpAny_setItem_heap (hsz := hz) (room_of hu) (sk_is I.hok hb) dd fun h' dd' hs => ?_
  exact h _ _ (ds_write I e hs hl' hd (ents_put rel k rv) dd') (ds_put_at ka e hb)
theorem ds_set_in {Q : Unit → Shared → Prop} (hu : A.units < cLine) (I : Inv X pins σ H s) (d : DsAt X.prog X.w H a ps) (hb : H b = some (.tup (skV k))) (hl : ps.length < sizeLine) (rv : RelV v r)
    (h : ∀ s' o, Inv X pins σ (upd H a o) s' → DsAt X.prog X.w (upd H a o) a (putK ps k v) → Q () s') : wpAny (model X.prog X.w) A (dictSet a (.ref b) r) Q E s := by
  obtain ⟨kvs, e, ka, rfl⟩ := d
  obtain ⟨z, hd, xs, rel, dd⟩ := ds_raw I.hok (.inl e) ka
  have hz : xs.length ≤ sizeLine := by rw [← Paired.length rel]; exact z
  have hl' : (putE kvs k b v).length ≤ sizeLine := by
    have := putE_len kvs k b v
    unfold prs at hl
    rw [List.length_map] at hl
    omega
  refine wpAny_dictSet_heap (hsz := hz) (show (sKnd X.prog X.w).room A from hu) (sk_is I.hok hb) dd fun h' dd' hs => ?_
  exact h _ _ (ds_write I e hs hl' hd (ents_put rel k rv) dd') (ds_put_at ka e hb)
end
theorem ds_empty {P : Program} {w : World} {H : Hp} (h : Heap) (hb : sysModules < h.objs.size) : ObjOk P w H (h.push { cls := .type "dict", data := .dict #[] }) h.objs.size (DsO P w h.objs.size []) :=
  ds_new (xs := []) (Nat.zero_le _) (beq_eq_false_iff_ne.mpr (Ne.symm (Nat.ne_of_lt hb))) .nil ⟨_, #[], 0, Heap.get?_push_size _ rfl, ⟨rfl, rfl, rfl⟩, rfl, rfl, (fun _ q => nomatch q), List.nodup_nil⟩
theorem DsAt.new {P : Program} {w : World} {H : Hp} {a : Addr} : DsAt P w (L2.upd H a (DsO P w a [])) a [] := ⟨[], upd_same, (fun _ q => nomatch q), rfl⟩
/-- {} , {k: v}, d.get(k, x), k in d, d[k] = v -/
def tSNew (P : Program) (w : World) : TE := fun _ H Q => ∀ p, H p = none → Q (.ref p) (upd H p (DsO P w p []))
def tSOne (P : Program) (w : World) (tk tv : TE) : TE := fun σ H Q => ∀ p, H p = none → tk σ (upd H p (DsO P w p [])) fun y H1 => tv σ H1 fun z H2 => ∃ b k, y = .ref b ∧ H2 b = some (.tup (skV k)) ∧ H2 p = some (DsO P w p []) ∧
  ∀ o, DsAt P w (upd H2 p o) p [(k, z)] → Q (.ref p) (upd H2 p o)
def tSGet (P : Program) (w : World) (td ty tx : TE) : TE := fun σ H Q => td σ H fun x H1 => (∃ a ps, x = .ref a ∧ DsAt P w H1 a ps) ∧ ty σ H1 fun y H2 => tx σ H2 fun z H3 => ∃ a b ps k, x = .ref a ∧ y = .ref b ∧ DsAt P w H3 a ps ∧ H3 b = some (.tup (skV k)) ∧ Q ((valV ps k).getD z) H3
def tSIn (P : Program) (w : World) (ty td : TE) : TE := fun σ H Q => ty σ H fun y H1 => td σ H1 fun x H2 => ∃ a b ps k, x = .ref a ∧ y = .ref b ∧ DsAt P w H2 a ps ∧ H2 b = some (.tup (skV k)) ∧ Q (.bl (valV ps k).isSome) H2
def sSPut (P : Program) (w : World) (td ty tv : TE) : TS := fun D σ H => tv σ H fun v H1 => td σ H1 fun x H2 => ty σ H2 fun y H3 => ∃ a b ps k, x = .ref a ∧ y = .ref b ∧ DsAt P w H3 a ps ∧ H3 b = some (.tup (skV k)) ∧ ps.length < sizeLine ∧
  ∀ o, DsAt P w (upd H3 a o) a (putK ps k v) → D.nx σ (upd H3 a o)
section
variable {X : Cx} {o i e f value k v : Expr} {pos pos' apos cpos : Pos} {td ty tv tx tk : TE}
theorem pe_snew : PE X (.Dict [] [] pos) (tSNew X.prog X.w) := ⟨fun pins s σ H Q I h =>
  wpAny_Dict_empty ⟨.ref s.heap.objs.size, _, I.laid (a := s.heap.objs.size) (o := DsO X.prog X.w s.heap.objs.size []) (t' := s.toks) (fun _ _ q => Heap.get?_push_of_some _ q) (Nat.le_refl _) (ds_empty s.heap I.big), rfl, h _ (I.hok.fresh (Nat.le_refl _))⟩⟩
theorem pe_sone (hu : X.A.units < cLine) (hk : PE X k tk) (hv : PE X v tv) : PE X (.Dict [some k] [v] pos) (tSOne X.prog X.w tk tv) := by
  refine ⟨fun pins s σ H Q I q => ?_⟩
  have hn := I.hok.fresh (Nat.le_refl s.heap.objs.size)
  have I1 := I.laid (a := s.heap.objs.size) (o := DsO X.prog X.w s.heap.objs.size []) (h' := s.heap.push { cls := .type "dict", data := .dict #[] }) (t' := s.toks) (fun _ _ q => Heap.get?_push_of_some _ q) (Nat.le_refl _) (ds_empty s.heap I.big)
  rw [arm_eval_Dict, zip_pairTrees [some k] [v] X.env pos rfl rfl, dictDisplay_pairs (pairTrees [some k] [v] X.env pos) (by intro z; cases z) (by show 1 < 17; decide)]
  refine wpAny_bind (wpAny_standAt (wpAny_bind ?_))
  unfold subDict
  refine wpAny_bind (wpAny_alloc ?_)
  refine wpAny_bind (wpAny_holding ?_)
  rw [if_pos (by show 1 ≤ 15; decide)]
  refine wpAny_bind (pairTrees_cons_walk (thn (hk.run pins _ σ _ _ I1 (q _ hn)) fun u s2 ⟨y, H2, I2, ry, q2⟩ => thn (hv.run pins s2 σ H2 _ I2 q2) fun r s3 ⟨z, H3, I3, rz, q3⟩ => pairTrees_nil_walk ?_))
  obtain ⟨b, kk, rfl, hb, hp, q3⟩ := q3
  cases ry
  refine wpAny_holding ?_
  refine wpAny_bind ?_
  rw [List.forIn_cons]
  refine wpAny_bind (wpAny_bind (ds_set_in hu I3 ⟨[], hp, (fun _ q => nomatch q), rfl⟩ hb (by show 0 < sizeLine; rw [sizeLine_eq]; decide) rz fun s4 o I4 d4 => wpAny_pure ?_))
  dsimp only
  rw [List.forIn_nil]
  exact wpAny_pure (wpAny_pure (wpAny_pure (wpAny_pure ⟨.ref s.heap.objs.size, _, I4, rfl, q3 o d4⟩)))
theorem ds_typeIs {pins : List (Addr × Obj)} {σ : L2.St} {H : Hp} {s : Shared} {a : Addr} {ps : List (S × V)} (I : Inv X pins σ H s) (d : DsAt X.prog X.w H a ps) : s.TypeIs (.ref a) "dict" ∧ ∀ b, Value.ref a = .ref b → ∃ ob, s.heap.get? b = some ob ∧ ob.dict = none := by
  obtain ⟨kvs, e, ka, rfl⟩ := d
  obtain ⟨_, _, xs, _, dd⟩ := ds_raw I.hok (.inl e) ka
  refine ⟨dd.typeIs, fun b q => ?_⟩
  cases q
  obtain ⟨ob, _, _, h1, h2, _⟩ := dd
  exact ⟨ob, h1, h2.2.1⟩
theorem pe_sget (hu : X.A.units + 1 < cLine) (ho : PE X o td) (he : PE X e ty) (hf : PE X f tx) (m : M2 X o "get" apos e f cpos) : PE X (.Call (.Attribute o "get" apos) [e, f] [] cpos) (tSGet X.prog X.w td ty tx) := by
  refine ⟨fun pins s σ H Q I h => ?_⟩
  refine wpAny_Call_method m.base m.few m.line PySem.F.plainAttrs_dict PySem.F.slot_dict_get PySem.F.type_dict_get (thn (ho.run pins s σ H _ I h) fun u s1 ⟨x, H1, I1, rx, ⟨a, ps, ex, d⟩, q1⟩ => ?_)
  subst ex
  obtain rfl : u = Value.ref a := rx
  obtain ⟨t1, t2⟩ := ds_typeIs I1 d
  refine ⟨t1, t2, ?_⟩
  rw [m.trees]
  refine Calls.callWith_builtin rfl (Calls.evalArgs_plain (Calls.spliced_cons (thn (he.run pins s1 σ H1 _ I1 q1) fun iv s2 ⟨y, H2, I2, ry, q2⟩ =>
    Calls.spliced_cons (thn (hf.run pins s2 σ H2 _ I2 q2) fun fv s3 ⟨z, H3, I3, rz, a', b, ps', kk, ea, eb, d3, hb, q3⟩ => Calls.spliced_nil ?_))))
  cases ea
  subst eb
  cases ry
  exact ds_get2 hu I3 d3 hb rz fun w' s4 I4 rw' => ⟨_, H3, I4, rw', q3⟩
theorem pc_sin (hu : X.A.units + 1 < cLine) (hi : PE X i ty) (ho : PE X o td) : PC X .In i o (tSIn X.prog X.w ty td) := by
  refine ⟨fun pins s σ H Q I h => ?_⟩
  refine thn (hi.run pins s σ H _ I h) fun iv s1 ⟨y, H1, I1, ry, q1⟩ => thn (ho.run pins s1 σ H1 _ I1 q1) fun u s2 ⟨x, H2, I2, rx, a, b, ps, kk, ea, eb, d, hb, q2⟩ => ?_
  subst ea eb
  cases rx
  cases ry
  exact ds_in hu I2 d hb fun s3 I3 => ⟨.bl (valV ps kk).isSome, H2, I3, rfl, q2⟩
theorem ps_sput (hu : X.A.units + 1 < cLine) (ho : PE X o td) (hi : PE X i ty) (hv : PE X value tv) (hs : swapsWith value (some (.Subscript o i pos')) pos.line X.env = pure false := by rfl) :
    PS X (.Assign [.Subscript o i pos'] value pos) (sSPut X.prog X.w td ty tv) := by
  refine ⟨fun pins s σ H D I h => ?_⟩
  refine wpAny_Assign_Subscript (thn (hv.run pins s σ H _ I h) fun r s1 ⟨v, H1, I1, rv, q1⟩ => thn (ho.run pins s1 σ H1 _ I1 q1) fun u s2 ⟨x, H2, I2, rx, q2⟩ => thn (hi.run pins s2 σ H2 _ I2 q2) fun iv s3 ⟨y, H3, I3, ry, a, b, ps, kk, ea, eb, d, hb, hl, q3⟩ => ?_) hs
  subst ea eb
  cases rx
  cases ry
  exact ds_set hu I3 d hb hl rv fun s4 oo I4 d4 => ⟨σ, _, I4, q3 oo d4⟩
end
end K77
set_option Elab.async false
set_option linter.all false
set_option maxRecDepth 100000
set_option maxHeartbeats 4000000
/-! K77E: the dicts of states walked, compared with an empty one, made by a comprehension. -/
namespace K77
open PySem PySem.Spec PyProof.Rows L2
section
variable {X : Cx} {pins : List (Addr × Obj)} {σ : L2.St} {H : Hp} {s : Shared} {d : Addr} {o : Obj}
theorem ds_locked {kvs : List Ent} (I : Inv X pins σ H s) (e : H d = some (.frz o (DsO X.prog X.w d kvs))) :
    (d == sysModules) = false ∧ s.heap.get? d = some o ∧ o.ExactDict ∧ kvs.length ≤ sizeLine ∧ ∃ (es : Array DictEntry) (ep : Nat), o.data = .dict es ep ∧ es.size = kvs.length ∧
      ∀ (i : Nat) (x : Ent), kvs[i]? = some x → ∃ en : DictEntry, es[i]? = some en ∧ en.key = .ref x.2.1 ∧ RelV x.2.2 en.val := by
  obtain ⟨hd, ⟨z, y, xs, r, o', es, ep, h1, h2, h3, h4, h5⟩, _, _⟩ := I.hok d _ e
  rw [hd] at h1
  cases h1
  refine ⟨y, hd, h2, z, es, ep, h3, ?_, fun i x hx => ?_⟩
  · have l1 : es.size = xs.length := size_of_entries h4
    have l2 : kvs.length = xs.length := Paired.length r
    omega
  · obtain ⟨b, hb, e1, e2, e3⟩ := paired_get r hx
    have q := entry_at h4 i
    rw [hb] at q
    exact ⟨_, q, by rw [e2]; rfl, e3⟩
end
/-- the keys of the locked dict at d -/
def Itsk (P : Program) (w : World) (d : Addr) (o : Obj) (kvs : List Ent) : It :=
  ⟨fun i H => H d = some (.frz o (DsO P w d kvs)) ∧ i < kvs.length, fun i H x H' => H' = H ∧ ∃ e : Ent, kvs[i]? = some e ∧ x = .ref e.2.1, fun i H => H d = some (.frz o (DsO P w d kvs)) ∧ kvs.length ≤ i⟩
/-- its pairs, each a new tuple -/
def Itsi (P : Program) (w : World) (d : Addr) (o : Obj) (kvs : List Ent) : It :=
  ⟨fun i H => H d = some (.frz o (DsO P w d kvs)) ∧ i < kvs.length, fun i H x H' => ∃ (T : Addr) (e : Ent), kvs[i]? = some e ∧ x = .ref T ∧ H T = none ∧ H' = upd H T (.tup [.ref e.2.1, e.2.2]), fun i H => H d = some (.frz o (DsO P w d kvs)) ∧ kvs.length ≤ i⟩
section
variable {P : Program} {w : World} {K : PySem.W.Frag} {tg : Expr} {d : Addr} {o : Obj} {es : Array DictEntry} {ep : Nat} {kvs : List Ent}
theorem turn_sk (it : Addr) (hod : o.data = .dict es ep) : Turn P w K tg (Itsk P w d o kvs) [it] it (fun i h => h.IsKeyIter it d i kvs.length ep) where
  mem := List.mem_singleton.mpr rfl
  obj := fun i h st b hb => by
    cases List.mem_singleton.mp hb
    obtain ⟨oi, e, c, dd⟩ := st
    exact ⟨oi, e, fun v z => by rw [dd] at z; cases z⟩
  keep := fun i h h' st k => st.at fun oi e => k it (List.mem_singleton.mpr rfl) oi e
  item := by
    rintro X rfl rfl rfl hc i pins s σ H E I hf st ⟨hd, hi⟩
    obtain ⟨f0, f1, f2, f3, f4, f5⟩ := hf it (List.mem_singleton.mpr rfl)
    obtain ⟨hs, hgd, hx, hz, es', ep', hdt, hsz, ent⟩ := ds_locked I hd
    obtain ⟨rfl, rfl⟩ := dict_ep hod hdt
    obtain ⟨en, hen, hkey, _⟩ := ent i kvs[i] (List.getElem?_eq_getElem hi)
    refine next_key_item st hgd hdt hsz hen fun h' st' sb => ?_
    have J : Inv X pins σ H { s with heap := h' } := I.turned (t' := s.toks) (fun b ob hb e => (sb.2 b hb).trans e) f0 f1 f3 f4 f5
    obtain ⟨oi, e, c, dd⟩ := id st'
    exact ⟨en.key, rfl, go_of (s := { s with heap := h' }) e c dd (by decide) ⟨.ref kvs[i].2.1, H, J, hkey, ⟨rfl, kvs[i], List.getElem?_eq_getElem hi, rfl⟩, st', fun b hb => (hf b hb).1⟩⟩
  done := by
    rintro X rfl rfl rfl hc i pins s σ H E I hf st ⟨hd, hi⟩
    obtain ⟨f0, f1, f2, f3, f4, f5⟩ := hf it (List.mem_singleton.mpr rfl)
    obtain ⟨hs, hgd, hx, hz, es', ep', hdt, hsz, ent⟩ := ds_locked I hd
    obtain ⟨rfl, rfl⟩ := dict_ep hod hdt
    exact next_key_end (I.ok.hd hc) st hgd hdt hsz hi fun h' eb => ⟨rfl, I.turned (t' := s.toks) (fun b ob hb e => eb b ob hb e) f0 f1 f3 f4 f5⟩
  self := fun A i s Q E st h => by
    refine wpAny_pyIter_slot st.typeIs F.slot_dict_keyiterator_iter (wpAny_call_entry F.slot_dict_keyiterator_iter st.typeIs F.entry_dict_keyiterator_iter ?_ (F.args_dict_keyiterator_iter_1 _))
    exact (show wpAny _ _ (ret (.ref it)) _ _ s from wpAny_pure ⟨_, rfl, "dict_keyiterator", _, st.typeIs, F.slot_dict_keyiterator_next.lookup, h⟩)
theorem turn_si {elts : List Expr} {kk : Nat} {tpos : Pos} (it : Addr) (hod : o.data = .dict es ep) :
    Turn P w K (.Tuple elts kk tpos) (Itsi P w d o kvs) [it] it (fun i h => ∃ ok ov, IsItemIter h it d i kvs.length ep ok ov) where
  mem := List.mem_singleton.mpr rfl
  obj := fun i h st b hb => by
    cases List.mem_singleton.mp hb
    obtain ⟨ok, ov, e⟩ := st
    exact ⟨_, e, fun v z => nomatch z⟩
  keep := fun i h h' st k => let ⟨ok, ov, e⟩ := st; ⟨ok, ov, k it (List.mem_singleton.mpr rfl) _ e⟩
  item := by
    rintro X rfl rfl rfl hc i pins s σ H E I hf st ⟨hd, hi⟩
    obtain ⟨hs, hgd, hx, hz, es', ep', hdt, hsz, ent⟩ := ds_locked I hd
    obtain ⟨rfl, rfl⟩ := dict_ep hod hdt
    have hi' : i < es'.size := by omega
    obtain ⟨en, hen, hkey, hval⟩ := ent i kvs[i] (List.getElem?_eq_getElem hi)
    rw [Array.getElem?_eq_getElem hi'] at hen
    have een : es'[i] = en := Option.some.inj hen
    obtain ⟨ok, ov, he⟩ := st
    rw [← hsz] at he
    have hlt : it < s.heap.objs.size := Heap.lt_size he
    have hraw : s.heap.DictRaw d es' ep' := ⟨o, hgd, hx, hdt⟩
    refine wpAny_pyNext_items_item_raw he hraw hi' fun h' ho hT hz' hk => ?_
    rw [een, hkey] at ho hT
    refine ⟨_, rfl, wpAny_letOwnedTupleGo_items (s := { s with heap := h' }) ho fun h'' he' sb => ?_⟩
    have hT2 : h''.get? s.heap.objs.size = some { cls := .type "tuple", data := .seq #[.ref kvs[i].2.1, en.val] } := (sb.2 _ (Nat.ne_of_gt hlt)).trans hT
    have new : ObjOk X.prog X.w (upd H s.heap.objs.size (.tup [.ref kvs[i].2.1, kvs[i].2.2])) h'' s.heap.objs.size (.tup [.ref kvs[i].2.1, kvs[i].2.2]) :=
      ⟨by show 2 ≤ sizeLine; decide, [.ref kvs[i].2.1, en.val], .cons rfl (.cons hval .nil), ⟨_, hT2, rfl, _, rfl⟩⟩
    have J : Inv X pins σ (upd H s.heap.objs.size (.tup [.ref kvs[i].2.1, kvs[i].2.2])) { s with heap := h'' } :=
      I.turnedNew (t' := s.toks) (ch := [it]) (fun b ob hb e => (sb.2 b (by simpa using hb)).trans (hk b ob (by simpa using hb) e)) hf (Nat.le_refl _) new
    refine ⟨.ref s.heap.objs.size, _, J, rfl, ⟨_, kvs[i], List.getElem?_eq_getElem hi, rfl, I.hok.fresh (Nat.le_refl _), rfl⟩, ⟨.ref kvs[i].2.1, en.val, by rw [← hsz]; exact he'⟩, fun b hb => ?_⟩
    · cases List.mem_singleton.mp hb
      rw [upd_ne (Nat.ne_of_lt hlt)]
      exact (hf it (List.mem_singleton.mpr rfl)).1
  done := by
    rintro X rfl rfl rfl hc i pins s σ H E I hf st ⟨hd, hi⟩
    obtain ⟨f0, f1, f2, f3, f4, f5⟩ := hf it (List.mem_singleton.mpr rfl)
    obtain ⟨hs, hgd, hx, hz, es', ep', hdt, hsz, ent⟩ := ds_locked I hd
    obtain ⟨rfl, rfl⟩ := dict_ep hod hdt
    obtain ⟨ok, ov, he⟩ := st
    rw [← hsz] at he
    have hraw : s.heap.DictRaw d es' ep' := ⟨o, hgd, hx, hdt⟩
    exact wpAny_pyNext_items_end_raw (I.ok.hd hc) he hraw (by omega) fun h' eb => ⟨rfl, I.turned (t' := s.toks) (fun b ob hb e => eb b ob hb e) f0 f1 f3 f4 f5⟩
  self := fun A i s Q E st h => let ⟨_, _, e⟩ := st; PySem.W.kcp_self e h
end
def iSKeys (P : Program) (w : World) (td : TE) : TI := fun σ H R => td σ H fun x H1 => ∃ d o kvs, x = .ref d ∧ H1 d = some (.frz o (DsO P w d kvs)) ∧ R (Itsk P w d o kvs) H1
def iSItems (P : Program) (w : World) (td : TE) : TI := fun σ H R => td σ H fun x H1 => ∃ d o kvs, x = .ref d ∧ H1 d = some (.frz o (DsO P w d kvs)) ∧ R (Itsi P w d o kvs) H1
section
variable {X : Cx} {tg e : Expr} {td : TE} {apos cpos : Pos}
theorem pi_skeys (he : PE X e td) : PI X tg e (iSKeys X.prog X.w td) := by
  refine ⟨fun pins s σ H R I h => ?_⟩
  refine thn (he.run pins s σ H _ I h) fun u s1 ⟨x, H1, I1, rx, d, o, kvs, ex, hd, q⟩ => ?_
  subst ex
  cases rx
  obtain ⟨hs, hgd, hx, hz, es, ep, hdt, hsz, ent⟩ := ds_locked I1 hd
  refine iter_keys hs hgd hx hdt (pi_one (tk := s1.toks) I1 _ (turn_sk _ hdt) ⟨_, Heap.get?_push_size _ rfl, rfl, ?_⟩ q)
  rw [hsz]
  rfl
theorem pi_sitems {elts : List Expr} {kk : Nat} {tpos : Pos} (he : PE X e td) (hbase : attributeBase e "items" X.env (eval e X.env) = eval e X.env := by rfl) (hline : (apos.endLine == cpos.line) = true := by rfl) :
    PI X (.Tuple elts kk tpos) (.Call (.Attribute e "items" apos) [] [] cpos) (iSItems X.prog X.w td) := by
  refine ⟨fun pins s σ H R I h => ?_⟩
  refine wpAny_Call_method (T := "dict") (id := "dict.items") hbase rfl hline F.plainAttrs_dict F.slot_dict_items F.type_dict_items (thn (he.run pins s σ H _ I h) fun u s1 ⟨x, H1, I1, rx, d, o, kvs, ex, hd, q⟩ => ?_)
  subst ex
  cases rx
  obtain ⟨hs, hgd, hx, hz, es, ep, hdt, hsz, ent⟩ := ds_locked I1 hd
  have hraw : s1.heap.DictRaw d es ep := ⟨o, hgd, hx, hdt⟩
  refine ⟨hraw.typeIs, fun b q => ?_, ?_⟩
  · cases q
    exact ⟨o, hgd, hx.2.1⟩
  have I2 : Inv X pins σ H1 { s1 with heap := s1.heap.push { cls := .type "dict_items", data := .fields #[.ref d] } } := I1.kept (t' := s1.toks) fun b ob q => Heap.get?_push_of_some _ q
  have fin : wpAny (model X.prog X.w) X.A (pyIter (.ref s1.heap.objs.size)) (PIE X pins σ (.Tuple elts kk tpos) R) X.xe { s1 with heap := s1.heap.push { cls := .type "dict_items", data := .fields #[.ref d] } } := by
    refine wpAny_pyIter_items_raw (d := d) (es := es) (ep := ep) ⟨_, Heap.get?_push_size _ rfl, rfl, rfl⟩ (hraw.at fun ob q => Heap.get?_push_of_some _ q) (pi_one (tk := s1.toks) I2 _ (turn_si _ hdt) ⟨.none, .none, ?_⟩ q)
    rw [hsz]
    exact Heap.get?_push_size _ rfl
  show wpAny _ _ (callWith cpos (.builtin "dict.items") [.ref d] [] []) _ X.xe s1
  exact method_meetsIn F.slot_dict_items F.entry_dict_items rfl (PySem.evalArgs_none ⟨rfl, hraw.typeIs, F.args_dict_items_1 _, _, meets_dict_items_raw d hs, ⟨es, ep, hraw⟩, fin⟩)
end

/-! ### compared with an empty one -/
section
variable {prog : Program} {w : World} {A : Around} {E : Value → Shared → Prop} {s : Shared}
theorem eq_empty {a b : Addr} {es : Array DictEntry} {ep ep' : Nat} {Q : Value → Shared → Prop} (ha : (a == sysModules) = false) (hb : (b == sysModules) = false) (da : s.heap.DictRaw a es ep) (db : s.heap.DictRaw b #[] ep') (hu : A.units < cLine)
    (h : Q (.bool (decide (es.size = 0))) s) : wpAny (model prog w) A (compareOp .Eq (.ref a) (.ref b)) Q E s := by
  refine wpAny_richCompare_same_room (op := .Eq) da.typeIs db.typeIs PySem.F.slot_dict_eq (wpAny_call_entry PySem.F.slot_dict_eq da.typeIs PySem.F.entry_dict_eq ?_ (PySem.F.args_dict_eq_2 _ _)) hu
  show wpAny _ _ (Builtin.Dict.dictSlotArgs "__eq__" ⟨[.ref a, .ref b], []⟩ >>= _) _ _ s
  refine wpAny_bind ?_
  unfold Builtin.Dict.dictSlotArgs
  refine wpAny_bind (wpAny_notOrdered_dict da.typeIs ?_)
  refine (show wpAny _ _ (pure (Value.ref a, Value.ref b)) _ _ s from wpAny_pure ?_)
  refine wpAny_bind (wpAny_isInstance (T := "dict") db.typeIs PySem.F.sub_dict_dict ?_)
  simp only [Bool.not_true, Bool.false_eq_true, if_false]
  refine wpAny_bind (wpAny_pure (wpAny_bind (wpAny_pure ?_)))
  obtain ⟨oa, hoa, hca, hda⟩ := id da
  obtain ⟨ob, hob, hcb, hdb⟩ := id db
  refine wpAny_bind ?_
  unfold Builtin.Dict.samePairs Builtin.Dict.showsAll
  rw [if_neg (show ¬ (a == sysModules) = true by rw [ha]; exact Bool.false_ne_true), if_neg (show ¬ (b == sysModules) = true by rw [hb]; exact Bool.false_ne_true)]
  refine wpAny_bind (wpAny_pure (wpAny_bind (wpAny_pure ?_)))
  refine wpAny_bind (wpAny_dictEntries hoa hda ?_)
  dsimp only
  refine wpAny_bind (wpAny_dictEntries hob hdb ?_)
  by_cases hz : es.size = 0
  · rw [if_neg (by simp [hz])]
    refine wpAny_bind (wpAny_dictEpoch hoa hda ?_)
    refine wpAny_bind ?_
    rw [Std.Legacy.Range.forIn_eq_forIn_range']
    simp only [Std.Legacy.Range.size, Nat.sub_zero, Nat.add_sub_cancel, Nat.div_one, hz, List.range'_zero, List.forIn_nil]
    refine wpAny_pure (wpAny_pure (wpAny_pure ⟨_, rfl, ?_, ?_⟩))
    · exact fun x => nomatch x
    · rw [decide_eq_true hz] at h
      exact h
  · rw [if_pos (by simpa using hz)]
    refine wpAny_bind (wpAny_rule (wpAny_pure (wpAny_pure ⟨_, rfl, ?_, ?_⟩)))
    · exact fun x => nomatch x
    · rw [decide_eq_false hz] at h
      exact h
end
def rEqS0 (P : Program) (w : World) : R2 := fun x y H Q => ∃ a b ps, x = .ref a ∧ y = .ref b ∧ DsAt P w H a ps ∧ H b = some (DsO P w b []) ∧ Q (.bl (decide (ps.length = 0))) H
theorem op_eq_s0 {X : Cx} (hu : X.A.units < cLine) : OpR X (compareOp .Eq) (rEqS0 X.prog X.w) := by
  intro pins s σ H x y v u Q I rx ry h
  obtain ⟨a, b, ps, rfl, rfl, ⟨kvs, ea, ka, rfl⟩, eb, q⟩ := h
  cases rx
  cases ry
  obtain ⟨_, ya, xs, ra, oa, es, ep, h1, h2, h3, h4, _⟩ := ds_raw I.hok (.inl ea) ka
  obtain ⟨_, yb, xs', rb, ob, es', ep', g1, g2, g3, g4, _⟩ := ds_raw I.hok (.inl eb) (fun _ q => nomatch q)
  cases rb
  have e0 : es' = #[] := by
    have z : es'.toList = [] := g4
    exact Array.toList_eq_nil_iff.mp z
  subst e0
  refine eq_empty (es := es) ya yb ⟨oa, h1, h2, h3⟩ ⟨ob, g1, g2, g3⟩ hu (fin_bl I q ?_)
  have l1 : es.size = xs.length := size_of_entries h4
  have l2 : kvs.length = xs.length := Paired.length ra
  have l3 : (prs kvs).length = kvs.length := List.length_map _
  rw [l3, l2, l1]
end K77
set_option Elab.async false
set_option linter.all false
set_option maxRecDepth 100000
set_option maxHeartbeats 4000000
/-! K77F: {state: v for .. in .. if ..}. -/
namespace K77
open PySem PySem.Spec PyProof.Rows L2
section
variable {X : Cx}
/-- one turn's end: the pair is laid into D -/
def layS (P : Program) (w : World) (D : Addr) (tk tv : TE) (σ : L2.St) (H : Hp) (Nx : Hp → Prop) : Prop :=
  tk σ H fun y H4 => tv σ H4 fun z H5 => ∃ b ps k, y = .ref b ∧ H5 b = some (.tup (skV k)) ∧ DsAt P w H5 D ps ∧ ps.length < sizeLine ∧ ∀ o, DsAt P w (upd H5 D o) D (putK ps k z) → Nx (upd H5 D o)
def tDs (P : Program) (w : World) (wi : TI) (g : TG) (tt : TT) (tk tv : TE) (vs : List Nat) : TE := fun σ H Q => wi σ H fun J H1 => ∀ D, H1 D = none → ∃ W : Nat → Nat → Hp → Prop, (∃ m, W 0 m (upd H1 D (DsO P w D []))) ∧ ∀ i m H, W i m H →
  (J.stop i H ∧ Q (.ref D) H) ∨ (J.go i H ∧ ∃ Nx : Hp → Prop, (∀ H', Nx H' → ∃ m', m' < m ∧ W (i + 1) m' H') ∧ ∀ x H', J.yld i H x H' → g x (wipe σ vs) H' fun σ2 H2 => wipe σ2 vs = wipe σ vs ∧ tt σ2 H2 fun b H3 =>
    if b = true then layS P w D tk tv σ2 H3 Nx else Nx H3)
theorem ds_core {pins : List (Addr × Obj)} {s : Shared} {σ : L2.St} {H : Hp} {Q : VK} {kx vx tg iter : Expr} {ifs : List Expr} {scope : Scope} {own : List (Str × Nat)} {pos pos' : Pos} {wi : TI} {g : TG} {tt : TT} {tk tv : TE} {use : Option (Value → Sem Unit)} {Qf : Value → Shared → Prop} (hu : X.A.units < cLine)
    (hc : X.calm = true) (hN : X.N.Nodup) (I : Inv X pins σ H s) (hi : PI X tg iter wi) (ok : BlkOk X.N X.env.scope scope own)
    (hg : ∀ (s : Shared) (H : Hp) (C : Addr) (cl : List (Str × Addr)) (fp : List Addr), PG (X.blk s H scope (compEnvC scope cl C X.env) fp) tg g)
    (ht : ∀ (s : Shared) (H : Hp) (C : Addr) (cl : List (Str × Addr)) (fp : List Addr), PTs (X.blk s H scope (compEnvC scope cl C X.env) fp) ifs tt)
    (hk : ∀ (s : Shared) (H : Hp) (C : Addr) (cl : List (Str × Addr)) (fp : List Addr), PE (X.blk s H scope (compEnvC scope cl C X.env) fp) kx tk)
    (hv : ∀ (s : Shared) (H : Hp) (C : Addr) (cl : List (Str × Addr)) (fp : List Addr), PE (X.blk s H scope (compEnvC scope cl C X.env) fp) vx tv) (hs : ∀ x, foldedSetIterable iter X.env x = pure x)
    (h : tDs X.prog X.w wi g tt tk tv (own.map (·.2)) σ H Q)
    (hRR : ∀ D C s' m H', Inv X pins σ H' s' → Q (.ref D) H' → s'.heap.Ns C m → FpOk X pins H' C → compPost (model X.prog X.w) X.A X.xe use Qf (.ref D) C (.ok .next) s') :
    wpAny (model X.prog X.w) X.A (comprehension (.DictComp kx vx [⟨tg, iter, ifs, 0⟩] scope pos) scope X.env pos' newDict false (eval iter X.env) use) Qf X.xe s := by
  have hfree : ∀ y ∈ scope.names, y.2 = .free → ∃ c, X.env.cells.lookup y.1 = some c := fun y hy e => (ok.free y hy e).elim (fun k => I.ok.has _ (.inl k)) fun k => I.ok.has _ (.inr k)
  refine wpAny_comprehension_free (use := use) rfl hs (closure_ok hfree) ok.kind (fun y hy e => by rw [ok.uniq y hy, e]) (thn (hi.run pins s σ H _ I h) fun xv s1 hx => thn hx fun itv s2 h2 => ?_)
  obtain ⟨it, fp, tn, J, H2, rfl, I2, T, st2, f2, q⟩ := h2
  refine wpAny_newObj_type (newEnv_comp ?_)
  generalize hD : s2.heap.objs.size = D
  obtain ⟨W, ⟨m0, w0⟩, turn⟩ := q D (I2.hok.fresh (Nat.le_of_eq hD))
  -- the dict is laid
  generalize hs3 : ({ s2 with heap := s2.heap.push { cls := .type "dict", data := .dict #[] } } : Shared) = s3
  have h3 : s3.heap = s2.heap.push { cls := .type "dict", data := .dict #[] } := by rw [← hs3]
  have I3 : Inv X pins σ (upd H2 D (DsO X.prog X.w D [])) s3 := by
    rw [← hs3]
    refine I2.laid (t' := s2.toks) (fun b o e => Heap.get?_push_of_some _ e) (Nat.le_of_eq hD) ?_
    rw [← hD]
    exact ds_empty s2.heap I2.big
  have sz : ∀ b ∈ fp, b < s2.heap.objs.size := fun b hb => let ⟨o, e, _⟩ := T.obj _ _ st2 b hb; Heap.lt_size e
  have f3 : ∀ b ∈ fp, FpOk X pins (upd H2 D (DsO X.prog X.w D [])) b ∧ b < s3.heap.objs.size := fun b hb => by
    have hlt := sz b hb
    refine ⟨⟨?_, (f2 b hb).2⟩, by rw [h3, Heap.size_push]; exact Nat.lt_succ_of_lt hlt⟩
    rw [upd_ne (by rw [← hD]; exact Nat.ne_of_lt hlt)]
    exact (f2 b hb).1
  have st3 : tn 0 s3.heap := T.keep _ _ _ st2 fun b _ o e => by rw [h3]; exact Heap.get?_push_of_some _ e
  have I4 := block_start I3 ok hN f3
  generalize hcl : cellsFrom (s3.heap.objs.size + 1) scope.names (cloFrom X.env.cells scope.names []) = cl at I4 ⊢
  have pg := hg s3 (upd H2 D (DsO X.prog X.w D [])) s3.heap.objs.size cl fp
  have pt := ht s3 (upd H2 D (DsO X.prog X.w D [])) s3.heap.objs.size cl fp
  have pk := hk s3 (upd H2 D (DsO X.prog X.w D [])) s3.heap.objs.size cl fp
  have pv := hv s3 (upd H2 D (DsO X.prog X.w D [])) s3.heap.objs.size cl fp
  show codeAny _ _ (.compStart (.DictComp kx vx [⟨tg, iter, ifs, 0⟩] scope pos) 0 (.ref it) (.ref D) (compEnvC scope cl s3.heap.objs.size X.env)) (compPost (model X.prog X.w) X.A X.xe use Qf (.ref D) s3.heap.objs.size) { s3 with heap := pushCells (s3.heap.push { cls := .type "dict", data := .dict #[] }) scope.names }
  have nfp : ∀ b ∈ fp, (upd H2 D (DsO X.prog X.w D [])) b = none := fun b hb => (f3 b hb).1.1
  generalize hce : compEnvC scope cl s3.heap.objs.size X.env = ce at I4 pg pt pk pv ⊢
  have cL : ce.locals = s3.heap.objs.size := by subst hce; rfl
  generalize hH3 : upd H2 D (DsO X.prog X.w D []) = H3 at I3 I4 pg pt pk pv w0 nfp f3
  generalize hs4 : ({ s3 with heap := pushCells (s3.heap.push { cls := .type "dict", data := .dict #[] }) scope.names } : Shared) = s4 at I4 ⊢
  have st4 : tn 0 s4.heap := T.keep _ _ _ st3 fun b _ o e => by rw [← hs4]; exact pushCells_keeps _ _ _ _ (Heap.get?_push_of_some _ e)
  have stat : ∀ {σ' : L2.St} {H' : Hp} {s' : Shared}, Inv (X.blk s3 H3 scope ce fp) [] σ' H' s' → (∀ b ∈ fp, H' b = none) → ∀ b ∈ fp, FpOk (X.blk s3 H3 scope ce fp) [] H' b := fun {σ' H' s'} I' hn b hb =>
    ⟨hn b hb, (I'.ok.exf b hb).1, I'.ok.exfs b hb, .inl hb, fun x c e => (I'.ok.exf b hb).2 x c e, fun p hp => absurd (show p ∈ ([] : List (Addr × Obj)) ++ [] from hp) (by simp)⟩
  have loop : codeAny (model X.prog X.w) X.A (.compLoop (.DictComp kx vx [⟨tg, iter, ifs, 0⟩] scope pos) 0 (.ref it) (.ref D) ce) (compPost (model X.prog X.w) X.A X.xe use Qf (.ref D) s3.heap.objs.size) s4 := by
    refine compLoop_anyD (fun n s' => ∃ i H', Inv (X.blk s3 H3 scope ce fp) [] (wipe σ (own.map (·.2))) H' s' ∧ tn i s'.heap ∧ (∀ b ∈ fp, H' b = none) ∧ W i n H') ?_ m0 ⟨0, H3, I4, st4, nfp, w0⟩
    rintro n s5 ⟨i, H5, I5, st5, n5, w5⟩
    rcases turn i n H5 w5 with ⟨stop, qq⟩ | ⟨go, Nx, hNx, step⟩
    · refine thnF (T.done (X.blk s3 H3 scope ce fp) rfl rfl rfl hc i [] s5 _ H5 (fun _ _ => False) I5 (stat I5 n5) st5 stop) fun r s6 ⟨hr, I6⟩ => ?_
      subst hr
      -- back in the def's own context
      have I7 : Inv X pins σ H5 s6 := I3.call' (ch := fp) I6.os I6.base I6.hok I6.bare fun b hb => ⟨(f3 b hb).1.2.2.2.1, (f3 b hb).1.2.1, (f3 b hb).1.2.2.2.2.1, (f3 b hb).1.2.2.2.2.2⟩
      have nC : H5 s3.heap.objs.size = none := by
        rw [← cL]
        exact I6.free
      obtain ⟨m, hn, _⟩ := I6.loc
      have hn' : s6.heap.Ns ce.locals m := hn
      rw [cL] at hn'
      exact hRR D s3.heap.objs.size s6 m H5 I7 qq hn' (I3.fpOk (Nat.le_refl _) nC)
    · refine thnF (T.item (X.blk s3 H3 scope ce fp) rfl rfl rfl hc i [] s5 _ H5 (fun _ _ => False) I5 (stat I5 n5) st5 go) fun r s6 ⟨u, hr, h6⟩ => ?_
      subst hr
      refine thnF h6 fun _ s7 ⟨x, H7, I7, r7, y7, st7, n7⟩ => ?_
      have I7' := I7.pinned (stat I7 n7) (T.obj _ _ st7)
      refine thnF (pg.run _ s7 _ H7 x u _ I7' r7 (step x H7 y7)) fun _ s8 ⟨σ8, H8, I8, hw8, q8⟩ => ?_
      refine thnF (pt.run _ s8 σ8 H8 _ I8 q8) fun b s9 ⟨H9, I9, q9⟩ => ?_
      have fin : ∀ {s' : Shared} {H' : Hp}, Inv (X.blk s3 H3 scope ce fp) ([] ++ pinsAt fp s7.heap) σ8 H' s' → Nx H' → ∃ m, m < n ∧ ∃ i H', Inv (X.blk s3 H3 scope ce fp) [] (wipe σ (own.map (·.2))) H' s' ∧ tn i s'.heap ∧ (∀ b ∈ fp, H' b = none) ∧ W i m H' := fun {s' H'} I' nx => by
        obtain ⟨m', hm, w'⟩ := hNx H' nx
        have pin' : ∀ b ∈ fp, ∀ o, s7.heap.get? b = some o → s'.heap.get? b = some o ∧ H' b = none := fun b hb o e =>
          let z := I'.pin (b, o) (List.mem_append_right _ (List.mem_append_right _ (mem_pinsAt hb e)))
          ⟨z.1, z.2.1⟩
        refine ⟨m', hm, i + 1, H', (I'.unpinned (pins := [])).weak (by rw [← hw8, wipe_length]) (fun j v e => ?_), T.keep _ _ _ st7 fun b hb o e => (pin' b hb o e).1, fun b hb => ?_, w'⟩
        · rw [← hw8] at e
          exact (wipe_some e).1
        · obtain ⟨o, e, _⟩ := T.obj _ _ st7 b hb
          exact (pin' b hb o e).2
      cases b with
      | false =>
        simp only [Bool.false_eq_true, if_false] at q9 ⊢
        exact fin I9 q9
      | true =>
        simp only [if_true] at q9 ⊢
        refine thnF (pk.run _ s9 σ8 H9 _ I9 q9) fun z s10 ⟨yk, H10, I10, r10, q10⟩ => ?_
        refine thnF (pv.run _ s10 σ8 H10 _ I10 q10) fun z2 s11 ⟨yv, H11, I11, r11, b, ps, k, ek, hb, dD, hz, nx⟩ => ?_
        subst ek
        cases r10
        exact ds_set_in (X := X.blk s3 H3 scope ce fp) hu I11 dD hb hz r11 fun s12 o I12 d12 => fin I12 (nx o d12)
  exact codeAny_compStart_dict loop (T.self X.A 0 _ _ _ st4 loop)
theorem pe_ds {kx vx tg iter : Expr} {ifs : List Expr} {scope : Scope} {own : List (Str × Nat)} {pos : Pos} {wi : TI} {g : TG} {tt : TT} {tk tv : TE} (hu : X.A.units < cLine) (hc : X.calm = true) (hN : X.N.Nodup) (hi : PI X tg iter wi) (ok : BlkOk X.N X.env.scope scope own)
    (hg : ∀ (s : Shared) (H : Hp) (C : Addr) (cl : List (Str × Addr)) (fp : List Addr), PG (X.blk s H scope (compEnvC scope cl C X.env) fp) tg g)
    (ht : ∀ (s : Shared) (H : Hp) (C : Addr) (cl : List (Str × Addr)) (fp : List Addr), PTs (X.blk s H scope (compEnvC scope cl C X.env) fp) ifs tt)
    (hk : ∀ (s : Shared) (H : Hp) (C : Addr) (cl : List (Str × Addr)) (fp : List Addr), PE (X.blk s H scope (compEnvC scope cl C X.env) fp) kx tk)
    (hv : ∀ (s : Shared) (H : Hp) (C : Addr) (cl : List (Str × Addr)) (fp : List Addr), PE (X.blk s H scope (compEnvC scope cl C X.env) fp) vx tv) (hs : ∀ x, foldedSetIterable iter X.env x = pure x := by intro _; rfl) :
    PE X (.DictComp kx vx [⟨tg, iter, ifs, 0⟩] scope pos) (tDs X.prog X.w wi g tt tk tv (own.map (·.2))) := by
  refine ⟨fun pins s σ H Q I h => ?_⟩
  rw [arm_eval_DictComp]
  refine ds_core hu hc hN I hi ok hg ht hk hv hs h fun D C s' m H' I' q hn f => ⟨m, hn, fun h'' sb => ?_⟩
  obtain ⟨f0, f1, f2, f3, f4, f5⟩ := f
  exact ⟨.ref D, H', I'.turned (t' := s'.toks) (fun b o hb e => (sb.2 b hb).trans e) f0 f1 f3 f4 f5, rfl, q⟩
theorem sw_trueD {kx vx : Expr} {gs : List Comprehension} {scope : Scope} {pos py : Pos} {y : Str} {l : Nat} {env : Env} (hk : env.scope.kind = .function) (hy : env.scope.names.lookup y = some .local) (hl : (py.line == pos.line) = true)
    (ha : (scope.names.any fun (n, k) => n == y && (k == .local || k == .cell)) = false) : swapsWith (.DictComp kx vx gs scope pos) (some (.Name y py)) l env = pure true := by
  have ky : env.kindOf y = some .local := hy
  have hb : env.blockKind = .function := by unfold Env.blockKind; rw [hk]; rfl
  unfold swapsWith
  simp only [hb, ky, ha, Expr.pos, hl]
  rfl
/-- name = {state: v for ..} on one line, the name a local -/
theorem ps_setDs {i : Nat} {y : Str} {py : Pos} {kx vx tg iter : Expr} {ifs : List Expr} {scope : Scope} {own : List (Str × Nat)} {pos spos : Pos} {wi : TI} {g : TG} {tt : TT} {tk tv : TE} (hu : X.A.units < cLine) (hc : X.calm = true) (hN : X.N.Nodup) (hy : X.N[i]? = some y) (hyl : X.env.scope.names.lookup y = some .local)
    (hsw : swapsWith (.DictComp kx vx [⟨tg, iter, ifs, 0⟩] scope pos) (some (.Name y py)) spos.line X.env = pure true) (hi : PI X tg iter wi) (ok : BlkOk X.N X.env.scope scope own)
    (hg : ∀ (s : Shared) (H : Hp) (C : Addr) (cl : List (Str × Addr)) (fp : List Addr), PG (X.blk s H scope (compEnvC scope cl C X.env) fp) tg g)
    (ht : ∀ (s : Shared) (H : Hp) (C : Addr) (cl : List (Str × Addr)) (fp : List Addr), PTs (X.blk s H scope (compEnvC scope cl C X.env) fp) ifs tt)
    (hk : ∀ (s : Shared) (H : Hp) (C : Addr) (cl : List (Str × Addr)) (fp : List Addr), PE (X.blk s H scope (compEnvC scope cl C X.env) fp) kx tk)
    (hv : ∀ (s : Shared) (H : Hp) (C : Addr) (cl : List (Str × Addr)) (fp : List Addr), PE (X.blk s H scope (compEnvC scope cl C X.env) fp) vx tv) (hs : ∀ x, foldedSetIterable iter X.env x = pure x := by intro _; rfl) :
    PS X (.Assign [.Name y py] (.DictComp kx vx [⟨tg, iter, ifs, 0⟩] scope pos) spos) (tAsg (tDs X.prog X.w wi g tt tk tv (own.map (·.2))) (gName i)) := by
  refine ⟨fun pins s σ H D I h => ?_⟩
  rw [exec_Assign_Name_used _ _ _ _ hsw]
  refine wpAny_bind (wpAny_standAt (wpAny_bind ?_))
  show wpAny _ X.A (do let _ ← comprehension (.DictComp kx vx [⟨tg, iter, ifs, 0⟩] scope pos) scope X.env (firstIterPos [⟨tg, iter, ifs, 0⟩] pos) newDict false (eval iter X.env) (some (assign (.Name y py) X.env))) _ _ s
  have h : tDs X.prog X.w wi g tt tk tv (own.map (·.2)) σ H (fun x H1 => gName i x σ H1 D.nx) := h
  refine wpAny_bind (thn (ds_core (Qf := fun _ s' => SP X pins D .next s') hu hc hN I hi ok hg ht hk hv hs h fun L C s' m H' I' q hn f => ?_) fun _ s' hq => wpAny_pure (wpAny_pure hq))
  show wpAny _ _ (assign (.Name y py) X.env (.ref L)) _ _ _
  refine wpAny_assign_Name (store_ok2 (v := V.ref L) I' hN hy (.inl hyl) rfl (fun s2 I2 ⟨a, sb, ha⟩ => ?_) (.inr hyl))
  obtain ⟨f0, f1, f2, f3, f4, f5⟩ := f
  have haC : C ≠ a := by
    rcases ha with z | z
    · rw [z]; exact f1
    · exact fun e => f4 y a z e.symm
  refine ⟨m, hn.sameBut sb haC, fun h3 sb3 => ?_⟩
  exact ⟨_, H', I2.turned (t' := s2.toks) (fun b o hb e => (sb3.2 b hb).trans e) f0 f1 f3 f4 f5, q⟩
end
end K77
set_option Elab.async false
set_option linter.all false
set_option maxRecDepth 100000
set_option maxHeartbeats 4000000
/-! K77S: sets of texts: set(a list of texts), sorted(such a set). -/
namespace K77
open PySem PySem.Spec PyProof.Rows L2
abbrev kS (P : Program) (w : World) : PySem.KeyKind P w Str := PySem.strKind P w
def keyS (e : Int × Value) : Str := match e.2 with | .str x _ => x | _ => Str.empty
def GoodT (P : Program) (w : World) (e : Int × Value) : Prop := ∃ x tk, e.2 = Value.str x tk ∧ e.1 = (kS P w).hash x
/-- a set of the texts ms (each once) stands at a; its table can be walked -/
def SetAtS (P : Program) (w : World) (h : Heap) (a : Addr) (ms : List Str) : Prop :=
  ∃ o es ep t, h.get? a = some o ∧ o.ExactSet ∧ o.data = .set es ep t ∧ (∀ e ∈ es.toList, GoodT P w e) ∧ (es.toList.map keyS).Perm ms ∧ ms.Nodup ∧
    es.size < scanBound ∧ t.fits es.size = true ∧ Ris t.place.toList ∧ (w.params.followText "set-order" = true ∨ t.led = true)
section
variable {P : Program} {w : World} {A : Around} {E : Value → Shared → Prop} {s : Shared} {a : Addr} {ms : List Str}
theorem SetAtS.at {h h' : Heap} (R : SetAtS P w h a ms) (k : ∀ o, h.get? a = some o → h'.get? a = some o) : SetAtS P w h' a ms := by
  obtain ⟨o, es, ep, t, ho, r⟩ := R
  exact ⟨o, es, ep, t, k o ho, r⟩
theorem goodT_elems {l : List (Int × Value)} (g : ∀ e ∈ l, GoodT P w e) : ElemsOf (kS P w) l := fun e he => by
  obtain ⟨x, tk, h1, h2⟩ := g e he
  exact ⟨⟨x, by rw [h1]; exact PySem.strKind_is P w x tk, h2⟩, by rw [h1]; rfl⟩
theorem goodT_is {e : Int × Value} (g : GoodT P w e) (x : Str) : (kS P w).is x e.2 = true ↔ keyS e = x := by
  obtain ⟨y, tk, h1, _⟩ := g
  unfold keyS
  rw [h1]
  show Value.isStrOf x (.str y tk) = true ↔ y = x
  simp [Value.isStrOf]
theorem goodT_mem {l : List (Int × Value)} (g : ∀ e ∈ l, GoodT P w e) (x : Str) : x ∈ l.map keyS ↔ ∃ e ∈ l, (kS P w).is x e.2 = true := by
  rw [List.mem_map]
  constructor
  · rintro ⟨e, he, q⟩
    exact ⟨e, he, (goodT_is (g e he) x).2 q⟩
  · rintro ⟨e, he, q⟩
    exact ⟨e, he, (goodT_is (g e he) x).1 q⟩
theorem setS_tail {g : Bool → Sem Unit} (hg : ∀ (b : Bool) (s₁ : Shared) (Q' : Unit → Shared → Prop), Q' () s₁ → wpAny (model P w) A (g b) Q' E s₁)
    {o : Obj} {es : Array (Int × Value)} {ep : Nat} {t : SetTable} (ho : s.heap.get? a = some o) (hex : o.ExactSet) (hd : o.data = .set es ep t)
    {es1 : Array (Int × Value)} {t2 : SetTable} {ms' : List Str} (g1 : ∀ e ∈ es1.toList, GoodT P w e) (p1 : (es1.toList.map keyS).Perm ms') (nd1 : ms'.Nodup)
    (hb1 : es1.size < scanBound) (hf2 : t2.fits es1.size = true) (hr : Ris t2.place.toList) (hl : w.params.followText "set-order" = true ∨ t2.led = true) {wasDummy : Bool} {R : Option Bool → Shared → Prop}
    (hR : ∀ h', Heap.SameBut a s.heap h' → SetAtS P w h' a ms' → R (some true) { s with heap := h' }) :
    wpAny (model P w) A (do
        storeSet a es1 t2
        if (!wasDummy && t2.tooFull) = true then do
            g (relayAll t2 es1 (SetTable.grown es1.size)).2.2
            storeSet a (relayAll t2 es1 (SetTable.grown es1.size)).1 (relayAll t2 es1 (SetTable.grown es1.size)).2.1
            pure (some true)
          else pure (some true)) R E s := by
  refine wpAny_bind (wpAny_storeSet_of ho hd ?_ (fits_of_scanBound hb1))
  have ho1 := store_at (es' := es1) (t' := t2) ho hd
  have sb1 := Heap.SameBut.update s.heap a (Obj.putSet es1 t2)
  split
  · have pm := relayAll_perm t2 es1 (SetTable.grown es1.size)
    have hf3 := relayAll_fits t2 es1 (SetTable.grown es1.size)
    have hr3 := relayAll_ris t2 es1 (SetTable.grown es1.size)
    have hl3 := relayAll_led t2 es1 (SetTable.grown es1.size)
    generalize relayAll t2 es1 (SetTable.grown es1.size) = Z at pm hf3 hr3 hl3 ⊢
    obtain ⟨es2, t3, gave⟩ := Z
    dsimp only at pm hf3 hr3 hl3 ⊢
    have hb2 : es2.size < scanBound := by
      rw [← Array.length_toList, pm.length_eq, Array.length_toList]
      exact hb1
    refine wpAny_bind (hg _ _ _ ?_)
    refine wpAny_bind (wpAny_storeSet_of ho1 rfl ?_ (fits_of_scanBound hb2))
    have ho2 := store_at (es' := es2) (t' := t3) ho1 rfl
    refine wpAny_pure (hR _ (sb1.trans (Heap.SameBut.update _ a _)) ?_)
    exact ⟨_, es2, _, t3, ho2, hex, rfl, fun e he => g1 e (pm.mem_iff.mp he), (pm.map keyS).trans p1, nd1, hb2, hf3, hr3, hl.imp id fun z => by rw [hl3]; exact z⟩
  · exact wpAny_pure (hR _ sb1 ⟨_, es1, _, t2, ho1, hex, rfl, g1, p1, nd1, hb1, hf2, hr, hl⟩)
theorem setS_add {k : Str} {tk : Tok} {Q : Bool → Shared → Prop} (R : SetAtS P w s.heap a ms) (room : ms.length + 1 < scanBound)
    (hQ : ∀ (b : Bool) h', Heap.SameBut a s.heap h' → SetAtS P w h' a (ins ms k) → Q b { s with heap := h' }) : wpAny (model P w) A (setAddHashed a (.str k tk) ((kS P w).hash k)) Q E s := by
  obtain ⟨o, es, ep, t, ho, hex, hd, g, pm0, nd, hb, hf, hr, hl⟩ := R
  have hkey : (kS P w).is k (.str k tk) = true := PySem.strKind_is P w k tk
  have hsc : (Value.str k tk).scannable = true := rfl
  have hel : ElemsOf (kS P w) es.toList := goodT_elems g
  have hn : es.size = ms.length := by
    have q := pm0.length_eq
    rw [List.length_map, Array.length_toList] at q
    exact q
  unfold setAddHashed setAddHashedIn
  refine wpAny_holding (wpAny_bind (wpAny_setState_of ho hd hf ?_))
  dsimp only
  rw [byScan_of hsc hb hel]
  simp only [↓reduceIte]
  unfold setAddByScan
  refine wpAny_bind ?_
  refine wpAny_bind (wpAny_rule ?_)
  refine wpAny_bind (wpAny_setScan_of hkey ho hd hf hel ?_)
  cases hfi : List.findIdx? (fun e => (kS P w).is k e.2) es.toList with
  | some j =>
    dsimp only
    obtain ⟨hj, pj, _⟩ := List.findIdx?_eq_some_iff_getElem.mp hfi
    have hk : k ∈ ms := pm0.mem_iff.mp ((goodT_mem (P := P) (w := w) g k).2 ⟨es.toList[j], List.getElem_mem hj, pj⟩)
    refine wpAny_pure (wpAny_pure (hQ _ s.heap (Heap.SameBut.refl a s.heap) ?_))
    unfold ins
    rw [if_pos hk]
    exact ⟨o, es, ep, t, ho, hex, hd, g, pm0, nd, hb, hf, hr, hl⟩
  | none =>
    dsimp only
    have hnk : k ∉ ms := fun z => by
      obtain ⟨e, he, q⟩ := (goodT_mem (P := P) (w := w) g k).1 (pm0.mem_iff.mpr z)
      have c := List.findIdx?_eq_none_iff.mp hfi e he
      rw [q] at c
      cases c
    have hgw : ∀ (b : Bool) {s₁ : Shared} {Q' : Unit → Shared → Prop}, Q' () s₁ → wpAny (model P w) A (match b with | true => rule "set.scan.the-table-gave-way" | false => pure ()) Q' E s₁ :=
      fun b s₁ Q' q => by cases b <;> first | exact wpAny_pure q | exact wpAny_rule q
    have pm := layNew_perm t es ((kS P w).hash k) (.str k tk)
    have hf1 := layNew_fits t es ((kS P w).hash k) (.str k tk)
    have hr1 := layNew_ris t es ((kS P w).hash k) (.str k tk) hr
    have hl1 := layNew_led t es ((kS P w).hash k) (.str k tk)
    generalize layNew t es ((kS P w).hash k) (.str k tk) = Z at pm hf1 hr1 hl1 ⊢
    obtain ⟨es1, t1, wasDummy, gave⟩ := Z
    dsimp only at pm hf1 hr1 hl1 ⊢
    rw [Array.toList_push] at pm
    have g1 : ∀ e ∈ es1.toList, GoodT P w e := fun e he => by
      rcases List.mem_append.mp (pm.mem_iff.mp he) with z | z
      · exact g e z
      · rw [List.mem_singleton.mp z]
        exact ⟨k, tk, rfl, rfl⟩
    have p1 : (es1.toList.map keyS).Perm (ins ms k) := by
      have q := pm.map keyS
      rw [List.map_append] at q
      unfold ins
      rw [if_neg hnk]
      exact q.trans (pm0.append_right _)
    have nd1 : (ins ms k).Nodup := by
      unfold ins
      rw [if_neg hnk, List.nodup_append]
      refine ⟨nd, by simp, fun x hx y hy e => ?_⟩
      rw [List.mem_singleton] at hy
      exact hnk (hy ▸ e ▸ hx)
    have hb1 : es1.size < scanBound := by
      have q := p1.length_eq
      unfold ins at q
      rw [if_neg hnk, List.length_map, Array.length_toList, List.length_append, List.length_singleton] at q
      rw [q]
      exact room
    have hled : w.params.followText "set-order" = true ∨ t1.led = true := hl.imp id fun z => by rw [hl1]; exact z
    refine wpAny_bind (hgw _ ?_)
    split
    · refine wpAny_bind ?_
      rw [hashByValue_scannable 8 hsc]
      refine wpAny_pure ?_
      refine setS_tail ?_ ho hex hd g1 p1 nd1 hb1 ?_ ?_ ?_ ?_
      · intro b s₁ Q' q; cases b <;> first | exact wpAny_pure q | exact wpAny_rule q
      · first | (split <;> first | exact hf1 | exact SetTable.fits_plain_off hf1) | exact hf1
      · first | (split <;> exact hr1) | exact hr1
      · first | (split <;> exact hled) | exact hled
      · intro h' sb r; dsimp only; exact wpAny_pure (hQ _ h' sb r)
    · refine wpAny_bind (wpAny_pure ?_)
      simp only [↓reduceIte]
      refine setS_tail ?_ ho hex hd g1 p1 nd1 hb1 hf1 hr1 hled ?_
      · intro b s₁ Q' q; cases b <;> first | exact wpAny_pure q | exact wpAny_rule q
      · intro h' sb r; dsimp only; exact wpAny_pure (hQ _ h' sb r)
theorem ins_len (ms : List Str) (k : Str) : (ins ms k).length ≤ ms.length + 1 := by
  unfold ins
  split
  · omega
  · rw [List.length_append, List.length_singleton]
    exact Nat.le_refl _
theorem foldl_ins_len : ∀ (ys ms : List Str), (ys.foldl ins ms).length ≤ ms.length + ys.length
  | [], ms => by simp
  | y :: ys, ms => by
    rw [List.foldl_cons, List.length_cons]
    have h1 := foldl_ins_len ys (ins ms y)
    have h2 := ins_len ms y
    omega
theorem take_ins {ys : List Str} {i : Nat} {y : Str} (h : ys[i]? = some y) : (ys.take (i + 1)).foldl ins [] = ins ((ys.take i).foldl ins []) y := by
  rw [List.take_add_one, h, List.foldl_append]
  rfl
theorem set_loopS {R : Result → Shared → Prop} {I : Addr} {fp wr : List Addr} {G : Array GenState → Array GenState → Prop} {n : Nat} {Pv : Nat → Value → Prop} {St : Nat → Shared → Prop}
    (W : WalksS P w A.in1 I fp wr G n Pv St) (S : Addr) (hSf : S ∉ fp) (ys : List Str) (hn : n = ys.length) (hfew : ys.length + 1 < scanBound) (hval : ∀ i v, Pv i v → ∃ y t, ys[i]? = some y ∧ v = .str y t) :
    ∀ (k i : Nat) (s : Shared), n - i = k → i ≤ n → St i s → SetAtS P w s.heap S ((ys.take i).foldl ins []) →
      (∀ s', Moved (S :: wr) G s s' → SetAtS P w s'.heap S (ys.foldl ins []) → R (.ok (.ret .none)) s') →
      codeAny (model P w) A (.builtin "set.update.loop" ⟨[.ref S, .ref I], []⟩) R s := by
  have hSw : S ∉ wr := fun h => hSf (W.sub _ h)
  have hsub : ∀ b ∈ wr, b ∈ S :: wr := fun b hb => List.mem_cons_of_mem _ hb
  intro k
  induction k with
  | zero =>
    intro i s hk hi hst hS hR
    have hin : i = n := by omega
    subst hin
    rw [hn, List.take_length] at hS
    refine codeAny_builtin F.entry_set_update_loop ?_
    rw [Around.under_plainId F.plain_set_update_loop _]
    show wpAny _ A.in1 (pyNext (.ref I) >>= _) _ _ s
    refine wpAny_bind (W.done s _ _ hst fun s' hm => ?_)
    show wpAny _ A.in1 (ret Value.none) _ _ s'
    exact wpAny_pure (hR s' (hm.mono hsub) (hS.at fun o e => hm.heap S o hSw e))
  | succ k ih =>
    intro i s hk hi hst hS hR
    have hlt : i < n := by omega
    refine codeAny_builtin F.entry_set_update_loop ?_
    rw [Around.under_plainId F.plain_set_update_loop _]
    show wpAny _ A.in1 (pyNext (.ref I) >>= _) _ _ s
    refine wpAny_bind (W.item i s _ _ hlt hst fun v s' hP hst' hm => ?_)
    obtain ⟨y, t, hy, rfl⟩ := hval i v hP
    have hS' : SetAtS P w s'.heap S ((ys.take i).foldl ins []) := hS.at fun o e => hm.heap S o hSw e
    show wpAny _ A.in1 (holding [Value.str y t] (setAdd S (.str y t)) >>= _) _ _ s'
    refine wpAny_bind (wpAny_holding ?_)
    unfold setAdd
    refine wpAny_holding ?_
    refine wpAny_bind ((kS P w).pyHash (k := y) (PySem.strKind_is _ _ _ _) ?_)
    have hroom : ((ys.take i).foldl ins []).length + 1 < scanBound := by
      have h1 := foldl_ins_len (ys.take i) []
      rw [List.length_take, List.length_nil] at h1
      omega
    refine setS_add (s := { s' with toks := s'.toks + 1 }) hS' hroom fun b h' hsb hS2 => ?_
    rw [← take_ins hy] at hS2
    refine wpAny_pure ⟨plainId_quiet F.plain_set_update_loop _, ih (i + 1) _ (by omega) hlt (W.frame _ s' _ _ hst' (Nat.le_succ _) fun b hb o e => ?_) hS2 fun s'' hm'' hS'' => ?_⟩
    · rw [hsb.2 b (fun h : b = S => hSf (by rw [← h]; exact hb))]
      exact e
    · refine hR s'' (Moved.trans W.gtrans ((hm.mono hsub).then_heap (Nat.le_succ _) fun b o hb e => ?_) hm'') hS''
      rw [hsb.2 b (fun h : b = S => hb (by rw [h]; exact List.mem_cons_self))]
      exact e
theorem setS_fresh {h : Heap} (ho : h.get? a = some { cls := .type "set", dict := none, data := .set #[] 0 (.fresh 0 0 (!w.params.followText "set-order")) }) : SetAtS P w h a [] :=
  ⟨_, #[], 0, _, ho, ⟨rfl, rfl, rfl⟩, rfl, (fun e he => by simp at he), (by exact List.Perm.refl _), List.nodup_nil, (by decide), (by rfl), List.Pairwise.nil, by
    show _ ∨ (!w.params.followText "set-order") = true
    cases w.params.followText "set-order"
    · exact .inr rfl
    · exact .inl rfl⟩
/-- set(a list of texts) -/
theorem call_setS {l : Addr} {items : Array Value} (ys : List Str) {Q : Value → Shared → Prop} (hh : A.handled = none) (hl : s.heap.IsList l items) (hit : StrsAre items.toList ys) (hfew : ys.length + 1 < scanBound)
    (h : ∀ (h' : Heap) (tk : Nat), SetAtS P w h' s.heap.objs.size (ys.foldl ins []) → (∀ b o, s.heap.get? b = some o → h'.get? b = some o) → Q (.ref s.heap.objs.size) { s with heap := h', toks := tk }) :
    wpAny (model P w) A (call (.type "set") [.ref l]) Q E s := by
  have hisz : items.size = ys.length := by
    have q := hit.length
    rw [Array.length_toList] at q
    exact q
  obtain ⟨c, tl, hmro⟩ := F.called_set.mro
  have hmade := F.called_set.made
  have hsub := F.called_set.sub
  refine wpAny_call (codeAny_of_tree ?_)
  show wpAny _ _ (callAny (.type "set") _) _ _ _
  refine wpAny_pure ⟨Code.quiet_builtin _ (by decide +kernel), codeAny_builtin F.entry_type_call ?_⟩
  rw [Around.under_plain (weight_type_call_type "set" [.ref l] []) rfl]
  have h1 := F.called_set.notType
  have h2 := F.called_set.canCreate
  have hct := F.typeCall_set_1 (.ref l)
  repeat (any_goals (first | assumption | wp_step))
  refine codeAny_mono (code_set_led1 (.ref l) (E := E) (Q₁ := fun obj s₁ => obj = .ref s.heap.objs.size ∧ s₁ = { s with heap := s.heap.push { cls := .type "set", dict := none, data := .set #[] 0 (.fresh 0 0 (!w.params.followText "set-order")) } }) ⟨rfl, rfl⟩) fun r s₁ hr => ?_
  cases r with
  | error e => exact hr
  | ok fl =>
    cases fl with
    | ret obj =>
      obtain ⟨rfl, rfl⟩ := hr
      have hS : (s.heap.push { cls := .type "set", dict := none, data := .set #[] 0 (.fresh 0 0 (!w.params.followText "set-order")) }).get? s.heap.objs.size = some { cls := .type "set", dict := none, data := .set #[] 0 (.fresh 0 0 (!w.params.followText "set-order")) } := Heap.get?_push_size _ rfl
      have hT : Shared.TypeIs { s with heap := s.heap.push { cls := .type "set", dict := none, data := .set #[] 0 (.fresh 0 0 (!w.params.followText "set-order")) } } (.ref s.heap.objs.size) "set" := ⟨_, hS, rfl⟩
      have hli := F.called_set.init.lookup
      have hbi := F.called_set.init.bind (.ref s.heap.objs.size)
      repeat (any_goals (first | assumption | wp_step))
      refine codeAny_mono (codeAny_call_builtin (R := wants (fun r s₂ => r = .none ∧ ∃ h' tk, s₂ = { s with heap := h', toks := tk } ∧ SetAtS P w h' s.heap.objs.size (ys.foldl ins []) ∧ (∀ b o, s.heap.get? b = some o → h'.get? b = some o)) E) F.called_set.init.plain F.entry_set_init (check_set_init_1 hT ?_)) fun r₂ s₂ hr₂ => ?_
      · obtain ⟨ol, hol, hcl, nl, hdl⟩ := hl
        obtain ⟨ocls, odict, odata, oslots⟩ := ol
        simp only at hcl hdl
        subst hcl; subst hdl
        have hol' : (s.heap.push { cls := .type "set", dict := none, data := .set #[] 0 (.fresh 0 0 (!w.params.followText "set-order")) }).get? l = some { cls := .type "list", dict := odict, data := .seq items nl, slots := oslots } := Heap.get?_push_of_some _ hol
        have hsls := F.sub_list_set
        have hslf := F.sub_list_frozenset
        have hne : (Value.type "list" == Value.type "dict") = false := by decide
        have hl1 : (s.heap.push { cls := .type "set", dict := none, data := .set #[] 0 (.fresh 0 0 (!w.params.followText "set-order")) }).IsList l items := ⟨_, hol', rfl, nl, rfl⟩
        unfold Builtin.«set.__init__» noKeywords Builtin.Frozenset.updateFrom
        generalize hPI : pyIter = PI
        wp_walk
        subst hPI
        refine wpAny_pyIter_list hl1 ?_
        refine wpAny_bind (wpAny_runValue ?_)
        have hlS : l < s.heap.objs.size := Heap.lt_size hol
        have hh3 : A.in1.in1.in1.handled = none := by simp [hh]
        have hneI : l ≠ (s.heap.push { cls := .type "set", dict := none, data := .set #[] 0 (.fresh 0 0 (!w.params.followText "set-order")) }).objs.size := by
          rw [Heap.size_push]; exact Nat.ne_of_lt (Nat.lt_succ_of_lt hlS)
        have hSf : s.heap.objs.size ∉ [(s.heap.push { cls := .type "set", dict := none, data := .set #[] 0 (.fresh 0 0 (!w.params.followText "set-order")) }).objs.size, l] := by
          rw [Heap.size_push]; simp only [List.mem_cons, List.mem_singleton, List.not_mem_nil, or_false, not_or]
          exact ⟨Nat.ne_of_lt (Nat.lt_succ_self _), Nat.ne_of_gt hlS⟩
        have hval : ∀ (i : Nat) (v : Value), items[i]? = some v → ∃ y t, ys[i]? = some y ∧ v = .str y t := fun i v hv => by
          have q : items.toList[i]? = some v := by rw [Array.getElem?_toList]; exact hv
          obtain ⟨t, e⟩ := SS.strs_at hit i v q
          have hi : i < ys.length := by
            have := (List.getElem?_eq_some_iff.mp q).1
            rw [Array.length_toList] at this
            omega
          refine ⟨_, t, List.getElem?_eq_getElem hi, ?_⟩
          rw [e]
          congr 1
          simp [hi]
        refine set_loopS ((Walks.list hh3 _ l hneI items).toS) s.heap.objs.size hSf ys hisz hfew hval (items.size - 0) 0 _ (by omega) (Nat.zero_le _)
          ⟨⟨_, Heap.get?_push_size _ rfl, rfl, rfl⟩, (hl1.push _)⟩ ?hS0 ?hR
        case hS0 =>
          exact setS_fresh (Heap.get?_push_of_some _ hS)
        case hR =>
          intro s' hm hS'
          obtain ⟨h', g2, d', tk', os'⟩ := s'
          have eg : g2 = s.gens := hm.gens
          have ed : d' = s.drawn := hm.drawn
          have eo : os' = s.os := hm.os
          subst eg; subst ed; subst eo
          show wpAny _ _ _ _ _ _
          refine wpAny_pure ?_
          show wpAny _ _ (ret Value.none) _ _ _
          refine wpAny_pure ⟨rfl, h', tk', rfl, hS', fun b o e => ?_⟩
          refine hm.heap b o (fun z => ?_) (Heap.get?_push_of_some _ (Heap.get?_push_of_some _ e))
          have hb := Heap.lt_size e
          rcases List.mem_cons.mp z with z | z
          · rw [z] at hb
            exact absurd hb (Nat.lt_irrefl _)
          · rw [List.mem_singleton.mp z, Heap.size_push] at hb
            exact absurd (Nat.lt_of_succ_lt hb) (Nat.lt_irrefl _)
      · cases r₂ with
        | error e => exact hr₂
        | ok fl₂ =>
          cases fl₂ with
          | ret r =>
            obtain ⟨rfl, h', tk, rfl, hS', hk'⟩ := hr₂
            repeat (any_goals (first | assumption | wp_step))
            exact h _ _ hS' hk'
          | _ => exact hr₂.elim
    | _ => exact hr.elim
end
end K77
set_option Elab.async false
set_option linter.all false
set_option maxRecDepth 100000
set_option maxHeartbeats 4000000
/-! K77R: rules that the layer has not: text * int, list.count of texts, repr, sorted of many texts, sets of texts, enumerate of a tuple and of a text. -/
namespace K77
open PySem PySem.Spec PyProof.Rows L2
section
variable {X : Cx}
/-! ### text * int -/
def rep (x : Str) (n : Nat) : Str := ⟨(List.replicate n x.cps.toList).flatten.toArray⟩
theorem foldl_app (l : List (Array Nat)) : ∀ a : Array Nat, l.foldl (· ++ ·) a = a ++ (l.map Array.toList).flatten.toArray := by
  induction l with
  | nil =>
    intro a
    simp
  | cons y l ih =>
    intro a
    rw [List.foldl_cons, ih]
    cases y
    cases a
    simp
theorem mul_rep (x : Str) (n : Nat) : Txt.mul x (n : Int) = rep x n := by
  unfold Txt.mul rep
  by_cases h0 : (n : Int) < 1
  · rw [if_pos h0]
    have : n = 0 := by omega
    subst this
    rfl
  · rw [if_neg h0]
    by_cases h1 : ((n : Int) == 1 || x.length == 0) = true
    · rw [if_pos h1]
      rw [Bool.or_eq_true, beq_iff_eq, beq_iff_eq] at h1
      obtain ⟨c⟩ := x
      congr 1
      rcases h1 with h1 | h1
      · have : n = 1 := by omega
        subst this
        simp
      · have e : c = #[] := Array.eq_empty_of_size_eq_zero h1
        subst e
        simp
    · rw [if_neg h1, foldl_app, Int.toNat_natCast, List.map_replicate]
      congr 1
      simp
theorem mul_ok {x : Str} {n : Nat} (h : x.length ≤ 1000) (h2 : n ≤ 1000) : MulOk x (n : Int) := by
  refine ⟨by simp; omega, fun h3 _ => ?_, fun _ _ => ?_⟩
  · have e : (2 ^ 63 - 1 : Int) / n ≥ 1000 := by
      have q : (1000 : Int) * n ≤ 2 ^ 63 - 1 := by omega
      exact (Int.le_ediv_iff_mul_le (by omega)).mpr q
    omega
  · unfold Builtin.Str.tooLong
    rw [Int.toNat_natCast]
    have q : x.length * n ≤ 1000 * 1000 := Nat.mul_le_mul h h2
    rw [sizeLine_eq]
    simp
    omega
theorem op_mulS : OpR X (binaryOp .Mult) (fun x y H Q => ∃ (z : Str) (n : Nat), x = .str z ∧ y = .int n ∧ z.length ≤ 1000 ∧ n ≤ 1000 ∧ Q (.str (rep z n)) H) := by
  intro pins s σ H x y v u Q I rx ry h
  obtain ⟨z, n, rfl, rfl, h1, h2, q⟩ := h
  obtain ⟨t, rfl⟩ := rx
  obtain ⟨t', rfl⟩ := ry
  refine SB.mul (mul_ok h1 h2) fun t2 k => ?_
  rw [mul_rep]
  exact ⟨.str (rep z n), H, I.tok _, ⟨_, rfl⟩, q⟩
/-! ### list.count of texts -/
theorem countP_strs {k : Str} : ∀ {ys : List Str} {us : List Value}, StrsAre us ys → us.countP (fun v => match v with | .str y _ => y == k | _ => false) = ys.count k
  | [], _, h => by cases h; rfl
  | y :: ys, _, h => by
    cases h with
    | cons n t hr =>
      rw [List.countP_cons, List.count_cons, countP_strs hr]
theorem mt_countS : MtR X "list.count" (fun x xs H Q => ∃ (p : Addr) (ys : List Str) (k : Str), x = .ref p ∧ xs = [.str k] ∧ SqL X.K H p (ys.map V.str) ∧ Q (.int (ys.count k : Nat)) H) := by
  intro pins s σ H x xs v us Q I rx rxs h
  obtain ⟨p, ys, k, rfl, rfl, hs, q⟩ := h
  cases rx
  obtain ⟨u, rfl, ru⟩ := rxs.one
  obtain ⟨t, rfl⟩ := ru
  obtain ⟨its, rv, ⟨⟨cls, dd, data, sl⟩, n, ho, hc, hdn, hd⟩, hlen⟩ := I.list hs
  simp only at hc hd
  subst hc hd
  have hi := rv.strs
  refine call_meets PySem.F.slot_list_count ⟨_, ho, rfl⟩ PySem.F.entry_list_count (PySem.F.args_list_count_2 _ _)
    (SeqAt.list_countAt p its.toArray n dd sl (.str k t) (fun v => match v with | .str y _ => y == k | _ => false)) ⟨ho, fun y hy => ?_, ?_⟩
  · obtain ⟨z, t', rfl⟩ := hi.all y (by simpa using hy)
    exact SeqAt.EqAt.str_str z t' k t
  · refine ⟨.int (ys.count k : Nat), H, I.tok _, ⟨s.toks, ?_⟩, q⟩
    have e := countP_strs (k := k) hi
    show Value.int _ _ = _
    rw [← e]
/-! ### repr of a text, of None -/
def reprV : V → Str
  | .str x => reprText x
  | _ => "None"
theorem cr_repr : CallR X (.builtin "repr") (fun xs H Q => ∃ v, xs = [v] ∧ (v = .non ∨ ∃ x, v = .str x ∧ x.length ≤ 100 ∧ ∀ c ∈ x.cps.toList, c < 16 ^ 8) ∧ Q (.str (reprV v)) H) := by
  intro pins s σ H xs us Q I r h
  obtain ⟨v, rfl, hv, q⟩ := h
  obtain ⟨u, rfl, ru⟩ := vals1 r
  rcases hv with rfl | ⟨x, rfl, hx, hc⟩
  · cases ru
    exact PySem.P.repr_of_none ⟨.str "None", H, I.tok _, ⟨_, rfl⟩, q⟩
  · obtain ⟨t, rfl⟩ := ru
    have hl := StrLaws.reprText_len x hc
    exact PySem.P.repr_of_str ⟨.str (reprText x), H, I.tok _, ⟨_, rfl⟩, q⟩ (by rw [sizeLine_eq]; omega)
/-! ### sorted of texts, however many -/
theorem cr_sortedA : CallR X (.builtin "sorted") (fun xs H Q => ∃ (a : Addr) (ys : List Str), xs = [.ref a] ∧ SqL X.K H a (ys.map V.str) ∧ ∀ (zs : List Str) (p : Addr), zs.Perm ys → sortedS zs = true → H p = none → Q (.ref p) (upd H p (.lst (zs.map V.str)))) := by
  intro pins s σ H vs us Q I r h
  obtain ⟨a, ys, rfl, hs, q⟩ := h
  obtain ⟨its, rv, hl, hz⟩ := I.list hs
  rw [Vals.ref1 r]
  have hi := rv.strs
  refine sorted_strsAny hl.isList hi (by rw [← rv.length]; exact hz) fun out zs h1 h2 h3 => ?_
  obtain ⟨ep, he'⟩ := PyProof.Rows.sortedAll_at s.heap its out
  have hlen : (zs.map V.str).length ≤ sizeLine := by
    rw [List.length_map, h2.length_eq]
    rw [List.length_map] at hz
    exact hz
  exact ⟨.ref _, upd H (s.heap.objs.size + 1) (.lst (zs.map V.str)), I.laid (t' := s.toks) (fun _ _ => PyProof.Rows.sortedAll_old) (Nat.le_succ _) ⟨hlen, out.toList, ep, vals_of_strs h1, by rw [Array.toArray_toList]; exact he'⟩, rfl, q _ _ h2 h3 (I.hok.fresh (Nat.le_succ _))⟩
/-! ### sets of texts -/
def SetO (P : Program) (w : World) (a : Addr) (ms : List Str) : HO := .ext fun h => SetAtS P w h a ms
theorem setO_ok {P : Program} {w : World} {H : Hp} {h : Heap} {a : Addr} {ms : List Str} (R : SetAtS P w h a ms) : ObjOk P w H h a (SetO P w a ms) :=
  ⟨R, (let ⟨o, _, _, _, e, _⟩ := R; ⟨o, e⟩), fun _ _ x k => x.at k⟩
theorem cr_set (hc : X.calm = true) : CallR X (.type "set") (fun xs H Q => ∃ (l : Addr) (ys : List Str), xs = [.ref l] ∧ SqL X.K H l (ys.map V.str) ∧ ys.length ≤ 1000 ∧ ∀ p, H p = none → Q (.ref p) (upd H p (SetO X.prog X.w p (ys.foldl ins [])))) := by
  intro pins s σ H vs us Q I r h
  obtain ⟨l, ys, rfl, hs, hz, q⟩ := h
  obtain ⟨its, rv, hl, _⟩ := I.list hs
  rw [Vals.ref1 r]
  refine call_setS ys (I.ok.hd hc) hl.isList (by simpa using rv.strs) (by unfold scanBound; omega) fun h' tk R k => ?_
  exact ⟨.ref _, _, I.laid (t' := tk) k (Nat.le_refl _) (setO_ok R), rfl, q _ (I.hok.fresh (Nat.le_refl _))⟩
theorem strs_ofT {P : Program} {w : World} : ∀ (l : List Value), (∀ v ∈ l, ∃ x t, v = Value.str x t) → StrsAre l (l.map fun v => keyS (0, v))
  | [], _ => .nil
  | v :: l, h => by
    obtain ⟨x, t, rfl⟩ := h v List.mem_cons_self
    exact .cons x t (strs_ofT (P := P) (w := w) l fun u hu => h u (List.mem_cons_of_mem _ hu))
theorem sorted_setS {P : Program} {w : World} {A : Around} {E : Value → Shared → Prop} {s : Shared} {a : Addr} {ms : List Str} {Q : Value → Shared → Prop} (R : SetAtS P w s.heap a ms) (hh : A.handled = none) (hz : ms.length ≤ 1000)
    (hQ : ∀ s' p (out : Array Value) (c : Nat) (zs : List Str), (∀ b o, s.heap.get? b = some o → s'.heap.get? b = some o) → s'.gens = s.gens → s'.os = s.os → s.heap.objs.size ≤ p →
      s'.heap.get? p = some (seqObj "list" out c) → StrsAre out.toList zs → zs.Perm ms → sortedS zs = true → Q (.ref p) s') :
    wpAny (model P w) A (call (.builtin "sorted") [.ref a]) Q E s := by
  obtain ⟨o, es, ep, t, ho, hex, hd, g, pm0, nd, hb, hf, hr, hl⟩ := R
  refine Calls.call_function_entry kind_sorted plain_sorted entry_sorted (args_sorted1 _) ?_
  unfold Builtin.«sorted»
  refine wpAny_bind (m := checkCount "sorted" 1 1 _) (wpAny_pure ?_)
  refine wpAny_bind (collect_set (A := A.in1) hh ⟨o, ho, hex.1, hd⟩ hf hb hr hl fun s1 vs k1 hz1 g1 o1 pm => ?_)
  have hI : StrsAre vs (vs.map fun v => keyS (0, v)) := strs_ofT (P := P) (w := w) vs fun v hv => by
    obtain ⟨e, he, q⟩ := List.mem_map.mp (pm.mem_iff.mp hv)
    obtain ⟨x, tk, h1, _⟩ := g e he
    exact ⟨x, tk, by rw [← q]; exact h1⟩
  have pk : (vs.map fun v => keyS (0, v)).Perm ms := by
    have q := pm.map fun v => keyS (0, v)
    rw [List.map_map] at q
    exact q.trans pm0
  have hvl : vs.length = ms.length := by
    have q := pk.length_eq
    rw [List.length_map] at q
    exact q
  refine wpAny_bind (wpAny_newList ?_ (by rw [hvl, sizeLine_eq]; omega))
  have hoL : (s1.heap.push (seqObj "list" vs.toArray 0)).get? s1.heap.objs.size = some (seqObj "list" vs.toArray 0) := Heap.get?_push_size _ rfl
  refine wpAny_bind (wpAny_holding (wpAny_call_entry slot_list_sort ⟨_, hoL, rfl⟩ entry_list_sort (list_sort_treeKAny strKind_oneLt hoL hI.keysOf (fun v₁ v₂ rest e => keyKind_strs (by rw [← e]; exact hI)) (by rw [hvl, sizeLine_eq]; omega) fun st' a1 a2 => ⟨_, rfl, ?_⟩) (args_list_sort _)))
  obtain ⟨zs, z1, z2, z3⟩ := sorted_out_str hI a1 a2
  obtain ⟨c, hc⟩ := sortedHeap_at (vs := vs) (out := (arrOf st').map (·.2)) hoL
  refine wpAny_pure ⟨_, rfl, hQ _ s1.heap.objs.size _ c zs (fun b u e => ?_) g1 o1 hz1 hc z1 (z2.trans pk) z3⟩
  have q := k1 b u e
  have hlt := Heap.lt_size q
  show (sortedHeap (s1.heap.push (seqObj "list" vs.toArray 0)) s1.heap.objs.size vs _).get? b = some u
  rw [sortedHeap_old (Nat.ne_of_lt hlt) (by rw [size_push']; exact Nat.lt_succ_of_lt hlt)]
  exact Heap.get?_push_of_some _ q
theorem cr_sortedT (hc : X.calm = true) : CallR X (.builtin "sorted") (fun xs H Q => ∃ (a : Addr) (ms : List Str), xs = [.ref a] ∧ H a = some (SetO X.prog X.w a ms) ∧ ms.length ≤ 1000 ∧ ∀ (zs : List Str) (p : Addr), zs.Perm ms → sortedS zs = true → H p = none → Q (.ref p) (upd H p (.lst (zs.map V.str)))) := by
  intro pins s σ H vs us Q I r h
  obtain ⟨a, ms, rfl, ha, hz, q⟩ := h
  rw [Vals.ref1 r]
  refine sorted_setS (I.hok a _ ha).1 (I.ok.hd hc) hz fun s' p out c zs k g o hp hg hi pm hs => ?_
  have hlen : (zs.map V.str).length ≤ sizeLine := by rw [List.length_map, pm.length_eq, sizeLine_eq]; omega
  have hn : H p = none := I.hok.fresh hp
  have J : Inv X pins σ (upd H p (.lst (zs.map V.str))) { s with heap := s'.heap, gens := s'.gens, drawn := s'.drawn, toks := s'.toks } :=
    I.call (ch := []) (Un.laid k hp hn) (I.hok.laid k hp ⟨hlen, out.toList, c, vals_of_strs hi, hg⟩) (by rw [g]; exact I.bare) (fun _ z => nomatch z)
  have e : s' = { s with heap := s'.heap, gens := s'.gens, drawn := s'.drawn, toks := s'.toks } := by
    cases s'
    cases s
    cases o
    rfl
  rw [e]
  exact ⟨.ref p, _, J, rfl, q zs p pm hs hn⟩
end

/-! ### enumerate of a tuple, of a text -/
set_option maxHeartbeats 4000000 in
theorem meets_enumT (a : Addr) (items : Array Value) :
    Meets (Builtin.«enumerate.__new__» ⟨[.type "enumerate", .ref a], []⟩) (fun _ R s => s.heap.IsTuple a items ∧
      R (.ok (.ret (.ref (s.heap.objs.size + 1)))) { s with heap := (s.heap.push { cls := .type "tuple_iterator", data := .fields #[.ref a, .int 0 0] }).push { cls := .type "enumerate", data := .fields #[.none, .bool false, .ref s.heap.objs.size, rawInt 0, .none, .none] } }) :=
  .of_wp fun prog w A R s h => by
    obtain ⟨hp, g, d, tk, os⟩ := s; obtain ⟨h1, h⟩ := h
    have hsub := sub_enumerate
    have hz : (hp.push { cls := .type "tuple_iterator", data := .fields #[.ref a, .int 0 0] }).objs.size = hp.objs.size + 1 := Heap.size_push ..
    have q1 : ∀ {A' : Around} {E : Value → Shared → Prop} {Q : Value → Shared → Prop}, Q (.ref hp.objs.size) ⟨hp.push { cls := .type "tuple_iterator", data := .fields #[.ref a, .int 0 0] }, g, d, tk, os⟩ → wpAny (model prog w) A' (pyIter (.ref a)) Q E ⟨hp, g, d, tk, os⟩ :=
      fun q => wpAny_pyIter_tuple h1 q
    rw [← hz] at h
    wp_walk using q1
    refine wpAny_stack_any fun st => wpAny_pure ?_
    split
    · rename_i c _ _ _ _ _
      cases (c == Value.type "enumerate")
      · wp_walk using q1
        exact ⟨_, rfl, h⟩
      · wp_walk using q1
        exact ⟨_, rfl, h⟩
    · wp_walk using q1
      exact ⟨_, rfl, h⟩
section
variable {prog : Program} {w : World} {A : Around} {E : Value → Shared → Prop} {s : Shared}
theorem call_enumT {a : Addr} {items : Array Value} {Q : Value → Shared → Prop} (hL : s.heap.IsTuple a items)
    (h : ∀ h', IsEnum h' (s.heap.objs.size + 1) s.heap.objs.size 0 .none → h'.IsTupleIter s.heap.objs.size a 0 → h'.objs.size = s.heap.objs.size + 2 →
      (∀ b o, s.heap.get? b = some o → h'.get? b = some o) → Q (.ref (s.heap.objs.size + 1)) { s with heap := h' }) :
    wpAny (model prog w) A (call (.type "enumerate") [.ref a]) Q E s := by
  refine callType_new F.called_enumerate (by decide) (F.typeCall_enumerate_1 _) (F.newCall_enumerate_1 _) (fun obj => F.args_object_init_2 obj _) F.entry_enumerate_new (meets_enumT a items) ⟨hL, ?_⟩
  have hz : (s.heap.push { cls := .type "tuple_iterator", data := .fields #[.ref a, .int 0 0] }).objs.size = s.heap.objs.size + 1 := Heap.size_push ..
  have he : IsEnum ((s.heap.push { cls := .type "tuple_iterator", data := .fields #[.ref a, .int 0 0] }).push
      { cls := .type "enumerate", data := .fields #[.none, .bool false, .ref s.heap.objs.size, rawInt 0, .none, .none] }) (s.heap.objs.size + 1) s.heap.objs.size 0 .none := by
    have q := Heap.get?_push_size (s.heap.push { cls := .type "tuple_iterator", data := .fields #[.ref a, .int 0 0] })
      (o := { cls := .type "enumerate", data := .fields #[.none, .bool false, .ref s.heap.objs.size, rawInt 0, .none, .none] }) rfl
    rw [hz] at q
    exact q
  exact ⟨⟨_, he, rfl⟩, h _ he ⟨_, Heap.get?_push_of_some _ (Heap.get?_push_size _ rfl), rfl, rfl⟩ (by rw [Heap.size_push, hz]) fun b o x => Heap.get?_push_of_some _ (Heap.get?_push_of_some _ x)⟩
end
/-- at turn i a new pair of i and the i-th item -/
def Itet (K : PySem.W.Frag) (a : Addr) : It :=
  ⟨fun i H => ∃ (xs : List V) (x : V), SqT K H a xs ∧ xs[i]? = some x, fun i H v H' => ∃ T x, v = .ref T ∧ H T = none ∧ H' = upd H T (.tup [.int (i : Nat), x]) ∧ ∀ xs, SqT K H a xs → xs[i]? = some x, fun i H => ∃ xs : List V, SqT K H a xs ∧ xs.length = i⟩
def Ites (z : Str) : It :=
  ⟨fun i _ => i < z.cps.size, fun i H v H' => ∃ T c, v = .ref T ∧ H T = none ∧ H' = upd H T (.tup [.int (i : Nat), .str ⟨#[c]⟩]) ∧ z.cps[i]? = some c, fun i _ => i = z.cps.size⟩
section
variable {P : Program} {w : World} {K : PySem.W.Frag} {elts : List Expr} {kk : Nat} {tpos : Pos}
/-- the pair of a turn, laid -/
theorem enum_pair {X : Cx} {pins : List (Addr × Obj)} {σ : L2.St} {H : Hp} {s : Shared} {E : Value → Shared → Prop} {e it : Addr} {i : Nat} {x : V} {u : Value} {h' : Heap} {tk : Nat} {R : V → Hp → Shared → Prop} (I : Inv X pins σ H s) (hf : ∀ b ∈ [e, it], FpOk X pins H b) (hel : e < s.heap.objs.size)
    (ho : IsEnumOut h' e it ((i : Int) + 1) u s.heap.objs.size) (hT : h'.get? s.heap.objs.size = some { cls := .type "tuple", data := .seq #[.int i tk, u] }) (ru : RelV x u) (hk : ∀ b o, b ≠ e → b ≠ it → s.heap.get? b = some o → h'.get? b = some o)
    (fin : ∀ h'', IsEnum h'' e it ((i : Int) + 1) u → Heap.SameBut e h' h'' → Inv X pins σ (upd H s.heap.objs.size (.tup [.int (i : Nat), x])) { s with heap := h'', toks := tk + 1 } → R (.ref s.heap.objs.size) (upd H s.heap.objs.size (.tup [.int (i : Nat), x])) { s with heap := h'', toks := tk + 1 }) :
    wpAny (model X.prog X.w) X.A (letOwnedTupleGo (.Tuple elts kk tpos) (.ref e) (.ref s.heap.objs.size)) (fun _ s2 => ∃ H', R (.ref s.heap.objs.size) H' s2 ∧ Inv X pins σ H' s2 ∧ H' = upd H s.heap.objs.size (.tup [.int (i : Nat), x])) E { s with heap := h', toks := tk + 1 } := by
  refine wpAny_letOwnedTupleGo_enum (s := { s with heap := h', toks := tk + 1 }) ho fun h'' he' sb => ?_
  have hT2 : h''.get? s.heap.objs.size = some { cls := .type "tuple", data := .seq #[.int i tk, u] } := (sb.2 _ (Nat.ne_of_gt hel)).trans hT
  have new : ObjOk X.prog X.w (upd H s.heap.objs.size (.tup [.int (i : Nat), x])) h'' s.heap.objs.size (.tup [.int (i : Nat), x]) :=
    ⟨by show 2 ≤ sizeLine; decide, [.int i tk, u], .cons ⟨_, rfl⟩ (.cons ru .nil), ⟨_, hT2, rfl, _, rfl⟩⟩
  have J : Inv X pins σ (upd H s.heap.objs.size (.tup [.int (i : Nat), x])) { s with heap := h'', toks := tk + 1 } :=
    I.turnedNew (ch := [e, it]) (fun b ob hb q => (sb.2 b (fun z => hb (by simp [z]))).trans (hk b ob (fun z => hb (by simp [z])) (fun z => hb (by simp [z])) q)) hf (Nat.le_refl _) new
  exact ⟨_, fin h'' he' sb J, J, rfl⟩
theorem turn_enumT (a e it : Addr) : Turn P w K (.Tuple elts kk tpos) (Itet K a) [e, it] e (fun i h => (∃ old, IsEnum h e it ((i : Nat) : Int) old) ∧ h.IsTupleIter it a i ∧ e ≠ it ∧ e ≠ a ∧ it ≠ a) where
  mem := List.mem_cons_self
  obj := fun i h st b hb => by
    obtain ⟨⟨old, he⟩, ⟨o, ho, hc, hd⟩, _⟩ := st
    rcases List.mem_cons.mp hb with z | z
    · rw [z]; exact ⟨_, he, fun v q => nomatch q⟩
    · rw [List.mem_singleton.mp z]; exact ⟨o, ho, fun v q => by rw [hd] at q; cases q⟩
  keep := fun i h h' st k => let ⟨⟨old, he⟩, hi, hne⟩ := st; ⟨⟨old, k e (by simp) _ he⟩, hi.at fun o q => k it (by simp) o q, hne⟩
  item := by
    rintro X rfl rfl rfl hc i pins s σ H E I hf ⟨⟨old, he⟩, hit, hne, hea, hia⟩ ⟨xs, x, hq, hx⟩
    obtain ⟨its, rv, p, hz⟩ := I.tuple hq
    obtain ⟨u, hu, ru⟩ := rv.get hx
    have hlt : i < its.toArray.size := by
      rw [List.size_toArray]
      exact (List.getElem?_eq_some_iff.mp hu).1
    have D := Draws.tuple (prog := X.prog) (w := X.w) (A := X.A.in1) (I.ok.hd hc) it a hia.symm its.toArray
    have hel : e < s.heap.objs.size := Heap.lt_size he
    refine wpAny_pyNext_enum_itemD D he ⟨hit, p⟩ hlt hne (by simp [hne, hea]) fun u' h' tk hu' ho hst hT hsz hk => ?_
    have eu : u' = u := by
      have q : its.toArray[i]? = some u' := hu'
      rw [List.getElem?_toArray, hu] at q
      exact (Option.some.inj q).symm
    subst eu
    refine ⟨_, rfl, thn (enum_pair (R := fun _ H' s2 => ((∃ old, IsEnum s2.heap e it (((i + 1 : Nat) : Nat) : Int) old) ∧ s2.heap.IsTupleIter it a (i + 1) ∧ e ≠ it ∧ e ≠ a ∧ it ≠ a)) I hf hel ho hT ru hk fun h'' he' sb J => ⟨⟨u', ?_⟩, hst.1.at fun o q => (sb.2 it (Ne.symm hne)).trans q, hne, hea, hia⟩) fun _ s2 ⟨H', r, J, eH⟩ => ?_⟩
    · have e1 : ((i + 1 : Nat) : Int) = (i : Int) + 1 := by omega
      rw [e1]; exact he'
    · subst eH
      refine ⟨.ref s.heap.objs.size, _, J, rfl, ⟨_, x, rfl, I.hok.fresh (Nat.le_refl _), rfl, fun ys hy => by rw [I.tuple_inj hy hq]; exact hx⟩, r, fun b hb => ?_⟩
      have hb' : b < s.heap.objs.size := by
        rcases List.mem_cons.mp hb with z | z
        · rw [z]; exact hel
        · rw [List.mem_singleton.mp z]
          obtain ⟨_, q, _⟩ := hit
          exact Heap.lt_size q
      rw [upd_ne (Nat.ne_of_lt hb')]
      exact (hf b hb).1
  done := by
    rintro X rfl rfl rfl hc i pins s σ H E I hf ⟨⟨old, he⟩, hit, hne, hea, hia⟩ ⟨xs, hq, hl⟩
    obtain ⟨f0, f1, f2, f3, f4, f5⟩ := hf it (by simp)
    obtain ⟨its, rv, p, hz⟩ := I.tuple hq
    have D := Draws.tuple (prog := X.prog) (w := X.w) (A := X.A.in1) (I.ok.hd hc) it a hia.symm its.toArray
    have hn : its.toArray.size = i := by rw [List.size_toArray, ← rv.length, hl]
    rw [hn] at D
    exact wpAny_pyNext_enum_endD D he ⟨hit, p⟩ fun h' eb => ⟨rfl, I.turned (t' := s.toks) (fun b o hb q => eb b o hb q) f0 f1 f3 f4 f5⟩
  self := fun A i s Q E st h => let ⟨⟨_, he⟩, _⟩ := st; wpAny_pyIter_enum he h
theorem turn_enumS (z : Str) (t : Tok) (e it : Addr) : Turn P w K (.Tuple elts kk tpos) (Ites z) [e, it] e (fun i h => (∃ old, IsEnum h e it ((i : Nat) : Int) old) ∧ h.IsStrIter it (strIterType z) z t i ∧ e ≠ it) where
  mem := List.mem_cons_self
  obj := fun i h st b hb => by
    obtain ⟨⟨old, he⟩, ⟨o, ho, hc, hd⟩, _⟩ := st
    rcases List.mem_cons.mp hb with z | z
    · rw [z]; exact ⟨_, he, fun v q => nomatch q⟩
    · rw [List.mem_singleton.mp z]; exact ⟨o, ho, fun v q => by rw [hd] at q; cases q⟩
  keep := fun i h h' st k => let ⟨⟨old, he⟩, hi, hne⟩ := st; ⟨⟨old, k e (by simp) _ he⟩, (let ⟨o, ho, r⟩ := hi; ⟨o, k it (by simp) o ho, r⟩), hne⟩
  item := by
    rintro X rfl rfl rfl hc i pins s σ H E I hf ⟨⟨old, he⟩, hit, hne⟩ hlt
    have D := Draws.text (prog := X.prog) (w := X.w) (A := X.A.in1) (I.ok.hd hc) it z t
    have hel : e < s.heap.objs.size := Heap.lt_size he
    refine wpAny_pyNext_enum_itemD D he hit hlt hne (by simp [hne]) fun u' h' tk hu' ho hst hT hsz hk => ?_
    obtain ⟨c, tc, hc', rfl⟩ := hu'
    refine ⟨_, rfl, thn (enum_pair (x := .str ⟨#[c]⟩) (R := fun _ H' s2 => ((∃ old, IsEnum s2.heap e it (((i + 1 : Nat) : Nat) : Int) old) ∧ s2.heap.IsStrIter it (strIterType z) z t (i + 1) ∧ e ≠ it)) I hf hel ho hT ⟨tc, rfl⟩ hk fun h'' he' sb J => ⟨⟨.str ⟨#[c]⟩ tc, by rw [show ((i + 1 : Nat) : Int) = (i : Int) + 1 by omega]; exact he'⟩, (let ⟨o, ho, r⟩ := hst; ⟨o, (sb.2 it (Ne.symm hne)).trans ho, r⟩), hne⟩) fun _ s2 ⟨H', r, J, eH⟩ => ?_⟩
    · subst eH
      refine ⟨.ref s.heap.objs.size, _, J, rfl, ⟨_, c, rfl, I.hok.fresh (Nat.le_refl _), rfl, hc'⟩, r, fun b hb => ?_⟩
      have hb' : b < s.heap.objs.size := by
        rcases List.mem_cons.mp hb with z | z
        · rw [z]; exact hel
        · rw [List.mem_singleton.mp z]
          obtain ⟨_, q, _⟩ := hit
          exact Heap.lt_size q
      rw [upd_ne (Nat.ne_of_lt hb')]
      exact (hf b hb).1
  done := by
    rintro X rfl rfl rfl hc i pins s σ H E I hf ⟨⟨old, he⟩, hit, hne⟩ hl
    obtain ⟨f0, f1, f2, f3, f4, f5⟩ := hf it (by simp)
    have D := Draws.text (prog := X.prog) (w := X.w) (A := X.A.in1) (I.ok.hd hc) it z t
    have hl' : i = z.cps.size := hl
    rw [hl'] at hit he
    exact wpAny_pyNext_enum_endD D he hit fun h' eb => ⟨rfl, I.turned (t' := s.toks) (fun b o hb q => eb b o hb q) f0 f1 f3 f4 f5⟩
  self := fun A i s Q E st h => let ⟨⟨_, he⟩, _⟩ := st; wpAny_pyIter_enum he h
end
def iEnumT (K : PySem.W.Frag) (ta : TA) : TI := fun σ H R => ta σ H fun vs H1 => ∃ a xs, vs = [.ref a] ∧ SqT K H1 a xs ∧ R (Itet K a) H1
def iEnumS (ta : TA) : TI := fun σ H R => ta σ H fun vs H1 => ∃ z, vs = [.str z] ∧ R (Ites z) H1
section
variable {X : Cx} {e : Expr} {ta : TA} {p pos tpos : Pos} {elts : List Expr} {kk : Nat}
theorem pi_enumT (hm : X.mg "enumerate" = none) (ha : PA X [e] ta) (hg : Gl X "enumerate" := by rfl) (hs : starEach [e] X.env = [(false, eval e X.env)] := by rfl) :
    PI X (.Tuple elts kk tpos) (.Call (.Name "enumerate" p) [e] [] pos) (iEnumT X.K ta) := by
  refine ⟨fun pins s σ H R I h => ?_⟩
  refine Call_ (ld_blt I hg hm boot_enumerate (PyProof.Rows.callWith_type1 (thn (ha.run pos pins s σ H _ I h) fun us s1 ⟨vs, H1, I1, r1, a, xs, ex, hq, q⟩ => ?_) hs rfl))
  subst ex
  rw [Vals.ref1 r1]
  obtain ⟨its, rv, p', hz⟩ := I1.tuple hq
  have hla : a < s1.heap.objs.size := p'.lt
  refine call_enumT (show s1.heap.IsTuple a its.toArray from p') fun h' he hit hsz hk => wpAny_pyIter_enum he ?_
  have I2 : Inv X pins σ H1 { s1 with heap := h' } := I1.kept (t' := s1.toks) hk
  refine ⟨s1.heap.objs.size + 1, [s1.heap.objs.size + 1, s1.heap.objs.size], _, _, H1, rfl, I2, turn_enumT a (s1.heap.objs.size + 1) s1.heap.objs.size, ⟨⟨.none, he⟩, hit, Nat.succ_ne_self _, Nat.ne_of_gt (Nat.lt_succ_of_lt hla), Nat.ne_of_gt hla⟩, fun b hb => ?_, q⟩
  have hle : s1.heap.objs.size ≤ b := by
    rcases List.mem_cons.mp hb with z | z
    · rw [z]; exact Nat.le_add_right _ _
    · rw [List.mem_singleton.mp z]; exact Nat.le_refl _
  exact I1.fpOk hle (I1.hok.fresh hle)
theorem pi_enumS (hm : X.mg "enumerate" = none) (ha : PA X [e] ta) (hg : Gl X "enumerate" := by rfl) (hs : starEach [e] X.env = [(false, eval e X.env)] := by rfl) :
    PI X (.Tuple elts kk tpos) (.Call (.Name "enumerate" p) [e] [] pos) (iEnumS ta) := by
  refine ⟨fun pins s σ H R I h => ?_⟩
  refine Call_ (ld_blt I hg hm boot_enumerate (PyProof.Rows.callWith_type1 (thn (ha.run pos pins s σ H _ I h) fun us s1 ⟨vs, H1, I1, r1, z, ex, q⟩ => ?_) hs rfl))
  subst ex
  obtain ⟨u, rfl, t, rfl⟩ := vals1 r1
  refine call_enumerate_str fun h' he hit hsz hk => wpAny_pyIter_enum he ?_
  have I2 : Inv X pins σ H1 { s1 with heap := h' } := I1.kept (t' := s1.toks) hk
  refine ⟨s1.heap.objs.size + 1, [s1.heap.objs.size + 1, s1.heap.objs.size], _, _, H1, rfl, I2, turn_enumS z t (s1.heap.objs.size + 1) s1.heap.objs.size, ⟨⟨.none, he⟩, hit, Nat.succ_ne_self _⟩, fun b hb => ?_, q⟩
  have hle : s1.heap.objs.size ≤ b := by
    rcases List.mem_cons.mp hb with z | z
    · rw [z]; exact Nat.le_add_right _ _
    · rw [List.mem_singleton.mp z]; exact Nat.le_refl _
  exact I1.fpOk hle (I1.hok.fresh hle)
end
end K77
set_option Elab.async false
set_option linter.all false
set_option maxRecDepth 100000
set_option maxHeartbeats 4000000
/-! K77W0: data as the layer's == asks it. -/
namespace K77
open PySem PySem.Spec PyProof.Rows L2
theorem lay_all {ds : List PyData} : PyData.canLayAll0 ds = true ↔ ∀ d ∈ ds, PyData.canLay0 d = true := by
  induction ds with
  | nil => simp [PyData.canLayAll0]
  | cons d ds ih => simp [PyData.canLayAll0, ih]
theorem depth_all {ds : List PyData} {k : Nat} : (∀ d ∈ ds, PyData.depth d ≤ k) → PyData.depthAll ds ≤ k := by
  induction ds with
  | nil => intro _; simp [PyData.depthAll]
  | cons d ds ih =>
    intro h
    have h1 := h d List.mem_cons_self
    have h2 := ih fun e he => h e (List.mem_cons_of_mem _ he)
    simp [PyData.depthAll]
    omega
theorem shaped_tup {ds : List PyData} (h1 : ∀ d ∈ ds, PyData.canLay0 d = true) (h2 : ∀ d ∈ ds, PyData.depth d ≤ 10) : SeqAt.shaped (.tuple ds) = true := by
  have h3 := depth_all h2
  refine Bool.and_eq_true_iff.mpr ⟨?_, decide_eq_true ?_⟩
  · rw [PyData.canLay0]
    exact lay_all.mpr h1
  · rw [PyData.depth]
    omega
theorem shaped_lst {ds : List PyData} (h1 : ∀ d ∈ ds, PyData.canLay0 d = true) (h2 : ∀ d ∈ ds, PyData.depth d ≤ 10) : SeqAt.shaped (.list ds) = true := by
  have h3 := depth_all h2
  refine Bool.and_eq_true_iff.mpr ⟨?_, decide_eq_true ?_⟩
  · rw [PyData.canLay0]
    exact lay_all.mpr h1
  · rw [PyData.depth]
    omega
/-- a mode as data -/
def modeD : Mode → PyData
  | .stay d => .tuple [.str "stay", .int d]
  | .pass => .tuple [.str "pass"]
  | .runs n m => .tuple [.str "runs", .int n, .int m]
theorem modeD_at {K : PySem.W.Frag} {H : Hp} {a : Addr} {m : Mode} (h : ModeAt H a m) : Dp K H (.ref a) (modeD m) := by
  cases m with
  | stay d => exact .tup (.of h) (.cons (.str _) (.cons (.int _) .nil))
  | pass => exact .tup (.of h) (.cons (.str _) .nil)
  | runs n k => exact .tup (.of h) (.cons (.str _) (.cons (.int _) (.cons (.int _) .nil)))
theorem modeD_lay (m : Mode) : (modeD m).canLay0 = true := by
  cases m <;> simp [modeD, PyData.canLay0, PyData.canLayAll0] <;> decide +kernel
theorem modeD_depth (m : Mode) : (modeD m).depth ≤ 3 := by
  cases m <;> simp [modeD, PyData.depth, PyData.depthAll]
theorem modeD_shaped (m : Mode) : SeqAt.shaped (modeD m) = true := by
  have h1 := modeD_lay m
  have h2 := modeD_depth m
  simp only [SeqAt.shaped, Bool.and_eq_true, decide_eq_true_eq]
  exact ⟨h1, by omega⟩
theorem modeD_ne (m : Mode) : PyData.eqv (modeD m) (.tuple []) = false := by
  cases m <;> rfl
end K77
set_option Elab.async false
set_option linter.all false
set_option maxRecDepth 100000
set_option maxHeartbeats 4000000
/-! K77W1: the small defs, and the reading of a line beside another. -/
namespace K77
open PySem PySem.Spec PyProof.Rows L2
theorem ifF {c : Bool} {A B : Prop} (h : c = false) (b : B) : if c = true then A else B := by
  rw [if_neg (by rw [h]; exact Bool.false_ne_true)]
  exact b
theorem ifT {c : Bool} {A B : Prop} (h : c = true) (a : A) : if c = true then A else B := by
  rw [if_pos h]
  exact a
theorem if2 {c : Bool} {A B : Prop} (h1 : c = true → A) (h2 : c = false → B) : if c = true then A else B := by
  cases c with
  | true => exact ifT rfl (h1 rfl)
  | false => exact ifF rfl (h2 rfl)
theorem V.ne {x y : V} (h : x ≠ y) : decide (x = y) = false := decide_eq_false h
section
variable {P : Program} {w : World} {K : PySem.W.Frag} {mg : Str → Option Value} {base : Heap}
/-! ### is_whole -/
def spIsWhole : Sp := fun vs H Q _ => ∃ t l m : Int, vs = [.int t, .int l, .int m] ∧ Q (.bl (decide (l ≤ t ∧ t ≤ m))) H
theorem scIsWhole : FnScope ["thing", "least", "most"] ["thing", "least", "most"] (defScope sIsWhole) := ⟨rfl, rfl, rfl, by decide +kernel, rfl, by decide +kernel, by decide +kernel⟩
theorem ok_is_whole (T : Tx K mg) (D : Stands K mg "is_whole" sIsWhole) : Has P w K mg base "is_whole" ["thing", "least", "most"] 1 spIsWhole := by
  refine has_of D scIsWhole (fun _ _ _ _ _ _ us hl => match us, hl with | [_, _, _], _ => rfl) (fun vs H Q E h => ?_) (fun f cdv A outer s H vs Q E hr h => ?_)
  · obtain ⟨t, l, m, rfl, _⟩ := h
    rfl
  · obtain ⟨t, l, m, rfl, q⟩ := h
    refine ⟨_, pss_cons (ps_if (PW.pt (pw_or (pt_not (pt_val (pe_callB call_isi (by rfl) T.isinstance_ (by decide +kernel) (pa_cons (pv 0) (pa_cons (pe_bltn (v := .ty "int") (by rfl) T.int_ boot_int rfl) pa_nil)))))
        (pw_or1 (pt_val (pe_callB call_isi (by rfl) T.isinstance_ (by decide +kernel) (pa_cons (pv 0) (pa_cons (pe_bltn (v := .ty "bool") (by rfl) T.bool_ (by decide +kernel) rfl) pa_nil))))))) (pss_one (ps_ret pe_bl)) pss_nil)
      (pss_one (ps_ret (pe_and (pe_or (pe_cmp (pc_isN (pv 1))) (pe_one (pe_cmp (pc_ge (pv 0) (pv 1))))) (pe_one (pe_or (pe_cmp (pc_isN (pv 2))) (pe_one (pe_cmp (pc_le (pv 0) (pv 2))))))))), ?_⟩
    refine ⟨_, rfl, _, _, _, _, true, rfl, .ty "int", .base (.int t), kit_ty (by decide +kernel), true, rfl, ?_⟩
    refine iteF ?_
    refine ⟨_, rfl, _, _, _, _, false, rfl, .ty "bool", .base (.int t), kit_ty (by decide +kernel), false, rfl, ?_⟩
    refine iteF ?_
    refine ⟨_, rfl, _, rfl, ifF (V.ne nofun) ⟨_, rfl, _, rfl, _, _, rfl, rfl, _, rfl, if2 (fun e1 => ⟨_, rfl, _, rfl, ifF (V.ne nofun) ⟨_, rfl, _, rfl, _, _, rfl, rfl, ?_⟩⟩) (fun e1 => ?_)⟩⟩
    · have e : decide (l ≤ t ∧ t ≤ m) = decide (t ≤ m) := by
        have e1 := of_decide_eq_true e1
        by_cases h : t ≤ m <;> simp [h, e1]
      rw [e] at q
      exact q
    · have e : decide (l ≤ t ∧ t ≤ m) = false := by
        have e1 := of_decide_eq_false e1
        simp [e1]
      rw [e] at q
      exact q
/-! ### other_colour -/
def spOther : Sp := fun vs H Q _ => ∃ c : Bool, vs = [.str (col c)] ∧ Q (.str (col (!c))) H
theorem scOther : FnScope ["colour"] ["colour"] (defScope sOtherColour) := ⟨rfl, rfl, rfl, by decide +kernel, rfl, by decide +kernel, by decide +kernel⟩
theorem ok_other (T : Tx K mg) (D : Stands K mg "other_colour" sOtherColour) : Has P w K mg base "other_colour" ["colour"] 1 spOther := by
  obtain ⟨tw, gw⟩ := T.white
  obtain ⟨tb, gb⟩ := T.black
  refine has_of D scOther (fun _ _ _ _ _ _ us hl => match us, hl with | [_], _ => rfl) (fun vs H Q E h => ?_) (fun f cdv A outer s H vs Q E hr h => ?_)
  · obtain ⟨c, rfl, _⟩ := h
    rfl
  · obtain ⟨c, rfl, q⟩ := h
    refine ⟨_, pss_one (ps_ret (pe_ifExp (pt_cmpR op_eq (pv 0) (pe_gs gw) (nomark _)) (pe_gs gb) (pe_gs gw))), ?_⟩
    refine ⟨_, rfl, rfl, _, rfl, ?_⟩
    rw [col_dec]
    cases c with
    | false => exact q
    | true => exact q
/-! ### is_mode -/
def spIsMode : Sp := fun vs H Q _ => ∃ (a : Addr) (m : Mode), vs = [.ref a] ∧ ModeAt H a m ∧ MOk m ∧ ∀ H', Same H H' → Q (.bl true) H'
theorem scIsMode : FnScope ["thing"] ["thing"] (defScope sIsMode) := ⟨rfl, rfl, rfl, by decide +kernel, rfl, by decide +kernel, by decide +kernel⟩
theorem neS {x y : Str} (h : ¬ x = y) : decide (V.str x = V.str y) = false := decide_eq_false fun z => h (by injection z)
theorem ok_is_mode (T : Tx K mg) (D : Stands K mg "is_mode" sIsMode) (hw : Has P w K mg base "is_whole" ["thing", "least", "most"] 1 spIsWhole) : Has P w K mg base "is_mode" ["thing"] 2 spIsMode := by
  obtain ⟨t1, g1⟩ := T.PASS
  obtain ⟨t2, g2⟩ := T.STAY
  obtain ⟨t3, g3⟩ := T.FULL
  obtain ⟨t4, g4⟩ := T.RUNS
  obtain ⟨t5, g5⟩ := T.MOST_STAY
  obtain ⟨t6, g6⟩ := T.MOST_WIDTH
  refine has_of D scIsMode (fun _ _ _ _ _ _ us hl => match us, hl with | [_], _ => rfl) (fun vs H Q E h => ?_) (fun f cdv A outer s H vs Q E hr h => ?_)
  · obtain ⟨a, m, rfl, _⟩ := h
    rfl
  · obtain ⟨a, m, rfl, hm, mok, q⟩ := h
    refine ⟨_, pss_cons (ps_if (PW.pt (pw_or (pt_not (pt_val (pe_callB call_isi (by rfl) T.isinstance_ (by decide +kernel) (pa_cons (pv 0) (pa_cons (pe_bltn (v := .ty "tuple") (by rfl) T.tuple_ (by decide +kernel) rfl) pa_nil)))))
        (pw_or (pt_cmpR (op_eqD hr.units) (pv 0) (pe_tup pa_nil) (nomark _))
        (pw_or1 (pt_not (pt_val (pe_callB call_isi (by rfl) T.isinstance_ (by decide +kernel) (pa_cons (ixT (pv 0) pe_int) (pa_cons (pe_bltn (v := .ty "str") (by rfl) T.str_ (by decide +kernel) rfl) pa_nil))))))))) (pss_one (ps_ret pe_bl)) pss_nil)
      (pss_cons (ps_if (pt_cmpR op_eq (ixT (pv 0) pe_int) (pe_gs g1) (nomark _)) (pss_one (ps_ret (pe_cmpR op_eq (pe_callB call_len_seq (by rfl) T.len_ PySem.boot_len (pa_cons (pv 0) pa_nil)) pe_int (nomark _)))) pss_nil)
      (pss_cons (ps_if (pt_cmpR op_eq (ixT (pv 0) pe_int) (pe_gs g2) (nomark _))
        (pss_one (ps_ret (pe_and (pe_cmpR op_eq (pe_callB call_len_seq (by rfl) T.len_ PySem.boot_len (pa_cons (pv 0) pa_nil)) pe_int (nomark _)) (pe_one (pe_do hw hr (pa_cons (ixT (pv 0) pe_int) (pa_cons (pe_un un_neg (pe_gi g5)) (pa_cons (pe_gi g5) pa_nil)))))))) pss_nil)
      (pss_cons (ps_if (pt_cmpR op_eq (ixT (pv 0) pe_int) (pe_gs g3) (nomark _)) pss_never pss_nil)
      (pss_cons (ps_if (PW.pt (pw_or (pt_cmpR op_ne (ixT (pv 0) pe_int) (pe_gs g4) (nomark _)) (pw_or1 (pt_cmpR op_ne (pe_callB call_len_seq (by rfl) T.len_ PySem.boot_len (pa_cons (pv 0) pa_nil)) pe_int (nomark _))))) (pss_one (ps_ret pe_bl)) pss_nil)
      (pss_one (ps_ret (pe_and (pe_do hw hr (pa_cons (ixT (pv 0) pe_int) (pa_cons pe_int (pa_cons (pe_gi g6) pa_nil)))) (pe_one (pe_do hw hr (pa_cons (ixT (pv 0) pe_int) (pa_cons pe_int (pa_cons (pe_gi g6) pa_nil)))))))))))), ?_⟩
    refine ⟨_, rfl, .ref a, .ty "tuple", _, _, true, rfl, .ty "tuple", .base (.tup hm), kit_ty (by decide +kernel), true, rfl, ?_⟩
    refine iteF ?_
    refine ⟨_, rfl, Nat.zero_le _, fun p np => ?_⟩
    have s1 : Same H (upd H p (.tup [])) := same_new np
    refine ⟨_, _, modeD_at (s1 _ _ hm), .tup (.of upd_same) .nil, modeD_shaped m, rfl, _, rfl, ?_⟩
    rw [modeD_ne]
    refine iteF ?_
    have hm1 : (upd H p (.tup [])) a = some (.tup (modeV m)) := s1 _ _ hm
    have q1 := q _ s1
    clear s1 q hm
    generalize upd H p (.tup []) = H1 at hm1 q1 ⊢
    have n1 : ¬ (("stay" : Str) = "pass") := by decide +kernel
    have n2 : ¬ (("runs" : Str) = "pass") := by decide +kernel
    have n3 : ¬ (("runs" : Str) = "stay") := by decide +kernel
    have n4 : ¬ (("runs" : Str) = "full") := by decide +kernel
    cases m with
    | stay d =>
      refine ⟨_, rfl, a, _, 0, _, rfl, rfl, .of hm1, atI_nat (j := 0) rfl, .str "stay", .ty "str", _, _, true, rfl, .ty "str", .base (.str _), kit_ty (by decide +kernel), true, rfl, ?_⟩
      refine iteF ?_
      refine ⟨_, rfl, a, _, 0, _, rfl, rfl, .of hm1, atI_nat (j := 0) rfl, rfl, _, rfl, ifF (neS n1) ?_⟩
      refine ⟨_, rfl, a, _, 0, _, rfl, rfl, .of hm1, atI_nat (j := 0) rfl, rfl, _, rfl, ifT (decide_eq_true rfl) ?_⟩
      refine ⟨_, rfl, a, _, rfl, .inr (.of hm1), rfl, _, rfl, ifT (decide_eq_true rfl) ?_⟩
      refine ⟨_, rfl, a, _, 1, _, rfl, rfl, .of hm1, atI_nat (j := 1) rfl, _, rfl, _, _, _, rfl, ?_⟩
      have e : decide (-3 ≤ d ∧ d ≤ 3) = true := decide_eq_true mok
      rw [e]
      exact q1
    | pass =>
      refine ⟨_, rfl, a, _, 0, _, rfl, rfl, .of hm1, atI_nat (j := 0) rfl, .str "pass", .ty "str", _, _, true, rfl, .ty "str", .base (.str _), kit_ty (by decide +kernel), true, rfl, ?_⟩
      refine iteF ?_
      refine ⟨_, rfl, a, _, 0, _, rfl, rfl, .of hm1, atI_nat (j := 0) rfl, rfl, _, rfl, ifT (decide_eq_true rfl) ?_⟩
      exact ⟨_, rfl, a, _, rfl, .inr (.of hm1), rfl, q1⟩
    | runs n k =>
      refine ⟨_, rfl, a, _, 0, _, rfl, rfl, .of hm1, atI_nat (j := 0) rfl, .str "runs", .ty "str", _, _, true, rfl, .ty "str", .base (.str _), kit_ty (by decide +kernel), true, rfl, ?_⟩
      refine iteF ?_
      refine ⟨_, rfl, a, _, 0, _, rfl, rfl, .of hm1, atI_nat (j := 0) rfl, rfl, _, rfl, ifF (neS n2) ?_⟩
      refine ⟨_, rfl, a, _, 0, _, rfl, rfl, .of hm1, atI_nat (j := 0) rfl, rfl, _, rfl, ifF (neS n3) ?_⟩
      refine ⟨_, rfl, a, _, 0, _, rfl, rfl, .of hm1, atI_nat (j := 0) rfl, rfl, _, rfl, ifF (neS n4) ?_⟩
      refine ⟨_, rfl, a, _, 0, _, rfl, rfl, .of hm1, atI_nat (j := 0) rfl, rfl, _, rfl, iteNS rfl ?_⟩
      refine ⟨_, rfl, a, _, rfl, .inr (.of hm1), rfl, _, rfl, iteNS rfl ?_⟩
      refine ⟨_, rfl, a, _, 1, _, rfl, rfl, .of hm1, atI_nat (j := 1) rfl, _, _, _, rfl, _, rfl, ifT (decide_eq_true ⟨by omega, by have := mok.1; omega⟩) ?_⟩
      refine ⟨_, rfl, a, _, 2, _, rfl, rfl, .of hm1, atI_nat (j := 2) rfl, _, _, _, rfl, ?_⟩
      have e : decide ((0 : Int) ≤ (k : Int) ∧ (k : Int) ≤ 40) = true := decide_eq_true ⟨by omega, by have := mok.2; omega⟩
      rw [e]
      exact q1
end
end K77
set_option Elab.async false
set_option linter.all false
set_option maxRecDepth 100000
set_option maxHeartbeats 4000000
/-! K77W2: what is asked of arguments. -/
namespace K77
open PySem PySem.Spec PyProof.Rows L2
section
variable {P : Program} {w : World} {K : PySem.W.Frag} {mg : Str → Option Value} {base : Heap}
/-! ### is_full -/
def spIsFull : Sp := fun vs H Q _ => ∃ (a : Addr) (ms : List Mode), vs = [.ref a] ∧ TelAt H a ms ∧ Q (.bl false) H
theorem scIsFull : FnScope ["telling"] ["telling"] (defScope sIsFull) := ⟨rfl, rfl, rfl, by decide +kernel, rfl, by decide +kernel, by decide +kernel⟩
theorem modeV_hd (m : Mode) : ∃ z : Str, (modeV m)[0]? = some (.str z) ∧ ¬ z = "full" := by
  cases m with
  | stay d => exact ⟨"stay", rfl, by decide +kernel⟩
  | pass => exact ⟨"pass", rfl, by decide +kernel⟩
  | runs n k => exact ⟨"runs", rfl, by decide +kernel⟩
theorem ok_is_full (T : Tx K mg) (D : Stands K mg "is_full" sIsFull) : Has P w K mg base "is_full" ["telling"] 1 spIsFull := by
  obtain ⟨t3, g3⟩ := T.FULL
  refine has_of D scIsFull (fun _ _ _ _ _ _ us hl => match us, hl with | [_], _ => rfl) (fun vs H Q E h => ?_) (fun f cdv A outer s H vs Q E hr h => ?_)
  · obtain ⟨a, ms, rfl, _⟩ := h
    rfl
  · obtain ⟨a, ms, rfl, ht, q⟩ := h
    refine ⟨_, pss_one (ps_ret (pe_and (pe_cmpR op_gt (pe_callB call_len_seq (by rfl) T.len_ PySem.boot_len (pa_cons (pv 0) pa_nil)) pe_int (nomark _)) (pe_one (pe_cmpR op_eq (ixT (ixT (pv 0) pe_int) pe_int) (pe_gs g3) (nomark _))))), ?_⟩
    obtain ⟨as, ha, hl, get⟩ := ht.get
    refine ⟨_, rfl, a, _, rfl, .inr (.of ha), _, _, rfl, rfl, _, rfl, if2 (fun e => ?_) (fun e => ?_)⟩
    · cases ms with
      | nil =>
        have e1 := of_decide_eq_true e
        rw [List.length_map, hl] at e1
        simp at e1
      | cons m r =>
        obtain ⟨b, hb, hm⟩ := get 0 m rfl
        obtain ⟨z, hz, nz⟩ := modeV_hd m
        refine ⟨_, rfl, a, _, 0, .ref b, rfl, rfl, .of ha, atI_nat (j := 0) (by rw [List.getElem?_map, hb]; rfl), b, _, 0, .str z, rfl, rfl, .of hm, atI_nat (j := 0) hz, rfl, ?_⟩
        rw [neS nz]
        exact q
    · exact q
/-! ### need_telling -/
def spNeedTelling : Sp := fun vs H Q _ => ∃ (a : Addr) (ms : List Mode), vs = [.ref a] ∧ TelAt H a ms ∧ ms.length ≤ 80 ∧ (∀ m ∈ ms, MOk m) ∧ ∀ H', Same H H' → Q (.ref a) H'
theorem scNeedTelling : FnScope ["thing", "number", "mode"] ["thing"] (defScope sNeedTelling) := ⟨rfl, rfl, rfl, by decide +kernel, rfl, by decide +kernel, by decide +kernel⟩
theorem ok_need_telling (T : Tx K mg) (D : Stands K mg "need_telling" sNeedTelling) (hm : Has P w K mg base "is_mode" ["thing"] 2 spIsMode) : Has P w K mg base "need_telling" ["thing"] 3 spNeedTelling := by
  obtain ⟨t3, g3⟩ := T.FULL
  obtain ⟨t6, g6⟩ := T.MOST_MODES
  refine has_of D scNeedTelling (fun _ _ _ _ _ _ us hl => match us, hl with | [_], _ => rfl) (fun vs H Q E h => ?_) (fun f cdv A outer s H vs Q E hr h => ?_)
  · obtain ⟨a, ms, rfl, _⟩ := h
    rfl
  · obtain ⟨a, ms, rfl, ht, h80, mok, q⟩ := h
    refine ⟨_, pss_cons (ps_if (PW.pt (pw_or (pt_not (pt_val (pe_callB call_isi (by rfl) T.isinstance_ (by decide +kernel) (pa_cons (pv 0) (pa_cons (pe_bltn (v := .ty "tuple") (by rfl) T.tuple_ (by decide +kernel) rfl) pa_nil)))))
        (pw_or1 (pt_cmpR op_gt (pe_callB call_len_seq (by rfl) T.len_ PySem.boot_len (pa_cons (pv 0) pa_nil)) (pe_gi g6) (nomark _))))) pss_never pss_nil)
      (pss_cons (ps_for PassesOwn.never rfl (pi_enumT T.enumerate_ (pa_cons (pv 0) pa_nil)) (pg_tup rfl (pgs_cons (pg_name (i := 1) scNeedTelling.nd rfl (.inl rfl)) (pgs_cons (pg_name (i := 2) scNeedTelling.nd rfl (.inl rfl)) pgs_nil)))
        (pss_one (ps_if (PW.pt (pw_or (pt_not (pt_val (pe_do hm hr (pa_cons (pv 2) pa_nil)))) (pw_or1 (PW.pt (pw_and (pt_cmpR op_gt (pv 1) pe_int (nomark _)) (pw_and1 (pt_cmpR op_in_seq (pe_gs g3) (pe_tup (pa_cons (ixT (pv 2) pe_int) (pa_cons (ixT (ixT (pv 0) pe_int) pe_int) pa_nil))) (by rfl)))))))) pss_never pss_nil)))
      (pss_one (ps_ret (pv 0)))), ?_⟩
    obtain ⟨as, ha, hl, get⟩ := ht.get
    refine ⟨_, rfl, .ref a, .ty "tuple", _, _, true, rfl, .ty "tuple", .base (.tup ha), kit_ty (by decide +kernel), true, rfl, ?_⟩
    refine iteF ?_
    refine ⟨_, rfl, a, _, rfl, .inr (.of ha), _, _, rfl, rfl, _, rfl, ifF (decide_eq_false (by rw [List.length_map, hl]; omega)) ?_⟩
    -- the loop
    refine ⟨_, rfl, a, _, rfl, .of ha, fun i m σ H2 => m = ms.length - i ∧ i ≤ ms.length ∧ Same H H2 ∧ ∃ y z, σ = [some (.ref a), y, z], ⟨_, rfl, Nat.zero_le _, Same.refl H, none, none, rfl⟩, ?_⟩
    rintro i m σ H2 ⟨rfl, hi, s2, y, z, rfl⟩
    by_cases hlt : i < ms.length
    · obtain ⟨b, hb, hbm⟩ := get i ms[i] (List.getElem?_eq_getElem hlt)
      refine .inr ⟨⟨_, .ref b, .of (s2 _ _ ha), by rw [List.getElem?_map, hb]; rfl⟩, fun σ' H' => Same H H' ∧ ∃ y z, σ' = [some (.ref a), y, z], ?_, ?_⟩
      · rintro σ' H' ⟨s', y', z', rfl⟩
        exact ⟨ms.length - (i + 1), by omega, rfl, hlt, s', y', z', rfl⟩
      · rintro x H' ⟨Tp, x1, rfl, nT, rfl, fx⟩
        have e1 : x1 = .ref b := Option.some.inj ((fx _ (.of (s2 _ _ ha))).symm.trans (by rw [List.getElem?_map, hb]; rfl))
        subst e1
        have s3 : Same H (upd H2 Tp (.tup [.int (i : Nat), .ref b])) := same_mut s2 (s2.free nT)
        refine ⟨Tp, _, rfl, .of upd_same, rfl, _, _, rfl, _, _, rfl, rfl, ?_⟩
        refine ⟨.ref b, rfl, b, ms[i], rfl, s3 _ _ hbm, mok _ (List.getElem_mem hlt), fun H4 s4 => ?_⟩
        refine ⟨true, rfl, iteF ?_⟩
        have s5 := s3.trans s4
        refine ⟨_, rfl, _, _, rfl, rfl, _, rfl, if2 (fun e => ?_) (fun e => ?_)⟩
        · obtain ⟨z1, hz1, nz1⟩ := modeV_hd ms[i]
          obtain ⟨b0, hb0, hm0⟩ := get 0 ms[0] (List.getElem?_eq_getElem (by omega))
          obtain ⟨z0, hz0, nz0⟩ := modeV_hd ms[0]
          refine ⟨.ref b, rfl, b, _, 0, .str z1, rfl, rfl, .of (s5 _ _ hbm), atI_nat (j := 0) hz1, ?_⟩
          refine ⟨_, rfl, a, _, 0, .ref b0, rfl, rfl, .of (s5 _ _ ha), atI_nat (j := 0) (by rw [List.getElem?_map, hb0]; rfl), b0, _, 0, .str z0, rfl, rfl, .of (s5 _ _ hm0), atI_nat (j := 0) hz0, by show 2 ≤ sizeLine; decide, fun p np => ?_⟩
          refine ⟨p, _, rfl, .inr (.of upd_same), rfl, rfl, _, rfl, ?_⟩
          have ein : inV (.str "full") [.str z1, .str z0] = false := by
            have q1 : (z1 == ("full" : Str)) = false := beq_eq_false_iff_ne.mpr nz1
            have q0 : (z0 == ("full" : Str)) = false := beq_eq_false_iff_ne.mpr nz0
            show (z1 == ("full" : Str) || (z0 == ("full" : Str) || false)) = false
            rw [q1, q0]
            rfl
          rw [ein]
          refine iteF ?_
          exact ⟨same_mut s5 (s5.free np), _, _, rfl⟩
        · exact iteF ⟨s5, _, _, rfl⟩
    · refine .inl ⟨⟨_, .of (s2 _ _ ha), ?_⟩, _, rfl, q H2 s2⟩
      rw [List.length_map, hl]
      omega
/-! ### need_width, need_beside, need_two -/
def spNeedWidth : Sp := fun vs H Q _ => ∃ n : Nat, vs = [.int n] ∧ 1 ≤ n ∧ n ≤ 40 ∧ Q .non H
theorem scNeedWidth : FnScope ["width"] ["width"] (defScope sNeedWidth) := ⟨rfl, rfl, rfl, by decide +kernel, rfl, by decide +kernel, by decide +kernel⟩
theorem ok_need_width (T : Tx K mg) (D : Stands K mg "need_width" sNeedWidth) (hw : Has P w K mg base "is_whole" ["thing", "least", "most"] 1 spIsWhole) : Has P w K mg base "need_width" ["width"] 2 spNeedWidth := by
  obtain ⟨t6, g6⟩ := T.MOST_WIDTH
  refine has_of D scNeedWidth (fun _ _ _ _ _ _ us hl => match us, hl with | [_], _ => rfl) (fun vs H Q E h => ?_) (fun f cdv A outer s H vs Q E hr h => ?_)
  · obtain ⟨n, rfl, _⟩ := h
    rfl
  · obtain ⟨n, rfl, h1, h2, q⟩ := h
    refine ⟨_, pss_one (ps_if (pt_not (pt_val (pe_do hw hr (pa_cons (pv 0) (pa_cons pe_int (pa_cons (pe_gi g6) pa_nil)))))) pss_never pss_nil), ?_⟩
    refine ⟨_, rfl, n, 1, 40, rfl, true, ?_, iteF q⟩
    rw [decide_eq_true (show (1 : Int) ≤ (n : Int) ∧ (n : Int) ≤ 40 by omega)]
def spNeedBeside : Sp := fun vs H Q _ => ∃ (n : Nat) (a : Addr) (ms : List Mode), vs = [.int n, .ref a] ∧ 1 ≤ n ∧ n ≤ 40 ∧ TelAt H a ms ∧ ms.length ≤ 80 ∧ (∀ m ∈ ms, MOk m) ∧ ∀ H', Same H H' → Q .non H'
theorem scNeedBeside : FnScope ["width", "telling"] ["width", "telling"] (defScope sNeedBeside) := ⟨rfl, rfl, rfl, by decide +kernel, rfl, by decide +kernel, by decide +kernel⟩
theorem ok_need_beside (T : Tx K mg) (D : Stands K mg "need_beside" sNeedBeside) (hw : Has P w K mg base "need_width" ["width"] 2 spNeedWidth) (hn : Has P w K mg base "need_telling" ["thing"] 3 spNeedTelling) (hf : Has P w K mg base "is_full" ["telling"] 1 spIsFull) :
    Has P w K mg base "need_beside" ["width", "telling"] 4 spNeedBeside := by
  refine has_of D scNeedBeside (fun _ _ _ _ _ _ us hl => match us, hl with | [_, _], _ => rfl) (fun vs H Q E h => ?_) (fun f cdv A outer s H vs Q E hr h => ?_)
  · obtain ⟨n, a, ms, rfl, _⟩ := h
    rfl
  · obtain ⟨n, a, ms, rfl, h1, h2, ht, h80, mok, q⟩ := h
    refine ⟨_, pss_cons (ps_expr (pe_do hw (hr.mono (by decide)) (pa_cons (pv 0) pa_nil))) (pss_one (ps_if (pt_val (pe_do hf (hr.mono (by decide)) (pa_cons (pe_do hn hr (pa_cons (pv 1) pa_nil)) pa_nil))) pss_never pss_nil)), ?_⟩
    refine ⟨_, rfl, n, rfl, h1, h2, _, rfl, a, ms, rfl, ht, h80, mok, fun H1 s1 => ⟨a, ms, rfl, ht.same s1, false, rfl, iteF (q H1 s1)⟩⟩
def spNeedTwo : Sp := fun vs H Q _ => ∃ (n : Nat) (a b : Addr) (ms ns : List Mode), vs = [.int n, .ref a, .ref b] ∧ 1 ≤ n ∧ n ≤ 12 ∧ TelAt H a ms ∧ ms.length ≤ 80 ∧ (∀ m ∈ ms, MOk m) ∧ TelAt H b ns ∧ ns.length ≤ 80 ∧ (∀ m ∈ ns, MOk m) ∧ ∀ H', Same H H' → Q .non H'
theorem scNeedTwo : FnScope ["width", "one", "other"] ["width", "one", "other"] (defScope sNeedTwo) := ⟨rfl, rfl, rfl, by decide +kernel, rfl, by decide +kernel, by decide +kernel⟩
theorem ok_need_two (T : Tx K mg) (D : Stands K mg "need_two" sNeedTwo) (hw : Has P w K mg base "need_width" ["width"] 2 spNeedWidth) (hn : Has P w K mg base "need_beside" ["width", "telling"] 4 spNeedBeside) :
    Has P w K mg base "need_two" ["width", "one", "other"] 5 spNeedTwo := by
  obtain ⟨t6, g6⟩ := T.MOST_ALIKE
  refine has_of D scNeedTwo (fun _ _ _ _ _ _ us hl => match us, hl with | [_, _, _], _ => rfl) (fun vs H Q E h => ?_) (fun f cdv A outer s H vs Q E hr h => ?_)
  · obtain ⟨n, a, b, ms, ns, rfl, _⟩ := h
    rfl
  · obtain ⟨n, a, b, ms, ns, rfl, h1, h2, ht, h80, mok, ht2, h802, mok2, q⟩ := h
    refine ⟨_, pss_cons (ps_expr (pe_do hw (hr.mono (by decide)) (pa_cons (pv 0) pa_nil))) (pss_cons (ps_if (pt_cmpR op_gt (pv 0) (pe_gi g6) (nomark _)) pss_never pss_nil)
      (pss_cons (ps_expr (pe_do hn hr (pa_cons (pv 0) (pa_cons (pv 1) pa_nil)))) (pss_one (ps_expr (pe_do hn hr (pa_cons (pv 0) (pa_cons (pv 2) pa_nil))))))), ?_⟩
    refine ⟨_, rfl, n, rfl, h1, by omega, _, rfl, _, _, rfl, rfl, _, rfl, ifF (decide_eq_false (by omega)) ?_⟩
    refine ⟨_, rfl, _, rfl, n, a, ms, rfl, h1, by omega, ht, h80, mok, fun H1 s1 => ⟨_, rfl, _, rfl, n, b, ns, rfl, h1, by omega, ht2.same s1, h802, mok2, fun H2 s2 => q H2 (s1.trans s2)⟩⟩
end
end K77
set_option Elab.async false
set_option linter.all false
set_option maxRecDepth 100000
set_option maxHeartbeats 4000000
/-! K77W3: the reading of a line beside another, by the package. -/
namespace K77
open PySem PySem.Spec PyProof.Rows L2
theorem enc_ix {l : Dots} {i : Int} {k : Nat} (h : k < l.length) (e : i = (k : Int)) : atI (enc l).cps.toList i = some (dc l[k]) := by
  rw [e]
  exact enc_at (List.getElem?_eq_getElem h)
/-- one dot of a text -/
theorem rixs {l : Dots} {i : Int} {k : Nat} {b : Bool} {H : Hp} {Q : VK} (h : l[k]? = some b) (e : i = (k : Int)) (hz : l.length ≤ 1000) (q : Q (.str (col b)) H) : rIxS (.str (enc l)) (.int i) H Q := by
  subst e
  exact ⟨_, _, _, rfl, rfl, enc_szl hz, enc_at h, q⟩
theorem col_mk (b : Bool) : (⟨#[dc b]⟩ : Str) = col b := rfl
section
variable {P : Program} {w : World} {K : PySem.W.Frag} {mg : Str → Option Value} {base : Heap}
/-! ### change_from -/
def spChangeFrom : Sp := fun vs H Q _ => ∃ (x : Dots) (p : Nat) (c t : Bool), vs = [.str (enc x), .int p, .str (col c), .bl t] ∧ x.length ≤ 40 ∧ p < x.length ∧ (t = false → p = 0) ∧ Q (.int (chgAt x p c t : Nat)) H
theorem scChangeFrom : FnScope ["reference", "place", "colour", "is_told", "here", "ahead"] ["reference", "place", "colour", "is_told"] (defScope sChangeFrom) := ⟨rfl, rfl, rfl, by decide +kernel, rfl, by decide +kernel, by decide +kernel⟩
theorem ok_change_from (T : Tx K mg) (D : Stands K mg "change_from" sChangeFrom) : Has P w K mg base "change_from" ["reference", "place", "colour", "is_told"] 1 spChangeFrom := by
  obtain ⟨tw, gw⟩ := T.white
  refine has_of D scChangeFrom (fun _ _ _ _ _ _ us hl => match us, hl with | [_, _, _, _], _ => rfl) (fun vs H Q E h => ?_) (fun f cdv A outer s H vs Q E hr h => ?_)
  · obtain ⟨x, p, c, t, rfl, _⟩ := h
    rfl
  · obtain ⟨x, p, c, t, rfl, h40, hp, h0, q⟩ := h
    refine ⟨_, pss_cons (ps_for PassesOwn.never rfl (pi_range2 (by rfl) T.range_ (pa_cons (pe_ifExp (pt_val (pv 3)) (pe_op op_add (pv 1) pe_int) (pv 1)) (pa_cons (pe_callB call_len_str (by rfl) T.len_ PySem.boot_len (pa_cons (pv 0) pa_nil)) pa_nil))) (pg_name (i := 4) scChangeFrom.nd rfl (.inl rfl))
        (pss_cons (ps_set (i := 5) scChangeFrom.nd rfl (.inl rfl) (pe_ifExp (pt_cmpR op_gt (pv 4) pe_int (nomark _)) (pe_ix ix_str (pv 0) (pe_op op_sub (pv 4) pe_int) (fun _ _ => rfl)) (pe_gs gw)))
        (pss_one (ps_if (PW.pt (pw_and (pt_cmpR op_eq (pv 5) (pv 2) (nomark _)) (pw_and1 (pt_cmpR op_ne (pe_ix ix_str (pv 0) (pv 4) (fun _ _ => rfl)) (pv 2) (nomark _))))) (pss_one (ps_ret (pv 4))) pss_nil))))
      (pss_one (ps_ret (pe_callB call_len_str (by rfl) T.len_ PySem.boot_len (pa_cons (pv 0) pa_nil)))), ?_⟩
    have hlo : lo p t ≤ x.length := lo_le hp
    have hst := chgAt_lo (c := c) hp h0
    refine ⟨_, rfl, t, rfl, ?_⟩
    have ht : ∃ L : Int, L = (lo p t : Nat) ∧ L = if t = true then (p : Int) + 1 else p := by
      refine ⟨_, rfl, ?_⟩
      unfold lo
      cases t <;> simp
    obtain ⟨L, hL, hL2⟩ := ht
    have en : ((x.length : Int) - L).toNat = x.length - lo p t := by omega
    have eL : (if t = true then V.int ((p : Int) + 1) else V.int p) = V.int L := by
      rw [hL2]
      cases t <;> rfl
    obtain ⟨t', et⟩ : ∃ t', t' = t := ⟨t, rfl⟩
    rw [← et] at hst q hlo hL en
    have eL' : ∀ A B : V, A = V.int ((p : Int) + 1) → B = V.int p → (if t = true then A else B) = V.int L := by
      rintro _ _ rfl rfl
      exact eL
    cases t
    case' true => refine iteT ⟨_, rfl, _, _, rfl, rfl, ?_⟩
    case' false => refine iteF ⟨_, rfl, ?_⟩
    all_goals
      refine ⟨_, rfl, _, rfl, enc_szl (by omega), L, x.length, by rw [enc_len]; exact congrArg (fun v => [v, V.int x.length]) eL, ⟨by omega, by omega, by omega, by omega⟩, ?_⟩
      refine for_range (fun i σ H2 => H2 = H ∧ chgAt x p c t' = lo p t' + i + scan c (prevAt x (lo p t' + i)) (x.drop (lo p t' + i)) ∧ ∃ tb y z, σ = [some (.str (enc x)), some (.int p), some (.str (col c)), some tb, y, z]) ⟨rfl, hst, _, none, none, rfl⟩ ?_ ?_
      · rintro i σ H2 hi ⟨rfl, hv, tb, y, z, rfl⟩
        rw [en] at hi
        have hk : lo p t' + i < x.length := by omega
        have eh : L + (i : Int) = ((lo p t' + i : Nat) : Int) := by omega
        rw [eh]
        rw [scan_at hk] at hv
        obtain ⟨k, ek⟩ : ∃ k, k = lo p t' + i := ⟨_, rfl⟩
        rw [Nat.add_assoc] at hv
        simp only [← ek, ← Nat.add_assoc] at hv hk eh ⊢
        have fn2 : ¬ (prevAt x k = c ∧ x[k] ≠ c) → chgAt x p c t' = k + 1 + scan c (prevAt x (k + 1)) (x.drop (k + 1)) := by
          intro hn
          rw [if_neg hn] at hv
          rw [prevAt_succ hk, hv]
          omega
        refine ⟨_, rfl, _, _, rfl, rfl, _, rfl, if2 (fun e => ?_) (fun e => ?_)⟩
        case' refine_1 =>
          have e := of_decide_eq_true e
          have ep : x[k - 1]? = some (prevAt x k) := by
            unfold prevAt
            rw [if_neg (by omega), List.getElem?_eq_getElem (by omega)]
            rfl
          refine ⟨_, rfl, _, rfl, _, _, rfl, rfl, rixs ep (by omega) (by omega) ?_⟩
        case' refine_2 =>
          have e := of_decide_eq_false e
          have ep : col false = col (prevAt x k) := by
            unfold prevAt
            rw [if_pos (by omega)]
          rw [ep]
        all_goals
          refine ⟨_, rfl, _, rfl, rfl, _, rfl, if2 (fun e1 => ?_) (fun e1 => ?_)⟩
          · rw [col_dec] at e1
            have e1 := eq_of_beq e1
            refine ⟨_, rfl, _, rfl, rixs (List.getElem?_eq_getElem hk) rfl (by omega) ⟨_, rfl, rfl, _, rfl, if2 (fun e2 => ?_) (fun e2 => ?_)⟩⟩
            · rw [col_dec] at e2
              have e2 : x[k] ≠ c := by simpa using e2
              rw [if_pos ⟨e1, e2⟩, Nat.add_zero] at hv
              rw [hv] at q
              exact ⟨_, rfl, q⟩
            · rw [col_dec] at e2
              have e2 : x[k] = c := by simpa using e2
              exact ⟨rfl, fn2 fun z => z.2 e2, tb, _, _, rfl⟩
          · rw [col_dec] at e1
            have e1 := ne_of_beq_false e1
            exact iteF ⟨rfl, fn2 fun z => e1 z.1, tb, _, _, rfl⟩
      · rintro σ H2 ⟨rfl, hv, tb, y, z, rfl⟩
        rw [en] at hv
        have e0 : x.drop (lo p t' + (x.length - lo p t')) = [] := List.drop_eq_nil_of_le (by omega)
        rw [e0] at hv
        have e1 : chgAt x p c t' = x.length := by
          rw [hv]
          show lo p t' + (x.length - lo p t') + 0 = _
          omega
        rw [e1] at q
        refine ⟨_, rfl, _, rfl, enc_szl (by omega), ?_⟩
        rw [enc_len]
        exact q
/-! ### change_back -/
def spChangeBack : Sp := fun vs H Q _ => ∃ (x : Dots) (k : Nat) (c : Bool), vs = [.str (enc x), .int k, .str (col c)] ∧ x.length ≤ 40 ∧ k < x.length ∧ Q (.int (backAt x k c : Nat)) H
theorem scChangeBack : FnScope ["reference", "place", "colour", "here"] ["reference", "place", "colour"] (defScope sChangeBack) := ⟨rfl, rfl, rfl, by decide +kernel, rfl, by decide +kernel, by decide +kernel⟩
theorem ok_change_back (T : Tx K mg) (D : Stands K mg "change_back" sChangeBack) : Has P w K mg base "change_back" ["reference", "place", "colour"] 1 spChangeBack := by
  refine has_of D scChangeBack (fun _ _ _ _ _ _ us hl => match us, hl with | [_, _, _], _ => rfl) (fun vs H Q E h => ?_) (fun f cdv A outer s H vs Q E hr h => ?_)
  · obtain ⟨x, p, c, rfl, _⟩ := h
    rfl
  · obtain ⟨x, p, c, rfl, h40, hp, q⟩ := h
    refine ⟨_, pss_cons (ps_for PassesOwn.never rfl (pi_range2 (by rfl) T.range_ (pa_cons (pe_op op_add (pv 1) pe_int) (pa_cons (pe_callB call_len_str (by rfl) T.len_ PySem.boot_len (pa_cons (pv 0) pa_nil)) pa_nil))) (pg_name (i := 3) scChangeBack.nd rfl (.inl rfl))
        (pss_one (ps_if (pt_cmpR op_eq (pe_ix ix_str (pv 0) (pv 3) (fun _ _ => rfl)) (pv 2) (nomark _)) (pss_one (ps_ret (pv 3))) pss_nil)))
      (pss_one (ps_ret (pe_callB call_len_str (by rfl) T.len_ PySem.boot_len (pa_cons (pv 0) pa_nil)))), ?_⟩
    refine ⟨_, rfl, _, _, rfl, rfl, _, rfl, _, rfl, enc_szl (by omega), ((p + 1 : Nat) : Int), x.length, by rw [enc_len]; rfl, ⟨by omega, by omega, by omega, by omega⟩, ?_⟩
    have en : ((x.length : Int) - ((p + 1 : Nat) : Int)).toNat = x.length - (p + 1) := by omega
    refine for_range (fun i σ H2 => H2 = H ∧ backAt x p c = p + 1 + i + seek c (x.drop (p + 1 + i)) ∧ ∃ y, σ = [some (.str (enc x)), some (.int p), some (.str (col c)), y]) ⟨rfl, rfl, none, rfl⟩ ?_ ?_
    · rintro i σ H2 hi ⟨rfl, hv, y, rfl⟩
      rw [en] at hi
      have hk : p + 1 + i < x.length := by omega
      have eh : ((p + 1 : Nat) : Int) + (i : Int) = ((p + 1 + i : Nat) : Int) := by omega
      rw [eh]
      rw [seek_at hk] at hv
      refine ⟨_, rfl, _, rfl, rixs (List.getElem?_eq_getElem hk) rfl (by omega) ⟨_, rfl, rfl, _, rfl, if2 (fun e => ?_) (fun e => ?_)⟩⟩
      · rw [col_dec] at e
        rw [if_pos (eq_of_beq e), Nat.add_zero] at hv
        rw [hv] at q
        exact ⟨_, rfl, q⟩
      · rw [col_dec] at e
        rw [if_neg (ne_of_beq_false e)] at hv
        refine ⟨rfl, ?_, _, rfl⟩
        rw [hv]
        show p + 1 + i + (seek c (List.drop (p + 1 + i + 1) x) + 1) = p + 1 + (i + 1) + seek c (x.drop (p + 1 + i + 1))
        omega
    · rintro σ H2 ⟨rfl, hv, y, rfl⟩
      rw [en] at hv
      have e0 : x.drop (p + 1 + (x.length - (p + 1))) = [] := List.drop_eq_nil_of_le (by omega)
      rw [e0] at hv
      have e1 : backAt x p c = x.length := by
        rw [hv]
        show p + 1 + (x.length - (p + 1)) + 0 = _
        omega
      rw [e1] at q
      refine ⟨_, rfl, _, rfl, enc_szl (by omega), ?_⟩
      rw [enc_len]
      exact q
end
end K77
set_option Elab.async false
set_option linter.all false
set_option maxRecDepth 100000
set_option maxHeartbeats 4000000
/-! K77W4: the reading of a line beside another, by the package, further. -/
namespace K77
open PySem PySem.Spec PyProof.Rows L2
theorem rep_col (c : Bool) (n : Nat) : rep (col c) n = enc (List.replicate n c) := by
  show Str.mk (List.replicate n [dc c]).flatten.toArray = Str.mk ((List.replicate n c).map dc).toArray
  rw [List.map_replicate]
  congr 2
  induction n with
  | zero => rfl
  | succ n ih =>
    rw [List.replicate_succ, List.replicate_succ, List.flatten_cons, ih]
    rfl
theorem col_len (c : Bool) : (col c).length ≤ 1000 := by
  show (enc [c]).length ≤ 1000
  rw [enc_len]
  exact Nat.le_add_left 1 999
theorem sz4 : 4 ≤ sizeLine := by decide
/-- the head of a mode, its other parts -/
theorem mhd {H : Hp} {a : Addr} {m : Mode} (h : ModeAt H a m) : H a = some (.tup (modeV m)) := h
/-- a test that only looks -/
theorem or_pure {t u : TT} {a b : Bool} {σ : L2.St} {H : Hp} {Q : Bool → Hp → Prop} (ha : ∀ Q : Bool → Hp → Prop, Q a H → t σ H Q) (hb : a = false → ∀ Q : Bool → Hp → Prop, Q b H → u σ H Q) (q : Q (a || b) H) : tOr t u σ H Q := by
  refine ha _ ?_
  cases a with
  | true => exact ifT rfl q
  | false => exact ifF rfl (hb rfl _ q)
theorem and_pure {t u : TT} {a b : Bool} {σ : L2.St} {H : Hp} {Q : Bool → Hp → Prop} (ha : ∀ Q : Bool → Hp → Prop, Q a H → t σ H Q) (hb : a = true → ∀ Q : Bool → Hp → Prop, Q b H → u σ H Q) (q : Q (a && b) H) : tAnd t u σ H Q := by
  refine ha _ ?_
  cases a with
  | true => exact ifT rfl (hb rfl _ q)
  | false => exact ifF rfl q
theorem dec_nat0 (n : Nat) : decide (V.int (n : Int) = V.int 0) = decide (n = 0) := by
  by_cases h : n = 0
  · subst h
    rfl
  · rw [decide_eq_false h]
    exact decide_eq_false fun z => by
      injection z with z
      omega
theorem ifS_pure {t : TT} {b : Bool} {u v : TS} {σ : L2.St} {H : Hp} {D : Ends} (ht : ∀ Q : Bool → Hp → Prop, Q b H → t σ H Q) (q : if b = true then u D σ H else v D σ H) : tIfS t u v D σ H := ht _ q
theorem seqIf {t : TT} {b : Bool} {u v r : TS} {σ : L2.St} {H : Hp} {D : Ends} (ht : ∀ Q : Bool → Hp → Prop, Q b H → t σ H Q) (q : if b = true then tSeq u r D σ H else tSeq v r D σ H) : tSeq (tIfS t u v) r D σ H := ht _ q
theorem setE {te : TE} {i : Nat} {r : TS} {σ : L2.St} {H : Hp} {D : Ends} (v : V) (he : ∀ Q : VK, Q v H → te σ H Q) (q : r D (σ.set i (some v)) H) : tSeq (tAsg te (gName i)) r D σ H := he _ q
theorem ifE {t : TT} {b : Bool} {ta tb : TE} {v : V} {σ : L2.St} {H : Hp} {Q : VK} (ht : ∀ Q : Bool → Hp → Prop, Q b H → t σ H Q) (ha : b = true → ∀ Q : VK, Q v H → ta σ H Q) (hb : b = false → ∀ Q : VK, Q v H → tb σ H Q) (q : Q v H) : tIf t ta tb σ H Q := by
  refine ht _ ?_
  cases b with
  | true => exact (by rw [if_pos rfl]; exact ha rfl _ q)
  | false => exact (by rw [if_neg (by decide)]; exact hb rfl _ q)
theorem ifL {t : TT} {b : Bool} {ta tb : TE} {xs : List V} {σ : L2.St} {H : Hp} {Q : VK} (ht : ∀ Q : Bool → Hp → Prop, Q b H → t σ H Q) (ha : b = true → ∀ Q : VK, (∀ p, H p = none → Q (.ref p) (upd H p (.lst xs))) → ta σ H Q)
    (hb : b = false → ∀ Q : VK, (∀ p, H p = none → Q (.ref p) (upd H p (.lst xs))) → tb σ H Q) (q : ∀ p, H p = none → Q (.ref p) (upd H p (.lst xs))) : tIf t ta tb σ H Q := by
  refine ht _ ?_
  cases b with
  | true => exact (by rw [if_pos rfl]; exact ha rfl _ q)
  | false => exact (by rw [if_neg (by decide)]; exact hb rfl _ q)
theorem forL {K : PySem.W.Frag} {te : TE} {g : TG} {tb : TS} {D : Ends} {σ : L2.St} {H : Hp} (xs : List V) (hl : ∀ Q : VK, (∀ p, H p = none → Q (.ref p) (upd H p (.lst xs))) → te σ H Q)
    (q : ∀ p, H p = none → ∃ W : Nat → Nat → L2.St → Hp → Prop, (∃ m, W 0 m σ (upd H p (.lst xs))) ∧ ∀ i m σ H, W i m σ H →
      ((Itl K p).stop i H ∧ D.nx σ H) ∨ ((Itl K p).go i H ∧ ∃ N : L2.St → Hp → Prop, (∀ σ' H', N σ' H' → ∃ m', m' < m ∧ W (i + 1) m' σ' H') ∧ ∀ x H', (Itl K p).yld i H x H' → g x σ H' fun σ2 H2 => tb { D with nx := N, ct := N, bk := D.nx } σ2 H2)) :
    tFor (iList K te) g tb D σ H := hl _ fun p np => ⟨p, rfl, ⟨xs, .of upd_same⟩, q p np⟩
theorem gsetV {i : Nat} {x y : V} {σ : L2.St} {H : Hp} {k : L2.St → Hp → Prop} (e : x = y) (h : k (σ.set i (some y)) H) : gName i x σ H k := by
  subst e
  exact h
theorem gset {i : Nat} {x : V} {σ : L2.St} {H : Hp} {k : L2.St → Hp → Prop} (h : k (σ.set i (some x)) H) : gName i x σ H k := h
section
variable {P : Program} {w : World} {K : PySem.W.Frag} {mg : Str → Option Value} {base : Heap}
/-! ### after_mode -/
def nxtV (p : Nat) (c' : Bool) (e : Nat) : List V := [.int ((p + e : Nat) : Int), .str (col c')]
def spAfterMode : Sp := fun vs H Q _ => ∃ (x : Dots) (a : Addr) (m : Mode) (p : Nat) (c t : Bool), vs = [.str (enc x), .ref a, .int p, .str (col c), .bl t] ∧ x.length ≤ 40 ∧ p < x.length ∧ (t = false → p = 0) ∧ ModeAt H a m ∧ MOk m ∧
  (stepR m c t (x.drop p) = none → Q .non H) ∧ ∀ e c', stepR m c t (x.drop p) = some (e, c') → ∀ r, H r = none → Q (.ref r) (upd H r (.tup (nxtV p c' e)))
theorem scAfterMode : FnScope ["reference", "mode", "place", "colour", "is_told", "width", "middle", "end", "change"] ["reference", "mode", "place", "colour", "is_told"] (defScope sAfterMode) := ⟨rfl, rfl, rfl, by decide +kernel, rfl, by decide +kernel, by decide +kernel⟩
theorem ok_after_mode (T : Tx K mg) (D : Stands K mg "after_mode" sAfterMode) (hc : Has P w K mg base "change_from" ["reference", "place", "colour", "is_told"] 1 spChangeFrom) (hb : Has P w K mg base "change_back" ["reference", "place", "colour"] 1 spChangeBack)
    (ho : Has P w K mg base "other_colour" ["colour"] 1 spOther) : Has P w K mg base "after_mode" ["reference", "mode", "place", "colour", "is_told"] 2 spAfterMode := by
  obtain ⟨tr, gr⟩ := T.RUNS
  obtain ⟨tp, gp⟩ := T.PASS
  refine has_of D scAfterMode (fun _ _ _ _ _ _ us hl => match us, hl with | [_, _, _, _, _], _ => rfl) (fun vs H Q E h => ?_) (fun f cdv A outer s H vs Q E hr h => ?_)
  · obtain ⟨x, a, m, p, c, t, rfl, _⟩ := h
    rfl
  · obtain ⟨x, a, m, p, c, t, rfl, h40, hp, h0, hm, mok, qn, qs⟩ := h
    refine ⟨_, pss_cons (ps_set (i := 5) scAfterMode.nd rfl (.inl rfl) (pe_callB call_len_str (by rfl) T.len_ PySem.boot_len (pa_cons (pv 0) pa_nil)))
      (pss_cons (ps_if (pt_cmpR op_eq (ixT (pv 1) pe_int) (pe_gs gr) (nomark _))
        (pss_cons (ps_set (i := 6) scAfterMode.nd rfl (.inl rfl) (pe_op op_add (pv 2) (ixT (pv 1) pe_int)))
        (pss_cons (ps_set (i := 7) scAfterMode.nd rfl (.inl rfl) (pe_op op_add (pv 6) (ixT (pv 1) pe_int)))
        (pss_cons (ps_if (PW.pt (pw_or (pt_cmpR op_gt (pv 7) (pv 5) (nomark _)) (pw_or (PW.pt (pw_and (pt_cmpR op_eq (ixT (pv 1) pe_int) pe_int (nomark _)) (pw_and1 (pt_val (pv 4))))) (pw_or1 (PW.pt (pw_and (pt_cmpR op_eq (ixT (pv 1) pe_int) pe_int (nomark _)) (pw_and1 (pt_cmpR op_lt (pv 6) (pv 5) (nomark _)))))))))
          (pss_one (ps_ret pe_non)) pss_nil)
        (pss_one (ps_ret (pe_tup (pa_cons (pv 7) (pa_cons (pv 3) pa_nil)))))))) pss_nil)
      (pss_cons (ps_set (i := 8) scAfterMode.nd rfl (.inl rfl) (pe_do hc (hr.mono (by decide)) (pa_cons (pv 0) (pa_cons (pv 2) (pa_cons (pv 3) (pa_cons (pv 4) pa_nil))))))
      (pss_cons (ps_if (pt_cmpR op_eq (ixT (pv 1) pe_int) (pe_gs gp) (nomark _))
        (pss_one (ps_ret (pe_ifExp (pt_cmpR op_lt (pv 8) (pv 5) (nomark _)) (pe_tup (pa_cons (pe_do hb (hr.mono (by decide)) (pa_cons (pv 0) (pa_cons (pv 8) (pa_cons (pv 3) pa_nil)))) (pa_cons (pv 3) pa_nil))) pe_non))) pss_nil)
      (pss_cons (ps_set (i := 7) scAfterMode.nd rfl (.inl rfl) (pe_op op_add (pv 8) (ixT (pv 1) pe_int)))
      (pss_cons (ps_if (PW.pt (pw_or (pt_cmpR op_gt (pv 7) (pv 5) (nomark _)) (pw_or (pt_cmpR op_lt (pv 7) pe_int (nomark _)) (pw_or1 (PW.pt (pw_and (pt_cmpR op_le (pv 7) (pv 2) (nomark _)) (pw_and1 (pt_val (pv 4)))))))))
          (pss_one (ps_ret pe_non)) pss_nil)
      (pss_one (ps_ret (pe_tup (pa_cons (pv 7) (pa_cons (pe_do ho (hr.mono (by decide)) (pa_cons (pv 3) pa_nil)) pa_nil)))))))))), ?_⟩
    have n1 : ¬ (("stay" : Str) = "pass") := by decide +kernel
    have n2 : ¬ (("pass" : Str) = "runs") := by decide +kernel
    have n3 : ¬ (("stay" : Str) = "runs") := by decide +kernel
    have hm0 := mhd hm
    refine ⟨_, rfl, _, rfl, enc_szl (by omega), ?_⟩
    rw [enc_len]
    have hle := chgAt_le (c := c) (t := t) (Nat.le_of_lt hp)
    cases m with
    | runs n k =>
      rw [step_runs hp] at qn qs
      refine ⟨_, rfl, a, _, 0, _, rfl, rfl, .of hm0, atI_nat (j := 0) rfl, rfl, _, rfl, ifT (decide_eq_true rfl) ?_⟩
      refine ⟨_, rfl, _, rfl, a, _, 1, _, rfl, rfl, .of hm0, atI_nat (j := 1) rfl, _, _, rfl, rfl, ?_⟩
      refine ⟨_, rfl, _, rfl, a, _, 2, _, rfl, rfl, .of hm0, atI_nat (j := 2) rfl, _, _, rfl, rfl, ?_⟩
      refine gset ?_
      dsimp only
      have dcn : decide (p + n + k > x.length ∨ (n = 0 ∧ t = true) ∨ (k = 0 ∧ p + n < x.length)) = (decide (p + n + k > x.length) || (decide (n = 0) && t || decide (k = 0) && decide (p + n < x.length))) := by
        rw [Bool.eq_iff_iff]
        simp
      refine seqIf (b := decide (p + n + k > x.length ∨ (n = 0 ∧ t = true) ∨ (k = 0 ∧ p + n < x.length))) (fun R q => ?_) ?_
      rw [dcn] at q
      refine or_pure (fun R q => ⟨_, rfl, _, rfl, _, _, rfl, rfl, _, rfl, ?_⟩) (fun e1 R q => or_pure (fun R q => and_pure (fun R q => ⟨_, rfl, a, _, 1, _, rfl, rfl, .of hm0, atI_nat (j := 1) rfl, rfl, _, rfl, ?_⟩) (fun _ R q => ⟨_, rfl, _, rfl, q⟩) q)
        (fun e2 R q => and_pure (fun R q => ⟨_, rfl, a, _, 2, _, rfl, rfl, .of hm0, atI_nat (j := 2) rfl, rfl, _, rfl, ?_⟩) (fun _ R q => ⟨_, rfl, _, rfl, _, _, rfl, rfl, _, rfl, ?_⟩) q) q) q
      · rw [show decide ((p : Int) + (n : Int) + (k : Int) > (x.length : Nat)) = decide (p + n + k > x.length) from decide_eq_decide.mpr (by omega)]
        exact q
      · rw [dec_nat0]
        exact q
      · rw [dec_nat0]
        exact q
      · rw [show decide ((p : Int) + (n : Int) < (x.length : Nat)) = decide (p + n < x.length) from decide_eq_decide.mpr (by omega)]
        exact q
      refine if2 (fun e => ?_) (fun e => ?_)
      · rw [if_pos (of_decide_eq_true e)] at qn
        exact qn rfl
      · rw [if_neg (of_decide_eq_false e)] at qs
        refine ⟨_, rfl, _, rfl, Nat.le_trans (show 2 ≤ 4 by decide) sz4, fun r nr => ?_⟩
        have := qs _ _ rfl r nr
        unfold nxtV at this
        rw [← Nat.add_assoc] at this
        exact this
    | pass =>
      rw [step_pass hp] at qn qs
      refine ⟨_, rfl, a, _, 0, _, rfl, rfl, .of hm0, atI_nat (j := 0) rfl, rfl, _, rfl, ifF (neS n2) ?_⟩
      refine ⟨_, rfl, _, rfl, _, rfl, _, rfl, x, p, c, t, rfl, h40, hp, h0, ?_⟩
      refine ⟨_, rfl, a, _, 0, _, rfl, rfl, .of hm0, atI_nat (j := 0) rfl, rfl, _, rfl, ifT (decide_eq_true rfl) ?_⟩
      refine ⟨_, rfl, _, rfl, _, _, rfl, rfl, _, rfl, if2 (fun e1 => ?_) (fun e1 => ?_)⟩
      · have e1 := of_decide_eq_true e1
        have e1 : chgAt x p c t < x.length := by omega
        rw [if_pos e1] at qs
        refine ⟨_, rfl, _, rfl, _, rfl, x, _, c, rfl, h40, e1, _, rfl, Nat.le_trans (show 2 ≤ 4 by decide) sz4, fun r nr => ?_⟩
        have := qs _ _ rfl r nr
        have eb : p + (backAt x (chgAt x p c t) c - p) = backAt x (chgAt x p c t) c := by
          have := chgAt_ge x p c t
          unfold backAt
          omega
        unfold nxtV at this
        rw [eb] at this
        exact this
      · have e1 := of_decide_eq_false e1
        have e1 : ¬ chgAt x p c t < x.length := by omega
        rw [if_neg e1] at qn
        exact qn rfl
    | stay d =>
      rw [step_stay hp h0] at qn qs
      refine ⟨_, rfl, a, _, 0, _, rfl, rfl, .of hm0, atI_nat (j := 0) rfl, rfl, _, rfl, ifF (neS n3) ?_⟩
      refine ⟨_, rfl, _, rfl, _, rfl, _, rfl, x, p, c, t, rfl, h40, hp, h0, ?_⟩
      refine ⟨_, rfl, a, _, 0, _, rfl, rfl, .of hm0, atI_nat (j := 0) rfl, rfl, _, rfl, ifF (neS n1) ?_⟩
      refine ⟨_, rfl, _, rfl, a, _, 1, _, rfl, rfl, .of hm0, atI_nat (j := 1) rfl, _, _, rfl, rfl, ?_⟩
      refine gset ?_
      dsimp only
      have dcn : decide ((chgAt x p c t : Int) + d > x.length ∨ (chgAt x p c t : Int) + d < 0 ∨ ((chgAt x p c t : Int) + d ≤ p ∧ t = true)) = (decide ((chgAt x p c t : Int) + d > x.length) || (decide ((chgAt x p c t : Int) + d < 0) || decide ((chgAt x p c t : Int) + d ≤ p) && t)) := by
        rw [Bool.eq_iff_iff]
        simp
      refine seqIf (b := decide ((chgAt x p c t : Int) + d > x.length ∨ (chgAt x p c t : Int) + d < 0 ∨ ((chgAt x p c t : Int) + d ≤ p ∧ t = true))) (fun R q => ?_) ?_
      · rw [dcn] at q
        exact or_pure (fun R q => ⟨_, rfl, _, rfl, _, _, rfl, rfl, _, rfl, q⟩) (fun e1 R q => or_pure (fun R q => ⟨_, rfl, _, _, rfl, rfl, _, rfl, q⟩)
          (fun e2 R q => and_pure (fun R q => ⟨_, rfl, _, rfl, _, _, rfl, rfl, _, rfl, q⟩) (fun _ R q => ⟨_, rfl, _, rfl, q⟩) q) q) q
      refine if2 (fun e => ?_) (fun e => ?_)
      · rw [if_pos (of_decide_eq_true e)] at qn
        exact qn rfl
      · have e := of_decide_eq_false e
        rw [if_neg e] at qs
        refine ⟨_, rfl, _, rfl, c, rfl, Nat.le_trans (show 2 ≤ 4 by decide) sz4, fun r nr => ?_⟩
        have := qs _ _ rfl r nr
        have eb : ((p + (((chgAt x p c t : Int) + d).toNat - p) : Nat) : Int) = (chgAt x p c t : Int) + d := by
          cases t with
          | true =>
            simp at e
            omega
          | false =>
            have := h0 rfl
            simp at e
            omega
        unfold nxtV at this
        rw [eb] at this
        exact this
/-! ### dots_of -/
def spDotsOf : Sp := fun vs H Q _ => ∃ (a : Addr) (m : Mode) (p e : Nat) (c : Bool), vs = [.ref a, .int p, .int ((p + e : Nat) : Int), .str (col c)] ∧ ModeAt H a m ∧ MOk m ∧ e ≤ 100 ∧ Q (.str (enc (toldBy m e c))) H
theorem scDotsOf : FnScope ["mode", "place", "end", "colour"] ["mode", "place", "end", "colour"] (defScope sDotsOf) := ⟨rfl, rfl, rfl, by decide +kernel, rfl, by decide +kernel, by decide +kernel⟩
theorem ok_dots_of (T : Tx K mg) (D : Stands K mg "dots_of" sDotsOf) (ho : Has P w K mg base "other_colour" ["colour"] 1 spOther) : Has P w K mg base "dots_of" ["mode", "place", "end", "colour"] 2 spDotsOf := by
  obtain ⟨tr, gr⟩ := T.RUNS
  refine has_of D scDotsOf (fun _ _ _ _ _ _ us hl => match us, hl with | [_, _, _, _], _ => rfl) (fun vs H Q E h => ?_) (fun f cdv A outer s H vs Q E hr h => ?_)
  · obtain ⟨a, m, p, e, c, rfl, _⟩ := h
    rfl
  · obtain ⟨a, m, p, e, c, rfl, hm, mok, he, q⟩ := h
    refine ⟨_, pss_cons (ps_if (pt_cmpR op_eq (ixT (pv 0) pe_int) (pe_gs gr) (nomark _))
        (pss_one (ps_ret (pe_op op_add_str (pe_op op_mulS (pv 3) (ixT (pv 0) pe_int)) (pe_op op_mulS (pe_do ho hr (pa_cons (pv 3) pa_nil)) (ixT (pv 0) pe_int))))) pss_nil)
      (pss_one (ps_ret (pe_op op_mulS (pv 3) (pe_op op_sub (pv 2) (pv 1))))), ?_⟩
    have n2 : ¬ (("pass" : Str) = "runs") := by decide +kernel
    have n3 : ¬ (("stay" : Str) = "runs") := by decide +kernel
    have hm0 := mhd hm
    have fin : Q (.str (rep (col c) e)) H → Q (.str (enc (List.replicate e c))) H := fun q => by
      rw [← rep_col]
      exact q
    cases m with
    | runs n k =>
      refine ⟨_, rfl, a, _, 0, _, rfl, rfl, .of hm0, atI_nat (j := 0) rfl, rfl, _, rfl, ifT (decide_eq_true rfl) ?_⟩
      refine ⟨_, rfl, _, rfl, a, _, 1, _, rfl, rfl, .of hm0, atI_nat (j := 1) rfl, _, n, rfl, rfl, col_len c, by have := mok.1; omega, ?_⟩
      refine ⟨_, rfl, c, rfl, _, rfl, a, _, 2, _, rfl, rfl, .of hm0, atI_nat (j := 2) rfl, _, k, rfl, rfl, col_len _, by have := mok.2; omega, ?_⟩
      rw [rep_col, rep_col]
      refine ⟨_, _, rfl, rfl, ?_, ?_⟩
      · rw [enc_len, enc_len, List.length_replicate, List.length_replicate, sizeLine_eq]
        have := mok.1
        have := mok.2
        omega
      · rw [enc_app]
        exact q
    | pass =>
      refine ⟨_, rfl, a, _, 0, _, rfl, rfl, .of hm0, atI_nat (j := 0) rfl, rfl, _, rfl, ifF (neS n2) ?_⟩
      refine ⟨_, rfl, _, rfl, _, rfl, _, _, rfl, rfl, _, e, rfl, ?_, col_len c, by omega, ?_⟩
      · exact congrArg V.int (by omega)
      · rw [rep_col]
        exact q
    | stay d =>
      refine ⟨_, rfl, a, _, 0, _, rfl, rfl, .of hm0, atI_nat (j := 0) rfl, rfl, _, rfl, ifF (neS n3) ?_⟩
      refine ⟨_, rfl, _, rfl, _, rfl, _, _, rfl, rfl, _, e, rfl, ?_, col_len c, by omega, ?_⟩
      · exact congrArg V.int (by omega)
      · rw [rep_col]
        exact q
/-! ### read_beside -/
def lineV : Option Dots → V
  | none => .non
  | some l => .str (enc l)
theorem ip_str {X : Cx} : PIp X .Add (fun x y H Q => ∃ i j, x = .str i ∧ y = .str j ∧ i.length + j.length ≤ sizeLine ∧ Q (.str (i ++ j)) H) := fun pins s σ H x y v u Q I rx ry q => iop_add_str pins s σ H x y v u Q I rx ry q
def spReadBeside : Sp := fun vs H Q _ => ∃ (x : Dots) (a : Addr) (ms : List Mode), vs = [.str (enc x), .ref a] ∧ x.length ≤ 40 ∧ TelAt H a ms ∧ (∀ m ∈ ms, MOk m) ∧ ∀ H', Same H H' → Q (lineV (rd x ms)) H'
theorem scReadBeside : FnScope ["reference", "telling", "line", "place", "colour", "found", "is_told", "mode", "there"] ["reference", "telling"] (defScope sReadBeside) := ⟨rfl, rfl, rfl, by decide +kernel, rfl, by decide +kernel, by decide +kernel⟩
theorem ok_read_beside (T : Tx K mg) (D : Stands K mg "read_beside" sReadBeside) (hf : Has P w K mg base "is_full" ["telling"] 1 spIsFull) (ha : Has P w K mg base "after_mode" ["reference", "mode", "place", "colour", "is_told"] 2 spAfterMode)
    (hd : Has P w K mg base "dots_of" ["mode", "place", "end", "colour"] 2 spDotsOf) : Has P w K mg base "read_beside" ["reference", "telling"] 3 spReadBeside := by
  obtain ⟨tw, gw⟩ := T.white
  refine has_of D scReadBeside (fun _ _ _ _ _ _ us hl => match us, hl with | [_, _], _ => rfl) (fun vs H Q E h => ?_) (fun f cdv A outer s H vs Q E hr h => ?_)
  · obtain ⟨x, a, ms, rfl, _⟩ := h
    rfl
  · obtain ⟨x, a, ms, rfl, h40, ht, mok, q⟩ := h
    refine ⟨_, pss_cons (ps_if (pt_val (pe_do hf (hr.mono (by decide)) (pa_cons (pv 1) pa_nil))) pss_never pss_nil)
      (pss_cons (ps_asg (pe_tup (pa_cons pe_int (pa_cons (pe_gs gw) (pa_cons pe_str (pa_cons pe_bl pa_nil))))) (pg_tup rfl (pgs_cons (pg_name (i := 3) scReadBeside.nd rfl (.inl rfl)) (pgs_cons (pg_name (i := 4) scReadBeside.nd rfl (.inl rfl)) (pgs_cons (pg_name (i := 5) scReadBeside.nd rfl (.inl rfl)) (pgs_cons (pg_name (i := 6) scReadBeside.nd rfl (.inl rfl)) pgs_nil))))))
      (pss_cons (ps_for PassesOwn.never rfl (pi_tup (pv 1)) (pg_name (i := 7) scReadBeside.nd rfl (.inl rfl))
        (pss_cons (ps_set (i := 8) scReadBeside.nd rfl (.inl rfl) (pe_ifExp (pt_cmpR op_lt (pv 3) (pe_callB call_len_str (by rfl) T.len_ PySem.boot_len (pa_cons (pv 0) pa_nil)) (nomark _)) (pe_do ha hr (pa_cons (pv 0) (pa_cons (pv 7) (pa_cons (pv 3) (pa_cons (pv 4) (pa_cons (pv 6) pa_nil)))))) pe_non))
        (pss_cons (ps_if (pt_cmpR op_isN (pv 8) pe_non (nomark _)) (pss_one (ps_ret pe_non)) pss_nil)
        (pss_cons (ps_aug (i := 5) scReadBeside.nd rfl (.inl rfl) (pe_do hd hr (pa_cons (pv 7) (pa_cons (pv 3) (pa_cons (ixT (pv 8) pe_int) (pa_cons (pv 4) pa_nil))))) ip_str)
        (pss_cons (ps_asg (pv 8) (pg_tup rfl (pgs_cons (pg_name (i := 3) scReadBeside.nd rfl (.inl rfl)) (pgs_cons (pg_name (i := 4) scReadBeside.nd rfl (.inl rfl)) pgs_nil))))
        (pss_one (ps_set (i := 6) scReadBeside.nd rfl (.inl rfl) pe_bl)))))))
      (pss_one (ps_ret (pe_ifExp (pt_cmpR op_eq (pv 3) (pe_callB call_len_str (by rfl) T.len_ PySem.boot_len (pa_cons (pv 0) pa_nil)) (nomark _)) (pv 5) pe_non))))), ?_⟩
    obtain ⟨as, hta, hl, get⟩ := ht.get
    refine ⟨_, rfl, a, ms, rfl, ht, false, rfl, iteF ?_⟩
    refine ⟨by decide, fun p0 np0 => ⟨p0, _, rfl, .of upd_same, rfl, _, _, rfl, _, _, rfl, _, _, rfl, _, _, rfl, rfl, ?_⟩⟩
    have s0 : Same H (upd H p0 (.tup [.int 0, .str (col false), .str "", .bl false])) := same_new np0
    refine ⟨_, rfl, a, rfl, ⟨_, .of (s0 _ _ hta)⟩, for_tup (xs := as.map V.ref) (fun i σ H2 => Same H H2 ∧ ∃ (p : Nat) (c t : Bool) (found : Dots) (y z : Option V), σ = [some (.str (enc x)), some (.ref a), none, some (.int p), some (.str (col c)), some (.str (enc found)), some (.bl t), y, z] ∧ p ≤ x.length ∧ found.length = p ∧ (t = false → p = 0) ∧
      rd x ms = (run (ms.drop i) c t (x.drop p)).map (found ++ ·)) ⟨s0, 0, false, false, [], none, none, rfl, Nat.zero_le _, rfl, fun _ => rfl, ?_⟩ (fun i σ H2 hi hP => .of (hP.1 _ _ hta)) ?_ ?_⟩
    · show rd x ms = (rd x ms).map ([] ++ ·)
      cases rd x ms <;> rfl
    · rintro i v σ H2 hv ⟨s2, p, c, t, found, y, z, rfl, hp, hfl, h0, hrd⟩
      have hlt : i < ms.length := by
        rw [← hl, ← List.length_map (f := V.ref) (as := as)]
        exact (List.getElem?_eq_some_iff.mp hv).1
      obtain ⟨b, hb, hbm⟩ := get i ms[i] (List.getElem?_eq_getElem hlt)
      have ev : v = .ref b := by
        rw [List.getElem?_map, hb] at hv
        exact (Option.some.inj hv).symm
      subst ev
      rw [List.drop_eq_getElem_cons hlt] at hrd
      have hok := mok _ (List.getElem_mem hlt)
      refine ⟨_, rfl, _, rfl, _, rfl, enc_szl (l := x) (by omega), _, _, rfl, rfl, _, rfl, if2 (fun e => ?_) (fun e => ?_)⟩
      · have e := of_decide_eq_true e
        rw [enc_len] at e
        have hlt2 : p < x.length := by omega
        have hne : x.drop p ≠ [] := by
          intro z
          have := congrArg List.length z
          rw [List.length_drop, List.length_nil] at this
          omega
        refine ⟨_, rfl, _, rfl, _, rfl, _, rfl, _, rfl, x, b, ms[i], p, c, t, rfl, h40, hlt2, h0, s2 _ _ hbm, hok, fun hn => ?_, fun e1 c' hs r nr => ?_⟩
        · have er : rd x ms = none := by
            rw [hrd]
            unfold run
            rw [if_neg hne, hn]
            rfl
          rw [er] at q
          refine ⟨_, rfl, rfl, _, rfl, ifT (decide_eq_true rfl) (q _ s2)⟩
        · obtain ⟨hlen, hle⟩ := told_len hs
          rw [List.length_drop] at hle
          have s3 := s2.trans (same_new nr : Same H2 (upd H2 r (.tup (nxtV p c' e1))))
          refine ⟨_, rfl, rfl, _, rfl, ifF (V.ne nofun) ?_⟩
          refine ⟨_, rfl, _, rfl, _, rfl, _, rfl, r, _, 0, _, rfl, rfl, .of upd_same, atI_nat (j := 0) rfl, _, rfl, b, ms[i], p, e1, c, rfl, s3 _ _ hbm, hok, by omega, _, _, rfl, rfl, ?_, ?_⟩
          · rw [enc_len, enc_len, hlen, sizeLine_eq]
            omega
          · rw [enc_app]
            refine ⟨_, rfl, r, _, rfl, .of upd_same, rfl, _, _, rfl, _, _, rfl, rfl, ?_⟩
            refine ⟨s3, p + e1, c', true, found ++ toldBy ms[i] e1 c, _, _, rfl, by omega, ?_, nofun, ?_⟩
            · rw [List.length_append, hlen, hfl]
            · rw [hrd]
              conv => lhs; unfold run
              rw [if_neg hne, hs]
              dsimp only
              rw [List.drop_drop, Option.map_map]
              congr 1
              funext l
              show found ++ (toldBy ms[i] e1 c ++ l) = _
              rw [List.append_assoc]
      · have e := of_decide_eq_false e
        rw [enc_len] at e
        have hne : x.drop p = [] := List.drop_eq_nil_of_le (by omega)
        have er : rd x ms = none := by
          rw [hrd]
          unfold run
          rw [if_pos hne]
          rfl
        rw [er] at q
        refine ⟨_, rfl, rfl, _, rfl, ifT (decide_eq_true rfl) (q _ s2)⟩
    · rintro σ H2 ⟨s2, p, c, t, found, y, z, rfl, hp, hfl, h0, hrd⟩
      rw [List.length_map, hl, List.drop_length] at hrd
      refine ⟨_, rfl, _, rfl, _, rfl, enc_szl (l := x) (by omega), rfl, _, rfl, if2 (fun e => ?_) (fun e => ?_)⟩
      · have e := of_decide_eq_true e
        injection e with e
        rw [enc_len] at e
        have e0 : x.drop p = [] := List.drop_eq_nil_of_le (by omega)
        rw [e0] at hrd
        have er : rd x ms = some found := by
          rw [hrd]
          show some (found ++ []) = _
          rw [List.append_nil]
        rw [er] at q
        exact ⟨_, rfl, q _ s2⟩
      · have e := of_decide_eq_false e
        have hne : x.drop p ≠ [] := by
          intro z
          have := congrArg List.length z
          rw [List.length_drop, List.length_nil] at this
          apply e
          rw [enc_len]
          exact congrArg V.int (by omega)
        have er : rd x ms = none := by
          rw [hrd]
          show Option.map _ (if x.drop p = [] then _ else _) = _
          rw [if_neg hne]
          rfl
        rw [er] at q
        exact q _ s2
end
end K77
set_option Elab.async false
set_option linter.all false
set_option maxRecDepth 100000
set_option maxHeartbeats 4000000
/-! K77V: slices of dots, tables of windows, lists of tuples on the heap. -/
namespace K77
open PySem PySem.Spec PyProof.Rows L2
/-! ### slices of dots -/
theorem cut_enc (l : Dots) (lo hi : Option Int) : cutS (enc l) lo hi = enc ((l.drop (HT.sIx l.length 0 lo)).take (HT.sIx l.length l.length hi - HT.sIx l.length 0 lo)) := by
  unfold cutS
  rw [enc_len]
  show Str.mk ((((l.map dc).toArray.toList).drop _).take _).toArray = Str.mk (((l.drop _).take _).map dc).toArray
  rw [List.toList_toArray, List.map_take, List.map_drop]
theorem cut_from {l : Dots} {i : Int} {k : Nat} (e : i = (k : Int)) : cutS (enc l) (some i) none = enc (l.drop k) := by
  subst e
  rw [cut_enc, HT.sIx_nat, HT.sIx_none]
  congr 1
  by_cases h : k ≤ l.length
  · rw [Nat.min_eq_left h]
    exact List.take_of_length_le (by rw [List.length_drop]; omega)
  · rw [Nat.min_eq_right (by omega), List.drop_length, List.drop_eq_nil_of_le (by omega), List.take_nil]
theorem cut_1 (l : Dots) : cutS (enc l) (some 1) none = enc (l.drop 1) := cut_from (k := 1) rfl
theorem cut_last4 (l : Dots) : cutS (enc l) (some (-4)) none = enc (last4 l) := by
  rw [cut_enc, HT.sIx_none]
  have e : HT.sIx l.length 0 (some (-4)) = l.length - 4 := by
    show (if (-4 : Int) < 0 then ((-4 : Int) + (l.length : Int)).toNat else min (-4 : Int).toNat l.length) = _
    rw [if_pos (by decide)]
    omega
  rw [e]
  congr 1
  exact List.take_of_length_le (by rw [List.length_drop]; omega)
theorem cut_two {l : Dots} {i j : Int} {a b : Nat} (e : i = (a : Int)) (e2 : j = (b : Int)) : cutS (enc l) (some i) (some j) = enc (cut l a b) := by
  subst e
  subst e2
  rw [cut_enc, HT.sIx_nat, HT.sIx_nat]
  congr 1
  unfold cut
  rw [List.drop_take]
  by_cases h : a ≤ l.length
  · rw [Nat.min_eq_left h]
    by_cases h2 : b ≤ l.length
    · rw [Nat.min_eq_left h2]
    · rw [Nat.min_eq_right (by omega), List.take_of_length_le (by rw [List.length_drop]; omega), List.take_of_length_le (by rw [List.length_drop]; omega)]
  · rw [List.drop_eq_nil_of_le (by omega), List.drop_eq_nil_of_le (by omega), List.take_nil, List.take_nil]
theorem enc_ne {l : Dots} : decide (V.str (enc l) = V.str "") = decide (l = []) := by
  rw [← enc_nil]
  exact enc_dec l []
theorem enc_ne2 {l : Dots} : decide (V.str "" = V.str (enc l)) = decide (l = []) := by
  rw [← enc_nil, enc_dec]
  exact decide_eq_decide.mpr ⟨Eq.symm, Eq.symm⟩
/-! ### tables of windows -/
def wK (ways : List (Dots × Nat)) : List (Key × V) := ways.map fun p => (.inr (enc p.1), .int p.2)
theorem inr_iff {a b : Dots} : decide ((Sum.inr (enc a) : Key) = .inr (enc b)) = decide (a = b) :=
  decide_eq_decide.mpr ⟨fun h => enc_inj (Sum.inr.inj h), fun h => by rw [h]⟩
theorem wK_val (ways : List (Dots × Nat)) (k : Dots) : ((valV (wK ways) (.inr (enc k))).getD (.int 0)) = .int (look ways k : Nat) := by
  unfold valV wK look
  induction ways with
  | nil => rfl
  | cons p ps ih =>
    rw [List.map_cons, List.find?_cons, List.find?_cons]
    dsimp only
    rw [inr_iff]
    by_cases h : p.1 = k
    · rw [decide_eq_true h]
      rfl
    · rw [decide_eq_false h]
      exact ih
theorem wK_put (ways : List (Dots × Nat)) (k : Dots) (n : Nat) : putK (wK ways) (.inr (enc k)) (.int n) = wK (put ways k n) := by
  unfold putK wK put
  rw [List.any_map]
  have e : (ways.any ((fun kv : Key × V => decide (kv.1 = .inr (enc k))) ∘ fun p : Dots × Nat => (Sum.inr (enc p.1), V.int p.2))) = ways.any fun p => decide (p.1 = k) := by
    congr 1
    funext p
    exact inr_iff
  rw [e]
  by_cases h : (ways.any fun p => decide (p.1 = k)) = true
  · rw [if_pos h, if_pos h, List.map_map, List.map_map]
    refine List.map_congr_left fun p _ => ?_
    dsimp only [Function.comp]
    by_cases h2 : p.1 = k
    · rw [if_pos h2, if_pos (by rw [h2])]
    · rw [if_neg h2, if_neg fun z => h2 (enc_inj (Sum.inr.inj z))]
  · rw [if_neg h, if_neg h, List.map_append]
    rfl
theorem wK_len (ways : List (Dots × Nat)) : (wK ways).length = ways.length := by
  unfold wK
  rw [List.length_map]
theorem wK_at {ways : List (Dots × Nat)} {i : Nat} {p : Dots × Nat} (h : ways[i]? = some p) : (wK ways)[i]? = some (.inr (enc p.1), .int p.2) := by
  unfold wK
  rw [List.getElem?_map, h]
  rfl
/-! ### the heap -/
/-- tuples stand -/
def Tk (H H' : Hp) : Prop := ∀ a xs, H a = some (.tup xs) → H' a = some (.tup xs)
theorem Tk.refl (H : Hp) : Tk H H := fun _ _ h => h
theorem Tk.trans {H H1 H2 : Hp} (a : Tk H H1) (b : Tk H1 H2) : Tk H H2 := fun c o h => b c o (a c o h)
theorem Same.tk {H H' : Hp} (s : Same H H') : Tk H H' := fun a xs h => s a _ h
theorem Tk.upd {H : Hp} {p : Addr} {o : HO} (h : ∀ xs, H p ≠ some (.tup xs)) : Tk H (upd H p o) := fun a xs e => by
  rw [upd_ne fun z : a = p => h xs (by rw [← z]; exact e)]
  exact e
theorem Tk.lst {H : Hp} {p : Addr} {o : HO} {ys : List V} (h : H p = some (.lst ys)) : Tk H (L2.upd H p o) := Tk.upd fun xs z => by
  rw [h] at z
  cases z
theorem Tk.dK {H : Hp} {p : Addr} {o : HO} {ys : List (Key × V)} (h : H p = some (.dK ys)) : Tk H (L2.upd H p o) := Tk.upd fun xs z => by
  rw [h] at z
  cases z
/-- two objects of two kinds -/
theorem two {H : Hp} {a b : Addr} {x y : HO} (ha : H a = some x) (hb : H b = some y) (n : x ≠ y) : a ≠ b := fun z => n (Option.some.inj (ha.symm.trans (z ▸ hb)))
/-- tuples at addresses -/
abbrev TupsAt {α : Type} (f : α → List V) (H : Hp) : List Addr → List α → Prop := Paired fun a x => H a = some (.tup (f x))
theorem TupsAt.tk {α : Type} {f : α → List V} {H H' : Hp} {as : List Addr} {xs : List α} (h : TupsAt f H as xs) (k : Tk H H') : TupsAt f H' as xs := Paired.mapP h fun a x q => k _ _ q
theorem TupsAt.get {α : Type} {f : α → List V} {H : Hp} {as : List Addr} {xs : List α} (h : TupsAt f H as xs) : ∀ {i : Nat} {x : α}, xs[i]? = some x → ∃ a, as[i]? = some a ∧ H a = some (.tup (f x)) := by
  induction h with
  | nil => intro i x e; simp at e
  | @cons a b as bs q t ih =>
    intro i x e
    cases i with
    | zero =>
      simp only [List.getElem?_cons_zero, Option.some.injEq] at e
      subst e
      exact ⟨a, rfl, q⟩
    | succ i =>
      simp only [List.getElem?_cons_succ] at e ⊢
      exact ih e
/-- a list of tuples -/
def ListAt {α : Type} (f : α → List V) (H : Hp) (l : Addr) (xs : List α) : Prop := ∃ as : List Addr, H l = some (.lst (as.map V.ref)) ∧ TupsAt f H as xs
theorem ListAt.keep {α : Type} {f : α → List V} {H H' : Hp} {l : Addr} {xs : List α} (h : ListAt f H l xs) (k : Tk H H') (e : ∀ o, H l = some o → H' l = some o) : ListAt f H' l xs := by
  obtain ⟨as, ha, p⟩ := h
  exact ⟨as, e _ ha, p.tk k⟩
theorem ListAt.same {α : Type} {f : α → List V} {H H' : Hp} {l : Addr} {xs : List α} (h : ListAt f H l xs) (k : Same H H') : ListAt f H' l xs := h.keep (Same.tk k) fun o e => k _ _ e
theorem ListAt.push {α : Type} {f : α → List V} {H : Hp} {l p : Addr} {xs : List α} {x : α} {ys : List V} (h : ListAt f H l xs) (hp : H p = none) (hl : H l = some (.lst ys)) : ListAt f (L2.upd (L2.upd H p (.tup (f x))) l (.lst (ys ++ [.ref p]))) l (xs ++ [x]) := by
  obtain ⟨as, ha, q⟩ := h
  rw [hl] at ha
  injection ha with ha
  injection ha with ha
  subst ha
  have hl2 : (L2.upd H p (.tup (f x))) l = some (.lst (as.map V.ref)) := same_new hp _ _ hl
  refine ⟨as ++ [p], ?_, ?_⟩
  · rw [upd_same, List.map_append]
    rfl
  · have k : Tk H (L2.upd (L2.upd H p (.tup (f x))) l (.lst (as.map V.ref ++ [.ref p]))) := (Same.tk (same_new hp)).trans (Tk.lst hl2)
    refine Paired.snoc (q.tk k) ?_
    exact Tk.lst hl2 _ _ upd_same
theorem ListAt.raw {α : Type} {f : α → List V} {H : Hp} {l : Addr} {xs : List α} (h : ListAt f H l xs) : ∃ as : List Addr, H l = some (.lst (as.map V.ref)) ∧ as.length = xs.length ∧ ∀ {i : Nat} {x : α}, xs[i]? = some x → ∃ a, as[i]? = some a ∧ H a = some (.tup (f x)) := by
  obtain ⟨as, ha, p⟩ := h
  exact ⟨as, ha, Paired.length p, fun e => p.get e⟩
theorem Room.u1 {k : Nat} {A : Around} (r : Room k A) : A.units + 1 < cLine := by have := r.un; omega
theorem Room.u0 {k : Nat} {A : Around} (r : Room k A) : A.units < cLine := by have := r.un; omega
theorem dc_it {J : It} {n : Nat} {G : Hp → Prop} {Y : Nat → Hp → V → Hp → Prop} (w : Walk J n G Y) {g : TG} {tt : TT} {tk tv : TE} {vs : List Nat} {σ : L2.St} {H1 : Hp} {D : Addr} {Qd : Hp → Prop} (Pv : Nat → Hp → Prop) (h0 : Pv 0 (L2.upd H1 D (.dK []))) (hG : ∀ i H, i ≤ n → Pv i H → G H)
    (hs : ∀ i x H H', i < n → Pv i H → Y i H x H' → g x (wipe σ vs) H' fun σ2 H2 => wipe σ2 vs = wipe σ vs ∧ tt σ2 H2 fun b H3 =>
      if b = true then tk σ2 H3 fun y H4 => tv σ2 H4 fun z H5 => ∃ kvs k, y = kV k ∧ H5 D = some (.dK kvs) ∧ kvs.length < sizeLine ∧ Pv (i + 1) (L2.upd H5 D (.dK (putK kvs k z))) else Pv (i + 1) H3) (hd : ∀ H, Pv n H → Qd H) :
    ∃ W : Nat → Nat → Hp → Prop, (∃ m, W 0 m (L2.upd H1 D (.dK []))) ∧ ∀ i m H, W i m H →
      (J.stop i H ∧ Qd H) ∨ (J.go i H ∧ ∃ Nx : Hp → Prop, (∀ H', Nx H' → ∃ m', m' < m ∧ W (i + 1) m' H') ∧ ∀ x H', J.yld i H x H' → g x (wipe σ vs) H' fun σ2 H2 => wipe σ2 vs = wipe σ vs ∧ tt σ2 H2 fun b H3 =>
        if b = true then tk σ2 H3 fun y H4 => tv σ2 H4 fun z H5 => ∃ kvs k, y = kV k ∧ H5 D = some (.dK kvs) ∧ kvs.length < sizeLine ∧ Nx (L2.upd H5 D (.dK (putK kvs k z))) else Nx H3) := by
  refine ⟨fun i m H => m = n - i ∧ i ≤ n ∧ Pv i H, ⟨n, by simp, Nat.zero_le _, h0⟩, ?_⟩
  rintro i m H ⟨rfl, hi, p⟩
  have q := hG i H hi p
  by_cases hlt : i < n
  · refine .inr ⟨w.goes i H hlt q, Pv (i + 1), fun H' p' => ⟨n - (i + 1), by omega, rfl, hlt, p'⟩, fun x H' y => hs i x H H' hlt p (w.yields i H x H' hlt q y)⟩
  · have e : i = n := by omega
    subst e
    exact .inl ⟨w.stops H q, hd H p⟩
theorem enc_last {l : Dots} (h : l ≠ []) : atI (enc l).cps.toList (-1) = some (dc (last l)) := by
  have e : l = l.dropLast ++ [last l] := by
    unfold last
    rw [List.getLast?_eq_some_getLast h]
    exact (List.dropLast_concat_getLast h).symm
  have e2 : (enc l).cps.toList = l.dropLast.map dc ++ [dc (last l)] := by
    conv => lhs; rw [e]
    show ((l.dropLast ++ [last l]).map dc).toArray.toList = _
    rw [List.toList_toArray, List.map_append]
    rfl
  rw [e2]
  exact atI_last _ _
end K77
set_option Elab.async false
set_option linter.all false
set_option maxRecDepth 100000
set_option maxHeartbeats 4000000
/-! K77W5: begun_with, backs_from, skipped. -/
namespace K77
open PySem PySem.Spec PyProof.Rows L2
theorem few {xs : List V} (h : Nat.ble xs.length 8 = true) : xs.length ≤ sizeLine := Nat.le_trans (Nat.le_of_ble_eq_true h) (by decide)
theorem rixsC {l : Dots} {i : Int} {k : Nat} {b : Bool} {σ : L2.St} {H : Hp} {Q : VK} (h : l[k]? = some b) (e : i = (k : Int)) (hz : l.length ≤ 1000) (q : Q (.str (col b)) H) : tC (.int i) σ H (fun y H2 => rIxS (.str (enc l)) y H2 Q) := rixs h e hz q
section
variable {P : Program} {w : World} {K : PySem.W.Frag} {mg : Str → Option Value} {base : Heap}
/-! ### begun_with -/
def encL (ws : List Dots) : List V := ws.map fun l => V.str (enc l)
def spBegun : Sp := fun vs H Q _ => ∃ (p : Nat) (t : Bool) (k : Dots), vs = [.int p, .bl t, .str (enc k)] ∧ k.length ≤ 100 ∧
  ∀ H' r L, Same H H' → H' r = some (.tup [.ref L, .str (enc (begun p t k).2.1), .int (begun p t k).2.2]) → H' L = some (.lst (encL (begun p t k).1)) → Q (.ref r) H'
theorem scBegun : FnScope ["place", "is_told", "known"] ["place", "is_told", "known"] (defScope sBegunWith) := ⟨rfl, rfl, rfl, by decide +kernel, rfl, by decide +kernel, by decide +kernel⟩
theorem ok_begun_with (T : Tx K mg) (D : Stands K mg "begun_with" sBegunWith) : Has P w K mg base "begun_with" ["place", "is_told", "known"] 1 spBegun := by
  obtain ⟨tw, gw⟩ := T.white
  obtain ⟨tb, gb⟩ := T.black
  refine has_of D scBegun (fun _ _ _ _ _ _ us hl => match us, hl with | [_, _, _], _ => rfl) (fun vs H Q E h => ?_) (fun f cdv A outer s H vs Q E hr h => ?_)
  · obtain ⟨p, t, k, rfl, _⟩ := h
    rfl
  · obtain ⟨p, t, k, rfl, hk, q⟩ := h
    refine ⟨_, pss_cons (ps_if (pt_not (pt_val (pv 1))) (pss_one (ps_ret (pe_tup (pa_cons (pe_lst (pa_cons pe_str pa_nil)) (pa_cons (pv 2) (pa_cons (pv 0) pa_nil)))))) pss_nil)
      (pss_cons (ps_if (pt_cmpR op_ne (pv 2) pe_str (nomark _)) (pss_one (ps_ret (pe_tup (pa_cons (pe_lst (pa_cons (pe_ix ix_str (pv 2) pe_int (fun _ _ => rfl)) pa_nil)) (pa_cons (pe_slice sl_str (pv 2) (po_some pe_int) po_none) (pa_cons (pe_op op_add (pv 0) pe_int) pa_nil)))))) pss_nil)
      (pss_one (ps_ret (pe_tup (pa_cons (pe_lst (pa_cons (pe_gs gw) (pa_cons (pe_gs gb) pa_nil))) (pa_cons pe_str (pa_cons (pe_op op_add (pv 0) pe_int) pa_nil))))))), ?_⟩
    have fin : ∀ (xs ys : List V) (L r : Addr), H L = none → (L2.upd H L (.lst xs)) r = none → Same H (L2.upd (L2.upd H L (.lst xs)) r (.tup ys)) ∧ (L2.upd (L2.upd H L (.lst xs)) r (.tup ys)) L = some (.lst xs) := fun xs ys L r nL nr =>
      ⟨(same_new nL).trans (same_new nr), same_new nr _ _ upd_same⟩
    refine ⟨_, rfl, t, rfl, ?_⟩
    cases t with
    | false =>
      refine iteT ⟨few rfl, fun L nL => ⟨_, rfl, _, rfl, few rfl, fun r nr => ?_⟩⟩
      obtain ⟨s1, e1⟩ := fin _ [V.ref L, V.str (enc k), V.int p] L r nL nr
      refine q _ r L s1 upd_same ?_
      rw [e1]
      show some (HO.lst [V.str ""]) = some (HO.lst [V.str (enc [])])
      rw [enc_nil]
    | true =>
      refine iteF ⟨_, rfl, rfl, _, rfl, ?_⟩
      rw [enc_ne]
      cases k with
      | nil =>
        refine ifF (by rw [decide_eq_true rfl]; rfl) ?_
        refine ⟨few rfl, fun L nL => ⟨_, rfl, _, _, rfl, rfl, few rfl, fun r nr => ?_⟩⟩
        obtain ⟨s1, e1⟩ := fin _ [V.ref L, V.str "", V.int ((p : Int) + 1)] L r nL nr
        refine q _ r L s1 ?_ e1
        rw [upd_same]
        show some (HO.tup [V.ref L, V.str "", V.int ((p : Int) + 1)]) = some (HO.tup [V.ref L, V.str (enc []), V.int ((p + 1 : Nat) : Int)])
        rw [enc_nil]
        rfl
      | cons d k =>
        refine ifT (by rw [decide_eq_false (by simp)]; rfl) ?_
        refine ⟨_, rfl, rixsC (k := 0) (b := d) rfl rfl (by omega) ⟨few rfl, fun L nL => ⟨_, rfl, _, rfl, _, rfl, enc_szl (by omega), ?_⟩⟩⟩
        rw [cut_1]
        refine ⟨_, rfl, _, _, rfl, rfl, few rfl, fun r nr => ?_⟩
        obtain ⟨s1, e1⟩ := fin _ [V.ref L, V.str (enc ((d :: k).drop 1)), V.int ((p : Int) + 1)] L r nL nr
        exact q _ r L s1 upd_same e1
/-! ### skipped -/
def skV2 (x : Dots × Nat) : List V := [.str (enc x.1), .int x.2]
def spSkipped : Sp := fun vs H Q _ => ∃ (wd p : Nat) (k : Dots) (e : Nat), vs = [.int wd, .int p, .str (enc k), .int e] ∧ wd ≤ 40 ∧ p ≤ e ∧ k.length ≤ 100 ∧ p ≤ 100 ∧ e ≤ 100 ∧
  ∀ H' r, Same H H' → H' r = some (.tup (skV2 (skipped wd p k e))) → Q (.ref r) H'
theorem scSkipped : FnScope ["width", "place", "known", "end", "found", "here"] ["width", "place", "known", "end"] (defScope sSkipped) := ⟨rfl, rfl, rfl, by decide +kernel, rfl, by decide +kernel, by decide +kernel⟩
theorem ok_skipped (T : Tx K mg) (D : Stands K mg "skipped" sSkipped) : Has P w K mg base "skipped" ["width", "place", "known", "end"] 1 spSkipped := by
  refine has_of D scSkipped (fun _ _ _ _ _ _ us hl => match us, hl with | [_, _, _, _], _ => rfl) (fun vs H Q E h => ?_) (fun f cdv A outer s H vs Q E hr h => ?_)
  · obtain ⟨wd, p, k, e, rfl, _⟩ := h
    rfl
  · obtain ⟨wd, p, k, e, rfl, hw, hpe, hk, hp, he, q⟩ := h
    refine ⟨_, pss_cons (ps_if (pt_cmpR op_le (pe_op op_sub (pv 3) (pv 1)) (pe_callB call_len_str (by rfl) T.len_ PySem.boot_len (pa_cons (pv 2) pa_nil)) (nomark _))
        (pss_one (ps_ret (pe_tup (pa_cons (pe_slice sl_str (pv 2) (po_some (pe_op op_sub (pv 3) (pv 1))) po_none) (pa_cons pe_int pa_nil))))) pss_nil)
      (pss_cons (ps_set (i := 4) scSkipped.nd rfl (.inl rfl) pe_int)
      (pss_cons (ps_for PassesOwn.never rfl (pi_range2 (by rfl) T.range_ (pa_cons (pe_op op_add (pv 1) (pe_callB call_len_str (by rfl) T.len_ PySem.boot_len (pa_cons (pv 2) pa_nil))) (pa_cons (pe_callB (call_min2 rfl) (by rfl) T.min_ (by decide +kernel) (pa_cons (pv 3) (pa_cons (pv 0) pa_nil))) pa_nil))) (pg_name (i := 5) scSkipped.nd rfl (.inl rfl))
        (pss_one (ps_aug (i := 4) scSkipped.nd rfl (.inl rfl) pe_int (fun pins s σ H x y v u Q I rx ry q => iop_mul pins s σ H x y v u Q I rx ry q))))
      (pss_one (ps_ret (pe_tup (pa_cons pe_str (pa_cons (pv 4) pa_nil))))))), ?_⟩
    refine ⟨_, rfl, _, rfl, _, _, rfl, rfl, _, rfl, _, rfl, enc_szl (l := k) (by omega), _, _, rfl, rfl, _, rfl, if2 (fun e1 => ?_) (fun e1 => ?_)⟩
    · have e1 := of_decide_eq_true e1
      rw [enc_len] at e1
      refine ⟨_, rfl, _, rfl, _, rfl, _, _, rfl, rfl, _, rfl, _, rfl, enc_szl (by omega), ?_⟩
      rw [cut_from (k := e - p) (by omega)]
      refine ⟨few rfl, fun r nr => q _ r (same_new nr) ?_⟩
      rw [upd_same]
      unfold skipped
      rw [if_pos (by omega)]
      rfl
    · have e1 := of_decide_eq_false e1
      rw [enc_len] at e1
      refine ⟨_, rfl, _, rfl, _, rfl, enc_szl (l := k) (by omega), _, _, rfl, rfl, _, rfl, _, rfl, _, _, rfl, ((p + k.length : Nat) : Int), ((min e wd : Nat) : Int), ?_, ⟨by omega, by omega, by omega, by omega⟩, ?_⟩
      · rw [enc_len]
        have e2 : (if (wd : Int) < (e : Int) then (wd : Int) else (e : Int)) = ((min e wd : Nat) : Int) := by
          split <;> omega
        rw [e2]
        rfl
      have en : (((min e wd : Nat) : Int) - ((p + k.length : Nat) : Int)).toNat = min e wd - (p + k.length) := by omega
      refine for_range (fun i σ H2 => H2 = H ∧ ∃ y, σ = [some (.int wd), some (.int p), some (.str (enc k)), some (.int e), some (.int ((2 ^ i : Nat) : Int)), y]) ⟨rfl, none, rfl⟩ ?_ ?_
      · rintro i σ H2 hi ⟨rfl, y, rfl⟩
        rw [en] at hi
        have e2 : V.int (((2 ^ i : Nat) : Int) * 2) = V.int ((2 ^ (i + 1) : Nat) : Int) := by
          rw [Nat.pow_succ]
          rfl
        refine ⟨_, rfl, _, _, rfl, rfl, .inr ⟨by decide, by decide⟩, ?_⟩
        exact ⟨rfl, some (.int (((p + k.length : Nat) : Int) + (i : Nat))), by rw [← e2]; rfl⟩
      · rintro σ H2 ⟨rfl, y, rfl⟩
        rw [en]
        refine ⟨_, rfl, few rfl, fun r nr => q _ r (same_new nr) ?_⟩
        rw [upd_same]
        unfold skipped
        rw [if_neg (by omega)]
        show some (HO.tup [V.str "", _]) = some (HO.tup [V.str (enc []), _])
        rw [enc_nil]
end
end K77
set_option Elab.async false
set_option linter.all false
set_option maxRecDepth 100000
set_option maxHeartbeats 4000000
/-! K77W6: backs_from. -/
namespace K77
open PySem PySem.Spec PyProof.Rows L2
section
variable {P : Program} {w : World} {K : PySem.W.Frag} {mg : Str → Option Value} {base : Heap}
theorem in2 (c : Bool) : inV (.str (col c)) [.str (col false), .str (col true)] = true := by
  cases c <;> decide +kernel
theorem in1 (c d : Bool) : inV (.str (col c)) [.str (col d)] = (c == d) := by
  cases c <;> cases d <;> decide +kernel
def bkV (b : Nat × Dots) : List V := [.int b.1, .str (enc b.2)]
def spBacks : Sp := fun vs H Q _ => ∃ (wd k : Nat) (c : Bool) (r : Dots), vs = [.int wd, .int k, .str (col c), .str (enc r)] ∧ wd ≤ 40 ∧ k < wd ∧ r.length ≤ 100 ∧
  ∀ H' L, Same H H' → H L = none → ListAt bkV H' L (backs wd c (wd - (k + 1)) (k + 1) r) → Q (.ref L) H'
theorem scBacks : FnScope ["width", "change", "colour", "rest", "found", "here", "dots"] ["width", "change", "colour", "rest"] (defScope sBacksFrom) := ⟨rfl, rfl, rfl, by decide +kernel, rfl, by decide +kernel, by decide +kernel⟩
theorem ok_backs_from (T : Tx K mg) (D : Stands K mg "backs_from" sBacksFrom) : Has P w K mg base "backs_from" ["width", "change", "colour", "rest"] 1 spBacks := by
  obtain ⟨tw, gw⟩ := T.white
  obtain ⟨tb, gb⟩ := T.black
  refine has_of D scBacks (fun _ _ _ _ _ _ us hl => match us, hl with | [_, _, _, _], _ => rfl) (fun vs H Q E h => ?_) (fun f cdv A outer s H vs Q E hr h => ?_)
  · obtain ⟨wd, k, c, r, rfl, _⟩ := h
    rfl
  · obtain ⟨wd, k, c, r, rfl, hw, hk, hrl, q⟩ := h
    refine ⟨_, pss_cons (ps_par (i := 4) (j := 5) rfl scBacks.nd rfl rfl (by decide) rfl rfl (pa_cons (pe_lst pa_nil) (pa_cons (pe_op op_add (pv 1) pe_int) pa_nil)) (by rfl))
      (pss_cons (ps_while PassesOwn.never (pt_cmpR op_lt (pv 5) (pv 0) (nomark _))
        (pss_cons (ps_set (i := 6) scBacks.nd rfl (.inl rfl) (pe_ifExp (pt_cmpR op_ne (pv 3) pe_str (nomark _)) (pe_lst (pa_cons (pe_ix ix_str (pv 3) pe_int (fun _ _ => rfl)) pa_nil)) (pe_lst (pa_cons (pe_gs gw) (pa_cons (pe_gs gb) pa_nil)))))
        (pss_cons (ps_set (i := 3) scBacks.nd rfl (.inl rfl) (pe_slice sl_str (pv 3) (po_some pe_int) po_none))
        (pss_cons (ps_if (pt_cmpR op_in_seq (pv 2) (pv 6) (by rfl))
          (pss_cons (ps_expr (pe_bm PySem.F.plainAttrs_list PySem.F.slot_list_append PySem.F.type_list_append mt_append (pv 4) (pa_cons (pe_tup (pa_cons (pv 5) (pa_cons (pe_op op_add_str (pv 2) (pv 3)) pa_nil))) pa_nil)))
            (pss_one (ps_if (pt_cmpR op_eq (pe_callB call_len_seq (by rfl) T.len_ PySem.boot_len (pa_cons (pv 6) pa_nil)) pe_int (nomark _)) (pss_one (ps_ret (pv 4))) pss_nil))) pss_nil)
        (pss_one (ps_aug (i := 5) scBacks.nd rfl (.inl rfl) pe_int ip_add))))))
      (pss_cons (ps_expr (pe_bm PySem.F.plainAttrs_list PySem.F.slot_list_append PySem.F.type_list_append mt_append (pv 4) (pa_cons (pe_tup (pa_cons (pv 0) (pa_cons pe_str pa_nil))) pa_nil)))
      (pss_one (ps_ret (pv 4))))), ?_⟩
    refine ⟨few rfl, fun L nL => ⟨_, rfl, _, _, rfl, rfl, _, _, rfl, ?_⟩⟩
    refine ⟨fun m σ H2 => ∃ (h : Nat) (r' : Dots) (fo : List (Nat × Dots)) (z : Option V), m = wd - h ∧ h ≤ wd ∧ σ = [some (.int wd), some (.int k), some (.str (col c)), some (.str (enc r')), some (.ref L), some (.int h), z] ∧ r'.length ≤ 100 ∧ Same H H2 ∧ ListAt bkV H2 L fo ∧ fo.length ≤ h ∧
      backs wd c (wd - (k + 1)) (k + 1) r = fo ++ backs wd c (wd - h) h r', ⟨_, k + 1, r, [], none, rfl, hk, rfl, hrl, same_new nL, ⟨[], upd_same, .nil⟩, by simp, by simp⟩, ?_⟩
    rintro m σ H2 ⟨h, r', fo, z, rfl, hh, rfl, hr', s2, hL, hfo, hb⟩
    refine ⟨_, rfl, _, rfl, _, _, rfl, rfl, _, rfl, if2 (fun e => ?_) (fun e => ?_)⟩
    · have e := of_decide_eq_true e
      have hlt : h < wd := by omega
      refine ⟨fun σ' H' => ∃ (r' : Dots) (fo : List (Nat × Dots)) (z : Option V), σ' = [some (.int wd), some (.int k), some (.str (col c)), some (.str (enc r')), some (.ref L), some (.int ((h + 1 : Nat) : Int)), z] ∧ r'.length ≤ 100 ∧ Same H H' ∧ ListAt bkV H' L fo ∧ fo.length ≤ h + 1 ∧
        backs wd c (wd - (k + 1)) (k + 1) r = fo ++ backs wd c (wd - (h + 1)) (h + 1) r', ?_, ?_⟩
      · rintro σ' H' ⟨r', fo, z, rfl, h1, h2, h3, h4, h5⟩
        exact ⟨wd - (h + 1), by omega, h + 1, r', fo, z, rfl, by omega, rfl, h1, h2, h3, h4, h5⟩
      have en : wd - h = (wd - (h + 1)) + 1 := by omega
      rw [en] at hb
      refine ⟨_, rfl, rfl, _, rfl, ?_⟩
      rw [enc_ne]
      -- an append
      have app : ∀ (H3 : Hp) (x : Nat × Dots) (p : Addr), Same H H3 → ListAt bkV H3 L fo → H3 p = none → ∃ ys, (L2.upd H3 p (.tup (bkV x))) L = some (.lst ys) ∧ ys.length < sizeLine ∧ ∀ o, L2.upd (L2.upd H3 p (.tup (bkV x))) L (.lst (ys ++ [.ref p])) = o → Same H o ∧ ListAt bkV o L (fo ++ [x]) := by
        intro H3 x p s3 l3 np
        obtain ⟨as, ha, hl, _⟩ := l3.raw
        refine ⟨as.map V.ref, same_new np _ _ ha, by rw [List.length_map, hl, sizeLine_eq]; omega, ?_⟩
        rintro o rfl
        exact ⟨same_mut (same_mut s3 (s3.free np)) nL, l3.push np ha⟩
      cases r' with
      | nil =>
        refine ifF (by rw [decide_eq_true rfl]; rfl) ?_
        refine ⟨few rfl, fun p np => ?_⟩
        refine ⟨_, rfl, _, rfl, _, rfl, enc_szl (l := []) (by decide), ?_⟩
        rw [cut_1]
        refine ⟨_, rfl, _, rfl, p, _, rfl, .inl (.of upd_same), rfl, rfl, _, rfl, ifT (in2 c) ?_⟩
        have s3 : Same H (L2.upd H2 p (.lst [.str (col false), .str (col true)])) := s2.trans (same_new np)
        have l3 := hL.same (same_new (o := .lst [.str (col false), .str (col true)]) np)
        obtain ⟨as, ha, _, _⟩ := l3.raw
        refine ⟨_, rfl, .inl ⟨rfl, _, .of ha⟩, _, rfl, _, rfl, _, rfl, _, _, rfl, rfl, by rw [enc_len]; exact Nat.le_trans (show 1 + 0 ≤ 4 by decide) sz4, few rfl, fun r nr => ?_⟩
        obtain ⟨ys, hy, hz, ap⟩ := app _ (h, [c]) r s3 l3 nr
        have ea : col c ++ enc (List.drop 1 []) = enc [c] := enc_app [c] []
        rw [ea]
        refine ⟨L, ys, _, rfl, rfl, hy, hz, ?_⟩
        obtain ⟨s4, l4⟩ := ap _ rfl
        have hp : (L2.upd (L2.upd (L2.upd H2 p (.lst [.str (col false), .str (col true)])) r (.tup (bkV (h, [c])))) L (.lst (ys ++ [.ref r]))) p = some (.lst [.str (col false), .str (col true)]) := by
          have hne : p ≠ L := fun z => by
            rw [z] at np
            obtain ⟨as, ha, _, _⟩ := hL.raw
            rw [np] at ha
            cases ha
          rw [upd_ne hne]
          exact same_new nr _ _ upd_same
        refine ⟨_, rfl, p, _, rfl, .inl (.of hp), rfl, _, rfl, ifF (V.ne (by decide)) ?_⟩
        refine ⟨_, rfl, h, 1, rfl, rfl, ?_⟩
        refine ⟨[], fo ++ [(h, [c])], _, rfl, by decide, s4, l4, by rw [List.length_append]; show fo.length + 1 ≤ _; omega, ?_⟩
        rw [hb, List.append_assoc]
        rfl
      | cons d r' =>
        refine ifT (by rw [decide_eq_false (by simp)]; rfl) ?_
        refine ⟨_, rfl, rixsC (k := 0) (b := d) rfl rfl (by omega) ⟨few rfl, fun p np => ?_⟩⟩
        refine ⟨_, rfl, _, rfl, _, rfl, enc_szl (l := d :: r') (by omega), ?_⟩
        rw [cut_1]
        refine ⟨_, rfl, _, rfl, p, _, rfl, .inl (.of upd_same), rfl, rfl, _, rfl, ?_⟩
        rw [in1]
        have s3 : Same H (L2.upd H2 p (.lst [.str (col d)])) := s2.trans (same_new np)
        have l3 := hL.same (same_new (o := .lst [.str (col d)]) np)
        have hb2 : backs wd c (wd - (h + 1) + 1) h (d :: r') = if d = c then [(h, c :: r')] else backs wd c (wd - (h + 1)) (h + 1) r' := rfl
        rw [hb2] at hb
        have hr2 : r'.length ≤ 99 := by
          rw [List.length_cons] at hr'
          omega
        refine if2 (fun e2 => ?_) (fun e2 => ?_)
        · have e2 := eq_of_beq e2
          rw [if_pos e2.symm] at hb
          obtain ⟨as, ha, _, _⟩ := l3.raw
          refine ⟨_, rfl, .inl ⟨rfl, _, .of ha⟩, _, rfl, _, rfl, _, rfl, _, _, rfl, rfl, by rw [enc_len]; show 1 + (List.drop 1 (d :: r')).length ≤ _; rw [sizeLine_eq]; show 1 + r'.length ≤ _; omega, few rfl, fun r nr => ?_⟩
          obtain ⟨ys, hy, hz, ap⟩ := app _ (h, c :: r') r s3 l3 nr
          have ea : col c ++ enc (List.drop 1 (d :: r')) = enc (c :: r') := enc_app [c] r'
          rw [ea]
          refine ⟨L, ys, _, rfl, rfl, hy, hz, ?_⟩
          obtain ⟨s4, l4⟩ := ap _ rfl
          have hp : (L2.upd (L2.upd (L2.upd H2 p (.lst [.str (col d)])) r (.tup (bkV (h, c :: r')))) L (.lst (ys ++ [.ref r]))) p = some (.lst [.str (col d)]) := by
            have hne : p ≠ L := fun z => by
              rw [z] at np
              obtain ⟨as, ha, _, _⟩ := hL.raw
              rw [np] at ha
              cases ha
            rw [upd_ne hne]
            exact same_new nr _ _ upd_same
          refine ⟨_, rfl, p, _, rfl, .inl (.of hp), rfl, _, rfl, ifT (decide_eq_true rfl) ?_⟩
          rw [← hb] at l4
          exact ⟨_, rfl, q _ L s4 nL l4⟩
        · have e2 := ne_of_beq_false e2
          rw [if_neg fun z => e2 z.symm] at hb
          refine ⟨_, rfl, h, 1, rfl, rfl, ?_⟩
          exact ⟨r', fo, _, rfl, by omega, s3, l3, by omega, hb⟩
    · have e := of_decide_eq_false e
      have hlt : h = wd := by omega
      subst hlt
      rw [Nat.sub_self] at hb
      obtain ⟨as, ha, hl, _⟩ := hL.raw
      refine ⟨_, rfl, .inl ⟨rfl, _, .of ha⟩, _, rfl, few rfl, fun b nr => ⟨L, _, _, rfl, rfl, same_new nr _ _ ha, by rw [List.length_map, hl, sizeLine_eq]; omega, ?_⟩⟩
      refine ⟨_, rfl, q _ L (same_mut (same_mut s2 (s2.free nr)) nL) nL ?_⟩
      have l4 := hL.push (x := (h, [])) nr ha
      have e5 : fo ++ [(h, [])] = backs h c (h - (k + 1)) (k + 1) r := hb.symm
      rw [e5] at l4
      have e6 : HO.tup [V.int (h : Nat), V.str ""] = .tup (bkV (h, [])) := by
        show _ = HO.tup [V.int (h : Nat), V.str (enc [])]
        rw [enc_nil]
      rw [e6]
      exact l4
end
end K77
set_option Elab.async false
set_option linter.all false
set_option maxRecDepth 100000
set_option maxHeartbeats 4000000
/-! K77W7: changes_from. -/
namespace K77
open PySem PySem.Spec PyProof.Rows L2
section
variable {P : Program} {w : World} {K : PySem.W.Frag} {mg : Str → Option Value} {base : Heap}
def chgV (x : Chg) : List V := [.int x.1, .str (enc x.2.1), .str (enc x.2.2.1), .int x.2.2.2]
theorem pairedApp {α β : Type} {F : α → β → Prop} : ∀ {a a' : List α} {b b' : List β}, Paired F a b → Paired F a' b' → Paired F (a ++ a') (b ++ b')
  | _, _, _, _, .nil, h => h
  | _, _, _, _, .cons q t, h => .cons q (pairedApp t h)
/-- the heap within the search for changes -/
structure CIn (H H2 : Hp) (F G Wy : Addr) (od : Obj) (ways : List (Dots × Nat)) (a : Acc) : Prop where
  sm : Same H H2
  fo : ListAt chgV H2 F a.1
  fr : H2 G = some (.dK (wK a.2))
  wy : H2 Wy = some (.frz od (.dK (wK ways)))
theorem CIn.new {H H2 : Hp} {F G Wy p : Addr} {od : Obj} {ways : List (Dots × Nat)} {a : Acc} {o : HO} (h : CIn H H2 F G Wy od ways a) (np : H2 p = none) : CIn H (L2.upd H2 p o) F G Wy od ways a :=
  ⟨same_mut h.sm (h.sm.free np), h.fo.same (same_new np), same_new np _ _ h.fr, same_new np _ _ h.wy⟩
theorem CIn.put {H H2 : Hp} {F G Wy : Addr} {od : Obj} {ways : List (Dots × Nat)} {a : Acc} {l : Dots} {n : Nat} (h : CIn H H2 F G Wy od ways a) (nG : H G = none) :
    CIn H (L2.upd H2 G (.dK (putK (wK a.2) (.inr (enc l)) (.int ((look a.2 l : Nat) + (n : Nat)))))) F G Wy od ways (a.1, add a.2 l n) := by
  obtain ⟨as, ha, q⟩ := h.fo
  refine ⟨same_mut h.sm nG, ⟨as, ?_, q.tk (Tk.dK h.fr)⟩, ?_, ?_⟩
  · rw [upd_ne (two ha h.fr (by nofun))]
    exact ha
  · rw [upd_same]
    have e := wK_put a.2 l (look a.2 l + n)
    exact congrArg (fun z => some (HO.dK z)) e
  · rw [upd_ne (two h.wy h.fr (by nofun))]
    exact h.wy
theorem CIn.app {H H2 : Hp} {F G Wy p : Addr} {od : Obj} {ways : List (Dots × Nat)} {a : Acc} {x : Chg} {ys : List V} (h : CIn H H2 F G Wy od ways a) (nF : H F = none) (np : H2 p = none) (hy : H2 F = some (.lst ys)) :
    CIn H (L2.upd (L2.upd H2 p (.tup (chgV x))) F (.lst (ys ++ [.ref p]))) F G Wy od ways (a.1 ++ [x], a.2) := by
  refine ⟨same_mut (same_mut h.sm (h.sm.free np)) nF, h.fo.push np hy, ?_, ?_⟩
  · rw [upd_ne (two h.fr hy (by nofun))]
    exact same_new np _ _ h.fr
  · rw [upd_ne (two h.wy hy (by nofun))]
    exact same_new np _ _ h.wy
def spChanges : Sp := fun vs H Q _ => ∃ (wd p : Nat) (c t : Bool) (k : Dots), vs = [.int wd, .int p, .str (col c), .bl t, .str (enc k)] ∧ wd ≤ 40 ∧ p < wd ∧ k.length ≤ 100 ∧
  ∀ H' L, Same H H' → H L = none → ListAt chgV H' L (changes wd p c t k) → Q (.ref L) H'
abbrev nChanges : List Str := ["width", "place", "colour", "is_told", "known", "windows", "rest", "here", "window", "ways", "found", "fresh", "count", "ahead", "dot", "longer"]
theorem scChanges : FnScope nChanges ["width", "place", "colour", "is_told", "known"] (defScope sChangesFrom) := ⟨rfl, rfl, rfl, by decide +kernel, rfl, by decide +kernel, by decide +kernel⟩
theorem ok_changes_from (T : Tx K mg) (D : Stands K mg "changes_from" sChangesFrom) (hb : Has P w K mg base "begun_with" ["place", "is_told", "known"] 1 spBegun) : Has P w K mg base "changes_from" ["width", "place", "colour", "is_told", "known"] 2 spChanges := by
  obtain ⟨tw, gw⟩ := T.white
  obtain ⟨tb, gb⟩ := T.black
  obtain ⟨tW, gW⟩ := T.WINDOW
  refine has_of D scChanges (fun _ _ _ _ _ _ us hl => match us, hl with | [_, _, _, _, _], _ => rfl) (fun vs H Q E h => ?_) (fun f cdv A outer s H vs Q E hr h => ?_)
  · obtain ⟨wd, p, c, t, k, rfl, _⟩ := h
    rfl
  · obtain ⟨wd, p, c, t, k, rfl, hw, hp, hk, q⟩ := h
    refine ⟨_, pss_cons (ps_asg (pe_do hb hr (pa_cons (pv 1) (pa_cons (pv 3) (pa_cons (pv 4) pa_nil)))) (pg_tup rfl (pgs_cons (pg_name (i := 5) scChanges.nd rfl (.inl rfl)) (pgs_cons (pg_name (i := 6) scChanges.nd rfl (.inl rfl)) (pgs_cons (pg_name (i := 7) scChanges.nd rfl (.inl rfl)) pgs_nil)))))
      (pss_cons (ps_par (i := 9) (j := 10) rfl scChanges.nd rfl rfl (by decide) rfl rfl (pa_cons (pe_dc (own := [("window", 8)]) (g := gName 8) (tt := tYes) rfl scChanges.nd (pi_list (pv 5)) (blkOk_by (N := nChanges) (sc := defScope sChangesFrom) (by decide +kernel)) (fun _ _ _ _ _ => pg_name (i := 8) scChanges.nd rfl (Or.inl rfl)) (fun _ _ _ _ _ => pts_nil) (fun _ _ _ _ _ => pv 8) (fun _ _ _ _ _ => pe_int)) (pa_cons (pe_lst pa_nil) pa_nil)) (by rfl))
      (pss_cons (ps_while PassesOwn.never (pt_cmpR op_lt (pv 7) (pv 0) (nomark _))
        (pss_cons (ps_set (i := 11) scChanges.nd rfl (.inl rfl) pe_dnewK)
        (pss_cons (ps_lock (ps_for PassesOwn.never rfl (pi_items (pv 9)) (pg_tup rfl (pgs_cons (pg_name (i := 8) scChanges.nd rfl (.inl rfl)) (pgs_cons (pg_name (i := 12) scChanges.nd rfl (.inl rfl)) pgs_nil)))
          (pss_cons (ps_set (i := 13) scChanges.nd rfl (.inl rfl) (pe_ifExp (pt_cmpR op_ne (pv 8) pe_str (nomark _)) (pe_ix ix_str (pv 8) (pe_un un_neg pe_int) (fun _ _ => rfl)) (pe_gs gw)))
          (pss_one (ps_for PassesOwn.never rfl (pi_list (pe_ifExp (pt_cmpR op_ne (pv 6) pe_str (nomark _)) (pe_lst (pa_cons (pe_ix ix_str (pv 6) pe_int (fun _ _ => rfl)) pa_nil)) (pe_lst (pa_cons (pe_gs gw) (pa_cons (pe_gs gb) pa_nil))))) (pg_name (i := 14) scChanges.nd rfl (.inl rfl))
            (pss_cons (ps_set (i := 15) scChanges.nd rfl (.inl rfl) (pe_slice sl_str (pe_op op_add_str (pv 8) (pv 14)) (po_some (pe_un un_neg (pe_gi gW))) po_none))
            (pss_one (ps_if (PW.pt (pw_and (pt_cmpR op_eq (pv 13) (pv 2) (nomark _)) (pw_and1 (pt_cmpR op_ne (pv 14) (pv 2) (nomark _)))))
              (pss_one (ps_expr (pe_bm PySem.F.plainAttrs_list PySem.F.slot_list_append PySem.F.type_list_append mt_append (pv 10) (pa_cons (pe_tup (pa_cons (pv 7) (pa_cons (pv 15) (pa_cons (pe_slice sl_str (pv 6) (po_some pe_int) po_none) (pa_cons (pv 12) pa_nil))))) pa_nil))))
              (pss_one (ps_dput (Room.u1 hr) (pv 11) (pv 15) (pe_op op_add (pe_dget2 (Room.u1 hr) (pv 11) (pv 15) pe_int ⟨rfl, rfl, rfl, rfl⟩) (pv 12)) rfl))))))))))
        (pss_one (ps_par3 (i := 9) (j := 6) (l := 7) rfl scChanges.nd rfl rfl rfl (by decide) (by decide) (by decide) rfl rfl rfl (pa_cons (pv 11) (pa_cons (pe_slice sl_str (pv 6) (po_some pe_int) po_none) (pa_cons (pe_op op_add (pv 7) pe_int) pa_nil))) (by rfl)))))
      )
      (pss_cons (ps_expr (pe_bm PySem.F.plainAttrs_list PySem.F.slot_list_extend PySem.F.type_list_extend mt_extend (pv 10) (pa_cons (pe_lock (pe_lc (own := [("window", 8), ("count", 12)]) (g := gTup K 2 (gCons (gName 8) (gCons (gName 12) gNil))) (tt := tYes) rfl scChanges.nd (pi_items (pv 9)) (blkOk_by (N := nChanges) (sc := defScope sChangesFrom) (by decide +kernel)) (fun _ _ _ _ _ => pg_tup rfl (pgs_cons (pg_name (i := 8) scChanges.nd rfl (.inl rfl)) (pgs_cons (pg_name (i := 12) scChanges.nd rfl (.inl rfl)) pgs_nil))) (fun _ _ _ _ _ => pts_nil) (fun _ _ _ _ _ => pe_tup (pa_cons (pv 0) (pa_cons (pv 8) (pa_cons pe_str (pa_cons (pv 12) pa_nil))))))) pa_nil)))
      (pss_one (ps_ret (pv 10)))))), ?_⟩
    refine ⟨_, rfl, _, rfl, _, rfl, p, t, k, rfl, hk, fun H1 r0 L0 s1 hr0 hL0 => ⟨r0, _, rfl, .of hr0, rfl, _, _, rfl, _, _, rfl, _, _, rfl, rfl, ?_⟩⟩
    obtain ⟨bw, be, bp, bh⟩ := begun_win p t k
    have hres : changes wd p c t k = (chLoop c (wd - (begun p t k).2.2) (begun p t k).2.2 ((begun p t k).1.map (·, 1)) (begun p t k).2.1 []).1 ++ (chLoop c (wd - (begun p t k).2.2) (begun p t k).2.2 ((begun p t k).1.map (·, 1)) (begun p t k).2.1 []).2.map fun x => (wd, x.1, [], x.2) := rfl
    generalize begun p t k = b at bw be bp bh hr0 hL0 hres ⊢
    obtain ⟨ws, rest0, h0⟩ := b
    dsimp only at bw be bp bh hr0 hL0 hres ⊢
    refine ⟨_, rfl, L0, rfl, ⟨_, .of hL0⟩, fun Wy nW => dc_it (walk_list (xs := encL ws)) (fun i H2 => Same H1 H2 ∧ H2 Wy = some (.dK (wK ((ws.take i).map (·, 1))))) ⟨same_new nW, by rw [upd_same]; rfl⟩ (fun i H2 _ hP => .of (hP.1 _ _ hL0)) ?_ ?_⟩
    · rintro i x H2 H3 hi ⟨s2, hW⟩ ⟨rfl, hx⟩
      obtain ⟨l, hl, rfl⟩ : ∃ l, ws[i]? = some l ∧ V.str (enc l) = x := by
        unfold encL at hx
        rw [List.getElem?_map] at hx
        cases e : ws[i]? with
        | none => rw [e] at hx; cases hx
        | some l => rw [e] at hx; exact ⟨l, rfl, Option.some.inj hx⟩
      have hnd : ws.Nodup := by
        have := bw.ok.nd
        rw [List.map_map] at this
        simpa [Function.comp_def] using this
      have hi2 : i < ws.length := (List.getElem?_eq_some_iff.mp hl).1
      have hlen : ws.length ≤ 32 := by
        have := bw.ok.few
        rw [List.length_map] at this
        exact this
      refine ⟨rfl, _, rfl, wK ((ws.take i).map (·, 1)), .inr (enc l), rfl, hW, by rw [wK_len, List.length_map, List.length_take, sizeLine_eq]; omega, ?_, ?_⟩
      · exact same_mut s2 nW
      rw [upd_same]
      have e1 := wK_put ((ws.take i).map (·, 1)) l 1
      refine congrArg (fun z => some (HO.dK z)) (e1.trans (congrArg wK ?_))
      have hn : l ∉ ws.take i := by
        intro hm
        have e2 : ws = ws.take i ++ ws.drop i := (List.take_append_drop i ws).symm
        rw [e2] at hnd
        refine (List.nodup_append.mp hnd).2.2 l hm l ?_ rfl
        rw [List.drop_eq_getElem_cons hi2, (List.getElem?_eq_some_iff.mp hl).2]
        exact List.mem_cons_self
      unfold put
      rw [if_neg ?_, List.take_add_one, hl, List.map_append]
      · rfl
      · intro z
        obtain ⟨q, hq, eq⟩ := List.any_eq_true.mp z
        obtain ⟨l', hl', rfl⟩ := List.mem_map.mp hq
        exact hn (of_decide_eq_true eq ▸ hl')
    · rintro H2 ⟨s2, hW⟩
      rw [show (encL ws).length = ws.length from List.length_map .., List.take_length] at hW
      refine ⟨few rfl, fun F nF => ⟨_, _, rfl, ?_⟩⟩
      have nF0 : H F = none := s1.free (s2.free nF)
      have nW0 : H Wy = none := s1.free nW
      obtain ⟨R, hR⟩ : ∃ R, R = chLoop c (wd - h0) h0 (ws.map (·, 1)) rest0 [] := ⟨_, rfl⟩
      rw [← hR] at hres
      refine ⟨fun m σ H3 => ∃ (h : Nat) (ways : List (Dots × Nat)) (r : Dots) (found : List Chg) (Wy : Addr) (z8 z11 z12 z13 z14 z15 : Option V), m = wd - h ∧ h ≤ wd ∧ p ≤ h ∧ σ = [some (.int wd), some (.int p), some (.str (col c)), some (.bl t), some (.str (enc k)), some (.ref L0), some (.str (enc r)), some (.int h), z8, some (.ref Wy), some (.ref F), z11, z12, z13, z14, z15] ∧
        r = k.drop (h - p) ∧ WinAt h p ways ∧ found.length ≤ 64 * h ∧ Same H H3 ∧ ListAt chgV H3 F found ∧ H Wy = none ∧ H3 Wy = some (.dK (wK ways)) ∧ (∀ x ∈ found, ChgOk wd p k x) ∧ chLoop c (wd - h) h ways r found = R,
        ⟨_, h0, ws.map (·, 1), rest0, [], Wy, none, none, none, none, none, none, rfl, by omega, bp, rfl, be, bw, by simp, (s1.trans s2).trans (same_new nF), ⟨[], upd_same, .nil⟩, nW0, same_new nF _ _ hW, by simp, hR.symm⟩, ?_⟩
      clear hW nW bw be hL0 hr0 s1 s2 nF hR nW0
      rintro m σ H3 ⟨h, ways, r, found, Wy, z8, z11, z12, z13, z14, z15, rfl, hh, hph, rfl, er, wo, hfo, s3, l3, nW, hW, cok, hch⟩
      refine ⟨_, rfl, _, rfl, _, _, rfl, rfl, _, rfl, if2 (fun e => ?_) (fun e => ?_)⟩
      · have e := of_decide_eq_true e
        have hlt : h < wd := by omega
        have en : wd - h = (wd - (h + 1)) + 1 := by omega
        rw [en] at hch
        obtain ⟨RA, hRA⟩ : ∃ RA, RA = ways.foldl (winTurn c h r) (found, []) := ⟨_, rfl⟩
        have hch : chLoop c (wd - (h + 1)) (h + 1) RA.2 r.tail RA.1 = R := by rw [hRA]; exact hch
        refine ⟨fun σ' H' => ∃ (ways : List (Dots × Nat)) (r : Dots) (found : List Chg) (Wy : Addr) (z8 z11 z12 z13 z14 z15 : Option V), σ' = [some (.int wd), some (.int p), some (.str (col c)), some (.bl t), some (.str (enc k)), some (.ref L0), some (.str (enc r)), some (.int ((h + 1 : Nat) : Int)), z8, some (.ref Wy), some (.ref F), z11, z12, z13, z14, z15] ∧
          r = k.drop (h + 1 - p) ∧ WinAt (h + 1) p ways ∧ found.length ≤ 64 * (h + 1) ∧ Same H H' ∧ ListAt chgV H' F found ∧ H Wy = none ∧ H' Wy = some (.dK (wK ways)) ∧ (∀ x ∈ found, ChgOk wd p k x) ∧ chLoop c (wd - (h + 1)) (h + 1) ways r found = R, ?_, ?_⟩
        · rintro σ' H' ⟨ways, r, found, Wy, z8, z11, z12, z13, z14, z15, rfl, h1⟩
          exact ⟨wd - (h + 1), by omega, h + 1, ways, r, found, Wy, z8, z11, z12, z13, z14, z15, rfl, by omega, by omega, rfl, h1⟩
        refine fun G nG => ⟨Wy, .dK (wK ways), same_new nG _ _ hW, trivial, fun od => ?_⟩
        have nG0 : H G = none := s3.free nG
        have hWG : Wy ≠ G := ne_of_none hW nG
        have c0 : CIn H (L2.upd (L2.upd H3 G (.dK [])) Wy (.frz od (.dK (wK ways)))) F G Wy od ways (found, []) := by
          refine ⟨same_mut (same_mut s3 nG0) nW, ?_, ?_, upd_same⟩
          · refine (l3.same (same_new nG)).keep (Tk.dK (same_new nG _ _ hW)) fun o ho => ?_
            obtain ⟨as, ha, _⟩ := l3.same (same_new (o := .dK []) nG)
            rw [upd_ne (two ha (same_new nG _ _ hW) (by nofun))]
            exact ho
          · rw [upd_ne (Ne.symm hWG), upd_same]
            rfl
        refine ⟨_, rfl, Wy, od, wK ways, rfl, upd_same, for_it walk_items (fun i σ H4 => ∃ (acc : Acc) (z8 z12 z13 z14 z15 : Option V), σ = [some (.int wd), some (.int p), some (.str (col c)), some (.bl t), some (.str (enc k)), some (.ref L0), some (.str (enc r)), some (.int h), z8, some (.ref Wy), some (.ref F), some (.ref G), z12, z13, z14, z15] ∧
          CIn H H4 F G Wy od ways acc ∧ AccOk wd p k h acc ∧ acc.1.length ≤ found.length + 2 * i ∧ (ways.drop i).foldl (winTurn c h r) acc = RA)
          ⟨(found, []), z8, z12, z13, z14, z15, rfl, c0, ⟨cok, ⟨by simp, fun _ z => nomatch z⟩, fun _ z => nomatch z⟩, by simp, hRA.symm⟩ (fun i σ H4 _ hP => ?_) ?_ ?_⟩
        · obtain ⟨acc, z8, z12, z13, z14, z15, rfl, c4, _⟩ := hP
          exact c4.wy
        · rintro i x σ H4 H5 hi ⟨acc, z8, z12, z13, z14, z15, rfl, c4, a4, la, hf⟩ ⟨Tp, x1, x2, rfl, nT, rfl, hx1, hx2⟩
          rw [wK_len] at hi
          have hg : ways[i]? = some ways[i] := List.getElem?_eq_getElem hi
          dsimp only at hx1 hx2
          rw [wK_at hg] at hx1 hx2
          have hx1 : V.str (enc ways[i].1) = x1 := Option.some.inj hx1
          have hx2 : V.int ways[i].2 = x2 := Option.some.inj hx2
          subst hx1
          subst hx2
          rw [List.drop_eq_getElem_cons hi, List.foldl_cons] at hf
          have hwl := wo.len _ (List.getElem_mem hi)
          clear hg
          generalize ways[i] = wn at hwl hf nT ⊢
          obtain ⟨win, n⟩ := wn
          dsimp only at hwl hf nT ⊢
          have c5 := c4.new (p := Tp) (o := .tup [.str (enc win), .int n]) nT
          have hr100 : r.length ≤ 100 := by rw [er, List.length_drop]; omega
          have hw4 : win.length ≤ 4 := by omega
          refine ⟨Tp, _, rfl, .of upd_same, rfl, _, _, rfl, _, _, rfl, rfl, ?_⟩
          dsimp only
          refine setE (.str (col (last win))) (fun R' q' => ifE (b := !decide (win = [])) (fun R1 q1 => ⟨_, rfl, rfl, _, rfl, by rw [enc_ne]; exact q1⟩) (fun e1 R1 q1 => ⟨_, rfl, 1, rfl, _, _, _, rfl, rfl, enc_szl (by omega), enc_last (by simpa using e1), q1⟩) (fun e1 R1 q1 => ?_) q') ?_
          · have e2 : win = [] := by simpa using e1
            subst e2
            exact q1
          refine forL ((dotsAt r).map fun d => V.str (col d)) (fun R' q' => ifL (b := !decide (r = [])) (fun R1 q1 => ⟨_, rfl, rfl, _, rfl, by rw [enc_ne]; exact q1⟩) (fun e1 R1 q1 => ?_) (fun e1 R1 q1 => ?_) q') fun p1 np1 => ?_
          · cases r with
            | nil => simp at e1
            | cons d r' => exact ⟨_, rfl, rixsC (k := 0) (b := d) rfl rfl (by omega) ⟨few rfl, q1⟩⟩
          · have e2 : r = [] := by simpa using e1
            subst e2
            exact ⟨few rfl, q1⟩
          have hp1F : p1 ≠ F := fun z => by
            obtain ⟨as, ha, _⟩ := c5.fo
            rw [z, ha] at np1
            cases np1
          refine for_list (xs := (dotsAt r).map fun d => V.str (col d)) (fun j σ H6 => ∃ (acc' : Acc) (z14 z15 : Option V), σ = [some (.int wd), some (.int p), some (.str (col c)), some (.bl t), some (.str (enc k)), some (.ref L0), some (.str (enc r)), some (.int h), some (.str (enc win)), some (.ref Wy), some (.ref F), some (.ref G), some (.int n), some (.str (col (last win))), z14, z15] ∧
            CIn H H6 F G Wy od ways acc' ∧ H6 p1 = some (.lst ((dotsAt r).map fun d => V.str (col d))) ∧ AccOk wd p k h acc' ∧ acc'.1.length ≤ found.length + 2 * i + j ∧ ((dotsAt r).drop j).foldl (dotTurn c h r win n) acc' = winTurn c h r acc (win, n))
            ⟨acc, z14, z15, rfl, c5.new np1, upd_same, a4, by omega, rfl⟩ (fun j σ H6 _ hP => ?_) ?_ ?_
          · obtain ⟨_, _, _, _, _, hp1, _⟩ := hP
            exact .of hp1
          · rintro j x σ H6 hx ⟨acc', z14, z15, rfl, c6, hp1, a6, la6, hf6⟩
            have hj : j < (dotsAt r).length := by
              rw [← List.length_map (f := fun d => V.str (col d)) (as := dotsAt r)]
              exact (List.getElem?_eq_some_iff.mp hx).1
            have hj2 : (dotsAt r).length ≤ 2 := by
              cases r <;> simp [dotsAt]
            rw [List.drop_eq_getElem_cons hj, List.foldl_cons] at hf6
            rw [List.getElem?_map, List.getElem?_eq_getElem hj] at hx
            have hx := Option.some.inj hx
            subst hx
            generalize (dotsAt r)[j] = d at hf6 ⊢
            have a7 := dotTurn_acc (c := c) (n := n) (d := d) a6 hph hlt hwl
            rw [← er] at a7
            have ec : cutS (enc win ++ col d) (some (-4)) none = enc (last4 (win ++ [d])) := by
              rw [show enc win ++ col d = enc (win ++ [d]) from enc_app win [d]]
              exact cut_last4 _
            have hi32 : found.length + 2 * i ≤ 64 * 40 + 64 := by
              have := wo.ok.few
              omega
            refine gset ?_
            dsimp only
            refine setE (.str (enc (last4 (win ++ [d])))) (fun R' q' => ⟨_, rfl, _, rfl, _, _, rfl, rfl, ?_, 4, rfl, -4, rfl, _, rfl, ?_, by rw [ec]; exact q'⟩) ?_
            · rw [enc_len, sizeLine_eq]
              show win.length + (enc [d]).length ≤ _
              rw [enc_len]
              show win.length + 1 ≤ _
              omega
            · rw [show enc win ++ col d = enc (win ++ [d]) from enc_app win [d]]
              exact enc_szl (by rw [List.length_append]; show win.length + 1 ≤ _; omega)
            refine ifS_pure (b := (last win == c) && !(d == c)) (fun R' q' => and_pure (fun R1 q1 => ⟨_, rfl, _, rfl, rfl, _, rfl, by rw [col_dec]; exact q1⟩) (fun _ R1 q1 => ⟨_, rfl, _, rfl, rfl, _, rfl, by rw [col_dec]; exact q1⟩) q') (if2 (fun e1 => ?_) (fun e1 => ?_))
            · have e2 : last win = c ∧ d ≠ c := by simpa using e1
              have ed : dotTurn c h r win n acc' d = (acc'.1 ++ [(h, last4 (win ++ [d]), r.tail, n)], acc'.2) := if_pos e2
              rw [ed] at a7 hf6
              obtain ⟨as, ha, hl, _⟩ := c6.fo.raw
              refine ⟨_, rfl, .inl ⟨rfl, _, .of ha⟩, _, rfl, _, rfl, _, rfl, _, rfl, _, rfl, enc_szl (by omega), ?_⟩
              rw [cut_1, List.drop_one]
              refine ⟨_, rfl, few rfl, fun b nb => ⟨F, _, _, rfl, rfl, same_new nb _ _ ha, by rw [List.length_map, hl, sizeLine_eq]; omega, ?_⟩⟩
              refine ⟨_, _, _, rfl, c6.app (x := (h, last4 (win ++ [d]), r.tail, n)) nF0 nb ha, ?_, a7, ?_, hf6⟩
              · rw [upd_ne hp1F]
                exact same_new nb _ _ hp1
              · show (acc'.1 ++ [_]).length ≤ _
                rw [List.length_append]
                show acc'.1.length + 1 ≤ _
                omega
            · have e2 : ¬ (last win = c ∧ d ≠ c) := by
                intro z
                simp [z] at e1
              have ed : dotTurn c h r win n acc' d = (acc'.1, add acc'.2 (last4 (win ++ [d])) n) := if_neg e2
              rw [ed] at a7 hf6
              refine ⟨_, rfl, G, rfl, .inl ⟨_, .inl c6.fr⟩, _, rfl, _, .inl ⟨_, .inr (enc (last4 (win ++ [d]))), .inl c6.fr, rfl, rfl⟩, ?_⟩
              rw [wK_val]
              refine ⟨_, rfl, _, _, rfl, rfl, _, rfl, _, rfl, G, _, rfl, DPut.k (k := .inr (enc (last4 (win ++ [d])))) c6.fr (by rw [wK_len, sizeLine_eq]; have := a6.fr.ok.few; omega), ?_⟩
              refine ⟨_, _, _, rfl, c6.put nG0, ?_, a7, by show acc'.1.length ≤ _; omega, hf6⟩
              rw [upd_ne (two hp1 c6.fr (by nofun))]
              exact hp1
          · rintro σ H6 ⟨acc', z14, z15, rfl, c6, hp1, a6, la6, hf6⟩
            have hj2 : (dotsAt r).length ≤ 2 := by
              cases r <;> simp [dotsAt]
            rw [List.length_map] at la6
            rw [List.length_map, List.drop_length] at hf6
            have hf6 : acc' = winTurn c h r acc (win, n) := hf6
            rw [← hf6] at hf
            exact ⟨acc', _, _, _, _, _, rfl, c6, a6, by omega, hf⟩
        · rintro σ H4 ⟨acc, z8, z12, z13, z14, z15, rfl, c4, a4, la, hf⟩
          rw [wK_len, List.drop_length] at hf
          have hf : acc = RA := hf
          subst hf
          obtain ⟨as, ha, _⟩ := c4.fo
          refine ⟨c4.wy, ?_⟩
          have c4W : Tk H4 (L2.upd H4 Wy (.dK (wK ways))) := Tk.upd fun xs z => by
            have := c4.wy
            rw [z] at this
            cases this
          have hGW : G ≠ Wy := Ne.symm hWG
          refine ⟨_, rfl, _, rfl, _, rfl, _, rfl, enc_szl (l := r) (by rw [er, List.length_drop]; omega), ?_⟩
          rw [cut_1, List.drop_one]
          refine ⟨_, rfl, _, _, rfl, rfl, _, _, _, rfl, ?_⟩
          have er2 : r.tail = k.drop (h + 1 - p) := by
            rw [er, List.tail_drop]
            congr 1
            omega
          refine ⟨acc.2, r.tail, acc.1, G, _, _, _, _, _, _, rfl, er2, a4.fr, ?_, same_mut c4.sm nW, c4.fo.keep c4W ?_, nG0, ?_, a4.fo, ?_⟩
          · have := wo.ok.few
            rw [wK_len] at la
            omega
          · intro o ho
            rw [upd_ne (two ha c4.wy (by nofun))]
            exact ho
          · rw [upd_ne hGW]
            exact c4.fr
          · exact hch
      · have e := of_decide_eq_false e
        have hlt : h = wd := by omega
        subst hlt
        rw [Nat.sub_self] at hch
        have hch : (found, ways) = R := hch
        rw [← hch] at hres
        obtain ⟨as, ha, hl, _⟩ := l3.raw
        refine ⟨_, rfl, .inl ⟨rfl, _, .of ha⟩, ?_⟩
        have hFW : F ≠ Wy := two ha hW (by nofun)
        refine ⟨Wy, .dK (wK ways), hW, trivial, fun od => ?_⟩
        refine ⟨_, rfl, Wy, od, wK ways, rfl, upd_same, fun L1 nL1 => ?_⟩
        have nL3 : H3 L1 = none := by
          have hne : L1 ≠ Wy := fun z => by
            rw [z, upd_same] at nL1
            cases nL1
          rw [upd_ne hne] at nL1
          exact nL1
        refine lc_it walk_items (fun i H4 => Same H H4 ∧ H4 F = some (.lst (as.map V.ref)) ∧ ListAt chgV H4 F found ∧ H4 Wy = some (.frz od (.dK (wK ways))) ∧ H L1 = none ∧ L1 ≠ F ∧ L1 ≠ Wy ∧ ListAt chgV H4 L1 ((ways.take i).map fun x => (h, x.1, [], x.2))) ?_ ?_ ?_ ?_
        · have s5 : Same (L2.upd H3 Wy (.frz od (.dK (wK ways)))) (L2.upd (L2.upd H3 Wy (.frz od (.dK (wK ways)))) L1 (.lst [])) := same_new nL1
          have l5 : ListAt chgV (L2.upd H3 Wy (.frz od (.dK (wK ways)))) F found := l3.keep (Tk.dK hW) fun o ho => by
            rw [upd_ne hFW]
            exact ho
          refine ⟨same_mut (same_mut s3 nW) (s3.free nL3), s5 _ _ (by rw [upd_ne hFW]; exact ha), l5.same s5, s5 _ _ upd_same, s3.free nL3, ?_, ?_, ⟨[], upd_same, .nil⟩⟩
          · intro z
            rw [z, ha] at nL3
            cases nL3
          · intro z
            rw [z, hW] at nL3
            cases nL3
        · rintro i H4 _ ⟨_, _, _, h1, _⟩
          exact h1
        · rintro i x H4 H5 hi ⟨s4, ha4, l4, hW4, nL, hLF, hLW, l6⟩ ⟨Tp, x1, x2, rfl, nT, rfl, hx1, hx2⟩
          rw [wK_len] at hi
          have hg : ways[i]? = some ways[i] := List.getElem?_eq_getElem hi
          dsimp only at hx1 hx2
          rw [wK_at hg] at hx1 hx2
          have hx1 : V.str (enc ways[i].1) = x1 := Option.some.inj hx1
          have hx2 : V.int ways[i].2 = x2 := Option.some.inj hx2
          subst hx1
          subst hx2
          have s5 : Same H4 (L2.upd H4 Tp (.tup [.str (enc ways[i].1), .int ways[i].2])) := same_new nT
          refine ⟨Tp, _, rfl, .of upd_same, rfl, _, _, rfl, _, _, rfl, rfl, rfl, ?_⟩
          refine ⟨_, rfl, _, rfl, _, rfl, few rfl, fun b nb => ?_⟩
          have e6 : HO.tup [V.int (h : Nat), V.str (enc ways[i].1), V.str "", V.int ways[i].2] = .tup (chgV (h, ways[i].1, [], ways[i].2)) := by
            show _ = HO.tup [V.int (h : Nat), V.str (enc ways[i].1), V.str (enc []), V.int ways[i].2]
            rw [enc_nil]
          have l7 := l6.same s5
          obtain ⟨bs, hbs, hbl, _⟩ := l7.raw
          have s6 : Same (L2.upd H4 Tp (.tup [.str (enc ways[i].1), .int ways[i].2])) (L2.upd (L2.upd H4 Tp (.tup [.str (enc ways[i].1), .int ways[i].2])) b (.tup (chgV (h, ways[i].1, [], ways[i].2)))) := same_new nb
          have h32 := wo.ok.few
          have l9 := l7.push (x := (h, ways[i].1, [], ways[i].2)) nb hbs
          have k9 : Tk (L2.upd H4 Tp (.tup [.str (enc ways[i].1), .int ways[i].2])) (L2.upd (L2.upd (L2.upd H4 Tp (.tup [.str (enc ways[i].1), .int ways[i].2])) b (.tup (chgV (h, ways[i].1, [], ways[i].2)))) L1 (.lst (bs.map V.ref ++ [.ref b]))) := (Same.tk s6).trans (Tk.lst (s6 _ _ hbs))
          rw [← e6] at s6 l9 k9
          refine ⟨_, s6 _ _ hbs, by rw [List.length_map, hbl, List.length_map, List.length_take, sizeLine_eq]; omega, ?_⟩
          refine ⟨same_mut (same_mut (same_mut s4 (s4.free nT)) (s4.free (same_new nT |>.free nb))) nL, ?_, ?_, ?_, nL, hLF, hLW, ?_⟩
          · rw [upd_ne (Ne.symm hLF)]
            exact s6 _ _ (s5 _ _ ha4)
          · refine (l4.same s5).keep k9 fun o ho => ?_
            rw [upd_ne (Ne.symm hLF)]
            exact s6 _ _ ho
          · rw [upd_ne (Ne.symm hLW)]
            exact s6 _ _ (s5 _ _ hW4)
          · have e7 : (ways.take (i + 1)).map (fun x => ((h, x.1, [], x.2) : Chg)) = (ways.take i).map (fun x => ((h, x.1, [], x.2) : Chg)) ++ [(h, ways[i].1, [], ways[i].2)] := by
              rw [List.take_add_one, hg, List.map_append]
              rfl
            rw [e7]
            exact l9
        · rintro H4 ⟨s4, ha4, l4, hW4, nL, hLF, hLW, l6⟩
          rw [wK_len, List.take_length] at l6
          have k9 : Tk H4 (L2.upd H4 Wy (.dK (wK ways))) := Tk.upd fun xs z => by
            rw [hW4] at z
            cases z
          obtain ⟨bs, hbs, hbl, _⟩ := l6.raw
          obtain ⟨bs', hbs', qb⟩ := l6
          have eb : bs' = bs := by
            rw [hbs] at hbs'
            injection hbs' with e
            injection e with e
            exact (List.map_inj_right (fun _ _ z => V.ref.inj z)).mp e.symm
          subst eb
          obtain ⟨as', ha', qa⟩ := l4
          have ea : as' = as := by
            rw [ha4] at ha'
            injection ha' with e
            injection e with e
            exact (List.map_inj_right (fun _ _ z => V.ref.inj z)).mp e.symm
          subst ea
          have hF5 : (L2.upd H4 Wy (.dK (wK ways))) F = some (.lst (as'.map V.ref)) := by
            rw [upd_ne hFW]
            exact ha4
          have h32 := wo.ok.few
          refine ⟨hW4, F, L1, _, _, rfl, rfl, hF5, by rw [upd_ne hLW]; exact hbs, by rw [List.length_map, List.length_map, hl, hbl, List.length_map, sizeLine_eq]; omega, ?_⟩
          refine ⟨_, rfl, q _ F (same_mut (same_mut s4 nW) nF0) nF0 ⟨as' ++ bs', ?_, ?_⟩⟩
          · rw [upd_same, List.map_append]
          · have k10 : Tk H4 (L2.upd (L2.upd H4 Wy (.dK (wK ways))) F (.lst (as'.map V.ref ++ bs'.map V.ref))) := k9.trans (Tk.lst hF5)
            rw [hres]
            exact pairedApp (qa.tk k10) (qb.tk k10)
end
end K77
set_option Elab.async false
set_option linter.all false
set_option maxRecDepth 100000
set_option maxHeartbeats 4000000
/-! K77W8: stays_from. -/
namespace K77
open PySem PySem.Spec PyProof.Rows L2
section
variable {P : Program} {w : World} {K : PySem.W.Frag} {mg : Str → Option Value} {base : Heap}
/-- a list that is walked, and one that is made -/
structure LIn {α β : Type} (f : α → List V) (g : β → List V) (H H2 : Hp) (F L : Addr) (as : List Addr) (xs : List α) (fo : List β) : Prop where
  sm : Same H H2
  src : H2 L = some (.lst (as.map V.ref))
  tups : TupsAt f H2 as xs
  fo : ListAt g H2 F fo
section
variable {α β : Type} {f : α → List V} {g : β → List V} {H H2 H3 : Hp} {F L p : Addr} {as : List Addr} {xs : List α} {fo : List β}
theorem LIn.same (h : LIn f g H H2 F L as xs fo) (s : Same H2 H3) : LIn f g H H3 F L as xs fo := ⟨h.sm.trans s, s _ _ h.src, h.tups.tk (Same.tk s), h.fo.same s⟩
theorem LIn.app {x : β} {ys : List V} (h : LIn f g H H2 F L as xs fo) (nF : H F = none) (ne : L ≠ F) (np : H2 p = none) (hy : H2 F = some (.lst ys)) : LIn f g H (L2.upd (L2.upd H2 p (.tup (g x))) F (.lst (ys ++ [.ref p]))) F L as xs (fo ++ [x]) := by
  have s1 : Same H2 (L2.upd H2 p (.tup (g x))) := same_new np
  refine ⟨same_mut (h.sm.trans s1) nF, ?_, h.tups.tk ((Same.tk s1).trans (Tk.lst (s1 _ _ hy))), h.fo.push np hy⟩
  rw [upd_ne ne]
  exact s1 _ _ h.src
end
def endV (x : Nat × Dots × Nat) : List V := [.int x.1, .str (enc x.2.1), .int x.2.2]
def spStays : Sp := fun vs H Q _ => ∃ (wd : Nat) (s : S) (a : Addr) (d : Int), vs = [.int wd, .ref a, .int d] ∧ H a = some (.tup (skV s)) ∧ wd ≤ 40 ∧ SOk wd s ∧ -3 ≤ d ∧ d ≤ 3 ∧
  ∀ H' L, Same H H' → H L = none → ListAt endV H' L ((changes wd s.pl s.co s.to s.kn).flatMap (stayOf wd s.pl s.to d)) → Q (.ref L) H'
abbrev nStays : List Str := ["width", "state", "more", "place", "colour", "is_told", "known", "found", "change", "window", "rest", "count", "end", "read", "behind", "many"]
theorem scStays : FnScope nStays ["width", "state", "more"] (defScope sStaysFrom) := ⟨rfl, rfl, rfl, by decide +kernel, rfl, by decide +kernel, by decide +kernel⟩
theorem ok_stays_from (T : Tx K mg) (D : Stands K mg "stays_from" sStaysFrom) (hc : Has P w K mg base "changes_from" ["width", "place", "colour", "is_told", "known"] 2 spChanges) (hs : Has P w K mg base "skipped" ["width", "place", "known", "end"] 1 spSkipped) :
    Has P w K mg base "stays_from" ["width", "state", "more"] 3 spStays := by
  refine has_of D scStays (fun _ _ _ _ _ _ us hl => match us, hl with | [_, _, _], _ => rfl) (fun vs H Q E h => ?_) (fun f cdv A outer s H vs Q E hr h => ?_)
  · obtain ⟨wd, st, a, d, rfl, _⟩ := h
    rfl
  · obtain ⟨wd, st, a, d, rfl, ha, hw, so, d1, d2, q⟩ := h
    refine ⟨_, pss_cons (ps_asg (pv 1) (pg_tup rfl (pgs_cons (pg_name (i := 3) scStays.nd rfl (.inl rfl)) (pgs_cons (pg_name (i := 4) scStays.nd rfl (.inl rfl)) (pgs_cons (pg_name (i := 5) scStays.nd rfl (.inl rfl)) (pgs_cons (pg_name (i := 6) scStays.nd rfl (.inl rfl)) pgs_nil))))))
      (pss_cons (ps_set (i := 7) scStays.nd rfl (.inl rfl) (pe_lst pa_nil))
      (pss_cons (ps_for PassesOwn.never rfl (pi_list (pe_do hc hr (pa_cons (pv 0) (pa_cons (pv 3) (pa_cons (pv 4) (pa_cons (pv 5) (pa_cons (pv 6) pa_nil))))))) (pg_tup rfl (pgs_cons (pg_name (i := 8) scStays.nd rfl (.inl rfl)) (pgs_cons (pg_name (i := 9) scStays.nd rfl (.inl rfl)) (pgs_cons (pg_name (i := 10) scStays.nd rfl (.inl rfl)) (pgs_cons (pg_name (i := 11) scStays.nd rfl (.inl rfl)) pgs_nil)))))
        (pss_cons (ps_set (i := 12) scStays.nd rfl (.inl rfl) (pe_op op_add (pv 8) (pv 2)))
        (pss_one (ps_if (PW.pt (pw_and (pt_chain op_le op_le pe_int (pv 12) (pv 0)) (pw_and1 (PW.pt (pw_or (pt_cmpR op_gt (pv 12) (pv 3) (nomark _)) (pw_or1 (pt_not (pt_val (pv 5)))))))))
          (pss_cons (ps_set (i := 13) scStays.nd rfl (.inl rfl) (pe_op op_sub (pe_callB (call_min2 rfl) (by rfl) T.min_ (by decide +kernel) (pa_cons (pe_op op_add (pv 8) pe_int) (pa_cons (pv 0) pa_nil))) (pv 12)))
          (pss_one (ps_if (pt_cmpR op_ge (pv 13) pe_int (nomark _))
            (pss_one (ps_expr (pe_bm PySem.F.plainAttrs_list PySem.F.slot_list_append PySem.F.type_list_append mt_append (pv 7) (pa_cons (pe_tup (pa_cons (pv 12) (pa_cons (pe_op op_add_str (pe_slice sl_str (pv 9) (po_some (pe_op op_sub (pe_callB call_len_str (by rfl) T.len_ PySem.boot_len (pa_cons (pv 9) pa_nil)) (pv 13))) po_none) (pv 10)) (pa_cons (pv 11) pa_nil)))) pa_nil))))
            (pss_cons (ps_asg (pe_do hs (hr.mono (by decide)) (pa_cons (pv 0) (pa_cons (pe_op op_add (pv 8) pe_int) (pa_cons (pv 10) (pa_cons (pv 12) pa_nil))))) (pg_tup rfl (pgs_cons (pg_name (i := 14) scStays.nd rfl (.inl rfl)) (pgs_cons (pg_name (i := 15) scStays.nd rfl (.inl rfl)) pgs_nil))))
            (pss_one (ps_expr (pe_bm PySem.F.plainAttrs_list PySem.F.slot_list_append PySem.F.type_list_append mt_append (pv 7) (pa_cons (pe_tup (pa_cons (pv 12) (pa_cons (pv 14) (pa_cons (pe_op op_mul (pv 11) (pv 15)) pa_nil)))) pa_nil))))))))
          pss_nil))))
      (pss_one (ps_ret (pv 7))))), ?_⟩
    refine ⟨_, rfl, a, _, rfl, .of ha, rfl, _, _, rfl, _, _, rfl, _, _, rfl, _, _, rfl, rfl, ?_⟩
    refine ⟨few rfl, fun F nF => ?_⟩
    have s1 : Same H (L2.upd H F (.lst [])) := same_new nF
    refine ⟨_, rfl, _, rfl, _, rfl, _, rfl, _, rfl, wd, st.pl, st.co, st.to, st.kn, rfl, hw, so.lt, by have := so.kn; omega, fun H1 L s2 nL hL => ?_⟩
    have cok := changes_ok (w := wd) (p := st.pl) (c := st.co) (t := st.to) (k := st.kn) so.lt
    have clen := changes_len wd st.pl st.co st.to st.kn
    generalize changes wd st.pl st.co st.to st.kn = chs at cok clen hL q
    obtain ⟨as, hLa, tp⟩ := hL
    have hal : as.length = chs.length := Paired.length tp
    have hLF : L ≠ F := fun z => by
      rw [z, upd_same] at nL
      cases nL
    refine ⟨L, rfl, ⟨_, .of hLa⟩, for_list (xs := as.map V.ref) (fun i σ H2 => ∃ (fo : List (Nat × Dots × Nat)) (z8 z9 z10 z11 z12 z13 z14 z15 : Option V), σ = [some (.int wd), some (.ref a), some (.int d), some (.int st.pl), some (.str (col st.co)), some (.bl st.to), some (.str (enc st.kn)), some (.ref F), z8, z9, z10, z11, z12, z13, z14, z15] ∧
      LIn chgV endV H H2 F L as chs fo ∧ fo.length ≤ i ∧ fo = (chs.take i).flatMap (stayOf wd st.pl st.to d)) ⟨[], none, none, none, none, none, none, none, none, rfl, ⟨s1.trans s2, hLa, tp, ⟨[], s2 _ _ upd_same, .nil⟩⟩, Nat.le_refl _, rfl⟩ (fun i σ H2 _ hP => ?_) ?_ ?_⟩
    · obtain ⟨_, _, _, _, _, _, _, _, _, _, h1, _⟩ := hP
      exact .of h1.src
    · rintro i v σ H2 hv ⟨fo, z8, z9, z10, z11, z12, z13, z14, z15, rfl, li, hfl, hfo⟩
      have hi : i < chs.length := by
        rw [← hal, ← List.length_map (f := V.ref) (as := as)]
        exact (List.getElem?_eq_some_iff.mp hv).1
      have hg : chs[i]? = some chs[i] := List.getElem?_eq_getElem hi
      obtain ⟨b, hb, hbx⟩ := li.tups.get hg
      have ev : v = .ref b := by
        rw [List.getElem?_map, hb] at hv
        exact (Option.some.inj hv).symm
      subst ev
      have hx := cok _ (List.getElem_mem hi)
      have hnext : (chs.take (i + 1)).flatMap (stayOf wd st.pl st.to d) = fo ++ stayOf wd st.pl st.to d chs[i] := by
        rw [List.take_add_one, hg, List.flatMap_append, hfo]
        show _ ++ (stayOf _ _ _ _ _ ++ []) = _
        rw [List.append_nil]
      generalize chs[i] = x at hbx hx hnext
      obtain ⟨ch, win, rest, cnt⟩ := x
      obtain ⟨x1, x2, x3, x4⟩ := hx
      dsimp only at x1 x2 x3 x4
      refine ⟨b, _, rfl, .of hbx, rfl, _, _, rfl, _, _, rfl, _, _, rfl, _, _, rfl, rfl, ?_⟩
      dsimp only
      obtain ⟨e, he⟩ : ∃ e : Int, e = (ch : Int) + d := ⟨_, rfl⟩
      refine setE (.int e) (fun R' q' => ⟨_, rfl, _, rfl, _, _, rfl, rfl, by rw [he] at q'; exact q'⟩) ?_
      refine ifS_pure (b := decide (0 ≤ e ∧ e ≤ wd) && (decide (e > st.pl) || !st.to)) (fun R' q' => and_pure (fun R1 q1 => ?_) (fun _ R1 q1 => or_pure (fun R2 q2 => ⟨_, rfl, _, rfl, _, _, rfl, rfl, _, rfl, q2⟩) (fun _ R2 q2 => ⟨_, rfl, _, rfl, q2⟩) q1) q') (if2 (fun e1 => ?_) (fun e1 => ?_))
      · refine ⟨_, rfl, _, _, rfl, rfl, _, rfl, if2 (fun e2 => ⟨_, rfl, _, _, rfl, rfl, _, rfl, ?_⟩) (fun e2 => ⟨_, rfl, ?_⟩)⟩
        · have e2 := of_decide_eq_true e2
          have e3 : decide (0 ≤ e ∧ e ≤ (wd : Int)) = decide (e ≤ (wd : Int)) := decide_eq_decide.mpr ⟨fun z => z.2, fun z => ⟨e2, z⟩⟩
          rw [e3] at q1
          exact q1
        · have e2 := of_decide_eq_false e2
          have e3 : decide (0 ≤ e ∧ e ≤ (wd : Int)) = false := decide_eq_false fun z => e2 z.1
          rw [e3] at q1
          exact q1
      · have e2 : (0 ≤ e ∧ e ≤ (wd : Int)) ∧ (e > st.pl ∨ st.to = false) := by simpa using e1
        obtain ⟨⟨e3, e4⟩, e5⟩ := e2
        obtain ⟨en, hen⟩ : ∃ en : Nat, e = (en : Int) := ⟨e.toNat, by omega⟩
        have hso : stayOf wd st.pl st.to d (ch, win, rest, cnt) = if en ≤ min (ch + 1) wd then [(en, win.drop (win.length - (min (ch + 1) wd - en)) ++ rest, cnt)] else [(en, (skipped wd (ch + 1) rest en).1, cnt * (skipped wd (ch + 1) rest en).2)] := by
          unfold stayOf
          dsimp only
          rw [← he, if_pos ⟨e3, e4, e5⟩, hen, Int.toNat_natCast]
        have hge : st.pl ≤ en := by
          rcases e5 with z | z
          · omega
          · have := so.to z
            omega
        have hrest : rest.length ≤ 4 := by
          have := so.kn
          rcases x4 with z | ⟨_, z⟩
          · rw [z]
            exact Nat.zero_le _
          · rw [z, List.length_drop]
            omega
        refine setE (.int (((min (ch + 1) wd : Nat) : Int) - e)) (fun R' q' => ⟨_, rfl, _, _, rfl, rfl, _, rfl, _, _, rfl, _, rfl, _, _, rfl, rfl, ?_⟩) ?_
        · have e6 : (if (wd : Int) < (ch : Int) + 1 then (wd : Int) else (ch : Int) + 1) = ((min (ch + 1) wd : Nat) : Int) := by
            split <;> omega
          rw [← e6] at q'
          exact q'
        refine ⟨_, rfl, _, _, rfl, rfl, _, rfl, if2 (fun e7 => ?_) (fun e7 => ?_)⟩
        · have e7 := of_decide_eq_true e7
          rw [if_pos (by omega)] at hso
          rw [hso] at hnext
          obtain ⟨ys, hy, hyl, _⟩ := li.fo.raw
          refine ⟨_, rfl, .inl ⟨rfl, _, .of hy⟩, _, rfl, ?_⟩
          refine ⟨_, rfl, _, rfl, _, rfl, enc_szl (l := win) (by omega), _, rfl, _, _, rfl, rfl, _, rfl, _, rfl, enc_szl (l := win) (by omega), ?_⟩
          rw [cut_from (l := win) (k := win.length - (min (ch + 1) wd - en)) (by rw [enc_len]; omega)]
          refine ⟨_, rfl, _, _, rfl, rfl, by rw [enc_len, enc_len, List.length_drop, sizeLine_eq]; omega, ?_⟩
          rw [enc_app]
          refine ⟨_, rfl, few rfl, fun b2 nb => ⟨F, _, _, rfl, rfl, same_new nb _ _ hy, by rw [List.length_map, hyl, sizeLine_eq]; omega, ?_⟩⟩
          have l2 := li.app (x := (en, win.drop (win.length - (min (ch + 1) wd - en)) ++ rest, cnt)) nF hLF nb hy
          subst hen
          exact ⟨_, _, _, _, _, _, _, _, _, rfl, l2, by rw [List.length_append]; show fo.length + 1 ≤ _; omega, hnext.symm⟩
        · have e7 := of_decide_eq_false e7
          rw [if_neg (by omega)] at hso
          rw [hso] at hnext
          have hsk := skipped_le wd (ch + 1) rest en
          have h40 : 2 ^ wd ≤ 2 ^ 40 := Nat.pow_le_pow_right (by decide) hw
          have h64 : (2 : Nat) ^ 40 < 2 ^ 64 := by decide
          subst hen
          refine ⟨_, rfl, _, rfl, _, _, rfl, rfl, _, rfl, _, rfl, wd, ch + 1, rest, en, rfl, hw, by omega, by omega, by omega, by omega, fun H3 r s3 hr3 => ?_⟩
          have li3 := li.same s3
          obtain ⟨ys, hy, hyl, _⟩ := li3.fo.raw
          refine ⟨r, _, rfl, .of hr3, rfl, _, _, rfl, _, _, rfl, rfl, ?_⟩
          refine ⟨_, rfl, .inl ⟨rfl, _, .of hy⟩, _, rfl, _, rfl, _, rfl, _, rfl, _, _, rfl, rfl, .inr ⟨by omega, by omega⟩, few rfl, fun b2 nb => ⟨F, _, _, rfl, rfl, same_new nb _ _ hy, by rw [List.length_map, hyl, sizeLine_eq]; omega, ?_⟩⟩
          have l2 := li3.app (x := (en, (skipped wd (ch + 1) rest en).1, cnt * (skipped wd (ch + 1) rest en).2)) nF hLF nb hy
          exact ⟨_, _, _, _, _, _, _, _, _, rfl, l2, by rw [List.length_append]; show fo.length + 1 ≤ _; omega, hnext.symm⟩
      · have e2 : ¬ (0 ≤ e ∧ e ≤ (wd : Int) ∧ (e > st.pl ∨ st.to = false)) := by
          rintro ⟨z1, z2, z3⟩
          have h1 : decide (0 ≤ e ∧ e ≤ (wd : Int)) = true := decide_eq_true ⟨z1, z2⟩
          rw [h1] at e1
          rcases z3 with z | z
          · rw [decide_eq_true z] at e1
            simp at e1
          · rw [z] at e1
            simp at e1
        have hso : stayOf wd st.pl st.to d (ch, win, rest, cnt) = [] := by
          unfold stayOf
          dsimp only
          rw [← he, if_neg e2]
        rw [hso, List.append_nil] at hnext
        exact ⟨_, _, _, _, _, _, _, _, _, rfl, li, by omega, hnext.symm⟩
    · rintro σ H2 ⟨fo, z8, z9, z10, z11, z12, z13, z14, z15, rfl, li, hfl, hfo⟩
      rw [List.length_map, hal, List.take_length] at hfo
      rw [← hfo] at q
      exact ⟨_, rfl, q _ F li.sm nF li.fo⟩
end
end K77
set_option Elab.async false
set_option linter.all false
set_option maxRecDepth 100000
set_option maxHeartbeats 4000000
/-! K77W9: ends_from. -/
namespace K77
open PySem PySem.Spec PyProof.Rows L2
section
variable {α β : Type} {f : α → List V} {g : β → List V} {H H2 H3 : Hp} {F L p D : Addr} {as : List Addr} {xs : List α} {fo : List β}
theorem LIn.other {o : HO} {ys zs : List V} (h : LIn f g H H2 F L as xs fo) (nD : H D = none) (np : H2 p = none) (hy : H2 D = some (.lst ys)) (hDF : D ≠ F) (hDL : D ≠ L) : LIn f g H (L2.upd (L2.upd H2 p o) D (.lst zs)) F L as xs fo := by
  have s1 : Same H2 (L2.upd H2 p o) := same_new np
  have k : Tk H2 (L2.upd (L2.upd H2 p o) D (.lst zs)) := (Same.tk s1).trans (Tk.lst (s1 _ _ hy))
  refine ⟨same_mut (h.sm.trans s1) nD, ?_, h.tups.tk k, h.fo.keep k fun o ho => ?_⟩
  · rw [upd_ne (Ne.symm hDL)]
    exact s1 _ _ h.src
  · rw [upd_ne (Ne.symm hDF)]
    exact s1 _ _ ho
theorem ListAt.ext {l b : Addr} {zs : List β} {us vs : List V} (h : ListAt g H2 l fo) (h2 : ListAt g H2 b zs) (hl : H2 l = some (.lst us)) (hb : H2 b = some (.lst vs)) : ListAt g (L2.upd H2 l (.lst (us ++ vs))) l (fo ++ zs) := by
  obtain ⟨as, ha, p⟩ := h
  obtain ⟨bs, hb2, q⟩ := h2
  rw [hl] at ha
  rw [hb] at hb2
  injection ha with ha
  injection ha with ha
  injection hb2 with hb2
  injection hb2 with hb2
  subst ha
  subst hb2
  refine ⟨as ++ bs, ?_, pairedApp (p.tk (Tk.lst hl)) (q.tk (Tk.lst hl))⟩
  rw [upd_same, List.map_append]
end
section
variable {P : Program} {w : World} {K : PySem.W.Frag} {mg : Str → Option Value} {base : Heap}
def spEnds : Sp := fun vs H Q _ => ∃ (wd : Nat) (s : S) (a b : Addr) (m : Mode), vs = [.int wd, .ref a, .ref b] ∧ H a = some (.tup (skV s)) ∧ ModeAt H b m ∧ MOk m ∧ wd ≤ 40 ∧ SOk wd s ∧
  ∀ H' L, Same H H' → H L = none → ListAt endV H' L (endsOf wd s m) → Q (.ref L) H'
abbrev nEnds : List Str := ["width", "state", "mode", "place", "colour", "is_told", "known", "middle", "end", "behind", "many", "found", "change", "window", "rest", "count"]
theorem scEnds : FnScope nEnds ["width", "state", "mode"] (defScope sEndsFrom) := ⟨rfl, rfl, rfl, by decide +kernel, rfl, by decide +kernel, by decide +kernel⟩
theorem ok_ends_from (T : Tx K mg) (D : Stands K mg "ends_from" sEndsFrom) (hc : Has P w K mg base "changes_from" ["width", "place", "colour", "is_told", "known"] 2 spChanges) (hs : Has P w K mg base "skipped" ["width", "place", "known", "end"] 1 spSkipped)
    (hst : Has P w K mg base "stays_from" ["width", "state", "more"] 3 spStays) (hbk : Has P w K mg base "backs_from" ["width", "change", "colour", "rest"] 1 spBacks) : Has P w K mg base "ends_from" ["width", "state", "mode"] 4 spEnds := by
  obtain ⟨tr, gr⟩ := T.RUNS
  obtain ⟨tp, gp⟩ := T.PASS
  refine has_of D scEnds (fun _ _ _ _ _ _ us hl => match us, hl with | [_, _, _], _ => rfl) (fun vs H Q E h => ?_) (fun f cdv A outer s H vs Q E hr h => ?_)
  · obtain ⟨wd, st, a, b, m, rfl, _⟩ := h
    rfl
  · obtain ⟨wd, st, a, b, m, rfl, ha, hm, mok, hw, so, q⟩ := h
    refine ⟨_, pss_cons (ps_asg (pv 1) (pg_tup rfl (pgs_cons (pg_name (i := 3) scEnds.nd rfl (.inl rfl)) (pgs_cons (pg_name (i := 4) scEnds.nd rfl (.inl rfl)) (pgs_cons (pg_name (i := 5) scEnds.nd rfl (.inl rfl)) (pgs_cons (pg_name (i := 6) scEnds.nd rfl (.inl rfl)) pgs_nil))))))
      (pss_cons (ps_if (pt_cmpR op_eq (ixT (pv 2) pe_int) (pe_gs gr) (nomark _))
        (pss_cons (ps_set (i := 7) scEnds.nd rfl (.inl rfl) (pe_op op_add (pv 3) (ixT (pv 2) pe_int)))
        (pss_cons (ps_set (i := 8) scEnds.nd rfl (.inl rfl) (pe_op op_add (pv 7) (ixT (pv 2) pe_int)))
        (pss_cons (ps_if (PW.pt (pw_or (pt_cmpR op_gt (pv 8) (pv 0) (nomark _)) (pw_or (PW.pt (pw_and (pt_cmpR op_eq (ixT (pv 2) pe_int) pe_int (nomark _)) (pw_and1 (pt_val (pv 5))))) (pw_or1 (PW.pt (pw_and (pt_cmpR op_eq (ixT (pv 2) pe_int) pe_int (nomark _)) (pw_and1 (pt_cmpR op_lt (pv 7) (pv 0) (nomark _)))))))))
          (pss_one (ps_ret (pe_lst pa_nil))) pss_nil)
        (pss_cons (ps_asg (pe_do hs (hr.mono (by decide)) (pa_cons (pv 0) (pa_cons (pv 3) (pa_cons (pv 6) (pa_cons (pv 8) pa_nil))))) (pg_tup rfl (pgs_cons (pg_name (i := 9) scEnds.nd rfl (.inl rfl)) (pgs_cons (pg_name (i := 10) scEnds.nd rfl (.inl rfl)) pgs_nil))))
        (pss_one (ps_ret (pe_lst (pa_cons (pe_tup (pa_cons (pv 8) (pa_cons (pv 9) (pa_cons (pv 10) pa_nil)))) pa_nil)))))))) pss_nil)
      (pss_cons (ps_if (pt_cmpR op_ne (ixT (pv 2) pe_int) (pe_gs gp) (nomark _)) (pss_one (ps_ret (pe_do hst hr (pa_cons (pv 0) (pa_cons (pv 1) (pa_cons (ixT (pv 2) pe_int) pa_nil)))))) pss_nil)
      (pss_cons (ps_set (i := 11) scEnds.nd rfl (.inl rfl) (pe_lst pa_nil))
      (pss_cons (ps_for PassesOwn.never rfl (pi_list (pe_do hc (hr.mono (by decide)) (pa_cons (pv 0) (pa_cons (pv 3) (pa_cons (pv 4) (pa_cons (pv 5) (pa_cons (pv 6) pa_nil))))))) (pg_tup rfl (pgs_cons (pg_name (i := 12) scEnds.nd rfl (.inl rfl)) (pgs_cons (pg_name (i := 13) scEnds.nd rfl (.inl rfl)) (pgs_cons (pg_name (i := 14) scEnds.nd rfl (.inl rfl)) (pgs_cons (pg_name (i := 15) scEnds.nd rfl (.inr rfl)) pgs_nil)))))
        (pss_one (ps_if (pt_cmpR op_lt (pv 12) (pv 0) (nomark _))
          (pss_one (ps_expr (pe_bm PySem.F.plainAttrs_list PySem.F.slot_list_extend PySem.F.type_list_extend mt_extend (pv 11) (pa_cons (pe_lc (own := [("end", 8), ("behind", 9)]) (g := gTup K 2 (gCons (gName 8) (gCons (gName 9) gNil))) (tt := tYes) rfl scEnds.nd
            (pi_list (pe_do hbk (hr.mono (by decide)) (pa_cons (pv 0) (pa_cons (pv 12) (pa_cons (pv 4) (pa_cons (pv 14) pa_nil)))))) (blkOk_by (N := nEnds) (sc := defScope sEndsFrom) (by decide +kernel)) (fun _ _ _ _ _ => pg_tup rfl (pgs_cons (pg_name (i := 8) scEnds.nd rfl (.inl rfl)) (pgs_cons (pg_name (i := 9) scEnds.nd rfl (.inl rfl)) pgs_nil)))
            (fun _ _ _ _ _ => pts_nil) (fun _ _ _ _ _ => pe_tup (pa_cons (pv 8) (pa_cons (pv 9) (pa_cons (pv 15) pa_nil))))) pa_nil)))) pss_nil)))
      (pss_one (ps_ret (pv 11))))))), ?_⟩
    have n1 : ¬ (("stay" : Str) = "runs") := by decide +kernel
    have n2 : ¬ (("pass" : Str) = "runs") := by decide +kernel
    have n3 : ¬ (("stay" : Str) = "pass") := by decide +kernel
    have hm0 := mhd hm
    refine ⟨_, rfl, a, _, rfl, .of ha, rfl, _, _, rfl, _, _, rfl, _, _, rfl, _, _, rfl, rfl, ?_⟩
    cases m with
    | runs n k =>
      have hen : endsOf wd st (.runs n k) = if st.pl + n + k > wd ∨ (n = 0 ∧ st.to = true) ∨ (k = 0 ∧ st.pl + n < wd) then [] else [(st.pl + n + k, (skipped wd st.pl st.kn (st.pl + n + k)).1, (skipped wd st.pl st.kn (st.pl + n + k)).2)] := rfl
      rw [hen] at q
      refine ⟨_, rfl, b, _, 0, _, rfl, rfl, .of hm0, atI_nat (j := 0) rfl, rfl, _, rfl, ifT (decide_eq_true rfl) ?_⟩
      refine ⟨_, rfl, _, rfl, b, _, 1, _, rfl, rfl, .of hm0, atI_nat (j := 1) rfl, _, _, rfl, rfl, ?_⟩
      refine ⟨_, rfl, _, rfl, b, _, 2, _, rfl, rfl, .of hm0, atI_nat (j := 2) rfl, _, _, rfl, rfl, ?_⟩
      refine gset ?_
      dsimp only
      have dcn : decide (st.pl + n + k > wd ∨ (n = 0 ∧ st.to = true) ∨ (k = 0 ∧ st.pl + n < wd)) = (decide (st.pl + n + k > wd) || (decide (n = 0) && st.to || decide (k = 0) && decide (st.pl + n < wd))) := by
        rw [Bool.eq_iff_iff]
        simp
      refine seqIf (b := decide (st.pl + n + k > wd ∨ (n = 0 ∧ st.to = true) ∨ (k = 0 ∧ st.pl + n < wd))) (fun R q => ?_) ?_
      · rw [dcn] at q
        refine or_pure (fun R q => ⟨_, rfl, _, rfl, _, _, rfl, rfl, _, rfl, ?_⟩) (fun e1 R q => or_pure (fun R q => and_pure (fun R q => ⟨_, rfl, b, _, 1, _, rfl, rfl, .of hm0, atI_nat (j := 1) rfl, rfl, _, rfl, ?_⟩) (fun _ R q => ⟨_, rfl, _, rfl, q⟩) q)
          (fun e2 R q => and_pure (fun R q => ⟨_, rfl, b, _, 2, _, rfl, rfl, .of hm0, atI_nat (j := 2) rfl, rfl, _, rfl, ?_⟩) (fun _ R q => ⟨_, rfl, _, rfl, _, _, rfl, rfl, _, rfl, ?_⟩) q) q) q
        · rw [show decide ((st.pl : Int) + (n : Int) + (k : Int) > (wd : Nat)) = decide (st.pl + n + k > wd) from decide_eq_decide.mpr (by omega)]
          exact q
        · rw [dec_nat0]
          exact q
        · rw [dec_nat0]
          exact q
        · rw [show decide ((st.pl : Int) + (n : Int) < (wd : Nat)) = decide (st.pl + n < wd) from decide_eq_decide.mpr (by omega)]
          exact q
      refine if2 (fun e => ?_) (fun e => ?_)
      · rw [if_pos (of_decide_eq_true e)] at q
        exact ⟨few rfl, fun L nL => q _ L (same_new nL) nL ⟨[], upd_same, .nil⟩⟩
      · have e := of_decide_eq_false e
        rw [if_neg e] at q
        refine ⟨_, rfl, _, rfl, _, rfl, _, rfl, wd, st.pl, st.kn, st.pl + n + k, rfl, hw, by omega, by have := so.kn; omega, by have := so.lt; omega, by omega, fun H3 r s3 hr3 => ?_⟩
        refine ⟨r, _, rfl, .of hr3, rfl, _, _, rfl, _, _, rfl, rfl, ?_⟩
        refine ⟨_, rfl, _, rfl, _, rfl, few rfl, fun p np => ⟨few rfl, fun L nL => q _ L ((s3.trans (same_new np)).trans (same_new nL)) (s3.free (same_new np |>.free nL)) ⟨[p], upd_same, .cons ?_ .nil⟩⟩⟩
        exact same_new nL _ _ upd_same
    | stay d =>
      refine ⟨_, rfl, b, _, 0, _, rfl, rfl, .of hm0, atI_nat (j := 0) rfl, rfl, _, rfl, ifF (neS n1) ?_⟩
      refine ⟨_, rfl, b, _, 0, _, rfl, rfl, .of hm0, atI_nat (j := 0) rfl, rfl, _, rfl, ifT (by rw [neS n3]; rfl) ?_⟩
      exact ⟨_, rfl, _, rfl, _, rfl, b, _, 1, _, rfl, rfl, .of hm0, atI_nat (j := 1) rfl, wd, st, a, d, rfl, ha, hw, so, mok.1, mok.2, q⟩
    | pass =>
      refine ⟨_, rfl, b, _, 0, _, rfl, rfl, .of hm0, atI_nat (j := 0) rfl, rfl, _, rfl, ifF (neS n2) ?_⟩
      refine ⟨_, rfl, b, _, 0, _, rfl, rfl, .of hm0, atI_nat (j := 0) rfl, rfl, _, rfl, ifF (by rw [decide_eq_true rfl]; rfl) ?_⟩
      refine ⟨few rfl, fun F nF => ?_⟩
      have s1 : Same H (L2.upd H F (.lst [])) := same_new nF
      refine ⟨_, rfl, _, rfl, _, rfl, _, rfl, _, rfl, wd, st.pl, st.co, st.to, st.kn, rfl, hw, so.lt, by have := so.kn; omega, fun H1 L s2 nL hL => ?_⟩
      have hen : endsOf wd st .pass = (changes wd st.pl st.co st.to st.kn).flatMap (passOf wd st.co) := rfl
      rw [hen] at q
      have cok := changes_ok (w := wd) (p := st.pl) (c := st.co) (t := st.to) (k := st.kn) so.lt
      have clen := changes_len wd st.pl st.co st.to st.kn
      generalize changes wd st.pl st.co st.to st.kn = chs at cok clen hL q
      obtain ⟨as, hLa, tp⟩ := hL
      have hal : as.length = chs.length := Paired.length tp
      have hLF : L ≠ F := fun z => by
        rw [z, upd_same] at nL
        cases nL
      refine ⟨L, rfl, ⟨_, .of hLa⟩, for_list (xs := as.map V.ref) (fun i σ H2 => ∃ (fo : List (Nat × Dots × Nat)) (z12 z13 z14 z15 : Option V), σ = [some (.int wd), some (.ref a), some (.ref b), some (.int st.pl), some (.str (col st.co)), some (.bl st.to), some (.str (enc st.kn)), none, none, none, none, some (.ref F), z12, z13, z14, z15] ∧
        LIn chgV endV H H2 F L as chs fo ∧ fo.length ≤ 41 * i ∧ fo = (chs.take i).flatMap (passOf wd st.co)) ⟨[], none, none, none, none, rfl, ⟨s1.trans s2, hLa, tp, ⟨[], s2 _ _ upd_same, .nil⟩⟩, Nat.le_refl _, rfl⟩ (fun i σ H2 _ hP => ?_) ?_ ?_⟩
      · obtain ⟨_, _, _, _, _, _, h1, _⟩ := hP
        exact .of h1.src
      · rintro i v σ H2 hv ⟨fo, z12, z13, z14, z15, rfl, li, hfl, hfo⟩
        have hi : i < chs.length := by
          rw [← hal, ← List.length_map (f := V.ref) (as := as)]
          exact (List.getElem?_eq_some_iff.mp hv).1
        have hg : chs[i]? = some chs[i] := List.getElem?_eq_getElem hi
        obtain ⟨b0, hb, hbx⟩ := li.tups.get hg
        have ev : v = .ref b0 := by
          rw [List.getElem?_map, hb] at hv
          exact (Option.some.inj hv).symm
        subst ev
        have hx := cok _ (List.getElem_mem hi)
        have hnext : (chs.take (i + 1)).flatMap (passOf wd st.co) = fo ++ passOf wd st.co chs[i] := by
          rw [List.take_add_one, hg, List.flatMap_append, hfo]
          show _ ++ (passOf _ _ _ ++ []) = _
          rw [List.append_nil]
        have hpl := passOf_len wd st.co chs[i]
        generalize chs[i] = x at hbx hx hnext hpl
        obtain ⟨ch, win, rest, cnt⟩ := x
        obtain ⟨x1, x2, x3, x4⟩ := hx
        dsimp only at x1 x2 x3 x4
        have hrest : rest.length ≤ 4 := by
          have := so.kn
          rcases x4 with z | ⟨_, z⟩
          · rw [z]
            exact Nat.zero_le _
          · rw [z, List.length_drop]
            omega
        refine ⟨b0, _, rfl, .of hbx, rfl, _, _, rfl, _, _, rfl, _, _, rfl, _, _, rfl, rfl, ?_⟩
        refine ⟨_, rfl, _, rfl, _, _, rfl, rfl, _, rfl, if2 (fun e => ?_) (fun e => ?_)⟩
        · have e := of_decide_eq_true e
          have hpo : passOf wd st.co (ch, win, rest, cnt) = (backs wd st.co (wd - (ch + 1)) (ch + 1) rest).map fun b => (b.1, b.2, cnt) := if_pos (show ch < wd by omega)
          rw [hpo] at hnext hpl
          obtain ⟨ys, hy, hyl, _⟩ := li.fo.raw
          refine ⟨_, rfl, .inl ⟨rfl, _, .of hy⟩, ?_⟩
          refine ⟨_, rfl, _, rfl, _, rfl, _, rfl, wd, ch, st.co, rest, rfl, hw, by omega, by omega, fun H3 L2' s3 nL2 hL2 => ?_⟩
          have li3 := li.same s3
          have hy3 := s3 _ _ hy
          have bl := backs_len wd st.co (wd - (ch + 1)) (ch + 1) rest
          generalize backs wd st.co (wd - (ch + 1)) (ch + 1) rest = bks at hL2 hnext bl hpl
          obtain ⟨as2, hL2a, tp2⟩ := hL2
          have hal2 : as2.length = bks.length := Paired.length tp2
          have hL2F : L2' ≠ F := fun z => by
            rw [z, hy] at nL2
            cases nL2
          refine ⟨L2', rfl, ⟨_, .of hL2a⟩, fun D nD => ?_⟩
          have nD0 : H D = none := li3.sm.free nD
          have hDF : D ≠ F := fun z => by
            rw [z, hy3] at nD
            cases nD
          have hDL : D ≠ L := fun z => by
            rw [z, li3.src] at nD
            cases nD
          have hDL2 : L2' ≠ D := fun z => by
            rw [← z, hL2a] at nD
            cases nD
          have s4 : Same H3 (L2.upd H3 D (.lst [])) := same_new nD
          refine lc_list (xs := as2.map V.ref) (fun j H4 => ∃ made, LIn bkV endV H H4 D L2' as2 bks made ∧ LIn chgV endV H H4 F L as chs fo ∧ H4 F = some (.lst (ys.map V.ref)) ∧ made.length ≤ j ∧ made = (bks.take j).map fun b => (b.1, b.2, cnt))
            ⟨[], ⟨li3.sm.trans s4, s4 _ _ hL2a, tp2.tk (Same.tk s4), ⟨[], upd_same, .nil⟩⟩, li3.same s4, s4 _ _ hy3, Nat.le_refl _, rfl⟩ (fun j H4 _ hP => ?_) ?_ ?_
          · obtain ⟨_, h1, _⟩ := hP
            exact .of h1.src
          · rintro j v H4 hv ⟨made, lm, lo, hF4, hml, hmade⟩
            have hj : j < bks.length := by
              rw [← hal2, ← List.length_map (f := V.ref) (as := as2)]
              exact (List.getElem?_eq_some_iff.mp hv).1
            have hg2 : bks[j]? = some bks[j] := List.getElem?_eq_getElem hj
            obtain ⟨b1, hb1, hbx1⟩ := lm.tups.get hg2
            have ev : v = .ref b1 := by
              rw [List.getElem?_map, hb1] at hv
              exact (Option.some.inj hv).symm
            subst ev
            have hnext2 : (bks.take (j + 1)).map (fun b => ((b.1, b.2, cnt) : Nat × Dots × Nat)) = made ++ [(bks[j].1, bks[j].2, cnt)] := by
              rw [List.take_add_one, hg2, List.map_append, hmade]
              rfl
            refine ⟨b1, _, rfl, .of hbx1, rfl, _, _, rfl, _, _, rfl, rfl, rfl, ?_⟩
            refine ⟨_, rfl, _, rfl, _, rfl, few rfl, fun p np => ?_⟩
            obtain ⟨ys2, hy2, hyl2, _⟩ := lm.fo.raw
            refine ⟨_, same_new np _ _ hy2, by rw [List.length_map, hyl2, sizeLine_eq]; omega, ?_⟩
            have lm2 := lm.app (x := (bks[j].1, bks[j].2, cnt)) nD0 hDL2 np hy2
            have lo2 := lo.other (o := .tup (endV (bks[j].1, bks[j].2, cnt))) (zs := ys2.map V.ref ++ [.ref p]) nD0 np hy2 hDF hDL
            refine ⟨_, lm2, lo2, ?_, ?_, hnext2.symm⟩
            · rw [upd_ne (Ne.symm hDF)]
              exact same_new np _ _ hF4
            · rw [List.length_append]
              show made.length + 1 ≤ _
              omega
          · rintro H4 ⟨made, lm, lo, hF4, hml, hmade⟩
            rw [List.length_map, hal2, List.take_length] at hmade
            obtain ⟨ys2, hy2, hyl2, _⟩ := lm.fo.raw
            have hml2 : made.length ≤ 41 := by
              rw [hmade, List.length_map]
              omega
            refine ⟨F, D, _, _, rfl, rfl, hF4, hy2, by rw [List.length_map, List.length_map, hyl, hyl2, sizeLine_eq]; omega, ?_⟩
            have lf := lo.fo.ext lm.fo hF4 hy2
            refine ⟨_, _, _, _, _, rfl, ⟨same_mut lo.sm nF, ?_, lo.tups.tk (Tk.lst hF4), lf⟩, by rw [List.length_append]; omega, ?_⟩
            · rw [upd_ne hLF]
              exact lo.src
            · rw [hnext, ← hmade]
        · have e := of_decide_eq_false e
          have hpo : passOf wd st.co (ch, win, rest, cnt) = [] := if_neg (show ¬ ch < wd by omega)
          rw [hpo, List.append_nil] at hnext
          exact ⟨_, _, _, _, _, rfl, li, by omega, hnext.symm⟩
      · rintro σ H2 ⟨fo, z12, z13, z14, z15, rfl, li, hfl, hfo⟩
        rw [List.length_map, hal, List.take_length] at hfo
        rw [← hfo] at q
        exact ⟨_, rfl, q _ F li.sm nF li.fo⟩
end
end K77
set_option Elab.async false
set_option linter.all false
set_option maxRecDepth 100000
set_option maxHeartbeats 4000000
/-! K77W10: next_states. -/
namespace K77
open PySem PySem.Spec PyProof.Rows L2
section
variable {P : Program} {w : World} {K : PySem.W.Frag} {mg : Str → Option Value} {base : Heap}
/-- a state, the dots told on the way to it, the count -/
def NxAt (H : Hp) (a : Addr) (x : Nx) : Prop := ∃ b, H a = some (.tup [.ref b, .str (enc x.2.1), .int x.2.2]) ∧ H b = some (.tup (skV x.1))
def NxsAt (H : Hp) (L : Addr) (xs : List Nx) : Prop := ∃ as : List Addr, H L = some (.lst (as.map V.ref)) ∧ Paired (NxAt H) as xs
theorem NxAt.tk {H H' : Hp} {a : Addr} {x : Nx} (h : NxAt H a x) (k : Tk H H') : NxAt H' a x := by
  obtain ⟨b, h1, h2⟩ := h
  exact ⟨b, k _ _ h1, k _ _ h2⟩
theorem pget {α β : Type} {F : α → β → Prop} {as : List α} {xs : List β} (h : Paired F as xs) : ∀ {i : Nat} {x : β}, xs[i]? = some x → ∃ a, as[i]? = some a ∧ F a x := by
  induction h with
  | nil => intro i x e; simp at e
  | @cons a b as bs q t ih =>
    intro i x e
    cases i with
    | zero =>
      simp only [List.getElem?_cons_zero, Option.some.injEq] at e
      subst e
      exact ⟨a, rfl, q⟩
    | succ i =>
      simp only [List.getElem?_cons_succ] at e ⊢
      exact ih e
theorem NxsAt.raw {H : Hp} {L : Addr} {xs : List Nx} (h : NxsAt H L xs) : ∃ as : List Addr, H L = some (.lst (as.map V.ref)) ∧ as.length = xs.length := by
  obtain ⟨as, h1, h2⟩ := h
  exact ⟨as, h1, Paired.length h2⟩
/-- the heap as next states are made -/
structure NIn (H H2 : Hp) (F L : Addr) (as : List Addr) (xs : List (Nat × Dots × Nat)) (fo : List Nx) : Prop where
  sm : Same H H2
  src : H2 L = some (.lst (as.map V.ref))
  tups : TupsAt endV H2 as xs
  fo : NxsAt H2 F fo
theorem NIn.app {H H2 : Hp} {F L p b : Addr} {as : List Addr} {xs : List (Nat × Dots × Nat)} {fo : List Nx} {x : Nx} {ys : List V} (h : NIn H H2 F L as xs fo) (nF : H F = none) (ne : L ≠ F) (nb : H2 b = none) (np : (L2.upd H2 b (.tup (skV x.1))) p = none) (hy : H2 F = some (.lst ys)) :
    NIn H (L2.upd (L2.upd (L2.upd H2 b (.tup (skV x.1))) p (.tup [.ref b, .str (enc x.2.1), .int x.2.2])) F (.lst (ys ++ [.ref p]))) F L as xs (fo ++ [x]) := by
  have s1 : Same H2 (L2.upd (L2.upd H2 b (.tup (skV x.1))) p (.tup [.ref b, .str (enc x.2.1), .int x.2.2])) := (same_new nb).trans (same_new np)
  have k : Tk H2 (L2.upd (L2.upd (L2.upd H2 b (.tup (skV x.1))) p (.tup [.ref b, .str (enc x.2.1), .int x.2.2])) F (.lst (ys ++ [.ref p]))) := (Same.tk s1).trans (Tk.lst (s1 _ _ hy))
  obtain ⟨fs, hf, pf⟩ := h.fo
  rw [hy] at hf
  injection hf with hf
  injection hf with hf
  subst hf
  refine ⟨same_mut (h.sm.trans s1) nF, ?_, h.tups.tk k, ⟨fs ++ [p], ?_, Paired.snoc (Paired.mapP pf fun a x q => q.tk k) ⟨b, ?_, ?_⟩⟩⟩
  · rw [upd_ne ne]
    exact s1 _ _ h.src
  · rw [upd_same, List.map_append]
    rfl
  · exact Tk.lst (s1 _ _ hy) _ _ upd_same
  · exact Tk.lst (s1 _ _ hy) _ _ (same_new np _ _ upd_same)
def spNexts : Sp := fun vs H Q _ => ∃ (wd : Nat) (s : S) (a b : Addr) (m : Mode), vs = [.int wd, .ref a, .ref b] ∧ H a = some (.tup (skV s)) ∧ ModeAt H b m ∧ MOk m ∧ wd ≤ 40 ∧ SGood wd s ∧
  ∀ H' L, Same H H' → H L = none → NxsAt H' L (nexts wd s m) → Q (.ref L) H'
abbrev nNexts : List Str := ["width", "state", "mode", "place", "colour", "is_told", "known", "last", "found", "end", "behind", "count"]
theorem scNexts : FnScope nNexts ["width", "state", "mode"] (defScope sNextStates) := ⟨rfl, rfl, rfl, by decide +kernel, rfl, by decide +kernel, by decide +kernel⟩
theorem ok_next_states (T : Tx K mg) (D : Stands K mg "next_states" sNextStates) (he : Has P w K mg base "ends_from" ["width", "state", "mode"] 4 spEnds) (ho : Has P w K mg base "other_colour" ["colour"] 1 spOther)
    (hd : Has P w K mg base "dots_of" ["mode", "place", "end", "colour"] 2 spDotsOf) : Has P w K mg base "next_states" ["width", "state", "mode"] 5 spNexts := by
  obtain ⟨tr, gr⟩ := T.RUNS
  obtain ⟨tp, gp⟩ := T.PASS
  refine has_of D scNexts (fun _ _ _ _ _ _ us hl => match us, hl with | [_, _, _], _ => rfl) (fun vs H Q E h => ?_) (fun f cdv A outer s H vs Q E hr h => ?_)
  · obtain ⟨wd, st, a, b, m, rfl, _⟩ := h
    rfl
  · obtain ⟨wd, st, a, b, m, rfl, ha, hm, mok, hw, sg, q⟩ := h
    refine ⟨_, pss_cons (ps_asg (pv 1) (pg_tup rfl (pgs_cons (pg_name (i := 3) scNexts.nd rfl (.inl rfl)) (pgs_cons (pg_name (i := 4) scNexts.nd rfl (.inl rfl)) (pgs_cons (pg_name (i := 5) scNexts.nd rfl (.inl rfl)) (pgs_cons (pg_name (i := 6) scNexts.nd rfl (.inl rfl)) pgs_nil))))))
      (pss_cons (ps_if (pt_cmpR op_ge (pv 3) (pv 0) (nomark _)) (pss_one (ps_ret (pe_lst pa_nil))) pss_nil)
      (pss_cons (ps_set (i := 7) scNexts.nd rfl (.inl rfl) (pe_ifExp (pt_cmpR op_in_seq (ixT (pv 2) pe_int) (pe_tup (pa_cons (pe_gs gr) (pa_cons (pe_gs gp) pa_nil))) (by rfl)) (pv 4) (pe_do ho (hr.mono (by decide)) (pa_cons (pv 4) pa_nil))))
      (pss_cons (ps_set (i := 8) scNexts.nd rfl (.inl rfl) (pe_lst pa_nil))
      (pss_cons (ps_for PassesOwn.never rfl (pi_list (pe_do he hr (pa_cons (pv 0) (pa_cons (pv 1) (pa_cons (pv 2) pa_nil))))) (pg_tup rfl (pgs_cons (pg_name (i := 9) scNexts.nd rfl (.inl rfl)) (pgs_cons (pg_name (i := 10) scNexts.nd rfl (.inl rfl)) (pgs_cons (pg_name (i := 11) scNexts.nd rfl (.inl rfl)) pgs_nil))))
        (pss_one (ps_expr (pe_bm PySem.F.plainAttrs_list PySem.F.slot_list_append PySem.F.type_list_append mt_append (pv 8) (pa_cons (pe_tup (pa_cons (pe_tup (pa_cons (pv 9) (pa_cons (pv 7) (pa_cons pe_bl (pa_cons (pv 10) pa_nil))))) (pa_cons (pe_do hd (hr.mono (by decide)) (pa_cons (pv 2) (pa_cons (pv 3) (pa_cons (pv 9) (pa_cons (pv 4) pa_nil))))) (pa_cons (pv 11) pa_nil)))) pa_nil)))))
      (pss_one (ps_ret (pv 8))))))), ?_⟩
    refine ⟨_, rfl, a, _, rfl, .of ha, rfl, _, _, rfl, _, _, rfl, _, _, rfl, _, _, rfl, rfl, ?_⟩
    refine ⟨_, rfl, _, rfl, _, _, rfl, rfl, _, rfl, if2 (fun e => ?_) (fun e => ?_)⟩
    · have e := of_decide_eq_true e
      have hn : nexts wd st m = [] := if_pos (by omega)
      rw [hn] at q
      exact ⟨few rfl, fun L nL => q _ L (same_new nL) nL ⟨[], upd_same, .nil⟩⟩
    · have e := of_decide_eq_false e
      have hlt : st.pl < wd := by omega
      have hn : nexts wd st m = (endsOf wd st m).map fun e => (⟨e.1, lastCo m st.co, true, e.2.1⟩, toldBy m (e.1 - st.pl) st.co, e.2.2) := if_neg (by omega)
      rw [hn] at q
      have so : SOk wd st := ⟨hlt, sg.kn, sg.to⟩
      have eok := ends_ok (m := m) so (fun d hd => by rw [hd] at mok; exact mok.1)
      have elen := ends_len (s := st) (m := m) hw
      have hm0 := mhd hm
      obtain ⟨z, hz, _⟩ := modeV_hd m
      have hin : (if inV (.str z) [.str "runs", .str "pass"] = true then st.co else !st.co) = lastCo m st.co := by
        cases m with
        | runs n k =>
          injection hz with hz
          injection hz with hz
          subst hz
          rw [show inV (.str "runs") [.str "runs", .str "pass"] = true by decide +kernel]
          rfl
        | stay d =>
          injection hz with hz
          injection hz with hz
          subst hz
          rw [show inV (.str "stay") [.str "runs", .str "pass"] = false by decide +kernel]
          rfl
        | pass =>
          injection hz with hz
          injection hz with hz
          subst hz
          rw [show inV (.str "pass") [.str "runs", .str "pass"] = true by decide +kernel]
          rfl
      refine ⟨_, rfl, b, _, 0, _, rfl, rfl, .of hm0, atI_nat (j := 0) hz, few rfl, fun p np => ⟨p, _, rfl, .inr (.of upd_same), rfl, rfl, _, rfl, ?_⟩⟩
      refine if2 (fun e1 => ⟨_, rfl, gsetV (y := .str (col (lastCo m st.co))) ?_ ?_⟩) (fun e1 => ⟨_, rfl, st.co, rfl, gsetV (y := .str (col (lastCo m st.co))) ?_ ?_⟩)
      · have e2 : inV (.str z) [.str "runs", .str "pass"] = true := e1
        rw [e2, if_pos rfl] at hin
        rw [← hin]
      rotate_left
      · have e2 : inV (.str z) [.str "runs", .str "pass"] = false := e1
        rw [e2, if_neg (by decide)] at hin
        rw [← hin]
      all_goals
        dsimp only
        have s0 : Same H (L2.upd H p (.tup [.str "runs", .str "pass"])) := same_new np
        refine ⟨few rfl, fun F nF => ?_⟩
        have nF0 : H F = none := s0.free nF
        have s1 : Same H (L2.upd (L2.upd H p (.tup [.str "runs", .str "pass"])) F (.lst [])) := s0.trans (same_new nF)
        refine ⟨_, rfl, _, rfl, _, rfl, wd, st, a, b, m, rfl, s1 _ _ ha, s1 _ _ hm, mok, hw, so, fun H2 L s2 nL hL => ?_⟩
        generalize endsOf wd st m = xs at eok elen hL q
        obtain ⟨as, hLa, tp⟩ := hL
        have hal : as.length = xs.length := Paired.length tp
        have hLF : L ≠ F := fun z => by
          rw [z, upd_same] at nL
          cases nL
        refine ⟨L, rfl, ⟨_, .of hLa⟩, for_list (xs := as.map V.ref) (fun i σ H2 => ∃ (fo : List Nx) (z9 z10 z11 : Option V), σ = [some (.int wd), some (.ref a), some (.ref b), some (.int st.pl), some (.str (col st.co)), some (.bl st.to), some (.str (enc st.kn)), some (.str (col (lastCo m st.co))), some (.ref F), z9, z10, z11] ∧
          NIn H H2 F L as xs fo ∧ fo.length ≤ i ∧ fo = (xs.take i).map fun e => (⟨e.1, lastCo m st.co, true, e.2.1⟩, toldBy m (e.1 - st.pl) st.co, e.2.2)) ⟨[], none, none, none, rfl, ⟨s1.trans s2, hLa, tp, ⟨[], s2 _ _ upd_same, .nil⟩⟩, Nat.le_refl _, rfl⟩ (fun i σ H2 _ hP => ?_) ?_ ?_⟩
        · obtain ⟨_, _, _, _, _, h1, _⟩ := hP
          exact .of h1.src
        · rintro i v σ H2 hv ⟨fo, z9, z10, z11, rfl, li, hfl, hfo⟩
          have hi : i < xs.length := by
            rw [← hal, ← List.length_map (f := V.ref) (as := as)]
            exact (List.getElem?_eq_some_iff.mp hv).1
          have hg : xs[i]? = some xs[i] := List.getElem?_eq_getElem hi
          obtain ⟨b0, hb, hbx⟩ := li.tups.get hg
          have ev : v = .ref b0 := by
            rw [List.getElem?_map, hb] at hv
            exact (Option.some.inj hv).symm
          subst ev
          have hx := eok _ (List.getElem_mem hi)
          have hnext : (xs.take (i + 1)).map (fun e => ((⟨e.1, lastCo m st.co, true, e.2.1⟩, toldBy m (e.1 - st.pl) st.co, e.2.2) : Nx)) = fo ++ [(⟨xs[i].1, lastCo m st.co, true, xs[i].2.1⟩, toldBy m (xs[i].1 - st.pl) st.co, xs[i].2.2)] := by
            rw [List.take_add_one, hg, List.map_append, hfo]
            rfl
          generalize xs[i] = x at hbx hx hnext
          obtain ⟨e0, kn, cnt⟩ := x
          obtain ⟨x1, x2, x3⟩ := hx
          dsimp only at x1 x2 x3 hnext
          refine ⟨b0, _, rfl, .of hbx, rfl, _, _, rfl, _, _, rfl, _, _, rfl, rfl, ?_⟩
          obtain ⟨ys, hy, hyl⟩ := li.fo.raw
          refine ⟨_, rfl, .inl ⟨rfl, _, .of hy⟩, ?_⟩
          refine ⟨_, rfl, _, rfl, _, rfl, few rfl, fun b1 nb1 => ?_⟩
          have s3 : Same H2 (L2.upd H2 b1 (.tup (skV ⟨e0, lastCo m st.co, true, kn⟩))) := same_new nb1
          refine ⟨_, rfl, _, rfl, _, rfl, _, rfl, b, m, st.pl, e0 - st.pl, st.co, ?_, s3 _ _ (li.sm _ _ hm), mok, by omega, _, rfl, few rfl, fun b2 nb2 => ⟨F, _, _, rfl, rfl, same_new nb2 _ _ (s3 _ _ hy), by rw [List.length_map, hyl, sizeLine_eq]; omega, ?_⟩⟩
          · rw [show st.pl + (e0 - st.pl) = e0 by omega]
            rfl
          · have l2 := li.app (x := (⟨e0, lastCo m st.co, true, kn⟩, toldBy m (e0 - st.pl) st.co, cnt)) nF0 hLF nb1 nb2 hy
            exact ⟨_, _, _, _, rfl, l2, by rw [List.length_append]; show fo.length + 1 ≤ _; omega, hnext.symm⟩
        · rintro σ H2 ⟨fo, z9, z10, z11, rfl, li, hfl, hfo⟩
          rw [List.length_map, hal, List.take_length] at hfo
          rw [← hfo] at q
          exact ⟨_, rfl, q _ F li.sm nF0 li.fo⟩
end
end K77
set_option Elab.async false
set_option linter.all false
set_option maxRecDepth 100000
set_option maxHeartbeats 4000000
/-! K77V2: tables of states on the heap. -/
namespace K77
open PySem PySem.Spec PyProof.Rows L2
def sK (ways : List (S × Nat)) : List (S × V) := ways.map fun p => (p.1, .int p.2)
theorem sK_val (ways : List (S × Nat)) (k : S) : ((valV (sK ways) k).getD (.int 0)) = .int (look ways k : Nat) := by
  unfold valV sK look
  induction ways with
  | nil => rfl
  | cons p ps ih =>
    rw [List.map_cons, List.find?_cons, List.find?_cons]
    dsimp only
    by_cases h : p.1 = k
    · rw [decide_eq_true h]
      rfl
    · rw [decide_eq_false h]
      exact ih
theorem putK_map {β : Type} (f : β → V) (ways : List (S × β)) (k : S) (n : β) : putK (ways.map fun p => (p.1, f p.2)) k (f n) = (put ways k n).map fun p => (p.1, f p.2) := by
  unfold putK put
  rw [List.any_map]
  have e : (ways.any ((fun kv : S × V => decide (kv.1 = k)) ∘ fun p : S × β => (p.1, f p.2))) = ways.any fun p => decide (p.1 = k) := rfl
  rw [e]
  by_cases h : (ways.any fun p => decide (p.1 = k)) = true
  · rw [if_pos h, if_pos h, List.map_map, List.map_map]
    refine List.map_congr_left fun p _ => ?_
    dsimp only [Function.comp]
    by_cases h2 : p.1 = k
    · rw [if_pos h2, if_pos h2]
    · rw [if_neg h2, if_neg h2]
  · rw [if_neg h, if_neg h, List.map_append]
    rfl
theorem sK_put (ways : List (S × Nat)) (k : S) (n : Nat) : putK (sK ways) k (.int n) = sK (put ways k n) := putK_map (fun n : Nat => V.int n) ways k n
theorem sK_len (ways : List (S × Nat)) : (sK ways).length = ways.length := List.length_map ..
/-! ### the walks as walks -/
section
variable {P : Program} {w : World} {d : Addr} {o : Obj} {kvs : List Ent}
theorem walk_sitems : Walk (Itsi P w d o kvs) kvs.length (fun H => H d = some (.frz o (DsO P w d kvs))) (fun i H x H' => ∃ (T : Addr) (e : Ent), kvs[i]? = some e ∧ x = .ref T ∧ H T = none ∧ H' = L2.upd H T (.tup [.ref e.2.1, e.2.2])) :=
  ⟨fun i H hi h => ⟨h, hi⟩, fun H h => ⟨h, Nat.le_refl _⟩, fun i H x H' _ _ y => y⟩
theorem walk_skeys : Walk (Itsk P w d o kvs) kvs.length (fun H => H d = some (.frz o (DsO P w d kvs))) (fun i H x H' => H' = H ∧ ∃ e : Ent, kvs[i]? = some e ∧ x = .ref e.2.1) :=
  ⟨fun i H hi h => ⟨h, hi⟩, fun H h => ⟨h, Nat.le_refl _⟩, fun i H x H' _ _ y => y⟩
end
theorem KeysAt.tk {H H' : Hp} {kvs : List Ent} (h : KeysAt H kvs) (k : Tk H H') : KeysAt H' kvs := fun x hx => k _ _ (h x hx)
theorem Tk.ext {H : Hp} {p : Addr} {o : HO} {φ : Heap → Prop} (h : H p = some (.ext φ)) : Tk H (L2.upd H p o) := Tk.upd fun xs z => by
  rw [h] at z
  cases z
theorem Tk.frz {H : Hp} {p : Addr} {o : HO} {b : Obj} {u : HO} (h : H p = some (.frz b u)) : Tk H (L2.upd H p o) := Tk.upd fun xs z => by
  rw [h] at z
  cases z
theorem DsAt.keep {P : Program} {w : World} {H H' : Hp} {a : Addr} {ps : List (S × V)} (d : DsAt P w H a ps) (k : Tk H H') (e : H' a = H a) : DsAt P w H' a ps := by
  obtain ⟨kvs, h1, h2, h3⟩ := d
  exact ⟨kvs, by rw [e]; exact h1, h2.tk k, h3⟩
theorem prs_at {kvs : List Ent} {ways : List (S × Nat)} (h : prs kvs = sK ways) {i : Nat} {e : Ent} (he : kvs[i]? = some e) : ∃ n : Nat, ways[i]? = some (e.1, n) ∧ e.2.2 = .int n := by
  have e1 : (prs kvs)[i]? = some (e.1, e.2.2) := by
    unfold prs
    rw [List.getElem?_map, he]
    rfl
  rw [h] at e1
  unfold sK at e1
  rw [List.getElem?_map] at e1
  cases e2 : ways[i]? with
  | none => rw [e2] at e1; cases e1
  | some p =>
    rw [e2] at e1
    have e1 := Option.some.inj e1
    injection e1 with a b
    exact ⟨p.2, by rw [← a], b.symm⟩
theorem prs_len {kvs : List Ent} {ways : List (S × Nat)} (h : prs kvs = sK ways) : kvs.length = ways.length := by
  have := congrArg List.length h
  rw [sK_len] at this
  unfold prs at this
  rw [List.length_map] at this
  exact this
end K77
set_option Elab.async false
set_option linter.all false
set_option maxRecDepth 100000
set_option maxHeartbeats 4000000
/-! K77W11: many_by. -/
namespace K77
open PySem PySem.Spec PyProof.Rows L2
section
variable {P : Program} {w : World} {K : PySem.W.Frag} {mg : Str → Option Value} {base : Heap}
/-- the heap within the walk of a table of states -/
structure WIn (P : Program) (w : World) (H H2 : Hp) (G Wy : Addr) (od : Obj) (kvs : List Ent) (fr : List (S × Nat)) : Prop where
  sm : Same H H2
  wy : H2 Wy = some (.frz od (DsO P w Wy kvs))
  ks : KeysAt H2 kvs
  fr : DsAt P w H2 G (sK fr)
theorem WIn.same {H H2 H3 : Hp} {G Wy : Addr} {od : Obj} {kvs : List Ent} {fr : List (S × Nat)} (h : WIn P w H H2 G Wy od kvs fr) (s : Same H2 H3) : WIn P w H H3 G Wy od kvs fr :=
  ⟨h.sm.trans s, s _ _ h.wy, h.ks.tk (Same.tk s), h.fr.same s⟩
theorem DsAt.ne_frz {H : Hp} {a b : Addr} {ps : List (S × V)} {o : Obj} {u : HO} (d : DsAt P w H a ps) (h : H b = Option.some (.frz o u)) : b ≠ a := by
  obtain ⟨φ, e⟩ := d.ext
  exact two h e (by nofun)
theorem DsAt.ne_lst {H : Hp} {a b : Addr} {ps : List (S × V)} {ys : List V} (d : DsAt P w H a ps) (h : H b = Option.some (.lst ys)) : b ≠ a := by
  obtain ⟨φ, e⟩ := d.ext
  exact two h e (by nofun)
theorem sum_cast : ∀ l : List Nat, (l.map fun n : Nat => (n : Int)).sum = ((l.sum : Nat) : Int)
  | [] => rfl
  | a :: l => by
    rw [List.map_cons, List.sum_cons, List.sum_cons, sum_cast l]
    omega
theorem dec_nat (a b : Nat) : decide (V.int (a : Int) = V.int (b : Int)) = decide (a = b) := by
  by_cases h : a = b
  · subst h
    simp
  · rw [decide_eq_false h]
    exact decide_eq_false fun z => by
      injection z with z
      omega
def spManyBy : Sp := fun vs H Q _ => ∃ (wd : Nat) (t : Addr) (ms : List Mode) (line : Option Dots), vs = [.int wd, .ref t, lineV line] ∧ wd ≤ 40 ∧ TelAt H t ms ∧ (∀ m ∈ ms, MOk m) ∧ (∀ l, line = some l → l.length ≤ 40) ∧
  ∀ H', Same H H' → Q (.int (manyBy wd ms line : Nat)) H'
abbrev nManyBy : List Str := ["width", "telling", "line", "ways", "mode", "fresh", "state", "count", "there", "dots", "more"]
theorem scManyBy : FnScope nManyBy ["width", "telling", "line"] (defScope sManyBy) := ⟨rfl, rfl, rfl, by decide +kernel, rfl, by decide +kernel, by decide +kernel⟩
theorem ok_many_by (T : Tx K mg) (D : Stands K mg "many_by" sManyBy) (hn : Has P w K mg base "next_states" ["width", "state", "mode"] 5 spNexts) : Has P w K mg base "many_by" ["width", "telling", "line"] 6 spManyBy := by
  obtain ⟨tw, gw⟩ := T.white
  refine has_of D scManyBy (fun _ _ _ _ _ _ us hl => match us, hl with | [_, _, _], _ => rfl) (fun vs H Q E h => ?_) (fun f cdv A outer s H vs Q E hr h => ?_)
  · obtain ⟨wd, t, ms, line, rfl, _⟩ := h
    rfl
  · obtain ⟨wd, t, ms, line, rfl, hw, ht, mok, hll, q⟩ := h
    refine ⟨_, pss_cons (ps_set (i := 3) scManyBy.nd rfl (.inl rfl) (pe_sone (Room.u0 hr) (pe_tup (pa_cons pe_int (pa_cons (pe_gs gw) (pa_cons pe_bl (pa_cons pe_str pa_nil))))) pe_int))
      (pss_cons (ps_for PassesOwn.never rfl (pi_tup (pv 1)) (pg_name (i := 4) scManyBy.nd rfl (.inl rfl))
        (pss_cons (ps_set (i := 5) scManyBy.nd rfl (.inl rfl) pe_snew)
        (pss_cons (ps_lock (ps_for PassesOwn.never rfl (pi_sitems (pv 3)) (pg_tup rfl (pgs_cons (pg_name (i := 6) scManyBy.nd rfl (.inl rfl)) (pgs_cons (pg_name (i := 7) scManyBy.nd rfl (.inl rfl)) pgs_nil)))
          (pss_one (ps_for PassesOwn.never rfl (pi_list (pe_do hn hr (pa_cons (pv 0) (pa_cons (pv 6) (pa_cons (pv 4) pa_nil))))) (pg_tup rfl (pgs_cons (pg_name (i := 8) scManyBy.nd rfl (.inl rfl)) (pgs_cons (pg_name (i := 9) scManyBy.nd rfl (.inl rfl)) (pgs_cons (pg_name (i := 10) scManyBy.nd rfl (.inl rfl)) pgs_nil))))
            (pss_one (ps_if (PW.pt (pw_or (pt_cmpR op_isN (pv 2) pe_non (nomark _)) (pw_or1 (pt_cmpR op_eq (pe_slice sl_str (pv 2) (po_some (ixT (pv 6) pe_int)) (po_some (ixT (pv 8) pe_int))) (pv 9) (nomark _)))))
              (pss_one (ps_sput (Room.u1 hr) (pv 5) (pv 8) (pe_op op_add (pe_sget (Room.u1 hr) (pv 5) (pv 8) pe_int ⟨rfl, rfl, rfl, rfl⟩) (pe_op op_mul (pv 7) (pv 10))) rfl)) pss_nil))))))
        (pss_one (ps_set (i := 3) scManyBy.nd rfl (.inl rfl) (pv 5))))))
      (pss_one (ps_ret (pe_callB (cr_sum rfl) (by rfl) T.sum_ (by decide +kernel) (pa_cons (pe_lock (pe_lc (own := [("state", 6), ("count", 7)]) (g := gTup K 2 (gCons (gName 6) (gCons (gName 7) gNil))) (tt := tTest (tOp rEq (tOp (rIxT K) (tVar 6) (tC (.int 0))) (tVar 0))) rfl scManyBy.nd (pi_sitems (pv 3)) (blkOk_by (N := nManyBy) (sc := defScope sManyBy) (by decide +kernel))
        (fun _ _ _ _ _ => pg_tup rfl (pgs_cons (pg_name (i := 6) scManyBy.nd rfl (.inl rfl)) (pgs_cons (pg_name (i := 7) scManyBy.nd rfl (.inl rfl)) pgs_nil))) (fun _ _ _ _ _ => pts_one (pt_cmpR op_eq (ixT (pv 6) pe_int) (pv 0) (nomark _))) (fun _ _ _ _ _ => pv 7))) pa_nil))))), ?_⟩
    obtain ⟨as, hta, hl, get⟩ := ht.get
    refine fun W0 nW0 => ⟨few rfl, fun b0 nb0 => ⟨b0, ⟨0, false, false, []⟩, rfl, ?_, same_new nb0 _ _ upd_same, fun o0 d0 => ?_⟩⟩
    · rw [upd_same]
      show some (HO.tup [_, _, _, V.str ""]) = some (HO.tup [_, _, _, V.str (enc [])])
      rw [enc_nil]
      rfl
    have s0 := same_mut (o := o0) ((same_new (o := DsO P w W0 []) nW0).trans (same_new (o := .tup [.int 0, .str (col false), .bl false, .str ""]) nb0)) nW0
    have hMB : manyBy wd ms line = (((ms.foldl (fun ways m => ways.foldl (wayTurn wd line m) []) [(⟨0, false, false, []⟩, 1)]).filter fun p => decide (p.1.pl = wd)).map (·.2)).sum := rfl
    obtain ⟨R, hR⟩ : ∃ R, R = ms.foldl (fun ways m => ways.foldl (wayTurn wd line m) []) [(⟨0, false, false, []⟩, 1)] := ⟨_, rfl⟩
    rw [← hR] at hMB
    refine ⟨_, rfl, t, rfl, ⟨_, .of (s0 _ _ hta)⟩, for_tup (xs := as.map V.ref) (fun i σ H2 => ∃ (ways : List (S × Nat)) (Wy : Addr) (z4 z5 z6 z7 z8 z9 z10 : Option V), σ = [some (.int wd), some (.ref t), some (lineV line), some (.ref Wy), z4, z5, z6, z7, z8, z9, z10] ∧
      Same H H2 ∧ H Wy = none ∧ DsAt P w H2 Wy (sK ways) ∧ StOk wd ways ∧ (ms.drop i).foldl (fun ways m => ways.foldl (wayTurn wd line m) []) ways = R)
      ⟨[(⟨0, false, false, []⟩, 1)], W0, none, none, none, none, none, none, none, rfl, s0, nW0, d0, StOk.one, hR.symm⟩ (fun i σ H2 _ hP => ?_) ?_ ?_⟩
    · obtain ⟨_, _, _, _, _, _, _, _, _, _, s2, _⟩ := hP
      exact .of (s2 _ _ hta)
    · rintro i v σ H2 hv ⟨ways, Wy, z4, z5, z6, z7, z8, z9, z10, rfl, s2, nW, dW, wo, hf⟩
      have hi : i < ms.length := by
        rw [← hl, ← List.length_map (f := V.ref) (as := as)]
        exact (List.getElem?_eq_some_iff.mp hv).1
      obtain ⟨ma, hma, hmm⟩ := get i ms[i] (List.getElem?_eq_getElem hi)
      have ev : v = .ref ma := by
        rw [List.getElem?_map, hma] at hv
        exact (Option.some.inj hv).symm
      subst ev
      have hok := mok _ (List.getElem_mem hi)
      rw [List.drop_eq_getElem_cons hi, List.foldl_cons] at hf
      generalize ms[i] = m at hmm hok hf
      have hmd : ∀ d, m = .stay d → -3 ≤ d := fun d hd => by
        rw [hd] at hok
        exact hok.1
      obtain ⟨RA, hRA⟩ : ∃ RA, RA = ways.foldl (wayTurn wd line m) [] := ⟨_, rfl⟩
      rw [← hRA] at hf
      refine fun G nG => ?_
      have nG0 : H G = none := s2.free nG
      have s3 : Same H2 (L2.upd H2 G (DsO P w G [])) := same_new nG
      have dW3 := dW.same s3
      obtain ⟨kvs, hk1, hk2, hk3⟩ := dW3
      have hWG : Wy ≠ G := fun z => by
        obtain ⟨φ, e⟩ := dW.ext
        rw [z, nG] at e
        cases e
      refine ⟨Wy, DsO P w Wy kvs, hk1, trivial, fun od => ?_⟩
      have c0 : WIn P w H (L2.upd (L2.upd H2 G (DsO P w G [])) Wy (.frz od (DsO P w Wy kvs))) G Wy od kvs [] := by
        refine ⟨same_mut (s2.trans s3) nW, upd_same, hk2.tk (Tk.ext hk1), ?_⟩
        exact DsAt.new.keep (Tk.ext hk1) (upd_ne (Ne.symm hWG))
      refine ⟨_, rfl, Wy, od, kvs, rfl, upd_same, for_it walk_sitems (fun j σ H3 => ∃ (fr : List (S × Nat)) (z6 z7 z8 z9 z10 : Option V), σ = [some (.int wd), some (.ref t), some (lineV line), some (.ref Wy), some (.ref ma), some (.ref G), z6, z7, z8, z9, z10] ∧
        WIn P w H H3 G Wy od kvs fr ∧ StOk wd fr ∧ (ways.drop j).foldl (wayTurn wd line m) fr = RA) ⟨[], z6, z7, z8, z9, z10, rfl, c0, StOk.nil, hRA.symm⟩ (fun j σ H3 _ hP => ?_) ?_ ?_⟩
      · obtain ⟨_, _, _, _, _, _, _, c3, _⟩ := hP
        exact c3.wy
      · rintro j x σ H3 H4 hj ⟨fr, z6, z7, z8, z9, z10, rfl, c3, fo, hf3⟩ ⟨Tp, e, he, rfl, nT, rfl⟩
        obtain ⟨n, hn1, hn2⟩ := prs_at hk3 he
        obtain ⟨st, sa, sv⟩ := e
        dsimp only at hn1 hn2 nT ⊢
        subst hn2
        have hjw : j < ways.length := (List.getElem?_eq_some_iff.mp hn1).1
        have hwj : ways[j] = (st, n) := (List.getElem?_eq_some_iff.mp hn1).2
        rw [List.drop_eq_getElem_cons hjw, List.foldl_cons, hwj] at hf3
        have sg : SGood wd st := by
          have := wo.good _ (List.getElem_mem hjw)
          rw [hwj] at this
          exact this
        have hsa : H3 sa = some (.tup (skV st)) := c3.ks _ (List.mem_of_getElem? he)
        have s4 : Same H3 (L2.upd H3 Tp (.tup [.ref sa, .int n])) := same_new nT
        have c4 := c3.same s4
        refine ⟨Tp, _, rfl, .of upd_same, rfl, _, _, rfl, _, _, rfl, rfl, ?_⟩
        refine ⟨_, rfl, _, rfl, _, rfl, wd, st, sa, ma, m, rfl, s4 _ _ hsa, s4 _ _ (c3.sm _ _ hmm), hok, hw, sg, fun H5 L s5 nL hL => ?_⟩
        have c5 := c4.same s5
        have nok := nexts_ok (m := m) sg hmd
        have hst5 : H5 sa = some (.tup (skV st)) := s5 _ _ (s4 _ _ hsa)
        have hwt : wayTurn wd line m fr (st, n) = (nexts wd st m).foldl (nxTurn line st n) fr := rfl
        obtain ⟨RB, hRB⟩ : ∃ RB, RB = wayTurn wd line m fr (st, n) := ⟨_, rfl⟩
        rw [← hRB] at hf3 hwt
        have rbo : StOk wd RB := by
          rw [hRB]
          exact fo.way hmd sg
        generalize nexts wd st m = nx at nok hL hwt
        obtain ⟨ns, hLa, pn⟩ := hL
        have hnl : ns.length = nx.length := Paired.length pn
        refine ⟨L, rfl, ⟨_, .of hLa⟩, for_list (xs := ns.map V.ref) (fun l σ H6 => ∃ (fr : List (S × Nat)) (z8 z9 z10 : Option V), σ = [some (.int wd), some (.ref t), some (lineV line), some (.ref Wy), some (.ref ma), some (.ref G), some (.ref sa), some (.int n), z8, z9, z10] ∧
          WIn P w H H6 G Wy od kvs fr ∧ StOk wd fr ∧ H6 L = some (.lst (ns.map V.ref)) ∧ Paired (NxAt H6) ns nx ∧ H6 sa = some (.tup (skV st)) ∧ (nx.drop l).foldl (nxTurn line st n) fr = RB) ⟨fr, z8, z9, z10, rfl, c5, fo, hLa, pn, hst5, hwt.symm⟩ (fun l σ H6 _ hP => ?_) ?_ ?_⟩
        · obtain ⟨_, _, _, _, _, _, _, h1, _⟩ := hP
          exact .of h1
        · rintro l v σ H6 hv ⟨fr, z8, z9, z10, rfl, c6, fo6, hL6, pn6, hst6, hf6⟩
          have hl2 : l < nx.length := by
            rw [← hnl, ← List.length_map (f := V.ref) (as := ns)]
            exact (List.getElem?_eq_some_iff.mp hv).1
          have hg : nx[l]? = some nx[l] := List.getElem?_eq_getElem hl2
          obtain ⟨a0, ha0, hx0⟩ := pget pn6 hg
          have ev : v = .ref a0 := by
            rw [List.getElem?_map, ha0] at hv
            exact (Option.some.inj hv).symm
          subst ev
          rw [List.drop_eq_getElem_cons hl2, List.foldl_cons] at hf6
          have hx := nok _ (List.getElem_mem hl2)
          generalize nx[l] = x at hx hx0 hf6
          obtain ⟨bt, h1, h2⟩ := hx0
          refine ⟨a0, _, rfl, .of h1, rfl, _, _, rfl, _, _, rfl, _, _, rfl, rfl, ?_⟩
          refine ifS_pure (b := fits line st.pl x.1.pl x.2.1) (fun R' q' => ?_) (if2 (fun e1 => ?_) (fun e1 => ?_))
          · cases line with
            | none => exact or_pure (a := true) (b := false) (fun R1 q1 => ⟨_, rfl, rfl, _, rfl, q1⟩) nofun q'
            | some ln =>
              have hln := hll ln rfl
              refine or_pure (a := false) (b := decide (cut ln st.pl x.1.pl = x.2.1)) (fun R1 q1 => ⟨_, rfl, rfl, _, rfl, ?_⟩) (fun _ R1 q1 => ?_) q'
              · rw [show decide (lineV (some ln) = V.non) = false from decide_eq_false nofun]
                exact q1
              · refine ⟨_, rfl, _, rfl, sa, _, 0, _, rfl, rfl, .of hst6, atI_nat (j := 0) rfl, _, rfl, _, rfl, bt, _, 0, _, rfl, rfl, .of h2, atI_nat (j := 0) rfl, _, rfl, _, rfl, enc_szl (l := ln) (by omega), ?_⟩
                rw [cut_two (l := ln) rfl rfl]
                refine ⟨_, rfl, rfl, _, rfl, ?_⟩
                rw [enc_dec]
                exact q1
          · have hnt : nxTurn line st n fr x = add fr x.1 (n * x.2.2) := if_pos e1
            rw [hnt] at hf6
            have h40 : 2 ^ wd ≤ 2 ^ 40 := Nat.pow_le_pow_right (by decide) hw
            have h64 : (2 : Nat) ^ 40 < 2 ^ 64 := by decide
            have hcnt := hx.cnt
            refine ⟨_, rfl, ⟨G, _, rfl, c6.fr⟩, _, rfl, G, bt, _, x.1, rfl, rfl, c6.fr, h2, ?_⟩
            rw [sK_val]
            refine ⟨_, rfl, _, rfl, _, _, rfl, rfl, .inr ⟨by omega, by omega⟩, _, _, rfl, rfl, _, rfl, _, rfl, G, bt, _, x.1, rfl, rfl, c6.fr, h2, by rw [sK_len, sizeLine_eq]; have := fo6.few hw; omega, fun o d7 => ?_⟩
            obtain ⟨φ, hGe⟩ := c6.fr.ext
            have kt : Tk H6 (L2.upd H6 G o) := Tk.ext hGe
            have e8 : putK (sK fr) x.1 (.int ((look fr x.1 : Nat) + (n : Int) * (x.2.2 : Nat))) = sK (add fr x.1 (n * x.2.2)) := sK_put fr x.1 (look fr x.1 + n * x.2.2)
            rw [e8] at d7
            refine ⟨_, _, _, _, rfl, ⟨same_mut c6.sm nG0, ?_, c6.ks.tk kt, d7⟩, fo6.add hx.good, ?_, Paired.mapP pn6 fun a x q => q.tk kt, kt _ _ hst6, hf6⟩
            · rw [upd_ne (c6.fr.ne_frz c6.wy)]
              exact c6.wy
            · rw [upd_ne (c6.fr.ne_lst hL6)]
              exact hL6
          · have hnt : nxTurn line st n fr x = fr := if_neg (by rw [e1]; decide)
            rw [hnt] at hf6
            exact ⟨fr, _, _, _, rfl, c6, fo6, hL6, pn6, hst6, hf6⟩
        · rintro σ H6 ⟨fr, z8, z9, z10, rfl, c6, fo6, hL6, pn6, hst6, hf6⟩
          rw [List.length_map, hnl, List.drop_length] at hf6
          have hf6 : fr = RB := hf6
          subst hf6
          exact ⟨fr, _, _, _, _, _, rfl, c6, fo6, hf3⟩
      · rintro σ H3 ⟨fr, z6, z7, z8, z9, z10, rfl, c3, fo, hf3⟩
        rw [prs_len hk3, List.drop_length] at hf3
        have hf3 : fr = RA := hf3
        rw [← hf3] at hf
        refine ⟨c3.wy, _, rfl, fr, G, _, _, _, _, _, _, _, rfl, same_mut c3.sm nW, nG0, c3.fr.keep (Tk.frz c3.wy) (upd_ne (Ne.symm hWG)), fo, hf⟩
    · rintro σ H2 ⟨ways, Wy, z4, z5, z6, z7, z8, z9, z10, rfl, s2, nW, dW, wo, hf⟩
      rw [List.length_map, hl, List.drop_length] at hf
      have hf : ways = R := hf
      rw [← hf] at hMB
      obtain ⟨kvs, hk1, hk2, hk3⟩ := dW
      refine ⟨Wy, DsO P w Wy kvs, hk1, trivial, fun od => ?_⟩
      refine ⟨_, rfl, Wy, od, kvs, rfl, upd_same, fun L1 nL1 => ?_⟩
      have nL2 : L1 ≠ Wy := fun z => by
        rw [z, upd_same] at nL1
        cases nL1
      have nL3 : H2 L1 = none := by
        rw [upd_ne nL2] at nL1
        exact nL1
      have nL0 : H L1 = none := s2.free nL3
      obtain ⟨g, hg⟩ : ∃ g : List (S × Nat) → List V, g = fun ws => ((ws.filter fun p => decide (p.1.pl = wd)).map fun p => V.int p.2) := ⟨_, rfl⟩
      refine lc_it walk_sitems (fun j H4 => Same H H4 ∧ H4 Wy = some (.frz od (DsO P w Wy kvs)) ∧ KeysAt H4 kvs ∧ H4 L1 = some (.lst (g (ways.take j)))) ?_ ?_ ?_ ?_
      · have s5 : Same (L2.upd H2 Wy (.frz od (DsO P w Wy kvs))) (L2.upd (L2.upd H2 Wy (.frz od (DsO P w Wy kvs))) L1 (.lst [])) := same_new nL1
        refine ⟨same_mut (same_mut s2 nW) nL0, s5 _ _ upd_same, (hk2.tk (Tk.ext hk1)).tk (Same.tk s5), ?_⟩
        rw [upd_same, hg]
        rfl
      · rintro j H4 _ ⟨_, h1, _⟩
        exact h1
      · rintro j x H4 H5 hj ⟨s4, hW4, hk4, hL4⟩ ⟨Tp, e, he, rfl, nT, rfl⟩
        obtain ⟨n, hn1, hn2⟩ := prs_at hk3 he
        obtain ⟨st, sa, sv⟩ := e
        dsimp only at hn1 hn2 nT ⊢
        subst hn2
        have s5 : Same H4 (L2.upd H4 Tp (.tup [.ref sa, .int n])) := same_new nT
        have hsa : H4 sa = some (.tup (skV st)) := hk4 _ (List.mem_of_getElem? he)
        have hgn : g (ways.take (j + 1)) = g (ways.take j) ++ (if st.pl = wd then [V.int n] else []) := by
          rw [List.take_add_one, hn1, hg]
          dsimp only
          rw [List.filter_append, List.map_append]
          congr 1
          show List.map _ (List.filter _ [(st, n)]) = _
          by_cases h : st.pl = wd
          · rw [if_pos h, List.filter_cons_of_pos (by simpa using h)]
            rfl
          · rw [if_neg h, List.filter_cons_of_neg (by simpa using h)]
            rfl
        refine ⟨Tp, _, rfl, .of upd_same, rfl, _, _, rfl, _, _, rfl, rfl, rfl, ?_⟩
        refine ⟨_, rfl, sa, _, 0, _, rfl, rfl, .of (s5 _ _ hsa), atI_nat (j := 0) rfl, _, rfl, rfl, _, rfl, ?_⟩
        rw [dec_nat]
        refine if2 (fun e1 => ?_) (fun e1 => ?_)
        · have e1 := of_decide_eq_true e1
          rw [if_pos e1] at hgn
          have hlen : (g (ways.take j)).length < sizeLine := by
            rw [hg]
            dsimp only
            rw [List.length_map]
            have h1 := List.length_filter_le (fun p : S × Nat => decide (p.1.pl = wd)) (ways.take j)
            have h2 := wo.few hw
            rw [List.length_take] at h1
            rw [sizeLine_eq]
            omega
          refine ⟨_, rfl, _, s5 _ _ hL4, hlen, same_mut (same_mut s4 (s4.free nT)) nL0, ?_, (hk4.tk (Same.tk s5)).tk (Tk.lst (s5 _ _ hL4)), ?_⟩
          · rw [upd_ne (Ne.symm nL2)]
            exact s5 _ _ hW4
          · rw [upd_same, hgn]
        · have e1 := of_decide_eq_false e1
          rw [if_neg e1, List.append_nil] at hgn
          refine ⟨s4.trans s5, s5 _ _ hW4, hk4.tk (Same.tk s5), ?_⟩
          rw [hgn]
          exact s5 _ _ hL4
      · rintro H4 ⟨s4, hW4, hk4, hL4⟩
        rw [prs_len hk3, List.take_length] at hL4
        refine ⟨hW4, L1, ((ways.filter fun p => decide (p.1.pl = wd)).map fun p => ((p.2 : Nat) : Int)), rfl, .of ?_, ?_⟩
        · rw [upd_ne nL2, hL4, hg, List.map_map]
          rfl
        · have e9 : ((ways.filter fun p => decide (p.1.pl = wd)).map fun p => ((p.2 : Nat) : Int)).sum = ((manyBy wd ms line : Nat) : Int) := by
            rw [hMB, ← sum_cast, List.map_map]
            rfl
          rw [e9]
          exact q _ (same_mut s4 nW)
end
end K77
set_option Elab.async false
set_option linter.all false
set_option maxRecDepth 100000
set_option maxHeartbeats 4000000
/-! K77W12: is_line, many_right, many_telling, lines_of_width. -/
namespace K77
open PySem PySem.Spec PyProof.Rows L2
section
variable {P : Program} {w : World} {K : PySem.W.Frag} {mg : Str → Option Value} {base : Heap}
/-! ### is_line -/
def spIsLine : Sp := fun vs H Q _ => ∃ l : Dots, vs = [.str (enc l)] ∧ 1 ≤ l.length ∧ l.length ≤ 40 ∧ ∀ H', Same H H' → Q (.bl true) H'
abbrev nIsLine : List Str := ["thing", "dot"]
theorem scIsLine : FnScope nIsLine ["thing"] (defScope sIsLine) := ⟨rfl, rfl, rfl, by decide +kernel, rfl, by decide +kernel, by decide +kernel⟩
theorem ok_is_line (T : Tx K mg) (D : Stands K mg "is_line" sIsLine) : Has P w K mg base "is_line" ["thing"] 1 spIsLine := by
  obtain ⟨tw, gw⟩ := T.white
  obtain ⟨tb, gb⟩ := T.black
  obtain ⟨t6, g6⟩ := T.MOST_WIDTH
  refine has_of D scIsLine (fun _ _ _ _ _ _ us hl => match us, hl with | [_], _ => rfl) (fun vs H Q E h => ?_) (fun f cdv A outer s H vs Q E hr h => ?_)
  · obtain ⟨l, rfl, _⟩ := h
    rfl
  · obtain ⟨l, rfl, h1, h2, q⟩ := h
    refine ⟨_, pss_cons (ps_if (PW.pt (pw_or (pt_not (pt_val (pe_callB call_isi (by rfl) T.isinstance_ (by decide +kernel) (pa_cons (pv 0) (pa_cons (pe_bltn (v := .ty "str") (by rfl) T.str_ (by decide +kernel) rfl) pa_nil)))))
        (pw_or1 (pt_not (pt_chain op_le op_le pe_int (pe_callB call_len_str (by rfl) T.len_ PySem.boot_len (pa_cons (pv 0) pa_nil)) (pe_gi g6)))))) (pss_one (ps_ret pe_bl)) pss_nil)
      (pss_one (ps_ret (pe_callB (cr_all rfl) (by rfl) T.all_ (by decide +kernel) (pa_cons (pe_lc (own := [("dot", 1)]) (g := gName 1) (tt := tYes) rfl scIsLine.nd (pi_str (pv 0)) (blkOk_by (N := nIsLine) (sc := defScope sIsLine) (by decide +kernel))
        (fun _ _ _ _ _ => pg_name (i := 1) scIsLine.nd rfl (Or.inl rfl)) (fun _ _ _ _ _ => pts_nil) (fun _ _ _ _ _ => pe_cmpR op_in_sign (pv 1) (pe_op op_add_str (pe_gs gw) (pe_gs gb)) (by rfl))) pa_nil)))), ?_⟩
    refine ⟨_, rfl, .str (enc l), .ty "str", _, _, true, rfl, .ty "str", .base (.str _), kit_ty (by decide +kernel), true, rfl, ?_⟩
    refine iteF ?_
    refine ⟨_, rfl, _, rfl, enc_szl (by omega), _, _, rfl, rfl, _, rfl, ifT (decide_eq_true (by rw [enc_len]; omega)) ⟨_, _, rfl, rfl, _, rfl, ?_⟩⟩
    rw [enc_len, decide_eq_true (show (l.length : Int) ≤ 40 by omega)]
    refine iteF ?_
    refine ⟨_, rfl, _, rfl, fun L nL => lc_it walk_str (fun i H2 => Same H H2 ∧ H2 L = some (.lst ((List.replicate i true).map V.bl))) ⟨same_new nL, upd_same⟩ (fun _ _ _ _ => trivial) ?_ ?_⟩
    · rintro i x H2 H3 hi ⟨s2, hL⟩ ⟨rfl, c, hc, rfl⟩
      have hc2 : ∃ d : Bool, c = dc d := by
        have : (enc l).cps.toList[i]? = some c := by
          rw [← hc]
          exact Array.getElem?_toList
        have e : (enc l).cps.toList = l.map dc := List.toList_toArray ..
        rw [e, List.getElem?_map] at this
        cases e2 : l[i]? with
        | none => rw [e2] at this; cases this
        | some d => rw [e2] at this; exact ⟨d, (Option.some.inj this).symm⟩
      obtain ⟨d, rfl⟩ := hc2
      have hz : (enc l).cps.size = l.length := enc_len l
      refine ⟨rfl, _, rfl, _, _, rfl, rfl, by decide, _, _, rfl, rfl, _, hL, by rw [List.length_map, List.length_replicate, sizeLine_eq]; omega, same_mut s2 nL, ?_⟩
      rw [upd_same, List.replicate_succ', List.map_append]
      have e3 : decide (dc d ∈ (col false ++ col true).cps.toList) = true := by
        cases d <;> decide +kernel
      rw [e3]
      rfl
    · rintro H2 ⟨s2, hL⟩
      refine ⟨L, List.replicate (enc l).cps.size true, rfl, .of hL, ?_⟩
      have e4 : (List.replicate (enc l).cps.size true).all id = true := by
        rw [List.all_eq_true]
        intro x hx
        exact List.eq_of_mem_replicate hx
      rw [e4]
      exact q _ s2
/-! ### many_right, many_telling -/
def spManyRight : Sp := fun vs H Q _ => ∃ (wd : Nat) (t : Addr) (ms : List Mode), vs = [.int wd, .ref t] ∧ 1 ≤ wd ∧ wd ≤ 40 ∧ TelAt H t ms ∧ ms.length ≤ 80 ∧ (∀ m ∈ ms, MOk m) ∧ ∀ H', Same H H' → Q (.int (manyBy wd ms none : Nat)) H'
theorem scManyRight : FnScope ["width", "telling"] ["width", "telling"] (defScope sManyRight) := ⟨rfl, rfl, rfl, by decide +kernel, rfl, by decide +kernel, by decide +kernel⟩
theorem ok_many_right (T : Tx K mg) (D : Stands K mg "many_right" sManyRight) (hn : Has P w K mg base "need_beside" ["width", "telling"] 4 spNeedBeside) (hm : Has P w K mg base "many_by" ["width", "telling", "line"] 6 spManyBy) :
    Has P w K mg base "many_right" ["width", "telling"] 7 spManyRight := by
  refine has_of D scManyRight (fun _ _ _ _ _ _ us hl => match us, hl with | [_, _], _ => rfl) (fun vs H Q E h => ?_) (fun f cdv A outer s H vs Q E hr h => ?_)
  · obtain ⟨wd, t, ms, rfl, _⟩ := h
    rfl
  · obtain ⟨wd, t, ms, rfl, h1, hw, ht, h80, mok, q⟩ := h
    refine ⟨_, pss_cons (ps_expr (pe_do hn (hr.mono (by decide)) (pa_cons (pv 0) (pa_cons (pv 1) pa_nil)))) (pss_one (ps_ret (pe_do hm hr (pa_cons (pv 0) (pa_cons (pv 1) (pa_cons pe_non pa_nil)))))), ?_⟩
    refine ⟨_, rfl, _, rfl, wd, t, ms, rfl, h1, hw, ht, h80, mok, fun H1 s1 => ⟨_, rfl, _, rfl, wd, t, ms, none, rfl, hw, ht.same s1, mok, nofun, fun H2 s2 => q H2 (s1.trans s2)⟩⟩
def spManyTelling : Sp := fun vs H Q _ => ∃ (wd : Nat) (t : Addr) (ms : List Mode) (l : Dots), vs = [.int wd, .ref t, .str (enc l)] ∧ 1 ≤ wd ∧ wd ≤ 40 ∧ TelAt H t ms ∧ ms.length ≤ 80 ∧ (∀ m ∈ ms, MOk m) ∧ l.length = wd ∧ ∀ H', Same H H' → Q (.int (manyBy wd ms (some l) : Nat)) H'
theorem scManyTelling : FnScope ["width", "telling", "line"] ["width", "telling", "line"] (defScope sManyTelling) := ⟨rfl, rfl, rfl, by decide +kernel, rfl, by decide +kernel, by decide +kernel⟩
theorem ok_many_telling (T : Tx K mg) (D : Stands K mg "many_telling" sManyTelling) (hn : Has P w K mg base "need_beside" ["width", "telling"] 4 spNeedBeside) (hm : Has P w K mg base "many_by" ["width", "telling", "line"] 6 spManyBy)
    (hi : Has P w K mg base "is_line" ["thing"] 1 spIsLine) : Has P w K mg base "many_telling" ["width", "telling", "line"] 7 spManyTelling := by
  refine has_of D scManyTelling (fun _ _ _ _ _ _ us hl => match us, hl with | [_, _, _], _ => rfl) (fun vs H Q E h => ?_) (fun f cdv A outer s H vs Q E hr h => ?_)
  · obtain ⟨wd, t, ms, l, rfl, _⟩ := h
    rfl
  · obtain ⟨wd, t, ms, l, rfl, h1, hw, ht, h80, mok, hl, q⟩ := h
    refine ⟨_, pss_cons (ps_expr (pe_do hn (hr.mono (by decide)) (pa_cons (pv 0) (pa_cons (pv 1) pa_nil))))
      (pss_cons (ps_if (PW.pt (pw_or (pt_not (pt_val (pe_do hi (hr.mono (by decide)) (pa_cons (pv 2) pa_nil)))) (pw_or1 (pt_cmpR op_ne (pe_callB call_len_str (by rfl) T.len_ PySem.boot_len (pa_cons (pv 2) pa_nil)) (pv 0) (nomark _))))) pss_never pss_nil)
      (pss_one (ps_ret (pe_do hm hr (pa_cons (pv 0) (pa_cons (pv 1) (pa_cons (pv 2) pa_nil))))))), ?_⟩
    refine ⟨_, rfl, _, rfl, wd, t, ms, rfl, h1, hw, ht, h80, mok, fun H1 s1 => ⟨_, rfl, l, rfl, by omega, by omega, fun H2 s2 => ⟨true, rfl, iteF ?_⟩⟩⟩
    refine ⟨_, rfl, _, rfl, enc_szl (l := l) (by omega), _, rfl, rfl, _, rfl, ifF ?_ ?_⟩
    · rw [enc_len, dec_nat, decide_eq_true hl]
      rfl
    exact ⟨_, rfl, _, rfl, _, rfl, wd, t, ms, some l, rfl, hw, ht.same (s1.trans s2), mok, fun l' h => by cases h; omega, fun H3 s3 => q H3 ((s1.trans s2).trans s3)⟩
/-! ### lines_of_width -/
def spLines : Sp := fun vs H Q _ => ∃ n : Nat, vs = [.int n] ∧ n ≤ 12 ∧ ∀ H' L, Same H H' → H L = none → H' L = some (.lst (encL (allL n))) → Q (.ref L) H'
abbrev nLines : List Str := ["width", "found", "place", "line", "dot"]
theorem scLines : FnScope nLines ["width"] (defScope sLinesOfWidth) := ⟨rfl, rfl, rfl, by decide +kernel, rfl, by decide +kernel, by decide +kernel⟩
theorem ok_lines_of_width (T : Tx K mg) (D : Stands K mg "lines_of_width" sLinesOfWidth) : Has P w K mg base "lines_of_width" ["width"] 1 spLines := by
  obtain ⟨tw, gw⟩ := T.white
  obtain ⟨tb, gb⟩ := T.black
  refine has_of D scLines (fun _ _ _ _ _ _ us hl => match us, hl with | [_], _ => rfl) (fun vs H Q E h => ?_) (fun f cdv A outer s H vs Q E hr h => ?_)
  · obtain ⟨n, rfl, _⟩ := h
    rfl
  · obtain ⟨n, rfl, hn, q⟩ := h
    refine ⟨_, pss_cons (ps_set (i := 1) scLines.nd rfl (.inl rfl) (pe_lst (pa_cons pe_str pa_nil)))
      (pss_cons (ps_for PassesOwn.never rfl (pi_range1 (by rfl) T.range_ (pa_cons (pv 0) pa_nil)) (pg_name (i := 2) scLines.nd rfl (.inl rfl))
        (pss_one (ps_setLc2 (i := 1) (own := [("line", 3), ("dot", 4)]) (vs1 := [4]) (g := gName 3) (tt := tYes) (wi1 := iTup K (tTup (tCons (tC (.str (col true))) (tCons (tC (.str (col false))) tNil)))) (g1 := gName 4) (tt1 := tYes) rfl scLines.nd rfl rfl (sw_true rfl rfl rfl (by decide +kernel)) (pi_list (pv 1)) (blkOk_by (N := nLines) (sc := defScope sLinesOfWidth) (by decide +kernel)) (by decide)
          (fun _ _ _ _ _ => pg_name (i := 3) scLines.nd rfl (Or.inl rfl)) (fun _ _ _ _ _ => pts_nil) (fun s0 H0 C0 cl0 fp0 => ?_) (fun _ _ _ _ _ => pg_name (i := 4) scLines.nd rfl (Or.inl rfl)) (fun _ _ _ _ _ => pts_nil) (fun _ _ _ _ _ => pe_op op_add_str (pv 3) (pv 4)))))
      (pss_one (ps_ret (pv 1)))), ?_⟩
    · exact pi_tup (pe_tup (pa_cons (pe_gs gb) (pa_cons (pe_gs gw) pa_nil)))
    refine ⟨few rfl, fun L0 nL0 => ?_⟩
    refine ⟨_, rfl, (n : Int), rfl, by omega, by omega, for_range (fun i σ H2 => Same H H2 ∧ ∃ (L : Addr) (z : Option V), σ = [some (.int n), some (.ref L), z, none, none] ∧ H L = none ∧ H2 L = some (.lst (encL (allL i)))) ⟨same_new nL0, L0, none, rfl, nL0, ?_⟩ ?_ ?_⟩
    · rw [upd_same]
      show some (HO.lst [V.str ""]) = some (HO.lst [V.str (enc [])])
      rw [enc_nil]
    · rintro k σ H2 hk ⟨s2, L, z, rfl, nL, hL⟩
      have hk : k < n := by omega
      have hcnt := allL_count k
      have h2k : 2 ^ k ≤ 2 ^ 12 := Nat.pow_le_pow_right (by decide) (by omega)
      have hlen := allL_len k
      have hnext : allL (k + 1) = (allL k).flatMap fun l => [l ++ [true], l ++ [false]] := rfl
      rw [hnext]
      generalize allL k = src at hL hcnt hlen ⊢
      refine ⟨_, rfl, L, rfl, ⟨_, .of hL⟩, fun D nD => ?_⟩
      have nD0 : H D = none := s2.free nD
      have hLD : L ≠ D := fun z => by
        rw [z, nD] at hL
        cases hL
      refine ⟨fun i m H3 => m = src.length - i ∧ i ≤ src.length ∧ Same H H3 ∧ H3 L = some (.lst (encL src)) ∧ H3 D = some (.lst (encL ((src.take i).flatMap fun l => [l ++ [true], l ++ [false]]))), ⟨_, rfl, Nat.zero_le _, s2.trans (same_new nD), same_new nD _ _ hL, upd_same⟩, ?_⟩
      rintro i m H3 ⟨rfl, hi, s3, hL3, hD3⟩
      by_cases hlt : i < src.length
      · have hg : src[i]? = some src[i] := List.getElem?_eq_getElem hlt
        have hx0 : (encL src)[i]? = some (.str (enc src[i])) := by
          unfold encL
          rw [List.getElem?_map, hg]
          rfl
        refine .inr ⟨⟨_, _, .of hL3, hx0⟩, fun H' => Same H H' ∧ H' L = some (.lst (encL src)) ∧ H' D = some (.lst (encL ((src.take (i + 1)).flatMap fun l => [l ++ [true], l ++ [false]]))), fun H' p' => ⟨src.length - (i + 1), by omega, rfl, hlt, p'⟩, ?_⟩
        rintro x H4 ⟨rfl, fx⟩
        have ex := (fx _ (.of hL3)).symm.trans hx0
        have ex := Option.some.inj ex
        subst ex
        have hl1 := hlen _ (List.getElem_mem hlt)
        have hnx : (src.take (i + 1)).flatMap (fun l => [l ++ [true], l ++ [false]]) = (src.take i).flatMap (fun l => [l ++ [true], l ++ [false]]) ++ [src[i] ++ [true], src[i] ++ [false]] := by
          rw [List.take_add_one, hg, List.flatMap_append]
          rfl
        rw [hnx]
        have hA : ((src.take i).flatMap (fun l => [l ++ [true], l ++ [false]])).length ≤ 2 * 4096 := by
          have := flat_len (f := fun l : Dots => [l ++ [true], l ++ [false]]) (n := 2) (src.take i) fun _ _ => Nat.le_refl _
          refine Nat.le_trans this ?_
          rw [List.length_take]
          omega
        generalize src[i] = l at hl1 ⊢
        generalize (src.take i).flatMap (fun l => [l ++ [true], l ++ [false]]) = made at hD3 hA ⊢
        refine ⟨rfl, few rfl, fun Tp nT => ⟨Tp, rfl, ⟨_, .of upd_same⟩, ?_⟩⟩
        have s5 : Same H4 (L2.upd H4 Tp (.tup [.str (col true), .str (col false)])) := same_new nT
        refine ⟨fun j q H5 => q = 2 - j ∧ j ≤ 2 ∧ Same H H5 ∧ H5 L = some (.lst (encL src)) ∧ H5 Tp = some (.tup [.str (col true), .str (col false)]) ∧ H5 D = some (.lst (encL (made ++ [l ++ [true], l ++ [false]].take j))), ⟨_, rfl, Nat.zero_le _, s3.trans s5, s5 _ _ hL3, upd_same, ?_⟩, ?_⟩
        · rw [s5 _ _ hD3]
          show _ = some (HO.lst (encL (made ++ [])))
          rw [List.append_nil]
        rintro j q5 H5 ⟨rfl, hj, s6, hL6, hT6, hD6⟩
        by_cases hj2 : j < 2
        · obtain ⟨c, hc, hc2⟩ : ∃ c : Bool, [V.str (col true), V.str (col false)][j]? = some (.str (col c)) ∧ [l ++ [true], l ++ [false]].take (j + 1) = [l ++ [true], l ++ [false]].take j ++ [l ++ [c]] := by
            match j, hj2 with
            | 0, _ => exact ⟨true, rfl, rfl⟩
            | 1, _ => exact ⟨false, rfl, rfl⟩
          refine .inr ⟨⟨_, _, .of hT6, hc⟩, fun H' => Same H H' ∧ H' L = some (.lst (encL src)) ∧ H' Tp = some (.tup [.str (col true), .str (col false)]) ∧ H' D = some (.lst (encL (made ++ [l ++ [true], l ++ [false]].take (j + 1)))), fun H' p' => ⟨2 - (j + 1), by omega, rfl, hj2, p'⟩, ?_⟩
          rintro x H7 ⟨rfl, fx⟩
          have ex := Option.some.inj ((fx _ (.of hT6)).symm.trans hc)
          subst ex
          refine ⟨rfl, _, rfl, _, rfl, _, _, rfl, rfl, ?_, _, hD6, ?_, same_mut s6 nD0, ?_, ?_, ?_⟩
          · rw [enc_len, sizeLine_eq]
            show l.length + (enc [c]).length ≤ _
            rw [enc_len]
            show l.length + 1 ≤ _
            omega
          · unfold encL
            rw [List.length_map, List.length_append, List.length_take, sizeLine_eq]
            show made.length + min j 2 < _
            omega
          · rw [upd_ne hLD]
            exact hL6
          · rw [upd_ne (two hT6 hD6 (by nofun))]
            exact hT6
          · rw [upd_same, hc2]
            unfold encL
            rw [← List.append_assoc, List.map_append (l₂ := [l ++ [c]])]
            show some (HO.lst (_ ++ [V.str (enc l ++ col c)])) = some (HO.lst (_ ++ [V.str (enc (l ++ [c]))]))
            rw [show enc l ++ col c = enc (l ++ [c]) from enc_app l [c]]
        · have hj3 : j = 2 := by omega
          subst hj3
          exact .inl ⟨⟨_, .of hT6, Nat.le_refl _⟩, s6, hL6, hD6⟩
      · have hi2 : i = src.length := by omega
        subst hi2
        rw [List.take_length] at hD3
        exact .inl ⟨⟨_, .of hL3, by unfold encL; rw [List.length_map]; exact Nat.le_refl _⟩, s3, D, _, rfl, nD0, hD3⟩
    · rintro σ H2 ⟨s2, L, z, rfl, nL, hL⟩
      exact ⟨_, rfl, q _ L s2 nL hL⟩
end
end K77
set_option Elab.async false
set_option linter.all false
set_option maxRecDepth 100000
set_option maxHeartbeats 4000000
/-! K77W13: apart, alike. -/
namespace K77
open PySem PySem.Spec PyProof.Rows L2
section
variable {P : Program} {w : World} {K : PySem.W.Frag} {mg : Str → Option Value} {base : Heap}
/-- the first reference beside which two tellings tell unlike -/
def apartM (n : Nat) (ms ns : List Mode) : Option Dots := (allL n).find? fun x => !decide (rd x ms = rd x ns)
theorem lineV_dec (a b : Option Dots) : decide (lineV a = lineV b) = decide (a = b) := by
  apply decide_eq_decide.mpr
  cases a <;> cases b
  · exact ⟨fun _ => rfl, fun _ => rfl⟩
  · exact ⟨nofun, nofun⟩
  · exact ⟨nofun, nofun⟩
  · constructor
    · intro h
      injection h with h
      rw [enc_inj h]
    · intro h
      rw [h]
theorem lineV_scal (a b : Option Dots) : scal (lineV a) (lineV b) = true := by
  cases a <;> cases b <;> rfl
def spApart : Sp := fun vs H Q _ => ∃ (n : Nat) (a b : Addr) (ms ns : List Mode), vs = [.int n, .ref a, .ref b] ∧ 1 ≤ n ∧ n ≤ 12 ∧ TelAt H a ms ∧ ms.length ≤ 80 ∧ (∀ m ∈ ms, MOk m) ∧ TelAt H b ns ∧ ns.length ≤ 80 ∧ (∀ m ∈ ns, MOk m) ∧
  ∀ H', Same H H' → Q (lineV (apartM n ms ns)) H'
theorem scApart : FnScope ["width", "one", "other", "reference"] ["width", "one", "other"] (defScope sApart) := ⟨rfl, rfl, rfl, by decide +kernel, rfl, by decide +kernel, by decide +kernel⟩
theorem ok_apart (T : Tx K mg) (D : Stands K mg "apart" sApart) (hn : Has P w K mg base "need_two" ["width", "one", "other"] 5 spNeedTwo) (hl : Has P w K mg base "lines_of_width" ["width"] 1 spLines) (hr' : Has P w K mg base "read_beside" ["reference", "telling"] 3 spReadBeside) :
    Has P w K mg base "apart" ["width", "one", "other"] 6 spApart := by
  refine has_of D scApart (fun _ _ _ _ _ _ us hl => match us, hl with | [_, _, _], _ => rfl) (fun vs H Q E h => ?_) (fun f cdv A outer s H vs Q E hr h => ?_)
  · obtain ⟨n, a, b, ms, ns, rfl, _⟩ := h
    rfl
  · obtain ⟨n, a, b, ms, ns, rfl, h1, h2, ht, h80, mok, ht2, h802, mok2, q⟩ := h
    refine ⟨_, pss_cons (ps_expr (pe_do hn hr (pa_cons (pv 0) (pa_cons (pv 1) (pa_cons (pv 2) pa_nil)))))
      (pss_cons (ps_for PassesOwn.never rfl (pi_list (pe_do hl (hr.mono (by decide)) (pa_cons (pv 0) pa_nil))) (pg_name (i := 3) scApart.nd rfl (.inl rfl))
        (pss_one (ps_if (pt_cmpR op_ne (pe_do hr' (hr.mono (by decide)) (pa_cons (pv 3) (pa_cons (pv 1) pa_nil))) (pe_do hr' (hr.mono (by decide)) (pa_cons (pv 3) (pa_cons (pv 2) pa_nil))) (nomark _)) (pss_one (ps_ret (pv 3))) pss_nil)))
      (pss_one (ps_ret pe_non))), ?_⟩
    refine ⟨_, rfl, _, rfl, _, rfl, n, a, b, ms, ns, rfl, h1, h2, ht, h80, mok, ht2, h802, mok2, fun H1 s1 => ?_⟩
    refine ⟨_, rfl, n, rfl, h2, fun H2 L s2 nL hL => ?_⟩
    have hlen := allL_len n
    unfold apartM at q
    generalize allL n = src at hL hlen q
    obtain ⟨R, hR⟩ : ∃ R, R = src.find? fun x => !decide (rd x ms = rd x ns) := ⟨_, rfl⟩
    rw [← hR] at q
    refine ⟨L, rfl, ⟨_, .of hL⟩, for_list (xs := encL src) (fun i σ H3 => ∃ z, σ = [some (.int n), some (.ref a), some (.ref b), z] ∧ Same H H3 ∧ H3 L = some (.lst (encL src)) ∧ (src.drop i).find? (fun x => !decide (rd x ms = rd x ns)) = R) ⟨none, rfl, s1.trans s2, hL, hR.symm⟩ (fun i σ H3 _ hP => ?_) ?_ ?_⟩
    · obtain ⟨_, _, _, h, _⟩ := hP
      exact .of h
    · rintro i v σ H3 hv ⟨z, rfl, s3, hL3, hf⟩
      have hi : i < src.length := by
        have := (List.getElem?_eq_some_iff.mp hv).1
        unfold encL at this
        rw [List.length_map] at this
        exact this
      have hg : src[i]? = some src[i] := List.getElem?_eq_getElem hi
      have ev : v = .str (enc src[i]) := by
        unfold encL at hv
        rw [List.getElem?_map, hg] at hv
        exact (Option.some.inj hv).symm
      subst ev
      have hl1 := hlen _ (List.getElem_mem hi)
      rw [List.drop_eq_getElem_cons hi, List.find?_cons] at hf
      generalize src[i] = x at hl1 hf ⊢
      refine ⟨_, rfl, _, rfl, x, a, ms, rfl, by omega, ht.same s3, mok, fun H4 s4 => ⟨_, rfl, _, rfl, x, b, ns, rfl, by omega, ht2.same (s3.trans s4), mok2, fun H5 s5 => ⟨lineV_scal _ _, _, rfl, ?_⟩⟩⟩
      rw [lineV_dec]
      have s6 := (s3.trans s4).trans s5
      refine if2 (fun e => ?_) (fun e => ?_)
      · rw [e] at hf
        rw [← show some x = R from hf] at q
        exact ⟨_, rfl, q _ s6⟩
      · rw [e] at hf
        exact ⟨_, rfl, s6, s5 _ _ (s4 _ _ hL3), hf⟩
    · rintro σ H3 ⟨z, rfl, s3, hL3, hf⟩
      rw [show (encL src).length = src.length from List.length_map .., List.drop_length] at hf
      rw [← show none = R from hf] at q
      exact q _ s3
def spAlike : Sp := fun vs H Q _ => ∃ (n : Nat) (a b : Addr) (ms ns : List Mode), vs = [.int n, .ref a, .ref b] ∧ 1 ≤ n ∧ n ≤ 12 ∧ TelAt H a ms ∧ ms.length ≤ 80 ∧ (∀ m ∈ ms, MOk m) ∧ TelAt H b ns ∧ ns.length ≤ 80 ∧ (∀ m ∈ ns, MOk m) ∧
  ∀ H', Same H H' → Q (.bl (decide (apartM n ms ns = none))) H'
theorem scAlike : FnScope ["width", "one", "other"] ["width", "one", "other"] (defScope sAlike) := ⟨rfl, rfl, rfl, by decide +kernel, rfl, by decide +kernel, by decide +kernel⟩
theorem ok_alike (T : Tx K mg) (D : Stands K mg "alike" sAlike) (ha : Has P w K mg base "apart" ["width", "one", "other"] 6 spApart) : Has P w K mg base "alike" ["width", "one", "other"] 7 spAlike := by
  refine has_of D scAlike (fun _ _ _ _ _ _ us hl => match us, hl with | [_, _, _], _ => rfl) (fun vs H Q E h => ?_) (fun f cdv A outer s H vs Q E hr h => ?_)
  · obtain ⟨n, a, b, ms, ns, rfl, _⟩ := h
    rfl
  · obtain ⟨n, a, b, ms, ns, rfl, h1, h2, ht, h80, mok, ht2, h802, mok2, q⟩ := h
    refine ⟨_, pss_one (ps_ret (pe_cmpR op_isN (pe_do ha hr (pa_cons (pv 0) (pa_cons (pv 1) (pa_cons (pv 2) pa_nil)))) pe_non (nomark _))), ?_⟩
    refine ⟨_, rfl, _, rfl, _, rfl, n, a, b, ms, ns, rfl, h1, h2, ht, h80, mok, ht2, h802, mok2, fun H1 s1 => ⟨rfl, ?_⟩⟩
    rw [show decide (lineV (apartM n ms ns) = V.non) = decide (apartM n ms ns = none) from lineV_dec _ none]
    exact q _ s1
end
end K77
set_option Elab.async false
set_option linter.all false
set_option maxRecDepth 100000
set_option maxHeartbeats 4000000
/-! K77W14: layers_of. -/
namespace K77
open PySem PySem.Spec PyProof.Rows L2
def tK (ss : List S) : List (S × V) := ss.map fun s => (s, .bl true)
theorem tK_any (ss : List S) (k : S) : ((tK ss).any fun kv => decide (kv.1 = k)) = decide (k ∈ ss) := by
  unfold tK
  rw [List.any_map, Bool.eq_iff_iff, List.any_eq_true, decide_eq_true_iff]
  constructor
  · rintro ⟨x, hx, h⟩
    exact of_decide_eq_true h ▸ hx
  · intro h
    exact ⟨k, h, decide_eq_true rfl⟩
theorem tK_put (ss : List S) (k : S) : putK (tK ss) k (.bl true) = tK (ins ss k) := by
  unfold putK ins
  by_cases h : k ∈ ss
  · rw [if_pos (by rw [tK_any]; exact decide_eq_true h), if_pos h]
    unfold tK
    rw [List.map_map]
    refine List.map_congr_left fun s _ => ?_
    dsimp only [Function.comp]
    split
    · rename_i e
      rfl
    · rfl
  · rw [if_neg (by rw [tK_any]; simpa using h), if_neg h]
    unfold tK
    rw [List.map_append]
    rfl
theorem tK_len (ss : List S) : (tK ss).length = ss.length := List.length_map ..
theorem tK_val (ss : List S) (k : S) : (valV (tK ss) k).isSome = decide (k ∈ ss) := by
  unfold valV
  rw [Option.isSome_map, ← tK_any, Bool.eq_iff_iff, List.find?_isSome]
  simp
theorem prs_tK {kvs : List Ent} {ss : List S} (h : prs kvs = tK ss) {i : Nat} {e : Ent} (he : kvs[i]? = some e) : ss[i]? = some e.1 := by
  have e1 : (prs kvs)[i]? = some (e.1, e.2.2) := by
    unfold prs
    rw [List.getElem?_map, he]
    rfl
  rw [h] at e1
  unfold tK at e1
  rw [List.getElem?_map] at e1
  cases e2 : ss[i]? with
  | none => rw [e2] at e1; cases e1
  | some p =>
    rw [e2] at e1
    have e1 := Option.some.inj e1
    injection e1 with a b
    rw [← a]
theorem prs_tlen {kvs : List Ent} {ss : List S} (h : prs kvs = tK ss) : kvs.length = ss.length := by
  have := congrArg List.length h
  rw [tK_len] at this
  unfold prs at this
  rw [List.length_map] at this
  exact this
section
variable {P : Program} {w : World} {K : PySem.W.Frag} {mg : Str → Option Value} {base : Heap}
abbrev LaysAt (P : Program) (w : World) (H : Hp) : List Addr → List (List S) → Prop := Paired fun a ss => DsAt P w H a (tK ss)
theorem LaysAt.same {H H' : Hp} {as : List Addr} {xs : List (List S)} (h : LaysAt P w H as xs) (s : Same H H') : LaysAt P w H' as xs := Paired.mapP h fun a x q => q.same s
theorem LaysAt.keep {H H' : Hp} {as : List Addr} {xs : List (List S)} (h : LaysAt P w H as xs) (k : Tk H H') (e : ∀ a ∈ as, H' a = H a) : LaysAt P w H' as xs := by
  induction h with
  | nil => exact .nil
  | @cons a b as bs q t ih => exact .cons (q.keep k (e a List.mem_cons_self)) (ih fun c hc => e c (List.mem_cons_of_mem _ hc))
theorem LaysAt.some {H : Hp} {as : List Addr} {xs : List (List S)} (h : LaysAt P w H as xs) : ∀ a ∈ as, ∃ φ, H a = Option.some (.ext φ) := by
  induction h with
  | nil => exact fun _ h => nomatch h
  | @cons a b as bs q t ih =>
    intro c hc
    rcases List.mem_cons.mp hc with rfl | hc
    · exact q.ext
    · exact ih c hc
/-- the layers' list on the heap -/
def LayersAt (P : Program) (w : World) (H0 H : Hp) (L : Addr) (xs : List (List S)) : Prop := ∃ as : List Addr, (∀ b ∈ as, H0 b = none) ∧ as.Nodup ∧ H L = some (.lst (as.map V.ref)) ∧ LaysAt P w H as xs
structure GIn (P : Program) (w : World) (H H2 : Hp) (L G a : Addr) (od : Obj) (kvs : List Ent) (as : List Addr) (done : List (List S)) (fr : List S) : Prop where
  sm : Same H H2
  ll : H2 L = some (.lst ((as ++ [a]).map V.ref))
  wy : H2 a = some (.frz od (DsO P w a kvs))
  ks : KeysAt H2 kvs
  fr : DsAt P w H2 G (tK fr)
  dn : LaysAt P w H2 as done
theorem GIn.same {H H2 H3 : Hp} {L G a : Addr} {od : Obj} {kvs : List Ent} {as : List Addr} {done : List (List S)} {fr : List S} (h : GIn P w H H2 L G a od kvs as done fr) (s : Same H2 H3) : GIn P w H H3 L G a od kvs as done fr :=
  ⟨h.sm.trans s, s _ _ h.ll, s _ _ h.wy, h.ks.tk (Same.tk s), h.fr.same s, h.dn.same s⟩
theorem GIn.put {H H2 : Hp} {L G a : Addr} {od : Obj} {kvs : List Ent} {as : List Addr} {done : List (List S)} {fr : List S} {s : S} {o : HO} (h : GIn P w H H2 L G a od kvs as done fr) (nG : H G = none) (hG : G ∉ as) (d : DsAt P w (L2.upd H2 G o) G (putK (tK fr) s (.bl true))) :
    GIn P w H (L2.upd H2 G o) L G a od kvs as done (ins fr s) := by
  obtain ⟨φ, hGe⟩ := h.fr.ext
  have kt : Tk H2 (L2.upd H2 G o) := Tk.ext hGe
  rw [tK_put] at d
  refine ⟨same_mut h.sm nG, ?_, ?_, h.ks.tk kt, d, h.dn.keep kt fun b hb => upd_ne fun z => hG (z ▸ hb)⟩
  · rw [upd_ne (h.fr.ne_lst h.ll)]
    exact h.ll
  · rw [upd_ne (h.fr.ne_frz h.wy)]
    exact h.wy
def spLayers (P : Program) (w : World) : Sp := fun vs H Q _ => ∃ (wd : Nat) (t : Addr) (ms : List Mode), vs = [.int wd, .ref t] ∧ wd ≤ 40 ∧ TelAt H t ms ∧ ms.length ≤ 80 ∧ (∀ m ∈ ms, MOk m) ∧
  ∀ H' L, Same H H' → H L = none → LayersAt P w H H' L (layers wd ms) → Q (.ref L) H'
abbrev nLayers : List Str := ["width", "telling", "layers", "mode", "fresh", "state", "there", "dots", "count"]
theorem scLayers : FnScope nLayers ["width", "telling"] (defScope sLayersOf) := ⟨rfl, rfl, rfl, by decide +kernel, rfl, by decide +kernel, by decide +kernel⟩
theorem ok_layers_of (T : Tx K mg) (D : Stands K mg "layers_of" sLayersOf) (hn : Has P w K mg base "next_states" ["width", "state", "mode"] 5 spNexts) : Has P w K mg base "layers_of" ["width", "telling"] 6 (spLayers P w) := by
  obtain ⟨tw, gw⟩ := T.white
  refine has_of D scLayers (fun _ _ _ _ _ _ us hl => match us, hl with | [_, _], _ => rfl) (fun vs H Q E h => ?_) (fun f cdv A outer s H vs Q E hr h => ?_)
  · obtain ⟨wd, t, ms, rfl, _⟩ := h
    rfl
  · obtain ⟨wd, t, ms, rfl, hw, ht, h80, mok, q⟩ := h
    refine ⟨_, pss_cons (ps_set (i := 2) scLayers.nd rfl (.inl rfl) (pe_lst (pa_cons (pe_sone (Room.u0 hr) (pe_tup (pa_cons pe_int (pa_cons (pe_gs gw) (pa_cons pe_bl (pa_cons pe_str pa_nil))))) pe_bl) pa_nil)))
      (pss_cons (ps_for PassesOwn.never rfl (pi_tup (pv 1)) (pg_name (i := 3) scLayers.nd rfl (.inl rfl))
        (pss_cons (ps_set (i := 4) scLayers.nd rfl (.inl rfl) pe_snew)
        (pss_cons (ps_lock (ps_for PassesOwn.never rfl (pi_skeys (pe_ix ix_list (pv 2) (pe_un un_neg pe_int) (fun _ _ => rfl))) (pg_name (i := 5) scLayers.nd rfl (.inl rfl))
          (pss_one (ps_for PassesOwn.never rfl (pi_list (pe_do hn hr (pa_cons (pv 0) (pa_cons (pv 5) (pa_cons (pv 3) pa_nil))))) (pg_tup rfl (pgs_cons (pg_name (i := 6) scLayers.nd rfl (.inl rfl)) (pgs_cons (pg_name (i := 7) scLayers.nd rfl (.inl rfl)) (pgs_cons (pg_name (i := 8) scLayers.nd rfl (.inl rfl)) pgs_nil))))
            (pss_one (ps_sput (Room.u1 hr) (pv 4) (pv 6) pe_bl rfl))))))
        (pss_one (ps_expr (pe_bm PySem.F.plainAttrs_list PySem.F.slot_list_append PySem.F.type_list_append mt_append (pv 2) (pa_cons (pv 4) pa_nil)))))))
      (pss_one (ps_ret (pv 2)))), ?_⟩
    obtain ⟨as, hta, hl, get⟩ := ht.get
    refine fun W0 nW0 => ⟨few rfl, fun b0 nb0 => ⟨b0, sBegin, rfl, ?_, same_new nb0 _ _ upd_same, fun o0 d0 => ?_⟩⟩
    · rw [upd_same]
      show some (HO.tup [_, _, _, V.str ""]) = some (HO.tup [_, _, _, V.str (enc [])])
      rw [enc_nil]
      rfl
    refine ⟨few rfl, fun L nL => ?_⟩
    have s0 := same_mut (o := o0) ((same_new (o := DsO P w W0 []) nW0).trans (same_new (o := .tup [.int 0, .str (col false), .bl false, .str ""]) nb0)) nW0
    have nL0 : H L = none := s0.free nL
    have s1 := s0.trans (same_new (o := .lst [.ref W0]) nL)
    have d1 := DsAt.same d0 (same_new (o := .lst [.ref W0]) nL)
    obtain ⟨R, hR⟩ : ∃ R, R = layers wd ms := ⟨_, rfl⟩
    have hlo := lays_ok (w := wd) ms [sBegin] (fun m hm d hd => by have := mok m hm; rw [hd] at this; exact this.1) LayOk.begin
    have hll := lays_len (w := wd) ms [sBegin]
    refine ⟨_, rfl, t, rfl, ⟨_, .of (s1 _ _ hta)⟩, for_tup (xs := as.map V.ref) (fun i σ H2 => ∃ (ls : List Addr) (a : Addr) (done : List (List S)) (cur : List S) (z3 z4 z5 z6 z7 z8 : Option V), σ = [some (.int wd), some (.ref t), some (.ref L), z3, z4, z5, z6, z7, z8] ∧
      Same H H2 ∧ H2 L = some (.lst ((ls ++ [a]).map V.ref)) ∧ (ls ++ [a]).Nodup ∧ (∀ b ∈ ls ++ [a], H b = none) ∧ LaysAt P w H2 ls done ∧ DsAt P w H2 a (tK cur) ∧ LayOk wd cur ∧ done.length = i ∧ done ++ lays wd (ms.drop i) cur = R)
      ⟨[], W0, [], [sBegin], none, none, none, none, none, none, rfl, s1, upd_same, by simp, (fun b hb => by rw [List.mem_singleton.mp hb]; exact nW0), .nil, d1, LayOk.begin, rfl, hR.symm⟩ (fun i σ H2 _ hP => ?_) ?_ ?_⟩
    · obtain ⟨_, _, _, _, _, _, _, _, _, _, _, s2, _⟩ := hP
      exact .of (s2 _ _ hta)
    · rintro i v σ H2 hv ⟨ls, a, done, cur, z3, z4, z5, z6, z7, z8, rfl, s2, hL, hnd, nAll, hdn, dC, co, hdl, hf⟩
      have nA : H a = none := nAll a (List.mem_append_right _ List.mem_cons_self)
      have hi : i < ms.length := by
        rw [← hl, ← List.length_map (f := V.ref) (as := as)]
        exact (List.getElem?_eq_some_iff.mp hv).1
      obtain ⟨ma, hma, hmm⟩ := get i ms[i] (List.getElem?_eq_getElem hi)
      have ev : v = .ref ma := by
        rw [List.getElem?_map, hma] at hv
        exact (Option.some.inj hv).symm
      subst ev
      have hok := mok _ (List.getElem_mem hi)
      rw [List.drop_eq_getElem_cons hi] at hf
      generalize ms[i] = m at hmm hok hf
      have hmd : ∀ d, m = .stay d → -3 ≤ d := fun d hd => by
        rw [hd] at hok
        exact hok.1
      have hf : done ++ cur :: lays wd (ms.drop (i + 1)) (layNext wd m cur) = R := hf
      obtain ⟨RA, hRA⟩ : ∃ RA, RA = cur.foldl (layTurn wd m) [] := ⟨_, rfl⟩
      rw [show layNext wd m cur = RA from hRA.symm] at hf
      refine fun G nG => ?_
      have nG0 : H G = none := s2.free nG
      have s3 : Same H2 (L2.upd H2 G (DsO P w G [])) := same_new nG
      have hGls : G ∉ ls := fun z => by
        obtain ⟨φ, e⟩ := hdn.some G z
        rw [nG] at e
        cases e
      have hGa : a ≠ G := fun z => by
        obtain ⟨φ, e⟩ := dC.ext
        rw [z, nG] at e
        cases e
      have hals : a ∉ ls := fun z => (List.nodup_append.mp hnd).2.2 a z a List.mem_cons_self rfl
      obtain ⟨kvs, hk1, hk2, hk3⟩ := dC.same s3
      have hLa : L ≠ a := two (s3 _ _ hL) hk1 (by nofun)
      refine ⟨a, DsO P w a kvs, hk1, trivial, fun od => ?_⟩
      have c0 : GIn P w H (L2.upd (L2.upd H2 G (DsO P w G [])) a (.frz od (DsO P w a kvs))) L G a od kvs ls done [] := by
        refine ⟨same_mut (s2.trans s3) nA, ?_, upd_same, hk2.tk (Tk.ext hk1), DsAt.new.keep (Tk.ext hk1) (upd_ne (Ne.symm hGa)), (hdn.same s3).keep (Tk.ext hk1) fun b hb => upd_ne fun z => hals (z ▸ hb)⟩
        rw [upd_ne hLa]
        exact s3 _ _ hL
      refine ⟨_, rfl, 1, rfl, L, _, _, _, rfl, rfl, .of c0.ll, by rw [List.map_append]; exact atI_last _ _, a, od, kvs, rfl, c0.wy, for_it walk_skeys (fun j σ H3 => ∃ (fr : List S) (z5 z6 z7 z8 : Option V), σ = [some (.int wd), some (.ref t), some (.ref L), some (.ref ma), some (.ref G), z5, z6, z7, z8] ∧
        GIn P w H H3 L G a od kvs ls done fr ∧ LayOk wd fr ∧ (cur.drop j).foldl (layTurn wd m) fr = RA) ⟨[], z5, z6, z7, z8, rfl, c0, LayOk.nil, hRA.symm⟩ (fun j σ H3 _ hP => ?_) ?_ ?_⟩
      · obtain ⟨_, _, _, _, _, _, c3, _⟩ := hP
        exact c3.wy
      · rintro j x σ H3 H4 hj ⟨fr, z5, z6, z7, z8, rfl, c3, fo, hf3⟩ ⟨rfl, e, he, rfl⟩
        have hc := prs_tK hk3 he
        have hcj : j < cur.length := (List.getElem?_eq_some_iff.mp hc).1
        have hcw : cur[j] = e.1 := (List.getElem?_eq_some_iff.mp hc).2
        rw [List.drop_eq_getElem_cons hcj, List.foldl_cons, hcw] at hf3
        have sg : SGood wd e.1 := by
          have := co.good _ (List.getElem_mem hcj)
          rw [hcw] at this
          exact this
        have hsa : H4 e.2.1 = some (.tup (skV e.1)) := c3.ks _ (List.mem_of_getElem? he)
        obtain ⟨st, sa, sv⟩ := e
        dsimp only at hf3 sg hsa ⊢
        refine ⟨_, rfl, _, rfl, _, rfl, wd, st, sa, ma, m, rfl, hsa, c3.sm _ _ hmm, hok, hw, sg, fun H5 L5 s5 nL5 hL5 => ?_⟩
        have c5 := c3.same s5
        have nok := nexts_ok (m := m) sg hmd
        have hwt : layTurn wd m fr st = (nexts wd st m).foldl (fun fr x => ins fr x.1) fr := rfl
        obtain ⟨RB, hRB⟩ : ∃ RB, RB = layTurn wd m fr st := ⟨_, rfl⟩
        rw [← hRB] at hf3 hwt
        generalize nexts wd st m = nx at nok hL5 hwt
        obtain ⟨ns, hLa5, pn⟩ := hL5
        have hnl : ns.length = nx.length := Paired.length pn
        refine ⟨L5, rfl, ⟨_, .of hLa5⟩, for_list (xs := ns.map V.ref) (fun l σ H6 => ∃ (fr : List S) (z6 z7 z8 : Option V), σ = [some (.int wd), some (.ref t), some (.ref L), some (.ref ma), some (.ref G), some (.ref sa), z6, z7, z8] ∧
          GIn P w H H6 L G a od kvs ls done fr ∧ LayOk wd fr ∧ H6 L5 = some (.lst (ns.map V.ref)) ∧ Paired (NxAt H6) ns nx ∧ (nx.drop l).foldl (fun fr x => ins fr x.1) fr = RB) ⟨fr, z6, z7, z8, rfl, c5, fo, hLa5, pn, hwt.symm⟩ (fun l σ H6 _ hP => ?_) ?_ ?_⟩
        · obtain ⟨_, _, _, _, _, _, _, h1, _⟩ := hP
          exact .of h1
        · rintro l v σ H6 hv ⟨fr, z6, z7, z8, rfl, c6, fo6, hL6, pn6, hf6⟩
          have hl2 : l < nx.length := by
            rw [← hnl, ← List.length_map (f := V.ref) (as := ns)]
            exact (List.getElem?_eq_some_iff.mp hv).1
          have hg : nx[l]? = some nx[l] := List.getElem?_eq_getElem hl2
          obtain ⟨a0, ha0, hx0⟩ := pget pn6 hg
          have ev : v = .ref a0 := by
            rw [List.getElem?_map, ha0] at hv
            exact (Option.some.inj hv).symm
          subst ev
          rw [List.drop_eq_getElem_cons hl2, List.foldl_cons] at hf6
          have hx := nok _ (List.getElem_mem hl2)
          generalize nx[l] = x at hx hx0 hf6
          obtain ⟨bt, h1, h2⟩ := hx0
          refine ⟨a0, _, rfl, .of h1, rfl, _, _, rfl, _, _, rfl, _, _, rfl, rfl, ?_⟩
          refine ⟨_, rfl, _, rfl, G, bt, _, x.1, rfl, rfl, c6.fr, h2, by rw [tK_len, sizeLine_eq]; have := fo6.few hw; omega, fun o d7 => ?_⟩
          obtain ⟨φ, hGe⟩ := c6.fr.ext
          have kt : Tk H6 (L2.upd H6 G o) := Tk.ext hGe
          refine ⟨_, _, _, _, rfl, c6.put nG0 hGls d7, fo6.ins hx.good, ?_, Paired.mapP pn6 fun a x q => q.tk kt, hf6⟩
          rw [upd_ne (c6.fr.ne_lst hL6)]
          exact hL6
        · rintro σ H6 ⟨fr, z6, z7, z8, rfl, c6, fo6, hL6, pn6, hf6⟩
          rw [List.length_map, hnl, List.drop_length] at hf6
          have hf6 : fr = RB := hf6
          subst hf6
          exact ⟨fr, _, _, _, _, rfl, c6, fo6, hf3⟩
      · rintro σ H3 ⟨fr, z5, z6, z7, z8, rfl, c3, fo, hf3⟩
        rw [prs_tlen hk3, List.drop_length] at hf3
        have hf3 : fr = RA := hf3
        subst hf3
        refine ⟨c3.wy, ?_⟩
        have kt : Tk H3 (L2.upd H3 a (DsO P w a kvs)) := Tk.frz c3.wy
        have hL4 : (L2.upd H3 a (DsO P w a kvs)) L = some (.lst ((ls ++ [a]).map V.ref)) := by
          rw [upd_ne hLa]
          exact c3.ll
        have hdl2 : ls.length = done.length := Paired.length hdn
        refine ⟨_, rfl, .inl ⟨rfl, _, .of hL4⟩, _, rfl, L, _, _, rfl, rfl, hL4, by rw [List.length_map, List.length_append, sizeLine_eq]; show ls.length + 1 < _; omega, ?_⟩
        have dA : DsAt P w (L2.upd H3 a (DsO P w a kvs)) a (tK cur) := ⟨kvs, upd_same, c3.ks.tk kt, hk3⟩
        have dG : DsAt P w (L2.upd H3 a (DsO P w a kvs)) G (tK fr) := c3.fr.keep kt (upd_ne (Ne.symm hGa))
        have dl : LaysAt P w (L2.upd H3 a (DsO P w a kvs)) ls done := c3.dn.keep kt fun b hb => upd_ne fun z => hals (z ▸ hb)
        have kt2 : ∀ o, Tk (L2.upd H3 a (DsO P w a kvs)) (L2.upd (L2.upd H3 a (DsO P w a kvs)) L o) := fun o => Tk.lst hL4
        have hLne : ∀ {b : Addr} {ps : List (S × V)}, DsAt P w (L2.upd H3 a (DsO P w a kvs)) b ps → b ≠ L := fun d z => by
          obtain ⟨φ, e⟩ := d.ext
          rw [z, hL4] at e
          cases e
        refine ⟨ls ++ [a], G, done ++ [cur], fr, _, _, _, _, _, _, rfl, same_mut (same_mut c3.sm nA) nL0, ?_, ?_, ?_, ?_, dG.keep (kt2 _) (upd_ne (hLne dG)), fo, ?_, ?_⟩
        · rw [upd_same, List.map_append (l₁ := ls ++ [a])]
          rfl
        · refine List.nodup_append.mpr ⟨hnd, by simp, fun b hb c hc z => ?_⟩
          rw [List.mem_singleton.mp hc] at z
          rcases List.mem_append.mp hb with hb | hb
          · exact hGls (z ▸ hb)
          · exact hGa ((List.mem_singleton.mp hb).symm.trans z)
        · intro b hb
          rcases List.mem_append.mp hb with hb | hb
          · exact nAll b hb
          · rw [List.mem_singleton.mp hb]
            exact nG0
        · refine Paired.snoc (dl.keep (kt2 _) fun b hb => upd_ne fun z => ?_) (dA.keep (kt2 _) (upd_ne (hLne dA)))
          obtain ⟨φ, e⟩ := dl.some b hb
          rw [z, hL4] at e
          cases e
        · rw [List.length_append, hdl]
          rfl
        · rw [List.append_assoc]
          exact hf
    · rintro σ H2 ⟨ls, a, done, cur, z3, z4, z5, z6, z7, z8, rfl, s2, hL, hnd, nAll, hdn, dC, co, hdl, hf⟩
      rw [List.length_map, hl, List.drop_length] at hf
      have hf : done ++ [cur] = R := hf
      rw [hR] at hf
      rw [← hf] at q
      exact ⟨_, rfl, q _ L s2 nL0 ⟨ls ++ [a], nAll, hnd, hL, Paired.snoc hdn dC⟩⟩
end
end K77
set_option Elab.async false
set_option linter.all false
set_option maxRecDepth 100000
set_option maxHeartbeats 4000000
/-! K77V3: what is seen, on the heap; a frame; walks. -/
namespace K77
open PySem PySem.Spec PyProof.Rows L2
def signO : Option Bool → Nat
  | none => 63
  | some d => dc d
def encR (r : Row) : Str := ⟨(r.map signO).toArray⟩
def rowV : Option Row → V
  | none => .non
  | some r => .str (encR r)
theorem join_row : ∀ r : Row, Str.join "" (r.map fun o => (⟨#[signO o]⟩ : Str)) = encR r
  | [] => rfl
  | [o] => rfl
  | o :: o2 :: r => by
    have ih := join_row (o2 :: r)
    show (⟨#[signO o]⟩ : Str) ++ "" ++ Str.join "" ((o2 :: r).map fun o => (⟨#[signO o]⟩ : Str)) = _
    rw [ih]
    show Str.mk ((#[signO o] ++ #[]) ++ ((o2 :: r).map signO).toArray) = Str.mk ((o :: o2 :: r).map signO).toArray
    congr 1
    rw [Array.append_empty]
    simp
/-! ### dicts of dots -/
def kD (ks : List Bool) : List (Key × V) := ks.map fun d => (.inr (col d), .bl true)
theorem inr_col {a b : Bool} : decide ((Sum.inr (col a) : Key) = .inr (col b)) = decide (a = b) :=
  decide_eq_decide.mpr ⟨fun h => col_inj (Sum.inr.inj h), fun h => by rw [h]⟩
theorem kD_put (ks : List Bool) (d : Bool) : putK (kD ks) (.inr (col d)) (.bl true) = kD (ins ks d) := by
  have ha : ((kD ks).any fun kv => decide (kv.1 = .inr (col d))) = decide (d ∈ ks) := by
    unfold kD
    rw [List.any_map, Bool.eq_iff_iff, List.any_eq_true, decide_eq_true_iff]
    constructor
    · rintro ⟨x, hx, h⟩
      dsimp only [Function.comp] at h
      rw [inr_col] at h
      exact of_decide_eq_true h ▸ hx
    · intro h
      refine ⟨d, h, ?_⟩
      dsimp only [Function.comp]
      rw [inr_col]
      exact decide_eq_true rfl
  unfold putK ins
  by_cases h : d ∈ ks
  · rw [if_pos (by rw [ha]; exact decide_eq_true h), if_pos h]
    unfold kD
    rw [List.map_map]
    refine List.map_congr_left fun s _ => ?_
    dsimp only [Function.comp]
    split <;> rfl
  · rw [if_neg (by rw [ha]; simpa using h), if_neg h]
    unfold kD
    rw [List.map_append]
    rfl
theorem kD_len (ks : List Bool) : (kD ks).length = ks.length := List.length_map ..
abbrev SeenP (H : Hp) : List Addr → Seen → Prop := Paired fun a ks => H a = some (.dK (kD ks))
theorem SeenP.keep {H H' : Hp} {ds : List Addr} {seen : Seen} (h : SeenP H ds seen) (e : ∀ a ∈ ds, H' a = H a) : SeenP H' ds seen := by
  induction h with
  | nil => exact .nil
  | @cons a b as bs q t ih => exact .cons ((e a List.mem_cons_self).trans q) (ih fun c hc => e c (List.mem_cons_of_mem _ hc))
theorem SeenP.at {H : Hp} {ds : List Addr} {seen : Seen} (h : SeenP H ds seen) : ∀ a ∈ ds, ∃ ks, H a = some (.dK (kD ks)) := by
  induction h with
  | nil => exact fun _ h => nomatch h
  | @cons a b as bs q t ih =>
    intro c hc
    rcases List.mem_cons.mp hc with rfl | hc
    · exact ⟨b, q⟩
    · exact ih c hc
theorem SeenP.get {H : Hp} {ds : List Addr} {seen : Seen} (h : SeenP H ds seen) : ∀ {i : Nat}, i < ds.length → ∃ d, ds[i]? = some d ∧ H d = some (.dK (kD (seen.getD i []))) := by
  induction h with
  | nil => intro i hi; simp at hi
  | @cons a b as bs q t ih =>
    intro i hi
    cases i with
    | zero => exact ⟨a, rfl, q⟩
    | succ i => exact ih (by simpa using hi)
theorem SeenP.put {H : Hp} {d : Addr} {ds : List Addr} {seen : Seen} (h : SeenP H ds seen) : ∀ {i : Nat} {c : Bool}, ds.Nodup → ds[i]? = some d → SeenP (L2.upd H d (.dK (kD (ins (seen.getD i []) c)))) ds (markAt seen i c) := by
  induction h with
  | nil => intro i c nd e; simp at e
  | @cons a b as bs q t ih =>
    intro i c nd e
    obtain ⟨n1, n2⟩ := List.nodup_cons.mp nd
    cases i with
    | zero =>
      have e : a = d := Option.some.inj e
      subst e
      exact .cons upd_same (SeenP.keep t fun x hx => upd_ne fun z => n1 (z ▸ hx))
    | succ i =>
      have e : as[i]? = some d := e
      have hda : a ≠ d := fun z => n1 (z ▸ List.mem_of_getElem? e)
      refine .cons ?_ ?_
      · rw [upd_ne hda]
        exact q
      · exact ih n2 e
/-! ### a frame -/
/-- from B on only a and the ds may have changed -/
def Fr (B H : Hp) (a : Addr) (ds : List Addr) : Prop := ∀ b o, B b = some o → b ≠ a → b ∉ ds → H b = some o
section
variable {B H H' : Hp} {a p : Addr} {ds : List Addr} {o : HO}
theorem Fr.same (f : Fr B H a ds) (s : Same H H') : Fr B H' a ds := fun b o h1 h2 h3 => s _ _ (f b o h1 h2 h3)
theorem Fr.new (f : Fr B H a ds) (h : B p = none) : Fr B (L2.upd H p o) a ds := fun b o' h1 h2 h3 => by
  rw [upd_ne (ne_of_none h1 h)]
  exact f b o' h1 h2 h3
theorem Fr.mem (f : Fr B H a ds) (h : p ∈ ds) : Fr B (L2.upd H p o) a ds := fun b o' h1 h2 h3 => by
  rw [upd_ne fun z : b = p => h3 (by rw [z]; exact h)]
  exact f b o' h1 h2 h3
theorem Fr.tk (f : Fr B H a ds) (ha : ∀ xs, B a ≠ some (.tup xs)) (hd : ∀ d ∈ ds, ∀ xs, B d ≠ some (.tup xs)) : Tk B H := fun b xs h => f b _ h (fun z => ha xs (z ▸ h)) fun z => hd b z xs h
end
section
variable {P : Program} {w : World}
/-- a comprehension of a dict of states over a walk -/
theorem ds_it {J : It} {n : Nat} {G : Hp → Prop} {Y : Nat → Hp → V → Hp → Prop} (wk : Walk J n G Y) {g : TG} {tt : TT} {tk tv : TE} {vs : List Nat} {σ : L2.St} {H1 : Hp} {D : Addr} {Qd : Hp → Prop} (Pv : Nat → Hp → Prop) (h0 : Pv 0 (L2.upd H1 D (DsO P w D []))) (hG : ∀ i H, i ≤ n → Pv i H → G H)
    (hs : ∀ i x H H', i < n → Pv i H → Y i H x H' → g x (wipe σ vs) H' fun σ2 H2 => wipe σ2 vs = wipe σ vs ∧ tt σ2 H2 fun b H3 => if b = true then layS P w D tk tv σ2 H3 (Pv (i + 1)) else Pv (i + 1) H3) (hd : ∀ H, Pv n H → Qd H) :
    ∃ W : Nat → Nat → Hp → Prop, (∃ m, W 0 m (L2.upd H1 D (DsO P w D []))) ∧ ∀ i m H, W i m H →
      (J.stop i H ∧ Qd H) ∨ (J.go i H ∧ ∃ Nx : Hp → Prop, (∀ H', Nx H' → ∃ m', m' < m ∧ W (i + 1) m' H') ∧ ∀ x H', J.yld i H x H' → g x (wipe σ vs) H' fun σ2 H2 => wipe σ2 vs = wipe σ vs ∧ tt σ2 H2 fun b H3 =>
        if b = true then layS P w D tk tv σ2 H3 Nx else Nx H3) := by
  refine ⟨fun i m H => m = n - i ∧ i ≤ n ∧ Pv i H, ⟨n, by simp, Nat.zero_le _, h0⟩, ?_⟩
  rintro i m H ⟨rfl, hi, p⟩
  have q := hG i H hi p
  by_cases hlt : i < n
  · refine .inr ⟨wk.goes i H hlt q, Pv (i + 1), fun H' p' => ⟨n - (i + 1), by omega, rfl, hlt, p'⟩, fun x H' y => hs i x H H' hlt p (wk.yields i H x H' hlt q y)⟩
  · have e : i = n := by omega
    subst e
    exact .inl ⟨wk.stops H q, hd H p⟩
theorem walk_enumS {l : Dots} : Walk (Ites (enc l)) l.length (fun _ => True) (fun i H v H' => ∃ T d, v = .ref T ∧ H T = none ∧ H' = L2.upd H T (.tup [.int (i : Nat), .str (col d)]) ∧ l[i]? = some d) := by
  have hz : (enc l).cps.size = l.length := enc_len l
  refine ⟨fun i H hi _ => by show i < _; rw [hz]; exact hi, fun H _ => by show _ = _; rw [hz], fun i H v H' hi _ y => ?_⟩
  obtain ⟨T, c, h1, h2, h3, h4⟩ := y
  have : (enc l).cps.toList[i]? = some c := by
    rw [← h4]
    exact Array.getElem?_toList
  have e : (enc l).cps.toList = l.map dc := List.toList_toArray ..
  rw [e, List.getElem?_map] at this
  cases e2 : l[i]? with
  | none => rw [e2] at this; cases this
  | some d =>
    rw [e2] at this
    have := Option.some.inj this
    subst this
    exact ⟨T, d, h1, h2, h3, rfl⟩
end
end K77
set_option Elab.async false
set_option linter.all false
set_option maxRecDepth 100000
set_option maxHeartbeats 4000000
/-! K77W15: sure_in. -/
namespace K77
open PySem PySem.Spec PyProof.Rows L2
section
variable {P : Program} {w : World} {K : PySem.W.Frag} {mg : Str → Option Value} {base : Heap}
/-- the heap as the layers are gone through backward -/
structure BIn (P : Program) (w : World) (B H : Hp) (a : Addr) (ds : List Addr) (od : Obj) (u : HO) (G Sn : Addr) (ahead : List S) (seen : Seen) : Prop where
  fr : Fr B H a ds
  wy : H a = some (.frz od u)
  ah : DsAt P w H G (tK ahead)
  sn : H Sn = some (.lst (ds.map V.ref))
  se : SeenP H ds seen
section
variable {B H H' : Hp} {a G Sn : Addr} {ds : List Addr} {od : Obj} {u : HO} {ahead : List S} {seen : Seen}
theorem BIn.same (h : BIn P w B H a ds od u G Sn ahead seen) (s : Same H H') : BIn P w B H' a ds od u G Sn ahead seen :=
  ⟨h.fr.same s, s _ _ h.wy, h.ah.same s, s _ _ h.sn, h.se.keep fun d hd => by
    obtain ⟨ks, e⟩ := h.se.at d hd
    rw [e]
    exact s _ _ e⟩
theorem BIn.put {s : S} {o : HO} (h : BIn P w B H a ds od u G Sn ahead seen) (nG : B G = none) (d : DsAt P w (L2.upd H G o) G (putK (tK ahead) s (.bl true))) : BIn P w B (L2.upd H G o) a ds od u G Sn (ins ahead s) seen := by
  obtain ⟨φ, hGe⟩ := h.ah.ext
  rw [tK_put] at d
  refine ⟨h.fr.new nG, ?_, d, ?_, h.se.keep fun x hx => ?_⟩
  · rw [upd_ne (h.ah.ne_frz h.wy)]
    exact h.wy
  · rw [upd_ne (h.ah.ne_lst h.sn)]
    exact h.sn
  · obtain ⟨ks, e⟩ := h.se.at x hx
    exact upd_ne (two e hGe (by nofun))
theorem BIn.mark {d : Addr} {i : Nat} {c : Bool} (h : BIn P w B H a ds od u G Sn ahead seen) (nd : ds.Nodup) (hd : ds[i]? = some d) : BIn P w B (L2.upd H d (.dK (kD (ins (seen.getD i []) c)))) a ds od u G Sn ahead (markAt seen i c) := by
  have hm : d ∈ ds := List.mem_of_getElem? hd
  obtain ⟨ks, e⟩ := h.se.at d hm
  obtain ⟨φ, hGe⟩ := h.ah.ext
  refine ⟨h.fr.mem hm, ?_, h.ah.keep (Tk.dK e) (upd_ne (two hGe e (by nofun))), ?_, h.se.put nd hd⟩
  · rw [upd_ne (two h.wy e (by nofun))]
    exact h.wy
  · rw [upd_ne (two h.sn e (by nofun))]
    exact h.sn
end
def spSureIn : Sp := fun vs H Q _ => ∃ (wd : Nat) (t : Addr) (ms : List Mode), vs = [.int wd, .ref t] ∧ wd ≤ 40 ∧ TelAt H t ms ∧ ms.length ≤ 80 ∧ (∀ m ∈ ms, MOk m) ∧ ∀ H', Same H H' → Q (rowV (sureRow wd ms)) H'
abbrev nSureIn : List Str := ["width", "telling", "layers", "state", "good", "place", "seen", "number", "ahead", "there", "dots", "count", "dot"]
theorem scSureIn : FnScope nSureIn ["width", "telling"] (defScope sSureIn) := ⟨rfl, rfl, rfl, by decide +kernel, rfl, by decide +kernel, by decide +kernel⟩
theorem ok_sure_in (T : Tx K mg) (D : Stands K mg "sure_in" sSureIn) (hn : Has P w K mg base "next_states" ["width", "state", "mode"] 5 spNexts) (hy : Has P w K mg base "layers_of" ["width", "telling"] 6 (spLayers P w)) : Has P w K mg base "sure_in" ["width", "telling"] 7 spSureIn := by
  obtain ⟨tu, gu⟩ := T.UNSURE
  refine has_of D scSureIn (fun _ _ _ _ _ _ us hl => match us, hl with | [_, _], _ => rfl) (fun vs H Q E h => ?_) (fun f cdv A outer s H vs Q E hr h => ?_)
  · obtain ⟨wd, t, ms, rfl, _⟩ := h
    rfl
  · obtain ⟨wd, t, ms, rfl, hw, ht, h80, mok, q⟩ := h
    refine ⟨_, pss_cons (ps_set (i := 2) scSureIn.nd rfl (.inl rfl) (pe_do hy hr (pa_cons (pv 0) (pa_cons (pv 1) pa_nil))))
      (pss_cons (ps_lock (ps_setDs (i := 4) (own := [("state", 3)]) (g := gName 3) (tt := tTest (tOp rEq (tOp (rIxT K) (tVar 3) (tC (.int 0))) (tVar 0))) (Room.u0 hr) rfl scSureIn.nd rfl rfl (sw_trueD rfl rfl rfl (by decide +kernel)) (pi_skeys (pe_ix ix_list (pv 2) (pe_un un_neg pe_int) (fun _ _ => rfl))) (blkOk_by (N := nSureIn) (sc := defScope sSureIn) (by decide +kernel))
          (fun _ _ _ _ _ => pg_name (i := 3) scSureIn.nd rfl (Or.inl rfl)) (fun _ _ _ _ _ => pts_one (pt_cmpR op_eq (ixT (pv 3) pe_int) (pv 0) (nomark _))) (fun _ _ _ _ _ => pv 3) (fun _ _ _ _ _ => pe_bl)))
      (pss_cons (ps_if (pt_cmpR (op_eq_s0 (Room.u0 hr)) (pv 4) pe_snew (nomark _)) (pss_one (ps_ret pe_non)) pss_nil)
      (pss_cons (ps_setLc (i := 6) (own := [("place", 5)]) (g := gName 5) (tt := tYes) rfl scSureIn.nd rfl rfl (sw_true rfl rfl rfl (by decide +kernel)) (pi_range1 (by rfl) T.range_ (pa_cons (pv 0) pa_nil)) (blkOk_by (N := nSureIn) (sc := defScope sSureIn) (by decide +kernel))
          (fun _ _ _ _ _ => pg_name (i := 5) scSureIn.nd rfl (Or.inl rfl)) (fun _ _ _ _ _ => pts_nil) (fun _ _ _ _ _ => pe_dnewK))
      (pss_cons (ps_for PassesOwn.never rfl (pi_range3 (by rfl) T.range_ (pa_cons (pe_op op_sub (pe_callB call_len_seq (by rfl) T.len_ PySem.boot_len (pa_cons (pv 1) pa_nil)) pe_int) (pa_cons (pe_un un_neg pe_int) (pa_cons (pe_un un_neg pe_int) pa_nil)))) (pg_name (i := 7) scSureIn.nd rfl (.inl rfl))
        (pss_cons (ps_set (i := 8) scSureIn.nd rfl (.inl rfl) pe_snew)
        (pss_cons (ps_lock (ps_for PassesOwn.never rfl (pi_skeys (pe_ix ix_list (pv 2) (pv 7) (fun _ _ => rfl))) (pg_name (i := 3) scSureIn.nd rfl (.inl rfl))
          (pss_one (ps_for PassesOwn.never rfl (pi_list (pe_do hn (hr.mono (by decide)) (pa_cons (pv 0) (pa_cons (pv 3) (pa_cons (ixT (pv 1) (pv 7)) pa_nil))))) (pg_tup rfl (pgs_cons (pg_name (i := 9) scSureIn.nd rfl (.inl rfl)) (pgs_cons (pg_name (i := 10) scSureIn.nd rfl (.inl rfl)) (pgs_cons (pg_name (i := 11) scSureIn.nd rfl (.inl rfl)) pgs_nil))))
            (pss_one (ps_if (pt_cmp (pc_sin (Room.u1 hr) (pv 9) (pv 4)))
              (pss_cons (ps_sput (Room.u1 hr) (pv 8) (pv 3) pe_bl rfl)
              (pss_one (ps_for PassesOwn.never rfl (pi_enumS T.enumerate_ (pa_cons (pv 10) pa_nil)) (pg_tup rfl (pgs_cons (pg_name (i := 5) scSureIn.nd rfl (.inl rfl)) (pgs_cons (pg_name (i := 12) scSureIn.nd rfl (.inl rfl)) pgs_nil)))
                (pss_one (ps_dput (Room.u1 hr) (pe_ix ix_list (pv 6) (pe_op op_add (ixT (pv 3) pe_int) (pv 5)) (fun _ _ => rfl)) (pv 12) pe_bl rfl))))) pss_nil))))))
        (pss_one (ps_set (i := 4) scSureIn.nd rfl (.inl rfl) (pv 8))))))
      (pss_one (ps_ret (pe_join pe_str (pe_lc (own := [("dots", 10)]) (g := gName 10) (tt := tYes) rfl scSureIn.nd (pi_list (pv 6)) (blkOk_by (N := nSureIn) (sc := defScope sSureIn) (by decide +kernel)) (fun _ _ _ _ _ => pg_name (i := 10) scSureIn.nd rfl (Or.inl rfl)) (fun _ _ _ _ _ => pts_nil)
        (fun _ _ _ _ _ => pe_ifExp (pt_cmpR op_eq (pe_callB call_lenD (by rfl) T.len_ PySem.boot_len (pa_cons (pv 10) pa_nil)) pe_int (nomark _)) (pe_ix (r := rIxL K) ix_list (pe_callTy (call_list_dK rfl) (by rfl) T.list_ (by decide +kernel) (pa_cons (pv 10) pa_nil)) pe_int (fun _ _ => rfl)) (pe_gs gu)))))))))), ?_⟩
    obtain ⟨ta, hta, htl, get⟩ := ht.get
    have hmd : ∀ m ∈ ms, ∀ d, m = .stay d → -3 ≤ d := fun m hm d hd => by
      have := mok m hm
      rw [hd] at this
      exact this.1
    have hlo := lays_ok (w := wd) ms [sBegin] hmd LayOk.begin
    have hll := lays_len (w := wd) ms [sBegin]
    refine ⟨_, rfl, _, rfl, wd, t, ms, rfl, hw, ht, h80, mok, fun H1 L s1 nL hL => ?_⟩
    obtain ⟨as, hnew, hnd, hLa, hls⟩ := hL
    have hal : as.length = ms.length + 1 := (Paired.length hls).trans hll
    -- the last layer
    have hlast := lay_last (w := wd) ms [sBegin]
    obtain ⟨al, hal1, hal2⟩ := pget hls hlast
    have eas : as.map V.ref = (as.map V.ref).dropLast ++ [.ref al] := by
      have e1 : (as.map V.ref) ≠ [] := by
        intro z
        have := congrArg List.length z
        rw [List.length_map, hal] at this
        cases this
      have e2 : (as.map V.ref).getLast e1 = .ref al := by
        rw [List.getLast_eq_getElem]
        have : (as.map V.ref)[(as.map V.ref).length - 1]? = some (.ref al) := by
          rw [List.length_map, hal, Nat.add_sub_cancel, List.getElem?_map, hal1]
          rfl
        exact (List.getElem?_eq_some_iff.mp this).2
      rw [← e2]
      exact (List.dropLast_concat_getLast e1).symm
    have hat : atI (as.map V.ref) (-1) = some (.ref al) := by
      rw [eas]
      exact atI_last _ _
    obtain ⟨kvs, hk1, hk2, hk3⟩ := hal2
    have nal : H al = none := hnew al (List.mem_of_getElem? hal1)
    refine ⟨al, DsO P w al kvs, hk1, trivial, fun od => ?_⟩
    have hLal : L ≠ al := two hLa hk1 (by nofun)
    refine ⟨_, rfl, 1, rfl, L, _, _, _, rfl, rfl, .of (by rw [upd_ne hLal]; exact hLa), hat, al, od, kvs, rfl, upd_same, fun D nD => ?_⟩
    have hDal : D ≠ al := fun z => by
      rw [z, upd_same] at nD
      cases nD
    have nD1 : H1 D = none := by
      rw [upd_ne hDal] at nD
      exact nD
    have nD0 : H D = none := s1.free nD1
    obtain ⟨ll, hlle⟩ : ∃ ll, ll = lastLay wd ms [sBegin] := ⟨_, rfl⟩
    have hge : goodEnd wd ms = ll.filter fun s => decide (s.pl = wd) := by rw [hlle]; rfl
    rw [← hlle] at hk3 hlast
    have llok : LayOk wd ll := hlo _ (List.mem_of_getElem? hlast)
    have ka : KeysAt (L2.upd H1 al (.frz od (DsO P w al kvs))) kvs := hk2.tk (Tk.ext hk1)
    refine ds_it walk_skeys (fun i H3 => (∀ b o, H1 b = some o → b ≠ al → H3 b = some o) ∧ H3 al = some (.frz od (DsO P w al kvs)) ∧ KeysAt H3 kvs ∧ DsAt P w H3 D (tK ((ll.take i).filter fun s => decide (s.pl = wd)))) ?_ ?_ ?_ ?_
    · have s2 : Same (L2.upd H1 al (.frz od (DsO P w al kvs))) (L2.upd (L2.upd H1 al (.frz od (DsO P w al kvs))) D (DsO P w D [])) := same_new nD
      exact ⟨fun b o h1 h2 => s2 _ _ (by rw [upd_ne h2]; exact h1), s2 _ _ upd_same, ka.tk (Same.tk s2), DsAt.new⟩
    · rintro i H3 _ ⟨_, h1, _⟩
      exact h1
    · rintro i x H3 H4 hi ⟨h1, h2, h3, h4⟩ ⟨rfl, e, he, rfl⟩
      have hc := prs_tK hk3 he
      have hsa : H4 e.2.1 = some (.tup (skV e.1)) := h3 _ (List.mem_of_getElem? he)
      obtain ⟨st, sa, sv⟩ := e
      dsimp only at hc hsa ⊢
      have hgn : (ll.take (i + 1)).filter (fun s => decide (s.pl = wd)) = (ll.take i).filter (fun s => decide (s.pl = wd)) ++ (if st.pl = wd then [st] else []) := by
        rw [List.take_add_one, hc, List.filter_append]
        congr 1
        by_cases h : st.pl = wd
        · rw [if_pos h]
          exact List.filter_cons_of_pos (by simpa using h)
        · rw [if_neg h]
          exact List.filter_cons_of_neg (by simpa using h)
      refine ⟨rfl, _, rfl, sa, _, 0, _, rfl, rfl, .of hsa, atI_nat (j := 0) rfl, _, rfl, rfl, _, rfl, ?_⟩
      rw [dec_nat]
      refine if2 (fun e1 => ?_) (fun e1 => ?_)
      · have e1 := of_decide_eq_true e1
        rw [if_pos e1] at hgn
        refine ⟨_, rfl, sa, _, st, rfl, hsa, h4, ?_, fun o d7 => ?_⟩
        · rw [tK_len, sizeLine_eq]
          have ha := List.length_filter_le (fun s : S => decide (s.pl = wd)) (ll.take i)
          have hb := llok.few hw
          rw [List.length_take] at ha
          omega
        · obtain ⟨φ, hDe⟩ := h4.ext
          have hnin : st ∉ (ll.take i).filter (fun s => decide (s.pl = wd)) := by
            intro hm
            have hm := (List.mem_filter.mp hm).1
            have hi2 : i < ll.length := (List.getElem?_eq_some_iff.mp hc).1
            have e2 : ll = ll.take i ++ ll.drop i := (List.take_append_drop i ll).symm
            have nd := llok.nd
            rw [e2] at nd
            refine (List.nodup_append.mp nd).2.2 st hm st ?_ rfl
            rw [List.drop_eq_getElem_cons hi2, (List.getElem?_eq_some_iff.mp hc).2]
            exact List.mem_cons_self
          rw [tK_put, show ins ((ll.take i).filter fun s => decide (s.pl = wd)) st = _ from if_neg hnin, ← hgn] at d7
          refine ⟨fun b o' g1 g2 => ?_, ?_, h3.tk (Tk.ext hDe), d7⟩
          · rw [upd_ne (ne_of_none g1 nD1)]
            exact h1 b o' g1 g2
          · rw [upd_ne (Ne.symm hDal)]
            exact h2
      · have e1 := of_decide_eq_false e1
        rw [if_neg e1, List.append_nil] at hgn
        rw [hgn]
        exact ⟨h1, h2, h3, h4⟩
    · rintro H3 ⟨h1, h2, h3, h4⟩
      rw [prs_tlen hk3, List.take_length, ← hge] at h4
      refine ⟨h2, ?_⟩
      -- the good ones stand, nothing is locked
      have s3 : Same H1 (L2.upd H3 al (DsO P w al kvs)) := fun b o hb => by
        by_cases hba : b = al
        · rw [hba, upd_same]
          rw [hba, hk1] at hb
          exact hb
        · rw [upd_ne hba]
          exact h1 b o hb hba
      have d3 : DsAt P w (L2.upd H3 al (DsO P w al kvs)) D (tK (goodEnd wd ms)) := h4.keep (Tk.frz h2) (upd_ne hDal)
      generalize L2.upd H3 al (DsO P w al kvs) = H4 at s3 d3 ⊢
      clear h1 h2 h3 h4 H3
      refine ⟨_, rfl, fun p np => ⟨D, p, _, rfl, rfl, DsAt.same d3 (same_new np), upd_same, _, rfl, ?_⟩⟩
      rw [tK_len]
      have s4 : Same H1 (L2.upd H4 p (DsO P w p [])) := s3.trans (same_new np)
      have d4 := DsAt.same d3 (same_new (o := DsO P w p []) np)
      refine if2 (fun e1 => ?_) (fun e1 => ?_)
      · have e1 := of_decide_eq_true e1
        have e2 : sureRow wd ms = none := if_pos (List.eq_nil_of_length_eq_zero e1)
        rw [e2] at q
        exact q _ (s1.trans s4)
      · have e1 := of_decide_eq_false e1
        have e2 : sureRow wd ms = some (rowOf (backAll wd ms [sBegin] (goodEnd wd ms, List.replicate wd [])).2) := if_neg fun z => e1 (by rw [z]; rfl)
        rw [e2] at q
        have gok : LayOk wd (goodEnd wd ms) := by
          rw [hge]
          exact ⟨llok.nd.sublist List.filter_sublist, fun s hs => llok.good s (List.mem_filter.mp hs).1⟩
        refine ⟨_, rfl, (wd : Int), rfl, by omega, by omega, fun Sn nSn => ?_⟩
        have s5 := s4.trans (same_new (o := .lst []) nSn)
        have d5 := DsAt.same d4 (same_new (o := .lst []) nSn)
        have nSn1 : H1 Sn = none := s4.free nSn
        have nSn0 : H Sn = none := s1.free nSn1
        refine lc_it walk_range (fun i H6 => ∃ ds : List Addr, ds.length = i ∧ ds.Nodup ∧ (∀ d ∈ ds, H d = none ∧ H1 d = none ∧ d ≠ D) ∧ Same H1 H6 ∧ DsAt P w H6 D (tK (goodEnd wd ms)) ∧ H6 Sn = some (.lst (ds.map V.ref)) ∧ SeenP H6 ds (List.replicate i []) ∧ H1 Sn = none ∧ Sn ≠ D)
          ⟨[], rfl, List.nodup_nil, nofun, s5, d5, upd_same, .nil, nSn1, fun z => ?_⟩ (fun _ _ _ _ => trivial) ?_ ?_
        · obtain ⟨φ, e⟩ := DsAt.ext d4
          rw [z] at nSn
          have e2 := nSn.symm.trans e
          cases e2
        · rintro i x H6 H7 hi ⟨ds, hdl, hdn, hd0, s6, d6, hS6, se6, nS, hSD⟩ ⟨rfl, rfl⟩
          have hi : i < wd := by
            have : ((wd : Nat) : Int).toNat = wd := Int.toNat_natCast wd
            omega
          refine ⟨rfl, fun d nd => ?_⟩
          have s7 : Same H7 (L2.upd H7 d (.dK [])) := same_new nd
          refine ⟨_, s7 _ _ hS6, by rw [List.length_map, hdl, sizeLine_eq]; omega, ds ++ [d], ?_, ?_, ?_, same_mut (s6.trans s7) nS, ?_, ?_, ?_, nS, hSD⟩
          · rw [List.length_append, hdl]
            rfl
          · refine List.nodup_append.mpr ⟨hdn, by simp, fun b hb c hc z => ?_⟩
            rw [List.mem_singleton.mp hc] at z
            obtain ⟨ks, e⟩ := se6.at b hb
            rw [z, nd] at e
            cases e
          · intro b hb
            rcases List.mem_append.mp hb with hb | hb
            · exact hd0 b hb
            · rw [List.mem_singleton.mp hb]
              refine ⟨s1.free (s6.free nd), s6.free nd, fun z => ?_⟩
              obtain ⟨φ, e⟩ := d6.ext
              rw [← z, nd] at e
              cases e
          · exact (d6.same s7).keep (Tk.lst (s7 _ _ hS6)) (upd_ne (Ne.symm hSD))
          · rw [upd_same, List.map_append]
            rfl
          · rw [List.replicate_succ']
            refine Paired.snoc ((se6.keep fun b hb => ?_)) ?_
            · obtain ⟨ks, e⟩ := se6.at b hb
              rw [upd_ne (two (s7 _ _ e) (s7 _ _ hS6) (by nofun)), s7 _ _ e, e]
            · have hdS : d ≠ Sn := fun z => by
                rw [z, hS6] at nd
                cases nd
              rw [upd_ne hdS, upd_same]
              rfl
        · rintro H6 ⟨ds, hdl, hdn, hd0, s6, d6, hS6, se6, nS, hSD⟩
          have hdl : ds.length = wd := by
            have : ((wd : Nat) : Int).toNat = wd := Int.toNat_natCast wd
            omega
          have se6 : SeenP H6 ds (List.replicate wd []) := by
            have : ((wd : Nat) : Int).toNat = wd := Int.toNat_natCast wd
            rw [this] at se6
            exact se6
          obtain ⟨st0, hst0⟩ : ∃ st0 : Bk, st0 = (goodEnd wd ms, List.replicate wd []) := ⟨_, rfl⟩
          have hrow : (backAll wd ms [sBegin] (goodEnd wd ms, List.replicate wd [])).2 = (backAll wd ms [sBegin] st0).2 := by rw [hst0]
          rw [hrow] at q
          have hb0 : backAll wd (ms.drop ms.length) ll st0 = (goodEnd wd ms, List.replicate wd []) := by
            rw [List.drop_length, hst0]
            rfl
          have hlk0 : (lays wd ms [sBegin])[ms.length]? = some ll := hlast
          have hlen0 : SnOk wd (List.replicate wd []) := SnOk.begin
          generalize hg0 : goodEnd wd ms = good0 at d6 gok hb0 hst0
          generalize List.replicate wd ([] : List Bool) = seen0 at se6 hb0 hlen0 hst0
          clear hge e1 e2 s5 d5 hk1 hk2 hk3 ka hst0 hrow
          have htl1 : ((ta.map V.ref).length : Int) = (ms.length : Int) := by rw [List.length_map, htl]
          refine ⟨_, rfl, t, _, rfl, .inr (.of (s6 _ _ (s1 _ _ hta))), _, _, rfl, rfl, 1, rfl, 1, rfl, (ms.length : Int) - 1, -1, -1, _, by rw [htl1], RgC.neg (by omega) (by omega) (by decide) (by decide), ?_⟩
          have hnn : ((ms.length : Int) - 1 - -1).toNat = ms.length := by omega
          rw [hnn]
          refine for_rangeC (fun i σ H7 => ∃ (Gd : Addr) (good : List S) (seen : Seen) (lk : List S) (z3 z5 z7 z8 z9 z10 z11 z12 : Option V), σ = [some (.int wd), some (.ref t), some (.ref L), z3, some (.ref Gd), z5, some (.ref Sn), z7, z8, z9, z10, z11, z12] ∧
            Same H1 H7 ∧ H1 Gd = none ∧ DsAt P w H7 Gd (tK good) ∧ H7 Sn = some (.lst (ds.map V.ref)) ∧ SeenP H7 ds seen ∧ LayOk wd good ∧ SnOk wd seen ∧ (lays wd ms [sBegin])[ms.length - i]? = some lk ∧ backAll wd (ms.drop (ms.length - i)) lk st0 = (good, seen))
            ⟨D, good0, seen0, ll, _, _, _, _, _, _, _, _, rfl, s6, nD1, d6, hS6, se6, gok, hlen0, hlk0, hb0⟩ ?_ ?_
          · rintro i σ H7 hi ⟨Gd, good, seen, lk, z3, z5, z7, z8, z9, z10, z11, z12, rfl, s7, nGd, dG, hS7, se7, gok, hsl, hlk, hbk⟩
            obtain ⟨k, hk⟩ : ∃ k, ms.length - i = k + 1 := ⟨ms.length - i - 1, by omega⟩
            have hk2 : ms.length - (i + 1) = k := by omega
            have hkl : k < ms.length := by omega
            have ek : (ms.length : Int) - 1 + (i : Int) * (-1) = (k : Int) := by omega
            rw [hk] at hlk hbk
            rw [ek, hk2]
            obtain ⟨l2, hl2⟩ : ∃ l2, (lays wd ms [sBegin])[k]? = some l2 := ⟨_, List.getElem?_eq_getElem (by rw [hll]; omega)⟩
            have elk : lk = layNext wd ms[k] l2 := by
              have := lay_step ms [sBegin] k l2 hkl hl2
              rw [hlk] at this
              exact Option.some.inj this
            have hbs := back_step (w := wd) hkl l2 st0
            rw [← elk, hbk] at hbs
            have l2ok : LayOk wd l2 := hlo _ (List.mem_of_getElem? hl2)
            obtain ⟨a, ha1, ha2⟩ := pget hls hl2
            obtain ⟨ma, hma, hmm⟩ := get k ms[k] (List.getElem?_eq_getElem hkl)
            have hok := mok _ (List.getElem_mem hkl)
            have hmdk := hmd _ (List.getElem_mem hkl)
            generalize ms[k] = m at hmm hok hmdk hbs
            obtain ⟨RA, hRA⟩ : ∃ RA, RA = bkLayer wd m l2 (good, seen) := ⟨_, rfl⟩
            rw [← hRA] at hbs
            have hRA2 : RA = l2.foldl (bkState wd m good) ([], seen) := hRA
            obtain ⟨kv2, ka1, ka2, ka3⟩ := ha2
            refine gset ?_
            dsimp only
            refine fun G nG => ?_
            have hH7a : H7 a = some (DsO P w a kv2) := s7 _ _ ka1
            have hGa : a ≠ G := ne_of_none hH7a nG
            have nGd7 : Gd ≠ a := fun z => by
              rw [z, ka1] at nGd
              cases nGd
            have ks7 : KeysAt H7 kv2 := ka2.tk (Same.tk s7)
            have hads : a ∉ ds := fun z => by
              obtain ⟨ks, e⟩ := se7.at a z
              rw [hH7a] at e
              cases e
            have hGds : G ∉ ds := fun z => by
              obtain ⟨ks, e⟩ := se7.at G z
              rw [nG] at e
              cases e
            have tka : ∀ xs, H7 a ≠ some (.tup xs) := fun xs z => by
              rw [hH7a] at z
              cases z
            have tkd : ∀ d ∈ ds, ∀ xs, H7 d ≠ some (.tup xs) := fun d hd xs z => by
              obtain ⟨ks, e⟩ := se7.at d hd
              rw [z] at e
              cases e
            refine ⟨a, DsO P w a kv2, same_new nG _ _ hH7a, trivial, fun od2 => ?_⟩
            have c0 : BIn P w H7 (L2.upd (L2.upd H7 G (DsO P w G [])) a (.frz od2 (DsO P w a kv2))) a ds od2 (DsO P w a kv2) G Sn [] seen := by
              refine ⟨fun b o h1 h2 h3 => ?_, upd_same, DsAt.new.keep (Tk.ext (same_new nG _ _ hH7a)) (upd_ne (Ne.symm hGa)), ?_, se7.keep fun b hb => ?_⟩
              · rw [upd_ne h2, upd_ne (ne_of_none h1 nG)]
                exact h1
              · rw [upd_ne (two hS7 hH7a (by nofun))]
                exact same_new nG _ _ hS7
              · rw [upd_ne fun z : b = a => hads (z ▸ hb), upd_ne fun z : b = G => hGds (z ▸ hb)]
            refine ⟨_, rfl, _, rfl, L, _, _, .ref a, rfl, rfl, .of ?_, atI_nat (j := k) (by rw [List.getElem?_map, ha1]; rfl), a, od2, kv2, rfl, c0.wy, for_it walk_skeys (fun j σ H8 => ∃ (ahead : List S) (seen : Seen) (z3 z5 z9 z10 z11 z12 : Option V), σ = [some (.int wd), some (.ref t), some (.ref L), z3, some (.ref Gd), z5, some (.ref Sn), some (.int k), some (.ref G), z9, z10, z11, z12] ∧
              BIn P w H7 H8 a ds od2 (DsO P w a kv2) G Sn ahead seen ∧ LayOk wd ahead ∧ SnOk wd seen ∧ (l2.drop j).foldl (bkState wd m good) (ahead, seen) = RA) ⟨[], seen, z3, z5, z9, z10, z11, z12, rfl, c0, LayOk.nil, hsl, hRA2.symm⟩ (fun j σ H8 _ hP => ?_) ?_ ?_⟩
            · exact c0.fr _ _ (s7 _ _ hLa) (two hLa ka1 (by nofun)) fun z => by
                obtain ⟨ks, e⟩ := se7.at L z
                rw [s7 _ _ hLa] at e
                cases e
            · obtain ⟨_, _, _, _, _, _, _, _, _, c8, _⟩ := hP
              exact c8.wy
            · rintro j x σ H8 H9 hj ⟨ahead, seen, z3, z5, z9, z10, z11, z12, rfl, c8, ao, hsl, hf8⟩ ⟨rfl, e, he, rfl⟩
              have hc := prs_tK ka3 he
              have hcj : j < l2.length := (List.getElem?_eq_some_iff.mp hc).1
              have hcw : l2[j] = e.1 := (List.getElem?_eq_some_iff.mp hc).2
              rw [List.drop_eq_getElem_cons hcj, List.foldl_cons, hcw] at hf8
              have sg : SGood wd e.1 := by
                have := l2ok.good _ (List.getElem_mem hcj)
                rw [hcw] at this
                exact this
              have hsa7 : H7 e.2.1 = some (.tup (skV e.1)) := ks7 _ (List.mem_of_getElem? he)
              obtain ⟨st, sa, sv⟩ := e
              dsimp only at hf8 sg hsa7 ⊢
              have hsa : ∀ {H' : Hp} {ah : List S} {sn : Seen}, BIn P w H7 H' a ds od2 (DsO P w a kv2) G Sn ah sn → H' sa = some (.tup (skV st)) := fun c => c.fr.tk tka tkd _ _ hsa7
              have hta9 : ∀ {H' : Hp} {ah : List S} {sn : Seen}, BIn P w H7 H' a ds od2 (DsO P w a kv2) G Sn ah sn → H' t = some (.tup (ta.map V.ref)) := fun c => c.fr.tk tka tkd _ _ (s7 _ _ (s1 _ _ hta))
              have hmm9 : ∀ {H' : Hp} {ah : List S} {sn : Seen}, BIn P w H7 H' a ds od2 (DsO P w a kv2) G Sn ah sn → ModeAt H' ma m := fun c => c.fr.tk tka tkd _ _ (s7 _ _ (s1 _ _ hmm))
              have hgd : ∀ {H' : Hp} {ah : List S} {sn : Seen}, BIn P w H7 H' a ds od2 (DsO P w a kv2) G Sn ah sn → DsAt P w H' Gd (tK good) := fun c => by
                obtain ⟨φ, e⟩ := dG.ext
                refine dG.keep (c.fr.tk tka tkd) ?_
                rw [e]
                refine c.fr _ _ e nGd7 fun z => ?_
                obtain ⟨ks, e2⟩ := se7.at Gd z
                rw [e] at e2
                cases e2
              refine ⟨_, rfl, _, rfl, _, rfl, _, rfl, t, _, _, .ref ma, rfl, rfl, .of (hta9 c8), atI_nat (j := k) (by rw [List.getElem?_map, hma]; rfl), wd, st, sa, ma, m, rfl, hsa c8, hmm9 c8, hok, hw, sg, fun H10 L5 s10 nL5 hL5 => ?_⟩
              have c10 := c8.same s10
              have nok := nexts_ok (m := m) sg hmdk
              have ntf := told_fits (m := m) sg hmdk
              have hwt : bkState wd m good (ahead, seen) st = (nexts wd st m).foldl (bkTurn good st) (ahead, seen) := rfl
              obtain ⟨RB, hRB⟩ : ∃ RB, RB = bkState wd m good (ahead, seen) st := ⟨_, rfl⟩
              rw [← hRB] at hf8 hwt
              generalize nexts wd st m = nx at nok ntf hL5 hwt
              obtain ⟨ns, hLa5, pn⟩ := hL5
              have hnl : ns.length = nx.length := Paired.length pn
              refine ⟨L5, rfl, ⟨_, .of hLa5⟩, for_list (xs := ns.map V.ref) (fun l σ H11 => ∃ (ahead : List S) (seen : Seen) (z5 z9 z10 z11 z12 : Option V), σ = [some (.int wd), some (.ref t), some (.ref L), some (.ref sa), some (.ref Gd), z5, some (.ref Sn), some (.int k), some (.ref G), z9, z10, z11, z12] ∧
                BIn P w H7 H11 a ds od2 (DsO P w a kv2) G Sn ahead seen ∧ LayOk wd ahead ∧ SnOk wd seen ∧ H11 L5 = some (.lst (ns.map V.ref)) ∧ Paired (NxAt H11) ns nx ∧ (nx.drop l).foldl (bkTurn good st) (ahead, seen) = RB) ⟨ahead, seen, z5, z9, z10, z11, z12, rfl, c10, ao, hsl, hLa5, pn, hwt.symm⟩ (fun l σ H11 _ hP => ?_) ?_ ?_⟩
              · obtain ⟨_, _, _, _, _, _, _, _, _, _, _, h1, _⟩ := hP
                exact .of h1
              · rintro l v σ H11 hv ⟨ahead, seen, z5, z9, z10, z11, z12, rfl, c11, ao, hsl, hL11, pn11, hf11⟩
                have hl2 : l < nx.length := by
                  rw [← hnl, ← List.length_map (f := V.ref) (as := ns)]
                  exact (List.getElem?_eq_some_iff.mp hv).1
                have hg : nx[l]? = some nx[l] := List.getElem?_eq_getElem hl2
                obtain ⟨a0, ha0, hx0⟩ := pget pn11 hg
                have ev : v = .ref a0 := by
                  rw [List.getElem?_map, ha0] at hv
                  exact (Option.some.inj hv).symm
                subst ev
                rw [List.drop_eq_getElem_cons hl2, List.foldl_cons] at hf11
                have hx := nok _ (List.getElem_mem hl2)
                have hxt := ntf _ (List.getElem_mem hl2)
                generalize nx[l] = x at hx hxt hx0 hf11
                obtain ⟨bt, h1, h2⟩ := hx0
                refine ⟨a0, _, rfl, .of h1, rfl, _, _, rfl, _, _, rfl, _, _, rfl, rfl, ?_⟩
                refine ⟨_, rfl, _, rfl, Gd, bt, _, x.1, rfl, rfl, hgd c11, h2, _, rfl, ?_⟩
                rw [tK_val]
                refine if2 (fun e1 => ?_) (fun e1 => ?_)
                · have e1 := of_decide_eq_true e1
                  have hbt : bkTurn good st (ahead, seen) x = (ins ahead st, mark st.pl x.2.1 seen) := if_pos e1
                  rw [hbt] at hf11
                  refine ⟨_, rfl, _, rfl, G, sa, _, st, rfl, rfl, c11.ah, hsa c11, by rw [tK_len, sizeLine_eq]; have := ao.few hw; omega, fun o d7 => ?_⟩
                  have c12 := c11.put nG d7
                  obtain ⟨φ, hGe⟩ := c11.ah.ext
                  have kt : Tk H11 (L2.upd H11 G o) := Tk.ext hGe
                  have hL12 : (L2.upd H11 G o) L5 = some (.lst (ns.map V.ref)) := by
                    rw [upd_ne (c11.ah.ne_lst hL11)]
                    exact hL11
                  have pn12 : Paired (NxAt (L2.upd H11 G o)) ns nx := Paired.mapP pn11 fun a x q => q.tk kt
                  have ao2 := ao.ins sg
                  refine ⟨_, rfl, _, rfl, for_it (walk_enumS (l := x.2.1)) (fun e σ H13 => ∃ (seen' : Seen) (z5 z12 : Option V), σ = [some (.int wd), some (.ref t), some (.ref L), some (.ref sa), some (.ref Gd), z5, some (.ref Sn), some (.int k), some (.ref G), some (.ref bt), some (.str (enc x.2.1)), some (.int x.2.2), z12] ∧
                    BIn P w H7 H13 a ds od2 (DsO P w a kv2) G Sn (ins ahead st) seen' ∧ SnOk wd seen' ∧ H13 L5 = some (.lst (ns.map V.ref)) ∧ Paired (NxAt H13) ns nx ∧ mark (st.pl + e) (x.2.1.drop e) seen' = mark st.pl x.2.1 seen) ⟨seen, z5, z12, rfl, c12, hsl, hL12, pn12, rfl⟩ (fun _ _ _ _ _ => trivial) ?_ ?_⟩
                  · rintro e y σ H13 H14 hel ⟨seen', z5, z12, rfl, c13, hsl3, hL13, pn13, hmk⟩ ⟨Tp, c, rfl, nT, rfl, hcg⟩
                    have s14 : Same H13 (L2.upd H13 Tp (.tup [.int (e : Nat), .str (col c)])) := same_new nT
                    have c14 := c13.same s14
                    rw [List.drop_eq_getElem_cons hel] at hmk
                    have hec : x.2.1[e] = c := (List.getElem?_eq_some_iff.mp hcg).2
                    rw [hec] at hmk
                    have hmk : mark (st.pl + e + 1) (x.2.1.drop (e + 1)) (markAt seen' (st.pl + e) c) = mark st.pl x.2.1 seen := hmk
                    have hidx : st.pl + e < ds.length := by
                      have := hx.good.le
                      omega
                    obtain ⟨d, hd1, hd2⟩ := c14.se.get hidx
                    refine ⟨Tp, _, rfl, .of upd_same, rfl, _, _, rfl, _, _, rfl, rfl, ?_⟩
                    refine ⟨_, rfl, _, rfl, sa, _, 0, _, rfl, rfl, .of (hsa c14), atI_nat (j := 0) rfl, _, rfl, _, _, rfl, rfl, Sn, _, ((st.pl + e : Nat) : Int), .ref d, rfl, rfl, .of c14.sn, atI_nat (j := st.pl + e) (by rw [List.getElem?_map, hd1]; rfl), _, rfl, d, _, rfl, DPut.k (k := .inr (col c)) hd2 ?_, ?_⟩
                    · rw [kD_len, sizeLine_eq]
                      have := hsl3.few (st.pl + e)
                      omega
                    rw [kD_put]
                    have c15 := c14.mark (c := c) hdn hd1
                    refine ⟨_, _, _, rfl, c15, ?_, ?_, ?_, hmk⟩
                    · exact hsl3.mark
                    · rw [upd_ne (two (s14 _ _ hL13) hd2 (by nofun))]
                      exact s14 _ _ hL13
                    · exact Paired.mapP pn13 fun a x q => (q.tk (Same.tk s14)).tk (Tk.dK hd2)
                  · rintro σ H13 ⟨seen', z5, z12, rfl, c13, hsl3, hL13, pn13, hmk⟩
                    rw [List.drop_length] at hmk
                    have hmk : seen' = mark st.pl x.2.1 seen := hmk
                    rw [← hmk] at hf11
                    exact ⟨_, seen', _, _, _, _, _, rfl, c13, ao2, hsl3, hL13, pn13, hf11⟩
                · have e1 := of_decide_eq_false e1
                  have hbt : bkTurn good st (ahead, seen) x = (ahead, seen) := if_neg e1
                  rw [hbt] at hf11
                  exact ⟨ahead, seen, _, _, _, _, _, rfl, c11, ao, hsl, hL11, pn11, hf11⟩
              · rintro σ H11 ⟨ahead, seen, z5, z9, z10, z11, z12, rfl, c11, ao, hsl, hL11, pn11, hf11⟩
                rw [List.length_map, hnl, List.drop_length] at hf11
                have hf11 : (ahead, seen) = RB := hf11
                rw [← hf11] at hf8
                exact ⟨ahead, seen, _, _, _, _, _, _, rfl, c11, ao, hsl, hf8⟩
            · rintro σ H8 ⟨ahead, seen, z3, z5, z9, z10, z11, z12, rfl, c8, ao, hsl, hf8⟩
              rw [prs_tlen ka3, List.drop_length] at hf8
              have hf8 : (ahead, seen) = RA := hf8
              rw [← hf8] at hbs
              refine ⟨c8.wy, _, rfl, G, ahead, seen, l2, _, _, _, _, _, _, _, _, rfl, fun b o hb => ?_, s7.free nG, c8.ah.keep (Tk.frz c8.wy) (upd_ne (Ne.symm hGa)), ?_, c8.se.keep fun b hb => upd_ne fun z => hads (z ▸ hb), ao, hsl, hl2, hbs⟩
              · by_cases hba : b = a
                · rw [hba, upd_same]
                  rw [hba, ka1] at hb
                  exact hb
                · rw [upd_ne hba]
                  refine c8.fr _ _ (s7 _ _ hb) hba fun z => ?_
                  have := (hd0 b z).2.1
                  rw [hb] at this
                  cases this
              · rw [upd_ne (two c8.sn c8.wy (by nofun))]
                exact c8.sn
          · rintro σ H7 ⟨Gd, good, seen, lk, z3, z5, z7, z8, z9, z10, z11, z12, rfl, s7, nGd, dG, hS7, se7, gok, hsl, hlk, hbk⟩
            rw [Nat.sub_self] at hlk hbk
            rw [lay_zero] at hlk
            have hlk := Option.some.inj hlk
            rw [← hlk, List.drop_zero] at hbk
            rw [hbk] at q
            have hdsl : ds.length = seen.length := Paired.length se7
            have hsl2 := hsl.len
            refine ⟨⟨_, rfl⟩, _, rfl, Sn, rfl, ⟨_, .of hS7⟩, fun Ln nLn => ?_⟩
            have s8 : Same H7 (L2.upd H7 Ln (.lst [])) := same_new nLn
            have nLn1 : H1 Ln = none := s7.free nLn
            obtain ⟨g, hg⟩ : ∃ g : Row → List V, g = fun r => (r.map fun o => (⟨#[signO o]⟩ : Str)).map V.str := ⟨_, rfl⟩
            have hrl : (rowOf seen).length = seen.length := List.length_map ..
            refine lc_list (xs := ds.map V.ref) (fun i H8 => Same H1 H8 ∧ H8 Sn = some (.lst (ds.map V.ref)) ∧ SeenP H8 ds seen ∧ H8 Ln = some (.lst (g ((rowOf seen).take i)))) ⟨s7.trans s8, s8 _ _ hS7, se7.keep (fun b hb => ?_), ?_⟩ (fun i H8 _ hP => .of hP.2.1) ?_ ?_
            · obtain ⟨ks, e⟩ := se7.at b hb
              rw [e]
              exact s8 _ _ e
            · rw [upd_same, hg]
              rfl
            · rintro i v H8 hv ⟨s9, hS8, se8, hL8⟩
              have hi : i < ds.length := by
                rw [← List.length_map (f := V.ref) (as := ds)]
                exact (List.getElem?_eq_some_iff.mp hv).1
              obtain ⟨d, hd1, hd2⟩ := se8.get hi
              have ev : v = .ref d := by
                rw [List.getElem?_map, hd1] at hv
                exact (Option.some.inj hv).symm
              subst ev
              have hi2 : i < seen.length := by omega
              have hgD : seen.getD i [] = seen[i] := by
                rw [List.getD_eq_getElem?_getD, List.getElem?_eq_getElem hi2]
                rfl
              rw [hgD] at hd2
              have hro : (rowOf seen)[i]? = some (match seen[i] with | [d] => some d | _ => none) := by
                unfold rowOf
                rw [List.getElem?_map, List.getElem?_eq_getElem hi2]
                rfl
              have hgn : ∀ o, (rowOf seen)[i]? = some o → g ((rowOf seen).take (i + 1)) = g ((rowOf seen).take i) ++ [.str ⟨#[signO o]⟩] := fun o ho => by
                rw [List.take_add_one, ho, hg]
                dsimp only
                rw [List.map_append, List.map_append]
                rfl
              have hzl : (g ((rowOf seen).take i)).length < sizeLine := by
                rw [hg]
                dsimp only
                rw [List.length_map, List.length_map, List.length_take, sizeLine_eq]
                omega
              have fin : ∀ (H9 : Hp) (o : Option Bool), Same H8 H9 → (rowOf seen)[i]? = some o → ∃ acc, H9 Ln = some (.lst acc) ∧ acc.length < sizeLine ∧ (Same H1 (L2.upd H9 Ln (.lst (acc ++ [.str ⟨#[signO o]⟩]))) ∧ (L2.upd H9 Ln (.lst (acc ++ [.str ⟨#[signO o]⟩]))) Sn = some (.lst (ds.map V.ref)) ∧
                  SeenP (L2.upd H9 Ln (.lst (acc ++ [.str ⟨#[signO o]⟩]))) ds seen ∧ (L2.upd H9 Ln (.lst (acc ++ [.str ⟨#[signO o]⟩]))) Ln = some (.lst (g ((rowOf seen).take (i + 1))))) := fun H9 o s10 ho => by
                have hSL : Sn ≠ Ln := fun z => by
                  rw [z] at hS7
                  rw [hS7] at nLn
                  cases nLn
                refine ⟨_, s10 _ _ hL8, hzl, same_mut (s9.trans s10) nLn1, ?_, se8.keep fun b hb => ?_, ?_⟩
                · rw [upd_ne hSL]
                  exact s10 _ _ hS8
                · obtain ⟨ks, e⟩ := se8.at b hb
                  rw [upd_ne (two (s10 _ _ e) (s10 _ _ hL8) (by nofun)), s10 _ _ e, e]
                · rw [upd_same, hgn o ho]
              refine ⟨rfl, _, rfl, d, _, rfl, hd2, rfl, _, rfl, ?_⟩
              rw [kD_len]
              generalize seen[i] = ks at hro hd2 ⊢
              refine if2 (fun e1 => ?_) (fun e1 => ?_)
              · have e1 := of_decide_eq_true e1
                injection e1 with e1
                match ks, e1 with
                | [c], _ => exact ⟨_, rfl, d, _, rfl, hd2, fun q nq => ⟨q, _, 0, .str (col c), rfl, rfl, .of upd_same, atI_nat (j := 0) rfl, fin _ (some c) (same_new nq) hro⟩⟩
              · have e1 := of_decide_eq_false e1
                have e3 : (rowOf seen)[i]? = some none := by
                  rw [hro]
                  match ks, e1 with
                  | [], _ => rfl
                  | [c], e1 => exact absurd rfl e1
                  | _ :: _ :: _, _ => rfl
                exact fin _ none (Same.refl _) e3
            · rintro H8 ⟨s9, hS8, se8, hL8⟩
              rw [List.length_map, hdsl, ← hrl, List.take_length] at hL8
              refine ⟨_, Ln, (rowOf seen).map fun o => (⟨#[signO o]⟩ : Str), rfl, rfl, .inl (.of ?_), ?_, ?_⟩
              · rw [hL8, hg]
              · have e5 : ∀ r : Row, ((r.map fun o => (⟨#[signO o]⟩ : Str)).map (·.length)).sum = r.length := by
                  intro r
                  induction r with
                  | nil => rfl
                  | cons o r ih =>
                    rw [List.map_cons, List.map_cons, List.sum_cons, ih, List.length_cons]
                    show 1 + r.length = _
                    omega
                rw [e5, List.length_map, hrl]
                show seen.length + seen.length * 0 ≤ _
                omega
              · rw [TL.join_eq, join_row]
                exact q _ (s1.trans s9)
end
end K77
set_option Elab.async false
set_option linter.all false
set_option maxRecDepth 100000
set_option maxHeartbeats 4000000
/-! K77W16: sure. -/
namespace K77
open PySem PySem.Spec PyProof.Rows L2
section
variable {P : Program} {w : World} {K : PySem.W.Frag} {mg : Str → Option Value} {base : Heap}
def spSure : Sp := fun vs H Q _ => ∃ (wd : Nat) (t : Addr) (ms : List Mode), vs = [.int wd, .ref t] ∧ 1 ≤ wd ∧ wd ≤ 40 ∧ TelAt H t ms ∧ ms.length ≤ 80 ∧ (∀ m ∈ ms, MOk m) ∧ ∀ H', Same H H' → Q (rowV (sureRow wd ms)) H'
theorem scSure : FnScope ["width", "telling", "line"] ["width", "telling"] (defScope sSure) := ⟨rfl, rfl, rfl, by decide +kernel, rfl, by decide +kernel, by decide +kernel⟩
theorem ok_sure (T : Tx K mg) (D : Stands K mg "sure" sSure) (hw : Has P w K mg base "need_width" ["width"] 2 spNeedWidth) (hn : Has P w K mg base "need_telling" ["thing"] 3 spNeedTelling) (hf : Has P w K mg base "is_full" ["telling"] 1 spIsFull)
    (hs : Has P w K mg base "sure_in" ["width", "telling"] 7 spSureIn) : Has P w K mg base "sure" ["width", "telling"] 8 spSure := by
  refine has_of D scSure (fun _ _ _ _ _ _ us hl => match us, hl with | [_, _], _ => rfl) (fun vs H Q E h => ?_) (fun f cdv A outer s H vs Q E hr h => ?_)
  · obtain ⟨wd, t, ms, rfl, _⟩ := h
    rfl
  · obtain ⟨wd, t, ms, rfl, h1, h40, ht, h80, mok, q⟩ := h
    refine ⟨_, pss_cons (ps_expr (pe_do hw (hr.mono (by decide)) (pa_cons (pv 0) pa_nil))) (pss_cons (ps_if (pt_val (pe_do hf (hr.mono (by decide)) (pa_cons (pe_do hn (hr.mono (by decide)) (pa_cons (pv 1) pa_nil)) pa_nil))) pss_never pss_nil)
      (pss_one (ps_ret (pe_do hs hr (pa_cons (pv 0) (pa_cons (pv 1) pa_nil)))))), ?_⟩
    exact ⟨_, rfl, wd, rfl, h1, h40, _, rfl, t, ms, rfl, ht, h80, mok, fun H1 s1 => ⟨t, ms, rfl, ht.same s1, false, rfl, iteF ⟨_, rfl, _, rfl, wd, t, ms, rfl, h40, ht.same s1, h80, mok, fun H2 s2 => q H2 (s1.trans s2)⟩⟩⟩
end
end K77
set_option Elab.async false
set_option linter.all false
set_option maxRecDepth 100000
set_option maxHeartbeats 4000000
/-! K77X1: the law's draws. -/
namespace K77
open PySem PySem.Spec PyProof.Rows L2
/-! ### the law's own state -/
structure Mc where
  m : Addr
  C : Addr
  Lf : Addr
def mD (C Lf : Addr) (s : Nat) : List (Key × V) := [(.inr "cells", .ref C), (.inr "left", .ref Lf), (.inr "spot", .int s)]
theorem mD_cells (C Lf : Addr) (s : Nat) : valV (mD C Lf s) (.inr "cells") = some (.ref C) := rfl
theorem mD_left (C Lf : Addr) (s : Nat) : valV (mD C Lf s) (.inr "left") = some (.ref Lf) := by
  have h1 : decide ((Sum.inr "cells" : Key) = .inr "left") = false := by decide +kernel
  unfold valV mD
  rw [List.find?_cons]
  dsimp only
  rw [h1]
  rfl
theorem mD_spot (C Lf : Addr) (s : Nat) : valV (mD C Lf s) (.inr "spot") = some (.int s) := by
  have h1 : decide ((Sum.inr "cells" : Key) = .inr "spot") = false := by decide +kernel
  have h2 : decide ((Sum.inr "left" : Key) = .inr "spot") = false := by decide +kernel
  unfold valV mD
  rw [List.find?_cons]
  dsimp only
  rw [h1, List.find?_cons]
  dsimp only
  rw [h2]
  rfl
theorem mD_put (C Lf : Addr) (s t : Nat) : putK (mD C Lf s) (.inr "spot") (.int t) = mD C Lf t := by
  have h1 : ¬ (Sum.inr "cells" : Key) = .inr "spot" := by decide +kernel
  have h2 : ¬ (Sum.inr "left" : Key) = .inr "spot" := by decide +kernel
  unfold putK mD
  rw [if_pos (by simp)]
  simp only [List.map_cons, List.map_nil, if_neg h1, if_neg h2, if_pos]
def MAt (M : Mc) (H : Hp) (s : Nat) : Prop := M.C ≠ M.Lf ∧ H M.m = some (.dK (mD M.C M.Lf s)) ∧ ∃ cs ls : List Int, H M.C = some (.lst (cs.map V.int)) ∧ H M.Lf = some (.lst (ls.map V.int)) ∧ cs.length = ls.length ∧ 0 < cs.length ∧ cs.length ≤ 64
/-- only the state may have changed -/
def Mv (M : Mc) (H H' : Hp) : Prop := ∀ b o, H b = some o → b ≠ M.m → b ≠ M.Lf → H' b = some o
section
variable {M : Mc} {H H1 H2 : Hp} {s : Nat}
theorem Mv.refl : Mv M H H := fun _ _ h _ _ => h
theorem Mv.trans (a : Mv M H H1) (b : Mv M H1 H2) : Mv M H H2 := fun c o h h1 h2 => b c o (a c o h h1 h2) h1 h2
theorem Mv.of (k : Same H H1) : Mv M H H1 := fun c o h _ _ => k c o h
theorem MAt.same (a : MAt M H s) (k : Same H H1) : MAt M H1 s := by
  obtain ⟨h0, h1, cs, ls, h2, h3, h4⟩ := a
  exact ⟨h0, k _ _ h1, cs, ls, k _ _ h2, k _ _ h3, h4⟩
theorem MAt.ne {a : Addr} {xs : List V} (A : MAt M H s) (h : H a = some (.tup xs)) : a ≠ M.m ∧ a ≠ M.Lf := by
  obtain ⟨h0, h1, cs, ls, h2, h3, h4⟩ := A
  exact ⟨two h h1 (by nofun), two h h3 (by nofun)⟩
theorem Mv.tup {a : Addr} {xs : List V} (v : Mv M H H1) (A : MAt M H s) (h : H a = some (.tup xs)) : H1 a = some (.tup xs) := v _ _ h (A.ne h).1 (A.ne h).2
theorem Mv.tk (v : Mv M H H1) (A : MAt M H s) : Tk H H1 := fun a xs h => v.tup A h
theorem Mv.lst {a : Addr} {xs : List V} (v : Mv M H H1) (A : MAt M H s) (h : H a = some (.lst xs)) (hn : a ≠ M.Lf) : H1 a = some (.lst xs) := by
  obtain ⟨h0, h1, _⟩ := A
  exact v _ _ h (two h h1 (by nofun)) hn
theorem TelAt.tk {t : Addr} {ms : List Mode} (h : TelAt H t ms) (k : Tk H H1) : TelAt H1 t ms := by
  obtain ⟨as, h1, h2⟩ := h
  exact ⟨as, k _ _ h1, Paired.mapP h2 fun a m q => k _ _ q⟩
end
section
variable {P : Program} {w : World} {K : PySem.W.Frag} {mg : Str → Option Value} {base : Heap}
theorem pos7 : (0 : Int) < 2147483647 := by decide
/-! ### _law_mix -/
def spMix : Sp := fun vs H Q _ => ∃ (c : Int) (s : Nat), vs = [.int c, .int s] ∧ s < 2 ^ 60 ∧ ∀ r : Int, Q (.int r) H
theorem scMix : FnScope ["_law_cell", "_law_spot", "_law_first", "_law_second"] ["_law_cell", "_law_spot"] (defScope sLMix) := ⟨rfl, rfl, rfl, by decide +kernel, rfl, by decide +kernel, by decide +kernel⟩
theorem ok_mix (T : Tx K mg) (D : Stands K mg "_law_mix" sLMix) : Has P w K mg base "_law_mix" ["_law_cell", "_law_spot"] 1 spMix := by
  refine has_of D scMix (fun _ _ _ _ _ _ us hl => match us, hl with | [_, _], _ => rfl) (fun vs H Q E h => ?_) (fun f cdv A outer s H vs Q E hr h => ?_)
  · obtain ⟨c, s, rfl, _⟩ := h
    rfl
  · obtain ⟨c, s, rfl, hs, q⟩ := h
    refine ⟨_, pss_cons (ps_set (i := 2) scMix.nd rfl (.inl rfl) (pe_op op_mod (pe_callTy call_int1 (by rfl) T.int_ boot_int (pa_cons (pe_op op_add (pe_op op_add (pe_op op_mul (pv 0) pe_int) (pe_op op_mul (pv 1) pe_int)) pe_int) pa_nil)) pe_int))
      (pss_cons (ps_set (i := 3) scMix.nd rfl (.inl rfl) (pe_op op_mod (pe_callTy call_int1 (by rfl) T.int_ boot_int (pa_cons (pe_op op_add (pe_op op_add (pe_op op_mul (pv 2) pe_int) (pv 0)) (pv 1)) pa_nil)) pe_int))
      (pss_one (ps_ret (pe_op op_mod (pe_callTy call_int1 (by rfl) T.int_ boot_int (pa_cons (pe_op op_add (pe_op op_mul (pv 3) pe_int) (pe_op op_mul (pe_op op_mul (pv 1) (pv 1)) pe_int)) pa_nil)) pe_int)))), ?_⟩
    refine ⟨_, rfl, _, _, rfl, rfl, .inr ⟨by decide, by decide⟩, _, rfl, _, _, rfl, rfl, .inr ⟨by decide, by decide⟩, _, _, rfl, rfl, _, _, rfl, rfl, .inl ⟨_, rfl, _, _, rfl, rfl, pos7, ?_⟩⟩
    refine ⟨_, rfl, _, _, rfl, rfl, .inr ⟨by decide, by decide⟩, _, rfl, _, _, rfl, rfl, _, rfl, _, _, rfl, rfl, .inl ⟨_, rfl, _, _, rfl, rfl, pos7, ?_⟩⟩
    refine ⟨_, rfl, _, _, rfl, rfl, .inr ⟨by decide, by decide⟩, _, rfl, _, rfl, _, _, rfl, rfl, .inl ⟨by omega, by omega⟩, _, _, rfl, rfl, .inr ⟨by decide, by decide⟩, _, _, rfl, rfl, .inl ⟨_, rfl, _, _, rfl, rfl, pos7, q _⟩⟩
/-! ### _law_draw -/
def spDraw : Sp := fun vs H Q _ => ∃ (M : Mc) (s lim : Nat), vs = [.ref M.m, .int lim] ∧ MAt M H s ∧ s < 2 ^ 50 ∧ 0 < lim ∧ lim < 2 ^ 20 ∧ ∀ (r : Nat) (H' : Hp), r < lim → Mv M H H' → MAt M H' (s + 1) → Q (.int r) H'
theorem scDraw : FnScope ["_law_m", "_law_limit", "_law_spot", "_law_here", "_law_left"] ["_law_m", "_law_limit"] (defScope sLDraw) := ⟨rfl, rfl, rfl, by decide +kernel, rfl, by decide +kernel, by decide +kernel⟩
theorem ok_draw (T : Tx K mg) (D : Stands K mg "_law_draw" sLDraw) (hm : Has P w K mg base "_law_mix" ["_law_cell", "_law_spot"] 1 spMix) : Has P w K mg base "_law_draw" ["_law_m", "_law_limit"] 2 spDraw := by
  refine has_of D scDraw (fun _ _ _ _ _ _ us hl => match us, hl with | [_, _], _ => rfl) (fun vs H Q E h => ?_) (fun f cdv A outer s H vs Q E hr h => ?_)
  · obtain ⟨M, s, lim, rfl, _⟩ := h
    rfl
  · obtain ⟨M, s, lim, rfl, A0, hs, hl0, hl1, q⟩ := h
    refine ⟨_, pss_cons (ps_set (i := 2) scDraw.nd rfl (.inl rfl) (pe_dget (Room.u1 hr) (pv 0) pe_str (fun _ _ => rfl)))
      (pss_cons (ps_dput (Room.u1 hr) (pv 0) pe_str (pe_op op_add (pv 2) pe_int) rfl)
      (pss_cons (ps_set (i := 3) scDraw.nd rfl (.inl rfl) (pe_op op_mod (pe_callTy call_int1 (by rfl) T.int_ boot_int (pa_cons (pv 2) pa_nil)) (pe_callB call_len_seq (by rfl) T.len_ PySem.boot_len (pa_cons (pe_dget (Room.u1 hr) (pv 0) pe_str (fun _ _ => rfl)) pa_nil))))
      (pss_cons (ps_set (i := 4) scDraw.nd rfl (.inl rfl) (pe_ix ix_list (pe_dget (Room.u1 hr) (pv 0) pe_str (fun _ _ => rfl)) (pv 3) (fun _ _ => rfl)))
      (pss_cons (ps_if (pt_cmpR op_gt (pv 4) pe_int (nomark _))
        (pss_cons (ps_asg (pe_op op_fdiv (pv 4) (pv 1)) (pg_sub (pe_dget (Room.u1 hr) (pv 0) pe_str (fun _ _ => rfl)) (pv 3) set_list))
        (pss_one (ps_ret (pe_op op_mod (pe_callTy call_int1 (by rfl) T.int_ boot_int (pa_cons (pv 4) pa_nil)) (pv 1))))) pss_nil)
      (pss_one (ps_ret (pe_op op_mod (pe_callTy call_int1 (by rfl) T.int_ boot_int (pa_cons (pe_op op_fdiv (pe_do hm hr (pa_cons (pe_ix ix_list (pe_dget (Room.u1 hr) (pv 0) pe_str (fun _ _ => rfl)) (pv 3) (fun _ _ => rfl)) (pa_cons (pv 2) pa_nil))) pe_int) pa_nil)) (pv 1)))))))), ?_⟩
    obtain ⟨hCL, hmm, cs, ls, hC, hL, hcl, hc0, hc64⟩ := A0
    refine ⟨_, rfl, M.m, _, rfl, .inl ⟨_, .inr "spot", .inl hmm, rfl, (mD_spot _ _ _).symm⟩, ?_⟩
    refine ⟨_, rfl, _, _, rfl, rfl, _, rfl, M.m, _, rfl, DPut.k (k := .inr "spot") hmm (by show 3 < sizeLine; decide), ?_⟩
    have e1 : putK (mD M.C M.Lf s) (.inr "spot") (.int ((s : Int) + 1)) = mD M.C M.Lf (s + 1) := mD_put M.C M.Lf s (s + 1)
    rw [e1]
    generalize hH1 : L2.upd H M.m (.dK (mD M.C M.Lf (s + 1))) = H1
    have nmC : M.C ≠ M.m := two hC hmm (by nofun)
    have nmL : M.Lf ≠ M.m := two hL hmm (by nofun)
    have hm1 : H1 M.m = some (.dK (mD M.C M.Lf (s + 1))) := by rw [← hH1, upd_same]
    have hC1 : H1 M.C = some (.lst (cs.map V.int)) := by rw [← hH1, upd_ne nmC]; exact hC
    have hL1 : H1 M.Lf = some (.lst (ls.map V.int)) := by rw [← hH1, upd_ne nmL]; exact hL
    have v1 : Mv M H H1 := fun b o hb h1 _ => by rw [← hH1, upd_ne h1]; exact hb
    have hn : ((cs.map V.int).length : Int) = (cs.length : Int) := by rw [List.length_map]
    refine ⟨_, rfl, .inl ⟨_, rfl, _, rfl, M.m, _, rfl, .inl ⟨_, .inr "cells", .inl hm1, rfl, (mD_cells _ _ _).symm⟩, M.C, _, rfl, .inl (.of hC1), _, _, rfl, rfl, ?_, ?_⟩⟩
    · show (0 : Int) < ((cs.map V.int).length : Int)
      rw [hn]
      omega
    obtain ⟨k, hk⟩ : ∃ k : Nat, k = s % cs.length := ⟨_, rfl⟩
    have hkl : k < ls.length := by
      rw [hk, ← hcl]
      exact Nat.mod_lt _ hc0
    have ek : V.int ((s : Int) % ((cs.map V.int).length : Int)) = V.int (k : Int) := by
      rw [hn, hk]
      rfl
    refine gsetV ek ?_
    refine ⟨_, rfl, M.m, _, rfl, .inl ⟨_, .inr "left", .inl hm1, rfl, (mD_left _ _ _).symm⟩, _, rfl, M.Lf, _, _, .int ls[k], rfl, rfl, .of hL1, atI_nat (j := k) (by rw [List.getElem?_map, List.getElem?_eq_getElem hkl]; rfl), ?_⟩
    refine ⟨_, rfl, _, _, rfl, rfl, _, rfl, if2 (fun e => ?_) (fun e => ?_)⟩
    · have hdiv : CDiv ls[k] (lim : Int) := ⟨by omega, by omega⟩
      refine ⟨_, rfl, _, rfl, _, _, rfl, rfl, hdiv, _, rfl, M.m, _, rfl, .inl ⟨_, .inr "left", .inl hm1, rfl, (mD_left _ _ _).symm⟩, _, rfl, M.Lf, _, _, k, rfl, rfl, hL1, ?_, ?_⟩
      · unfold ixN
        rw [if_pos (by omega), List.length_map, if_pos (by omega), Int.toNat_natCast]
      refine ⟨_, rfl, .inl ⟨_, rfl, _, rfl, _, _, rfl, rfl, by omega, ?_⟩⟩
      have hr0 : 0 ≤ ls[k] % (lim : Int) := Int.emod_nonneg _ (by omega)
      have hr1 : ls[k] % (lim : Int) < (lim : Int) := Int.emod_lt_of_pos _ (by omega)
      obtain ⟨r, hr⟩ : ∃ r : Nat, ls[k] % (lim : Int) = (r : Int) := ⟨(ls[k] % (lim : Int)).toNat, by omega⟩
      have e9 : (ls.map V.int).set k (.int (ls[k] / (lim : Int))) = (ls.set k (ls[k] / (lim : Int))).map V.int := by
        rw [List.map_set]
      have fin := q r (L2.upd H1 M.Lf (.lst ((ls.map V.int).set k (.int (ls[k] / (lim : Int)))))) (by omega) (v1.trans fun b o hb _ h2 => by rw [upd_ne h2]; exact hb) ⟨hCL, by rw [upd_ne (Ne.symm nmL)]; exact hm1, cs, ls.set k (ls[k] / (lim : Int)), by rw [upd_ne hCL]; exact hC1, by rw [upd_same, e9], by rw [List.length_set]; exact hcl, hc0, hc64⟩
      rw [← hr] at fin
      exact fin
    · have hkc : k < cs.length := by omega
      refine ⟨_, rfl, M.m, _, rfl, .inl ⟨_, .inr "cells", .inl hm1, rfl, (mD_cells _ _ _).symm⟩, _, rfl, M.C, _, _, .int cs[k], rfl, rfl, .of hC1, atI_nat (j := k) (by rw [List.getElem?_map, List.getElem?_eq_getElem hkc]; rfl), _, rfl, cs[k], s, rfl, by omega, fun z => ?_⟩
      refine ⟨_, _, rfl, rfl, ⟨by decide, by decide⟩, .inl ⟨_, rfl, _, rfl, _, _, rfl, rfl, by omega, ?_⟩⟩
      have hr0 : 0 ≤ z / 97 % (lim : Int) := Int.emod_nonneg _ (by omega)
      have hr1 : z / 97 % (lim : Int) < (lim : Int) := Int.emod_lt_of_pos _ (by omega)
      obtain ⟨r, hr⟩ : ∃ r : Nat, z / 97 % (lim : Int) = (r : Int) := ⟨(z / 97 % (lim : Int)).toNat, by omega⟩
      have fin := q r H1 (by omega) v1 ⟨hCL, hm1, cs, ls, hC1, hL1, hcl, hc0, hc64⟩
      rw [← hr] at fin
      exact fin
end
end K77
set_option Elab.async false
set_option linter.all false
set_option maxRecDepth 100000
set_option maxHeartbeats 4000000
/-! K77X2: the law's beginning; a step, a reading, by the law. -/
namespace K77
open PySem PySem.Spec PyProof.Rows L2
theorem dps_ints {K : PySem.W.Frag} {H : Hp} : ∀ ns : List Int, DpAll K H (ns.map V.int) (ns.map PyData.int)
  | [] => .nil
  | n :: ns => .cons (.int n) (dps_ints ns)
theorem ints_shaped (ns : List Int) : SeqAt.shaped (.list (ns.map PyData.int)) = true :=
  shaped_lst (fun d hd => by
    obtain ⟨n, _, rfl⟩ := List.mem_map.mp hd
    rfl) fun d hd => by
    obtain ⟨n, _, rfl⟩ := List.mem_map.mp hd
    show 0 ≤ 10
    decide
theorem setX {te : TE} {i : Nat} {r : TS} {σ : L2.St} {H : Hp} {D : Ends} (Φ : V → Hp → Prop) (he : ∀ Q : VK, (∀ v H', Φ v H' → Q v H') → te σ H Q) (q : ∀ v H', Φ v H' → r D (σ.set i (some v)) H') : tSeq (tAsg te (gName i)) r D σ H := he _ q
section
variable {P : Program} {w : World} {K : PySem.W.Frag} {mg : Str → Option Value} {base : Heap}
def spLBegun (K : PySem.W.Frag) : Sp := fun vs H Q _ => ∃ (a : Addr) (ns : List Int), vs = [.ref a] ∧ SqL K H a (ns.map V.int) ∧ ns.length ≤ 63 ∧ ∀ (M : Mc) (H' : Hp), Same H H' → MAt M H' 0 → Q (.ref M.m) H'
abbrev nLBegun : List Str := ["_law_script", "_law_some", "_law_cell"]
theorem scLBegun : FnScope nLBegun ["_law_script"] (defScope sLBegun) := ⟨rfl, rfl, rfl, by decide +kernel, rfl, by decide +kernel, by decide +kernel⟩
theorem ok_lbegun (T : Tx K mg) (D : Stands K mg "_law_begun" sLBegun) : Has P w K mg base "_law_begun" ["_law_script"] 1 (spLBegun K) := by
  refine has_of D scLBegun (fun _ _ _ _ _ _ us hl => match us, hl with | [_], _ => rfl) (fun vs H Q E h => ?_) (fun f cdv A outer s H vs Q E hr h => ?_)
  · obtain ⟨a, ns, rfl, _⟩ := h
    rfl
  · obtain ⟨a, ns, rfl, hS, hl, q⟩ := h
    refine ⟨_, pss_cons (ps_set (i := 1) scLBegun.nd rfl (.inl rfl) (pe_ifExp (pt_cmpR (op_neD (by have := hr.un; omega)) (pv 0) (pe_lst pa_nil) (nomark _)) (pe_callTy call_list_of (by rfl) T.list_ (by decide +kernel) (pa_cons (pv 0) pa_nil)) (pe_lst (pa_cons pe_int pa_nil))))
      (pss_one (ps_ret (pe_disp (pps_cons pe_str (pv 1) (pps_cons pe_str (pe_lc (own := [("_law_cell", 2)]) (g := gName 2) (tt := tYes) rfl scLBegun.nd (pi_list (pv 1)) (blkOk_by (N := nLBegun) (sc := defScope sLBegun) (by decide +kernel)) (fun _ _ _ _ _ => pg_name (i := 2) scLBegun.nd rfl (Or.inl rfl)) (fun _ _ _ _ _ => pts_nil)
        (fun _ _ _ _ _ => pe_ifExp (pt_cmpR op_ge (pv 2) (pe_op op_pow pe_int pe_int) (nomark _)) (pv 2) pe_int)) (pps_cons pe_str pe_int pps_nil))) rfl rfl (by simp) (by decide)))), ?_⟩
    refine setX (fun v H' => ∃ (C : Addr) (cs : List Int), v = .ref C ∧ Same H H' ∧ H' C = some (.lst (cs.map V.int)) ∧ 0 < cs.length ∧ cs.length ≤ 64) (fun Q' q' => ⟨_, rfl, few rfl, fun p np => ?_⟩) ?_
    · have s1 : Same H (L2.upd H p (.lst [])) := same_new np
      refine ⟨_, _, .lst (s1.seq hS) (dps_ints ns), .lst (.of upd_same) .nil, ints_shaped ns, rfl, _, rfl, ?_⟩
      cases ns with
      | nil =>
        refine ifF rfl ⟨few rfl, fun C nC => q' _ _ ⟨C, [0], rfl, s1.trans (same_new nC), upd_same, by decide, by decide⟩⟩
      | cons n ns =>
        refine ifT rfl ⟨_, rfl, a, _, rfl, .inl (s1.seq hS), fun C nC => q' _ _ ⟨C, n :: ns, rfl, s1.trans (same_new nC), upd_same, by rw [List.length_cons]; omega, by omega⟩⟩
    rintro v H2 ⟨C, cs, rfl, s2, hC, hc0, hc64⟩
    refine fun m nm => ⟨_, rfl, _, rfl, C, rfl, ⟨_, .of (same_new nm _ _ hC)⟩, fun Lf nL => ?_⟩
    have s3 : Same H2 (L2.upd H2 m (.dK [])) := same_new nm
    have hCL : C ≠ Lf := ne_of_none (s3 _ _ hC) nL
    have hCm : C ≠ m := ne_of_none hC nm
    have hmL : m ≠ Lf := fun z => by
      rw [← z, upd_same] at nL
      cases nL
    have nL2 : H2 Lf = none := s3.free nL
    refine lc_list (xs := cs.map V.int) (fun i H4 => Same H2 H4 ∧ H4 m = some (.dK []) ∧ ∃ ls : List Int, ls.length = i ∧ H4 Lf = some (.lst (ls.map V.int))) ⟨s3.trans (same_new nL), same_new nL _ _ upd_same, [], rfl, upd_same⟩ (fun i H4 _ hP => .of (hP.1 _ _ hC)) ?_ ?_
    · rintro i v H4 hv ⟨s4, hm4, ls, hls, hL4⟩
      have hi : i < cs.length := by
        rw [← List.length_map (f := V.int) (as := cs)]
        exact (List.getElem?_eq_some_iff.mp hv).1
      have ev : v = .int cs[i] := by
        rw [List.getElem?_map, List.getElem?_eq_getElem hi] at hv
        exact (Option.some.inj hv).symm
      subst ev
      have fin : ∀ z : Int, ∃ acc, H4 Lf = some (.lst acc) ∧ acc.length < sizeLine ∧ (Same H2 (L2.upd H4 Lf (.lst (acc ++ [.int z]))) ∧ (L2.upd H4 Lf (.lst (acc ++ [.int z]))) m = some (.dK []) ∧ ∃ ls : List Int, ls.length = i + 1 ∧ (L2.upd H4 Lf (.lst (acc ++ [.int z]))) Lf = some (.lst (ls.map V.int))) := fun z => by
        refine ⟨_, hL4, by rw [List.length_map, hls, sizeLine_eq]; omega, same_mut s4 nL2, by rw [upd_ne hmL]; exact hm4, ls ++ [z], by rw [List.length_append, hls]; rfl, ?_⟩
        rw [upd_same, List.map_append]
        rfl
      refine ⟨rfl, _, rfl, _, _, rfl, rfl, ⟨by decide, by decide, by decide⟩, _, _, rfl, rfl, _, rfl, if2 (fun _ => ⟨_, rfl, fin _⟩) (fun _ => fin _)⟩
    · rintro H4 ⟨s4, hm4, ls, hls, hL4⟩
      rw [List.length_map] at hls
      refine ⟨hm4, mD C Lf 0, rfl, by show 3 ≤ 15; decide, ?_⟩
      have em : mergeK [] (mD C Lf 0) = mD C Lf 0 := by
        have h1 : ¬ (Sum.inr "cells" : Key) = .inr "left" := by decide +kernel
        have h2 : ¬ (Sum.inr "cells" : Key) = .inr "spot" := by decide +kernel
        have h3 : ¬ (Sum.inr "left" : Key) = .inr "spot" := by decide +kernel
        simp [mergeK, mD, putK, h1, h2, h3]
      rw [em]
      have nm0 : H2 m = none := nm
      refine q ⟨m, C, Lf⟩ _ (s2.trans (same_mut s4 nm0)) ⟨hCL, upd_same, cs, ls, ?_, ?_, by omega, hc0, hc64⟩
      · rw [upd_ne hCm]
        exact s4 _ _ hC
      · rw [upd_ne (Ne.symm hmL)]
        exact hL4
end
end K77
set_option Elab.async false
set_option linter.all false
set_option maxRecDepth 100000
set_option maxHeartbeats 4000000
/-! K77X3: changes, by the law. -/
namespace K77
open PySem PySem.Spec PyProof.Rows L2
section
variable {P : Program} {w : World} {K : PySem.W.Frag} {mg : Str → Option Value} {base : Heap}
/-! ### _law_change -/
def spLChange : Sp := fun vs H Q _ => ∃ (x : Dots) (p : Nat) (c t : Bool), vs = [.str (enc x), .int p, .str (col c), .bl t] ∧ x.length ≤ 40 ∧ p < x.length ∧ (t = false → p = 0) ∧ Q (.int (chgAt x p c t : Nat)) H
theorem scLChange : FnScope ["_law_ahead", "_law_spot", "_law_colour", "_law_begun_here", "_law_k", "_law_before"] ["_law_ahead", "_law_spot", "_law_colour", "_law_begun_here"] (defScope sLChange) := ⟨rfl, rfl, rfl, by decide +kernel, rfl, by decide +kernel, by decide +kernel⟩
theorem ok_lchange (T : Tx K mg) (D : Stands K mg "_law_change" sLChange) : Has P w K mg base "_law_change" ["_law_ahead", "_law_spot", "_law_colour", "_law_begun_here"] 1 spLChange := by
  refine has_of D scLChange (fun _ _ _ _ _ _ us hl => match us, hl with | [_, _, _, _], _ => rfl) (fun vs H Q E h => ?_) (fun f cdv A outer s H vs Q E hr h => ?_)
  · obtain ⟨x, p, c, t, rfl, _⟩ := h
    rfl
  · obtain ⟨x, p, c, t, rfl, h40, hp, h0, q⟩ := h
    refine ⟨_, pss_cons (ps_for PassesOwn.never rfl (pi_range2 (by rfl) T.range_ (pa_cons (pe_op op_add (pv 1) (pe_callTy call_int1 (by rfl) T.int_ boot_int (pa_cons (pv 3) pa_nil))) (pa_cons (pe_callB call_len_str (by rfl) T.len_ PySem.boot_len (pa_cons (pv 0) pa_nil)) pa_nil))) (pg_name (i := 4) scLChange.nd rfl (.inl rfl))
        (pss_cons (ps_set (i := 5) scLChange.nd rfl (.inl rfl) (pe_ifExp (pt_cmpR op_gt (pv 4) pe_int (nomark _)) (pe_ix ix_str (pv 0) (pe_op op_sub (pv 4) pe_int) (fun _ _ => rfl)) pe_str))
        (pss_one (ps_if (PW.pt (pw_and (pt_cmpR op_eq (pv 5) (pv 2) (nomark _)) (pw_and1 (pt_cmpR op_ne (pe_ix ix_str (pv 0) (pv 4) (fun _ _ => rfl)) (pv 2) (nomark _))))) (pss_one (ps_ret (pv 4))) pss_nil))))
      (pss_one (ps_ret (pe_callB call_len_str (by rfl) T.len_ PySem.boot_len (pa_cons (pv 0) pa_nil)))), ?_⟩
    have hlo : lo p t ≤ x.length := lo_le hp
    have hst := chgAt_lo (c := c) hp h0
    have ht : ∃ L : Int, L = (lo p t : Nat) ∧ L = (p : Int) + (if t = true then 1 else 0) := by
      refine ⟨_, rfl, ?_⟩
      unfold lo
      cases t <;> simp
    obtain ⟨L, hL, hL2⟩ := ht
    have en : ((x.length : Int) - L).toNat = x.length - lo p t := by omega
    have eL : V.int ((p : Int) + (if t = true then 1 else 0)) = V.int L := by rw [hL2]
    obtain ⟨t', et⟩ : ∃ t', t' = t := ⟨t, rfl⟩
    rw [← et] at hst q hlo hL en
    refine ⟨_, rfl, _, rfl, .inr ⟨t, rfl, _, _, rfl, rfl, ?_⟩⟩
    all_goals
      refine ⟨_, rfl, _, rfl, enc_szl (l := x) (by omega), L, x.length, by rw [enc_len]; exact congrArg (fun v => [v, V.int x.length]) eL, ⟨by omega, by omega, by omega, by omega⟩, ?_⟩
      refine for_range (fun i σ H2 => H2 = H ∧ chgAt x p c t' = lo p t' + i + scan c (prevAt x (lo p t' + i)) (x.drop (lo p t' + i)) ∧ ∃ tb y z, σ = [some (.str (enc x)), some (.int p), some (.str (col c)), some tb, y, z]) ⟨rfl, hst, _, none, none, rfl⟩ ?_ ?_
      · rintro i σ H2 hi ⟨rfl, hv, tb, y, z, rfl⟩
        rw [en] at hi
        have hk : lo p t' + i < x.length := by omega
        have eh : L + (i : Int) = ((lo p t' + i : Nat) : Int) := by omega
        rw [eh]
        rw [scan_at hk] at hv
        obtain ⟨k, ek⟩ : ∃ k, k = lo p t' + i := ⟨_, rfl⟩
        rw [Nat.add_assoc] at hv
        simp only [← ek, ← Nat.add_assoc] at hv hk eh ⊢
        have fn2 : ¬ (prevAt x k = c ∧ x[k] ≠ c) → chgAt x p c t' = k + 1 + scan c (prevAt x (k + 1)) (x.drop (k + 1)) := by
          intro hn
          rw [if_neg hn] at hv
          rw [prevAt_succ hk, hv]
          omega
        refine ⟨_, rfl, _, _, rfl, rfl, _, rfl, if2 (fun e => ?_) (fun e => ?_)⟩
        case' refine_1 =>
          have e := of_decide_eq_true e
          have ep : x[k - 1]? = some (prevAt x k) := by
            unfold prevAt
            rw [if_neg (by omega), List.getElem?_eq_getElem (by omega)]
            rfl
          refine ⟨_, rfl, _, rfl, _, _, rfl, rfl, rixs ep (by omega) (by omega) ?_⟩
        case' refine_2 =>
          have e := of_decide_eq_false e
          have ep : V.str "." = V.str (col (prevAt x k)) := by
            unfold prevAt
            rw [if_pos (by omega), col_w]
          rw [ep]
        all_goals
          refine ⟨_, rfl, _, rfl, rfl, _, rfl, if2 (fun e1 => ?_) (fun e1 => ?_)⟩
          · rw [col_dec] at e1
            have e1 := eq_of_beq e1
            refine ⟨_, rfl, _, rfl, rixs (List.getElem?_eq_getElem hk) rfl (by omega) ⟨_, rfl, rfl, _, rfl, if2 (fun e2 => ?_) (fun e2 => ?_)⟩⟩
            · rw [col_dec] at e2
              have e2 : x[k] ≠ c := by simpa using e2
              rw [if_pos ⟨e1, e2⟩, Nat.add_zero] at hv
              rw [hv] at q
              exact ⟨_, rfl, q⟩
            · rw [col_dec] at e2
              have e2 : x[k] = c := by simpa using e2
              exact ⟨rfl, fn2 fun z => z.2 e2, tb, _, _, rfl⟩
          · rw [col_dec] at e1
            have e1 := ne_of_beq_false e1
            exact iteF ⟨rfl, fn2 fun z => e1 z.1, tb, _, _, rfl⟩
      · rintro σ H2 ⟨rfl, hv, tb, y, z, rfl⟩
        rw [en] at hv
        have e0 : x.drop (lo p t' + (x.length - lo p t')) = [] := List.drop_eq_nil_of_le (by omega)
        rw [e0] at hv
        have e1 : chgAt x p c t' = x.length := by
          rw [hv]
          show lo p t' + (x.length - lo p t') + 0 = _
          omega
        rw [e1] at q
        refine ⟨_, rfl, _, rfl, enc_szl (by omega), ?_⟩
        rw [enc_len]
        exact q
/-! ### _law_again -/
def spLAgain : Sp := fun vs H Q _ => ∃ (x : Dots) (k : Nat) (c : Bool), vs = [.str (enc x), .int k, .str (col c)] ∧ x.length ≤ 40 ∧ k ≤ x.length ∧ (k < x.length → Q (.int (backAt x k c : Nat)) H) ∧ (k = x.length → Q (.int x.length) H)
theorem scLAgain : FnScope ["_law_ahead", "_law_spot", "_law_colour", "_law_k"] ["_law_ahead", "_law_spot", "_law_colour"] (defScope sLAgain) := ⟨rfl, rfl, rfl, by decide +kernel, rfl, by decide +kernel, by decide +kernel⟩
theorem ok_lagain (T : Tx K mg) (D : Stands K mg "_law_again" sLAgain) : Has P w K mg base "_law_again" ["_law_ahead", "_law_spot", "_law_colour"] 1 spLAgain := by
  refine has_of D scLAgain (fun _ _ _ _ _ _ us hl => match us, hl with | [_, _, _], _ => rfl) (fun vs H Q E h => ?_) (fun f cdv A outer s H vs Q E hr h => ?_)
  · obtain ⟨x, p, c, rfl, _⟩ := h
    rfl
  · obtain ⟨x, p, c, rfl, h40, hple, qlt, qeq⟩ := h
    refine ⟨_, pss_cons (ps_for PassesOwn.never rfl (pi_range2 (by rfl) T.range_ (pa_cons (pe_op op_add (pv 1) pe_int) (pa_cons (pe_callB call_len_str (by rfl) T.len_ PySem.boot_len (pa_cons (pv 0) pa_nil)) pa_nil))) (pg_name (i := 3) scLAgain.nd rfl (.inl rfl))
        (pss_one (ps_if (pt_cmpR op_eq (pe_ix ix_str (pv 0) (pv 3) (fun _ _ => rfl)) (pv 2) (nomark _)) (pss_one (ps_ret (pv 3))) pss_nil)))
      (pss_one (ps_ret (pe_callB call_len_str (by rfl) T.len_ PySem.boot_len (pa_cons (pv 0) pa_nil)))), ?_⟩
    by_cases hp : p < x.length
    case' neg =>
      have hpe : p = x.length := by omega
      refine ⟨_, rfl, _, _, rfl, rfl, _, rfl, _, rfl, enc_szl (by omega), ((p + 1 : Nat) : Int), x.length, by rw [enc_len]; rfl, ⟨by omega, by omega, by omega, by omega⟩, ?_⟩
      refine for_range (fun i σ H2 => H2 = H ∧ σ = [some (.str (enc x)), some (.int p), some (.str (col c)), none]) ⟨rfl, rfl⟩ ?_ ?_
      · rintro i σ H2 hi _
        exfalso
        omega
      · rintro σ H2 ⟨rfl, rfl⟩
        refine ⟨_, rfl, _, rfl, enc_szl (by omega), ?_⟩
        rw [enc_len]
        exact qeq hpe
    have q := qlt hp
    refine ⟨_, rfl, _, _, rfl, rfl, _, rfl, _, rfl, enc_szl (by omega), ((p + 1 : Nat) : Int), x.length, by rw [enc_len]; rfl, ⟨by omega, by omega, by omega, by omega⟩, ?_⟩
    have en : ((x.length : Int) - ((p + 1 : Nat) : Int)).toNat = x.length - (p + 1) := by omega
    refine for_range (fun i σ H2 => H2 = H ∧ backAt x p c = p + 1 + i + seek c (x.drop (p + 1 + i)) ∧ ∃ y, σ = [some (.str (enc x)), some (.int p), some (.str (col c)), y]) ⟨rfl, rfl, none, rfl⟩ ?_ ?_
    · rintro i σ H2 hi ⟨rfl, hv, y, rfl⟩
      rw [en] at hi
      have hk : p + 1 + i < x.length := by omega
      have eh : ((p + 1 : Nat) : Int) + (i : Int) = ((p + 1 + i : Nat) : Int) := by omega
      rw [eh]
      rw [seek_at hk] at hv
      refine ⟨_, rfl, _, rfl, rixs (List.getElem?_eq_getElem hk) rfl (by omega) ⟨_, rfl, rfl, _, rfl, if2 (fun e => ?_) (fun e => ?_)⟩⟩
      · rw [col_dec] at e
        rw [if_pos (eq_of_beq e), Nat.add_zero] at hv
        rw [hv] at q
        exact ⟨_, rfl, q⟩
      · rw [col_dec] at e
        rw [if_neg (ne_of_beq_false e)] at hv
        refine ⟨rfl, ?_, _, rfl⟩
        rw [hv]
        show p + 1 + i + (seek c (List.drop (p + 1 + i + 1) x) + 1) = p + 1 + (i + 1) + seek c (x.drop (p + 1 + i + 1))
        omega
    · rintro σ H2 ⟨rfl, hv, y, rfl⟩
      rw [en] at hv
      have e0 : x.drop (p + 1 + (x.length - (p + 1))) = [] := List.drop_eq_nil_of_le (by omega)
      rw [e0] at hv
      have e1 : backAt x p c = x.length := by
        rw [hv]
        show p + 1 + (x.length - (p + 1)) + 0 = _
        omega
      rw [e1] at q
      refine ⟨_, rfl, _, rfl, enc_szl (by omega), ?_⟩
      rw [enc_len]
      exact q
/-! ### _law_step -/
def stpV (p e : Nat) (c' : Bool) (told : Dots) : List V := [.int ((p + e : Nat) : Int), .str (col c'), .str (enc told)]
def spLStep : Sp := fun vs H Q _ => ∃ (x : Dots) (a : Addr) (m : Mode) (p : Nat) (c t : Bool), vs = [.str (enc x), .ref a, .int p, .str (col c), .bl t] ∧ x.length ≤ 40 ∧ p < x.length ∧ (t = false → p = 0) ∧ ModeAt H a m ∧ MOk m ∧
  (stepR m c t (x.drop p) = none → Q .non H) ∧ ∀ e c', stepR m c t (x.drop p) = some (e, c') → ∀ r, H r = none → Q (.ref r) (upd H r (.tup (stpV p e c' (toldBy m e c))))
theorem scLStep : FnScope ["_law_ahead", "_law_mode", "_law_spot", "_law_colour", "_law_begun_here", "_law_other", "_law_wide", "_law_mid", "_law_end", "_law_change_here"] ["_law_ahead", "_law_mode", "_law_spot", "_law_colour", "_law_begun_here"] (defScope sLStep) := ⟨rfl, rfl, rfl, by decide +kernel, rfl, by decide +kernel, by decide +kernel⟩
theorem other_ix (c : Bool) : atI (".#" : Str).cps.toList (if decide (V.str (col c) = V.str ".") = true then 1 else 0) = some (dc (!c)) := by
  rw [← col_w, col_dec]
  cases c <;> decide +kernel
theorem ok_lstep (T : Tx K mg) (D : Stands K mg "_law_step" sLStep) (hc : Has P w K mg base "_law_change" ["_law_ahead", "_law_spot", "_law_colour", "_law_begun_here"] 1 spLChange) (hb : Has P w K mg base "_law_again" ["_law_ahead", "_law_spot", "_law_colour"] 1 spLAgain) :
    Has P w K mg base "_law_step" ["_law_ahead", "_law_mode", "_law_spot", "_law_colour", "_law_begun_here"] 2 spLStep := by
  refine has_of D scLStep (fun _ _ _ _ _ _ us hl => match us, hl with | [_, _, _, _, _], _ => rfl) (fun vs H Q E h => ?_) (fun f cdv A outer s H vs Q E hr h => ?_)
  · obtain ⟨x, a, m, p, c, t, rfl, _⟩ := h
    rfl
  · obtain ⟨x, a, m, p, c, t, rfl, h40, hp, h0, hm, mok, qn, qs⟩ := h
    refine ⟨_, pss_cons (ps_par (i := 5) (j := 6) rfl scLStep.nd rfl rfl (by decide) rfl rfl (pa_cons (pe_ix ix_str pe_str (pe_callTy call_int1 (by rfl) T.int_ boot_int (pa_cons (pe_cmpR op_eq (pv 3) pe_str (nomark _)) pa_nil)) (fun _ _ => rfl)) (pa_cons (pe_callB call_len_str (by rfl) T.len_ PySem.boot_len (pa_cons (pv 0) pa_nil)) pa_nil)) (by rfl))
      (pss_cons (ps_if (pt_cmpR op_eq (ixT (pv 1) pe_int) pe_str (nomark _))
        (pss_cons (ps_par (i := 7) (j := 8) rfl scLStep.nd rfl rfl (by decide) rfl rfl (pa_cons (pe_op op_add (pv 2) (ixT (pv 1) pe_int)) (pa_cons (pe_op op_add (pe_op op_add (pv 2) (ixT (pv 1) pe_int)) (ixT (pv 1) pe_int)) pa_nil)) (by rfl))
        (pss_cons (ps_if (PW.pt (pw_or (pt_cmpR op_gt (pv 8) (pv 6) (nomark _)) (pw_or (PW.pt (pw_and (pt_cmpR op_eq (ixT (pv 1) pe_int) pe_int (nomark _)) (pw_and1 (pt_val (pv 4))))) (pw_or1 (PW.pt (pw_and (pt_cmpR op_eq (ixT (pv 1) pe_int) pe_int (nomark _)) (pw_and1 (pt_cmpR op_ne (pv 7) (pv 6) (nomark _)))))))))
          (pss_one (ps_ret pe_non)) pss_nil)
        (pss_one (ps_ret (pe_tup (pa_cons (pv 8) (pa_cons (pv 3) (pa_cons (pe_op op_add_str (pe_op op_mulS (pv 3) (ixT (pv 1) pe_int)) (pe_op op_mulS (pv 5) (ixT (pv 1) pe_int))) pa_nil)))))))) pss_nil)
      (pss_cons (ps_set (i := 9) scLStep.nd rfl (.inl rfl) (pe_do hc (hr.mono (by decide)) (pa_cons (pv 0) (pa_cons (pv 2) (pa_cons (pv 3) (pa_cons (pv 4) pa_nil))))))
      (pss_cons (ps_if (pt_cmpR op_eq (ixT (pv 1) pe_int) pe_str (nomark _))
        (pss_cons (ps_set (i := 8) scLStep.nd rfl (.inl rfl) (pe_do hb (hr.mono (by decide)) (pa_cons (pv 0) (pa_cons (pv 9) (pa_cons (pv 3) pa_nil)))))
        (pss_one (ps_ret (pe_ifExp (pt_cmpR op_lt (pv 9) (pv 6) (nomark _)) (pe_tup (pa_cons (pv 8) (pa_cons (pv 3) (pa_cons (pe_op op_mulS (pv 3) (pe_op op_sub (pv 8) (pv 2))) pa_nil)))) pe_non)))) pss_nil)
      (pss_cons (ps_set (i := 8) scLStep.nd rfl (.inl rfl) (pe_op op_add (pv 9) (ixT (pv 1) pe_int)))
      (pss_cons (ps_if (PW.pt (pw_or (pt_cmpR op_gt (pv 8) (pv 6) (nomark _)) (pw_or (pt_cmpR op_lt (pv 8) pe_int (nomark _)) (pw_or1 (PW.pt (pw_and (pt_val (pv 4)) (pw_and1 (pt_cmpR op_le (pv 8) (pv 2) (nomark _)))))))))
          (pss_one (ps_ret pe_non)) pss_nil)
      (pss_one (ps_ret (pe_tup (pa_cons (pv 8) (pa_cons (pv 5) (pa_cons (pe_op op_mulS (pv 3) (pe_op op_sub (pv 8) (pv 2))) pa_nil))))))))))), ?_⟩
    have n1 : ¬ (("stay" : Str) = "pass") := by decide +kernel
    have n2 : ¬ (("pass" : Str) = "runs") := by decide +kernel
    have n3 : ¬ (("stay" : Str) = "runs") := by decide +kernel
    have hm0 := mhd hm
    refine ⟨_, rfl, rfl, .inr ⟨_, rfl, _, _, _, rfl, rfl, by decide, other_ix c, ?_⟩⟩
    refine ⟨_, rfl, _, rfl, enc_szl (l := x) (by omega), _, _, rfl, ?_⟩
    rw [enc_len, show (⟨#[dc (!c)]⟩ : Str) = col (!c) from rfl]
    have hle := chgAt_le (c := c) (t := t) (Nat.le_of_lt hp)
    have told_rep : ∀ (e : Nat), e ≤ 100 → rep (col c) e = enc (List.replicate e c) := fun e _ => rep_col c e
    cases m with
    | runs n k =>
      rw [step_runs hp] at qn qs
      refine ⟨_, rfl, a, _, 0, _, rfl, rfl, .of hm0, atI_nat (j := 0) rfl, rfl, _, rfl, ifT (decide_eq_true rfl) ?_⟩
      refine ⟨_, rfl, _, rfl, a, _, 1, _, rfl, rfl, .of hm0, atI_nat (j := 1) rfl, _, _, rfl, rfl, ?_⟩
      refine ⟨_, rfl, _, rfl, a, _, 1, _, rfl, rfl, .of hm0, atI_nat (j := 1) rfl, _, _, rfl, rfl, _, rfl, a, _, 2, _, rfl, rfl, .of hm0, atI_nat (j := 2) rfl, _, _, rfl, rfl, _, _, rfl, ?_⟩
      dsimp only
      have dcn : decide (p + n + k > x.length ∨ (n = 0 ∧ t = true) ∨ (k = 0 ∧ p + n < x.length)) = (decide (p + n + k > x.length) || (decide (n = 0) && t || decide (k = 0) && !decide (p + n = x.length))) := by
        rw [Bool.eq_iff_iff]
        simp only [decide_eq_true_iff, Bool.or_eq_true, Bool.and_eq_true, Bool.not_eq_true', decide_eq_false_iff_not]
        constructor
        · rintro (h | h | ⟨h1, h2⟩)
          · exact .inl h
          · exact .inr (.inl h)
          · exact .inr (.inr ⟨h1, by omega⟩)
        · rintro (h | h | ⟨h1, h2⟩)
          · exact .inl h
          · exact .inr (.inl h)
          · by_cases h3 : p + n + k > x.length
            · exact .inl h3
            · exact .inr (.inr ⟨h1, by omega⟩)
      refine seqIf (b := decide (p + n + k > x.length ∨ (n = 0 ∧ t = true) ∨ (k = 0 ∧ p + n < x.length))) (fun R q => ?_) ?_
      · rw [dcn] at q
        refine or_pure (fun R q => ⟨_, rfl, _, rfl, _, _, rfl, rfl, _, rfl, ?_⟩) (fun e1 R q => or_pure (fun R q => and_pure (fun R q => ⟨_, rfl, a, _, 1, _, rfl, rfl, .of hm0, atI_nat (j := 1) rfl, rfl, _, rfl, ?_⟩) (fun _ R q => ⟨_, rfl, _, rfl, q⟩) q)
          (fun e2 R q => and_pure (fun R q => ⟨_, rfl, a, _, 2, _, rfl, rfl, .of hm0, atI_nat (j := 2) rfl, rfl, _, rfl, ?_⟩) (fun _ R q => ⟨_, rfl, _, rfl, rfl, _, rfl, ?_⟩) q) q) q
        · rw [show decide ((p : Int) + (n : Int) + (k : Int) > (x.length : Nat)) = decide (p + n + k > x.length) from decide_eq_decide.mpr (by omega)]
          exact q
        · rw [dec_nat0]
          exact q
        · rw [dec_nat0]
          exact q
        · rw [show decide (V.int ((p : Int) + (n : Int)) = V.int (x.length : Nat)) = decide (p + n = x.length) from dec_nat (p + n) x.length]
          exact q
      refine if2 (fun e => ?_) (fun e => ?_)
      · rw [if_pos (of_decide_eq_true e)] at qn
        exact qn rfl
      · have e := of_decide_eq_false e
        rw [if_neg e] at qs
        refine ⟨_, rfl, _, rfl, _, rfl, _, rfl, a, _, 1, _, rfl, rfl, .of hm0, atI_nat (j := 1) rfl, _, n, rfl, rfl, col_len c, by have := mok.1; omega, ?_⟩
        refine ⟨_, rfl, _, rfl, a, _, 2, _, rfl, rfl, .of hm0, atI_nat (j := 2) rfl, _, k, rfl, rfl, col_len _, by have := mok.2; omega, ?_⟩
        rw [rep_col, rep_col]
        refine ⟨_, _, rfl, rfl, ?_, ?_⟩
        · rw [enc_len, enc_len, List.length_replicate, List.length_replicate, sizeLine_eq]
          omega
        rw [enc_app]
        refine ⟨few rfl, fun r nr => ?_⟩
        have := qs _ _ rfl r nr
        unfold stpV at this
        rw [← Nat.add_assoc] at this
        exact this
    | pass =>
      rw [step_pass hp] at qn qs
      refine ⟨_, rfl, a, _, 0, _, rfl, rfl, .of hm0, atI_nat (j := 0) rfl, rfl, _, rfl, ifF (neS n2) ?_⟩
      refine ⟨_, rfl, _, rfl, _, rfl, _, rfl, x, p, c, t, rfl, h40, hp, h0, ?_⟩
      refine ⟨_, rfl, a, _, 0, _, rfl, rfl, .of hm0, atI_nat (j := 0) rfl, rfl, _, rfl, ifT (decide_eq_true rfl) ?_⟩
      refine ⟨_, rfl, _, rfl, _, rfl, x, _, c, rfl, h40, hle, fun e1 => ?_, fun e1 => ?_⟩
      · rw [if_pos e1] at qs
        refine ⟨_, rfl, _, rfl, _, _, rfl, rfl, _, rfl, ifT (decide_eq_true (by omega)) ?_⟩
        have hba := backAt_le (c := c) e1
        have hge := chgAt_ge x p c t
        have eb : p + (backAt x (chgAt x p c t) c - p) = backAt x (chgAt x p c t) c := by
          unfold backAt
          omega
        have ei : V.int ((backAt x (chgAt x p c t) c : Nat) - (p : Int)) = V.int ((backAt x (chgAt x p c t) c - p : Nat) : Int) := congrArg V.int (by omega)
        refine ⟨_, rfl, _, rfl, _, rfl, _, rfl, _, rfl, _, _, rfl, rfl, _, backAt x (chgAt x p c t) c - p, rfl, ei, col_len c, by omega, ?_⟩
        rw [rep_col]
        refine ⟨few rfl, fun r nr => ?_⟩
        have := qs _ _ rfl r nr
        unfold stpV at this
        rw [eb] at this
        exact this
      · have e2 : ¬ chgAt x p c t < x.length := by omega
        rw [if_neg e2] at qn
        exact ⟨_, rfl, _, rfl, _, _, rfl, rfl, _, rfl, ifF (decide_eq_false (by omega)) (qn rfl)⟩
    | stay d =>
      rw [step_stay hp h0] at qn qs
      refine ⟨_, rfl, a, _, 0, _, rfl, rfl, .of hm0, atI_nat (j := 0) rfl, rfl, _, rfl, ifF (neS n3) ?_⟩
      refine ⟨_, rfl, _, rfl, _, rfl, _, rfl, x, p, c, t, rfl, h40, hp, h0, ?_⟩
      refine ⟨_, rfl, a, _, 0, _, rfl, rfl, .of hm0, atI_nat (j := 0) rfl, rfl, _, rfl, ifF (neS n1) ?_⟩
      refine ⟨_, rfl, _, rfl, a, _, 1, _, rfl, rfl, .of hm0, atI_nat (j := 1) rfl, _, _, rfl, rfl, ?_⟩
      refine gset ?_
      dsimp only
      have dcn : decide ((chgAt x p c t : Int) + d > x.length ∨ (chgAt x p c t : Int) + d < 0 ∨ ((chgAt x p c t : Int) + d ≤ p ∧ t = true)) = (decide ((chgAt x p c t : Int) + d > x.length) || (decide ((chgAt x p c t : Int) + d < 0) || t && decide ((chgAt x p c t : Int) + d ≤ p))) := by
        rw [Bool.eq_iff_iff]
        simp [and_comm]
      refine seqIf (b := decide ((chgAt x p c t : Int) + d > x.length ∨ (chgAt x p c t : Int) + d < 0 ∨ ((chgAt x p c t : Int) + d ≤ p ∧ t = true))) (fun R q => ?_) ?_
      · rw [dcn] at q
        exact or_pure (fun R q => ⟨_, rfl, _, rfl, _, _, rfl, rfl, _, rfl, q⟩) (fun e1 R q => or_pure (fun R q => ⟨_, rfl, _, _, rfl, rfl, _, rfl, q⟩)
          (fun e2 R q => and_pure (fun R q => ⟨_, rfl, _, rfl, q⟩) (fun _ R q => ⟨_, rfl, _, rfl, _, _, rfl, rfl, _, rfl, q⟩) q) q) q
      refine if2 (fun e => ?_) (fun e => ?_)
      · rw [if_pos (of_decide_eq_true e)] at qn
        exact qn rfl
      · have e := of_decide_eq_false e
        rw [if_neg e] at qs
        have hge : (p : Int) ≤ (chgAt x p c t : Int) + d := by
          cases t with
          | true =>
            simp at e
            omega
          | false =>
            have := h0 rfl
            simp at e
            omega
        have hlx : (chgAt x p c t : Int) + d ≤ x.length := by
          simp at e
          omega
        have eb : ((p + (((chgAt x p c t : Int) + d).toNat - p) : Nat) : Int) = (chgAt x p c t : Int) + d := by omega
        have ei : V.int ((chgAt x p c t : Int) + d - (p : Int)) = V.int ((((chgAt x p c t : Int) + d).toNat - p : Nat) : Int) := congrArg V.int (by omega)
        refine ⟨_, rfl, _, rfl, _, rfl, _, rfl, _, rfl, _, _, rfl, rfl, _, ((chgAt x p c t : Int) + d).toNat - p, rfl, ei, col_len c, by omega, ?_⟩
        rw [rep_col]
        refine ⟨few rfl, fun r nr => ?_⟩
        have := qs _ _ rfl r nr
        unfold stpV at this
        rw [eb] at this
        exact this
end
end K77
set_option Elab.async false
set_option linter.all false
set_option maxRecDepth 100000
set_option maxHeartbeats 4000000
/-! K77X4: a reading, by the law. -/
namespace K77
open PySem PySem.Spec PyProof.Rows L2
theorem dps_modes {K : PySem.W.Frag} {H : Hp} : ∀ {as : List Addr} {ms : List Mode}, Paired (ModeAt H) as ms → DpAll K H (as.map V.ref) (ms.map modeD)
  | _, _, .nil => .nil
  | _, _, .cons q t => .cons (modeD_at q) (dps_modes t)
theorem modes_shaped (ms : List Mode) : SeqAt.shaped (.tuple (ms.map modeD)) = true :=
  shaped_tup (fun d hd => by
    obtain ⟨m, _, rfl⟩ := List.mem_map.mp hd
    exact modeD_lay m) fun d hd => by
    obtain ⟨m, _, rfl⟩ := List.mem_map.mp hd
    have := modeD_depth m
    omega
theorem tel_data {K : PySem.W.Frag} {H : Hp} {t : Addr} {ms : List Mode} (h : TelAt H t ms) : Dp K H (.ref t) (.tuple (ms.map modeD)) := by
  obtain ⟨as, h1, h2⟩ := h
  exact .tup (.of h1) (dps_modes h2)
theorem seqIfX {t : TT} {u v r : TS} {σ : L2.St} {H : Hp} {D : Ends} (Φ : Bool → Hp → Prop) (ht : ∀ Q : Bool → Hp → Prop, (∀ b H', Φ b H' → Q b H') → t σ H Q) (q : ∀ b H', Φ b H' → if b = true then tSeq u r D σ H' else tSeq v r D σ H') : tSeq (tIfS t u v) r D σ H := ht _ q
section
variable {P : Program} {w : World} {K : PySem.W.Frag} {mg : Str → Option Value} {base : Heap}
def spLRead : Sp := fun vs H Q _ => ∃ (x : Dots) (a : Addr) (ms : List Mode), vs = [.str (enc x), .ref a] ∧ x.length ≤ 40 ∧ TelAt H a ms ∧ (∀ m ∈ ms, MOk m) ∧ ∀ H', Same H H' → Q (lineV (rd x ms)) H'
abbrev nLRead : List Str := ["_law_ahead", "_law_modes", "_law_spot", "_law_colour", "_law_dots", "_law_begun_here", "_law_k", "_law_many", "_law_mode", "_law_here"]
theorem scLRead : FnScope nLRead ["_law_ahead", "_law_modes"] (defScope sLRead) := ⟨rfl, rfl, rfl, by decide +kernel, rfl, by decide +kernel, by decide +kernel⟩
theorem ok_lread (T : Tx K mg) (D : Stands K mg "_law_read" sLRead) (ha : Has P w K mg base "_law_step" ["_law_ahead", "_law_mode", "_law_spot", "_law_colour", "_law_begun_here"] 2 spLStep) : Has P w K mg base "_law_read" ["_law_ahead", "_law_modes"] 3 spLRead := by
  refine has_of D scLRead (fun _ _ _ _ _ _ us hl => match us, hl with | [_, _], _ => rfl) (fun vs H Q E h => ?_) (fun f cdv A outer s H vs Q E hr h => ?_)
  · obtain ⟨x, a, ms, rfl, _⟩ := h
    rfl
  · obtain ⟨x, a, ms, rfl, h40, ht, mok, q⟩ := h
    refine ⟨_, pss_cons (ps_asg (pe_tup (pa_cons pe_int (pa_cons pe_str (pa_cons pe_str (pa_cons pe_bl pa_nil))))) (pg_tup rfl (pgs_cons (pg_name (i := 2) scLRead.nd rfl (.inl rfl)) (pgs_cons (pg_name (i := 3) scLRead.nd rfl (.inl rfl)) (pgs_cons (pg_name (i := 4) scLRead.nd rfl (.inl rfl)) (pgs_cons (pg_name (i := 5) scLRead.nd rfl (.inl rfl)) pgs_nil))))))
      (pss_cons (ps_if (PW.pt (pw_and (pt_cmpR (op_neD (by have := hr.un; omega)) (pv 1) (pe_tup pa_nil) (nomark _)) (pw_and1 (pt_cmpR op_eq (ixT (ixT (pv 1) pe_int) pe_int) pe_str (nomark _))))) pss_never pss_nil)
      (pss_cons (ps_for PassesOwn.never rfl (pi_tup (pv 1)) (pg_name (i := 8) scLRead.nd rfl (.inl rfl))
        (pss_cons (ps_set (i := 9) scLRead.nd rfl (.inl rfl) (pe_ifExp (pt_cmpR op_lt (pv 2) (pe_callB call_len_str (by rfl) T.len_ PySem.boot_len (pa_cons (pv 0) pa_nil)) (nomark _)) (pe_do ha hr (pa_cons (pv 0) (pa_cons (pv 8) (pa_cons (pv 2) (pa_cons (pv 3) (pa_cons (pv 5) pa_nil)))))) pe_non))
        (pss_cons (ps_if (pt_cmpR op_isN (pv 9) pe_non (nomark _)) (pss_one (ps_ret pe_non)) pss_nil)
        (pss_cons (ps_par3 (i := 2) (j := 3) (l := 5) rfl scLRead.nd rfl rfl rfl (by decide) (by decide) (by decide) rfl rfl rfl (pa_cons (ixT (pv 9) pe_int) (pa_cons (ixT (pv 9) pe_int) (pa_cons pe_bl pa_nil))) (by rfl))
        (pss_one (ps_set (i := 4) scLRead.nd rfl (.inl rfl) (pe_op op_add_str (pv 4) (ixT (pv 9) pe_int))))))))
      (pss_one (ps_ret (pe_ifExp (pt_cmpR op_eq (pv 2) (pe_callB call_len_str (by rfl) T.len_ PySem.boot_len (pa_cons (pv 0) pa_nil)) (nomark _)) (pv 4) pe_non))))), ?_⟩
    obtain ⟨as, hta, hl, get⟩ := ht.get
    refine ⟨few rfl, fun p0 np0 => ⟨p0, _, rfl, .of upd_same, rfl, _, _, rfl, _, _, rfl, _, _, rfl, _, _, rfl, rfl, ?_⟩⟩
    have s0 : Same H (upd H p0 (.tup [.int 0, .str ".", .str "", .bl false])) := same_new np0
    dsimp only
    refine seqIfX (fun b H' => b = false ∧ Same H H') (fun R q' => ?_) ?_
    · refine ⟨_, rfl, few rfl, fun p1 np1 => ?_⟩
      have s2 := s0.trans (same_new (o := .tup []) np1)
      refine ⟨_, _, tel_data (ht.same s2), .tup (.of upd_same) .nil, modes_shaped ms, rfl, _, rfl, ?_⟩
      cases ms with
      | nil => exact ifF rfl (q' _ _ ⟨rfl, s2⟩)
      | cons m r =>
        obtain ⟨b, hb, hm⟩ := get 0 m rfl
        obtain ⟨z, hz, nz⟩ := modeV_hd m
        refine ifT rfl ⟨_, rfl, a, _, 0, .ref b, rfl, rfl, .of (s2 _ _ hta), atI_nat (j := 0) (by rw [List.getElem?_map, hb]; rfl), b, _, 0, .str z, rfl, rfl, .of (s2 _ _ hm), atI_nat (j := 0) hz, rfl, _, rfl, ?_⟩
        rw [neS nz]
        exact q' _ _ ⟨rfl, s2⟩
    rintro _ H1 ⟨rfl, s1⟩
    refine iteF ?_
    refine ⟨_, rfl, a, rfl, ⟨_, .of (s1 _ _ hta)⟩, for_tup (xs := as.map V.ref) (fun i σ H2 => Same H H2 ∧ ∃ (p : Nat) (c t : Bool) (found : Dots) (y z : Option V), σ = [some (.str (enc x)), some (.ref a), some (.int p), some (.str (col c)), some (.str (enc found)), some (.bl t), none, none, y, z] ∧ p ≤ x.length ∧ found.length = p ∧ (t = false → p = 0) ∧
      rd x ms = (run (ms.drop i) c t (x.drop p)).map (found ++ ·)) ⟨s1, 0, false, false, [], none, none, ?_, Nat.zero_le _, rfl, fun _ => rfl, ?_⟩ (fun i σ H2 hi hP => .of (hP.1 _ _ hta)) ?_ ?_⟩
    · rw [col_w, enc_nil]
      rfl
    · show rd x ms = (rd x ms).map ([] ++ ·)
      cases rd x ms <;> rfl
    · rintro i v σ H2 hv ⟨s2, p, c, t, found, y, z, rfl, hp, hfl, h0, hrd⟩
      have hlt : i < ms.length := by
        rw [← hl, ← List.length_map (f := V.ref) (as := as)]
        exact (List.getElem?_eq_some_iff.mp hv).1
      obtain ⟨b, hb, hbm⟩ := get i ms[i] (List.getElem?_eq_getElem hlt)
      have ev : v = .ref b := by
        rw [List.getElem?_map, hb] at hv
        exact (Option.some.inj hv).symm
      subst ev
      rw [List.drop_eq_getElem_cons hlt] at hrd
      have hok := mok _ (List.getElem_mem hlt)
      refine ⟨_, rfl, _, rfl, _, rfl, enc_szl (l := x) (by omega), _, _, rfl, rfl, _, rfl, if2 (fun e => ?_) (fun e => ?_)⟩
      · have e := of_decide_eq_true e
        rw [enc_len] at e
        have hlt2 : p < x.length := by omega
        have hne : x.drop p ≠ [] := by
          intro z
          have := congrArg List.length z
          rw [List.length_drop, List.length_nil] at this
          omega
        refine ⟨_, rfl, _, rfl, _, rfl, _, rfl, _, rfl, x, b, ms[i], p, c, t, rfl, h40, hlt2, h0, s2 _ _ hbm, hok, fun hn => ?_, fun e1 c' hs r nr => ?_⟩
        · have er : rd x ms = none := by
            rw [hrd]
            unfold run
            rw [if_neg hne, hn]
            rfl
          rw [er] at q
          refine ⟨_, rfl, rfl, _, rfl, ifT (decide_eq_true rfl) (q _ s2)⟩
        · obtain ⟨hlen, hle⟩ := told_len hs
          rw [List.length_drop] at hle
          have s3 := s2.trans (same_new nr : Same H2 (upd H2 r (.tup (stpV p e1 c' (toldBy ms[i] e1 c)))))
          refine ⟨_, rfl, rfl, _, rfl, ifF (V.ne nofun) ?_⟩
          refine ⟨_, rfl, r, _, 0, _, rfl, rfl, .of upd_same, atI_nat (j := 0) rfl, _, rfl, r, _, 1, _, rfl, rfl, .of upd_same, atI_nat (j := 1) rfl, _, _, _, rfl, ?_⟩
          refine ⟨_, rfl, _, rfl, r, _, 2, _, rfl, rfl, .of upd_same, atI_nat (j := 2) rfl, _, _, rfl, rfl, ?_, ?_⟩
          · rw [enc_len, enc_len, hlen, sizeLine_eq]
            omega
          · rw [enc_app]
            refine ⟨s3, p + e1, c', true, found ++ toldBy ms[i] e1 c, _, _, rfl, by omega, ?_, nofun, ?_⟩
            · rw [List.length_append, hlen, hfl]
            · rw [hrd]
              conv => lhs; unfold run
              rw [if_neg hne, hs]
              dsimp only
              rw [List.drop_drop, Option.map_map]
              congr 1
              funext l
              show found ++ (toldBy ms[i] e1 c ++ l) = _
              rw [List.append_assoc]
      · have e := of_decide_eq_false e
        rw [enc_len] at e
        have hne : x.drop p = [] := List.drop_eq_nil_of_le (by omega)
        have er : rd x ms = none := by
          rw [hrd]
          unfold run
          rw [if_pos hne]
          rfl
        rw [er] at q
        refine ⟨_, rfl, rfl, _, rfl, ifT (decide_eq_true rfl) (q _ s2)⟩
    · rintro σ H2 ⟨s2, p, c, t, found, y, z, rfl, hp, hfl, h0, hrd⟩
      rw [List.length_map, hl, List.drop_length] at hrd
      refine ⟨_, rfl, _, rfl, _, rfl, enc_szl (l := x) (by omega), rfl, _, rfl, if2 (fun e => ?_) (fun e => ?_)⟩
      · have e := of_decide_eq_true e
        injection e with e
        rw [enc_len] at e
        have e0 : x.drop p = [] := List.drop_eq_nil_of_le (by omega)
        rw [e0] at hrd
        have er : rd x ms = some found := by
          rw [hrd]
          show some (found ++ []) = _
          rw [List.append_nil]
        rw [er] at q
        exact ⟨_, rfl, q _ s2⟩
      · have e := of_decide_eq_false e
        have hne : x.drop p ≠ [] := by
          intro z
          have := congrArg List.length z
          rw [List.length_drop, List.length_nil] at this
          apply e
          rw [enc_len]
          exact congrArg V.int (by omega)
        have er : rd x ms = none := by
          rw [hrd]
          show Option.map _ (if x.drop p = [] then _ else _) = _
          rw [if_neg hne]
          rfl
        rw [er] at q
        exact q _ s2
end
end K77
set_option Elab.async false
set_option linter.all false
set_option maxRecDepth 100000
set_option maxHeartbeats 4000000
/-! K77X5: drawn lines, the law's lines. -/
namespace K77
open PySem PySem.Spec PyProof.Rows L2
theorem setX1 {te : TE} {i : Nat} {σ : L2.St} {H : Hp} {D : Ends} (Φ : V → Hp → Prop) (he : ∀ Q : VK, (∀ v H', Φ v H' → Q v H') → te σ H Q) (q : ∀ v H', Φ v H' → D.nx (σ.set i (some v)) H') : tAsg te (gName i) D σ H := he _ q
theorem dots_ix {r : Nat} (h : r < 2) : ∃ b : Bool, atI (".#" : Str).cps.toList (r : Int) = some (dc b) := by
  match r, h with
  | 0, _ => exact ⟨false, by decide +kernel⟩
  | 1, _ => exact ⟨true, by decide +kernel⟩
section
variable {P : Program} {w : World} {K : PySem.W.Frag} {mg : Str → Option Value} {base : Heap}
def spLLine : Sp := fun vs H Q _ => ∃ (M : Mc) (s n : Nat), vs = [.ref M.m, .int n] ∧ MAt M H s ∧ n ≤ 40 ∧ s < 2 ^ 40 ∧ ∀ (x : Dots) (H' : Hp) (s' : Nat), x.length = n → Mv M H H' → MAt M H' s' → s' ≤ s + 2 * n → Q (.str (enc x)) H'
theorem scLLine : FnScope ["_law_m", "_law_wide", "_law_dots", "_law_k"] ["_law_m", "_law_wide"] (defScope sLLine) := ⟨rfl, rfl, rfl, by decide +kernel, rfl, by decide +kernel, by decide +kernel⟩
theorem ok_lline (T : Tx K mg) (D : Stands K mg "_law_line" sLLine) (hd : Has P w K mg base "_law_draw" ["_law_m", "_law_limit"] 2 spDraw) : Has P w K mg base "_law_line" ["_law_m", "_law_wide"] 3 spLLine := by
  refine has_of D scLLine (fun _ _ _ _ _ _ us hl => match us, hl with | [_, _], _ => rfl) (fun vs H Q E h => ?_) (fun f cdv A outer s H vs Q E hr h => ?_)
  · obtain ⟨M, s, n, rfl, _⟩ := h
    rfl
  · obtain ⟨M, s, n, rfl, A0, hn, hs, q⟩ := h
    refine ⟨_, pss_cons (ps_set (i := 2) scLLine.nd rfl (.inl rfl) pe_str)
      (pss_cons (ps_for PassesOwn.never rfl (pi_range1 (by rfl) T.range_ (pa_cons (pv 1) pa_nil)) (pg_name (i := 3) scLLine.nd rfl (.inl rfl))
        (pss_one (ps_set (i := 2) scLLine.nd rfl (.inl rfl) (pe_op op_add_str (pv 2) (pe_ifExp (PW.pt (pw_and (pt_cmpR op_ne (pv 2) pe_str (nomark _)) (pw_and1 (pt_cmpR op_gt (pe_do hd hr (pa_cons (pv 0) (pa_cons pe_int pa_nil))) pe_int (nomark _)))))
          (pe_ix ix_str (pv 2) (pe_un un_neg pe_int) (fun _ _ => rfl)) (pe_ix ix_str pe_str (pe_do hd hr (pa_cons (pv 0) (pa_cons pe_int pa_nil))) (fun _ _ => rfl)))))))
      (pss_one (ps_ret (pv 2)))), ?_⟩
    refine ⟨_, rfl, (n : Int), rfl, by omega, by omega, for_range (fun i σ H2 => ∃ (x : Dots) (s' : Nat) (z : Option V), σ = [some (.ref M.m), some (.int n), some (.str (enc x)), z] ∧ x.length = i ∧ Mv M H H2 ∧ MAt M H2 s' ∧ s' ≤ s + 2 * i) ⟨[], s, none, by rw [enc_nil]; rfl, rfl, Mv.refl, A0, Nat.le_refl _⟩ ?_ ?_⟩
    · rintro i σ H2 hi ⟨x, s', z, rfl, hx, v2, A2, hs2⟩
      have hi : i < n := by omega
      refine gset ?_
      dsimp only
      refine setX1 (fun v H' => ∃ (b : Bool) (s3 : Nat), v = .str (enc (x ++ [b])) ∧ Mv M H H' ∧ MAt M H' s3 ∧ s3 ≤ s' + 2) (fun R q' => ?_) ?_
      · have fin : ∀ (b : Bool) (H3 : Hp) (s3 : Nat), Mv M H H3 → MAt M H3 s3 → s3 ≤ s' + 2 → ∃ i j, V.str (enc x) = .str i ∧ V.str (⟨#[dc b]⟩ : Str) = .str j ∧ i.length + j.length ≤ sizeLine ∧ R (.str (i ++ j)) H3 := fun b H3 s3 v3 A3 h3 => by
          refine ⟨_, _, rfl, rfl, ?_, ?_⟩
          · rw [enc_len, sizeLine_eq]
            show x.length + (enc [b]).length ≤ _
            rw [enc_len]
            show x.length + 1 ≤ _
            omega
          · have := q' (.str (enc (x ++ [b]))) H3 ⟨b, s3, rfl, v3, A3, h3⟩
            rw [← enc_app] at this
            exact this
        refine ⟨_, rfl, _, rfl, rfl, _, rfl, ?_⟩
        rw [enc_ne]
        refine if2 (fun e => ?_) (fun e => ?_)
        · have e : x ≠ [] := by simpa using e
          refine ⟨_, rfl, M, s', 3, rfl, A2, by omega, by decide, by decide, fun r H3 hr3 v3 A3 => ⟨_, _, rfl, rfl, _, rfl, if2 (fun e3 => ?_) (fun e3 => ?_)⟩⟩
          · exact ⟨_, rfl, 1, rfl, _, _, _, rfl, rfl, enc_szl (by omega), enc_last e, fin _ H3 _ (v2.trans v3) A3 (by omega)⟩
          · refine ⟨_, rfl, M, s' + 1, 2, rfl, A3, by omega, by decide, by decide, fun r4 H4 hr4 v4 A4 => ?_⟩
            obtain ⟨b, hb⟩ := dots_ix hr4
            exact ⟨_, _, _, rfl, rfl, by decide, hb, fin b H4 _ ((v2.trans v3).trans v4) A4 (by omega)⟩
        · refine ⟨_, rfl, M, s', 2, rfl, A2, by omega, by decide, by decide, fun r4 H4 hr4 v4 A4 => ?_⟩
          obtain ⟨b, hb⟩ := dots_ix hr4
          exact ⟨_, _, _, rfl, rfl, by decide, hb, fin b H4 _ (v2.trans v4) A4 (by omega)⟩
      · rintro v H3 ⟨b, s3, rfl, v3, A3, h3⟩
        exact ⟨x ++ [b], s3, _, rfl, by rw [List.length_append, hx]; rfl, v3, A3, by omega⟩
    · rintro σ H2 ⟨x, s', z, rfl, hx, v2, A2, hs2⟩
      exact ⟨_, rfl, q x H2 s' (by omega) v2 A2 (by omega)⟩
end
end K77
set_option Elab.async false
set_option linter.all false
set_option maxRecDepth 100000
set_option maxHeartbeats 4000000
/-! K77X6: a drawn telling. -/
namespace K77
open PySem PySem.Spec PyProof.Rows L2
theorem seqS {t r : TS} {σ : L2.St} {H : Hp} {D : Ends} (Ψ : L2.St → Hp → Prop) (ht : ∀ D' : Ends, (∀ σ' H', Ψ σ' H' → D'.nx σ' H') → t D' σ H) (q : ∀ σ' H', Ψ σ' H' → r D σ' H') : tSeq t r D σ H := ht _ q
theorem step_adv {m : Mode} {c : Bool} {x : Dots} {e : Nat} {c' : Bool} (h : stepR m c true x = some (e, c')) : 1 ≤ e := by
  cases m with
  | runs n k =>
    unfold stepR at h
    dsimp only at h
    split at h
    · cases h
    · rename_i hn
      injection h with h
      injection h with h1 h2
      have : ¬ n = 0 := fun z => hn (.inr (.inl ⟨z, rfl⟩))
      omega
  | pass =>
    unfold stepR at h
    dsimp only at h
    split at h
    · injection h with h
      injection h with h1 h2
      rw [← h1]
      unfold back
      omega
    · cases h
  | stay d =>
    unfold stepR at h
    dsimp only at h
    split at h
    · cases h
    · rename_i hn
      injection h with h
      injection h with h1 h2
      have : ¬ (chg c true x : Int) + d ≤ 0 := fun z => hn (.inr (.inr ⟨z, rfl⟩))
      omega
theorem step_stay0 {c t : Bool} {x : Dots} (hx : x ≠ []) : ∃ e c', stepR (.stay 0) c t x = some (e, c') := by
  have h1 := chg_le c t x
  unfold stepR
  dsimp only
  have h2 : t = true → 1 ≤ chg c t x := fun ht => by
    subst ht
    cases x with
    | nil => exact absurd rfl hx
    | cons d x => exact Nat.le_add_left 1 _
  rw [if_neg]
  · exact ⟨_, _, rfl⟩
  · rintro (h | h | ⟨h, h'⟩)
    · omega
    · omega
    · have := h2 h'
      omega
section
variable {P : Program} {w : World} {K : PySem.W.Frag} {mg : Str → Option Value} {base : Heap}
/-- the heap as a telling is drawn -/
structure KIn (M : Mc) (H H2 : Hp) (Ml : Addr) (as : List Addr) (ms : List Mode) (s : Nat) : Prop where
  v : Mv M H H2
  at_ : MAt M H2 s
  ml : H2 Ml = some (.lst (as.map V.ref))
  md : Paired (ModeAt H2) as ms
  ne : Ml ≠ M.Lf
  ne2 : Ml ≠ M.C
section
variable {M : Mc} {H H2 H3 : Hp} {Ml : Addr} {as : List Addr} {ms : List Mode} {s s' : Nat}
theorem KIn.draw (k : KIn M H H2 Ml as ms s) (v : Mv M H2 H3) (A : MAt M H3 s') : KIn M H H3 Ml as ms s' :=
  ⟨k.v.trans v, A, v.lst k.at_ k.ml k.ne, Paired.mapP k.md fun a m q => v.tup k.at_ q, k.ne, k.ne2⟩
theorem KIn.same (k : KIn M H H2 Ml as ms s) (q : Same H2 H3) : KIn M H H3 Ml as ms s := k.draw (Mv.of q) (k.at_.same q)
theorem KIn.push {a : Addr} {m : Mode} (k : KIn M H H2 Ml as ms s) (hm : ModeAt H2 a m) (nM : H Ml = none) : KIn M H (L2.upd H2 Ml (.lst (as.map V.ref ++ [.ref a]))) Ml (as ++ [a]) (ms ++ [m]) s := by
  obtain ⟨h0, h1, cs, ls, h2, h3, h4⟩ := k.at_
  have kt : Tk H2 (L2.upd H2 Ml (.lst (as.map V.ref ++ [.ref a]))) := Tk.lst k.ml
  have hmm : M.m ≠ Ml := two h1 k.ml (by nofun)
  refine ⟨fun b o hb g1 g2 => ?_, ?_, ?_, Paired.snoc (Paired.mapP k.md fun a m q => kt _ _ q) (kt _ _ hm), k.ne, k.ne2⟩
  · have : b ≠ Ml := ne_of_none hb nM
    rw [upd_ne this]
    exact k.v b o hb g1 g2
  · exact ⟨h0, by rw [upd_ne hmm]; exact h1, cs, ls, by rw [upd_ne (Ne.symm k.ne2)]; exact h2, by rw [upd_ne (Ne.symm k.ne)]; exact h3, h4⟩
  · rw [upd_same, List.map_append]
    rfl
end
def spLWalk : Sp := fun vs H Q _ => ∃ (M : Mc) (s : Nat) (x : Dots), vs = [.ref M.m, .str (enc x)] ∧ MAt M H s ∧ x.length ≤ 40 ∧ s < 2 ^ 40 ∧
  ∀ (t : Addr) (ms : List Mode) (H' : Hp) (s' : Nat), TelAt H' t ms → ms.length ≤ x.length + 1 → (∀ m ∈ ms, MOk m) → Mv M H H' → MAt M H' s' → s' ≤ s + 4 * (x.length + 1) → Q (.ref t) H'
abbrev nLWalk : List Str := ["_law_m", "_law_ahead", "_law_spot", "_law_colour", "_law_begun_here", "_law_modes", "_law_here", "_law_mode", "_law_way", "_law_more"]
theorem scLWalk : FnScope nLWalk ["_law_m", "_law_ahead"] (defScope sLWalk) := ⟨rfl, rfl, rfl, by decide +kernel, rfl, by decide +kernel, by decide +kernel⟩
theorem ok_lwalk (T : Tx K mg) (D : Stands K mg "_law_walk" sLWalk) (hd : Has P w K mg base "_law_draw" ["_law_m", "_law_limit"] 2 spDraw) (hs : Has P w K mg base "_law_step" ["_law_ahead", "_law_mode", "_law_spot", "_law_colour", "_law_begun_here"] 2 spLStep) :
    Has P w K mg base "_law_walk" ["_law_m", "_law_ahead"] 3 spLWalk := by
  refine has_of D scLWalk (fun _ _ _ _ _ _ us hl => match us, hl with | [_, _], _ => rfl) (fun vs H Q E h => ?_) (fun f cdv A outer s H vs Q E hr h => ?_)
  · obtain ⟨M, s, x, rfl, _⟩ := h
    rfl
  · obtain ⟨M, s, x, rfl, A0, h40, hs0, q⟩ := h
    refine ⟨_, pss_cons (ps_asg (pe_tup (pa_cons pe_int (pa_cons pe_str (pa_cons pe_bl (pa_cons (pe_lst pa_nil) pa_nil))))) (pg_tup rfl (pgs_cons (pg_name (i := 2) scLWalk.nd rfl (.inl rfl)) (pgs_cons (pg_name (i := 3) scLWalk.nd rfl (.inl rfl)) (pgs_cons (pg_name (i := 4) scLWalk.nd rfl (.inl rfl)) (pgs_cons (pg_name (i := 5) scLWalk.nd rfl (.inl rfl)) pgs_nil))))))
      (pss_cons (ps_while PassesOwn.never (pt_cmpR op_lt (pv 2) (pe_callB call_len_str (by rfl) T.len_ PySem.boot_len (pa_cons (pv 1) pa_nil)) (nomark _))
        (pss_cons (ps_par (i := 6) (j := 7) rfl scLWalk.nd rfl rfl (by decide) rfl rfl (pa_cons pe_non (pa_cons (pe_tup (pa_cons pe_str (pa_cons (pe_op op_sub (pe_callB call_len_str (by rfl) T.len_ PySem.boot_len (pa_cons (pv 1) pa_nil)) (pv 2)) (pa_cons pe_int pa_nil)))) pa_nil)) (by rfl))
        (pss_cons (ps_par (i := 8) (j := 9) rfl scLWalk.nd rfl rfl (by decide) rfl rfl (pa_cons (pe_do hd hr (pa_cons (pv 0) (pa_cons pe_int pa_nil))) (pa_cons (pe_op op_sub (pe_do hd hr (pa_cons (pv 0) (pa_cons pe_int pa_nil))) pe_int) pa_nil)) (by rfl))
        (pss_cons (ps_if (pt_cmpR op_lt (pv 8) pe_int (nomark _)) (pss_one (ps_set (i := 7) scLWalk.nd rfl (.inl rfl) (pe_tup (pa_cons pe_str (pa_cons (pv 9) pa_nil)))))
          (pss_one (ps_if (pt_cmpR op_eq (pv 8) pe_int (nomark _)) (pss_one (ps_set (i := 7) scLWalk.nd rfl (.inl rfl) (pe_tup (pa_cons pe_str pa_nil))))
            (pss_one (ps_if (pt_cmpR op_eq (pv 8) pe_int (nomark _)) (pss_one (ps_set (i := 7) scLWalk.nd rfl (.inl rfl) (pe_tup (pa_cons pe_str (pa_cons (pe_op op_add pe_int (pe_do hd hr (pa_cons (pv 0) (pa_cons pe_int pa_nil)))) (pa_cons (pe_op op_add pe_int (pe_do hd hr (pa_cons (pv 0) (pa_cons pe_int pa_nil)))) pa_nil)))))) pss_nil)))))
        (pss_cons (ps_set (i := 6) scLWalk.nd rfl (.inl rfl) (pe_do hs hr (pa_cons (pv 1) (pa_cons (pv 7) (pa_cons (pv 2) (pa_cons (pv 3) (pa_cons (pv 4) pa_nil)))))))
        (pss_cons (ps_if (pt_cmpR op_isN (pv 6) pe_non (nomark _))
          (pss_cons (ps_set (i := 7) scLWalk.nd rfl (.inl rfl) (pe_tup (pa_cons pe_str (pa_cons pe_int pa_nil))))
          (pss_one (ps_set (i := 6) scLWalk.nd rfl (.inl rfl) (pe_do hs hr (pa_cons (pv 1) (pa_cons (pv 7) (pa_cons (pv 2) (pa_cons (pv 3) (pa_cons (pv 4) pa_nil))))))))) pss_nil)
        (pss_cons (ps_expr (pe_bm PySem.F.plainAttrs_list PySem.F.slot_list_append PySem.F.type_list_append mt_append (pv 5) (pa_cons (pv 7) pa_nil)))
        (pss_one (ps_par3 (i := 2) (j := 3) (l := 4) rfl scLWalk.nd rfl rfl rfl (by decide) (by decide) (by decide) rfl rfl rfl (pa_cons (ixT (pv 6) pe_int) (pa_cons (ixT (pv 6) pe_int) (pa_cons pe_bl pa_nil))) (by rfl))))))))))
      (pss_one (ps_ret (pe_callTy call_tuple_of (by rfl) T.tuple_ (by decide +kernel) (pa_cons (pv 5) pa_nil))))), ?_⟩
    refine ⟨few rfl, fun Ml nMl => ⟨few rfl, fun p0 np0 => ⟨p0, _, rfl, .of upd_same, rfl, _, _, rfl, _, _, rfl, _, _, rfl, _, _, rfl, rfl, ?_⟩⟩⟩
    have s0 : Same H (L2.upd (L2.upd H Ml (.lst [])) p0 (.tup [.int 0, .str ".", .bl false, .ref Ml])) := (same_new nMl).trans (same_new np0)
    have k0 : KIn M H (L2.upd (L2.upd H Ml (.lst [])) p0 (.tup [.int 0, .str ".", .bl false, .ref Ml])) Ml [] [] s := by
      have A0' := A0
      obtain ⟨g0, g1, cs, ls, g2, g3, g4⟩ := A0'
      exact ⟨Mv.of s0, A0.same s0, same_new np0 _ _ upd_same, .nil, Ne.symm (ne_of_none g3 nMl), Ne.symm (ne_of_none g2 nMl)⟩
    refine ⟨fun m σ H2 => ∃ (p : Nat) (c t : Bool) (as : List Addr) (ms : List Mode) (s' : Nat) (z6 z7 z8 z9 : Option V), m = (x.length - p) + (if t = true then 0 else 1) ∧ σ = [some (.ref M.m), some (.str (enc x)), some (.int p), some (.str (col c)), some (.bl t), some (.ref Ml), z6, z7, z8, z9] ∧
      p ≤ x.length ∧ (t = false → p = 0 ∧ ms = []) ∧ KIn M H H2 Ml as ms s' ∧ ms.length ≤ p + 1 ∧ (∀ m ∈ ms, MOk m) ∧ s' ≤ s + 4 * ms.length, ⟨_, 0, false, false, [], [], s, none, none, none, none, rfl, by rw [col_w]; rfl, Nat.zero_le _, fun _ => ⟨rfl, rfl⟩, k0, Nat.zero_le _, nofun, Nat.le_refl _⟩, ?_⟩
    rintro m σ H2 ⟨p, c, t, as, ms, s', z6, z7, z8, z9, rfl, rfl, hp, h0, k2, hml, hmo, hs'⟩
    refine ⟨_, rfl, _, rfl, _, rfl, enc_szl (l := x) (by omega), _, _, rfl, rfl, _, rfl, if2 (fun e => ?_) (fun e => ?_)⟩
    · have e := of_decide_eq_true e
      rw [enc_len] at e
      have hlt : p < x.length := by omega
      have hne : x.drop p ≠ [] := by
        intro z
        have := congrArg List.length z
        rw [List.length_drop, List.length_nil] at this
        omega
      refine ⟨fun σ' H' => ∃ (e : Nat) (c' : Bool) (as : List Addr) (ms : List Mode) (s' : Nat) (z6 z7 z8 z9 : Option V), σ' = [some (.ref M.m), some (.str (enc x)), some (.int ((p + e : Nat) : Int)), some (.str (col c')), some (.bl true), some (.ref Ml), z6, z7, z8, z9] ∧
        p + e ≤ x.length ∧ (t = true → 1 ≤ e) ∧ KIn M H H' Ml as ms s' ∧ ms.length ≤ p + e + 1 ∧ (∀ m ∈ ms, MOk m) ∧ s' ≤ s + 4 * ms.length, ?_, ?_⟩
      · rintro σ' H' ⟨e, c', as, ms, s', z6, z7, z8, z9, rfl, h1, h2, h3, h4, h5, h6⟩
        refine ⟨x.length - (p + e) + 0, ?_, p + e, c', true, as, ms, s', z6, z7, z8, z9, by rw [if_pos rfl], rfl, h1, nofun, h3, h4, h5, h6⟩
        cases t with
        | true =>
          have := h2 rfl
          rw [if_pos rfl]
          omega
        | false =>
          rw [if_neg (by decide)]
          omega
      have hms0 : ms.length ≤ x.length := by omega
      refine ⟨_, rfl, _, rfl, enc_szl (l := x) (by omega), _, rfl, _, _, rfl, rfl, few rfl, fun a0 na0 => ⟨_, _, rfl, ?_⟩⟩
      rw [enc_len]
      have k3 := k2.same (same_new (o := .tup [.str "runs", .int ((x.length : Int) - (p : Int)), .int 0]) na0)
      have hm3 : ModeAt (L2.upd H2 a0 (.tup [.str "runs", .int ((x.length : Int) - (p : Int)), .int 0])) a0 (.runs (x.length - p) 0) := by
        unfold ModeAt
        rw [upd_same]
        show _ = some (HO.tup [.str "runs", .int ((x.length - p : Nat) : Int), .int ((0 : Nat) : Int)])
        rw [show ((x.length - p : Nat) : Int) = (x.length : Int) - (p : Int) by omega]
        rfl
      refine ⟨_, rfl, M, s', 6, rfl, k3.at_, by omega, by decide, by decide, fun r6 H4 hr6 v4 A4 => ?_⟩
      have k4 := k3.draw v4 A4
      refine ⟨_, rfl, M, s' + 1, 7, rfl, k4.at_, by omega, by decide, by decide, fun r7 H5 hr7 v5 A5 => ⟨_, _, rfl, rfl, _, _, rfl, ?_⟩⟩
      have k5 := k4.draw v5 A5
      have hm5 := (v5.tup A4 (v4.tup k3.at_ hm3) : ModeAt H5 a0 (.runs (x.length - p) 0))
      dsimp only
      -- the mode
      refine seqS (fun σ' H' => ∃ (a : Addr) (m : Mode) (s3 : Nat) (z8 z9 : Option V), σ' = [some (.ref M.m), some (.str (enc x)), some (.int p), some (.str (col c)), some (.bl t), some (.ref Ml), some .non, some (.ref a), z8, z9] ∧ ModeAt H' a m ∧ MOk m ∧ KIn M H H' Ml as ms s3 ∧ s3 ≤ s' + 4) (fun D' q' => ?_) ?_
      · refine ⟨_, rfl, _, _, rfl, rfl, _, rfl, if2 (fun e6 => ?_) (fun e6 => ?_)⟩
        · refine ⟨_, rfl, few rfl, fun a na => q' _ _ ⟨a, .stay ((r7 : Int) - 3), s' + 1 + 1, _, _, rfl, upd_same, ⟨by omega, by omega⟩, k5.same (same_new na), by omega⟩⟩
        · refine ⟨_, rfl, rfl, _, rfl, if2 (fun e7 => ?_) (fun e7 => ?_)⟩
          · refine ⟨few rfl, fun a na => q' _ _ ⟨a, .pass, s' + 1 + 1, _, _, rfl, upd_same, trivial, k5.same (same_new na), by omega⟩⟩
          · refine ⟨_, rfl, rfl, _, rfl, if2 (fun e8 => ?_) (fun e8 => ?_)⟩
            · refine ⟨_, rfl, M, s' + 1 + 1, 4, rfl, k5.at_, by omega, by decide, by decide, fun ra H6 hra v6 A6 => ⟨_, _, rfl, rfl, ?_⟩⟩
              have k6 := k5.draw v6 A6
              refine ⟨_, rfl, M, s' + 1 + 1 + 1, 4, rfl, k6.at_, by omega, by decide, by decide, fun rb H7 hrb v7 A7 => ⟨_, _, rfl, rfl, few rfl, fun a na => ?_⟩⟩
              have k7 := k6.draw v7 A7
              refine q' _ _ ⟨a, .runs (1 + ra) (1 + rb), s' + 1 + 1 + 1 + 1, _, _, rfl, upd_same, ⟨by omega, by omega⟩, k7.same (same_new na), by omega⟩
            · exact q' _ _ ⟨a0, _, s' + 1 + 1, _, _, rfl, hm5, ⟨by omega, by omega⟩, k5, by omega⟩
      rintro σ' H6 ⟨a, m, s3, z8, z9, rfl, hma, hmk, k6, hs3⟩
      have h00 : t = false → p = 0 := fun ht => (h0 ht).1
      -- the step
      refine setX (fun v H' => (v = .non ∧ H' = H6) ∨ ∃ e c' r, v = .ref r ∧ H' r = some (.tup (stpV p e c' (toldBy m e c))) ∧ Same H6 H' ∧ stepR m c t (x.drop p) = some (e, c')) (fun R q' => ?_) ?_
      · exact ⟨_, rfl, _, rfl, _, rfl, _, rfl, _, rfl, x, a, m, p, c, t, rfl, h40, hlt, h00, hma, hmk, fun _ => q' _ _ (.inl ⟨rfl, rfl⟩), fun e c' he r nr => q' _ _ (.inr ⟨e, c', r, rfl, upd_same, same_new nr, he⟩)⟩
      rintro v H7 hv
      refine seqS (fun σ' H' => ∃ (a : Addr) (m : Mode) (e : Nat) (c' : Bool) (r : Addr) (z8 z9 : Option V), σ' = [some (.ref M.m), some (.str (enc x)), some (.int p), some (.str (col c)), some (.bl t), some (.ref Ml), some (.ref r), some (.ref a), z8, z9] ∧ ModeAt H' a m ∧ MOk m ∧ KIn M H H' Ml as ms s3 ∧ H' r = some (.tup (stpV p e c' (toldBy m e c))) ∧ stepR m c t (x.drop p) = some (e, c')) (fun D' q' => ?_) ?_
      · rcases hv with ⟨rfl, rfl⟩ | ⟨e, c', r, rfl, hr, s7, he⟩
        · refine ⟨_, rfl, rfl, _, rfl, ifT (decide_eq_true rfl) ?_⟩
          refine ⟨few rfl, fun a2 na2 => ?_⟩
          have hm2 : ModeAt (L2.upd H7 a2 (.tup [.str "stay", .int 0])) a2 (.stay 0) := upd_same
          obtain ⟨e, c', he⟩ := step_stay0 (c := c) (t := t) hne
          refine ⟨_, rfl, _, rfl, _, rfl, _, rfl, _, rfl, x, a2, .stay 0, p, c, t, rfl, h40, hlt, h00, hm2, ⟨by decide, by decide⟩, fun hn => ?_, fun e2 c2 he2 r nr => q' _ _ ⟨a2, .stay 0, e2, c2, r, _, _, rfl, same_new nr _ _ hm2, ⟨by decide, by decide⟩, (k6.same (same_new na2)).same (same_new nr), upd_same, he2⟩⟩
          rw [he] at hn
          cases hn
        · exact ⟨_, rfl, rfl, _, rfl, ifF (V.ne nofun) (q' _ _ ⟨a, m, e, c', r, _, _, rfl, s7 _ _ hma, hmk, k6.same s7, hr, he⟩)⟩
      rintro σ' H8 ⟨a, m, e, c', r, z8, z9, rfl, hma, hmk, k8, hr, he⟩
      obtain ⟨hlen, hle⟩ := told_len he
      rw [List.length_drop] at hle
      have hal : as.length = ms.length := Paired.length k8.md
      refine ⟨_, rfl, .inl ⟨rfl, _, .of k8.ml⟩, _, rfl, Ml, _, _, rfl, rfl, k8.ml, by rw [List.length_map, hal, sizeLine_eq]; omega, ?_⟩
      have k9 := k8.push hma nMl
      have hr9 : (L2.upd H8 Ml (.lst (as.map V.ref ++ [.ref a]))) r = some (.tup (stpV p e c' (toldBy m e c))) := Tk.lst k8.ml _ _ hr
      have hte : t = true → 1 ≤ e := fun ht => by
        rw [ht] at he
        exact step_adv he
      refine ⟨_, rfl, r, _, 0, _, rfl, rfl, .of hr9, atI_nat (j := 0) rfl, _, rfl, r, _, 1, _, rfl, rfl, .of hr9, atI_nat (j := 1) rfl, _, _, _, rfl, ?_⟩
      refine ⟨e, c', as ++ [a], ms ++ [m], s3, _, _, _, _, rfl, by omega, hte, k9, ?_, ?_, ?_⟩
      · rw [List.length_append]
        show ms.length + 1 ≤ _
        cases ht : t with
        | true =>
          have := hte ht
          omega
        | false =>
          have := (h0 ht).2
          rw [this]
          show 0 + 1 ≤ _
          omega
      · intro m' hm'
        rcases List.mem_append.mp hm' with h | h
        · exact hmo m' h
        · rw [List.mem_singleton.mp h]
          exact hmk
      · rw [List.length_append]
        show s3 ≤ s + 4 * (ms.length + 1)
        omega
    · have e := of_decide_eq_false e
      rw [enc_len] at e
      have hpe : p = x.length := by omega
      refine ⟨_, rfl, Ml, _, rfl, .inl ⟨.of k2.ml, fun t' nt => ?_⟩⟩
      have k3 := k2.same (same_new (o := .tup (as.map V.ref)) nt)
      exact q t' ms _ s' ⟨as, upd_same, k3.md⟩ (by omega) hmo k3.v k3.at_ (by omega)
end
end K77
set_option Elab.async false
set_option linter.all false
set_option maxRecDepth 100000
set_option maxHeartbeats 4000000
/-! K77X7: all lines, by the law. -/
namespace K77
open PySem PySem.Spec PyProof.Rows L2
theorem lt_key : ∀ {a b : Dots}, a.length = b.length → ltCps (a.map dc) (b.map dc) = decide (key a < key b)
  | [], [], _ => rfl
  | x :: a, y :: b, hl => by
    have hl : a.length = b.length := by simpa using hl
    have ih := lt_key (a := a) (b := b) hl
    have ha := keyF_lt a
    have hb := keyF_lt b
    rw [key_cons, key_cons, hl]
    rw [hl] at ha
    have ha : key a < 2 ^ b.length := ha
    have hb : key b < 2 ^ b.length := hb
    rw [List.map_cons, List.map_cons]
    show (decide (dc x < dc y) || (dc x == dc y && ltCps (a.map dc) (b.map dc))) = _
    rw [ih]
    cases x <;> cases y
    · show (false || (true && decide (key a < key b))) = decide (2 ^ b.length * 1 + key a < 2 ^ b.length * 1 + key b)
      rw [Bool.false_or, Bool.true_and]
      exact decide_eq_decide.mpr (by omega)
    · show (false || (false && _)) = decide (2 ^ b.length * 1 + key a < 2 ^ b.length * 0 + key b)
      exact (decide_eq_false (by omega)).symm
    · show (true || _) = decide (2 ^ b.length * 0 + key a < 2 ^ b.length * 1 + key b)
      exact (decide_eq_true (by omega)).symm
    · show (false || (true && decide (key a < key b))) = decide (2 ^ b.length * 0 + key a < 2 ^ b.length * 0 + key b)
      rw [Bool.false_or, Bool.true_and]
      exact decide_eq_decide.mpr (by omega)
theorem rising_key {n : Nat} : ∀ (ls : List Dots) (p : Dots), p.length = n → (∀ l ∈ ls, l.length = n) → risingS (enc p) (ls.map enc) = true → (p :: ls).Pairwise fun a b => key a ≤ key b
  | [], p, _, _, _ => List.pairwise_singleton _ _
  | x :: ls, p, hp, hl, h => by
    have hx := hl x List.mem_cons_self
    have h : (!ltCps (x.map dc) (p.map dc) && risingS (enc x) (ls.map enc)) = true := h
    rw [lt_key (hx.trans hp.symm), Bool.and_eq_true] at h
    have h1 : ¬ key x < key p := by simpa using h.1
    have ih := rising_key ls x hx (fun l hm => hl l (List.mem_cons_of_mem _ hm)) h.2
    refine List.pairwise_cons.mpr ⟨fun y hy => ?_, ih⟩
    rcases List.mem_cons.mp hy with rfl | hy
    · omega
    · have := (List.pairwise_cons.mp ih).1 y hy
      omega
def dec (z : Str) : Dots := z.cps.toList.map fun c => c == 35
theorem dec_enc (l : Dots) : dec (enc l) = l := by
  show ((l.map dc).toArray.toList).map _ = l
  rw [List.toList_toArray, List.map_map]
  have : (fun c => c == 35) ∘ dc = id := by
    funext b
    cases b <;> rfl
  rw [this, List.map_id]
theorem sorted_lines {n : Nat} {zs : List Str} (hp : zs.Perm ((lawL n).map enc)) (hs : sortedS zs = true) : zs = (allL n).map enc := by
  have e1 : zs = (zs.map dec).map enc := by
    rw [List.map_map]
    have : ∀ z ∈ zs, (enc ∘ dec) z = z := fun z hz => by
      obtain ⟨l, _, rfl⟩ := List.mem_map.mp (hp.mem_iff.mp hz)
      show enc (dec (enc l)) = _
      rw [dec_enc]
    exact (List.map_congr_left this).symm ▸ (List.map_id _).symm
  have hp2 : (zs.map dec).Perm (lawL n) := by
    have := hp.map dec
    rw [List.map_map] at this
    have e2 : (lawL n).map (dec ∘ enc) = lawL n := by
      have : (dec ∘ enc) = id := by
        funext l
        exact dec_enc l
      rw [this, List.map_id]
    rw [e2] at this
    exact this
  generalize zs.map dec = ls at e1 hp2
  rw [e1] at hs ⊢
  have hl : ∀ l ∈ ls, l.length = n := fun l h => lawL_len l (hp2.mem_iff.mp h)
  congr 1
  refine sorted_all hp2 ?_
  cases ls with
  | nil => exact List.Pairwise.nil
  | cons p r => exact rising_key r p (hl p List.mem_cons_self) (fun l h => hl l (List.mem_cons_of_mem _ h)) hs
theorem encL_str (ls : List Dots) : encL ls = (ls.map enc).map V.str := by
  unfold encL
  rw [List.map_map]
  rfl
section
variable {P : Program} {w : World} {K : PySem.W.Frag} {mg : Str → Option Value} {base : Heap}
def spLEvery : Sp := fun vs H Q _ => ∃ n : Nat, vs = [.int n] ∧ n ≤ 12 ∧ ∀ H' L, Same H H' → H L = none → H' L = some (.lst (encL (allL n))) → Q (.ref L) H'
abbrev nLEvery : List Str := ["_law_wide", "_law_found", "_law_k", "_law_dots"]
theorem scLEvery : FnScope nLEvery ["_law_wide"] (defScope sLEvery) := ⟨rfl, rfl, rfl, by decide +kernel, rfl, by decide +kernel, by decide +kernel⟩
theorem ok_levery (T : Tx K mg) (D : Stands K mg "_law_every" sLEvery) : Has P w K mg base "_law_every" ["_law_wide"] 1 spLEvery := by
  refine has_of D scLEvery (fun _ _ _ _ _ _ us hl => match us, hl with | [_], _ => rfl) (fun vs H Q E h => ?_) (fun f cdv A outer s H vs Q E hr h => ?_)
  · obtain ⟨n, rfl, _⟩ := h
    rfl
  · obtain ⟨n, rfl, hn, q⟩ := h
    refine ⟨_, pss_cons (ps_set (i := 1) scLEvery.nd rfl (.inl rfl) (pe_lst (pa_cons pe_str pa_nil)))
      (pss_cons (ps_for PassesOwn.never rfl (pi_range1 (by rfl) T.range_ (pa_cons (pv 0) pa_nil)) (pg_name (i := 2) scLEvery.nd rfl (.inl rfl))
        (pss_one (ps_set (i := 1) scLEvery.nd rfl (.inl rfl) (pe_op op_cat
          (pe_lc (own := [("_law_dots", 3)]) (g := gName 3) (tt := tYes) rfl scLEvery.nd (pi_list (pv 1)) (blkOk_by (N := nLEvery) (sc := defScope sLEvery) (by decide +kernel)) (fun _ _ _ _ _ => pg_name (i := 3) scLEvery.nd rfl (Or.inl rfl)) (fun _ _ _ _ _ => pts_nil) (fun _ _ _ _ _ => pe_op op_add_str (pv 3) pe_str))
          (pe_lc (own := [("_law_dots", 3)]) (g := gName 3) (tt := tYes) rfl scLEvery.nd (pi_list (pv 1)) (blkOk_by (N := nLEvery) (sc := defScope sLEvery) (by decide +kernel)) (fun _ _ _ _ _ => pg_name (i := 3) scLEvery.nd rfl (Or.inl rfl)) (fun _ _ _ _ _ => pts_nil) (fun _ _ _ _ _ => pe_op op_add_str (pv 3) pe_str))))))
      (pss_one (ps_ret (pe_callB cr_sortedA (by rfl) T.sorted_ (by decide +kernel) (pa_cons (pv 1) pa_nil))))), ?_⟩
    refine ⟨few rfl, fun L0 nL0 => ?_⟩
    refine ⟨_, rfl, (n : Int), rfl, by omega, by omega, for_range (fun i σ H2 => Same H H2 ∧ ∃ (L : Addr) (z : Option V), σ = [some (.int n), some (.ref L), z, none] ∧ H L = none ∧ H2 L = some (.lst (encL (lawL i)))) ⟨same_new nL0, L0, none, rfl, nL0, ?_⟩ ?_ ?_⟩
    · rw [upd_same]
      show some (HO.lst [V.str ""]) = some (HO.lst [V.str (enc [])])
      rw [enc_nil]
    · rintro k σ H2 hk ⟨s2, L, z, rfl, nL, hL⟩
      have hk : k < n := by omega
      have hcnt : (lawL k).length = 2 ^ k := (lawL_perm k).length_eq.trans (allL_count k)
      have h2k : 2 ^ k ≤ 2 ^ 12 := Nat.pow_le_pow_right (by decide) (by omega)
      have hlen := fun l h => lawL_len (n := k) l h
      have hnext : lawL (k + 1) = (lawL k).map (fun l => l ++ [true]) ++ (lawL k).map fun l => l ++ [false] := rfl
      rw [hnext]
      generalize lawL k = src at hL hcnt hlen ⊢
      -- one comprehension
      have one : ∀ (c : Bool) (i : Nat) (D : Addr) (H4 : Hp) (l : Dots), Same H H4 → H4 L = some (.lst (encL src)) → H D = none → L ≠ D → i < src.length → src[i]? = some l → H4 D = some (.lst (encL ((src.take i).map fun l => l ++ [c]))) →
          ((enc l).length + (col c).length ≤ sizeLine) ∧ ∃ acc, H4 D = some (.lst acc) ∧ acc.length < sizeLine ∧ Same H (L2.upd H4 D (.lst (acc ++ [.str (enc l ++ col c)]))) ∧ (L2.upd H4 D (.lst (acc ++ [.str (enc l ++ col c)]))) L = some (.lst (encL src)) ∧
            (L2.upd H4 D (.lst (acc ++ [.str (enc l ++ col c)]))) D = some (.lst (encL ((src.take (i + 1)).map fun l => l ++ [c]))) := by
        intro c i D H4 l s4 h4 nD hLD hi hg hD
        have hl1 := hlen l (List.mem_of_getElem? hg)
        refine ⟨?_, _, hD, ?_, same_mut s4 nD, ?_, ?_⟩
        · rw [enc_len, sizeLine_eq]
          show l.length + (enc [c]).length ≤ _
          rw [enc_len]
          show l.length + 1 ≤ _
          omega
        · unfold encL
          rw [List.length_map, List.length_map, List.length_take, sizeLine_eq]
          omega
        · rw [upd_ne hLD]
          exact h4
        · rw [upd_same, List.take_add_one, hg]
          unfold encL
          rw [List.map_append, List.map_append]
          show some (HO.lst (_ ++ [V.str (enc l ++ col c)])) = some (HO.lst (_ ++ [V.str (enc (l ++ [c]))]))
          rw [show enc l ++ col c = enc (l ++ [c]) from enc_app l [c]]
      have xat : ∀ (i : Nat) (v : V), (encL src)[i]? = some v → ∃ l, src[i]? = some l ∧ v = .str (enc l) ∧ i < src.length := by
        intro i v hv
        unfold encL at hv
        rw [List.getElem?_map] at hv
        cases e : src[i]? with
        | none => rw [e] at hv; cases hv
        | some l =>
          rw [e] at hv
          exact ⟨l, rfl, (Option.some.inj hv).symm, (List.getElem?_eq_some_iff.mp e).1⟩
      refine gset ?_
      dsimp only
      refine ⟨_, rfl, L, rfl, ⟨_, .of hL⟩, fun D nD => ?_⟩
      have nD0 : H D = none := s2.free nD
      have hLD : L ≠ D := fun z => by
        rw [z, nD] at hL
        cases hL
      refine lc_list (xs := encL src) (fun i H4 => Same H H4 ∧ H4 L = some (.lst (encL src)) ∧ H4 D = some (.lst (encL ((src.take i).map fun l => l ++ [true])))) ⟨s2.trans (same_new nD), same_new nD _ _ hL, upd_same⟩ (fun i H4 _ hP => .of hP.2.1) ?_ ?_
      · rintro i v H4 hv ⟨s4, h4, hD⟩
        obtain ⟨l, hg, rfl, hi⟩ := xat i v hv
        obtain ⟨g1, acc, g2, g3, g4⟩ := one true i D H4 l s4 h4 nD0 hLD hi hg hD
        rw [col_b] at g1 g4
        exact ⟨rfl, _, rfl, _, _, rfl, rfl, g1, acc, g2, g3, g4⟩
      · rintro H4 ⟨s4, h4, hD⟩
        rw [show (encL src).length = src.length from List.length_map .., List.take_length] at hD
        refine ⟨_, rfl, L, rfl, ⟨_, .of h4⟩, fun D2 nD2 => ?_⟩
        have nD20 : H D2 = none := s4.free nD2
        have hLD2 : L ≠ D2 := fun z => by
          rw [z, nD2] at h4
          cases h4
        have hDD2 : D ≠ D2 := fun z => by
          rw [z, nD2] at hD
          cases hD
        refine lc_list (xs := encL src) (fun i H5 => Same H H5 ∧ H5 L = some (.lst (encL src)) ∧ H5 D = some (.lst (encL (src.map fun l => l ++ [true]))) ∧ H5 D2 = some (.lst (encL ((src.take i).map fun l => l ++ [false])))) ⟨s4.trans (same_new nD2), same_new nD2 _ _ h4, same_new nD2 _ _ hD, upd_same⟩ (fun i H4 _ hP => .of hP.2.1) ?_ ?_
        · rintro i v H5 hv ⟨s5, h5, hD5, hD25⟩
          obtain ⟨l, hg, rfl, hi⟩ := xat i v hv
          obtain ⟨g1, acc, g2, g3, g4, g5, g6⟩ := one false i D2 H5 l s5 h5 nD20 hLD2 hi hg hD25
          rw [col_w] at g1 g4 g5 g6
          refine ⟨rfl, _, rfl, _, _, rfl, rfl, g1, acc, g2, g3, g4, g5, ?_, g6⟩
          rw [upd_ne hDD2]
          exact hD5
        · rintro H5 ⟨s5, h5, hD5, hD25⟩
          rw [show (encL src).length = src.length from List.length_map .., List.take_length] at hD25
          refine ⟨D, D2, _, _, rfl, rfl, hD5, hD25, ?_, fun p np => ⟨s5.trans (same_new np), p, _, rfl, s5.free np, ?_⟩⟩
          · unfold encL
            rw [List.length_map, List.length_map, List.length_map, List.length_map, sizeLine_eq]
            omega
          · rw [upd_same]
            unfold encL
            rw [List.map_append]
    · rintro σ H2 ⟨s2, L, z, rfl, nL, hL⟩
      have e : ((n : Int)).toNat = n := Int.toNat_natCast n
      rw [e] at hL
      refine ⟨_, rfl, L, (lawL n).map enc, rfl, .of (by rw [hL, encL_str]), fun zs p hp hs np => ?_⟩
      have := sorted_lines hp hs
      subst this
      exact q _ p (s2.trans (same_new np)) (s2.free np) (by rw [upd_same, encL_str])
end
end K77
set_option Elab.async false
set_option linter.all false
set_option maxRecDepth 100000
set_option maxHeartbeats 4000000
/-! K77X8: the law's row. -/
namespace K77
open PySem PySem.Spec PyProof.Rows L2
theorem dps_strs {K : PySem.W.Frag} {H : Hp} : ∀ ls : List Dots, DpAll K H (encL ls) (ls.map fun l => PyData.str (enc l))
  | [] => .nil
  | l :: ls => .cons (.str (enc l)) (dps_strs ls)
theorem enc_lay (l : Dots) : (PyData.str (enc l)).canLay0 = true := by
  show ((enc l).cps.all (· < 0x110000)) = true
  have : ∀ c ∈ (enc l).cps.toList, c < 0x110000 := fun c hc => by
    have e : (enc l).cps.toList = l.map dc := List.toList_toArray ..
    rw [e] at hc
    obtain ⟨d, _, rfl⟩ := List.mem_map.mp hc
    cases d <;> decide
  rw [← Array.all_toList, List.all_eq_true]
  exact fun c hc => decide_eq_true (this c hc)
theorem strs_shaped (ls : List Dots) : SeqAt.shaped (.list (ls.map fun l => PyData.str (enc l))) = true :=
  shaped_lst (fun d hd => by
    obtain ⟨n, _, rfl⟩ := List.mem_map.mp hd
    exact enc_lay n) fun d hd => by
    obtain ⟨n, _, rfl⟩ := List.mem_map.mp hd
    show 0 ≤ 10
    decide
theorem fold_ins_mem {κ : Type} [DecidableEq κ] : ∀ (ys ms : List κ) (a : κ), a ∈ ys.foldl ins ms ↔ a ∈ ms ∨ a ∈ ys
  | [], ms, a => ⟨.inl, fun h => h.elim id fun z => (nomatch z)⟩
  | y :: ys, ms, a => by
    rw [List.foldl_cons, fold_ins_mem ys, ins_mem, List.mem_cons]
    constructor
    · rintro ((h | h) | h)
      · exact .inr (.inl h)
      · exact .inl h
      · exact .inr (.inr h)
    · rintro (h | h | h)
      · exact .inl (.inr h)
      · exact .inl (.inl h)
      · exact .inr h
theorem fold_ins_nodup {κ : Type} [DecidableEq κ] : ∀ (ys ms : List κ), ms.Nodup → (ys.foldl ins ms).Nodup
  | [], _, h => h
  | y :: ys, ms, h => fold_ins_nodup ys _ (ins_nodup h)
/-- the signs of some lines at a place -/
def colsAt (ls : List Dots) (k : Nat) : List Str := ls.map fun l => col (l[k]?.getD false)
theorem kinds_one {ls : List Dots} {k : Nat} {w : Nat} (hk : k < w) (hl : ∀ l ∈ ls, l.length = w) (hne : ls ≠ []) {zs : List Str} (hp : zs.Perm ((colsAt ls k).foldl ins [])) :
    (zs.length = 1 → ∃ d, zs = [col d] ∧ lawSign ls k = some d) ∧ (zs.length ≠ 1 → lawSign ls k = none) := by
  have hnd := (fold_ins_nodup (colsAt ls k) [] List.nodup_nil)
  have hnz : zs.Nodup := hp.nodup_iff.mpr hnd
  have hm : ∀ z, z ∈ zs ↔ ∃ l ∈ ls, col (l[k]?.getD false) = z := fun z => by
    rw [hp.mem_iff, fold_ins_mem]
    unfold colsAt
    rw [List.mem_map]
    exact ⟨fun h => h.elim (fun z => (nomatch z)) id, .inr⟩
  match ls, hne, hl, hm with
  | l :: r, _, hl, hm =>
    have el : ∀ l' ∈ l :: r, l'[k]? = some (l'[k]?.getD false) := fun l' h => by
      have : k < l'.length := by rw [hl l' h]; exact hk
      rw [List.getElem?_eq_getElem this]
      rfl
    have e0 := el l List.mem_cons_self
    have hz0 : col (l[k]?.getD false) ∈ zs := (hm _).mpr ⟨l, List.mem_cons_self, rfl⟩
    unfold lawSign
    dsimp only
    constructor
    · intro h1
      match zs, h1, hz0, hm with
      | [z], _, hz0, hm =>
        have ez : col (l[k]?.getD false) = z := List.mem_singleton.mp hz0
        have hall : (l :: r).all (fun l' => decide (l'[k]? = l[k]?)) = true := List.all_eq_true.mpr fun l' h => decide_eq_true (by
          have h2 := List.mem_singleton.mp ((hm _).mpr ⟨l', h, rfl⟩)
          rw [el l' h, e0, col_inj (h2.trans ez.symm)])
        rw [if_pos hall]
        exact ⟨l[k]?.getD false, by rw [ez], e0⟩
    · intro h1
      rw [if_neg]
      intro hall
      apply h1
      have hz : ∀ z ∈ zs, z = col (l[k]?.getD false) := fun z hzm => by
        obtain ⟨l', h, e⟩ := (hm z).mp hzm
        have := of_decide_eq_true (List.all_eq_true.mp hall l' h)
        rw [← e, this]
      match zs, hnz, hz0, hz with
      | [], _, h, _ => exact (nomatch h)
      | [z], _, _, _ => rfl
      | a :: b :: t, nd, _, hz =>
        have h1 := hz a List.mem_cons_self
        have h2 := hz b (List.mem_cons_of_mem _ List.mem_cons_self)
        have := (List.nodup_cons.mp nd).1
        rw [h1, ← h2] at this
        exact absurd List.mem_cons_self this
section
variable {P : Program} {w : World} {K : PySem.W.Frag} {mg : Str → Option Value} {base : Heap}
def spLRow : Sp := fun vs H Q _ => ∃ (n : Nat) (a : Addr) (ls : List Dots), vs = [.int n, .ref a] ∧ H a = some (.lst (encL ls)) ∧ ls.length ≤ 900 ∧ n ≤ 40 ∧ (∀ l ∈ ls, l.length = n) ∧ ∀ H', Same H H' → Q (rowV (lawRow n ls)) H'
abbrev nLRow : List Str := ["_law_wide", "_law_some", "_law_dots", "_law_k", "_law_kinds", "_law_line_here"]
theorem scLRow : FnScope nLRow ["_law_wide", "_law_some"] (defScope sLRow) := ⟨rfl, rfl, rfl, by decide +kernel, rfl, by decide +kernel, by decide +kernel⟩
theorem ok_lrow (T : Tx K mg) (D : Stands K mg "_law_row" sLRow) : Has P w K mg base "_law_row" ["_law_wide", "_law_some"] 1 spLRow := by
  refine has_of D scLRow (fun _ _ _ _ _ _ us hl => match us, hl with | [_, _], _ => rfl) (fun vs H Q E h => ?_) (fun f cdv A outer s H vs Q E hr h => ?_)
  · obtain ⟨n, a, ls, rfl, _⟩ := h
    rfl
  · obtain ⟨n, a, ls, rfl, ha, hl9, hn, hlen, q⟩ := h
    refine ⟨_, pss_cons (ps_if (pt_cmpR (op_eqD (by have := hr.un; omega)) (pv 1) (pe_lst pa_nil) (nomark _)) (pss_one (ps_ret pe_non)) pss_nil)
      (pss_cons (ps_set (i := 2) scLRow.nd rfl (.inl rfl) pe_str)
      (pss_cons (ps_for PassesOwn.never rfl (pi_range1 (by rfl) T.range_ (pa_cons (pv 0) pa_nil)) (pg_name (i := 3) scLRow.nd rfl (.inr rfl))
        (pss_cons (ps_set (i := 4) scLRow.nd rfl (.inl rfl) (pe_callB (cr_sortedT rfl) (by rfl) T.sorted_ (by decide +kernel) (pa_cons (pe_callTy (cr_set rfl) (by rfl) T.set_ (by decide +kernel) (pa_cons (pe_lc (own := [("_law_line_here", 5)]) (g := gName 5) (tt := tYes) rfl scLRow.nd (pi_list (pv 1)) (blkOk_by (N := nLRow) (sc := defScope sLRow) (by decide +kernel))
          (fun _ _ _ _ _ => pg_name (i := 5) scLRow.nd rfl (Or.inl rfl)) (fun _ _ _ _ _ => pts_nil) (fun _ _ _ _ _ => pe_ix ix_str (pv 5) (pv 3) (fun _ _ => rfl))) pa_nil)) pa_nil)))
        (pss_one (ps_set (i := 2) scLRow.nd rfl (.inl rfl) (pe_op op_add_str (pv 2) (pe_ifExp (pt_cmpR op_eq (pe_callB call_len_seq (by rfl) T.len_ PySem.boot_len (pa_cons (pv 4) pa_nil)) pe_int (nomark _)) (pe_ix ix_list (pv 4) pe_int (fun _ _ => rfl)) pe_str))))))
      (pss_one (ps_ret (pv 2))))), ?_⟩
    refine ⟨_, rfl, few rfl, fun p np => ?_⟩
    have s1 : Same H (L2.upd H p (.lst [])) := same_new np
    refine ⟨_, _, .lst (.of (s1 _ _ ha)) (dps_strs ls), .lst (.of upd_same) .nil, strs_shaped ls, rfl, _, rfl, ?_⟩
    cases hls : ls with
    | nil =>
      rw [hls] at q
      exact ifT rfl (q _ s1)
    | cons l0 r0 =>
      refine ifF rfl ?_
      have hne : ls ≠ [] := by rw [hls]; exact List.cons_ne_nil _ _
      have e1 : lawRow n ls = some ((List.range n).map (lawSign ls)) := if_neg hne
      rw [e1] at q
      refine ⟨_, rfl, (n : Int), rfl, by omega, by omega, for_range (fun i σ H2 => Same H H2 ∧ ∃ (z3 z4 : Option V), σ = [some (.int n), some (.ref a), some (.str (encR ((List.range i).map (lawSign ls)))), z3, z4, none]) ⟨s1, none, none, rfl⟩ ?_ ?_⟩
      · rintro k σ H2 hk ⟨s2, z3, z4, rfl⟩
        have hk : k < n := by omega
        have hk0 : (0 : Int) + (k : Int) = (k : Int) := by omega
        rw [hk0]
        refine ⟨_, rfl, a, rfl, ⟨_, .of (s2 _ _ ha)⟩, fun D nD => ?_⟩
        have nD0 : H D = none := s2.free nD
        have s3 : Same H2 (L2.upd H2 D (.lst [])) := same_new nD
        have hDa : a ≠ D := ne_of_none (s2 _ _ ha) nD
        refine lc_list (xs := encL ls) (fun i H4 => Same H H4 ∧ H4 D = some (.lst ((colsAt (ls.take i) k).map V.str))) ⟨s2.trans s3, upd_same⟩ (fun i H4 _ hP => .of (hP.1 _ _ ha)) ?_ ?_
        · rintro i v H4 hv ⟨s4, hD4⟩
          have hi : i < ls.length := by
            have := (List.getElem?_eq_some_iff.mp hv).1
            unfold encL at this
            rw [List.length_map] at this
            exact this
          have hg : ls[i]? = some ls[i] := List.getElem?_eq_getElem hi
          have ev : v = .str (enc ls[i]) := by
            unfold encL at hv
            rw [List.getElem?_map, hg] at hv
            exact (Option.some.inj hv).symm
          subst ev
          have hl1 := hlen _ (List.getElem_mem hi)
          have hkl : k < (ls[i]).length := by rw [hl1]; exact hk
          have eg : (ls[i])[k]? = some ((ls[i])[k]?.getD false) := by
            rw [List.getElem?_eq_getElem hkl]
            rfl
          have hnx : (colsAt (ls.take (i + 1)) k).map V.str = (colsAt (ls.take i) k).map V.str ++ [.str (col ((ls[i])[k]?.getD false))] := by
            unfold colsAt
            rw [List.take_add_one, hg, List.map_append, List.map_append]
            rfl
          refine ⟨rfl, _, rfl, _, rfl, rixs eg rfl (by omega) ⟨_, hD4, ?_, same_mut s4 nD0, ?_⟩⟩
          · unfold colsAt
            rw [List.length_map, List.length_map, List.length_take, sizeLine_eq]
            omega
          · rw [upd_same, hnx]
        · rintro H4 ⟨s4, hD4⟩
          rw [show (encL ls).length = ls.length from List.length_map .., List.take_length] at hD4
          have hcl : (colsAt ls k).length = ls.length := List.length_map ..
          refine ⟨D, colsAt ls k, rfl, .of hD4, by omega, fun p2 np2 => ⟨p2, _, rfl, upd_same, ?_, fun zs p3 hp hs np3 => ?_⟩⟩
          · have := foldl_ins_len (colsAt ls k) []
            rw [List.length_nil] at this
            omega
          have s5 := (s4.trans (same_new (o := SetO P w p2 ((colsAt ls k).foldl ins [])) np2)).trans (same_new (o := .lst (zs.map V.str)) np3)
          obtain ⟨k1, k2⟩ := kinds_one hk hlen hne hp
          have hrng : encR ((List.range (k + 1)).map (lawSign ls)) = encR ((List.range k).map (lawSign ls)) ++ (⟨#[signO (lawSign ls k)]⟩ : Str) := by
            rw [List.range_succ, List.map_append]
            unfold encR
            rw [List.map_append]
            show Str.mk _ = Str.mk (_ ++ #[signO (lawSign ls k)])
            congr 1
            simp
          have hrl : (encR ((List.range k).map (lawSign ls))).length = k := by
            show (((List.range k).map (lawSign ls)).map signO).toArray.size = _
            simp
          refine ⟨_, rfl, _, rfl, p3, _, rfl, .inl (.of upd_same), rfl, _, rfl, ?_⟩
          rw [List.length_map]
          refine if2 (fun e => ?_) (fun e => ?_)
          · have e := of_decide_eq_true e
            injection e with e
            obtain ⟨d, hz, hd⟩ := k1 (by omega)
            subst hz
            refine ⟨_, rfl, p3, _, 0, .str (col d), rfl, rfl, .of upd_same, atI_nat (j := 0) rfl, _, _, rfl, rfl, ?_, s5, some (.int k), some (.ref p3), ?_⟩
            · rw [hrl, sizeLine_eq]
              show k + (enc [d]).length ≤ _
              rw [enc_len]
              show k + 1 ≤ _
              omega
            · rw [hrng, hd]
              rfl
          · have e := of_decide_eq_false e
            have hd := k2 fun z => e (by rw [z]; rfl)
            refine ⟨_, _, rfl, rfl, ?_, s5, some (.int k), some (.ref p3), ?_⟩
            · rw [hrl, sizeLine_eq]
              show k + 1 ≤ _
              omega
            · rw [hrng, hd]
              rfl
      · rintro σ H2 ⟨s2, z3, z4, rfl⟩
        have e : ((n : Int)).toNat = n := Int.toNat_natCast n
        rw [e]
        exact ⟨_, rfl, q _ s2⟩
end
end K77
set_option Elab.async false
set_option linter.all false
set_option maxRecDepth 100000
set_option maxHeartbeats 4000000
/-! K77X9: a telling bent. -/
namespace K77
open PySem PySem.Spec PyProof.Rows L2
theorem slA {K : PySem.W.Frag} {a : Addr} {xs : List V} {lo hi : Option Int} {H : Hp} {Q : VK} (h : H a = some (.tup xs)) (q : ∀ b H', Same H H' → H' b = some (.tup (cutV xs lo hi)) → Q (.ref b) H') : rSlA K (.ref a) lo hi H Q := by
  refine ⟨a, xs, rfl, .of h, fun hw => q a H (Same.refl H) ?_, fun _ p np => q p _ (same_new np) upd_same⟩
  rw [h]
  unfold cutV
  rw [hw.1, hw.2, List.drop_zero, Nat.sub_zero, List.take_length]
theorem slN {K : PySem.W.Frag} {a : Addr} {xs : List V} {lo : Option Int} {σ : L2.St} {H : Hp} {Q : VK} (h : H a = some (.tup xs)) (q : ∀ b H', Same H H' → H' b = some (.tup (cutV xs lo none)) → Q (.ref b) H') : tNoPart σ H (fun u H3 => rSlA K (.ref a) lo u H3 Q) := slA h q
theorem catA {K : PySem.W.Frag} {a b : Addr} {xs ys : List V} {H : Hp} {Q : VK} (h1 : H a = some (.tup xs)) (h2 : H b = some (.tup ys)) (hz : xs.length + ys.length ≤ 1000) (q : ∀ c H', Same H H' → H' c = some (.tup (xs ++ ys)) → Q (.ref c) H') : rCatA K (.ref a) (.ref b) H Q := by
  refine ⟨a, b, xs, ys, rfl, rfl, .of h1, .of h2, by rw [sizeLine_eq]; omega, fun e => q b H (Same.refl H) ?_, fun _ e => q a H (Same.refl H) ?_, fun _ _ p np => q p _ (same_new np) upd_same⟩
  · rw [e]
    exact h2
  · rw [e, List.append_nil]
    exact h1
theorem cut_take (as : List Addr) (k : Nat) : cutV (as.map V.ref) none (some (k : Int)) = (as.take k).map V.ref := by
  unfold cutV
  rw [HT.sIx_none, HT.sIx_nat, List.drop_zero, Nat.sub_zero, List.map_take]
  by_cases h : k ≤ (as.map V.ref).length
  · rw [Nat.min_eq_left h]
  · rw [Nat.min_eq_right (by omega), List.take_length, List.take_of_length_le (by omega)]
theorem cut_drop (as : List Addr) (k : Nat) : cutV (as.map V.ref) (some (k : Int)) none = (as.drop k).map V.ref := by
  unfold cutV
  rw [HT.sIx_none, HT.sIx_nat, List.map_drop]
  by_cases h : k ≤ (as.map V.ref).length
  · rw [Nat.min_eq_left h, List.take_of_length_le (by rw [List.length_drop]; exact Nat.le_refl _)]
  · rw [Nat.min_eq_right (by omega), List.drop_length, List.drop_eq_nil_of_le (by omega), List.take_nil]
theorem pair_take {α β : Type} {F : α → β → Prop} : ∀ {as : List α} {bs : List β} (k : Nat), Paired F as bs → Paired F (as.take k) (bs.take k)
  | _, _, 0, _ => .nil
  | _, _, _ + 1, .nil => .nil
  | _, _, k + 1, .cons q t => .cons q (pair_take k t)
theorem pair_drop {α β : Type} {F : α → β → Prop} : ∀ {as : List α} {bs : List β} (k : Nat), Paired F as bs → Paired F (as.drop k) (bs.drop k)
  | _, _, 0, h => h
  | _, _, _ + 1, .nil => .nil
  | _, _, k + 1, .cons _ t => pair_drop k t
section
variable {P : Program} {w : World} {K : PySem.W.Frag} {mg : Str → Option Value} {base : Heap}
def spLBent : Sp := fun vs H Q _ => ∃ (M : Mc) (s : Nat) (t : Addr) (ms : List Mode), vs = [.ref M.m, .ref t] ∧ MAt M H s ∧ TelAt H t ms ∧ ms.length ≤ 70 ∧ (∀ m ∈ ms, MOk m) ∧ s < 2 ^ 40 ∧
  ∀ (t' : Addr) (ns : List Mode) (H' : Hp) (s' : Nat), TelAt H' t' ns → ns.length ≤ ms.length + 1 → (∀ m ∈ ns, MOk m) → Mv M H H' → MAt M H' s' → s' ≤ s + 4 → Q (.ref t') H'
theorem scLBent : FnScope ["_law_m", "_law_modes", "_law_spot", "_law_way", "_law_more"] ["_law_m", "_law_modes"] (defScope sLBent) := ⟨rfl, rfl, rfl, by decide +kernel, rfl, by decide +kernel, by decide +kernel⟩
theorem ok_lbent (T : Tx K mg) (D : Stands K mg "_law_bent" sLBent) (hd : Has P w K mg base "_law_draw" ["_law_m", "_law_limit"] 2 spDraw) : Has P w K mg base "_law_bent" ["_law_m", "_law_modes"] 3 spLBent := by
  refine has_of D scLBent (fun _ _ _ _ _ _ us hl => match us, hl with | [_, _], _ => rfl) (fun vs H Q E h => ?_) (fun f cdv A outer s H vs Q E hr h => ?_)
  · obtain ⟨M, s, t, ms, rfl, _⟩ := h
    rfl
  · obtain ⟨M, s, t, ms, rfl, A0, ht, h70, mok, hs, q⟩ := h
    refine ⟨_, pss_cons (ps_par (i := 2) (j := 3) rfl scLBent.nd rfl rfl (by decide) rfl rfl (pa_cons (pe_do hd hr (pa_cons (pv 0) (pa_cons (pe_op op_add (pe_callB call_len_seq (by rfl) T.len_ PySem.boot_len (pa_cons (pv 1) pa_nil)) pe_int) pa_nil))) (pa_cons (pe_do hd hr (pa_cons (pv 0) (pa_cons pe_int pa_nil))) pa_nil)) (by rfl))
      (pss_cons (ps_set (i := 4) scLBent.nd rfl (.inl rfl) (pe_ix ix_list (pe_lst (pa_cons (pe_tup (pa_cons pe_str (pa_cons (pe_op op_sub (pe_do hd hr (pa_cons (pv 0) (pa_cons pe_int pa_nil))) pe_int) pa_nil))) (pa_cons (pe_tup (pa_cons pe_str pa_nil)) (pa_cons (pe_tup (pa_cons pe_str (pa_cons pe_int (pa_cons pe_int pa_nil)))) pa_nil)))) (pe_do hd hr (pa_cons (pv 0) (pa_cons pe_int pa_nil))) (fun _ _ => rfl)))
      (pss_cons (ps_if (pt_cmpR op_eq (pv 3) pe_int (nomark _)) (pss_one (ps_ret (pe_op op_catA (pe_op op_catA (pe_slice sl_tupA (pv 1) po_none (po_some (pv 2))) (pe_tup (pa_cons (pv 4) pa_nil))) (pe_slice sl_tupA (pv 1) (po_some (pv 2)) po_none)))) pss_nil)
      (pss_one (ps_ret (pe_ifExp (pt_cmpR op_eq (pv 3) pe_int (nomark _)) (pe_op op_catA (pe_slice sl_tupA (pv 1) po_none (po_some (pv 2))) (pe_slice sl_tupA (pv 1) (po_some (pe_op op_add (pv 2) pe_int)) po_none))
        (pe_op op_catA (pe_op op_catA (pe_slice sl_tupA (pv 1) po_none (po_some (pv 2))) (pe_tup (pa_cons (pv 4) pa_nil))) (pe_slice sl_tupA (pv 1) (po_some (pe_op op_add (pv 2) pe_int)) po_none))))))), ?_⟩
    obtain ⟨as, hta, hpa⟩ := ht
    have hal : as.length = ms.length := Paired.length hpa
    have e0 : V.int (((as.map V.ref).length : Int) + 1) = V.int ((ms.length + 1 : Nat) : Int) := by
      rw [List.length_map, hal]
      rfl
    refine ⟨_, rfl, _, rfl, t, _, rfl, .inr (.of hta), _, _, rfl, rfl, M, s, ms.length + 1, ?_, A0, by omega, by omega, by omega, fun k H1 hk v1 A1 => ?_⟩
    · exact congrArg (fun z => [V.ref M.m, z]) e0
    refine ⟨_, rfl, M, s + 1, 3, rfl, A1, by omega, by decide, by decide, fun wy H2 hwy v2 A2 => ⟨_, _, rfl, ?_⟩⟩
    have v02 := v1.trans v2
    dsimp only
    refine setX (fun v H' => ∃ (a : Addr) (m : Mode) (s3 : Nat), v = .ref a ∧ ModeAt H' a m ∧ MOk m ∧ Mv M H H' ∧ MAt M H' s3 ∧ s3 ≤ s + 4) (fun R q' => ?_) ?_
    · refine ⟨_, rfl, M, s + 1 + 1, 7, rfl, A2, by omega, by decide, by decide, fun r7 H3 hr7 v3 A3 => ⟨_, _, rfl, rfl, few rfl, fun a1 n1 => ⟨few rfl, fun a2 n2 => ⟨few rfl, fun a3 n3 => ⟨few rfl, fun L nL => ?_⟩⟩⟩⟩⟩
      have s1 := (same_new (o := .tup [.str "stay", .int ((r7 : Int) - 3)]) n1)
      have s2 := (same_new (o := .tup [.str "pass"]) n2)
      have s3 := (same_new (o := .tup [.str "runs", .int 1, .int 1]) n3)
      have s4 := (same_new (o := .lst [.ref a1, .ref a2, .ref a3]) nL)
      have sA := ((s1.trans s2).trans s3).trans s4
      refine ⟨_, rfl, M, s + 1 + 1 + 1, 3, rfl, A3.same sA, by omega, by decide, by decide, fun rr H4 hrr v4 A4 => ?_⟩
      have hL4 := v4.lst (A3.same sA) (upd_same : L2.upd _ L (.lst [.ref a1, .ref a2, .ref a3]) L = _) (by
        obtain ⟨_, _, cs, ls, _, g, _⟩ := A3
        exact Ne.symm (ne_of_none (((s1.trans s2).trans s3) _ _ g) nL))
      have hm1 : H4 a1 = some (.tup [.str "stay", .int ((r7 : Int) - 3)]) := v4.tup (A3.same sA) (s4 _ _ (s3 _ _ (s2 _ _ upd_same)))
      have hm2 : H4 a2 = some (.tup [.str "pass"]) := v4.tup (A3.same sA) (s4 _ _ (s3 _ _ upd_same))
      have hm3 : H4 a3 = some (.tup [.str "runs", .int 1, .int 1]) := v4.tup (A3.same sA) (s4 _ _ upd_same)
      have vv : Mv M H H4 := ((v02.trans v3).trans (Mv.of sA)).trans v4
      match rr, hrr with
      | 0, _ => exact ⟨L, _, ((0 : Nat) : Int), .ref a1, rfl, rfl, .of hL4, atI_nat (j := 0) rfl, q' _ _ ⟨a1, .stay ((r7 : Int) - 3), s + 1 + 1 + 1 + 1, rfl, hm1, ⟨by omega, by omega⟩, vv, A4, by omega⟩⟩
      | 1, _ => exact ⟨L, _, ((1 : Nat) : Int), .ref a2, rfl, rfl, .of hL4, atI_nat (j := 1) rfl, q' _ _ ⟨a2, .pass, s + 1 + 1 + 1 + 1, rfl, hm2, trivial, vv, A4, by omega⟩⟩
      | 2, _ => exact ⟨L, _, ((2 : Nat) : Int), .ref a3, rfl, rfl, .of hL4, atI_nat (j := 2) rfl, q' _ _ ⟨a3, .runs 1 1, s + 1 + 1 + 1 + 1, rfl, hm3, ⟨by decide, by decide⟩, vv, A4, by omega⟩⟩
    rintro v H3 ⟨a, m, s3, rfl, hma, hmk, v3, A3, hs3⟩
    have hta3 : H3 t = some (.tup (as.map V.ref)) := v3.tup A0 hta
    have hpa3 : Paired (ModeAt H3) as ms := Paired.mapP hpa fun a m q => v3.tup A0 q
    have hk1 : (k : Int) + 1 = ((k + 1 : Nat) : Int) := rfl
    have mem_ok : ∀ (i j : Nat), ∀ m' ∈ ms.take i ++ [m] ++ ms.drop j, MOk m' := fun i j m' h => by
      rcases List.mem_append.mp h with h | h
      · rcases List.mem_append.mp h with h | h
        · exact mok m' (List.mem_of_mem_take h)
        · rw [List.mem_singleton.mp h]
          exact hmk
      · exact mok m' (List.mem_of_mem_drop h)
    have mem_ok2 : ∀ (i j : Nat), ∀ m' ∈ ms.take i ++ ms.drop j, MOk m' := fun i j m' h => by
      rcases List.mem_append.mp h with h | h
      · exact mok m' (List.mem_of_mem_take h)
      · exact mok m' (List.mem_of_mem_drop h)
    -- with the new mode
    have three : ∀ (j : Nat) (c : Addr) (H' : Hp), k ≤ j → Same H3 H' → H' c = some (.tup ((as.take k).map V.ref ++ [.ref a] ++ (as.drop j).map V.ref)) → Q (.ref c) H' := fun j c H' hj s4 hc => by
      refine q c (ms.take k ++ [m] ++ ms.drop j) H' s3 ⟨as.take k ++ [a] ++ as.drop j, ?_, ?_⟩ ?_ (mem_ok k j) (v3.trans (Mv.of s4)) (A3.same s4) (by omega)
      · rw [hc, List.map_append, List.map_append]
        rfl
      · exact Paired.mapP (pairedApp (pairedApp (pair_take k hpa3) (.cons hma .nil)) (pair_drop j hpa3)) fun a m q => s4 _ _ q
      · rw [List.length_append, List.length_append, List.length_take, List.length_drop]
        show min k ms.length + 1 + (ms.length - j) ≤ _
        omega
    have lt3 : ((as.take k).map V.ref ++ [V.ref a]).length ≤ 200 := by
      rw [List.length_append, List.length_map, List.length_take]
      show min k as.length + 1 ≤ _
      omega
    refine ⟨_, rfl, rfl, _, rfl, if2 (fun e => ?_) (fun e => ?_)⟩
    · refine ⟨_, rfl, _, rfl, _, rfl, slA hta3 fun b1 H4 s4 h4 => ?_⟩
      rw [cut_take] at h4
      refine ⟨_, rfl, few rfl, fun b2 n2 => catA (same_new n2 _ _ h4) upd_same (by rw [List.length_map, List.length_take]; show _ + 1 ≤ _; omega) fun b3 H5 s5 h5 => ?_⟩
      have s35 := (s4.trans (same_new n2)).trans s5
      refine ⟨_, rfl, _, rfl, _, rfl, slN (s35 _ _ hta3) fun b4 H6 s6 h6 => catA (s6 _ _ h5) h6 ?_ fun b5 H7 s7 h7 => ?_⟩
      · rw [cut_drop, List.length_map, List.length_drop]
        omega
      · rw [cut_drop] at h7
        exact three k b5 H7 (Nat.le_refl _) ((s35.trans s6).trans s7) h7
    · refine ⟨_, rfl, rfl, _, rfl, if2 (fun e2 => ?_) (fun e2 => ?_)⟩
      · refine ⟨_, rfl, _, rfl, _, rfl, slA hta3 fun b1 H4 s4 h4 => ?_⟩
        rw [cut_take] at h4
        refine ⟨_, rfl, _, rfl, _, _, rfl, rfl, _, rfl, slN (s4 _ _ hta3) fun b4 H6 s6 h6 => ?_⟩
        rw [hk1, cut_drop] at h6
        refine catA (s6 _ _ h4) h6 ?_ fun b5 H7 s7 h7 => ?_
        · rw [List.length_map, List.length_map, List.length_drop, List.length_take]
          omega
        have s37 := (s4.trans s6).trans s7
        refine q b5 (ms.take k ++ ms.drop (k + 1)) H7 s3 ⟨as.take k ++ as.drop (k + 1), by rw [h7, List.map_append], ?_⟩ ?_ (mem_ok2 k (k + 1)) (v3.trans (Mv.of s37)) (A3.same s37) (by omega)
        · exact Paired.mapP (pairedApp (pair_take k hpa3) (pair_drop (k + 1) hpa3)) fun a m q => s37 _ _ q
        · rw [List.length_append, List.length_take, List.length_drop]
          omega
      · refine ⟨_, rfl, _, rfl, _, rfl, slA hta3 fun b1 H4 s4 h4 => ?_⟩
        rw [cut_take] at h4
        refine ⟨_, rfl, few rfl, fun b2 n2 => catA (same_new n2 _ _ h4) upd_same (by rw [List.length_map, List.length_take]; show _ + 1 ≤ _; omega) fun b3 H5 s5 h5 => ?_⟩
        have s35 := (s4.trans (same_new n2)).trans s5
        refine ⟨_, rfl, _, rfl, _, _, rfl, rfl, _, rfl, slN (s35 _ _ hta3) fun b4 H6 s6 h6 => ?_⟩
        rw [hk1, cut_drop] at h6
        refine catA (s6 _ _ h5) h6 ?_ fun b5 H7 s7 h7 => three (k + 1) b5 H7 (by omega) ((s35.trans s6).trans s7) h7
        rw [List.length_map, List.length_drop]
        omega
end
end K77
set_option Elab.async false
set_option linter.all false
set_option maxRecDepth 100000
set_option maxHeartbeats 4000000
/-! K77X10: the law's judgement of one telling. -/
namespace K77
open PySem PySem.Spec PyProof.Rows L2
theorem count_enc (l : Dots) : ∀ ls : List Dots, (ls.map enc).count (enc l) = ls.count l
  | [] => rfl
  | a :: ls => by
    rw [List.map_cons, List.count_cons, List.count_cons, count_enc l ls]
    by_cases h : a = l
    · subst h
      simp
    · have h1 : ¬ (enc a == enc l) = true := by simpa using fun z : enc a = enc l => h (enc_inj z)
      have h2 : ¬ (a == l) = true := by simpa using h
      rw [if_neg h1, if_neg h2]
theorem encR_ok (r : Row) : ∀ c ∈ (encR r).cps.toList, c < 16 ^ 8 := by
  intro c hc
  have e : (encR r).cps.toList = r.map signO := List.toList_toArray ..
  rw [e] at hc
  obtain ⟨o, _, rfl⟩ := List.mem_map.mp hc
  match o with
  | none => show 63 < _; decide
  | some true => show 35 < _; decide
  | some false => show 46 < _; decide
theorem row_repr {n : Nat} (hn : n ≤ 40) (ls : List Dots) : rowV (lawRow n ls) = .non ∨ ∃ x, rowV (lawRow n ls) = .str x ∧ x.length ≤ 100 ∧ ∀ c ∈ x.cps.toList, c < 16 ^ 8 := by
  unfold lawRow
  split
  · exact .inl rfl
  · refine .inr ⟨_, rfl, ?_, encR_ok _⟩
    show (((List.range n).map (lawSign ls)).map signO).toArray.size ≤ 100
    simp
    omega
section
variable {P : Program} {w : World} {K : PySem.W.Frag} {mg : Str → Option Value} {base : Heap}
def linesV (n : Nat) (ms : List Mode) : List V := (allL n).map fun x => lineV (rd x ms)
def spLRight : Sp := fun vs H Q _ => ∃ (M : Mc) (s n : Nat) (t E : Addr) (ms : List Mode), vs = [.ref M.m, .int n, .ref t, .ref E] ∧ MAt M H s ∧ TelAt H t ms ∧ ms.length ≤ 80 ∧ (∀ m ∈ ms, MOk m) ∧ 1 ≤ n ∧ n ≤ 7 ∧ H E = some (.lst (encL (allL n))) ∧ E ≠ M.Lf ∧ s < 2 ^ 40 ∧
  ∀ (L : Addr) (H' : Hp) (s' : Nat), H L = none → H' L = some (.lst (linesV n ms)) → Mv M H H' → MAt M H' s' → s' ≤ s + 4 → Q (.ref L) H'
abbrev nLRight : List Str := ["_law_m", "_law_wide", "_law_modes", "_law_every_here", "_law_lines", "_law_good", "_law_k", "_law_line_here", "_law_ahead"]
theorem scLRight : FnScope nLRight ["_law_m", "_law_wide", "_law_modes", "_law_every_here"] (defScope sLRight) := ⟨rfl, rfl, rfl, by decide +kernel, rfl, by decide +kernel, by decide +kernel⟩
theorem ok_lright (T : Tx K mg) (D : Stands K mg "_law_right" sLRight) (hd : Has P w K mg base "_law_draw" ["_law_m", "_law_limit"] 2 spDraw) (hr' : Has P w K mg base "_law_read" ["_law_ahead", "_law_modes"] 3 spLRead) (hw : Has P w K mg base "_law_row" ["_law_wide", "_law_some"] 1 spLRow)
    (hm : Has P w K mg base "many_right" ["width", "telling"] 7 spManyRight) (ht' : Has P w K mg base "many_telling" ["width", "telling", "line"] 7 spManyTelling) (hs : Has P w K mg base "sure" ["width", "telling"] 8 spSure) :
    Has P w K mg base "_law_right" ["_law_m", "_law_wide", "_law_modes", "_law_every_here"] 9 spLRight := by
  refine has_of D scLRight (fun _ _ _ _ _ _ us hl => match us, hl with | [_, _, _, _], _ => rfl) (fun vs H Q E h => ?_) (fun f cdv A outer s H vs Q E hr h => ?_)
  · obtain ⟨M, s, n, t, E, ms, rfl, _⟩ := h
    rfl
  · obtain ⟨M, s, n, t, Ev, ms, rfl, A0, ht, h80, mok, hn1, hn7, hEv, hEL, hs0, q⟩ := h
    refine ⟨_, pss_cons (ps_setLc (i := 4) (own := [("_law_ahead", 8)]) (g := gName 8) (tt := tYes) rfl scLRight.nd rfl rfl (sw_true rfl rfl rfl (by decide +kernel)) (pi_list (pv 3)) (blkOk_by (N := nLRight) (sc := defScope sLRight) (by decide +kernel)) (fun _ _ _ _ _ => pg_name (i := 8) scLRight.nd rfl (Or.inl rfl)) (fun _ _ _ _ _ => pts_nil) (fun _ _ _ _ _ => pe_do hr' (hr.mono (by decide)) (pa_cons (pv 8) (pa_cons (pv 2) pa_nil))))
      (pss_cons (ps_setLc (i := 5) (own := [("_law_line_here", 7)]) (g := gName 7) (tt := tTest (tOp (fun x y H Q => y = .non ∧ Q (.bl (!decide (x = .non))) H) (tVar 7) (tC .non))) rfl scLRight.nd rfl rfl (sw_true rfl rfl rfl (by decide +kernel)) (pi_list (pv 4)) (blkOk_by (N := nLRight) (sc := defScope sLRight) (by decide +kernel)) (fun _ _ _ _ _ => pg_name (i := 7) scLRight.nd rfl (Or.inl rfl)) (fun _ _ _ _ _ => pts_one (pt_cmpR op_notN (pv 7) pe_non (nomark _))) (fun _ _ _ _ _ => pv 7))
      (pss_cons (ps_if (PW.pt (pw_or (pt_cmpR op_ne (pe_do hm (hr.mono (by decide)) (pa_cons (pv 1) (pa_cons (pv 2) pa_nil))) (pe_callB call_len_seq (by rfl) T.len_ PySem.boot_len (pa_cons (pv 5) pa_nil)) (nomark _))
          (pw_or1 (pt_cmpR op_ne (pe_callB cr_repr (by rfl) T.repr_ (by decide +kernel) (pa_cons (pe_do hs hr (pa_cons (pv 1) (pa_cons (pv 2) pa_nil))) pa_nil)) (pe_callB cr_repr (by rfl) T.repr_ (by decide +kernel) (pa_cons (pe_do hw (hr.mono (by decide)) (pa_cons (pv 1) (pa_cons (pv 5) pa_nil))) pa_nil)) (nomark _))))) (pss_one (ps_ret pe_non)) pss_nil)
      (pss_cons (ps_for PassesOwn.never rfl (pi_range1 (by rfl) T.range_ (pa_cons pe_int pa_nil)) (pg_name (i := 6) scLRight.nd rfl (.inl rfl))
        (pss_cons (ps_set (i := 7) scLRight.nd rfl (.inl rfl) (pe_ifExp (PW.pt (pw_and (pt_cmpR (op_neD (by have := hr.un; omega)) (pv 5) (pe_lst pa_nil) (nomark _)) (pw_and1 (pt_cmpR op_lt (pv 6) pe_int (nomark _)))))
          (pe_ix ix_list (pv 5) (pe_do hd (hr.mono (by decide)) (pa_cons (pv 0) (pa_cons (pe_callB call_len_seq (by rfl) T.len_ PySem.boot_len (pa_cons (pv 5) pa_nil)) pa_nil))) (fun _ _ => rfl))
          (pe_ix ix_list (pv 3) (pe_do hd (hr.mono (by decide)) (pa_cons (pv 0) (pa_cons (pe_callB call_len_seq (by rfl) T.len_ PySem.boot_len (pa_cons (pv 3) pa_nil)) pa_nil))) (fun _ _ => rfl))))
        (pss_one (ps_if (pt_cmpR op_ne (pe_do ht' (hr.mono (by decide)) (pa_cons (pv 1) (pa_cons (pv 2) (pa_cons (pv 7) pa_nil)))) (pe_bm PySem.F.plainAttrs_list PySem.F.slot_list_count PySem.F.type_list_count mt_countS (pv 5) (pa_cons (pv 7) pa_nil)) (nomark _)) (pss_one (ps_ret pe_non)) pss_nil))))
      (pss_one (ps_ret (pv 4)))))), ?_⟩
    have hmd : ∀ m ∈ ms, ∀ d, m = .stay d → -3 ≤ d := fun m hm d hd => by
      have := mok m hm
      rw [hd] at this
      exact this.1
    have hcnt := allL_count n
    have h2n : 2 ^ n ≤ 2 ^ 7 := Nat.pow_le_pow_right (by decide) hn7
    have hall := allL_len n
    have hgl : ∀ l ∈ goodL n ms, l.length = n := fun l h => good_len h
    have hglen : (goodL n ms).length ≤ 128 := by
      have := List.length_filterMap_le (fun x => rd x ms) (allL n)
      have e : (goodL n ms).length ≤ (allL n).length := this
      omega
    have hM1 := many_none (w := n) (ms := ms) hmd
    have hM2 := fun (l : Dots) (h : l.length = n) => many_some (w := n) (ms := ms) h hmd
    have hS := sure_law (w := n) (ms := ms) hmd
    have hEvl : (encL (allL n)).length = 2 ^ n := (List.length_map ..).trans hcnt
    refine ⟨_, rfl, Ev, rfl, ⟨_, .of hEv⟩, fun Ln nLn => ?_⟩
    have hEvLn : Ev ≠ Ln := ne_of_none hEv nLn
    refine lc_list (xs := encL (allL n)) (fun i H2 => Same H H2 ∧ H2 Ln = some (.lst (((allL n).take i).map fun x => lineV (rd x ms)))) ⟨same_new nLn, upd_same⟩ (fun i H2 _ hP => .of (hP.1 _ _ hEv)) ?_ ?_
    · rintro i v H2 hv ⟨s2, hL2⟩
      have hi : i < (allL n).length := by
        have := (List.getElem?_eq_some_iff.mp hv).1
        unfold encL at this
        rw [List.length_map] at this
        exact this
      have hg : (allL n)[i]? = some (allL n)[i] := List.getElem?_eq_getElem hi
      have ev : v = .str (enc (allL n)[i]) := by
        unfold encL at hv
        rw [List.getElem?_map, hg] at hv
        exact (Option.some.inj hv).symm
      subst ev
      have hl1 := hall _ (List.getElem_mem hi)
      have hnx : ((allL n).take (i + 1)).map (fun x => lineV (rd x ms)) = ((allL n).take i).map (fun x => lineV (rd x ms)) ++ [lineV (rd (allL n)[i] ms)] := by
        rw [List.take_add_one, hg, List.map_append]
        rfl
      refine ⟨rfl, _, rfl, _, rfl, (allL n)[i], t, ms, rfl, by omega, ht.same s2, mok, fun H3 s3 => ⟨_, s3 _ _ hL2, ?_, same_mut (s2.trans s3) nLn, ?_⟩⟩
      · rw [List.length_map, List.length_take, sizeLine_eq]
        omega
      · rw [upd_same, hnx]
    rintro H1 ⟨s1, hL1⟩
    rw [show (encL (allL n)).length = (allL n).length from List.length_map .., List.take_length] at hL1
    have hL1 : H1 Ln = some (.lst (linesV n ms)) := hL1
    have hlvl : (linesV n ms).length = 2 ^ n := (List.length_map ..).trans hcnt
    refine ⟨_, rfl, Ln, rfl, ⟨_, .of hL1⟩, fun Gn nGn => ?_⟩
    have nGn0 : H Gn = none := s1.free nGn
    refine lc_list (xs := linesV n ms) (fun i H2 => Same H1 H2 ∧ H2 Gn = some (.lst (encL (((allL n).take i).filterMap fun x => rd x ms)))) ⟨same_new nGn, upd_same⟩ (fun i H2 _ hP => .of (hP.1 _ _ hL1)) ?_ ?_
    · rintro i v H2 hv ⟨s2, hG2⟩
      have hi : i < (allL n).length := by
        have := (List.getElem?_eq_some_iff.mp hv).1
        rw [hlvl] at this
        omega
      have hg : (allL n)[i]? = some (allL n)[i] := List.getElem?_eq_getElem hi
      have ev : v = lineV (rd (allL n)[i] ms) := by
        unfold linesV at hv
        rw [List.getElem?_map, hg] at hv
        exact (Option.some.inj hv).symm
      subst ev
      have hnx : ((allL n).take (i + 1)).filterMap (fun x => rd x ms) = ((allL n).take i).filterMap (fun x => rd x ms) ++ (rd (allL n)[i] ms).toList := by
        rw [List.take_add_one, hg, List.filterMap_append]
        congr 1
      have hlz : (((allL n).take i).filterMap fun x => rd x ms).length ≤ 128 := by
        have := List.length_filterMap_le (fun x => rd x ms) ((allL n).take i)
        rw [List.length_take] at this
        omega
      refine ⟨rfl, _, rfl, rfl, _, rfl, ?_⟩
      cases hrd : rd (allL n)[i] ms with
      | none =>
        refine ifF rfl ⟨s2, ?_⟩
        rw [hnx, hrd]
        show _ = some (HO.lst (encL (_ ++ [])))
        rw [List.append_nil]
        try exact hG2
      | some l =>
        refine ifT rfl ⟨_, rfl, _, hG2, ?_, same_mut s2 nGn, ?_⟩
        · unfold encL
          rw [List.length_map, sizeLine_eq]
          omega
        · rw [upd_same, hnx, hrd]
          unfold encL
          rw [List.map_append]
          rfl
    rintro H2 ⟨s2, hG2⟩
    have hG2 : H2 Gn = some (.lst (encL (goodL n ms))) := by
      have e : (linesV n ms).length = (allL n).length := List.length_map ..
      rw [e, List.take_length] at hG2
      exact hG2
    have s02 := s1.trans s2
    have hL2 := s2 _ _ hL1
    have hMLf : ∃ ys, H M.Lf = some (.lst ys) := by
      obtain ⟨_, _, cs, ls, _, g, _⟩ := A0
      exact ⟨_, g⟩
    have hLnLf : Ln ≠ M.Lf := by
      obtain ⟨ys, g⟩ := hMLf
      exact Ne.symm (ne_of_none g nLn)
    have hGnLf : Gn ≠ M.Lf := by
      obtain ⟨ys, g⟩ := hMLf
      exact Ne.symm (ne_of_none g nGn0)
    have hgvl : (encL (goodL n ms)).length = (goodL n ms).length := List.length_map ..
    refine gset ?_
    dsimp only
    -- the counts, the rows
    refine seqIfX (fun b H' => b = false ∧ Same H2 H') (fun R q' => ?_) ?_
    · refine ⟨_, rfl, _, rfl, n, t, ms, rfl, hn1, by omega, ht.same s02, h80, mok, fun H3 s3 => ?_⟩
      refine ⟨_, rfl, Gn, _, rfl, .inl (.of (s3 _ _ hG2)), rfl, _, rfl, ifF ?_ ?_⟩
      · rw [hgvl, dec_nat, hM1, decide_eq_true rfl]
        rfl
      refine ⟨_, rfl, _, rfl, n, t, ms, rfl, hn1, by omega, ht.same (s02.trans s3), h80, mok, fun H4 s4 => ?_⟩
      rw [hS]
      refine ⟨_, rfl, row_repr (by omega) _, ?_⟩
      refine ⟨_, rfl, _, rfl, n, Gn, goodL n ms, rfl, s4 _ _ (s3 _ _ hG2), by omega, by omega, hgl, fun H5 s5 => ⟨_, rfl, row_repr (by omega) _, rfl, _, rfl, ?_⟩⟩
      rw [decide_eq_true rfl]
      exact q' _ _ ⟨rfl, (s3.trans s4).trans s5⟩
    rintro _ H3 ⟨rfl, s3⟩
    refine iteF ?_
    have s03 := s02.trans s3
    refine ⟨4, rfl, by decide, by decide, for_range (fun i σ H4 => ∃ (s' : Nat) (z6 z7 : Option V), σ = [some (.ref M.m), some (.int n), some (.ref t), some (.ref Ev), some (.ref Ln), some (.ref Gn), z6, z7, none] ∧ Mv M H H4 ∧ MAt M H4 s' ∧ s' ≤ s + i ∧ H4 Ln = some (.lst (linesV n ms)) ∧ H4 Gn = some (.lst (encL (goodL n ms))) ∧ H4 Ev = some (.lst (encL (allL n))))
      ⟨s, none, none, rfl, Mv.of s03, A0.same s03, Nat.le_refl _, s3 _ _ hL2, s3 _ _ hG2, s03 _ _ hEv⟩ ?_ ?_⟩
    · rintro i σ H4 hi ⟨s', z6, z7, rfl, v4, A4, hs', hL4, hG4, hE4⟩
      have hi : i < 4 := hi
      refine gset ?_
      dsimp only
      refine setX (fun v H' => ∃ (l : Dots) (s5 : Nat), v = .str (enc l) ∧ l.length = n ∧ Mv M H4 H' ∧ MAt M H' s5 ∧ s5 ≤ s' + 1) (fun R q' => ?_) ?_
      · have other : ∀ H5, Same H4 H5 → ∀ (k : R2 → Prop), True := fun _ _ _ => trivial
        have every : ∀ (H5 : Hp), Same H4 H5 → ∃ (M1 : Mc) (s1 lim : Nat), [V.ref M.m, V.int ((encL (allL n)).length : Nat)] ++ [] = [.ref M1.m, .int lim] ∧ MAt M1 H5 s1 ∧ s1 < 2 ^ 50 ∧ 0 < lim ∧ lim < 2 ^ 20 ∧ ∀ (r : Nat) (H' : Hp), r < lim → Mv M1 H5 H' → MAt M1 H' (s1 + 1) →
            rIxL K (.ref Ev) (.int r) H' R := fun H5 s5 => by
          refine ⟨M, s', 2 ^ n, by rw [hEvl]; rfl, A4.same s5, by omega, Nat.two_pow_pos n, by omega, fun r H6 hr6 v6 A6 => ?_⟩
          have hE6 := v6.lst (A4.same s5) (s5 _ _ hE4) hEL
          have hr7 : r < (allL n).length := by omega
          exact ⟨Ev, _, _, .str (enc (allL n)[r]), rfl, rfl, .of hE6, atI_nat (by unfold encL; rw [List.getElem?_map, List.getElem?_eq_getElem hr7]; rfl), q' _ _ ⟨(allL n)[r], s' + 1, rfl, hall _ (List.getElem_mem hr7), (Mv.of s5).trans v6, A6, Nat.le_refl _⟩⟩
        refine ⟨_, rfl, few rfl, fun p np => ?_⟩
        have s5 : Same H4 (L2.upd H4 p (.lst [])) := same_new np
        refine ⟨_, _, .lst (.of (s5 _ _ hG4)) (dps_strs (goodL n ms)), .lst (.of upd_same) .nil, strs_shaped _, rfl, _, rfl, ?_⟩
        cases hgc : goodL n ms with
        | nil =>
          refine ifF rfl ?_
          exact ⟨_, rfl, _, rfl, _, rfl, Ev, _, rfl, .inl (.of (s5 _ _ hE4)), every _ s5⟩
        | cons g0 gr =>
          refine ifT rfl ⟨_, rfl, _, _, rfl, rfl, _, rfl, if2 (fun e => ?_) (fun e => ?_)⟩
          · refine ⟨_, rfl, _, rfl, _, rfl, Gn, _, rfl, .inl (.of (s5 _ _ hG4)), M, s', (goodL n ms).length, by rw [hgvl]; rfl, A4.same s5, by omega, by rw [hgc]; exact Nat.succ_pos _, by omega, fun r H6 hr6 v6 A6 => ?_⟩
            have hG6 := v6.lst (A4.same s5) (s5 _ _ hG4) hGnLf
            exact ⟨Gn, _, _, .str (enc (goodL n ms)[r]), rfl, rfl, .of hG6, atI_nat (by unfold encL; rw [List.getElem?_map, List.getElem?_eq_getElem hr6]; rfl), q' _ _ ⟨(goodL n ms)[r], s' + 1, rfl, hgl _ (List.getElem_mem hr6), (Mv.of s5).trans v6, A6, Nat.le_refl _⟩⟩
          · exact ⟨_, rfl, _, rfl, _, rfl, Ev, _, rfl, .inl (.of (s5 _ _ hE4)), every _ s5⟩
      rintro v H5 ⟨l, s5, rfl, hl, v5, A5, hs5⟩
      have v05 := v4.trans v5
      have hG5 := v5.lst A4 hG4 hGnLf
      refine ⟨_, rfl, _, rfl, _, rfl, n, t, ms, l, rfl, hn1, by omega, ht.tk (v05.tk A0), h80, mok, hl, fun H6 s6 => ?_⟩
      refine ⟨_, rfl, .inl ⟨rfl, _, .of (s6 _ _ hG5)⟩, _, rfl, Gn, (goodL n ms).map enc, enc l, rfl, rfl, .of (by rw [s6 _ _ hG5, encL_str]), rfl, _, rfl, ifF ?_ ?_⟩
      · rw [count_enc, dec_nat, hM2 l hl, decide_eq_true rfl]
        rfl
      exact ⟨s5, _, _, rfl, v05.trans (Mv.of s6), A5.same s6, by omega, s6 _ _ (v5.lst A4 hL4 hLnLf), s6 _ _ hG5, s6 _ _ (v5.lst A4 hE4 hEL)⟩
    · rintro σ H4 ⟨s', z6, z7, rfl, v4, A4, hs', hL4, hG4, hE4⟩
      have hs' : s' ≤ s + 4 := hs'
      exact ⟨_, rfl, q Ln H4 s' nLn hL4 v4 A4 hs'⟩
end
end K77
set_option Elab.async false
set_option linter.all false
set_option maxRecDepth 100000
set_option maxHeartbeats 4000000
/-! K77X11: the law's free tellings. -/
namespace K77
open PySem PySem.Spec PyProof.Rows L2
theorem rep_w (n : Nat) : rep "." n = enc (List.replicate n false) := by
  rw [← col_w]
  exact rep_col false n
theorem rep_b (n : Nat) : rep "#" n = enc (List.replicate n true) := by
  rw [← col_b]
  exact rep_col true n
theorem encR_some (l : Dots) : encR (l.map some) = enc l := by
  show Str.mk (((l.map some).map signO).toArray) = Str.mk (l.map dc).toArray
  rw [List.map_map]
  rfl
theorem eqv_refl_at (d : PyData) (h : d.canLay0 = true) : PyData.eqv d d = true := SeqAt.eqv_refl d h
theorem wl : ("." : Str).length ≤ 1000 := by decide +kernel
theorem bl : ("#" : Str).length ≤ 1000 := by decide +kernel
section
variable {P : Program} {w : World} {K : PySem.W.Frag} {mg : Str → Option Value} {base : Heap}
def spLFree : Sp := fun vs H Q _ => ∃ (M : Mc) (s : Nat), vs = [.ref M.m] ∧ MAt M H s ∧ s < 2 ^ 40 ∧ ∀ (H' : Hp) (s' : Nat), Mv M H H' → MAt M H' s' → s' ≤ s + 100 → Q (.bl true) H'
abbrev nLFree : List Str := ["_law_m", "_law_wide", "_law_modes", "_law_spot", "_law_dots", "_law_one", "_law_two", "_law_total", "_law_k", "_law_begin", "_law_end", "_law_said", "_law_mode"]
theorem scLFree : FnScope nLFree ["_law_m"] (defScope sLFreeRight) := ⟨rfl, rfl, rfl, by decide +kernel, rfl, by decide +kernel, by decide +kernel⟩
theorem ok_lfree (T : Tx K mg) (D : Stands K mg "_law_free_right" sLFreeRight) (hd : Has P w K mg base "_law_draw" ["_law_m", "_law_limit"] 2 spDraw)
    (hm : Has P w K mg base "many_right" ["width", "telling"] 7 spManyRight) (ht' : Has P w K mg base "many_telling" ["width", "telling", "line"] 7 spManyTelling) (hs : Has P w K mg base "sure" ["width", "telling"] 8 spSure) :
    Has P w K mg base "_law_free_right" ["_law_m"] 9 spLFree := by
  refine has_of D scLFree (fun _ _ _ _ _ _ us hl => match us, hl with | [_], _ => rfl) (fun vs H Q E h => ?_) (fun f cdv A outer s H vs Q E hr h => ?_)
  · obtain ⟨M, s, rfl, _⟩ := h
    rfl
  · obtain ⟨M, s, rfl, A0, hs0, q⟩ := h
    refine ⟨_, pss_cons (ps_asg (pe_tup (pa_cons (pe_op op_add pe_int (pe_do hd (hr.mono (by decide)) (pa_cons (pv 0) (pa_cons pe_int pa_nil)))) (pa_cons (pe_lst pa_nil) (pa_cons pe_int (pa_cons pe_str pa_nil))))) (pg_tup rfl (pgs_cons (pg_name (i := 1) scLFree.nd rfl (.inr rfl)) (pgs_cons (pg_name (i := 2) scLFree.nd rfl (.inl rfl)) (pgs_cons (pg_name (i := 3) scLFree.nd rfl (.inl rfl)) (pgs_cons (pg_name (i := 4) scLFree.nd rfl (.inl rfl)) pgs_nil))))))
      (pss_cons (ps_while PassesOwn.never (pt_cmpR op_lt (pv 3) (pv 1) (nomark _))
        (pss_cons (ps_set (i := 5) scLFree.nd rfl (.inr rfl) (pe_op op_add pe_int (pe_do hd (hr.mono (by decide)) (pa_cons (pv 0) (pa_cons (pe_op op_sub (pv 1) (pv 3)) pa_nil)))))
        (pss_cons (ps_set (i := 6) scLFree.nd rfl (.inl rfl) (pe_ifExp (pt_cmpR op_lt (pe_op op_add (pv 3) (pv 5)) (pv 1) (nomark _)) (pe_op op_add pe_int (pe_do hd (hr.mono (by decide)) (pa_cons (pv 0) (pa_cons (pe_op op_sub (pe_op op_sub (pv 1) (pv 3)) (pv 5)) pa_nil)))) pe_int))
        (pss_cons (ps_expr (pe_bm PySem.F.plainAttrs_list PySem.F.slot_list_append PySem.F.type_list_append mt_append (pv 2) (pa_cons (pe_tup (pa_cons pe_str (pa_cons (pv 5) (pa_cons (pv 6) pa_nil)))) pa_nil)))
        (pss_one (ps_par (i := 3) (j := 4) rfl scLFree.nd rfl rfl (by decide) rfl rfl (pa_cons (pe_op op_add (pe_op op_add (pv 3) (pv 5)) (pv 6)) (pa_cons (pe_op op_add_str (pe_op op_add_str (pv 4) (pe_op op_mulS pe_str (pv 5))) (pe_op op_mulS pe_str (pv 6))) pa_nil)) (by rfl)))))))
      (pss_cons (ps_set (i := 7) scLFree.nd rfl (.inl rfl) pe_int)
      (pss_cons (ps_for PassesOwn.never rfl (pi_range1 (by rfl) T.range_ (pa_cons (pv 1) pa_nil)) (pg_name (i := 8) scLFree.nd rfl (.inl rfl)) (pss_one (ps_set (i := 7) scLFree.nd rfl (.inl rfl) (pe_op op_mul pe_int (pv 7)))))
      (pss_cons (ps_set (i := 2) scLFree.nd rfl (.inl rfl) (pe_callTy call_tuple_of (by rfl) T.tuple_ (by decide +kernel) (pa_cons (pv 2) pa_nil)))
      (pss_cons (ps_if (pt_cmpR (op_neD (by have := hr.un; omega)) (pe_lst (pa_cons (pe_do hm (hr.mono (by decide)) (pa_cons (pv 1) (pa_cons (pv 2) pa_nil))) (pa_cons (pe_do ht' (hr.mono (by decide)) (pa_cons (pv 1) (pa_cons (pv 2) (pa_cons (pv 4) pa_nil)))) (pa_cons (pe_do hs hr (pa_cons (pv 1) (pa_cons (pv 2) pa_nil))) pa_nil)))) (pe_lst (pa_cons (pv 7) (pa_cons (pv 7) (pa_cons (pv 4) pa_nil)))) (nomark _)) (pss_one (ps_ret pe_bl)) pss_nil)
      (pss_cons (ps_par (i := 9) (j := 10) rfl scLFree.nd rfl rfl (by decide) rfl rfl (pa_cons (pe_tup (pa_cons (pe_tup (pa_cons pe_str (pa_cons pe_int (pa_cons (pe_op op_sub (pv 1) pe_int) pa_nil)))) pa_nil)) (pa_cons (pe_tup (pa_cons (pe_tup (pa_cons pe_str (pa_cons pe_int (pa_cons (pe_op op_sub (pv 1) pe_int) pa_nil)))) pa_nil)) pa_nil)) (by rfl))
      (pss_cons (ps_set (i := 11) scLFree.nd rfl (.inl rfl) (pe_lst pa_nil))
      (pss_cons (ps_for PassesOwn.never rfl (pi_tup (pe_tup (pa_cons (pv 9) (pa_cons (pv 10) pa_nil)))) (pg_name (i := 5) scLFree.nd rfl (.inr rfl))
        (pss_one (ps_set (i := 11) scLFree.nd rfl (.inl rfl) (pe_op op_cat (pv 11) (pe_lc (own := [("_law_mode", 12)]) (g := gName 12) (tt := tYes) rfl scLFree.nd (pi_tup (pe_tup (pa_cons (pe_tup (pa_cons pe_str (pa_cons pe_int pa_nil))) (pa_cons (pe_tup (pa_cons pe_str pa_nil)) pa_nil)))) (blkOk_by (N := nLFree) (sc := defScope sLFreeRight) (by decide +kernel))
          (fun _ _ _ _ _ => pg_name (i := 12) scLFree.nd rfl (Or.inl rfl)) (fun _ _ _ _ _ => pts_nil) (fun _ _ _ _ _ => pe_do hm (hr.mono (by decide)) (pa_cons (pv 1) (pa_cons (pe_op (r := rCatA K) op_catA (pv 5) (pe_tup (pa_cons (pv 12) pa_nil))) pa_nil))))))))
      (pss_cons (ps_if (pt_cmpR (op_neD (by have := hr.un; omega)) (pv 11) (pe_lst (pa_cons (pv 7) (pa_cons pe_int (pa_cons (pe_op op_mul (pe_op op_fdiv (pv 7) pe_int) pe_int) (pa_cons (pe_op op_fdiv (pv 7) pe_int) pa_nil))))) (nomark _)) (pss_one (ps_ret pe_bl)) pss_nil)
      (pss_one (ps_ret (pe_cmpR op_eq (pe_do hs hr (pa_cons (pv 1) (pa_cons (pe_op op_catA (pv 9) (pe_tup (pa_cons (pe_tup (pa_cons pe_str (pa_cons pe_int pa_nil))) pa_nil))) pa_nil))) (pe_op op_add_str (pe_op op_add_str pe_str (pe_op op_mulS pe_str (pe_op op_sub (pv 1) pe_int))) pe_str) (nomark _))))))))))))), ?_⟩
    refine ⟨_, rfl, M, s, 21, rfl, A0, by omega, by decide, by decide, fun r H1 hr1 v1 A1 => ⟨_, _, rfl, rfl, few rfl, fun Ml nMl => ⟨few rfl, fun p0 np0 => ⟨p0, _, rfl, .of upd_same, rfl, _, _, rfl, _, _, rfl, _, _, rfl, _, _, rfl, rfl, ?_⟩⟩⟩⟩
    obtain ⟨wd, hwd⟩ : ∃ wd : Nat, wd = 20 + r := ⟨_, rfl⟩
    have hw20 : 20 ≤ wd := by omega
    have hw40 : wd ≤ 40 := by omega
    have s1 : Same H1 (L2.upd (L2.upd H1 Ml (.lst [])) p0 (.tup [.int (20 + (r : Int)), .ref Ml, .int 0, .str ""])) := (same_new nMl).trans (same_new np0)
    have k0 : KIn M H1 (L2.upd (L2.upd H1 Ml (.lst [])) p0 (.tup [.int (20 + (r : Int)), .ref Ml, .int 0, .str ""])) Ml [] [] (s + 1) := by
      have A1' := A1
      obtain ⟨g0, g1, cs, ls, g2, g3, g4⟩ := A1'
      exact ⟨Mv.of s1, A1.same s1, same_new np0 _ _ upd_same, .nil, Ne.symm (ne_of_none g3 nMl), Ne.symm (ne_of_none g2 nMl)⟩
    refine ⟨fun m σ H2 => ∃ (p : Nat) (ds : Dots) (as : List Addr) (ms : List Mode) (s' : Nat) (z5 z6 : Option V), m = wd - p ∧ σ = [some (.ref M.m), some (.int wd), some (.ref Ml), some (.int p), some (.str (enc ds)), z5, z6, none, none, none, none, none, none] ∧
      Tiles wd ms p ds ∧ KIn M H1 H2 Ml as ms s' ∧ s' ≤ s + 1 + 2 * p, ⟨_, 0, [], [], [], s + 1, none, none, rfl, ?_, Tiles.nil wd, k0, Nat.le_refl _⟩, ?_⟩
    · rw [enc_nil, hwd]
      rfl
    rintro m σ H2 ⟨p, ds, as, ms, s', z5, z6, rfl, rfl, tl, k2, hs'⟩
    have hple := tl.le
    have hdl := tl.len
    refine ⟨_, rfl, _, rfl, _, _, rfl, rfl, _, rfl, if2 (fun e => ?_) (fun e => ?_)⟩
    · have e := of_decide_eq_true e
      have hlt : p < wd := by omega
      refine ⟨fun σ' H' => ∃ (p' : Nat) (ds : Dots) (as : List Addr) (ms : List Mode) (s' : Nat) (z5 z6 : Option V), p < p' ∧ σ' = [some (.ref M.m), some (.int wd), some (.ref Ml), some (.int p'), some (.str (enc ds)), z5, z6, none, none, none, none, none, none] ∧
        Tiles wd ms p' ds ∧ KIn M H1 H' Ml as ms s' ∧ s' ≤ s + 1 + 2 * p', ?_, ?_⟩
      · rintro σ' H' ⟨p', ds, as, ms, s', z5, z6, h1, rfl, h2, h3, h4⟩
        have := h2.le
        exact ⟨wd - p', by omega, p', ds, as, ms, s', z5, z6, rfl, rfl, h2, h3, h4⟩
      refine ⟨_, rfl, _, rfl, _, rfl, _, _, rfl, rfl, M, s', wd - p, ?_, k2.at_, by omega, by omega, by omega, fun r1 H3 hr1 v3 A3 => ⟨_, _, rfl, rfl, ?_⟩⟩
      · show [V.ref M.m, V.int ((wd : Int) - (p : Int))] = [V.ref M.m, V.int ((wd - p : Nat) : Int)]
        rw [show (wd : Int) - (p : Int) = ((wd - p : Nat) : Int) by omega]
      have k3 := k2.draw v3 A3
      obtain ⟨n, hn⟩ : ∃ n : Nat, n = 1 + r1 := ⟨_, rfl⟩
      refine gsetV (y := .int n) (by rw [hn]; rfl) ?_
      dsimp only
      refine setX (fun v H' => ∃ (k : Nat) (s3 : Nat), v = .int k ∧ p + n + k ≤ wd ∧ (k = 0 → p + n = wd) ∧ KIn M H1 H' Ml as ms s3 ∧ s3 ≤ s' + 2) (fun R q' => ?_) ?_
      · refine ⟨_, rfl, _, rfl, _, _, rfl, rfl, _, rfl, _, _, rfl, rfl, _, rfl, if2 (fun e2 => ?_) (fun e2 => ?_)⟩
        · have e2 := of_decide_eq_true e2
          refine ⟨_, rfl, _, rfl, _, rfl, _, _, rfl, rfl, _, rfl, _, _, rfl, rfl, M, s' + 1, wd - p - n, ?_, k3.at_, by omega, by omega, by omega, fun r2 H4 hr2 v4 A4 => ⟨_, _, rfl, rfl, ?_⟩⟩
          · show [V.ref M.m, V.int ((wd : Int) - (p : Int) - (n : Int))] = [V.ref M.m, V.int ((wd - p - n : Nat) : Int)]
            rw [show (wd : Int) - (p : Int) - (n : Int) = ((wd - p - n : Nat) : Int) by omega]
          · exact q' _ _ ⟨1 + r2, s' + 1 + 1, rfl, by omega, by omega, k3.draw v4 A4, by omega⟩
        · have e2 := of_decide_eq_false e2
          exact q' _ _ ⟨0, s' + 1, rfl, by omega, by omega, k3, by omega⟩
      rintro v H4 ⟨k, s4, rfl, hk1, hk0, k4, hs4⟩
      have hal : as.length = ms.length := Paired.length k4.md
      have hnum := tl.num
      refine ⟨_, rfl, .inl ⟨rfl, _, .of k4.ml⟩, _, rfl, _, rfl, few rfl, fun a na => ⟨Ml, _, _, rfl, rfl, (k4.same (same_new na)).ml, by rw [List.length_map, hal, sizeLine_eq]; omega, ?_⟩⟩
      have k5 := (k4.same (same_new (o := .tup (modeV (.runs n k))) na)).push (a := a) (m := .runs n k) upd_same nMl
      refine ⟨_, rfl, _, rfl, _, _, rfl, rfl, _, rfl, _, _, rfl, rfl, _, rfl, _, rfl, _, n, rfl, rfl, wl, by omega, ?_⟩
      rw [rep_w]
      refine ⟨_, _, rfl, rfl, ?_, _, rfl, _, k, rfl, rfl, bl, by omega, ?_⟩
      · rw [enc_len, enc_len, List.length_replicate, hdl, sizeLine_eq]
        omega
      rw [rep_b, enc_app]
      refine ⟨_, _, rfl, rfl, ?_, _, _, rfl, ?_⟩
      · rw [enc_len, enc_len, List.length_append, List.length_replicate, List.length_replicate, hdl, sizeLine_eq]
        omega
      rw [enc_app, List.append_assoc]
      exact ⟨p + n + k, ds ++ (List.replicate n false ++ List.replicate k true), as ++ [a], ms ++ [Mode.runs n k], s4, some (.int n), some (.int k), by omega, rfl, tl.step (by omega) hk1 hk0, k5, by omega⟩
    · have e := of_decide_eq_false e
      have hpe : p = wd := by omega
      subst hpe
      have hall := tl.done
      have hnst := tl.nostay
      have hmok : ∀ m ∈ ms, MOk m := fun m hm => by
        obtain ⟨n, k, rfl, h1, h2⟩ := tl.ok m hm
        exact ⟨by omega, by omega⟩
      have hnum := tl.num
      have c1 := const_none hnst hall
      have c2 := const_some hnst hdl hall
      have c3 := const_row hnst hdl hall
      have A2 := k2.at_
      have v2 := v1.trans k2.v
      clear hall
      -- the total
      refine ⟨_, rfl, (p : Int), rfl, by omega, by omega, for_range (fun i σ H3 => H3 = H2 ∧ ∃ z8, σ = [some (.ref M.m), some (.int p), some (.ref Ml), some (.int p), some (.str (enc ds)), z5, z6, some (.int ((2 ^ i : Nat) : Int)), z8, none, none, none, none]) ⟨rfl, none, rfl⟩ ?_ ?_⟩
      · rintro i σ H3 hi ⟨rfl, z8, rfl⟩
        have e2 : V.int (2 * ((2 ^ i : Nat) : Int)) = V.int ((2 ^ (i + 1) : Nat) : Int) := congrArg V.int (by
          rw [Nat.pow_succ]
          omega)
        refine ⟨_, rfl, _, _, rfl, rfl, .inl ⟨by decide, by decide⟩, ?_⟩
        exact ⟨rfl, some (.int (0 + (i : Int))), by rw [← e2]; rfl⟩
      rintro σ H3 ⟨rfl, z8, rfl⟩
      have ep : ((p : Int)).toNat = p := Int.toNat_natCast p
      rw [ep]
      obtain ⟨N, hN⟩ : ∃ N : Nat, N = 2 ^ p := ⟨_, rfl⟩
      rw [← hN] at c1 c2 ⊢
      -- the tuple of modes
      refine ⟨_, rfl, Ml, _, rfl, .inl ⟨.of k2.ml, fun t nt => ?_⟩⟩
      have k4 := k2.same (same_new (o := .tup (as.map V.ref)) nt)
      have ht4 : TelAt (L2.upd H3 t (.tup (as.map V.ref))) t ms := ⟨as, upd_same, k4.md⟩
      have hs4 : s' ≤ s + 100 := by omega
      have v4 := v1.trans k4.v
      have A4 := k4.at_
      generalize L2.upd H3 t (.tup (as.map V.ref)) = H4 at k4 ht4 v4 A4 ⊢
      refine gset ?_
      dsimp only
      refine seqIfX (fun b H' => b = false ∧ Same H4 H') (fun R q' => ?_) ?_
      · refine ⟨_, rfl, _, rfl, p, t, ms, rfl, by omega, hw40, ht4, by omega, hmok, fun H5 s5 => ?_⟩
        refine ⟨_, rfl, _, rfl, _, rfl, p, t, ms, ds, rfl, by omega, hw40, ht4.same s5, by omega, hmok, hdl, fun H6 s6 => ?_⟩
        refine ⟨_, rfl, _, rfl, p, t, ms, rfl, by omega, hw40, ht4.same (s5.trans s6), by omega, hmok, fun H7 s7 => ?_⟩
        rw [c1, c2, c3]
        refine ⟨few rfl, fun l1 n1 => ⟨_, rfl, _, rfl, _, rfl, few rfl, fun l2 n2 => ?_⟩⟩
        have ev : V.str (encR (ds.map some)) = V.str (enc ds) := by rw [encR_some]
        have dl : ∀ (a b : Int), PyData.canLay0 (.list [.int a, .int b, .str (enc ds)]) = true := fun a b => by
          show (true && (true && ((PyData.str (enc ds)).canLay0 && true))) = true
          rw [enc_lay]
          rfl
        have dd : SeqAt.shaped (.list [.int (N : Int), .int (N : Int), .str (enc ds)]) = true := by
          simp only [SeqAt.shaped, Bool.and_eq_true, decide_eq_true_eq]
          exact ⟨dl _ _, by show 1 ≤ 64; decide⟩
        refine ⟨.list [.int N, .int N, .str (enc ds)], .list [.int N, .int N, .str (enc ds)], .lst (.of (same_new n2 _ _ upd_same)) (.cons (.int _) (.cons (.int _) (.cons ?_ .nil))), .lst (.of upd_same) (.cons (.int _) (.cons (.int _) (.cons (.str _) .nil))), dd, dd, _, rfl, ?_⟩
        · show Dp _ _ (V.str (encR (ds.map some))) _
          rw [ev]
          exact .str _
        rw [eqv_refl_at _ (dl _ _)]
        exact q' _ _ ⟨rfl, ((s5.trans s6).trans s7).trans ((same_new n1).trans (same_new n2))⟩
      rintro _ H5 ⟨rfl, s5⟩
      refine iteF ?_
      have v5 := v4.trans (Mv.of s5)
      have A5 := A4.same s5
      clear k2 k4 ht4 A2 v2 v4 A4
      have qq := q
      clear q
      -- the two beginnings
      obtain ⟨kk, hkk⟩ : ∃ kk : Nat → Nat, kk = fun i => if i = 0 then p - 2 else p - 3 := ⟨_, rfl⟩
      obtain ⟨jj, hjj⟩ : ∃ jj : Nat → Mode, jj = fun j => if j = 0 then .stay 0 else .pass := ⟨_, rfl⟩
      have hk0 : kk 0 = p - 2 := by rw [hkk]; rfl
      have hk1 : kk 1 = p - 3 := by rw [hkk]; rfl
      have hj0 : jj 0 = .stay 0 := by rw [hjj]; rfl
      have hj1 : jj 1 = .pass := by rw [hjj]; rfl
      refine ⟨_, rfl, _, _, rfl, rfl, few rfl, fun m1 n1 => ⟨few rfl, fun b nb => ⟨_, rfl, _, _, rfl, rfl, few rfl, fun m2 n2 => ⟨few rfl, fun e' ne' => ⟨_, _, rfl, ?_⟩⟩⟩⟩⟩
      refine ⟨few rfl, fun S0 nS0 => ?_⟩
      refine ⟨_, rfl, _, rfl, few rfl, fun q0 nq0 => ⟨q0, rfl, ⟨_, .of upd_same⟩, ?_⟩⟩
      have a1 := same_new (o := .tup [.str "runs", .int 1, .int ((p : Int) - 2)]) n1
      have a2 := same_new (o := .tup [.ref m1]) nb
      have a3 := same_new (o := .tup [.str "runs", .int 1, .int ((p : Int) - 3)]) n2
      have a4 := same_new (o := .tup [.ref m2]) ne'
      have a5 := same_new (o := .lst []) nS0
      have a6 := same_new (o := .tup [.ref b, .ref e']) nq0
      have a36 := (a3.trans a4).trans (a5.trans a6)
      have a16 := (a1.trans a2).trans a36
      have v6 := v5.trans (Mv.of a16)
      have A6 := A5.same a16
      have hm1 := a36 _ _ (a2 _ _ (upd_same : L2.upd H5 m1 (.tup [.str "runs", .int 1, .int ((p : Int) - 2)]) m1 = _))
      have hb := a36 _ _ (upd_same : L2.upd (L2.upd H5 m1 (.tup [.str "runs", .int 1, .int ((p : Int) - 2)])) b (.tup [.ref m1]) b = _)
      have hm2 := (a4.trans (a5.trans a6)) _ _ (upd_same : L2.upd (L2.upd (L2.upd H5 m1 (.tup [.str "runs", .int 1, .int ((p : Int) - 2)])) b (.tup [.ref m1])) m2 (.tup [.str "runs", .int 1, .int ((p : Int) - 3)]) m2 = _)
      have he' := (a5.trans a6) _ _ (upd_same : L2.upd (L2.upd (L2.upd (L2.upd H5 m1 (.tup [.str "runs", .int 1, .int ((p : Int) - 2)])) b (.tup [.ref m1])) m2 (.tup [.str "runs", .int 1, .int ((p : Int) - 3)])) e' (.tup [.ref m2]) e' = _)
      have hS0 := a6 _ _ (upd_same : L2.upd (L2.upd (L2.upd (L2.upd (L2.upd H5 m1 (.tup [.str "runs", .int 1, .int ((p : Int) - 2)])) b (.tup [.ref m1])) m2 (.tup [.str "runs", .int 1, .int ((p : Int) - 3)])) e' (.tup [.ref m2])) S0 (.lst []) S0 = _)
      have hq0 := (upd_same : L2.upd (L2.upd (L2.upd (L2.upd (L2.upd (L2.upd H5 m1 (.tup [.str "runs", .int 1, .int ((p : Int) - 2)])) b (.tup [.ref m1])) m2 (.tup [.str "runs", .int 1, .int ((p : Int) - 3)])) e' (.tup [.ref m2])) S0 (.lst [])) q0 (.tup [.ref b, .ref e']) q0 = _)
      clear a1 a2 a3 a4 a5 a6 a36 a16 n1 nb n2 ne' nS0 nq0
      generalize L2.upd (L2.upd (L2.upd (L2.upd (L2.upd (L2.upd H5 m1 (.tup [.str "runs", .int 1, .int ((p : Int) - 2)])) b (.tup [.ref m1])) m2 (.tup [.str "runs", .int 1, .int ((p : Int) - 3)])) e' (.tup [.ref m2])) S0 (.lst [])) q0 (.tup [.ref b, .ref e']) = H6 at v6 A6 hm1 hb hm2 he' hS0 hq0 ⊢
      have hmd1 : ModeAt H6 m1 (.runs 1 (kk 0)) := by
        unfold ModeAt
        rw [hm1, hk0]
        show some (HO.tup [_, _, V.int ((p : Int) - 2)]) = some (HO.tup [_, _, V.int ((p - 2 : Nat) : Int)])
        rw [show ((p - 2 : Nat) : Int) = (p : Int) - 2 by omega]
        rfl
      have hmd2 : ModeAt H6 m2 (.runs 1 (kk 1)) := by
        unfold ModeAt
        rw [hm2, hk1]
        show some (HO.tup [_, _, V.int ((p : Int) - 3)]) = some (HO.tup [_, _, V.int ((p - 3 : Nat) : Int)])
        rw [show ((p - 3 : Nat) : Int) = (p : Int) - 3 by omega]
        rfl
      have mb : ∀ i j, MOk (.runs 1 (kk i)) ∧ MOk (jj j) := fun i j => by
        refine ⟨⟨by decide, ?_⟩, ?_⟩
        · rw [hkk]
          dsimp only
          split <;> omega
        · rw [hjj]
          dsimp only
          split
          · exact ⟨by decide, by decide⟩
          · trivial
      obtain ⟨nm, hnm⟩ : ∃ nm : Nat → Nat → Nat, nm = fun i j => manyBy p [.runs 1 (kk i), jj j] none := ⟨_, rfl⟩
      obtain ⟨vals, hvals⟩ : ∃ vals : Nat → List Int, vals = fun i => match i with
        | 0 => []
        | 1 => [(nm 0 0 : Int), (nm 0 1 : Int)]
        | _ => [(nm 0 0 : Int), (nm 0 1 : Int), (nm 1 0 : Int), (nm 1 1 : Int)] := ⟨_, rfl⟩
      have hvs : ∀ i, i < 2 → vals (i + 1) = vals i ++ [(nm i 0 : Int), (nm i 1 : Int)] := fun i hi => by
        rw [hvals]
        match i, hi with
        | 0, _ => rfl
        | 1, _ => rfl
      have hvl : ∀ i, (vals i).length ≤ 4 := fun i => by
        rw [hvals]
        match i with
        | 0 => exact Nat.zero_le _
        | 1 => show 2 ≤ 4; decide
        | _ + 2 => exact Nat.le_refl _
      refine for_tup (xs := [.ref b, .ref e']) (fun i σ H7 => ∃ (Sd : Addr) (z5 : Option V), σ = [some (.ref M.m), some (.int p), some (.ref t), some (.int p), some (.str (enc ds)), z5, z6, some (.int N), z8, some (.ref b), some (.ref e'), some (.ref Sd), none] ∧ Same H6 H7 ∧ H7 Sd = some (.lst ((vals i).map V.int)))
        ⟨S0, z5, rfl, Same.refl H6, by rw [hS0, hvals]; rfl⟩ (fun i σ H7 _ hP => ?_) ?_ ?_
      · obtain ⟨_, _, _, s7, _⟩ := hP
        exact .of (s7 _ _ hq0)
      · rintro i v σ H7 hv ⟨Sd, z5, rfl, s7, hSd⟩
        have hi : i < 2 := (List.getElem?_eq_some_iff.mp hv).1
        obtain ⟨bi, mi, rfl, hbi, hmi⟩ : ∃ bi mi, v = .ref bi ∧ H6 bi = some (.tup [.ref mi]) ∧ ModeAt H6 mi (.runs 1 (kk i)) := by
          match i, hi, hv with
          | 0, _, hv => exact ⟨b, m1, (Option.some.inj hv).symm, hb, hmd1⟩
          | 1, _, hv => exact ⟨e', m2, (Option.some.inj hv).symm, he', hmd2⟩
        refine ⟨_, rfl, few rfl, fun t0 nt0 => ⟨few rfl, fun t1 nt1 => ⟨few rfl, fun t2 nt2 => ⟨t2, rfl, ⟨_, .of upd_same⟩, fun D nD => ?_⟩⟩⟩⟩
        have b1 := same_new (o := .tup [.str "stay", .int 0]) nt0
        have b2 := same_new (o := .tup [.str "pass"]) nt1
        have b3 := same_new (o := .tup [.ref t0, .ref t1]) nt2
        have b4 := same_new (o := .lst []) nD
        have b14 := ((b1.trans b2).trans b3).trans b4
        have nD7 : H7 D = none := ((b1.trans b2).trans b3).free nD
        have ht0 := (b2.trans (b3.trans b4)) _ _ (upd_same : L2.upd H7 t0 (.tup [.str "stay", .int 0]) t0 = _)
        have ht1 := (b3.trans b4) _ _ (upd_same : L2.upd (L2.upd H7 t0 (.tup [.str "stay", .int 0])) t1 (.tup [.str "pass"]) t1 = _)
        have ht2 := b4 _ _ (upd_same : L2.upd (L2.upd (L2.upd H7 t0 (.tup [.str "stay", .int 0])) t1 (.tup [.str "pass"])) t2 (.tup [.ref t0, .ref t1]) t2 = _)
        have tkD : ∀ {Hx : Hp} {acc acc' : List V}, Hx D = some (.lst acc) → Tk Hx (L2.upd Hx D (.lst acc')) := fun h => Tk.lst h
        refine lc_tup (xs := [.ref t0, .ref t1]) (fun j H8 => Same H7 H8 ∧ H8 t0 = some (.tup [.str "stay", .int 0]) ∧ H8 t1 = some (.tup [.str "pass"]) ∧ H8 t2 = some (.tup [.ref t0, .ref t1]) ∧ H8 D = some (.lst ((([(nm i 0 : Int), (nm i 1 : Int)].take j)).map V.int)))
          ⟨b14, ht0, ht1, ht2, upd_same⟩ (fun j H8 _ hP => .of hP.2.2.2.1) ?_ ?_
        · rintro j v H8 hv ⟨s8, g0, g1, g2, gD⟩
          have hj : j < 2 := (List.getElem?_eq_some_iff.mp hv).1
          obtain ⟨tj, rfl, htj⟩ : ∃ tj, v = .ref tj ∧ ModeAt H8 tj (jj j) := by
            match j, hj, hv with
            | 0, _, hv => exact ⟨t0, (Option.some.inj hv).symm, by rw [hj0]; exact g0⟩
            | 1, _, hv => exact ⟨t1, (Option.some.inj hv).symm, by rw [hj1]; exact g1⟩
          have hnx : [(nm i 0 : Int), (nm i 1 : Int)].take (j + 1) = [(nm i 0 : Int), (nm i 1 : Int)].take j ++ [(nm i j : Int)] := by
            match j, hj with
            | 0, _ => rfl
            | 1, _ => rfl
          refine ⟨rfl, _, rfl, _, rfl, _, rfl, few rfl, fun a na => catA (same_new na _ _ (s8 _ _ (s7 _ _ hbi))) upd_same (by show 1 + 1 ≤ _; decide) fun c H9 s9 h9 => ?_⟩
          have sa9 := (same_new (o := .tup [.ref tj]) na).trans s9
          have tel : TelAt H9 c [.runs 1 (kk i), jj j] := ⟨[mi, tj], h9, .cons (sa9 _ _ (s8 _ _ (s7 _ _ hmi))) (.cons (sa9 _ _ htj) .nil)⟩
          refine ⟨p, c, [.runs 1 (kk i), jj j], rfl, by omega, hw40, tel, by show 2 ≤ 80; decide, fun m' hm' => ?_, fun H10 s10 => ?_⟩
          · rcases List.mem_cons.mp hm' with rfl | hm'
            · exact (mb i j).1
            · rw [List.mem_singleton.mp hm']
              exact (mb i j).2
          have s810 := sa9.trans s10
          refine ⟨_, s810 _ _ gD, by rw [List.length_map, List.length_take, sizeLine_eq]; omega, same_mut (s8.trans s810) nD7, tkD (s810 _ _ gD) _ _ (s810 _ _ g0), tkD (s810 _ _ gD) _ _ (s810 _ _ g1), tkD (s810 _ _ gD) _ _ (s810 _ _ g2), ?_⟩
          rw [upd_same, hnx, List.map_append, hnm]
          rfl
        · rintro H8 ⟨s8, g0, g1, g2, gD⟩
          have gD : H8 D = some (.lst ([(nm i 0 : Int), (nm i 1 : Int)].map V.int)) := gD
          have hl4 := hvl i
          refine ⟨Sd, D, _, _, rfl, rfl, s8 _ _ hSd, gD, by rw [List.length_map, sizeLine_eq]; show _ + 2 ≤ _; omega, fun p5 np5 => ⟨p5, some (.ref bi), rfl, (s7.trans s8).trans (same_new np5), ?_⟩⟩
          rw [upd_same, hvs i hi, List.map_append]
      rintro σ H7 ⟨Sd, z5, rfl, s7, hSd⟩
      have hv2 : vals 2 = [(N : Int), 0, ((N / 4 * 3 : Nat) : Int), ((N / 4 : Nat) : Int)] := by
        have e1 := said1 (w := p) (by omega)
        have e2 := said2 (w := p) (by omega)
        have e3 := said3 (w := p) (by omega)
        have e4 := said4 (w := p) (by omega)
        rw [hvals, hnm]
        show [((manyBy p [.runs 1 (kk 0), jj 0] none : Nat) : Int), ((manyBy p [.runs 1 (kk 0), jj 1] none : Nat) : Int), ((manyBy p [.runs 1 (kk 1), jj 0] none : Nat) : Int), ((manyBy p [.runs 1 (kk 1), jj 1] none : Nat) : Int)] = _
        rw [hk0, hk1, hj0, hj1, e1, e2, e3, e4, hN]
        rfl
      have hSd : H7 Sd = some (.lst ((vals 2).map V.int)) := hSd
      dsimp only
      refine seqIfX (fun b H' => b = false ∧ Same H7 H') (fun R q' => ?_) ?_
      · refine ⟨_, rfl, _, rfl, _, rfl, _, _, rfl, rfl, ⟨by decide, by decide⟩, _, _, rfl, rfl, .inr ⟨by decide, by decide⟩, _, rfl, _, _, rfl, rfl, ⟨by decide, by decide⟩, few rfl, fun l2 nl2 => ?_⟩
        have dv : Dp K (L2.upd H7 l2 (.lst [.int N, .int 0, .int ((N : Int) / 4 * 3), .int ((N : Int) / 4)])) (.ref l2) (.list ((vals 2).map PyData.int)) := by
          rw [hv2]
          exact .lst (.of upd_same) (dps_ints [(N : Int), 0, (N : Int) / 4 * 3, (N : Int) / 4])
        refine ⟨_, _, .lst (.of (same_new nl2 _ _ hSd)) (dps_ints (vals 2)), dv, ints_shaped _, ints_shaped _, _, rfl, ?_⟩
        rw [eqv_refl_at _ (by
          have := ints_shaped (vals 2)
          simp only [SeqAt.shaped, Bool.and_eq_true, decide_eq_true_eq] at this
          exact this.1)]
        exact q' _ _ ⟨rfl, same_new nl2⟩
      rintro _ H8 ⟨rfl, s8⟩
      refine iteF ?_
      have s68 := s7.trans s8
      refine ⟨_, rfl, _, rfl, few rfl, fun t0 nt0 => ⟨few rfl, fun t1 nt1 => ?_⟩⟩
      have b1 := same_new (o := .tup [.str "stay", .int 0]) nt0
      have b2 := same_new (o := .tup [.ref t0]) nt1
      refine catA (b2 _ _ (b1 _ _ (s68 _ _ hb))) upd_same (by show 1 + 1 ≤ _; decide) fun c H9 s9 h9 => ?_
      have s89 := (b1.trans b2).trans s9
      have hst : ModeAt H9 t0 (.stay 0) := s9 _ _ (b2 _ _ upd_same)
      have tel : TelAt H9 c [.runs 1 (p - 2), .stay 0] := ⟨[m1, t0], h9, .cons (by rw [← hk0]; exact s89 _ _ (s68 _ _ hmd1)) (.cons hst .nil)⟩
      have hL := last_read (w := p) (by omega)
      have hLl : (lastL p).length = p := by
        unfold lastL
        rw [List.length_append, List.length_append, List.length_replicate, List.length_replicate]
        show 1 + (p - 2) + 1 = p
        omega
      have okm : ∀ m' ∈ [Mode.runs 1 (p - 2), .stay 0], MOk m' := fun m' hm' => by
        rcases List.mem_cons.mp hm' with rfl | hm'
        · exact ⟨by decide, by omega⟩
        · rw [List.mem_singleton.mp hm']
          exact ⟨by decide, by decide⟩
      have hcr := const_row (w := p) (ms := [.runs 1 (p - 2), .stay 0]) (fun m' hm' d hd => by
        have := okm m' hm'
        rw [hd] at this
        exact this.1) hLl hL
      refine ⟨p, c, [.runs 1 (p - 2), .stay 0], rfl, by omega, hw40, tel, by show 2 ≤ 80; decide, okm, fun H10 s10 => ?_⟩
      rw [hcr]
      have e2i : V.int ((p : Int) - 2) = V.int ((p - 2 : Nat) : Int) := congrArg V.int (by omega)
      refine ⟨_, rfl, _, _, rfl, rfl, _, p - 2, rfl, e2i, bl, by omega, ?_⟩
      rw [rep_b]
      refine ⟨_, _, rfl, rfl, ?_, _, _, rfl, rfl, ?_, rfl, ?_⟩
      · rw [enc_len, List.length_replicate, sizeLine_eq]
        have := wl
        omega
      · rw [← col_w]
        show ((enc [false]) ++ enc (List.replicate (p - 2) true)).length + (enc [false]).length ≤ _
        rw [enc_app, enc_len, enc_len, List.length_append, List.length_replicate, sizeLine_eq]
        show 1 + (p - 2) + 1 ≤ _
        omega
      · have e5 : (("." : Str) ++ enc (List.replicate (p - 2) true)) ++ "." = enc (lastL p) := by
          rw [← col_w]
          show ((enc [false]) ++ enc (List.replicate (p - 2) true)) ++ enc [false] = _
          rw [enc_app, enc_app]
          rfl
        show Q (.bl (decide (V.str (encR ((lastL p).map some)) = V.str _))) H10
        rw [encR_some, e5, decide_eq_true rfl]
        have sA := (s68.trans s89).trans s10
        exact qq H10 s' (v6.trans (Mv.of sA)) (A6.same sA) hs4
end
end K77
set_option Elab.async false
set_option linter.all false
set_option maxRecDepth 100000
set_option maxHeartbeats 4000000
/-! K77X12: the law. -/
namespace K77
open PySem PySem.Spec PyProof.Rows L2
theorem nextS {r : TS} {σ : L2.St} {H : Hp} {D : Ends} (q : r D σ H) : tSeq tNext r D σ H := q
theorem ifSX {t : TT} {u v : TS} {σ : L2.St} {H : Hp} {D : Ends} (Φ : Bool → Hp → Prop) (ht : ∀ Q : Bool → Hp → Prop, (∀ b H', Φ b H' → Q b H') → t σ H Q) (q : ∀ b H', Φ b H' → if b = true then u D σ H' else v D σ H') : tIfS t u v D σ H := ht _ q
/-- where two tellings tell unlike -/
def unlikeL (n : Nat) (ms ns : List Mode) : List Dots := (allL n).filter fun x => !decide (rd x ms = rd x ns)
theorem apart_head (n : Nat) (ms ns : List Mode) : apartM n ms ns = (unlikeL n ms ns).head? := by
  unfold apartM unlikeL
  rw [List.head?_filter]
theorem apart_self (n : Nat) (ms : List Mode) : apartM n ms ms = none := by
  unfold apartM
  rw [List.find?_eq_none]
  intro x _
  simp
theorem line_repr {n : Nat} (hn : n ≤ 40) (o : Option Dots) (h : ∀ l, o = some l → l.length = n) : lineV o = .non ∨ ∃ x, lineV o = .str x ∧ x.length ≤ 100 ∧ ∀ c ∈ x.cps.toList, c < 16 ^ 8 := by
  cases o with
  | none => exact .inl rfl
  | some l =>
    have hl := h l rfl
    refine .inr ⟨_, rfl, by rw [enc_len]; omega, fun c hc => ?_⟩
    have e : (enc l).cps.toList = l.map dc := List.toList_toArray ..
    rw [e] at hc
    obtain ⟨d, _, rfl⟩ := List.mem_map.mp hc
    cases d
    · show 46 < _
      decide
    · show 35 < _
      decide
section
variable {P : Program} {w : World} {K : PySem.W.Frag} {mg : Str → Option Value} {base : Heap}
theorem fn_of {x : Str} {st : Stmt} {N ps : List Str} {k : Nat} {sp : Sp} {f : Addr} {fd : FuncData} (F : FnP K x st f fd) (S : FnScope N ps (defScope st)) (len : ∀ vs H Q E, sp vs H Q E → vs.length = ps.length)
    (body : ∀ (cdv : Value) (A : Around) (outer : List Env) (s : Shared) (H : Hp) (vs : List V) (Q : VK) (E : XK), Room k (CtX P w K mg base N x st f cdv A outer s H E).A → sp vs H Q E →
      ∃ t, PSs (CtX P w K mg base N x st f cdv A outer s H E) (defBody st) t ∧ t { nx := fun _ H' => Q .non H', rt := Q } (start N vs) H) : FnOk P w K mg base CX0 (k + 1) f fd ps sp :=
  F.ok S len fun cdv A outer s H vs Q E hr h => by
    obtain ⟨t, p, q⟩ := body cdv A outer s H vs Q E hr h
    exact ⟨t, PSs.nox p, q⟩
def spLaw (K : PySem.W.Frag) : Sp := fun vs H Q _ => ∃ (a : Addr) (ns : List Int), vs = [.ref a] ∧ SqL K H a (ns.map V.int) ∧ ns.length ≤ 63 ∧ ∀ H', Q (.bl true) H'
abbrev nLaw : List Str := ["_law_script", "_law_m", "_law_turn", "_law_wide", "_law_every_here", "_law_one", "_law_other", "_law_near", "_law_far", "_law_unlike_so", "_law_k"]
theorem scLaw : FnScope nLaw ["_law_script"] (defScope sLaw) := ⟨rfl, rfl, rfl, by decide +kernel, rfl, by decide +kernel, by decide +kernel⟩
theorem ok_law {f : Addr} {fd : FuncData} (T : Tx K mg) (D : FnP K "law" sLaw f fd) (hb : Has P w K mg base "_law_begun" ["_law_script"] 1 (spLBegun K)) (hd : Has P w K mg base "_law_draw" ["_law_m", "_law_limit"] 2 spDraw) (he : Has P w K mg base "_law_every" ["_law_wide"] 1 spLEvery)
    (hl : Has P w K mg base "_law_line" ["_law_m", "_law_wide"] 3 spLLine) (hw : Has P w K mg base "_law_walk" ["_law_m", "_law_ahead"] 3 spLWalk) (hbt : Has P w K mg base "_law_bent" ["_law_m", "_law_modes"] 3 spLBent)
    (hrt : Has P w K mg base "_law_right" ["_law_m", "_law_wide", "_law_modes", "_law_every_here"] 9 spLRight) (hf : Has P w K mg base "_law_free_right" ["_law_m"] 9 spLFree) (hap : Has P w K mg base "apart" ["width", "one", "other"] 6 spApart) (hal : Has P w K mg base "alike" ["width", "one", "other"] 7 spAlike) :
    FnOk P w K mg base CX0 10 f fd ["_law_script"] (spLaw K) := by
  refine fn_of D scLaw (fun vs H Q E h => ?_) (fun cdv A outer s H vs Q E hr h => ?_)
  · obtain ⟨a, ns, rfl, _⟩ := h
    rfl
  · obtain ⟨a, ns, rfl, hS, hn, q⟩ := h
    refine ⟨_, pss_cons (ps_set (i := 1) scLaw.nd rfl (.inl rfl) (pe_do hb (hr.mono (by decide)) (pa_cons (pv 0) pa_nil)))
      (pss_cons (ps_for PassesOwn.never rfl (pi_range1 (by rfl) T.range_ (pa_cons (pe_op op_add pe_int (pe_callB (call_min2 rfl) (by rfl) T.min_ (by decide +kernel) (pa_cons pe_int (pa_cons (pe_callB call_len_seq (by rfl) T.len_ PySem.boot_len (pa_cons (pv 0) pa_nil)) pa_nil)))) pa_nil)) (pg_name (i := 2) scLaw.nd rfl (.inl rfl))
        (pss_cons (ps_set (i := 3) scLaw.nd rfl (.inl rfl) (pe_op op_add pe_int (pe_do hd (hr.mono (by decide)) (pa_cons (pv 1) (pa_cons pe_int pa_nil)))))
        (pss_cons (ps_set (i := 4) scLaw.nd rfl (.inr rfl) (pe_do he (hr.mono (by decide)) (pa_cons (pv 3) pa_nil)))
        (pss_cons (ps_set (i := 5) scLaw.nd rfl (.inl rfl) (pe_do hw (hr.mono (by decide)) (pa_cons (pv 1) (pa_cons (pe_do hl (hr.mono (by decide)) (pa_cons (pv 1) (pa_cons (pv 3) pa_nil))) pa_nil))))
        (pss_cons (ps_set (i := 6) scLaw.nd rfl (.inl rfl) (pe_ix ix_list (pe_lst (pa_cons (pe_do hbt (hr.mono (by decide)) (pa_cons (pv 1) (pa_cons (pv 5) pa_nil))) (pa_cons (pe_do hw (hr.mono (by decide)) (pa_cons (pv 1) (pa_cons (pe_do hl (hr.mono (by decide)) (pa_cons (pv 1) (pa_cons (pv 3) pa_nil))) pa_nil))) pa_nil))) (pe_do hd (hr.mono (by decide)) (pa_cons (pv 1) (pa_cons pe_int pa_nil))) (fun _ _ => rfl)))
        (pss_cons (ps_asg (pe_tup (pa_cons (pe_do hrt hr (pa_cons (pv 1) (pa_cons (pv 3) (pa_cons (pv 5) (pa_cons (pv 4) pa_nil))))) (pa_cons (pe_do hrt hr (pa_cons (pv 1) (pa_cons (pv 3) (pa_cons (pv 6) (pa_cons (pv 4) pa_nil))))) pa_nil))) (pg_tup rfl (pgs_cons (pg_name (i := 7) scLaw.nd rfl (.inr rfl)) (pgs_cons (pg_name (i := 8) scLaw.nd rfl (.inr rfl)) pgs_nil))))
        (pss_cons (ps_if (PW.pt (pw_or (pt_cmpR op_isN (pv 7) pe_non (nomark _)) (pw_or1 (pt_cmpR op_isN (pv 8) pe_non (nomark _))))) (pss_one (ps_ret pe_bl)) pss_nil)
        (pss_cons (ps_setLc (i := 9) (own := [("_law_k", 10)]) (g := gName 10) (tt := tTest (tOp rNe (tOp (rIxL K) (tVar 7) (tVar 10)) (tOp (rIxL K) (tVar 8) (tVar 10)))) rfl scLaw.nd rfl rfl (sw_true rfl rfl rfl (by decide +kernel)) (pi_range1 (by rfl) T.range_ (pa_cons (pe_callB call_len_seq (by rfl) T.len_ PySem.boot_len (pa_cons (pv 4) pa_nil)) pa_nil)) (blkOk_by (N := nLaw) (sc := defScope sLaw) (by decide +kernel))
            (fun _ _ _ _ _ => pg_name (i := 10) scLaw.nd rfl (Or.inl rfl)) (fun _ _ _ _ _ => pts_one (pt_cmpR op_ne (pe_ix (r := rIxL K) ix_list (pv 7) (pv 10) (fun _ _ => rfl)) (pe_ix (r := rIxL K) ix_list (pv 8) (pv 10) (fun _ _ => rfl)) (nomark _))) (fun _ _ _ _ _ => pe_ix (r := rIxL K) ix_list (pv 4) (pv 10) (fun _ _ => rfl)))
        (pss_cons (ps_if (pt_cmpR op_ne (pe_callB cr_repr (by rfl) T.repr_ (by decide +kernel) (pa_cons (pe_do hap (hr.mono (by decide)) (pa_cons (pv 3) (pa_cons (pv 5) (pa_cons (pv 6) pa_nil)))) pa_nil)) (pe_callB cr_repr (by rfl) T.repr_ (by decide +kernel) (pa_cons (pe_ix ix_list (pe_op op_cat (pv 9) (pe_lst (pa_cons pe_non pa_nil))) pe_int (fun _ _ => rfl)) pa_nil)) (nomark _)) (pss_one (ps_ret pe_bl)) pss_nil)
        (pss_cons (ps_if (pt_cmpR op_ne (pe_do hal (hr.mono (by decide)) (pa_cons (pv 3) (pa_cons (pv 5) (pa_cons (pv 6) pa_nil)))) (pe_cmpR (op_eqD (by have := hr.un; omega)) (pv 9) (pe_lst pa_nil) (nomark _)) (nomark _)) (pss_one (ps_ret pe_bl)) pss_nil)
        (pss_one (ps_if (PW.pt (pw_or (pt_cmpR op_notBl (pe_do hal (hr.mono (by decide)) (pa_cons (pv 3) (pa_cons (pv 5) (pa_cons (pv 5) pa_nil)))) pe_bl (nomark _)) (pw_or1 (pt_not (pt_val (pe_do hf hr (pa_cons (pv 1) pa_nil))))))) (pss_one (ps_ret pe_bl)) pss_nil))))))))))))
      (pss_one (ps_ret pe_bl))), ?_⟩
    refine ⟨_, rfl, a, ns, rfl, hS, hn, fun M H1 s1 A1 => ?_⟩
    have hS1 := s1.seq hS
    have hml : ((ns.map V.int).length : Int) = (ns.length : Int) := by rw [List.length_map]
    refine ⟨_, rfl, a, _, rfl, .inl hS1, _, _, rfl, _, _, rfl, rfl, 4 + (if ((ns.map V.int).length : Int) < 8 then ((ns.map V.int).length : Int) else 8), rfl, by split <;> omega, by split <;> omega, ?_⟩
    obtain ⟨tn, htn⟩ : ∃ tn : Nat, tn = (4 + (if ((ns.map V.int).length : Int) < 8 then ((ns.map V.int).length : Int) else 8)).toNat := ⟨_, rfl⟩
    have htn12 : tn ≤ 12 := by
      rw [htn]
      split <;> omega
    rw [← htn]
    refine for_range (fun i σ H2 => ∃ (s' : Nat) (z2 z3 z4 z5 z6 z7 z8 z9 : Option V), σ = [some (.ref a), some (.ref M.m), z2, z3, z4, z5, z6, z7, z8, z9, none] ∧ MAt M H2 s' ∧ s' ≤ 300 * i) ⟨0, none, none, none, none, none, none, none, none, rfl, A1, Nat.le_refl _⟩ ?_ ?_
    · rintro i σ H2 hi ⟨s', z2, z3, z4, z5, z6, z7, z8, z9, rfl, A2, hs'⟩
      refine ⟨_, rfl, M, s', 7, rfl, A2, by omega, by decide, by decide, fun r H3 hr3 v3 A3 => ⟨_, _, rfl, rfl, ?_⟩⟩
      obtain ⟨n, hn⟩ : ∃ n : Nat, n = 1 + r := ⟨_, rfl⟩
      refine gsetV (y := .int n) (by rw [hn]; rfl) ?_
      have hn1 : 1 ≤ n := by omega
      have hn7 : n ≤ 7 := by omega
      refine ⟨_, rfl, n, rfl, by omega, fun H4 E s4 nE hE => ?_⟩
      have A4 := A3.same s4
      have hELf : E ≠ M.Lf := by
        obtain ⟨_, _, _, _, _, g, _⟩ := A3
        exact Ne.symm (ne_of_none g nE)
      refine ⟨_, rfl, _, rfl, _, rfl, M, s' + 1, n, rfl, A4, by omega, by omega, fun x H5 s5 hx v5 A5 hs5 => ?_⟩
      refine ⟨M, s5, x, rfl, A5, by omega, by omega, fun t1 ms H6 s6 ht1 hml1 mok1 v6 A6 hs6 => ?_⟩
      have hE6 := v6.lst A5 (v5.lst A4 hE hELf) hELf
      clear v3 s4 v5 v6 A5 hE A4 A3 A2
      refine gset ?_
      dsimp only
      -- the other telling
      refine setX (fun v H' => ∃ (t2 : Addr) (ms2 : List Mode) (s7 : Nat), v = .ref t2 ∧ TelAt H' t2 ms2 ∧ ms2.length ≤ 20 ∧ (∀ m ∈ ms2, MOk m) ∧ Mv M H6 H' ∧ MAt M H' s7 ∧ s7 ≤ s6 + 60) (fun R q' => ?_) ?_
      · refine ⟨_, rfl, _, rfl, M, s6, t1, ms, rfl, A6, ht1, by omega, mok1, by omega, fun tb nb H7 s7 htb hbl mokb v7 A7 hs7 => ?_⟩
        refine ⟨_, rfl, _, rfl, _, rfl, M, s7, n, rfl, A7, by omega, by omega, fun x2 H8 s8 hx2 v8 A8 hs8 => ?_⟩
        refine ⟨M, s8, x2, rfl, A8, by omega, by omega, fun tc ms3 H9 s9 htc hml3 mok3 v9 A9 hs9 => ⟨few rfl, fun L nL => ?_⟩⟩
        have sL := same_new (o := .lst [.ref tb, .ref tc]) nL
        have hLLf : L ≠ M.Lf := by
          obtain ⟨_, _, _, _, _, g, _⟩ := A9
          exact Ne.symm (ne_of_none g nL)
        refine ⟨_, rfl, M, s9, 2, rfl, A9.same sL, by omega, by decide, by decide, fun rr H10 hrr v10 A10 => ?_⟩
        have hL10 := v10.lst (A9.same sL) (upd_same : L2.upd H9 L (.lst [.ref tb, .ref tc]) L = _) hLLf
        have v69 := (v7.trans v8).trans v9
        have v610 := (v69.trans (Mv.of sL)).trans v10
        have htb10 : TelAt H10 tb nb := htb.tk (((v8.trans v9).trans ((Mv.of sL).trans v10)).tk A7)
        have htc10 : TelAt H10 tc ms3 := htc.tk (((Mv.of sL).trans v10).tk A9)
        match rr, hrr with
        | 0, _ => exact ⟨L, _, ((0 : Nat) : Int), .ref tb, rfl, rfl, .of hL10, atI_nat (j := 0) rfl, q' _ _ ⟨tb, nb, s9 + 1, rfl, htb10, by omega, mokb, v610, A10, by omega⟩⟩
        | 1, _ => exact ⟨L, _, ((1 : Nat) : Int), .ref tc, rfl, rfl, .of hL10, atI_nat (j := 1) rfl, q' _ _ ⟨tc, ms3, s9 + 1, rfl, htc10, by omega, mok3, v610, A10, by omega⟩⟩
      rintro v H7 ⟨t2, ms2, s7, rfl, ht2, hm20, mok2, v7, A7, hs7⟩
      have hE7 := v7.lst A6 hE6 hELf
      have ht17 := ht1.tk (v7.tk A6)
      -- near and far
      refine ⟨_, rfl, _, rfl, _, rfl, _, rfl, M, s7, n, t1, E, ms, rfl, A7, ht17, by omega, mok1, hn1, hn7, hE7, hELf, by omega, fun L1 H8 s8 nL1 hL1 v8 A8 hs8 => ?_⟩
      have hE8 := v8.lst A7 hE7 hELf
      have ht18 := ht17.tk (v8.tk A7)
      have ht28 := ht2.tk (v8.tk A7)
      have hL1Lf : L1 ≠ M.Lf := by
        obtain ⟨_, _, _, _, _, g, _⟩ := A7
        exact Ne.symm (ne_of_none g nL1)
      refine ⟨_, rfl, _, rfl, _, rfl, _, rfl, M, s8, n, t2, E, ms2, rfl, A8, ht28, by omega, mok2, hn1, hn7, hE8, hELf, by omega, fun L2' H9 s9 nL2 hL2 v9 A9 hs9 => ?_⟩
      have hE9 := v9.lst A8 hE8 hELf
      have ht19 := ht18.tk (v9.tk A8)
      have ht29 := ht28.tk (v9.tk A8)
      have hL19 := v9.lst A8 hL1 hL1Lf
      refine ⟨few rfl, fun p9 np9 => ⟨p9, _, rfl, .of upd_same, rfl, _, _, rfl, _, _, rfl, rfl, ?_⟩⟩
      have s10 := same_new (o := .tup [.ref L1, .ref L2']) np9
      have A10 := A9.same s10
      have hE10 := s10 _ _ hE9
      have ht110 := ht19.same s10
      have ht210 := ht29.same s10
      have hL110 := s10 _ _ hL19
      have hL210 := s10 _ _ hL2
      generalize L2.upd H9 p9 (.tup [.ref L1, .ref L2']) = H10 at A10 hE10 ht110 ht210 hL110 hL210 ⊢
      have hs10 : s9 ≤ s' + 199 := by omega
      clear hE6 A6 ht1 v7 A7 hE7 ht17 ht2 v8 A8 hE8 ht18 ht28 hL1 v9 A9 hE9 ht19 ht29 hL19 s10 np9 hL2
      refine ⟨_, rfl, rfl, _, rfl, ifF (V.ne nofun) ⟨_, rfl, rfl, _, rfl, ifF (V.ne nofun) ?_⟩⟩
      -- where they tell unlike
      have hcnt := allL_count n
      have h2n : 2 ^ n ≤ 2 ^ 7 := Nat.pow_le_pow_right (by decide) hn7
      have hEl : (encL (allL n)).length = 2 ^ n := (List.length_map ..).trans hcnt
      refine ⟨_, rfl, E, _, rfl, .inl (.of hE10), ((encL (allL n)).length : Int), rfl, by omega, by omega, fun Un nUn => ?_⟩
      have htN : (((encL (allL n)).length : Nat) : Int).toNat = (allL n).length := by
        rw [Int.toNat_natCast, hEl, hcnt]
      rw [htN]
      refine lc_it walk_range (fun i H11 => Same H10 H11 ∧ H11 Un = some (.lst (encL (((allL n).take i).filter fun x => !decide (rd x ms = rd x ms2))))) ⟨same_new nUn, upd_same⟩ (fun _ _ _ _ => trivial) ?_ ?_
      · rintro k v H11 H12 hk ⟨s11, hU⟩ ⟨rfl, rfl⟩
        have hg : (allL n)[k]? = some (allL n)[k] := List.getElem?_eq_getElem hk
        refine gsetV (y := .int k) (congrArg V.int (by omega : (0 : Int) + (k : Int) = (k : Int))) ?_
        have hnx : ((allL n).take (k + 1)).filter (fun x => !decide (rd x ms = rd x ms2)) = ((allL n).take k).filter (fun x => !decide (rd x ms = rd x ms2)) ++ (if (!decide (rd (allL n)[k] ms = rd (allL n)[k] ms2)) = true then [(allL n)[k]] else []) := by
          rw [List.take_add_one, hg, List.filter_append]
          congr 1
          show List.filter _ [(allL n)[k]] = _
          rw [List.filter_cons]
          rfl
        have lv : ∀ ms : List Mode, (linesV n ms)[k]? = some (lineV (rd (allL n)[k] ms)) := fun ms => by
          unfold linesV
          rw [List.getElem?_map, hg]
          rfl
        have ev : (encL (allL n))[k]? = some (.str (enc (allL n)[k])) := by
          unfold encL
          rw [List.getElem?_map, hg]
          rfl
        refine ⟨rfl, _, rfl, _, rfl, L1, _, _, _, rfl, rfl, .of (s11 _ _ hL110), atI_nat (lv ms), _, rfl, _, rfl, L2', _, _, _, rfl, rfl, .of (s11 _ _ hL210), atI_nat (lv ms2), lineV_scal _ _, _, rfl, ?_⟩
        rw [lineV_dec]
        refine if2 (fun e => ?_) (fun e => ?_)
        · rw [e, if_pos rfl] at hnx
          refine ⟨_, rfl, _, rfl, E, _, _, _, rfl, rfl, .of (s11 _ _ hE10), atI_nat ev, _, hU, ?_, same_mut s11 nUn, ?_⟩
          · have := List.length_filter_le (fun x => !decide (rd x ms = rd x ms2)) ((allL n).take k)
            rw [List.length_take] at this
            unfold encL
            rw [List.length_map, sizeLine_eq]
            omega
          · rw [upd_same, hnx]
            unfold encL
            rw [List.map_append]
            rfl
        · rw [e, if_neg (by decide), List.append_nil] at hnx
          rw [hnx]
          exact ⟨s11, hU⟩
      rintro H11 ⟨s11, hU⟩
      rw [List.take_length] at hU
      have hU : H11 Un = some (.lst (encL (unlikeL n ms ms2))) := hU
      have hul : (unlikeL n ms ms2).length ≤ 128 := by
        have := List.length_filter_le (fun x => !decide (rd x ms = rd x ms2)) (allL n)
        have e : (unlikeL n ms ms2).length ≤ (allL n).length := this
        omega
      have hap1 := apart_head n ms ms2
      have hapl : ∀ l, apartM n ms ms2 = some l → l.length = n := fun l hl => by
        unfold apartM at hl
        exact allL_len n l (List.mem_of_find?_eq_some hl)
      refine gset ?_
      dsimp only
      have ht1b := ht110.same s11
      have ht2b := ht210.same s11
      have Ab := A10.same s11
      -- the first of them
      refine seqIfX (fun b H' => b = false ∧ Same H11 H') (fun R q' => ?_) ?_
      · refine ⟨_, rfl, _, rfl, _, rfl, n, t1, t2, ms, ms2, rfl, hn1, by omega, ht1b, by omega, mok1, ht2b, by omega, mok2, fun H12 s12 => ⟨_, rfl, line_repr (by omega) _ hapl, ?_⟩⟩
        refine ⟨_, rfl, few rfl, fun l2 nl2 => ⟨Un, l2, _, _, rfl, rfl, same_new nl2 _ _ (s12 _ _ hU), upd_same, ?_, fun l3 nl3 => ?_⟩⟩
        · unfold encL
          rw [List.length_map, sizeLine_eq]
          show _ + 1 ≤ _
          omega
        have hfst : (encL (unlikeL n ms ms2) ++ [V.non])[0]? = some (lineV (apartM n ms ms2)) := by
          rw [hap1]
          cases unlikeL n ms ms2 <;> rfl
        refine ⟨l3, _, 0, _, rfl, rfl, .of upd_same, atI_nat (j := 0) hfst, _, rfl, line_repr (by omega) _ hapl, rfl, _, rfl, ?_⟩
        rw [decide_eq_true rfl]
        exact q' _ _ ⟨rfl, (s12.trans (same_new nl2)).trans (same_new nl3)⟩
      rintro _ H12 ⟨rfl, s12⟩
      refine iteF (nextS ?_)
      refine seqIfX (fun b H' => b = false ∧ Same H12 H') (fun R q' => ?_) ?_
      · refine ⟨_, rfl, _, rfl, _, rfl, n, t1, t2, ms, ms2, rfl, hn1, by omega, ht1b.same s12, by omega, mok1, ht2b.same s12, by omega, mok2, fun H13 s13 => ?_⟩
        refine ⟨_, rfl, few rfl, fun l2 nl2 => ?_⟩
        refine ⟨_, _, .lst (.of (same_new nl2 _ _ (s13 _ _ (s12 _ _ hU)))) (dps_strs _), .lst (.of upd_same) .nil, strs_shaped _, rfl, rfl, _, rfl, ?_⟩
        have e9 : decide (V.bl (decide (apartM n ms ms2 = none)) = V.bl (PyData.eqv (.list ((unlikeL n ms ms2).map fun l => PyData.str (enc l))) (.list []))) = true := by
          rw [hap1]
          cases unlikeL n ms ms2 with
          | nil => exact decide_eq_true rfl
          | cons u us => exact decide_eq_true rfl
        rw [e9]
        exact q' _ _ ⟨rfl, s13.trans (same_new nl2)⟩
      rintro _ H13 ⟨rfl, s13⟩
      refine iteF (nextS ?_)
      have s1113 := s12.trans s13
      refine ifSX (fun b H' => b = false ∧ ∃ s14, MAt M H' s14 ∧ s14 ≤ s9 + 100) (fun R q' => ?_) ?_
      · refine ⟨_, rfl, _, rfl, _, rfl, n, t1, t1, ms, ms, rfl, hn1, by omega, ht1b.same s1113, by omega, mok1, ht1b.same s1113, by omega, mok1, fun H14 s14 => ?_⟩
        rw [apart_self]
        refine ⟨_, _, rfl, rfl, _, rfl, ifF rfl ?_⟩
        refine ⟨_, rfl, M, s9, rfl, Ab.same (s1113.trans s14), by omega, fun H15 s15 v15 A15 hs15 => ⟨true, rfl, q' _ _ ⟨rfl, s15, A15, hs15⟩⟩⟩
      rintro _ H14 ⟨rfl, s14, A14, hs14⟩
      refine iteF ?_
      exact ⟨s14, _, _, _, _, _, _, _, _, rfl, A14, by omega⟩
    · rintro σ H2 ⟨s', z2, z3, z4, z5, z6, z7, z8, z9, rfl, A2, hs'⟩
      exact q H2
end
end K77
set_option Elab.async false
set_option linter.all false
set_option maxRecDepth 100000
set_option maxHeartbeats 0
namespace K77
open PySem PySem.Spec PyProof.Rows L2
/-! ### the head: the top's run and what it leaves -/
def dd (x : Str) (st : Stmt) : He.DefD := ⟨(x, none), x, x, defArgs st, defBody st, defScope st, [], []⟩
def fns : List He.DefD := [dd "is_whole" sIsWhole, dd "is_line" sIsLine, dd "other_colour" sOtherColour, dd "is_mode" sIsMode, dd "is_full" sIsFull, dd "need_telling" sNeedTelling, dd "change_from" sChangeFrom, dd "change_back" sChangeBack, dd "after_mode" sAfterMode, dd "dots_of" sDotsOf, dd "read_beside" sReadBeside, dd "need_width" sNeedWidth, dd "need_beside" sNeedBeside, dd "begun_with" sBegunWith, dd "changes_from" sChangesFrom, dd "backs_from" sBacksFrom, dd "skipped" sSkipped, dd "stays_from" sStaysFrom, dd "ends_from" sEndsFrom, dd "next_states" sNextStates, dd "many_by" sManyBy, dd "many_right" sManyRight, dd "many_telling" sManyTelling, dd "layers_of" sLayersOf, dd "sure_in" sSureIn, dd "sure" sSure, dd "lines_of_width" sLinesOfWidth, dd "need_two" sNeedTwo, dd "apart" sApart, dd "alike" sAlike, dd "_law_mix" sLMix, dd "_law_begun" sLBegun, dd "_law_draw" sLDraw, dd "_law_change" sLChange, dd "_law_again" sLAgain, dd "_law_step" sLStep, dd "_law_read" sLRead, dd "_law_line" sLLine, dd "_law_walk" sLWalk, dd "_law_every" sLEvery, dd "_law_row" sLRow, dd "_law_bent" sLBent, dd "_law_right" sLRight, dd "_law_free_right" sLFreeRight, dd "law" sLaw]
def fas : List He.Fa := [.glo "is_whole", .glo "is_line", .glo "other_colour", .glo "is_mode", .glo "is_full", .glo "need_telling", .glo "change_from", .glo "change_back", .glo "after_mode", .glo "dots_of", .glo "read_beside", .glo "need_width", .glo "need_beside", .glo "begun_with", .glo "changes_from", .glo "backs_from", .glo "skipped", .glo "stays_from", .glo "ends_from", .glo "next_states", .glo "many_by", .glo "many_right", .glo "many_telling", .glo "layers_of", .glo "sure_in", .glo "sure", .glo "lines_of_width", .glo "need_two", .glo "apart", .glo "alike", .glo "_law_mix", .glo "_law_begun", .glo "_law_draw", .glo "_law_change", .glo "_law_again", .glo "_law_step", .glo "_law_read", .glo "_law_line", .glo "_law_walk", .glo "_law_every", .glo "_law_row", .glo "_law_bent", .glo "_law_right", .glo "_law_free_right", .glo "law",
  .free "len", .free "isinstance", .free "int", .free "bool", .free "str", .free "tuple", .free "all", .free "enumerate", .free "range", .free "min", .free "sum", .free "list", .free "sorted", .free "set", .free "repr",
  .str "WHITE" ".", .str "BLACK" "#", .str "STAY" "stay", .str "PASS" "pass", .str "RUNS" "runs", .str "FULL" "full", .str "UNSURE" "?",
  .int "MOST_WIDTH" 40, .int "MOST_MODES" 80, .int "MOST_STAY" 3, .int "MOST_ALIKE" 12, .int "WINDOW" 4]
def loose1 : List Str := ["BadTelling", "OutOfPlace", "TooGreat", "WHITE", "BLACK", "MOST_WIDTH", "is_whole", "is_line", "other_colour", "are_runs", "line_in", "MOST_MODES", "MOST_STAY", "STAY", "PASS", "RUNS", "FULL", "is_mode", "is_full", "need_telling", "change_from", "change_back", "after_mode", "dots_of", "read_beside", "MOST_ALIKE", "WINDOW", "UNSURE", "need_width", "need_beside"]
def loose2 : List Str := ["begun_with", "changes_from", "backs_from", "skipped", "stays_from", "ends_from", "next_states", "many_by", "many_right", "many_telling", "layers_of", "sure_in", "sure", "lines_of_width", "need_two", "apart", "alike", "_law_mix", "_law_begun", "_law_draw", "_law_change", "_law_again", "_law_step", "_law_read", "_law_line", "_law_walk", "_law_every", "_law_row", "_law_bent", "_law_right", "_law_free_right"]
-- law is statement 66; defs 45, free 15, strs 7, ints 5
abbrev Rr : PySem.W.OpenRow := PySem.W.OpenLaw.row PySem.Challenge.rw_faxhouse_k77_whole_sureness_by_all_lines
abbrev hk : PySem.W.Hook := He.hookD 4 fas fns
def obs (s : PySem.W.SharedT) : He.AlD := He.obsDG 4 fas fns (HandSHeadRun.getT s)
theorem obs_eq (s : PySem.W.SharedT) : obs s = hk.obs s.abs := He.obsDG_eq (HandSHeadRun.getT_eq s)
theorem run_top (w : World) : HandSHeadRun.RunEq Rr (PySem.W.view Rr.prog [66]) hk obs 6000 (loose1 ++ loose2) w := by
  intro os
  kernel_rfl
end K77
set_option Elab.async false
set_option linter.all false
set_option maxRecDepth 100000
set_option maxHeartbeats 0
/-! K77Z: the end. -/
namespace K77
open PySem PySem.Spec PyProof.Rows L2
section
variable {P : Program} {w : World} {K : PySem.W.Frag} {h : Heap} {mg : Str → Option Value}
theorem tx_of (X : K.In h) (G : h.Ns mainGlobals mg) (c : He.SaysD fas fns K) : Tx K mg where
  len_ := He.free_ok X G (c.fact 45 (f := .free "len") rfl)
  isinstance_ := He.free_ok X G (c.fact 46 (f := .free "isinstance") rfl)
  int_ := He.free_ok X G (c.fact 47 (f := .free "int") rfl)
  bool_ := He.free_ok X G (c.fact 48 (f := .free "bool") rfl)
  str_ := He.free_ok X G (c.fact 49 (f := .free "str") rfl)
  tuple_ := He.free_ok X G (c.fact 50 (f := .free "tuple") rfl)
  all_ := He.free_ok X G (c.fact 51 (f := .free "all") rfl)
  enumerate_ := He.free_ok X G (c.fact 52 (f := .free "enumerate") rfl)
  range_ := He.free_ok X G (c.fact 53 (f := .free "range") rfl)
  min_ := He.free_ok X G (c.fact 54 (f := .free "min") rfl)
  sum_ := He.free_ok X G (c.fact 55 (f := .free "sum") rfl)
  list_ := He.free_ok X G (c.fact 56 (f := .free "list") rfl)
  sorted_ := He.free_ok X G (c.fact 57 (f := .free "sorted") rfl)
  set_ := He.free_ok X G (c.fact 58 (f := .free "set") rfl)
  repr_ := He.free_ok X G (c.fact 59 (f := .free "repr") rfl)
  WHITE := He.str_ok X G (c.fact 60 (f := .str "WHITE" ".") rfl)
  BLACK := He.str_ok X G (c.fact 61 (f := .str "BLACK" "#") rfl)
  STAY := He.str_ok X G (c.fact 62 (f := .str "STAY" "stay") rfl)
  PASS := He.str_ok X G (c.fact 63 (f := .str "PASS" "pass") rfl)
  RUNS := He.str_ok X G (c.fact 64 (f := .str "RUNS" "runs") rfl)
  FULL := He.str_ok X G (c.fact 65 (f := .str "FULL" "full") rfl)
  UNSURE := He.str_ok X G (c.fact 66 (f := .str "UNSURE" "?") rfl)
  MOST_WIDTH := He.int_ok X G (c.fact 67 (f := .int "MOST_WIDTH" 40) rfl)
  MOST_MODES := He.int_ok X G (c.fact 68 (f := .int "MOST_MODES" 80) rfl)
  MOST_STAY := He.int_ok X G (c.fact 69 (f := .int "MOST_STAY" 3) rfl)
  MOST_ALIKE := He.int_ok X G (c.fact 70 (f := .int "MOST_ALIKE" 12) rfl)
  WINDOW := He.int_ok X G (c.fact 71 (f := .int "WINDOW" 4) rfl)
theorem stsIsWhole (X : K.In h) (G : h.Ns mainGlobals mg) (c : He.SaysD fas fns K) : Stands K mg "is_whole" sIsWhole := by
  obtain ⟨fd, F⟩ := c.def_ 0 (d := dd "is_whole" sIsWhole) rfl
  exact ⟨_, fd, He.glo_ok X G (c.fact 0 (f := .glo "is_whole") rfl), F⟩
theorem stsIsLine (X : K.In h) (G : h.Ns mainGlobals mg) (c : He.SaysD fas fns K) : Stands K mg "is_line" sIsLine := by
  obtain ⟨fd, F⟩ := c.def_ 1 (d := dd "is_line" sIsLine) rfl
  exact ⟨_, fd, He.glo_ok X G (c.fact 1 (f := .glo "is_line") rfl), F⟩
theorem stsOtherColour (X : K.In h) (G : h.Ns mainGlobals mg) (c : He.SaysD fas fns K) : Stands K mg "other_colour" sOtherColour := by
  obtain ⟨fd, F⟩ := c.def_ 2 (d := dd "other_colour" sOtherColour) rfl
  exact ⟨_, fd, He.glo_ok X G (c.fact 2 (f := .glo "other_colour") rfl), F⟩
theorem stsIsMode (X : K.In h) (G : h.Ns mainGlobals mg) (c : He.SaysD fas fns K) : Stands K mg "is_mode" sIsMode := by
  obtain ⟨fd, F⟩ := c.def_ 3 (d := dd "is_mode" sIsMode) rfl
  exact ⟨_, fd, He.glo_ok X G (c.fact 3 (f := .glo "is_mode") rfl), F⟩
theorem stsIsFull (X : K.In h) (G : h.Ns mainGlobals mg) (c : He.SaysD fas fns K) : Stands K mg "is_full" sIsFull := by
  obtain ⟨fd, F⟩ := c.def_ 4 (d := dd "is_full" sIsFull) rfl
  exact ⟨_, fd, He.glo_ok X G (c.fact 4 (f := .glo "is_full") rfl), F⟩
theorem stsNeedTelling (X : K.In h) (G : h.Ns mainGlobals mg) (c : He.SaysD fas fns K) : Stands K mg "need_telling" sNeedTelling := by
  obtain ⟨fd, F⟩ := c.def_ 5 (d := dd "need_telling" sNeedTelling) rfl
  exact ⟨_, fd, He.glo_ok X G (c.fact 5 (f := .glo "need_telling") rfl), F⟩
theorem stsChangeFrom (X : K.In h) (G : h.Ns mainGlobals mg) (c : He.SaysD fas fns K) : Stands K mg "change_from" sChangeFrom := by
  obtain ⟨fd, F⟩ := c.def_ 6 (d := dd "change_from" sChangeFrom) rfl
  exact ⟨_, fd, He.glo_ok X G (c.fact 6 (f := .glo "change_from") rfl), F⟩
theorem stsChangeBack (X : K.In h) (G : h.Ns mainGlobals mg) (c : He.SaysD fas fns K) : Stands K mg "change_back" sChangeBack := by
  obtain ⟨fd, F⟩ := c.def_ 7 (d := dd "change_back" sChangeBack) rfl
  exact ⟨_, fd, He.glo_ok X G (c.fact 7 (f := .glo "change_back") rfl), F⟩
theorem stsAfterMode (X : K.In h) (G : h.Ns mainGlobals mg) (c : He.SaysD fas fns K) : Stands K mg "after_mode" sAfterMode := by
  obtain ⟨fd, F⟩ := c.def_ 8 (d := dd "after_mode" sAfterMode) rfl
  exact ⟨_, fd, He.glo_ok X G (c.fact 8 (f := .glo "after_mode") rfl), F⟩
theorem stsDotsOf (X : K.In h) (G : h.Ns mainGlobals mg) (c : He.SaysD fas fns K) : Stands K mg "dots_of" sDotsOf := by
  obtain ⟨fd, F⟩ := c.def_ 9 (d := dd "dots_of" sDotsOf) rfl
  exact ⟨_, fd, He.glo_ok X G (c.fact 9 (f := .glo "dots_of") rfl), F⟩
theorem stsReadBeside (X : K.In h) (G : h.Ns mainGlobals mg) (c : He.SaysD fas fns K) : Stands K mg "read_beside" sReadBeside := by
  obtain ⟨fd, F⟩ := c.def_ 10 (d := dd "read_beside" sReadBeside) rfl
  exact ⟨_, fd, He.glo_ok X G (c.fact 10 (f := .glo "read_beside") rfl), F⟩
theorem stsNeedWidth (X : K.In h) (G : h.Ns mainGlobals mg) (c : He.SaysD fas fns K) : Stands K mg "need_width" sNeedWidth := by
  obtain ⟨fd, F⟩ := c.def_ 11 (d := dd "need_width" sNeedWidth) rfl
  exact ⟨_, fd, He.glo_ok X G (c.fact 11 (f := .glo "need_width") rfl), F⟩
theorem stsNeedBeside (X : K.In h) (G : h.Ns mainGlobals mg) (c : He.SaysD fas fns K) : Stands K mg "need_beside" sNeedBeside := by
  obtain ⟨fd, F⟩ := c.def_ 12 (d := dd "need_beside" sNeedBeside) rfl
  exact ⟨_, fd, He.glo_ok X G (c.fact 12 (f := .glo "need_beside") rfl), F⟩
theorem stsBegunWith (X : K.In h) (G : h.Ns mainGlobals mg) (c : He.SaysD fas fns K) : Stands K mg "begun_with" sBegunWith := by
  obtain ⟨fd, F⟩ := c.def_ 13 (d := dd "begun_with" sBegunWith) rfl
  exact ⟨_, fd, He.glo_ok X G (c.fact 13 (f := .glo "begun_with") rfl), F⟩
theorem stsChangesFrom (X : K.In h) (G : h.Ns mainGlobals mg) (c : He.SaysD fas fns K) : Stands K mg "changes_from" sChangesFrom := by
  obtain ⟨fd, F⟩ := c.def_ 14 (d := dd "changes_from" sChangesFrom) rfl
  exact ⟨_, fd, He.glo_ok X G (c.fact 14 (f := .glo "changes_from") rfl), F⟩
theorem stsBacksFrom (X : K.In h) (G : h.Ns mainGlobals mg) (c : He.SaysD fas fns K) : Stands K mg "backs_from" sBacksFrom := by
  obtain ⟨fd, F⟩ := c.def_ 15 (d := dd "backs_from" sBacksFrom) rfl
  exact ⟨_, fd, He.glo_ok X G (c.fact 15 (f := .glo "backs_from") rfl), F⟩
theorem stsSkipped (X : K.In h) (G : h.Ns mainGlobals mg) (c : He.SaysD fas fns K) : Stands K mg "skipped" sSkipped := by
  obtain ⟨fd, F⟩ := c.def_ 16 (d := dd "skipped" sSkipped) rfl
  exact ⟨_, fd, He.glo_ok X G (c.fact 16 (f := .glo "skipped") rfl), F⟩
theorem stsStaysFrom (X : K.In h) (G : h.Ns mainGlobals mg) (c : He.SaysD fas fns K) : Stands K mg "stays_from" sStaysFrom := by
  obtain ⟨fd, F⟩ := c.def_ 17 (d := dd "stays_from" sStaysFrom) rfl
  exact ⟨_, fd, He.glo_ok X G (c.fact 17 (f := .glo "stays_from") rfl), F⟩
theorem stsEndsFrom (X : K.In h) (G : h.Ns mainGlobals mg) (c : He.SaysD fas fns K) : Stands K mg "ends_from" sEndsFrom := by
  obtain ⟨fd, F⟩ := c.def_ 18 (d := dd "ends_from" sEndsFrom) rfl
  exact ⟨_, fd, He.glo_ok X G (c.fact 18 (f := .glo "ends_from") rfl), F⟩
theorem stsNextStates (X : K.In h) (G : h.Ns mainGlobals mg) (c : He.SaysD fas fns K) : Stands K mg "next_states" sNextStates := by
  obtain ⟨fd, F⟩ := c.def_ 19 (d := dd "next_states" sNextStates) rfl
  exact ⟨_, fd, He.glo_ok X G (c.fact 19 (f := .glo "next_states") rfl), F⟩
theorem stsManyBy (X : K.In h) (G : h.Ns mainGlobals mg) (c : He.SaysD fas fns K) : Stands K mg "many_by" sManyBy := by
  obtain ⟨fd, F⟩ := c.def_ 20 (d := dd "many_by" sManyBy) rfl
  exact ⟨_, fd, He.glo_ok X G (c.fact 20 (f := .glo "many_by") rfl), F⟩
theorem stsManyRight (X : K.In h) (G : h.Ns mainGlobals mg) (c : He.SaysD fas fns K) : Stands K mg "many_right" sManyRight := by
  obtain ⟨fd, F⟩ := c.def_ 21 (d := dd "many_right" sManyRight) rfl
  exact ⟨_, fd, He.glo_ok X G (c.fact 21 (f := .glo "many_right") rfl), F⟩
theorem stsManyTelling (X : K.In h) (G : h.Ns mainGlobals mg) (c : He.SaysD fas fns K) : Stands K mg "many_telling" sManyTelling := by
  obtain ⟨fd, F⟩ := c.def_ 22 (d := dd "many_telling" sManyTelling) rfl
  exact ⟨_, fd, He.glo_ok X G (c.fact 22 (f := .glo "many_telling") rfl), F⟩
theorem stsLayersOf (X : K.In h) (G : h.Ns mainGlobals mg) (c : He.SaysD fas fns K) : Stands K mg "layers_of" sLayersOf := by
  obtain ⟨fd, F⟩ := c.def_ 23 (d := dd "layers_of" sLayersOf) rfl
  exact ⟨_, fd, He.glo_ok X G (c.fact 23 (f := .glo "layers_of") rfl), F⟩
theorem stsSureIn (X : K.In h) (G : h.Ns mainGlobals mg) (c : He.SaysD fas fns K) : Stands K mg "sure_in" sSureIn := by
  obtain ⟨fd, F⟩ := c.def_ 24 (d := dd "sure_in" sSureIn) rfl
  exact ⟨_, fd, He.glo_ok X G (c.fact 24 (f := .glo "sure_in") rfl), F⟩
theorem stsSure (X : K.In h) (G : h.Ns mainGlobals mg) (c : He.SaysD fas fns K) : Stands K mg "sure" sSure := by
  obtain ⟨fd, F⟩ := c.def_ 25 (d := dd "sure" sSure) rfl
  exact ⟨_, fd, He.glo_ok X G (c.fact 25 (f := .glo "sure") rfl), F⟩
theorem stsLinesOfWidth (X : K.In h) (G : h.Ns mainGlobals mg) (c : He.SaysD fas fns K) : Stands K mg "lines_of_width" sLinesOfWidth := by
  obtain ⟨fd, F⟩ := c.def_ 26 (d := dd "lines_of_width" sLinesOfWidth) rfl
  exact ⟨_, fd, He.glo_ok X G (c.fact 26 (f := .glo "lines_of_width") rfl), F⟩
theorem stsNeedTwo (X : K.In h) (G : h.Ns mainGlobals mg) (c : He.SaysD fas fns K) : Stands K mg "need_two" sNeedTwo := by
  obtain ⟨fd, F⟩ := c.def_ 27 (d := dd "need_two" sNeedTwo) rfl
  exact ⟨_, fd, He.glo_ok X G (c.fact 27 (f := .glo "need_two") rfl), F⟩
theorem stsApart (X : K.In h) (G : h.Ns mainGlobals mg) (c : He.SaysD fas fns K) : Stands K mg "apart" sApart := by
  obtain ⟨fd, F⟩ := c.def_ 28 (d := dd "apart" sApart) rfl
  exact ⟨_, fd, He.glo_ok X G (c.fact 28 (f := .glo "apart") rfl), F⟩
theorem stsAlike (X : K.In h) (G : h.Ns mainGlobals mg) (c : He.SaysD fas fns K) : Stands K mg "alike" sAlike := by
  obtain ⟨fd, F⟩ := c.def_ 29 (d := dd "alike" sAlike) rfl
  exact ⟨_, fd, He.glo_ok X G (c.fact 29 (f := .glo "alike") rfl), F⟩
theorem stsLMix (X : K.In h) (G : h.Ns mainGlobals mg) (c : He.SaysD fas fns K) : Stands K mg "_law_mix" sLMix := by
  obtain ⟨fd, F⟩ := c.def_ 30 (d := dd "_law_mix" sLMix) rfl
  exact ⟨_, fd, He.glo_ok X G (c.fact 30 (f := .glo "_law_mix") rfl), F⟩
theorem stsLBegun (X : K.In h) (G : h.Ns mainGlobals mg) (c : He.SaysD fas fns K) : Stands K mg "_law_begun" sLBegun := by
  obtain ⟨fd, F⟩ := c.def_ 31 (d := dd "_law_begun" sLBegun) rfl
  exact ⟨_, fd, He.glo_ok X G (c.fact 31 (f := .glo "_law_begun") rfl), F⟩
theorem stsLDraw (X : K.In h) (G : h.Ns mainGlobals mg) (c : He.SaysD fas fns K) : Stands K mg "_law_draw" sLDraw := by
  obtain ⟨fd, F⟩ := c.def_ 32 (d := dd "_law_draw" sLDraw) rfl
  exact ⟨_, fd, He.glo_ok X G (c.fact 32 (f := .glo "_law_draw") rfl), F⟩
theorem stsLChange (X : K.In h) (G : h.Ns mainGlobals mg) (c : He.SaysD fas fns K) : Stands K mg "_law_change" sLChange := by
  obtain ⟨fd, F⟩ := c.def_ 33 (d := dd "_law_change" sLChange) rfl
  exact ⟨_, fd, He.glo_ok X G (c.fact 33 (f := .glo "_law_change") rfl), F⟩
theorem stsLAgain (X : K.In h) (G : h.Ns mainGlobals mg) (c : He.SaysD fas fns K) : Stands K mg "_law_again" sLAgain := by
  obtain ⟨fd, F⟩ := c.def_ 34 (d := dd "_law_again" sLAgain) rfl
  exact ⟨_, fd, He.glo_ok X G (c.fact 34 (f := .glo "_law_again") rfl), F⟩
theorem stsLStep (X : K.In h) (G : h.Ns mainGlobals mg) (c : He.SaysD fas fns K) : Stands K mg "_law_step" sLStep := by
  obtain ⟨fd, F⟩ := c.def_ 35 (d := dd "_law_step" sLStep) rfl
  exact ⟨_, fd, He.glo_ok X G (c.fact 35 (f := .glo "_law_step") rfl), F⟩
theorem stsLRead (X : K.In h) (G : h.Ns mainGlobals mg) (c : He.SaysD fas fns K) : Stands K mg "_law_read" sLRead := by
  obtain ⟨fd, F⟩ := c.def_ 36 (d := dd "_law_read" sLRead) rfl
  exact ⟨_, fd, He.glo_ok X G (c.fact 36 (f := .glo "_law_read") rfl), F⟩
theorem stsLLine (X : K.In h) (G : h.Ns mainGlobals mg) (c : He.SaysD fas fns K) : Stands K mg "_law_line" sLLine := by
  obtain ⟨fd, F⟩ := c.def_ 37 (d := dd "_law_line" sLLine) rfl
  exact ⟨_, fd, He.glo_ok X G (c.fact 37 (f := .glo "_law_line") rfl), F⟩
theorem stsLWalk (X : K.In h) (G : h.Ns mainGlobals mg) (c : He.SaysD fas fns K) : Stands K mg "_law_walk" sLWalk := by
  obtain ⟨fd, F⟩ := c.def_ 38 (d := dd "_law_walk" sLWalk) rfl
  exact ⟨_, fd, He.glo_ok X G (c.fact 38 (f := .glo "_law_walk") rfl), F⟩
theorem stsLEvery (X : K.In h) (G : h.Ns mainGlobals mg) (c : He.SaysD fas fns K) : Stands K mg "_law_every" sLEvery := by
  obtain ⟨fd, F⟩ := c.def_ 39 (d := dd "_law_every" sLEvery) rfl
  exact ⟨_, fd, He.glo_ok X G (c.fact 39 (f := .glo "_law_every") rfl), F⟩
theorem stsLRow (X : K.In h) (G : h.Ns mainGlobals mg) (c : He.SaysD fas fns K) : Stands K mg "_law_row" sLRow := by
  obtain ⟨fd, F⟩ := c.def_ 40 (d := dd "_law_row" sLRow) rfl
  exact ⟨_, fd, He.glo_ok X G (c.fact 40 (f := .glo "_law_row") rfl), F⟩
theorem stsLBent (X : K.In h) (G : h.Ns mainGlobals mg) (c : He.SaysD fas fns K) : Stands K mg "_law_bent" sLBent := by
  obtain ⟨fd, F⟩ := c.def_ 41 (d := dd "_law_bent" sLBent) rfl
  exact ⟨_, fd, He.glo_ok X G (c.fact 41 (f := .glo "_law_bent") rfl), F⟩
theorem stsLRight (X : K.In h) (G : h.Ns mainGlobals mg) (c : He.SaysD fas fns K) : Stands K mg "_law_right" sLRight := by
  obtain ⟨fd, F⟩ := c.def_ 42 (d := dd "_law_right" sLRight) rfl
  exact ⟨_, fd, He.glo_ok X G (c.fact 42 (f := .glo "_law_right") rfl), F⟩
theorem stsLFreeRight (X : K.In h) (G : h.Ns mainGlobals mg) (c : He.SaysD fas fns K) : Stands K mg "_law_free_right" sLFreeRight := by
  obtain ⟨fd, F⟩ := c.def_ 43 (d := dd "_law_free_right" sLFreeRight) rfl
  exact ⟨_, fd, He.glo_ok X G (c.fact 43 (f := .glo "_law_free_right") rfl), F⟩
theorem stsLaw (X : K.In h) (G : h.Ns mainGlobals mg) (c : He.SaysD fas fns K) : Stands K mg "law" sLaw := by
  obtain ⟨fd, F⟩ := c.def_ 44 (d := dd "law" sLaw) rfl
  exact ⟨_, fd, He.glo_ok X G (c.fact 44 (f := .glo "law") rfl), F⟩
theorem law_fn {f : Addr} {fd : FuncData} (X : K.In h) (G : h.Ns mainGlobals mg) (c : He.SaysD fas fns K) (base : Heap) (F : FnP K "law" sLaw f fd) : FnOk P w K mg base CX0 10 f fd ["_law_script"] (spLaw K) := by
  have T := tx_of X G c
  have whole : Has P w K mg base _ _ 1 spIsWhole := ok_is_whole T (stsIsWhole X G c)
  have line : Has P w K mg base _ _ 1 spIsLine := ok_is_line T (stsIsLine X G c)
  have other : Has P w K mg base _ _ 1 spOther := ok_other T (stsOtherColour X G c)
  have mode : Has P w K mg base _ _ 2 spIsMode := ok_is_mode T (stsIsMode X G c) whole
  have full : Has P w K mg base _ _ 1 spIsFull := ok_is_full T (stsIsFull X G c)
  have ntell : Has P w K mg base _ _ 3 spNeedTelling := ok_need_telling T (stsNeedTelling X G c) mode
  have nwid : Has P w K mg base _ _ 2 spNeedWidth := ok_need_width T (stsNeedWidth X G c) whole
  have nbes : Has P w K mg base _ _ 4 spNeedBeside := ok_need_beside T (stsNeedBeside X G c) nwid ntell full
  have ntwo : Has P w K mg base _ _ 5 spNeedTwo := ok_need_two T (stsNeedTwo X G c) nwid nbes
  have cfrom : Has P w K mg base _ _ 1 spChangeFrom := ok_change_from T (stsChangeFrom X G c)
  have cback : Has P w K mg base _ _ 1 spChangeBack := ok_change_back T (stsChangeBack X G c)
  have after : Has P w K mg base _ _ 2 spAfterMode := ok_after_mode T (stsAfterMode X G c) cfrom cback other
  have dots : Has P w K mg base _ _ 2 spDotsOf := ok_dots_of T (stsDotsOf X G c) other
  have read : Has P w K mg base _ _ 3 spReadBeside := ok_read_beside T (stsReadBeside X G c) full after dots
  have begun : Has P w K mg base _ _ 1 spBegun := ok_begun_with T (stsBegunWith X G c)
  have chgs : Has P w K mg base _ _ 2 spChanges := ok_changes_from T (stsChangesFrom X G c) begun
  have bks : Has P w K mg base _ _ 1 spBacks := ok_backs_from T (stsBacksFrom X G c)
  have skp : Has P w K mg base _ _ 1 spSkipped := ok_skipped T (stsSkipped X G c)
  have stays : Has P w K mg base _ _ 3 spStays := ok_stays_from T (stsStaysFrom X G c) chgs skp
  have ends : Has P w K mg base _ _ 4 spEnds := ok_ends_from T (stsEndsFrom X G c) chgs skp stays bks
  have nexts : Has P w K mg base _ _ 5 spNexts := ok_next_states T (stsNextStates X G c) ends other dots
  have mby : Has P w K mg base _ _ 6 spManyBy := ok_many_by T (stsManyBy X G c) nexts
  have mright : Has P w K mg base _ _ 7 spManyRight := ok_many_right T (stsManyRight X G c) nbes mby
  have mtell : Has P w K mg base _ _ 7 spManyTelling := ok_many_telling T (stsManyTelling X G c) nbes mby line
  have lays : Has P w K mg base _ _ 6 (spLayers P w) := ok_layers_of T (stsLayersOf X G c) nexts
  have surei : Has P w K mg base _ _ 7 spSureIn := ok_sure_in T (stsSureIn X G c) nexts lays
  have sure : Has P w K mg base _ _ 8 spSure := ok_sure T (stsSure X G c) nwid ntell full surei
  have lines : Has P w K mg base _ _ 1 spLines := ok_lines_of_width T (stsLinesOfWidth X G c)
  have apart : Has P w K mg base _ _ 6 spApart := ok_apart T (stsApart X G c) ntwo lines read
  have alike : Has P w K mg base _ _ 7 spAlike := ok_alike T (stsAlike X G c) apart
  have mix : Has P w K mg base _ _ 1 spMix := ok_mix T (stsLMix X G c)
  have lbeg : Has P w K mg base _ _ 1 (spLBegun K) := ok_lbegun T (stsLBegun X G c)
  have draw : Has P w K mg base _ _ 2 spDraw := ok_draw T (stsLDraw X G c) mix
  have lchg : Has P w K mg base _ _ 1 spLChange := ok_lchange T (stsLChange X G c)
  have lag : Has P w K mg base _ _ 1 spLAgain := ok_lagain T (stsLAgain X G c)
  have lstep : Has P w K mg base _ _ 2 spLStep := ok_lstep T (stsLStep X G c) lchg lag
  have lread : Has P w K mg base _ _ 3 spLRead := ok_lread T (stsLRead X G c) lstep
  have lline : Has P w K mg base _ _ 3 spLLine := ok_lline T (stsLLine X G c) draw
  have lwalk : Has P w K mg base _ _ 3 spLWalk := ok_lwalk T (stsLWalk X G c) draw lstep
  have levery : Has P w K mg base _ _ 1 spLEvery := ok_levery T (stsLEvery X G c)
  have lrow : Has P w K mg base _ _ 1 spLRow := ok_lrow T (stsLRow X G c)
  have lbent : Has P w K mg base _ _ 3 spLBent := ok_lbent T (stsLBent X G c) draw
  have lright : Has P w K mg base _ _ 9 spLRight := ok_lright T (stsLRight X G c) draw lread lrow mright mtell sure
  have lfree : Has P w K mg base _ _ 9 spLFree := ok_lfree T (stsLFreeRight X G c) draw mright mtell sure
  exact ok_law T F lbeg draw levery lline lwalk lbent lright lfree apart alike
theorem facts {f : Addr} (X : K.In h) (G : h.Ns mainGlobals mg) (hfa : mg ("law" : Str) = some (.ref f)) (c : He.SaysD fas fns K) :
    ∃ fd : FuncData, (∀ (s : Shared) (v : Value), BindsTo s fd ⟨[v], []⟩ [("_law_script", v)]) ∧ ∀ base : Heap, K.In base → base.Ns mainGlobals mg → FnOk P w K mg base CX0 10 f fd ["_law_script"] (spLaw K) := by
  obtain ⟨f', fd, g, F⟩ := stsLaw X G c
  have e := hfa.symm.trans g
  cases e
  have b := FunD.bindsA (ps := ["_law_script"]) F fun _ _ _ _ _ _ us hl => match us, hl with | [_], _ => rfl
  exact ⟨fd, fun s v => b s [v] rfl, fun base _ _ => law_fn X G c base F⟩
end
end K77
open PySem PySem.W PySem.Calls PyProof.Rows
theorem PySem.Challenge.cw_faxhouse_k77_whole_sureness_by_all_lines_holds : PySem.Challenge.rw_faxhouse_k77_whole_sureness_by_all_lines.Holds := by
  w_on; o_law
  refine HandSHeadRun.head_any (r := OpenLaw.row PySem.Challenge.rw_faxhouse_k77_whole_sureness_by_all_lines) (q := view (OpenLaw.row PySem.Challenge.rw_faxhouse_k77_whole_sureness_by_all_lines).prog [66]) (H := K77.hk) (ob := K77.obs) (M := 6000) (loose := K77.loose1 ++ K77.loose2) (d := HandSHeadRun.topDef (OpenLaw.row PySem.Challenge.rw_faxhouse_k77_whole_sureness_by_all_lines).prog 66) (kwd := []) K77.obs_eq
    (by kernel_rfl) (fun s => by kernel_rfl) K77.run_top (by kernel_rfl) (by kernel_rfl) (by kernel_rfl) (by rfl) (by first | assumption | decide +kernel) (by decide +kernel) ⟨rfl, rfl, rfl, rfl, rfl, by decide +kernel⟩ ?hw ?hc
  case hw => w_witness2
  case hc =>
    refine L2.walk_ofE (l := PySem.Challenge.rw_faxhouse_k77_whole_sureness_by_all_lines) (n := 63) (k := 10) (x := "_law_script") (CX := L2.CX0) rfl (by decide) (by kernel_rfl) ⟨rfl, by decide, by decide⟩ ?F (fun _ _ _ _ z => z)
    intro w mg fa h Y G hmg0
    obtain ⟨K, KX, c⟩ := Y
    have hmg : mg ("law" : PySem.Str) = some (.ref fa) := by
      have e : (HandSHeadRun.topDef (OpenLaw.row PySem.Challenge.rw_faxhouse_k77_whole_sureness_by_all_lines).prog 66).name = ("law" : PySem.Str) := by kernel_rfl
      rw [← e]
      exact hmg0
    obtain ⟨fd, hb, hF⟩ := K77.facts (P := (PySem.Challenge.rw_faxhouse_k77_whole_sureness_by_all_lines).prog) (w := w) KX G hmg c
    exact ⟨K, fd, K77.spLaw K, KX, hb, fun H a ns hl _ hS => ⟨a, ns, rfl, hS, hl, fun _ => rfl⟩, hF⟩

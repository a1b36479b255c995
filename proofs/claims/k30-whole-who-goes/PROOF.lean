import PyProof.Rows.All
import Wide.All
import OpenK.AllK
import Wide.FinOn
import KE.KStateDown
import HandS.ForMost
import HandS.ForExc
import HandS.Flow
import HandS.Style
import HandS.IsInst
import HandS.Wide
import HandS.WideBits
import HandS.Strs
import HandS.SetFor
import HandS.SortOrd
import HandS.SortRule
import HandS.TupAny
import HandS.TupSets
import HandS.Steps
import HandS.Evl
import HandS.Defaults
import HandS.Conv
import HandS.Head0
import HandS.Head1
import HandS.Head2
import HandS.HeadEnd
import HandS.HeadHook1
import HandS.HeadHook2
import PySem.Challenge.RW_keelbond_k30_whole_who_goes_with_its_sha
set_option Elab.async false
set_option linter.all false
set_option maxRecDepth 100000
set_option maxHeartbeats 4000000
namespace KB
open PySem PySem.Spec PyProof.Rows L2
def top (i : Nat) : Stmt := PySem.Challenge.pw_keelbond_k30_whole_who_goes_with_its_sha.main.body.getD i (.Pass ⟨0, 0, 0, 0⟩)
abbrev s_common : Stmt := top 7
abbrev s_lowest : Stmt := top 8
abbrev s_plus : Stmt := top 9
abbrev s_less : Stmt := top 10
abbrev s_times : Stmt := top 11
abbrev s_over : Stmt := top 12
abbrev s_below : Stmt := top 13
abbrev s_lesser : Stmt := top 14
abbrev s_nought_row : Stmt := top 15
abbrev s_heaps : Stmt := top 17
abbrev s_within : Stmt := top 18
abbrev s_heap_worth : Stmt := top 19
abbrev s_places_within : Stmt := top 20
abbrev s_load_of : Stmt := top 21
abbrev s_over_its_worth : Stmt := top 22
abbrev s_overdrawn : Stmt := top 23
abbrev s_room_and_need : Stmt := top 25
abbrev s_measured : Stmt := top 26
abbrev s_least_fill : Stmt := top 27
abbrev s_halted : Stmt := top 28
abbrev s_filled : Stmt := top 29
abbrev s_ranks_of : Stmt := top 31
abbrev s_shared : Stmt := top 32
abbrev s_stations : Stmt := top 34
abbrev s_road : Stmt := top 35
abbrev s_load_on_road : Stmt := top 36
abbrev s_move : Stmt := top 37
abbrev s_table : Stmt := top 38
abbrev s_Lbag : Stmt := top 40
abbrev s_Lpull : Stmt := top 41
abbrev s_Lgcd : Stmt := top 42
abbrev s_Llow : Stmt := top 43
abbrev s_Lplus : Stmt := top 44
abbrev s_Ltimes : Stmt := top 45
abbrev s_Lbelow : Stmt := top 46
abbrev s_Lsum : Stmt := top 47
abbrev s_Lwhole : Stmt := top 48
abbrev s_Lpair : Stmt := top 49
abbrev s_Lpairs : Stmt := top 50
abbrev s_Lmany : Stmt := top 51
abbrev s_Lheap : Stmt := top 52
abbrev s_Lworths : Stmt := top 53
abbrev s_Ldue : Stmt := top 54
abbrev s_Lclaims : Stmt := top 55
abbrev s_Lceil : Stmt := top 56
abbrev s_Ltabled : Stmt := top 57
abbrev s_Lgood_row : Stmt := top 58
abbrev s_Lgood_table : Stmt := top 59
abbrev s_Lcase : Stmt := top 60
abbrev s_Lshared : Stmt := top 61
abbrev s_law : Stmt := top 62
abbrev FnP (K : PySem.W.Frag) (x : Str) (st : Stmt) (f : Addr) (fd : FuncData) : Prop := FunD K x x (defArgs st) (defBody st) (defScope st) [] [] f fd
def d_common : He.DefD := ⟨("common", none), "common", "common", defArgs s_common, defBody s_common, defScope s_common, [], []⟩
def d_lowest : He.DefD := ⟨("lowest", none), "lowest", "lowest", defArgs s_lowest, defBody s_lowest, defScope s_lowest, [], []⟩
def d_plus : He.DefD := ⟨("plus", none), "plus", "plus", defArgs s_plus, defBody s_plus, defScope s_plus, [], []⟩
def d_less : He.DefD := ⟨("less", none), "less", "less", defArgs s_less, defBody s_less, defScope s_less, [], []⟩
def d_times : He.DefD := ⟨("times", none), "times", "times", defArgs s_times, defBody s_times, defScope s_times, [], []⟩
def d_over : He.DefD := ⟨("over", none), "over", "over", defArgs s_over, defBody s_over, defScope s_over, [], []⟩
def d_below : He.DefD := ⟨("below", none), "below", "below", defArgs s_below, defBody s_below, defScope s_below, [], []⟩
def d_lesser : He.DefD := ⟨("lesser", none), "lesser", "lesser", defArgs s_lesser, defBody s_lesser, defScope s_lesser, [], []⟩
def d_nought_row : He.DefD := ⟨("nought_row", none), "nought_row", "nought_row", defArgs s_nought_row, defBody s_nought_row, defScope s_nought_row, [], []⟩
def d_heaps : He.DefD := ⟨("heaps", none), "heaps", "heaps", defArgs s_heaps, defBody s_heaps, defScope s_heaps, [], []⟩
def d_within : He.DefD := ⟨("within", none), "within", "within", defArgs s_within, defBody s_within, defScope s_within, [], []⟩
def d_heap_worth : He.DefD := ⟨("heap_worth", none), "heap_worth", "heap_worth", defArgs s_heap_worth, defBody s_heap_worth, defScope s_heap_worth, [], []⟩
def d_places_within : He.DefD := ⟨("places_within", none), "places_within", "places_within", defArgs s_places_within, defBody s_places_within, defScope s_places_within, [], []⟩
def d_load_of : He.DefD := ⟨("load_of", none), "load_of", "load_of", defArgs s_load_of, defBody s_load_of, defScope s_load_of, [], []⟩
def d_over_its_worth : He.DefD := ⟨("over_its_worth", none), "over_its_worth", "over_its_worth", defArgs s_over_its_worth, defBody s_over_its_worth, defScope s_over_its_worth, [], []⟩
def d_overdrawn : He.DefD := ⟨("overdrawn", none), "overdrawn", "overdrawn", defArgs s_overdrawn, defBody s_overdrawn, defScope s_overdrawn, [], []⟩
def d_room_and_need : He.DefD := ⟨("room_and_need", none), "room_and_need", "room_and_need", defArgs s_room_and_need, defBody s_room_and_need, defScope s_room_and_need, [], []⟩
def d_measured : He.DefD := ⟨("measured", none), "measured", "measured", defArgs s_measured, defBody s_measured, defScope s_measured, [], []⟩
def d_least_fill : He.DefD := ⟨("least_fill", none), "least_fill", "least_fill", defArgs s_least_fill, defBody s_least_fill, defScope s_least_fill, [], []⟩
def d_halted : He.DefD := ⟨("halted", none), "halted", "halted", defArgs s_halted, defBody s_halted, defScope s_halted, [], []⟩
def d_filled : He.DefD := ⟨("filled", none), "filled", "filled", defArgs s_filled, defBody s_filled, defScope s_filled, [], []⟩
def d_ranks_of : He.DefD := ⟨("ranks_of", none), "ranks_of", "ranks_of", defArgs s_ranks_of, defBody s_ranks_of, defScope s_ranks_of, [], []⟩
def d_shared : He.DefD := ⟨("shared", none), "shared", "shared", defArgs s_shared, defBody s_shared, defScope s_shared, [], []⟩
def d_stations : He.DefD := ⟨("stations", none), "stations", "stations", defArgs s_stations, defBody s_stations, defScope s_stations, [], []⟩
def d_road : He.DefD := ⟨("road", none), "road", "road", defArgs s_road, defBody s_road, defScope s_road, [], []⟩
def d_load_on_road : He.DefD := ⟨("load_on_road", none), "load_on_road", "load_on_road", defArgs s_load_on_road, defBody s_load_on_road, defScope s_load_on_road, [], []⟩
def d_move : He.DefD := ⟨("move", none), "move", "move", defArgs s_move, defBody s_move, defScope s_move, [], []⟩
def d_table : He.DefD := ⟨("table", none), "table", "table", defArgs s_table, defBody s_table, defScope s_table, [], []⟩
def d_Lbag : He.DefD := ⟨("_law_bag", none), "_law_bag", "_law_bag", defArgs s_Lbag, defBody s_Lbag, defScope s_Lbag, [], []⟩
def d_Lpull : He.DefD := ⟨("_law_pull", none), "_law_pull", "_law_pull", defArgs s_Lpull, defBody s_Lpull, defScope s_Lpull, [], []⟩
def d_Lgcd : He.DefD := ⟨("_law_gcd", none), "_law_gcd", "_law_gcd", defArgs s_Lgcd, defBody s_Lgcd, defScope s_Lgcd, [], []⟩
def d_Llow : He.DefD := ⟨("_law_low", none), "_law_low", "_law_low", defArgs s_Llow, defBody s_Llow, defScope s_Llow, [], []⟩
def d_Lplus : He.DefD := ⟨("_law_plus", none), "_law_plus", "_law_plus", defArgs s_Lplus, defBody s_Lplus, defScope s_Lplus, [], []⟩
def d_Ltimes : He.DefD := ⟨("_law_times", none), "_law_times", "_law_times", defArgs s_Ltimes, defBody s_Ltimes, defScope s_Ltimes, [], []⟩
def d_Lbelow : He.DefD := ⟨("_law_below", none), "_law_below", "_law_below", defArgs s_Lbelow, defBody s_Lbelow, defScope s_Lbelow, [], []⟩
def d_Lsum : He.DefD := ⟨("_law_sum", none), "_law_sum", "_law_sum", defArgs s_Lsum, defBody s_Lsum, defScope s_Lsum, [], []⟩
def d_Lwhole : He.DefD := ⟨("_law_whole", none), "_law_whole", "_law_whole", defArgs s_Lwhole, defBody s_Lwhole, defScope s_Lwhole, [], []⟩
def d_Lpair : He.DefD := ⟨("_law_pair", none), "_law_pair", "_law_pair", defArgs s_Lpair, defBody s_Lpair, defScope s_Lpair, [], []⟩
def d_Lpairs : He.DefD := ⟨("_law_pairs", none), "_law_pairs", "_law_pairs", defArgs s_Lpairs, defBody s_Lpairs, defScope s_Lpairs, [], []⟩
def d_Lmany : He.DefD := ⟨("_law_many", none), "_law_many", "_law_many", defArgs s_Lmany, defBody s_Lmany, defScope s_Lmany, [], []⟩
def d_Lheap : He.DefD := ⟨("_law_heap", none), "_law_heap", "_law_heap", defArgs s_Lheap, defBody s_Lheap, defScope s_Lheap, [], []⟩
def d_Lworths : He.DefD := ⟨("_law_worths", none), "_law_worths", "_law_worths", defArgs s_Lworths, defBody s_Lworths, defScope s_Lworths, [], []⟩
def d_Ldue : He.DefD := ⟨("_law_due", none), "_law_due", "_law_due", defArgs s_Ldue, defBody s_Ldue, defScope s_Ldue, [], []⟩
def d_Lclaims : He.DefD := ⟨("_law_claims", none), "_law_claims", "_law_claims", defArgs s_Lclaims, defBody s_Lclaims, defScope s_Lclaims, [], []⟩
def d_Lceil : He.DefD := ⟨("_law_ceil", none), "_law_ceil", "_law_ceil", defArgs s_Lceil, defBody s_Lceil, defScope s_Lceil, [], []⟩
def d_Ltabled : He.DefD := ⟨("_law_tabled", none), "_law_tabled", "_law_tabled", defArgs s_Ltabled, defBody s_Ltabled, defScope s_Ltabled, [], []⟩
def d_Lgood_row : He.DefD := ⟨("_law_good_row", none), "_law_good_row", "_law_good_row", defArgs s_Lgood_row, defBody s_Lgood_row, defScope s_Lgood_row, [], []⟩
def d_Lgood_table : He.DefD := ⟨("_law_good_table", none), "_law_good_table", "_law_good_table", defArgs s_Lgood_table, defBody s_Lgood_table, defScope s_Lgood_table, [], []⟩
def d_Lcase : He.DefD := ⟨("_law_case", none), "_law_case", "_law_case", defArgs s_Lcase, defBody s_Lcase, defScope s_Lcase, [], []⟩
def d_Lshared : He.DefD := ⟨("_law_shared", none), "_law_shared", "_law_shared", defArgs s_Lshared, defBody s_Lshared, defScope s_Lshared, [], []⟩
def d_law : He.DefD := ⟨("law", none), "law", "law", defArgs s_law, defBody s_law, defScope s_law, [], []⟩
def fn : List He.DefD := [d_common, d_lowest, d_plus, d_less, d_times, d_over, d_below, d_lesser, d_nought_row, d_heaps, d_within, d_heap_worth, d_places_within, d_load_of, d_over_its_worth, d_overdrawn, d_room_and_need, d_measured, d_least_fill, d_halted, d_filled, d_ranks_of, d_shared, d_stations, d_road] ++ [d_load_on_road, d_move, d_table, d_Lbag, d_Lpull, d_Lgcd, d_Llow, d_Lplus, d_Ltimes, d_Lbelow, d_Lsum, d_Lwhole, d_Lpair, d_Lpairs, d_Lmany, d_Lheap, d_Lworths, d_Ldue, d_Lclaims, d_Lceil, d_Ltabled, d_Lgood_row, d_Lgood_table, d_Lcase, d_Lshared, d_law]
def fa : List He.Fa := [.glo "common", .glo "lowest", .glo "plus", .glo "less", .glo "times", .glo "over", .glo "below", .glo "lesser", .glo "nought_row", .glo "heaps", .glo "within", .glo "heap_worth", .glo "places_within", .glo "load_of", .glo "over_its_worth", .glo "overdrawn", .glo "room_and_need", .glo "measured", .glo "least_fill", .glo "halted", .glo "filled", .glo "ranks_of", .glo "shared", .glo "stations", .glo "road", .glo "load_on_road", .glo "move", .glo "table", .glo "_law_bag", .glo "_law_pull"] ++ [.glo "_law_gcd", .glo "_law_low", .glo "_law_plus", .glo "_law_times", .glo "_law_below", .glo "_law_sum", .glo "_law_whole", .glo "_law_pair", .glo "_law_pairs", .glo "_law_many", .glo "_law_heap", .glo "_law_worths", .glo "_law_due", .glo "_law_claims", .glo "_law_ceil", .glo "_law_tabled", .glo "_law_good_row", .glo "_law_good_table", .glo "_law_case", .glo "_law_shared", .glo "law", .glo "NOUGHT", .glo "WHOLE", .free "abs", .free "range", .free "sorted", .free "sum", .free "len", .free "set", .free "list", .free "isinstance", .free "int", .free "bool", .free "tuple", .free "all", .free "min"]
def bit (K : PySem.W.Frag) : Bool := He.tupB K "NOUGHT" [.int 0, .int 1] && He.tupB K "WHOLE" [.int 1, .int 1]
/-- what the top has left -/
structure Txt (K : PySem.W.Frag) (mg : Str → Option Value) : Prop where
  hp : ∃ h : Heap, K.In h ∧ h.Ns mainGlobals mg
  c : He.SaysD fa fn K
  b : bit K = true
theorem Txt.glo {K : PySem.W.Frag} {mg : Str → Option Value} (T : Txt K mg) (i : Nat) {x : Str} (h : fa[i]? = some (.glo x)) : mg x = some (.ref (He.ga K x)) := by
  obtain ⟨hp, X, G⟩ := T.hp
  exact He.glo_ok X G (T.c.fact i h)
theorem Txt.free {K : PySem.W.Frag} {mg : Str → Option Value} (T : Txt K mg) (i : Nat) {x : Str} (h : fa[i]? = some (.free x)) : mg x = none := by
  obtain ⟨hp, X, G⟩ := T.hp
  exact He.free_ok X G (T.c.fact i h)
theorem Txt.nought {K : PySem.W.Frag} {mg : Str → Option Value} (T : Txt K mg) (H : Hp) : SqT K H (He.ga K "NOUGHT") [.int 0, .int 1] := He.tupB_ok (He.ba T.b).1 H
theorem Txt.whole {K : PySem.W.Frag} {mg : Str → Option Value} (T : Txt K mg) (H : Hp) : SqT K H (He.ga K "WHOLE") [.int 1, .int 1] := He.tupB_ok (He.ba T.b).2 H
end KB

/-! Sums over the first n numbers; claims, heaps, rows. -/
namespace KB
/-- sum of f over 0 .. n - 1 -/
def sm : Nat → (Nat → Rat) → Rat
  | 0, _ => 0
  | n + 1, f => sm n f + f n
theorem sm_congr {f g : Nat → Rat} : ∀ {n : Nat}, (∀ i, i < n → f i = g i) → sm n f = sm n g
  | 0, _ => rfl
  | n + 1, h => by
    show sm n f + f n = sm n g + g n
    rw [sm_congr (fun i hi => h i (by omega)), h n (by omega)]
theorem sm_le {f g : Nat → Rat} : ∀ {n : Nat}, (∀ i, i < n → f i ≤ g i) → sm n f ≤ sm n g
  | 0, _ => Rat.le_refl
  | n + 1, h => by
    show sm n f + f n ≤ sm n g + g n
    have a := sm_le (n := n) (fun i hi => h i (by omega))
    have b := h n (by omega)
    grind
theorem sm_nonneg {f : Nat → Rat} {n : Nat} (h : ∀ i, i < n → 0 ≤ f i) : 0 ≤ sm n f := by
  induction n with
  | zero => exact Rat.le_refl
  | succ n ih =>
    show 0 ≤ sm n f + f n
    have a := ih (fun i hi => h i (by omega))
    have b := h n (by omega)
    grind
theorem sm_lt {f g : Nat → Rat} : ∀ {n : Nat} {k : Nat}, (∀ i, i < n → f i ≤ g i) → k < n → f k < g k → sm n f < sm n g
  | 0, k, _, h, _ => by omega
  | n + 1, k, h, hk, hl => by
    show sm n f + f n < sm n g + g n
    by_cases e : k = n
    · subst e
      have a := sm_le (n := k) (fun i hi => h i (by omega))
      grind
    · have a := sm_lt (n := n) (k := k) (fun i hi => h i (by omega)) (by omega) hl
      have b := h n (by omega)
      grind
theorem sm_add (f g : Nat → Rat) : ∀ n : Nat, sm n (fun i => f i + g i) = sm n f + sm n g
  | 0 => by show (0 : Rat) = 0 + 0; grind
  | n + 1 => by
    show sm n (fun i => f i + g i) + (f n + g n) = sm n f + f n + (sm n g + g n)
    rw [sm_add f g n]
    grind
theorem sm_sub (f g : Nat → Rat) : ∀ n : Nat, sm n (fun i => f i - g i) = sm n f - sm n g
  | 0 => by show (0 : Rat) = 0 - 0; grind
  | n + 1 => by
    show sm n (fun i => f i - g i) + (f n - g n) = sm n f + f n - (sm n g + g n)
    rw [sm_sub f g n]
    grind
theorem sm_mul (c : Rat) (f : Nat → Rat) : ∀ n : Nat, sm n (fun i => c * f i) = c * sm n f
  | 0 => by show (0 : Rat) = c * 0; grind
  | n + 1 => by
    show sm n (fun i => c * f i) + c * f n = c * (sm n f + f n)
    rw [sm_mul c f n]
    grind
theorem sm_zero {f : Nat → Rat} {n : Nat} (h : ∀ i, i < n → f i = 0) : sm n f = 0 := by
  induction n with
  | zero => rfl
  | succ n ih =>
    show sm n f + f n = 0
    rw [ih (fun i hi => h i (by omega)), h n (by omega)]
    grind
/-- one term apart -/
theorem sm_one {f : Nat → Rat} {n k : Nat} (hk : k < n) : sm n f = sm n (fun i => if i = k then 0 else f i) + f k := by
  induction n with
  | zero => omega
  | succ n ih =>
    show sm n f + f n = sm n (fun i => if i = k then 0 else f i) + (if n = k then 0 else f n) + f k
    by_cases e : k = n
    · subst e
      rw [if_pos rfl, sm_congr (n := k) (f := fun i => if i = k then 0 else f i) (g := f) (fun i hi => if_neg (by omega))]
      grind
    · rw [ih (by omega), if_neg (by omega)]
      grind
theorem sm_le_one {f : Nat → Rat} {n k : Nat} (hk : k < n) (h : ∀ i, i < n → 0 ≤ f i) : f k ≤ sm n f := by
  rw [sm_one hk]
  have : 0 ≤ sm n (fun i => if i = k then 0 else f i) := sm_nonneg fun i hi => by
    show 0 ≤ if i = k then 0 else f i
    split
    · exact Rat.le_refl
    · exact h i hi
  grind
/-- a nonnegative sum that is nothing -/
theorem sm_all_zero {f : Nat → Rat} {n : Nat} (h : ∀ i, i < n → 0 ≤ f i) (e : sm n f ≤ 0) {k : Nat} (hk : k < n) : f k = 0 := by
  have a := sm_le_one hk h
  have b := h k hk
  grind
theorem sm_swap (f : Nat → Nat → Rat) : ∀ n m : Nat, sm n (fun i => sm m (fun j => f i j)) = sm m (fun j => sm n (fun i => f i j))
  | 0, m => (sm_zero (fun _ _ => rfl)).symm
  | n + 1, m => by
    show sm n (fun i => sm m (fun j => f i j)) + sm m (fun j => f n j) = sm m (fun j => sm n (fun i => f i j) + f n j)
    rw [sm_swap f n m, sm_add]
/-- the index without at -/
def skip (at_ i : Nat) : Nat := if i < at_ then i else i + 1
theorem sm_skip (f : Nat → Rat) {at_ : Nat} : ∀ {n : Nat}, at_ < n + 1 → sm n (fun i => f (skip at_ i)) = sm (n + 1) f - f at_
  | 0, h => by
    have : at_ = 0 := by omega
    subst this
    show (0 : Rat) = 0 + f 0 - f 0
    grind
  | n + 1, h => by
    show sm n (fun i => f (skip at_ i)) + f (skip at_ n) = sm (n + 1) f + f (n + 1) - f at_
    by_cases e : at_ = n + 1
    · subst e
      have e2 : sm n (fun i => f (skip (n + 1) i)) = sm n f := sm_congr fun i hi => by
        unfold skip
        rw [if_pos (by omega)]
      rw [e2]
      unfold skip
      rw [if_pos (by omega)]
      show sm n f + f n = sm n f + f n + f (n + 1) - f (n + 1)
      grind
    · rw [sm_skip f (n := n) (by omega)]
      unfold skip
      rw [if_neg (by omega)]
      grind
theorem sm_indicator {f : Nat → Rat} {n k : Nat} (hk : k < n) : sm n (fun i => if i = k then f i else 0) = f k := by
  rw [sm_one hk, if_pos rfl, sm_zero]
  · grind
  · intro i hi
    show (if i = k then (0 : Rat) else if i = k then f i else 0) = 0
    split <;> rfl
/-- the least by f among those of which P -/
theorem least {P : Nat → Prop} (f : Nat → Rat) : ∀ {n : Nat}, (∃ i, i < n ∧ P i) → ∃ i, i < n ∧ P i ∧ ∀ j, j < n → P j → f i ≤ f j
  | 0, h => by obtain ⟨i, hi, _⟩ := h; omega
  | n + 1, h => by
    by_cases a : ∃ i, i < n ∧ P i
    · obtain ⟨i, hi, pi, m⟩ := least f a
      by_cases b : P n ∧ f n < f i
      · refine ⟨n, by omega, b.1, fun j hj pj => ?_⟩
        by_cases e : j = n
        · subst e; exact Rat.le_refl
        · have := m j (by omega) pj
          have := b.2
          grind
      · refine ⟨i, by omega, pi, fun j hj pj => ?_⟩
        by_cases e : j = n
        · subst e
          have : ¬ f j < f i := fun q => b ⟨pj, q⟩
          grind
        · exact m j (by omega) pj
    · obtain ⟨i, hi, pi⟩ := h
      have e : i = n := by
        by_cases q : i = n
        · exact q
        · exact absurd ⟨i, by omega, pi⟩ a
      subst e
      refine ⟨i, by omega, pi, fun j hj pj => ?_⟩
      by_cases e : j = i
      · subst e; exact Rat.le_refl
      · exact absurd ⟨j, by omega, pj⟩ a

/-! ### claims -/
/-- a case: m funds of worth w, n claims -/
structure Cs where
  m : Nat
  n : Nat
  w : Nat → Rat
  due : Nat → Rat
  tou : Nat → List Nat
  rk : Nat → Int
/-- a heap as a test -/
abbrev Hs := Nat → Bool
/-- a claim lies within a heap -/
def inn (t : List Nat) (h : Hs) : Bool := t.all h
theorem inn_iff {t : List Nat} {h : Hs} : inn t h = true ↔ ∀ p, p ∈ t → h p = true := by
  unfold inn
  rw [List.all_eq_true]
namespace Cs
def W (c : Cs) (h : Hs) : Rat := sm c.m fun f => if h f = true then c.w f else 0
/-- the load of a heap by what the claims in B are paid -/
def ld (c : Cs) (B : Nat → Prop) [DecidablePred B] (p : Nat → Rat) (h : Hs) : Rat := sm c.n fun i => if inn (c.tou i) h = true ∧ B i then p i else 0
def load (c : Cs) (p : Nat → Rat) (h : Hs) : Rat := sm c.n fun i => if inn (c.tou i) h = true then p i else 0
structure Ok (c : Cs) : Prop where
  w0 : ∀ f, f < c.m → 0 ≤ c.w f
  due0 : ∀ i, i < c.n → 0 ≤ c.due i
  tou : ∀ i, i < c.n → ∀ p, p ∈ c.tou i → p < c.m
  nd : ∀ i, i < c.n → (c.tou i).Nodup
structure Row (c : Cs) (p : Nat → Rat) : Prop where
  nn : ∀ i, i < c.n → 0 ≤ p i
  le : ∀ i, i < c.n → p i ≤ c.due i
/-- can be paid -/
def Pay (c : Cs) (p : Nat → Rat) : Prop := ∀ h : Hs, c.load p h ≤ c.W h
/-- ahead of the claim i, or like it and no better off -/
def ah (c : Cs) (p : Nat → Rat) (i j : Nat) : Prop := c.rk j < c.rk i ∨ (c.rk j = c.rk i ∧ p j * c.due i ≤ p i * c.due j)
instance (c : Cs) (p : Nat → Rat) (i j : Nat) : Decidable (c.ah p i j) := by unfold ah; infer_instance
def Pap (c : Cs) (p : Nat → Rat) (i : Nat) : Prop := ∃ h : Hs, inn (c.tou i) h = true ∧ c.W h = c.ld (c.ah p i) p h
/-- the sharing out: can be paid, a paper for each that falls short -/
structure Sh (c : Cs) (p : Nat → Rat) : Prop extends Row c p where
  pay : c.Pay p
  pap : ∀ i, i < c.n → p i < c.due i → c.Pap p i
end Cs
end KB

namespace KB
theorem div_cross {a b c d : Rat} (hb : 0 < b) (hd : 0 < d) (h : a / b ≤ c / d) : a * d ≤ c * b := by
  have h1 : a / b * (b * d) ≤ c / d * (b * d) := Rat.mul_le_mul_of_nonneg_right h (Rat.mul_nonneg (Rat.le_of_lt hb) (Rat.le_of_lt hd))
  have e1 : a / b * b = a := Rat.div_mul_cancel (by grind)
  have e2 : c / d * d = c := Rat.div_mul_cancel (by grind)
  have e3 : a / b * (b * d) = a * d := by rw [← Rat.mul_assoc, e1]
  have e4 : c / d * (b * d) = c * b := by rw [Rat.mul_comm b d, ← Rat.mul_assoc, e2]
  rw [e3, e4] at h1
  exact h1
namespace Cs
variable {c : Cs} {p q : Nat → Rat}
theorem core (hp : c.Sh p) (hq : c.Sh q) {i : Nat} (hi : i < c.n) (hl : p i < q i) (hr : ∀ j, j < c.n → p j ≠ q j → c.rk i ≤ c.rk j)
    (hm : ∀ j, j < c.n → p j ≠ q j → c.rk j = c.rk i → p i * c.due j ≤ q j * c.due i) : False := by
  have hdi : 0 < c.due i := by
    have a := hq.le i hi
    have b := hp.nn i hi
    grind
  obtain ⟨h, hin, hW⟩ := hp.pap i hi (by have := hq.le i hi; grind)
  have step : c.ld (c.ah p i) p h < c.load q h := by
    unfold ld load
    refine sm_lt (k := i) (fun j hj => ?_) hi ?_
    · by_cases e1 : inn (c.tou j) h = true
      · by_cases e2 : c.ah p i j
        · rw [if_pos ⟨e1, e2⟩, if_pos e1]
          by_cases e3 : p j = q j
          · rw [e3]; exact Rat.le_refl
          · have r := hr j hj e3
            rcases e2 with e2 | ⟨e2, e4⟩
            · omega
            · have e5 := hm j hj e3 e2
              have e6 : p j * c.due i ≤ q j * c.due i := Rat.le_trans e4 e5
              exact Rat.le_of_mul_le_mul_right e6 hdi
        · rw [if_neg (fun z => e2 z.2), if_pos e1]
          exact hq.nn j hj
      · rw [if_neg (fun z => e1 z.1), if_neg e1]
        exact Rat.le_refl
    · have e2 : c.ah p i i := .inr ⟨rfl, Rat.le_refl⟩
      rw [if_pos ⟨hin, e2⟩, if_pos hin]
      exact hl
  have := hq.pay h
  grind
theorem uniq (hp : c.Sh p) (hq : c.Sh q) : ∀ i, i < c.n → p i = q i := by
  intro k hk
  by_cases hne : p k = q k
  · exact hne
  exfalso
  obtain ⟨i0, hi0, pi0, m0⟩ := least (P := fun j => p j ≠ q j) (fun j => ((c.rk j : Int) : Rat)) ⟨k, hk, hne⟩
  have m0' : ∀ j, j < c.n → p j ≠ q j → c.rk i0 ≤ c.rk j := fun j hj pj => Rat.intCast_le_intCast.mp (m0 j hj pj)
  obtain ⟨i, hi, ⟨pi, ri⟩, m1⟩ := least (P := fun j => p j ≠ q j ∧ c.rk j = c.rk i0) (fun j => min (p j) (q j) / c.due j) ⟨i0, hi0, pi0, rfl⟩
  have pos : ∀ j, j < c.n → p j ≠ q j → 0 < c.due j := fun j hj pj => by
    have a := hp.le j hj
    have b := hp.nn j hj
    have a2 := hq.le j hj
    have b2 := hq.nn j hj
    grind
  have hm : ∀ j, j < c.n → p j ≠ q j → c.rk j = c.rk i → min (p i) (q i) * c.due j ≤ min (p j) (q j) * c.due i := fun j hj pj rj =>
    div_cross (pos i hi pi) (pos j hj pj) (m1 j hj ⟨pj, by omega⟩)
  have mul_le : ∀ {a b d : Rat}, a ≤ b → 0 < d → a * d ≤ b * d := fun h hd => Rat.mul_le_mul_of_nonneg_right h (Rat.le_of_lt hd)
  by_cases hl : p i < q i
  · refine core hp hq hi hl (fun j hj pj => by have := m0' j hj pj; omega) fun j hj pj rj => ?_
    have a := hm j hj pj rj
    have b : min (p i) (q i) = p i := by grind
    rw [b] at a
    exact Rat.le_trans a (mul_le (by grind) (pos i hi pi))
  · have hl2 : q i < p i := by grind
    refine core hq hp hi hl2 (fun j hj pj => by have := m0' j hj (fun z => pj z.symm); omega) fun j hj pj rj => ?_
    have a := hm j hj (fun z => pj z.symm) rj
    have b : min (p i) (q i) = q i := by grind
    rw [b] at a
    exact Rat.le_trans a (mul_le (by grind) (pos i hi pi))

/-- a table of a row -/
structure Tab (c : Cs) (p : Nat → Rat) (T : Nat → Nat → Rat) : Prop where
  nn : ∀ i f, i < c.n → f < c.m → 0 ≤ T i f
  zero : ∀ i f, i < c.n → f < c.m → f ∉ c.tou i → T i f = 0
  sum : ∀ i, i < c.n → sm c.m (fun f => T i f) = p i
  col : ∀ f, f < c.m → sm c.n (fun i => T i f) ≤ c.w f
/-- the case without the claim at_, with what it takes along, in coins of 1 / D -/
def red (c : Cs) (T : Nat → Nat → Rat) (at_ : Nat) (D : Rat) : Cs where
  m := c.m
  n := c.n - 1
  w := fun f => D * (c.w f - T at_ f)
  due := fun i => D * c.due (skip at_ i)
  tou := fun i => c.tou (skip at_ i)
  rk := fun i => c.rk (skip at_ i)
variable {T : Nat → Nat → Rat}
/-- within a heap a claim is paid out of the heap alone -/
theorem Tab.inside (t : c.Tab p T) {i : Nat} (hi : i < c.n) {h : Hs} (hin : inn (c.tou i) h = true) : sm c.m (fun f => if h f = true then T i f else 0) = p i := by
  rw [← t.sum i hi]
  refine sm_congr fun f hf => ?_
  by_cases e : h f = true
  · exact if_pos e
  · rw [if_neg e, t.zero i f hi hf (fun z => e (inn_iff.mp hin f z))]
theorem skip_lt {n at_ i : Nat} (h : i < n - 1) : skip at_ i < n := by
  unfold skip
  split <;> omega
theorem skip_ne {at_ i : Nat} : skip at_ i ≠ at_ := by
  unfold skip
  split <;> omega
theorem red_pay (t : c.Tab p T) {at_ : Nat} (hat : at_ < c.n) {D : Rat} (hD : 0 < D) : (c.red T at_ D).Pay (fun i => D * p (skip at_ i)) := by
  intro h
  obtain ⟨k, hk⟩ : ∃ k, c.n = k + 1 := ⟨c.n - 1, by omega⟩
  have e1 : (c.red T at_ D).load (fun i => D * p (skip at_ i)) h = D * sm (c.n - 1) (fun i => if inn (c.tou (skip at_ i)) h = true then p (skip at_ i) else 0) := by
    rw [← sm_mul]
    refine sm_congr fun i _ => ?_
    show (if inn (c.tou (skip at_ i)) h = true then D * p (skip at_ i) else 0) = D * (if inn (c.tou (skip at_ i)) h = true then p (skip at_ i) else 0)
    split
    · rfl
    · grind
  have e2 : (c.red T at_ D).W h = D * (c.W h - sm c.m (fun f => if h f = true then T at_ f else 0)) := by
    unfold W
    rw [← sm_sub, ← sm_mul]
    refine sm_congr fun f _ => ?_
    show (if h f = true then D * (c.w f - T at_ f) else 0) = D * ((if h f = true then c.w f else 0) - (if h f = true then T at_ f else 0))
    split <;> grind
  rw [e1, e2]
  refine Rat.mul_le_mul_of_nonneg_left ?_ (Rat.le_of_lt hD)
  have e3 : sm (c.n - 1) (fun i => if inn (c.tou (skip at_ i)) h = true then p (skip at_ i) else 0) = c.load p h - (if inn (c.tou at_) h = true then p at_ else 0) := by
    unfold load
    rw [hk]
    exact sm_skip (fun i => if inn (c.tou i) h = true then p i else 0) (by omega)
  have e4 : sm (c.n - 1) (fun i => if inn (c.tou (skip at_ i)) h = true then p (skip at_ i) else 0) ≤ sm (c.n - 1) (fun i => sm c.m (fun f => if h f = true then T (skip at_ i) f else 0)) := by
    refine sm_le fun i hi => ?_
    have hs := skip_lt (at_ := at_) hi
    by_cases e : inn (c.tou (skip at_ i)) h = true
    · rw [if_pos e, t.inside hs e]
      exact Rat.le_refl
    · rw [if_neg e]
      refine sm_nonneg fun f hf => ?_
      split
      · exact t.nn _ _ hs hf
      · exact Rat.le_refl
  have e5 : sm (c.n - 1) (fun i => sm c.m (fun f => if h f = true then T (skip at_ i) f else 0)) = sm c.n (fun i => sm c.m (fun f => if h f = true then T i f else 0)) - sm c.m (fun f => if h f = true then T at_ f else 0) := by
    rw [hk]
    exact sm_skip (fun i => sm c.m (fun f => if h f = true then T i f else 0)) (by omega)
  have e6 : sm c.n (fun i => sm c.m (fun f => if h f = true then T i f else 0)) ≤ c.W h := by
    rw [sm_swap]
    refine sm_le fun f hf => ?_
    by_cases e : h f = true
    · rw [sm_congr (g := fun i => T i f) (fun i _ => if_pos e), if_pos e]
      exact t.col f hf
    · rw [sm_zero (fun i _ => if_neg e), if_neg e]
      exact Rat.le_refl
  grind
theorem red_pap (hs : c.Row p) (t : c.Tab p T) {at_ : Nat} (hat : at_ < c.n) {D : Rat} (hD : 0 < D) {i : Nat} (hi : i < c.n - 1) (pp : c.Pap p (skip at_ i)) : (c.red T at_ D).Pap (fun i => D * p (skip at_ i)) i := by
  obtain ⟨h, hin, hW⟩ := pp
  obtain ⟨k, hk⟩ : ∃ k, c.n = k + 1 := ⟨c.n - 1, by omega⟩
  refine ⟨h, hin, ?_⟩
  have e2 : (c.red T at_ D).W h = D * (c.W h - sm c.m (fun f => if h f = true then T at_ f else 0)) := by
    unfold W
    rw [← sm_sub, ← sm_mul]
    refine sm_congr fun f _ => ?_
    show (if h f = true then D * (c.w f - T at_ f) else 0) = D * ((if h f = true then c.w f else 0) - (if h f = true then T at_ f else 0))
    split <;> grind
  have ahi : ∀ j, (c.red T at_ D).ah (fun i => D * p (skip at_ i)) i j ↔ c.ah p (skip at_ i) (skip at_ j) := fun j => by
    show (c.rk (skip at_ j) < c.rk (skip at_ i) ∨ (c.rk (skip at_ j) = c.rk (skip at_ i) ∧ D * p (skip at_ j) * (D * c.due (skip at_ i)) ≤ D * p (skip at_ i) * (D * c.due (skip at_ j)))) ↔
      (c.rk (skip at_ j) < c.rk (skip at_ i) ∨ (c.rk (skip at_ j) = c.rk (skip at_ i) ∧ p (skip at_ j) * c.due (skip at_ i) ≤ p (skip at_ i) * c.due (skip at_ j)))
    have z : D * p (skip at_ j) * (D * c.due (skip at_ i)) ≤ D * p (skip at_ i) * (D * c.due (skip at_ j)) ↔ p (skip at_ j) * c.due (skip at_ i) ≤ p (skip at_ i) * c.due (skip at_ j) := by
      have r1 : D * p (skip at_ j) * (D * c.due (skip at_ i)) = D * D * (p (skip at_ j) * c.due (skip at_ i)) := by grind
      have r2 : D * p (skip at_ i) * (D * c.due (skip at_ j)) = D * D * (p (skip at_ i) * c.due (skip at_ j)) := by grind
      rw [r1, r2]
      have hDD := Rat.mul_pos hD hD
      exact ⟨fun z => Rat.le_of_mul_le_mul_left z hDD, fun z => Rat.mul_le_mul_of_nonneg_left z (Rat.le_of_lt hDD)⟩
    rw [z]
  have e1 : (c.red T at_ D).ld ((c.red T at_ D).ah (fun i => D * p (skip at_ i)) i) (fun i => D * p (skip at_ i)) h = D * sm (c.n - 1) (fun j => if inn (c.tou (skip at_ j)) h = true ∧ c.ah p (skip at_ i) (skip at_ j) then p (skip at_ j) else 0) := by
    rw [← sm_mul]
    refine sm_congr fun j _ => ?_
    show (if inn (c.tou (skip at_ j)) h = true ∧ (c.red T at_ D).ah (fun i => D * p (skip at_ i)) i j then D * p (skip at_ j) else 0) = D * (if inn (c.tou (skip at_ j)) h = true ∧ c.ah p (skip at_ i) (skip at_ j) then p (skip at_ j) else 0)
    by_cases e : inn (c.tou (skip at_ j)) h = true ∧ c.ah p (skip at_ i) (skip at_ j)
    · rw [if_pos e, if_pos ⟨e.1, (ahi j).mpr e.2⟩]
    · rw [if_neg e, if_neg (fun z => e ⟨z.1, (ahi j).mp z.2⟩)]
      grind
  have e3 : sm (c.n - 1) (fun j => if inn (c.tou (skip at_ j)) h = true ∧ c.ah p (skip at_ i) (skip at_ j) then p (skip at_ j) else 0) = c.ld (c.ah p (skip at_ i)) p h - (if inn (c.tou at_) h = true ∧ c.ah p (skip at_ i) at_ then p at_ else 0) := by
    unfold ld
    rw [hk]
    exact sm_skip (fun j => if inn (c.tou j) h = true ∧ c.ah p (skip at_ i) j then p j else 0) (by omega)
  -- all of the heap is spent on the paper's claims
  have tight : sm c.m (fun f => if h f = true then T at_ f else 0) = (if inn (c.tou at_) h = true ∧ c.ah p (skip at_ i) at_ then p at_ else 0) := by
    by_cases e : inn (c.tou at_) h = true ∧ c.ah p (skip at_ i) at_
    · rw [if_pos e, t.inside hat e.1]
    · rw [if_neg e]
      -- c.W h = sum over B of what is paid out of the heap
      have a1 : c.ld (c.ah p (skip at_ i)) p h = sm c.n (fun j => sm c.m (fun f => if h f = true then (if inn (c.tou j) h = true ∧ c.ah p (skip at_ i) j then T j f else 0) else 0)) := by
        refine sm_congr fun j hj => ?_
        by_cases e : inn (c.tou j) h = true ∧ c.ah p (skip at_ i) j
        · rw [if_pos e, ← t.inside hj e.1]
          refine sm_congr fun f _ => ?_
          rw [if_pos e]
        · rw [if_neg e, sm_zero]
          intro f _
          rw [if_neg e]
          split <;> rfl
      rw [a1, sm_swap] at hW
      have a2 : c.W h - sm c.m (fun f => sm c.n (fun j => if h f = true then (if inn (c.tou j) h = true ∧ c.ah p (skip at_ i) j then T j f else 0) else 0)) = 0 := by grind
      unfold W at a2
      rw [← sm_sub] at a2
      have b0 : ∀ f, f < c.m → (0 : Rat) ≤ (if h f = true then T at_ f else 0) := fun f hf => by
        split
        · exact t.nn _ _ hat hf
        · exact Rat.le_refl
      have b1 : sm c.m (fun f => if h f = true then T at_ f else 0) ≤ sm c.m (fun f => (if h f = true then c.w f else 0) - sm c.n (fun j => if h f = true then (if inn (c.tou j) h = true ∧ c.ah p (skip at_ i) j then T j f else 0) else 0)) := by
        refine sm_le fun f hf => ?_
        by_cases ef : h f = true
        · rw [if_pos ef, if_pos ef]
          have b2 := t.col f hf
          rw [sm_one (f := fun i => T i f) hat] at b2
          have b3 : sm c.n (fun j => if h f = true then (if inn (c.tou j) h = true ∧ c.ah p (skip at_ i) j then T j f else 0) else 0) ≤ sm c.n (fun j => if j = at_ then 0 else T j f) := by
            refine sm_le fun j hj => ?_
            rw [if_pos ef]
            by_cases ej : j = at_
            · subst ej
              rw [if_neg e, if_pos rfl]
              exact Rat.le_refl
            · rw [if_neg ej]
              split
              · exact Rat.le_refl
              · exact t.nn _ _ hj hf
          grind
        · rw [if_neg ef, if_neg ef, sm_zero (fun j _ => if_neg ef)]
          grind
      rw [a2] at b1
      have b4 := sm_nonneg b0
      exact Rat.le_antisymm b1 b4
  rw [e1, e2, e3, hW, tight]
/-- WHO GOES WITH ITS SHARE CHANGES NONE -/
theorem red_sh (hs : c.Sh p) (t : c.Tab p T) {at_ : Nat} (hat : at_ < c.n) {D : Rat} (hD : 0 < D) : (c.red T at_ D).Sh (fun i => D * p (skip at_ i)) where
  nn := fun i hi => Rat.mul_nonneg (Rat.le_of_lt hD) (hs.nn _ (skip_lt hi))
  le := fun i hi => Rat.mul_le_mul_of_nonneg_left (hs.le _ (skip_lt hi)) (Rat.le_of_lt hD)
  pay := red_pay t hat hD
  pap := fun i hi hl => red_pap hs.toRow t hat hD hi (hs.pap _ (skip_lt hi) (by
    have hl2 : D * p (skip at_ i) < D * c.due (skip at_ i) := hl
    exact Rat.lt_of_mul_lt_mul_left hl2 (Rat.le_of_lt hD)))
end Cs
end KB

namespace KB
namespace Cs
variable (c : Cs)
/-- what a heap has left by those not going; what those going within it are owed -/
def room (now : Nat → Rat) (going : List Nat) (h : Hs) : Rat := c.W h - sm c.n fun i => if inn (c.tou i) h = true ∧ i ∉ going then now i else 0
def need (going : List Nat) (h : Hs) : Rat := sm c.n fun i => if inn (c.tou i) h = true ∧ i ∈ going then c.due i else 0
/-- those going raised to the fill l -/
def up (now : Nat → Rat) (going : List Nat) (l : Rat) : Nat → Rat := fun i => if i ∈ going then c.due i * l else now i
/-- a heap spent on those ahead and alike; none of them goes on -/
def Sp (now : Nat → Rat) (going : List Nat) (i : Nat) : Prop := ∃ h : Hs, inn (c.tou i) h = true ∧ c.W h = c.load now h ∧ ∀ j, j < c.n → inn (c.tou j) h = true → j ∉ going ∧ (now j = 0 ∨ c.ah now i j)
/-- the fixed facts of one rank -/
structure Rk (par : Nat → Rat) (r : Int) (places : List Nat) : Prop where
  ok : c.Ok
  row : c.Row par
  later : ∀ i, i < c.n → r < c.rk i → par i = 0
  pl : ∀ i, i ∈ places → i < c.n ∧ c.rk i = r ∧ 0 < c.due i
  all : ∀ i, i < c.n → c.rk i = r → c.due i = 0 ∨ i ∈ places
/-- in the midst of filling -/
structure Fi (par : Nat → Rat) (r : Int) (places going : List Nat) (now : Nat → Rat) (l : Rat) : Prop extends Rk c par r places where
  sub : ∀ i, i ∈ going → i ∈ places
  out : ∀ i, i ∉ places → now i = par i
  zero : ∀ i, i ∈ going → now i = 0
  l0 : 0 ≤ l
  l1 : l ≤ 1
  pay : c.Pay (c.up now going l)
  stp : ∀ i, i ∈ places → i ∉ going → ∃ f, 0 ≤ f ∧ f ≤ l ∧ now i = c.due i * f ∧ (now i < c.due i → c.Sp now going i)
variable {c : Cs} {par now : Nat → Rat} {r : Int} {places going : List Nat} {l : Rat}
theorem load_up (l : Rat) (h : Hs) : c.load (c.up now going l) h = (c.W h - c.room now going h) + l * c.need going h := by
  unfold load room need up
  rw [← sm_mul]
  have e : c.W h - (c.W h - sm c.n fun i => if inn (c.tou i) h = true ∧ i ∉ going then now i else 0) = sm c.n fun i => if inn (c.tou i) h = true ∧ i ∉ going then now i else 0 := by grind
  rw [e, ← sm_add]
  refine sm_congr fun i _ => ?_
  by_cases e1 : inn (c.tou i) h = true
  · by_cases e2 : i ∈ going
    · rw [if_pos e1, if_pos e2, if_neg (fun z => z.2 e2), if_pos ⟨e1, e2⟩]
      grind
    · rw [if_pos e1, if_neg e2, if_pos ⟨e1, e2⟩, if_neg (fun z => e2 z.2)]
      grind
  · rw [if_neg e1, if_neg (fun z => e1 z.1), if_neg (fun z => e1 z.1)]
    grind
theorem Fi.dnn (F : c.Fi par r places going now l) {i : Nat} (h : i ∈ going) : 0 < c.due i := (F.pl i (F.sub i h)).2.2
theorem need_nn (F : c.Fi par r places going now l) (h : Hs) : 0 ≤ c.need going h := sm_nonneg fun i hi => by
  show 0 ≤ if inn (c.tou i) h = true ∧ i ∈ going then c.due i else 0
  split
  · exact F.ok.due0 i hi
  · exact Rat.le_refl
theorem room_ge (F : c.Fi par r places going now l) (h : Hs) : l * c.need going h ≤ c.room now going h := by
  have a := F.pay h
  rw [load_up] at a
  grind
theorem room_nn (F : c.Fi par r places going now l) (h : Hs) : 0 ≤ c.room now going h := by
  have a := room_ge F h
  have b := Rat.mul_nonneg F.l0 (need_nn F h)
  grind
/-- what the walk tells of one turn: top is the least of 1 and of the fills of the heaps; done those that are halted -/
structure Turn (c : Cs) (now : Nat → Rat) (going : List Nat) (top : Rat) (done : List Nat) : Prop where
  le1 : top ≤ 1
  le : ∀ h : Hs, c.need going h ≠ 0 → top ≤ c.room now going h / c.need going h
  att : top = 1 ∨ ∃ h : Hs, c.need going h ≠ 0 ∧ top = c.room now going h / c.need going h
  done : ∀ i, i ∈ done ↔ i ∈ going ∧ (top = 1 ∨ ∃ h : Hs, c.need going h ≠ 0 ∧ c.room now going h / c.need going h = top ∧ inn (c.tou i) h = true)
def put (c : Cs) (now : Nat → Rat) (done : List Nat) (top : Rat) : Nat → Rat := fun i => if i ∈ done then c.due i * top else now i
variable {top : Rat} {done : List Nat}
theorem Turn.ge (F : c.Fi par r places going now l) (t : c.Turn now going top done) : l ≤ top := by
  rcases t.att with e | ⟨h, hn, e⟩
  · rw [e]; exact F.l1
  · have a := room_ge F h
    have b := need_nn F h
    have hp : 0 < c.need going h := by grind
    rw [e]
    have e2 : c.room now going h / c.need going h * c.need going h = c.room now going h := Rat.div_mul_cancel hn
    rw [← e2] at a
    exact Rat.le_of_mul_le_mul_right a hp
theorem Turn.pay (F : c.Fi par r places going now l) (t : c.Turn now going top done) : c.Pay (c.up now going top) := by
  intro h
  rw [load_up]
  by_cases hn : c.need going h = 0
  · have a := room_nn F h
    rw [hn]
    grind
  · have a := t.le h hn
    have hp : 0 < c.need going h := by have b := need_nn F h; grind
    have e2 : c.room now going h / c.need going h * c.need going h = c.room now going h := Rat.div_mul_cancel hn
    have a2 := Rat.mul_le_mul_of_nonneg_right a (Rat.le_of_lt hp)
    rw [e2] at a2
    grind
theorem up_put (hd : ∀ i, i ∈ done → i ∈ going) (going' : List Nat) (hg : ∀ i, i ∈ going' ↔ i ∈ going ∧ i ∉ done) : c.up (c.put now done top) going' top = c.up now going top := by
  funext i
  unfold up put
  by_cases e : i ∈ going
  · by_cases e2 : i ∈ done
    · rw [if_neg (fun z => ((hg i).mp z).2 e2), if_pos e2, if_pos e]
    · rw [if_pos ((hg i).mpr ⟨e, e2⟩), if_pos e]
  · rw [if_neg (fun z => e ((hg i).mp z).1), if_neg (fun z => e (hd i z)), if_neg e]
theorem Turn.sub (t : c.Turn now going top done) : ∀ i, i ∈ done → i ∈ going := fun i h => ((t.done i).mp h).1
theorem Fi.now_nn (F : c.Fi par r places going now l) {i : Nat} (hi : i < c.n) : 0 ≤ now i ∧ now i ≤ c.due i := by
  by_cases e : i ∈ going
  · rw [F.zero i e]
    exact ⟨Rat.le_refl, F.ok.due0 i hi⟩
  · by_cases e2 : i ∈ places
    · obtain ⟨f, f0, f1, ef, _⟩ := F.stp i e2 e
      have hd := F.ok.due0 i hi
      rw [ef]
      refine ⟨Rat.mul_nonneg hd f0, ?_⟩
      have a : c.due i * f ≤ c.due i * 1 := Rat.mul_le_mul_of_nonneg_left (Rat.le_trans f1 F.l1) hd
      grind
    · rw [F.out i e2]
      exact ⟨F.row.nn i hi, F.row.le i hi⟩
/-- ONE TURN -/
theorem Fi.turn (F : c.Fi par r places going now l) (t : c.Turn now going top done) {going' : List Nat} (hg : ∀ i, i ∈ going' ↔ i ∈ going ∧ i ∉ done) : c.Fi par r places going' (c.put now done top) top := by
  have hge := t.ge F
  have h0 : 0 ≤ top := Rat.le_trans F.l0 hge
  refine { F.toRk with sub := fun i h => F.sub i ((hg i).mp h).1, out := fun i h => ?_, zero := fun i h => ?_, l0 := h0, l1 := t.le1, pay := ?_, stp := fun i hp hng => ?_ }
  · unfold put
    rw [if_neg (fun z => h (F.sub i (t.sub i z)))]
    exact F.out i h
  · unfold put
    rw [if_neg ((hg i).mp h).2]
    exact F.zero i ((hg i).mp h).1
  · rw [up_put t.sub going' hg]
    exact t.pay F
  · by_cases hd : i ∈ done
    · have hnow : c.put now done top i = c.due i * top := if_pos hd
      refine ⟨top, h0, Rat.le_refl, hnow, fun hl => ?_⟩
      obtain ⟨hig, hh⟩ := (t.done i).mp hd
      have hdue := F.dnn hig
      have ht1 : top ≠ 1 := fun z => by
        rw [hnow, z] at hl
        grind
      obtain ⟨h, hn, he, hin⟩ := hh.resolve_left ht1
      refine ⟨h, hin, ?_, fun j hj hjn => ⟨fun z => ?_, ?_⟩⟩
      · -- tight
        have e1 : c.load (c.put now done top) h = c.load (c.up now going top) h := by
          refine sm_congr fun j hj => ?_
          by_cases ej : inn (c.tou j) h = true
          · rw [if_pos ej, if_pos ej]
            unfold put up
            by_cases eg : j ∈ going
            · rw [if_pos eg, if_pos ((t.done j).mpr ⟨eg, .inr ⟨h, hn, he, ej⟩⟩)]
            · rw [if_neg eg, if_neg (fun z => eg (t.sub j z))]
          · rw [if_neg ej, if_neg ej]
        have e2 : c.room now going h / c.need going h * c.need going h = c.room now going h := Rat.div_mul_cancel hn
        rw [he] at e2
        rw [e1, load_up]
        grind
      · exact ((hg j).mp z).2 ((t.done j).mpr ⟨((hg j).mp z).1, .inr ⟨h, hn, he, hjn⟩⟩)
      · -- j within the heap is ahead, or alike, or nothing
        have hri : c.rk i = r := (F.pl i hp).2.1
        by_cases ejp : j ∈ places
        · have hrj : c.rk j = r := (F.pl j ejp).2.1
          refine .inr (.inr ⟨by omega, ?_⟩)
          rw [hnow]
          have hdj := F.ok.due0 j hj
          have key : ∀ f : Rat, f ≤ top → c.due j * f * c.due i ≤ c.due i * top * c.due j := fun f hf => by
            have a : c.due j * c.due i * f ≤ c.due j * c.due i * top := Rat.mul_le_mul_of_nonneg_left hf (Rat.mul_nonneg hdj (Rat.le_of_lt hdue))
            grind
          by_cases ejd : j ∈ done
          · have e : c.put now done top j = c.due j * top := if_pos ejd
            rw [e]
            exact key top Rat.le_refl
          · have ejg : j ∉ going := fun z => ejd ((t.done j).mpr ⟨z, .inr ⟨h, hn, he, hjn⟩⟩)
            obtain ⟨f, f0, f1, ef, _⟩ := F.stp j ejp ejg
            have e : c.put now done top j = c.due j * f := (if_neg ejd).trans ef
            rw [e]
            exact key f (Rat.le_trans f1 hge)
        · have e : c.put now done top j = par j := (if_neg (fun z => ejp (F.sub j (t.sub j z)))).trans (F.out j ejp)
          rw [e]
          by_cases e1 : c.rk j = r
          · have a := F.all j hj e1
            have a2 : c.due j = 0 := a.resolve_right ejp
            have b1 := F.row.nn j hj
            have b2 := F.row.le j hj
            exact .inl (by grind)
          · by_cases e2 : c.rk j < r
            · exact .inr (.inl (by omega))
            · exact .inl (F.later j hj (by omega))
    · have hig : i ∉ going := fun z => hng ((hg i).mpr ⟨z, hd⟩)
      obtain ⟨f, f0, f1, ef, hs⟩ := F.stp i hp hig
      have hnow : c.put now done top i = now i := if_neg hd
      refine ⟨f, f0, Rat.le_trans f1 hge, hnow.trans ef, fun hl => ?_⟩
      rw [hnow] at hl
      obtain ⟨h, hin, hW, hj⟩ := hs hl
      have same : ∀ j, j < c.n → inn (c.tou j) h = true → c.put now done top j = now j := fun j hjn hji => if_neg (fun z => (hj j hjn hji).1 (t.sub j z))
      refine ⟨h, hin, ?_, fun j hjn hji => ⟨fun z => (hj j hjn hji).1 ((hg j).mp z).1, ?_⟩⟩
      · rw [hW]
        refine sm_congr fun j hjn => ?_
        by_cases ej : inn (c.tou j) h = true
        · rw [if_pos ej, if_pos ej, same j hjn ej]
        · rw [if_neg ej, if_neg ej]
      · rw [same j hjn hji]
        unfold ah
        rw [same j hjn hji, hnow]
        exact (hj j hjn hji).2
/-- someone halts -/
theorem Fi.progress (F : c.Fi par r places going now l) (t : c.Turn now going top done) (hne : going ≠ []) : ∃ i, i ∈ going ∧ i ∈ done := by
  rcases t.att with e | ⟨h, hn, e⟩
  · obtain ⟨x, xs, rfl⟩ : ∃ x xs, going = x :: xs := by
      cases going with
      | nil => exact absurd rfl hne
      | cons x xs => exact ⟨x, xs, rfl⟩
    exact ⟨x, List.mem_cons_self, (t.done x).mpr ⟨List.mem_cons_self, .inl e⟩⟩
  · by_cases z : ∃ i, i < c.n ∧ inn (c.tou i) h = true ∧ i ∈ going
    · obtain ⟨i, hi, h1, h2⟩ := z
      exact ⟨i, h2, (t.done i).mpr ⟨h2, .inr ⟨h, hn, e.symm, h1⟩⟩⟩
    · refine absurd (sm_zero fun i hi => ?_) hn
      show (if inn (c.tou i) h = true ∧ i ∈ going then c.due i else 0) = 0
      rw [if_neg (fun q => z ⟨i, hi, q.1, q.2⟩)]
/-- the start -/
theorem Rk.start (R : c.Rk par r places) (hpay : c.Pay par) (hz : ∀ i, i ∈ places → par i = 0) : c.Fi par r places places par 0 := by
  refine { R with sub := fun i h => h, out := fun i _ => rfl, zero := hz, l0 := Rat.le_refl, l1 := by grind, pay := ?_, stp := fun i h1 h2 => absurd h1 h2 }
  have e : c.up par places 0 = par := by
    funext i
    unfold up
    by_cases e : i ∈ places
    · rw [if_pos e, hz i e]
      grind
    · rw [if_neg e]
  rw [e]
  exact hpay

/-! ### rank by rank -/
/-- a heap spent on those ahead and alike -/
def Sg (c : Cs) (p : Nat → Rat) (i : Nat) : Prop := ∃ h : Hs, inn (c.tou i) h = true ∧ c.W h = c.load p h ∧ ∀ j, j < c.n → inn (c.tou j) h = true → p j = 0 ∨ c.ah p i j
/-- the ranks at rs are done -/
structure Gl (c : Cs) (rs : List Int) (p : Nat → Rat) : Prop extends Row c p where
  ok : c.Ok
  pay : c.Pay p
  zero : ∀ i, i < c.n → c.rk i ∉ rs → p i = 0
  sg : ∀ i, i < c.n → c.rk i ∈ rs → p i < c.due i → c.Sg p i
theorem Gl.start (ok : c.Ok) : c.Gl [] (fun _ => 0) where
  nn := fun _ _ => Rat.le_refl
  le := fun i hi => ok.due0 i hi
  ok := ok
  pay := fun h => by
    have e : c.load (fun _ => 0) h = 0 := sm_zero fun i _ => by
      show (if inn (c.tou i) h = true then (0 : Rat) else 0) = 0
      split <;> rfl
    rw [e]
    refine sm_nonneg fun f hf => ?_
    show 0 ≤ if h f = true then c.w f else 0
    split
    · exact ok.w0 f hf
    · exact Rat.le_refl
  zero := fun _ _ _ => rfl
  sg := fun i hi h => absurd h (by simp)
variable {rs : List Int} {p : Nat → Rat}
theorem Gl.rk (G : c.Gl rs p) (hr : ∀ r', r' ∈ rs → r' < r) (hpl : ∀ i, i ∈ places → i < c.n ∧ c.rk i = r ∧ 0 < c.due i) (hall : ∀ i, i < c.n → c.rk i = r → c.due i = 0 ∨ i ∈ places) : c.Rk p r places where
  ok := G.ok
  row := G.toRow
  later := fun i hi h => G.zero i hi fun z => by have := hr _ z; omega
  pl := hpl
  all := hall
theorem Gl.pz (G : c.Gl rs p) (hr : ∀ r', r' ∈ rs → r' < r) (hpl : ∀ i, i ∈ places → i < c.n ∧ c.rk i = r ∧ 0 < c.due i) : ∀ i, i ∈ places → p i = 0 := fun i h => by
  obtain ⟨h1, h2, _⟩ := hpl i h
  refine G.zero i h1 fun z => ?_
  have := hr _ z
  omega
theorem Gl.next (G : c.Gl rs p) (hr : ∀ r', r' ∈ rs → r' < r) (F : c.Fi p r places [] now l) : c.Gl (rs ++ [r]) now := by
  have hnn : ∀ i, i < c.n → 0 ≤ now i ∧ now i ≤ c.due i := fun i hi => F.now_nn hi
  have hge : ∀ i, i < c.n → p i ≤ now i := fun i hi => by
    by_cases e : i ∈ places
    · obtain ⟨h1, h2, _⟩ := F.pl i e
      rw [G.zero i h1 (fun z => by have := hr _ z; omega)]
      exact (hnn i hi).1
    · rw [F.out i e]
      exact Rat.le_refl
  have hpay : c.Pay now := by
    have a := F.pay
    have e : c.up now [] l = now := by
      funext i
      unfold up
      rw [if_neg (by simp)]
    rw [e] at a
    exact a
  refine { nn := fun i hi => (hnn i hi).1, le := fun i hi => (hnn i hi).2, ok := G.ok, pay := hpay, zero := fun i hi h => ?_, sg := fun i hi h hl => ?_ }
  · have hnp : i ∉ places := fun z => h (by rw [(F.pl i z).2.1]; simp)
    rw [F.out i hnp]
    exact G.zero i hi fun z => h (List.mem_append_left _ z)
  · by_cases e : c.rk i ∈ rs
    · have hnp : i ∉ places := fun z => by
        have := hr _ e
        have := (F.pl i z).2.1
        omega
      have eni : now i = p i := F.out i hnp
      rw [eni] at hl
      obtain ⟨h, hin, hW, hj⟩ := G.sg i hi e hl
      -- the heap is spent already: nothing within it has changed
      have same : ∀ j, j < c.n → inn (c.tou j) h = true → now j = p j := fun j hjn hji => by
        have a := hpay h
        rw [hW] at a
        by_cases q : now j = p j
        · exact q
        · have b : c.load p h < c.load now h := by
            unfold load
            refine sm_lt (k := j) (fun k hk => ?_) hjn ?_
            · split
              · exact hge k hk
              · exact Rat.le_refl
            · rw [if_pos hji, if_pos hji]
              have := hge j hjn
              grind
          grind
      refine ⟨h, hin, ?_, fun j hjn hji => ?_⟩
      · rw [hW]
        refine sm_congr fun j hjn => ?_
        by_cases ej : inn (c.tou j) h = true
        · rw [if_pos ej, if_pos ej, same j hjn ej]
        · rw [if_neg ej, if_neg ej]
      · unfold ah
        rw [same j hjn hji, eni]
        exact hj j hjn hji
    · have er : c.rk i = r := by
        rcases List.mem_append.mp h with z | z
        · exact absurd z e
        · simpa using z
      have hip : i ∈ places := by
        rcases F.all i hi er with z | z
        · have := (hnn i hi).1
          grind
        · exact z
      obtain ⟨f, f0, f1, ef, hs⟩ := F.stp i hip (by simp)
      obtain ⟨h, hin, hW, hj⟩ := hs hl
      exact ⟨h, hin, hW, fun j hjn hji => (hj j hjn hji).2⟩
/-- THE SHARING OUT -/
theorem Gl.sh (G : c.Gl rs p) (hall : ∀ i, i < c.n → c.rk i ∈ rs) : c.Sh p where
  nn := G.nn
  le := G.le
  pay := G.pay
  pap := fun i hi hl => by
    obtain ⟨h, hin, hW, hj⟩ := G.sg i hi (hall i hi) hl
    refine ⟨h, hin, ?_⟩
    rw [hW]
    refine sm_congr fun j hjn => ?_
    by_cases e : inn (c.tou j) h = true
    · by_cases e2 : c.ah p i j
      · rw [if_pos e, if_pos ⟨e, e2⟩]
      · rw [if_pos e, if_neg (fun z => e2 z.2)]
        exact (hj j hjn e).resolve_right e2
    · rw [if_neg e, if_neg (fun z => e z.1)]
end Cs
end KB

namespace KB
/-- whole in coins of 1 / N -/
def Iz (q : Rat) (N : Nat) : Prop := ∃ z : Int, q * (N : Rat) = (z : Rat)
theorem Iz.add {a b : Rat} {N : Nat} (h : Iz a N) (k : Iz b N) : Iz (a + b) N := by
  obtain ⟨x, hx⟩ := h
  obtain ⟨y, hy⟩ := k
  refine ⟨x + y, ?_⟩
  rw [Rat.intCast_add, ← hx, ← hy]
  grind
theorem Iz.sub {a b : Rat} {N : Nat} (h : Iz a N) (k : Iz b N) : Iz (a - b) N := by
  obtain ⟨x, hx⟩ := h
  obtain ⟨y, hy⟩ := k
  refine ⟨x - y, ?_⟩
  rw [Rat.intCast_sub, ← hx, ← hy]
  grind
theorem Iz.neg {a : Rat} {N : Nat} (h : Iz a N) : Iz (-a) N := by
  obtain ⟨x, hx⟩ := h
  refine ⟨-x, ?_⟩
  rw [Rat.intCast_neg, ← hx]
  grind
theorem Iz.zero (N : Nat) : Iz 0 N := ⟨0, by rw [Rat.intCast_zero]; grind⟩
theorem Iz.int (z : Int) (N : Nat) : Iz (z : Rat) N := ⟨z * N, by rw [Rat.intCast_mul, Rat.intCast_natCast]⟩
theorem Iz.min {a b : Rat} {N : Nat} (h : Iz a N) (k : Iz b N) : Iz (min a b) N := by
  by_cases e : a ≤ b
  · have : Min.min a b = a := by grind
    rw [this]; exact h
  · have : Min.min a b = b := by grind
    rw [this]; exact k
theorem Iz.sm {f : Nat → Rat} {N : Nat} : ∀ {n : Nat}, (∀ i, i < n → Iz (f i) N) → Iz (sm n f) N
  | 0, _ => Iz.zero N
  | n + 1, h => (Iz.sm (n := n) (fun i hi => h i (by omega))).add (h n (by omega))
theorem Iz.mul {a : Rat} {N : Nat} (M : Nat) (h : Iz a N) : Iz a (N * M) := by
  obtain ⟨x, hx⟩ := h
  refine ⟨x * M, ?_⟩
  rw [Rat.intCast_mul, ← hx, Rat.natCast_mul, Rat.intCast_natCast]
  grind
/-- its under divides -/
theorem Iz.dvd {q : Rat} {N : Nat} (h : Iz q N) : q.den ∣ N := by
  obtain ⟨z, hz⟩ := h
  have e : q * ((q.den : Nat) : Rat) = ((q.num : Int) : Rat) := by
    have h1 : q = mkRat q.num q.den := (Rat.mkRat_self q).symm
    rw [Rat.mkRat_eq_div] at h1
    have hd : ((q.den : Nat) : Rat) ≠ 0 := by
      intro z
      exact q.den_nz (Rat.natCast_eq_zero_iff.mp z)
    have h2 : ((q.num : Int) : Rat) / ((q.den : Nat) : Rat) * ((q.den : Nat) : Rat) = ((q.num : Int) : Rat) := Rat.div_mul_cancel hd
    rw [← h1] at h2
    exact h2
  have e2 : ((q.num : Int) : Rat) * (N : Rat) = (z : Rat) * ((q.den : Nat) : Rat) := by
    rw [← e, ← hz]
    grind
  have e3 : q.num * (N : Int) = z * (q.den : Int) := by
    rw [← Rat.intCast_natCast, ← Rat.intCast_natCast, ← Rat.intCast_mul, ← Rat.intCast_mul] at e2
    exact Rat.intCast_inj.mp e2
  have e4 : (q.den : Int) ∣ q.num * (N : Int) := ⟨z, by rw [e3, Int.mul_comm]⟩
  have e5 : q.den ∣ q.num.natAbs * N := by
    have := Int.natAbs_dvd_natAbs.mpr e4
    rw [Int.natAbs_mul] at this
    simpa using this
  exact Nat.Coprime.dvd_of_dvd_mul_left q.reduced.symm e5
theorem num_le {q : Rat} {N : Nat} {V : Nat} (hd : q.den ≤ N) (h1 : -(V : Rat) ≤ q) (h2 : q ≤ (V : Rat)) : q.num.natAbs ≤ V * N := by
  have a1 := (Rat.le_iff _ _).mp h1
  have a2 := (Rat.le_iff _ _).mp h2
  have e1 : (-(V : Rat)).num = -(V : Int) := rfl
  have e2 : (-(V : Rat)).den = 1 := rfl
  have e3 : ((V : Rat)).num = (V : Int) := rfl
  have e4 : ((V : Rat)).den = 1 := rfl
  rw [e1, e2] at a1
  rw [e3, e4] at a2
  have b1 : -((V : Int) * q.den) ≤ q.num := by
    have : -(V : Int) * q.den = -((V : Int) * q.den) := Int.neg_mul _ _
    omega
  have b2 : q.num ≤ (V : Int) * q.den := by omega
  have b3 : ((V * q.den : Nat) : Int) = (V : Int) * q.den := by simp
  have b4 : q.num.natAbs ≤ V * q.den := by omega
  exact Nat.le_trans b4 (Nat.mul_le_mul_left V hd)

namespace Cs
variable {c : Cs}
/-- the table so far: claims ahead of at_ are paid, need is lacking of its own -/
structure Tb (c : Cs) (par : Nat → Rat) (at_ : Nat) (need : Rat) (R : Nat → Nat → Rat) (rest : Nat → Rat) : Prop where
  nn : ∀ i f, i < c.n → f < c.m → 0 ≤ R i f
  zero : ∀ i f, i < c.n → f < c.m → f ∉ c.tou i → R i f = 0
  rest0 : ∀ f, f < c.m → 0 ≤ rest f
  col : ∀ f, f < c.m → rest f + sm c.n (fun i => R i f) = c.w f
  row : ∀ i, i < c.n → sm c.m (fun f => R i f) = if i < at_ then par i else if i = at_ then par at_ - need else 0
def addR (R : Nat → Nat → Rat) (i f : Nat) (x : Rat) : Nat → Nat → Rat := fun i' f' => if i' = i ∧ f' = f then R i' f' + x else R i' f'
theorem addR_row (R : Nat → Nat → Rat) {i f : Nat} (x : Rat) {m : Nat} (hf : f < m) (i' : Nat) : sm m (fun f' => addR R i f x i' f') = sm m (fun f' => R i' f') + if i' = i then x else 0 := by
  by_cases e : i' = i
  · subst e
    rw [if_pos rfl]
    have e1 : sm m (fun f' => addR R i' f x i' f') = sm m (fun f' => R i' f' + if f' = f then x else 0) := sm_congr fun f' _ => by
      unfold addR
      by_cases e2 : f' = f
      · rw [if_pos ⟨rfl, e2⟩, if_pos e2]
      · rw [if_neg (fun z => e2 z.2), if_neg e2]
        grind
    rw [e1, sm_add]
    have e3 : sm m (fun f' => if f' = f then x else 0) = x := by
      have := sm_indicator (f := fun _ => x) hf
      exact this
    rw [e3]
  · rw [if_neg e]
    have e1 : sm m (fun f' => addR R i f x i' f') = sm m (fun f' => R i' f') := sm_congr fun f' _ => by
      unfold addR
      rw [if_neg (fun z => e z.1)]
    rw [e1]
    grind
theorem addR_col (R : Nat → Nat → Rat) {i f : Nat} (x : Rat) {n : Nat} (hi : i < n) (f' : Nat) : sm n (fun i' => addR R i f x i' f') = sm n (fun i' => R i' f') + if f' = f then x else 0 := by
  by_cases e : f' = f
  · subst e
    rw [if_pos rfl]
    have e1 : sm n (fun i' => addR R i f' x i' f') = sm n (fun i' => R i' f' + if i' = i then x else 0) := sm_congr fun i' _ => by
      unfold addR
      by_cases e2 : i' = i
      · rw [if_pos ⟨e2, rfl⟩, if_pos e2]
      · rw [if_neg (fun z => e2 z.1), if_neg e2]
        grind
    rw [e1, sm_add]
    have e3 : sm n (fun i' => if i' = i then x else 0) = x := by
      have := sm_indicator (f := fun _ => x) hi
      exact this
    rw [e3]
  · rw [if_neg e]
    have e1 : sm n (fun i' => addR R i f x i' f') = sm n (fun i' => R i' f') := sm_congr fun i' _ => by
      unfold addR
      rw [if_neg (fun z => e z.2)]
    rw [e1]
    grind
theorem addR_ge (R : Nat → Nat → Rat) {i f : Nat} {x : Rat} (hx : 0 ≤ x) (i' f' : Nat) : R i' f' ≤ addR R i f x i' f' := by
  unfold addR
  split
  · grind
  · exact Rat.le_refl
/-- a road: k stations, wp their places, wm the movers -/
structure Way (c : Cs) (at_ : Nat) (R : Nat → Nat → Rat) (rest : Nat → Rat) (k : Nat) (wp wm : Nat → Nat) : Prop where
  pos : 0 < k
  inj : ∀ s t, s < k → t < k → wp s = wp t → s = t
  first : wm 0 = at_
  tou : ∀ s, s < k → wp s ∈ c.tou (wm s)
  mv : ∀ s, s < k → wm s < c.n
  link : ∀ s, s + 1 < k → R (wm (s + 1)) (wp s) ≠ 0
  last : rest (wp (k - 1)) ≠ 0
/-- the rows behind s stations -/
def mvs (R : Nat → Nat → Rat) (wp wm : Nat → Nat) (x : Rat) : Nat → Nat → Nat → Rat
  | 0 => R
  | 1 => addR R (wm 0) (wp 0) x
  | s + 2 => addR (addR (mvs R wp wm x (s + 1)) (wm (s + 1)) (wp (s + 1)) x) (wm (s + 1)) (wp s) (-x)
structure Mid (c : Cs) (at_ : Nat) (R : Nat → Nat → Rat) (k : Nat) (wp wm : Nat → Nat) (x : Rat) (s : Nat) (R' : Nat → Nat → Rat) : Prop where
  nn : ∀ i f, i < c.n → f < c.m → 0 ≤ R' i f
  zero : ∀ i f, i < c.n → f < c.m → f ∉ c.tou i → R' i f = 0
  row : ∀ i, i < c.n → sm c.m (fun f => R' i f) = sm c.m (fun f => R i f) + if i = at_ then x else 0
  col : ∀ f, f < c.m → sm c.n (fun i => R' i f) = sm c.n (fun i => R i f) + if f = wp s then x else 0
  link : ∀ t, s ≤ t → t + 1 < k → x ≤ R' (wm (t + 1)) (wp t)
variable {par : Nat → Rat} {at_ : Nat} {need : Rat} {R : Nat → Nat → Rat} {rest : Nat → Rat} {k : Nat} {wp wm : Nat → Nat} {x : Rat}
theorem mid_ok (ok : c.Ok) (t : c.Tb par at_ need R rest) (w : c.Way at_ R rest k wp wm) (hx : 0 ≤ x) (hl : ∀ s, s + 1 < k → x ≤ R (wm (s + 1)) (wp s)) :
    ∀ s, s < k → c.Mid at_ R k wp wm x s (mvs R wp wm x (s + 1))
  | 0, hs => by
    have hm := w.mv 0 hs
    have hp := ok.tou _ hm _ (w.tou 0 hs)
    refine ⟨fun i f hi hf => Rat.le_trans (t.nn i f hi hf) (addR_ge R hx i f), fun i f hi hf hn => ?_, fun i hi => ?_, fun f hf => addR_col R x hm f, fun u _ hu => Rat.le_trans (hl u hu) (addR_ge R hx _ _)⟩
    · show addR R (wm 0) (wp 0) x i f = 0
      unfold addR
      rw [if_neg (fun z => hn (by rw [z.1, z.2]; exact w.tou 0 hs))]
      exact t.zero i f hi hf hn
    · show sm c.m (fun f' => addR R (wm 0) (wp 0) x i f') = _
      rw [addR_row R x hp i, w.first]
  | s + 1, hs => by
    have ih := mid_ok ok t w hx hl s (by omega)
    have hm := w.mv (s + 1) hs
    have hp := ok.tou _ hm _ (w.tou (s + 1) hs)
    have hq0 := ok.tou _ (w.mv s (by omega)) _ (w.tou s (by omega))
    have hne : wp (s + 1) ≠ wp s := fun z => by have := w.inj _ _ hs (by omega) z; omega
    have hlk := ih.link s (Nat.le_refl _) hs
    have hval : ∀ i f, mvs R wp wm x (s + 2) i f = addR (addR (mvs R wp wm x (s + 1)) (wm (s + 1)) (wp (s + 1)) x) (wm (s + 1)) (wp s) (-x) i f := fun _ _ => rfl
    have hge : ∀ i f, f ≠ wp s → mvs R wp wm x (s + 1) i f ≤ mvs R wp wm x (s + 2) i f := fun i f hf => by
      rw [hval]
      have a := addR_ge (mvs R wp wm x (s + 1)) (i := wm (s + 1)) (f := wp (s + 1)) hx i f
      have e : addR (addR (mvs R wp wm x (s + 1)) (wm (s + 1)) (wp (s + 1)) x) (wm (s + 1)) (wp s) (-x) i f = addR (mvs R wp wm x (s + 1)) (wm (s + 1)) (wp (s + 1)) x i f := if_neg (fun z => hf z.2)
      rw [e]
      exact a
    have hat : ∀ i, mvs R wp wm x (s + 2) i (wp s) = if i = wm (s + 1) then mvs R wp wm x (s + 1) i (wp s) - x else mvs R wp wm x (s + 1) i (wp s) := fun i => by
      rw [hval]
      have e1 : addR (mvs R wp wm x (s + 1)) (wm (s + 1)) (wp (s + 1)) x i (wp s) = mvs R wp wm x (s + 1) i (wp s) := if_neg (fun z => hne z.2.symm)
      by_cases e : i = wm (s + 1)
      · rw [if_pos e]
        show (if i = wm (s + 1) ∧ wp s = wp s then addR (mvs R wp wm x (s + 1)) (wm (s + 1)) (wp (s + 1)) x i (wp s) + -x else addR (mvs R wp wm x (s + 1)) (wm (s + 1)) (wp (s + 1)) x i (wp s)) = _
        rw [if_pos ⟨e, rfl⟩, e1]
        grind
      · rw [if_neg e]
        show (if i = wm (s + 1) ∧ wp s = wp s then addR (mvs R wp wm x (s + 1)) (wm (s + 1)) (wp (s + 1)) x i (wp s) + -x else addR (mvs R wp wm x (s + 1)) (wm (s + 1)) (wp (s + 1)) x i (wp s)) = _
        rw [if_neg (fun z => e z.1), e1]
    refine ⟨fun i f hi hf => ?_, fun i f hi hf hn => ?_, fun i hi => ?_, fun f hf => ?_, fun u hu1 hu2 => ?_⟩
    · by_cases e : f = wp s
      · subst e
        rw [hat i]
        split
        · rename_i z
          rw [z]
          grind
        · exact ih.nn i _ hi hf
      · exact Rat.le_trans (ih.nn i f hi hf) (hge i f e)
    · by_cases e : f = wp s
      · subst e
        rw [hat i]
        have z0 := ih.zero i _ hi hf hn
        split
        · rename_i z
          rw [← z, z0] at hlk
          have : x = 0 := by grind
          rw [z0, this]
          grind
        · exact z0
      · rw [hval]
        have e2 : addR (addR (mvs R wp wm x (s + 1)) (wm (s + 1)) (wp (s + 1)) x) (wm (s + 1)) (wp s) (-x) i f = addR (mvs R wp wm x (s + 1)) (wm (s + 1)) (wp (s + 1)) x i f := if_neg (fun z => e z.2)
        have e3 : addR (mvs R wp wm x (s + 1)) (wm (s + 1)) (wp (s + 1)) x i f = mvs R wp wm x (s + 1) i f := if_neg (fun z => hn (by rw [z.1, z.2]; exact w.tou (s + 1) hs))
        rw [e2, e3]
        exact ih.zero i f hi hf hn
    · have e1 : sm c.m (fun f => mvs R wp wm x (s + 2) i f) = sm c.m (fun f => addR (addR (mvs R wp wm x (s + 1)) (wm (s + 1)) (wp (s + 1)) x) (wm (s + 1)) (wp s) (-x) i f) := rfl
      rw [e1, addR_row _ (-x) hq0 i, addR_row _ x hp i, ih.row i hi]
      split <;> grind
    · have e1 : sm c.n (fun i => mvs R wp wm x (s + 2) i f) = sm c.n (fun i => addR (addR (mvs R wp wm x (s + 1)) (wm (s + 1)) (wp (s + 1)) x) (wm (s + 1)) (wp s) (-x) i f) := rfl
      rw [e1, addR_col _ (-x) hm f, addR_col _ x hm f, ih.col f hf]
      split <;> grind
    · have hn2 : wp u ≠ wp s := fun z => by have := w.inj _ _ (by omega) (by omega) z; omega
      exact Rat.le_trans (ih.link u (by omega) hu2) (hge _ _ hn2)
/-- a road is gone: the table so far, with x less lacking -/
theorem Tb.moved (ok : c.Ok) (t : c.Tb par at_ need R rest) (w : c.Way at_ R rest k wp wm) (hx : 0 ≤ x) (hl : ∀ s, s + 1 < k → x ≤ R (wm (s + 1)) (wp s)) (hr : x ≤ rest (wp (k - 1))) :
    c.Tb par at_ (need - x) (mvs R wp wm x k) (fun f => if f = wp (k - 1) then rest f - x else rest f) := by
  obtain ⟨s, hs⟩ : ∃ s, k = s + 1 := ⟨k - 1, by have := w.pos; omega⟩
  subst hs
  have M := mid_ok ok t w hx hl s (by omega)
  refine ⟨M.nn, M.zero, fun f hf => ?_, fun f hf => ?_, fun i hi => ?_⟩
  · show 0 ≤ if f = wp (s + 1 - 1) then rest f - x else rest f
    split
    · rename_i e
      rw [e]
      grind
    · exact t.rest0 f hf
  · have a := t.col f hf
    have b := M.col f hf
    rw [b]
    show (if f = wp (s + 1 - 1) then rest f - x else rest f) + _ = _
    rw [Nat.add_sub_cancel]
    split <;> grind
  · rw [M.row i hi, t.row i hi]
    by_cases e1 : i < at_
    · rw [if_pos e1, if_pos e1, if_neg (by omega)]
      grind
    · rw [if_neg e1, if_neg e1]
      split <;> grind
/-- a closed heap with nothing left is overdrawn -/
theorem no_closed (ok : c.Ok) (hpar : ∀ i, i < c.n → 0 ≤ par i) (pay : c.Pay par) (t : c.Tb par at_ need R rest) (hat : at_ < c.n) (hneed : 0 < need) (S : Hs) (h1 : inn (c.tou at_) S = true) (h2 : ∀ f, f < c.m → S f = true → rest f = 0)
    (h3 : ∀ f, f < c.m → S f = true → ∀ i, i < c.n → R i f ≠ 0 → inn (c.tou i) S = true) : False := by
  have a := pay S
  have e1 : c.W S = sm c.n (fun i => sm c.m (fun f => if S f = true then R i f else 0)) := by
    rw [sm_swap]
    refine sm_congr fun f hf => ?_
    by_cases e : S f = true
    · rw [if_pos e, sm_congr (g := fun i => R i f) (fun i _ => if_pos e), ← t.col f hf, h2 f hf e]
      grind
    · rw [if_neg e, sm_zero (fun i _ => if_neg e)]
  have e2 : ∀ i, i < c.n → sm c.m (fun f => if S f = true then R i f else 0) = if inn (c.tou i) S = true then sm c.m (fun f => R i f) else 0 := fun i hi => by
    by_cases e : inn (c.tou i) S = true
    · rw [if_pos e]
      refine sm_congr fun f hf => ?_
      by_cases ef : S f = true
      · exact if_pos ef
      · rw [if_neg ef, t.zero i f hi hf (fun z => ef (inn_iff.mp e f z))]
    · rw [if_neg e]
      refine sm_zero fun f hf => ?_
      by_cases ef : S f = true
      · rw [if_pos ef]
        by_cases er : R i f = 0
        · exact er
        · exact absurd (h3 f hf ef i hi er) e
      · exact if_neg ef
  have e3 : c.W S < c.load par S := by
    rw [e1]
    unfold load
    refine sm_lt (k := at_) (fun i hi => ?_) hat ?_
    · rw [e2 i hi]
      by_cases e : inn (c.tou i) S = true
      · rw [if_pos e, if_pos e, t.row i hi]
        have := hpar i hi
        split
        · exact Rat.le_refl
        · split
          · rename_i z
            rw [z]
            grind
          · exact this
      · rw [if_neg e, if_neg e]
        exact Rat.le_refl
    · rw [e2 at_ hat, if_pos h1, if_pos h1, t.row at_ hat, if_neg (by omega), if_pos rfl]
      grind
  grind
/-- the start, the step to the next claim, the end -/
theorem Tb.start (ok : c.Ok) (par : Nat → Rat) (h : 0 < c.n) : c.Tb par 0 (par 0) (fun _ _ => 0) c.w where
  nn := fun _ _ _ _ => Rat.le_refl
  zero := fun _ _ _ _ _ => rfl
  rest0 := ok.w0
  col := fun f _ => by
    rw [sm_zero (fun _ _ => rfl)]
    grind
  row := fun i _ => by
    rw [sm_zero (fun _ _ => rfl), if_neg (by omega)]
    split <;> grind
theorem Tb.next (t : c.Tb par at_ 0 R rest) (hat : at_ < c.n) : c.Tb par (at_ + 1) (par (at_ + 1)) R rest where
  nn := t.nn
  zero := t.zero
  rest0 := t.rest0
  col := t.col
  row := fun i hi => by
    rw [t.row i hi]
    by_cases e : i < at_
    · rw [if_pos e, if_pos (by omega)]
    · rw [if_neg e]
      by_cases e2 : i = at_
      · rw [if_pos e2, if_pos (by omega), e2]
        grind
      · rw [if_neg e2, if_neg (by omega)]
        split <;> grind
theorem Tb.tab (t : c.Tb par c.n need R rest) : c.Tab par R where
  nn := t.nn
  zero := t.zero
  sum := fun i hi => by rw [t.row i hi, if_pos hi]
  col := fun f hf => by
    have a := t.col f hf
    have b := t.rest0 f hf
    grind
end Cs
end KB

namespace KB
def smN : Nat → (Nat → Nat) → Nat
  | 0, _ => 0
  | n + 1, f => smN n f + f n
namespace Cs
/-- dues in coins of 1 / D are g times e; e sums up to M at most -/
structure Dn (c : Cs) (D g M : Nat) (e : Nat → Nat) : Prop where
  d0 : 0 < D
  g0 : 0 < g
  m0 : 1 ≤ M
  eq : ∀ i, i < c.n → c.due i * (D : Rat) = (g : Rat) * (e i : Rat)
  le : smN c.n e ≤ M
  wz : ∀ f, f < c.m → ∃ z : Int, c.w f = (z : Rat)
theorem part_e {due : Nat → Rat} {e : Nat → Nat} {D g : Rat} {P : Nat → Prop} [DecidablePred P] : ∀ {n : Nat}, (∀ i, i < n → due i * D = g * (e i : Rat)) →
    ∃ E : Nat, sm n (fun i => if P i then due i else 0) * D = g * (E : Rat) ∧ E ≤ smN n e
  | 0, _ => ⟨0, by
    show (0 : Rat) * D = g * ((0 : Nat) : Rat)
    have : ((0 : Nat) : Rat) = 0 := rfl
    rw [this]
    grind, Nat.le_refl 0⟩
  | n + 1, h => by
    obtain ⟨E, h1, h2⟩ := part_e (P := P) (n := n) fun i hi => h i (by omega)
    have hn := h n (by omega)
    by_cases p : P n
    · refine ⟨E + e n, ?_, Nat.add_le_add_right h2 _⟩
      show (sm n (fun i => if P i then due i else 0) + (if P n then due n else 0)) * D = _
      rw [if_pos p, Rat.natCast_add]
      grind
    · refine ⟨E, ?_, Nat.le_trans h2 (Nat.le_add_right _ _)⟩
      show (sm n (fun i => if P i then due i else 0) + (if P n then due n else 0)) * D = _
      rw [if_neg p]
      grind
variable {c : Cs} {par now : Nat → Rat} {r : Int} {places going : List Nat} {l top : Rat} {done : List Nat} {D g M : Nat} {e : Nat → Nat}
theorem Iz.of_dvd {q : Rat} {N N' : Nat} (h : Iz q N) (d : N ∣ N') : Iz q N' := by
  obtain ⟨k, rfl⟩ := d
  exact h.mul k
theorem Dn.due_iz (d : c.Dn D g M e) {i : Nat} (hi : i < c.n) : Iz (c.due i) D := ⟨(g * e i : Nat), by
  rw [d.eq i hi, Rat.intCast_natCast, Rat.natCast_mul]⟩
theorem Dn.W_iz (d : c.Dn D g M e) (h : Hs) : Iz (c.W h) 1 := by
  unfold W
  refine Iz.sm fun f hf => ?_
  split
  · obtain ⟨z, hz⟩ := d.wz f hf
    rw [hz]
    exact Iz.int z 1
  · exact Iz.zero 1
theorem Turn.iz (t : c.Turn now going top done) (hgn : ∀ i, i ∈ going → i < c.n) (d : c.Dn D g M e) {N : Nat} (hN : 0 < N) (hD : D ∣ N) (hz : ∀ i, i < c.n → Iz (now i) N) :
    ∃ N', 0 < N' ∧ N ∣ N' ∧ N' ≤ N * M ∧ ∀ i, i < c.n → Iz (c.put now done top i) N' := by
  rcases t.att with e1 | ⟨h, hn, e1⟩
  · refine ⟨N, hN, Nat.dvd_refl N, Nat.le_mul_of_pos_right N d.m0, fun i hi => ?_⟩
    unfold put
    split
    · rw [e1]
      have : c.due i * 1 = c.due i := by grind
      rw [this]
      exact Iz.of_dvd (d.due_iz hi) hD
    · exact hz i hi
  · obtain ⟨E, h1, h2⟩ := part_e (P := fun i => inn (c.tou i) h = true ∧ i ∈ going) (D := (D : Rat)) (g := (g : Rat)) (n := c.n) (due := c.due) (e := e) d.eq
    have h1 : c.need going h * (D : Rat) = (g : Rat) * (E : Rat) := h1
    have hD0 : (D : Rat) ≠ 0 := fun z => by
      have := Rat.natCast_eq_zero_iff.mp z
      have := d.d0
      omega
    have hg0 : (g : Rat) ≠ 0 := fun z => by
      have := Rat.natCast_eq_zero_iff.mp z
      have := d.g0
      omega
    have hE : E ≠ 0 := fun z => by
      rw [z] at h1
      have : ((0 : Nat) : Rat) = 0 := rfl
      rw [this, Rat.mul_zero] at h1
      rcases Rat.mul_eq_zero.mp h1 with q | q
      · exact hn q
      · exact hD0 q
    refine ⟨N * E, Nat.mul_pos hN (by omega), ⟨E, rfl⟩, Nat.mul_le_mul_left N (Nat.le_trans h2 d.le), fun i hi => ?_⟩
    unfold put
    split
    · have hr : Iz (c.room now going h) N := by
        unfold room
        refine (Iz.of_dvd (d.W_iz h) (Nat.one_dvd N)).sub (Iz.sm fun j hj => ?_)
        split
        · exact hz j hj
        · exact Iz.zero N
      obtain ⟨z, hz2⟩ := hr
      have ht : top * c.need going h = c.room now going h := by
        rw [e1]
        exact Rat.div_mul_cancel hn
      have hi2 := d.eq i hi
      refine ⟨(e i : Int) * z, ?_⟩
      rw [Rat.intCast_mul, ← hz2, Rat.intCast_natCast, Rat.natCast_mul]
      have key : (g : Rat) * (c.due i * top * ((N : Rat) * (E : Rat))) = (g : Rat) * ((e i : Rat) * (c.room now going h * (N : Rat))) := by
        have a1 : (g : Rat) * (c.due i * top * ((N : Rat) * (E : Rat))) = c.due i * top * (N : Rat) * ((g : Rat) * (E : Rat)) := by grind
        have a2 : (g : Rat) * ((e i : Rat) * (c.room now going h * (N : Rat))) = ((g : Rat) * (e i : Rat)) * (c.room now going h * (N : Rat)) := by grind
        rw [a1, a2, ← h1, ← hi2, ← ht]
        grind
      have k2 : (g : Rat) * (c.due i * top * ((N : Rat) * (E : Rat)) - (e i : Rat) * (c.room now going h * (N : Rat))) = 0 := by grind
      rcases Rat.mul_eq_zero.mp k2 with q | q
      · exact absurd q hg0
      · grind
    · exact (hz i hi).mul E
end Cs
end KB

namespace KB
open PySem PySem.Spec PyProof.Rows L2
/-! ### readings by short names -/
abbrev kAdd : R2 := rI0 fun i j => .int (i + j)
abbrev kSub : R2 := rI0 fun i j => .int (i - j)
abbrev kMul : R2 := rI CMulX fun i j => .int (i * j)
abbrev kDiv : R2 := rI CDivW fun i j => .int (i / j)
abbrev kMod : R2 := rI (fun _ j => 0 < j) fun i j => .int (i % j)
abbrev kPow : R2 := rI CPow fun i j => .int (i ^ j.toNat)
abbrev kNeg : V → Hp → VK → Prop := rU fun i => .int (-i)
abbrev kLt : R2 := rI0 fun i j => .bl (decide (i < j))
abbrev kLe : R2 := rI0 fun i j => .bl (decide (i ≤ j))
abbrev kGt : R2 := rI0 fun i j => .bl (decide (j < i))
abbrev kGe : R2 := rI0 fun i j => .bl (decide (j ≤ i))
abbrev kIsN : R2 := fun x y H Q => y = .non ∧ Q (.bl (decide (x = .non))) H
abbrev kNotN : R2 := fun x y H Q => y = .non ∧ Q (.bl (!decide (x = .non))) H
abbrev kAbs : List V → Hp → VK → Prop := fun xs H Q => ∃ i, xs = [.int i] ∧ Q (.int (if i < 0 then -i else i)) H
abbrev kMin2 : List V → Hp → VK → Prop := fun xs H Q => ∃ i j, xs = [.int i, .int j] ∧ Q (.int (if j < i then j else i)) H
abbrev kLen (K : PySem.W.Frag) : List V → Hp → VK → Prop := fun xs H Q => ∃ p ys, xs = [.ref p] ∧ (SqL K H p ys ∨ SqT K H p ys) ∧ Q (.int ys.length) H
abbrev kList (K : PySem.W.Frag) : List V → Hp → VK → Prop := fun xs H Q => ∃ p ys, xs = [.ref p] ∧ (SqL K H p ys ∨ SqT K H p ys) ∧ ∀ l, H l = none → Q (.ref l) (upd H l (.lst ys))
abbrev kTup (K : PySem.W.Frag) : List V → Hp → VK → Prop := fun xs H Q => ∃ p ys, xs = [.ref p] ∧ ((SqL K H p ys ∧ ∀ l, H l = none → Q (.ref l) (upd H l (.tup ys))) ∨ (SqT K H p ys ∧ Q (.ref p) H))
abbrev kIpAdd : TIp := ipI fun i j => i + j
/-- xs[i], i from 0, by values -/
def rGetL (K : PySem.W.Frag) : V → V → Hp → VK → Prop := fun o i H Q => ∃ (p : Addr) (xs : List V) (j : Nat) (v : V), o = .ref p ∧ i = .int (j : Int) ∧ SqL K H p xs ∧ xs[j]? = some v ∧ Q v H
theorem get_list {X : Cx} : PGet X (rGetL X.K) := by
  intro pins s σ H o i ov iv Q I ro ri h
  obtain ⟨p, xs, j, z, rfl, rfl, hq, he, q⟩ := h
  obtain rfl : ov = Value.ref p := ro
  obtain ⟨t, rfl⟩ := ri
  obtain ⟨its, r, pl, hz⟩ := I.list hq
  obtain ⟨u, eu, ru⟩ := r.get he
  have hj : j < xs.length := (List.getElem?_eq_some_iff.mp he).1
  have hn := line63
  exact wpAny_getItem_list (x := u) pl.isList (Int.natCast_nonneg j) (by omega) (by rw [Int.toNat_natCast, List.getElem?_toArray]; exact eu) ⟨z, H, I, ru, q⟩
/-! ### a def of the text that keeps a promise -/
def Okf (P : Program) (w : World) (K : PySem.W.Frag) (mg : Str → Option Value) (base : Heap) (k : Nat) (x : Str) (ps : List Str) (sp : Sp) : Prop :=
  ∃ (f : Addr) (fd : FuncData), FnOk P w K mg base CX0 k f fd ps sp ∧ Binds K fd ps [] ∧ PySem.W.keepIn K (.ref f) = true ∧ mg x = some (.ref f)
theorem pe_cf {X : Cx} {k j : Nat} {x : Str} {ps : List Str} {sp : Sp} {p pos : Pos} {e : Expr} {es : List Expr} {t : TA} (h : Okf X.prog X.w X.K X.mg X.base k x ps sp) (hr : Room j X.A) (hk : k ≤ j) (hg : Gl X x) (ha : PA X (e :: es) t)
    (hdb : (x == ("__debug__" : Str)) = false := by decide) (he : starEach (e :: es) X.env = (false, eval e X.env) :: starEach es X.env := by rfl) (hpl : (backTo pos (starEach es X.env)).any (·.1) = false := by rfl) :
    PE X (.Call (.Name x p) (e :: es) [] pos) (tCall sp [] E0 t) := by
  obtain ⟨f, fd, F, b, kp, g⟩ := h
  exact pe_call F (hr.mono hk) hg g kp b .nil pass0 ha hdb he hpl

/-! ### heaps: what is kept -/
theorem same_new {H : Hp} {p : Addr} {o : HO} (h : H p = none) : Same H (upd H p o) := fun b x e => by
  rw [upd_ne (ne_of_none e h)]
  exact e
theorem same_mut {H H' : Hp} {p : Addr} {o : HO} (s : Same H H') (h : H p = none) : Same H (upd H' p o) := fun b x e => by
  rw [upd_ne (ne_of_none e h)]
  exact s b x e
/-- tuples are kept -/
def TK (H H' : Hp) : Prop := (∀ a u, H a = some (.tup u) → H' a = some (.tup u)) ∧ ∀ a o u, H a = some (.frz o u) → H' a = some (.frz o u)
theorem TK.refl (H : Hp) : TK H H := ⟨fun _ _ h => h, fun _ _ _ h => h⟩
theorem TK.trans {H H1 H2 : Hp} (a : TK H H1) (b : TK H1 H2) : TK H H2 := ⟨fun c u h => b.1 c u (a.1 c u h), fun c o u h => b.2 c o u (a.2 c o u h)⟩
theorem tk_of {H H' : Hp} (s : Same H H') : TK H H' := ⟨fun _ _ h => s _ _ h, fun _ _ _ h => s _ _ h⟩
theorem tk_new {H : Hp} {p : Addr} {o : HO} (h : H p = none) : TK H (upd H p o) := tk_of (same_new h)
theorem tk_lst {H : Hp} {p : Addr} {xs : List V} {o : HO} (h : H p = some (.lst xs)) : TK H (upd H p o) :=
  ⟨fun a u r => by rw [upd_ne (ne_of r h (by intro z; cases z))]; exact r, fun a ob u r => by rw [upd_ne (ne_of r h (by intro z; cases z))]; exact r⟩
theorem tk_dk {H : Hp} {p : Addr} {kvs : List (Key × V)} {o : HO} (h : H p = some (.dK kvs)) : TK H (upd H p o) :=
  ⟨fun a u r => by rw [upd_ne (ne_of r h (by intro z; cases z))]; exact r, fun a ob u r => by rw [upd_ne (ne_of r h (by intro z; cases z))]; exact r⟩
theorem TK.sq {K : PySem.W.Frag} {H H' : Hp} (t : TK H H') {a : Addr} {xs : List V} (h : SqT K H a xs) : SqT K H' a xs := by
  rcases h with (h | ⟨o, h⟩) | h
  · exact .inl (.inl (t.1 _ _ h))
  · exact .inl (.inr ⟨o, t.2 _ _ _ h⟩)
  · exact .inr h

/-! ### what stands for what -/
/-- a list of values and a list of things, place by place -/
def All2 {α : Type} (R : V → α → Prop) (vs : List V) (xs : List α) : Prop := vs.length = xs.length ∧ ∀ (i : Nat) (v : V) (x : α), vs[i]? = some v → xs[i]? = some x → R v x
section
variable {α β : Type} {R S : V → α → Prop} {vs ws : List V} {xs ys : List α}
theorem All2.nil : All2 R [] [] := ⟨rfl, fun i v x h => by simp at h⟩
theorem All2.mono (h : All2 R vs xs) (f : ∀ v x, R v x → S v x) : All2 S vs xs := ⟨h.1, fun i v x a b => f v x (h.2 i v x a b)⟩
theorem All2.get (h : All2 R vs xs) {i : Nat} {x : α} (e : xs[i]? = some x) : ∃ v, vs[i]? = some v ∧ R v x := by
  have hi : i < vs.length := by rw [h.1]; exact (List.getElem?_eq_some_iff.mp e).1
  exact ⟨vs[i], List.getElem?_eq_getElem hi, h.2 i _ x (List.getElem?_eq_getElem hi) e⟩
theorem All2.got (h : All2 R vs xs) {i : Nat} {v : V} (e : vs[i]? = some v) : ∃ x, xs[i]? = some x ∧ R v x := by
  have hi : i < xs.length := by rw [← h.1]; exact (List.getElem?_eq_some_iff.mp e).1
  exact ⟨xs[i], List.getElem?_eq_getElem hi, h.2 i v _ e (List.getElem?_eq_getElem hi)⟩
theorem All2.snoc (h : All2 R vs xs) {v : V} {x : α} (r : R v x) : All2 R (vs ++ [v]) (xs ++ [x]) := by
  refine ⟨by rw [List.length_append, List.length_append, h.1]; rfl, fun i u y a b => ?_⟩
  by_cases hi : i < vs.length
  · rw [List.getElem?_append_left hi] at a
    rw [List.getElem?_append_left (by rw [← h.1]; exact hi)] at b
    exact h.2 i u y a b
  · rw [List.getElem?_append_right (by omega)] at a
    rw [List.getElem?_append_right (by rw [← h.1]; omega), ← h.1] at b
    have e : i - vs.length = 0 := by
      have := (List.getElem?_eq_some_iff.mp a).1
      simp at this
      omega
    rw [e] at a b
    cases a
    cases b
    exact r
theorem All2.set (h : All2 R vs xs) {v : V} {x : α} (r : R v x) (j : Nat) : All2 R (vs.set j v) (xs.set j x) := by
  refine ⟨by rw [List.length_set, List.length_set, h.1], fun i u y a b => ?_⟩
  by_cases e : j = i
  · subst e
    have hj : j < vs.length := by
      have := (List.getElem?_eq_some_iff.mp a).1
      rwa [List.length_set] at this
    rw [List.getElem?_set_self hj] at a
    rw [List.getElem?_set_self (by rw [← h.1]; exact hj)] at b
    cases a
    cases b
    exact r
  · rw [List.getElem?_set_ne e] at a b
    exact h.2 i u y a b
theorem All2.cons (h : All2 R vs xs) {v : V} {x : α} (r : R v x) : All2 R (v :: vs) (x :: xs) := by
  refine ⟨by rw [List.length_cons, List.length_cons, h.1], fun i u y a b => ?_⟩
  cases i with
  | zero =>
    cases a
    cases b
    exact r
  | succ i => exact h.2 i u y a b
theorem All2.take (h : All2 R vs xs) (n : Nat) : All2 R (vs.take n) (xs.take n) := by
  refine ⟨by rw [List.length_take, List.length_take, h.1], fun i u y a b => ?_⟩
  have hi : i < n := by
    have := (List.getElem?_eq_some_iff.mp a).1
    rw [List.length_take] at this
    omega
  rw [List.getElem?_take_of_lt hi] at a b
  exact h.2 i u y a b
theorem All2.drop (h : All2 R vs xs) (n : Nat) : All2 R (vs.drop n) (xs.drop n) := by
  refine ⟨by rw [List.length_drop, List.length_drop, h.1], fun i u y a b => ?_⟩
  rw [List.getElem?_drop] at a b
  exact h.2 _ u y a b
theorem All2.append (h : All2 R vs xs) (k : All2 R ws ys) : All2 R (vs ++ ws) (xs ++ ys) := by
  refine ⟨by rw [List.length_append, List.length_append, h.1, k.1], fun i u y a b => ?_⟩
  by_cases hi : i < vs.length
  · rw [List.getElem?_append_left hi] at a
    rw [List.getElem?_append_left (by rw [← h.1]; exact hi)] at b
    exact h.2 i u y a b
  · rw [List.getElem?_append_right (by omega)] at a
    rw [List.getElem?_append_right (by rw [← h.1]; omega), ← h.1] at b
    exact k.2 _ u y a b
theorem All2.reverse (h : All2 R vs xs) : All2 R vs.reverse xs.reverse := by
  refine ⟨by rw [List.length_reverse, List.length_reverse, h.1], fun i u y a b => ?_⟩
  have hi : i < vs.length := by
    have := (List.getElem?_eq_some_iff.mp a).1
    rwa [List.length_reverse] at this
  rw [List.getElem?_reverse hi] at a
  rw [List.getElem?_reverse (by rw [← h.1]; exact hi), ← h.1] at b
  exact h.2 _ u y a b
end
/-- a place as a value -/
abbrev nv (p : Nat) : V := .int (p : Int)
structure Cl where
  due : Rat
  tou : List Nat
  rk : Int
section
variable (K : PySem.W.Frag) (H : Hp)
/-- a part -/
def isP (v : V) (q : Rat) : Prop := ∃ a, v = .ref a ∧ SqT K H a [.int q.num, .int (q.den : Int)]
/-- a heap of funds -/
def isH (v : V) (h : List Nat) : Prop := ∃ a, v = .ref a ∧ SqT K H a (h.map nv)
/-- a claim -/
def isC (v : V) (c : Cl) : Prop := ∃ a d t, v = .ref a ∧ SqT K H a [d, t, .int c.rk] ∧ isP K H d c.due ∧ isH K H t c.tou
/-- a list of such -/
def isL {α : Type} (R : V → α → Prop) (v : V) (xs : List α) : Prop := ∃ a vs, v = .ref a ∧ SqL K H a vs ∧ All2 R vs xs
/-- a list of ints, of places -/
def isLI (v : V) (ns : List Int) : Prop := ∃ a, v = .ref a ∧ SqL K H a (ns.map V.int)
def isLN (v : V) (ns : List Nat) : Prop := ∃ a, v = .ref a ∧ SqL K H a (ns.map nv)
end
section
variable {K : PySem.W.Frag} {H H' : Hp} {v : V}
theorem isP.mono {q : Rat} (t : TK H H') (h : isP K H v q) : isP K H' v q := let ⟨a, e, s⟩ := h; ⟨a, e, t.sq s⟩
theorem isH.mono {q : List Nat} (t : TK H H') (h : isH K H v q) : isH K H' v q := let ⟨a, e, s⟩ := h; ⟨a, e, t.sq s⟩
theorem isC.mono {c : Cl} (t : TK H H') (h : isC K H v c) : isC K H' v c := let ⟨a, d, u, e, s, p, q⟩ := h; ⟨a, d, u, e, t.sq s, p.mono t, q.mono t⟩
theorem isLI.mono {ns : List Int} (t : Same H H') (h : isLI K H v ns) : isLI K H' v ns := let ⟨a, e, s⟩ := h; ⟨a, e, t.seq s⟩
theorem isLN.mono {ns : List Nat} (t : Same H H') (h : isLN K H v ns) : isLN K H' v ns := let ⟨a, e, s⟩ := h; ⟨a, e, t.seq s⟩
theorem isL.mono {α : Type} {R R' : V → α → Prop} {xs : List α} (t : Same H H') (f : ∀ u x, R u x → R' u x) (h : isL K H R v xs) : isL K H' R' v xs := let ⟨a, vs, e, s, r⟩ := h; ⟨a, vs, e, t.seq s, r.mono f⟩
theorem isL.monoP {xs : List Rat} (t : Same H H') (h : isL K H (isP K H) v xs) : isL K H' (isP K H') v xs := h.mono t fun _ _ r => r.mono (tk_of t)
theorem isL.monoC {xs : List Cl} (t : Same H H') (h : isL K H (isC K H) v xs) : isL K H' (isC K H') v xs := h.mono t fun _ _ r => r.mono (tk_of t)
theorem isL.monoH {xs : List (List Nat)} (t : Same H H') (h : isL K H (isH K H) v xs) : isL K H' (isH K H') v xs := h.mono t fun _ _ r => r.mono (tk_of t)
end
/-! ### numbers of bounded size -/
def B1 : Nat := 2 ^ 4450
def B2 : Nat := 2 ^ 9000
theorem B1_B2 {a b : Nat} (ha : a < B1) (hb : b < B1) : a * b < B2 := by
  have h1 : a * b < 2 ^ 4450 * 2 ^ 4450 := Nat.mul_lt_mul'' ha hb
  have h2 : (2 : Nat) ^ 4450 * 2 ^ 4450 = 2 ^ 8900 := by rw [← Nat.pow_add]
  have h3 : (2 : Nat) ^ 8900 ≤ 2 ^ 9000 := Nat.pow_le_pow_right (by decide) (by decide)
  unfold B2
  omega
def Fit (q : Rat) : Prop := q.num.natAbs < B1 ∧ q.den < B1
theorem mulB {i j : Int} (hi : i.natAbs < B1) (hj : j.natAbs < B1) : CMulX i j := mulx_ok (a := 4450) (b := 4450) hi hj (by decide)
theorem mulW {i j : Int} (hi : i.natAbs < B2) (hj : j.natAbs < B2) : CMulX i j := mulx_ok (a := 9000) (b := 9000) hi hj (by decide)
theorem divB {i : Int} {d : Nat} (h0 : 0 < d) (h : d < B2) : CDivW i (d : Int) := wide_div (b := 9000) (by omega) (by rw [Int.natAbs_natCast]; exact h) (by decide) (by decide)
/-! ### values without a change of the heap -/
section
variable {K : PySem.W.Frag} {σ : L2.St} {H : Hp} {ta tb : TE} {x y : V}
theorem v_ixT {a : Addr} {xs : List V} {j : Nat} {v : V} (ha : Val ta σ H (.ref a)) (hb : Val tb σ H (.int (j : Int))) (h : SqT K H a xs) (e : xs[j]? = some v) : Val (tOp (rIxT K) ta tb) σ H v :=
  val_op ha hb fun Q q => ⟨a, xs, (j : Int), v, rfl, rfl, h, atI_nat e, q⟩
theorem v_ixL {a : Addr} {xs : List V} {j : Nat} {v : V} (ha : Val ta σ H (.ref a)) (hb : Val tb σ H (.int (j : Int))) (h : SqL K H a xs) (e : xs[j]? = some v) : Val (tOp (rIxL K) ta tb) σ H v :=
  val_op ha hb fun Q q => ⟨a, xs, (j : Int), v, rfl, rfl, h, atI_nat e, q⟩
/-- the number of a part, its under -/
theorem v_num {q : Rat} (ha : Val ta σ H x) (h : isP K H x q) : Val (tOp (rIxT K) ta (tC (.int 0))) σ H (.int q.num) := by
  obtain ⟨a, rfl, s⟩ := h
  exact v_ixT (j := 0) ha val_c s rfl
theorem v_den {q : Rat} (ha : Val ta σ H x) (h : isP K H x q) : Val (tOp (rIxT K) ta (tC (.int 1))) σ H (.int (q.den : Int)) := by
  obtain ⟨a, rfl, s⟩ := h
  exact v_ixT (j := 1) ha val_c s rfl
theorem v_add {i j : Int} (ha : Val ta σ H (.int i)) (hb : Val tb σ H (.int j)) : Val (tOp kAdd ta tb) σ H (.int (i + j)) := val_op ha hb fun Q q => ⟨i, j, rfl, rfl, q⟩
theorem v_sub {i j : Int} (ha : Val ta σ H (.int i)) (hb : Val tb σ H (.int j)) : Val (tOp kSub ta tb) σ H (.int (i - j)) := val_op ha hb fun Q q => ⟨i, j, rfl, rfl, q⟩
theorem v_mul {i j : Int} (ha : Val ta σ H (.int i)) (hb : Val tb σ H (.int j)) (h : CMulX i j) : Val (tOp kMul ta tb) σ H (.int (i * j)) := val_op ha hb fun Q q => ⟨i, j, rfl, rfl, h, q⟩
theorem v_div {i j : Int} (ha : Val ta σ H (.int i)) (hb : Val tb σ H (.int j)) (h : CDivW i j) : Val (tOp kDiv ta tb) σ H (.int (i / j)) := val_op ha hb fun Q q => ⟨i, j, rfl, rfl, h, q⟩
theorem v_mod {i j : Int} (ha : Val ta σ H (.int i)) (hb : Val tb σ H (.int j)) (h : 0 < j) : Val (tOp kMod ta tb) σ H (.int (i % j)) := val_op ha hb fun Q q => ⟨i, j, rfl, rfl, h, q⟩
theorem v_pow {i j : Int} (ha : Val ta σ H (.int i)) (hb : Val tb σ H (.int j)) (h : CPow i j) : Val (tOp kPow ta tb) σ H (.int (i ^ j.toNat)) := val_op ha hb fun Q q => ⟨i, j, rfl, rfl, h, q⟩
theorem v_neg {i : Int} (ha : Val ta σ H (.int i)) : Val (tUn kNeg ta) σ H (.int (-i)) := fun Q q => ha _ ⟨i, rfl, q⟩
theorem v_lt {i j : Int} (ha : Val ta σ H (.int i)) (hb : Val tb σ H (.int j)) : Val (tOp kLt ta tb) σ H (.bl (decide (i < j))) := val_op ha hb fun Q q => ⟨i, j, rfl, rfl, q⟩
theorem v_le {i j : Int} (ha : Val ta σ H (.int i)) (hb : Val tb σ H (.int j)) : Val (tOp kLe ta tb) σ H (.bl (decide (i ≤ j))) := val_op ha hb fun Q q => ⟨i, j, rfl, rfl, q⟩
theorem v_gt {i j : Int} (ha : Val ta σ H (.int i)) (hb : Val tb σ H (.int j)) : Val (tOp kGt ta tb) σ H (.bl (decide (j < i))) := val_op ha hb fun Q q => ⟨i, j, rfl, rfl, q⟩
theorem v_ge {i j : Int} (ha : Val ta σ H (.int i)) (hb : Val tb σ H (.int j)) : Val (tOp kGe ta tb) σ H (.bl (decide (j ≤ i))) := val_op ha hb fun Q q => ⟨i, j, rfl, rfl, q⟩
theorem v_eq (ha : Val ta σ H x) (hb : Val tb σ H y) (h : scal x y = true) : Val (tOp rEq ta tb) σ H (.bl (decide (x = y))) := val_op ha hb fun Q q => ⟨h, q⟩
theorem v_ne (ha : Val ta σ H x) (hb : Val tb σ H y) (h : scal x y = true) : Val (tOp rNe ta tb) σ H (.bl (!decide (x = y))) := val_op ha hb fun Q q => ⟨h, q⟩
theorem v_eqI {i j : Int} (ha : Val ta σ H (.int i)) (hb : Val tb σ H (.int j)) : Val (tOp rEq ta tb) σ H (.bl (decide (i = j))) := by
  have e : decide (V.int i = V.int j) = decide (i = j) := decide_eq_decide.mpr ⟨fun z => by cases z; rfl, fun z => by rw [z]⟩
  rw [← e]
  exact v_eq ha hb rfl
theorem v_neI {i j : Int} (ha : Val ta σ H (.int i)) (hb : Val tb σ H (.int j)) : Val (tOp rNe ta tb) σ H (.bl (!decide (i = j))) := by
  have e : decide (V.int i = V.int j) = decide (i = j) := decide_eq_decide.mpr ⟨fun z => by cases z; rfl, fun z => by rw [z]⟩
  rw [← e]
  exact v_ne ha hb rfl
theorem v_abs {i : Int} (ha : Val ta σ H (.int i)) : Val (tCB kAbs (tCons ta tNil)) σ H (.int (i.natAbs : Int)) := fun Q q => ha _ ⟨i, rfl, by
  have e : (if i < 0 then -i else i) = (i.natAbs : Int) := by split <;> omega
  rw [e]
  exact q⟩
theorem v_min2 {i j : Int} (ha : Val ta σ H (.int i)) (hb : Val tb σ H (.int j)) : Val (tCB kMin2 (tCons ta (tCons tb tNil))) σ H (.int (if j < i then j else i)) := fun Q q => ha _ (hb _ ⟨i, j, rfl, q⟩)
theorem v_lenL {a : Addr} {xs : List V} (ha : Val ta σ H (.ref a)) (h : SqL K H a xs) : Val (tCB (kLen K) (tCons ta tNil)) σ H (.int (xs.length : Int)) := fun Q q => ha _ ⟨a, xs, rfl, .inl h, q⟩
theorem v_lenT {a : Addr} {xs : List V} (ha : Val ta σ H (.ref a)) (h : SqT K H a xs) : Val (tCB (kLen K) (tCons ta tNil)) σ H (.int (xs.length : Int)) := fun Q q => ha _ ⟨a, xs, rfl, .inr h, q⟩
/-! ### data compared -/
theorem dp_part {q : Rat} (h : isP K H x q) : Dp K H x (.tuple [.int q.num, .int (q.den : Int)]) := by
  obtain ⟨a, rfl, s⟩ := h
  exact .tup s (.cons (.int _) (.cons (.int _) .nil))
theorem eqv_part (a b c d : Int) : PyData.eqv (.tuple [.int a, .int b]) (.tuple [.int c, .int d]) = (decide (a = c) && decide (b = d)) := by
  have e : ∀ x y : Int, (x == y) = decide (x = y) := fun x y => rfl
  simp [PyData.eqv, PyData.eqvAll, e]
theorem part_eq {q r : Rat} : (decide (q.num = r.num) && decide ((q.den : Int) = (r.den : Int))) = decide (q = r) := by
  rw [← Bool.decide_and]
  refine decide_eq_decide.mpr ⟨fun ⟨a, b⟩ => Rat.ext a (by omega), fun z => by rw [z]; exact ⟨rfl, rfl⟩⟩
theorem shaped_part (a b : Int) : SeqAt.shaped (.tuple [.int a, .int b]) = true := rfl
theorem v_eqP {q r : Rat} (ha : Val ta σ H x) (hb : Val tb σ H y) (h1 : isP K H x q) (h2 : isP K H y r) : Val (tOp (rEqD K) ta tb) σ H (.bl (decide (q = r))) := val_op ha hb fun Q k =>
  ⟨_, _, dp_part h1, dp_part h2, shaped_part _ _, shaped_part _ _, by rw [eqv_part, part_eq]; exact k⟩
theorem v_neP {q r : Rat} (ha : Val ta σ H x) (hb : Val tb σ H y) (h1 : isP K H x q) (h2 : isP K H y r) : Val (tOp (rNeD K) ta tb) σ H (.bl (!decide (q = r))) := val_op ha hb fun Q k =>
  ⟨_, _, dp_part h1, dp_part h2, shaped_part _ _, shaped_part _ _, by rw [eqv_part, part_eq]; exact k⟩
end
theorem part0 {K : PySem.W.Frag} {mg : Str → Option Value} (T : Txt K mg) (H : Hp) : isP K H (.ref (He.ga K "NOUGHT")) 0 := ⟨_, rfl, T.nought H⟩
theorem part1 {K : PySem.W.Frag} {mg : Str → Option Value} (T : Txt K mg) (H : Hp) : isP K H (.ref (He.ga K "WHOLE")) 1 := ⟨_, rfl, T.whole H⟩

section
variable {σ : L2.St} {H : Hp} {te : TE} {b : Bool}
theorem ans_vt (h : Val te σ H (.bl b)) : Ans (tTest te) σ H b := fun Q q => h _ ⟨b, rfl, q⟩
end
end KB

namespace KB
open PySem PySem.Spec PyProof.Rows L2
/-! ### statements, one by one: q_ ahead of others, s_ the last of a block -/
section
variable {K : PySem.W.Frag} {σ : L2.St} {H : Hp} {D : Ends} {i : Nat} {v x y z : V} {te ta tb tl : TE} {c : TT} {t e u tbd : TS} {b : Bool} {g : TG}
theorem q_set (h : Val te σ H v) (q : u D (σ.set i (some v)) H) : tSeq (tAsg te (gName i)) u D σ H := h _ q
theorem s_set (h : Val te σ H v) (q : D.nx (σ.set i (some v)) H) : tAsg te (gName i) D σ H := h _ q
/-- by what follows -/
theorem q_asg (h : te σ H fun v H1 => u D (σ.set i (some v)) H1) : tSeq (tAsg te (gName i)) u D σ H := h
theorem s_asg (h : te σ H fun v H1 => D.nx (σ.set i (some v)) H1) : tAsg te (gName i) D σ H := h
theorem q_asgG (h : te σ H fun v H1 => g v σ H1 (u D)) : tSeq (tAsg te g) u D σ H := h
theorem s_asgG (h : te σ H fun v H1 => g v σ H1 D.nx) : tAsg te g D σ H := h
theorem q_drop (h : te σ H fun _ H1 => u D σ H1) : tSeq (tDrop te) u D σ H := h
theorem s_drop (h : te σ H fun _ H1 => D.nx σ H1) : tDrop te D σ H := h
theorem s_ret (h : Val te σ H v) (q : D.rt v H) : tRet te D σ H := h _ q
theorem s_retc (h : te σ H D.rt) : tRet te D σ H := h
theorem s_next (h : D.nx σ H) : tNext D σ H := h
theorem q_if (h : Ans c σ H b) (h1 : b = true → t { D with nx := u D } σ H) (h2 : b = false → e { D with nx := u D } σ H) : tSeq (tIfS c t e) u D σ H := h _ (by
  cases b with
  | true => exact iteT (h1 rfl)
  | false => exact iteF (h2 rfl))
theorem q_if0 (h : Ans c σ H b) (h1 : b = true → t { D with nx := u D } σ H) (h2 : b = false → u D σ H) : tSeq (tIfS c t tNext) u D σ H := q_if h h1 h2
theorem s_if (h : Ans c σ H b) (h1 : b = true → t D σ H) (h2 : b = false → e D σ H) : tIfS c t e D σ H := h _ (by
  cases b with
  | true => exact iteT (h1 rfl)
  | false => exact iteF (h2 rfl))
theorem s_if0 (h : Ans c σ H b) (h1 : b = true → t D σ H) (h2 : b = false → D.nx σ H) : tIfS c t tNext D σ H := s_if h h1 h2
/-- where the test changes the heap -/
theorem q_ifc (h : c σ H fun b H1 => if b = true then t { D with nx := u D } σ H1 else e { D with nx := u D } σ H1) : tSeq (tIfS c t e) u D σ H := h
theorem s_ifc (h : c σ H fun b H1 => if b = true then t D σ H1 else e D σ H1) : tIfS c t e D σ H := h
theorem q_aug {a k : Int} (hx : σ[i]? = some (some (.int a))) (h : Val te σ H (.int k)) (q : u D (σ.set i (some (.int (a + k)))) H) : tSeq (tAug i te kIpAdd) u D σ H := ⟨_, hx, h _ ⟨a, k, rfl, rfl, q⟩⟩
theorem s_aug {a k : Int} (hx : σ[i]? = some (some (.int a))) (h : Val te σ H (.int k)) (q : D.nx (σ.set i (some (.int (a + k)))) H) : tAug i te kIpAdd D σ H := ⟨_, hx, h _ ⟨a, k, rfl, rfl, q⟩⟩
theorem ixN_n {n j : Nat} (hj : j < n) : ixN n (j : Int) = some j := by
  unfold ixN
  rw [if_pos (by omega), if_pos (by omega), Int.toNat_natCast]
/-- xs[i] = e, e without a change of the heap -/
theorem q_setL {l : Addr} {xs : List V} {j : Nat} (h : Val te σ H v) (ho : Val ta σ H (.ref l)) (hi : Val tb σ H (.int (j : Int))) (hl : H l = some (.lst xs)) (hj : j < xs.length) (q : u D σ (upd H l (.lst (xs.set j v)))) :
    tSeq (tAsg te (gSub ta tb rSetL)) u D σ H := h _ (ho _ (hi _ ⟨l, xs, _, j, rfl, rfl, hl, ixN_n hj, q⟩))
theorem s_setL {l : Addr} {xs : List V} {j : Nat} (h : Val te σ H v) (ho : Val ta σ H (.ref l)) (hi : Val tb σ H (.int (j : Int))) (hl : H l = some (.lst xs)) (hj : j < xs.length) (q : D.nx σ (upd H l (.lst (xs.set j v)))) :
    tAsg te (gSub ta tb rSetL) D σ H := h _ (ho _ (hi _ ⟨l, xs, _, j, rfl, rfl, hl, ixN_n hj, q⟩))
/-- behind e -/
theorem g_setL {l : Addr} {xs : List V} {j : Nat} {k : L2.St → Hp → Prop} (ho : Val ta σ H (.ref l)) (hi : Val tb σ H (.int (j : Int))) (hl : H l = some (.lst xs)) (hj : j < xs.length) (q : k σ (upd H l (.lst (xs.set j v)))) : gSub ta tb rSetL v σ H k :=
  ho _ (hi _ ⟨l, xs, _, j, rfl, rfl, hl, ixN_n hj, q⟩)
/-- xs.append(e) -/
theorem app_in {l : Addr} {xs : List V} {Q : VK} (h : H l = some (.lst xs)) (hz : xs.length < 100000) (q : Q .non (upd H l (.lst (xs ++ [v])))) : rAppend (.ref l) [v] H Q := ⟨l, xs, v, rfl, rfl, h, Nat.lt_of_lt_of_le hz (by decide), q⟩
theorem c_app {l : Addr} {xs : List V} {Q : VK} (ho : Val ta σ H (.ref l)) (h0 : SqL K H l xs) (h : te σ H fun v H1 => rAppend (.ref l) [v] H1 Q) :
    tBM K "list" rAppend ta (tCons te tNil) σ H Q := ho _ ⟨.inl ⟨rfl, xs, h0⟩, h⟩
theorem q_app {l : Addr} {xs : List V} (ho : Val ta σ H (.ref l)) (h : Val te σ H v) (h0 : H l = some (.lst xs)) (hz : xs.length < 100000) (q : u D σ (upd H l (.lst (xs ++ [v])))) :
    tSeq (tDrop (tBM K "list" rAppend ta (tCons te tNil))) u D σ H := c_app ho (SqL.of h0) (h _ (app_in (Q := fun _ H1 => u D σ H1) h0 hz q))
theorem s_app {l : Addr} {xs : List V} (ho : Val ta σ H (.ref l)) (h : Val te σ H v) (h0 : H l = some (.lst xs)) (hz : xs.length < 100000) (q : D.nx σ (upd H l (.lst (xs ++ [v])))) :
    tDrop (tBM K "list" rAppend ta (tCons te tNil)) D σ H := c_app ho (SqL.of h0) (h _ (app_in (Q := fun _ H1 => D.nx σ H1) h0 hz q))
/-- d[k] = e -/
theorem s_dputI {d : Addr} {kvs : List (Key × V)} {j : Int} (h : Val te σ H v) (ho : Val ta σ H (.ref d)) (hi : Val tb σ H (.int j)) (h0 : H d = some (.dK kvs)) (hz : kvs.length < 100000) (q : D.nx σ (upd H d (.dK (putK kvs (Sum.inl j) v)))) :
    sDPut ta tb te D σ H := h _ (ho _ (hi _ ⟨d, _, rfl, DPut.k (k := Sum.inl j) h0 (Nat.lt_of_lt_of_le hz (by decide)), q⟩))
theorem a_dinI {d : Addr} {kvs : List (Key × V)} {j : Int} (hi : Val tb σ H (.int j)) (ho : Val ta σ H (.ref d)) (h0 : H d = some (.dK kvs)) : Ans (tB (tDIn tb ta)) σ H (valV kvs (Sum.inl j)).isSome := fun Q q => hi _ (ho _ ⟨d, _, rfl, DGet.k (k := Sum.inl j) h0, _, rfl, q⟩)
/-! ### loops -/
theorem q_forL {a : Addr} {xs : List V} (Pv : Nat → L2.St → Hp → Prop) (ht : Val tl σ H (.ref a)) (hx : SqL K H a xs) (h0 : Pv 0 σ H) (hl : ∀ i σ H, i ≤ xs.length → Pv i σ H → SqL K H a xs)
    (hs : ∀ i x σ H, xs[i]? = some x → Pv i σ H → g x σ H fun σ2 H2 => tbd { nx := Pv (i + 1), rt := D.rt, bk := u D, ct := Pv (i + 1) } σ2 H2) (hd : ∀ σ H, Pv xs.length σ H → u D σ H) :
    tSeq (tFor (iList K tl) g tbd) u D σ H := ht _ ⟨a, rfl, ⟨xs, hx⟩, for_list Pv h0 hl hs hd⟩
theorem s_forL {a : Addr} {xs : List V} (Pv : Nat → L2.St → Hp → Prop) (ht : Val tl σ H (.ref a)) (hx : SqL K H a xs) (h0 : Pv 0 σ H) (hl : ∀ i σ H, i ≤ xs.length → Pv i σ H → SqL K H a xs)
    (hs : ∀ i x σ H, xs[i]? = some x → Pv i σ H → g x σ H fun σ2 H2 => tbd { nx := Pv (i + 1), rt := D.rt, bk := D.nx, ct := Pv (i + 1) } σ2 H2) (hd : ∀ σ H, Pv xs.length σ H → D.nx σ H) :
    tFor (iList K tl) g tbd D σ H := ht _ ⟨a, rfl, ⟨xs, hx⟩, for_list Pv h0 hl hs hd⟩
theorem q_forT {a : Addr} {xs : List V} (Pv : Nat → L2.St → Hp → Prop) (ht : Val tl σ H (.ref a)) (hx : SqT K H a xs) (h0 : Pv 0 σ H) (hl : ∀ i σ H, i ≤ xs.length → Pv i σ H → SqT K H a xs)
    (hs : ∀ i x σ H, xs[i]? = some x → Pv i σ H → g x σ H fun σ2 H2 => tbd { nx := Pv (i + 1), rt := D.rt, bk := u D, ct := Pv (i + 1) } σ2 H2) (hd : ∀ σ H, Pv xs.length σ H → u D σ H) :
    tSeq (tFor (iTup K tl) g tbd) u D σ H := ht _ ⟨a, rfl, ⟨xs, hx⟩, for_tup Pv h0 hl hs hd⟩
theorem s_forT {a : Addr} {xs : List V} (Pv : Nat → L2.St → Hp → Prop) (ht : Val tl σ H (.ref a)) (hx : SqT K H a xs) (h0 : Pv 0 σ H) (hl : ∀ i σ H, i ≤ xs.length → Pv i σ H → SqT K H a xs)
    (hs : ∀ i x σ H, xs[i]? = some x → Pv i σ H → g x σ H fun σ2 H2 => tbd { nx := Pv (i + 1), rt := D.rt, bk := D.nx, ct := Pv (i + 1) } σ2 H2) (hd : ∀ σ H, Pv xs.length σ H → D.nx σ H) :
    tFor (iTup K tl) g tbd D σ H := ht _ ⟨a, rfl, ⟨xs, hx⟩, for_tup Pv h0 hl hs hd⟩
/-- for i in range(n), range(m, n) -/
theorem nz (i : Nat) : (0 : Int) + (i : Int) = (i : Int) := Int.zero_add _
theorem q_forR {j : Nat} {n : Nat} (Pv : Nat → L2.St → Hp → Prop) (ht : Val ta σ H (.int (n : Int))) (hn : n ≤ 100000) (h0 : Pv 0 σ H)
    (hs : ∀ i σ H, i < n → Pv i σ H → tbd { nx := Pv (i + 1), rt := D.rt, bk := u D, ct := Pv (i + 1) } (σ.set j (some (nv i))) H) (hd : ∀ σ H, Pv n σ H → u D σ H) :
    tSeq (tFor (iRng1 (tCons ta tNil)) (gName j) tbd) u D σ H := ht _ ⟨(n : Int), rfl, by omega, by omega, for_range (lo := 0) (n := ((n : Int)).toNat) Pv h0 (fun i σ H hi p => by
      show tbd _ (σ.set j (some (.int ((0 : Int) + (i : Int))))) H
      rw [nz]
      exact hs i σ H (by omega) p) (fun σ H p => hd σ H (by rwa [Int.toNat_natCast] at p))⟩
theorem s_forR {j : Nat} {n : Nat} (Pv : Nat → L2.St → Hp → Prop) (ht : Val ta σ H (.int (n : Int))) (hn : n ≤ 100000) (h0 : Pv 0 σ H)
    (hs : ∀ i σ H, i < n → Pv i σ H → tbd { nx := Pv (i + 1), rt := D.rt, bk := D.nx, ct := Pv (i + 1) } (σ.set j (some (nv i))) H) (hd : ∀ σ H, Pv n σ H → D.nx σ H) :
    tFor (iRng1 (tCons ta tNil)) (gName j) tbd D σ H := ht _ ⟨(n : Int), rfl, by omega, by omega, for_range (lo := 0) (n := ((n : Int)).toNat) Pv h0 (fun i σ H hi p => by
      show tbd _ (σ.set j (some (.int ((0 : Int) + (i : Int))))) H
      rw [nz]
      exact hs i σ H (by omega) p) (fun σ H p => hd σ H (by rwa [Int.toNat_natCast] at p))⟩
/-- for i in range(1, n): Pv of what is gone, from 1 -/
theorem q_forR1 {j : Nat} {n : Nat} (Pv : Nat → L2.St → Hp → Prop) (ht : Val ta σ H (.int 1)) (ht2 : Val tb σ H (.int (n : Int))) (hn : 1 ≤ n ∧ n ≤ 100000) (h0 : Pv 1 σ H)
    (hs : ∀ i σ H, 1 ≤ i → i < n → Pv i σ H → tbd { nx := Pv (i + 1), rt := D.rt, bk := u D, ct := Pv (i + 1) } (σ.set j (some (nv i))) H) (hd : ∀ σ H, Pv n σ H → u D σ H) :
    tSeq (tFor (iRng2 (tCons ta (tCons tb tNil))) (gName j) tbd) u D σ H := ht _ (ht2 _ ⟨1, (n : Int), rfl, ⟨by decide, by decide, by omega, by omega⟩, for_range (lo := 1) (n := ((n : Int) - 1).toNat) (fun i => Pv (i + 1)) h0 (fun i σ H hi p => by
      have e : (1 : Int) + (i : Int) = ((i + 1 : Nat) : Int) := by omega
      show tbd _ (σ.set j (some (.int ((1 : Int) + (i : Int))))) H
      rw [e]
      exact hs (i + 1) σ H (by omega) (by omega) p) (fun σ H p => hd σ H (by
        have e : ((n : Int) - 1).toNat + 1 = n := by omega
        rwa [e] at p))⟩)
/-- over a list that is made on the way -/
def forG (K : PySem.W.Frag) (g : TG) (tbd : TS) (D : Ends) (σ : L2.St) : VK := fun x H1 => ∃ a, x = .ref a ∧ (∃ xs, SqL K H1 a xs) ∧ ∃ W : Nat → Nat → L2.St → Hp → Prop, (∃ m, W 0 m σ H1) ∧ ∀ i m σ H, W i m σ H →
  ((Itl K a).stop i H ∧ D.nx σ H) ∨ ((Itl K a).go i H ∧ ∃ N : L2.St → Hp → Prop, (∀ σ' H', N σ' H' → ∃ m', m' < m ∧ W (i + 1) m' σ' H') ∧ ∀ x H', (Itl K a).yld i H x H' → g x σ H' fun σ2 H2 => tbd { D with nx := N, ct := N, bk := D.nx } σ2 H2)
theorem q_forC (h : tl σ H (forG K g tbd { D with nx := u D } σ)) : tSeq (tFor (iList K tl) g tbd) u D σ H := h
theorem s_forC (h : tl σ H (forG K g tbd D σ)) : tFor (iList K tl) g tbd D σ H := h
theorem forG_in {a : Addr} {xs : List V} {D : Ends} {σ : L2.St} {H : Hp} (Pv : Nat → L2.St → Hp → Prop) (hx : SqL K H a xs) (h0 : Pv 0 σ H) (hl : ∀ i σ H, i ≤ xs.length → Pv i σ H → SqL K H a xs)
    (hs : ∀ i x σ H, xs[i]? = some x → Pv i σ H → g x σ H fun σ2 H2 => tbd { nx := Pv (i + 1), rt := D.rt, bk := D.nx, ct := Pv (i + 1) } σ2 H2) (hd : ∀ σ H, Pv xs.length σ H → D.nx σ H) : forG K g tbd D σ (.ref a) H := ⟨a, rfl, ⟨xs, hx⟩, for_list Pv h0 hl hs hd⟩
theorem forG_inq {a : Addr} {xs : List V} {D : Ends} {F : L2.St → Hp → Prop} {σ : L2.St} {H : Hp} (Pv : Nat → L2.St → Hp → Prop) (hx : SqL K H a xs) (h0 : Pv 0 σ H) (hl : ∀ i σ H, i ≤ xs.length → Pv i σ H → SqL K H a xs)
    (hs : ∀ i x σ H, xs[i]? = some x → Pv i σ H → g x σ H fun σ2 H2 => tbd { nx := Pv (i + 1), rt := D.rt, bk := F, ct := Pv (i + 1) } σ2 H2) (hd : ∀ σ H, Pv xs.length σ H → F σ H) : forG K g tbd { D with nx := F } σ (.ref a) H := ⟨a, rfl, ⟨xs, hx⟩, for_list Pv h0 hl hs hd⟩
/-- while: W by a number that falls -/
theorem q_while (W : Nat → L2.St → Hp → Prop) (m : Nat) (h0 : W m σ H) (hs : ∀ m σ H, W m σ H → ∃ b, Ans c σ H b ∧ (b = true → tbd { nx := fun σ' H' => ∃ m', m' < m ∧ W m' σ' H', rt := D.rt, bk := u D, ct := fun σ' H' => ∃ m', m' < m ∧ W m' σ' H' } σ H) ∧ (b = false → u D σ H)) :
    tSeq (tWhile c tbd) u D σ H := ⟨W, ⟨m, h0⟩, fun m σ H hw => by
  obtain ⟨b, ha, h1, h2⟩ := hs m σ H hw
  refine ha _ ?_
  cases b with
  | true => exact iteT ⟨_, fun _ _ n => n, h1 rfl⟩
  | false => exact iteF (h2 rfl)⟩
theorem s_while (W : Nat → L2.St → Hp → Prop) (m : Nat) (h0 : W m σ H) (hs : ∀ m σ H, W m σ H → ∃ b, Ans c σ H b ∧ (b = true → tbd { nx := fun σ' H' => ∃ m', m' < m ∧ W m' σ' H', rt := D.rt, bk := D.nx, ct := fun σ' H' => ∃ m', m' < m ∧ W m' σ' H' } σ H) ∧ (b = false → D.nx σ H)) :
    tWhile c tbd D σ H := ⟨W, ⟨m, h0⟩, fun m σ H hw => by
  obtain ⟨b, ha, h1, h2⟩ := hs m σ H hw
  refine ha _ ?_
  cases b with
  | true => exact iteT ⟨_, fun _ _ n => n, h1 rfl⟩
  | false => exact iteF (h2 rfl)⟩
theorem wl_in {P1 P2 : Prop} (ha : Ans c σ H b) (h1 : b = true → P1) (h2 : b = false → P2) : ∃ b, Ans c σ H b ∧ (b = true → P1) ∧ (b = false → P2) := ⟨b, ha, h1, h2⟩
theorem s_par {j : Nat} (h1 : Val ta σ H x) (h2 : Val tb σ H y) (q : D.nx ((σ.set i (some x)).set j (some y)) H) : tPar i j (tCons ta (tCons tb tNil)) D σ H := h1 _ (h2 _ ⟨x, y, rfl, q⟩)
/-! ### calls, displays -/
variable {sp : Sp} {Q : VK} {v1 v2 v3 v4 v5 : V} {t1 t2 t3 t4 t5 : TE}
theorem c_call1 (h1 : Val t1 σ H v1) (h : sp [v1] H Q E0) : tCall sp [] E0 (tCons t1 tNil) σ H Q := h1 _ h
theorem c_call2 (h1 : Val t1 σ H v1) (h2 : Val t2 σ H v2) (h : sp [v1, v2] H Q E0) : tCall sp [] E0 (tCons t1 (tCons t2 tNil)) σ H Q := h1 _ (h2 _ h)
theorem c_call3 (h1 : Val t1 σ H v1) (h2 : Val t2 σ H v2) (h3 : Val t3 σ H v3) (h : sp [v1, v2, v3] H Q E0) : tCall sp [] E0 (tCons t1 (tCons t2 (tCons t3 tNil))) σ H Q := h1 _ (h2 _ (h3 _ h))
theorem c_call4 (h1 : Val t1 σ H v1) (h2 : Val t2 σ H v2) (h3 : Val t3 σ H v3) (h4 : Val t4 σ H v4) (h : sp [v1, v2, v3, v4] H Q E0) : tCall sp [] E0 (tCons t1 (tCons t2 (tCons t3 (tCons t4 tNil)))) σ H Q := h1 _ (h2 _ (h3 _ (h4 _ h)))
theorem c_call5 (h1 : Val t1 σ H v1) (h2 : Val t2 σ H v2) (h3 : Val t3 σ H v3) (h4 : Val t4 σ H v4) (h5 : Val t5 σ H v5) (h : sp [v1, v2, v3, v4, v5] H Q E0) : tCall sp [] E0 (tCons t1 (tCons t2 (tCons t3 (tCons t4 (tCons t5 tNil))))) σ H Q :=
  h1 _ (h2 _ (h3 _ (h4 _ (h5 _ h))))
theorem c_cb1 {r : List V → Hp → VK → Prop} (h : t1 σ H fun x H1 => r [x] H1 Q) : tCB r (tCons t1 tNil) σ H Q := h
theorem c_cb2 {r : List V → Hp → VK → Prop} (h : t1 σ H fun x H1 => t2 σ H1 fun y H2 => r [x, y] H2 Q) : tCB r (tCons t1 (tCons t2 tNil)) σ H Q := h
theorem c_call1c (h : t1 σ H fun x H1 => sp [x] H1 Q E0) : tCall sp [] E0 (tCons t1 tNil) σ H Q := h
theorem c_call2c (h : t1 σ H fun x H1 => t2 σ H1 fun y H2 => sp [x, y] H2 Q E0) : tCall sp [] E0 (tCons t1 (tCons t2 tNil)) σ H Q := h
theorem c_call2b (h1 : Val t1 σ H v1) (h : t2 σ H fun y H2 => sp [v1, y] H2 Q E0) : tCall sp [] E0 (tCons t1 (tCons t2 tNil)) σ H Q := h1 _ h
theorem c_call3c (h : t1 σ H fun x H1 => t2 σ H1 fun y H2 => t3 σ H2 fun z H3 => sp [x, y, z] H3 Q E0) : tCall sp [] E0 (tCons t1 (tCons t2 (tCons t3 tNil))) σ H Q := h
theorem c_tup1 (h1 : Val t1 σ H v1) (h : ∀ p, H p = none → Q (.ref p) (upd H p (.tup [v1]))) : tTup (tCons t1 tNil) σ H Q := h1 _ ⟨(by show 1 ≤ sizeLine; decide), h⟩
theorem c_tup2 (h1 : Val t1 σ H v1) (h2 : Val t2 σ H v2) (h : ∀ p, H p = none → Q (.ref p) (upd H p (.tup [v1, v2]))) : tTup (tCons t1 (tCons t2 tNil)) σ H Q := h1 _ (h2 _ ⟨(by show 2 ≤ sizeLine; decide), h⟩)
theorem c_tup2b (h1 : Val t1 σ H v1) (h : t2 σ H fun y H1 => [v1, y].length ≤ sizeLine ∧ ∀ p, H1 p = none → Q (.ref p) (upd H1 p (.tup [v1, y]))) : tTup (tCons t1 (tCons t2 tNil)) σ H Q := h1 _ h
theorem c_tup2c (h : t1 σ H fun x H1 => t2 σ H1 fun y H2 => [x, y].length ≤ sizeLine ∧ ∀ p, H2 p = none → Q (.ref p) (upd H2 p (.tup [x, y]))) : tTup (tCons t1 (tCons t2 tNil)) σ H Q := h
theorem c_tup3c (h : t1 σ H fun x H1 => t2 σ H1 fun y H2 => t3 σ H2 fun z H3 => [x, y, z].length ≤ sizeLine ∧ ∀ p, H3 p = none → Q (.ref p) (upd H3 p (.tup [x, y, z]))) : tTup (tCons t1 (tCons t2 (tCons t3 tNil))) σ H Q := h
theorem c_tup3 (h1 : Val t1 σ H v1) (h2 : Val t2 σ H v2) (h3 : Val t3 σ H v3) (h : ∀ p, H p = none → Q (.ref p) (upd H p (.tup [v1, v2, v3]))) : tTup (tCons t1 (tCons t2 (tCons t3 tNil))) σ H Q := h1 _ (h2 _ (h3 _ ⟨(by show 3 ≤ sizeLine; decide), h⟩))
theorem c_tup4 (h1 : Val t1 σ H v1) (h2 : Val t2 σ H v2) (h3 : Val t3 σ H v3) (h4 : Val t4 σ H v4) (h : ∀ p, H p = none → Q (.ref p) (upd H p (.tup [v1, v2, v3, v4]))) : tTup (tCons t1 (tCons t2 (tCons t3 (tCons t4 tNil)))) σ H Q :=
  h1 _ (h2 _ (h3 _ (h4 _ ⟨(by show 4 ≤ sizeLine; decide), h⟩)))
theorem c_lst0 (h : ∀ p, H p = none → Q (.ref p) (upd H p (.lst []))) : tLst tNil σ H Q := ⟨Nat.zero_le _, h⟩
theorem c_listL {a : Addr} {xs : List V} (h1 : Val t1 σ H (.ref a)) (hx : SqL K H a xs) (h : ∀ p, H p = none → Q (.ref p) (upd H p (.lst xs))) : tCB (kList K) (tCons t1 tNil) σ H Q := h1 _ ⟨a, xs, rfl, .inl hx, h⟩
theorem c_listT {a : Addr} {xs : List V} (h1 : Val t1 σ H (.ref a)) (hx : SqT K H a xs) (h : ∀ p, H p = none → Q (.ref p) (upd H p (.lst xs))) : tCB (kList K) (tCons t1 tNil) σ H Q := h1 _ ⟨a, xs, rfl, .inr hx, h⟩
/-- an expression that keeps what was tracked: R of its value -/
def EvR (te : TE) (σ : L2.St) (H : Hp) (R : V → Hp → Prop) : Prop := ∀ Q : VK, (∀ v H', Same H H' → R v H' → Q v H') → te σ H Q
theorem EvR.val (h : Val te σ H v) : EvR te σ H fun v' _ => v' = v := fun Q q => h _ (q v H (Same.refl H) rfl)
/-! ### comprehensions -/
theorem wipe1 (σ : L2.St) (j : Nat) (x : V) : wipe ((wipe σ [j]).set j (some x)) [j] = wipe σ [j] := by
  show ((σ.set j none).set j (some x)).set j none = σ.set j none
  rw [List.set_set, List.set_set]
/-- the turns that give -/
def kept (n : Nat) (f : Nat → Bool) : List Nat := (List.range n).filter f
theorem kept_yes {n : Nat} {f : Nat → Bool} (h : f n = true) : kept (n + 1) f = kept n f ++ [n] := by
  unfold kept
  rw [List.range_succ, List.filter_append, List.filter_cons, if_pos h] <;> rfl
theorem kept_no {n : Nat} {f : Nat → Bool} (h : f n = false) : kept (n + 1) f = kept n f := by
  unfold kept
  rw [List.range_succ, List.filter_append, List.filter_cons, if_neg (by rw [h]; decide)]
  exact List.append_nil _
theorem kept_len (n : Nat) (f : Nat → Bool) : (kept n f).length ≤ n := by
  have h := List.length_filter_le f (List.range n)
  rwa [List.length_range] at h
theorem kept_all (n : Nat) : kept n (fun _ => true) = List.range n := List.filter_eq_self.mpr fun _ _ => rfl
def LcI (H : Hp) (f : Nat → Bool) (R : Nat → V → Hp → Prop) (p : Addr) (i : Nat) (H' : Hp) : Prop := H p = none ∧ Same H H' ∧ ∃ ys, H' p = some (.lst ys) ∧ All2 (fun v k => R k v H') ys (kept i f)
theorem lcI_turn {tt : TT} {R : Nat → V → Hp → Prop} (hR : ∀ k v H1 H2, TK H1 H2 → (∀ b o, H b = some o → H1 b = some o → H2 b = some o) → R k v H1 → R k v H2) {H' : Hp} {f : Nat → Bool} {p : Addr} {i : Nat} {σ2 : L2.St} (I : LcI H f R p i H') (hi : i < 50000) (ht : Ans tt σ2 H' (f i)) (he : f i = true → EvR te σ2 H' (R i)) :
    tt σ2 H' fun b H3 => if b = true then te σ2 H3 fun y H4 => ∃ acc, H4 p = some (.lst acc) ∧ acc.length < sizeLine ∧ LcI H f R p (i + 1) (upd H4 p (.lst (acc ++ [y]))) else LcI H f R p (i + 1) H3 := by
  obtain ⟨I1, I2, ys, I3, I4⟩ := I
  refine ht _ ?_
  cases hf : f i with
  | true =>
    refine iteT (he hf _ fun y H4 s4 r4 => ⟨ys, s4 _ _ I3, ?_, I1, same_mut (I2.trans s4) I1, ys ++ [y], upd_same, ?_⟩)
    · have := kept_len i f
      have := I4.1
      exact Nat.lt_of_lt_of_le (by omega : ys.length < 50000) (by decide)
    · rw [kept_yes hf]
      have k : ∀ k v, R k v H4 → R k v (upd H4 p (.lst (ys ++ [y]))) := fun k v r => hR k v _ _ (tk_lst (s4 _ _ I3)) (fun b o e e4 => by rw [upd_ne (ne_of_none e I1)]; exact e4) r
      exact (I4.mono fun v x r => k x v (hR x v _ _ (tk_of s4) (fun b o e e' => s4 _ _ e') r)).snoc (k i y r4)
  | false =>
    refine iteF ⟨I1, I2, ys, I3, ?_⟩
    rw [kept_no hf]
    exact I4
/-- over range(n) -/
theorem c_lcR {tt : TT} {j n : Nat} (f : Nat → Bool) (R : Nat → V → Hp → Prop) (hR : ∀ k v H1 H2, TK H1 H2 → (∀ b o, H b = some o → H1 b = some o → H2 b = some o) → R k v H1 → R k v H2) (ht : Val ta σ H (.int (n : Int))) (hn : n < 50000)
    (hc : ∀ i H', i < n → Same H H' → Ans tt ((wipe σ [j]).set j (some (nv i))) H' (f i)) (he : ∀ i H', i < n → Same H H' → f i = true → EvR te ((wipe σ [j]).set j (some (nv i))) H' (R i))
    (q : ∀ p ys H', H p = none → Same H H' → H' p = some (.lst ys) → All2 (fun v k => R k v H') ys (kept n f) → Q (.ref p) H') : tLc (iRng1 (tCons ta tNil)) (gName j) tt te [j] σ H Q :=
  ht _ ⟨(n : Int), rfl, by omega, by omega, fun p hp => lc_range (lo := 0) (n := ((n : Int)).toNat) (LcI H f R p) ⟨hp, same_new hp, [], upd_same, All2.nil⟩ (fun i H' hi I => by
    have e0 : (0 : Int) + (i : Int) = (i : Int) := Int.zero_add _
    show wipe ((wipe σ [j]).set j (some (.int ((0 : Int) + (i : Int))))) [j] = wipe σ [j] ∧ tt ((wipe σ [j]).set j (some (.int ((0 : Int) + (i : Int))))) H' fun b H3 => if b = true then te ((wipe σ [j]).set j (some (.int ((0 : Int) + (i : Int))))) H3 fun y H4 => ∃ acc, H4 p = some (.lst acc) ∧ acc.length < sizeLine ∧ LcI H f R p (i + 1) (upd H4 p (.lst (acc ++ [y]))) else LcI H f R p (i + 1) H3
    rw [e0]
    exact ⟨wipe1 _ _ _, lcI_turn hR I (by omega) (hc i H' (by omega) I.2.1) (fun hf => he i H' (by omega) I.2.1 hf)⟩) (fun H' I => by
      rw [Int.toNat_natCast] at I
      obtain ⟨a, b, ys, d, e⟩ := I
      exact q p ys H' a b d e)⟩
theorem c_lcL {tt : TT} {j : Nat} {a : Addr} {xs : List V} (f : Nat → Bool) (R : Nat → V → Hp → Prop) (hR : ∀ k v H1 H2, TK H1 H2 → (∀ b o, H b = some o → H1 b = some o → H2 b = some o) → R k v H1 → R k v H2) (ht : Val tl σ H (.ref a)) (hx : SqL K H a xs) (hn : xs.length < 50000)
    (hc : ∀ i x H', xs[i]? = some x → Same H H' → Ans tt ((wipe σ [j]).set j (some x)) H' (f i)) (he : ∀ i x H', xs[i]? = some x → Same H H' → f i = true → EvR te ((wipe σ [j]).set j (some x)) H' (R i))
    (q : ∀ p ys H', H p = none → Same H H' → H' p = some (.lst ys) → All2 (fun v k => R k v H') ys (kept xs.length f) → Q (.ref p) H') : tLc (iList K tl) (gName j) tt te [j] σ H Q :=
  ht _ ⟨a, rfl, ⟨xs, hx⟩, fun p hp => lc_list (xs := xs) (LcI H f R p) ⟨hp, same_new hp, [], upd_same, All2.nil⟩ (fun i H' _ I => I.2.1.seq hx) (fun i x H' hi I => ⟨wipe1 _ _ _, lcI_turn hR I (by have := (List.getElem?_eq_some_iff.mp hi).1; omega) (hc i x H' hi I.2.1) (fun hf => he i x H' hi I.2.1 hf)⟩)
    (fun H' I => by
      obtain ⟨a, b, ys, d, e⟩ := I
      exact q p ys H' a b d e)⟩
theorem c_lcT {tt : TT} {j : Nat} {a : Addr} {xs : List V} (f : Nat → Bool) (R : Nat → V → Hp → Prop) (hR : ∀ k v H1 H2, TK H1 H2 → (∀ b o, H b = some o → H1 b = some o → H2 b = some o) → R k v H1 → R k v H2) (ht : Val tl σ H (.ref a)) (hx : SqT K H a xs) (hn : xs.length < 50000)
    (hc : ∀ i x H', xs[i]? = some x → Same H H' → Ans tt ((wipe σ [j]).set j (some x)) H' (f i)) (he : ∀ i x H', xs[i]? = some x → Same H H' → f i = true → EvR te ((wipe σ [j]).set j (some x)) H' (R i))
    (q : ∀ p ys H', H p = none → Same H H' → H' p = some (.lst ys) → All2 (fun v k => R k v H') ys (kept xs.length f) → Q (.ref p) H') : tLc (iTup K tl) (gName j) tt te [j] σ H Q :=
  ht _ ⟨a, rfl, ⟨xs, hx⟩, fun p hp => lc_tup (xs := xs) (LcI H f R p) ⟨hp, same_new hp, [], upd_same, All2.nil⟩ (fun i H' _ I => (tk_of I.2.1).sq hx) (fun i x H' hi I => ⟨wipe1 _ _ _, lcI_turn hR I (by have := (List.getElem?_eq_some_iff.mp hi).1; omega) (hc i x H' hi I.2.1) (fun hf => he i x H' hi I.2.1 hf)⟩)
    (fun H' I => by
      obtain ⟨a, b, ys, d, e⟩ := I
      exact q p ys H' a b d e)⟩
/-- R by values alone, R by tuples -/
theorem hR_val {R : Nat → V → Prop} : ∀ k v (H1 H2 : Hp), TK H1 H2 → (∀ b o, H b = some o → H1 b = some o → H2 b = some o) → R k v → R k v := fun _ _ _ _ _ _ r => r
theorem hR_P {q : Nat → Rat} : ∀ k v (H1 H2 : Hp), TK H1 H2 → (∀ b o, H b = some o → H1 b = some o → H2 b = some o) → isP K H1 v (q k) → isP K H2 v (q k) := fun _ _ _ _ t _ r => r.mono t
theorem hR_H {q : Nat → List Nat} : ∀ k v (H1 H2 : Hp), TK H1 H2 → (∀ b o, H b = some o → H1 b = some o → H2 b = some o) → isH K H1 v (q k) → isH K H2 v (q k) := fun _ _ _ _ t _ r => r.mono t
end
end KB

namespace KB
open PySem PySem.Spec PyProof.Rows L2
/-! ### sorted of tuples of ints of any lengths, the first of them empty -/
theorem lx_asym : ∀ xs ys : List Int, HT.lexLt xs ys = true → HT.lexLt ys xs = false
  | [], [], h => by cases h
  | [], _ :: _, _ => rfl
  | _ :: _, [], h => by cases h
  | x :: xs, y :: ys, h => by
    rw [HT.lexLt_cons] at h ⊢
    by_cases e : x = y
    · rw [if_pos e] at h
      rw [if_pos e.symm]
      exact lx_asym xs ys h
    · rw [if_neg e] at h
      rw [if_neg (fun z => e z.symm)]
      have := of_decide_eq_true h
      exact decide_eq_false (by omega)
theorem lx_tr : ∀ xs ys zs : List Int, HT.lexLt ys xs = false → HT.lexLt zs ys = false → HT.lexLt zs xs = false
  | [], [], [], _, _ => rfl
  | [], [], _ :: _, _, _ => rfl
  | [], _ :: _, zs, _, _ => by cases zs <;> rfl
  | _ :: _, [], _, h, _ => by cases h
  | _ :: _, _ :: _, [], _, h => by cases h
  | x :: xs, y :: ys, z :: zs, h1, h2 => by
    rw [HT.lexLt_cons] at h1 h2 ⊢
    by_cases e1 : y = x
    · rw [if_pos e1] at h1
      by_cases e2 : z = y
      · rw [if_pos e2] at h2
        rw [if_pos (e2.trans e1)]
        exact lx_tr xs ys zs h1 h2
      · rw [if_neg e2] at h2
        rw [if_neg (fun q => e2 (q.trans e1.symm))]
        have := of_decide_eq_false h2
        exact decide_eq_false (by omega)
    · rw [if_neg e1] at h1
      have a1 := of_decide_eq_false h1
      by_cases e2 : z = y
      · rw [if_neg (by omega)]
        exact decide_eq_false (by omega)
      · rw [if_neg e2] at h2
        have a2 := of_decide_eq_false h2
        rw [if_neg (by omega)]
        exact decide_eq_false (by omega)
section
variable {prog : Program} {w : World} {A : Around} {E : Value → Shared → Prop} {s : Shared}
/-- such a tuple at v -/
def TI (h : Heap) (v : Value) (ns : List Int) : Prop := ∃ a its, v = .ref a ∧ IsTup h a its ∧ IntsAre its.toList ns
theorem one_tup {v u : Value} {ns ms : List Int} (hv : TI s.heap v ns) (hw : TI s.heap u ms) (hu : A.units < cLine) {Q : Bool → Shared → Prop} (q : Q (HT.lexLt ns ms) s) : wpAny (model prog w) A (oneLt' true v u) Q E s := by
  obtain ⟨a, its, rfl, ⟨⟨k1, d1, t1, z1⟩, g1, rfl, m1, rfl⟩, i1⟩ := hv
  obtain ⟨b, jts, rfl, ⟨⟨k2, d2, t2, z2⟩, g2, rfl, m2, rfl⟩, i2⟩ := hw
  rw [oneLt'_eq]
  simp only [if_true]
  refine wpAny_bind (wpAny_cRoomFor hu ?_)
  refine wpAny_bind (wpAny_callSpecialIfBound?_slot ⟨_, g1, rfl⟩ PySem.F.slot_tuple_lt ?_)
  refine call_meets PySem.F.slot_tuple_lt ⟨_, g1, rfl⟩ PySem.F.entry_tuple_lt (PySem.F.args_tuple_lt_2 _ _) (HT.tuple_lt_ints a b its jts m1 m2 d1 d2 z1 z2 ns ms i1 i2) ⟨g1, g2, ?_⟩
  exact wpAny_truthy_bool q
theorem mapM_of {f : Value → Sem (Option Value)} {g : Value → Option Value} : ∀ (l : List Value) {Q : List (Option Value) → Shared → Prop}, (∀ v ∈ l, ∀ Q' : Option Value → Shared → Prop, Q' (g v) s → wpAny (model prog w) A (f v) Q' E s) →
    Q (l.map g) s → wpAny (model prog w) A (l.mapM f) Q E s
  | [], Q, _, q => by
    rw [List.mapM_nil]
    exact wpAny_pure q
  | v :: l, Q, hf, q => by
    rw [List.mapM_cons]
    refine wpAny_bind (hf v List.mem_cons_self _ ?_)
    refine wpAny_bind (mapM_of l (Q := fun r s' => wpAny (model prog w) A (pure (g v :: r)) Q E s') (fun u hu => hf u (List.mem_cons_of_mem _ hu)) ?_)
    exact wpAny_pure q
/-- a tuple's first item -/
def fst? (h : Heap) (v : Value) : Option Value := match v with
  | .ref a => (match h.get? a with
    | some o => (match o.data with
      | .seq xs _ => xs[0]?
      | _ => none)
    | none => none)
  | _ => none
theorem first_of {v : Value} {ns : List Int} (hv : TI s.heap v ns) {Q : Option Value → Shared → Prop} (q : Q (fst? s.heap v) s) : wpAny (model prog w) A (firstOfTuple' v) Q E s := by
  obtain ⟨a, its, rfl, ⟨o, g1, c1, m1, d1⟩, i1⟩ := hv
  rw [PySem.W.kas_first_eq]
  refine wpAny_bind (PySem.W.Looks.here (show PySem.W.Looks (model prog w) s.heap (typeOf (.ref a)) o.cls from (PySem.W.Looks.ld g1).andThen .now) ?_)
  rw [c1, if_neg (by first | decide | simp)]
  refine wpAny_bind (listItems_at g1 d1 (wpAny_pure ?_))
  have e : fst? s.heap (.ref a) = its[0]? := by
    simp only [fst?, g1, d1]
  rw [e] at q
  exact q
theorem type_of {v : Value} {ns : List Int} (hv : TI s.heap v ns) : PySem.W.Looks (model prog w) s.heap (typeOf v) (.type "tuple") := by
  obtain ⟨a, its, rfl, ⟨o, g1, c1, m1, d1⟩, i1⟩ := hv
  rw [← c1]
  exact (PySem.W.Looks.ld g1).andThen .now
theorem kind_of {v : Value} {vs : List Value} {k : Value → List Int} (hv : ∀ u ∈ v :: vs, TI s.heap u (k u)) (h0 : k v = []) {Q : SortKind → Shared → Prop} (q : Q oneType' s) : wpAny (model prog w) A (keyKind' (v :: vs).toArray) Q E s := by
  rw [keyKind'_eq, List.mapM_toArray, map_eq_pure_bind]
  refine wpAny_bind (wpAny_bind (mapM_of (g := fst? s.heap) _ (fun u hu Q' q' => first_of (hv u hu) q') (wpAny_pure ?_)))
  have e0 : fst? s.heap v = none := by
    obtain ⟨a, its, rfl, ⟨o, g1, c1, m1, d1⟩, i1⟩ := hv v List.mem_cons_self
    rw [h0] at i1
    have l1 := i1.length
    simp only [fst?, g1, d1]
    rw [Array.getElem?_eq_none]
    rw [Array.length_toList] at l1
    rw [l1]
    exact Nat.le_refl _
  rw [List.map_cons, e0]
  rw [if_neg (by simp), if_neg (by simp)]
  rw [oneTypeOnly'_eq, List.mapM_toArray, map_eq_pure_bind]
  refine wpAny_bind (wpAny_bind (wpAny_bind (PySem.W.kas_mapM (r := Value.type "tuple") _ (fun u hu Q' q' => (type_of (hv u hu)).here q') (wpAny_pure ?_))))
  have e1 : ((List.map (fun _ => Value.type "tuple") (v :: vs)).toArray.all fun x => x == Value.type "tuple") = true := by
    simp only [List.all_toArray, List.all_map, List.all_eq_true]
    intro _ _
    rfl
  have e2 : (List.map (fun _ => Value.type "tuple") (v :: vs)).toArray[0]? = some (Value.type "tuple") := by simp
  rw [e2]
  simp only [e1, if_true]
  exact wpAny_pure (wpAny_pure q)
end
def rSortH (K : PySem.W.Frag) : List V → Hp → VK → Prop := fun vs H Q => ∃ (a : Addr) (x : V) (xs : List V) (k : V → List Int), vs = [V.ref a] ∧ SqL K H a (x :: xs) ∧ (∀ u ∈ x :: xs, ∃ t, u = V.ref t ∧ H t = some (.tup ((k u).map V.int))) ∧ k x = [] ∧
  ∀ ys p, ys.Perm (x :: xs) → H p = none → Q (.ref p) (upd H p (.lst ys))
theorem cr_sortH {X : Cx} (hu : X.A.units + 64 < cLine) : CallR X (.builtin "sorted") (rSortH X.K) := by
  intro pins s σ H vs us Q I r h
  obtain ⟨a, x, xs, k, rfl, hs, hx, h0, q⟩ := h
  obtain ⟨its, rv, pl, hz⟩ := I.list hs
  obtain ⟨u, rfl, ru⟩ := vals1 r
  obtain rfl : u = Value.ref a := ru
  obtain ⟨e1, e2⟩ := refs_back rv fun y m => by
    obtain ⟨t, e, _⟩ := hx y m
    exact ⟨t, e⟩
  have hT : ∀ v ∈ its, TI s.heap v (k (backV v)) := fun v hv => by
    obtain ⟨t, rfl⟩ := e2 v hv
    have hm : V.ref t ∈ x :: xs := by
      rw [e1]
      exact List.mem_map.mpr ⟨_, hv, rfl⟩
    obtain ⟨t2, e, ht⟩ := hx _ hm
    cases e
    obtain ⟨_, its2, r2, ot, ho, hc, n, hd⟩ := I.hok _ _ ht
    exact ⟨t, its2.toArray, rfl, ⟨ot, ho, hc, n, hd⟩, intsAre_of r2⟩
  refine SrtO.sorted_ord (ltv := fun v u => HT.lexLt (k (backV v)) (k (backV u))) ⟨fun v u => lx_asym _ _, fun v u z => lx_tr _ _ _⟩ pl.isList (by rw [← rv.length]; exact hz) (fun h2 h₁ a₁ ha kk => ?_) fun out hs2 hb => ?_
  · intro h' keep
    have hT' : ∀ v ∈ its, TI h' v (k (backV v)) := fun v hv => by
      obtain ⟨t, ts, e, ⟨o, g, c, n, d⟩, i⟩ := hT v hv
      exact ⟨t, ts, e, ⟨o, keep _ _ (kk _ _ g).1 (kk _ _ g).2, c, n, d⟩, i⟩
    refine ⟨oneType', fun Q' E' q' => ?_, fun p1 p2 m1 m2 => ?_⟩
    · cases its with
      | nil => simp at h2
      | cons v vs =>
        refine kind_of (s := { s with heap := h' }) (k := fun v => k (backV v)) hT' ?_ q'
        have : x = backV v := by
          have := congrArg List.head? e1
          simpa using this
        show k (backV v) = []
        rw [← this]
        exact h0
    · show wpAny (model X.prog X.w) X.A.in1.in1 (oneLt' true p1.1 p2.1) (fun r s' => s' = { s with heap := h' } ∧ r = HT.lexLt (k (backV p1.1)) (k (backV p2.1))) (fun _ _ => False) { s with heap := h' }
      exact one_tup (hT' _ m1) (hT' _ m2) (show X.A.units + 1 + 1 < cLine by omega) ⟨rfl, rfl⟩
  · have h3 : ∀ u ∈ out, ∃ b, u = Value.ref b := fun u hm => e2 u (hb.perm.mem_iff.mp hm)
    have hp : (out.map backV).Perm (x :: xs) := by
      rw [e1]
      exact hb.perm.map backV
    have hn : H (s.heap.objs.size + 1) = none := I.hok.fresh (Nat.le_succ _)
    obtain ⟨n, hn2⟩ := sortedAll_at s.heap its out.toArray
    have hobj : ObjOk X.prog X.w (upd H (s.heap.objs.size + 1) (.lst (out.map backV))) (sortedAll s.heap its out.toArray) (s.heap.objs.size + 1) (.lst (out.map backV)) := by
      refine ⟨?_, out, n, vals_back h3, hn2⟩
      rw [hp.length_eq]
      exact hz
    exact ⟨.ref (s.heap.objs.size + 1), upd H (s.heap.objs.size + 1) (.lst (out.map backV)), I.laid (t' := s.toks) (fun b o e => sortedAll_old e) (Nat.le_succ _) hobj, rfl, q _ _ hp hn⟩
end KB

namespace KB
open PySem PySem.Spec PyProof.Rows L2
/-! ### set(xs) of a list of ints -/
section
variable {P : Program} {w : World} {A : Around} {E : Value → Shared → Prop} {s : Shared}
/-- the empty set as the model makes it -/
abbrev eSet (w : World) : Obj := { cls := .type "set", dict := none, data := .set #[] 0 (.fresh 0 0 (!w.params.followText "set-order")) }
theorem set_listI {l : Addr} {its : Array Value} (ns : List Int) {Q : Value → Shared → Prop} (hA : A.handled = none) (hL : s.heap.IsList l its) (hI : IntsAre its.toList ns) (hB : ns.length + 1 < scanBound)
    (q : ∀ (g : Heap) (tk c : Nat), SetR w g s.heap.objs.size (fun j => decide (j ∈ ns)) c → c ≤ ns.length → (∀ b o, s.heap.get? b = some o → g.get? b = some o) → Q (.ref s.heap.objs.size) { s with heap := g, toks := tk }) :
    wpAny (model P w) A (call (.type "set") [.ref l]) Q E s := by
  have zI : its.size = ns.length := (Array.length_toList (xs := its)).symm.trans hI.length
  obtain ⟨cc, tt, mro⟩ := PySem.F.called_set.mro
  have made := PySem.F.called_set.made
  have sub0 := PySem.F.called_set.sub
  refine wpAny_call (codeAny_of_tree ?_)
  show wpAny _ _ (callAny (Value.type "set") _) _ _ _
  refine wpAny_pure ⟨Code.quiet_builtin _ (by decide +kernel), ?_⟩
  refine codeAny_builtin F.entry_type_call ?_
  rw [Around.under_plain (weight_type_call_type "set" [.ref l] []) (by rfl)]
  have n1 := PySem.F.called_set.notType
  have n2 := PySem.F.called_set.canCreate
  have n3 := PySem.F.typeCall_set_1 (.ref l)
  (repeat any_goals first | assumption | wp_step)
  refine codeAny_mono (code_set_led1 (.ref l) (E := E) (Q₁ := fun v s1 => v = .ref s.heap.objs.size ∧ s1 = { s with heap := s.heap.push (eSet w) }) ⟨rfl, rfl⟩) fun r s1 hr => ?_
  match r, hr with
  | .error _, hr => exact hr
  | .ok .next, hr => exact hr.elim
  | .ok .brk, hr => exact hr.elim
  | .ok .cont, hr => exact hr.elim
  | .ok (.ret v), hr =>
    obtain ⟨rfl, rfl⟩ := hr
    have o1 : (s.heap.push (eSet w)).get? s.heap.objs.size = some (eSet w) := Heap.get?_push_size _ rfl
    have t1 : Shared.TypeIs { s with heap := s.heap.push (eSet w) } (.ref s.heap.objs.size) "set" := ⟨_, o1, rfl⟩
    have i1 := PySem.F.called_set.init.lookup
    have i2 := PySem.F.called_set.init.bind (.ref s.heap.objs.size)
    (repeat any_goals first | assumption | wp_step)
    refine codeAny_mono (codeAny_call_builtin (R := wants (fun v s2 => v = .none ∧ ∃ g tk c, s2 = { s with heap := g, toks := tk } ∧ SetR w g s.heap.objs.size (fun j => decide (j ∈ ns)) c ∧ c ≤ ns.length ∧ (∀ b o, s.heap.get? b = some o → g.get? b = some o)) E)
      PySem.F.called_set.init.plain PySem.F.entry_set_init (check_set_init_1 t1 ?_)) fun r2 s2 hr2 => ?_
    · obtain ⟨⟨k1, k2, k3, k4⟩, g1, c1, m1, d1⟩ := hL
      simp only at c1 d1
      subst c1 d1
      have g2 : (s.heap.push (eSet w)).get? l = some { cls := .type "list", dict := k2, data := .seq its m1, slots := k4 } := Heap.get?_push_of_some _ g1
      have f1 := PySem.F.sub_list_set
      have f2 := PySem.F.sub_list_frozenset
      have f3 : (Value.type "list" == Value.type "dict") = false := by decide
      have l2 : (s.heap.push (eSet w)).IsList l its := ⟨_, g2, rfl, m1, rfl⟩
      unfold Builtin.«set.__init__» noKeywords
      unfold Builtin.Frozenset.updateFrom
      generalize hI2 : pyIter = it
      wp_walk
      subst hI2
      refine wpAny_pyIter_list l2 (wpAny_bind (wpAny_runValue ?_))
      have lt1 : l < s.heap.objs.size := Heap.lt_size g1
      have z1 : (s.heap.push (eSet w)).objs.size = s.heap.objs.size + 1 := Heap.size_push ..
      have ne1 : l ≠ (s.heap.push (eSet w)).objs.size := by rw [z1]; exact Nat.ne_of_lt (Nat.lt_succ_of_lt lt1)
      have out1 : s.heap.objs.size ∉ [(s.heap.push (eSet w)).objs.size, l] := by
        rw [z1]
        intro hm
        rcases List.mem_cons.mp hm with e | e
        · exact absurd e (Nat.ne_of_lt (Nat.lt_succ_self _))
        · exact absurd (List.mem_singleton.mp e) (Nat.ne_of_gt lt1)
      have vals : ∀ (i : Nat) (v : Value), its[i]? = some v → ∃ k t, ns[i]? = some k ∧ v = .int k t := fun i v hv => by
        have lt2 : i < ns.length := by rw [← zI]; exact (Array.getElem?_eq_some_iff.mp hv).1
        obtain ⟨t, e⟩ := PyProof.Rows.IntsAre.int_at hI i v (by rw [Array.getElem?_toList]; exact hv)
        have e3 : ns.getD i 0 = ns[i] := by rw [List.getD_eq_getElem?_getD, List.getElem?_eq_getElem lt2]; rfl
        exact ⟨ns[i], t, List.getElem?_eq_getElem lt2, by rw [e, e3]⟩
      refine set_update_ints ((Walks.list (show A.in1.in1.in1.handled = none by simp [hA]) _ l ne1 its).toS) s.heap.objs.size out1 ns zI hB vals (its.size - 0) 0 _ (by omega) (Nat.zero_le _) ⟨⟨_, Heap.get?_push_size _ rfl, rfl, rfl⟩, (l2.push _)⟩ ?_ ?_
      · exact ⟨0, Nat.le_refl 0, setR_new_at (Heap.get?_push_of_some _ o1)⟩
      · intro s3 c3 mv le3 R3
        obtain ⟨g3, ge3, dr3, tk3, os3⟩ := s3
        obtain rfl : ge3 = s.gens := mv.gens
        obtain rfl : dr3 = s.drawn := mv.drawn
        obtain rfl : os3 = s.os := mv.os
        show wpAny _ _ _ _ _ _
        refine wpAny_pure ?_
        show wpAny _ _ (ret Value.none) _ _ _
        refine wpAny_pure ⟨rfl, g3, tk3, c3, rfl, R3, by rw [← zI]; exact le3, fun b o e => ?_⟩
        have b0 : b < s.heap.objs.size := Heap.lt_size e
        refine mv.heap b o (fun hm => ?_) (Heap.get?_push_of_some _ (Heap.get?_push_of_some _ e))
        rcases List.mem_cons.mp hm with e2 | e2
        · exact absurd e2 (Nat.ne_of_lt b0)
        · have e3 := List.mem_singleton.mp e2
          rw [z1] at e3
          exact absurd e3 (Nat.ne_of_lt (Nat.lt_succ_of_lt b0))
    · match r2, hr2 with
      | .error _, hr2 => exact hr2
      | .ok .next, hr2 => exact hr2.elim
      | .ok .brk, hr2 => exact hr2.elim
      | .ok .cont, hr2 => exact hr2.elim
      | .ok (.ret v2), hr2 =>
        obtain ⟨rfl, g4, tk4, c4, rfl, R4, le4, kp4⟩ := hr2
        (repeat any_goals first | assumption | wp_step)
        exact q _ _ _ R4 le4 kp4
end
def rMkSet (w : World) (K : PySem.W.Frag) : List V → Hp → VK → Prop := fun vs H Q => ∃ (a : Addr) (ns : List Int), vs = [V.ref a] ∧ SqL K H a (ns.map V.int) ∧ ns.length ≤ 60 ∧
  ∀ p c, H p = none → c ≤ ns.length → Q (.ref p) (upd H p (SetO w p (fun j => decide (j ∈ ns)) c))
theorem cr_mkSet {X : Cx} (hc : X.calm = true) : CallR X (.type "set") (rMkSet X.w X.K) := by
  intro pins s σ H vs us Q I r h
  obtain ⟨a, ns, rfl, hs, hz, q⟩ := h
  obtain ⟨its, rv, pl, _⟩ := I.list hs
  obtain ⟨u, rfl, ru⟩ := vals1 r
  obtain rfl : u = Value.ref a := ru
  refine set_listI ns (I.ok.hd hc) pl.isList (intsAre_of rv) (by unfold scanBound; omega) fun g tk c R le kp => ?_
  have hn : H s.heap.objs.size = none := I.hok.fresh (Nat.le_refl _)
  exact ⟨.ref s.heap.objs.size, _, I.laid (t' := tk) (o := SetO X.w s.heap.objs.size (fun j => decide (j ∈ ns)) c) kp (Nat.le_refl _) (setO_new R), rfl, q _ c hn le⟩
end KB

namespace KB
open PySem PySem.Spec PyProof.Rows L2
def hs (h : List Nat) : Hs := fun f => decide (f ∈ h)
theorem flat_n (h : List Nat) : (h.map nv).all flatV = true := by
  rw [List.all_map, List.all_eq_true]
  intro _ _
  rfl
theorem inV_n (p : Nat) : ∀ h : List Nat, inV (nv p) (h.map nv) = decide (p ∈ h)
  | [] => by simp [inV]
  | x :: h => by
    have ih := inV_n p h
    unfold inV at ih ⊢
    rw [List.map_cons, List.any_cons, ih]
    have e : eqV (nv x) (nv p) = decide (p = x) := by
      show ((x : Int) == (p : Int)) = decide (p = x)
      rw [Bool.beq_eq_decide_eq]
      exact decide_eq_decide.mpr ⟨fun z => by omega, fun z => by omega⟩
    rw [e, ← Bool.decide_or]
    exact decide_eq_decide.mpr (List.mem_cons).symm
section
variable {K : PySem.W.Frag} {σ : L2.St} {H : Hp} {ta tb : TE} {a : Addr} {p : Nat} {h : List Nat}
theorem v_inT (ha : Val ta σ H (nv p)) (hb : Val tb σ H (.ref a)) (hx : SqT K H a (h.map nv)) : Val (tOp (rIn K false) ta tb) σ H (.bl (decide (p ∈ h))) := val_op ha hb fun Q q => ⟨a, _, rfl, .inr hx, rfl, flat_n h, by
  rw [inV_n]
  exact q⟩
theorem v_ninT (ha : Val ta σ H (nv p)) (hb : Val tb σ H (.ref a)) (hx : SqT K H a (h.map nv)) : Val (tOp (rIn K true) ta tb) σ H (.bl (!decide (p ∈ h))) := val_op ha hb fun Q q => ⟨a, _, rfl, .inr hx, rfl, flat_n h, by
  rw [inV_n]
  exact q⟩
theorem v_inL (ha : Val ta σ H (nv p)) (hb : Val tb σ H (.ref a)) (hx : SqL K H a (h.map nv)) : Val (tOp (rIn K false) ta tb) σ H (.bl (decide (p ∈ h))) := val_op ha hb fun Q q => ⟨a, _, rfl, .inl hx, rfl, flat_n h, by
  rw [inV_n]
  exact q⟩
theorem v_ninL (ha : Val ta σ H (nv p)) (hb : Val tb σ H (.ref a)) (hx : SqL K H a (h.map nv)) : Val (tOp (rIn K true) ta tb) σ H (.bl (!decide (p ∈ h))) := val_op ha hb fun Q q => ⟨a, _, rfl, .inl hx, rfl, flat_n h, by
  rw [inV_n]
  exact q⟩
end
theorem map_at {h : List Nat} {i : Nat} {x : V} (e : (h.map nv)[i]? = some x) : ∃ p, h[i]? = some p ∧ x = nv p := by
  rw [List.getElem?_map] at e
  obtain ⟨p, h1, h2⟩ := Option.map_eq_some_iff.mp e
  exact ⟨p, h1, h2.symm⟩
theorem nv_at {h : List Nat} {i p : Nat} (e : h[i]? = some p) : (h.map nv)[i]? = some (nv p) := by
  rw [List.getElem?_map, e]
  rfl
theorem All2.map_eq {α : Type} {f : α → V} {vs : List V} {xs : List α} (h : All2 (fun v x => v = f x) vs xs) : vs = xs.map f := by
  refine List.ext_getElem? fun i => ?_
  by_cases hi : i < xs.length
  · obtain ⟨v, e1, e2⟩ := h.get (List.getElem?_eq_getElem hi)
    rw [e1, e2, List.getElem?_map, List.getElem?_eq_getElem hi]
    rfl
  · rw [List.getElem?_eq_none (by rw [h.1]; omega), List.getElem?_eq_none (by rw [List.length_map]; omega)]
theorem int_at {ws : List Int} {p : Nat} (h : p < ws.length) : (ws.map V.int)[p]? = some (.int (ws.getD p 0)) := by
  rw [List.getElem?_map, List.getElem?_eq_getElem h, List.getD_eq_getElem?_getD, List.getElem?_eq_getElem h]
  rfl
theorem getD_of {α : Type} {xs : List α} {i : Nat} {x d : α} (h : xs[i]? = some x) : xs.getD i d = x := by rw [List.getD_eq_getElem?_getD, h]; rfl
theorem at_of_getD {α : Type} {xs : List α} {i : Nat} {d : α} (h : i < xs.length) : xs[i]? = some (xs.getD i d) := by rw [List.getD_eq_getElem?_getD, List.getElem?_eq_getElem h]; rfl
theorem map_range_getD {α β : Type} (f : α → β) (h : List α) (d : α) : (List.range h.length).map (fun i => f (h.getD i d)) = h.map f := by
  refine List.ext_getElem? fun i => ?_
  by_cases hi : i < h.length
  · rw [List.getElem?_map, List.getElem?_range hi, List.getElem?_map, List.getElem?_eq_getElem hi]
    show some (f (h.getD i d)) = some (f h[i])
    rw [getD_of (List.getElem?_eq_getElem hi)]
  · rw [List.getElem?_eq_none (by simp; omega), List.getElem?_eq_none (by simp; omega)]
def wsum (ws : List Int) (h : List Nat) : Int := (h.map fun p => ws.getD p 0).sum
def dCl : Cl := ⟨0, [], 0⟩
def win (cs : List Cl) (h : List Nat) (i : Nat) : Bool := inn (cs.getD i dCl).tou (hs h)
end KB

namespace KB
open PySem PySem.Spec PyProof.Rows L2
/-! ### the case that lists tell -/
def csOf (ws : List Int) (cs : List Cl) : Cs where
  m := ws.length
  n := cs.length
  w f := ((ws.getD f 0 : Int) : Rat)
  due i := (cs.getD i dCl).due
  tou i := (cs.getD i dCl).tou
  rk i := (cs.getD i dCl).rk
def pf (ps : List Rat) (i : Nat) : Rat := ps.getD i 0
theorem wsum_eq {ws : List Int} (cs : List Cl) : ∀ {h : List Nat}, h.Nodup → (∀ p ∈ h, p < ws.length) → ((wsum ws h : Int) : Rat) = (csOf ws cs).W (hs h)
  | [], _, _ => by
    refine (sm_zero fun f _ => ?_).symm
    show (if hs [] f = true then _ else (0 : Rat)) = 0
    rw [if_neg (by unfold hs; simp)]
  | p :: t, hn, hl => by
    have ih := wsum_eq cs (List.nodup_cons.mp hn).2 (fun q hq => hl q (List.mem_cons_of_mem _ hq))
    have e1 : wsum ws (p :: t) = ws.getD p 0 + wsum ws t := by
      unfold wsum
      rw [List.map_cons, List.sum_cons]
    have e2 : (csOf ws cs).W (hs (p :: t)) = (csOf ws cs).W (hs t) + sm ws.length (fun f => if f = p then ((ws.getD f 0 : Int) : Rat) else 0) := by
      show sm ws.length _ = sm ws.length _ + _
      rw [← sm_add]
      refine sm_congr fun f _ => ?_
      show (if hs (p :: t) f = true then ((ws.getD f 0 : Int) : Rat) else 0) = (if hs t f = true then ((ws.getD f 0 : Int) : Rat) else 0) + (if f = p then ((ws.getD f 0 : Int) : Rat) else 0)
      unfold hs
      by_cases a : f = p
      · subst a
        rw [if_pos (by simp), if_neg (by simpa using (List.nodup_cons.mp hn).1), if_pos rfl]
        grind
      · rw [if_neg a]
        by_cases b : f ∈ t
        · rw [if_pos (by simp [b]), if_pos (by simp [b])]
          grind
        · rw [if_neg (by simp [a, b]), if_neg (by simp [b])]
          grind
    rw [e1, e2, Rat.intCast_add, ← ih, sm_indicator (f := fun f => ((ws.getD f 0 : Int) : Rat)) (hl p List.mem_cons_self)]
    grind
theorem kept_sum (p : Nat → Rat) (f : Nat → Bool) : ∀ n : Nat, ((kept n f).map p).sum = sm n (fun i => if f i = true then p i else 0)
  | 0 => rfl
  | n + 1 => by
    show _ = sm n _ + (if f n = true then p n else 0)
    rw [← kept_sum p f n]
    cases h : f n with
    | true =>
      rw [kept_yes h, List.map_append, List.sum_append, if_pos rfl]
      simp [Rat.add_zero]
    | false =>
      rw [kept_no h, if_neg (by simp)]
      grind
theorem kept_mem {n : Nat} {f : Nat → Bool} {i : Nat} : i ∈ kept n f ↔ i < n ∧ f i = true := by
  unfold kept
  rw [List.mem_filter, List.mem_range]
theorem sum_take_ge : ∀ {l : List Rat} {i : Nat}, (∀ x ∈ l, 0 ≤ x) → 0 ≤ (l.take i).sum ∧ (l.take i).sum ≤ l.sum
  | [], i, _ => by simp [Rat.le_refl]
  | x :: l, 0, h => by
    have a := sum_take_ge (l := l) (i := 0) (fun y hy => h y (List.mem_cons_of_mem _ hy))
    have b := h x List.mem_cons_self
    rw [List.take_zero] at a ⊢
    rw [List.sum_cons]
    exact ⟨Rat.le_refl, by grind⟩
  | x :: l, i + 1, h => by
    have a := sum_take_ge (l := l) (i := i) (fun y hy => h y (List.mem_cons_of_mem _ hy))
    have b := h x List.mem_cons_self
    rw [List.take_succ_cons, List.sum_cons, List.sum_cons]
    exact ⟨by grind, by grind⟩
theorem sum_take_succ {l : List Rat} {i : Nat} {x : Rat} (h : l[i]? = some x) : (l.take (i + 1)).sum = (l.take i).sum + x := by
  rw [List.take_add_one, h, List.sum_append]
  simp [Rat.add_zero]
theorem Iz.sum {N : Nat} : ∀ {l : List Rat}, (∀ x ∈ l, Iz x N) → Iz l.sum N
  | [], _ => Iz.zero N
  | x :: l, h => by
    rw [List.sum_cons]
    exact (h x List.mem_cons_self).add (Iz.sum fun y hy => h y (List.mem_cons_of_mem _ hy))
/-- bounds: unders divide N, values within V -/
structure Bd (N V : Nat) : Prop where
  n0 : 0 < N
  nb : N < B1
  vb : V * N < B1
theorem fit_of {q : Rat} {N V : Nat} (b : Bd N V) (hz : Iz q N) (h1 : -(V : Rat) ≤ q) (h2 : q ≤ (V : Rat)) : Fit q := by
  have hd : q.den ≤ N := Nat.le_of_dvd b.n0 hz.dvd
  exact ⟨Nat.lt_of_le_of_lt (num_le hd h1 h2) b.vb, Nat.lt_of_le_of_lt hd b.nb⟩
theorem natV (V : Nat) : (0 : Rat) ≤ (V : Rat) := Rat.natCast_nonneg
theorem fit_nn {q : Rat} {N V : Nat} (b : Bd N V) (hz : Iz q N) (h1 : 0 ≤ q) (h2 : q ≤ (V : Rat)) : Fit q := fit_of b hz (by have := natV V; grind) h2
theorem fit_int {z : Int} {V : Nat} (h : z.natAbs ≤ V) (hb : V < B1) : Fit (z : Rat) := by
  refine ⟨?_, ?_⟩
  · show z.natAbs < B1
    omega
  · show 1 < B1
    unfold B1
    exact Nat.one_lt_two_pow (by decide)
/-- a row of a case -/
structure RowOk (ws : List Int) (cs : List Cl) (ps : List Rat) (N V : Nat) : Prop where
  len : ps.length = cs.length
  n16 : cs.length ≤ 16
  m6 : ws.length ≤ 6
  ok : (csOf ws cs).Ok
  p0 : ∀ i, i < cs.length → 0 ≤ pf ps i
  iz : ∀ i, i < cs.length → Iz (pf ps i) N
  sumP : sm cs.length (pf ps) ≤ (V : Rat)
  sumW : sm ws.length (csOf ws cs).w ≤ (V : Rat)
  bd : Bd N V
section
variable {ws : List Int} {cs : List Cl} {ps : List Rat} {N V : Nat}
theorem RowOk.p_le (r : RowOk ws cs ps N V) {i : Nat} (hi : i < cs.length) : pf ps i ≤ (V : Rat) := Rat.le_trans (sm_le_one hi r.p0) r.sumP
theorem RowOk.fit (r : RowOk ws cs ps N V) {i : Nat} (hi : i < cs.length) : Fit (pf ps i) := fit_nn r.bd (r.iz i hi) (r.p0 i hi) (r.p_le hi)
theorem part_sum_le {n : Nat} {f : Nat → Bool} {p : Nat → Rat} (h0 : ∀ i, i < n → 0 ≤ p i) : sm n (fun i => if f i = true then p i else 0) ≤ sm n p := sm_le fun i hi => by
  split
  · exact Rat.le_refl
  · exact h0 i hi
/-- a heap of those that `heaps` tells -/
def HeapOk (ws : List Int) (h : List Nat) : Prop := h.Nodup ∧ ∀ p ∈ h, p < ws.length
theorem HeapOk.len {h : List Nat} (k : HeapOk ws h) : h.length ≤ ws.length := by
  have h4 := List.Nodup.length_le_of_subset k.1 (l₂ := List.range ws.length) (fun x hx => List.mem_range.mpr (k.2 x hx))
  rwa [List.length_range] at h4
theorem W_le {c : Cs} (ok : c.Ok) (h : Hs) : 0 ≤ c.W h ∧ c.W h ≤ sm c.m c.w := by
  refine ⟨sm_nonneg fun f hf => ?_, sm_le fun f hf => ?_⟩
  · show 0 ≤ if h f = true then c.w f else 0
    split
    · exact ok.w0 f hf
    · exact Rat.le_refl
  · show (if h f = true then c.w f else 0) ≤ c.w f
    split
    · exact Rat.le_refl
    · exact ok.w0 f hf
theorem wsum_abs (r : RowOk ws cs ps N V) {h : List Nat} (k : HeapOk ws h) : (wsum ws h).natAbs ≤ V ∧ 0 ≤ wsum ws h := by
  have e := wsum_eq (ws := ws) cs k.1 k.2
  obtain ⟨a, b⟩ := W_le r.ok (hs h)
  rw [← e] at a b
  have a2 : 0 ≤ wsum ws h := Rat.intCast_nonneg.mp a
  have b2 : ((wsum ws h : Int) : Rat) ≤ ((V : Int) : Rat) := by
    rw [Rat.intCast_natCast]
    exact Rat.le_trans b r.sumW
  have b3 := Rat.intCast_le_intCast.mp b2
  exact ⟨by omega, a2⟩
theorem V_B1 (b : Bd N V) : V < B1 := by
  have h := b.vb
  have h2 := Nat.le_mul_of_pos_right V b.n0
  omega
end
theorem part_int {K : PySem.W.Frag} {H : Hp} {p : Addr} {z : Int} (e : H p = some (.tup [.int z, .int 1])) : isP K H (.ref p) (z : Rat) := ⟨p, rfl, SqT.of e⟩
end KB

namespace KB
open PySem PySem.Spec PyProof.Rows L2
/-! ### data compared -/
def Sd (k : Nat) (d : PyData) : Prop := d.canLay0 = true ∧ d.depth ≤ k
theorem sd_all {k : Nat} : ∀ {ds : List PyData}, (∀ d ∈ ds, Sd k d) → PyData.canLayAll0 ds = true ∧ PyData.depthAll ds ≤ k
  | [], _ => ⟨by simp [PyData.canLayAll0], by simp [PyData.depthAll]⟩
  | d :: ds, h => by
    obtain ⟨a, b⟩ := sd_all (ds := ds) fun x hx => h x (List.mem_cons_of_mem _ hx)
    obtain ⟨c, e⟩ := h d List.mem_cons_self
    refine ⟨by simp [PyData.canLayAll0, a, c], ?_⟩
    simp only [PyData.depthAll]
    exact Nat.max_le.mpr ⟨e, b⟩
theorem sd_list {k : Nat} {ds : List PyData} (h : ∀ d ∈ ds, Sd k d) : Sd (k + 1) (.list ds) := by
  obtain ⟨a, b⟩ := sd_all h
  refine ⟨by simp [PyData.canLay0, a], ?_⟩
  simp only [PyData.depth]
  omega
theorem sd_tup {k : Nat} {ds : List PyData} (h : ∀ d ∈ ds, Sd k d) : Sd (k + 1) (.tuple ds) := by
  obtain ⟨a, b⟩ := sd_all h
  refine ⟨by simp [PyData.canLay0, a], ?_⟩
  simp only [PyData.depth]
  omega
theorem sd_int (k : Nat) (i : Int) : Sd k (.int i) := ⟨by simp [PyData.canLay0], by simp [PyData.depth]⟩
theorem Sd.mono {k l : Nat} {d : PyData} (h : Sd k d) (e : k ≤ l) : Sd l d := ⟨h.1, Nat.le_trans h.2 e⟩
theorem Sd.shaped {k : Nat} {d : PyData} (h : Sd k d) (e : k ≤ 64) : SeqAt.shaped d = true := by
  unfold SeqAt.shaped
  rw [h.1, decide_eq_true (Nat.le_trans h.2 e)]
  rfl
def dI (i : Int) : PyData := .int i
def dN (p : Nat) : PyData := .int (p : Int)
def dP (q : Rat) : PyData := .tuple [.int q.num, .int (q.den : Int)]
def dH (h : List Nat) : PyData := .tuple (h.map dN)
def dC (c : Cl) : PyData := .tuple [dP c.due, dH c.tou, .int c.rk]
theorem sd_P (q : Rat) : Sd 1 (dP q) := sd_tup fun d hd => by
  rcases List.mem_cons.mp hd with rfl | hd
  · exact sd_int 0 _
  · rcases List.mem_cons.mp hd with rfl | hd
    · exact sd_int 0 _
    · cases hd
theorem sd_H (h : List Nat) : Sd 1 (dH h) := sd_tup fun d hd => by
  obtain ⟨p, _, rfl⟩ := List.mem_map.mp hd
  exact sd_int 0 _
theorem sd_C (c : Cl) : Sd 2 (dC c) := sd_tup fun d hd => by
  rcases List.mem_cons.mp hd with rfl | hd
  · exact sd_P _
  · rcases List.mem_cons.mp hd with rfl | hd
    · exact sd_H _
    · rcases List.mem_cons.mp hd with rfl | hd
      · exact sd_int 1 _
      · cases hd
section
variable {α : Type} {K : PySem.W.Frag} {H : Hp} {R : V → α → Prop} {f : α → PyData} {v : V}
theorem dp_all (hf : ∀ v x, R v x → Dp K H v (f x)) : ∀ {vs : List V} {xs : List α}, All2 R vs xs → DpAll K H vs (xs.map f)
  | [], [], _ => .nil
  | [], _ :: _, h => by have := h.1; cases this
  | _ :: _, [], h => by have := h.1; cases this
  | v :: vs, x :: xs, h => .cons (hf v x (h.2 0 v x rfl rfl)) (dp_all hf ⟨Nat.succ.inj h.1, fun i u y a b => h.2 (i + 1) u y a b⟩)
theorem dp_L (hf : ∀ v x, R v x → Dp K H v (f x)) {xs : List α} (h : isL K H R v xs) : Dp K H v (.list (xs.map f)) := by
  obtain ⟨a, vs, rfl, hs, al⟩ := h
  exact .lst hs (dp_all hf al)
theorem dp_P {q : Rat} (h : isP K H v q) : Dp K H v (dP q) := dp_part h
theorem dp_nv : ∀ h : List Nat, DpAll K H (h.map nv) (h.map dN)
  | [] => .nil
  | p :: h => .cons (.int _) (dp_nv h)
theorem dp_ints : ∀ h : List Int, DpAll K H (h.map V.int) (h.map dI)
  | [] => .nil
  | p :: h => .cons (.int _) (dp_ints h)
theorem dp_H {h : List Nat} (k : isH K H v h) : Dp K H v (dH h) := by
  obtain ⟨a, rfl, s⟩ := k
  exact .tup s (dp_nv h)
theorem dp_C {c : Cl} (k : isC K H v c) : Dp K H v (dC c) := by
  obtain ⟨a, d, t, rfl, s, p, q⟩ := k
  exact .tup s (.cons (dp_P p) (.cons (dp_H q) (.cons (.int _) .nil)))
theorem dp_LI {ns : List Int} (k : isLI K H v ns) : Dp K H v (.list (ns.map dI)) := by
  obtain ⟨a, rfl, s⟩ := k
  exact .lst s (dp_ints ns)
theorem dp_LN {ns : List Nat} (k : isLN K H v ns) : Dp K H v (.list (ns.map dN)) := by
  obtain ⟨a, rfl, s⟩ := k
  exact .lst s (dp_nv ns)
theorem dp_LC {cs : List Cl} (k : isL K H (isC K H) v cs) : Dp K H v (.list (cs.map dC)) := dp_L (fun _ _ r => dp_C r) k
theorem dp_LP {ps : List Rat} (k : isL K H (isP K H) v ps) : Dp K H v (.list (ps.map dP)) := dp_L (fun _ _ r => dp_P r) k
theorem sd_L {k : Nat} (hf : ∀ x, Sd k (f x)) (xs : List α) : Sd (k + 1) (.list (xs.map f)) := sd_list fun d hd => by
  obtain ⟨x, _, rfl⟩ := List.mem_map.mp hd
  exact hf x
theorem dp_nil {a : Addr} (h : SqL K H a []) : Dp K H (.ref a) (.list []) := .lst h .nil
theorem eqv_nil (xs : List α) : PyData.eqv (.list (xs.map f)) (.list []) = decide (xs = []) := by
  cases xs with
  | nil => simp [PyData.eqv, PyData.eqvAll]
  | cons x xs => simp [PyData.eqv, PyData.eqvAll]
/-- xs == [], xs != [] -/
theorem eqD_nil {y : V} {xs : List α} {k : Nat} {Q : VK} (h : Dp K H v (.list (xs.map f))) (hk : ∀ x, Sd k (f x)) (k64 : k ≤ 60) {a : Addr} (hy : y = .ref a) (h0 : SqL K H a []) (q : Q (.bl (decide (xs = []))) H) : rEqD K v y H Q := by
  subst hy
  refine ⟨_, _, h, dp_nil h0, (sd_L hk xs).shaped (by omega), (sd_list (k := 0) (ds := []) (fun _ z => (nomatch z))).shaped (by decide), ?_⟩
  rw [eqv_nil]
  exact q
theorem neD_nil {y : V} {xs : List α} {k : Nat} {Q : VK} (h : Dp K H v (.list (xs.map f))) (hk : ∀ x, Sd k (f x)) (k64 : k ≤ 60) {a : Addr} (hy : y = .ref a) (h0 : SqL K H a []) (q : Q (.bl (!decide (xs = []))) H) : rNeD K v y H Q := by
  subst hy
  refine ⟨_, _, h, dp_nil h0, (sd_L hk xs).shaped (by omega), (sd_list (k := 0) (ds := []) (fun _ z => (nomatch z))).shaped (by decide), ?_⟩
  rw [eqv_nil]
  exact q
/-- alike -/
theorem eqD_refl {x y : V} {d : PyData} {k : Nat} {Q : VK} (h1 : Dp K H x d) (h2 : Dp K H y d) (hk : Sd k d) (k64 : k ≤ 64) (q : Q (.bl true) H) : rEqD K x y H Q := by
  refine ⟨_, _, h1, h2, hk.shaped k64, hk.shaped k64, ?_⟩
  rw [SeqAt.eqv_refl d hk.1]
  exact q
theorem neD_refl {x y : V} {d : PyData} {k : Nat} {Q : VK} (h1 : Dp K H x d) (h2 : Dp K H y d) (hk : Sd k d) (k64 : k ≤ 64) (q : Q (.bl false) H) : rNeD K x y H Q := by
  refine ⟨_, _, h1, h2, hk.shaped k64, hk.shaped k64, ?_⟩
  rw [SeqAt.eqv_refl d hk.1]
  exact q
end
/-! ### while, whose test changes the heap -/
def whG (tbd : TS) (D : Ends) (W : Nat → L2.St → Hp → Prop) (m : Nat) (σ : L2.St) : Bool → Hp → Prop := fun b H1 => if b = true then ∃ N : L2.St → Hp → Prop, (∀ σ' H', N σ' H' → ∃ m', m' < m ∧ W m' σ' H') ∧ tbd { D with nx := N, ct := N, bk := D.nx } σ H1 else D.nx σ H1
section
variable {σ : L2.St} {H : Hp} {D : Ends} {c : TT} {tbd u : TS}
theorem q_whileC (W : Nat → L2.St → Hp → Prop) (m : Nat) (h0 : W m σ H) (hs : ∀ m σ H, W m σ H → c σ H (whG tbd { D with nx := u D } W m σ)) : tSeq (tWhile c tbd) u D σ H := ⟨W, ⟨m, h0⟩, fun m σ H hw => hs m σ H hw⟩
theorem s_whileC (W : Nat → L2.St → Hp → Prop) (m : Nat) (h0 : W m σ H) (hs : ∀ m σ H, W m σ H → c σ H (whG tbd D W m σ)) : tWhile c tbd D σ H := ⟨W, ⟨m, h0⟩, fun m σ H hw => hs m σ H hw⟩
theorem whG_yes {W : Nat → L2.St → Hp → Prop} {m : Nat} (h : tbd { nx := fun σ' H' => ∃ m', m' < m ∧ W m' σ' H', rt := D.rt, bk := D.nx, ct := fun σ' H' => ∃ m', m' < m ∧ W m' σ' H' } σ H) : whG tbd D W m σ true H := by
  unfold whG
  exact iteT ⟨_, fun _ _ n => n, h⟩
theorem whG_no {W : Nat → L2.St → Hp → Prop} {m : Nat} (h : D.nx σ H) : whG tbd D W m σ false H := by
  unfold whG
  exact iteF h
/-- a test by what follows -/
theorem t_op {te : TE} {Q : Bool → Hp → Prop} (h : te σ H fun v H1 => ∃ b, v = .bl b ∧ Q b H1) : tTest te σ H Q := h
end
end KB

namespace KB
open PySem PySem.Spec PyProof.Rows L2
/-! ### comprehensions by an invariant of one's own -/
section
variable {K : PySem.W.Frag} {σ : L2.St} {H : Hp} {tl ta te : TE} {tt : TT} {Q : VK}
/-- one turn -/
def lcT (tt : TT) (te : TE) (σ2 : L2.St) (p : Addr) (N : Hp → Prop) (H' : Hp) : Prop := tt σ2 H' fun b H3 => if b = true then te σ2 H3 fun y H4 => ∃ acc, H4 p = some (.lst acc) ∧ acc.length < sizeLine ∧ N (upd H4 p (.lst (acc ++ [y]))) else N H3
theorem c_lcGL {j : Nat} {a : Addr} {xs : List V} (I : Addr → Nat → Hp → Prop) (ht : Val tl σ H (.ref a)) (hx : SqL K H a xs) (h0 : ∀ p, H p = none → I p 0 (upd H p (.lst []))) (hl : ∀ p i H', I p i H' → SqL K H' a xs)
    (hs : ∀ p i x H', H p = none → xs[i]? = some x → I p i H' → lcT tt te ((wipe σ [j]).set j (some x)) p (I p (i + 1)) H') (q : ∀ p H', H p = none → I p xs.length H' → Q (.ref p) H') : tLc (iList K tl) (gName j) tt te [j] σ H Q :=
  ht _ ⟨a, rfl, ⟨xs, hx⟩, fun p hp => lc_list (xs := xs) (I p) (h0 p hp) (fun i H' _ z => hl p i H' z) (fun i x H' hi z => ⟨wipe1 _ _ _, hs p i x H' hp hi z⟩) (fun H' z => q p H' hp z)⟩
theorem c_lcGT {j : Nat} {a : Addr} {xs : List V} (I : Addr → Nat → Hp → Prop) (ht : Val tl σ H (.ref a)) (hx : SqT K H a xs) (h0 : ∀ p, H p = none → I p 0 (upd H p (.lst []))) (hl : ∀ p i H', I p i H' → SqT K H' a xs)
    (hs : ∀ p i x H', H p = none → xs[i]? = some x → I p i H' → lcT tt te ((wipe σ [j]).set j (some x)) p (I p (i + 1)) H') (q : ∀ p H', H p = none → I p xs.length H' → Q (.ref p) H') : tLc (iTup K tl) (gName j) tt te [j] σ H Q :=
  ht _ ⟨a, rfl, ⟨xs, hx⟩, fun p hp => lc_tup (xs := xs) (I p) (h0 p hp) (fun i H' _ z => hl p i H' z) (fun i x H' hi z => ⟨wipe1 _ _ _, hs p i x H' hp hi z⟩) (fun H' z => q p H' hp z)⟩
theorem c_lcGR {j n : Nat} (I : Addr → Nat → Hp → Prop) (ht : Val ta σ H (.int (n : Int))) (hn : n < 50000) (h0 : ∀ p, H p = none → I p 0 (upd H p (.lst [])))
    (hs : ∀ p i H', H p = none → i < n → I p i H' → lcT tt te ((wipe σ [j]).set j (some (nv i))) p (I p (i + 1)) H') (q : ∀ p H', H p = none → I p n H' → Q (.ref p) H') : tLc (iRng1 (tCons ta tNil)) (gName j) tt te [j] σ H Q :=
  ht _ ⟨(n : Int), rfl, by omega, by omega, fun p hp => lc_range (lo := 0) (n := ((n : Int)).toNat) (I p) (h0 p hp) (fun i H' hi z => by
    have e0 : (0 : Int) + (i : Int) = (i : Int) := Int.zero_add _
    have k := hs p i H' hp (by omega) z
    show wipe ((wipe σ [j]).set j (some (.int ((0 : Int) + (i : Int))))) [j] = wipe σ [j] ∧ lcT tt te ((wipe σ [j]).set j (some (.int ((0 : Int) + (i : Int))))) p (I p (i + 1)) H'
    rw [e0]
    exact ⟨wipe1 _ _ _, k⟩) (fun H' z => by
      rw [Int.toNat_natCast] at z
      exact q p H' hp z)⟩
/-- a turn that always gives -/
theorem lcT_yes {σ2 : L2.St} {p : Addr} {N : Hp → Prop} {H' : Hp} (h : te σ2 H' fun y H4 => ∃ acc, H4 p = some (.lst acc) ∧ acc.length < sizeLine ∧ N (upd H4 p (.lst (acc ++ [y])))) : lcT tYes te σ2 p N H' := by
  unfold lcT
  exact iteT (B := N H') h
end
end KB

namespace KB
open PySem PySem.Spec PyProof.Rows L2
abbrev kMulS : R2 := rI CMul fun i j => .int (i * j)
/-! ### the bag of the script's numbers -/
def Bag (H : Hp) (a b : Addr) : Prop := ∃ (ns : List Int) (i : Nat) (j k : Int), H a = some (.lst [.ref b, nv i, .int j, .int k]) ∧ H b = some (.lst (ns.map V.int)) ∧ b ≠ a
/-- alike beside the bag -/
structure BX (a : Addr) (H H' : Hp) : Prop where
  sx : ∀ p o, H p = some o → p ≠ a → H' p = some o
  tk : TK H H'
section
variable {K : PySem.W.Frag} {a : Addr} {H H' H2 : Hp}
theorem BX.refl (a : Addr) (H : Hp) : BX a H H := ⟨fun _ _ h _ => h, TK.refl H⟩
theorem BX.trans (x : BX a H H') (y : BX a H' H2) : BX a H H2 := ⟨fun p o h n => y.sx p o (x.sx p o h n) n, x.tk.trans y.tk⟩
theorem bx_of (s : Same H H') : BX a H H' := ⟨fun p o h _ => s p o h, tk_of s⟩
theorem BX.sq (x : BX a H H') {p : Addr} {xs : List V} (h : SqL K H p xs) (n : p ≠ a) : SqL K H' p xs := by
  rcases h with (h | ⟨o, h⟩) | h
  · exact .inl (.inl (x.sx _ _ h n))
  · exact .inl (.inr ⟨o, x.sx _ _ h n⟩)
  · exact .inr h
theorem Bag.same {b : Addr} (g : Bag H a b) (s : Same H H') : Bag H' a b := let ⟨ns, i, j, k, e, h, n⟩ := g; ⟨ns, i, j, k, s _ _ e, s _ _ h, n⟩
theorem Bag.ne {b : Addr} (g : Bag H a b) {p : Addr} (h : H p = none) : p ≠ a ∧ p ≠ b := by
  obtain ⟨ns, i, j, k, e, e2, _⟩ := g
  exact ⟨fun z => (by rw [z, e] at h; cases h), fun z => (by rw [z, e2] at h; cases h)⟩
theorem BX.free (x : BX a H H') {b : Addr} (g : Bag H' a b) {p : Addr} (h : H' p = none) : H p = none := by
  cases e : H p with
  | none => rfl
  | some o =>
    have := x.sx p o e (g.ne h).1
    rw [this] at h
    cases h
/-- under a base where the bag is not -/
theorem BX.under {H0 : Hp} (x : BX a H H') (s : Same H0 H) (n : H0 a = none) : Same H0 H' := fun p o e => x.sx p o (s p o e) fun z => by
  rw [z, n] at e
  cases e
/-- a list of one's own is laid or changed -/
theorem BX.put (x : BX a H H') {p : Addr} {o : HO} (h : H p = none) (t : TK H' (upd H' p o)) : BX a H (upd H' p o) := ⟨fun q u e n => by
  rw [upd_ne (ne_of_none e h)]
  exact x.sx q u e n, x.tk.trans t⟩
theorem Bag.put {b : Addr} (g : Bag H a b) {p : Addr} {o : HO} (h : p ≠ a ∧ p ≠ b) : Bag (upd H p o) a b := by
  obtain ⟨ns, i, j, k, e, e2, n⟩ := g
  exact ⟨ns, i, j, k, by rw [upd_ne (Ne.symm h.1)]; exact e, by rw [upd_ne (Ne.symm h.2)]; exact e2, n⟩
end
theorem q_ifc0 {σ : L2.St} {H : Hp} {D : Ends} {c : TT} {t u : TS} (h : c σ H fun b H1 => if b = true then t { D with nx := u D } σ H1 else u D σ H1) : tSeq (tIfS c t tNext) u D σ H := h
theorem t_orT {σ : L2.St} {H : Hp} {ta tb : TE} {r : R2} {u : TT} {Q : Bool → Hp → Prop} (h : ta σ H fun x H1 => tb σ H1 fun y H2 => r x y H2 fun v H3 => ∃ k, v = .bl k ∧ if k = true then Q true H3 else u σ H3 Q) : tOr (tTest (tOp r ta tb)) u σ H Q := h
theorem t_notall {K : PySem.W.Frag} {σ : L2.St} {H : Hp} {te : TE} {Q : Bool → Hp → Prop} (h : te σ H fun x H1 => rAll K [x] H1 fun v H2 => ∃ c, v = .bl c ∧ Q (!c) H2) : tNot (tB (tCB (rAll K) (tCons te tNil))) σ H Q := h
theorem t_orV {σ : L2.St} {H : Hp} {ta tb te : TE} {r : R2} {Q : VK} (h : ta σ H fun x H1 => tb σ H1 fun y H2 => r x y H2 fun v H3 => ∃ k, v = .bl k ∧ if k = true then Q (.bl true) H3 else te σ H3 Q) : tOrV (tOp r ta tb) te σ H Q := h
theorem t_B {σ : L2.St} {H : Hp} {te : TE} {Q : Bool → Hp → Prop} (h : te σ H fun x H1 => ∃ c, x = .bl c ∧ Q c H1) : tB te σ H Q := h
/-! ### displays of constants -/
def ValA (t : TA) (σ : L2.St) (H : Hp) (vs : List V) : Prop := ∀ Q : List V → Hp → Prop, Q vs H → t σ H Q
section
variable {σ : L2.St} {H : Hp} {t : TA} {te : TE} {v : V} {vs : List V}
theorem va_nil : ValA tNil σ H [] := fun Q q => q
theorem va_cons (h : Val te σ H v) (k : ValA t σ H vs) : ValA (tCons te t) σ H (v :: vs) := fun Q q => h _ (k _ q)
theorem c_lstA {Q : VK} (h : ValA t σ H vs) (hl : vs.length ≤ 1000) (q : ∀ p, H p = none → Q (.ref p) (upd H p (.lst vs))) : tLst t σ H Q := h _ ⟨Nat.le_trans hl (by decide), q⟩
theorem v_mulS {i j : Int} {ta tb : TE} (ha : Val ta σ H (.int i)) (hb : Val tb σ H (.int j)) (h : CMul i j) : Val (tOp kMulS ta tb) σ H (.int (i * j)) := val_op ha hb fun Q q => ⟨i, j, rfl, rfl, h, q⟩
end
/-- the least that all unders 1 .. 60 divide, and bounds -/
def D0 : Nat := 9690712164777231700912800
theorem d0_dvd {d : Nat} (h : 0 < d) (h2 : d ≤ 60) : d ∣ D0 := by
  have k : ∀ i : Fin 60, (i.val + 1) ∣ D0 := by decide +kernel
  have := k ⟨d - 1, by omega⟩
  have e : d - 1 + 1 = d := by omega
  rwa [e] at this
theorem iz_mk {n : Int} {d : Nat} (h : 0 < d) (h2 : d ≤ 60) : Iz (mkRat n d) D0 := by
  obtain ⟨k, hk⟩ := d0_dvd h h2
  refine ⟨n * k, ?_⟩
  rw [Rat.mkRat_eq_div, hk, Rat.natCast_mul, Rat.intCast_mul, Rat.intCast_natCast]
  have hd : ((d : Nat) : Rat) ≠ 0 := fun z => by
    have := Rat.natCast_eq_zero_iff.mp z
    omega
  have h3 : ((n : Int) : Rat) / ((d : Nat) : Rat) * ((d : Nat) : Rat) = ((n : Int) : Rat) := Rat.div_mul_cancel hd
  rw [← Rat.mul_assoc, h3]
/-- a claim as the bag gives it: m funds, no more than U due -/
structure ClOk (m U : Nat) (c : Cl) : Prop where
  d0 : 0 ≤ c.due
  dU : c.due ≤ (U : Rat)
  iz : Iz c.due D0
  nd : c.tou.Nodup
  lt : ∀ p ∈ c.tou, p < m
structure CaOk (ws : List Int) (cs : List Cl) : Prop where
  m6 : ws.length ≤ 6
  n16 : cs.length ≤ 16
  w0 : ∀ x ∈ ws, 0 ≤ x ∧ x ≤ 10 ^ 12
  cl : ∀ c ∈ cs, ClOk ws.length (10 ^ 11) c
end KB

namespace KB
open PySem PySem.Spec PyProof.Rows L2
local macro_rules | `(tactic| walk_at "v") => `(tactic| first
  | exact val_c
  | exact val_var rfl
  | (apply v_num; (focus walk_at "v"); (focus assumption))
  | (apply v_den; (focus walk_at "v"); (focus assumption))
  | (apply v_add; (focus walk_at "v"); (focus walk_at "v"))
  | (apply v_sub; (focus walk_at "v"); (focus walk_at "v"))
  | (apply v_neg; (focus walk_at "v"))
  | (apply v_mul; (focus walk_at "v"); (focus walk_at "v"); (focus assumption))
  | (apply v_div; (focus walk_at "v"); (focus walk_at "v"); (focus assumption))
  | (apply v_mod; (focus walk_at "v"); (focus walk_at "v"); (first | assumption | decide))
  | (apply v_lt; (focus walk_at "v"); (focus walk_at "v"))
  | (apply v_le; (focus walk_at "v"); (focus walk_at "v"))
  | (apply v_gt; (focus walk_at "v"); (focus walk_at "v"))
  | (apply v_ge; (focus walk_at "v"); (focus walk_at "v"))
  | (apply v_eqI; (focus walk_at "v"); (focus walk_at "v"))
  | (apply v_neI; (focus walk_at "v"); (focus walk_at "v"))
  | (apply v_eqP; (focus walk_at "v"); (focus walk_at "v"); (focus assumption); (focus assumption))
  | (apply v_neP; (focus walk_at "v"); (focus walk_at "v"); (focus assumption); (focus assumption))
  | (apply v_abs; (focus walk_at "v"))
  | (apply v_lenL; (focus walk_at "v"); (focus assumption))
  | (apply v_ixL; (focus walk_at "v"); (focus walk_at "v"); (focus assumption); (focus assumption))
  | (apply v_ixT; (focus walk_at "v"); (focus walk_at "v"); (focus assumption); (focus assumption)))
/-- a test's answer -/
local macro_rules | `(tactic| walk_at "a") => `(tactic| first
  | (apply ans_vt; (focus walk_at "v"))
  | (apply ans_val; (focus walk_at "v"))
  | (apply ans_not; (focus walk_at "a"))
  | (apply ans_and2; (focus walk_at "a"); (focus walk_at "a")))
local macro_rules | `(tactic| walk_at "set") => `(tactic| (first | apply q_set | apply s_set); (focus walk_at "v"))
local macro_rules | `(tactic| walk_at "ret") => `(tactic| (apply s_ret; (focus walk_at "v")))
local macro_rules | `(tactic| walk_at "call") => `(tactic| (first | apply c_call1 | apply c_call2 | apply c_call3 | apply c_call4 | apply c_call5); (iterate 5 (first | (focus walk_at "v") | skip)))
def sp_common (K : PySem.W.Frag) : Sp := fun vs H Q _ => ∃ v1 v2, vs = [v1, v2] ∧ ∃ a b : Int, v1 = .int a ∧ v2 = .int b ∧ Q (.int (Nat.gcd a.natAbs b.natAbs : Nat)) H
/-- slots: one 0, other 1 -/
abbrev N_common : List Str := ["one", "other"]
theorem sc_common : FnScope N_common ["one", "other"] (defScope s_common) := ⟨rfl, rfl, rfl, by decide +kernel, rfl, by decide +kernel, by decide +kernel⟩
def t_common (K : PySem.W.Frag) : TS := tSeq (tAsg (tCB kAbs (tCons (tVar 0) tNil)) (gName 0))
  (tSeq (tAsg (tCB kAbs (tCons (tVar 1) tNil)) (gName 1))
  (tSeq (tWhile (tTest (tOp rNe (tVar 1) (tC (.int 0))))
  (tPar 0 1 (tCons (tVar 1) (tCons (tOp kMod (tVar 0) (tVar 1)) tNil))))
  (tRet (tVar 0))))
theorem pure_common {K : PySem.W.Frag} {mg : Str → Option Value} (T : Txt K mg) (vs : List V) (H : Hp) (Q : VK) (E : XK) (h : sp_common K vs H Q E) : t_common K { nx := fun _ H' => Q .non H', rt := Q } (start N_common vs) H := by
  obtain ⟨_, _, rfl, a, b, rfl, rfl, q⟩ := h
  unfold t_common
  walk_at "set"
  walk_at "set"
  refine q_while (fun m σ H' => H' = H ∧ ∃ x : Nat, σ = [some (nv x), some (nv m)] ∧ Nat.gcd x m = Nat.gcd a.natAbs b.natAbs) b.natAbs ⟨rfl, _, rfl, rfl⟩ ?_
  rintro m σ H' ⟨rfl, x, rfl, e⟩
  apply wl_in
  · walk_at "a"
  · intro hb
    have hp : (0 : Int) < (m : Int) := by
      have : ¬ ((m : Int) = 0) := by simpa using hb
      omega
    apply s_par
    · walk_at "v"
    · walk_at "v"
    · refine ⟨x % m, Nat.mod_lt _ (by omega), rfl, m, rfl, ?_⟩
      rw [← e, Nat.gcd_comm m (x % m), ← Nat.gcd_rec, Nat.gcd_comm]
  · intro hb
    have hm : m = 0 := by
      have : (m : Int) = 0 := by simpa using hb
      omega
    subst hm
    rw [Nat.gcd_zero_right] at e
    walk_at "ret"
    rw [← e] at q
    exact q
theorem ok_common {P : Program} {w : World} {K : PySem.W.Frag} {mg : Str → Option Value} {base : Heap} (T : Txt K mg) : Okf P w K mg base 1 "common" ["one", "other"] (sp_common K) := by
  obtain ⟨fd, F0⟩ := T.c.def_ 0 (d := d_common) rfl
  have F : FnP K "common" s_common (He.ga K "common") fd := F0
  refine ⟨_, fd, F.ok sc_common (fun vs H Q E h => ?_) (fun cdv A outer s H vs Q E hr h => ⟨t_common K, PSs.nox ?_, pure_common T vs H Q E h⟩), F.bindsN (fun _ _ _ _ _ _ us hl => match us, hl with | [_, _], _ => rfl), F.kp, T.glo 0 rfl⟩
  · obtain ⟨_, _, rfl, _⟩ := h
    rfl
  · exact (pss_cons (ps_set (i := 0) sc_common.nd rfl (by first | exact Or.inl rfl | exact Or.inr rfl) (pe_callB call_abs (by rfl) (T.free 53 rfl) (by decide +kernel) (pa_cons (pv 0) pa_nil)))
  (pss_cons (ps_set (i := 1) sc_common.nd rfl (by first | exact Or.inl rfl | exact Or.inr rfl) (pe_callB call_abs (by rfl) (T.free 53 rfl) (by decide +kernel) (pa_cons (pv 1) pa_nil)))
  (pss_cons (ps_while PassesOwn.never (pt_cmpR op_ne (pv 1) pe_int (nomark _))
  (pss_one (ps_par (i := 0) (j := 1) (by rfl) sc_common.nd rfl rfl (by decide) rfl rfl (pa_cons (pv 1) (pa_cons (pe_op op_mod (pv 0) (pv 1)) pa_nil)) (by rfl))))
  (pss_one (ps_ret (pv 0))))))
def sp_lowest (K : PySem.W.Frag) : Sp := fun vs H Q _ => ∃ v1 v2, vs = [v1, v2] ∧ ∃ (n : Int) (d : Nat), v1 = .int n ∧ v2 = .int (d : Int) ∧ 0 < d ∧ d < B2 ∧ ∀ v H', Same H H' → isP K H' v (mkRat n d) → Q v H'
/-- slots: number 0, under 1, by 2 -/
abbrev N_lowest : List Str := ["number", "under", "by"]
theorem sc_lowest : FnScope N_lowest ["number", "under"] (defScope s_lowest) := ⟨rfl, rfl, rfl, by decide +kernel, rfl, by decide +kernel, by decide +kernel⟩
def t_lowest (K : PySem.W.Frag) : TS := tSeq (tIfS (tTest (tOp kLt (tVar 1) (tC (.int 1))))
  tNever
  tNext)
  (tSeq (tAsg (tCall (sp_common K) [] E0 (tCons (tVar 0) (tCons (tVar 1) tNil))) (gName 2))
  (tRet (tTup (tCons (tOp kDiv (tVar 0) (tVar 2)) (tCons (tOp kDiv (tVar 1) (tVar 2)) tNil)))))
theorem part_low {K : PySem.W.Frag} {H : Hp} {p : Addr} {n : Int} {d : Nat} (hd : 0 < d) : isP K (upd H p (.tup [.int (n / (Nat.gcd n.natAbs d : Nat)), .int ((d : Int) / (Nat.gcd n.natAbs d : Nat))])) (.ref p) (mkRat n d) := by
  refine ⟨p, rfl, ?_⟩
  have e1 : (mkRat n d).num = n / (Nat.gcd n.natAbs d : Nat) := by rw [Rat.num_mkRat, if_neg (by omega), Nat.gcd_comm]
  have e2 : ((mkRat n d).den : Int) = (d : Int) / (Nat.gcd n.natAbs d : Nat) := by rw [Rat.den_mkRat, if_neg (by omega), Nat.gcd_comm, Int.natCast_ediv]
  rw [e1, e2]
  exact SqT.of upd_same
theorem pure_lowest {K : PySem.W.Frag} {mg : Str → Option Value} (T : Txt K mg) (vs : List V) (H : Hp) (Q : VK) (E : XK) (h : sp_lowest K vs H Q E) : t_lowest K { nx := fun _ H' => Q .non H', rt := Q } (start N_lowest vs) H := by
  obtain ⟨_, _, rfl, n, d, rfl, rfl, hd, hb, q⟩ := h
  unfold t_lowest
  apply q_if0
  · walk_at "a"
  · intro z
    have := of_decide_eq_true z
    omega
  · intro _
    apply q_asg
    walk_at "call"
    refine ⟨_, _, rfl, n, d, rfl, rfl, ?_⟩
    rw [Int.natAbs_natCast]
    have hg : 0 < Nat.gcd n.natAbs d := Nat.gcd_pos_of_pos_right _ hd
    have hgb : Nat.gcd n.natAbs d < B2 := Nat.lt_of_le_of_lt (Nat.gcd_le_right _ hd) hb
    have c1 : CDivW n (Nat.gcd n.natAbs d : Nat) := divB hg hgb
    have c2 : CDivW (d : Int) (Nat.gcd n.natAbs d : Nat) := divB hg hgb
    apply s_retc
    apply c_tup2
    · walk_at "v"
    · walk_at "v"
    · intro p hp
      exact q _ _ (same_new hp) (part_low hd)
theorem ok_lowest {P : Program} {w : World} {K : PySem.W.Frag} {mg : Str → Option Value} {base : Heap} (T : Txt K mg) : Okf P w K mg base 2 "lowest" ["number", "under"] (sp_lowest K) := by
  obtain ⟨fd, F0⟩ := T.c.def_ 1 (d := d_lowest) rfl
  have F : FnP K "lowest" s_lowest (He.ga K "lowest") fd := F0
  have h_common := ok_common (P := P) (w := w) (base := base) T
  refine ⟨_, fd, F.ok sc_lowest (fun vs H Q E h => ?_) (fun cdv A outer s H vs Q E hr h => ⟨t_lowest K, PSs.nox ?_, pure_lowest T vs H Q E h⟩), F.bindsN (fun _ _ _ _ _ _ us hl => match us, hl with | [_, _], _ => rfl), F.kp, T.glo 1 rfl⟩
  · obtain ⟨_, _, rfl, _⟩ := h
    rfl
  · exact (pss_cons (ps_if (pt_cmpR op_lt (pv 1) pe_int (nomark _))
  (pss_one ps_never)
  pss_nil)
  (pss_cons (ps_set (i := 2) sc_lowest.nd rfl (by first | exact Or.inl rfl | exact Or.inr rfl) (pe_cf h_common hr (by decide) rfl (pa_cons (pv 0) (pa_cons (pv 1) pa_nil))))
  (pss_one (ps_ret (pe_tup (pa_cons (pe_op op_fdivW (pv 0) (pv 2)) (pa_cons (pe_op op_fdivW (pv 1) (pv 2)) pa_nil)))))))
def sp_plus (K : PySem.W.Frag) : Sp := fun vs H Q _ => ∃ v1 v2, vs = [v1, v2] ∧ ∃ q r : Rat, isP K H v1 q ∧ isP K H v2 r ∧ Fit q ∧ Fit r ∧ ∀ v H', Same H H' → isP K H' v (q + r) → Q v H'
/-- slots: one 0, other 1 -/
abbrev N_plus : List Str := ["one", "other"]
theorem sc_plus : FnScope N_plus ["one", "other"] (defScope s_plus) := ⟨rfl, rfl, rfl, by decide +kernel, rfl, by decide +kernel, by decide +kernel⟩
def t_plus (K : PySem.W.Frag) : TS := tSeq (tIfS (tAnd (tTest (tOp rEq (tOp (rIxT K) (tVar 0) (tC (.int 1))) (tC (.int 1)))) (tTest (tOp rEq (tOp (rIxT K) (tVar 1) (tC (.int 1))) (tC (.int 1)))))
  (tRet (tTup (tCons (tOp kAdd (tOp (rIxT K) (tVar 0) (tC (.int 0))) (tOp (rIxT K) (tVar 1) (tC (.int 0)))) (tCons (tC (.int 1)) tNil))))
  tNext)
  (tRet (tCall (sp_lowest K) [] E0 (tCons (tOp kAdd (tOp kMul (tOp (rIxT K) (tVar 0) (tC (.int 0))) (tOp (rIxT K) (tVar 1) (tC (.int 1)))) (tOp kMul (tOp (rIxT K) (tVar 1) (tC (.int 0))) (tOp (rIxT K) (tVar 0) (tC (.int 1))))) (tCons (tOp kMul (tOp (rIxT K) (tVar 0) (tC (.int 1))) (tOp (rIxT K) (tVar 1) (tC (.int 1)))) tNil))))
theorem pure_plus {K : PySem.W.Frag} {mg : Str → Option Value} (T : Txt K mg) (vs : List V) (H : Hp) (Q : VK) (E : XK) (h : sp_plus K vs H Q E) : t_plus K { nx := fun _ H' => Q .non H', rt := Q } (start N_plus vs) H := by
  obtain ⟨v1, v2, rfl, a, b, ha, hb, fa, fb, q⟩ := h
  unfold t_plus
  apply q_if0
  · walk_at "a"
  · intro z
    obtain ⟨z1, z2⟩ := Bool.and_eq_true_iff.mp z
    have e1 := of_decide_eq_true z1
    have e2 := of_decide_eq_true z2
    apply s_retc
    apply c_tup2
    · walk_at "v"
    · walk_at "v"
    · intro p hp
      refine q _ _ (same_new hp) ⟨p, rfl, ?_⟩
      have d1 : a.den = 1 := by omega
      have d2 : b.den = 1 := by omega
      have d3 : (a + b).den = 1 := by rw [Rat.den_add, d1, d2]; simp
      have d4 : (a + b).num = a.num + b.num := by rw [Rat.num_add, d1, d2]; simp
      rw [d3, d4]
      exact SqT.of upd_same
  · intro _
    apply s_retc
    have m1 : CMulX a.num (b.den : Int) := mulB fa.1 (by rw [Int.natAbs_natCast]; exact fb.2)
    have m2 : CMulX b.num (a.den : Int) := mulB fb.1 (by rw [Int.natAbs_natCast]; exact fa.2)
    have m3 : CMulX (a.den : Int) (b.den : Int) := mulB (by rw [Int.natAbs_natCast]; exact fa.2) (by rw [Int.natAbs_natCast]; exact fb.2)
    walk_at "call"
    refine ⟨_, _, rfl, _, a.den * b.den, rfl, by rw [Int.natCast_mul], Nat.mul_pos a.den_pos b.den_pos, B1_B2 fa.2 fb.2, ?_⟩
    rw [← Rat.add_def']
    exact q
theorem ok_plus {P : Program} {w : World} {K : PySem.W.Frag} {mg : Str → Option Value} {base : Heap} (T : Txt K mg) : Okf P w K mg base 3 "plus" ["one", "other"] (sp_plus K) := by
  obtain ⟨fd, F0⟩ := T.c.def_ 2 (d := d_plus) rfl
  have F : FnP K "plus" s_plus (He.ga K "plus") fd := F0
  have h_lowest := ok_lowest (P := P) (w := w) (base := base) T
  refine ⟨_, fd, F.ok sc_plus (fun vs H Q E h => ?_) (fun cdv A outer s H vs Q E hr h => ⟨t_plus K, PSs.nox ?_, pure_plus T vs H Q E h⟩), F.bindsN (fun _ _ _ _ _ _ us hl => match us, hl with | [_, _], _ => rfl), F.kp, T.glo 2 rfl⟩
  · obtain ⟨_, _, rfl, _⟩ := h
    rfl
  · exact (pss_cons (ps_if (PW.pt (pw_and (pt_cmpR op_eq (pe_ix ix_tup (pv 0) pe_int (fun _ _ => rfl)) pe_int (nomark _)) (pw_and1 (pt_cmpR op_eq (pe_ix ix_tup (pv 1) pe_int (fun _ _ => rfl)) pe_int (nomark _)))))
  (pss_one (ps_ret (pe_tup (pa_cons (pe_op op_add (pe_ix ix_tup (pv 0) pe_int (fun _ _ => rfl)) (pe_ix ix_tup (pv 1) pe_int (fun _ _ => rfl))) (pa_cons pe_int pa_nil)))))
  pss_nil)
  (pss_one (ps_ret (pe_cf h_lowest hr (by decide) rfl (pa_cons (pe_op op_add (pe_op op_mulX (pe_ix ix_tup (pv 0) pe_int (fun _ _ => rfl)) (pe_ix ix_tup (pv 1) pe_int (fun _ _ => rfl))) (pe_op op_mulX (pe_ix ix_tup (pv 1) pe_int (fun _ _ => rfl)) (pe_ix ix_tup (pv 0) pe_int (fun _ _ => rfl)))) (pa_cons (pe_op op_mulX (pe_ix ix_tup (pv 0) pe_int (fun _ _ => rfl)) (pe_ix ix_tup (pv 1) pe_int (fun _ _ => rfl))) pa_nil))))))
def sp_less (K : PySem.W.Frag) : Sp := fun vs H Q _ => ∃ v1 v2, vs = [v1, v2] ∧ ∃ q r : Rat, isP K H v1 q ∧ isP K H v2 r ∧ Fit q ∧ Fit r ∧ ∀ v H', Same H H' → isP K H' v (q - r) → Q v H'
/-- slots: one 0, other 1 -/
abbrev N_less : List Str := ["one", "other"]
theorem sc_less : FnScope N_less ["one", "other"] (defScope s_less) := ⟨rfl, rfl, rfl, by decide +kernel, rfl, by decide +kernel, by decide +kernel⟩
def t_less (K : PySem.W.Frag) : TS := tRet (tCall (sp_plus K) [] E0 (tCons (tVar 0) (tCons (tTup (tCons (tUn kNeg (tOp (rIxT K) (tVar 1) (tC (.int 0)))) (tCons (tOp (rIxT K) (tVar 1) (tC (.int 1))) tNil))) tNil)))
theorem fit_neg {q : Rat} (h : Fit q) : Fit (-q) := ⟨by rw [Rat.neg_num, Int.natAbs_neg]; exact h.1, by rw [Rat.neg_den]; exact h.2⟩
theorem pure_less {K : PySem.W.Frag} {mg : Str → Option Value} (T : Txt K mg) (vs : List V) (H : Hp) (Q : VK) (E : XK) (h : sp_less K vs H Q E) : t_less K { nx := fun _ H' => Q .non H', rt := Q } (start N_less vs) H := by
  obtain ⟨v1, v2, rfl, a, b, ha, hb, fa, fb, q⟩ := h
  unfold t_less
  apply s_retc
  apply c_call2b
  · walk_at "v"
  apply c_tup2
  · walk_at "v"
  · walk_at "v"
  · intro p hp
    have s := same_new (o := .tup [.int (-b.num), .int (b.den : Int)]) hp
    refine ⟨_, _, rfl, a, -b, ha.mono (tk_of s), ⟨p, rfl, SqT.of upd_same⟩, fa, fit_neg fb, fun v H' s' hv => q v H' (s.trans s') ?_⟩
    rw [Rat.sub_eq_add_neg]
    exact hv
theorem ok_less {P : Program} {w : World} {K : PySem.W.Frag} {mg : Str → Option Value} {base : Heap} (T : Txt K mg) : Okf P w K mg base 4 "less" ["one", "other"] (sp_less K) := by
  obtain ⟨fd, F0⟩ := T.c.def_ 3 (d := d_less) rfl
  have F : FnP K "less" s_less (He.ga K "less") fd := F0
  have h_plus := ok_plus (P := P) (w := w) (base := base) T
  refine ⟨_, fd, F.ok sc_less (fun vs H Q E h => ?_) (fun cdv A outer s H vs Q E hr h => ⟨t_less K, PSs.nox ?_, pure_less T vs H Q E h⟩), F.bindsN (fun _ _ _ _ _ _ us hl => match us, hl with | [_, _], _ => rfl), F.kp, T.glo 3 rfl⟩
  · obtain ⟨_, _, rfl, _⟩ := h
    rfl
  · exact (pss_one (ps_ret (pe_cf h_plus hr (by decide) rfl (pa_cons (pv 0) (pa_cons (pe_tup (pa_cons (pe_un un_neg (pe_ix ix_tup (pv 1) pe_int (fun _ _ => rfl))) (pa_cons (pe_ix ix_tup (pv 1) pe_int (fun _ _ => rfl)) pa_nil))) pa_nil)))))
def sp_times (K : PySem.W.Frag) : Sp := fun vs H Q _ => ∃ v1 v2, vs = [v1, v2] ∧ ∃ q r : Rat, isP K H v1 q ∧ isP K H v2 r ∧ Fit q ∧ Fit r ∧ ∀ v H', Same H H' → isP K H' v (q * r) → Q v H'
/-- slots: one 0, other 1 -/
abbrev N_times : List Str := ["one", "other"]
theorem sc_times : FnScope N_times ["one", "other"] (defScope s_times) := ⟨rfl, rfl, rfl, by decide +kernel, rfl, by decide +kernel, by decide +kernel⟩
def t_times (K : PySem.W.Frag) : TS := tRet (tCall (sp_lowest K) [] E0 (tCons (tOp kMul (tOp (rIxT K) (tVar 0) (tC (.int 0))) (tOp (rIxT K) (tVar 1) (tC (.int 0)))) (tCons (tOp kMul (tOp (rIxT K) (tVar 0) (tC (.int 1))) (tOp (rIxT K) (tVar 1) (tC (.int 1)))) tNil)))
theorem pure_times {K : PySem.W.Frag} {mg : Str → Option Value} (T : Txt K mg) (vs : List V) (H : Hp) (Q : VK) (E : XK) (h : sp_times K vs H Q E) : t_times K { nx := fun _ H' => Q .non H', rt := Q } (start N_times vs) H := by
  obtain ⟨v1, v2, rfl, a, b, ha, hb, fa, fb, q⟩ := h
  unfold t_times
  apply s_retc
  have m1 : CMulX a.num b.num := mulB fa.1 fb.1
  have m3 : CMulX (a.den : Int) (b.den : Int) := mulB (by rw [Int.natAbs_natCast]; exact fa.2) (by rw [Int.natAbs_natCast]; exact fb.2)
  walk_at "call"
  refine ⟨_, _, rfl, _, a.den * b.den, rfl, by rw [Int.natCast_mul], Nat.mul_pos a.den_pos b.den_pos, B1_B2 fa.2 fb.2, ?_⟩
  rw [← Rat.mul_def']
  exact q
theorem ok_times {P : Program} {w : World} {K : PySem.W.Frag} {mg : Str → Option Value} {base : Heap} (T : Txt K mg) : Okf P w K mg base 3 "times" ["one", "other"] (sp_times K) := by
  obtain ⟨fd, F0⟩ := T.c.def_ 4 (d := d_times) rfl
  have F : FnP K "times" s_times (He.ga K "times") fd := F0
  have h_lowest := ok_lowest (P := P) (w := w) (base := base) T
  refine ⟨_, fd, F.ok sc_times (fun vs H Q E h => ?_) (fun cdv A outer s H vs Q E hr h => ⟨t_times K, PSs.nox ?_, pure_times T vs H Q E h⟩), F.bindsN (fun _ _ _ _ _ _ us hl => match us, hl with | [_, _], _ => rfl), F.kp, T.glo 4 rfl⟩
  · obtain ⟨_, _, rfl, _⟩ := h
    rfl
  · exact (pss_one (ps_ret (pe_cf h_lowest hr (by decide) rfl (pa_cons (pe_op op_mulX (pe_ix ix_tup (pv 0) pe_int (fun _ _ => rfl)) (pe_ix ix_tup (pv 1) pe_int (fun _ _ => rfl))) (pa_cons (pe_op op_mulX (pe_ix ix_tup (pv 0) pe_int (fun _ _ => rfl)) (pe_ix ix_tup (pv 1) pe_int (fun _ _ => rfl))) pa_nil)))))
def sp_over (K : PySem.W.Frag) : Sp := fun vs H Q _ => ∃ v1 v2, vs = [v1, v2] ∧ ∃ q r : Rat, isP K H v1 q ∧ isP K H v2 r ∧ Fit q ∧ Fit r ∧ 0 < r ∧ ∀ v H', Same H H' → isP K H' v (q / r) → Q v H'
/-- slots: one 0, other 1 -/
abbrev N_over : List Str := ["one", "other"]
theorem sc_over : FnScope N_over ["one", "other"] (defScope s_over) := ⟨rfl, rfl, rfl, by decide +kernel, rfl, by decide +kernel, by decide +kernel⟩
def t_over (K : PySem.W.Frag) : TS := tSeq (tIfS (tTest (tOp kLt (tOp (rIxT K) (tVar 1) (tC (.int 0))) (tC (.int 1))))
  tNever
  tNext)
  (tRet (tCall (sp_lowest K) [] E0 (tCons (tOp kMul (tOp (rIxT K) (tVar 0) (tC (.int 0))) (tOp (rIxT K) (tVar 1) (tC (.int 1)))) (tCons (tOp kMul (tOp (rIxT K) (tVar 0) (tC (.int 1))) (tOp (rIxT K) (tVar 1) (tC (.int 0)))) tNil))))
theorem div_mk {a b : Rat} (h : 0 < b) : a / b = mkRat (a.num * (b.den : Int)) (a.den * b.num.toNat) := by
  have hn : 0 < b.num := by
    have h1 := Rat.num_nonneg.mpr (Rat.le_of_lt h)
    have h2 : b.num ≠ 0 := fun z => by
      have := Rat.num_eq_zero.mp z
      rw [this] at h
      exact Rat.lt_irrefl h
    omega
  have e1 : b⁻¹ = mkRat (b.den : Int) b.num.toNat := by
    rw [Rat.inv_def]
    have : b.num = (b.num.toNat : Int) := by omega
    rw [this, Rat.divInt_ofNat, Int.toNat_natCast]
  have e2 : a = mkRat a.num a.den := (Rat.mkRat_self a).symm
  rw [Rat.div_def, e1]
  conv => lhs; rw [e2]
  rw [Rat.mkRat_mul_mkRat]
theorem pure_over {K : PySem.W.Frag} {mg : Str → Option Value} (T : Txt K mg) (vs : List V) (H : Hp) (Q : VK) (E : XK) (h : sp_over K vs H Q E) : t_over K { nx := fun _ H' => Q .non H', rt := Q } (start N_over vs) H := by
  obtain ⟨v1, v2, rfl, a, b, ha, hb, fa, fb, h0, q⟩ := h
  have hn : 0 < b.num := by
    have h1 := Rat.num_nonneg.mpr (Rat.le_of_lt h0)
    have h2 : b.num ≠ 0 := fun z => by
      have := Rat.num_eq_zero.mp z
      rw [this] at h0
      exact Rat.lt_irrefl h0
    omega
  unfold t_over
  apply q_if0
  · walk_at "a"
  · intro z
    have := of_decide_eq_true z
    omega
  · intro _
    apply s_retc
    have m1 : CMulX a.num (b.den : Int) := mulB fa.1 (by rw [Int.natAbs_natCast]; exact fb.2)
    have m3 : CMulX (a.den : Int) b.num := mulB (by rw [Int.natAbs_natCast]; exact fa.2) fb.1
    walk_at "call"
    have f2 : b.num.toNat < B1 := by have := fb.1; omega
    refine ⟨_, _, rfl, _, a.den * b.num.toNat, rfl, ?_, Nat.mul_pos a.den_pos (by omega), B1_B2 fa.2 f2, ?_⟩
    · have e : ((b.num.toNat : Nat) : Int) = b.num := Int.toNat_of_nonneg (Int.le_of_lt hn)
      rw [Int.natCast_mul, e]
    · rw [← div_mk h0]
      exact q
theorem ok_over {P : Program} {w : World} {K : PySem.W.Frag} {mg : Str → Option Value} {base : Heap} (T : Txt K mg) : Okf P w K mg base 3 "over" ["one", "other"] (sp_over K) := by
  obtain ⟨fd, F0⟩ := T.c.def_ 5 (d := d_over) rfl
  have F : FnP K "over" s_over (He.ga K "over") fd := F0
  have h_lowest := ok_lowest (P := P) (w := w) (base := base) T
  refine ⟨_, fd, F.ok sc_over (fun vs H Q E h => ?_) (fun cdv A outer s H vs Q E hr h => ⟨t_over K, PSs.nox ?_, pure_over T vs H Q E h⟩), F.bindsN (fun _ _ _ _ _ _ us hl => match us, hl with | [_, _], _ => rfl), F.kp, T.glo 5 rfl⟩
  · obtain ⟨_, _, rfl, _⟩ := h
    rfl
  · exact (pss_cons (ps_if (pt_cmpR op_lt (pe_ix ix_tup (pv 1) pe_int (fun _ _ => rfl)) pe_int (nomark _))
  (pss_one ps_never)
  pss_nil)
  (pss_one (ps_ret (pe_cf h_lowest hr (by decide) rfl (pa_cons (pe_op op_mulX (pe_ix ix_tup (pv 0) pe_int (fun _ _ => rfl)) (pe_ix ix_tup (pv 1) pe_int (fun _ _ => rfl))) (pa_cons (pe_op op_mulX (pe_ix ix_tup (pv 0) pe_int (fun _ _ => rfl)) (pe_ix ix_tup (pv 1) pe_int (fun _ _ => rfl))) pa_nil))))))
def sp_below (K : PySem.W.Frag) : Sp := fun vs H Q _ => ∃ v1 v2, vs = [v1, v2] ∧ ∃ q r : Rat, isP K H v1 q ∧ isP K H v2 r ∧ Fit q ∧ Fit r ∧ Q (.bl (decide (q < r))) H
/-- slots: one 0, other 1 -/
abbrev N_below : List Str := ["one", "other"]
theorem sc_below : FnScope N_below ["one", "other"] (defScope s_below) := ⟨rfl, rfl, rfl, by decide +kernel, rfl, by decide +kernel, by decide +kernel⟩
def t_below (K : PySem.W.Frag) : TS := tRet (tOp kLt (tOp kMul (tOp (rIxT K) (tVar 0) (tC (.int 0))) (tOp (rIxT K) (tVar 1) (tC (.int 1)))) (tOp kMul (tOp (rIxT K) (tVar 1) (tC (.int 0))) (tOp (rIxT K) (tVar 0) (tC (.int 1)))))
theorem pure_below {K : PySem.W.Frag} {mg : Str → Option Value} (T : Txt K mg) (vs : List V) (H : Hp) (Q : VK) (E : XK) (h : sp_below K vs H Q E) : t_below K { nx := fun _ H' => Q .non H', rt := Q } (start N_below vs) H := by
  obtain ⟨v1, v2, rfl, a, b, ha, hb, fa, fb, q⟩ := h
  unfold t_below
  have m1 : CMulX a.num (b.den : Int) := mulB fa.1 (by rw [Int.natAbs_natCast]; exact fb.2)
  have m2 : CMulX b.num (a.den : Int) := mulB fb.1 (by rw [Int.natAbs_natCast]; exact fa.2)
  walk_at "ret"
  have e : decide (a.num * (b.den : Int) < b.num * (a.den : Int)) = decide (a < b) := decide_eq_decide.mpr (Rat.lt_iff a b).symm
  rw [e]
  exact q
theorem ok_below {P : Program} {w : World} {K : PySem.W.Frag} {mg : Str → Option Value} {base : Heap} (T : Txt K mg) : Okf P w K mg base 1 "below" ["one", "other"] (sp_below K) := by
  obtain ⟨fd, F0⟩ := T.c.def_ 6 (d := d_below) rfl
  have F : FnP K "below" s_below (He.ga K "below") fd := F0
  refine ⟨_, fd, F.ok sc_below (fun vs H Q E h => ?_) (fun cdv A outer s H vs Q E hr h => ⟨t_below K, PSs.nox ?_, pure_below T vs H Q E h⟩), F.bindsN (fun _ _ _ _ _ _ us hl => match us, hl with | [_, _], _ => rfl), F.kp, T.glo 6 rfl⟩
  · obtain ⟨_, _, rfl, _⟩ := h
    rfl
  · exact (pss_one (ps_ret (pe_cmpR op_lt (pe_op op_mulX (pe_ix ix_tup (pv 0) pe_int (fun _ _ => rfl)) (pe_ix ix_tup (pv 1) pe_int (fun _ _ => rfl))) (pe_op op_mulX (pe_ix ix_tup (pv 1) pe_int (fun _ _ => rfl)) (pe_ix ix_tup (pv 0) pe_int (fun _ _ => rfl))) (nomark _))))
def sp_lesser (K : PySem.W.Frag) : Sp := fun vs H Q _ => ∃ v1 v2, vs = [v1, v2] ∧ ∃ q r : Rat, isP K H v1 q ∧ isP K H v2 r ∧ Fit q ∧ Fit r ∧ ∀ v, isP K H v (min q r) → Q v H
/-- slots: one 0, other 1 -/
abbrev N_lesser : List Str := ["one", "other"]
theorem sc_lesser : FnScope N_lesser ["one", "other"] (defScope s_lesser) := ⟨rfl, rfl, rfl, by decide +kernel, rfl, by decide +kernel, by decide +kernel⟩
def t_lesser (K : PySem.W.Frag) : TS := tSeq (tIfS (tB (tCall (sp_below K) [] E0 (tCons (tVar 1) (tCons (tVar 0) tNil))))
  (tRet (tVar 1))
  tNext)
  (tRet (tVar 0))
theorem pure_lesser {K : PySem.W.Frag} {mg : Str → Option Value} (T : Txt K mg) (vs : List V) (H : Hp) (Q : VK) (E : XK) (h : sp_lesser K vs H Q E) : t_lesser K { nx := fun _ H' => Q .non H', rt := Q } (start N_lesser vs) H := by
  obtain ⟨v1, v2, rfl, a, b, ha, hb, fa, fb, q⟩ := h
  unfold t_lesser
  have hv : Val (tCall (sp_below K) [] E0 (tCons (tVar 1) (tCons (tVar 0) tNil))) (start N_lesser [v1, v2]) H (.bl (decide (b < a))) := fun Q k => by
    walk_at "call"
    exact ⟨_, _, rfl, b, a, hb, ha, fb, fa, k⟩
  apply q_if0
  · exact ans_val hv
  · intro z
    have e := of_decide_eq_true z
    walk_at "ret"
    refine q _ ?_
    have : min a b = b := by grind
    rw [this]
    exact hb
  · intro z
    have e := of_decide_eq_false z
    walk_at "ret"
    refine q _ ?_
    have : min a b = a := by grind
    rw [this]
    exact ha
theorem ok_lesser {P : Program} {w : World} {K : PySem.W.Frag} {mg : Str → Option Value} {base : Heap} (T : Txt K mg) : Okf P w K mg base 2 "lesser" ["one", "other"] (sp_lesser K) := by
  obtain ⟨fd, F0⟩ := T.c.def_ 7 (d := d_lesser) rfl
  have F : FnP K "lesser" s_lesser (He.ga K "lesser") fd := F0
  have h_below := ok_below (P := P) (w := w) (base := base) T
  refine ⟨_, fd, F.ok sc_lesser (fun vs H Q E h => ?_) (fun cdv A outer s H vs Q E hr h => ⟨t_lesser K, PSs.nox ?_, pure_lesser T vs H Q E h⟩), F.bindsN (fun _ _ _ _ _ _ us hl => match us, hl with | [_, _], _ => rfl), F.kp, T.glo 7 rfl⟩
  · obtain ⟨_, _, rfl, _⟩ := h
    rfl
  · exact (pss_cons (ps_if (pt_val (pe_cf h_below hr (by decide) rfl (pa_cons (pv 1) (pa_cons (pv 0) pa_nil))))
  (pss_one (ps_ret (pv 1)))
  pss_nil)
  (pss_one (ps_ret (pv 0))))
def sp_nought_row (K : PySem.W.Frag) : Sp := fun vs H Q _ => ∃ v1, vs = [v1] ∧ ∃ n : Nat, v1 = nv n ∧ n ≤ 1000 ∧ ∀ p ys H', H p = none → Same H H' → H' p = some (.lst ys) → All2 (isP K H') ys (List.replicate n 0) → Q (.ref p) H'
/-- slots: many 0, at 1 -/
abbrev N_nought_row : List Str := ["many", "at"]
theorem sc_nought_row : FnScope N_nought_row ["many"] (defScope s_nought_row) := ⟨rfl, rfl, rfl, by decide +kernel, rfl, by decide +kernel, by decide +kernel⟩
def t_nought_row (K : PySem.W.Frag) : TS := tRet (tLc (iRng1 (tCons (tVar 0) tNil)) (gName 1) tYes (tC (.ref (He.ga K "NOUGHT"))) [1])
theorem pure_nought_row {K : PySem.W.Frag} {mg : Str → Option Value} (T : Txt K mg) (vs : List V) (H : Hp) (Q : VK) (E : XK) (h : sp_nought_row K vs H Q E) : t_nought_row K { nx := fun _ H' => Q .non H', rt := Q } (start N_nought_row vs) H := by
  obtain ⟨_, rfl, n, rfl, hn, q⟩ := h
  unfold t_nought_row
  apply s_retc
  refine c_lcR (n := n) (fun _ => true) (fun _ v H' => isP K H' v 0) (fun k v H1 H2 t _ r => r.mono t) (by walk_at "v") (by omega) (fun i H' _ _ Q k => k) (fun i H' _ _ _ Q k => k _ H' (Same.refl _) (part0 T H')) ?_
  intro p ys H' hp s e a
  refine q p ys H' hp s e ?_
  refine ⟨?_, fun i v x h1 h2 => ?_⟩
  · rw [a.1, kept_all, List.length_range, List.length_replicate]
  · obtain ⟨k, hk, r⟩ := a.got h1
    have : x = 0 := List.eq_of_mem_replicate (List.mem_of_getElem? h2)
    rw [this]
    exact r
theorem ok_nought_row {P : Program} {w : World} {K : PySem.W.Frag} {mg : Str → Option Value} {base : Heap} (T : Txt K mg) : Okf P w K mg base 1 "nought_row" ["many"] (sp_nought_row K) := by
  obtain ⟨fd, F0⟩ := T.c.def_ 8 (d := d_nought_row) rfl
  have F : FnP K "nought_row" s_nought_row (He.ga K "nought_row") fd := F0
  refine ⟨_, fd, F.ok sc_nought_row (fun vs H Q E h => ?_) (fun cdv A outer s H vs Q E hr h => ⟨t_nought_row K, PSs.nox ?_, pure_nought_row T vs H Q E h⟩), F.bindsN (fun _ _ _ _ _ _ us hl => match us, hl with | [_], _ => rfl), F.kp, T.glo 8 rfl⟩
  · obtain ⟨_, rfl, _⟩ := h
    rfl
  · exact (pss_one (ps_ret (pe_lc (own := [("at", 1)]) (g := (gName 1)) (tt := tYes) rfl sc_nought_row.nd (pi_range1 (by rfl) (T.free 54 rfl) (pa_cons (pv 0) pa_nil)) (blkOk_by (own := [("at", 1)]) (N := N_nought_row) (sc := defScope s_nought_row) (by decide +kernel)) (fun _ _ _ _ _ => (pg_name (i := 1) sc_nought_row.nd rfl (by first | exact Or.inl rfl | exact Or.inr rfl))) (fun _ _ _ _ _ => pts_nil) (fun _ _ _ _ _ => (pe_glob rfl (T.glo 51 rfl) rfl)))))
/-- all heaps of m funds, in the order of making -/
def subs : Nat → List (List Nat)
  | 0 => [[]]
  | k + 1 => subs k ++ (subs k).map (· ++ [k])
theorem subs_len : ∀ m, (subs m).length = 2 ^ m
  | 0 => rfl
  | k + 1 => by
    show (subs k ++ (subs k).map (· ++ [k])).length = _
    rw [List.length_append, List.length_map, subs_len k, Nat.pow_succ]
    omega
theorem subs_head : ∀ m, (subs m)[0]? = some []
  | 0 => rfl
  | k + 1 => by
    show (subs k ++ (subs k).map (· ++ [k]))[0]? = _
    rw [List.getElem?_append_left (by rw [subs_len]; exact Nat.two_pow_pos k)]
    exact subs_head k
theorem subs_lt : ∀ {m : Nat} {h : List Nat}, h ∈ subs m → (∀ p ∈ h, p < m) ∧ h.Nodup
  | 0, h, hm => by
    have : h = [] := by simpa [subs] using hm
    subst this
    exact ⟨fun p hp => (nomatch hp), List.nodup_nil⟩
  | k + 1, h, hm => by
    rcases List.mem_append.mp (show h ∈ subs k ++ (subs k).map (· ++ [k]) from hm) with z | z
    · obtain ⟨a, b⟩ := subs_lt z
      exact ⟨fun p hp => Nat.lt_succ_of_lt (a p hp), b⟩
    · obtain ⟨g, hg, rfl⟩ := List.mem_map.mp z
      obtain ⟨a, b⟩ := subs_lt hg
      refine ⟨fun p hp => ?_, ?_⟩
      · rcases List.mem_append.mp hp with q | q
        · exact Nat.lt_succ_of_lt (a p q)
        · have : p = k := by simpa using q
          omega
      · rw [List.nodup_append]
        refine ⟨b, by simp, fun x hx y hy => ?_⟩
        have : y = k := by simpa using hy
        have := a x hx
        omega
theorem subs_all (P : Hs) : ∀ m, ∃ h ∈ subs m, ∀ f, f ∈ h ↔ f < m ∧ P f = true
  | 0 => ⟨[], by simp [subs], fun f => by simp⟩
  | k + 1 => by
    obtain ⟨h, hm, e⟩ := subs_all P k
    by_cases c : P k = true
    · refine ⟨h ++ [k], List.mem_append_right _ (List.mem_map.mpr ⟨h, hm, rfl⟩), fun f => ?_⟩
      rw [List.mem_append, e f, List.mem_singleton]
      constructor
      · rintro (⟨a, b⟩ | rfl)
        · exact ⟨by omega, b⟩
        · exact ⟨by omega, c⟩
      · rintro ⟨a, b⟩
        by_cases z : f = k
        · exact .inr z
        · exact .inl ⟨by omega, b⟩
    · refine ⟨h, List.mem_append_left _ hm, fun f => ?_⟩
      rw [e f]
      constructor
      · rintro ⟨a, b⟩
        exact ⟨by omega, b⟩
      · rintro ⟨a, b⟩
        refine ⟨?_, b⟩
        by_cases z : f = k
        · rw [z] at b
          exact absurd b c
        · omega
def sp_heaps (K : PySem.W.Frag) : Sp := fun vs H Q _ => ∃ v1, vs = [v1] ∧ ∃ m : Nat, v1 = nv m ∧ m ≤ 6 ∧ ∀ p ys L H', H p = none → Same H H' → H' p = some (.lst ys) → L.Perm (subs m) → All2 (isH K H') ys L → Q (.ref p) H'
theorem heapOk_of {ws : List Int} {h : List Nat} {L : List (List Nat)} (p : L.Perm (subs ws.length)) (hm : h ∈ L) : HeapOk ws h := by
  obtain ⟨a, b⟩ := subs_lt (p.mem_iff.mp hm)
  exact ⟨b, a⟩
/-- slots: many 0, found 1, place 2, longer 3, heap 4 -/
abbrev N_heaps : List Str := ["many", "found", "place", "longer", "heap"]
theorem sc_heaps : FnScope N_heaps ["many"] (defScope s_heaps) := ⟨rfl, rfl, rfl, by decide +kernel, rfl, by decide +kernel, by decide +kernel⟩
def t_heaps (K : PySem.W.Frag) : TS := tSeq (tAsg (tLst (tCons (tTup tNil) tNil)) (gName 1))
  (tSeq (tFor (iRng1 (tCons (tVar 0) tNil)) (gName 2)
  (tSeq (tAsg (tLc (iList K (tVar 1)) (gName 4) tYes (tOp (rCatA K) (tVar 4) (tTup (tCons (tVar 2) tNil))) [4]) (gName 3))
  (tAsg (tOp rCat (tVar 1) (tVar 3)) (gName 1))))
  (tRet (tCB (rSortH K) (tCons (tVar 1) tNil))))
/-- a tracked tuple of places -/
def tH (H : Hp) (v : V) (h : List Nat) : Prop := ∃ t, v = .ref t ∧ H t = some (.tup (h.map nv))
theorem tH.mono {H H' : Hp} {v : V} {h : List Nat} (k : TK H H') (x : tH H v h) : tH H' v h := let ⟨t, e, g⟩ := x; ⟨t, e, k.1 _ _ g⟩
def nat_of : V → Nat
  | .int i => i.toNat
  | _ => 0
def heap_of (H : Hp) : V → List Nat
  | .ref t => (match H t with
    | some (.tup xs) => xs.map nat_of
    | _ => [])
  | _ => []
theorem heap_of_eq {H : Hp} {v : V} {h : List Nat} (x : tH H v h) : heap_of H v = h := by
  obtain ⟨t, rfl, g⟩ := x
  unfold heap_of
  simp only [g]
  rw [List.map_map]
  have e : (nat_of ∘ nv) = id := by
    funext p
    show ((p : Int)).toNat = p
    exact Int.toNat_natCast p
  rw [e, List.map_id]
theorem pure_heaps {K : PySem.W.Frag} {mg : Str → Option Value} (T : Txt K mg) (vs : List V) (H : Hp) (Q : VK) (E : XK) (h : sp_heaps K vs H Q E) : t_heaps K { nx := fun _ H' => Q .non H', rt := Q } (start N_heaps vs) H := by
  obtain ⟨_, rfl, m, rfl, hm, q⟩ := h
  unfold t_heaps
  apply q_asg
  refine ⟨Nat.zero_le _, fun t ht => ⟨by show 1 ≤ sizeLine; decide, fun p hp => ?_⟩⟩
  have s1 : Same H (upd H t (.tup [])) := same_new ht
  have s2 : Same (upd H t (.tup [])) (upd (upd H t (.tup [])) p (.lst [V.ref t])) := same_new hp
  refine q_forR (n := m) (fun i σ H' => Same H H' ∧ ∃ (p : Addr) (ys : List V) (y2 y3 y4 : Option V), σ = [some (nv m), some (.ref p), y2, y3, y4] ∧ H p = none ∧ H' p = some (.lst ys) ∧ All2 (tH H') ys (subs i)) (val_var rfl) (by omega) ?_ ?_ ?_
  · refine ⟨s1.trans s2, p, _, none, none, none, rfl, s1.free hp, upd_same, ?_⟩
    refine All2.nil.cons ⟨t, rfl, ?_⟩
    exact s2 _ _ upd_same
  · rintro i σ H' hi ⟨s, p', ys, y2, y3, y4, rfl, hp', e, al⟩
    have hlen : ys.length < 50000 := by
      rw [al.1, subs_len]
      have : 2 ^ i ≤ 2 ^ 6 := Nat.pow_le_pow_right (by decide) (by omega)
      omega
    have hlen2 : ys.length ≤ 100 := by
      rw [al.1, subs_len]
      have : 2 ^ i ≤ 2 ^ 6 := Nat.pow_le_pow_right (by decide) (by omega)
      omega
    apply q_asg
    refine c_lcL (fun _ => true) (fun k v H2 => tH H2 v ((subs i).getD k [] ++ [i])) (fun k v H1 H2 t _ r => r.mono t) (val_var rfl) (SqL.of e) hlen (fun k x H2 _ _ Q k => k) (fun k x H2 hx s2 _ => ?_) ?_
    · obtain ⟨g, hg, tx, rfl, ht⟩ := al.got hx
      have ht2 := s2 _ _ ht
      rw [getD_of hg]
      intro Q' q'
      show (tOp (rCatA K) _ _) _ _ _
      refine (val_var rfl : Val (tVar _) _ H2 (.ref tx)) _ ?_
      apply c_tup1
      · exact val_var rfl
      · intro p2 hp2
        have s3 := same_new (o := .tup [nv i]) hp2
        have hlg : g.length ≤ 100 := by
          have hmem : g ∈ subs i := List.mem_of_getElem? hg
          have := subs_lt hmem
          have h3 : g.length ≤ i := by
            have h4 := List.Nodup.length_le_of_subset this.2 (l₂ := List.range i) (fun x hx => List.mem_range.mpr (this.1 x hx))
            rwa [List.length_range] at h4
          omega
        refine ⟨tx, p2, g.map nv, [nv i], rfl, rfl, SqT.of (s3 _ _ ht2), SqT.of upd_same, ?_, fun z => ?_, fun _ z => (nomatch z), fun z _ p3 hp3 => ?_⟩
        · rw [List.length_map]
          exact Nat.le_trans (show g.length + 1 ≤ 101 by omega) (by decide)
        · refine q' _ _ s3 ⟨p2, rfl, ?_⟩
          have : g = [] := List.map_eq_nil_iff.mp z
          subst this
          exact upd_same
        · refine q' _ _ (s3.trans (same_new hp3)) ⟨p3, rfl, ?_⟩
          rw [List.map_append]
          exact upd_same
    · intro p2 zs H2 hp2 s2 e2 al2
      rw [kept_all] at al2
      have alz : All2 (tH H2) zs ((subs i).map (· ++ [i])) := by
        refine ⟨by rw [al2.1, List.length_range, List.length_map, al.1], fun k v x h1 h2 => ?_⟩
        obtain ⟨j, hj, r⟩ := al2.got h1
        have hk : k < (subs i).length := by
          have := (List.getElem?_eq_some_iff.mp h2).1
          rwa [List.length_map] at this
        rw [List.getElem?_range (by rw [al.1]; exact hk)] at hj
        cases hj
        rw [List.getElem?_map, List.getElem?_eq_getElem hk] at h2
        cases h2
        rwa [getD_of (List.getElem?_eq_getElem hk)] at r
      apply s_asg
      refine (val_var rfl : Val (tVar 1) _ H2 (.ref p')) _ ((val_var rfl : Val (tVar 3) _ H2 (.ref p2)) _ ?_)
      have hz : zs.length = ys.length := by rw [al2.1, List.length_range]
      refine ⟨p', p2, ys, zs, rfl, rfl, s2 _ _ e, e2, Nat.le_trans (show ys.length + zs.length ≤ 200 by omega) (by decide), fun p3 hp3 => ?_⟩
      have s3 := same_new (o := .lst (ys ++ zs)) hp3
      have s03 := (s.trans s2).trans s3
      refine ⟨s03, p3, ys ++ zs, _, _, _, rfl, (s.trans s2).free hp3, upd_same, ?_⟩
      exact (al.mono fun v x r => r.mono (tk_of (s2.trans s3))).append (alz.mono fun v x r => r.mono (tk_of s3))
  · rintro σ H' ⟨s, p', ys, y2, y3, y4, rfl, hp', e, al⟩
    apply s_retc
    apply c_cb1
    refine (val_var rfl : Val (tVar 1) _ H' (.ref p')) _ ?_
    have h0 := subs_head m
    obtain ⟨x, ex, tx⟩ := al.get h0
    obtain ⟨y, ys', rfl⟩ : ∃ y ys', ys = y :: ys' := by
      cases ys with
      | nil => cases ex
      | cons y ys' => exact ⟨y, ys', rfl⟩
    have exy : y = x := Option.some.inj ex
    subst exy
    refine ⟨p', y, ys', fun v => (heap_of H' v).map fun (p : Nat) => (p : Int), rfl, SqL.of e, fun u hu => ?_, ?_, fun zs p2 pm hp2 => ?_⟩
    · obtain ⟨k, hk⟩ := List.getElem?_of_mem hu
      obtain ⟨g, _, r⟩ := al.got hk
      have e2 := heap_of_eq r
      obtain ⟨t2, rfl, g2⟩ := r
      refine ⟨t2, rfl, ?_⟩
      show H' t2 = some (.tup (((heap_of H' (V.ref t2)).map fun (p : Nat) => (p : Int)).map V.int))
      rw [e2, List.map_map]
      exact g2
    · show (heap_of H' y).map _ = []
      rw [heap_of_eq tx]
      rfl
    · have s2 := same_new (o := .lst zs) hp2
      refine q p2 zs (zs.map (heap_of H')) _ (s.free hp2) (s.trans s2) upd_same ?_ ?_
      · have e3 : (y :: ys').map (heap_of H') = subs m := by
          refine List.ext_getElem? fun k => ?_
          by_cases hk : k < (subs m).length
          · obtain ⟨v, ev, rv⟩ := al.get (List.getElem?_eq_getElem hk)
            rw [List.getElem?_map, ev, List.getElem?_eq_getElem hk]
            show some (heap_of H' v) = _
            rw [heap_of_eq rv]
          · rw [List.getElem?_eq_none (by rw [List.length_map, al.1]; omega), List.getElem?_eq_none (by omega)]
        rw [← e3]
        exact pm.map _
      · refine ⟨by rw [List.length_map], fun k v g h1 h2 => ?_⟩
        rw [List.getElem?_map, h1] at h2
        cases h2
        have hv : v ∈ y :: ys' := pm.mem_iff.mp (List.mem_of_getElem? h1)
        obtain ⟨j, hj⟩ := List.getElem?_of_mem hv
        obtain ⟨g, _, r⟩ := al.got hj
        rw [heap_of_eq r]
        obtain ⟨t2, rfl, g2⟩ := r
        exact ⟨t2, rfl, SqT.of (s2 _ _ g2)⟩
theorem ok_heaps {P : Program} {w : World} {K : PySem.W.Frag} {mg : Str → Option Value} {base : Heap} (T : Txt K mg) : Okf P w K mg base 1 "heaps" ["many"] (sp_heaps K) := by
  obtain ⟨fd, F0⟩ := T.c.def_ 9 (d := d_heaps) rfl
  have F : FnP K "heaps" s_heaps (He.ga K "heaps") fd := F0
  refine ⟨_, fd, F.ok sc_heaps (fun vs H Q E h => ?_) (fun cdv A outer s H vs Q E hr h => ⟨t_heaps K, PSs.nox ?_, pure_heaps T vs H Q E h⟩), F.bindsN (fun _ _ _ _ _ _ us hl => match us, hl with | [_], _ => rfl), F.kp, T.glo 9 rfl⟩
  · obtain ⟨_, rfl, _⟩ := h
    rfl
  · exact (pss_cons (ps_set (i := 1) sc_heaps.nd rfl (by first | exact Or.inl rfl | exact Or.inr rfl) (pe_lst (pa_cons (pe_tup pa_nil) pa_nil)))
  (pss_cons (ps_for PassesOwn.never rfl (pi_range1 (by rfl) (T.free 54 rfl) (pa_cons (pv 0) pa_nil)) (pg_name (i := 2) sc_heaps.nd rfl (by first | exact Or.inl rfl | exact Or.inr rfl))
  (pss_cons (ps_setLc (i := 3) (own := [("heap", 4)]) (g := (gName 4)) (tt := tYes) rfl sc_heaps.nd rfl rfl (sw_true rfl rfl rfl (by decide +kernel)) (pi_list (pv 1)) (blkOk_by (own := [("heap", 4)]) (N := N_heaps) (sc := defScope s_heaps) (by decide +kernel)) (fun _ _ _ _ _ => (pg_name (i := 4) sc_heaps.nd rfl (by first | exact Or.inl rfl | exact Or.inr rfl))) (fun _ _ _ _ _ => pts_nil) (fun _ _ _ _ _ => (pe_op op_catA (pv 4) (pe_tup (pa_cons (pv 2) pa_nil)))))
  (pss_one (ps_set (i := 1) sc_heaps.nd rfl (by first | exact Or.inl rfl | exact Or.inr rfl) (pe_op op_cat (pv 1) (pv 3))))))
  (pss_one (ps_ret (pe_callB (cr_sortH hr.units) (by rfl) (T.free 55 rfl) (by decide +kernel) (pa_cons (pv 1) pa_nil))))))
def sp_within (K : PySem.W.Frag) : Sp := fun vs H Q _ => ∃ v1 v2, vs = [v1, v2] ∧ ∃ t h : List Nat, isH K H v1 t ∧ isH K H v2 h ∧ Q (.bl (inn t (hs h))) H
/-- slots: touched 0, heap 1, place 2 -/
abbrev N_within : List Str := ["touched", "heap", "place"]
theorem sc_within : FnScope N_within ["touched", "heap"] (defScope s_within) := ⟨rfl, rfl, rfl, by decide +kernel, rfl, by decide +kernel, by decide +kernel⟩
def t_within (K : PySem.W.Frag) : TS := tSeq (tFor (iTup K (tVar 0)) (gName 2)
  (tIfS (tTest (tOp (rIn K true) (tVar 2) (tVar 1)))
  (tRet (tC (.bl false)))
  tNext))
  (tRet (tC (.bl true)))
theorem pure_within {K : PySem.W.Frag} {mg : Str → Option Value} (T : Txt K mg) (vs : List V) (H : Hp) (Q : VK) (E : XK) (h : sp_within K vs H Q E) : t_within K { nx := fun _ H' => Q .non H', rt := Q } (start N_within vs) H := by
  obtain ⟨v1, v2, rfl, t, h, ⟨a, rfl, ha⟩, ⟨b, rfl, hb⟩, q⟩ := h
  unfold t_within
  refine q_forT (fun i σ H' => H' = H ∧ (∃ y, σ = [some (.ref a), some (.ref b), y]) ∧ (t.take i).all (hs h) = true) (val_var rfl) ha ⟨rfl, ⟨_, rfl⟩, rfl⟩ (fun i σ H' _ p => by rw [p.1]; exact ha) ?_ ?_
  · rintro i x σ H' hx ⟨rfl, ⟨y, rfl⟩, al⟩
    obtain ⟨p, hp, rfl⟩ := map_at hx
    apply s_if0
    · apply ans_vt
      exact v_ninT (p := p) (h := h) (val_var rfl) (val_var rfl) hb
    · intro z
      walk_at "ret"
      have e : inn t (hs h) = false := by
        refine Bool.eq_false_iff.mpr fun c => ?_
        have := inn_iff.mp c p (List.mem_of_getElem? hp)
        unfold hs at this
        rw [this] at z
        cases z
      rw [e] at q
      exact q
    · intro z
      refine ⟨rfl, ⟨_, rfl⟩, ?_⟩
      rw [List.take_add_one, hp, List.all_append, al]
      have : hs h p = true := by
        unfold hs
        cases c : decide (p ∈ h) with
        | true => rfl
        | false => rw [c] at z; cases z
      simp [this]
  · rintro σ H' ⟨rfl, ⟨y, rfl⟩, al⟩
    walk_at "ret"
    rw [List.length_map, List.take_length] at al
    have e : inn t (hs h) = true := al
    rw [e] at q
    exact q
theorem ok_within {P : Program} {w : World} {K : PySem.W.Frag} {mg : Str → Option Value} {base : Heap} (T : Txt K mg) : Okf P w K mg base 1 "within" ["touched", "heap"] (sp_within K) := by
  obtain ⟨fd, F0⟩ := T.c.def_ 10 (d := d_within) rfl
  have F : FnP K "within" s_within (He.ga K "within") fd := F0
  refine ⟨_, fd, F.ok sc_within (fun vs H Q E h => ?_) (fun cdv A outer s H vs Q E hr h => ⟨t_within K, PSs.nox ?_, pure_within T vs H Q E h⟩), F.bindsN (fun _ _ _ _ _ _ us hl => match us, hl with | [_, _], _ => rfl), F.kp, T.glo 10 rfl⟩
  · obtain ⟨_, _, rfl, _⟩ := h
    rfl
  · exact (pss_cons (ps_for PassesOwn.never rfl (pi_tup (pv 0)) (pg_name (i := 2) sc_within.nd rfl (by first | exact Or.inl rfl | exact Or.inr rfl))
  (pss_one (ps_if (pt_cmpR op_notIn_seq (pv 2) (pv 1) (by rfl))
  (pss_one (ps_ret pe_bl))
  pss_nil)))
  (pss_one (ps_ret pe_bl)))
def sp_heap_worth (K : PySem.W.Frag) : Sp := fun vs H Q _ => ∃ v1 v2, vs = [v1, v2] ∧ ∃ (ws : List Int) (h : List Nat), isLI K H v1 ws ∧ isH K H v2 h ∧ (∀ p ∈ h, p < ws.length) ∧ h.length ≤ 1000 ∧ ∀ H', Same H H' → Q (.int (wsum ws h)) H'
/-- slots: worths 0, heap 1, place 2 -/
abbrev N_heap_worth : List Str := ["worths", "heap", "place"]
theorem sc_heap_worth : FnScope N_heap_worth ["worths", "heap"] (defScope s_heap_worth) := ⟨rfl, rfl, rfl, by decide +kernel, rfl, by decide +kernel, by decide +kernel⟩
def t_heap_worth (K : PySem.W.Frag) : TS := tRet (tCB (rSum K) (tCons (tLc (iTup K (tVar 1)) (gName 2) tYes (tOp (rIxL K) (tVar 0) (tVar 2)) [2]) tNil))
theorem pure_heap_worth {K : PySem.W.Frag} {mg : Str → Option Value} (T : Txt K mg) (vs : List V) (H : Hp) (Q : VK) (E : XK) (h : sp_heap_worth K vs H Q E) : t_heap_worth K { nx := fun _ H' => Q .non H', rt := Q } (start N_heap_worth vs) H := by
  obtain ⟨v1, v2, rfl, ws, h, ⟨a, rfl, ha⟩, ⟨b, rfl, hb⟩, hp, hl, q⟩ := h
  unfold t_heap_worth
  apply s_retc
  apply c_cb1
  refine c_lcT (fun _ => true) (fun i v _ => v = V.int (ws.getD (h.getD i 0) 0)) hR_val (val_var rfl) hb (by rw [List.length_map]; omega) (fun i x H' _ _ Q k => k) (fun i x H' hx s _ => ?_) ?_
  · obtain ⟨p, e, rfl⟩ := map_at hx
    have hp' := hp p (List.mem_of_getElem? e)
    have ha' : SqL K H' a (ws.map V.int) := s.seq ha
    have e2 := int_at hp'
    have e3 : h.getD i 0 = p := by rw [List.getD_eq_getElem?_getD, e]; rfl
    rw [e3]
    apply EvR.val
    exact v_ixL (val_var rfl) (val_var rfl) ha' e2
  · intro p ys H' hp1 s e al
    have e4 := al.map_eq (f := fun i => V.int (ws.getD (h.getD i 0) 0))
    rw [kept_all, List.length_map] at e4
    have e5 : ys = (h.map fun p => ws.getD p 0).map V.int := by rw [e4, map_range_getD (fun p => V.int (ws.getD p 0)) h 0, List.map_map]; rfl
    refine ⟨p, h.map fun p => ws.getD p 0, rfl, ?_, q H' s⟩
    rw [← e5]
    exact SqL.of e
theorem ok_heap_worth {P : Program} {w : World} {K : PySem.W.Frag} {mg : Str → Option Value} {base : Heap} (T : Txt K mg) : Okf P w K mg base 1 "heap_worth" ["worths", "heap"] (sp_heap_worth K) := by
  obtain ⟨fd, F0⟩ := T.c.def_ 11 (d := d_heap_worth) rfl
  have F : FnP K "heap_worth" s_heap_worth (He.ga K "heap_worth") fd := F0
  refine ⟨_, fd, F.ok sc_heap_worth (fun vs H Q E h => ?_) (fun cdv A outer s H vs Q E hr h => ⟨t_heap_worth K, PSs.nox ?_, pure_heap_worth T vs H Q E h⟩), F.bindsN (fun _ _ _ _ _ _ us hl => match us, hl with | [_, _], _ => rfl), F.kp, T.glo 11 rfl⟩
  · obtain ⟨_, _, rfl, _⟩ := h
    rfl
  · exact (pss_one (ps_ret (pe_callB (cr_sum rfl) (by rfl) (T.free 56 rfl) (by decide +kernel) (pa_cons (pe_lc (own := [("place", 2)]) (g := (gName 2)) (tt := tYes) rfl sc_heap_worth.nd (pi_tup (pv 1)) (blkOk_by (own := [("place", 2)]) (N := N_heap_worth) (sc := defScope s_heap_worth) (by decide +kernel)) (fun _ _ _ _ _ => (pg_name (i := 2) sc_heap_worth.nd rfl (by first | exact Or.inl rfl | exact Or.inr rfl))) (fun _ _ _ _ _ => pts_nil) (fun _ _ _ _ _ => (pe_ix ix_list (pv 0) (pv 2) (fun _ _ => rfl)))) pa_nil))))
def sp_places_within (K : PySem.W.Frag) : Sp := fun vs H Q _ => ∃ v1 v2, vs = [v1, v2] ∧ ∃ (cs : List Cl) (h : List Nat), isL K H (isC K H) v1 cs ∧ isH K H v2 h ∧ cs.length ≤ 1000 ∧
  ∀ p H', H p = none → Same H H' → H' p = some (.lst ((kept cs.length (win cs h)).map nv)) → Q (.ref p) H'
/-- slots: claims 0, heap 1, at 2 -/
abbrev N_places_within : List Str := ["claims", "heap", "at"]
theorem sc_places_within : FnScope N_places_within ["claims", "heap"] (defScope s_places_within) := ⟨rfl, rfl, rfl, by decide +kernel, rfl, by decide +kernel, by decide +kernel⟩
def t_places_within (K : PySem.W.Frag) : TS := tRet (tLc (iRng1 (tCons (tCB (kLen K) (tCons (tVar 0) tNil)) tNil)) (gName 2) (tB (tCall (sp_within K) [] E0 (tCons (tOp (rIxT K) (tOp (rIxL K) (tVar 0) (tVar 2)) (tC (.int 1))) (tCons (tVar 1) tNil)))) (tVar 2) [2])
theorem pure_places_within {K : PySem.W.Frag} {mg : Str → Option Value} (T : Txt K mg) (vs : List V) (H : Hp) (Q : VK) (E : XK) (h : sp_places_within K vs H Q E) : t_places_within K { nx := fun _ H' => Q .non H', rt := Q } (start N_places_within vs) H := by
  obtain ⟨v1, v2, rfl, cs, h, ⟨a, xs, rfl, ha, al⟩, hb, hl, q⟩ := h
  unfold t_places_within
  apply s_retc
  have el : (xs.length : Int) = (cs.length : Int) := by rw [al.1]
  refine c_lcR (n := cs.length) (win cs h) (fun i v _ => v = nv i) hR_val (by rw [← el]; exact v_lenL (val_var rfl) ha) (by omega) (fun i H' hi s => ?_) (fun i H' _ _ _ => EvR.val (val_var rfl)) ?_
  · obtain ⟨v, ev, d, t, u, rfl, hT, hd, ht⟩ := al.get (List.getElem?_eq_getElem hi)
    have k := tk_of s
    have ha' : SqL K H' a xs := s.seq ha
    apply ans_val
    intro Q' q'
    apply c_call2
    · exact v_ixT (j := 1) (v_ixL (val_var rfl) (val_var rfl) ha' ev) val_c (k.sq hT) rfl
    · exact val_var rfl
    · refine ⟨_, _, rfl, _, h, ht.mono k, hb.mono k, ?_⟩
      have e : win cs h i = inn cs[i].tou (hs h) := by
        unfold win
        rw [getD_of (List.getElem?_eq_getElem hi)]
      rw [← e]
      exact q'
  · intro p ys H' hp s e al2
    have e4 := All2.map_eq (f := nv) al2
    rw [e4] at e
    exact q p H' hp s e
theorem ok_places_within {P : Program} {w : World} {K : PySem.W.Frag} {mg : Str → Option Value} {base : Heap} (T : Txt K mg) : Okf P w K mg base 2 "places_within" ["claims", "heap"] (sp_places_within K) := by
  obtain ⟨fd, F0⟩ := T.c.def_ 12 (d := d_places_within) rfl
  have F : FnP K "places_within" s_places_within (He.ga K "places_within") fd := F0
  have h_within := ok_within (P := P) (w := w) (base := base) T
  refine ⟨_, fd, F.ok sc_places_within (fun vs H Q E h => ?_) (fun cdv A outer s H vs Q E hr h => ⟨t_places_within K, PSs.nox ?_, pure_places_within T vs H Q E h⟩), F.bindsN (fun _ _ _ _ _ _ us hl => match us, hl with | [_, _], _ => rfl), F.kp, T.glo 12 rfl⟩
  · obtain ⟨_, _, rfl, _⟩ := h
    rfl
  · exact (pss_one (ps_ret (pe_lc (own := [("at", 2)]) (g := (gName 2)) (tt := (tB (tCall (sp_within K) [] E0 (tCons (tOp (rIxT K) (tOp (rIxL K) (tVar 0) (tVar 2)) (tC (.int 1))) (tCons (tVar 1) tNil))))) rfl sc_places_within.nd (pi_range1 (by rfl) (T.free 54 rfl) (pa_cons (pe_callB call_len_seq (by rfl) (T.free 57 rfl) PySem.boot_len (pa_cons (pv 0) pa_nil)) pa_nil)) (blkOk_by (own := [("at", 2)]) (N := N_places_within) (sc := defScope s_places_within) (by decide +kernel)) (fun _ _ _ _ _ => (pg_name (i := 2) sc_places_within.nd rfl (by first | exact Or.inl rfl | exact Or.inr rfl))) (fun _ _ _ _ _ => (pts_one (pt_val (pe_cf h_within hr (by decide) rfl (pa_cons (pe_ix ix_tup (pe_ix ix_list (pv 0) (pv 2) (fun _ _ => rfl)) pe_int (fun _ _ => rfl)) (pa_cons (pv 1) pa_nil)))))) (fun _ _ _ _ _ => (pv 2)))))
def sp_load_of (K : PySem.W.Frag) : Sp := fun vs H Q _ => ∃ v1 v2 v3, vs = [v1, v2, v3] ∧ ∃ (ws : List Int) (cs : List Cl) (ps : List Rat) (h : List Nat) (N V : Nat), isL K H (isC K H) v1 cs ∧ isL K H (isP K H) v2 ps ∧ isH K H v3 h ∧ RowOk ws cs ps N V ∧
  ∀ v H', Same H H' → isP K H' v ((csOf ws cs).load (pf ps) (hs h)) → Q v H'
/-- slots: claims 0, parts 1, heap 2, found 3, at 4 -/
abbrev N_load_of : List Str := ["claims", "parts", "heap", "found", "at"]
theorem sc_load_of : FnScope N_load_of ["claims", "parts", "heap"] (defScope s_load_of) := ⟨rfl, rfl, rfl, by decide +kernel, rfl, by decide +kernel, by decide +kernel⟩
def t_load_of (K : PySem.W.Frag) : TS := tSeq (tAsg (tC (.ref (He.ga K "NOUGHT"))) (gName 3))
  (tSeq (tFor (iList K (tCall (sp_places_within K) [] E0 (tCons (tVar 0) (tCons (tVar 2) tNil)))) (gName 4)
  (tAsg (tCall (sp_plus K) [] E0 (tCons (tVar 3) (tCons (tOp (rIxL K) (tVar 1) (tVar 4)) tNil))) (gName 3)))
  (tRet (tVar 3)))
theorem load_eq (ws : List Int) (cs : List Cl) (ps : List Rat) (h : List Nat) : (csOf ws cs).load (pf ps) (hs h) = ((kept cs.length (win cs h)).map (pf ps)).sum := by
  rw [kept_sum]
  rfl
theorem pure_load_of {K : PySem.W.Frag} {mg : Str → Option Value} (T : Txt K mg) (vs : List V) (H : Hp) (Q : VK) (E : XK) (h : sp_load_of K vs H Q E) : t_load_of K { nx := fun _ H' => Q .non H', rt := Q } (start N_load_of vs) H := by
  obtain ⟨v1, v2, v3, rfl, ws, cs, ps, h, N, V, hC, hP, hH, r, q⟩ := h
  obtain ⟨b, pv, rfl, hb, al⟩ := id hP
  unfold t_load_of
  walk_at "set"
  apply q_forC
  apply c_call2
  · exact val_var rfl
  · exact val_var rfl
  refine ⟨_, _, rfl, cs, h, hC, hH, by have := r.n16; omega, fun p H1 hp s1 e1 => ?_⟩
  let l := (kept cs.length (win cs h)).map (pf ps)
  have hl0 : ∀ x ∈ l, 0 ≤ x := fun x hx => by
    obtain ⟨i, hi, rfl⟩ := List.mem_map.mp hx
    exact r.p0 i (kept_mem.mp hi).1
  have hlz : ∀ x ∈ l, Iz x N := fun x hx => by
    obtain ⟨i, hi, rfl⟩ := List.mem_map.mp hx
    exact r.iz i (kept_mem.mp hi).1
  have hls : l.sum ≤ (V : Rat) := by
    show ((kept cs.length (win cs h)).map (pf ps)).sum ≤ _
    rw [kept_sum]
    exact Rat.le_trans (part_sum_le r.p0) r.sumP
  have fits : ∀ i, Fit (l.take i).sum := fun i => fit_nn r.bd (Iz.sum fun x hx => hlz x (List.mem_of_mem_take hx)) (sum_take_ge hl0).1 (Rat.le_trans (sum_take_ge hl0).2 hls)
  refine forG_inq (xs := (kept cs.length (win cs h)).map nv) (fun i σ H' => Same H H' ∧ SqL K H' p ((kept cs.length (win cs h)).map nv) ∧ ∃ f y, σ = [some v1, some (.ref b), some v3, some f, y] ∧ isP K H' f (l.take i).sum) (SqL.of e1) ⟨s1, SqL.of e1, _, _, rfl, part0 T H1⟩ (fun i σ H' _ z => z.2.1) ?_ ?_
  · rintro i x σ H' hx ⟨s, hq, f, y, rfl, hf⟩
    obtain ⟨j, hj, rfl⟩ := map_at hx
    have hjn := (kept_mem.mp (List.mem_of_getElem? hj)).1
    have hlj : l[i]? = some (pf ps j) := by
      show ((kept cs.length (win cs h)).map (pf ps))[i]? = _
      rw [List.getElem?_map, hj]
      rfl
    obtain ⟨pj, ej, hpj⟩ := al.get (at_of_getD (d := 0) (show j < ps.length by rw [r.len]; exact hjn))
    have hb' : SqL K H' b pv := s.seq hb
    apply s_asg
    apply c_call2
    · exact val_var rfl
    · exact v_ixL (val_var rfl) (val_var rfl) hb' ej
    · refine ⟨_, _, rfl, _, pf ps j, hf, hpj.mono (tk_of s), fits i, r.fit hjn, fun v H2 s2 hv => ⟨s.trans s2, s2.seq hq, v, _, rfl, ?_⟩⟩
      rw [sum_take_succ hlj]
      exact hv
  · rintro σ H' ⟨s, hq, f, y, rfl, hf⟩
    walk_at "ret"
    refine q _ _ s ?_
    rw [load_eq]
    have : l.take ((kept cs.length (win cs h)).map nv).length = l := List.take_of_length_le (by simp [l])
    rw [this] at hf
    exact hf
theorem ok_load_of {P : Program} {w : World} {K : PySem.W.Frag} {mg : Str → Option Value} {base : Heap} (T : Txt K mg) : Okf P w K mg base 4 "load_of" ["claims", "parts", "heap"] (sp_load_of K) := by
  obtain ⟨fd, F0⟩ := T.c.def_ 13 (d := d_load_of) rfl
  have F : FnP K "load_of" s_load_of (He.ga K "load_of") fd := F0
  have h_places_within := ok_places_within (P := P) (w := w) (base := base) T
  have h_plus := ok_plus (P := P) (w := w) (base := base) T
  refine ⟨_, fd, F.ok sc_load_of (fun vs H Q E h => ?_) (fun cdv A outer s H vs Q E hr h => ⟨t_load_of K, PSs.nox ?_, pure_load_of T vs H Q E h⟩), F.bindsN (fun _ _ _ _ _ _ us hl => match us, hl with | [_, _, _], _ => rfl), F.kp, T.glo 13 rfl⟩
  · obtain ⟨_, _, _, rfl, _⟩ := h
    rfl
  · exact (pss_cons (ps_set (i := 3) sc_load_of.nd rfl (by first | exact Or.inl rfl | exact Or.inr rfl) (pe_glob rfl (T.glo 51 rfl) rfl))
  (pss_cons (ps_for PassesOwn.never rfl (pi_list (pe_cf h_places_within hr (by decide) rfl (pa_cons (pv 0) (pa_cons (pv 2) pa_nil)))) (pg_name (i := 4) sc_load_of.nd rfl (by first | exact Or.inl rfl | exact Or.inr rfl))
  (pss_one (ps_set (i := 3) sc_load_of.nd rfl (by first | exact Or.inl rfl | exact Or.inr rfl) (pe_cf h_plus hr (by decide) rfl (pa_cons (pv 3) (pa_cons (pe_ix ix_list (pv 1) (pv 4) (fun _ _ => rfl)) pa_nil))))))
  (pss_one (ps_ret (pv 3)))))
def sp_over_its_worth (K : PySem.W.Frag) : Sp := fun vs H Q _ => ∃ v1 v2 v3 v4, vs = [v1, v2, v3, v4] ∧ ∃ (ws : List Int) (cs : List Cl) (ps : List Rat) (h : List Nat) (N V : Nat), isLI K H v1 ws ∧ isL K H (isC K H) v2 cs ∧ isL K H (isP K H) v3 ps ∧ isH K H v4 h ∧ HeapOk ws h ∧ RowOk ws cs ps N V ∧
  ∀ H', Same H H' → Q (.bl (decide ((csOf ws cs).W (hs h) < (csOf ws cs).load (pf ps) (hs h)))) H'
/-- slots: worths 0, claims 1, parts 2, heap 3 -/
abbrev N_over_its_worth : List Str := ["worths", "claims", "parts", "heap"]
theorem sc_over_its_worth : FnScope N_over_its_worth ["worths", "claims", "parts", "heap"] (defScope s_over_its_worth) := ⟨rfl, rfl, rfl, by decide +kernel, rfl, by decide +kernel, by decide +kernel⟩
def t_over_its_worth (K : PySem.W.Frag) : TS := tRet (tCall (sp_below K) [] E0 (tCons (tTup (tCons (tCall (sp_heap_worth K) [] E0 (tCons (tVar 0) (tCons (tVar 3) tNil))) (tCons (tC (.int 1)) tNil))) (tCons (tCall (sp_load_of K) [] E0 (tCons (tVar 1) (tCons (tVar 2) (tCons (tVar 3) tNil)))) tNil)))
theorem pure_over_its_worth {K : PySem.W.Frag} {mg : Str → Option Value} (T : Txt K mg) (vs : List V) (H : Hp) (Q : VK) (E : XK) (h : sp_over_its_worth K vs H Q E) : t_over_its_worth K { nx := fun _ H' => Q .non H', rt := Q } (start N_over_its_worth vs) H := by
  obtain ⟨v1, v2, v3, v4, rfl, ws, cs, ps, h, N, V, hW, hC, hP, hH, ho, r, q⟩ := h
  unfold t_over_its_worth
  apply s_retc
  apply c_call2c
  show tCall (sp_heap_worth K) [] E0 (tCons (tVar 0) (tCons (tVar 3) tNil)) _ H _
  apply c_call2
  · exact val_var rfl
  · exact val_var rfl
  refine ⟨_, _, rfl, ws, h, hW, hH, ho.2, by have := ho.len; have := r.m6; omega, fun H1 s1 => ?_⟩
  refine ⟨by show 2 ≤ sizeLine; decide, fun p hp => ?_⟩
  have s2 := same_new (o := .tup [.int (wsum ws h), .int 1]) hp
  have s12 := s1.trans s2
  apply c_call3
  · exact val_var rfl
  · exact val_var rfl
  · exact val_var rfl
  refine ⟨_, _, _, rfl, ws, cs, ps, h, N, V, hC.monoC s12, hP.monoP s12, hH.mono (tk_of s12), r, fun v H2 s3 hv => ?_⟩
  refine ⟨_, _, rfl, _, _, (part_int upd_same).mono (tk_of s3), hv, ?_, ?_, ?_⟩
  · exact fit_int (wsum_abs r ho).1 (V_B1 r.bd)
  · have e := kept_sum (pf ps) (win cs h) cs.length
    refine fit_nn r.bd (Iz.sm fun i hi => ?_) (sm_nonneg fun i hi => ?_) (Rat.le_trans (sm_le fun i hi => ?_) r.sumP)
    · show Iz (if inn _ _ = true then pf ps i else 0) N
      split
      · exact r.iz i hi
      · exact Iz.zero N
    · show 0 ≤ if inn _ _ = true then pf ps i else 0
      split
      · exact r.p0 i hi
      · exact Rat.le_refl
    · show (if inn _ _ = true then pf ps i else 0) ≤ pf ps i
      split
      · exact Rat.le_refl
      · exact r.p0 i hi
  · rw [wsum_eq cs ho.1 ho.2]
    exact q _ (s12.trans s3)
theorem ok_over_its_worth {P : Program} {w : World} {K : PySem.W.Frag} {mg : Str → Option Value} {base : Heap} (T : Txt K mg) : Okf P w K mg base 5 "over_its_worth" ["worths", "claims", "parts", "heap"] (sp_over_its_worth K) := by
  obtain ⟨fd, F0⟩ := T.c.def_ 14 (d := d_over_its_worth) rfl
  have F : FnP K "over_its_worth" s_over_its_worth (He.ga K "over_its_worth") fd := F0
  have h_heap_worth := ok_heap_worth (P := P) (w := w) (base := base) T
  have h_load_of := ok_load_of (P := P) (w := w) (base := base) T
  have h_below := ok_below (P := P) (w := w) (base := base) T
  refine ⟨_, fd, F.ok sc_over_its_worth (fun vs H Q E h => ?_) (fun cdv A outer s H vs Q E hr h => ⟨t_over_its_worth K, PSs.nox ?_, pure_over_its_worth T vs H Q E h⟩), F.bindsN (fun _ _ _ _ _ _ us hl => match us, hl with | [_, _, _, _], _ => rfl), F.kp, T.glo 14 rfl⟩
  · obtain ⟨_, _, _, _, rfl, _⟩ := h
    rfl
  · exact (pss_one (ps_ret (pe_cf h_below hr (by decide) rfl (pa_cons (pe_tup (pa_cons (pe_cf h_heap_worth hr (by decide) rfl (pa_cons (pv 0) (pa_cons (pv 3) pa_nil))) (pa_cons pe_int pa_nil))) (pa_cons (pe_cf h_load_of hr (by decide) rfl (pa_cons (pv 1) (pa_cons (pv 2) (pa_cons (pv 3) pa_nil)))) pa_nil)))))
def sp_overdrawn (K : PySem.W.Frag) : Sp := fun vs H Q _ => ∃ v1 v2 v3, vs = [v1, v2, v3] ∧ ∃ (ws : List Int) (cs : List Cl) (ps : List Rat) (N V : Nat), isLI K H v1 ws ∧ isL K H (isC K H) v2 cs ∧ isL K H (isP K H) v3 ps ∧ RowOk ws cs ps N V ∧ (csOf ws cs).Pay (pf ps) ∧
  ∀ H', Same H H' → Q .non H'
/-- slots: worths 0, claims 1, parts 2, heap 3 -/
abbrev N_overdrawn : List Str := ["worths", "claims", "parts", "heap"]
theorem sc_overdrawn : FnScope N_overdrawn ["worths", "claims", "parts"] (defScope s_overdrawn) := ⟨rfl, rfl, rfl, by decide +kernel, rfl, by decide +kernel, by decide +kernel⟩
def t_overdrawn (K : PySem.W.Frag) : TS := tSeq (tFor (iList K (tCall (sp_heaps K) [] E0 (tCons (tCB (kLen K) (tCons (tVar 0) tNil)) tNil))) (gName 3)
  (tIfS (tB (tCall (sp_over_its_worth K) [] E0 (tCons (tVar 0) (tCons (tVar 1) (tCons (tVar 2) (tCons (tVar 3) tNil))))))
  (tRet (tVar 3))
  tNext))
  (tRet (tC .non))
theorem pure_overdrawn {K : PySem.W.Frag} {mg : Str → Option Value} (T : Txt K mg) (vs : List V) (H : Hp) (Q : VK) (E : XK) (h : sp_overdrawn K vs H Q E) : t_overdrawn K { nx := fun _ H' => Q .non H', rt := Q } (start N_overdrawn vs) H := by
  obtain ⟨v1, v2, v3, rfl, ws, cs, ps, N, V, hW, hC, hP, r, pay, q⟩ := h
  obtain ⟨a, rfl, ha⟩ := id hW
  unfold t_overdrawn
  apply q_forC
  apply c_call1
  · exact v_lenL (val_var rfl) ha
  refine ⟨_, rfl, ws.length, by rw [List.length_map], r.m6, fun p ys L H1 hp s1 e1 pm al => ?_⟩
  refine forG_inq (xs := ys) (fun i σ H' => Same H1 H' ∧ ∃ y, σ = [some (.ref a), some v2, some v3, y]) (SqL.of e1) ⟨Same.refl _, _, rfl⟩ (fun i σ H' _ z => z.1.seq (SqL.of e1)) ?_ ?_
  · rintro i x σ H' hx ⟨s, y, rfl⟩
    obtain ⟨h, hh, ht⟩ := al.got hx
    have ho := heapOk_of pm (List.mem_of_getElem? hh)
    have s2 := s1.trans s
    apply s_ifc
    apply c_call4
    · exact val_var rfl
    · exact val_var rfl
    · exact val_var rfl
    · exact val_var rfl
    refine ⟨_, _, _, _, rfl, ws, cs, ps, h, N, V, hW.mono s2, hC.monoC s2, hP.monoP s2, ht.mono (tk_of s), ho, r, fun H2 s3 => ⟨_, rfl, ?_⟩⟩
    have e : decide ((csOf ws cs).W (hs h) < (csOf ws cs).load (pf ps) (hs h)) = false := decide_eq_false (by have := pay (hs h); grind)
    rw [e]
    exact iteF ⟨s.trans s3, _, rfl⟩
  · rintro σ H' ⟨s, y, rfl⟩
    walk_at "ret"
    exact q _ (s1.trans s)
theorem ok_overdrawn {P : Program} {w : World} {K : PySem.W.Frag} {mg : Str → Option Value} {base : Heap} (T : Txt K mg) : Okf P w K mg base 6 "overdrawn" ["worths", "claims", "parts"] (sp_overdrawn K) := by
  obtain ⟨fd, F0⟩ := T.c.def_ 15 (d := d_overdrawn) rfl
  have F : FnP K "overdrawn" s_overdrawn (He.ga K "overdrawn") fd := F0
  have h_heaps := ok_heaps (P := P) (w := w) (base := base) T
  have h_over_its_worth := ok_over_its_worth (P := P) (w := w) (base := base) T
  refine ⟨_, fd, F.ok sc_overdrawn (fun vs H Q E h => ?_) (fun cdv A outer s H vs Q E hr h => ⟨t_overdrawn K, PSs.nox ?_, pure_overdrawn T vs H Q E h⟩), F.bindsN (fun _ _ _ _ _ _ us hl => match us, hl with | [_, _, _], _ => rfl), F.kp, T.glo 15 rfl⟩
  · obtain ⟨_, _, _, rfl, _⟩ := h
    rfl
  · exact (pss_cons (ps_for PassesOwn.never rfl (pi_list (pe_cf h_heaps hr (by decide) rfl (pa_cons (pe_callB call_len_seq (by rfl) (T.free 57 rfl) PySem.boot_len (pa_cons (pv 0) pa_nil)) pa_nil))) (pg_name (i := 3) sc_overdrawn.nd rfl (by first | exact Or.inl rfl | exact Or.inr rfl))
  (pss_one (ps_if (pt_val (pe_cf h_over_its_worth hr (by decide) rfl (pa_cons (pv 0) (pa_cons (pv 1) (pa_cons (pv 2) (pa_cons (pv 3) pa_nil))))))
  (pss_one (ps_ret (pv 3)))
  pss_nil)))
  (pss_one (ps_ret pe_non)))
/-- a row in the midst of filling: D for the dues, V for all sums -/
structure FillOk (ws : List Int) (cs : List Cl) (ps : List Rat) (N D V : Nat) : Prop extends RowOk ws cs ps N V where
  izD : ∀ i, i < cs.length → Iz (cs.getD i dCl).due D
  sumD : sm cs.length (csOf ws cs).due ≤ (V : Rat)
  d0 : 0 < D
  v1 : 1 ≤ V
  big : 2 * V * N * D < B1
theorem FillOk.bdD {ws : List Int} {cs : List Cl} {ps : List Rat} {N D V : Nat} (f : FillOk ws cs ps N D V) : Bd D V := by
  have h := f.big
  have h1 : V * D ≤ 2 * V * N * D := Nat.mul_le_mul_right D (Nat.le_trans (Nat.le_mul_of_pos_right V f.bd.n0) (Nat.mul_le_mul_right N (by omega)))
  have h2 : D ≤ V * D := Nat.le_mul_of_pos_left D (by have := f.v1; omega)
  exact ⟨f.d0, by omega, by omega⟩
theorem FillOk.bd2 {ws : List Int} {cs : List Cl} {ps : List Rat} {N D V : Nat} (f : FillOk ws cs ps N D V) : Bd N (2 * V) := by
  have h := f.big
  have h1 : 2 * V * N ≤ 2 * V * N * D := Nat.le_mul_of_pos_right _ f.d0
  exact ⟨f.bd.n0, f.bd.nb, by omega⟩
def isRN (K : PySem.W.Frag) (H : Hp) (v : V) (r n : Rat) : Prop := ∃ a x y, v = .ref a ∧ SqT K H a [x, y] ∧ isP K H x r ∧ isP K H y n
def sp_room_and_need (K : PySem.W.Frag) : Sp := fun vs H Q _ => ∃ v1 v2 v3 v4 v5, vs = [v1, v2, v3, v4, v5] ∧ ∃ (ws : List Int) (cs : List Cl) (ps : List Rat) (g h : List Nat) (N D V : Nat), isLI K H v1 ws ∧ isL K H (isC K H) v2 cs ∧ isL K H (isP K H) v3 ps ∧ isLN K H v4 g ∧ isH K H v5 h ∧ HeapOk ws h ∧ FillOk ws cs ps N D V ∧
  ∀ v H', Same H H' → isRN K H' v ((csOf ws cs).room (pf ps) g (hs h)) ((csOf ws cs).need g (hs h)) → Q v H'
/-- slots: worths 0, claims 1, parts 2, places 3, heap 4, room 5, need 6, at 7 -/
abbrev N_room_and_need : List Str := ["worths", "claims", "parts", "places", "heap", "room", "need", "at"]
theorem sc_room_and_need : FnScope N_room_and_need ["worths", "claims", "parts", "places", "heap"] (defScope s_room_and_need) := ⟨rfl, rfl, rfl, by decide +kernel, rfl, by decide +kernel, by decide +kernel⟩
def t_room_and_need (K : PySem.W.Frag) : TS := tSeq (tAsg (tTup (tCons (tCall (sp_heap_worth K) [] E0 (tCons (tVar 0) (tCons (tVar 4) tNil))) (tCons (tC (.int 1)) tNil))) (gName 5))
  (tSeq (tAsg (tC (.ref (He.ga K "NOUGHT"))) (gName 6))
  (tSeq (tFor (iList K (tCall (sp_places_within K) [] E0 (tCons (tVar 1) (tCons (tVar 4) tNil)))) (gName 7)
  (tIfS (tTest (tOp (rIn K false) (tVar 7) (tVar 3)))
  (tAsg (tCall (sp_plus K) [] E0 (tCons (tVar 6) (tCons (tOp (rIxT K) (tOp (rIxL K) (tVar 1) (tVar 7)) (tC (.int 0))) tNil))) (gName 6))
  (tAsg (tCall (sp_less K) [] E0 (tCons (tVar 5) (tCons (tOp (rIxL K) (tVar 2) (tVar 7)) tNil))) (gName 5))))
  (tRet (tTup (tCons (tVar 5) (tCons (tVar 6) tNil))))))
theorem room_eq (ws : List Int) (cs : List Cl) (ps : List Rat) (g h : List Nat) : (csOf ws cs).room (pf ps) g (hs h) = (csOf ws cs).W (hs h) - ((kept cs.length (win cs h)).map fun i => if i ∈ g then 0 else pf ps i).sum := by
  rw [kept_sum]
  unfold Cs.room
  have e : (sm (csOf ws cs).n fun i => if inn ((csOf ws cs).tou i) (hs h) = true ∧ i ∉ g then pf ps i else 0) = sm cs.length fun i => if win cs h i = true then (if i ∈ g then 0 else pf ps i) else 0 := by
    refine sm_congr fun i _ => ?_
    show (if win cs h i = true ∧ i ∉ g then pf ps i else 0) = _
    by_cases a : win cs h i = true
    · by_cases b : i ∈ g
      · rw [if_neg (fun z => z.2 b), if_pos a, if_pos b]
      · rw [if_pos ⟨a, b⟩, if_pos a, if_neg b]
    · rw [if_neg (fun z => a z.1), if_neg a]
  rw [e]
theorem need_eq (ws : List Int) (cs : List Cl) (g h : List Nat) : (csOf ws cs).need g (hs h) = ((kept cs.length (win cs h)).map fun i => if i ∈ g then (cs.getD i dCl).due else 0).sum := by
  rw [kept_sum]
  unfold Cs.need
  refine sm_congr fun i _ => ?_
  show (if win cs h i = true ∧ i ∈ g then (cs.getD i dCl).due else 0) = _
  by_cases a : win cs h i = true
  · by_cases b : i ∈ g
    · rw [if_pos ⟨a, b⟩, if_pos a, if_pos b]
    · rw [if_neg (fun z => b z.2), if_pos a, if_neg b]
  · rw [if_neg (fun z => a z.1), if_neg a]
theorem pure_room_and_need {K : PySem.W.Frag} {mg : Str → Option Value} (T : Txt K mg) (vs : List V) (H : Hp) (Q : VK) (E : XK) (h : sp_room_and_need K vs H Q E) : t_room_and_need K { nx := fun _ H' => Q .non H', rt := Q } (start N_room_and_need vs) H := by
  obtain ⟨v1, v2, v3, v4, v5, rfl, ws, cs, ps, g, h, N, D, V, hW, hC, hP, hG, hH, ho, r, q⟩ := h
  obtain ⟨b, pv, rfl, hb, al⟩ := id hP
  obtain ⟨ca, cv, rfl, hc, cl⟩ := id hC
  obtain ⟨ga, rfl, hg⟩ := id hG
  unfold t_room_and_need
  apply q_asg
  show tCall (sp_heap_worth K) [] E0 (tCons (tVar 0) (tCons (tVar 4) tNil)) _ H _
  apply c_call2
  · exact val_var rfl
  · exact val_var rfl
  refine ⟨_, _, rfl, ws, h, hW, hH, ho.2, by have := ho.len; have := r.m6; omega, fun H1 s1 => ?_⟩
  refine ⟨by show 2 ≤ sizeLine; decide, fun p hp => ?_⟩
  have s2 := s1.trans (same_new (o := .tup [.int (wsum ws h), .int 1]) hp)
  have hroom : isP K (upd H1 p (.tup [.int (wsum ws h), .int 1])) (.ref p) ((csOf ws cs).W (hs h)) := by
    rw [← wsum_eq cs ho.1 ho.2]
    exact part_int upd_same
  generalize upd H1 p (.tup [.int (wsum ws h), .int 1]) = H2 at s2 hroom ⊢
  walk_at "set"
  apply q_forC
  apply c_call2
  · exact val_var rfl
  · exact val_var rfl
  refine ⟨_, _, rfl, cs, h, hC.monoC s2, hH.mono (tk_of s2), by have := r.n16; omega, fun p3 H3 hp3 s3 e3 => ?_⟩
  let ks := kept cs.length (win cs h)
  let lr := ks.map fun i => if i ∈ g then 0 else pf ps i
  let ln := ks.map fun i => if i ∈ g then (cs.getD i dCl).due else 0
  have due0 : ∀ i, i < cs.length → 0 ≤ (cs.getD i dCl).due := fun i hi => r.ok.due0 i hi
  have lr0 : ∀ x ∈ lr, 0 ≤ x := fun x hx => by
    obtain ⟨i, hi, rfl⟩ := List.mem_map.mp hx
    split
    · exact Rat.le_refl
    · exact r.p0 i (kept_mem.mp hi).1
  have ln0 : ∀ x ∈ ln, 0 ≤ x := fun x hx => by
    obtain ⟨i, hi, rfl⟩ := List.mem_map.mp hx
    split
    · exact due0 i (kept_mem.mp hi).1
    · exact Rat.le_refl
  have lrz : ∀ x ∈ lr, Iz x N := fun x hx => by
    obtain ⟨i, hi, rfl⟩ := List.mem_map.mp hx
    split
    · exact Iz.zero N
    · exact r.iz i (kept_mem.mp hi).1
  have lnz : ∀ x ∈ ln, Iz x D := fun x hx => by
    obtain ⟨i, hi, rfl⟩ := List.mem_map.mp hx
    split
    · exact r.izD i (kept_mem.mp hi).1
    · exact Iz.zero D
  have lrs : lr.sum ≤ (V : Rat) := by
    show (ks.map fun i => if i ∈ g then 0 else pf ps i).sum ≤ _
    rw [kept_sum]
    refine Rat.le_trans (sm_le fun i hi => ?_) r.sumP
    have := r.p0 i hi
    split
    · split
      · exact this
      · exact Rat.le_refl
    · exact this
  have lns : ln.sum ≤ (V : Rat) := by
    show (ks.map fun i => if i ∈ g then (cs.getD i dCl).due else 0).sum ≤ _
    rw [kept_sum]
    refine Rat.le_trans (sm_le fun i hi => ?_) r.sumD
    have := due0 i hi
    show _ ≤ (cs.getD i dCl).due
    split
    · split
      · exact Rat.le_refl
      · exact this
    · exact this
  have Wz : Iz ((csOf ws cs).W (hs h)) N := by
    rw [← wsum_eq cs ho.1 ho.2]
    exact Iz.int _ N
  have Wb := W_le r.ok (hs h)
  have Wb2 : (csOf ws cs).W (hs h) ≤ (V : Rat) := Rat.le_trans Wb.2 r.sumW
  have cast2 : ((2 * V : Nat) : Rat) = (V : Rat) + (V : Rat) := by
    rw [Rat.natCast_mul]
    have : ((2 : Nat) : Rat) = 2 := rfl
    rw [this]
    grind
  have fr : ∀ i, Fit ((csOf ws cs).W (hs h) - (lr.take i).sum) := fun i => by
    have a := sum_take_ge (i := i) lr0
    refine fit_of r.bd2 (Wz.sub (Iz.sum fun x hx => lrz x (List.mem_of_mem_take hx))) ?_ ?_
    · rw [cast2]
      have := natV V
      grind
    · rw [cast2]
      have := natV V
      grind
  have fn : ∀ i, Fit (ln.take i).sum := fun i => fit_nn r.bdD (Iz.sum fun x hx => lnz x (List.mem_of_mem_take hx)) (sum_take_ge ln0).1 (Rat.le_trans (sum_take_ge ln0).2 lns)
  refine forG_inq (xs := ks.map nv) (fun i σ H' => Same H2 H' ∧ SqL K H' p3 (ks.map nv) ∧ ∃ x y z, σ = [some v1, some (.ref ca), some (.ref b), some (.ref ga), some v5, some x, some y, z] ∧ isP K H' x ((csOf ws cs).W (hs h) - (lr.take i).sum) ∧ isP K H' y (ln.take i).sum) (SqL.of e3)
    ⟨s3, SqL.of e3, _, _, _, rfl, ?_, part0 T H3⟩ (fun i σ H' _ z => z.2.1) ?_ ?_
  · have e0 : (csOf ws cs).W (hs h) - (lr.take 0).sum = (csOf ws cs).W (hs h) := by
      rw [List.take_zero]
      show _ - (0 : Rat) = _
      grind
    rw [e0]
    exact hroom.mono (tk_of s3)
  · rintro i u σ H' hu ⟨s, hq, x, y, z, rfl, hx, hy⟩
    obtain ⟨j, hj, rfl⟩ := map_at hu
    have hjn := (kept_mem.mp (List.mem_of_getElem? hj)).1
    have s02 := s2.trans s
    have hlr : lr[i]? = some (if j ∈ g then 0 else pf ps j) := by
      show (ks.map _)[i]? = _
      rw [List.getElem?_map, hj]
      rfl
    have hln : ln[i]? = some (if j ∈ g then (cs.getD j dCl).due else 0) := by
      show (ks.map _)[i]? = _
      rw [List.getElem?_map, hj]
      rfl
    have hb' : SqL K H' b pv := s02.seq hb
    have hc' : SqL K H' ca cv := s02.seq hc
    have hg' : SqL K H' ga (g.map nv) := s02.seq hg
    apply s_if
    · apply ans_vt
      exact v_inL (p := j) (h := g) (val_var rfl) (val_var rfl) hg'
    · intro m
      have m := of_decide_eq_true m
      obtain ⟨cv1, ec, ad, d, t, rfl, hT, hd, ht⟩ := cl.get (at_of_getD (d := dCl) hjn)
      apply s_asg
      apply c_call2
      · exact val_var rfl
      · exact v_ixT (j := 0) (v_ixL (val_var rfl) (val_var rfl) hc' ec) val_c ((tk_of s02).sq hT) rfl
      · refine ⟨_, _, rfl, _, _, hy, hd.mono (tk_of s02), fn i, ?_, fun v H4 s4 hv => ⟨s.trans s4, s4.seq hq, x, v, _, rfl, ?_, ?_⟩⟩
        · exact fit_nn r.bdD (r.izD j hjn) (due0 j hjn) (Rat.le_trans (sm_le_one (f := (csOf ws cs).due) hjn due0) r.sumD)
        · rw [sum_take_succ hlr, if_pos m]
          have : (csOf ws cs).W (hs h) - ((lr.take i).sum + 0) = (csOf ws cs).W (hs h) - (lr.take i).sum := by grind
          rw [this]
          exact hx.mono (tk_of s4)
        · rw [sum_take_succ hln, if_pos m]
          exact hv
    · intro m
      have m := of_decide_eq_false m
      obtain ⟨pj, ej, hpj⟩ := al.get (at_of_getD (d := 0) (show j < ps.length by rw [r.len]; exact hjn))
      apply s_asg
      apply c_call2
      · exact val_var rfl
      · exact v_ixL (val_var rfl) (val_var rfl) hb' ej
      · refine ⟨_, _, rfl, _, pf ps j, hx, hpj.mono (tk_of s02), fr i, r.fit hjn, fun v H4 s4 hv => ⟨s.trans s4, s4.seq hq, v, y, _, rfl, ?_, ?_⟩⟩
        · rw [sum_take_succ hlr, if_neg m]
          have : (csOf ws cs).W (hs h) - ((lr.take i).sum + pf ps j) = (csOf ws cs).W (hs h) - (lr.take i).sum - pf ps j := by grind
          rw [this]
          exact hv
        · rw [sum_take_succ hln, if_neg m]
          have : (ln.take i).sum + 0 = (ln.take i).sum := by grind
          rw [this]
          exact hy.mono (tk_of s4)
  · rintro σ H' ⟨s, hq, x, y, z, rfl, hx, hy⟩
    apply s_retc
    apply c_tup2
    · exact val_var rfl
    · exact val_var rfl
    · intro p4 hp4
      have s4 := same_new (o := .tup [x, y]) hp4
      have er : lr.take (ks.map nv).length = lr := List.take_of_length_le (by simp [lr])
      have en : ln.take (ks.map nv).length = ln := List.take_of_length_le (by simp [ln])
      rw [er] at hx
      rw [en] at hy
      refine q _ _ ((s2.trans s).trans s4) ⟨p4, x, y, rfl, SqT.of upd_same, ?_, ?_⟩
      · rw [room_eq]
        exact hx.mono (tk_of s4)
      · rw [need_eq]
        exact hy.mono (tk_of s4)
theorem ok_room_and_need {P : Program} {w : World} {K : PySem.W.Frag} {mg : Str → Option Value} {base : Heap} (T : Txt K mg) : Okf P w K mg base 5 "room_and_need" ["worths", "claims", "parts", "places", "heap"] (sp_room_and_need K) := by
  obtain ⟨fd, F0⟩ := T.c.def_ 16 (d := d_room_and_need) rfl
  have F : FnP K "room_and_need" s_room_and_need (He.ga K "room_and_need") fd := F0
  have h_heap_worth := ok_heap_worth (P := P) (w := w) (base := base) T
  have h_places_within := ok_places_within (P := P) (w := w) (base := base) T
  have h_plus := ok_plus (P := P) (w := w) (base := base) T
  have h_less := ok_less (P := P) (w := w) (base := base) T
  refine ⟨_, fd, F.ok sc_room_and_need (fun vs H Q E h => ?_) (fun cdv A outer s H vs Q E hr h => ⟨t_room_and_need K, PSs.nox ?_, pure_room_and_need T vs H Q E h⟩), F.bindsN (fun _ _ _ _ _ _ us hl => match us, hl with | [_, _, _, _, _], _ => rfl), F.kp, T.glo 16 rfl⟩
  · obtain ⟨_, _, _, _, _, rfl, _⟩ := h
    rfl
  · exact (pss_cons (ps_set (i := 5) sc_room_and_need.nd rfl (by first | exact Or.inl rfl | exact Or.inr rfl) (pe_tup (pa_cons (pe_cf h_heap_worth hr (by decide) rfl (pa_cons (pv 0) (pa_cons (pv 4) pa_nil))) (pa_cons pe_int pa_nil))))
  (pss_cons (ps_set (i := 6) sc_room_and_need.nd rfl (by first | exact Or.inl rfl | exact Or.inr rfl) (pe_glob rfl (T.glo 51 rfl) rfl))
  (pss_cons (ps_for PassesOwn.never rfl (pi_list (pe_cf h_places_within hr (by decide) rfl (pa_cons (pv 1) (pa_cons (pv 4) pa_nil)))) (pg_name (i := 7) sc_room_and_need.nd rfl (by first | exact Or.inl rfl | exact Or.inr rfl))
  (pss_one (ps_if (pt_cmpR op_in_seq (pv 7) (pv 3) (by rfl))
  (pss_one (ps_set (i := 6) sc_room_and_need.nd rfl (by first | exact Or.inl rfl | exact Or.inr rfl) (pe_cf h_plus hr (by decide) rfl (pa_cons (pv 6) (pa_cons (pe_ix ix_tup (pe_ix ix_list (pv 1) (pv 7) (fun _ _ => rfl)) pe_int (fun _ _ => rfl)) pa_nil)))))
  (pss_one (ps_set (i := 5) sc_room_and_need.nd rfl (by first | exact Or.inl rfl | exact Or.inr rfl) (pe_cf h_less hr (by decide) rfl (pa_cons (pv 5) (pa_cons (pe_ix ix_list (pv 2) (pv 7) (fun _ _ => rfl)) pa_nil))))))))
  (pss_one (ps_ret (pe_tup (pa_cons (pv 5) (pa_cons (pv 6) pa_nil))))))))
def isHF (K : PySem.W.Frag) (H : Hp) (v : V) (f : List Nat × Rat) : Prop := ∃ a x y, v = .ref a ∧ SqT K H a [x, y] ∧ isH K H x f.1 ∧ isP K H y f.2
theorem isHF.mono {K : PySem.W.Frag} {H H' : Hp} {v : V} {f : List Nat × Rat} (t : TK H H') (h : isHF K H v f) : isHF K H' v f := let ⟨a, x, y, e, s, p, q⟩ := h; ⟨a, x, y, e, t.sq s, p.mono t, q.mono t⟩
/-- the heaps that some of those going lie within, each with the fill at which it is spent -/
structure Meas (c : Cs) (m : Nat) (now : Nat → Rat) (g : List Nat) (fs : List (List Nat × Rat)) : Prop where
  mem : ∀ h t, (h, t) ∈ fs ↔ h ∈ subs m ∧ c.need g (hs h) ≠ 0 ∧ t = c.room now g (hs h) / c.need g (hs h)
  fit : ∀ x ∈ fs, Fit x.2
  len : fs.length ≤ 64
def sp_measured (K : PySem.W.Frag) : Sp := fun vs H Q _ => ∃ v1 v2 v3 v4, vs = [v1, v2, v3, v4] ∧ ∃ (ws : List Int) (cs : List Cl) (ps : List Rat) (g : List Nat) (N D V : Nat), isLI K H v1 ws ∧ isL K H (isC K H) v2 cs ∧ isL K H (isP K H) v3 ps ∧ isLN K H v4 g ∧ FillOk ws cs ps N D V ∧
  ∀ p ys fs H', H p = none → Same H H' → H' p = some (.lst ys) → All2 (isHF K H') ys fs → Meas (csOf ws cs) ws.length (pf ps) g fs → Q (.ref p) H'
/-- slots: worths 0, claims 1, parts 2, places 3, found 4, heap 5, room 6, need 7 -/
abbrev N_measured : List Str := ["worths", "claims", "parts", "places", "found", "heap", "room", "need"]
theorem sc_measured : FnScope N_measured ["worths", "claims", "parts", "places"] (defScope s_measured) := ⟨rfl, rfl, rfl, by decide +kernel, rfl, by decide +kernel, by decide +kernel⟩
def t_measured (K : PySem.W.Frag) : TS := tSeq (tAsg (tLst tNil) (gName 4))
  (tSeq (tFor (iList K (tCall (sp_heaps K) [] E0 (tCons (tCB (kLen K) (tCons (tVar 0) tNil)) tNil))) (gName 5)
  (tSeq (tAsg (tCall (sp_room_and_need K) [] E0 (tCons (tVar 0) (tCons (tVar 1) (tCons (tVar 2) (tCons (tVar 3) (tCons (tVar 5) tNil)))))) (gTup K 2 (gCons (gName 6) (gCons (gName 7) gNil))))
  (tIfS (tTest (tOp (rNeD K) (tVar 7) (tC (.ref (He.ga K "NOUGHT")))))
  (tDrop (tBM K "list" rAppend (tVar 4) (tCons (tTup (tCons (tVar 5) (tCons (tCall (sp_over K) [] E0 (tCons (tVar 6) (tCons (tVar 7) tNil))) tNil))) tNil)))
  tNext)))
  (tRet (tVar 4)))
theorem div_fit {a b : Rat} (h0 : 0 < b) (h1 : a.num.natAbs * b.den < B1) (h2 : a.den * b.num.natAbs < B1) : Fit (a / b) := by
  have hn : 0 ≤ b.num := Rat.num_nonneg.mpr (Rat.le_of_lt h0)
  have hp : 0 < b.num := by
    have h2 : b.num ≠ 0 := fun z => by
      have := Rat.num_eq_zero.mp z
      rw [this] at h0
      exact Rat.lt_irrefl h0
    omega
  rw [div_mk h0]
  have hd : 0 < a.den * b.num.toNat := Nat.mul_pos a.den_pos (by omega)
  refine ⟨?_, ?_⟩
  · rw [Rat.num_mkRat, if_neg (by omega)]
    refine Nat.lt_of_le_of_lt ?_ h1
    refine Nat.le_trans (Int.natAbs_ediv_le_natAbs _ _) ?_
    rw [Int.natAbs_mul, Int.natAbs_natCast]
    exact Nat.le_refl _
  · rw [Rat.den_mkRat, if_neg (by omega)]
    refine Nat.lt_of_le_of_lt (Nat.div_le_self _ _) ?_
    have e : b.num.toNat = b.num.natAbs := by omega
    rw [e]
    exact h2
section
variable {ws : List Int} {cs : List Cl} {ps : List Rat} {N D V : Nat}
theorem room_bd (r : FillOk ws cs ps N D V) {h : List Nat} (ho : HeapOk ws h) (g : List Nat) : Iz ((csOf ws cs).room (pf ps) g (hs h)) N ∧ -((2 * V : Nat) : Rat) ≤ (csOf ws cs).room (pf ps) g (hs h) ∧ (csOf ws cs).room (pf ps) g (hs h) ≤ ((2 * V : Nat) : Rat) := by
  have cast2 : ((2 * V : Nat) : Rat) = (V : Rat) + (V : Rat) := by
    rw [Rat.natCast_mul]
    have : ((2 : Nat) : Rat) = 2 := rfl
    rw [this]
    grind
  have Wb := W_le r.ok (hs h)
  have Wb2 : (csOf ws cs).W (hs h) ≤ (V : Rat) := Rat.le_trans Wb.2 r.sumW
  have Wz : Iz ((csOf ws cs).W (hs h)) N := by
    rw [← wsum_eq cs ho.1 ho.2]
    exact Iz.int _ N
  unfold Cs.room
  have s0 : 0 ≤ sm (csOf ws cs).n fun i => if inn ((csOf ws cs).tou i) (hs h) = true ∧ i ∉ g then pf ps i else 0 := sm_nonneg fun i hi => by
    split
    · exact r.p0 i hi
    · exact Rat.le_refl
  have s1 : (sm (csOf ws cs).n fun i => if inn ((csOf ws cs).tou i) (hs h) = true ∧ i ∉ g then pf ps i else 0) ≤ (V : Rat) := Rat.le_trans (sm_le fun i hi => by
    show (if _ then pf ps i else 0) ≤ pf ps i
    split
    · exact Rat.le_refl
    · exact r.p0 i hi) r.sumP
  have hv := natV V
  refine ⟨Wz.sub (Iz.sm fun i hi => ?_), ?_, ?_⟩
  · split
    · exact r.iz i hi
    · exact Iz.zero N
  · rw [cast2]
    grind
  · rw [cast2]
    grind
theorem need_bd (r : FillOk ws cs ps N D V) (h : List Nat) (g : List Nat) : Iz ((csOf ws cs).need g (hs h)) D ∧ 0 ≤ (csOf ws cs).need g (hs h) ∧ (csOf ws cs).need g (hs h) ≤ (V : Rat) := by
  unfold Cs.need
  refine ⟨Iz.sm fun i hi => ?_, sm_nonneg fun i hi => ?_, Rat.le_trans (sm_le fun i hi => ?_) r.sumD⟩
  · split
    · exact r.izD i hi
    · exact Iz.zero D
  · split
    · exact r.ok.due0 i hi
    · exact Rat.le_refl
  · show (if _ then (csOf ws cs).due i else 0) ≤ (csOf ws cs).due i
    split
    · exact Rat.le_refl
    · exact r.ok.due0 i hi
theorem fill_fit (r : FillOk ws cs ps N D V) {h : List Nat} (ho : HeapOk ws h) (g : List Nat) (h0 : (csOf ws cs).need g (hs h) ≠ 0) : Fit ((csOf ws cs).room (pf ps) g (hs h)) ∧ Fit ((csOf ws cs).need g (hs h)) ∧ 0 < (csOf ws cs).need g (hs h) ∧ Fit ((csOf ws cs).room (pf ps) g (hs h) / (csOf ws cs).need g (hs h)) := by
  obtain ⟨a1, a2, a3⟩ := room_bd r ho g
  obtain ⟨b1, b2, b3⟩ := need_bd r h g
  have hp : 0 < (csOf ws cs).need g (hs h) := by grind
  refine ⟨fit_of r.bd2 a1 a2 a3, fit_nn r.bdD b1 b2 b3, hp, div_fit hp ?_ ?_⟩
  · have d1 := Nat.le_of_dvd r.bd.n0 a1.dvd
    have d2 := Nat.le_of_dvd r.d0 b1.dvd
    have n1 := num_le d1 a2 a3
    refine Nat.lt_of_le_of_lt (Nat.mul_le_mul n1 d2) r.big
  · have d1 := Nat.le_of_dvd r.bd.n0 a1.dvd
    have d2 := Nat.le_of_dvd r.d0 b1.dvd
    have n1 := num_le d2 (by have := natV V; grind) b3
    refine Nat.lt_of_le_of_lt (Nat.mul_le_mul d1 n1) ?_
    have := r.big
    have e : N * (V * D) ≤ 2 * V * N * D := by
      have e1 : N * (V * D) = V * N * D := by rw [← Nat.mul_assoc, Nat.mul_comm N V]
      have e2 : 2 * V * N * D = 2 * (V * N * D) := by rw [Nat.mul_assoc 2 V N, Nat.mul_assoc 2 (V * N) D]
      omega
    omega
end
theorem pure_measured {K : PySem.W.Frag} {mg : Str → Option Value} (T : Txt K mg) (vs : List V) (H : Hp) (Q : VK) (E : XK) (h : sp_measured K vs H Q E) : t_measured K { nx := fun _ H' => Q .non H', rt := Q } (start N_measured vs) H := by
  obtain ⟨v1, v2, v3, v4, rfl, ws, cs, ps, g, N, D, V, hW, hC, hP, hG, r, q⟩ := h
  obtain ⟨wa, rfl, hw⟩ := id hW
  unfold t_measured
  apply q_asg
  apply c_lst0
  intro p hp
  have s1 := same_new (o := .lst []) hp
  have e1 : (upd H p (.lst [])) p = some (.lst []) := upd_same
  generalize upd H p (.lst []) = H1 at s1 e1 ⊢
  apply q_forC
  apply c_call1
  · exact v_lenL (val_var rfl) (s1.seq hw)
  refine ⟨_, rfl, ws.length, by rw [List.length_map], r.m6, fun p2 hv L H2 hp2 s2 e2 pm al => ?_⟩
  have s12 := s1.trans s2
  refine forG_inq (xs := hv) (fun i σ H' => Same H H' ∧ H' p2 = some (.lst hv) ∧ (∀ x h, isH K H2 x h → isH K H' x h) ∧ ∃ ys fs x y z, σ = [some (.ref wa), some v2, some v3, some v4, some (.ref p), x, y, z] ∧ H' p = some (.lst ys) ∧ All2 (isHF K H') ys fs ∧
      (∀ h t, (h, t) ∈ fs ↔ h ∈ L.take i ∧ (csOf ws cs).need g (hs h) ≠ 0 ∧ t = (csOf ws cs).room (pf ps) g (hs h) / (csOf ws cs).need g (hs h)) ∧ fs.length ≤ i)
    (SqL.of e2) ⟨s12, e2, fun x h z => z, [], [], _, _, _, rfl, s2 _ _ e1, All2.nil, fun h t => by simp, Nat.le_refl _⟩ (fun i σ H' _ z => SqL.of z.2.1) ?_ ?_
  · rintro i x σ H' hx ⟨s, hq, ht2, ys, fs, x5, y5, z5, rfl, he, al2, mem, len⟩
    obtain ⟨h, hh, hti⟩ := al.got hx
    have hti2 := ht2 _ _ hti
    have ho := heapOk_of pm (List.mem_of_getElem? hh)
    apply q_asgG
    apply c_call5
    · exact val_var rfl
    · exact val_var rfl
    · exact val_var rfl
    · exact val_var rfl
    · exact val_var rfl
    refine ⟨_, _, _, _, _, rfl, ws, cs, ps, g, h, N, D, V, hW.mono s, hC.monoC s, hP.monoP s, hG.mono s, hti2, ho, r, fun v H3 s3 hv3 => ?_⟩
    obtain ⟨a3, xr, xn, rfl, hT3, hr3, hn3⟩ := hv3
    refine ⟨a3, [xr, xn], rfl, hT3, rfl, xr, [xn], rfl, xn, [], rfl, rfl, ?_⟩
    have p0 := part0 T H3
    have hlen64 : L.length ≤ 64 := by
      rw [pm.length_eq, subs_len]
      exact Nat.le_trans (Nat.pow_le_pow_right (by decide) r.m6) (by decide)
    have hi64 : i < L.length := (List.getElem?_eq_some_iff.mp hh).1
    apply s_if0
    · apply ans_vt
      exact v_neP (val_var rfl) val_c hn3 p0
    · intro nz
      have nz : (csOf ws cs).need g (hs h) ≠ 0 := by
        intro z
        rw [z] at nz
        simp at nz
      obtain ⟨f1, f2, f3, f4⟩ := fill_fit r ho g nz
      apply s_drop
      apply c_app
      · exact val_var rfl
      · exact SqL.of (s3 _ _ he)
      apply c_tup2b
      · exact val_var rfl
      apply c_call2
      · exact val_var rfl
      · exact val_var rfl
      refine ⟨_, _, rfl, _, _, hr3, hn3, f1, f2, f3, fun v4 H4 s4 hv4 => ⟨by show 2 ≤ sizeLine; decide, fun p5 hp5 => ?_⟩⟩
      have s5 := same_new (o := .tup [x, v4]) hp5
      have s35 := (s3.trans s4).trans s5
      have tk5 := tk_of s35
      have e5 := s35 _ _ he
      have hlt : ys.length < 100000 := by rw [al2.1]; omega
      refine app_in e5 hlt ?_
      have tk6 : TK (upd H4 p5 (.tup [x, v4])) (upd (upd H4 p5 (.tup [x, v4])) p (.lst (ys ++ [.ref p5]))) := tk_lst e5
      have hpn : H p = none := hp
      have hne : p2 ≠ p := fun z => by
        rw [z] at hp2
        rw [e1] at hp2
        cases hp2
      refine ⟨same_mut (s.trans s35) hp, ?_, fun x' h' z => (ht2 x' h' z).mono (tk5.trans tk6), ys ++ [.ref p5], fs ++ [(h, (csOf ws cs).room (pf ps) g (hs h) / (csOf ws cs).need g (hs h))], _, _, _, rfl, upd_same, ?_, fun h' t' => ?_, ?_⟩
      · rw [upd_ne hne]
        exact s35 _ _ hq
      · refine (al2.mono fun v f z => z.mono (tk5.trans tk6)).snoc ⟨p5, x, v4, rfl, tk6.sq (SqT.of upd_same), hti2.mono (tk5.trans tk6), (hv4.mono (tk_of s5)).mono tk6⟩
      · rw [List.mem_append, mem, List.take_add_one, hh, List.mem_append]
        constructor
        · rintro (⟨a, b, c⟩ | z)
          · exact ⟨.inl a, b, c⟩
          · have z := List.mem_singleton.mp z
            cases z
            exact ⟨.inr (by simp), nz, rfl⟩
        · rintro ⟨a | a, b, c⟩
          · exact .inl ⟨a, b, c⟩
          · have a : h' = h := by simpa using a
            subst a
            exact .inr (List.mem_singleton.mpr (by rw [c]))
      · rw [List.length_append]
        show fs.length + 1 ≤ i + 1
        omega
    · intro nz
      have nz : (csOf ws cs).need g (hs h) = 0 := by simpa using nz
      refine ⟨s.trans s3, s3 _ _ hq, fun x' h' z => (ht2 x' h' z).mono (tk_of s3), ys, fs, _, _, _, rfl, s3 _ _ he, al2.mono fun v f z => z.mono (tk_of s3), fun h' t' => ?_, by omega⟩
      rw [mem, List.take_add_one, hh, List.mem_append]
      constructor
      · rintro ⟨a, b, c⟩
        exact ⟨.inl a, b, c⟩
      · rintro ⟨a | a, b, c⟩
        · exact ⟨a, b, c⟩
        · have a : h' = h := by simpa using a
          subst a
          exact absurd nz b
  · rintro σ H' ⟨s, hq, ht2, ys, fs, x5, y5, z5, rfl, he, al2, mem, len⟩
    walk_at "ret"
    have e9 : L.take hv.length = L := List.take_of_length_le (by rw [al.1]; exact Nat.le_refl _)
    rw [e9] at mem
    refine q p ys fs H' hp s he al2 ⟨fun h t => ?_, fun x hx => ?_, ?_⟩
    · rw [mem, pm.mem_iff]
    · obtain ⟨a, b, c⟩ := (mem x.1 x.2).mp hx
      rw [c]
      exact (fill_fit r (heapOk_of pm a) g b).2.2.2
    · have hlen64 : L.length ≤ 64 := by
        rw [pm.length_eq, subs_len]
        exact Nat.le_trans (Nat.pow_le_pow_right (by decide) r.m6) (by decide)
      have := al.1
      omega
theorem ok_measured {P : Program} {w : World} {K : PySem.W.Frag} {mg : Str → Option Value} {base : Heap} (T : Txt K mg) : Okf P w K mg base 6 "measured" ["worths", "claims", "parts", "places"] (sp_measured K) := by
  obtain ⟨fd, F0⟩ := T.c.def_ 17 (d := d_measured) rfl
  have F : FnP K "measured" s_measured (He.ga K "measured") fd := F0
  have h_heaps := ok_heaps (P := P) (w := w) (base := base) T
  have h_room_and_need := ok_room_and_need (P := P) (w := w) (base := base) T
  have h_over := ok_over (P := P) (w := w) (base := base) T
  refine ⟨_, fd, F.ok sc_measured (fun vs H Q E h => ?_) (fun cdv A outer s H vs Q E hr h => ⟨t_measured K, PSs.nox ?_, pure_measured T vs H Q E h⟩), F.bindsN (fun _ _ _ _ _ _ us hl => match us, hl with | [_, _, _, _], _ => rfl), F.kp, T.glo 17 rfl⟩
  · obtain ⟨_, _, _, _, rfl, _⟩ := h
    rfl
  · exact (pss_cons (ps_set (i := 4) sc_measured.nd rfl (by first | exact Or.inl rfl | exact Or.inr rfl) (pe_lst pa_nil))
  (pss_cons (ps_for PassesOwn.never rfl (pi_list (pe_cf h_heaps hr (by decide) rfl (pa_cons (pe_callB call_len_seq (by rfl) (T.free 57 rfl) PySem.boot_len (pa_cons (pv 0) pa_nil)) pa_nil))) (pg_name (i := 5) sc_measured.nd rfl (by first | exact Or.inl rfl | exact Or.inr rfl))
  (pss_cons (ps_asg (pe_cf h_room_and_need hr (by decide) rfl (pa_cons (pv 0) (pa_cons (pv 1) (pa_cons (pv 2) (pa_cons (pv 3) (pa_cons (pv 5) pa_nil)))))) (pg_tup rfl (pgs_cons (pg_name (i := 6) sc_measured.nd rfl (by first | exact Or.inl rfl | exact Or.inr rfl)) (pgs_cons (pg_name (i := 7) sc_measured.nd rfl (by first | exact Or.inl rfl | exact Or.inr rfl)) pgs_nil))))
  (pss_one (ps_if (pt_cmpR (op_neD hr.units) (pv 7) (pe_glob rfl (T.glo 51 rfl) rfl) (nomark _))
  (pss_one (ps_expr (pe_bm PySem.F.plainAttrs_list PySem.F.slot_list_append PySem.F.type_list_append mt_append (pv 4) (pa_cons (pe_tup (pa_cons (pv 5) (pa_cons (pe_cf h_over hr (by decide) rfl (pa_cons (pv 6) (pa_cons (pv 7) pa_nil))) pa_nil))) pa_nil))))
  pss_nil))))
  (pss_one (ps_ret (pv 4)))))
def minF (fs : List (List Nat × Rat)) : Rat := fs.foldl (fun a f => min a f.2) 1
def sp_least_fill (K : PySem.W.Frag) : Sp := fun vs H Q _ => ∃ v1, vs = [v1] ∧ ∃ fs, isL K H (isHF K H) v1 fs ∧ (∀ f ∈ fs, Fit f.2) ∧ ∀ v, isP K H v (minF fs) → Q v H
/-- slots: heap_fills 0, found 1, heap 2, top 3 -/
abbrev N_least_fill : List Str := ["heap_fills", "found", "heap", "top"]
theorem sc_least_fill : FnScope N_least_fill ["heap_fills"] (defScope s_least_fill) := ⟨rfl, rfl, rfl, by decide +kernel, rfl, by decide +kernel, by decide +kernel⟩
def t_least_fill (K : PySem.W.Frag) : TS := tSeq (tAsg (tC (.ref (He.ga K "WHOLE"))) (gName 1))
  (tSeq (tFor (iList K (tVar 0)) (gTup K 2 (gCons (gName 2) (gCons (gName 3) gNil)))
  (tAsg (tCall (sp_lesser K) [] E0 (tCons (tVar 1) (tCons (tVar 3) tNil))) (gName 1)))
  (tRet (tVar 1)))
theorem minF_take {fs : List (List Nat × Rat)} {i : Nat} {f : List Nat × Rat} (h : fs[i]? = some f) : minF (fs.take (i + 1)) = min (minF (fs.take i)) f.2 := by
  unfold minF
  rw [List.take_add_one, h, List.foldl_append]
  rfl
theorem fit1 : Fit 1 := by
  have e : (1 : Nat) < B1 := by unfold B1; exact Nat.one_lt_two_pow (by decide)
  exact ⟨e, e⟩
theorem min_fit {a b : Rat} (h : Fit a) (k : Fit b) : Fit (min a b) := by
  by_cases e : a ≤ b
  · have : min a b = a := by grind
    rw [this]; exact h
  · have : min a b = b := by grind
    rw [this]; exact k
theorem minF_fit : ∀ {fs : List (List Nat × Rat)} {a : Rat}, Fit a → (∀ f ∈ fs, Fit f.2) → Fit (fs.foldl (fun a f => min a f.2) a)
  | [], _, h, _ => h
  | f :: fs, a, h, k => minF_fit (fs := fs) (min_fit h (k f List.mem_cons_self)) fun g hg => k g (List.mem_cons_of_mem _ hg)
theorem pure_least_fill {K : PySem.W.Frag} {mg : Str → Option Value} (T : Txt K mg) (vs : List V) (H : Hp) (Q : VK) (E : XK) (h : sp_least_fill K vs H Q E) : t_least_fill K { nx := fun _ H' => Q .non H', rt := Q } (start N_least_fill vs) H := by
  obtain ⟨_, rfl, fs, ⟨a, xs, rfl, ha, al⟩, hf, q⟩ := h
  unfold t_least_fill
  walk_at "set"
  refine q_forL (fun i σ H' => H' = H ∧ ∃ f y z, σ = [some (.ref a), some f, y, z] ∧ isP K H f (minF (fs.take i))) (val_var rfl) ha ⟨rfl, _, _, _, rfl, part1 T H⟩ (fun i σ H' _ z => by rw [z.1]; exact ha) ?_ ?_
  · rintro i x σ H' hx ⟨rfl, f, y, z, rfl, hp⟩
    obtain ⟨g, hg, b, xh, xt, rfl, hT, h1, h2⟩ := al.got hx
    refine ⟨b, [xh, xt], rfl, hT, rfl, xh, [xt], rfl, xt, [], rfl, rfl, ?_⟩
    apply s_asg
    apply c_call2
    · exact val_var rfl
    · exact val_var rfl
    refine ⟨_, _, rfl, _, _, hp, h2, minF_fit fit1 fun f hf2 => hf f (List.mem_of_mem_take hf2), hf g (List.mem_of_getElem? hg), fun v hv => ⟨rfl, v, _, _, rfl, ?_⟩⟩
    rw [minF_take hg]
    exact hv
  · rintro σ H' ⟨rfl, f, y, z, rfl, hp⟩
    walk_at "ret"
    refine q _ ?_
    have : fs.take xs.length = fs := List.take_of_length_le (by rw [al.1]; exact Nat.le_refl _)
    rwa [this] at hp
theorem ok_least_fill {P : Program} {w : World} {K : PySem.W.Frag} {mg : Str → Option Value} {base : Heap} (T : Txt K mg) : Okf P w K mg base 3 "least_fill" ["heap_fills"] (sp_least_fill K) := by
  obtain ⟨fd, F0⟩ := T.c.def_ 18 (d := d_least_fill) rfl
  have F : FnP K "least_fill" s_least_fill (He.ga K "least_fill") fd := F0
  have h_lesser := ok_lesser (P := P) (w := w) (base := base) T
  refine ⟨_, fd, F.ok sc_least_fill (fun vs H Q E h => ?_) (fun cdv A outer s H vs Q E hr h => ⟨t_least_fill K, PSs.nox ?_, pure_least_fill T vs H Q E h⟩), F.bindsN (fun _ _ _ _ _ _ us hl => match us, hl with | [_], _ => rfl), F.kp, T.glo 18 rfl⟩
  · obtain ⟨_, rfl, _⟩ := h
    rfl
  · exact (pss_cons (ps_set (i := 1) sc_least_fill.nd rfl (by first | exact Or.inl rfl | exact Or.inr rfl) (pe_glob rfl (T.glo 52 rfl) rfl))
  (pss_cons (ps_for PassesOwn.never rfl (pi_list (pv 0)) (pg_tup rfl (pgs_cons (pg_name (i := 2) sc_least_fill.nd rfl (by first | exact Or.inl rfl | exact Or.inr rfl)) (pgs_cons (pg_name (i := 3) sc_least_fill.nd rfl (by first | exact Or.inl rfl | exact Or.inr rfl)) pgs_nil)))
  (pss_one (ps_set (i := 1) sc_least_fill.nd rfl (by first | exact Or.inl rfl | exact Or.inr rfl) (pe_cf h_lesser hr (by decide) rfl (pa_cons (pv 1) (pa_cons (pv 3) pa_nil))))))
  (pss_one (ps_ret (pv 1)))))
def sp_halted (K : PySem.W.Frag) : Sp := fun vs H Q _ => ∃ v1 v2 v3 v4, vs = [v1, v2, v3, v4] ∧ ∃ (cs : List Cl) (g : List Nat) (fs : List (List Nat × Rat)) (top : Rat), isL K H (isC K H) v1 cs ∧ isLN K H v2 g ∧ isL K H (isHF K H) v3 fs ∧ isP K H v4 top ∧
  cs.length ≤ 16 ∧ g.length ≤ 16 ∧ fs.length ≤ 64 ∧ (∀ i ∈ g, i < cs.length) ∧
  ∀ p (ds : List Nat) H', H p = none → Same H H' → H' p = some (.lst (ds.map nv)) → ds.Sublist g → (∀ i, i ∈ ds ↔ i ∈ g ∧ (top = 1 ∨ ∃ f ∈ fs, f.2 = top ∧ win cs f.1 i = true)) → Q (.ref p) H'
/-- slots: claims 0, places 1, heap_fills 2, top 3, found 4, heap 5, spent_at 6, at 7 -/
abbrev N_halted : List Str := ["claims", "places", "heap_fills", "top", "found", "heap", "spent_at", "at"]
theorem sc_halted : FnScope N_halted ["claims", "places", "heap_fills", "top"] (defScope s_halted) := ⟨rfl, rfl, rfl, by decide +kernel, rfl, by decide +kernel, by decide +kernel⟩
def t_halted (K : PySem.W.Frag) : TS := tSeq (tIfS (tTest (tOp (rEqD K) (tVar 3) (tC (.ref (He.ga K "WHOLE")))))
  (tRet (tCB (kList K) (tCons (tVar 1) tNil)))
  tNext)
  (tSeq (tAsg tDNewK (gName 4))
  (tSeq (tFor (iList K (tVar 2)) (gTup K 2 (gCons (gName 5) (gCons (gName 6) gNil)))
  (tIfS (tTest (tOp (rEqD K) (tVar 6) (tVar 3)))
  (tFor (iList K (tCall (sp_places_within K) [] E0 (tCons (tVar 0) (tCons (tVar 5) tNil)))) (gName 7)
  (sDPut (tVar 4) (tVar 7) (tC (.bl true))))
  tNext))
  (tRet (tLc (iList K (tVar 1)) (gName 7) (tB (tDIn (tVar 7) (tVar 4))) (tVar 7) [7]))))
theorem kept_filter {g : List Nat} (c : Nat → Bool) : (kept g.length fun k => c (g.getD k 0)).map (fun k => g.getD k 0) = g.filter c := by
  have h := map_range_getD id g 0
  rw [List.map_id] at h
  have h2 : (List.range g.length).map (fun k => g.getD k 0) = g := h
  conv => rhs; rw [← h2]
  rw [List.filter_map]
  rfl
theorem isHF_monoL {K : PySem.W.Frag} {H H' : Hp} {v : V} {fs : List (List Nat × Rat)} (t : Same H H') (h : isL K H (isHF K H) v fs) : isL K H' (isHF K H') v fs := h.mono t fun _ _ r => r.mono (tk_of t)
theorem pure_halted {K : PySem.W.Frag} {mg : Str → Option Value} (T : Txt K mg) (vs : List V) (H : Hp) (Q : VK) (E : XK) (h : sp_halted K vs H Q E) : t_halted K { nx := fun _ H' => Q .non H', rt := Q } (start N_halted vs) H := by
  obtain ⟨v1, v2, v3, v4, rfl, cs, g, fs, top, hC, hG, hF, hT, n16, g16, f64, gn, q⟩ := h
  obtain ⟨ga, rfl, hg⟩ := id hG
  obtain ⟨fa, fv, rfl, hf, fal⟩ := id hF
  have p1 := part1 T H
  unfold t_halted
  apply q_if0
  · apply ans_vt
    exact v_eqP (val_var rfl) val_c hT p1
  · intro e
    have e := of_decide_eq_true e
    apply s_retc
    apply c_listL
    · exact val_var rfl
    · exact hg
    · intro p hp
      exact q p g _ hp (same_new hp) upd_same (List.Sublist.refl _) fun i => ⟨fun z => ⟨z, .inl e⟩, fun z => z.1⟩
  · intro e
    have e := of_decide_eq_false e
    apply q_asg
    intro d hd
    have s1 := same_new (o := .dK []) hd
    have e1 : (upd H d (.dK [])) d = some (.dK []) := upd_same
    generalize upd H d (.dK []) = H1 at s1 e1 ⊢
    refine q_forL (fun i σ H' => Same H H' ∧ ∃ kvs x y z, σ = [some v1, some (.ref ga), some (.ref fa), some v4, some (.ref d), x, y, z] ∧ H' d = some (.dK kvs) ∧ kvs.length ≤ 16 * i ∧
        ∀ j : Nat, (valV kvs (Sum.inl (j : Int))).isSome = true ↔ ∃ f ∈ fs.take i, f.2 = top ∧ j < cs.length ∧ win cs f.1 j = true)
      (val_var rfl) (s1.seq hf) ⟨s1, [], _, _, _, rfl, e1, Nat.zero_le _, fun j => by simp [valV_nil]⟩ (fun i σ H' _ z => z.1.seq hf) ?_ ?_
    · rintro i x σ H' hx ⟨s, kvs, x5, y5, z5, rfl, hd', len, mem⟩
      obtain ⟨f, hfi, b, xh, xt, rfl, hTb, h1, h2⟩ := fal.got hx
      have hi64 : i < fs.length := (List.getElem?_eq_some_iff.mp hfi).1
      refine ⟨b, [xh, xt], rfl, (tk_of s).sq hTb, rfl, xh, [xt], rfl, xt, [], rfl, rfl, ?_⟩
      have h2' := h2.mono (tk_of s)
      have hT' := hT.mono (tk_of s)
      have take1 : fs.take (i + 1) = fs.take i ++ [f] := by rw [List.take_add_one, hfi]; rfl
      apply s_if0
      · apply ans_vt
        exact v_eqP (val_var rfl) (val_var rfl) h2' hT'
      · intro ef
        have ef := of_decide_eq_true ef
        apply s_forC
        apply c_call2
        · exact val_var rfl
        · exact val_var rfl
        refine ⟨_, _, rfl, cs, f.1, hC.monoC s, h1.mono (tk_of s), by omega, fun p H2 hp s2 e2 => ?_⟩
        have hne : d ≠ p := fun z => by rw [z] at hd'; rw [hd'] at hp; cases hp
        refine forG_inq (xs := (kept cs.length (win cs f.1)).map nv) (fun k σ H3 => Same H H3 ∧ H3 p = some (.lst ((kept cs.length (win cs f.1)).map nv)) ∧ ∃ kvs z, σ = [some v1, some (.ref ga), some (.ref fa), some v4, some (.ref d), some xh, some xt, z] ∧ H3 d = some (.dK kvs) ∧ kvs.length ≤ 16 * i + k ∧
            ∀ j : Nat, (valV kvs (Sum.inl (j : Int))).isSome = true ↔ (∃ f ∈ fs.take i, f.2 = top ∧ j < cs.length ∧ win cs f.1 j = true) ∨ j ∈ (kept cs.length (win cs f.1)).take k)
          (SqL.of e2) ⟨s.trans s2, e2, kvs, _, rfl, s2 _ _ hd', len, fun j => by rw [mem]; simp⟩ (fun k σ H3 _ z => SqL.of z.2.1) ?_ ?_
        · rintro k u σ H3 hu ⟨s3, ep, kvs, z, rfl, hd3, len3, mem3⟩
          obtain ⟨j, hj, rfl⟩ := map_at hu
          have hk16 : k < 16 := by
            have h9 := (List.getElem?_eq_some_iff.mp hj).1
            have := kept_len cs.length (win cs f.1)
            omega
          refine s_dputI (j := (j : Int)) val_c (val_var rfl) (val_var rfl) hd3 (by omega) ?_
          refine ⟨same_mut s3 hd, ?_, _, _, rfl, upd_same, ?_, fun j' => ?_⟩
          · rw [upd_ne hne.symm]
            exact ep
          · have := length_putK kvs (Sum.inl (j : Int)) (.bl true)
            omega
          · rw [valV_put, List.take_add_one, hj]
            by_cases ej : j' = j
            · subst ej
              rw [if_pos rfl]
              exact ⟨fun _ => .inr (by simp), fun _ => rfl⟩
            · rw [if_neg (fun z => ej (by
                have := Sum.inl.inj z
                omega)), mem3]
              constructor
              · rintro (z | z)
                · exact .inl z
                · exact .inr (List.mem_append_left _ z)
              · rintro (z | z)
                · exact .inl z
                · rcases List.mem_append.mp z with z | z
                  · exact .inr z
                  · exact absurd (by simpa using z) ej
        · rintro σ H3 ⟨s3, ep, kvs, z, rfl, hd3, len3, mem3⟩
          refine ⟨s3, kvs, _, _, _, rfl, hd3, ?_, fun j => ?_⟩
          · have := kept_len cs.length (win cs f.1)
            rw [List.length_map] at len3
            omega
          · have tk3 : (kept cs.length (win cs f.1)).take ((kept cs.length (win cs f.1)).map nv).length = kept cs.length (win cs f.1) := List.take_of_length_le (by rw [List.length_map]; exact Nat.le_refl _)
            rw [mem3, tk3, take1, kept_mem]
            constructor
            · rintro (⟨f', a, b⟩ | z)
              · exact ⟨f', List.mem_append_left _ a, b⟩
              · exact ⟨f, List.mem_append_right _ (List.mem_singleton.mpr rfl), ef, z.1, z.2⟩
            · rintro ⟨f', a, b⟩
              rcases List.mem_append.mp a with a | a
              · exact .inl ⟨f', a, b⟩
              · have a := List.mem_singleton.mp a
                subst a
                exact .inr ⟨b.2.1, b.2.2⟩
      · intro ef
        have ef := of_decide_eq_false ef
        refine ⟨s, kvs, _, _, _, rfl, hd', by omega, fun j => ?_⟩
        rw [mem, take1]
        constructor
        · rintro ⟨f', a, b⟩
          exact ⟨f', List.mem_append_left _ a, b⟩
        · rintro ⟨f', a, b⟩
          rcases List.mem_append.mp a with a | a
          · exact ⟨f', a, b⟩
          · have a := List.mem_singleton.mp a
            subst a
            exact absurd b.1 ef
    · rintro σ H' ⟨s, kvs, x5, y5, z5, rfl, hd', len, mem⟩
      have hg' : SqL K H' ga (g.map nv) := s.seq hg
      apply s_retc
      refine c_lcL (fun k => (valV kvs (Sum.inl ((g.getD k 0 : Nat) : Int))).isSome) (fun k v _ => v = nv (g.getD k 0)) hR_val (val_var rfl) hg' (by rw [List.length_map]; omega) (fun k u H3 hu s3 => ?_) (fun k u H3 hu s3 _ => ?_) ?_
      · obtain ⟨j, hj, rfl⟩ := map_at hu
        rw [getD_of hj]
        exact a_dinI (j := (j : Int)) (val_var rfl) (val_var rfl) (s3 _ _ hd')
      · obtain ⟨j, hj, rfl⟩ := map_at hu
        rw [getD_of hj]
        exact EvR.val (val_var rfl)
      · intro p ys H3 hp s3 e3 al
        have e4 := All2.map_eq (f := fun k => nv (g.getD k 0)) al
        rw [List.length_map] at e4
        have e5 : ys = (g.filter fun (j : Nat) => (valV kvs (Sum.inl (j : Int))).isSome).map nv := by
          rw [e4, ← kept_filter (fun (j : Nat) => (valV kvs (Sum.inl (j : Int))).isSome), List.map_map]
          rfl
        rw [e5] at e3
        refine q p _ H3 (s.free hp) (s.trans s3) e3 List.filter_sublist fun i => ?_
        have tkf : fs.take fv.length = fs := List.take_of_length_le (by rw [fal.1]; exact Nat.le_refl _)
        rw [List.mem_filter, mem, tkf]
        constructor
        · rintro ⟨a, f, b, c, _, d⟩
          exact ⟨a, .inr ⟨f, b, c, d⟩⟩
        · rintro ⟨a, z | ⟨f, b, c, d⟩⟩
          · exact absurd z e
          · exact ⟨a, f, b, c, gn i a, d⟩
theorem ok_halted {P : Program} {w : World} {K : PySem.W.Frag} {mg : Str → Option Value} {base : Heap} (T : Txt K mg) : Okf P w K mg base 3 "halted" ["claims", "places", "heap_fills", "top"] (sp_halted K) := by
  obtain ⟨fd, F0⟩ := T.c.def_ 19 (d := d_halted) rfl
  have F : FnP K "halted" s_halted (He.ga K "halted") fd := F0
  have h_places_within := ok_places_within (P := P) (w := w) (base := base) T
  refine ⟨_, fd, F.ok sc_halted (fun vs H Q E h => ?_) (fun cdv A outer s H vs Q E hr h => ⟨t_halted K, PSs.nox ?_, pure_halted T vs H Q E h⟩), F.bindsN (fun _ _ _ _ _ _ us hl => match us, hl with | [_, _, _, _], _ => rfl), F.kp, T.glo 19 rfl⟩
  · obtain ⟨_, _, _, _, rfl, _⟩ := h
    rfl
  · exact (pss_cons (ps_if (pt_cmpR (op_eqD hr.units) (pv 3) (pe_glob rfl (T.glo 52 rfl) rfl) (nomark _))
  (pss_one (ps_ret (pe_callTy call_list_of (by rfl) (T.free 59 rfl) (by decide +kernel) (pa_cons (pv 1) pa_nil))))
  pss_nil)
  (pss_cons (ps_set (i := 4) sc_halted.nd rfl (by first | exact Or.inl rfl | exact Or.inr rfl) pe_dnewK)
  (pss_cons (ps_for PassesOwn.never rfl (pi_list (pv 2)) (pg_tup rfl (pgs_cons (pg_name (i := 5) sc_halted.nd rfl (by first | exact Or.inl rfl | exact Or.inr rfl)) (pgs_cons (pg_name (i := 6) sc_halted.nd rfl (by first | exact Or.inl rfl | exact Or.inr rfl)) pgs_nil)))
  (pss_one (ps_if (pt_cmpR (op_eqD hr.units) (pv 6) (pv 3) (nomark _))
  (pss_one (ps_for PassesOwn.never rfl (pi_list (pe_cf h_places_within hr (by decide) rfl (pa_cons (pv 0) (pa_cons (pv 5) pa_nil)))) (pg_name (i := 7) sc_halted.nd rfl (by first | exact Or.inl rfl | exact Or.inr rfl))
  (pss_one (ps_dput (hu_of hr) (pv 4) (pv 7) pe_bl rfl))))
  pss_nil)))
  (pss_one (ps_ret (pe_lc (own := [("at", 7)]) (g := (gName 7)) (tt := (tB (tDIn (tVar 7) (tVar 4)))) rfl sc_halted.nd (pi_list (pv 1)) (blkOk_by (own := [("at", 7)]) (N := N_halted) (sc := defScope s_halted) (by decide +kernel)) (fun _ _ _ _ _ => (pg_name (i := 7) sc_halted.nd rfl (by first | exact Or.inl rfl | exact Or.inr rfl))) (fun _ _ _ _ _ => (pts_one (pt_cmp (pc_din (hu_of hr) (pv 7) (pv 4))))) (fun _ _ _ _ _ => (pv 7))))))))
/-- what is given to the filling of a rank -/
structure FilOk (ws : List Int) (cs : List Cl) (ps : List Rat) (pl : List Nat) (r : Int) (N0 D V g M : Nat) (e : Nat → Nat) : Prop where
  len : ps.length = cs.length
  n16 : cs.length ≤ 16
  m6 : ws.length ≤ 6
  nd : pl.Nodup
  rk : (csOf ws cs).Rk (pf ps) r pl
  pay : (csOf ws cs).Pay (pf ps)
  pz : ∀ i, i ∈ pl → pf ps i = 0
  dn : (csOf ws cs).Dn D g M e
  dN : D ∣ N0
  n0 : 0 < N0
  iz : ∀ i, i < cs.length → Iz (pf ps i) N0
  sumD : sm cs.length (csOf ws cs).due ≤ (V : Rat)
  sumW : sm ws.length (csOf ws cs).w ≤ (V : Rat)
  v1 : 1 ≤ V
  big : 2 * V * (N0 * M ^ pl.length) * D < B1
def sp_filled (K : PySem.W.Frag) : Sp := fun vs H Q _ => ∃ v1 v2 v3 v4, vs = [v1, v2, v3, v4] ∧ ∃ (ws : List Int) (cs : List Cl) (ps : List Rat) (pl : List Nat) (r : Int) (N0 D V g M : Nat) (e : Nat → Nat), isLI K H v1 ws ∧ isL K H (isC K H) v2 cs ∧ isL K H (isP K H) v3 ps ∧ isLN K H v4 pl ∧ FilOk ws cs ps pl r N0 D V g M e ∧
  ∀ p ys qs l N H', H p = none → Same H H' → H' p = some (.lst ys) → All2 (isP K H') ys qs → qs.length = cs.length → (csOf ws cs).Fi (pf ps) r pl [] (pf qs) l → D ∣ N → 0 < N → N ≤ N0 * M ^ pl.length → (∀ i, i < cs.length → Iz (pf qs i) N) → Q (.ref p) H'
/-- slots: worths 0, claims 1, parts 2, places 3, now 4, at 5, going 6, heap_fills 7, top 8, done 9 -/
abbrev N_filled : List Str := ["worths", "claims", "parts", "places", "now", "at", "going", "heap_fills", "top", "done"]
theorem sc_filled : FnScope N_filled ["worths", "claims", "parts", "places"] (defScope s_filled) := ⟨rfl, rfl, rfl, by decide +kernel, rfl, by decide +kernel, by decide +kernel⟩
def t_filled (K : PySem.W.Frag) : TS := tSeq (tAsg (tCB (kList K) (tCons (tVar 2) tNil)) (gName 4))
  (tSeq (tFor (iList K (tVar 3)) (gName 5)
  (tAsg (tC (.ref (He.ga K "NOUGHT"))) (gSub (tVar 4) (tVar 5) rSetL)))
  (tSeq (tAsg (tCB (kList K) (tCons (tVar 3) tNil)) (gName 6))
  (tSeq (tWhile (tTest (tOp (rNeD K) (tVar 6) (tLst tNil)))
  (tSeq (tAsg (tCall (sp_measured K) [] E0 (tCons (tVar 0) (tCons (tVar 1) (tCons (tVar 4) (tCons (tVar 6) tNil))))) (gName 7))
  (tSeq (tAsg (tCall (sp_least_fill K) [] E0 (tCons (tVar 7) tNil)) (gName 8))
  (tSeq (tAsg (tCall (sp_halted K) [] E0 (tCons (tVar 1) (tCons (tVar 6) (tCons (tVar 7) (tCons (tVar 8) tNil))))) (gName 9))
  (tSeq (tFor (iList K (tVar 9)) (gName 5)
  (tAsg (tCall (sp_times K) [] E0 (tCons (tOp (rIxT K) (tOp (rIxL K) (tVar 1) (tVar 5)) (tC (.int 0))) (tCons (tVar 8) tNil))) (gSub (tVar 4) (tVar 5) rSetL)))
  (tAsg (tLc (iList K (tVar 6)) (gName 5) (tTest (tOp (rIn K true) (tVar 5) (tVar 9))) (tVar 5) [5]) (gName 6)))))))
  (tRet (tVar 4)))))
theorem pf_set {qs : List Rat} {j : Nat} {x : Rat} (h : j < qs.length) (i : Nat) : pf (qs.set j x) i = if i = j then x else pf qs i := by
  unfold pf
  rw [List.getD_eq_getElem?_getD, List.getD_eq_getElem?_getD]
  by_cases e : i = j
  · subst e
    rw [List.getElem?_set_self h, if_pos rfl]
    rfl
  · rw [List.getElem?_set_ne (fun z => e z.symm), if_neg e]
theorem set_same {qs : List Rat} {j : Nat} (h : pf qs j = 0) : qs.set j 0 = qs := by
  refine List.ext_getElem? fun i => ?_
  by_cases e : i = j
  · subst e
    by_cases hi : i < qs.length
    · rw [List.getElem?_set_self hi]
      unfold pf at h
      rw [List.getD_eq_getElem?_getD] at h
      rw [List.getElem?_eq_getElem hi] at h ⊢
      rw [← h]
      rfl
    · rw [List.getElem?_eq_none (by rw [List.length_set]; omega), List.getElem?_eq_none (by omega)]
  · rw [List.getElem?_set_ne (fun z => e z.symm)]
section
variable {ws : List Int} {cs : List Cl}
theorem ext_h (ok : (csOf ws cs).Ok) (h : Hs) : ∃ k ∈ subs ws.length, (∀ i, i < cs.length → inn ((csOf ws cs).tou i) (hs k) = inn ((csOf ws cs).tou i) h) ∧ ∀ (now : Nat → Rat) (g : List Nat), (csOf ws cs).room now g (hs k) = (csOf ws cs).room now g h ∧ (csOf ws cs).need g (hs k) = (csOf ws cs).need g h := by
  obtain ⟨k, hk, e⟩ := subs_all h ws.length
  have ef : ∀ f, f < ws.length → hs k f = h f := fun f hf => by
    unfold hs
    rw [Bool.eq_iff_iff, decide_eq_true_iff, e f]
    exact ⟨fun z => z.2, fun z => ⟨hf, z⟩⟩
  have ei : ∀ i, i < cs.length → inn ((csOf ws cs).tou i) (hs k) = inn ((csOf ws cs).tou i) h := fun i hi => by
    rw [Bool.eq_iff_iff, inn_iff, inn_iff]
    have ht := ok.tou i hi
    constructor
    · intro z p hp
      rw [← ef p (ht p hp)]
      exact z p hp
    · intro z p hp
      rw [ef p (ht p hp)]
      exact z p hp
  refine ⟨k, hk, ei, fun now g => ⟨?_, ?_⟩⟩
  · unfold Cs.room Cs.W
    have e1 : (sm (csOf ws cs).m fun f => if hs k f = true then (csOf ws cs).w f else 0) = sm (csOf ws cs).m fun f => if h f = true then (csOf ws cs).w f else 0 := sm_congr fun f hf => by rw [ef f hf]
    have e2 : (sm (csOf ws cs).n fun i => if inn ((csOf ws cs).tou i) (hs k) = true ∧ i ∉ g then now i else 0) = sm (csOf ws cs).n fun i => if inn ((csOf ws cs).tou i) h = true ∧ i ∉ g then now i else 0 := sm_congr fun i hi => by rw [ei i hi]
    rw [e1, e2]
  · unfold Cs.need
    exact sm_congr fun i hi => by rw [ei i hi]
theorem minF_le : ∀ {fs : List (List Nat × Rat)} {a : Rat}, (fs.foldl (fun a f => min a f.2) a ≤ a) ∧ ∀ f ∈ fs, fs.foldl (fun a f => min a f.2) a ≤ f.2
  | [], a => ⟨Rat.le_refl, fun f hf => (nomatch hf)⟩
  | f :: fs, a => by
    obtain ⟨h1, h2⟩ := minF_le (fs := fs) (a := min a f.2)
    have k1 : min a f.2 ≤ a := by grind
    have k2 : min a f.2 ≤ f.2 := by grind
    refine ⟨Rat.le_trans h1 k1, fun g hg => ?_⟩
    rcases List.mem_cons.mp hg with rfl | hg
    · exact Rat.le_trans h1 k2
    · exact h2 g hg
theorem minF_att : ∀ {fs : List (List Nat × Rat)} {a : Rat}, (fs.foldl (fun a f => min a f.2) a = a) ∨ ∃ f ∈ fs, fs.foldl (fun a f => min a f.2) a = f.2
  | [], a => .inl rfl
  | f :: fs, a => by
    rcases minF_att (fs := fs) (a := min a f.2) with h | ⟨g, hg, h⟩
    · have h : List.foldl (fun a f => min a f.2) a (f :: fs) = min a f.2 := h
      by_cases e : a ≤ f.2
      · exact .inl (by rw [h]; grind)
      · exact .inr ⟨f, List.mem_cons_self, by rw [h]; grind⟩
    · exact .inr ⟨g, List.mem_cons_of_mem _ hg, h⟩
theorem turn_of (ok : (csOf ws cs).Ok) {now : Nat → Rat} {g ds : List Nat} {fs : List (List Nat × Rat)} (hg : ∀ i ∈ g, i < cs.length) (m : Meas (csOf ws cs) ws.length now g fs) (hd : ∀ i, i ∈ ds ↔ i ∈ g ∧ (minF fs = 1 ∨ ∃ f ∈ fs, f.2 = minF fs ∧ win cs f.1 i = true)) :
    (csOf ws cs).Turn now g (minF fs) ds where
  le1 := minF_le.1
  le := fun h hn => by
    obtain ⟨k, hk, _, e⟩ := ext_h ok h
    obtain ⟨e1, e2⟩ := e now g
    rw [← e1, ← e2]
    exact minF_le.2 (k, _) ((m.mem k _).mpr ⟨hk, by rw [e2]; exact hn, rfl⟩)
  att := by
    rcases minF_att (fs := fs) (a := 1) with h | ⟨f, hf, h⟩
    · exact .inl h
    · obtain ⟨_, b, c⟩ := (m.mem f.1 f.2).mp hf
      exact .inr ⟨hs f.1, b, h.trans c⟩
  done := fun i => by
    rw [hd]
    constructor
    · rintro ⟨a, b | ⟨f, b, c, d⟩⟩
      · exact ⟨a, .inl b⟩
      · obtain ⟨_, b2, c2⟩ := (m.mem f.1 f.2).mp b
        exact ⟨a, .inr ⟨hs f.1, b2, c2.symm.trans c, d⟩⟩
    · rintro ⟨a, b | ⟨h, b, c, d⟩⟩
      · exact ⟨a, .inl b⟩
      · obtain ⟨k, hk, ei, e⟩ := ext_h ok h
        obtain ⟨e1, e2⟩ := e now g
        refine ⟨a, .inr ⟨(k, _), (m.mem k _).mpr ⟨hk, by rw [e2]; exact b, rfl⟩, ?_, ?_⟩⟩
        · show _ / _ = _
          rw [e1, e2, c]
        · show inn _ _ = true
          rw [← d, ← ei i (hg i a)]
          rfl
variable {ps qs : List Rat} {pl g : List Nat} {r : Int} {N0 D V gg M N : Nat} {e : Nat → Nat} {l : Rat}
theorem FilOk.big2 (F : FilOk ws cs ps pl r N0 D V gg M e) (hN : N ≤ N0 * M ^ pl.length) : 2 * V * N * D < B1 := by
  refine Nat.lt_of_le_of_lt ?_ F.big
  exact Nat.mul_le_mul_right D (Nat.mul_le_mul_left (2 * V) hN)
theorem FilOk.bdN (F : FilOk ws cs ps pl r N0 D V gg M e) (h0 : 0 < N) (hN : N ≤ N0 * M ^ pl.length) : Bd N V := by
  have h := F.big2 hN
  have d0 := F.dn.d0
  have v1 := F.v1
  have h1 : 2 * V * N ≤ 2 * V * N * D := Nat.le_mul_of_pos_right _ d0
  have e1 : 2 * V * N = 2 * (V * N) := Nat.mul_assoc 2 V N
  have h3 : N ≤ V * N := Nat.le_mul_of_pos_left N (by omega)
  exact ⟨h0, by omega, by omega⟩
theorem FilOk.fill (F : FilOk ws cs ps pl r N0 D V gg M e) (Fi : (csOf ws cs).Fi (pf ps) r pl g (pf qs) l) (hl : qs.length = cs.length) (h0 : 0 < N) (hN : N ≤ N0 * M ^ pl.length) (hz : ∀ i, i < cs.length → Iz (pf qs i) N) : FillOk ws cs qs N D V where
  len := hl
  n16 := F.n16
  m6 := F.m6
  ok := Fi.ok
  p0 := fun i hi => (Fi.now_nn hi).1
  iz := hz
  sumP := Rat.le_trans (sm_le fun i hi => (Fi.now_nn hi).2) F.sumD
  sumW := F.sumW
  bd := F.bdN h0 hN
  izD := fun i hi => F.dn.due_iz hi
  sumD := F.sumD
  d0 := F.dn.d0
  v1 := F.v1
  big := F.big2 hN
end
theorem pure_filled {K : PySem.W.Frag} {mg : Str → Option Value} (T : Txt K mg) (vs : List V) (H : Hp) (Q : VK) (E : XK) (h : sp_filled K vs H Q E) : t_filled K { nx := fun _ H' => Q .non H', rt := Q } (start N_filled vs) H := by
  obtain ⟨v1, v2, v3, v4, rfl, ws, cs, ps, pl, r, N0, D, V, gg, M, e, hW, hC, hP, hPl, F, q⟩ := h
  obtain ⟨pa, pv, rfl, hp, pal⟩ := id hP
  obtain ⟨la, rfl, hla⟩ := id hPl
  obtain ⟨ca, cv, rfl, hc, cl⟩ := id hC
  have pl16 : pl.length ≤ 16 := by
    have h4 := List.Nodup.length_le_of_subset F.nd (l₂ := List.range cs.length) (fun x hx => List.mem_range.mpr (F.rk.pl x hx).1)
    rw [List.length_range] at h4
    have := F.n16
    omega
  have c16 := F.n16
  unfold t_filled
  apply q_asg
  apply c_listL
  · exact val_var rfl
  · exact hp
  intro p hpn
  have s1 := same_new (o := .lst pv) hpn
  have e1 : (upd H p (.lst pv)) p = some (.lst pv) := upd_same
  generalize upd H p (.lst pv) = H1 at s1 e1 ⊢
  refine q_forL (fun i σ H' => Same H H' ∧ ∃ ys x, σ = [some v1, some (.ref ca), some (.ref pa), some (.ref la), some (.ref p), x, none, none, none, none] ∧ H' p = some (.lst ys) ∧ All2 (isP K H') ys ps) (val_var rfl) (s1.seq hla) ⟨s1, pv, none, rfl, e1, pal.mono fun v x z => z.mono (tk_of s1)⟩ (fun i σ H' _ z => z.1.seq hla) ?_ ?_
  · rintro i x σ H' hx ⟨s, ys, y, rfl, he, al⟩
    obtain ⟨j, hj, rfl⟩ := map_at hx
    have hjp : j ∈ pl := List.mem_of_getElem? hj
    have hjn := (F.rk.pl j hjp).1
    have hjl : j < ys.length := by rw [al.1, F.len]; exact hjn
    refine s_setL val_c (val_var rfl) (val_var rfl) he hjl ?_
    have k : TK H' (upd H' p (.lst (ys.set j (.ref (He.ga K "NOUGHT"))))) := tk_lst he
    refine ⟨same_mut s hpn, _, _, rfl, upd_same, ?_⟩
    have a := (al.mono fun v x z => z.mono k).set (part0 T _) j
    rwa [set_same (F.pz j hjp)] at a
  · rintro σ H' ⟨s, ys, y, rfl, he, al⟩
    apply q_asg
    apply c_listL
    · exact val_var rfl
    · exact s.seq hla
    intro ga hga
    have s2 := same_new (o := .lst (pl.map nv)) hga
    have e2 : (upd H' ga (.lst (pl.map nv))) ga = some (.lst (pl.map nv)) := upd_same
    generalize upd H' ga (.lst (pl.map nv)) = H2 at s2 e2 ⊢
    refine q_whileC (fun m σ H' => Same H H' ∧ ∃ ys qs g ga N l x y z w, σ = [some v1, some (.ref ca), some (.ref pa), some (.ref la), some (.ref p), x, some (.ref ga), y, z, w] ∧ H' p = some (.lst ys) ∧ All2 (isP K H') ys qs ∧ qs.length = cs.length ∧
      H' ga = some (.lst (g.map nv)) ∧ g.length = m ∧ g.length ≤ pl.length ∧ (csOf ws cs).Fi (pf ps) r pl g (pf qs) l ∧ D ∣ N ∧ 0 < N ∧ N ≤ N0 * M ^ (pl.length - g.length) ∧ ∀ i, i < cs.length → Iz (pf qs i) N)
      pl.length ⟨s.trans s2, ys, ps, pl, ga, N0, 0, _, _, _, _, rfl, s2 _ _ he, al.mono fun v x z => z.mono (tk_of s2), F.len, e2, rfl, Nat.le_refl _, F.rk.start F.pay F.pz, F.dN, F.n0, by rw [Nat.sub_self, Nat.pow_zero, Nat.mul_one]; exact Nat.le_refl _, F.iz⟩ ?_
    rintro m σ H3 ⟨s3, ys, qs, g, ga, N, l, x, y, z, w, rfl, he3, al3, ql, hg3, rfl, hgl, Fi, dN, n0, hN, hz⟩
    have m1 := F.dn.m0
    have hN2 : N ≤ N0 * M ^ pl.length := Nat.le_trans hN (Nat.mul_le_mul_left N0 (Nat.pow_le_pow_right m1 (by omega)))
    have gn : ∀ i ∈ g, i < cs.length := fun i hi => (F.rk.pl i (Fi.sub i hi)).1
    apply t_op
    refine (val_var rfl : Val (tVar 6) _ H3 (.ref ga)) _ ?_
    apply c_lst0
    intro p4 hp4
    have s4 := same_new (o := .lst []) hp4
    have e4 : (upd H3 p4 (.lst [])) p4 = some (.lst []) := upd_same
    generalize upd H3 p4 (.lst []) = H4 at s4 e4 ⊢
    have hG4 : isLN K H4 (.ref ga) g := ⟨ga, rfl, SqL.of (s4 _ _ hg3)⟩
    refine neD_nil (k := 0) (dp_LN hG4) (fun x => sd_int 0 _) (by decide) rfl (SqL.of e4) ⟨_, rfl, ?_⟩
    by_cases hne : g = []
    · subst hne
      refine whG_no ?_
      apply s_ret (val_var rfl)
      exact q p ys qs l N H4 hpn (s3.trans s4) (s4 _ _ he3) (al3.mono fun v x z => z.mono (tk_of s4)) ql Fi dN n0 hN2 hz
    · rw [decide_eq_false hne]
      refine whG_yes ?_
      have R := F.fill Fi ql n0 hN2 hz
      have s34 := s3.trans s4
      have hP4 : isL K H4 (isP K H4) (.ref p) qs := ⟨p, ys, rfl, SqL.of (s4 _ _ he3), al3.mono fun v x z => z.mono (tk_of s4)⟩
      apply q_asg
      apply c_call4
      · exact val_var rfl
      · exact val_var rfl
      · exact val_var rfl
      · exact val_var rfl
      refine ⟨_, _, _, _, rfl, ws, cs, qs, g, N, D, V, hW.mono s34, hC.monoC s34, hP4, hG4, R, fun fa fv fs H5 hfa s5 e5 fal me => ?_⟩
      have hF5 : isL K H5 (isHF K H5) (.ref fa) fs := ⟨fa, fv, rfl, SqL.of e5, fal⟩
      apply q_asg
      apply c_call1
      · exact val_var rfl
      refine ⟨_, rfl, fs, hF5, me.fit, fun tv htv => ?_⟩
      have s35 := s34.trans s5
      have ftop : Fit (minF fs) := minF_fit fit1 me.fit
      apply q_asg
      apply c_call4
      · exact val_var rfl
      · exact val_var rfl
      · exact val_var rfl
      · exact val_var rfl
      refine ⟨_, _, _, _, rfl, cs, g, fs, minF fs, hC.monoC s35, hG4.mono s5, hF5, htv, c16, by omega, me.len, gn, fun da ds H6 hda s6 e6 dsub dmem => ?_⟩
      have tr := turn_of Fi.ok gn me dmem
      have s36 := s35.trans s6
      have s46 := s5.trans s6
      have he6 : H6 p = some (.lst ys) := s6 _ _ (s5 _ _ (s4 _ _ he3))
      have hdn : H p = none := hpn
      have hne2 : da ≠ p := fun z => by
        rw [z, s5 _ _ (s4 _ _ he3)] at hda
        cases hda
      have hga6 : H6 ga = some (.lst (g.map nv)) := s6 _ _ (s5 _ _ (s4 _ _ hg3))
      have hnp : ga ≠ p := fun z => by
        -- a list of ints is no row: what stands at p is of the length of cs with refs; use freshness
        have h1 := hg3
        rw [z, he3] at h1
        have h2 : ys = g.map nv := by
          have h3 := Option.some.inj h1
          exact HO.lst.inj h3
        obtain ⟨i, hi⟩ := List.exists_mem_of_ne_nil g hne
        obtain ⟨k, hk⟩ := List.getElem?_of_mem hi
        have h4 : ys[k]? = some (nv i) := by rw [h2]; exact nv_at hk
        obtain ⟨_, _, a, h5, _⟩ := al3.got h4
        cases h5
      refine q_forL (xs := ds.map nv) (fun k σ H' => Same H H' ∧ H' da = some (.lst (ds.map nv)) ∧ H' ga = some (.lst (g.map nv)) ∧ isP K H' tv (minF fs) ∧ ∃ ys rs x, σ = [some v1, some (.ref ca), some (.ref pa), some (.ref la), some (.ref p), x, some (.ref ga), some (.ref fa), some tv, some (.ref da)] ∧ H' p = some (.lst ys) ∧ All2 (isP K H') ys rs ∧ rs.length = cs.length ∧
        ∀ i, pf rs i = (csOf ws cs).put (pf qs) (ds.take k) (minF fs) i)
        (val_var rfl) (SqL.of e6) ⟨s36, e6, hga6, htv.mono (tk_of s6), ys, qs, _, rfl, he6, al3.mono fun v x z => z.mono (tk_of (s4.trans s46)), ql, fun i => (if_neg (by simp)).symm⟩ (fun k σ H' _ z => SqL.of z.2.1) ?_ ?_
      · rintro k u σ H7 hu ⟨s7, hd7, hg7, ht7, zs, rs, x7, rfl, he7, al7, rl, hrs⟩
        obtain ⟨j, hj, rfl⟩ := map_at hu
        have hjd : j ∈ ds := List.mem_of_getElem? hj
        have hjn : j < cs.length := gn j ((dmem j).mp hjd).1
        obtain ⟨cvj, ecv, hcj⟩ := cl.get (List.getElem?_eq_getElem hjn)
        obtain ⟨ja, jd, jt, rfl, hjT, hjD, hjH⟩ := id hcj
        have ejd : cs[j] = cs.getD j dCl := (getD_of (List.getElem?_eq_getElem hjn)).symm
        have fd : Fit (cs[j]).due := by
          rw [ejd]
          exact fit_nn R.bdD (R.izD j hjn) (Fi.ok.due0 j hjn) (Rat.le_trans (sm_le_one (f := (csOf ws cs).due) hjn Fi.ok.due0) F.sumD)
        apply s_asgG
        apply c_call2
        · exact v_ixT (j := 0) (v_ixL (val_var rfl) (val_var rfl) (s7.seq hc) ecv) val_c ((tk_of s7).sq hjT) rfl
        · exact val_var rfl
        refine ⟨_, _, rfl, _, _, hjD.mono (tk_of s7), ht7, fd, ftop, fun v8 H8 s8 hv8 => ?_⟩
        have he8 := s8 _ _ he7
        refine g_setL (val_var rfl) (val_var rfl) he8 (by rw [al7.1, rl]; exact hjn) ?_
        have k8 : TK H8 (upd H8 p (.lst (zs.set j v8))) := tk_lst he8
        refine ⟨same_mut (s7.trans s8) hpn, ?_, ?_, (ht7.mono (tk_of s8)).mono k8, zs.set j v8, rs.set j ((cs[j]).due * minF fs), _, rfl, upd_same, ?_, by rw [List.length_set]; exact rl, fun i => ?_⟩
        · rw [upd_ne hne2]
          exact s8 _ _ hd7
        · rw [upd_ne hnp]
          exact s8 _ _ hg7
        · exact (al7.mono fun v x z => (z.mono (tk_of s8)).mono k8).set (hv8.mono k8) j
        · rw [pf_set (by rw [rl]; exact hjn), hrs]
          have take1 : ds.take (k + 1) = ds.take k ++ [j] := by rw [List.take_add_one, hj]; rfl
          rw [take1]
          unfold Cs.put
          by_cases e : i = j
          · subst e
            rw [if_pos rfl, if_pos (by simp), ejd]
            rfl
          · rw [if_neg e]
            by_cases e2 : i ∈ ds.take k
            · rw [if_pos e2, if_pos (List.mem_append_left _ e2)]
            · rw [if_neg e2, if_neg (fun z => (List.mem_append.mp z).elim e2 (fun z => e (by simpa using z)))]
      · rintro σ H7 ⟨s7, hd7, hg7, ht7, zs, rs, x7, rfl, he7, al7, rl, hrs⟩
        have tk1 : ds.take (ds.map nv).length = ds := List.take_of_length_le (by rw [List.length_map]; exact Nat.le_refl _)
        rw [tk1] at hrs
        apply s_asg
        refine c_lcL (fun k => !decide (g.getD k 0 ∈ ds)) (fun k v _ => v = nv (g.getD k 0)) hR_val (val_var rfl) (SqL.of hg7) (by rw [List.length_map]; omega) (fun k u H8 hu s8 => ?_) (fun k u H8 hu s8 _ => ?_) ?_
        · obtain ⟨j, hj, rfl⟩ := map_at hu
          rw [getD_of hj]
          apply ans_vt
          exact v_ninL (val_var rfl) (val_var rfl) (SqL.of (s8 _ _ hd7))
        · obtain ⟨j, hj, rfl⟩ := map_at hu
          rw [getD_of hj]
          exact EvR.val (val_var rfl)
        · intro p8 ws8 H8 hp8 s8 e8 al8
          have e9 := All2.map_eq (f := fun k => nv (g.getD k 0)) al8
          rw [List.length_map] at e9
          have e10 : ws8 = (g.filter fun (j : Nat) => !decide (j ∈ ds)).map nv := by
            rw [e9, ← kept_filter (fun (j : Nat) => !decide (j ∈ ds)), List.map_map]
            rfl
          rw [e10] at e8
          have hg' : ∀ i, i ∈ (g.filter fun (j : Nat) => !decide (j ∈ ds)) ↔ i ∈ g ∧ i ∉ ds := fun i => by
            rw [List.mem_filter]
            simp
          have Fi2 := Fi.turn tr hg'
          have efun : pf rs = (csOf ws cs).put (pf qs) ds (minF fs) := funext hrs
          rw [← efun] at Fi2
          obtain ⟨N', n0', d', le', hz'⟩ := tr.iz gn F.dn n0 dN hz
          rw [← efun] at hz'
          have hlt : (g.filter fun (j : Nat) => !decide (j ∈ ds)).length < g.length := by
            obtain ⟨i, hi1, hi2⟩ := Fi.progress tr hne
            have hle := List.length_filter_le (fun (j : Nat) => !decide (j ∈ ds)) g
            by_cases hEq : (g.filter fun (j : Nat) => !decide (j ∈ ds)).length = g.length
            · have := List.length_filter_eq_length_iff.mp hEq i hi1
              simp [hi2] at this
            · omega
          refine ⟨_, hlt, s7.trans s8, zs, rs, _, p8, N', minF fs, _, _, _, _, rfl, s8 _ _ he7, al7.mono fun v x z => z.mono (tk_of s8), rl, e8, rfl, by omega, Fi2, Nat.dvd_trans dN d', n0', ?_, hz'⟩
          refine Nat.le_trans le' (Nat.le_trans (Nat.mul_le_mul_right M hN) ?_)
          rw [Nat.mul_assoc, ← Nat.pow_succ]
          exact Nat.mul_le_mul_left N0 (Nat.pow_le_pow_right m1 (by omega))
theorem ok_filled {P : Program} {w : World} {K : PySem.W.Frag} {mg : Str → Option Value} {base : Heap} (T : Txt K mg) : Okf P w K mg base 7 "filled" ["worths", "claims", "parts", "places"] (sp_filled K) := by
  obtain ⟨fd, F0⟩ := T.c.def_ 20 (d := d_filled) rfl
  have F : FnP K "filled" s_filled (He.ga K "filled") fd := F0
  have h_measured := ok_measured (P := P) (w := w) (base := base) T
  have h_least_fill := ok_least_fill (P := P) (w := w) (base := base) T
  have h_halted := ok_halted (P := P) (w := w) (base := base) T
  have h_times := ok_times (P := P) (w := w) (base := base) T
  refine ⟨_, fd, F.ok sc_filled (fun vs H Q E h => ?_) (fun cdv A outer s H vs Q E hr h => ⟨t_filled K, PSs.nox ?_, pure_filled T vs H Q E h⟩), F.bindsN (fun _ _ _ _ _ _ us hl => match us, hl with | [_, _, _, _], _ => rfl), F.kp, T.glo 20 rfl⟩
  · obtain ⟨_, _, _, _, rfl, _⟩ := h
    rfl
  · exact (pss_cons (ps_set (i := 4) sc_filled.nd rfl (by first | exact Or.inl rfl | exact Or.inr rfl) (pe_callTy call_list_of (by rfl) (T.free 59 rfl) (by decide +kernel) (pa_cons (pv 2) pa_nil)))
  (pss_cons (ps_for PassesOwn.never rfl (pi_list (pv 3)) (pg_name (i := 5) sc_filled.nd rfl (by first | exact Or.inl rfl | exact Or.inr rfl))
  (pss_one (ps_asg (pe_glob rfl (T.glo 51 rfl) rfl) (pg_sub (pv 4) (pv 5) set_list))))
  (pss_cons (ps_set (i := 6) sc_filled.nd rfl (by first | exact Or.inl rfl | exact Or.inr rfl) (pe_callTy call_list_of (by rfl) (T.free 59 rfl) (by decide +kernel) (pa_cons (pv 3) pa_nil)))
  (pss_cons (ps_while PassesOwn.never (pt_cmpR (op_neD hr.units) (pv 6) (pe_lst pa_nil) (nomark _))
  (pss_cons (ps_set (i := 7) sc_filled.nd rfl (by first | exact Or.inl rfl | exact Or.inr rfl) (pe_cf h_measured hr (by decide) rfl (pa_cons (pv 0) (pa_cons (pv 1) (pa_cons (pv 4) (pa_cons (pv 6) pa_nil))))))
  (pss_cons (ps_set (i := 8) sc_filled.nd rfl (by first | exact Or.inl rfl | exact Or.inr rfl) (pe_cf h_least_fill hr (by decide) rfl (pa_cons (pv 7) pa_nil)))
  (pss_cons (ps_set (i := 9) sc_filled.nd rfl (by first | exact Or.inl rfl | exact Or.inr rfl) (pe_cf h_halted hr (by decide) rfl (pa_cons (pv 1) (pa_cons (pv 6) (pa_cons (pv 7) (pa_cons (pv 8) pa_nil))))))
  (pss_cons (ps_for PassesOwn.never rfl (pi_list (pv 9)) (pg_name (i := 5) sc_filled.nd rfl (by first | exact Or.inl rfl | exact Or.inr rfl))
  (pss_one (ps_asg (pe_cf h_times hr (by decide) rfl (pa_cons (pe_ix ix_tup (pe_ix ix_list (pv 1) (pv 5) (fun _ _ => rfl)) pe_int (fun _ _ => rfl)) (pa_cons (pv 8) pa_nil))) (pg_sub (pv 4) (pv 5) set_list))))
  (pss_one (ps_setLc (i := 6) (own := [("at", 5)]) (g := (gName 5)) (tt := (tTest (tOp (rIn K true) (tVar 5) (tVar 9)))) rfl sc_filled.nd rfl rfl (sw_true rfl rfl rfl (by decide +kernel)) (pi_list (pv 6)) (blkOk_by (own := [("at", 5)]) (N := N_filled) (sc := defScope s_filled) (by decide +kernel)) (fun _ _ _ _ _ => (pg_name (i := 5) sc_filled.nd rfl (by first | exact Or.inl rfl | exact Or.inr rfl))) (fun _ _ _ _ _ => (pts_one (pt_cmpR op_notIn_seq (pv 5) (pv 9) (by rfl)))) (fun _ _ _ _ _ => (pv 5)))))))))
  (pss_one (ps_ret (pv 4)))))))
def rks (cs : List Cl) : List Int := cs.map fun c => c.rk
def sp_ranks_of (K : PySem.W.Frag) : Sp := fun vs H Q _ => ∃ v1, vs = [v1] ∧ ∃ cs, isL K H (isC K H) v1 cs ∧ cs.length ≤ 16 ∧
  ∀ (p : Addr) (ns : List Int) (H' : Hp), H p = none → Same H H' → H' p = some (.lst (ns.map V.int)) → ns.Pairwise (· < ·) → (∀ k : Int, k ∈ ns ↔ k ∈ rks cs) → ns.length ≤ 16 → Q (.ref p) H'
/-- slots: claims 0, claim 1 -/
abbrev N_ranks_of : List Str := ["claims", "claim"]
theorem sc_ranks_of : FnScope N_ranks_of ["claims"] (defScope s_ranks_of) := ⟨rfl, rfl, rfl, by decide +kernel, rfl, by decide +kernel, by decide +kernel⟩
def t_ranks_of (w : World) (K : PySem.W.Frag) : TS := tRet (tCB (rSortedSet w) (tCons (tCB (rMkSet w K) (tCons (tLc (iList K (tVar 0)) (gName 1) tYes (tOp (rIxT K) (tVar 1) (tC (.int 2))) [1]) tNil)) tNil))
theorem pure_ranks_of {w : World} {K : PySem.W.Frag} {mg : Str → Option Value} (T : Txt K mg) (vs : List V) (H : Hp) (Q : VK) (E : XK) (h : sp_ranks_of K vs H Q E) : t_ranks_of w K { nx := fun _ H' => Q .non H', rt := Q } (start N_ranks_of vs) H := by
  obtain ⟨v1, rfl, cs, hC, c16, q⟩ := h
  obtain ⟨ca, cv, rfl, hc, cl⟩ := id hC
  unfold t_ranks_of
  apply s_retc
  apply c_cb1
  apply c_cb1
  refine c_lcL (fun _ => true) (fun k v _ => v = .int (cs.getD k dCl).rk) hR_val (val_var rfl) hc (by rw [cl.1]; omega) (fun k x H2 _ _ Q k => k) (fun k x H2 hx s2 _ => ?_) ?_
  · obtain ⟨c, hcc, a, d, t, rfl, hT, _, _⟩ := cl.got hx
    rw [getD_of hcc]
    exact EvR.val (v_ixT (j := 2) (val_var rfl) val_c ((tk_of s2).sq hT) rfl)
  · intro p ys H2 hp s2 e2 al
    have e3 := All2.map_eq (f := fun k => V.int (cs.getD k dCl).rk) al
    rw [kept_all, cl.1] at e3
    have e4 : ys = (rks cs).map V.int := by
      rw [e3, rks, List.map_map]
      exact map_range_getD (fun c : Cl => V.int c.rk) cs dCl
    rw [e4] at e2
    have rl : (rks cs).length = cs.length := List.length_map _
    refine ⟨p, rks cs, rfl, SqL.of e2, by omega, fun p3 c hp3 hc3 => ?_⟩
    have s3 := same_new (o := SetO w p3 (fun j => decide (j ∈ rks cs)) c) hp3
    have e5 : (upd H2 p3 (SetO w p3 (fun j => decide (j ∈ rks cs)) c)) p3 = some (SetO w p3 (fun j => decide (j ∈ rks cs)) c) := upd_same
    generalize upd H2 p3 (SetO w p3 (fun j => decide (j ∈ rks cs)) c) = H3 at s3 e5 ⊢
    refine ⟨p3, _, c, rfl, e5, by omega, fun ns p6 hpw hm hl hp6 => ?_⟩
    refine q p6 ns _ ((s2.trans s3).free hp6) ((s2.trans s3).trans (same_new hp6)) upd_same hpw (fun k => ?_) (by omega)
    rw [hm, decide_eq_true_iff]
theorem ok_ranks_of {P : Program} {w : World} {K : PySem.W.Frag} {mg : Str → Option Value} {base : Heap} (T : Txt K mg) : Okf P w K mg base 1 "ranks_of" ["claims"] (sp_ranks_of K) := by
  obtain ⟨fd, F0⟩ := T.c.def_ 21 (d := d_ranks_of) rfl
  have F : FnP K "ranks_of" s_ranks_of (He.ga K "ranks_of") fd := F0
  refine ⟨_, fd, F.ok sc_ranks_of (fun vs H Q E h => ?_) (fun cdv A outer s H vs Q E hr h => ⟨t_ranks_of w K, PSs.nox ?_, pure_ranks_of T vs H Q E h⟩), F.bindsN (fun _ _ _ _ _ _ us hl => match us, hl with | [_], _ => rfl), F.kp, T.glo 21 rfl⟩
  · obtain ⟨_, rfl, _⟩ := h
    rfl
  · exact (pss_one (ps_ret (pe_callB (cr_sortedSet rfl) (by rfl) (T.free 55 rfl) (by decide +kernel) (pa_cons (pe_callTy (cr_mkSet rfl) (by rfl) (T.free 58 rfl) (by decide +kernel) (pa_cons (pe_lc (own := [("claim", 1)]) (g := (gName 1)) (tt := tYes) rfl sc_ranks_of.nd (pi_list (pv 0)) (blkOk_by (own := [("claim", 1)]) (N := N_ranks_of) (sc := defScope s_ranks_of) (by decide +kernel)) (fun _ _ _ _ _ => (pg_name (i := 1) sc_ranks_of.nd rfl (by first | exact Or.inl rfl | exact Or.inr rfl))) (fun _ _ _ _ _ => pts_nil) (fun _ _ _ _ _ => (pe_ix ix_tup (pv 1) pe_int (fun _ _ => rfl)))) pa_nil)) pa_nil))))
/-- what is given to the sharing out -/
structure ShaOk (ws : List Int) (cs : List Cl) (D V g M : Nat) (e : Nat → Nat) : Prop where
  n16 : cs.length ≤ 16
  m6 : ws.length ≤ 6
  ok : (csOf ws cs).Ok
  dn : (csOf ws cs).Dn D g M e
  sumD : sm cs.length (csOf ws cs).due ≤ (V : Rat)
  sumW : sm ws.length (csOf ws cs).w ≤ (V : Rat)
  v1 : 1 ≤ V
  big : 2 * V * (D * M ^ 16) * D < B1
def sp_shared (K : PySem.W.Frag) : Sp := fun vs H Q _ => ∃ v1 v2, vs = [v1, v2] ∧ ∃ (ws : List Int) (cs : List Cl) (D V g M : Nat) (e : Nat → Nat), isLI K H v1 ws ∧ isL K H (isC K H) v2 cs ∧ ShaOk ws cs D V g M e ∧
  ∀ p ys qs N H', H p = none → Same H H' → H' p = some (.lst ys) → All2 (isP K H') ys qs → qs.length = cs.length → (csOf ws cs).Sh (pf qs) → D ∣ N → 0 < N → N ≤ D * M ^ 16 → (∀ i, i < cs.length → Iz (pf qs i) N) → Q (.ref p) H'
/-- slots: worths 0, claims 1, parts 2, rank 3, places 4, at 5 -/
abbrev N_shared : List Str := ["worths", "claims", "parts", "rank", "places", "at"]
theorem sc_shared : FnScope N_shared ["worths", "claims"] (defScope s_shared) := ⟨rfl, rfl, rfl, by decide +kernel, rfl, by decide +kernel, by decide +kernel⟩
def t_shared (K : PySem.W.Frag) : TS := tSeq (tAsg (tCall (sp_nought_row K) [] E0 (tCons (tCB (kLen K) (tCons (tVar 1) tNil)) tNil)) (gName 2))
  (tSeq (tFor (iList K (tCall (sp_ranks_of K) [] E0 (tCons (tVar 1) tNil))) (gName 3)
  (tSeq (tAsg (tLst tNil) (gName 4))
  (tSeq (tFor (iRng1 (tCons (tCB (kLen K) (tCons (tVar 1) tNil)) tNil)) (gName 5)
  (tIfS (tAnd (tTest (tOp rEq (tOp (rIxT K) (tOp (rIxL K) (tVar 1) (tVar 5)) (tC (.int 2))) (tVar 3))) (tTest (tOp (rNeD K) (tOp (rIxT K) (tOp (rIxL K) (tVar 1) (tVar 5)) (tC (.int 0))) (tC (.ref (He.ga K "NOUGHT"))))))
  (tDrop (tBM K "list" rAppend (tVar 4) (tCons (tVar 5) tNil)))
  tNext))
  (tAsg (tCall (sp_filled K) [] E0 (tCons (tVar 0) (tCons (tVar 1) (tCons (tVar 2) (tCons (tVar 4) tNil))))) (gName 2)))))
  (tRet (tVar 2)))
theorem kept_or {f g : Nat → Bool} (h : ∀ i, f i = true → g i = false) : ∀ n, (kept n f).length + (kept n g).length = (kept n fun i => f i || g i).length
  | 0 => rfl
  | n + 1 => by
    have ih := kept_or h n
    cases ef : f n with
    | true =>
      have eg := h n ef
      rw [kept_yes ef, kept_no eg, kept_yes (by show (f n || g n) = true; rw [ef]; rfl), List.length_append, List.length_append]
      show _ + 1 + _ = _ + 1
      omega
    | false =>
      cases eg : g n with
      | true =>
        rw [kept_no ef, kept_yes eg, kept_yes (by show (f n || g n) = true; rw [ef, eg]; rfl), List.length_append, List.length_append]
        show _ + (_ + 1) = _ + 1
        omega
      | false => rw [kept_no ef, kept_no eg, kept_no (by show (f n || g n) = false; rw [ef, eg]; rfl)]; exact ih
def okk (cs : List Cl) (i : Nat) : Bool := !decide ((cs.getD i dCl).due = 0)
def atR (cs : List Cl) (r : Int) (i : Nat) : Bool := decide ((cs.getD i dCl).rk = r) && okk cs i
def inR (cs : List Cl) (rs : List Int) (i : Nat) : Bool := decide ((cs.getD i dCl).rk ∈ rs) && okk cs i
theorem inR_snoc (cs : List Cl) (rs : List Int) (r : Int) : (fun i => inR cs rs i || atR cs r i) = inR cs (rs ++ [r]) := by
  funext i
  unfold inR atR
  rw [← Bool.and_or_distrib_right, ← Bool.decide_or]
  congr 1
  refine decide_eq_decide.mpr ?_
  rw [List.mem_append, List.mem_singleton]
theorem inR_no {cs : List Cl} {rs : List Int} {r : Int} (h : r ∉ rs) (i : Nat) (e : inR cs rs i = true) : atR cs r i = false := by
  unfold inR at e
  unfold atR
  rw [Bool.and_eq_true, decide_eq_true_iff] at e
  rw [decide_eq_false (fun z => h (by rw [← z]; exact e.1))]
  rfl
theorem pf_zeros (n i : Nat) : pf (List.replicate n 0) i = 0 := by
  unfold pf
  rw [List.getD_eq_getElem?_getD]
  by_cases h : i < n
  · rw [List.getElem?_replicate, if_pos h]
    rfl
  · rw [List.getElem?_eq_none (by rw [List.length_replicate]; omega)]
    rfl
theorem pure_shared {K : PySem.W.Frag} {mg : Str → Option Value} (T : Txt K mg) (vs : List V) (H : Hp) (Q : VK) (E : XK) (h : sp_shared K vs H Q E) : t_shared K { nx := fun _ H' => Q .non H', rt := Q } (start N_shared vs) H := by
  obtain ⟨v1, v2, rfl, ws, cs, D, V, gg, M, e, hW, hC, F, q⟩ := h
  obtain ⟨ca, cv, rfl, hc, cl⟩ := id hC
  have c16 := F.n16
  have m1 := F.dn.m0
  have d0 := F.dn.d0
  have el : (cv.length : Int) = (cs.length : Int) := by rw [cl.1]
  unfold t_shared
  apply q_asg
  apply c_call1
  · exact v_lenL (val_var rfl) hc
  refine ⟨_, rfl, cs.length, by rw [el], by omega, fun p0 ys0 H1 hp0 s1 e1 al1 => ?_⟩
  apply q_forC
  apply c_call1
  · exact val_var rfl
  refine ⟨_, rfl, cs, hC.monoC s1, c16, fun ra ns H2 hra s2 e2 pw mem n16 => ?_⟩
  have s12 := s1.trans s2
  refine forG_inq (xs := ns.map L2.V.int) (fun i σ H' => Same H H' ∧ H' ra = some (.lst (ns.map L2.V.int)) ∧ ∃ (p : Addr) (ys : List L2.V) (qs : List Rat) (N : Nat) (x y z : Option L2.V), H p = none ∧ σ = [some v1, some (.ref ca), some (.ref p), x, y, z] ∧ H' p = some (.lst ys) ∧ All2 (isP K H') ys qs ∧ qs.length = cs.length ∧
      (csOf ws cs).Gl (ns.take i) (pf qs) ∧ D ∣ N ∧ 0 < N ∧ N ≤ D * M ^ (kept cs.length (inR cs (ns.take i))).length ∧ ∀ i, i < cs.length → Iz (pf qs i) N)
    (SqL.of e2) ⟨s12, e2, p0, ys0, List.replicate cs.length 0, D, _, _, _, hp0, rfl, s2 _ _ e1, al1.mono fun v x z => z.mono (tk_of s2), List.length_replicate .., ?_, Nat.dvd_refl D, d0, Nat.le_mul_of_pos_right D (Nat.pow_pos (by omega)), fun i hi => by rw [pf_zeros]; exact Iz.zero D⟩ (fun i σ H' _ z => SqL.of z.2.1) ?_ ?_
  · have e0 : pf (List.replicate cs.length 0) = fun _ => 0 := funext fun i => pf_zeros _ i
    rw [e0, List.take_zero]
    exact Cs.Gl.start F.ok
  · rintro i x σ H' hx ⟨s, hr, p, ys, qs, N, x3, x4, x5, hpn, rfl, he, al, ql, G, dN, n0, hN, hz⟩
    have hi : i < ns.length := by
      have := (List.getElem?_eq_some_iff.mp hx).1
      rwa [List.length_map] at this
    rw [List.getElem?_map, List.getElem?_eq_getElem hi] at hx
    cases hx
    have hlt : ∀ r' ∈ ns.take i, r' < ns[i] := fun r' hr' => by
      obtain ⟨j, hj, rfl⟩ := List.getElem_of_mem hr'
      rw [List.getElem_take]
      rw [List.length_take] at hj
      exact List.pairwise_iff_getElem.mp pw j i (by omega) hi (by omega)
    have hnot : ns[i] ∉ ns.take i := fun z => by have := hlt _ z; omega
    have take1 : ns.take (i + 1) = ns.take i ++ [ns[i]] := by rw [List.take_add_one, List.getElem?_eq_getElem hi]; rfl
    apply q_asg
    apply c_lst0
    intro lp hlp
    have s3 := same_new (o := .lst []) hlp
    have e3 : (upd H' lp (.lst [])) lp = some (.lst []) := upd_same
    generalize upd H' lp (.lst []) = H3 at s3 e3 ⊢
    refine q_forR (n := cs.length) (fun k σ H4 => Same H' H4 ∧ ∃ x, σ = [some v1, some (.ref ca), some (.ref p), some (.int ns[i]), some (.ref lp), x] ∧ H4 lp = some (.lst ((kept k (atR cs ns[i])).map nv))) (by rw [← el]; exact v_lenL (val_var rfl) (s.seq hc |> s3.seq)) (by omega) ⟨s3, _, rfl, e3⟩ ?_ ?_
    · rintro k σ H4 hk ⟨s4, x6, rfl, e4⟩
      have s04 := s.trans s4
      obtain ⟨cvj, ecv, hcj⟩ := cl.get (List.getElem?_eq_getElem hk)
      obtain ⟨ja, jd, jt, rfl, hjT, hjD, hjH⟩ := id hcj
      have ejd : cs[k] = cs.getD k dCl := (getD_of (List.getElem?_eq_getElem hk)).symm
      have p0' := part0 T H4
      have vc := v_ixL (ta := tVar 1) (tb := tVar 5) (σ := [some v1, some (.ref ca), some (.ref p), some (.int ns[i]), some (.ref lp), some (nv k)]) (val_var rfl) (val_var rfl) (s04.seq hc) ecv
      apply s_if0
      · apply ans_and2
        · apply ans_vt
          exact v_eqI (v_ixT (j := 2) vc val_c ((tk_of s04).sq hjT) rfl) (val_var rfl)
        · apply ans_vt
          exact v_neP (v_ixT (j := 0) vc val_c ((tk_of s04).sq hjT) rfl) val_c (hjD.mono (tk_of s04)) p0'
      · intro b
        have b2 : atR cs ns[i] k = true := by
          unfold atR okk
          rw [← ejd]
          exact b
        refine s_app (val_var rfl) (val_var rfl) e4 (by rw [List.length_map]; have := kept_len k (atR cs ns[i]); omega) ?_
        refine ⟨same_mut s4 hlp, _, rfl, ?_⟩
        rw [kept_yes b2, List.map_append]
        exact upd_same
      · intro b
        have b2 : atR cs ns[i] k = false := by
          unfold atR okk
          rw [← ejd]
          exact b
        refine ⟨s4, _, rfl, ?_⟩
        rw [kept_no b2]
        exact e4
    · rintro σ H4 ⟨s4, x6, rfl, e4⟩
      have s04 := s.trans s4
      have memk : ∀ j, j ∈ kept cs.length (atR cs ns[i]) ↔ j < cs.length ∧ (cs.getD j dCl).rk = ns[i] ∧ (cs.getD j dCl).due ≠ 0 := fun j => by
        rw [kept_mem]
        unfold atR okk
        rw [Bool.and_eq_true, decide_eq_true_iff, Bool.not_eq_true', decide_eq_false_iff_not]
      have hpl : ∀ j, j ∈ kept cs.length (atR cs ns[i]) → j < (csOf ws cs).n ∧ (csOf ws cs).rk j = ns[i] ∧ 0 < (csOf ws cs).due j := fun j hj => by
        obtain ⟨a, b, c⟩ := (memk j).mp hj
        have hd := F.ok.due0 j a
        have hd2 : (csOf ws cs).due j ≠ 0 := c
        exact ⟨a, b, by grind⟩
      have hall : ∀ j, j < (csOf ws cs).n → (csOf ws cs).rk j = ns[i] → (csOf ws cs).due j = 0 ∨ j ∈ kept cs.length (atR cs ns[i]) := fun j hj e => by
        by_cases z : (csOf ws cs).due j = 0
        · exact .inl z
        · exact .inr ((memk j).mpr ⟨hj, e, z⟩)
      have cnt := kept_or (f := inR cs (ns.take i)) (g := atR cs ns[i]) (inR_no hnot) cs.length
      rw [inR_snoc, ← take1] at cnt
      have le16 := kept_len cs.length (inR cs (ns.take (i + 1)))
      have hpow : N * M ^ (kept cs.length (atR cs ns[i])).length ≤ D * M ^ (kept cs.length (inR cs (ns.take (i + 1)))).length := by
        refine Nat.le_trans (Nat.mul_le_mul_right _ hN) ?_
        rw [Nat.mul_assoc, ← Nat.pow_add, cnt]
        exact Nat.le_refl _
      have hpow16 : N * M ^ (kept cs.length (atR cs ns[i])).length ≤ D * M ^ 16 := Nat.le_trans hpow (Nat.mul_le_mul_left D (Nat.pow_le_pow_right m1 (by omega)))
      apply s_asg
      apply c_call4
      · exact val_var rfl
      · exact val_var rfl
      · exact val_var rfl
      · exact val_var rfl
      refine ⟨_, _, _, _, rfl, ws, cs, qs, kept cs.length (atR cs ns[i]), ns[i], N, D, V, gg, M, e, hW.mono s04, hC.monoC s04, ⟨p, ys, rfl, SqL.of (s4 _ _ he), al.mono fun v x z => z.mono (tk_of s4)⟩, ⟨lp, rfl, SqL.of e4⟩,
        ⟨ql, c16, F.m6, List.nodup_range.sublist List.filter_sublist, G.rk hlt hpl hall, G.pay, G.pz hlt hpl, F.dn, dN, n0, hz, F.sumD, F.sumW, F.v1, Nat.lt_of_le_of_lt (Nat.mul_le_mul_right D (Nat.mul_le_mul_left (2 * V) hpow16)) F.big⟩, ?_⟩
      intro p9 ys9 qs9 l9 N9 H9 hp9 s9 e9 al9 ql9 Fi9 dN9 n09 hN9 hz9
      refine ⟨s04.trans s9, s9 _ _ (s4 _ _ hr), p9, ys9, qs9, N9, _, _, _, s04.free hp9, rfl, e9, al9, ql9, ?_, dN9, n09, Nat.le_trans hN9 hpow, hz9⟩
      rw [take1]
      exact G.next hlt Fi9
  · rintro σ H' ⟨s, hr, p, ys, qs, N, x3, x4, x5, hpn, rfl, he, al, ql, G, dN, n0, hN, hz⟩
    rw [List.length_map, List.take_length] at G hN
    walk_at "ret"
    have le16 := kept_len cs.length (inR cs ns)
    refine q p ys qs N H' hpn s he al ql (G.sh fun i hi => ?_) dN n0 (Nat.le_trans hN (Nat.mul_le_mul_left D (Nat.pow_le_pow_right m1 (by omega)))) hz
    rw [mem]
    refine List.mem_map.mpr ⟨cs.getD i dCl, ?_, rfl⟩
    exact List.mem_of_getElem? (at_of_getD hi)
theorem ok_shared {P : Program} {w : World} {K : PySem.W.Frag} {mg : Str → Option Value} {base : Heap} (T : Txt K mg) : Okf P w K mg base 8 "shared" ["worths", "claims"] (sp_shared K) := by
  obtain ⟨fd, F0⟩ := T.c.def_ 22 (d := d_shared) rfl
  have F : FnP K "shared" s_shared (He.ga K "shared") fd := F0
  have h_nought_row := ok_nought_row (P := P) (w := w) (base := base) T
  have h_ranks_of := ok_ranks_of (P := P) (w := w) (base := base) T
  have h_filled := ok_filled (P := P) (w := w) (base := base) T
  refine ⟨_, fd, F.ok sc_shared (fun vs H Q E h => ?_) (fun cdv A outer s H vs Q E hr h => ⟨t_shared K, PSs.nox ?_, pure_shared T vs H Q E h⟩), F.bindsN (fun _ _ _ _ _ _ us hl => match us, hl with | [_, _], _ => rfl), F.kp, T.glo 22 rfl⟩
  · obtain ⟨_, _, rfl, _⟩ := h
    rfl
  · exact (pss_cons (ps_set (i := 2) sc_shared.nd rfl (by first | exact Or.inl rfl | exact Or.inr rfl) (pe_cf h_nought_row hr (by decide) rfl (pa_cons (pe_callB call_len_seq (by rfl) (T.free 57 rfl) PySem.boot_len (pa_cons (pv 1) pa_nil)) pa_nil)))
  (pss_cons (ps_for PassesOwn.never rfl (pi_list (pe_cf h_ranks_of hr (by decide) rfl (pa_cons (pv 1) pa_nil))) (pg_name (i := 3) sc_shared.nd rfl (by first | exact Or.inl rfl | exact Or.inr rfl))
  (pss_cons (ps_set (i := 4) sc_shared.nd rfl (by first | exact Or.inl rfl | exact Or.inr rfl) (pe_lst pa_nil))
  (pss_cons (ps_for PassesOwn.never rfl (pi_range1 (by rfl) (T.free 54 rfl) (pa_cons (pe_callB call_len_seq (by rfl) (T.free 57 rfl) PySem.boot_len (pa_cons (pv 1) pa_nil)) pa_nil)) (pg_name (i := 5) sc_shared.nd rfl (by first | exact Or.inl rfl | exact Or.inr rfl))
  (pss_one (ps_if (PW.pt (pw_and (pt_cmpR op_eq (pe_ix ix_tup (pe_ix ix_list (pv 1) (pv 5) (fun _ _ => rfl)) pe_int (fun _ _ => rfl)) (pv 3) (nomark _)) (pw_and1 (pt_cmpR (op_neD hr.units) (pe_ix ix_tup (pe_ix ix_list (pv 1) (pv 5) (fun _ _ => rfl)) pe_int (fun _ _ => rfl)) (pe_glob rfl (T.glo 51 rfl) rfl) (nomark _)))))
  (pss_one (ps_expr (pe_bm PySem.F.plainAttrs_list PySem.F.slot_list_append PySem.F.type_list_append mt_append (pv 4) (pa_cons (pv 5) pa_nil))))
  pss_nil)))
  (pss_one (ps_set (i := 2) sc_shared.nd rfl (by first | exact Or.inl rfl | exact Or.inr rfl) (pe_cf h_filled hr (by decide) rfl (pa_cons (pv 0) (pa_cons (pv 1) (pa_cons (pv 2) (pa_cons (pv 4) pa_nil))))))))))
  (pss_one (ps_ret (pv 2)))))
structure St where
  p : Nat
  m : Nat
  b : Int
def isS (K : PySem.W.Frag) (H : Hp) (v : V) (s : St) : Prop := ∃ a, v = .ref a ∧ SqT K H a [nv s.p, nv s.m, .int s.b]
theorem isS.mono {K : PySem.W.Frag} {H H' : Hp} {v : V} {s : St} (t : TK H H') (h : isS K H v s) : isS K H' v s := let ⟨a, e, q⟩ := h; ⟨a, e, t.sq q⟩
def isR (K : PySem.W.Frag) (H : Hp) (v : V) (Rs : List (List Rat)) : Prop := isL K H (isL K H (isP K H)) v Rs
theorem isR.mono {K : PySem.W.Frag} {H H' : Hp} {v : V} {Rs : List (List Rat)} (t : Same H H') (h : isR K H v Rs) : isR K H' v Rs := isL.mono t (fun _ _ r => r.monoP t) h
def rt (Rs : List (List Rat)) (i f : Nat) : Rat := pf (Rs.getD i []) f
section
variable {K : PySem.W.Frag} {σ : L2.St} {H : Hp} {tr ti tf : TE} {v : V} {i f : Nat}
theorem v_elem {ps : List Rat} (h1 : Val tr σ H v) (h2 : Val ti σ H (nv i)) (hR : isL K H (isP K H) v ps) (hi : i < ps.length) : ∃ x, Val (tOp (rIxL K) tr ti) σ H x ∧ isP K H x (pf ps i) := by
  obtain ⟨a, vs, rfl, hs, al⟩ := hR
  obtain ⟨x, ex, hx⟩ := al.get (List.getElem?_eq_getElem hi)
  refine ⟨x, v_ixL h1 h2 hs ex, ?_⟩
  unfold pf
  rwa [getD_of (List.getElem?_eq_getElem hi)]
theorem v_cell {Rs : List (List Rat)} (h1 : Val tr σ H v) (h2 : Val ti σ H (nv i)) (h3 : Val tf σ H (nv f)) (hR : isR K H v Rs) (hi : i < Rs.length) (hf : f < (Rs.getD i []).length) : ∃ x, Val (tOp (rIxL K) (tOp (rIxL K) tr ti) tf) σ H x ∧ isP K H x (rt Rs i f) := by
  obtain ⟨a, vs, rfl, hs, al⟩ := hR
  obtain ⟨x, ex, hx⟩ := al.get (List.getElem?_eq_getElem hi)
  rw [← getD_of (d := []) (List.getElem?_eq_getElem hi)] at hx
  exact v_elem (v_ixL h1 h2 hs ex) h3 hx hf
theorem v_claim {cs : List Cl} (h1 : Val tr σ H v) (h2 : Val ti σ H (nv i)) (hC : isL K H (isC K H) v cs) (hi : i < cs.length) : ∃ a d t, Val (tOp (rIxL K) tr ti) σ H (.ref a) ∧ SqT K H a [d, t, .int (cs.getD i dCl).rk] ∧ isP K H d (cs.getD i dCl).due ∧ isH K H t (cs.getD i dCl).tou := by
  obtain ⟨a, vs, rfl, hs, al⟩ := hC
  obtain ⟨x, ex, hx⟩ := al.get (List.getElem?_eq_getElem hi)
  rw [← getD_of (d := dCl) (List.getElem?_eq_getElem hi)] at hx
  obtain ⟨c, d, t, rfl, hT, hd, ht⟩ := hx
  exact ⟨c, d, t, v_ixL h1 h2 hs ex, hT, hd, ht⟩
end
theorem cut_take {xs : List V} {k : Nat} (h : k < xs.length) : cutV xs none (some ((k : Int) + 1)) = xs.take (k + 1) := by
  unfold cutV
  have e : (k : Int) + 1 = ((k + 1 : Nat) : Int) := by omega
  rw [e, HT.sIx_nat, HT.sIx_none, List.drop_zero, Nat.min_eq_left (by omega)]
  rfl
def pls (ss : List St) : List Nat := ss.map fun s => s.p
/-- the stations found: those ahead of i are gone through -/
structure Sta (c : Cs) (at_ : Nat) (R : Nat → Nat → Rat) (ss : List St) : Prop where
  nd : (pls ss).Nodup
  ent : ∀ (k : Nat) (s : St), ss[k]? = some s → s.p ∈ c.tou s.m ∧ s.m < c.n ∧ ((s.b = -1 ∧ s.m = at_) ∨ ∃ (j : Nat) (t : St), s.b = (j : Int) ∧ j < k ∧ ss[j]? = some t ∧ R s.m t.p ≠ 0)
structure SI (c : Cs) (at_ : Nat) (R : Nat → Nat → Rat) (rest : Nat → Rat) (ss : List St) (i : Nat) : Prop extends Sta c at_ R ss where
  own : ∀ p ∈ c.tou at_, p ∈ pls ss
  done : ∀ (k : Nat) (s : St), k < i → ss[k]? = some s → rest s.p = 0 ∧ ∀ m, m < c.n → R m s.p ≠ 0 → ∀ o ∈ c.tou m, o ∈ pls ss
/-- every closed heap has some place with something left -/
def Rea (c : Cs) (at_ : Nat) (R : Nat → Nat → Rat) (rest : Nat → Rat) : Prop := ∀ S : Hs, inn (c.tou at_) S = true → (∀ f, f < c.m → S f = true → rest f = 0) → (∀ f, f < c.m → S f = true → ∀ i, i < c.n → R i f ≠ 0 → inn (c.tou i) S = true) → False
/-- the cells of a table, by lists -/
structure Cel (n m : Nat) (Rs : List (List Rat)) (zs : List Rat) : Prop where
  rl : Rs.length = n
  cl : ∀ i, i < n → (Rs.getD i []).length = m
  zl : zs.length = m
def sp_stations (K : PySem.W.Frag) : Sp := fun vs H Q _ => ∃ v1 v2 v3 v4, vs = [v1, v2, v3, v4] ∧ ∃ (ws : List Int) (cs : List Cl) (Rs : List (List Rat)) (zs : List Rat) (at_ : Nat), isL K H (isC K H) v1 cs ∧ isR K H v2 Rs ∧ isL K H (isP K H) v3 zs ∧ v4 = nv at_ ∧ at_ < cs.length ∧ cs.length ≤ 16 ∧ ws.length ≤ 6 ∧ (csOf ws cs).Ok ∧
  Cel cs.length ws.length Rs zs ∧ Rea (csOf ws cs) at_ (rt Rs) (pf zs) ∧
  ∀ p ys ss H', H p = none → Same H H' → H' p = some (.lst ys) → All2 (isS K H') ys ss → Sta (csOf ws cs) at_ (rt Rs) ss → (∃ s, ss.getLast? = some s ∧ pf zs s.p ≠ 0) → Q (.ref p) H'
/-- slots: claims 0, rows 1, rest 2, at 3, found 4, place 5, seen 6, here 7, mover 8, other 9 -/
abbrev N_stations : List Str := ["claims", "rows", "rest", "at", "found", "place", "seen", "here", "mover", "other"]
theorem sc_stations : FnScope N_stations ["claims", "rows", "rest", "at"] (defScope s_stations) := ⟨rfl, rfl, rfl, by decide +kernel, rfl, by decide +kernel, by decide +kernel⟩
def t_stations (K : PySem.W.Frag) : TS := tSeq (tAsg (tLc (iTup K (tOp (rIxT K) (tOp (rIxL K) (tVar 0) (tVar 3)) (tC (.int 1)))) (gName 5) tYes (tTup (tCons (tVar 5) (tCons (tVar 3) (tCons (tUn kNeg (tC (.int 1))) tNil)))) [5]) (gName 4))
  (tSeq (tAsg (tCB (kList K) (tCons (tOp (rIxT K) (tOp (rIxL K) (tVar 0) (tVar 3)) (tC (.int 1))) tNil)) (gName 6))
  (tSeq (tAsg (tC (.int 0)) (gName 7))
  (tSeq (tWhile (tTest (tOp kLt (tVar 7) (tCB (kLen K) (tCons (tVar 4) tNil))))
  (tSeq (tAsg (tOp (rIxT K) (tOp (rIxL K) (tVar 4) (tVar 7)) (tC (.int 0))) (gName 5))
  (tSeq (tIfS (tTest (tOp (rNeD K) (tOp (rIxL K) (tVar 2) (tVar 5)) (tC (.ref (He.ga K "NOUGHT")))))
  (tRet (tSl (rSlL K) (tVar 4) tNoPart (tPart (tOp kAdd (tVar 7) (tC (.int 1))))))
  tNext)
  (tSeq (tFor (iRng1 (tCons (tCB (kLen K) (tCons (tVar 0) tNil)) tNil)) (gName 8)
  (tIfS (tTest (tOp (rNeD K) (tOp (rIxL K) (tOp (rIxL K) (tVar 1) (tVar 8)) (tVar 5)) (tC (.ref (He.ga K "NOUGHT")))))
  (tFor (iTup K (tOp (rIxT K) (tOp (rIxL K) (tVar 0) (tVar 8)) (tC (.int 1)))) (gName 9)
  (tIfS (tTest (tOp (rIn K true) (tVar 9) (tVar 6)))
  (tSeq (tDrop (tBM K "list" rAppend (tVar 6) (tCons (tVar 9) tNil)))
  (tDrop (tBM K "list" rAppend (tVar 4) (tCons (tTup (tCons (tVar 9) (tCons (tVar 8) (tCons (tVar 7) tNil)))) tNil))))
  tNext))
  tNext))
  (tAug 7 (tC (.int 1)) kIpAdd)))))
  (tRet (tVar 4)))))
section
variable {c : Cs} {at_ : Nat} {R : Nat → Nat → Rat} {rest : Nat → Rat} {ss : List St} {i : Nat}
theorem Sta.le (h : Sta c at_ R ss) (ok : c.Ok) : ss.length ≤ c.m := by
  have h4 := List.Nodup.length_le_of_subset h.nd (l₂ := List.range c.m) (fun x hx => by
    obtain ⟨s, hs, rfl⟩ := List.mem_map.mp hx
    obtain ⟨k, hk⟩ := List.getElem?_of_mem hs
    obtain ⟨a, b, _⟩ := h.ent k s hk
    exact List.mem_range.mpr (ok.tou _ b _ a))
  rw [List.length_range] at h4
  unfold pls at h4
  rwa [List.length_map] at h4
theorem Sta.end (h : SI c at_ R rest ss ss.length) (hr : Rea c at_ R rest) : False := by
  refine hr (fun f => decide (f ∈ pls ss)) (inn_iff.mpr fun p hp => decide_eq_true (h.own p hp)) (fun f hf hS => ?_) (fun f hf hS m hm hne => ?_)
  · obtain ⟨s, hs, rfl⟩ := List.mem_map.mp (of_decide_eq_true hS)
    obtain ⟨k, hk⟩ := List.getElem?_of_mem hs
    exact (h.done k s (List.getElem?_eq_some_iff.mp hk).1 hk).1
  · obtain ⟨s, hs, rfl⟩ := List.mem_map.mp (of_decide_eq_true hS)
    obtain ⟨k, hk⟩ := List.getElem?_of_mem hs
    exact inn_iff.mpr fun o ho => decide_eq_true ((h.done k s (List.getElem?_eq_some_iff.mp hk).1 hk).2 m hm hne o ho)
theorem pls_snoc (ss : List St) (s : St) : pls (ss ++ [s]) = pls ss ++ [s.p] := by
  unfold pls
  rw [List.map_append]
  rfl
theorem SI.app (h : SI c at_ R rest ss i) {o mv : Nat} {t : St} (ho : o ∉ pls ss) (hm : mv < c.n) (hot : o ∈ c.tou mv) (hi : ss[i]? = some t) (hR : R mv t.p ≠ 0) : SI c at_ R rest (ss ++ [⟨o, mv, (i : Int)⟩]) i where
  nd := by
    rw [pls_snoc, List.nodup_append]
    refine ⟨h.nd, by simp, fun x hx y hy => ?_⟩
    have hy : y = o := by simpa using hy
    subst hy
    exact fun z => ho (z ▸ hx)
  ent := fun k s hk => by
    have lift : ∀ (j : Nat) (t : St), ss[j]? = some t → (ss ++ [⟨o, mv, (i : Int)⟩])[j]? = some t := fun j t hj => by
      rw [List.getElem?_append_left (List.getElem?_eq_some_iff.mp hj).1]
      exact hj
    have hil := (List.getElem?_eq_some_iff.mp hi).1
    by_cases hlt : k < ss.length
    · rw [List.getElem?_append_left hlt] at hk
      obtain ⟨a, b, z | ⟨j, t, z1, z2, z3, z4⟩⟩ := h.ent k s hk
      · exact ⟨a, b, .inl z⟩
      · exact ⟨a, b, .inr ⟨j, t, z1, z2, lift j t z3, z4⟩⟩
    · rw [List.getElem?_append_right (by omega)] at hk
      have e : k - ss.length = 0 := by
        have := (List.getElem?_eq_some_iff.mp hk).1
        simp at this
        omega
      rw [e] at hk
      cases hk
      exact ⟨hot, hm, .inr ⟨i, t, rfl, by omega, lift i t hi, hR⟩⟩
  own := fun p hp => by
    rw [pls_snoc]
    exact List.mem_append_left _ (h.own p hp)
  done := fun k s hk hs => by
    have hil := (List.getElem?_eq_some_iff.mp hi).1
    rw [List.getElem?_append_left (by omega)] at hs
    obtain ⟨a, b⟩ := h.done k s hk hs
    refine ⟨a, fun m hm hR o ho => ?_⟩
    rw [pls_snoc]
    exact List.mem_append_left _ (b m hm hR o ho)
theorem SI.step (h : SI c at_ R rest ss i) {t : St} (hi : ss[i]? = some t) (hz : rest t.p = 0) (hd : ∀ m, m < c.n → R m t.p ≠ 0 → ∀ o ∈ c.tou m, o ∈ pls ss) : SI c at_ R rest ss (i + 1) where
  toSta := h.toSta
  own := h.own
  done := fun k s hk hs => by
    by_cases e : k = i
    · subst e
      rw [hi] at hs
      cases hs
      exact ⟨hz, hd⟩
    · exact h.done k s (by omega) hs
theorem Sta.take (h : Sta c at_ R ss) (k : Nat) : Sta c at_ R (ss.take k) where
  nd := by
    unfold pls
    rw [List.map_take]
    exact h.nd.sublist (List.take_sublist k _)
  ent := fun j s hj => by
    have hjk : j < k := by
      have := (List.getElem?_eq_some_iff.mp hj).1
      rw [List.length_take] at this
      omega
    rw [List.getElem?_take_of_lt hjk] at hj
    obtain ⟨a, b, z | ⟨j2, t, z1, z2, z3, z4⟩⟩ := h.ent j s hj
    · exact ⟨a, b, .inl z⟩
    · refine ⟨a, b, .inr ⟨j2, t, z1, z2, ?_, z4⟩⟩
      rw [List.getElem?_take_of_lt (by omega)]
      exact z3
theorem SI.start (at_ : Nat) (hat : at_ < c.n) (ok : c.Ok) : SI c at_ R rest ((c.tou at_).map fun p => ⟨p, at_, -1⟩) 0 where
  nd := by
    unfold pls
    rw [List.map_map]
    have : ((fun s : St => s.p) ∘ fun p => (⟨p, at_, -1⟩ : St)) = id := rfl
    rw [this, List.map_id]
    exact ok.nd at_ hat
  ent := fun k s hk => by
    rw [List.getElem?_map] at hk
    obtain ⟨p, hp, rfl⟩ := Option.map_eq_some_iff.mp hk
    exact ⟨List.mem_of_getElem? hp, hat, .inl ⟨rfl, rfl⟩⟩
  own := fun p hp => by
    unfold pls
    rw [List.map_map]
    exact List.mem_map.mpr ⟨p, hp, rfl⟩
  done := fun k s hk => absurd hk (by omega)
end
theorem pls_start (at_ : Nat) (h : List Nat) : pls (h.map fun p => (⟨p, at_, -1⟩ : St)) = h := by
  unfold pls
  rw [List.map_map]
  exact List.map_id h
theorem pure_stations {K : PySem.W.Frag} {mg : Str → Option Value} (T : Txt K mg) (vs : List V) (H : Hp) (Q : VK) (E : XK) (h : sp_stations K vs H Q E) : t_stations K { nx := fun _ H' => Q .non H', rt := Q } (start N_stations vs) H := by
  obtain ⟨v1, v2, v3, _, rfl, ws, cs, Rs, zs, at_, hC, hR, hZ, rfl, hat, c16, m6, ok, ce, rea, q⟩ := h
  obtain ⟨ca, cv, rfl, hc, cl⟩ := id hC
  have el : (cv.length : Int) = (cs.length : Int) := by rw [cl.1]
  unfold t_stations
  obtain ⟨xa, xd, xt, vx, hxT, hxd, hxt⟩ := v_claim (tr := tVar 0) (ti := tVar 3) (σ := start N_stations [.ref ca, v2, v3, nv at_]) (val_var rfl) (val_var rfl) hC hat
  obtain ⟨ta, rfl, hta⟩ := id hxt
  have vt := v_ixT (j := 1) vx val_c hxT rfl
  have hN : (csOf ws cs).tou at_ = (cs.getD at_ dCl).tou := rfl
  have tlen : ((cs.getD at_ dCl).tou).length ≤ 6 := by
    have h4 := List.Nodup.length_le_of_subset (ok.nd at_ hat) (l₂ := List.range ws.length) (fun x hx => List.mem_range.mpr (ok.tou at_ hat x hx))
    rw [List.length_range, hN] at h4
    omega
  apply q_asg
  refine c_lcT (fun _ => true) (fun k v H' => isS K H' v ⟨(cs.getD at_ dCl).tou.getD k 0, at_, -1⟩) (fun k v H1 H2 t _ r => r.mono t) vt hta (by rw [List.length_map]; omega) (fun k x H2 _ _ Q k => k) (fun k x H2 hx s2 _ => ?_) ?_
  · obtain ⟨p, hp, rfl⟩ := map_at hx
    rw [getD_of hp]
    intro Q' q'
    refine c_tup3 (val_var rfl) (val_var rfl) (v_neg val_c) fun p5 hp5 => ?_
    exact q' _ _ (same_new hp5) ⟨p5, rfl, SqT.of upd_same⟩
  intro fp ys0 H1 hfp s1 e1 al1
  rw [kept_all, List.length_map] at al1
  have al1 : All2 (isS K H1) ys0 ((cs.getD at_ dCl).tou.map fun p => ⟨p, at_, -1⟩) := by
    refine ⟨by rw [al1.1, List.length_range, List.length_map], fun k v x h1 h2 => ?_⟩
    obtain ⟨j, hj, r⟩ := al1.got h1
    rw [List.getElem?_map] at h2
    obtain ⟨p, hp, rfl⟩ := Option.map_eq_some_iff.mp h2
    have hk := (List.getElem?_eq_some_iff.mp hp).1
    rw [List.getElem?_range hk] at hj
    cases hj
    rwa [getD_of hp] at r
  obtain ⟨xa2, xd2, xt2, vx2, hxT2, hxd2, hxt2⟩ := v_claim (tr := tVar 0) (ti := tVar 3) (σ := [some (.ref ca), some v2, some v3, some (nv at_), some (.ref fp), none, none, none, none, none]) (val_var rfl) (val_var rfl) (hC.monoC s1) hat
  obtain ⟨ta2, rfl, hta2⟩ := id hxt2
  apply q_asg
  apply c_listT
  · exact v_ixT (j := 1) vx2 val_c hxT2 rfl
  · exact hta2
  intro sp hsp
  have s2 := same_new (o := .lst ((cs.getD at_ dCl).tou.map nv)) hsp
  have e2 : (upd H1 sp (.lst ((cs.getD at_ dCl).tou.map nv))) sp = some (.lst ((cs.getD at_ dCl).tou.map nv)) := upd_same
  generalize upd H1 sp (.lst ((cs.getD at_ dCl).tou.map nv)) = H2 at s2 e2 ⊢
  have s12 := s1.trans s2
  have hspn : H sp = none := s1.free hsp
  have hfs : fp ≠ sp := fun z => by
    rw [z] at e1
    rw [e1] at hsp
    cases hsp
  walk_at "set"
  let J : List St → Hp → Prop := fun ss H' => Same H H' ∧ ∃ ys, H' fp = some (.lst ys) ∧ All2 (isS K H') ys ss ∧ H' sp = some (.lst ((pls ss).map nv))
  have vrest : ∀ {σ : L2.St} {H' : Hp} {p : Nat}, Same H H' → σ[2]? = some (some v3) → σ[5]? = some (some (nv p)) → p < ws.length → ∃ x, Val (tOp (rIxL K) (tVar 2) (tVar 5)) σ H' x ∧ isP K H' x (pf zs p) := fun s h1 h2 h3 => v_elem (val_var h1) (val_var h2) (hZ.monoP s) (by rw [ce.zl]; exact h3)
  refine q_while (fun μ σ H' => ∃ (i : Nat) (ss : List St) (x y z : Option L2.V), σ = [some (.ref ca), some v2, some v3, some (nv at_), some (.ref fp), x, some (.ref sp), some (nv i), y, z] ∧ J ss H' ∧ SI (csOf ws cs) at_ (rt Rs) (pf zs) ss i ∧ i ≤ ss.length ∧ μ = ws.length - i)
    ws.length ⟨0, (cs.getD at_ dCl).tou.map fun p => ⟨p, at_, -1⟩, _, _, _, rfl, ⟨s12, ys0, s2 _ _ e1, al1.mono fun v x z => z.mono (tk_of s2), by rw [pls_start]; exact e2⟩, SI.start at_ hat ok, Nat.zero_le _, rfl⟩ ?_
  rintro μ σ H3 ⟨i, ss, x5, x8, x9, rfl, ⟨s3, ys, e3, al3, es3⟩, S, hi, rfl⟩
  have sl := S.toSta.le ok
  have sl : ss.length ≤ ws.length := sl
  refine wl_in (ans_vt (v_lt (val_var rfl) (v_lenL (val_var rfl) (SqL.of e3)))) (fun hb => ?_) (fun hb => ?_)
  · have hb := of_decide_eq_true hb
    have hil : i < ss.length := by rw [al3.1] at hb; omega
    obtain ⟨tv, etv, htv⟩ := al3.get (List.getElem?_eq_getElem hil)
    obtain ⟨t, et⟩ : ∃ t, ss[i]? = some t := ⟨_, List.getElem?_eq_getElem hil⟩
    have ett : ss[i] = t := by
      rw [List.getElem?_eq_getElem hil] at et
      exact Option.some.inj et
    rw [ett] at htv
    obtain ⟨ea, rfl, heT⟩ := id htv
    obtain ⟨n1, n2, n3⟩ := S.ent i t et
    have hpm : t.p < ws.length := ok.tou _ n2 _ n1
    apply q_set (v_ixT (j := 0) (v_ixL (val_var rfl) (val_var rfl) (SqL.of e3) etv) val_c heT rfl)
    obtain ⟨rx, vrx, hrx⟩ := vrest (σ := [some (.ref ca), some v2, some v3, some (nv at_), some (.ref fp), some (nv t.p), some (.ref sp), some (nv i), x8, x9]) s3 rfl rfl hpm
    apply q_if0 (ans_vt (v_neP vrx val_c hrx (part0 T H3)))
    · intro hb2
      have hb2 : pf zs t.p ≠ 0 := by simpa using hb2
      apply s_retc
      show tSl _ _ _ _ _ _ _
      refine (val_var rfl : Val (tVar 4) _ H3 (.ref fp)) _ ?_
      refine (v_add (val_var rfl) val_c : Val _ _ H3 (.int ((i : Int) + 1))) _ ⟨_, rfl, fp, ys, rfl, SqL.of e3, fun p9 hp9 => ?_⟩
      rw [cut_take (by rw [al3.1]; exact hil)]
      have s9 := same_new (o := .lst (ys.take (i + 1))) hp9
      refine q p9 _ (ss.take (i + 1)) _ (s3.free hp9) (s3.trans s9) upd_same ((al3.take (i + 1)).mono fun v x z => z.mono (tk_of s9)) (S.toSta.take _) ⟨t, ?_, hb2⟩
      rw [List.take_add_one, et]
      exact List.getLast?_concat
    · intro hb2
      have hb2 : pf zs t.p = 0 := by simpa using hb2
      refine q_forR (n := cs.length) (fun k σ H' => ∃ (ss : List St) (y z : Option L2.V), σ = [some (.ref ca), some v2, some v3, some (nv at_), some (.ref fp), some (nv t.p), some (.ref sp), some (nv i), y, z] ∧ J ss H' ∧ SI (csOf ws cs) at_ (rt Rs) (pf zs) ss i ∧ ss[i]? = some t ∧
          ∀ m, m < k → rt Rs m t.p ≠ 0 → ∀ o ∈ (csOf ws cs).tou m, o ∈ pls ss) (by rw [← el]; exact v_lenL (val_var rfl) (s3.seq hc)) (by omega)
        ⟨ss, _, _, rfl, ⟨s3, ys, e3, al3, es3⟩, S, et, fun m hm => absurd hm (by omega)⟩ ?_ ?_
      · rintro k σ H4 hk ⟨ss4, x8, x9, rfl, ⟨s4, ys4, e4, al4, es4⟩, S4, et4, d4⟩
        obtain ⟨cx, vcx, hcx⟩ := v_cell (tr := tVar 1) (ti := tVar 8) (tf := tVar 5) (σ := [some (.ref ca), some v2, some v3, some (nv at_), some (.ref fp), some (nv t.p), some (.ref sp), some (nv i), some (nv k), x9]) (i := k) (f := t.p) (val_var rfl) (val_var rfl) (val_var rfl) (isR.mono s4 hR) (by rw [ce.rl]; exact hk) (by rw [ce.cl k hk]; exact hpm)
        apply s_if0 (ans_vt (v_neP vcx val_c hcx (part0 T H4)))
        · intro hb4
          have hb4 : rt Rs k t.p ≠ 0 := by simpa using hb4
          obtain ⟨ka, kd, kt, vk, hkT, hkd, hkt⟩ := v_claim (tr := tVar 0) (ti := tVar 8) (σ := [some (.ref ca), some v2, some v3, some (nv at_), some (.ref fp), some (nv t.p), some (.ref sp), some (nv i), some (nv k), x9]) (val_var rfl) (val_var rfl) (hC.monoC s4) hk
          obtain ⟨kta, rfl, hkta⟩ := id hkt
          refine s_forT (xs := ((cs.getD k dCl).tou).map nv) (fun j σ H' => TK H4 H' ∧ ∃ (ss : List St) (z : Option L2.V), σ = [some (.ref ca), some v2, some v3, some (nv at_), some (.ref fp), some (nv t.p), some (.ref sp), some (nv i), some (nv k), z] ∧ J ss H' ∧ SI (csOf ws cs) at_ (rt Rs) (pf zs) ss i ∧ ss[i]? = some t ∧
              (∀ m, m < k → rt Rs m t.p ≠ 0 → ∀ o ∈ (csOf ws cs).tou m, o ∈ pls ss) ∧ ∀ o ∈ ((cs.getD k dCl).tou).take j, o ∈ pls ss) (v_ixT (j := 1) vk val_c hkT rfl) hkta ⟨TK.refl _, ss4, _, rfl, ⟨s4, ys4, e4, al4, es4⟩, S4, et4, d4, fun o ho => by rw [List.take_zero] at ho; cases ho⟩ (fun j σ H' _ z => z.1.sq hkta) ?_ ?_
          · rintro j u σ H5 hu ⟨k5, ss5, z5, rfl, ⟨s5, ys5, e5, al5, es5⟩, S5, et5, d5, f5⟩
            obtain ⟨o, ho, rfl⟩ := map_at hu
            have take1 : ((cs.getD k dCl).tou).take (j + 1) = ((cs.getD k dCl).tou).take j ++ [o] := by rw [List.take_add_one, ho]; rfl
            have sl5 : ss5.length ≤ ws.length := S5.toSta.le ok
            have pl5 : (pls ss5).length = ss5.length := List.length_map _
            apply s_if0 (ans_vt (v_ninL (h := pls ss5) (val_var rfl) (val_var rfl) (SqL.of es5)))
            · intro hb5
              have hb5 : o ∉ pls ss5 := by simpa using hb5
              refine q_app (val_var rfl) (val_var rfl) es5 (by rw [List.length_map]; omega) ?_
              have k6 : TK H5 (upd H5 sp (.lst ((pls ss5).map nv ++ [nv o]))) := tk_lst es5
              have s6 : Same H (upd H5 sp (.lst ((pls ss5).map nv ++ [nv o]))) := same_mut s5 hspn
              have e6 : (upd H5 sp (.lst ((pls ss5).map nv ++ [nv o]))) fp = some (.lst ys5) := by
                rw [upd_ne hfs]
                exact e5
              have es6 : (upd H5 sp (.lst ((pls ss5).map nv ++ [nv o]))) sp = some (.lst ((pls ss5).map nv ++ [nv o])) := upd_same
              generalize upd H5 sp (.lst ((pls ss5).map nv ++ [nv o])) = H6 at k6 s6 e6 es6 ⊢
              apply s_drop
              refine c_app (val_var rfl) (SqL.of e6) (c_tup3 (val_var rfl) (val_var rfl) (val_var rfl) fun p7 hp7 => ?_)
              have s7 := same_new (o := .tup [nv o, nv k, nv i]) hp7
              have e7 : (upd H6 p7 (.tup [nv o, nv k, nv i])) p7 = some (.tup [nv o, nv k, nv i]) := upd_same
              generalize upd H6 p7 (.tup [nv o, nv k, nv i]) = H7 at s7 e7 ⊢
              have e77 := s7 _ _ e6
              refine app_in e77 (by rw [al5.1]; omega) ?_
              have k8 : TK H7 (upd H7 fp (.lst (ys5 ++ [.ref p7]))) := tk_lst e77
              have k58 := (k6.trans (tk_of s7)).trans k8
              refine ⟨k5.trans k58, ss5 ++ [⟨o, k, (i : Int)⟩], _, rfl, ⟨same_mut (s6.trans s7) hfp, _, upd_same, (al5.mono fun v x z => z.mono k58).snoc ⟨p7, rfl, k8.sq (SqT.of e7)⟩, ?_⟩, S5.app hb5 hk (List.mem_of_getElem? ho) et5 hb4, ?_, fun m hm hne o2 ho2 => ?_, fun o2 ho2 => ?_⟩
              · rw [upd_ne hfs.symm, pls_snoc, List.map_append]
                exact s7 _ _ es6
              · rw [List.getElem?_append_left (List.getElem?_eq_some_iff.mp et5).1]
                exact et5
              · rw [pls_snoc]
                exact List.mem_append_left _ (d5 m hm hne o2 ho2)
              · rw [pls_snoc]
                rw [take1] at ho2
                rcases List.mem_append.mp ho2 with z | z
                · exact List.mem_append_left _ (f5 o2 z)
                · exact List.mem_append_right _ z
            · intro hb5
              have hb5 : o ∈ pls ss5 := by simpa using hb5
              refine ⟨k5, ss5, _, rfl, ⟨s5, ys5, e5, al5, es5⟩, S5, et5, d5, fun o2 ho2 => ?_⟩
              rw [take1] at ho2
              rcases List.mem_append.mp ho2 with z | z
              · exact f5 o2 z
              · have := List.mem_singleton.mp z
                subst this
                exact hb5
          · rintro σ H5 ⟨k5, ss5, z5, rfl, ⟨s5, ys5, e5, al5, es5⟩, S5, et5, d5, f5⟩
            refine ⟨ss5, _, _, rfl, ⟨s5, ys5, e5, al5, es5⟩, S5, et5, fun m hm hne o ho => ?_⟩
            by_cases e : m = k
            · subst e
              refine f5 o ?_
              rw [List.length_map, List.take_length]
              exact ho
            · exact d5 m (by omega) hne o ho
        · intro hb4
          have hb4 : rt Rs k t.p = 0 := by simpa using hb4
          refine ⟨ss4, _, _, rfl, ⟨s4, ys4, e4, al4, es4⟩, S4, et4, fun m hm hne o ho => ?_⟩
          by_cases e : m = k
          · subst e
            exact absurd hb4 hne
          · exact d4 m (by omega) hne o ho
      · rintro σ H4 ⟨ss4, x8, x9, rfl, ⟨s4, ys4, e4, al4, es4⟩, S4, et4, d4⟩
        have i4 := (List.getElem?_eq_some_iff.mp et4).1
        have sl4 : ss4.length ≤ ws.length := S4.toSta.le ok
        refine s_aug rfl val_c ?_
        have e1 : (nv (i + 1) : L2.V) = .int ((i : Int) + 1) := congrArg L2.V.int (by omega)
        refine ⟨ws.length - (i + 1), by omega, i + 1, ss4, some (nv t.p), x8, x9, ?_, ⟨s4, ys4, e4, al4, es4⟩, S4.step et4 hb2 d4, i4, rfl⟩
        rw [e1]
        rfl
  · have hb := of_decide_eq_false hb
    exfalso
    have : i = ss.length := by rw [al3.1] at hb; omega
    subst this
    exact Sta.end S rea
theorem ok_stations {P : Program} {w : World} {K : PySem.W.Frag} {mg : Str → Option Value} {base : Heap} (T : Txt K mg) : Okf P w K mg base 1 "stations" ["claims", "rows", "rest", "at"] (sp_stations K) := by
  obtain ⟨fd, F0⟩ := T.c.def_ 23 (d := d_stations) rfl
  have F : FnP K "stations" s_stations (He.ga K "stations") fd := F0
  refine ⟨_, fd, F.ok sc_stations (fun vs H Q E h => ?_) (fun cdv A outer s H vs Q E hr h => ⟨t_stations K, PSs.nox ?_, pure_stations T vs H Q E h⟩), F.bindsN (fun _ _ _ _ _ _ us hl => match us, hl with | [_, _, _, _], _ => rfl), F.kp, T.glo 23 rfl⟩
  · obtain ⟨_, _, _, _, rfl, _⟩ := h
    rfl
  · exact (pss_cons (ps_setLc (i := 4) (own := [("place", 5)]) (g := (gName 5)) (tt := tYes) rfl sc_stations.nd rfl rfl (sw_true rfl rfl rfl (by decide +kernel)) (pi_tup (pe_ix ix_tup (pe_ix ix_list (pv 0) (pv 3) (fun _ _ => rfl)) pe_int (fun _ _ => rfl))) (blkOk_by (own := [("place", 5)]) (N := N_stations) (sc := defScope s_stations) (by decide +kernel)) (fun _ _ _ _ _ => (pg_name (i := 5) sc_stations.nd rfl (by first | exact Or.inl rfl | exact Or.inr rfl))) (fun _ _ _ _ _ => pts_nil) (fun _ _ _ _ _ => (pe_tup (pa_cons (pv 5) (pa_cons (pv 3) (pa_cons (pe_un un_neg pe_int) pa_nil))))))
  (pss_cons (ps_set (i := 6) sc_stations.nd rfl (by first | exact Or.inl rfl | exact Or.inr rfl) (pe_callTy call_list_of (by rfl) (T.free 59 rfl) (by decide +kernel) (pa_cons (pe_ix ix_tup (pe_ix ix_list (pv 0) (pv 3) (fun _ _ => rfl)) pe_int (fun _ _ => rfl)) pa_nil)))
  (pss_cons (ps_set (i := 7) sc_stations.nd rfl (by first | exact Or.inl rfl | exact Or.inr rfl) pe_int)
  (pss_cons (ps_while PassesOwn.never (pt_cmpR op_lt (pv 7) (pe_callB call_len_seq (by rfl) (T.free 57 rfl) PySem.boot_len (pa_cons (pv 4) pa_nil)) (nomark _))
  (pss_cons (ps_set (i := 5) sc_stations.nd rfl (by first | exact Or.inl rfl | exact Or.inr rfl) (pe_ix ix_tup (pe_ix ix_list (pv 4) (pv 7) (fun _ _ => rfl)) pe_int (fun _ _ => rfl)))
  (pss_cons (ps_if (pt_cmpR (op_neD hr.units) (pe_ix ix_list (pv 2) (pv 5) (fun _ _ => rfl)) (pe_glob rfl (T.glo 51 rfl) rfl) (nomark _))
  (pss_one (ps_ret (pe_slice sl_list (pv 4) po_none (po_some (pe_op op_add (pv 7) pe_int)))))
  pss_nil)
  (pss_cons (ps_for PassesOwn.never rfl (pi_range1 (by rfl) (T.free 54 rfl) (pa_cons (pe_callB call_len_seq (by rfl) (T.free 57 rfl) PySem.boot_len (pa_cons (pv 0) pa_nil)) pa_nil)) (pg_name (i := 8) sc_stations.nd rfl (by first | exact Or.inl rfl | exact Or.inr rfl))
  (pss_one (ps_if (pt_cmpR (op_neD hr.units) (pe_ix ix_list (pe_ix ix_list (pv 1) (pv 8) (fun _ _ => rfl)) (pv 5) (fun _ _ => rfl)) (pe_glob rfl (T.glo 51 rfl) rfl) (nomark _))
  (pss_one (ps_for PassesOwn.never rfl (pi_tup (pe_ix ix_tup (pe_ix ix_list (pv 0) (pv 8) (fun _ _ => rfl)) pe_int (fun _ _ => rfl))) (pg_name (i := 9) sc_stations.nd rfl (by first | exact Or.inl rfl | exact Or.inr rfl))
  (pss_one (ps_if (pt_cmpR op_notIn_seq (pv 9) (pv 6) (by rfl))
  (pss_cons (ps_expr (pe_bm PySem.F.plainAttrs_list PySem.F.slot_list_append PySem.F.type_list_append mt_append (pv 6) (pa_cons (pv 9) pa_nil)))
  (pss_one (ps_expr (pe_bm PySem.F.plainAttrs_list PySem.F.slot_list_append PySem.F.type_list_append mt_append (pv 4) (pa_cons (pe_tup (pa_cons (pv 9) (pa_cons (pv 8) (pa_cons (pv 7) pa_nil)))) pa_nil)))))
  pss_nil))))
  pss_nil)))
  (pss_one (ps_aug (i := 7) sc_stations.nd rfl (by first | exact Or.inl rfl | exact Or.inr rfl) pe_int ip_add))))))
  (pss_one (ps_ret (pv 4)))))))
def dSt : St := ⟨0, 0, 0⟩
def wpl (w : List St) (s : Nat) : Nat := (w.getD s dSt).p
def wmv (w : List St) (s : Nat) : Nat := (w.getD s dSt).m
def sp_road (K : PySem.W.Frag) : Sp := fun vs H Q _ => ∃ v1, vs = [v1] ∧ ∃ (c : Cs) (at_ : Nat) (R : Nat → Nat → Rat) (rest : Nat → Rat) (ss : List St), isL K H (isS K H) v1 ss ∧ c.Ok ∧ c.m ≤ 6 ∧ Sta c at_ R ss ∧ (∃ s, ss.getLast? = some s ∧ rest s.p ≠ 0) ∧
  ∀ p ys w H', H p = none → Same H H' → H' p = some (.lst ys) → All2 (isS K H') ys w → c.Way at_ R rest w.length (wpl w) (wmv w) → w.length ≤ 6 → Q (.ref p) H'
/-- slots: found 0, back 1, here 2 -/
abbrev N_road : List Str := ["found", "back", "here"]
theorem sc_road : FnScope N_road ["found"] (defScope s_road) := ⟨rfl, rfl, rfl, by decide +kernel, rfl, by decide +kernel, by decide +kernel⟩
def t_road (K : PySem.W.Frag) : TS := tSeq (tAsg (tLst tNil) (gName 1))
  (tSeq (tAsg (tOp kSub (tCB (kLen K) (tCons (tVar 0) tNil)) (tC (.int 1))) (gName 2))
  (tSeq (tWhile (tTest (tOp kGe (tVar 2) (tC (.int 0))))
  (tSeq (tDrop (tBM K "list" rAppend (tVar 1) (tCons (tOp (rIxL K) (tVar 0) (tVar 2)) tNil)))
  (tAsg (tOp (rIxT K) (tOp (rIxL K) (tVar 0) (tVar 2)) (tC (.int 2))) (gName 2))))
  (tRet (tRevL K (tVar 1)))))
/-- the road so far, from its end -/
structure Wy (c : Cs) (at_ : Nat) (R : Nat → Nat → Rat) (ss w : List St) (h : Int) : Prop where
  lo : -1 ≤ h
  len : (w.length : Int) + h + 1 ≤ (ss.length : Int)
  idx : ∀ x ∈ w, ∃ j : Nat, ss[j]? = some x ∧ h < (j : Int)
  nd : (pls w).Nodup
  link : ∀ (k : Nat) (s t : St), w[k]? = some s → w[k + 1]? = some t → R t.m s.p ≠ 0
  head : (w = [] ∧ h = (ss.length : Int) - 1) ∨ ∃ s w', w = s :: w' ∧ s.b = h
  last : ∀ s, w.getLast? = some s → ss.getLast? = some s
section
variable {c : Cs} {at_ : Nat} {R : Nat → Nat → Rat} {rest : Nat → Rat} {ss w : List St} {h : Int}
theorem Wy.step (y : Wy c at_ R ss w h) (S : Sta c at_ R ss) {k : Nat} {s : St} (hk : h = (k : Int)) (es : ss[k]? = some s) : Wy c at_ R ss (s :: w) s.b ∧ s.b < h := by
  have hb : -1 ≤ s.b ∧ s.b < (k : Int) := by
    obtain ⟨_, _, z | ⟨j, t, z1, z2, _⟩⟩ := S.ent k s es
    · omega
    · omega
  subst hk
  refine ⟨⟨hb.1, ?_, ?_, ?_, ?_, .inr ⟨s, w, rfl, rfl⟩, ?_⟩, hb.2⟩
  · have := y.len
    rw [List.length_cons]
    omega
  · intro x hx
    rcases List.mem_cons.mp hx with rfl | hx
    · exact ⟨k, es, hb.2⟩
    · obtain ⟨j, a, b⟩ := y.idx x hx
      exact ⟨j, a, by omega⟩
  · show ((s :: w).map fun s => s.p).Nodup
    rw [List.map_cons, List.nodup_cons]
    refine ⟨fun z => ?_, y.nd⟩
    obtain ⟨x, hx, ex⟩ := List.mem_map.mp z
    obtain ⟨j, a, b⟩ := y.idx x hx
    have h1 : (pls ss)[j]? = some x.p := by unfold pls; rw [List.getElem?_map, a]; rfl
    have h2 : (pls ss)[k]? = some s.p := by unfold pls; rw [List.getElem?_map, es]; rfl
    rw [ex] at h1
    have hj := (List.getElem?_eq_some_iff.mp h1).1
    have := (List.getElem?_inj hj S.nd).mp (h1.trans h2.symm)
    omega
  · intro i a b ha hb2
    cases i with
    | zero =>
      cases ha
      rcases y.head with ⟨z, _⟩ | ⟨x, w', z, zb⟩
      · rw [z] at hb2
        cases hb2
      · rw [z] at hb2
        cases hb2
        obtain ⟨j, hj, _⟩ := y.idx b (by rw [z]; exact List.mem_cons_self)
        obtain ⟨_, _, q | ⟨j2, t, q1, q2, q3, q4⟩⟩ := S.ent j b hj
        · omega
        · have : j2 = k := by omega
          subst this
          rw [es] at q3
          cases q3
          exact q4
    | succ i => exact y.link i a b ha hb2
  · intro x hx
    rcases y.head with ⟨z, z2⟩ | ⟨a, w', z, zb⟩
    · rw [z] at hx
      have hx : some s = some x := hx
      cases hx
      rw [List.getLast?_eq_getElem?]
      have : ss.length - 1 = k := by omega
      rw [this]
      exact es
    · refine y.last x ?_
      rw [z] at hx ⊢
      rw [List.getLast?_cons_cons] at hx
      exact hx
theorem Wy.way (y : Wy c at_ R ss w (-1)) (S : Sta c at_ R ss) (hl : ∃ s, ss.getLast? = some s ∧ rest s.p ≠ 0) : c.Way at_ R rest w.length (wpl w) (wmv w) := by
  obtain ⟨l, el, nz⟩ := hl
  have hne : 0 < ss.length := by
    cases ss with
    | nil => cases el
    | cons a b => exact Nat.succ_pos _
  obtain ⟨s, w', e, eb⟩ : ∃ s w', w = s :: w' ∧ s.b = -1 := by
    rcases y.head with ⟨z, z2⟩ | z
    · omega
    · exact z
  have val : ∀ x ∈ w, x.p ∈ c.tou x.m ∧ x.m < c.n := fun x hx => by
    obtain ⟨j, a, b⟩ := y.idx x hx
    obtain ⟨q1, q2, _⟩ := S.ent j x a
    exact ⟨q1, q2⟩
  have gd : ∀ i, i < w.length → w[i]? = some (w.getD i dSt) := fun i hi => at_of_getD hi
  refine ⟨by rw [e]; exact Nat.succ_pos _, fun i j hi hj z => ?_, ?_, fun i hi => ?_, fun i hi => ?_, fun i hi => ?_, ?_⟩
  · have h1 : (pls w)[i]? = some (wpl w i) := by unfold pls; rw [List.getElem?_map, gd i hi]; rfl
    have h2 : (pls w)[j]? = some (wpl w j) := by unfold pls; rw [List.getElem?_map, gd j hj]; rfl
    rw [z] at h1
    exact (List.getElem?_inj (by unfold pls; rw [List.length_map]; exact hi) y.nd).mp (h1.trans h2.symm)
  · show (w.getD 0 dSt).m = at_
    subst e
    show s.m = at_
    obtain ⟨j, a, b⟩ := y.idx s List.mem_cons_self
    obtain ⟨_, _, q | ⟨j2, t, q1, _⟩⟩ := S.ent j s a
    · exact q.2
    · omega
  · exact (val _ (List.mem_of_getElem? (gd i hi))).1
  · exact (val _ (List.mem_of_getElem? (gd i hi))).2
  · exact y.link i _ _ (gd i (by omega)) (gd (i + 1) hi)
  · have hpos : 0 < w.length := by rw [e]; exact Nat.succ_pos _
    have h1 := gd (w.length - 1) (by omega)
    rw [← List.getLast?_eq_getElem?] at h1
    have h2 := y.last _ h1
    rw [el] at h2
    have h3 := Option.some.inj h2
    show rest (w.getD (w.length - 1) dSt).p ≠ 0
    rw [← h3]
    exact nz
end
theorem pure_road {K : PySem.W.Frag} {mg : Str → Option Value} (T : Txt K mg) (vs : List V) (H : Hp) (Q : VK) (E : XK) (h : sp_road K vs H Q E) : t_road K { nx := fun _ H' => Q .non H', rt := Q } (start N_road vs) H := by
  obtain ⟨v1, rfl, c, at_, R, rest, ss, hS, ok, m6, S, hl, q⟩ := h
  obtain ⟨fa, fv, rfl, hf, fal⟩ := id hS
  have sl := S.le ok
  unfold t_road
  apply q_asg
  apply c_lst0
  intro bp hbp
  have s1 := same_new (o := .lst []) hbp
  have e1 : (upd H bp (.lst [])) bp = some (.lst []) := upd_same
  generalize upd H bp (.lst []) = H1 at s1 e1 ⊢
  have hpos : 0 < ss.length := by
    obtain ⟨l, el, _⟩ := hl
    cases ss with
    | nil => cases el
    | cons a b => exact Nat.succ_pos _
  apply q_set (v_sub (v_lenL (val_var rfl) (s1.seq hf)) val_c)
  refine q_while (fun μ σ H' => Same H H' ∧ ∃ (ys : List V) (bs : List St) (h : Int), σ = [some (.ref fa), some (.ref bp), some (.int h)] ∧ H' bp = some (.lst ys) ∧ All2 (isS K H') ys bs ∧ Wy c at_ R ss bs.reverse h ∧ μ = (h + 1).toNat)
    ((fv.length : Int) - 1 + 1).toNat ⟨s1, [], [], (fv.length : Int) - 1, rfl, e1, All2.nil, ⟨by omega, by rw [fal.1]; show ((0 : Nat) : Int) + _ + 1 ≤ _; omega, fun x hx => (nomatch hx), List.nodup_nil, fun k s t hk => (nomatch hk), .inl ⟨rfl, by rw [fal.1]⟩, fun s hs => (nomatch hs)⟩, rfl⟩ ?_
  rintro μ σ H2 ⟨s2, ys, bs, h, rfl, e2, al, y, rfl⟩
  have yl := y.len
  rw [List.length_reverse] at yl
  refine wl_in (ans_vt (v_ge (val_var rfl) val_c)) (fun hb => ?_) (fun hb => ?_)
  · have hb := of_decide_eq_true hb
    obtain ⟨k, rfl⟩ : ∃ k : Nat, h = (k : Int) := ⟨h.toNat, by omega⟩
    have hk : k < ss.length := by omega
    obtain ⟨s, es⟩ : ∃ s, ss[k]? = some s := ⟨_, List.getElem?_eq_getElem hk⟩
    obtain ⟨sv, esv, a, rfl, hT⟩ := fal.get es
    obtain ⟨y2, lt⟩ := y.step S rfl es
    refine q_app (val_var rfl) (v_ixL (val_var rfl) (val_var rfl) (s2.seq hf) esv) e2 (by rw [al.1]; omega) ?_
    have k3 : TK H2 (upd H2 bp (.lst (ys ++ [.ref a]))) := tk_lst e2
    have s3 : Same H (upd H2 bp (.lst (ys ++ [.ref a]))) := same_mut s2 hbp
    have e3 : (upd H2 bp (.lst (ys ++ [.ref a]))) bp = some (.lst (ys ++ [.ref a])) := upd_same
    generalize upd H2 bp (.lst (ys ++ [.ref a])) = H3 at k3 s3 e3 ⊢
    have hT3 := (tk_of s3).sq hT
    refine s_set (v_ixT (j := 2) (v_ixL (val_var rfl) (val_var rfl) (s3.seq hf) esv) val_c hT3 rfl) ?_
    refine ⟨(s.b + 1).toNat, by omega, s3, _, bs ++ [s], s.b, rfl, e3, (al.mono fun v x z => z.mono k3).snoc ⟨a, rfl, hT3⟩, ?_, rfl⟩
    rw [List.reverse_append]
    exact y2
  · have hb := of_decide_eq_false hb
    have : h = -1 := by have := y.lo; omega
    subst this
    apply s_retc
    refine (val_var rfl : Val (tVar 1) _ H2 (.ref bp)) _ ⟨bp, ys, rfl, SqL.of e2, fun p hp => ?_⟩
    have s3 := same_new (o := .lst ys.reverse) hp
    refine q p ys.reverse bs.reverse _ (s2.free hp) (s2.trans s3) upd_same (al.reverse.mono fun v x z => z.mono (tk_of s3)) (y.way S hl) ?_
    rw [List.length_reverse]
    omega
theorem ok_road {P : Program} {w : World} {K : PySem.W.Frag} {mg : Str → Option Value} {base : Heap} (T : Txt K mg) : Okf P w K mg base 1 "road" ["found"] (sp_road K) := by
  obtain ⟨fd, F0⟩ := T.c.def_ 24 (d := d_road) rfl
  have F : FnP K "road" s_road (He.ga K "road") fd := F0
  refine ⟨_, fd, F.ok sc_road (fun vs H Q E h => ?_) (fun cdv A outer s H vs Q E hr h => ⟨t_road K, PSs.nox ?_, pure_road T vs H Q E h⟩), F.bindsN (fun _ _ _ _ _ _ us hl => match us, hl with | [_], _ => rfl), F.kp, T.glo 24 rfl⟩
  · obtain ⟨_, rfl, _⟩ := h
    rfl
  · exact (pss_cons (ps_set (i := 1) sc_road.nd rfl (by first | exact Or.inl rfl | exact Or.inr rfl) (pe_lst pa_nil))
  (pss_cons (ps_set (i := 2) sc_road.nd rfl (by first | exact Or.inl rfl | exact Or.inr rfl) (pe_op op_sub (pe_callB call_len_seq (by rfl) (T.free 57 rfl) PySem.boot_len (pa_cons (pv 0) pa_nil)) pe_int))
  (pss_cons (ps_while PassesOwn.never (pt_cmpR op_ge (pv 2) pe_int (nomark _))
  (pss_cons (ps_expr (pe_bm PySem.F.plainAttrs_list PySem.F.slot_list_append PySem.F.type_list_append mt_append (pv 1) (pa_cons (pe_ix ix_list (pv 0) (pv 2) (fun _ _ => rfl)) pa_nil)))
  (pss_one (ps_set (i := 2) sc_road.nd rfl (by first | exact Or.inl rfl | exact Or.inr rfl) (pe_ix ix_tup (pe_ix ix_list (pv 0) (pv 2) (fun _ _ => rfl)) pe_int (fun _ _ => rfl))))))
  (pss_one (ps_ret (pe_revL (pv 1)))))))
/-- the fixed facts of a table -/
structure TaOk (ws : List Int) (cs : List Cl) (par : Nat → Rat) (N V : Nat) : Prop where
  n16 : cs.length ≤ 16
  m6 : ws.length ≤ 6
  ok : (csOf ws cs).Ok
  p0 : ∀ i, i < cs.length → 0 ≤ par i
  pV : ∀ i, i < cs.length → par i ≤ (V : Rat)
  iz : ∀ i, i < cs.length → Iz (par i) N
  pay : (csOf ws cs).Pay par
  sumW : sm ws.length (csOf ws cs).w ≤ (V : Rat)
  bd : Bd N V
/-- the table so far, by lists -/
structure Tst (ws : List Int) (cs : List Cl) (par : Nat → Rat) (N at_ : Nat) (need : Rat) (Rs : List (List Rat)) (zs : List Rat) : Prop where
  cel : Cel cs.length ws.length Rs zs
  tb : (csOf ws cs).Tb par at_ need (rt Rs) (pf zs)
  izR : ∀ i f, i < cs.length → f < ws.length → Iz (rt Rs i f) N
  izZ : ∀ f, f < ws.length → Iz (pf zs f) N
  izN : Iz need N
  n0 : 0 ≤ need
  nV : need ≤ par at_
  at_ : at_ < cs.length
section
variable {ws : List Int} {cs : List Cl} {par : Nat → Rat} {N V at_ : Nat} {need : Rat} {Rs : List (List Rat)} {zs : List Rat}
theorem Tst.cell (t : Tst ws cs par N at_ need Rs zs) (o : TaOk ws cs par N V) {i f : Nat} (hi : i < cs.length) (hf : f < ws.length) : 0 ≤ rt Rs i f ∧ rt Rs i f ≤ (V : Rat) := by
  refine ⟨t.tb.nn i f hi hf, Rat.le_trans (sm_le_one (f := fun f => rt Rs i f) (n := ws.length) hf fun f hf => t.tb.nn i f hi hf) ?_⟩
  have h := t.tb.row i hi
  have h : sm ws.length (fun f => rt Rs i f) = _ := h
  rw [h]
  have a := o.p0 i hi
  have b := o.pV i hi
  have c := o.pV _ t.at_
  have d := t.n0
  split
  · exact b
  · split
    · grind
    · have := natV V
      grind
theorem Tst.fitR (t : Tst ws cs par N at_ need Rs zs) (o : TaOk ws cs par N V) {i f : Nat} (hi : i < cs.length) (hf : f < ws.length) : Fit (rt Rs i f) := fit_nn o.bd (t.izR i f hi hf) (t.cell o hi hf).1 (t.cell o hi hf).2
theorem Tst.zV (t : Tst ws cs par N at_ need Rs zs) (o : TaOk ws cs par N V) {f : Nat} (hf : f < ws.length) : 0 ≤ pf zs f ∧ pf zs f ≤ (V : Rat) := by
  refine ⟨t.tb.rest0 f hf, ?_⟩
  have a := t.tb.col f hf
  have b : 0 ≤ sm cs.length (fun i => rt Rs i f) := sm_nonneg fun i hi => t.tb.nn i f hi hf
  have b : 0 ≤ sm (csOf ws cs).n (fun i => rt Rs i f) := b
  have d := sm_le_one (f := (csOf ws cs).w) (n := ws.length) hf o.ok.w0
  have e := o.sumW
  grind
theorem Tst.fitZ (t : Tst ws cs par N at_ need Rs zs) (o : TaOk ws cs par N V) {f : Nat} (hf : f < ws.length) : Fit (pf zs f) := fit_nn o.bd (t.izZ f hf) (t.zV o hf).1 (t.zV o hf).2
theorem Tst.fitN (t : Tst ws cs par N at_ need Rs zs) (o : TaOk ws cs par N V) : Fit need := fit_nn o.bd t.izN t.n0 (Rat.le_trans t.nV (o.pV _ t.at_))
end
def sp_load_on_road (K : PySem.W.Frag) : Sp := fun vs H Q _ => ∃ v1 v2 v3 v4, vs = [v1, v2, v3, v4] ∧ ∃ (ws : List Int) (cs : List Cl) (par : Nat → Rat) (N V at_ : Nat) (need : Rat) (Rs : List (List Rat)) (zs : List Rat) (w : List St), isR K H v1 Rs ∧ isL K H (isP K H) v2 zs ∧ isL K H (isS K H) v3 w ∧ isP K H v4 need ∧
  TaOk ws cs par N V ∧ Tst ws cs par N at_ need Rs zs ∧ 0 < need ∧ (csOf ws cs).Way at_ (rt Rs) (pf zs) w.length (wpl w) (wmv w) ∧ w.length ≤ 6 ∧
  ∀ v x, isP K H v x → 0 < x → x ≤ need → x ≤ pf zs (wpl w (w.length - 1)) → (∀ s, s + 1 < w.length → x ≤ rt Rs (wmv w (s + 1)) (wpl w s)) → Iz x N → Q v H
/-- slots: rows 0, rest 1, way 2, need 3, found 4, step 5 -/
abbrev N_load_on_road : List Str := ["rows", "rest", "way", "need", "found", "step"]
theorem sc_load_on_road : FnScope N_load_on_road ["rows", "rest", "way", "need"] (defScope s_load_on_road) := ⟨rfl, rfl, rfl, by decide +kernel, rfl, by decide +kernel, by decide +kernel⟩
def t_load_on_road (K : PySem.W.Frag) : TS := tSeq (tAsg (tCall (sp_lesser K) [] E0 (tCons (tVar 3) (tCons (tOp (rIxL K) (tVar 1) (tOp (rIxT K) (tOp (rIxL K) (tVar 2) (tOp kSub (tCB (kLen K) (tCons (tVar 2) tNil)) (tC (.int 1)))) (tC (.int 0)))) tNil))) (gName 4))
  (tSeq (tFor (iRng2 (tCons (tC (.int 1)) (tCons (tCB (kLen K) (tCons (tVar 2) tNil)) tNil))) (gName 5)
  (tAsg (tCall (sp_lesser K) [] E0 (tCons (tVar 4) (tCons (tOp (rIxL K) (tOp (rIxL K) (tVar 0) (tOp (rIxT K) (tOp (rIxL K) (tVar 2) (tVar 5)) (tC (.int 1)))) (tOp (rIxT K) (tOp (rIxL K) (tVar 2) (tOp kSub (tVar 5) (tC (.int 1)))) (tC (.int 0)))) tNil))) (gName 4)))
  (tRet (tVar 4)))
theorem v_st {K : PySem.W.Frag} {σ : L2.St} {H : Hp} {tr ti : TE} {v : V} {w : List St} {i : Nat} (h1 : Val tr σ H v) (h2 : Val ti σ H (nv i)) (hS : isL K H (isS K H) v w) (hi : i < w.length) : ∃ a, Val (tOp (rIxL K) tr ti) σ H (.ref a) ∧ SqT K H a [nv (wpl w i), nv (wmv w i), .int (w.getD i dSt).b] := by
  obtain ⟨a, vs, rfl, hs, al⟩ := hS
  obtain ⟨x, ex, b, rfl, hT⟩ := al.get (at_of_getD (d := dSt) hi)
  exact ⟨b, v_ixL h1 h2 hs ex, hT⟩
theorem pure_load_on_road {K : PySem.W.Frag} {mg : Str → Option Value} (T : Txt K mg) (vs : List V) (H : Hp) (Q : VK) (E : XK) (h : sp_load_on_road K vs H Q E) : t_load_on_road K { nx := fun _ H' => Q .non H', rt := Q } (start N_load_on_road vs) H := by
  obtain ⟨v1, v2, v3, v4, rfl, ws, cs, par, N, V, at_, need, Rs, zs, w, hR, hZ, hS, hN, o, t, npos, wy, w6, q⟩ := h
  obtain ⟨wa, wv, rfl, hw, wal⟩ := id hS
  have wpos := wy.pos
  have el : (wv.length : Int) = (w.length : Int) := by rw [wal.1]
  have wm : ∀ s, s < w.length → wmv w s < cs.length := wy.mv
  have wp : ∀ s, s < w.length → wpl w s < ws.length := fun s hs => o.ok.tou _ (wy.mv s hs) _ (wy.tou s hs)
  unfold t_load_on_road
  have vlen : Val (tOp kSub (tCB (kLen K) (tCons (tVar 2) tNil)) (tC (.int 1))) (start N_load_on_road [v1, v2, .ref wa, v4]) H (nv (w.length - 1)) := by
    have e : nv (w.length - 1) = .int ((w.length : Int) - 1) := congrArg L2.V.int (by omega)
    rw [e, ← el]
    exact v_sub (v_lenL (val_var rfl) hw) val_c
  obtain ⟨a1, va1, hT1⟩ := v_st (tr := tVar 2) (ti := tOp kSub (tCB (kLen K) (tCons (tVar 2) tNil)) (tC (.int 1))) (σ := start N_load_on_road [v1, v2, .ref wa, v4]) (val_var rfl) vlen hS (show w.length - 1 < w.length by omega)
  obtain ⟨x1, vx1, hx1⟩ := v_elem (tr := tVar 1) (ti := tOp (rIxT K) (tOp (rIxL K) (tVar 2) (tOp kSub (tCB (kLen K) (tCons (tVar 2) tNil)) (tC (.int 1)))) (tC (.int 0))) (σ := start N_load_on_road [v1, v2, .ref wa, v4]) (val_var rfl) (v_ixT (j := 0) va1 val_c hT1 rfl) hZ (by rw [t.cel.zl]; exact wp _ (by omega))
  have z0 := t.tb.rest0 _ (wp (w.length - 1) (by omega))
  have z1 := wy.last
  apply q_asg
  apply c_call2 (val_var rfl) vx1
  refine ⟨_, _, rfl, _, _, hN, hx1, t.fitN o, t.fitZ o (wp _ (by omega)), fun v hv => ?_⟩
  refine q_forR1 (n := w.length) (fun i σ H' => H' = H ∧ ∃ (v : L2.V) (x : Rat) (y : Option L2.V), σ = [some v1, some v2, some (.ref wa), some v4, some v, y] ∧ isP K H v x ∧ 0 < x ∧ x ≤ need ∧ x ≤ pf zs (wpl w (w.length - 1)) ∧ (∀ s, s + 1 < i → x ≤ rt Rs (wmv w (s + 1)) (wpl w s)) ∧ Iz x N)
    val_c (by rw [← el]; exact v_lenL (val_var rfl) hw) ⟨by omega, by omega⟩ ⟨rfl, v, _, _, rfl, hv, by grind, by grind, by grind, fun s hs => absurd hs (by omega), t.izN.min (t.izZ _ (wp _ (by omega)))⟩ ?_ ?_
  · rintro i σ H' hi1 hi ⟨rfl, v, x, y, rfl, hv, x0, xn, xz, xl, xi⟩
    have vi1 : Val (tOp kSub (tVar 5) (tC (.int 1))) [some v1, some v2, some (.ref wa), some v4, some v, some (nv i)] H' (nv (i - 1)) := by
      have e : nv (i - 1) = .int ((i : Int) - 1) := congrArg L2.V.int (by omega)
      rw [e]
      exact v_sub (val_var rfl) val_c
    obtain ⟨a2, va2, hT2⟩ := v_st (tr := tVar 2) (ti := tVar 5) (σ := [some v1, some v2, some (.ref wa), some v4, some v, some (nv i)]) (val_var rfl) (val_var rfl) hS hi
    obtain ⟨a3, va3, hT3⟩ := v_st (tr := tVar 2) (ti := tOp kSub (tVar 5) (tC (.int 1))) (σ := [some v1, some v2, some (.ref wa), some v4, some v, some (nv i)]) (val_var rfl) vi1 hS (show i - 1 < w.length by omega)
    obtain ⟨x2, vx2, hx2⟩ := v_cell (tr := tVar 0) (σ := [some v1, some v2, some (.ref wa), some v4, some v, some (nv i)]) (val_var rfl) (v_ixT (j := 1) va2 val_c hT2 rfl) (v_ixT (j := 0) va3 val_c hT3 rfl) hR (by rw [t.cel.rl]; exact wm i hi) (by rw [t.cel.cl _ (wm i hi)]; exact wp _ (by omega))
    have c0 := t.tb.nn _ _ (wm i hi) (wp (i - 1) (by omega))
    have c1 := wy.link (i - 1) (by omega)
    have e1 : i - 1 + 1 = i := by omega
    rw [e1] at c1
    apply s_asg
    apply c_call2 (val_var rfl) vx2
    refine ⟨_, _, rfl, _, _, hv, hx2, fit_nn o.bd xi (Rat.le_of_lt x0) (Rat.le_trans xn (Rat.le_trans t.nV (o.pV _ t.at_))), t.fitR o (wm i hi) (wp _ (by omega)), fun v9 hv9 => ⟨rfl, v9, _, _, rfl, hv9, by grind, by grind, by grind, fun s hs => ?_, xi.min (t.izR _ _ (wm i hi) (wp _ (by omega)))⟩⟩
    by_cases e : s + 1 = i
    · subst e
      have : s + 1 - 1 = s := by omega
      rw [this]
      grind
    · have := xl s (by omega)
      grind
  · rintro σ H' ⟨rfl, v, x, y, rfl, hv, x0, xn, xz, xl, xi⟩
    apply s_ret (val_var rfl)
    exact q v x hv x0 xn xz xl xi
theorem ok_load_on_road {P : Program} {w : World} {K : PySem.W.Frag} {mg : Str → Option Value} {base : Heap} (T : Txt K mg) : Okf P w K mg base 3 "load_on_road" ["rows", "rest", "way", "need"] (sp_load_on_road K) := by
  obtain ⟨fd, F0⟩ := T.c.def_ 25 (d := d_load_on_road) rfl
  have F : FnP K "load_on_road" s_load_on_road (He.ga K "load_on_road") fd := F0
  have h_lesser := ok_lesser (P := P) (w := w) (base := base) T
  refine ⟨_, fd, F.ok sc_load_on_road (fun vs H Q E h => ?_) (fun cdv A outer s H vs Q E hr h => ⟨t_load_on_road K, PSs.nox ?_, pure_load_on_road T vs H Q E h⟩), F.bindsN (fun _ _ _ _ _ _ us hl => match us, hl with | [_, _, _, _], _ => rfl), F.kp, T.glo 25 rfl⟩
  · obtain ⟨_, _, _, _, rfl, _⟩ := h
    rfl
  · exact (pss_cons (ps_set (i := 4) sc_load_on_road.nd rfl (by first | exact Or.inl rfl | exact Or.inr rfl) (pe_cf h_lesser hr (by decide) rfl (pa_cons (pv 3) (pa_cons (pe_ix ix_list (pv 1) (pe_ix ix_tup (pe_ix ix_list (pv 2) (pe_op op_sub (pe_callB call_len_seq (by rfl) (T.free 57 rfl) PySem.boot_len (pa_cons (pv 2) pa_nil)) pe_int) (fun _ _ => rfl)) pe_int (fun _ _ => rfl)) (fun _ _ => rfl)) pa_nil))))
  (pss_cons (ps_for PassesOwn.never rfl (pi_range2 (by rfl) (T.free 54 rfl) (pa_cons pe_int (pa_cons (pe_callB call_len_seq (by rfl) (T.free 57 rfl) PySem.boot_len (pa_cons (pv 2) pa_nil)) pa_nil))) (pg_name (i := 5) sc_load_on_road.nd rfl (by first | exact Or.inl rfl | exact Or.inr rfl))
  (pss_one (ps_set (i := 4) sc_load_on_road.nd rfl (by first | exact Or.inl rfl | exact Or.inr rfl) (pe_cf h_lesser hr (by decide) rfl (pa_cons (pv 4) (pa_cons (pe_ix ix_list (pe_ix ix_list (pv 0) (pe_ix ix_tup (pe_ix ix_list (pv 2) (pv 5) (fun _ _ => rfl)) pe_int (fun _ _ => rfl)) (fun _ _ => rfl)) (pe_ix ix_tup (pe_ix ix_list (pv 2) (pe_op op_sub (pv 5) pe_int) (fun _ _ => rfl)) pe_int (fun _ _ => rfl)) (fun _ _ => rfl)) pa_nil))))))
  (pss_one (ps_ret (pv 4)))))
/-- the rows and the rest, by addresses of their own -/
structure Mut (K : PySem.W.Frag) (H : Hp) (ra za : Addr) (ras : List Addr) (Rs : List (List Rat)) (zs : List Rat) : Prop where
  out : H ra = some (.lst (ras.map L2.V.ref))
  rows : ∀ (i : Nat) (a : Addr), ras[i]? = some a → ∃ ys, H a = some (.lst ys) ∧ All2 (isP K H) ys (Rs.getD i [])
  rest : ∃ ys, H za = some (.lst ys) ∧ All2 (isP K H) ys zs
  nd : ras.Nodup
  zn : za ∉ ras
  rn : ra ∉ ras
  rz : ra ≠ za
  len : ras.length = Rs.length
/-- alike beside L -/
def SX (L : List Addr) (H H' : Hp) : Prop := ∀ a o, H a = some o → a ∉ L → H' a = some o
def sp_move (K : PySem.W.Frag) : Sp := fun vs H Q _ => ∃ v1 v2 v3 v4, vs = [v1, v2, v3, v4] ∧ ∃ (ra za : Addr) (ras : List Addr) (ws : List Int) (cs : List Cl) (par : Nat → Rat) (N V at_ : Nat) (need x : Rat) (Rs : List (List Rat)) (zs : List Rat) (w : List St), v1 = .ref ra ∧ v2 = .ref za ∧ Mut K H ra za ras Rs zs ∧ isL K H (isS K H) v3 w ∧ isP K H v4 x ∧
  (∀ a, v3 = .ref a → a ≠ za ∧ a ∉ ras) ∧ TaOk ws cs par N V ∧ Tst ws cs par N at_ need Rs zs ∧ (csOf ws cs).Way at_ (rt Rs) (pf zs) w.length (wpl w) (wmv w) ∧ w.length ≤ 6 ∧
  0 < x ∧ x ≤ need ∧ x ≤ pf zs (wpl w (w.length - 1)) ∧ (∀ s, s + 1 < w.length → x ≤ rt Rs (wmv w (s + 1)) (wpl w s)) ∧ Iz x N ∧
  ∀ Rs' zs' H', TK H H' → SX (za :: ras) H H' → Mut K H' ra za ras Rs' zs' → Tst ws cs par N at_ (need - x) Rs' zs' → Q .non H'
/-- slots: rows 0, rest 1, way 2, many 3, step 4, place 5, mover 6, before 7, left 8, last 9 -/
abbrev N_move : List Str := ["rows", "rest", "way", "many", "step", "place", "mover", "before", "left", "last"]
theorem sc_move : FnScope N_move ["rows", "rest", "way", "many"] (defScope s_move) := ⟨rfl, rfl, rfl, by decide +kernel, rfl, by decide +kernel, by decide +kernel⟩
def t_move (K : PySem.W.Frag) : TS := tSeq (tFor (iRng1 (tCons (tCB (kLen K) (tCons (tVar 2) tNil)) tNil)) (gName 4)
  (tSeq (tAsg (tOp (rIxL K) (tVar 2) (tVar 4)) (gTup K 3 (gCons (gName 5) (gCons (gName 6) (gCons (gName 7) gNil)))))
  (tSeq (tAsg (tCall (sp_plus K) [] E0 (tCons (tOp (rIxL K) (tOp (rIxL K) (tVar 0) (tVar 6)) (tVar 5)) (tCons (tVar 3) tNil))) (gSub (tOp (rIxL K) (tVar 0) (tVar 6)) (tVar 5) rSetL))
  (tIfS (tTest (tOp kGt (tVar 4) (tC (.int 0))))
  (tSeq (tAsg (tOp (rIxT K) (tOp (rIxL K) (tVar 2) (tOp kSub (tVar 4) (tC (.int 1)))) (tC (.int 0))) (gName 8))
  (tAsg (tCall (sp_less K) [] E0 (tCons (tOp (rIxL K) (tOp (rIxL K) (tVar 0) (tVar 6)) (tVar 8)) (tCons (tVar 3) tNil))) (gSub (tOp (rIxL K) (tVar 0) (tVar 6)) (tVar 8) rSetL)))
  tNext))))
  (tSeq (tAsg (tOp (rIxT K) (tOp (rIxL K) (tVar 2) (tOp kSub (tCB (kLen K) (tCons (tVar 2) tNil)) (tC (.int 1)))) (tC (.int 0))) (gName 9))
  (tAsg (tCall (sp_less K) [] E0 (tCons (tOp (rIxL K) (tVar 1) (tVar 9)) (tCons (tVar 3) tNil))) (gSub (tVar 1) (tVar 9) rSetL)))
section
variable {L : List Addr} {H H' H2 : Hp} {a : Addr}
theorem SX.refl (L : List Addr) (H : Hp) : SX L H H := fun _ _ h _ => h
theorem SX.same (s : SX L H H') (t : Same H' H2) : SX L H H2 := fun b x e n => t _ _ (s b x e n)
theorem SX.upd {o : HO} (s : SX L H H') (h : a ∈ L) : SX L H (upd H' a o) := fun b x e n => by
  rw [upd_ne (fun z => n (by rw [z]; exact h))]
  exact s b x e n
variable {K : PySem.W.Frag} {ra za : Addr} {ras : List Addr} {Rs : List (List Rat)} {zs : List Rat} {i f : Nat} {ys : List V} {v : V} {y : Rat}
theorem Mut.isR (m : Mut K H ra za ras Rs zs) : isR K H (.ref ra) Rs := ⟨ra, _, rfl, SqL.of m.out, by rw [List.length_map]; exact m.len, fun i u x h1 h2 => by
  rw [List.getElem?_map] at h1
  obtain ⟨b, hb, rfl⟩ := Option.map_eq_some_iff.mp h1
  obtain ⟨ys, e, al⟩ := m.rows i b hb
  rw [getD_of h2] at al
  exact ⟨b, ys, rfl, SqL.of e, al⟩⟩
theorem Mut.isZ (m : Mut K H ra za ras Rs zs) : isL K H (isP K H) (.ref za) zs := let ⟨ys, e, al⟩ := m.rest; ⟨za, ys, rfl, SqL.of e, al⟩
theorem Mut.same (m : Mut K H ra za ras Rs zs) (s : Same H H') : Mut K H' ra za ras Rs zs := { m with
  out := s _ _ m.out
  rows := fun i b hb => let ⟨ys, e, al⟩ := m.rows i b hb; ⟨ys, s _ _ e, al.mono fun v x z => z.mono (tk_of s)⟩
  rest := let ⟨ys, e, al⟩ := m.rest; ⟨ys, s _ _ e, al.mono fun v x z => z.mono (tk_of s)⟩ }
theorem Mut.addr (m : Mut K H ra za ras Rs zs) (hi : i < Rs.length) : ∃ (b : Addr) (ys : List V), ras[i]? = some b ∧ b ∈ ras ∧ H b = some (.lst ys) ∧ ys.length = (Rs.getD i []).length := by
  have h1 : i < ras.length := by rw [m.len]; exact hi
  obtain ⟨ys, e, al⟩ := m.rows i _ (List.getElem?_eq_getElem h1)
  exact ⟨_, ys, List.getElem?_eq_getElem h1, List.getElem_mem h1, e, al.1⟩
theorem Mut.putR (m : Mut K H ra za ras Rs zs) (ha : ras[i]? = some a) (e : H a = some (.lst ys)) (hv : isP K H v y) : Mut K (upd H a (.lst (ys.set f v))) ra za ras (Rs.set i ((Rs.getD i []).set f y)) zs := by
  have k : TK H (upd H a (.lst (ys.set f v))) := tk_lst e
  have hm : a ∈ ras := List.mem_of_getElem? ha
  have hi : i < Rs.length := by rw [← m.len]; exact (List.getElem?_eq_some_iff.mp ha).1
  refine { m with out := ?_, rows := fun j b hb => ?_, rest := ?_, len := by rw [List.length_set]; exact m.len }
  · rw [upd_ne (fun z => m.rn (by rw [z]; exact hm))]
    exact m.out
  · obtain ⟨zs2, e2, al2⟩ := m.rows j b hb
    by_cases ej : j = i
    · subst ej
      rw [ha] at hb
      cases hb
      rw [e] at e2
      cases e2
      refine ⟨_, upd_same, ?_⟩
      have : (Rs.set j ((Rs.getD j []).set f y)).getD j [] = (Rs.getD j []).set f y := getD_of (List.getElem?_set_self hi)
      rw [this]
      exact (al2.mono fun v x z => z.mono k).set (hv.mono k) f
    · have hne : b ≠ a := fun z => by
        subst z
        have hj := (List.getElem?_eq_some_iff.mp hb).1
        exact ej ((List.getElem?_inj hj m.nd).mp (hb.trans ha.symm))
      refine ⟨zs2, by rw [upd_ne hne]; exact e2, ?_⟩
      have : (Rs.set i ((Rs.getD i []).set f y)).getD j [] = Rs.getD j [] := by
        rw [List.getD_eq_getElem?_getD, List.getElem?_set_ne (fun z => ej z.symm), ← List.getD_eq_getElem?_getD]
      rw [this]
      exact al2.mono fun v x z => z.mono k
  · obtain ⟨zs2, e2, al2⟩ := m.rest
    exact ⟨zs2, by rw [upd_ne (fun z => m.zn (by rw [z]; exact hm))]; exact e2, al2.mono fun v x z => z.mono k⟩
theorem Mut.putZ (m : Mut K H ra za ras Rs zs) (e : H za = some (.lst ys)) (hv : isP K H v y) : Mut K (upd H za (.lst (ys.set f v))) ra za ras Rs (zs.set f y) := by
  have k : TK H (upd H za (.lst (ys.set f v))) := tk_lst e
  refine { m with out := ?_, rows := fun j b hb => ?_, rest := ?_ }
  · rw [upd_ne m.rz]
    exact m.out
  · obtain ⟨zs2, e2, al2⟩ := m.rows j b hb
    exact ⟨zs2, by rw [upd_ne (fun z => m.zn (by rw [← z]; exact List.mem_of_getElem? hb))]; exact e2, al2.mono fun v x z => z.mono k⟩
  · obtain ⟨zs2, e2, al2⟩ := m.rest
    rw [e] at e2
    cases e2
    exact ⟨_, upd_same, (al2.mono fun v x z => z.mono k).set (hv.mono k) f⟩
theorem v_row {σ : L2.St} {tr ti : TE} (m : Mut K H ra za ras Rs zs) (ha : ras[i]? = some a) (h1 : Val tr σ H (.ref ra)) (h2 : Val ti σ H (nv i)) : Val (tOp (rIxL K) tr ti) σ H (.ref a) := v_ixL h1 h2 (SqL.of m.out) (by rw [List.getElem?_map, ha]; rfl)
theorem rt_set (hi : i < Rs.length) (hf : f < (Rs.getD i []).length) (i' f' : Nat) : rt (Rs.set i ((Rs.getD i []).set f y)) i' f' = if i' = i ∧ f' = f then y else rt Rs i' f' := by
  unfold rt
  by_cases e : i' = i
  · subst e
    have : (Rs.set i' ((Rs.getD i' []).set f y)).getD i' [] = (Rs.getD i' []).set f y := getD_of (List.getElem?_set_self hi)
    rw [this, pf_set hf]
    by_cases e2 : f' = f
    · rw [if_pos e2, if_pos ⟨rfl, e2⟩]
    · rw [if_neg e2, if_neg (fun z => e2 z.2)]
  · rw [if_neg (fun z => e z.1), List.getD_eq_getElem?_getD, List.getElem?_set_ne (fun z => e z.symm), ← List.getD_eq_getElem?_getD]
theorem rt_add (hi : i < Rs.length) (hf : f < (Rs.getD i []).length) (x : Rat) : rt (Rs.set i ((Rs.getD i []).set f (rt Rs i f + x))) = Cs.addR (rt Rs) i f x := by
  funext i' f'
  rw [rt_set hi hf]
  unfold Cs.addR
  by_cases e : i' = i ∧ f' = f
  · rw [if_pos e, if_pos e, e.1, e.2]
  · rw [if_neg e, if_neg e]
theorem cel_set {n m : Nat} (c : Cel n m Rs zs) (i f : Nat) (y : Rat) : Cel n m (Rs.set i ((Rs.getD i []).set f y)) zs := by
  refine ⟨by rw [List.length_set]; exact c.rl, fun j hj => ?_, c.zl⟩
  by_cases e : j = i
  · subst e
    have : (Rs.set j ((Rs.getD j []).set f y)).getD j [] = (Rs.getD j []).set f y := getD_of (List.getElem?_set_self (by rw [c.rl]; exact hj))
    rw [this, List.length_set]
    exact c.cl j hj
  · rw [List.getD_eq_getElem?_getD, List.getElem?_set_ne (fun z => e z.symm), ← List.getD_eq_getElem?_getD]
    exact c.cl j hj
end
section
variable {ws : List Int} {cs : List Cl} {par : Nat → Rat} {N V at_ : Nat} {need x : Rat} {Rs : List (List Rat)} {zs : List Rat} {w : List St}
theorem addR_iz {R' : Nat → Nat → Rat} {n m : Nat} {y : Rat} (a b : Nat) (hy : Iz y N) (hR : ∀ i f, i < n → f < m → Iz (R' i f) N) : ∀ i f, i < n → f < m → Iz (Cs.addR R' a b y i f) N := fun i f hi hf => by
  unfold Cs.addR
  split
  · exact (hR i f hi hf).add hy
  · exact hR i f hi hf
theorem mvs_iz {R : Nat → Nat → Rat} {n m : Nat} (h : ∀ i f, i < n → f < m → Iz (R i f) N) (hx : Iz x N) (wp wm : Nat → Nat) : ∀ k, ∀ i f, i < n → f < m → Iz (Cs.mvs R wp wm x k i f) N
  | 0 => h
  | 1 => addR_iz _ _ hx h
  | s + 2 => by
    have hneg : Iz (-x) N := by
      have := (Iz.zero N).sub hx
      have e : (0 : Rat) - x = -x := by grind
      rwa [e] at this
    exact addR_iz _ _ hneg (addR_iz _ _ hx (mvs_iz h hx wp wm (s + 1)))
theorem mvs_bd (o : TaOk ws cs par N V) (t : Tst ws cs par N at_ need Rs zs) (wy : (csOf ws cs).Way at_ (rt Rs) (pf zs) w.length (wpl w) (wmv w)) (hx : 0 < x) (hn : x ≤ need) (hl : ∀ s, s + 1 < w.length → x ≤ rt Rs (wmv w (s + 1)) (wpl w s)) (hz : Iz x N)
    {k i f : Nat} (hk : k ≤ w.length) (hi : i < cs.length) (hf : f < ws.length) : Fit (Cs.mvs (rt Rs) (wpl w) (wmv w) x k i f) := by
  have h0 : 0 ≤ Cs.mvs (rt Rs) (wpl w) (wmv w) x k i f ∧ Cs.mvs (rt Rs) (wpl w) (wmv w) x k i f ≤ (V : Rat) := by
    match k with
    | 0 => exact t.cell o hi hf
    | s + 1 =>
      have M := Cs.mid_ok o.ok t.tb wy (Rat.le_of_lt hx) hl s (by omega)
      refine ⟨M.nn i f hi hf, Rat.le_trans (sm_le_one (f := fun f => Cs.mvs (rt Rs) (wpl w) (wmv w) x (s + 1) i f) (n := ws.length) hf fun f hf => M.nn i f hi hf) ?_⟩
      have a := M.row i hi
      have b := t.tb.row i hi
      have a : sm ws.length (fun f => Cs.mvs (rt Rs) (wpl w) (wmv w) x (s + 1) i f) = sm (csOf ws cs).m (fun f => rt Rs i f) + if i = at_ then x else 0 := a
      rw [a, b]
      have c0 := o.p0 i hi
      have c1 := o.pV i hi
      have c2 := o.pV _ t.at_
      have c3 := natV V
      by_cases e1 : i < at_
      · rw [if_pos e1, if_neg (by omega)]
        grind
      · by_cases e2 : i = at_
        · rw [if_neg e1, if_pos e2, if_pos e2]
          grind
        · rw [if_neg e1, if_neg e2, if_neg e2]
          grind
  exact fit_nn o.bd (mvs_iz t.izR hz _ _ k i f hi hf) h0.1 h0.2
end
theorem pure_move {K : PySem.W.Frag} {mg : Str → Option Value} (T : Txt K mg) (vs : List V) (H : Hp) (Q : VK) (E : XK) (h : sp_move K vs H Q E) : t_move K { nx := fun _ H' => Q .non H', rt := Q } (start N_move vs) H := by
  obtain ⟨_, _, v3, v4, rfl, ra, za, ras, ws, cs, par, N, V, at_, need, x, Rs, zs, w, rfl, rfl, M, hS, hX, wn, o, t, wy, w6, x0, xn, xz, xl, xi, q⟩ := h
  obtain ⟨wa, wv, rfl, hw, wal⟩ := id hS
  obtain ⟨wn1, wn2⟩ := wn wa rfl
  have wpos := wy.pos
  have el : (wv.length : Int) = (w.length : Int) := by rw [wal.1]
  have wm : ∀ s, s < w.length → wmv w s < cs.length := wy.mv
  have wp : ∀ s, s < w.length → wpl w s < ws.length := fun s hs => o.ok.tou _ (wy.mv s hs) _ (wy.tou s hs)
  have fx : Fit x := fit_nn o.bd xi (Rat.le_of_lt x0) (Rat.le_trans xn (Rat.le_trans t.nV (o.pV _ t.at_)))
  -- the way is kept
  have keep : ∀ {H' : Hp}, TK H H' → SX (za :: ras) H H' → isL K H' (isS K H') (.ref wa) w := fun {H'} k s => by
    refine ⟨wa, wv, rfl, ?_, wal.mono fun v y z => z.mono k⟩
    have hnot : wa ∉ za :: ras := fun z => by
      rcases List.mem_cons.mp z with z | z
      · exact wn1 z
      · exact wn2 z
    rcases hw with (h | ⟨ob, h⟩) | h
    · exact .inl (.inl (s _ _ h hnot))
    · exact .inl (.inr ⟨ob, s _ _ h hnot⟩)
    · exact .inr h
  unfold t_move
  refine q_forR (n := w.length) (fun k σ H' => TK H H' ∧ SX (za :: ras) H H' ∧ ∃ (Rs' : List (List Rat)) (y5 y6 y7 y8 y9 y10 : Option L2.V), σ = [some (.ref ra), some (.ref za), some (.ref wa), some v4, y5, y6, y7, y8, y9, y10] ∧ Mut K H' ra za ras Rs' zs ∧ Cel cs.length ws.length Rs' zs ∧ rt Rs' = Cs.mvs (rt Rs) (wpl w) (wmv w) x k)
    (by rw [← el]; exact v_lenL (val_var rfl) hw) (by omega) ⟨TK.refl H, SX.refl _ H, Rs, _, _, _, _, _, _, rfl, M, t.cel, rfl⟩ ?_ ?_
  · rintro k σ H1 hk ⟨tk1, sx1, R1, y5, y6, y7, y8, y9, y10, rfl, M1, c1, e1⟩
    have hS1 := keep tk1 sx1
    obtain ⟨sa, vsa, hsT⟩ := v_st (tr := tVar 2) (ti := tVar 4) (σ := [some (.ref ra), some (.ref za), some (.ref wa), some v4, some (nv k), y6, y7, y8, y9, y10]) (val_var rfl) (val_var rfl) hS1 hk
    apply q_asgG
    refine vsa _ ⟨sa, _, rfl, hsT, rfl, _, _, rfl, _, _, rfl, _, [], rfl, rfl, ?_⟩
    have hm := wm k hk
    have hp := wp k hk
    have hi1 : wmv w k < R1.length := by rw [c1.rl]; exact hm
    have hf1 : wpl w k < (R1.getD (wmv w k) []).length := by rw [c1.cl _ hm]; exact hp
    obtain ⟨ca, ys1, ea, ma, ey, yl⟩ := M1.addr hi1
    obtain ⟨cx, vcx, hcx⟩ := v_cell (tr := tVar 0) (ti := tVar 6) (tf := tVar 5) (σ := [some (.ref ra), some (.ref za), some (.ref wa), some v4, some (nv k), some (nv (wpl w k)), some (nv (wmv w k)), some (.int (w.getD k dSt).b), y9, y10]) (val_var rfl) (val_var rfl) (val_var rfl) M1.isR hi1 hf1
    have f1 : Fit (rt R1 (wmv w k) (wpl w k)) := by
      rw [e1]
      exact mvs_bd o t wy x0 xn xl xi (by omega) hm hp
    apply q_asgG
    apply c_call2 vcx (val_var rfl)
    refine ⟨_, _, rfl, _, _, hcx, hX.mono tk1, f1, fx, fun v2 H2 s2 hv2 => ?_⟩
    have M2 := M1.same s2
    refine g_setL (v_row M2 ea (val_var rfl) (val_var rfl)) (val_var rfl) (s2 _ _ ey) (by rw [yl]; exact hf1) ?_
    have M3 := M2.putR (f := wpl w k) ea (s2 _ _ ey) hv2
    have tk3 : TK H (upd H2 ca (.lst (ys1.set (wpl w k) v2))) := (tk1.trans (tk_of s2)).trans (tk_lst (s2 _ _ ey))
    have sx3 : SX (za :: ras) H (upd H2 ca (.lst (ys1.set (wpl w k) v2))) := (sx1.same s2).upd (List.mem_cons_of_mem _ ma)
    have c3 := cel_set c1 (wmv w k) (wpl w k) (rt R1 (wmv w k) (wpl w k) + x)
    have e3 := rt_add hi1 hf1 x
    generalize upd H2 ca (.lst (ys1.set (wpl w k) v2)) = H3 at M3 tk3 sx3 ⊢
    generalize R1.set (wmv w k) ((R1.getD (wmv w k) []).set (wpl w k) (rt R1 (wmv w k) (wpl w k) + x)) = R3 at M3 c3 e3 ⊢
    apply s_if0 (ans_vt (v_gt (val_var rfl) val_c))
    · intro hb
      have hb := of_decide_eq_true hb
      obtain ⟨s, rfl⟩ : ∃ s, k = s + 1 := ⟨k - 1, by omega⟩
      have hS3 := keep tk3 sx3
      have vi1 : Val (tOp kSub (tVar 4) (tC (.int 1))) [some (.ref ra), some (.ref za), some (.ref wa), some v4, some (nv (s + 1)), some (nv (wpl w (s + 1))), some (nv (wmv w (s + 1))), some (.int (w.getD (s + 1) dSt).b), y9, y10] H3 (nv s) := by
        have e : nv s = .int (((s + 1 : Nat) : Int) - 1) := congrArg L2.V.int (by omega)
        rw [e]
        exact v_sub (val_var rfl) val_c
      obtain ⟨sb, vsb, hsb⟩ := v_st (tr := tVar 2) (ti := tOp kSub (tVar 4) (tC (.int 1))) (σ := [some (.ref ra), some (.ref za), some (.ref wa), some v4, some (nv (s + 1)), some (nv (wpl w (s + 1))), some (nv (wmv w (s + 1))), some (.int (w.getD (s + 1) dSt).b), y9, y10]) (val_var rfl) vi1 hS3 (by omega)
      apply q_set (v_ixT (j := 0) vsb val_c hsb rfl)
      have hp2 := wp s (by omega)
      have hne : wpl w s ≠ wpl w (s + 1) := fun z => by have := wy.inj _ _ (by omega) hk z; omega
      have hi3 : wmv w (s + 1) < R3.length := by rw [c3.rl]; exact hm
      have hf3 : wpl w s < (R3.getD (wmv w (s + 1)) []).length := by rw [c3.cl _ hm]; exact hp2
      obtain ⟨cb, ys3, eb, mb, eyb, ylb⟩ := M3.addr hi3
      obtain ⟨cy, vcy, hcy⟩ := v_cell (tr := tVar 0) (ti := tVar 6) (tf := tVar 8) (σ := [some (.ref ra), some (.ref za), some (.ref wa), some v4, some (nv (s + 1)), some (nv (wpl w (s + 1))), some (nv (wmv w (s + 1))), some (.int (w.getD (s + 1) dSt).b), some (nv (wpl w s)), y10]) (val_var rfl) (val_var rfl) (val_var rfl) M3.isR hi3 hf3
      have f3 : Fit (rt R3 (wmv w (s + 1)) (wpl w s)) := by
        rw [e3]
        have : Cs.addR (rt R1) (wmv w (s + 1)) (wpl w (s + 1)) x (wmv w (s + 1)) (wpl w s) = rt R1 (wmv w (s + 1)) (wpl w s) := if_neg (fun z => hne z.2)
        rw [this, e1]
        exact mvs_bd o t wy x0 xn xl xi (by omega) hm hp2
      apply s_asgG
      apply c_call2 vcy (val_var rfl)
      refine ⟨_, _, rfl, _, _, hcy, hX.mono tk3, f3, fx, fun v4' H4 s4 hv4 => ?_⟩
      have M4 := M3.same s4
      refine g_setL (v_row M4 eb (val_var rfl) (val_var rfl)) (val_var rfl) (s4 _ _ eyb) (by rw [ylb]; exact hf3) ?_
      have hsub : rt R3 (wmv w (s + 1)) (wpl w s) - x = rt R3 (wmv w (s + 1)) (wpl w s) + -x := by grind
      rw [hsub] at hv4
      refine ⟨(tk3.trans (tk_of s4)).trans (tk_lst (s4 _ _ eyb)), (sx3.same s4).upd (List.mem_cons_of_mem _ mb), _, _, _, _, _, _, _, rfl, M4.putR (f := wpl w s) eb (s4 _ _ eyb) hv4, cel_set c3 _ _ _, ?_⟩
      rw [rt_add hi3 hf3, e3, e1]
      rfl
    · intro hb
      have hb := of_decide_eq_false hb
      have : k = 0 := by omega
      subst this
      refine ⟨tk3, sx3, R3, _, _, _, _, _, _, rfl, M3, c3, ?_⟩
      rw [e3, e1]
      rfl
  · rintro σ H1 ⟨tk1, sx1, R1, y5, y6, y7, y8, y9, y10, rfl, M1, c1, e1⟩
    obtain ⟨wa', wv', ewa, hw1, wal1⟩ := keep tk1 sx1
    cases ewa
    have el1 : (wv'.length : Int) = (w.length : Int) := by rw [wal1.1]
    have vlen : Val (tOp kSub (tCB (kLen K) (tCons (tVar 2) tNil)) (tC (.int 1))) [some (.ref ra), some (.ref za), some (.ref wa), some v4, y5, y6, y7, y8, y9, y10] H1 (nv (w.length - 1)) := by
      have e : nv (w.length - 1) = .int ((w.length : Int) - 1) := congrArg L2.V.int (by omega)
      rw [e, ← el1]
      exact v_sub (v_lenL (val_var rfl) hw1) val_c
    obtain ⟨a1, va1, hT1⟩ := v_st (tr := tVar 2) (ti := tOp kSub (tCB (kLen K) (tCons (tVar 2) tNil)) (tC (.int 1))) (σ := [some (.ref ra), some (.ref za), some (.ref wa), some v4, y5, y6, y7, y8, y9, y10]) (val_var rfl) vlen (keep tk1 sx1) (show w.length - 1 < w.length by omega)
    apply q_set (v_ixT (j := 0) va1 val_c hT1 rfl)
    have hp := wp (w.length - 1) (by omega)
    obtain ⟨zx, vzx, hzx⟩ := v_elem (tr := tVar 1) (ti := tVar 9) (σ := [some (.ref ra), some (.ref za), some (.ref wa), some v4, y5, y6, y7, y8, y9, some (nv (wpl w (w.length - 1)))]) (val_var rfl) (val_var rfl) M1.isZ (by rw [c1.zl]; exact hp)
    obtain ⟨zv, ez, zal⟩ := M1.rest
    apply s_asgG
    apply c_call2 vzx (val_var rfl)
    refine ⟨_, _, rfl, _, _, hzx, hX.mono tk1, t.fitZ o hp, fx, fun v2 H2 s2 hv2 => ?_⟩
    have M2 := M1.same s2
    refine g_setL (val_var rfl) (val_var rfl) (s2 _ _ ez) (by rw [zal.1, c1.zl]; exact hp) ?_
    refine q R1 (zs.set (wpl w (w.length - 1)) (pf zs (wpl w (w.length - 1)) - x)) _ ((tk1.trans (tk_of s2)).trans (tk_lst (s2 _ _ ez))) ((sx1.same s2).upd List.mem_cons_self) (M2.putZ (s2 _ _ ez) hv2) ?_
    have ez2 : pf (zs.set (wpl w (w.length - 1)) (pf zs (wpl w (w.length - 1)) - x)) = fun f => if f = wpl w (w.length - 1) then pf zs f - x else pf zs f := by
      funext f
      rw [pf_set (by rw [c1.zl]; exact hp)]
      by_cases e : f = wpl w (w.length - 1)
      · rw [if_pos e, if_pos e, e]
      · rw [if_neg e, if_neg e]
    refine ⟨⟨c1.rl, c1.cl, by rw [List.length_set]; exact c1.zl⟩, ?_, fun i f hi hf => ?_, fun f hf => ?_, t.izN.sub xi, by grind, by have := t.nV; grind, t.at_⟩
    · rw [ez2, e1]
      exact Cs.Tb.moved o.ok t.tb wy (Rat.le_of_lt x0) xl xz
    · rw [e1]
      exact mvs_iz t.izR xi _ _ _ i f hi hf
    · rw [ez2]
      show Iz (if _ then _ else _) N
      split
      · exact (t.izZ f hf).sub xi
      · exact t.izZ f hf
theorem ok_move {P : Program} {w : World} {K : PySem.W.Frag} {mg : Str → Option Value} {base : Heap} (T : Txt K mg) : Okf P w K mg base 5 "move" ["rows", "rest", "way", "many"] (sp_move K) := by
  obtain ⟨fd, F0⟩ := T.c.def_ 26 (d := d_move) rfl
  have F : FnP K "move" s_move (He.ga K "move") fd := F0
  have h_plus := ok_plus (P := P) (w := w) (base := base) T
  have h_less := ok_less (P := P) (w := w) (base := base) T
  refine ⟨_, fd, F.ok sc_move (fun vs H Q E h => ?_) (fun cdv A outer s H vs Q E hr h => ⟨t_move K, PSs.nox ?_, pure_move T vs H Q E h⟩), F.bindsN (fun _ _ _ _ _ _ us hl => match us, hl with | [_, _, _, _], _ => rfl), F.kp, T.glo 26 rfl⟩
  · obtain ⟨_, _, _, _, rfl, _⟩ := h
    rfl
  · exact (pss_cons (ps_for PassesOwn.never rfl (pi_range1 (by rfl) (T.free 54 rfl) (pa_cons (pe_callB call_len_seq (by rfl) (T.free 57 rfl) PySem.boot_len (pa_cons (pv 2) pa_nil)) pa_nil)) (pg_name (i := 4) sc_move.nd rfl (by first | exact Or.inl rfl | exact Or.inr rfl))
  (pss_cons (ps_asg (pe_ix ix_list (pv 2) (pv 4) (fun _ _ => rfl)) (pg_tup rfl (pgs_cons (pg_name (i := 5) sc_move.nd rfl (by first | exact Or.inl rfl | exact Or.inr rfl)) (pgs_cons (pg_name (i := 6) sc_move.nd rfl (by first | exact Or.inl rfl | exact Or.inr rfl)) (pgs_cons (pg_name (i := 7) sc_move.nd rfl (by first | exact Or.inl rfl | exact Or.inr rfl)) pgs_nil)))))
  (pss_cons (ps_asg (pe_cf h_plus hr (by decide) rfl (pa_cons (pe_ix ix_list (pe_ix ix_list (pv 0) (pv 6) (fun _ _ => rfl)) (pv 5) (fun _ _ => rfl)) (pa_cons (pv 3) pa_nil))) (pg_sub (pe_ix ix_list (pv 0) (pv 6) (fun _ _ => rfl)) (pv 5) set_list))
  (pss_one (ps_if (pt_cmpR op_gt (pv 4) pe_int (nomark _))
  (pss_cons (ps_set (i := 8) sc_move.nd rfl (by first | exact Or.inl rfl | exact Or.inr rfl) (pe_ix ix_tup (pe_ix ix_list (pv 2) (pe_op op_sub (pv 4) pe_int) (fun _ _ => rfl)) pe_int (fun _ _ => rfl)))
  (pss_one (ps_asg (pe_cf h_less hr (by decide) rfl (pa_cons (pe_ix ix_list (pe_ix ix_list (pv 0) (pv 6) (fun _ _ => rfl)) (pv 8) (fun _ _ => rfl)) (pa_cons (pv 3) pa_nil))) (pg_sub (pe_ix ix_list (pv 0) (pv 6) (fun _ _ => rfl)) (pv 8) set_list))))
  pss_nil)))))
  (pss_cons (ps_set (i := 9) sc_move.nd rfl (by first | exact Or.inl rfl | exact Or.inr rfl) (pe_ix ix_tup (pe_ix ix_list (pv 2) (pe_op op_sub (pe_callB call_len_seq (by rfl) (T.free 57 rfl) PySem.boot_len (pa_cons (pv 2) pa_nil)) pe_int) (fun _ _ => rfl)) pe_int (fun _ _ => rfl)))
  (pss_one (ps_asg (pe_cf h_less hr (by decide) rfl (pa_cons (pe_ix ix_list (pv 1) (pv 9) (fun _ _ => rfl)) (pa_cons (pv 3) pa_nil))) (pg_sub (pv 1) (pv 9) set_list)))))
def sp_table (K : PySem.W.Frag) : Sp := fun vs H Q _ => ∃ v1 v2 v3, vs = [v1, v2, v3] ∧ ∃ (ws : List Int) (cs : List Cl) (ps : List Rat) (N V : Nat), isLI K H v1 ws ∧ isL K H (isC K H) v2 cs ∧ isL K H (isP K H) v3 ps ∧ RowOk ws cs ps N V ∧ (csOf ws cs).Pay (pf ps) ∧
  ∀ p Rs zs H', H p = none → Same H H' → isR K H' (.ref p) Rs → Cel cs.length ws.length Rs zs → (csOf ws cs).Tab (pf ps) (rt Rs) → (∀ i f, i < cs.length → f < ws.length → Iz (rt Rs i f) N) → Q (.ref p) H'
/-- slots: worths 0, claims 1, parts 2, heap 3, rest 4, worth 5, rows 6, claim 7, at 8, need 9, way 10, many 11 -/
abbrev N_table : List Str := ["worths", "claims", "parts", "heap", "rest", "worth", "rows", "claim", "at", "need", "way", "many"]
theorem sc_table : FnScope N_table ["worths", "claims", "parts"] (defScope s_table) := ⟨rfl, rfl, rfl, by decide +kernel, rfl, by decide +kernel, by decide +kernel⟩
def t_table (K : PySem.W.Frag) : TS := tSeq (tAsg (tCall (sp_overdrawn K) [] E0 (tCons (tVar 0) (tCons (tVar 1) (tCons (tVar 2) tNil)))) (gName 3))
  (tSeq (tIfS (tTest (tOp kNotN (tVar 3) (tC .non)))
  tNever
  tNext)
  (tSeq (tAsg (tLc (iList K (tVar 0)) (gName 5) tYes (tTup (tCons (tVar 5) (tCons (tC (.int 1)) tNil))) [5]) (gName 4))
  (tSeq (tAsg (tLc (iList K (tVar 1)) (gName 7) tYes (tCall (sp_nought_row K) [] E0 (tCons (tCB (kLen K) (tCons (tVar 0) tNil)) tNil)) [7]) (gName 6))
  (tSeq (tFor (iRng1 (tCons (tCB (kLen K) (tCons (tVar 1) tNil)) tNil)) (gName 8)
  (tSeq (tAsg (tOp (rIxL K) (tVar 2) (tVar 8)) (gName 9))
  (tWhile (tTest (tOp (rNeD K) (tVar 9) (tC (.ref (He.ga K "NOUGHT")))))
  (tSeq (tAsg (tCall (sp_road K) [] E0 (tCons (tCall (sp_stations K) [] E0 (tCons (tVar 1) (tCons (tVar 6) (tCons (tVar 4) (tCons (tVar 8) tNil))))) tNil)) (gName 10))
  (tSeq (tAsg (tCall (sp_load_on_road K) [] E0 (tCons (tVar 6) (tCons (tVar 4) (tCons (tVar 10) (tCons (tVar 9) tNil))))) (gName 11))
  (tSeq (tDrop (tCall (sp_move K) [] E0 (tCons (tVar 6) (tCons (tVar 4) (tCons (tVar 10) (tCons (tVar 11) tNil))))))
  (tAsg (tCall (sp_less K) [] E0 (tCons (tVar 9) (tCons (tVar 11) tNil))) (gName 9))))))))
  (tRet (tVar 6))))))
theorem tb_start {c : Cs} (ok : c.Ok) (par : Nat → Rat) : c.Tb par 0 (par 0) (fun _ _ => 0) c.w where
  nn := fun _ _ _ _ => Rat.le_refl
  zero := fun _ _ _ _ _ => rfl
  rest0 := ok.w0
  col := fun f _ => by
    rw [sm_zero (fun _ _ => rfl)]
    grind
  row := fun i _ => by
    rw [sm_zero (fun _ _ => rfl), if_neg (by omega)]
    split
    · rename_i z
      grind
    · rfl
theorem rt_zeros (n m : Nat) : rt (List.replicate n (List.replicate m 0)) = fun _ _ => 0 := by
  funext i f
  unfold rt
  by_cases h : i < n
  · rw [getD_of (by rw [List.getElem?_replicate, if_pos h])]
    exact pf_zeros m f
  · rw [List.getD_eq_getElem?_getD, List.getElem?_eq_none (by rw [List.length_replicate]; omega)]
    rfl
theorem pf_ws (ws : List Int) (cs : List Cl) : pf (ws.map fun z : Int => (z : Rat)) = (csOf ws cs).w := by
  funext f
  show _ = ((ws.getD f 0 : Int) : Rat)
  unfold pf
  rw [List.getD_eq_getElem?_getD, List.getElem?_map, List.getD_eq_getElem?_getD]
  cases ws[f]? with
  | none => rfl
  | some z => rfl
/-- the rows as they are made -/
def LcR (K : PySem.W.Frag) (m : Nat) (H : Hp) (p : Addr) (i : Nat) (H' : Hp) : Prop := H p = none ∧ Same H H' ∧ ∃ ras : List Addr, H' p = some (.lst (ras.map L2.V.ref)) ∧ ras.length = i ∧ ras.Nodup ∧ p ∉ ras ∧ ∀ a ∈ ras, H a = none ∧ ∃ ys, H' a = some (.lst ys) ∧ All2 (isP K H') ys (List.replicate m 0)
theorem rea_of {ws : List Int} {cs : List Cl} {par : Nat → Rat} {N V at_ : Nat} {need : Rat} {Rs : List (List Rat)} {zs : List Rat} (o : TaOk ws cs par N V) (t : Tst ws cs par N at_ need Rs zs) (h : 0 < need) : Rea (csOf ws cs) at_ (rt Rs) (pf zs) :=
  fun S h1 h2 h3 => Cs.no_closed o.ok o.p0 o.pay t.tb t.at_ h S h1 h2 h3
theorem nat_of_iz {q : Rat} {N : Nat} (h : Iz q N) (h0 : 0 ≤ q) : ∃ m : Nat, q * (N : Rat) = ((m : Nat) : Rat) := by
  obtain ⟨z, hz⟩ := h
  have h1 : 0 ≤ q * (N : Rat) := Rat.mul_nonneg h0 (natV N)
  rw [hz] at h1
  have h2 := Rat.intCast_nonneg.mp h1
  refine ⟨z.toNat, ?_⟩
  rw [hz, ← Rat.intCast_natCast]
  congr 1
  omega
theorem pure_table {K : PySem.W.Frag} {mg : Str → Option Value} (T : Txt K mg) (vs : List V) (H : Hp) (Q : VK) (E : XK) (h : sp_table K vs H Q E) : t_table K { nx := fun _ H' => Q .non H', rt := Q } (start N_table vs) H := by
  obtain ⟨v1, v2, v3, rfl, ws, cs, ps, N, V, hW, hC, hP, r, pay, q⟩ := h
  have o : TaOk ws cs (pf ps) N V := ⟨r.n16, r.m6, r.ok, r.p0, fun i hi => r.p_le hi, r.iz, pay, r.sumW, r.bd⟩
  obtain ⟨wa, rfl, hw⟩ := id hW
  obtain ⟨ca, cv, rfl, hc, cl⟩ := id hC
  have c16 := r.n16
  have m6 := r.m6
  have el : (cv.length : Int) = (cs.length : Int) := by rw [cl.1]
  unfold t_table
  apply q_asg
  apply c_call3 (val_var rfl) (val_var rfl) (val_var rfl)
  refine ⟨_, _, _, rfl, ws, cs, ps, N, V, hW, hC, hP, r, pay, fun H1 s1 => ?_⟩
  apply q_if0 (ans_vt (val_op (z := .bl (!decide (L2.V.non = L2.V.non))) (val_var rfl) val_c fun Q q => ⟨rfl, q⟩))
  · intro hb
    simp at hb
  intro _
  apply q_asg
  refine c_lcL (fun _ => true) (fun k v H' => isP K H' v ((ws.getD k 0 : Int) : Rat)) (fun k v H1 H2 t _ r => r.mono t) (val_var rfl) (s1.seq hw) (by rw [List.length_map]; omega) (fun k x H2 _ _ Q k => k) (fun k x H2 hx s2 _ => ?_) ?_
  · rw [List.getElem?_map] at hx
    obtain ⟨z, hz, rfl⟩ := Option.map_eq_some_iff.mp hx
    rw [getD_of hz]
    intro Q' q'
    refine c_tup2 (val_var rfl) val_c fun p5 hp5 => ?_
    exact q' _ _ (same_new hp5) (part_int upd_same)
  intro za zv H2 hza s2 e2 al2
  rw [kept_all, List.length_map] at al2
  have al2 : All2 (isP K H2) zv (ws.map fun z : Int => (z : Rat)) := by
    refine ⟨by rw [al2.1, List.length_range, List.length_map], fun k v x h1 h2 => ?_⟩
    obtain ⟨j, hj, r⟩ := al2.got h1
    rw [List.getElem?_map] at h2
    obtain ⟨p, hp, rfl⟩ := Option.map_eq_some_iff.mp h2
    have hk := (List.getElem?_eq_some_iff.mp hp).1
    rw [List.getElem?_range hk] at hj
    cases hj
    rwa [getD_of hp] at r
  have s12 := s1.trans s2
  have hzan : H za = none := s1.free hza
  apply q_asg
  refine c_lcGL (xs := cv) (LcR K ws.length H2) (val_var rfl) (s12.seq hc) (fun ra hra => ⟨hra, same_new hra, [], upd_same, rfl, List.nodup_nil, List.not_mem_nil, fun a ha => (nomatch ha)⟩) (fun ra i H' I => I.2.1.seq (s12.seq hc)) (fun ra i x H' hra hi I => ?_) (fun ra H3 hra I => ?_)
  · obtain ⟨I1, I2, ras, I3, I4, I5, I6, I7⟩ := I
    have hi2 := (List.getElem?_eq_some_iff.mp hi).1
    apply lcT_yes
    apply c_call1
    · exact v_lenL (xs := ws.map L2.V.int) (val_var rfl) ((s12.trans I2).seq hw)
    refine ⟨_, rfl, ws.length, by rw [List.length_map], by omega, fun p ys H4 hp s4 e4 al4 => ?_⟩
    have hlen : ras.length < 50000 := by rw [I4]; rw [cl.1] at hi2; omega
    refine ⟨_, s4 _ _ I3, by rw [List.length_map]; exact Nat.lt_of_lt_of_le hlen (by decide), I1, same_mut (I2.trans s4) I1, ras ++ [p], ?_, by rw [List.length_append, I4]; rfl, ?_, ?_, fun a ha => ?_⟩
    · rw [List.map_append]
      exact upd_same
    · rw [List.nodup_append]
      refine ⟨I5, by simp, fun a ha b hb => ?_⟩
      have hb : b = p := by simpa using hb
      subst hb
      intro z
      subst z
      obtain ⟨_, ys2, e5, _⟩ := I7 a ha
      rw [e5] at hp
      cases hp
    · intro z
      rcases List.mem_append.mp z with z | z
      · exact I6 z
      · have z := List.mem_singleton.mp z
        subst z
        rw [I3] at hp
        cases hp
    · have k5 : TK H4 (upd H4 ra (.lst (ras.map L2.V.ref ++ [.ref p]))) := tk_lst (s4 _ _ I3)
      rcases List.mem_append.mp ha with z | z
      · obtain ⟨f1, ys2, f2, f3⟩ := I7 a z
        refine ⟨f1, ys2, ?_, f3.mono fun v x q => (q.mono (tk_of s4)).mono k5⟩
        rw [upd_ne (fun q => I6 (by rw [← q]; exact z))]
        exact s4 _ _ f2
      · have z := List.mem_singleton.mp z
        subst z
        refine ⟨I2.free hp, ys, ?_, al4.mono fun v x q => q.mono k5⟩
        rw [upd_ne (fun q => by rw [q, I3] at hp; cases hp)]
        exact e4
  obtain ⟨I1, I2, ras, I3, I4, I5, I6, I7⟩ := I
  have s03 := s12.trans I2
  have hran : H ra = none := s12.free I1
  have hrasn : ∀ a ∈ ras, H a = none := fun a ha => s12.free (I7 a ha).1
  have rl : ras.length = cs.length := by rw [I4, cl.1]
  have M0 : Mut K H3 ra za ras (List.replicate cs.length (List.replicate ws.length 0)) (ws.map fun z : Int => (z : Rat)) := by
    refine ⟨I3, fun i a ha => ?_, ⟨zv, I2 _ _ e2, al2.mono fun v x q => q.mono (tk_of I2)⟩, I5, fun z => ?_, I6, fun z => ?_, by rw [List.length_replicate, rl]⟩
    · obtain ⟨_, ys, f2, f3⟩ := I7 a (List.mem_of_getElem? ha)
      have hi := (List.getElem?_eq_some_iff.mp ha).1
      refine ⟨ys, f2, ?_⟩
      rw [getD_of (x := List.replicate ws.length 0) (by rw [List.getElem?_replicate, if_pos (by rw [← rl]; exact hi)])]
      exact f3
    · have := (I7 za z).1
      rw [e2] at this
      cases this
    · rw [z, e2] at I1
      cases I1
  have fresh : ∀ a ∈ za :: ras, H a = none := fun a ha => by
    rcases List.mem_cons.mp ha with z | z
    · rw [z]; exact hzan
    · exact hrasn a z
  have keep : ∀ {H' H'' : Hp}, Same H H' → SX (za :: ras) H' H'' → Same H H'' := fun {H' H''} s x b u e => x b u (s b u e) fun z => by
    rw [fresh b z] at e
    cases e
  have cel0 : Cel cs.length ws.length (List.replicate cs.length (List.replicate ws.length 0)) (ws.map fun z : Int => (z : Rat)) := by
    refine ⟨List.length_replicate .., fun i hi => ?_, List.length_map _⟩
    rw [getD_of (x := List.replicate ws.length 0) (by rw [List.getElem?_replicate, if_pos hi]), List.length_replicate]
  have vlc : ∀ {H' : Hp} {σ : L2.St}, Same H H' → σ[1]? = some (some (.ref ca)) → Val (tCB (kLen K) (tCons (tVar 1) tNil)) σ H' (.int (cs.length : Int)) := fun s e => by
    rw [← el]
    exact v_lenL (val_var e) (s.seq hc)
  refine q_forR (n := cs.length) (fun k σ H' => Same H H' ∧ ∃ (Rs : List (List Rat)) (zs : List Rat) (y5 y7 y8 y9 y10 y11 : Option L2.V), σ = [some (.ref wa), some (.ref ca), some v3, some .non, some (.ref za), y5, some (.ref ra), y7, y8, y9, y10, y11] ∧ Mut K H' ra za ras Rs zs ∧ Cel cs.length ws.length Rs zs ∧ (csOf ws cs).Tb (pf ps) k (pf ps k) (rt Rs) (pf zs) ∧
      (∀ i f, i < cs.length → f < ws.length → Iz (rt Rs i f) N) ∧ ∀ f, f < ws.length → Iz (pf zs f) N)
    (vlc s03 rfl) (by omega) ⟨s03, _, _, _, _, _, _, _, _, rfl, M0, cel0, by rw [rt_zeros, pf_ws ws cs]; exact tb_start r.ok _, fun i f _ _ => by rw [rt_zeros]; exact Iz.zero N, fun f _ => by rw [pf_ws ws cs]; exact Iz.int _ N⟩ ?_ ?_
  · rintro k σ H4 hk ⟨s4, Rs, zs, y5, y7, y8, y9, y10, y11, rfl, M, ce, tb, izR, izZ⟩
    obtain ⟨px, vpx, hpx⟩ := v_elem (tr := tVar 2) (ti := tVar 8) (σ := [some (.ref wa), some (.ref ca), some v3, some .non, some (.ref za), y5, some (.ref ra), y7, some (nv k), y9, y10, y11]) (val_var rfl) (val_var rfl) (hP.monoP s4) (by rw [r.len]; exact hk)
    apply q_set vpx
    obtain ⟨m0, hm0⟩ := nat_of_iz (r.iz k hk) (r.p0 k hk)
    refine s_while (fun μ σ H' => Same H H' ∧ ∃ (Rs : List (List Rat)) (zs : List Rat) (need : Rat) (nx : L2.V) (y10 y11 : Option L2.V), σ = [some (.ref wa), some (.ref ca), some v3, some .non, some (.ref za), y5, some (.ref ra), y7, some (nv k), some nx, y10, y11] ∧ Mut K H' ra za ras Rs zs ∧ isP K H' nx need ∧ Tst ws cs (pf ps) N k need Rs zs ∧ need * (N : Rat) = ((μ : Nat) : Rat))
      m0 ⟨s4, Rs, zs, pf ps k, px, _, _, rfl, M, hpx, ⟨ce, tb, izR, izZ, r.iz k hk, r.p0 k hk, Rat.le_refl, hk⟩, hm0⟩ ?_
    rintro μ σ H5 ⟨s5, R5, z5, need, nx, y10, y11, rfl, M5, hnx, t5, hmu⟩
    refine wl_in (ans_vt (v_neP (val_var rfl) val_c hnx (part0 T H5))) (fun hb => ?_) (fun hb => ?_)
    · have hb : need ≠ 0 := by simpa using hb
      have npos : 0 < need := by have := t5.n0; grind
      apply q_asg
      apply c_call1c
      apply c_call4 (val_var rfl) (val_var rfl) (val_var rfl) (val_var rfl)
      refine ⟨_, _, _, _, rfl, ws, cs, R5, z5, k, hC.monoC s5, M5.isR, M5.isZ, rfl, hk, c16, m6, r.ok, t5.cel, rea_of o t5 npos, fun fp fv ss H6 hfp s6 e6 al6 S hlast => ?_⟩
      refine ⟨_, rfl, csOf ws cs, k, rt R5, pf z5, ss, ⟨fp, fv, rfl, SqL.of e6, al6⟩, r.ok, m6, S, hlast, fun wp wv w H7 hwp s7 e7 al7 way w6 => ?_⟩
      have s57 := s6.trans s7
      have M7 := M5.same s57
      have hS7 : isL K H7 (isS K H7) (.ref wp) w := ⟨wp, wv, rfl, SqL.of e7, al7⟩
      have hn7 := hnx.mono (tk_of s57)
      apply q_asg
      apply c_call4 (val_var rfl) (val_var rfl) (val_var rfl) (val_var rfl)
      refine ⟨_, _, _, _, rfl, ws, cs, pf ps, N, V, k, need, R5, z5, w, M7.isR, M7.isZ, hS7, hn7, o, t5, npos, way, w6, fun xv x hxv x0 xn xz xl xi => ?_⟩
      apply q_drop
      apply c_call4 (val_var rfl) (val_var rfl) (val_var rfl) (val_var rfl)
      have M6 := M5.same s6
      refine ⟨_, _, _, _, rfl, ra, za, ras, ws, cs, pf ps, N, V, k, need, x, R5, z5, w, rfl, rfl, M7, hS7, hxv, fun a ea => ?_, o, t5, way, w6, x0, xn, xz, xl, xi, fun R8 z8 H8 k8 sx8 M8 t8 => ?_⟩
      · cases ea
        refine ⟨fun z => ?_, fun z => ?_⟩
        · obtain ⟨ys, e, _⟩ := M6.rest
          rw [z, e] at hwp
          cases hwp
        · obtain ⟨i, hi⟩ := List.getElem?_of_mem z
          obtain ⟨ys, e, _⟩ := M6.rows i _ hi
          rw [e] at hwp
          cases hwp
      · have s8 := keep (s5.trans s57) sx8
        apply s_asg
        apply c_call2 (val_var rfl) (val_var rfl)
        refine ⟨_, _, rfl, need, x, hn7.mono k8, hxv.mono k8, t5.fitN o, fit_nn o.bd xi (Rat.le_of_lt x0) (Rat.le_trans xn (Rat.le_trans t5.nV (o.pV _ hk))), fun v9 H9 s9 hv9 => ?_⟩
        obtain ⟨m', hm'⟩ := nat_of_iz t8.izN t8.n0
        refine ⟨m', ?_, s8.trans s9, R8, z8, need - x, v9, _, _, rfl, M8.same s9, hv9, t8, hm'⟩
        have hN0 : (0 : Rat) < (N : Rat) := by
          have h1 := r.bd.n0
          have h2 := Rat.natCast_lt_natCast.mpr h1
          exact h2
        have h2 := Rat.mul_pos x0 hN0
        have h3 : ((m' : Nat) : Rat) < ((μ : Nat) : Rat) := by
          rw [← hm', ← hmu]
          grind
        exact Rat.natCast_lt_natCast.mp h3
    · have hb : need = 0 := by simpa using hb
      subst hb
      exact ⟨s5, R5, z5, _, _, _, _, _, _, rfl, M5, t5.cel, t5.tb.next hk, t5.izR, t5.izZ⟩
  · rintro σ H4 ⟨s4, Rs, zs, y5, y7, y8, y9, y10, y11, rfl, M, ce, tb, izR, izZ⟩
    apply s_ret (val_var rfl)
    exact q ra Rs zs H4 hran s4 M.isR ce tb.tab izR
theorem ok_table {P : Program} {w : World} {K : PySem.W.Frag} {mg : Str → Option Value} {base : Heap} (T : Txt K mg) : Okf P w K mg base 7 "table" ["worths", "claims", "parts"] (sp_table K) := by
  obtain ⟨fd, F0⟩ := T.c.def_ 27 (d := d_table) rfl
  have F : FnP K "table" s_table (He.ga K "table") fd := F0
  have h_overdrawn := ok_overdrawn (P := P) (w := w) (base := base) T
  have h_nought_row := ok_nought_row (P := P) (w := w) (base := base) T
  have h_stations := ok_stations (P := P) (w := w) (base := base) T
  have h_road := ok_road (P := P) (w := w) (base := base) T
  have h_load_on_road := ok_load_on_road (P := P) (w := w) (base := base) T
  have h_move := ok_move (P := P) (w := w) (base := base) T
  have h_less := ok_less (P := P) (w := w) (base := base) T
  refine ⟨_, fd, F.ok sc_table (fun vs H Q E h => ?_) (fun cdv A outer s H vs Q E hr h => ⟨t_table K, PSs.nox ?_, pure_table T vs H Q E h⟩), F.bindsN (fun _ _ _ _ _ _ us hl => match us, hl with | [_, _, _], _ => rfl), F.kp, T.glo 27 rfl⟩
  · obtain ⟨_, _, _, rfl, _⟩ := h
    rfl
  · exact (pss_cons (ps_set (i := 3) sc_table.nd rfl (by first | exact Or.inl rfl | exact Or.inr rfl) (pe_cf h_overdrawn hr (by decide) rfl (pa_cons (pv 0) (pa_cons (pv 1) (pa_cons (pv 2) pa_nil)))))
  (pss_cons (ps_if (pt_cmpR op_notN (pv 3) pe_non (nomark _))
  (pss_one ps_never)
  pss_nil)
  (pss_cons (ps_setLc (i := 4) (own := [("worth", 5)]) (g := (gName 5)) (tt := tYes) rfl sc_table.nd rfl rfl (sw_true rfl rfl rfl (by decide +kernel)) (pi_list (pv 0)) (blkOk_by (own := [("worth", 5)]) (N := N_table) (sc := defScope s_table) (by decide +kernel)) (fun _ _ _ _ _ => (pg_name (i := 5) sc_table.nd rfl (by first | exact Or.inl rfl | exact Or.inr rfl))) (fun _ _ _ _ _ => pts_nil) (fun _ _ _ _ _ => (pe_tup (pa_cons (pv 5) (pa_cons pe_int pa_nil)))))
  (pss_cons (ps_setLc (i := 6) (own := [("claim", 7)]) (g := (gName 7)) (tt := tYes) rfl sc_table.nd rfl rfl (sw_true rfl rfl rfl (by decide +kernel)) (pi_list (pv 1)) (blkOk_by (own := [("claim", 7)]) (N := N_table) (sc := defScope s_table) (by decide +kernel)) (fun _ _ _ _ _ => (pg_name (i := 7) sc_table.nd rfl (by first | exact Or.inl rfl | exact Or.inr rfl))) (fun _ _ _ _ _ => pts_nil) (fun _ _ _ _ _ => (pe_cf h_nought_row hr (by decide) rfl (pa_cons (pe_callB call_len_seq (by rfl) (T.free 57 rfl) PySem.boot_len (pa_cons (pv 0) pa_nil)) pa_nil))))
  (pss_cons (ps_for PassesOwn.never rfl (pi_range1 (by rfl) (T.free 54 rfl) (pa_cons (pe_callB call_len_seq (by rfl) (T.free 57 rfl) PySem.boot_len (pa_cons (pv 1) pa_nil)) pa_nil)) (pg_name (i := 8) sc_table.nd rfl (by first | exact Or.inl rfl | exact Or.inr rfl))
  (pss_cons (ps_set (i := 9) sc_table.nd rfl (by first | exact Or.inl rfl | exact Or.inr rfl) (pe_ix ix_list (pv 2) (pv 8) (fun _ _ => rfl)))
  (pss_one (ps_while PassesOwn.never (pt_cmpR (op_neD hr.units) (pv 9) (pe_glob rfl (T.glo 51 rfl) rfl) (nomark _))
  (pss_cons (ps_set (i := 10) sc_table.nd rfl (by first | exact Or.inl rfl | exact Or.inr rfl) (pe_cf h_road hr (by decide) rfl (pa_cons (pe_cf h_stations hr (by decide) rfl (pa_cons (pv 1) (pa_cons (pv 6) (pa_cons (pv 4) (pa_cons (pv 8) pa_nil))))) pa_nil)))
  (pss_cons (ps_set (i := 11) sc_table.nd rfl (by first | exact Or.inl rfl | exact Or.inr rfl) (pe_cf h_load_on_road hr (by decide) rfl (pa_cons (pv 6) (pa_cons (pv 4) (pa_cons (pv 10) (pa_cons (pv 9) pa_nil))))))
  (pss_cons (ps_expr (pe_cf h_move hr (by decide) rfl (pa_cons (pv 6) (pa_cons (pv 4) (pa_cons (pv 10) (pa_cons (pv 11) pa_nil))))))
  (pss_one (ps_set (i := 9) sc_table.nd rfl (by first | exact Or.inl rfl | exact Or.inr rfl) (pe_cf h_less hr (by decide) rfl (pa_cons (pv 9) (pa_cons (pv 11) pa_nil))))))))))))
  (pss_one (ps_ret (pv 6))))))))
def sp_Lbag (K : PySem.W.Frag) : Sp := fun vs H Q _ => ∃ v1, vs = [v1] ∧ ∃ ns : List Int, isLI K H v1 ns ∧ ns.length ≤ 63 ∧ ∀ a b H', H a = none → Same H H' → Bag H' a b → Q (.ref a) H'
/-- slots: _law_script 0, _law_salt 1, _law_one 2 -/
abbrev N_Lbag : List Str := ["_law_script", "_law_salt", "_law_one"]
theorem sc_Lbag : FnScope N_Lbag ["_law_script"] (defScope s_Lbag) := ⟨rfl, rfl, rfl, by decide +kernel, rfl, by decide +kernel, by decide +kernel⟩
def t_Lbag (K : PySem.W.Frag) : TS := tSeq (tAsg (tCB (kLen K) (tCons (tSl (rSlL K) (tVar 0) tNoPart (tPart (tC (.int 63)))) tNil)) (gName 1))
  (tSeq (tFor (iList K (tSl (rSlL K) (tVar 0) tNoPart (tPart (tC (.int 63))))) (gName 2)
  (tAsg (tOp kMod (tOp kAdd (tOp kMulS (tVar 1) (tC (.int 1009))) (tVar 2)) (tC (.int 1000003))) (gName 1)))
  (tRet (tLst (tCons (tCB (kList K) (tCons (tSl (rSlL K) (tVar 0) tNoPart (tPart (tC (.int 63)))) tNil)) (tCons (tC (.int 0)) (tCons (tC (.int 0)) (tCons (tVar 1) tNil)))))))
theorem c_sl63 {K : PySem.W.Frag} {σ : L2.St} {H : Hp} {te : TE} {s : Addr} {xs : List V} {Q : VK} (h1 : Val te σ H (.ref s)) (hs : SqL K H s xs) (hl : xs.length ≤ 63) (q : ∀ p, H p = none → Q (.ref p) (upd H p (.lst xs))) : tSl (rSlL K) te tNoPart (tPart (tC (.int 63))) σ H Q := by
  refine h1 _ ⟨63, rfl, s, xs, rfl, hs, ?_⟩
  have e : cutV xs none (some 63) = xs := by
    unfold cutV
    have e1 : (63 : Int) = ((63 : Nat) : Int) := rfl
    rw [e1, HT.sIx_nat, HT.sIx_none, List.drop_zero, Nat.min_eq_right hl]
    exact List.take_of_length_le (by omega)
  rw [e]
  exact q
theorem pure_Lbag {K : PySem.W.Frag} {mg : Str → Option Value} (T : Txt K mg) (vs : List V) (H : Hp) (Q : VK) (E : XK) (h : sp_Lbag K vs H Q E) : t_Lbag K { nx := fun _ H' => Q .non H', rt := Q } (start N_Lbag vs) H := by
  obtain ⟨_, rfl, ns, ⟨s, rfl, hs⟩, hl, q⟩ := h
  have hl2 : (ns.map V.int).length ≤ 63 := by rw [List.length_map]; exact hl
  unfold t_Lbag
  apply q_asg
  apply c_cb1
  apply c_sl63 (val_var rfl) hs hl2
  intro p hp
  have s1 := same_new (o := .lst (ns.map V.int)) hp
  have e1 : (upd H p (.lst (ns.map V.int))) p = some (.lst (ns.map V.int)) := upd_same
  generalize upd H p (.lst (ns.map V.int)) = H1 at s1 e1 ⊢
  refine ⟨p, _, rfl, .inl (SqL.of e1), ?_⟩
  apply q_forC
  apply c_sl63 (val_var rfl) (s1.seq hs) hl2
  intro p2 hp2
  have s2 := same_new (o := .lst (ns.map V.int)) hp2
  have e2 : (upd H1 p2 (.lst (ns.map V.int))) p2 = some (.lst (ns.map V.int)) := upd_same
  generalize upd H1 p2 (.lst (ns.map V.int)) = H2 at s2 e2 ⊢
  refine forG_inq (xs := ns.map V.int) (fun i σ H' => H' = H2 ∧ ∃ (salt : Int) (y : Option V), σ = [some (.ref s), some (.int salt), y]) (SqL.of e2) ⟨rfl, _, _, rfl⟩ (fun i σ H' _ z => by rw [z.1]; exact SqL.of e2) ?_ ?_
  · rintro i x σ H' hx ⟨rfl, salt, y, rfl⟩
    rw [List.getElem?_map] at hx
    obtain ⟨z, hz, rfl⟩ := Option.map_eq_some_iff.mp hx
    apply s_set (v_mod (v_add (v_mulS (val_var rfl) val_c (.inr (by decide))) (val_var rfl)) val_c (by decide))
    exact ⟨rfl, _, _, rfl⟩
  · rintro σ H' ⟨rfl, salt, y, rfl⟩
    have s02 := s1.trans s2
    apply s_retc
    show tCB _ _ _ _ _
    apply c_cb1
    apply c_sl63 (val_var rfl) (s02.seq hs) hl2
    intro p3 hp3
    have s3 := same_new (o := .lst (ns.map V.int)) hp3
    have e3 : (upd H' p3 (.lst (ns.map V.int))) p3 = some (.lst (ns.map V.int)) := upd_same
    generalize upd H' p3 (.lst (ns.map V.int)) = H3 at s3 e3 ⊢
    refine ⟨p3, _, rfl, .inl (SqL.of e3), fun b hb => ?_⟩
    have s4 := same_new (o := .lst (ns.map V.int)) hb
    have e4 : (upd H3 b (.lst (ns.map V.int))) b = some (.lst (ns.map V.int)) := upd_same
    generalize upd H3 b (.lst (ns.map V.int)) = H4 at s4 e4 ⊢
    refine ⟨_, rfl, by show 4 ≤ sizeLine; decide, fun a ha => ?_⟩
    have s5 := same_new (o := .lst [V.ref b, .int 0, .int 0, .int salt]) ha
    have s05 := ((s02.trans s3).trans s4).trans s5
    refine q a b _ (((s02.trans s3).trans s4).free ha) s05 ⟨ns, 0, 0, salt, upd_same, s5 _ _ e4, fun z => ?_⟩
    rw [z] at e4
    rw [e4] at ha
    cases ha
theorem ok_Lbag {P : Program} {w : World} {K : PySem.W.Frag} {mg : Str → Option Value} {base : Heap} (T : Txt K mg) : Okf P w K mg base 1 "_law_bag" ["_law_script"] (sp_Lbag K) := by
  obtain ⟨fd, F0⟩ := T.c.def_ 28 (d := d_Lbag) rfl
  have F : FnP K "_law_bag" s_Lbag (He.ga K "_law_bag") fd := F0
  refine ⟨_, fd, F.ok sc_Lbag (fun vs H Q E h => ?_) (fun cdv A outer s H vs Q E hr h => ⟨t_Lbag K, PSs.nox ?_, pure_Lbag T vs H Q E h⟩), F.bindsN (fun _ _ _ _ _ _ us hl => match us, hl with | [_], _ => rfl), F.kp, T.glo 28 rfl⟩
  · obtain ⟨_, rfl, _⟩ := h
    rfl
  · exact (pss_cons (ps_set (i := 1) sc_Lbag.nd rfl (by first | exact Or.inl rfl | exact Or.inr rfl) (pe_callB call_len_seq (by rfl) (T.free 57 rfl) PySem.boot_len (pa_cons (pe_slice sl_list (pv 0) po_none (po_some pe_int)) pa_nil)))
  (pss_cons (ps_for PassesOwn.never rfl (pi_list (pe_slice sl_list (pv 0) po_none (po_some pe_int))) (pg_name (i := 2) sc_Lbag.nd rfl (by first | exact Or.inl rfl | exact Or.inr rfl))
  (pss_one (ps_set (i := 1) sc_Lbag.nd rfl (by first | exact Or.inl rfl | exact Or.inr rfl) (pe_op op_mod (pe_op op_add (pe_op op_mul (pv 1) pe_int) (pv 2)) pe_int))))
  (pss_one (ps_ret (pe_lst (pa_cons (pe_callTy call_list_of (by rfl) (T.free 59 rfl) (by decide +kernel) (pa_cons (pe_slice sl_list (pv 0) po_none (po_some pe_int)) pa_nil)) (pa_cons pe_int (pa_cons pe_int (pa_cons (pv 1) pa_nil)))))))))
def sp_Lpull (K : PySem.W.Frag) : Sp := fun vs H Q _ => ∃ v1 v2, vs = [v1, v2] ∧ ∃ (a b : Addr) (n : Nat), v1 = .ref a ∧ v2 = nv n ∧ Bag H a b ∧ 0 < n ∧ n < B1 ∧ ∀ k H', k < n → BX a H H' → Bag H' a b → Q (nv k) H'
/-- slots: _law_bag_here 0, _law_many_here 1, _law_seed 2, _law_mixed 3, _law_drawn 4 -/
abbrev N_Lpull : List Str := ["_law_bag_here", "_law_many_here", "_law_seed", "_law_mixed", "_law_drawn"]
theorem sc_Lpull : FnScope N_Lpull ["_law_bag_here", "_law_many_here"] (defScope s_Lpull) := ⟨rfl, rfl, rfl, by decide +kernel, rfl, by decide +kernel, by decide +kernel⟩
def t_Lpull (K : PySem.W.Frag) : TS := tSeq (tIfS (tTest (tOp kLe (tOp (rIxL K) (tVar 0) (tC (.int 2))) (tC (.int 1))))
  (tSeq (tAugS (tVar 0) (tC (.int 1)) (tC (.int 1)) (rGetL K) kIpAdd rSetL)
  (tSeq (tAsg (tOp (rIxL K) (tVar 0) (tC (.int 3))) (gName 2))
  (tSeq (tIfS (tTest (tOp kLe (tOp (rIxL K) (tVar 0) (tC (.int 1))) (tCB (kLen K) (tCons (tOp (rIxL K) (tVar 0) (tC (.int 0))) tNil))))
  (tAsg (tOp (rIxL K) (tOp (rIxL K) (tVar 0) (tC (.int 0))) (tOp kSub (tOp (rIxL K) (tVar 0) (tC (.int 1))) (tC (.int 1)))) (gName 2))
  tNext)
  (tSeq (tIfS (tOr (tTest (tOp kGt (tOp (rIxL K) (tVar 0) (tC (.int 1))) (tCB (kLen K) (tCons (tOp (rIxL K) (tVar 0) (tC (.int 0))) tNil)))) (tTest (tOp kLt (tVar 2) (tOp kPow (tC (.int 10)) (tC (.int 18))))))
  (tSeq (tAsg (tOp kMod (tOp kAdd (tOp kAdd (tOp kMulS (tVar 2) (tC (.int 48271))) (tOp kMulS (tOp (rIxL K) (tVar 0) (tC (.int 1))) (tC (.int 16807)))) (tC (.int 11))) (tC (.int 2147483647))) (gName 3))
  (tSeq (tAsg (tOp kMod (tOp kMulS (tVar 3) (tVar 3)) (tC (.int 2147483629))) (gName 3))
  (tRet (tOp kMod (tOp kDiv (tOp kMod (tOp kMulS (tOp kAdd (tVar 3) (tOp (rIxL K) (tVar 0) (tC (.int 1)))) (tC (.int 69621))) (tC (.int 998244353))) (tC (.int 13))) (tVar 1)))))
  tNext)
  (tAsg (tVar 2) (gSub (tVar 0) (tC (.int 2)) rSetL))))))
  tNext)
  (tSeq (tAsg (tOp kMod (tOp (rIxL K) (tVar 0) (tC (.int 2))) (tVar 1)) (gName 4))
  (tSeq (tAsg (tOp kDiv (tOp (rIxL K) (tVar 0) (tC (.int 2))) (tVar 1)) (gSub (tVar 0) (tC (.int 2)) rSetL))
  (tRet (tVar 4))))
def t_Lpull3 (K : PySem.W.Frag) : TS := tSeq (tAsg (tOp kMod (tOp (rIxL K) (tVar 0) (tC (.int 2))) (tVar 1)) (gName 4))
  (tSeq (tAsg (tOp kDiv (tOp (rIxL K) (tVar 0) (tC (.int 2))) (tVar 1)) (gSub (tVar 0) (tC (.int 2)) rSetL))
  (tRet (tVar 4)))
def t_Lpull2 (K : PySem.W.Frag) : TS := (tSeq (tIfS (tOr (tTest (tOp kGt (tOp (rIxL K) (tVar 0) (tC (.int 1))) (tCB (kLen K) (tCons (tOp (rIxL K) (tVar 0) (tC (.int 0))) tNil)))) (tTest (tOp kLt (tVar 2) (tOp kPow (tC (.int 10)) (tC (.int 18))))))
  (tSeq (tAsg (tOp kMod (tOp kAdd (tOp kAdd (tOp kMulS (tVar 2) (tC (.int 48271))) (tOp kMulS (tOp (rIxL K) (tVar 0) (tC (.int 1))) (tC (.int 16807)))) (tC (.int 11))) (tC (.int 2147483647))) (gName 3))
  (tSeq (tAsg (tOp kMod (tOp kMulS (tVar 3) (tVar 3)) (tC (.int 2147483629))) (gName 3))
  (tRet (tOp kMod (tOp kDiv (tOp kMod (tOp kMulS (tOp kAdd (tVar 3) (tOp (rIxL K) (tVar 0) (tC (.int 1)))) (tC (.int 69621))) (tC (.int 998244353))) (tC (.int 13))) (tVar 1)))))
  tNext)
  (tAsg (tVar 2) (gSub (tVar 0) (tC (.int 2)) rSetL)))
theorem bx_put {a : Addr} {H : Hp} {xs ys : List V} (e : H a = some (.lst xs)) : BX a H (upd H a (.lst ys)) := ⟨fun p o h n => by
  rw [upd_ne n]
  exact h, tk_lst e⟩
theorem Bag.set {a b : Addr} {H : Hp} (g : Bag H a b) (i : Nat) (j k : Int) : Bag (upd H a (.lst [.ref b, nv i, .int j, .int k])) a b := by
  obtain ⟨ns, i', j', k', e, e2, n⟩ := g
  exact ⟨ns, i, j, k, upd_same, by rw [upd_ne n]; exact e2, n⟩
theorem b12 : B1 < B2 := Nat.pow_lt_pow_right (by decide) (by decide)
theorem bs_small {n : Nat} (h0 : 0 < n) (h : n < B1) (z : Int) : CDivW z (n : Int) := divB h0 (Nat.lt_trans h b12)
theorem q_augS {K : PySem.W.Frag} {σ : L2.St} {H : Hp} {D : Ends} {u : TS} {ta tb te : TE} {l : Addr} {xs : List V} {j : Nat} {a k : Int} (ho : Val ta σ H (.ref l)) (hi : Val tb σ H (.int (j : Int))) (hl : H l = some (.lst xs)) (hx : xs[j]? = some (.int a)) (h : Val te σ H (.int k)) (q : u D σ (upd H l (.lst (xs.set j (.int (a + k)))))) :
    tSeq (tAugS ta tb te (rGetL K) kIpAdd rSetL) u D σ H := ho _ (hi _ ⟨l, xs, j, .int a, rfl, rfl, SqL.of hl, hx, h _ ⟨a, k, rfl, rfl, l, xs, _, j, rfl, rfl, hl, ixN_n (List.getElem?_eq_some_iff.mp hx).1, q⟩⟩)
theorem lpull3 {K : PySem.W.Frag} {D : Ends} {H0 H : Hp} {a b : Addr} {n : Nat} {x2 x3 x4 : Option V} (x : BX a H0 H) (g : Bag H a b) (n0 : 0 < n) (nB : n < B1) (q : ∀ k H', k < n → BX a H0 H' → Bag H' a b → D.rt (nv k) H') : t_Lpull3 K D [some (.ref a), some (nv n), x2, x3, x4] H := by
  obtain ⟨ns, i, j, k, e, e2, hn⟩ := id g
  have v2 : ∀ {y2 y3 y4 : Option V}, Val (tOp (rIxL K) (tVar 0) (tC (.int 2))) [some (.ref a), some (nv n), y2, y3, y4] H (.int j) := v_ixL (j := 2) (val_var rfl) val_c (SqL.of e) rfl
  have hm : ∃ m : Nat, j % (n : Int) = (m : Int) ∧ m < n := by
    have h1 := Int.emod_nonneg j (show ((n : Int)) ≠ 0 by omega)
    have h2 := Int.emod_lt_of_pos j (show (0 : Int) < (n : Int) by omega)
    exact ⟨(j % (n : Int)).toNat, by omega, by omega⟩
  obtain ⟨m, em, hmn⟩ := hm
  apply q_set (v_mod v2 (val_var rfl) (by omega))
  rw [em]
  refine q_setL (j := 2) (v_div v2 (val_var rfl) (bs_small n0 nB j)) (val_var rfl) val_c e (by show 2 < 4; decide) ?_
  apply s_ret (val_var rfl)
  exact q m _ hmn (x.trans (bx_put e)) (g.set i (j / (n : Int)) k)
theorem pure_Lpull {K : PySem.W.Frag} {mg : Str → Option Value} (T : Txt K mg) (vs : List V) (H : Hp) (Q : VK) (E : XK) (h : sp_Lpull K vs H Q E) : t_Lpull K { nx := fun _ H' => Q .non H', rt := Q } (start N_Lpull vs) H := by
  obtain ⟨_, _, rfl, a, b, n, rfl, rfl, g, n0, nB, q⟩ := h
  obtain ⟨ns, i, j, k, e, e2, hn⟩ := id g
  unfold t_Lpull
  apply q_if0 (ans_vt (v_le (v_ixL (j := 2) (val_var rfl) val_c (SqL.of e) rfl) val_c))
  · intro _
    refine q_augS (j := 1) (a := (i : Int)) (k := 1) (val_var rfl) val_c e rfl val_c ?_
    have ei : (.int ((i : Int) + 1) : V) = nv (i + 1) := congrArg V.int (by omega)
    rw [ei]
    have x1 : BX a H (upd H a (.lst ([V.ref b, nv i, .int j, .int k].set 1 (nv (i + 1))))) := bx_put e
    have g1 : Bag (upd H a (.lst ([V.ref b, nv i, .int j, .int k].set 1 (nv (i + 1))))) a b := g.set (i + 1) j k
    have e1 : (upd H a (.lst ([V.ref b, nv i, .int j, .int k].set 1 (nv (i + 1))))) a = some (.lst [.ref b, nv (i + 1), .int j, .int k]) := upd_same
    have e12 : (upd H a (.lst ([V.ref b, nv i, .int j, .int k].set 1 (nv (i + 1))))) b = some (.lst (ns.map V.int)) := by
      rw [upd_ne hn]
      exact e2
    generalize upd H a (.lst ([V.ref b, nv i, .int j, .int k].set 1 (nv (i + 1)))) = H1 at x1 g1 e1 e12 ⊢
    have v0 : ∀ {y1 y2 y3 y4 : Option V}, Val (tOp (rIxL K) (tVar 0) (tC (.int 0))) [some (.ref a), y1, y2, y3, y4] H1 (.ref b) := v_ixL (j := 0) (val_var rfl) val_c (SqL.of e1) rfl
    have v1 : ∀ {y1 y2 y3 y4 : Option V}, Val (tOp (rIxL K) (tVar 0) (tC (.int 1))) [some (.ref a), y1, y2, y3, y4] H1 (nv (i + 1)) := v_ixL (j := 1) (val_var rfl) val_c (SqL.of e1) rfl
    apply q_set (v_ixL (j := 3) (val_var rfl) val_c (SqL.of e1) rfl)
    have key : ∀ (s : Int) (D : Ends), D.rt = Q → D.nx = t_Lpull3 K { nx := fun _ H' => Q .non H', rt := Q } → t_Lpull2 K D [some (.ref a), some (nv n), some (.int s), none, none] H1 := by
      intro s D hrt hnx
      have hc : ∃ bb, Ans (tOr (tTest (tOp kGt (tOp (rIxL K) (tVar 0) (tC (.int 1))) (tCB (kLen K) (tCons (tOp (rIxL K) (tVar 0) (tC (.int 0))) tNil)))) (tTest (tOp kLt (tVar 2) (tOp kPow (tC (.int 10)) (tC (.int 18)))))) [some (.ref a), some (nv n), some (.int s), none, none] H1 bb := by
        have a1 := ans_vt (v_gt (v1 (y1 := some (nv n)) (y2 := some (.int s)) (y3 := none) (y4 := none)) (v_lenL (K := K) v0 (SqL.of e12)))
        cases hb : decide ((((ns.map V.int).length : Nat) : Int) < ((i + 1 : Nat) : Int)) with
        | true =>
          rw [hb] at a1
          exact ⟨_, ans_or1 a1⟩
        | false =>
          rw [hb] at a1
          exact ⟨_, ans_or a1 (ans_vt (v_lt (val_var rfl) (v_pow val_c val_c (by unfold CPow; decide))))⟩
      obtain ⟨bb, hc⟩ := hc
      apply q_if0 hc
      · intro _
        apply q_set (v_mod (v_add (v_add (v_mulS (val_var rfl) val_c (.inr (by decide))) (v_mulS v1 val_c (.inr (by decide)))) val_c) val_c (by decide))
        have h1 := Int.emod_nonneg (s * 48271 + ((i + 1 : Nat) : Int) * 16807 + 11) (show (2147483647 : Int) ≠ 0 by decide)
        have h2 := Int.emod_lt_of_pos (s * 48271 + ((i + 1 : Nat) : Int) * 16807 + 11) (show (0 : Int) < 2147483647 by decide)
        generalize (s * 48271 + ((i + 1 : Nat) : Int) * 16807 + 11) % 2147483647 = m1 at h1 h2 ⊢
        apply q_set (v_mod (v_mulS (val_var rfl) (val_var rfl) (.inl (by omega))) val_c (by decide))
        generalize m1 * m1 % 2147483629 = m2
        have h3 := Int.emod_nonneg ((m2 + ((i + 1 : Nat) : Int)) * 69621 % 998244353 / 13) (show ((n : Int)) ≠ 0 by omega)
        have h4 := Int.emod_lt_of_pos ((m2 + ((i + 1 : Nat) : Int)) * 69621 % 998244353 / 13) (show (0 : Int) < (n : Int) by omega)
        apply s_ret (v_mod (v_div (v_mod (v_mulS (v_add (val_var rfl) v1) val_c (.inr (by decide))) val_c (by decide)) val_c ⟨by decide, by decide⟩) (val_var rfl) (by omega))
        show D.rt _ _
        rw [hrt]
        have := q ((m2 + ((i + 1 : Nat) : Int)) * 69621 % 998244353 / 13 % (n : Int)).toNat H1 (by omega) x1 g1
        have e9 : nv ((m2 + ((i + 1 : Nat) : Int)) * 69621 % 998244353 / 13 % (n : Int)).toNat = .int ((m2 + ((i + 1 : Nat) : Int)) * 69621 % 998244353 / 13 % (n : Int)) := congrArg V.int (by omega)
        rw [e9] at this
        exact this
      · intro _
        refine s_setL (j := 2) (val_var rfl) (val_var rfl) val_c e1 (by show 2 < 4; decide) ?_
        rw [hnx]
        exact lpull3 (x1.trans (bx_put e1)) (g1.set (i + 1) s k) n0 nB q
    apply q_if0 (ans_vt (v_le v1 (v_lenL v0 (SqL.of e12))))
    · intro hb
      have hb := of_decide_eq_true hb
      rw [List.length_map] at hb
      have hi : i < ns.length := by omega
      have vi : Val (tOp kSub (tOp (rIxL K) (tVar 0) (tC (.int 1))) (tC (.int 1))) [some (.ref a), some (nv n), some (.int k), none, none] H1 (nv i) := by
        have e : nv i = .int (((i + 1 : Nat) : Int) - 1) := congrArg V.int (by omega)
        rw [e]
        exact v_sub v1 val_c
      apply s_set (v_ixL v0 vi (SqL.of e12) (int_at hi))
      exact key (ns.getD i 0) _ rfl rfl
    · intro _
      exact key k _ rfl rfl
  · intro _
    exact lpull3 (BX.refl a H) g n0 nB q
section
variable {K : PySem.W.Frag} {σ : L2.St} {H : Hp} {tb tn te : TE} {ts : TA} {a b : Addr} {n : Nat} {Q : VK}
theorem small_B1 (h : n ≤ 10 ^ 18) : n < B1 := Nat.lt_of_le_of_lt (Nat.le_trans h (by decide : 10 ^ 18 ≤ 2 ^ 60)) (Nat.pow_lt_pow_right (by decide) (by decide))
theorem c_pull (h1 : Val tb σ H (.ref a)) (h2 : Val tn σ H (nv n)) (g : Bag H a b) (n0 : 0 < n) (nB : n ≤ 10 ^ 18) (q : ∀ k H', k < n → BX a H H' → Bag H' a b → Q (nv k) H') : tCall (sp_Lpull K) [] E0 (tCons tb (tCons tn tNil)) σ H Q :=
  c_call2 h1 h2 ⟨_, _, rfl, a, b, n, rfl, rfl, g, n0, small_B1 nB, q⟩
/-- [..][pull(bag, n)] -/
theorem c_pick {z : Int} (ms : List V) (hv : ValA ts σ H ms) (hn : z = ((ms.length : Nat) : Int)) (hl : 0 < ms.length ∧ ms.length ≤ 1000) (h1 : ∀ H', Val tb σ H' (.ref a)) (g : Bag H a b) (q : ∀ m H', m ∈ ms → BX a H H' → Bag H' a b → Q m H') :
    tOp (rIxL K) (tLst ts) (tCall (sp_Lpull K) [] E0 (tCons tb (tCons (tC (.int z)) tNil))) σ H Q := by
  subst hn
  refine c_lstA hv hl.2 fun p hp => ?_
  have s := same_new (o := .lst ms) hp
  have hne := g.ne hp
  refine c_pull (h1 _) val_c (g.same s) hl.1 (Nat.le_trans hl.2 (by decide)) fun k H' hk x g' => ?_
  exact ⟨p, ms, (k : Int), ms[k], rfl, rfl, SqL.of (x.sx _ _ upd_same hne.1), atI_nat (List.getElem?_eq_getElem hk), q _ H' (List.getElem_mem hk) ((bx_of s).trans x) g'⟩
theorem v_pow9 : Val (tOp kPow (tC (.int 10)) (tC (.int 9))) σ H (nv 1000000000) := by
  have e : nv 1000000000 = .int ((10 : Int) ^ (9 : Int).toNat) := congrArg V.int (by decide)
  rw [e]
  exact v_pow val_c val_c (by unfold CPow; decide)
theorem v_pow12 : Val (tOp kPow (tC (.int 10)) (tC (.int 12))) σ H (nv 1000000000000) := by
  have e : nv 1000000000000 = .int ((10 : Int) ^ (12 : Int).toNat) := congrArg V.int (by decide)
  rw [e]
  exact v_pow val_c val_c (by unfold CPow; decide)
end
theorem ok_Lpull {P : Program} {w : World} {K : PySem.W.Frag} {mg : Str → Option Value} {base : Heap} (T : Txt K mg) : Okf P w K mg base 1 "_law_pull" ["_law_bag_here", "_law_many_here"] (sp_Lpull K) := by
  obtain ⟨fd, F0⟩ := T.c.def_ 29 (d := d_Lpull) rfl
  have F : FnP K "_law_pull" s_Lpull (He.ga K "_law_pull") fd := F0
  refine ⟨_, fd, F.ok sc_Lpull (fun vs H Q E h => ?_) (fun cdv A outer s H vs Q E hr h => ⟨t_Lpull K, PSs.nox ?_, pure_Lpull T vs H Q E h⟩), F.bindsN (fun _ _ _ _ _ _ us hl => match us, hl with | [_, _], _ => rfl), F.kp, T.glo 29 rfl⟩
  · obtain ⟨_, _, rfl, _⟩ := h
    rfl
  · exact (pss_cons (ps_if (pt_cmpR op_le (pe_ix ix_list (pv 0) pe_int (fun _ _ => rfl)) pe_int (nomark _))
  (pss_cons (ps_augS (pv 0) pe_int get_list pe_int ip_add set_list)
  (pss_cons (ps_set (i := 2) sc_Lpull.nd rfl (by first | exact Or.inl rfl | exact Or.inr rfl) (pe_ix ix_list (pv 0) pe_int (fun _ _ => rfl)))
  (pss_cons (ps_if (pt_cmpR op_le (pe_ix ix_list (pv 0) pe_int (fun _ _ => rfl)) (pe_callB call_len_seq (by rfl) (T.free 57 rfl) PySem.boot_len (pa_cons (pe_ix ix_list (pv 0) pe_int (fun _ _ => rfl)) pa_nil)) (nomark _))
  (pss_one (ps_set (i := 2) sc_Lpull.nd rfl (by first | exact Or.inl rfl | exact Or.inr rfl) (pe_ix ix_list (pe_ix ix_list (pv 0) pe_int (fun _ _ => rfl)) (pe_op op_sub (pe_ix ix_list (pv 0) pe_int (fun _ _ => rfl)) pe_int) (fun _ _ => rfl))))
  pss_nil)
  (pss_cons (ps_if (PW.pt (pw_or (pt_cmpR op_gt (pe_ix ix_list (pv 0) pe_int (fun _ _ => rfl)) (pe_callB call_len_seq (by rfl) (T.free 57 rfl) PySem.boot_len (pa_cons (pe_ix ix_list (pv 0) pe_int (fun _ _ => rfl)) pa_nil)) (nomark _)) (pw_or1 (pt_cmpR op_lt (pv 2) (pe_op op_pow pe_int pe_int) (nomark _)))))
  (pss_cons (ps_set (i := 3) sc_Lpull.nd rfl (by first | exact Or.inl rfl | exact Or.inr rfl) (pe_op op_mod (pe_op op_add (pe_op op_add (pe_op op_mul (pv 2) pe_int) (pe_op op_mul (pe_ix ix_list (pv 0) pe_int (fun _ _ => rfl)) pe_int)) pe_int) pe_int))
  (pss_cons (ps_set (i := 3) sc_Lpull.nd rfl (by first | exact Or.inl rfl | exact Or.inr rfl) (pe_op op_mod (pe_op op_mul (pv 3) (pv 3)) pe_int))
  (pss_one (ps_ret (pe_op op_mod (pe_op op_fdivW (pe_op op_mod (pe_op op_mul (pe_op op_add (pv 3) (pe_ix ix_list (pv 0) pe_int (fun _ _ => rfl))) pe_int) pe_int) pe_int) (pv 1))))))
  pss_nil)
  (pss_one (ps_asg (pv 2) (pg_sub (pv 0) pe_int set_list)))))))
  pss_nil)
  (pss_cons (ps_set (i := 4) sc_Lpull.nd rfl (by first | exact Or.inl rfl | exact Or.inr rfl) (pe_op op_mod (pe_ix ix_list (pv 0) pe_int (fun _ _ => rfl)) (pv 1)))
  (pss_cons (ps_asg (pe_op op_fdivW (pe_ix ix_list (pv 0) pe_int (fun _ _ => rfl)) (pv 1)) (pg_sub (pv 0) pe_int set_list))
  (pss_one (ps_ret (pv 4))))))
def sp_Lgcd (K : PySem.W.Frag) : Sp := fun vs H Q _ => ∃ v1 v2, vs = [v1, v2] ∧ ∃ a b : Int, v1 = .int a ∧ v2 = .int b ∧ Q (.int (Nat.gcd a.natAbs b.natAbs : Nat)) H
/-- slots: _law_one 0, _law_other 1 -/
abbrev N_Lgcd : List Str := ["_law_one", "_law_other"]
theorem sc_Lgcd : FnScope N_Lgcd ["_law_one", "_law_other"] (defScope s_Lgcd) := ⟨rfl, rfl, rfl, by decide +kernel, rfl, by decide +kernel, by decide +kernel⟩
def t_Lgcd (K : PySem.W.Frag) : TS := tSeq (tAsg (tCB kAbs (tCons (tVar 0) tNil)) (gName 0))
  (tSeq (tAsg (tCB kAbs (tCons (tVar 1) tNil)) (gName 1))
  (tSeq (tWhile (tTest (tOp rNe (tVar 1) (tC (.int 0))))
  (tPar 0 1 (tCons (tVar 1) (tCons (tOp kMod (tVar 0) (tVar 1)) tNil))))
  (tRet (tVar 0))))
theorem pure_Lgcd {K : PySem.W.Frag} {mg : Str → Option Value} (T : Txt K mg) (vs : List V) (H : Hp) (Q : VK) (E : XK) (h : sp_Lgcd K vs H Q E) : t_Lgcd K { nx := fun _ H' => Q .non H', rt := Q } (start N_Lgcd vs) H := by
  obtain ⟨_, _, rfl, a, b, rfl, rfl, q⟩ := h
  unfold t_Lgcd
  walk_at "set"
  walk_at "set"
  refine q_while (fun m σ H' => H' = H ∧ ∃ x : Nat, σ = [some (nv x), some (nv m)] ∧ Nat.gcd x m = Nat.gcd a.natAbs b.natAbs) b.natAbs ⟨rfl, _, rfl, rfl⟩ ?_
  rintro m σ H' ⟨rfl, x, rfl, e⟩
  apply wl_in
  · walk_at "a"
  · intro hb
    have hp : (0 : Int) < (m : Int) := by
      have : ¬ ((m : Int) = 0) := by simpa using hb
      omega
    apply s_par
    · walk_at "v"
    · walk_at "v"
    · refine ⟨x % m, Nat.mod_lt _ (by omega), rfl, m, rfl, ?_⟩
      rw [← e, Nat.gcd_comm m (x % m), ← Nat.gcd_rec, Nat.gcd_comm]
  · intro hb
    have hm : m = 0 := by
      have : (m : Int) = 0 := by simpa using hb
      omega
    subst hm
    rw [Nat.gcd_zero_right] at e
    walk_at "ret"
    rw [← e] at q
    exact q
theorem ok_Lgcd {P : Program} {w : World} {K : PySem.W.Frag} {mg : Str → Option Value} {base : Heap} (T : Txt K mg) : Okf P w K mg base 1 "_law_gcd" ["_law_one", "_law_other"] (sp_Lgcd K) := by
  obtain ⟨fd, F0⟩ := T.c.def_ 30 (d := d_Lgcd) rfl
  have F : FnP K "_law_gcd" s_Lgcd (He.ga K "_law_gcd") fd := F0
  refine ⟨_, fd, F.ok sc_Lgcd (fun vs H Q E h => ?_) (fun cdv A outer s H vs Q E hr h => ⟨t_Lgcd K, PSs.nox ?_, pure_Lgcd T vs H Q E h⟩), F.bindsN (fun _ _ _ _ _ _ us hl => match us, hl with | [_, _], _ => rfl), F.kp, T.glo 30 rfl⟩
  · obtain ⟨_, _, rfl, _⟩ := h
    rfl
  · exact (pss_cons (ps_set (i := 0) sc_Lgcd.nd rfl (by first | exact Or.inl rfl | exact Or.inr rfl) (pe_callB call_abs (by rfl) (T.free 53 rfl) (by decide +kernel) (pa_cons (pv 0) pa_nil)))
  (pss_cons (ps_set (i := 1) sc_Lgcd.nd rfl (by first | exact Or.inl rfl | exact Or.inr rfl) (pe_callB call_abs (by rfl) (T.free 53 rfl) (by decide +kernel) (pa_cons (pv 1) pa_nil)))
  (pss_cons (ps_while PassesOwn.never (pt_cmpR op_ne (pv 1) pe_int (nomark _))
  (pss_one (ps_par (i := 0) (j := 1) (by rfl) sc_Lgcd.nd rfl rfl (by decide) rfl rfl (pa_cons (pv 1) (pa_cons (pe_op op_mod (pv 0) (pv 1)) pa_nil)) (by rfl))))
  (pss_one (ps_ret (pv 0))))))
def sp_Llow (K : PySem.W.Frag) : Sp := fun vs H Q _ => ∃ v1 v2, vs = [v1, v2] ∧ ∃ (n : Int) (d : Nat), v1 = .int n ∧ v2 = .int (d : Int) ∧ 0 < d ∧ d < B2 ∧ ∀ v H', Same H H' → isP K H' v (mkRat n d) → Q v H'
/-- slots: _law_number 0, _law_under 1, _law_by 2 -/
abbrev N_Llow : List Str := ["_law_number", "_law_under", "_law_by"]
theorem sc_Llow : FnScope N_Llow ["_law_number", "_law_under"] (defScope s_Llow) := ⟨rfl, rfl, rfl, by decide +kernel, rfl, by decide +kernel, by decide +kernel⟩
def t_Llow (K : PySem.W.Frag) : TS := tSeq (tAsg (tCall (sp_Lgcd K) [] E0 (tCons (tVar 0) (tCons (tVar 1) tNil))) (gName 2))
  (tRet (tTup (tCons (tOp kDiv (tVar 0) (tVar 2)) (tCons (tOp kDiv (tVar 1) (tVar 2)) tNil))))
theorem pure_Llow {K : PySem.W.Frag} {mg : Str → Option Value} (T : Txt K mg) (vs : List V) (H : Hp) (Q : VK) (E : XK) (h : sp_Llow K vs H Q E) : t_Llow K { nx := fun _ H' => Q .non H', rt := Q } (start N_Llow vs) H := by
  obtain ⟨_, _, rfl, n, d, rfl, rfl, hd, hb, q⟩ := h
  unfold t_Llow
  apply q_asg
  walk_at "call"
  refine ⟨_, _, rfl, n, d, rfl, rfl, ?_⟩
  rw [Int.natAbs_natCast]
  have hg : 0 < Nat.gcd n.natAbs d := Nat.gcd_pos_of_pos_right _ hd
  have hgb : Nat.gcd n.natAbs d < B2 := Nat.lt_of_le_of_lt (Nat.gcd_le_right _ hd) hb
  have c1 : CDivW n (Nat.gcd n.natAbs d : Nat) := divB hg hgb
  have c2 : CDivW (d : Int) (Nat.gcd n.natAbs d : Nat) := divB hg hgb
  apply s_retc
  apply c_tup2
  · walk_at "v"
  · walk_at "v"
  · intro p hp
    exact q _ _ (same_new hp) (part_low hd)
theorem ok_Llow {P : Program} {w : World} {K : PySem.W.Frag} {mg : Str → Option Value} {base : Heap} (T : Txt K mg) : Okf P w K mg base 2 "_law_low" ["_law_number", "_law_under"] (sp_Llow K) := by
  obtain ⟨fd, F0⟩ := T.c.def_ 31 (d := d_Llow) rfl
  have F : FnP K "_law_low" s_Llow (He.ga K "_law_low") fd := F0
  have h_Lgcd := ok_Lgcd (P := P) (w := w) (base := base) T
  refine ⟨_, fd, F.ok sc_Llow (fun vs H Q E h => ?_) (fun cdv A outer s H vs Q E hr h => ⟨t_Llow K, PSs.nox ?_, pure_Llow T vs H Q E h⟩), F.bindsN (fun _ _ _ _ _ _ us hl => match us, hl with | [_, _], _ => rfl), F.kp, T.glo 31 rfl⟩
  · obtain ⟨_, _, rfl, _⟩ := h
    rfl
  · exact (pss_cons (ps_set (i := 2) sc_Llow.nd rfl (by first | exact Or.inl rfl | exact Or.inr rfl) (pe_cf h_Lgcd hr (by decide) rfl (pa_cons (pv 0) (pa_cons (pv 1) pa_nil))))
  (pss_one (ps_ret (pe_tup (pa_cons (pe_op op_fdivW (pv 0) (pv 2)) (pa_cons (pe_op op_fdivW (pv 1) (pv 2)) pa_nil))))))
def sp_Lplus (K : PySem.W.Frag) : Sp := fun vs H Q _ => ∃ v1 v2, vs = [v1, v2] ∧ ∃ q r : Rat, isP K H v1 q ∧ isP K H v2 r ∧ Fit q ∧ Fit r ∧ ∀ v H', Same H H' → isP K H' v (q + r) → Q v H'
/-- slots: _law_one 0, _law_other 1 -/
abbrev N_Lplus : List Str := ["_law_one", "_law_other"]
theorem sc_Lplus : FnScope N_Lplus ["_law_one", "_law_other"] (defScope s_Lplus) := ⟨rfl, rfl, rfl, by decide +kernel, rfl, by decide +kernel, by decide +kernel⟩
def t_Lplus (K : PySem.W.Frag) : TS := tRet (tCall (sp_Llow K) [] E0 (tCons (tOp kAdd (tOp kMul (tOp (rIxT K) (tVar 0) (tC (.int 0))) (tOp (rIxT K) (tVar 1) (tC (.int 1)))) (tOp kMul (tOp (rIxT K) (tVar 1) (tC (.int 0))) (tOp (rIxT K) (tVar 0) (tC (.int 1))))) (tCons (tOp kMul (tOp (rIxT K) (tVar 0) (tC (.int 1))) (tOp (rIxT K) (tVar 1) (tC (.int 1)))) tNil)))
theorem pure_Lplus {K : PySem.W.Frag} {mg : Str → Option Value} (T : Txt K mg) (vs : List V) (H : Hp) (Q : VK) (E : XK) (h : sp_Lplus K vs H Q E) : t_Lplus K { nx := fun _ H' => Q .non H', rt := Q } (start N_Lplus vs) H := by
  obtain ⟨v1, v2, rfl, a, b, ha, hb, fa, fb, q⟩ := h
  unfold t_Lplus
  apply s_retc
  have m1 : CMulX a.num (b.den : Int) := mulB fa.1 (by rw [Int.natAbs_natCast]; exact fb.2)
  have m2 : CMulX b.num (a.den : Int) := mulB fb.1 (by rw [Int.natAbs_natCast]; exact fa.2)
  have m3 : CMulX (a.den : Int) (b.den : Int) := mulB (by rw [Int.natAbs_natCast]; exact fa.2) (by rw [Int.natAbs_natCast]; exact fb.2)
  walk_at "call"
  refine ⟨_, _, rfl, _, a.den * b.den, rfl, by rw [Int.natCast_mul], Nat.mul_pos a.den_pos b.den_pos, B1_B2 fa.2 fb.2, ?_⟩
  rw [← Rat.add_def']
  exact q
theorem ok_Lplus {P : Program} {w : World} {K : PySem.W.Frag} {mg : Str → Option Value} {base : Heap} (T : Txt K mg) : Okf P w K mg base 3 "_law_plus" ["_law_one", "_law_other"] (sp_Lplus K) := by
  obtain ⟨fd, F0⟩ := T.c.def_ 32 (d := d_Lplus) rfl
  have F : FnP K "_law_plus" s_Lplus (He.ga K "_law_plus") fd := F0
  have h_Llow := ok_Llow (P := P) (w := w) (base := base) T
  refine ⟨_, fd, F.ok sc_Lplus (fun vs H Q E h => ?_) (fun cdv A outer s H vs Q E hr h => ⟨t_Lplus K, PSs.nox ?_, pure_Lplus T vs H Q E h⟩), F.bindsN (fun _ _ _ _ _ _ us hl => match us, hl with | [_, _], _ => rfl), F.kp, T.glo 32 rfl⟩
  · obtain ⟨_, _, rfl, _⟩ := h
    rfl
  · exact (pss_one (ps_ret (pe_cf h_Llow hr (by decide) rfl (pa_cons (pe_op op_add (pe_op op_mulX (pe_ix ix_tup (pv 0) pe_int (fun _ _ => rfl)) (pe_ix ix_tup (pv 1) pe_int (fun _ _ => rfl))) (pe_op op_mulX (pe_ix ix_tup (pv 1) pe_int (fun _ _ => rfl)) (pe_ix ix_tup (pv 0) pe_int (fun _ _ => rfl)))) (pa_cons (pe_op op_mulX (pe_ix ix_tup (pv 0) pe_int (fun _ _ => rfl)) (pe_ix ix_tup (pv 1) pe_int (fun _ _ => rfl))) pa_nil)))))
def sp_Ltimes (K : PySem.W.Frag) : Sp := fun vs H Q _ => ∃ v1 v2, vs = [v1, v2] ∧ ∃ q r : Rat, isP K H v1 q ∧ isP K H v2 r ∧ Fit q ∧ Fit r ∧ ∀ v H', Same H H' → isP K H' v (q * r) → Q v H'
/-- slots: _law_one 0, _law_other 1 -/
abbrev N_Ltimes : List Str := ["_law_one", "_law_other"]
theorem sc_Ltimes : FnScope N_Ltimes ["_law_one", "_law_other"] (defScope s_Ltimes) := ⟨rfl, rfl, rfl, by decide +kernel, rfl, by decide +kernel, by decide +kernel⟩
def t_Ltimes (K : PySem.W.Frag) : TS := tRet (tCall (sp_Llow K) [] E0 (tCons (tOp kMul (tOp (rIxT K) (tVar 0) (tC (.int 0))) (tOp (rIxT K) (tVar 1) (tC (.int 0)))) (tCons (tOp kMul (tOp (rIxT K) (tVar 0) (tC (.int 1))) (tOp (rIxT K) (tVar 1) (tC (.int 1)))) tNil)))
theorem pure_Ltimes {K : PySem.W.Frag} {mg : Str → Option Value} (T : Txt K mg) (vs : List V) (H : Hp) (Q : VK) (E : XK) (h : sp_Ltimes K vs H Q E) : t_Ltimes K { nx := fun _ H' => Q .non H', rt := Q } (start N_Ltimes vs) H := by
  obtain ⟨v1, v2, rfl, a, b, ha, hb, fa, fb, q⟩ := h
  unfold t_Ltimes
  apply s_retc
  have m1 : CMulX a.num b.num := mulB fa.1 fb.1
  have m3 : CMulX (a.den : Int) (b.den : Int) := mulB (by rw [Int.natAbs_natCast]; exact fa.2) (by rw [Int.natAbs_natCast]; exact fb.2)
  walk_at "call"
  refine ⟨_, _, rfl, _, a.den * b.den, rfl, by rw [Int.natCast_mul], Nat.mul_pos a.den_pos b.den_pos, B1_B2 fa.2 fb.2, ?_⟩
  rw [← Rat.mul_def']
  exact q
theorem ok_Ltimes {P : Program} {w : World} {K : PySem.W.Frag} {mg : Str → Option Value} {base : Heap} (T : Txt K mg) : Okf P w K mg base 3 "_law_times" ["_law_one", "_law_other"] (sp_Ltimes K) := by
  obtain ⟨fd, F0⟩ := T.c.def_ 33 (d := d_Ltimes) rfl
  have F : FnP K "_law_times" s_Ltimes (He.ga K "_law_times") fd := F0
  have h_Llow := ok_Llow (P := P) (w := w) (base := base) T
  refine ⟨_, fd, F.ok sc_Ltimes (fun vs H Q E h => ?_) (fun cdv A outer s H vs Q E hr h => ⟨t_Ltimes K, PSs.nox ?_, pure_Ltimes T vs H Q E h⟩), F.bindsN (fun _ _ _ _ _ _ us hl => match us, hl with | [_, _], _ => rfl), F.kp, T.glo 33 rfl⟩
  · obtain ⟨_, _, rfl, _⟩ := h
    rfl
  · exact (pss_one (ps_ret (pe_cf h_Llow hr (by decide) rfl (pa_cons (pe_op op_mulX (pe_ix ix_tup (pv 0) pe_int (fun _ _ => rfl)) (pe_ix ix_tup (pv 1) pe_int (fun _ _ => rfl))) (pa_cons (pe_op op_mulX (pe_ix ix_tup (pv 0) pe_int (fun _ _ => rfl)) (pe_ix ix_tup (pv 1) pe_int (fun _ _ => rfl))) pa_nil)))))
def sp_Lbelow (K : PySem.W.Frag) : Sp := fun vs H Q _ => ∃ v1 v2, vs = [v1, v2] ∧ ∃ q r : Rat, isP K H v1 q ∧ isP K H v2 r ∧ Fit q ∧ Fit r ∧ Q (.bl (decide (q < r))) H
/-- slots: _law_one 0, _law_other 1 -/
abbrev N_Lbelow : List Str := ["_law_one", "_law_other"]
theorem sc_Lbelow : FnScope N_Lbelow ["_law_one", "_law_other"] (defScope s_Lbelow) := ⟨rfl, rfl, rfl, by decide +kernel, rfl, by decide +kernel, by decide +kernel⟩
def t_Lbelow (K : PySem.W.Frag) : TS := tRet (tOp kLt (tOp kMul (tOp (rIxT K) (tVar 0) (tC (.int 0))) (tOp (rIxT K) (tVar 1) (tC (.int 1)))) (tOp kMul (tOp (rIxT K) (tVar 1) (tC (.int 0))) (tOp (rIxT K) (tVar 0) (tC (.int 1)))))
theorem pure_Lbelow {K : PySem.W.Frag} {mg : Str → Option Value} (T : Txt K mg) (vs : List V) (H : Hp) (Q : VK) (E : XK) (h : sp_Lbelow K vs H Q E) : t_Lbelow K { nx := fun _ H' => Q .non H', rt := Q } (start N_Lbelow vs) H := by
  obtain ⟨v1, v2, rfl, a, b, ha, hb, fa, fb, q⟩ := h
  unfold t_Lbelow
  have m1 : CMulX a.num (b.den : Int) := mulB fa.1 (by rw [Int.natAbs_natCast]; exact fb.2)
  have m2 : CMulX b.num (a.den : Int) := mulB fb.1 (by rw [Int.natAbs_natCast]; exact fa.2)
  walk_at "ret"
  have e : decide (a.num * (b.den : Int) < b.num * (a.den : Int)) = decide (a < b) := decide_eq_decide.mpr (Rat.lt_iff a b).symm
  rw [e]
  exact q
theorem ok_Lbelow {P : Program} {w : World} {K : PySem.W.Frag} {mg : Str → Option Value} {base : Heap} (T : Txt K mg) : Okf P w K mg base 1 "_law_below" ["_law_one", "_law_other"] (sp_Lbelow K) := by
  obtain ⟨fd, F0⟩ := T.c.def_ 34 (d := d_Lbelow) rfl
  have F : FnP K "_law_below" s_Lbelow (He.ga K "_law_below") fd := F0
  refine ⟨_, fd, F.ok sc_Lbelow (fun vs H Q E h => ?_) (fun cdv A outer s H vs Q E hr h => ⟨t_Lbelow K, PSs.nox ?_, pure_Lbelow T vs H Q E h⟩), F.bindsN (fun _ _ _ _ _ _ us hl => match us, hl with | [_, _], _ => rfl), F.kp, T.glo 34 rfl⟩
  · obtain ⟨_, _, rfl, _⟩ := h
    rfl
  · exact (pss_one (ps_ret (pe_cmpR op_lt (pe_op op_mulX (pe_ix ix_tup (pv 0) pe_int (fun _ _ => rfl)) (pe_ix ix_tup (pv 1) pe_int (fun _ _ => rfl))) (pe_op op_mulX (pe_ix ix_tup (pv 1) pe_int (fun _ _ => rfl)) (pe_ix ix_tup (pv 0) pe_int (fun _ _ => rfl))) (nomark _))))
def sp_Lsum (K : PySem.W.Frag) : Sp := fun vs H Q _ => ∃ v1, vs = [v1] ∧ ∃ ps : List Rat, isL K H (isP K H) v1 ps ∧ (∀ x ∈ ps, Fit x) ∧ (∀ i, Fit (ps.take i).sum) ∧ ∀ v H', Same H H' → isP K H' v ps.sum → Q v H'
/-- slots: _law_row 0, _law_found 1, _law_one 2 -/
abbrev N_Lsum : List Str := ["_law_row", "_law_found", "_law_one"]
theorem sc_Lsum : FnScope N_Lsum ["_law_row"] (defScope s_Lsum) := ⟨rfl, rfl, rfl, by decide +kernel, rfl, by decide +kernel, by decide +kernel⟩
def t_Lsum (K : PySem.W.Frag) : TS := tSeq (tAsg (tTup (tCons (tC (.int 0)) (tCons (tC (.int 1)) tNil))) (gName 1))
  (tSeq (tFor (iList K (tVar 0)) (gName 2)
  (tAsg (tCall (sp_Lplus K) [] E0 (tCons (tVar 1) (tCons (tVar 2) tNil))) (gName 1)))
  (tRet (tVar 1)))
theorem pure_Lsum {K : PySem.W.Frag} {mg : Str → Option Value} (T : Txt K mg) (vs : List V) (H : Hp) (Q : VK) (E : XK) (h : sp_Lsum K vs H Q E) : t_Lsum K { nx := fun _ H' => Q .non H', rt := Q } (start N_Lsum vs) H := by
  obtain ⟨_, rfl, ps, ⟨a, xs, rfl, ha, al⟩, f1, f2, q⟩ := h
  unfold t_Lsum
  apply q_asg
  apply c_tup2 val_c val_c
  intro p hp
  have s1 := same_new (o := .tup [V.int 0, V.int 1]) hp
  have h0 : isP K (upd H p (.tup [V.int 0, V.int 1])) (.ref p) 0 := part_int upd_same
  generalize upd H p (.tup [V.int 0, V.int 1]) = H1 at s1 h0 ⊢
  refine q_forL (fun i σ H' => Same H H' ∧ ∃ (f : V) (y : Option V), σ = [some (.ref a), some f, y] ∧ isP K H' f (ps.take i).sum) (val_var rfl) (s1.seq ha) ⟨s1, _, _, rfl, h0⟩ (fun i σ H' _ z => z.1.seq ha) ?_ ?_
  · rintro i x σ H' hx ⟨s, f, y, rfl, hf⟩
    obtain ⟨r, hr, hxr⟩ := al.got hx
    apply s_asg
    apply c_call2 (val_var rfl) (val_var rfl)
    refine ⟨_, _, rfl, _, r, hf, hxr.mono (tk_of s), f2 i, f1 r (List.mem_of_getElem? hr), fun v H2 s2 hv => ⟨s.trans s2, v, _, rfl, ?_⟩⟩
    rw [sum_take_succ hr]
    exact hv
  · rintro σ H' ⟨s, f, y, rfl, hf⟩
    apply s_ret (val_var rfl)
    refine q _ _ s ?_
    have : ps.take xs.length = ps := List.take_of_length_le (by rw [al.1]; exact Nat.le_refl _)
    rwa [this] at hf
theorem ok_Lsum {P : Program} {w : World} {K : PySem.W.Frag} {mg : Str → Option Value} {base : Heap} (T : Txt K mg) : Okf P w K mg base 4 "_law_sum" ["_law_row"] (sp_Lsum K) := by
  obtain ⟨fd, F0⟩ := T.c.def_ 35 (d := d_Lsum) rfl
  have F : FnP K "_law_sum" s_Lsum (He.ga K "_law_sum") fd := F0
  have h_Lplus := ok_Lplus (P := P) (w := w) (base := base) T
  refine ⟨_, fd, F.ok sc_Lsum (fun vs H Q E h => ?_) (fun cdv A outer s H vs Q E hr h => ⟨t_Lsum K, PSs.nox ?_, pure_Lsum T vs H Q E h⟩), F.bindsN (fun _ _ _ _ _ _ us hl => match us, hl with | [_], _ => rfl), F.kp, T.glo 35 rfl⟩
  · obtain ⟨_, rfl, _⟩ := h
    rfl
  · exact (pss_cons (ps_set (i := 1) sc_Lsum.nd rfl (by first | exact Or.inl rfl | exact Or.inr rfl) (pe_tup (pa_cons pe_int (pa_cons pe_int pa_nil))))
  (pss_cons (ps_for PassesOwn.never rfl (pi_list (pv 0)) (pg_name (i := 2) sc_Lsum.nd rfl (by first | exact Or.inl rfl | exact Or.inr rfl))
  (pss_one (ps_set (i := 1) sc_Lsum.nd rfl (by first | exact Or.inl rfl | exact Or.inr rfl) (pe_cf h_Lplus hr (by decide) rfl (pa_cons (pv 1) (pa_cons (pv 2) pa_nil))))))
  (pss_one (ps_ret (pv 1)))))
def sp_Lwhole (K : PySem.W.Frag) : Sp := fun vs H Q _ => ∃ i : Int, vs = [.int i] ∧ Q (.bl true) H
/-- slots: _law_found 0 -/
abbrev N_Lwhole : List Str := ["_law_found"]
theorem sc_Lwhole : FnScope N_Lwhole ["_law_found"] (defScope s_Lwhole) := ⟨rfl, rfl, rfl, by decide +kernel, rfl, by decide +kernel, by decide +kernel⟩
def t_Lwhole (K : PySem.W.Frag) : TS := tRet (tAndV (tCB (rIsi K) (tCons (tVar 0) (tCons (tC (.ty "int")) tNil))) (tNotV (tCB (rIsi K) (tCons (tVar 0) (tCons (tC (.ty "bool")) tNil)))))
theorem pure_Lwhole {K : PySem.W.Frag} {mg : Str → Option Value} (T : Txt K mg) (vs : List V) (H : Hp) (Q : VK) (E : XK) (h : sp_Lwhole K vs H Q E) : t_Lwhole K { nx := fun _ H' => Q .non H', rt := Q } (start N_Lwhole vs) H := by
  obtain ⟨i, rfl, q⟩ := h
  unfold t_Lwhole
  apply s_retc
  refine ⟨_, rfl, _, _, _, _, true, rfl, .ty "int", .base (.int i), by rfl, _, rfl, ?_⟩
  refine iteT ?_
  exact ⟨_, rfl, _, _, _, _, false, rfl, .ty "bool", .base (.int i), by rfl, _, rfl, q⟩
theorem ok_Lwhole {P : Program} {w : World} {K : PySem.W.Frag} {mg : Str → Option Value} {base : Heap} (T : Txt K mg) : Okf P w K mg base 1 "_law_whole" ["_law_found"] (sp_Lwhole K) := by
  obtain ⟨fd, F0⟩ := T.c.def_ 36 (d := d_Lwhole) rfl
  have F : FnP K "_law_whole" s_Lwhole (He.ga K "_law_whole") fd := F0
  refine ⟨_, fd, F.ok sc_Lwhole (fun vs H Q E h => ?_) (fun cdv A outer s H vs Q E hr h => ⟨t_Lwhole K, PSs.nox ?_, pure_Lwhole T vs H Q E h⟩), F.bindsN (fun _ _ _ _ _ _ us hl => match us, hl with | [_], _ => rfl), F.kp, T.glo 36 rfl⟩
  · obtain ⟨_, rfl, _⟩ := h
    rfl
  · exact (pss_one (ps_ret (pe_and (pe_callB call_isi (by rfl) (T.free 60 rfl) (by decide +kernel) (pa_cons (pv 0) (pa_cons (pe_bltn (v := .ty "int") rfl (T.free 61 rfl) (by decide +kernel) rfl) pa_nil))) (pe_one (pe_not (pe_callB call_isi (by rfl) (T.free 60 rfl) (by decide +kernel) (pa_cons (pv 0) (pa_cons (pe_bltn (v := .ty "bool") rfl (T.free 62 rfl) (by decide +kernel) rfl) pa_nil))))))))
def sp_Lpair (K : PySem.W.Frag) : Sp := fun vs H Q _ => ∃ v1, vs = [v1] ∧ ∃ q : Rat, isP K H v1 q ∧ Q (.bl true) H
/-- slots: _law_found 0 -/
abbrev N_Lpair : List Str := ["_law_found"]
theorem sc_Lpair : FnScope N_Lpair ["_law_found"] (defScope s_Lpair) := ⟨rfl, rfl, rfl, by decide +kernel, rfl, by decide +kernel, by decide +kernel⟩
def t_Lpair (K : PySem.W.Frag) : TS := tSeq (tIfS (tOr (tNot (tB (tCB (rIsi K) (tCons (tVar 0) (tCons (tC (.ty "tuple")) tNil))))) (tTest (tOp rNe (tCB (kLen K) (tCons (tVar 0) tNil)) (tC (.int 2)))))
  (tRet (tC (.bl false)))
  tNext)
  (tSeq (tIfS (tOr (tNot (tB (tCall (sp_Lwhole K) [] E0 (tCons (tOp (rIxT K) (tVar 0) (tC (.int 0))) tNil)))) (tOr (tNot (tB (tCall (sp_Lwhole K) [] E0 (tCons (tOp (rIxT K) (tVar 0) (tC (.int 1))) tNil)))) (tTest (tOp kLt (tOp (rIxT K) (tVar 0) (tC (.int 1))) (tC (.int 1))))))
  (tRet (tC (.bl false)))
  tNext)
  (tRet (tOp rEq (tCall (sp_Lgcd K) [] E0 (tCons (tOp (rIxT K) (tVar 0) (tC (.int 0))) (tCons (tOp (rIxT K) (tVar 0) (tC (.int 1))) tNil))) (tC (.int 1)))))
theorem ty_tup {K : PySem.W.Frag} {H : Hp} {a : Addr} {xs : List V} (h : SqT K H a xs) : TyX K H (.ref a) (.type "tuple") := by
  rcases h with (h | ⟨o, h⟩) | ⟨o, its, n, h, hc, _⟩
  · exact .base (.tup h)
  · exact .fTuple h
  · exact .kTuple h hc
theorem ty_lst {K : PySem.W.Frag} {H : Hp} {a : Addr} {xs : List V} (h : SqL K H a xs) : TyX K H (.ref a) (.type "list") := by
  rcases h with (h | ⟨o, h⟩) | ⟨o, its, n, h, hc, _⟩
  · exact .base (.lst h)
  · exact .base (.frz h)
  · exact .kList h hc
theorem v_isi {K : PySem.W.Frag} {H : Hp} {σ : L2.St} {te : TE} {x : V} {T : String} (h : Val te σ H x) (t : TyX K H x (.type T)) : Val (tCB (rIsi K) (tCons te (tCons (tC (.ty T)) tNil))) σ H (.bl true) := fun Q q => h _ ⟨x, .ty T, _, _, true, rfl, .ty T, t, by
  unfold PySem.W.kitOne
  rw [if_pos (by simp)], q⟩
theorem pure_Lpair {K : PySem.W.Frag} {mg : Str → Option Value} (T : Txt K mg) (vs : List V) (H : Hp) (Q : VK) (E : XK) (h : sp_Lpair K vs H Q E) : t_Lpair K { nx := fun _ H' => Q .non H', rt := Q } (start N_Lpair vs) H := by
  obtain ⟨_, rfl, r, hr, q⟩ := h
  obtain ⟨a, rfl, hT⟩ := id hr
  have vw : ∀ {te : TE} {i : Int} {σ : L2.St}, Val te σ H (.int i) → Ans (tNot (tB (tCall (sp_Lwhole K) [] E0 (tCons te tNil)))) σ H false := fun {te i σ} hv => by
    refine ans_not (b := true) (ans_val fun Q' q' => ?_)
    apply c_call1 hv
    exact ⟨i, rfl, q'⟩
  unfold t_Lpair
  have a1 : Ans (tNot (tB (tCB (rIsi K) (tCons (tVar 0) (tCons (tC (.ty "tuple")) tNil))))) (start N_Lpair [.ref a]) H false := ans_not (b := true) (ans_val (v_isi (val_var rfl) (ty_tup hT)))
  apply q_if0 (ans_or a1 (ans_vt (v_neI (v_lenT (val_var rfl) hT) val_c)))
  · intro z
    exact absurd z (by simp)
  intro _
  have d0 : ¬ ((r.den : Int) < 1) := by have := r.den_pos; omega
  apply q_if0 (ans_or (vw (v_num (val_var rfl) hr)) (ans_or (vw (v_den (val_var rfl) hr)) (ans_vt (v_lt (v_den (val_var rfl) hr) val_c))))
  · intro z
    exact absurd (of_decide_eq_true z) d0
  intro _
  apply s_retc
  show tCall _ _ _ _ _ _ _
  apply c_call2 (v_num (val_var rfl) hr) (v_den (val_var rfl) hr)
  refine ⟨_, _, rfl, _, _, rfl, rfl, ?_⟩
  rw [Int.natAbs_natCast]
  have e : Nat.gcd r.num.natAbs r.den = 1 := r.reduced
  rw [e]
  exact ⟨rfl, q⟩
theorem ok_Lpair {P : Program} {w : World} {K : PySem.W.Frag} {mg : Str → Option Value} {base : Heap} (T : Txt K mg) : Okf P w K mg base 2 "_law_pair" ["_law_found"] (sp_Lpair K) := by
  obtain ⟨fd, F0⟩ := T.c.def_ 37 (d := d_Lpair) rfl
  have F : FnP K "_law_pair" s_Lpair (He.ga K "_law_pair") fd := F0
  have h_Lwhole := ok_Lwhole (P := P) (w := w) (base := base) T
  have h_Lgcd := ok_Lgcd (P := P) (w := w) (base := base) T
  refine ⟨_, fd, F.ok sc_Lpair (fun vs H Q E h => ?_) (fun cdv A outer s H vs Q E hr h => ⟨t_Lpair K, PSs.nox ?_, pure_Lpair T vs H Q E h⟩), F.bindsN (fun _ _ _ _ _ _ us hl => match us, hl with | [_], _ => rfl), F.kp, T.glo 37 rfl⟩
  · obtain ⟨_, rfl, _⟩ := h
    rfl
  · exact (pss_cons (ps_if (PW.pt (pw_or (pt_not (pt_val (pe_callB call_isi (by rfl) (T.free 60 rfl) (by decide +kernel) (pa_cons (pv 0) (pa_cons (pe_bltn (v := .ty "tuple") rfl (T.free 63 rfl) (by decide +kernel) rfl) pa_nil))))) (pw_or1 (pt_cmpR op_ne (pe_callB call_len_seq (by rfl) (T.free 57 rfl) PySem.boot_len (pa_cons (pv 0) pa_nil)) pe_int (nomark _)))))
  (pss_one (ps_ret pe_bl))
  pss_nil)
  (pss_cons (ps_if (PW.pt (pw_or (pt_not (pt_val (pe_cf h_Lwhole hr (by decide) rfl (pa_cons (pe_ix ix_tup (pv 0) pe_int (fun _ _ => rfl)) pa_nil)))) (pw_or (pt_not (pt_val (pe_cf h_Lwhole hr (by decide) rfl (pa_cons (pe_ix ix_tup (pv 0) pe_int (fun _ _ => rfl)) pa_nil)))) (pw_or1 (pt_cmpR op_lt (pe_ix ix_tup (pv 0) pe_int (fun _ _ => rfl)) pe_int (nomark _))))))
  (pss_one (ps_ret pe_bl))
  pss_nil)
  (pss_one (ps_ret (pe_cmpR op_eq (pe_cf h_Lgcd hr (by decide) rfl (pa_cons (pe_ix ix_tup (pv 0) pe_int (fun _ _ => rfl)) (pa_cons (pe_ix ix_tup (pv 0) pe_int (fun _ _ => rfl)) pa_nil))) pe_int (nomark _))))))
def sp_Lpairs (K : PySem.W.Frag) : Sp := fun vs H Q _ => ∃ v1 v2, vs = [v1, v2] ∧ ∃ ps : List Rat, isL K H (isP K H) v1 ps ∧ v2 = nv ps.length ∧ ps.length ≤ 1000 ∧ ∀ H', Same H H' → Q (.bl true) H'
/-- slots: _law_found 0, _law_many_here 1, _law_one 2 -/
abbrev N_Lpairs : List Str := ["_law_found", "_law_many_here", "_law_one"]
theorem sc_Lpairs : FnScope N_Lpairs ["_law_found", "_law_many_here"] (defScope s_Lpairs) := ⟨rfl, rfl, rfl, by decide +kernel, rfl, by decide +kernel, by decide +kernel⟩
def t_Lpairs (K : PySem.W.Frag) : TS := tRet (tAndV (tCB (rIsi K) (tCons (tVar 0) (tCons (tC (.ty "list")) tNil))) (tAndV (tOp rEq (tCB (kLen K) (tCons (tVar 0) tNil)) (tVar 1)) (tCB (rAll K) (tCons (tLc (iList K (tVar 0)) (gName 2) tYes (tCall (sp_Lpair K) [] E0 (tCons (tVar 2) tNil)) [2]) tNil))))
theorem c_all {K : PySem.W.Frag} {H : Hp} {p : Addr} {n : Nat} {ys : List V} {R : V → Nat → Prop} {Q : VK} (e : H p = some (.lst ys)) (al : All2 (fun v (k : Nat) => v = .bl true) ys (List.range n)) (q : Q (.bl true) H) : rAll K [.ref p] H Q := by
  have e2 := All2.map_eq (f := fun _ => V.bl true) al
  refine ⟨p, (List.range n).map fun _ => true, rfl, ?_, ?_⟩
  · rw [List.map_map]
    rw [e2] at e
    exact SqL.of e
  · have : ((List.range n).map fun _ => true).all id = true := by
      rw [List.all_map, List.all_eq_true]
      intro _ _
      rfl
    rw [this]
    exact q
theorem pure_Lpairs {K : PySem.W.Frag} {mg : Str → Option Value} (T : Txt K mg) (vs : List V) (H : Hp) (Q : VK) (E : XK) (h : sp_Lpairs K vs H Q E) : t_Lpairs K { nx := fun _ H' => Q .non H', rt := Q } (start N_Lpairs vs) H := by
  obtain ⟨_, _, rfl, ps, ⟨a, xs, rfl, ha, al⟩, rfl, hl, q⟩ := h
  unfold t_Lpairs
  apply s_retc
  apply (v_isi (val_var rfl) (ty_lst ha) : Val _ (start N_Lpairs [.ref a, nv ps.length]) H (.bl true))
  refine ⟨true, rfl, iteT ?_⟩
  apply (v_eqI (v_lenL (val_var rfl) ha) (val_var rfl) : Val _ (start N_Lpairs [.ref a, nv ps.length]) H (.bl (decide ((xs.length : Int) = (ps.length : Int)))))
  rw [al.1, decide_eq_true rfl]
  refine ⟨true, rfl, iteT ?_⟩
  apply c_cb1
  refine c_lcL (fun _ => true) (fun k v _ => v = .bl true) hR_val (val_var rfl) ha (by rw [al.1]; omega) (fun k x H2 _ _ Q k => k) (fun k x H2 hx s2 _ => ?_) ?_
  · obtain ⟨r, _, hr⟩ := al.got hx
    refine EvR.val fun Q' q' => ?_
    apply c_call1 (val_var rfl)
    exact ⟨_, rfl, r, hr.mono (tk_of s2), q'⟩
  · intro p ys H2 hp s2 e2 al2
    rw [kept_all] at al2
    exact c_all (R := fun _ _ => True) e2 al2 (q H2 s2)
theorem ok_Lpairs {P : Program} {w : World} {K : PySem.W.Frag} {mg : Str → Option Value} {base : Heap} (T : Txt K mg) : Okf P w K mg base 3 "_law_pairs" ["_law_found", "_law_many_here"] (sp_Lpairs K) := by
  obtain ⟨fd, F0⟩ := T.c.def_ 38 (d := d_Lpairs) rfl
  have F : FnP K "_law_pairs" s_Lpairs (He.ga K "_law_pairs") fd := F0
  have h_Lpair := ok_Lpair (P := P) (w := w) (base := base) T
  refine ⟨_, fd, F.ok sc_Lpairs (fun vs H Q E h => ?_) (fun cdv A outer s H vs Q E hr h => ⟨t_Lpairs K, PSs.nox ?_, pure_Lpairs T vs H Q E h⟩), F.bindsN (fun _ _ _ _ _ _ us hl => match us, hl with | [_, _], _ => rfl), F.kp, T.glo 38 rfl⟩
  · obtain ⟨_, _, rfl, _⟩ := h
    rfl
  · exact (pss_one (ps_ret (pe_and (pe_callB call_isi (by rfl) (T.free 60 rfl) (by decide +kernel) (pa_cons (pv 0) (pa_cons (pe_bltn (v := .ty "list") rfl (T.free 59 rfl) (by decide +kernel) rfl) pa_nil))) (pe_and (pe_cmpR op_eq (pe_callB call_len_seq (by rfl) (T.free 57 rfl) PySem.boot_len (pa_cons (pv 0) pa_nil)) (pv 1) (nomark _)) (pe_one (pe_callB (cr_all rfl) (by rfl) (T.free 64 rfl) (by decide +kernel) (pa_cons (pe_lc (own := [("_law_one", 2)]) (g := (gName 2)) (tt := tYes) rfl sc_Lpairs.nd (pi_list (pv 0)) (blkOk_by (own := [("_law_one", 2)]) (N := N_Lpairs) (sc := defScope s_Lpairs) (by decide +kernel)) (fun _ _ _ _ _ => (pg_name (i := 2) sc_Lpairs.nd rfl (by first | exact Or.inl rfl | exact Or.inr rfl))) (fun _ _ _ _ _ => pts_nil) (fun _ _ _ _ _ => (pe_cf h_Lpair hr (by decide) rfl (pa_cons (pv 2) pa_nil)))) pa_nil)))))))
def sp_Lmany (K : PySem.W.Frag) : Sp := fun vs H Q _ => ∃ v1, vs = [v1] ∧ ∃ a b, v1 = .ref a ∧ Bag H a b ∧ ∀ m H', m ≤ 6 → BX a H H' → Bag H' a b → Q (nv m) H'
/-- slots: _law_bag_here 0 -/
abbrev N_Lmany : List Str := ["_law_bag_here"]
theorem sc_Lmany : FnScope N_Lmany ["_law_bag_here"] (defScope s_Lmany) := ⟨rfl, rfl, rfl, by decide +kernel, rfl, by decide +kernel, by decide +kernel⟩
def t_Lmany (K : PySem.W.Frag) : TS := tRet (tOp (rIxL K) (tLst (tCons (tC (.int 3)) (tCons (tC (.int 2)) (tCons (tC (.int 4)) (tCons (tC (.int 1)) (tCons (tC (.int 5)) (tCons (tC (.int 6)) (tCons (tC (.int 0)) tNil)))))))) (tCall (sp_Lpull K) [] E0 (tCons (tVar 0) (tCons (tC (.int 7)) tNil))))
theorem pure_Lmany {K : PySem.W.Frag} {mg : Str → Option Value} (T : Txt K mg) (vs : List V) (H : Hp) (Q : VK) (E : XK) (h : sp_Lmany K vs H Q E) : t_Lmany K { nx := fun _ H' => Q .non H', rt := Q } (start N_Lmany vs) H := by
  obtain ⟨_, rfl, a, b, rfl, g, q⟩ := h
  unfold t_Lmany
  apply s_retc
  refine c_pick [nv 3, nv 2, nv 4, nv 1, nv 5, nv 6, nv 0] (va_cons val_c (va_cons val_c (va_cons val_c (va_cons val_c (va_cons val_c (va_cons val_c (va_cons val_c va_nil))))))) rfl (by show 0 < 7 ∧ 7 ≤ 1000; decide) (fun _ => val_var rfl) g fun v H' hm x g' => ?_
  have : ∃ m, m ≤ 6 ∧ v = nv m := by
    simp only [List.mem_cons, List.not_mem_nil, or_false] at hm
    rcases hm with rfl | rfl | rfl | rfl | rfl | rfl | rfl
    · exact ⟨3, by decide, rfl⟩
    · exact ⟨2, by decide, rfl⟩
    · exact ⟨4, by decide, rfl⟩
    · exact ⟨1, by decide, rfl⟩
    · exact ⟨5, by decide, rfl⟩
    · exact ⟨6, by decide, rfl⟩
    · exact ⟨0, by decide, rfl⟩
  obtain ⟨m, hm2, rfl⟩ := this
  exact q m H' hm2 x g'
theorem ok_Lmany {P : Program} {w : World} {K : PySem.W.Frag} {mg : Str → Option Value} {base : Heap} (T : Txt K mg) : Okf P w K mg base 2 "_law_many" ["_law_bag_here"] (sp_Lmany K) := by
  obtain ⟨fd, F0⟩ := T.c.def_ 39 (d := d_Lmany) rfl
  have F : FnP K "_law_many" s_Lmany (He.ga K "_law_many") fd := F0
  have h_Lpull := ok_Lpull (P := P) (w := w) (base := base) T
  refine ⟨_, fd, F.ok sc_Lmany (fun vs H Q E h => ?_) (fun cdv A outer s H vs Q E hr h => ⟨t_Lmany K, PSs.nox ?_, pure_Lmany T vs H Q E h⟩), F.bindsN (fun _ _ _ _ _ _ us hl => match us, hl with | [_], _ => rfl), F.kp, T.glo 39 rfl⟩
  · obtain ⟨_, rfl, _⟩ := h
    rfl
  · exact (pss_one (ps_ret (pe_ix ix_list (pe_lst (pa_cons pe_int (pa_cons pe_int (pa_cons pe_int (pa_cons pe_int (pa_cons pe_int (pa_cons pe_int (pa_cons pe_int pa_nil)))))))) (pe_cf h_Lpull hr (by decide) rfl (pa_cons (pv 0) (pa_cons pe_int pa_nil))) (fun _ _ => rfl))))
def sp_Lheap (K : PySem.W.Frag) : Sp := fun vs H Q _ => ∃ v1 v2, vs = [v1, v2] ∧ ∃ a b m, v1 = .ref a ∧ v2 = nv m ∧ m ≤ 6 ∧ Bag H a b ∧ ∀ v h H', BX a H H' → Bag H' a b → isH K H' v h → h.Nodup → (∀ p ∈ h, p < m) → Q v H'
/-- slots: _law_bag_here 0, _law_many_here 1, _law_mask 2, _law_place 3 -/
abbrev N_Lheap : List Str := ["_law_bag_here", "_law_many_here", "_law_mask", "_law_place"]
theorem sc_Lheap : FnScope N_Lheap ["_law_bag_here", "_law_many_here"] (defScope s_Lheap) := ⟨rfl, rfl, rfl, by decide +kernel, rfl, by decide +kernel, by decide +kernel⟩
def t_Lheap (K : PySem.W.Frag) : TS := tSeq (tIfS (tAnd (tTest (tOp kGt (tVar 1) (tC (.int 0)))) (tTest (tOp rEq (tCall (sp_Lpull K) [] E0 (tCons (tVar 0) (tCons (tC (.int 3)) tNil))) (tC (.int 0)))))
  (tRet (tTup (tCons (tCall (sp_Lpull K) [] E0 (tCons (tVar 0) (tCons (tVar 1) tNil))) tNil)))
  tNext)
  (tSeq (tAsg (tCall (sp_Lpull K) [] E0 (tCons (tVar 0) (tCons (tOp (rIxL K) (tLst (tCons (tC (.int 1)) (tCons (tC (.int 2)) (tCons (tC (.int 4)) (tCons (tC (.int 8)) (tCons (tC (.int 16)) (tCons (tC (.int 32)) (tCons (tC (.int 64)) tNil)))))))) (tVar 1)) tNil))) (gName 2))
  (tRet (tCB (kTup K) (tCons (tLc (iRng1 (tCons (tVar 1) tNil)) (gName 3) (tTest (tOp rEq (tOp kMod (tOp kDiv (tVar 2) (tOp (rIxL K) (tLst (tCons (tC (.int 1)) (tCons (tC (.int 2)) (tCons (tC (.int 4)) (tCons (tC (.int 8)) (tCons (tC (.int 16)) (tCons (tC (.int 32)) tNil))))))) (tVar 3))) (tC (.int 2))) (tC (.int 1)))) (tVar 3) [3]) tNil))))
/-- an expression that keeps what was tracked beside the bag is still a turn: places by a test -/
theorem c_lcRX {σ : L2.St} {H : Hp} {ta : TE} {tt : TT} {Q : VK} {j n : Nat} (f : Nat → Bool) (ht : Val ta σ H (.int (n : Int))) (hn : n < 1000) (hj : ∀ x : V, ((wipe σ [j]).set j (some x))[j]? = some (some x))
    (hc : ∀ i H', i < n → Same H H' → ∀ Q : Bool → Hp → Prop, (∀ H2, Same H' H2 → Q (f i) H2) → tt ((wipe σ [j]).set j (some (nv i))) H' Q)
    (q : ∀ p H', H p = none → Same H H' → H' p = some (.lst ((kept n f).map nv)) → Q (.ref p) H') : tLc (iRng1 (tCons ta tNil)) (gName j) tt (tVar j) [j] σ H Q := by
  refine c_lcGR (fun p i H' => Same H H' ∧ H' p = some (.lst ((kept i f).map nv))) ht (by omega) (fun p hp => ⟨same_new hp, upd_same⟩) (fun p i H' hp hi I => ?_) (fun p H' hp I => q p H' hp I.1 I.2)
  refine hc i H' hi I.1 _ fun H2 s2 => ?_
  cases hf : f i with
  | true =>
    refine iteT ?_
    refine ⟨nv i, hj _, _, s2 _ _ I.2, ?_, same_mut (I.1.trans s2) hp, ?_⟩
    · have := kept_len i f
      rw [List.length_map]
      exact Nat.lt_of_le_of_lt this (Nat.lt_of_lt_of_le (Nat.lt_trans hi hn) (by decide))
    · rw [kept_yes hf, List.map_append]
      exact upd_same
  | false =>
    refine iteF ⟨I.1.trans s2, ?_⟩
    rw [kept_no hf]
    exact s2 _ _ I.2
theorem pure_Lheap {K : PySem.W.Frag} {mg : Str → Option Value} (T : Txt K mg) (vs : List V) (H : Hp) (Q : VK) (E : XK) (h : sp_Lheap K vs H Q E) : t_Lheap K { nx := fun _ H' => Q .non H', rt := Q } (start N_Lheap vs) H := by
  obtain ⟨_, _, rfl, a, b, m, rfl, rfl, hm, g, q⟩ := h
  have body : ∀ H0, BX a H H0 → Bag H0 a b → (tSeq (tAsg (tCall (sp_Lpull K) [] E0 (tCons (tVar 0) (tCons (tOp (rIxL K) (tLst (tCons (tC (.int 1)) (tCons (tC (.int 2)) (tCons (tC (.int 4)) (tCons (tC (.int 8)) (tCons (tC (.int 16)) (tCons (tC (.int 32)) (tCons (tC (.int 64)) tNil)))))))) (tVar 1)) tNil))) (gName 2))
  (tRet (tCB (kTup K) (tCons (tLc (iRng1 (tCons (tVar 1) tNil)) (gName 3) (tTest (tOp rEq (tOp kMod (tOp kDiv (tVar 2) (tOp (rIxL K) (tLst (tCons (tC (.int 1)) (tCons (tC (.int 2)) (tCons (tC (.int 4)) (tCons (tC (.int 8)) (tCons (tC (.int 16)) (tCons (tC (.int 32)) tNil))))))) (tVar 3))) (tC (.int 2))) (tC (.int 1)))) (tVar 3) [3]) tNil)))) { nx := fun _ H' => Q .non H', rt := Q } (start N_Lheap [.ref a, nv m]) H0 := by
    intro H0 x0 g0
    apply q_asg
    apply c_call2c
    refine ⟨_, rfl, ?_⟩
    have hv : ValA (tCons (tC (.int 1)) (tCons (tC (.int 2)) (tCons (tC (.int 4)) (tCons (tC (.int 8)) (tCons (tC (.int 16)) (tCons (tC (.int 32)) (tCons (tC (.int 64)) tNil))))))) (start N_Lheap [.ref a, nv m]) H0 ([1, 2, 4, 8, 16, 32, 64].map nv) := va_cons val_c (va_cons val_c (va_cons val_c (va_cons val_c (va_cons val_c (va_cons val_c (va_cons val_c va_nil))))))
    show tLst _ _ _ _
    refine c_lstA hv (by show 7 ≤ 1000; decide) fun p hp => ?_
    have s1 := same_new (o := .lst ([1, 2, 4, 8, 16, 32, 64].map nv)) hp
    have e1 : (upd H0 p (.lst ([1, 2, 4, 8, 16, 32, 64].map nv))) p = some (.lst ([1, 2, 4, 8, 16, 32, 64].map nv)) := upd_same
    have g1 := g0.same s1
    have x1 := x0.trans (bx_of (a := a) s1)
    generalize upd H0 p (.lst ([1, 2, 4, 8, 16, 32, 64].map nv)) = H1 at s1 e1 g1 x1 ⊢
    obtain ⟨n, hn1, hn2, hn3⟩ : ∃ n : Nat, ([1, 2, 4, 8, 16, 32, 64] : List Nat)[m]? = some n ∧ 0 < n ∧ n ≤ 64 := by
      match m, hm with
      | 0, _ => exact ⟨1, rfl, by decide, by decide⟩
      | 1, _ => exact ⟨2, rfl, by decide, by decide⟩
      | 2, _ => exact ⟨4, rfl, by decide, by decide⟩
      | 3, _ => exact ⟨8, rfl, by decide, by decide⟩
      | 4, _ => exact ⟨16, rfl, by decide, by decide⟩
      | 5, _ => exact ⟨32, rfl, by decide, by decide⟩
      | 6, _ => exact ⟨64, rfl, by decide, by decide⟩
      | n + 7, h => omega
    refine ⟨nv m, rfl, p, _, (m : Int), nv n, rfl, rfl, SqL.of e1, atI_nat (nv_at hn1), _, _, rfl, a, b, n, rfl, rfl, g1, hn2, small_B1 (by omega), fun k H2 hk x2 g2 => ?_⟩
    have x02 := x1.trans x2
    apply s_retc
    apply c_cb1
    -- places by the bits of k
    refine c_lcRX (fun i => decide ((k / 2 ^ i) % 2 = 1)) (val_var rfl) (by omega) (fun _ => rfl) (fun i H3 hi s3 Q' q' => ?_) (fun p4 H4 hp4 s4 e4 => ?_)
    · apply t_op
      show tVar 2 _ H3 _
      refine ⟨nv k, rfl, ?_⟩
      refine ⟨(by show 6 ≤ sizeLine; decide), fun p5 hp5 => ?_⟩
      have s5 := same_new (o := .lst ([1, 2, 4, 8, 16, 32].map nv)) hp5
      obtain ⟨n2, hq1, hq2, hq3⟩ : ∃ n : Nat, ([1, 2, 4, 8, 16, 32] : List Nat)[i]? = some n ∧ n = 2 ^ i ∧ n ≤ 64 := by
        have hi6 : i < 6 := by omega
        match i, hi6 with
        | 0, _ => exact ⟨1, rfl, by decide, by decide⟩
        | 1, _ => exact ⟨2, rfl, by decide, by decide⟩
        | 2, _ => exact ⟨4, rfl, by decide, by decide⟩
        | 3, _ => exact ⟨8, rfl, by decide, by decide⟩
        | 4, _ => exact ⟨16, rfl, by decide, by decide⟩
        | 5, _ => exact ⟨32, rfl, by decide, by decide⟩
        | n + 6, h => omega
      have n20 : 0 < n2 := by rw [hq2]; exact Nat.two_pow_pos i
      refine ⟨nv i, rfl, p5, _, (i : Int), nv n2, rfl, rfl, SqL.of upd_same, atI_nat (nv_at hq1), (k : Int), (n2 : Int), rfl, rfl, bs_small n20 (small_B1 (by omega)) _, _, 2, rfl, rfl, (show (0 : Int) < 2 by decide), rfl, _, rfl, ?_⟩
      have e : decide (V.int ((k : Int) / (n2 : Int) % 2) = V.int 1) = decide ((k / 2 ^ i) % 2 = 1) := by
        refine decide_eq_decide.mpr ?_
        rw [← hq2]
        constructor
        · intro z
          have z := V.int.inj z
          omega
        · intro z
          congr 1
          omega
      rw [e]
      exact q' _ s5
    · refine ⟨p4, _, rfl, .inl ⟨SqL.of e4, fun l hl => ?_⟩⟩
      have s5 := same_new (o := .tup ((kept m fun i => decide ((k / 2 ^ i) % 2 = 1)).map nv)) hl
      refine q (.ref l) (kept m fun i => decide ((k / 2 ^ i) % 2 = 1)) _ ((x02.trans (bx_of s4)).trans (bx_of s5)) ((g2.same s4).same s5) ⟨l, rfl, SqT.of upd_same⟩ (List.nodup_range.sublist List.filter_sublist) fun p hp => (kept_mem.mp hp).1
  unfold t_Lheap
  apply q_ifc
  apply (v_gt (val_var rfl) val_c : Val (tOp kGt (tVar 1) (tC (.int 0))) (start N_Lheap [.ref a, nv m]) H _)
  refine ⟨_, rfl, ?_⟩
  cases hb : decide ((0 : Int) < ((m : Nat) : Int)) with
  | false => exact iteF (iteF (body H (BX.refl a H) g))
  | true =>
    have hb := of_decide_eq_true hb
    refine iteT ?_
    apply t_op
    show tCall _ _ _ _ _ _ _
    refine c_pull (n := 3) (val_var rfl) val_c g (by decide) (by decide) fun k H1 hk x1 g1 => ?_
    refine ⟨rfl, _, rfl, ?_⟩
    cases decide (nv k = V.int 0) with
    | false => exact iteF (body H1 x1 g1)
    | true =>
      refine iteT ?_
      apply s_retc
      show tCall _ _ _ _ _ _ _
      refine c_pull (n := m) (val_var rfl) (val_var rfl) g1 (by omega) (by omega) fun k2 H2 hk2 x2 g2 => ⟨by show 1 ≤ sizeLine; decide, fun p hp => ?_⟩
      have s3 := same_new (o := .tup [nv k2]) hp
      exact q _ [k2] _ ((x1.trans x2).trans (bx_of s3)) (g2.same s3) ⟨p, rfl, SqT.of upd_same⟩ (by simp) fun p hp => by
        rw [List.mem_singleton.mp hp]
        exact hk2
theorem ok_Lheap {P : Program} {w : World} {K : PySem.W.Frag} {mg : Str → Option Value} {base : Heap} (T : Txt K mg) : Okf P w K mg base 2 "_law_heap" ["_law_bag_here", "_law_many_here"] (sp_Lheap K) := by
  obtain ⟨fd, F0⟩ := T.c.def_ 40 (d := d_Lheap) rfl
  have F : FnP K "_law_heap" s_Lheap (He.ga K "_law_heap") fd := F0
  have h_Lpull := ok_Lpull (P := P) (w := w) (base := base) T
  refine ⟨_, fd, F.ok sc_Lheap (fun vs H Q E h => ?_) (fun cdv A outer s H vs Q E hr h => ⟨t_Lheap K, PSs.nox ?_, pure_Lheap T vs H Q E h⟩), F.bindsN (fun _ _ _ _ _ _ us hl => match us, hl with | [_, _], _ => rfl), F.kp, T.glo 40 rfl⟩
  · obtain ⟨_, _, rfl, _⟩ := h
    rfl
  · exact (pss_cons (ps_if (PW.pt (pw_and (pt_cmpR op_gt (pv 1) pe_int (nomark _)) (pw_and1 (pt_cmpR op_eq (pe_cf h_Lpull hr (by decide) rfl (pa_cons (pv 0) (pa_cons pe_int pa_nil))) pe_int (nomark _)))))
  (pss_one (ps_ret (pe_tup (pa_cons (pe_cf h_Lpull hr (by decide) rfl (pa_cons (pv 0) (pa_cons (pv 1) pa_nil))) pa_nil))))
  pss_nil)
  (pss_cons (ps_set (i := 2) sc_Lheap.nd rfl (by first | exact Or.inl rfl | exact Or.inr rfl) (pe_cf h_Lpull hr (by decide) rfl (pa_cons (pv 0) (pa_cons (pe_ix ix_list (pe_lst (pa_cons pe_int (pa_cons pe_int (pa_cons pe_int (pa_cons pe_int (pa_cons pe_int (pa_cons pe_int (pa_cons pe_int pa_nil)))))))) (pv 1) (fun _ _ => rfl)) pa_nil))))
  (pss_one (ps_ret (pe_callTy call_tuple_of (by rfl) (T.free 63 rfl) (by decide +kernel) (pa_cons (pe_lc (own := [("_law_place", 3)]) (g := (gName 3)) (tt := (tTest (tOp rEq (tOp kMod (tOp kDiv (tVar 2) (tOp (rIxL K) (tLst (tCons (tC (.int 1)) (tCons (tC (.int 2)) (tCons (tC (.int 4)) (tCons (tC (.int 8)) (tCons (tC (.int 16)) (tCons (tC (.int 32)) tNil))))))) (tVar 3))) (tC (.int 2))) (tC (.int 1))))) rfl sc_Lheap.nd (pi_range1 (by rfl) (T.free 54 rfl) (pa_cons (pv 1) pa_nil)) (blkOk_by (own := [("_law_place", 3)]) (N := N_Lheap) (sc := defScope s_Lheap) (by decide +kernel)) (fun _ _ _ _ _ => (pg_name (i := 3) sc_Lheap.nd rfl (by first | exact Or.inl rfl | exact Or.inr rfl))) (fun _ _ _ _ _ => (pts_one (pt_cmpR op_eq (pe_op op_mod (pe_op op_fdivW (pv 2) (pe_ix ix_list (pe_lst (pa_cons pe_int (pa_cons pe_int (pa_cons pe_int (pa_cons pe_int (pa_cons pe_int (pa_cons pe_int pa_nil))))))) (pv 3) (fun _ _ => rfl))) pe_int) pe_int (nomark _)))) (fun _ _ _ _ _ => (pv 3))) pa_nil))))))
def sp_Lworths (K : PySem.W.Frag) : Sp := fun vs H Q _ => ∃ v1 v2, vs = [v1, v2] ∧ ∃ a b m, v1 = .ref a ∧ v2 = nv m ∧ m ≤ 6 ∧ Bag H a b ∧ ∀ p (ns : List Int) H', H p = none → BX a H H' → Bag H' a b → H' p = some (.lst (ns.map V.int)) → ns.length = m → (∀ x ∈ ns, 0 ≤ x ∧ x ≤ 10 ^ 12) → Q (.ref p) H'
/-- slots: _law_bag_here 0, _law_many_here 1, _law_scale 2, _law_fund 3 -/
abbrev N_Lworths : List Str := ["_law_bag_here", "_law_many_here", "_law_scale", "_law_fund"]
theorem sc_Lworths : FnScope N_Lworths ["_law_bag_here", "_law_many_here"] (defScope s_Lworths) := ⟨rfl, rfl, rfl, by decide +kernel, rfl, by decide +kernel, by decide +kernel⟩
def t_Lworths (K : PySem.W.Frag) : TS := tSeq (tAsg (tOp (rIxL K) (tLst (tCons (tC (.int 12)) (tCons (tC (.int 3)) (tCons (tC (.int 100)) (tCons (tOp kPow (tC (.int 10)) (tC (.int 9))) (tCons (tOp kPow (tC (.int 10)) (tC (.int 12))) tNil)))))) (tCall (sp_Lpull K) [] E0 (tCons (tVar 0) (tCons (tC (.int 5)) tNil)))) (gName 2))
  (tRet (tLc (iRng1 (tCons (tVar 1) tNil)) (gName 3) tYes (tOp kMul (tCall (sp_Lpull K) [] E0 (tCons (tVar 0) (tCons (tOp kAdd (tVar 2) (tC (.int 1))) tNil))) (tCB kMin2 (tCons (tC (.int 1)) (tCons (tCall (sp_Lpull K) [] E0 (tCons (tVar 0) (tCons (tC (.int 7)) tNil))) tNil)))) [3]))
theorem pure_Lworths {K : PySem.W.Frag} {mg : Str → Option Value} (T : Txt K mg) (vs : List V) (H : Hp) (Q : VK) (E : XK) (h : sp_Lworths K vs H Q E) : t_Lworths K { nx := fun _ H' => Q .non H', rt := Q } (start N_Lworths vs) H := by
  obtain ⟨_, _, rfl, a, b, m, rfl, rfl, hm6, g, q⟩ := h
  unfold t_Lworths
  apply q_asg
  refine c_pick [nv 12, nv 3, nv 100, nv 1000000000, nv 1000000000000] (va_cons val_c (va_cons val_c (va_cons val_c (va_cons v_pow9 (va_cons v_pow12 va_nil))))) rfl (by show 0 < 5 ∧ 5 ≤ 1000; decide) (fun _ => val_var rfl) g fun v H1 hm x1 g1 => ?_
  have : ∃ s, s ≤ 1000000000000 ∧ v = nv s := by
    simp only [List.mem_cons, List.not_mem_nil, or_false] at hm
    rcases hm with rfl | rfl | rfl | rfl | rfl
    · exact ⟨12, by decide, rfl⟩
    · exact ⟨3, by decide, rfl⟩
    · exact ⟨100, by decide, rfl⟩
    · exact ⟨1000000000, by decide, rfl⟩
    · exact ⟨1000000000000, by decide, rfl⟩
  obtain ⟨s, hs, rfl⟩ := this
  apply s_retc
  refine c_lcGR (n := m) (fun p i H' => BX a H H' ∧ Bag H' a b ∧ ∃ ns : List Int, H' p = some (.lst (ns.map V.int)) ∧ ns.length = i ∧ ∀ x ∈ ns, 0 ≤ x ∧ x ≤ 10 ^ 12) (val_var rfl) (by omega) (fun p hp => ?_) (fun p i H' hp hi I => ?_) (fun p H' hp I => ?_)
  · have s2 := same_new (o := .lst []) hp
    exact ⟨x1.trans (bx_of s2), g1.same s2, [], upd_same, rfl, fun x hx => (nomatch hx)⟩
  · obtain ⟨x2, g2, ns, e2, l2, b2⟩ := I
    have hpn : H p = none := x1.free g1 hp
    have hpa := g1.ne hp
    apply lcT_yes
    show tCall _ _ _ _ _ _ _
    have es : nv (s + 1) = .int ((s : Int) + 1) := congrArg V.int (by omega)
    refine c_pull (n := s + 1) (val_var rfl) (by rw [es]; exact v_add (val_var rfl) val_c) g2 (by omega) (by omega) fun k H3 hk x3 g3 => ?_
    show tCall _ _ _ _ _ _ _
    refine c_pull (n := 7) (val_var rfl) val_c g3 (by decide) (by decide) fun k2 H4 hk2 x4 g4 => ?_
    refine ⟨1, (k2 : Int), rfl, (k : Int), _, rfl, rfl, ?_, _, x4.sx _ _ (x3.sx _ _ e2 hpa.1) hpa.1, ?_, ?_⟩
    · have hb : (k : Int).natAbs < B1 := by
        rw [Int.natAbs_natCast]
        exact small_B1 (by omega)
      have hb2 : (if (k2 : Int) < 1 then (k2 : Int) else 1).natAbs < B1 := by
        refine small_B1 ?_
        split <;> omega
      exact mulB hb hb2
    · rw [List.length_map, l2]
      exact Nat.lt_of_lt_of_le hi (Nat.le_trans hm6 (by decide))
    · have tk5 : TK H4 (upd H4 p (.lst (ns.map V.int ++ [.int ((k : Int) * (if (k2 : Int) < 1 then (k2 : Int) else 1))]))) := tk_lst (x4.sx _ _ (x3.sx _ _ e2 hpa.1) hpa.1)
      refine ⟨((x2.trans x3).trans x4).put hpn tk5, g4.put hpa, ns ++ [(k : Int) * (if (k2 : Int) < 1 then (k2 : Int) else 1)], ?_, by rw [List.length_append, l2]; rfl, fun x hx => ?_⟩
      · rw [List.map_append]
        exact upd_same
      · rcases List.mem_append.mp hx with z | z
        · exact b2 x z
        · rw [List.mem_singleton.mp z]
          have hk : (k : Int) ≤ 10 ^ 12 := by omega
          split
          · have : (k2 : Int) = 0 := by omega
            rw [this, Int.mul_zero]
            exact ⟨by omega, by decide⟩
          · rw [Int.mul_one]
            exact ⟨by omega, hk⟩
  · obtain ⟨x2, g2, ns, e2, l2, b2⟩ := I
    exact q p ns H' (x1.free g1 hp) x2 g2 e2 l2 b2
theorem ok_Lworths {P : Program} {w : World} {K : PySem.W.Frag} {mg : Str → Option Value} {base : Heap} (T : Txt K mg) : Okf P w K mg base 2 "_law_worths" ["_law_bag_here", "_law_many_here"] (sp_Lworths K) := by
  obtain ⟨fd, F0⟩ := T.c.def_ 41 (d := d_Lworths) rfl
  have F : FnP K "_law_worths" s_Lworths (He.ga K "_law_worths") fd := F0
  have h_Lpull := ok_Lpull (P := P) (w := w) (base := base) T
  refine ⟨_, fd, F.ok sc_Lworths (fun vs H Q E h => ?_) (fun cdv A outer s H vs Q E hr h => ⟨t_Lworths K, PSs.nox ?_, pure_Lworths T vs H Q E h⟩), F.bindsN (fun _ _ _ _ _ _ us hl => match us, hl with | [_, _], _ => rfl), F.kp, T.glo 41 rfl⟩
  · obtain ⟨_, _, rfl, _⟩ := h
    rfl
  · exact (pss_cons (ps_set (i := 2) sc_Lworths.nd rfl (by first | exact Or.inl rfl | exact Or.inr rfl) (pe_ix ix_list (pe_lst (pa_cons pe_int (pa_cons pe_int (pa_cons pe_int (pa_cons (pe_op op_pow pe_int pe_int) (pa_cons (pe_op op_pow pe_int pe_int) pa_nil)))))) (pe_cf h_Lpull hr (by decide) rfl (pa_cons (pv 0) (pa_cons pe_int pa_nil))) (fun _ _ => rfl)))
  (pss_one (ps_ret (pe_lc (own := [("_law_fund", 3)]) (g := (gName 3)) (tt := tYes) rfl sc_Lworths.nd (pi_range1 (by rfl) (T.free 54 rfl) (pa_cons (pv 1) pa_nil)) (blkOk_by (own := [("_law_fund", 3)]) (N := N_Lworths) (sc := defScope s_Lworths) (by decide +kernel)) (fun _ _ _ _ _ => (pg_name (i := 3) sc_Lworths.nd rfl (by first | exact Or.inl rfl | exact Or.inr rfl))) (fun _ _ _ _ _ => pts_nil) (fun _ _ _ _ _ => (pe_op op_mulX (pe_cf h_Lpull hr (by decide) rfl (pa_cons (pv 0) (pa_cons (pe_op op_add (pv 2) pe_int) pa_nil))) (pe_callB (call_min2 rfl) (by rfl) (T.free 65 rfl) (by decide +kernel) (pa_cons pe_int (pa_cons (pe_cf h_Lpull hr (by decide) rfl (pa_cons (pv 0) (pa_cons pe_int pa_nil))) pa_nil)))))))))
def sp_Ldue (K : PySem.W.Frag) : Sp := fun vs H Q _ => ∃ v1 v2, vs = [v1, v2] ∧ ∃ a b s, v1 = .ref a ∧ v2 = nv s ∧ s ≤ 10 ^ 9 ∧ Bag H a b ∧ ∀ v (r : Rat) H', BX a H H' → Bag H' a b → isP K H' v r → 0 ≤ r → r ≤ ((10 ^ 9 : Nat) : Rat) → Iz r D0 → Q v H'
/-- slots: _law_bag_here 0, _law_scale 1 -/
abbrev N_Ldue : List Str := ["_law_bag_here", "_law_scale"]
theorem sc_Ldue : FnScope N_Ldue ["_law_bag_here", "_law_scale"] (defScope s_Ldue) := ⟨rfl, rfl, rfl, by decide +kernel, rfl, by decide +kernel, by decide +kernel⟩
def t_Ldue (K : PySem.W.Frag) : TS := tRet (tCall (sp_Llow K) [] E0 (tCons (tCall (sp_Lpull K) [] E0 (tCons (tVar 0) (tCons (tOp kAdd (tVar 1) (tC (.int 1))) tNil))) (tCons (tOp kAdd (tC (.int 1)) (tCall (sp_Lpull K) [] E0 (tCons (tVar 0) (tCons (tOp (rIxL K) (tLst (tCons (tC (.int 1)) (tCons (tC (.int 1)) (tCons (tC (.int 3)) (tCons (tC (.int 60)) tNil))))) (tCall (sp_Lpull K) [] E0 (tCons (tVar 0) (tCons (tC (.int 4)) tNil)))) tNil)))) tNil)))
theorem mk_bd {k d : Nat} (h : 0 < d) : 0 ≤ mkRat (k : Int) d ∧ mkRat (k : Int) d ≤ (k : Rat) := by
  have hd : ((d : Nat) : Rat) ≠ 0 := fun z => by
    have := Rat.natCast_eq_zero_iff.mp z
    omega
  have hd1 : (1 : Rat) ≤ (d : Rat) := by
    have := Rat.natCast_le_natCast.mpr (show 1 ≤ d from h)
    exact this
  have e : mkRat (k : Int) d * (d : Rat) = (k : Rat) := by
    rw [Rat.mkRat_eq_div, Rat.div_mul_cancel hd, Rat.intCast_natCast]
  have k0 := natV k
  have h0 : 0 ≤ mkRat (k : Int) d := by
    refine Rat.le_of_mul_le_mul_right (c := (d : Rat)) ?_ (by grind)
    rw [e]
    grind
  refine ⟨h0, ?_⟩
  have := Rat.mul_le_mul_of_nonneg_left hd1 h0
  grind
theorem pure_Ldue {K : PySem.W.Frag} {mg : Str → Option Value} (T : Txt K mg) (vs : List V) (H : Hp) (Q : VK) (E : XK) (h : sp_Ldue K vs H Q E) : t_Ldue K { nx := fun _ H' => Q .non H', rt := Q } (start N_Ldue vs) H := by
  obtain ⟨_, _, rfl, a, b, s, rfl, rfl, hs, g, q⟩ := h
  unfold t_Ldue
  apply s_retc
  apply c_call2c
  have es : nv (s + 1) = .int ((s : Int) + 1) := congrArg V.int (by omega)
  refine c_pull (n := s + 1) (val_var rfl) (by rw [es]; exact v_add (val_var rfl) val_c) g (by omega) (by omega) fun k H1 hk x1 g1 => ?_
  show tCall _ _ _ _ _ _ _
  apply c_call2c
  refine ⟨_, rfl, ?_⟩
  refine c_pick [nv 1, nv 1, nv 3, nv 60] (va_cons val_c (va_cons val_c (va_cons val_c (va_cons val_c va_nil)))) rfl (by show 0 < 4 ∧ 4 ≤ 1000; decide) (fun _ => val_var rfl) g1 fun v H2 hm x2 g2 => ?_
  have : ∃ n, 0 < n ∧ n ≤ 60 ∧ v = nv n := by
    simp only [List.mem_cons, List.not_mem_nil, or_false] at hm
    rcases hm with rfl | rfl | rfl | rfl
    · exact ⟨1, by decide, by decide, rfl⟩
    · exact ⟨1, by decide, by decide, rfl⟩
    · exact ⟨3, by decide, by decide, rfl⟩
    · exact ⟨60, by decide, by decide, rfl⟩
  obtain ⟨n, n0, n60, rfl⟩ := this
  refine ⟨_, _, rfl, a, b, n, rfl, rfl, g2, n0, small_B1 (by omega), fun k2 H3 hk2 x3 g3 => ?_⟩
  refine ⟨1, (k2 : Int), rfl, rfl, ?_⟩
  refine ⟨_, _, rfl, (k : Int), 1 + k2, rfl, congrArg V.int (by omega), by omega, Nat.lt_trans (small_B1 (by omega)) b12, fun v H4 s4 hv => ?_⟩
  obtain ⟨r1, r2⟩ := mk_bd (k := k) (d := 1 + k2) (by omega)
  have hk3 : ((k : Nat) : Rat) ≤ ((10 ^ 9 : Nat) : Rat) := Rat.natCast_le_natCast.mpr (by omega)
  exact q v _ H4 (((x1.trans x2).trans x3).trans (bx_of s4)) (g3.same s4) hv r1 (Rat.le_trans r2 hk3) (iz_mk (by omega) (by omega))
theorem ok_Ldue {P : Program} {w : World} {K : PySem.W.Frag} {mg : Str → Option Value} {base : Heap} (T : Txt K mg) : Okf P w K mg base 3 "_law_due" ["_law_bag_here", "_law_scale"] (sp_Ldue K) := by
  obtain ⟨fd, F0⟩ := T.c.def_ 42 (d := d_Ldue) rfl
  have F : FnP K "_law_due" s_Ldue (He.ga K "_law_due") fd := F0
  have h_Lpull := ok_Lpull (P := P) (w := w) (base := base) T
  have h_Llow := ok_Llow (P := P) (w := w) (base := base) T
  refine ⟨_, fd, F.ok sc_Ldue (fun vs H Q E h => ?_) (fun cdv A outer s H vs Q E hr h => ⟨t_Ldue K, PSs.nox ?_, pure_Ldue T vs H Q E h⟩), F.bindsN (fun _ _ _ _ _ _ us hl => match us, hl with | [_, _], _ => rfl), F.kp, T.glo 42 rfl⟩
  · obtain ⟨_, _, rfl, _⟩ := h
    rfl
  · exact (pss_one (ps_ret (pe_cf h_Llow hr (by decide) rfl (pa_cons (pe_cf h_Lpull hr (by decide) rfl (pa_cons (pv 0) (pa_cons (pe_op op_add (pv 1) pe_int) pa_nil))) (pa_cons (pe_op op_add pe_int (pe_cf h_Lpull hr (by decide) rfl (pa_cons (pv 0) (pa_cons (pe_ix ix_list (pe_lst (pa_cons pe_int (pa_cons pe_int (pa_cons pe_int (pa_cons pe_int pa_nil))))) (pe_cf h_Lpull hr (by decide) rfl (pa_cons (pv 0) (pa_cons pe_int pa_nil))) (fun _ _ => rfl)) pa_nil)))) pa_nil)))))
def sp_Lclaims (K : PySem.W.Frag) : Sp := fun vs H Q _ => ∃ v1 v2, vs = [v1, v2] ∧ ∃ a b m, v1 = .ref a ∧ v2 = nv m ∧ m ≤ 6 ∧ Bag H a b ∧ ∀ p ys (cs : List Cl) H', H p = none → BX a H H' → Bag H' a b → H' p = some (.lst ys) → All2 (isC K H') ys cs → cs.length ≤ 16 → (∀ c ∈ cs, ClOk m (10 ^ 9) c) → Q (.ref p) H'
/-- slots: _law_bag_here 0, _law_many_here 1, _law_scale 2, _law_ranks 3, _law_k 4, _law_found 5 -/
abbrev N_Lclaims : List Str := ["_law_bag_here", "_law_many_here", "_law_scale", "_law_ranks", "_law_k", "_law_found"]
theorem sc_Lclaims : FnScope N_Lclaims ["_law_bag_here", "_law_many_here"] (defScope s_Lclaims) := ⟨rfl, rfl, rfl, by decide +kernel, rfl, by decide +kernel, by decide +kernel⟩
def t_Lclaims (K : PySem.W.Frag) : TS := tSeq (tAsg (tOp (rIxL K) (tLst (tCons (tC (.int 12)) (tCons (tC (.int 3)) (tCons (tC (.int 100)) (tCons (tOp kPow (tC (.int 10)) (tC (.int 9))) tNil))))) (tCall (sp_Lpull K) [] E0 (tCons (tVar 0) (tCons (tC (.int 4)) tNil)))) (gName 2))
  (tSeq (tAsg (tLc (iRng1 (tCons (tOp (rIxL K) (tLst (tCons (tC (.int 1)) (tCons (tC (.int 2)) (tCons (tC (.int 3)) (tCons (tC (.int 16)) tNil))))) (tCall (sp_Lpull K) [] E0 (tCons (tVar 0) (tCons (tC (.int 4)) tNil)))) tNil)) (gName 4) tYes (tOp kSub (tCall (sp_Lpull K) [] E0 (tCons (tVar 0) (tCons (tC (.int 30)) tNil))) (tC (.int 9))) [4]) (gName 3))
  (tSeq (tAsg (tLst tNil) (gName 5))
  (tSeq (tFor (iRng1 (tCons (tOp (rIxL K) (tLst (tCons (tC (.int 4)) (tCons (tC (.int 3)) (tCons (tC (.int 5)) (tCons (tC (.int 2)) (tCons (tC (.int 1)) (tCons (tC (.int 6)) (tCons (tC (.int 8)) (tCons (tC (.int 0)) (tCons (tC (.int 11)) (tCons (tC (.int 16)) tNil))))))))))) (tCall (sp_Lpull K) [] E0 (tCons (tVar 0) (tCons (tC (.int 10)) tNil)))) tNil)) (gName 4)
  (tIfS (tAnd (tTest (tOp (rNeD K) (tVar 5) (tLst tNil))) (tTest (tOp rEq (tCall (sp_Lpull K) [] E0 (tCons (tVar 0) (tCons (tC (.int 7)) tNil))) (tC (.int 1)))))
  (tDrop (tBM K "list" rAppend (tVar 5) (tCons (tOp (rIxL K) (tVar 5) (tCall (sp_Lpull K) [] E0 (tCons (tVar 0) (tCons (tCB (kLen K) (tCons (tVar 5) tNil)) tNil)))) tNil)))
  (tDrop (tBM K "list" rAppend (tVar 5) (tCons (tTup (tCons (tCall (sp_Ldue K) [] E0 (tCons (tVar 0) (tCons (tVar 2) tNil))) (tCons (tCall (sp_Lheap K) [] E0 (tCons (tVar 0) (tCons (tVar 1) tNil))) (tCons (tOp (rIxL K) (tVar 3) (tCall (sp_Lpull K) [] E0 (tCons (tVar 0) (tCons (tCB (kLen K) (tCons (tVar 3) tNil)) tNil)))) tNil)))) tNil)))))
  (tRet (tVar 5)))))
theorem c_lcRc {σ : L2.St} {H : Hp} {ta te : TE} {tt : TT} {Q : VK} {j : Nat} (h : ta σ H fun x H1 => tLc (iRng1 (tCons (tC x) tNil)) (gName j) tt te [j] σ H1 Q) : tLc (iRng1 (tCons ta tNil)) (gName j) tt te [j] σ H Q := h
theorem q_forRc {σ : L2.St} {H : Hp} {ta : TE} {g : TG} {tbd u : TS} {D : Ends} (h : ta σ H fun x H1 => tSeq (tFor (iRng1 (tCons (tC x) tNil)) g tbd) u D σ H1) : tSeq (tFor (iRng1 (tCons ta tNil)) g tbd) u D σ H := h
theorem ClOk.snoc {m U : Nat} {cs : List Cl} {c : Cl} (h : ∀ c ∈ cs, ClOk m U c) (k : ClOk m U c) : ∀ d ∈ cs ++ [c], ClOk m U d := fun d hd => by
  rcases List.mem_append.mp hd with z | z
  · exact h d z
  · rw [List.mem_singleton.mp z]
    exact k
theorem pure_Lclaims {K : PySem.W.Frag} {mg : Str → Option Value} (T : Txt K mg) (vs : List V) (H : Hp) (Q : VK) (E : XK) (h : sp_Lclaims K vs H Q E) : t_Lclaims K { nx := fun _ H' => Q .non H', rt := Q } (start N_Lclaims vs) H := by
  obtain ⟨_, _, rfl, a, b, m, rfl, rfl, hm6, g, q⟩ := h
  unfold t_Lclaims
  apply q_asg
  refine c_pick [nv 12, nv 3, nv 100, nv 1000000000] (va_cons val_c (va_cons val_c (va_cons val_c (va_cons v_pow9 va_nil)))) rfl (by show 0 < 4 ∧ 4 ≤ 1000; decide) (fun _ => val_var rfl) g fun v H1 hm x1 g1 => ?_
  have : ∃ s, s ≤ 1000000000 ∧ v = nv s := by
    simp only [List.mem_cons, List.not_mem_nil, or_false] at hm
    rcases hm with rfl | rfl | rfl | rfl
    · exact ⟨12, by decide, rfl⟩
    · exact ⟨3, by decide, rfl⟩
    · exact ⟨100, by decide, rfl⟩
    · exact ⟨1000000000, by decide, rfl⟩
  obtain ⟨s, hs, rfl⟩ := this
  apply q_asg
  apply c_lcRc
  refine c_pick [nv 1, nv 2, nv 3, nv 16] (va_cons val_c (va_cons val_c (va_cons val_c (va_cons val_c va_nil)))) rfl (by show 0 < 4 ∧ 4 ≤ 1000; decide) (fun _ => val_var rfl) g1 fun v H2 hm x2 g2 => ?_
  have : ∃ n, 0 < n ∧ n ≤ 16 ∧ v = nv n := by
    simp only [List.mem_cons, List.not_mem_nil, or_false] at hm
    rcases hm with rfl | rfl | rfl | rfl
    · exact ⟨1, by decide, by decide, rfl⟩
    · exact ⟨2, by decide, by decide, rfl⟩
    · exact ⟨3, by decide, by decide, rfl⟩
    · exact ⟨16, by decide, by decide, rfl⟩
  obtain ⟨nr, nr0, nr16, rfl⟩ := this
  have x02 := x1.trans x2
  refine c_lcGR (n := nr) (fun p i H' => BX a H H' ∧ Bag H' a b ∧ ∃ rs : List Int, H' p = some (.lst (rs.map V.int)) ∧ rs.length = i) val_c (by omega) (fun p hp => ?_) (fun p i H' hp hi I => ?_) (fun rp H3 hrp2 I => ?_)
  · have s2 := same_new (o := .lst []) hp
    exact ⟨x02.trans (bx_of s2), g2.same s2, [], upd_same, rfl⟩
  · obtain ⟨x3, g3, rs, e3, l3⟩ := I
    have hpn : H p = none := x02.free g2 hp
    have hpa := g2.ne hp
    apply lcT_yes
    show tCall _ _ _ _ _ _ _
    refine c_pull (n := 30) (val_var rfl) val_c g3 (by decide) (by decide) fun k H4 hk x4 g4 => ?_
    have e4 := x4.sx _ _ e3 hpa.1
    refine ⟨(k : Int), 9, rfl, rfl, _, e4, ?_, (x3.trans x4).put hpn (tk_lst e4), g4.put hpa, rs ++ [(k : Int) - 9], ?_, by rw [List.length_append, l3]; rfl⟩
    · rw [List.length_map, l3]
      exact Nat.lt_of_lt_of_le hi (Nat.le_trans nr16 (by decide))
    · rw [List.map_append]
      exact upd_same
  obtain ⟨x3, g3, rs, er3, lr⟩ := I
  have hrp : H rp = none := x02.free g2 hrp2
  have hrpa := g.ne hrp
  apply q_asg
  apply c_lst0
  intro fp hfp2
  have hfp : H fp = none := x3.free g3 hfp2
  have hfpa := g.ne hfp
  have hfr : fp ≠ rp := fun z => by
    rw [z, er3] at hfp2
    cases hfp2
  have s4 := same_new (o := .lst []) hfp2
  have e4 : (upd H3 fp (.lst [])) fp = some (.lst []) := upd_same
  have er4 := s4 _ _ er3
  have g4 := g3.same s4
  have x4 := x3.trans (bx_of (a := a) s4)
  generalize upd H3 fp (.lst []) = H4 at s4 e4 er4 g4 x4 ⊢
  apply q_forRc
  refine c_pick [nv 4, nv 3, nv 5, nv 2, nv 1, nv 6, nv 8, nv 0, nv 11, nv 16] (va_cons val_c (va_cons val_c (va_cons val_c (va_cons val_c (va_cons val_c (va_cons val_c (va_cons val_c (va_cons val_c (va_cons val_c (va_cons val_c va_nil)))))))))) rfl (by show 0 < 10 ∧ 10 ≤ 1000; decide) (fun _ => val_var rfl) g4 fun v H5 hm x5 g5 => ?_
  have : ∃ n, n ≤ 16 ∧ v = nv n := by
    simp only [List.mem_cons, List.not_mem_nil, or_false] at hm
    rcases hm with rfl | rfl | rfl | rfl | rfl | rfl | rfl | rfl | rfl | rfl
    · exact ⟨4, by decide, rfl⟩
    · exact ⟨3, by decide, rfl⟩
    · exact ⟨5, by decide, rfl⟩
    · exact ⟨2, by decide, rfl⟩
    · exact ⟨1, by decide, rfl⟩
    · exact ⟨6, by decide, rfl⟩
    · exact ⟨8, by decide, rfl⟩
    · exact ⟨0, by decide, rfl⟩
    · exact ⟨11, by decide, rfl⟩
    · exact ⟨16, by decide, rfl⟩
  obtain ⟨nc, nc16, rfl⟩ := this
  let J : Nat → Hp → Prop := fun i H' => BX a H H' ∧ Bag H' a b ∧ H' rp = some (.lst (rs.map V.int)) ∧ ∃ (ys : List V) (cs : List Cl), H' fp = some (.lst ys) ∧ All2 (isC K H') ys cs ∧ cs.length = i ∧ ∀ c ∈ cs, ClOk m (10 ^ 9) c
  have Jput : ∀ {i : Nat} {H' : Hp} {ys : List V} {cs : List Cl} {v : V} {c : Cl}, BX a H H' → Bag H' a b → H' rp = some (.lst (rs.map V.int)) → H' fp = some (.lst ys) → All2 (isC K H') ys cs → cs.length = i → (∀ c ∈ cs, ClOk m (10 ^ 9) c) → isC K H' v c → ClOk m (10 ^ 9) c → J (i + 1) (upd H' fp (.lst (ys ++ [v]))) := by
    intro i H' ys cs v c x g er ef al hl ok hc hk
    have tk : TK H' (upd H' fp (.lst (ys ++ [v]))) := tk_lst ef
    refine ⟨x.put hfp tk, g.put hfpa, by rw [upd_ne hfr.symm]; exact er, _, cs ++ [c], upd_same, (al.mono fun v x z => z.mono tk).snoc (hc.mono tk), by rw [List.length_append, hl]; rfl, ClOk.snoc ok hk⟩
  have tkb : ∀ {H' H'' : Hp}, BX a H' H'' → TK H' H'' := fun x => x.tk
  refine q_forR (n := nc) (fun i σ H' => J i H' ∧ ∃ y : Option V, σ = [some (.ref a), some (nv m), some (nv s), some (.ref rp), y, some (.ref fp)]) val_c (by omega) ⟨⟨x4.trans x5, g5, x5.sx _ _ er4 hrpa.1, [], [], x5.sx _ _ e4 hfpa.1, All2.nil, rfl, fun c hc => (nomatch hc)⟩, _, rfl⟩ ?_ ?_
  · rintro i σ H6 hi ⟨⟨x6, g6, er6, ys, cs, ef6, al6, cl6, ok6⟩, y, rfl⟩
    -- a fresh claim
    have B : ∀ H7, Same H6 H7 ∨ BX a H6 H7 → Bag H7 a b → tDrop (tBM K "list" rAppend (tVar 5) (tCons (tTup (tCons (tCall (sp_Ldue K) [] E0 (tCons (tVar 0) (tCons (tVar 2) tNil))) (tCons (tCall (sp_Lheap K) [] E0 (tCons (tVar 0) (tCons (tVar 1) tNil))) (tCons (tOp (rIxL K) (tVar 3) (tCall (sp_Lpull K) [] E0 (tCons (tVar 0) (tCons (tCB (kLen K) (tCons (tVar 3) tNil)) tNil)))) tNil)))) tNil))
        { nx := fun σ H' => J (i + 1) H' ∧ ∃ y : Option V, σ = [some (.ref a), some (nv m), some (nv s), some (.ref rp), y, some (.ref fp)], rt := Q } [some (.ref a), some (nv m), some (nv s), some (.ref rp), some (nv i), some (.ref fp)] H7 := by
      intro H7 hx7 g7
      have x7 : BX a H6 H7 := hx7.elim bx_of id
      have ef7 := x7.sx _ _ ef6 hfpa.1
      have er7 := x7.sx _ _ er6 hrpa.1
      apply s_drop
      refine c_app (val_var rfl) (SqL.of ef7) ?_
      apply c_tup3c
      apply c_call2 (val_var rfl) (val_var rfl)
      refine ⟨_, _, rfl, a, b, s, rfl, rfl, by omega, g7, fun vd r H8 x8 g8 hvd r0 rU rz => ?_⟩
      apply c_call2 (val_var rfl) (val_var rfl)
      refine ⟨_, _, rfl, a, b, m, rfl, rfl, hm6, g8, fun vh h H9 x9 g9 hvh hnd hlt => ?_⟩
      have er9 := x9.sx _ _ (x8.sx _ _ er7 hrpa.1) hrpa.1
      have vlen : Val (tCB (kLen K) (tCons (tVar 3) tNil)) [some (.ref a), some (nv m), some (nv s), some (.ref rp), some (nv i), some (.ref fp)] H9 (nv nr) := by
        have := v_lenL (K := K) (ta := tVar 3) (σ := [some (.ref a), some (nv m), some (nv s), some (.ref rp), some (nv i), some (.ref fp)]) (val_var rfl) (SqL.of er9)
        rw [List.length_map, lr] at this
        exact this
      refine ⟨_, rfl, ?_⟩
      show tCall _ _ _ _ _ _ _
      refine c_pull (n := nr) (val_var rfl) vlen g9 nr0 (by omega) fun k HA hk xA gA => ?_
      have erA := xA.sx _ _ er9 hrpa.1
      refine ⟨rp, _, (k : Int), _, rfl, rfl, SqL.of erA, atI_nat (int_at (by rw [lr]; exact hk)), by show 3 ≤ sizeLine; decide, fun p hp => ?_⟩
      have sB := same_new (o := .tup [vd, vh, .int (rs.getD k 0)]) hp
      have eB : (upd HA p (.tup [vd, vh, .int (rs.getD k 0)])) p = some (.tup [vd, vh, .int (rs.getD k 0)]) := upd_same
      generalize upd HA p (.tup [vd, vh, .int (rs.getD k 0)]) = HB at sB eB ⊢
      have x7B : BX a H7 HB := ((x8.trans x9).trans xA).trans (bx_of sB)
      have x6B := x7.trans x7B
      have efB := x6B.sx _ _ ef6 hfpa.1
      have hx9 : TK H9 HB := xA.tk.trans (tk_of sB)
      refine app_in efB (by rw [al6.1, cl6]; omega) ?_
      refine ⟨Jput (c := ⟨r, h, rs.getD k 0⟩) (x6.trans x6B) (gA.same sB) (x6B.sx _ _ er6 hrpa.1) efB (al6.mono fun v x z => z.mono x6B.tk) cl6 ok6 ⟨p, vd, vh, rfl, SqT.of eB, hvd.mono (x9.tk.trans hx9), hvh.mono hx9⟩ ⟨r0, rU, rz, hnd, hlt⟩, _, rfl⟩
    apply s_ifc
    apply t_op
    refine (val_var rfl : Val (tVar 5) [some (.ref a), some (nv m), some (nv s), some (.ref rp), some (nv i), some (.ref fp)] H6 (.ref fp)) _ ?_
    apply c_lst0
    intro p7 hp7
    have s7 := same_new (o := .lst []) hp7
    have e7 : (upd H6 p7 (.lst [])) p7 = some (.lst []) := upd_same
    generalize upd H6 p7 (.lst []) = H7 at s7 e7 ⊢
    refine neD_nil (k := 2) (dp_LC ⟨fp, ys, rfl, SqL.of (s7 _ _ ef6), al6.mono fun v x z => z.mono (tk_of s7)⟩) sd_C (by decide) rfl (SqL.of e7) ⟨_, rfl, ?_⟩
    by_cases hne : cs = []
    · rw [decide_eq_true hne]
      exact iteF (iteF (B H7 (.inl s7) (g6.same s7)))
    · rw [decide_eq_false hne]
      refine iteT ?_
      apply t_op
      show tCall _ _ _ _ _ _ _
      refine c_pull (n := 7) (val_var rfl) val_c (g6.same s7) (by decide) (by decide) fun k H8 hk x8 g8 => ?_
      have x68 : BX a H6 H8 := (bx_of s7).trans x8
      refine ⟨rfl, _, rfl, ?_⟩
      cases decide (nv k = V.int 1) with
      | false => exact iteF (B H8 (.inr x68) g8)
      | true =>
        refine iteT ?_
        have ef8 := x68.sx _ _ ef6 hfpa.1
        have csl : 0 < cs.length := List.length_pos_iff.mpr hne
        apply s_drop
        refine c_app (val_var rfl) (SqL.of ef8) ?_
        have vlen : Val (tCB (kLen K) (tCons (tVar 5) tNil)) [some (.ref a), some (nv m), some (nv s), some (.ref rp), some (nv i), some (.ref fp)] H8 (nv cs.length) := by
          have := v_lenL (K := K) (ta := tVar 5) (σ := [some (.ref a), some (nv m), some (nv s), some (.ref rp), some (nv i), some (.ref fp)]) (val_var rfl) (SqL.of ef8)
          rw [al6.1] at this
          exact this
        refine ⟨_, rfl, ?_⟩
        show tCall _ _ _ _ _ _ _
        refine c_pull (n := cs.length) (val_var rfl) vlen g8 csl (by omega) fun k2 H9 hk2 x9 g9 => ?_
        have x69 := x68.trans x9
        have ef9 := x69.sx _ _ ef6 hfpa.1
        obtain ⟨cv, ecv, hcv⟩ := al6.get (List.getElem?_eq_getElem hk2)
        refine ⟨fp, ys, (k2 : Int), cv, rfl, rfl, SqL.of ef9, atI_nat ecv, app_in ef9 (by rw [al6.1, cl6]; omega) ?_⟩
        exact ⟨Jput (x6.trans x69) g9 (x69.sx _ _ er6 hrpa.1) ef9 (al6.mono fun v x z => z.mono x69.tk) cl6 ok6 (hcv.mono x69.tk) (ok6 _ (List.getElem_mem hk2)), _, rfl⟩
  · rintro σ H6 ⟨⟨x6, g6, er6, ys, cs, ef6, al6, cl6, ok6⟩, y, rfl⟩
    apply s_ret (val_var rfl)
    exact q fp ys cs H6 hfp x6 g6 ef6 al6 (by omega) ok6
theorem ok_Lclaims {P : Program} {w : World} {K : PySem.W.Frag} {mg : Str → Option Value} {base : Heap} (T : Txt K mg) : Okf P w K mg base 4 "_law_claims" ["_law_bag_here", "_law_many_here"] (sp_Lclaims K) := by
  obtain ⟨fd, F0⟩ := T.c.def_ 43 (d := d_Lclaims) rfl
  have F : FnP K "_law_claims" s_Lclaims (He.ga K "_law_claims") fd := F0
  have h_Lpull := ok_Lpull (P := P) (w := w) (base := base) T
  have h_Ldue := ok_Ldue (P := P) (w := w) (base := base) T
  have h_Lheap := ok_Lheap (P := P) (w := w) (base := base) T
  refine ⟨_, fd, F.ok sc_Lclaims (fun vs H Q E h => ?_) (fun cdv A outer s H vs Q E hr h => ⟨t_Lclaims K, PSs.nox ?_, pure_Lclaims T vs H Q E h⟩), F.bindsN (fun _ _ _ _ _ _ us hl => match us, hl with | [_, _], _ => rfl), F.kp, T.glo 43 rfl⟩
  · obtain ⟨_, _, rfl, _⟩ := h
    rfl
  · exact (pss_cons (ps_set (i := 2) sc_Lclaims.nd rfl (by first | exact Or.inl rfl | exact Or.inr rfl) (pe_ix ix_list (pe_lst (pa_cons pe_int (pa_cons pe_int (pa_cons pe_int (pa_cons (pe_op op_pow pe_int pe_int) pa_nil))))) (pe_cf h_Lpull hr (by decide) rfl (pa_cons (pv 0) (pa_cons pe_int pa_nil))) (fun _ _ => rfl)))
  (pss_cons (ps_setLc (i := 3) (own := [("_law_k", 4)]) (g := (gName 4)) (tt := tYes) rfl sc_Lclaims.nd rfl rfl (sw_true rfl rfl rfl (by decide +kernel)) (pi_range1 (by rfl) (T.free 54 rfl) (pa_cons (pe_ix ix_list (pe_lst (pa_cons pe_int (pa_cons pe_int (pa_cons pe_int (pa_cons pe_int pa_nil))))) (pe_cf h_Lpull hr (by decide) rfl (pa_cons (pv 0) (pa_cons pe_int pa_nil))) (fun _ _ => rfl)) pa_nil)) (blkOk_by (own := [("_law_k", 4)]) (N := N_Lclaims) (sc := defScope s_Lclaims) (by decide +kernel)) (fun _ _ _ _ _ => (pg_name (i := 4) sc_Lclaims.nd rfl (by first | exact Or.inl rfl | exact Or.inr rfl))) (fun _ _ _ _ _ => pts_nil) (fun _ _ _ _ _ => (pe_op op_sub (pe_cf h_Lpull hr (by decide) rfl (pa_cons (pv 0) (pa_cons pe_int pa_nil))) pe_int)))
  (pss_cons (ps_set (i := 5) sc_Lclaims.nd rfl (by first | exact Or.inl rfl | exact Or.inr rfl) (pe_lst pa_nil))
  (pss_cons (ps_for PassesOwn.never rfl (pi_range1 (by rfl) (T.free 54 rfl) (pa_cons (pe_ix ix_list (pe_lst (pa_cons pe_int (pa_cons pe_int (pa_cons pe_int (pa_cons pe_int (pa_cons pe_int (pa_cons pe_int (pa_cons pe_int (pa_cons pe_int (pa_cons pe_int (pa_cons pe_int pa_nil))))))))))) (pe_cf h_Lpull hr (by decide) rfl (pa_cons (pv 0) (pa_cons pe_int pa_nil))) (fun _ _ => rfl)) pa_nil)) (pg_name (i := 4) sc_Lclaims.nd rfl (by first | exact Or.inl rfl | exact Or.inr rfl))
  (pss_one (ps_if (PW.pt (pw_and (pt_cmpR (op_neD hr.units) (pv 5) (pe_lst pa_nil) (nomark _)) (pw_and1 (pt_cmpR op_eq (pe_cf h_Lpull hr (by decide) rfl (pa_cons (pv 0) (pa_cons pe_int pa_nil))) pe_int (nomark _)))))
  (pss_one (ps_expr (pe_bm PySem.F.plainAttrs_list PySem.F.slot_list_append PySem.F.type_list_append mt_append (pv 5) (pa_cons (pe_ix ix_list (pv 5) (pe_cf h_Lpull hr (by decide) rfl (pa_cons (pv 0) (pa_cons (pe_callB call_len_seq (by rfl) (T.free 57 rfl) PySem.boot_len (pa_cons (pv 5) pa_nil)) pa_nil))) (fun _ _ => rfl)) pa_nil))))
  (pss_one (ps_expr (pe_bm PySem.F.plainAttrs_list PySem.F.slot_list_append PySem.F.type_list_append mt_append (pv 5) (pa_cons (pe_tup (pa_cons (pe_cf h_Ldue hr (by decide) rfl (pa_cons (pv 0) (pa_cons (pv 2) pa_nil))) (pa_cons (pe_cf h_Lheap hr (by decide) rfl (pa_cons (pv 0) (pa_cons (pv 1) pa_nil))) (pa_cons (pe_ix ix_list (pv 3) (pe_cf h_Lpull hr (by decide) rfl (pa_cons (pv 0) (pa_cons (pe_callB call_len_seq (by rfl) (T.free 57 rfl) PySem.boot_len (pa_cons (pv 3) pa_nil)) pa_nil))) (fun _ _ => rfl)) pa_nil)))) pa_nil)))))))
  (pss_one (ps_ret (pv 5)))))))
def sp_Lceil (K : PySem.W.Frag) : Sp := fun vs H Q _ => ∃ v1, vs = [v1] ∧ ∃ q : Rat, isP K H v1 q ∧ Fit q ∧ Q (.int (-((-q.num) / (q.den : Int)))) H
/-- slots: _law_one 0 -/
abbrev N_Lceil : List Str := ["_law_one"]
theorem sc_Lceil : FnScope N_Lceil ["_law_one"] (defScope s_Lceil) := ⟨rfl, rfl, rfl, by decide +kernel, rfl, by decide +kernel, by decide +kernel⟩
def t_Lceil (K : PySem.W.Frag) : TS := tRet (tUn kNeg (tOp kDiv (tUn kNeg (tOp (rIxT K) (tVar 0) (tC (.int 0)))) (tOp (rIxT K) (tVar 0) (tC (.int 1)))))
theorem pure_Lceil {K : PySem.W.Frag} {mg : Str → Option Value} (T : Txt K mg) (vs : List V) (H : Hp) (Q : VK) (E : XK) (h : sp_Lceil K vs H Q E) : t_Lceil K { nx := fun _ H' => Q .non H', rt := Q } (start N_Lceil vs) H := by
  obtain ⟨_, rfl, r, hr, fr, q⟩ := h
  unfold t_Lceil
  have c1 : CDivW (-r.num) (r.den : Int) := divB r.den_pos (Nat.lt_trans fr.2 (by unfold B1 B2; exact Nat.pow_lt_pow_right (by decide) (by decide)))
  walk_at "ret"
  exact q
theorem ok_Lceil {P : Program} {w : World} {K : PySem.W.Frag} {mg : Str → Option Value} {base : Heap} (T : Txt K mg) : Okf P w K mg base 1 "_law_ceil" ["_law_one"] (sp_Lceil K) := by
  obtain ⟨fd, F0⟩ := T.c.def_ 44 (d := d_Lceil) rfl
  have F : FnP K "_law_ceil" s_Lceil (He.ga K "_law_ceil") fd := F0
  refine ⟨_, fd, F.ok sc_Lceil (fun vs H Q E h => ?_) (fun cdv A outer s H vs Q E hr h => ⟨t_Lceil K, PSs.nox ?_, pure_Lceil T vs H Q E h⟩), F.bindsN (fun _ _ _ _ _ _ us hl => match us, hl with | [_], _ => rfl), F.kp, T.glo 44 rfl⟩
  · obtain ⟨_, rfl, _⟩ := h
    rfl
  · exact (pss_one (ps_ret (pe_un un_neg (pe_op op_fdivW (pe_un un_neg (pe_ix ix_tup (pv 0) pe_int (fun _ _ => rfl))) (pe_ix ix_tup (pv 0) pe_int (fun _ _ => rfl))))))
/-- a case as the bag gives it, in the heap -/
def CaIn (K : PySem.W.Frag) (H0 H : Hp) (v1 v2 : V) (ws : List Int) (cs : List Cl) : Prop := CaOk ws cs ∧ ∃ p1 p2 ys, v1 = .ref p1 ∧ v2 = .ref p2 ∧ H0 p1 = none ∧ H0 p2 = none ∧ H p1 = some (.lst (ws.map V.int)) ∧ H p2 = some (.lst ys) ∧ All2 (isC K H) ys cs
def sp_Ltabled (K : PySem.W.Frag) : Sp := fun vs H Q _ => ∃ v1, vs = [v1] ∧ ∃ a b, v1 = .ref a ∧ Bag H a b ∧ ∀ t w1 w2 w3 w4 ws cs H', BX a H H' → Bag H' a b → SqT K H' t [w1, w2, w3, w4] → CaIn K H H' w1 w2 ws cs → Q (.ref t) H'
/-- slots: _law_bag_here 0, _law_many_here 1, _law_scale 2, _law_under 3, _law_claims_here 4, _law_rows 5, _law_claim 6, _law_row 7, _law_place 8, _law_more 9, _law_worths_here 10 -/
abbrev N_Ltabled : List Str := ["_law_bag_here", "_law_many_here", "_law_scale", "_law_under", "_law_claims_here", "_law_rows", "_law_claim", "_law_row", "_law_place", "_law_more", "_law_worths_here"]
theorem sc_Ltabled : FnScope N_Ltabled ["_law_bag_here"] (defScope s_Ltabled) := ⟨rfl, rfl, rfl, by decide +kernel, rfl, by decide +kernel, by decide +kernel⟩
def t_Ltabled (K : PySem.W.Frag) : TS := tSeq (tAsg (tCall (sp_Lmany K) [] E0 (tCons (tVar 0) tNil)) (gName 1))
  (tSeq (tAsg (tOp (rIxL K) (tLst (tCons (tC (.int 6)) (tCons (tC (.int 2)) (tCons (tC (.int 40)) (tCons (tOp kPow (tC (.int 10)) (tC (.int 9))) tNil))))) (tCall (sp_Lpull K) [] E0 (tCons (tVar 0) (tCons (tC (.int 4)) tNil)))) (gName 2))
  (tSeq (tAsg (tOp (rIxL K) (tLst (tCons (tC (.int 1)) (tCons (tC (.int 1)) (tCons (tC (.int 3)) (tCons (tC (.int 60)) tNil))))) (tCall (sp_Lpull K) [] E0 (tCons (tVar 0) (tCons (tC (.int 4)) tNil)))) (gName 3))
  (tSeq (tAsg (tLst tNil) (gName 4))
  (tSeq (tAsg (tLst tNil) (gName 5))
  (tSeq (tFor (iList K (tCall (sp_Lclaims K) [] E0 (tCons (tVar 0) (tCons (tVar 1) tNil)))) (gName 6)
  (tSeq (tAsg (tLc (iRng1 (tCons (tVar 1) tNil)) (gName 8) tYes (tTup (tCons (tC (.int 0)) (tCons (tC (.int 1)) tNil))) [8]) (gName 7))
  (tSeq (tFor (iTup K (tOp (rIxT K) (tVar 6) (tC (.int 1)))) (gName 8)
  (tAsg (tCall (sp_Llow K) [] E0 (tCons (tOp kMul (tCall (sp_Lpull K) [] E0 (tCons (tVar 0) (tCons (tOp kAdd (tVar 2) (tC (.int 1))) tNil))) (tCall (sp_Lpull K) [] E0 (tCons (tVar 0) (tCons (tC (.int 2)) tNil)))) (tCons (tOp kAdd (tC (.int 1)) (tCall (sp_Lpull K) [] E0 (tCons (tVar 0) (tCons (tVar 3) tNil)))) tNil))) (gSub (tVar 7) (tVar 8) rSetL)))
  (tSeq (tDrop (tBM K "list" rAppend (tVar 5) (tCons (tVar 7) tNil)))
  (tSeq (tAsg (tOp (rIxL K) (tLst (tCons (tTup (tCons (tC (.int 0)) (tCons (tC (.int 1)) tNil))) (tCons (tTup (tCons (tC (.int 0)) (tCons (tC (.int 1)) tNil))) (tCons (tOp (rIxT K) (tVar 6) (tC (.int 0))) tNil)))) (tCall (sp_Lpull K) [] E0 (tCons (tVar 0) (tCons (tC (.int 3)) tNil)))) (gName 9))
  (tDrop (tBM K "list" rAppend (tVar 4) (tCons (tTup (tCons (tCall (sp_Lplus K) [] E0 (tCons (tCall (sp_Lsum K) [] E0 (tCons (tVar 7) tNil)) (tCons (tVar 9) tNil))) (tCons (tOp (rIxT K) (tVar 6) (tC (.int 1))) (tCons (tOp (rIxT K) (tVar 6) (tC (.int 2))) tNil)))) tNil))))))))
  (tSeq (tAsg (tLst tNil) (gName 10))
  (tSeq (tFor (iRng1 (tCons (tVar 1) tNil)) (gName 8)
  (tDrop (tBM K "list" rAppend (tVar 10) (tCons (tOp kAdd (tCall (sp_Lceil K) [] E0 (tCons (tCall (sp_Lsum K) [] E0 (tCons (tLc (iList K (tVar 5)) (gName 7) tYes (tOp (rIxL K) (tVar 7) (tVar 8)) [7]) tNil)) tNil)) (tOp kMul (tCall (sp_Lpull K) [] E0 (tCons (tVar 0) (tCons (tC (.int 3)) tNil))) (tCall (sp_Lpull K) [] E0 (tCons (tVar 0) (tCons (tC (.int 2)) tNil))))) tNil))))
  (tRet (tTup (tCons (tVar 10) (tCons (tVar 4) (tCons (tLc (iList K (tVar 5)) (gName 7) tYes (tCall (sp_Lsum K) [] E0 (tCons (tVar 7) tNil)) [7]) (tCons (tVar 5) tNil)))))))))))))
/-- a part of no more than 10 ^ 9 -/
def isB (K : PySem.W.Frag) (H : Hp) (v : V) : Prop := ∃ q : Rat, isP K H v q ∧ 0 ≤ q ∧ q ≤ ((10 ^ 9 : Nat) : Rat) ∧ Iz q D0
theorem isB.mono {K : PySem.W.Frag} {H H' : Hp} {v : V} (t : TK H H') (h : isB K H v) : isB K H' v := let ⟨q, a, b⟩ := h; ⟨q, a.mono t, b⟩
theorem choose2 {α : Type} {R : V → α → Prop} : ∀ {ys : List V}, (∀ y ∈ ys, ∃ q, R y q) → ∃ qs, All2 R ys qs
  | [], _ => ⟨[], All2.nil⟩
  | y :: ys, h => by
    obtain ⟨q, hq⟩ := h y List.mem_cons_self
    obtain ⟨qs, hqs⟩ := choose2 (ys := ys) fun z hz => h z (List.mem_cons_of_mem _ hz)
    exact ⟨q :: qs, hqs.cons hq⟩
theorem bdD0 : Bd D0 (10 ^ 12) := by
  have h : D0 < 2 ^ 84 := by decide +kernel
  have h2 : 10 ^ 12 * D0 < 2 ^ 200 := by decide +kernel
  have p1 : (2 : Nat) ^ 84 ≤ B1 := Nat.pow_le_pow_right (by decide) (by decide)
  have p2 : (2 : Nat) ^ 200 ≤ B1 := Nat.pow_le_pow_right (by decide) (by decide)
  exact ⟨by decide +kernel, Nat.lt_of_lt_of_le h p1, Nat.lt_of_lt_of_le h2 p2⟩
theorem sum_bd {U : Nat} : ∀ {qs : List Rat}, (∀ q ∈ qs, 0 ≤ q ∧ q ≤ (U : Rat)) → 0 ≤ qs.sum ∧ qs.sum ≤ ((qs.length * U : Nat) : Rat)
  | [], _ => by
    rw [List.sum_nil, List.length_nil, Nat.zero_mul]
    exact ⟨Rat.le_refl, Rat.le_refl⟩
  | q :: qs, h => by
    obtain ⟨a, b⟩ := sum_bd (qs := qs) fun z hz => h z (List.mem_cons_of_mem _ hz)
    obtain ⟨c, d⟩ := h q List.mem_cons_self
    rw [List.sum_cons, List.length_cons, Nat.succ_mul, Rat.natCast_add]
    exact ⟨by grind, by grind⟩
theorem c_sumB {K : PySem.W.Frag} {H : Hp} {p : Addr} {ys : List V} {Q : VK} (hs : SqL K H p ys) (hl : ys.length ≤ 16) (hb : ∀ y ∈ ys, isB K H y) (q : ∀ v r H', Same H H' → isP K H' v r → 0 ≤ r → r ≤ ((ys.length * 10 ^ 9 : Nat) : Rat) → Iz r D0 → Fit r → Q v H') : sp_Lsum K [.ref p] H Q E0 := by
  obtain ⟨qs, al⟩ := choose2 hb
  have hq : ∀ x ∈ qs, 0 ≤ x ∧ x ≤ ((10 ^ 9 : Nat) : Rat) ∧ Iz x D0 := fun x hx => by
    obtain ⟨k, hk⟩ := List.getElem?_of_mem hx
    obtain ⟨v, _, r⟩ := al.get hk
    exact r.2
  have hlen : qs.length ≤ 16 := by rw [← al.1]; exact hl
  have fit : ∀ {l : List Rat}, (∀ x ∈ l, x ∈ qs) → l.length ≤ 16 → Fit l.sum := fun {l} hl h16 => by
    obtain ⟨a, b⟩ := sum_bd (U := 10 ^ 9) (qs := l) fun z hz => ⟨(hq z (hl z hz)).1, (hq z (hl z hz)).2.1⟩
    refine fit_nn bdD0 (Iz.sum fun x hx => (hq x (hl x hx)).2.2) a (Rat.le_trans b (Rat.natCast_le_natCast.mpr ?_))
    calc l.length * 10 ^ 9 ≤ 16 * 10 ^ 9 := Nat.mul_le_mul_right _ h16
      _ ≤ 10 ^ 12 := by decide
  obtain ⟨a, b⟩ := sum_bd (U := 10 ^ 9) (qs := qs) fun z hz => ⟨(hq z hz).1, (hq z hz).2.1⟩
  refine ⟨_, rfl, qs, ⟨p, ys, rfl, hs, al.mono fun v x r => r.1⟩, fun x hx => ?_, fun i => fit (fun x hx => List.mem_of_mem_take hx) (by rw [List.length_take]; omega), fun v H' s hv => q v _ H' s hv a (by rw [al.1]; exact b) (Iz.sum fun x hx => (hq x hx).2.2) (fit (fun x hx => hx) hlen)⟩
  have := fit (l := [x]) (fun y hy => by rw [List.mem_singleton.mp hy]; exact hx) (by show 1 ≤ 16; decide)
  rw [List.sum_cons, List.sum_nil, Rat.add_zero] at this
  exact this
theorem ceil_bd {q : Rat} {U : Nat} (h0 : 0 ≤ q) (h1 : q ≤ (U : Rat)) : 0 ≤ -((-q.num) / (q.den : Int)) ∧ -((-q.num) / (q.den : Int)) ≤ (U : Int) := by
  have hn : 0 ≤ q.num := Rat.num_nonneg.mpr h0
  have hd := q.den_pos
  have h2 := (Rat.le_iff _ _).mp h1
  have e3 : ((U : Rat)).num = (U : Int) := rfl
  have e4 : ((U : Rat)).den = 1 := rfl
  rw [e3, e4] at h2
  have h3 : -((U : Int) * (q.den : Int)) ≤ -q.num := by omega
  have hd' : (0 : Int) < (q.den : Int) := by omega
  have h4 : -(U : Int) ≤ (-q.num) / (q.den : Int) := by
    rw [Int.le_ediv_iff_mul_le hd', Int.neg_mul]
    exact h3
  have h5 : (-q.num) / (q.den : Int) ≤ 0 := by
    have := Int.ediv_le_ediv hd' (show -q.num ≤ 0 by omega)
    rwa [Int.zero_ediv] at this
  omega
theorem c_ixlst {K : PySem.W.Frag} {σ : L2.St} {H : Hp} {te ti : TE} {ts : TA} {Q : VK} (h : te σ H fun x H1 => ts σ H1 fun xs H2 => (x :: xs).length ≤ sizeLine ∧ ∀ p, H2 p = none → ti σ (upd H2 p (.lst (x :: xs))) fun y H3 => rIxL K (.ref p) y H3 Q) : tOp (rIxL K) (tLst (tCons te ts)) ti σ H Q := h
theorem c_consA {σ : L2.St} {H : Hp} {te : TE} {ts : TA} {Q : List V → Hp → Prop} (h : te σ H fun x H1 => ts σ H1 fun xs H2 => Q (x :: xs) H2) : tCons te ts σ H Q := h
/-- a row as it stands -/
def rwOk (K : PySem.W.Frag) (a rp cp : Addr) (m : Nat) (H : Hp) (v : V) : Prop := ∃ q ys, v = .ref q ∧ q ≠ a ∧ q ≠ rp ∧ q ≠ cp ∧ H q = some (.lst ys) ∧ ys.length = m ∧ ∀ y ∈ ys, isB K H y
theorem rwOk.mono {K : PySem.W.Frag} {a rp cp : Addr} {m : Nat} {H H' : Hp} {v : V} (h : rwOk K a rp cp m H v) (f : ∀ q o, H q = some o → q ≠ a → q ≠ rp → q ≠ cp → H' q = some o) (t : TK H H') : rwOk K a rp cp m H' v := by
  obtain ⟨q, ys, e, n1, n2, n3, h1, h2, h3⟩ := h
  exact ⟨q, ys, e, n1, n2, n3, f _ _ h1 n1 n2 n3, h2, fun y hy => (h3 y hy).mono t⟩
/-- the rows and the claims so far -/
structure TbJ (K : PySem.W.Frag) (H0 : Hp) (a b lp rp cp : Addr) (m : Nat) (ys : List V) (cs : List Cl) (i j : Nat) (H : Hp) : Prop where
  bx : BX a H0 H
  bag : Bag H a b
  lp : H lp = some (.lst ys)
  al : All2 (isC K H) ys cs
  rows : ∃ rv, H rp = some (.lst rv) ∧ rv.length = i ∧ ∀ v ∈ rv, rwOk K a rp cp m H v
  cls : ∃ cv cs', H cp = some (.lst cv) ∧ All2 (isC K H) cv cs' ∧ cs'.length = j ∧ ∀ c ∈ cs', ClOk m (10 ^ 11) c
theorem TbJ.mono {K : PySem.W.Frag} {H0 H H' : Hp} {a b lp rp cp : Addr} {m i j : Nat} {ys : List V} {cs : List Cl} (J : TbJ K H0 a b lp rp cp m ys cs i j H) (n1 : lp ≠ a) (n2 : rp ≠ a) (n3 : cp ≠ a) (x : BX a H H') (g : Bag H' a b) : TbJ K H0 a b lp rp cp m ys cs i j H' where
  bx := J.bx.trans x
  bag := g
  lp := x.sx _ _ J.lp n1
  al := J.al.mono fun v c z => z.mono x.tk
  rows := let ⟨rv, e, l, h⟩ := J.rows; ⟨rv, x.sx _ _ e n2, l, fun v hv => (h v hv).mono (fun q o e n _ _ => x.sx q o e n) x.tk⟩
  cls := let ⟨cv, cs', e, l, h⟩ := J.cls; ⟨cv, cs', x.sx _ _ e n3, l.mono fun v c z => z.mono x.tk, h⟩
theorem pure_Ltabled {K : PySem.W.Frag} {mg : Str → Option Value} (T : Txt K mg) (vs : List V) (H : Hp) (Q : VK) (E : XK) (h : sp_Ltabled K vs H Q E) : t_Ltabled K { nx := fun _ H' => Q .non H', rt := Q } (start N_Ltabled vs) H := by
  obtain ⟨_, rfl, a, b, rfl, g, q⟩ := h
  unfold t_Ltabled
  apply q_asg
  apply c_call1 (val_var rfl)
  refine ⟨_, rfl, a, b, rfl, g, fun m H1 hm6 x1 g1 => ?_⟩
  apply q_asg
  refine c_pick [nv 6, nv 2, nv 40, nv 1000000000] (va_cons val_c (va_cons val_c (va_cons val_c (va_cons v_pow9 va_nil)))) rfl (by show 0 < 4 ∧ 4 ≤ 1000; decide) (fun _ => val_var rfl) g1 fun v H2 hm x2 g2 => ?_
  have : ∃ s, s ≤ 1000000000 ∧ v = nv s := by
    simp only [List.mem_cons, List.not_mem_nil, or_false] at hm
    rcases hm with rfl | rfl | rfl | rfl
    · exact ⟨6, by decide, rfl⟩
    · exact ⟨2, by decide, rfl⟩
    · exact ⟨40, by decide, rfl⟩
    · exact ⟨1000000000, by decide, rfl⟩
  obtain ⟨s, hs, rfl⟩ := this
  apply q_asg
  refine c_pick [nv 1, nv 1, nv 3, nv 60] (va_cons val_c (va_cons val_c (va_cons val_c (va_cons val_c va_nil)))) rfl (by show 0 < 4 ∧ 4 ≤ 1000; decide) (fun _ => val_var rfl) g2 fun v H3 hm x3 g3 => ?_
  have : ∃ n, 0 < n ∧ n ≤ 60 ∧ v = nv n := by
    simp only [List.mem_cons, List.not_mem_nil, or_false] at hm
    rcases hm with rfl | rfl | rfl | rfl
    · exact ⟨1, by decide, by decide, rfl⟩
    · exact ⟨1, by decide, by decide, rfl⟩
    · exact ⟨3, by decide, by decide, rfl⟩
    · exact ⟨60, by decide, by decide, rfl⟩
  obtain ⟨un, un0, un60, rfl⟩ := this
  have x03 := (x1.trans x2).trans x3
  apply q_asg
  apply c_lst0
  intro cp hcp
  have s4 := same_new (o := .lst []) hcp
  have ec4 : (upd H3 cp (.lst [])) cp = some (.lst []) := upd_same
  have g4 := g3.same s4
  generalize upd H3 cp (.lst []) = H4 at s4 ec4 g4 ⊢
  apply q_asg
  apply c_lst0
  intro rp hrp
  have s5 := same_new (o := .lst []) hrp
  have er5 : (upd H4 rp (.lst [])) rp = some (.lst []) := upd_same
  have ec5 : (upd H4 rp (.lst [])) cp = some (.lst []) := s5 _ _ ec4
  have g5 := g4.same s5
  have hrc : rp ≠ cp := fun z => by
    rw [z, ec4] at hrp
    cases hrp
  generalize upd H4 rp (.lst []) = H5 at s5 er5 ec5 g5 ⊢
  have x05 : BX a H H5 := (x03.trans (bx_of s4)).trans (bx_of s5)
  have hcpn : H cp = none := x03.free g3 hcp
  have hrpn : H rp = none := (x03.trans (bx_of s4)).free g4 hrp
  have hcpa := g.ne hcpn
  have hrpa := g.ne hrpn
  apply q_forC
  apply c_call2 (val_var rfl) (val_var rfl)
  refine ⟨_, _, rfl, a, b, m, rfl, rfl, hm6, g5, fun lp ys cs H6 hlp x6 g6 e6 al6 cl6 ok6 => ?_⟩
  have hlpa := g5.ne hlp
  have hlr : lp ≠ rp := fun z => by
    rw [z, er5] at hlp
    cases hlp
  have hlc : lp ≠ cp := fun z => by
    rw [z, ec5] at hlp
    cases hlp
  have J0 : TbJ K H a b lp rp cp m ys cs 0 0 H6 := ⟨x05.trans x6, g6, e6, al6, ⟨[], x6.sx _ _ er5 hrpa.1, rfl, fun v hv => (nomatch hv)⟩, ⟨[], [], x6.sx _ _ ec5 hcpa.1, All2.nil, rfl, fun c hc => (nomatch hc)⟩⟩
  refine forG_inq (xs := ys) (fun i σ H' => TbJ K H a b lp rp cp m ys cs i i H' ∧ ∃ y6 y7 y8 y9 y10 : Option V, σ = [some (.ref a), some (nv m), some (nv s), some (nv un), some (.ref cp), some (.ref rp), y6, y7, y8, y9, y10]) (SqL.of e6) ⟨J0, _, _, _, _, _, rfl⟩ (fun i σ H' _ z => SqL.of z.1.lp) ?_ ?_
  · rintro i x σ H7 hx ⟨J7, y6, y7, y8, y9, y10, rfl⟩
    obtain ⟨c, hcc, hxc⟩ := J7.al.got hx
    obtain ⟨xa, xd, xt, rfl, hxT, hxd, hxt⟩ := id hxc
    have hi16 : i < 16 := by
      have := (List.getElem?_eq_some_iff.mp hcc).1
      omega
    have okc := ok6 c (List.mem_of_getElem? hcc)
    apply q_asg
    refine c_lcR (n := m) (fun _ => true) (fun k v H' => isP K H' v ((fun _ => 0) k)) hR_P (val_var rfl) (by omega) (fun i H' _ _ Q k => k) (fun k H8 hk s8 _ => ?_) ?_
    · intro Q' q'
      refine c_tup2 val_c val_c fun p5 hp5 => ?_
      exact q' _ _ (same_new hp5) (part_int upd_same)
    intro qp zv H8 hqp s8 e8 al8
    rw [kept_all] at al8
    have isB0 : ∀ y ∈ zv, isB K H8 y := fun y hy => by
      obtain ⟨k, hk⟩ := List.getElem?_of_mem hy
      obtain ⟨_, _, r⟩ := al8.got hk
      exact ⟨0, r, Rat.le_refl, natV _, Iz.zero D0⟩
    have zl : zv.length = m := by rw [al8.1, List.length_range]
    have hqpa := J7.bag.ne hqp
    have k78 := tk_of s8
    obtain ⟨ta, rfl, hta⟩ := id hxt
    have stab : ∀ {H'}, TK H7 H' → SqT K H' ta (c.tou.map nv) := fun k => k.sq hta
    refine q_forT (xs := c.tou.map nv) (fun j σ H' => BX a H7 H' ∧ Bag H' a b ∧ (∃ zs, H' qp = some (.lst zs) ∧ zs.length = m ∧ ∀ y ∈ zs, isB K H' y) ∧ ∃ y : Option V, σ = [some (.ref a), some (nv m), some (nv s), some (nv un), some (.ref cp), some (.ref rp), some (.ref xa), some (.ref qp), y, y9, y10])
      (v_ixT (j := 1) (val_var rfl) val_c (k78.sq hxT) rfl) (stab k78) ⟨bx_of s8, J7.bag.same s8, ⟨zv, e8, zl, isB0⟩, _, rfl⟩ (fun j σ H' _ z => stab z.1.tk) ?_ ?_
    · rintro j u σ H9 hu ⟨x9, g9, ⟨zs, e9, l9, b9⟩, y, rfl⟩
      obtain ⟨pl, hpl, rfl⟩ := map_at hu
      have hplm := okc.lt pl (List.mem_of_getElem? hpl)
      apply s_asgG
      show tCall _ _ _ _ _ _ _
      apply c_call2c
      show tCall _ _ _ _ _ _ _
      have es : nv (s + 1) = .int ((s : Int) + 1) := congrArg V.int (by omega)
      refine c_pull (n := s + 1) (val_var rfl) (by rw [es]; exact v_add (val_var rfl) val_c) g9 (by omega) (by omega) fun k1 HA hk1 xA gA => ?_
      refine c_pull (n := 2) (val_var rfl) val_c gA (by decide) (by decide) fun k2 HB hk2 xB gB => ?_
      have cm : CMulX (k1 : Int) (k2 : Int) := mulB (by rw [Int.natAbs_natCast]; exact small_B1 (by omega)) (by rw [Int.natAbs_natCast]; exact small_B1 (by omega))
      refine ⟨(k1 : Int), (k2 : Int), rfl, rfl, cm, ?_⟩
      show tCall _ _ _ _ _ _ _
      refine c_pull (n := un) (val_var rfl) (val_var rfl) gB un0 (by omega) fun k3 HC hk3 xC gC => ?_
      refine ⟨1, (k3 : Int), rfl, rfl, ?_⟩
      refine ⟨_, _, rfl, ((k1 * k2 : Nat) : Int), 1 + k3, congrArg V.int (by rw [Int.natCast_mul]), congrArg V.int (by omega), by omega, Nat.lt_trans (small_B1 (by omega)) b12, fun v HD sD hv => ?_⟩
      have x9D : BX a H9 HD := ((xA.trans xB).trans xC).trans (bx_of sD)
      have eD := x9D.sx _ _ e9 hqpa.1
      refine g_setL (val_var rfl) (val_var rfl) eD (by rw [l9]; exact hplm) ?_
      have kE : TK HD (upd HD qp (.lst (zs.set pl v))) := tk_lst eD
      refine ⟨(x9.trans x9D).put hqp kE, (gC.same sD).put hqpa, ⟨zs.set pl v, upd_same, by rw [List.length_set]; exact l9, fun y hy => ?_⟩, _, rfl⟩
      rcases List.mem_or_eq_of_mem_set hy with z | z
      · exact ((b9 y z).mono x9D.tk).mono kE
      · rw [z]
        obtain ⟨r1, r2⟩ := mk_bd (k := k1 * k2) (d := 1 + k3) (by omega)
        refine ⟨_, hv.mono kE, r1, Rat.le_trans r2 (Rat.natCast_le_natCast.mpr ?_), iz_mk (by omega) (by omega)⟩
        have : k1 * k2 ≤ 10 ^ 9 * 1 := Nat.mul_le_mul (by omega) (by omega)
        omega
    · rintro σ H9 ⟨x9, g9, ⟨zs, e9, l9, b9⟩, y, rfl⟩
      have J9 := J7.mono hlpa.1 hrpa.1 hcpa.1 x9 g9
      obtain ⟨rv, er9, rl9, rb9⟩ := J9.rows
      have hqr : qp ≠ rp := fun z => by
        obtain ⟨rv, e, _⟩ := J7.rows
        rw [z, e] at hqp
        cases hqp
      have hqc : qp ≠ cp := fun z => by
        obtain ⟨rv, _, e, _⟩ := J7.cls
        rw [z, e] at hqp
        cases hqp
      refine q_app (val_var rfl) (val_var rfl) er9 (by rw [rl9]; omega) ?_
      have kA : TK H9 (upd H9 rp (.lst (rv ++ [.ref qp]))) := tk_lst er9
      have JA : TbJ K H a b lp rp cp m ys cs (i + 1) i (upd H9 rp (.lst (rv ++ [.ref qp]))) := by
        obtain ⟨cv, cs', ec9, acl9, ccl9, cok9⟩ := J9.cls
        refine ⟨J9.bx.put hrpn kA, g9.put hrpa, by rw [upd_ne hlr]; exact J9.lp, J9.al.mono fun v c z => z.mono kA, ⟨_, upd_same, by rw [List.length_append, rl9]; rfl, fun v hv => ?_⟩, ⟨cv, cs', by rw [upd_ne hrc.symm]; exact ec9, acl9.mono fun v c z => z.mono kA, ccl9, cok9⟩⟩
        have up : ∀ q o, H9 q = some o → q ≠ a → q ≠ rp → q ≠ cp → (upd H9 rp (.lst (rv ++ [.ref qp]))) q = some o := fun q o e _ n _ => by
          rw [upd_ne n]
          exact e
        rcases List.mem_append.mp hv with z | z
        · exact (rb9 v z).mono up kA
        · rw [List.mem_singleton.mp z]
          exact rwOk.mono ⟨qp, zs, rfl, hqpa.1, hqr, hqc, e9, l9, b9⟩ up kA
      have eqA : (upd H9 rp (.lst (rv ++ [.ref qp]))) qp = some (.lst zs) := by
        rw [upd_ne hqr]
        exact e9
      have bA : ∀ y ∈ zs, isB K (upd H9 rp (.lst (rv ++ [.ref qp]))) y := fun y hy => (b9 y hy).mono kA
      have k7A : TK H7 (upd H9 rp (.lst (rv ++ [.ref qp]))) := x9.tk.trans kA
      generalize upd H9 rp (.lst (rv ++ [.ref qp])) = HA at JA eqA bA k7A ⊢
      apply q_asg
      apply c_ixlst
      refine c_tup2 val_c val_c fun p1 hp1 => ?_
      have sB := same_new (o := .tup [V.int 0, V.int 1]) hp1
      have hB1 : isP K (upd HA p1 (.tup [V.int 0, V.int 1])) (.ref p1) 0 := part_int upd_same
      generalize upd HA p1 (.tup [V.int 0, V.int 1]) = HB at sB hB1 ⊢
      apply c_consA
      refine c_tup2 val_c val_c fun p2 hp2 => ?_
      have sC := same_new (o := .tup [V.int 0, V.int 1]) hp2
      have hC2 : isP K (upd HB p2 (.tup [V.int 0, V.int 1])) (.ref p2) 0 := part_int upd_same
      generalize upd HB p2 (.tup [V.int 0, V.int 1]) = HC at sC hC2 ⊢
      have sAC := sB.trans sC
      have k7C := k7A.trans (tk_of sAC)
      apply c_consA
      apply (v_ixT (j := 0) (val_var rfl) val_c (k7C.sq hxT) rfl : Val _ [some (.ref a), some (nv m), some (nv s), some (nv un), some (.ref cp), some (.ref rp), some (.ref xa), some (.ref qp), y, y9, y10] HC xd)
      refine ⟨by show 3 ≤ sizeLine; decide, fun p3 hp3 => ?_⟩
      have sD := same_new (o := .lst [.ref p1, .ref p2, xd]) hp3
      have eD : (upd HC p3 (.lst [.ref p1, .ref p2, xd])) p3 = some (.lst [.ref p1, .ref p2, xd]) := upd_same
      generalize upd HC p3 (.lst [.ref p1, .ref p2, xd]) = HD at sD eD ⊢
      have sAD := sAC.trans sD
      have hp3a := (JA.bag.same sAC).ne hp3
      show tCall _ _ _ _ _ _ _
      refine c_pull (n := 3) (val_var rfl) val_c (JA.bag.same sAD) (by decide) (by decide) fun k HE hk xE gE => ?_
      have xAE : BX a HA HE := (bx_of sAD).trans xE
      have hmore : ∃ w, [V.ref p1, .ref p2, xd][k]? = some w ∧ isB K HE w := by
        have z1 : isB K HE (.ref p1) := ⟨0, hB1.mono ((tk_of (sC.trans sD)).trans xE.tk), Rat.le_refl, natV _, Iz.zero D0⟩
        have z2 : isB K HE (.ref p2) := ⟨0, hC2.mono ((tk_of sD).trans xE.tk), Rat.le_refl, natV _, Iz.zero D0⟩
        have z3 : isB K HE xd := ⟨c.due, hxd.mono (k7A.trans xAE.tk), okc.d0, okc.dU, okc.iz⟩
        match k, hk with
        | 0, _ => exact ⟨_, rfl, z1⟩
        | 1, _ => exact ⟨_, rfl, z2⟩
        | 2, _ => exact ⟨_, rfl, z3⟩
      obtain ⟨w, ew, hw⟩ := hmore
      refine ⟨p3, _, (k : Int), w, rfl, rfl, SqL.of (xE.sx _ _ eD hp3a.1), atI_nat ew, ?_⟩
      have JE := JA.mono hlpa.1 hrpa.1 hcpa.1 xAE gE
      have eqE := xAE.sx _ _ eqA hqpa.1
      have bE : ∀ y ∈ zs, isB K HE y := fun y hy => (bA y hy).mono xAE.tk
      obtain ⟨cv, cs', ecE, aclE, cclE, cokE⟩ := JE.cls
      apply s_drop
      refine c_app (val_var rfl) (SqL.of ecE) ?_
      apply c_tup3c
      apply c_call2c
      apply c_call1 (val_var rfl)
      refine c_sumB (SqL.of eqE) (by omega) bE fun vsum r HF sF hsum r0 rU rz rfit => ?_
      obtain ⟨mq, hmq, m0, mU, mz⟩ := hw
      refine ⟨_, rfl, ?_⟩
      have fm : Fit mq := fit_nn bdD0 mz m0 (Rat.le_trans mU (Rat.natCast_le_natCast.mpr (by decide)))
      refine ⟨_, _, rfl, r, mq, hsum, hmq.mono (tk_of sF), rfit, fm, fun vd HG sG hvd => ?_⟩
      have sEG := sF.trans sG
      have k7G : TK H7 HG := (k7A.trans xAE.tk).trans (tk_of sEG)
      apply (v_ixT (j := 1) (val_var rfl) val_c (k7G.sq hxT) rfl : Val _ [some (.ref a), some (nv m), some (nv s), some (nv un), some (.ref cp), some (.ref rp), some (.ref xa), some (.ref qp), y, some w, y10] HG (.ref ta))
      apply (v_ixT (j := 2) (val_var rfl) val_c (k7G.sq hxT) rfl : Val _ [some (.ref a), some (nv m), some (nv s), some (nv un), some (.ref cp), some (.ref rp), some (.ref xa), some (.ref qp), y, some w, y10] HG (.int c.rk))
      refine ⟨by show 3 ≤ sizeLine; decide, fun p9 hp9 => ?_⟩
      have sI := same_new (o := .tup [vd, .ref ta, .int c.rk]) hp9
      have eI : (upd HG p9 (.tup [vd, .ref ta, .int c.rk])) p9 = some (.tup [vd, .ref ta, .int c.rk]) := upd_same
      generalize upd HG p9 (.tup [vd, .ref ta, .int c.rk]) = HI at sI eI ⊢
      have sEI := sEG.trans sI
      have ecI := sEI _ _ ecE
      refine app_in ecI (by rw [aclE.1, cclE]; omega) ?_
      have JI := JE.mono hlpa.1 hrpa.1 hcpa.1 (bx_of sEI) (gE.same sEI)
      have kJ : TK HI (upd HI cp (.lst (cv ++ [.ref p9]))) := tk_lst ecI
      refine ⟨⟨JI.bx.put hcpn kJ, JI.bag.put hcpa, by rw [upd_ne hlc]; exact JI.lp, JI.al.mono fun v c z => z.mono kJ, ?_, ?_⟩, _, _, _, _, _, rfl⟩
      · obtain ⟨rv2, e2, l2, b2⟩ := JI.rows
        refine ⟨rv2, by rw [upd_ne hrc]; exact e2, l2, fun v hv => (b2 v hv).mono (fun q o e _ _ n => ?_) kJ⟩
        rw [upd_ne n]
        exact e
      · refine ⟨_, cs' ++ [⟨r + mq, c.tou, c.rk⟩], upd_same, ?_, by rw [List.length_append, cclE]; rfl, ClOk.snoc cokE ⟨?_, ?_, rz.add mz, okc.nd, okc.lt⟩⟩
        · refine (aclE.mono fun v c z => (z.mono (tk_of sEI)).mono kJ).snoc ?_
          exact isC.mono kJ ⟨p9, vd, .ref ta, rfl, SqT.of eI, hvd.mono (tk_of sI), hxt.mono (k7G.trans (tk_of sI))⟩
        · show 0 ≤ r + mq
          grind
        · show r + mq ≤ ((10 ^ 11 : Nat) : Rat)
          have h1 : r + mq ≤ ((zs.length * 10 ^ 9 : Nat) : Rat) + ((10 ^ 9 : Nat) : Rat) := by grind
          rw [← Rat.natCast_add] at h1
          refine Rat.le_trans h1 (Rat.natCast_le_natCast.mpr ?_)
          have : zs.length * 10 ^ 9 ≤ 6 * 10 ^ 9 := Nat.mul_le_mul_right _ (by omega)
          exact Nat.le_trans (Nat.add_le_add_right this _) (by decide)
  · rintro σ H7 ⟨J7, y6, y7, y8, y9, y10, rfl⟩
    obtain ⟨rv, er7, rl7, rb7⟩ := J7.rows
    obtain ⟨cv, cs', ec7, acl7, ccl7, cok7⟩ := J7.cls
    have len16 : ys.length ≤ 16 := by rw [al6.1]; exact cl6
    apply q_asg
    apply c_lst0
    intro wp hwp
    have s8 := same_new (o := .lst []) hwp
    have e8 : (upd H7 wp (.lst [])) wp = some (.lst []) := upd_same
    have g8 := J7.bag.same s8
    generalize upd H7 wp (.lst []) = H8 at s8 e8 g8 ⊢
    have hwpn : H wp = none := J7.bx.free J7.bag hwp
    have hwpa := J7.bag.ne hwp
    refine q_forR (n := m) (fun k σ H' => BX a H7 H' ∧ Bag H' a b ∧ (∃ ws : List Int, H' wp = some (.lst (ws.map V.int)) ∧ ws.length = k ∧ ∀ x ∈ ws, 0 ≤ x ∧ x ≤ 10 ^ 12) ∧ ∃ y : Option V, σ = [some (.ref a), some (nv m), some (nv s), some (nv un), some (.ref cp), some (.ref rp), y6, y7, y, y9, some (.ref wp)])
      (val_var rfl) (by omega) ⟨bx_of s8, g8, ⟨[], e8, rfl, fun x hx => (nomatch hx)⟩, _, rfl⟩ ?_ ?_
    · rintro k σ H9 hk ⟨x9, g9, ⟨ws, e9, l9, b9⟩, y, rfl⟩
      have J9 := J7.mono hlpa.1 hrpa.1 hcpa.1 x9 g9
      obtain ⟨rv, er9, rl9, rb9⟩ := J9.rows
      apply s_drop
      refine c_app (val_var rfl) (SqL.of e9) ?_
      show tCall _ _ _ _ _ _ _
      apply c_call1c
      apply c_call1c
      refine c_lcL (fun _ => true) (fun k v H' => isB K H' v) (fun k v H1 H2 t _ r => r.mono t) (val_var rfl) (SqL.of er9) (by rw [rl9]; omega) (fun k x H2 _ _ Q k => k) (fun k2 x HA hx sA _ => ?_) ?_
      · obtain ⟨qa, zs, rfl, _, _, _, ez, zl, zb⟩ := rb9 x (List.mem_of_getElem? hx)
        intro Q' q'
        have hkl : k < zs.length := by rw [zl]; exact hk
        apply (v_ixL (val_var rfl) (val_var rfl) (SqL.of (sA _ _ ez)) (List.getElem?_eq_getElem hkl) : Val (tOp (rIxL K) (tVar 7) (tVar 8)) ((wipe [some (.ref a), some (nv m), some (nv s), some (nv un), some (.ref cp), some (.ref rp), y6, y7, some (nv k), y9, some (.ref wp)] [7]).set 7 (some (.ref qa))) HA zs[k])
        exact q' _ _ (Same.refl _) ((zb _ (List.getElem_mem hkl)).mono (tk_of sA))
      intro pA zs HA hpA sA eA alA
      rw [kept_all, rl9] at alA
      have zl : zs.length = ys.length := by rw [alA.1, List.length_range]
      refine c_sumB (SqL.of eA) (by omega) (fun y hy => ?_) fun vsum r HB sB hsum r0 rU rz rfit => ?_
      · obtain ⟨k2, hk2⟩ := List.getElem?_of_mem hy
        obtain ⟨_, _, r⟩ := alA.got hk2
        exact r
      refine ⟨_, rfl, r, hsum, rfit, ?_⟩
      have sAB := sA.trans sB
      obtain ⟨c1, c2⟩ := ceil_bd r0 rU
      generalize -((-r.num) / (r.den : Int)) = ce at c1 c2 ⊢
      show tCall _ _ _ _ _ _ _
      refine c_pull (n := 3) (val_var rfl) val_c (g9.same sAB) (by decide) (by decide) fun k1 HC hk1 xC gC => ?_
      refine c_pull (n := 2) (val_var rfl) val_c gC (by decide) (by decide) fun k2 HD hk2 xD gD => ?_
      have cm : CMulX (k1 : Int) (k2 : Int) := mulB (by rw [Int.natAbs_natCast]; exact small_B1 (by omega)) (by rw [Int.natAbs_natCast]; exact small_B1 (by omega))
      refine ⟨(k1 : Int), (k2 : Int), rfl, rfl, cm, ce, _, rfl, rfl, ?_⟩
      have x9D : BX a H9 HD := ((bx_of sAB).trans xC).trans xD
      have eD := x9D.sx _ _ e9 hwpa.1
      refine app_in eD (by rw [List.length_map]; omega) ?_
      refine ⟨(x9.trans x9D).put hwp (tk_lst eD), gD.put hwpa, ⟨ws ++ [ce + (k1 : Int) * (k2 : Int)], ?_, by rw [List.length_append, l9]; rfl, fun x hx => ?_⟩, _, rfl⟩
      · rw [List.map_append]
        exact upd_same
      · rcases List.mem_append.mp hx with z | z
        · exact b9 x z
        · rw [List.mem_singleton.mp z]
          have hm1 : k1 * k2 ≤ 2 * 1 := Nat.mul_le_mul (by omega) (by omega)
          have hm2 : (k1 : Int) * (k2 : Int) = ((k1 * k2 : Nat) : Int) := by rw [Int.natCast_mul]
          have hm3 : zs.length * 10 ^ 9 ≤ 16 * 10 ^ 9 := Nat.mul_le_mul_right _ (by omega)
          rw [hm2]
          omega
    · rintro σ H9 ⟨x9, g9, ⟨ws, e9, l9, b9⟩, y, rfl⟩
      have J9 := J7.mono hlpa.1 hrpa.1 hcpa.1 x9 g9
      obtain ⟨rv, er9, rl9, rb9⟩ := J9.rows
      obtain ⟨cv, cs', ec9, acl9, ccl9, cok9⟩ := J9.cls
      apply s_retc
      refine ⟨_, rfl, _, rfl, ?_⟩
      refine c_lcL (fun _ => true) (fun k v H' => True) (fun k v H1 H2 t _ r => r) (val_var rfl) (SqL.of er9) (by rw [rl9]; omega) (fun k x H2 _ _ Q k => k) (fun k2 x HA hx sA _ => ?_) ?_
      · obtain ⟨qa, zs, rfl, _, _, _, ez, zl, zb⟩ := rb9 x (List.mem_of_getElem? hx)
        intro Q' q'
        apply c_call1 (val_var rfl)
        exact c_sumB (SqL.of (sA _ _ ez)) (by omega) (fun y hy => (zb y hy).mono (tk_of sA)) fun vsum r HB sB hsum r0 rU rz rfit => q' _ _ sB trivial
      intro pA zs HA hpA sA eA alA
      refine ⟨_, rfl, by show 4 ≤ sizeLine; decide, fun t ht => ?_⟩
      have sB := same_new (o := .tup [V.ref wp, V.ref cp, V.ref pA, V.ref rp]) ht
      have s9B := sA.trans sB
      refine q t _ _ _ _ ws cs' _ (J9.bx.trans (bx_of s9B)) (g9.same s9B) (SqT.of upd_same) ⟨⟨by omega, by omega, b9, by rw [l9]; exact cok9⟩, wp, cp, cv, rfl, rfl, hwpn, hcpn, s9B _ _ e9, s9B _ _ ec9, acl9.mono fun v c z => z.mono (tk_of s9B)⟩
theorem ok_Ltabled {P : Program} {w : World} {K : PySem.W.Frag} {mg : Str → Option Value} {base : Heap} (T : Txt K mg) : Okf P w K mg base 5 "_law_tabled" ["_law_bag_here"] (sp_Ltabled K) := by
  obtain ⟨fd, F0⟩ := T.c.def_ 45 (d := d_Ltabled) rfl
  have F : FnP K "_law_tabled" s_Ltabled (He.ga K "_law_tabled") fd := F0
  have h_Lmany := ok_Lmany (P := P) (w := w) (base := base) T
  have h_Lpull := ok_Lpull (P := P) (w := w) (base := base) T
  have h_Lclaims := ok_Lclaims (P := P) (w := w) (base := base) T
  have h_Llow := ok_Llow (P := P) (w := w) (base := base) T
  have h_Lsum := ok_Lsum (P := P) (w := w) (base := base) T
  have h_Lplus := ok_Lplus (P := P) (w := w) (base := base) T
  have h_Lceil := ok_Lceil (P := P) (w := w) (base := base) T
  refine ⟨_, fd, F.ok sc_Ltabled (fun vs H Q E h => ?_) (fun cdv A outer s H vs Q E hr h => ⟨t_Ltabled K, PSs.nox ?_, pure_Ltabled T vs H Q E h⟩), F.bindsN (fun _ _ _ _ _ _ us hl => match us, hl with | [_], _ => rfl), F.kp, T.glo 45 rfl⟩
  · obtain ⟨_, rfl, _⟩ := h
    rfl
  · exact (pss_cons (ps_set (i := 1) sc_Ltabled.nd rfl (by first | exact Or.inl rfl | exact Or.inr rfl) (pe_cf h_Lmany hr (by decide) rfl (pa_cons (pv 0) pa_nil)))
  (pss_cons (ps_set (i := 2) sc_Ltabled.nd rfl (by first | exact Or.inl rfl | exact Or.inr rfl) (pe_ix ix_list (pe_lst (pa_cons pe_int (pa_cons pe_int (pa_cons pe_int (pa_cons (pe_op op_pow pe_int pe_int) pa_nil))))) (pe_cf h_Lpull hr (by decide) rfl (pa_cons (pv 0) (pa_cons pe_int pa_nil))) (fun _ _ => rfl)))
  (pss_cons (ps_set (i := 3) sc_Ltabled.nd rfl (by first | exact Or.inl rfl | exact Or.inr rfl) (pe_ix ix_list (pe_lst (pa_cons pe_int (pa_cons pe_int (pa_cons pe_int (pa_cons pe_int pa_nil))))) (pe_cf h_Lpull hr (by decide) rfl (pa_cons (pv 0) (pa_cons pe_int pa_nil))) (fun _ _ => rfl)))
  (pss_cons (ps_set (i := 4) sc_Ltabled.nd rfl (by first | exact Or.inl rfl | exact Or.inr rfl) (pe_lst pa_nil))
  (pss_cons (ps_set (i := 5) sc_Ltabled.nd rfl (by first | exact Or.inl rfl | exact Or.inr rfl) (pe_lst pa_nil))
  (pss_cons (ps_for PassesOwn.never rfl (pi_list (pe_cf h_Lclaims hr (by decide) rfl (pa_cons (pv 0) (pa_cons (pv 1) pa_nil)))) (pg_name (i := 6) sc_Ltabled.nd rfl (by first | exact Or.inl rfl | exact Or.inr rfl))
  (pss_cons (ps_setLc (i := 7) (own := [("_law_place", 8)]) (g := (gName 8)) (tt := tYes) rfl sc_Ltabled.nd rfl rfl (sw_true rfl rfl rfl (by decide +kernel)) (pi_range1 (by rfl) (T.free 54 rfl) (pa_cons (pv 1) pa_nil)) (blkOk_by (own := [("_law_place", 8)]) (N := N_Ltabled) (sc := defScope s_Ltabled) (by decide +kernel)) (fun _ _ _ _ _ => (pg_name (i := 8) sc_Ltabled.nd rfl (by first | exact Or.inl rfl | exact Or.inr rfl))) (fun _ _ _ _ _ => pts_nil) (fun _ _ _ _ _ => (pe_tup (pa_cons pe_int (pa_cons pe_int pa_nil)))))
  (pss_cons (ps_for PassesOwn.never rfl (pi_tup (pe_ix ix_tup (pv 6) pe_int (fun _ _ => rfl))) (pg_name (i := 8) sc_Ltabled.nd rfl (by first | exact Or.inl rfl | exact Or.inr rfl))
  (pss_one (ps_asg (pe_cf h_Llow hr (by decide) rfl (pa_cons (pe_op op_mulX (pe_cf h_Lpull hr (by decide) rfl (pa_cons (pv 0) (pa_cons (pe_op op_add (pv 2) pe_int) pa_nil))) (pe_cf h_Lpull hr (by decide) rfl (pa_cons (pv 0) (pa_cons pe_int pa_nil)))) (pa_cons (pe_op op_add pe_int (pe_cf h_Lpull hr (by decide) rfl (pa_cons (pv 0) (pa_cons (pv 3) pa_nil)))) pa_nil))) (pg_sub (pv 7) (pv 8) set_list))))
  (pss_cons (ps_expr (pe_bm PySem.F.plainAttrs_list PySem.F.slot_list_append PySem.F.type_list_append mt_append (pv 5) (pa_cons (pv 7) pa_nil)))
  (pss_cons (ps_set (i := 9) sc_Ltabled.nd rfl (by first | exact Or.inl rfl | exact Or.inr rfl) (pe_ix ix_list (pe_lst (pa_cons (pe_tup (pa_cons pe_int (pa_cons pe_int pa_nil))) (pa_cons (pe_tup (pa_cons pe_int (pa_cons pe_int pa_nil))) (pa_cons (pe_ix ix_tup (pv 6) pe_int (fun _ _ => rfl)) pa_nil)))) (pe_cf h_Lpull hr (by decide) rfl (pa_cons (pv 0) (pa_cons pe_int pa_nil))) (fun _ _ => rfl)))
  (pss_one (ps_expr (pe_bm PySem.F.plainAttrs_list PySem.F.slot_list_append PySem.F.type_list_append mt_append (pv 4) (pa_cons (pe_tup (pa_cons (pe_cf h_Lplus hr (by decide) rfl (pa_cons (pe_cf h_Lsum hr (by decide) rfl (pa_cons (pv 7) pa_nil)) (pa_cons (pv 9) pa_nil))) (pa_cons (pe_ix ix_tup (pv 6) pe_int (fun _ _ => rfl)) (pa_cons (pe_ix ix_tup (pv 6) pe_int (fun _ _ => rfl)) pa_nil)))) pa_nil)))))))))
  (pss_cons (ps_set (i := 10) sc_Ltabled.nd rfl (by first | exact Or.inl rfl | exact Or.inr rfl) (pe_lst pa_nil))
  (pss_cons (ps_for PassesOwn.never rfl (pi_range1 (by rfl) (T.free 54 rfl) (pa_cons (pv 1) pa_nil)) (pg_name (i := 8) sc_Ltabled.nd rfl (by first | exact Or.inl rfl | exact Or.inr rfl))
  (pss_one (ps_expr (pe_bm PySem.F.plainAttrs_list PySem.F.slot_list_append PySem.F.type_list_append mt_append (pv 10) (pa_cons (pe_op op_add (pe_cf h_Lceil hr (by decide) rfl (pa_cons (pe_cf h_Lsum hr (by decide) rfl (pa_cons (pe_lc (own := [("_law_row", 7)]) (g := (gName 7)) (tt := tYes) rfl sc_Ltabled.nd (pi_list (pv 5)) (blkOk_by (own := [("_law_row", 7)]) (N := N_Ltabled) (sc := defScope s_Ltabled) (by decide +kernel)) (fun _ _ _ _ _ => (pg_name (i := 7) sc_Ltabled.nd rfl (by first | exact Or.inl rfl | exact Or.inr rfl))) (fun _ _ _ _ _ => pts_nil) (fun _ _ _ _ _ => (pe_ix ix_list (pv 7) (pv 8) (fun _ _ => rfl)))) pa_nil)) pa_nil)) (pe_op op_mulX (pe_cf h_Lpull hr (by decide) rfl (pa_cons (pv 0) (pa_cons pe_int pa_nil))) (pe_cf h_Lpull hr (by decide) rfl (pa_cons (pv 0) (pa_cons pe_int pa_nil))))) pa_nil)))))
  (pss_one (ps_ret (pe_tup (pa_cons (pv 10) (pa_cons (pv 4) (pa_cons (pe_lc (own := [("_law_row", 7)]) (g := (gName 7)) (tt := tYes) rfl sc_Ltabled.nd (pi_list (pv 5)) (blkOk_by (own := [("_law_row", 7)]) (N := N_Ltabled) (sc := defScope s_Ltabled) (by decide +kernel)) (fun _ _ _ _ _ => (pg_name (i := 7) sc_Ltabled.nd rfl (by first | exact Or.inl rfl | exact Or.inr rfl))) (fun _ _ _ _ _ => pts_nil) (fun _ _ _ _ _ => (pe_cf h_Lsum hr (by decide) rfl (pa_cons (pv 7) pa_nil)))) (pa_cons (pv 5) pa_nil)))))))))))))))
def sp_Lgood_row (K : PySem.W.Frag) : Sp := fun vs H Q _ => ∃ v1 v2 v3, vs = [v1, v2, v3] ∧ ∃ (c : Cl) (q : Rat) (rs : List Rat), isC K H v1 c ∧ isP K H v2 q ∧ isL K H (isP K H) v3 rs ∧ rs.length ≤ 6 ∧ rs.sum = q ∧ (∀ x ∈ rs, 0 ≤ x ∧ Fit x) ∧ (∀ i, Fit (rs.take i).sum) ∧ (∀ f, f < rs.length → pf rs f = 0 ∨ f ∈ c.tou) ∧ ∀ H', Same H H' → Q (.bl true) H'
/-- slots: _law_claim 0, _law_part 1, _law_row 2, _law_one 3, _law_place 4 -/
abbrev N_Lgood_row : List Str := ["_law_claim", "_law_part", "_law_row", "_law_one", "_law_place"]
theorem sc_Lgood_row : FnScope N_Lgood_row ["_law_claim", "_law_part", "_law_row"] (defScope s_Lgood_row) := ⟨rfl, rfl, rfl, by decide +kernel, rfl, by decide +kernel, by decide +kernel⟩
def t_Lgood_row (K : PySem.W.Frag) : TS := tSeq (tIfS (tOr (tTest (tOp (rNeD K) (tCall (sp_Lsum K) [] E0 (tCons (tVar 2) tNil)) (tVar 1))) (tNot (tB (tCB (rAll K) (tCons (tLc (iList K (tVar 2)) (gName 3) tYes (tOp kGe (tOp (rIxT K) (tVar 3) (tC (.int 0))) (tC (.int 0))) [3]) tNil)))))
  (tRet (tC (.bl false)))
  tNext)
  (tRet (tCB (rAll K) (tCons (tLc (iRng1 (tCons (tCB (kLen K) (tCons (tVar 2) tNil)) tNil)) (gName 4) tYes (tOrV (tOp (rEqD K) (tOp (rIxL K) (tVar 2) (tVar 4)) (tTup (tCons (tC (.int 0)) (tCons (tC (.int 1)) tNil)))) (tOp (rIn K false) (tVar 4) (tOp (rIxT K) (tVar 0) (tC (.int 1))))) [4]) tNil)))
theorem pure_Lgood_row {K : PySem.W.Frag} {mg : Str → Option Value} (T : Txt K mg) (vs : List V) (H : Hp) (Q : VK) (E : XK) (h : sp_Lgood_row K vs H Q E) : t_Lgood_row K { nx := fun _ H' => Q .non H', rt := Q } (start N_Lgood_row vs) H := by
  obtain ⟨v1, v2, v3, rfl, c, r, rs, hC, hP, hR, l6, hsum, hx, hfit, ht, q⟩ := h
  obtain ⟨ra, rv, rfl, hr, ral⟩ := id hR
  obtain ⟨ca, cd, ct, rfl, hcT, hcd, hct⟩ := id hC
  obtain ⟨ta, rfl, hta⟩ := id hct
  unfold t_Lgood_row
  apply q_ifc0
  apply t_orT
  apply c_call1 (val_var rfl)
  refine ⟨_, rfl, rs, hR, fun x h => (hx x h).2, hfit, fun v H1 s1 hv => ?_⟩
  apply (val_var rfl : Val (tVar 1) (start N_Lgood_row [.ref ca, v2, .ref ra]) H1 v2)
  rw [hsum] at hv
  refine neD_refl (dp_P hv) (dp_P (hP.mono (tk_of s1))) (sd_P r) (by decide) ⟨false, rfl, iteF ?_⟩
  apply t_notall
  refine c_lcL (fun _ => true) (fun k v _ => v = .bl true) hR_val (val_var rfl) (s1.seq hr) (by rw [ral.1]; omega) (fun k x H2 _ _ Q k => k) (fun k x H2 hk s2 _ => ?_) ?_
  · obtain ⟨y, hy, hyx⟩ := ral.got hk
    have h0 : 0 ≤ y.num := Rat.num_nonneg.mpr (hx y (List.mem_of_getElem? hy)).1
    have e : (.bl true : V) = .bl (decide (0 ≤ y.num)) := by rw [decide_eq_true h0]
    rw [e]
    exact EvR.val (v_ge (v_num (val_var rfl) (hyx.mono (tk_of (s1.trans s2)))) val_c)
  intro p2 ys2 H2 hp2 s2 e2 al2
  rw [kept_all] at al2
  refine c_all (R := fun _ _ => True) e2 al2 ⟨true, rfl, iteF ?_⟩
  have s02 := s1.trans s2
  apply s_retc
  apply c_cb1
  have vl : Val (tCB (kLen K) (tCons (tVar 2) tNil)) (start N_Lgood_row [.ref ca, v2, .ref ra]) H2 (.int (rs.length : Int)) := by
    have := v_lenL (K := K) (ta := tVar 2) (σ := start N_Lgood_row [.ref ca, v2, .ref ra]) (val_var rfl) (s02.seq hr)
    rwa [ral.1] at this
  refine c_lcR (n := rs.length) (fun _ => true) (fun k v _ => v = .bl true) hR_val vl (by omega) (fun k H3 _ _ Q k => k) (fun k H3 hk s3 _ => ?_) ?_
  · have s03 := s02.trans s3
    intro Q' q'
    obtain ⟨x, vx, hxp⟩ := v_elem (tr := tVar 2) (ti := tVar 4) (σ := (wipe (start N_Lgood_row [.ref ca, v2, .ref ra]) [4]).set 4 (some (nv k))) (i := k) (val_var rfl) (val_var rfl) (hR.monoP s03) hk
    apply t_orV
    apply vx
    refine c_tup2 val_c val_c fun p4 hp4 => ?_
    have s4 := same_new (o := .tup [V.int 0, V.int 1]) hp4
    have e4 : isP K (upd H3 p4 (.tup [V.int 0, V.int 1])) (.ref p4) 0 := part_int upd_same
    generalize upd H3 p4 (.tup [V.int 0, V.int 1]) = H4 at s4 e4 ⊢
    refine ⟨_, _, dp_part (hxp.mono (tk_of s4)), dp_part e4, shaped_part _ _, shaped_part _ _, ?_⟩
    rw [eqv_part, part_eq]
    refine ⟨_, rfl, ?_⟩
    by_cases e : pf rs k = 0
    · rw [decide_eq_true e]
      exact iteT (q' _ _ s4 rfl)
    · rw [decide_eq_false e]
      refine iteF ?_
      have hm := (ht k hk).resolve_left e
      have := (v_inT (K := K) (p := k) (h := c.tou) (ta := tVar 4) (tb := tOp (rIxT K) (tVar 0) (tC (.int 1))) (σ := (wipe (start N_Lgood_row [.ref ca, v2, .ref ra]) [4]).set 4 (some (nv k))) (H := H4) (val_var rfl) (v_ixT (j := 1) (val_var rfl) val_c ((tk_of (s03.trans s4)).sq hcT) rfl) ((tk_of (s03.trans s4)).sq hta))
      rw [decide_eq_true hm] at this
      exact this _ (q' _ _ s4 rfl)
  intro p3 ys3 H3 hp3 s3 e3 al3
  rw [kept_all] at al3
  exact c_all (R := fun _ _ => True) e3 al3 (q H3 (s02.trans s3))
theorem ok_Lgood_row {P : Program} {w : World} {K : PySem.W.Frag} {mg : Str → Option Value} {base : Heap} (T : Txt K mg) : Okf P w K mg base 5 "_law_good_row" ["_law_claim", "_law_part", "_law_row"] (sp_Lgood_row K) := by
  obtain ⟨fd, F0⟩ := T.c.def_ 46 (d := d_Lgood_row) rfl
  have F : FnP K "_law_good_row" s_Lgood_row (He.ga K "_law_good_row") fd := F0
  have h_Lsum := ok_Lsum (P := P) (w := w) (base := base) T
  refine ⟨_, fd, F.ok sc_Lgood_row (fun vs H Q E h => ?_) (fun cdv A outer s H vs Q E hr h => ⟨t_Lgood_row K, PSs.nox ?_, pure_Lgood_row T vs H Q E h⟩), F.bindsN (fun _ _ _ _ _ _ us hl => match us, hl with | [_, _, _], _ => rfl), F.kp, T.glo 46 rfl⟩
  · obtain ⟨_, _, _, rfl, _⟩ := h
    rfl
  · exact (pss_cons (ps_if (PW.pt (pw_or (pt_cmpR (op_neD hr.units) (pe_cf h_Lsum hr (by decide) rfl (pa_cons (pv 2) pa_nil)) (pv 1) (nomark _)) (pw_or1 (pt_not (pt_val (pe_callB (cr_all rfl) (by rfl) (T.free 64 rfl) (by decide +kernel) (pa_cons (pe_lc (own := [("_law_one", 3)]) (g := (gName 3)) (tt := tYes) rfl sc_Lgood_row.nd (pi_list (pv 2)) (blkOk_by (own := [("_law_one", 3)]) (N := N_Lgood_row) (sc := defScope s_Lgood_row) (by decide +kernel)) (fun _ _ _ _ _ => (pg_name (i := 3) sc_Lgood_row.nd rfl (by first | exact Or.inl rfl | exact Or.inr rfl))) (fun _ _ _ _ _ => pts_nil) (fun _ _ _ _ _ => (pe_cmpR op_ge (pe_ix ix_tup (pv 3) pe_int (fun _ _ => rfl)) pe_int (nomark _)))) pa_nil)))))))
  (pss_one (ps_ret pe_bl))
  pss_nil)
  (pss_one (ps_ret (pe_callB (cr_all rfl) (by rfl) (T.free 64 rfl) (by decide +kernel) (pa_cons (pe_lc (own := [("_law_place", 4)]) (g := (gName 4)) (tt := tYes) rfl sc_Lgood_row.nd (pi_range1 (by rfl) (T.free 54 rfl) (pa_cons (pe_callB call_len_seq (by rfl) (T.free 57 rfl) PySem.boot_len (pa_cons (pv 2) pa_nil)) pa_nil)) (blkOk_by (own := [("_law_place", 4)]) (N := N_Lgood_row) (sc := defScope s_Lgood_row) (by decide +kernel)) (fun _ _ _ _ _ => (pg_name (i := 4) sc_Lgood_row.nd rfl (by first | exact Or.inl rfl | exact Or.inr rfl))) (fun _ _ _ _ _ => pts_nil) (fun _ _ _ _ _ => (pe_or (pe_cmpR (op_eqD hr.units) (pe_ix ix_list (pv 2) (pv 4) (fun _ _ => rfl)) (pe_tup (pa_cons pe_int (pa_cons pe_int pa_nil))) (nomark _)) (pe_one (pe_cmpR op_in_seq (pv 4) (pe_ix ix_tup (pv 0) pe_int (fun _ _ => rfl)) (by rfl)))))) pa_nil)))))
def sp_Lgood_table (K : PySem.W.Frag) : Sp := fun vs H Q _ => ∃ v1 v2 v3 v4, vs = [v1, v2, v3, v4] ∧ ∃ (ws : List Int) (cs : List Cl) (ps : List Rat) (Rs : List (List Rat)) (zs : List Rat) (N V : Nat), isLI K H v1 ws ∧ isL K H (isC K H) v2 cs ∧ isL K H (isP K H) v3 ps ∧ isR K H v4 Rs ∧ RowOk ws cs ps N V ∧ Cel cs.length ws.length Rs zs ∧ (csOf ws cs).Tab (pf ps) (rt Rs) ∧ (∀ i f, i < cs.length → f < ws.length → Iz (rt Rs i f) N) ∧
  ∀ H', Same H H' → Q (.bl true) H'
/-- slots: _law_worths_here 0, _law_claims_here 1, _law_parts 2, _law_rows 3, _law_row 4, _law_at 5, _law_place 6 -/
abbrev N_Lgood_table : List Str := ["_law_worths_here", "_law_claims_here", "_law_parts", "_law_rows", "_law_row", "_law_at", "_law_place"]
theorem sc_Lgood_table : FnScope N_Lgood_table ["_law_worths_here", "_law_claims_here", "_law_parts", "_law_rows"] (defScope s_Lgood_table) := ⟨rfl, rfl, rfl, by decide +kernel, rfl, by decide +kernel, by decide +kernel⟩
def t_Lgood_table (K : PySem.W.Frag) : TS := tSeq (tIfS (tOr (tNot (tB (tCB (rIsi K) (tCons (tVar 3) (tCons (tC (.ty "list")) tNil))))) (tTest (tOp rNe (tCB (kLen K) (tCons (tVar 3) tNil)) (tCB (kLen K) (tCons (tVar 1) tNil)))))
  (tRet (tC (.bl false)))
  tNext)
  (tSeq (tIfS (tNot (tB (tCB (rAll K) (tCons (tLc (iList K (tVar 3)) (gName 4) tYes (tCall (sp_Lpairs K) [] E0 (tCons (tVar 4) (tCons (tCB (kLen K) (tCons (tVar 0) tNil)) tNil))) [4]) tNil))))
  (tRet (tC (.bl false)))
  tNext)
  (tSeq (tIfS (tNot (tB (tCB (rAll K) (tCons (tLc (iRng1 (tCons (tCB (kLen K) (tCons (tVar 1) tNil)) tNil)) (gName 5) tYes (tCall (sp_Lgood_row K) [] E0 (tCons (tOp (rIxL K) (tVar 1) (tVar 5)) (tCons (tOp (rIxL K) (tVar 2) (tVar 5)) (tCons (tOp (rIxL K) (tVar 3) (tVar 5)) tNil)))) [5]) tNil))))
  (tRet (tC (.bl false)))
  tNext)
  (tSeq (tFor (iRng1 (tCons (tCB (kLen K) (tCons (tVar 0) tNil)) tNil)) (gName 6)
  (tIfS (tB (tCall (sp_Lbelow K) [] E0 (tCons (tTup (tCons (tOp (rIxL K) (tVar 0) (tVar 6)) (tCons (tC (.int 1)) tNil))) (tCons (tCall (sp_Lsum K) [] E0 (tCons (tLc (iList K (tVar 3)) (gName 4) tYes (tOp (rIxL K) (tVar 4) (tVar 6)) [4]) tNil)) tNil))))
  (tRet (tC (.bl false)))
  tNext))
  (tRet (tC (.bl true))))))
theorem list_sum_sm (l : List Rat) : l.sum = sm l.length (pf l) := by
  have h := kept_sum (pf l) (fun _ => true) l.length
  rw [kept_all] at h
  have h2 := map_range_getD id l 0
  rw [List.map_id] at h2
  have h2 : (List.range l.length).map (pf l) = l := h2
  rw [h2] at h
  rw [h]
  exact sm_congr fun i _ => if_pos rfl
theorem mem_pf {l : List Rat} {x : Rat} (h : x ∈ l) : ∃ i, i < l.length ∧ x = pf l i := by
  obtain ⟨k, hk⟩ := List.getElem?_of_mem h
  exact ⟨k, (List.getElem?_eq_some_iff.mp hk).1, by unfold pf; rw [getD_of hk]⟩
/-- sums of a list of bounded parts fit -/
theorem fit_sums {l : List Rat} {N V : Nat} (b : Bd N V) (h0 : ∀ x ∈ l, 0 ≤ x) (hz : ∀ x ∈ l, Iz x N) (hs : l.sum ≤ (V : Rat)) : (∀ x ∈ l, Fit x) ∧ ∀ i, Fit (l.take i).sum := by
  refine ⟨fun x hx => ?_, fun i => fit_nn b (Iz.sum fun x hx => hz x (List.mem_of_mem_take hx)) (sum_take_ge h0).1 (Rat.le_trans (sum_take_ge h0).2 hs)⟩
  obtain ⟨i, hi, e⟩ := mem_pf hx
  refine fit_nn b (hz x hx) (h0 x hx) (Rat.le_trans ?_ hs)
  rw [e, list_sum_sm]
  refine sm_le_one hi fun k hk => h0 _ ?_
  unfold pf
  exact List.mem_of_getElem? (at_of_getD hk)
section
variable {ws : List Int} {cs : List Cl} {ps zs : List Rat} {Rs : List (List Rat)} {N V : Nat}
theorem row_sum (ce : Cel cs.length ws.length Rs zs) (t : (csOf ws cs).Tab (pf ps) (rt Rs)) {i : Nat} (hi : i < cs.length) : (Rs.getD i []).sum = pf ps i := by
  rw [list_sum_sm, ce.cl i hi]
  exact t.sum i hi
theorem row_mem (ce : Cel cs.length ws.length Rs zs) {i : Nat} (hi : i < cs.length) {x : Rat} (hx : x ∈ Rs.getD i []) : ∃ f, f < ws.length ∧ x = rt Rs i f := by
  obtain ⟨f, hf, e⟩ := mem_pf hx
  rw [ce.cl i hi] at hf
  exact ⟨f, hf, e⟩
theorem row_fits (r : RowOk ws cs ps N V) (ce : Cel cs.length ws.length Rs zs) (t : (csOf ws cs).Tab (pf ps) (rt Rs)) (hz : ∀ i f, i < cs.length → f < ws.length → Iz (rt Rs i f) N) {i : Nat} (hi : i < cs.length) : (∀ x ∈ Rs.getD i [], Fit x) ∧ ∀ k, Fit ((Rs.getD i []).take k).sum := by
  refine fit_sums r.bd (fun x hx => ?_) (fun x hx => ?_) ?_
  · obtain ⟨f, hf, e⟩ := row_mem ce hi hx
    rw [e]
    exact t.nn i f hi hf
  · obtain ⟨f, hf, e⟩ := row_mem ce hi hx
    rw [e]
    exact hz i f hi hf
  · rw [row_sum ce t hi]
    exact r.p_le hi
def colL (n : Nat) (Rs : List (List Rat)) (f : Nat) : List Rat := (List.range n).map fun i => rt Rs i f
theorem col_sum (n : Nat) (f : Nat) : (colL n Rs f).sum = sm n fun i => rt Rs i f := by
  have h := kept_sum (fun i => rt Rs i f) (fun _ => true) n
  rw [kept_all] at h
  unfold colL
  rw [h]
  exact sm_congr fun i _ => if_pos rfl
theorem w_le (r : RowOk ws cs ps N V) {f : Nat} (hf : f < ws.length) : (csOf ws cs).w f ≤ (V : Rat) := Rat.le_trans (sm_le_one (f := (csOf ws cs).w) (n := ws.length) hf r.ok.w0) r.sumW
theorem col_fits (r : RowOk ws cs ps N V) (t : (csOf ws cs).Tab (pf ps) (rt Rs)) (hz : ∀ i f, i < cs.length → f < ws.length → Iz (rt Rs i f) N) {f : Nat} (hf : f < ws.length) : (∀ x ∈ colL cs.length Rs f, Fit x) ∧ (∀ k, Fit ((colL cs.length Rs f).take k).sum) ∧ (colL cs.length Rs f).sum ≤ (csOf ws cs).w f := by
  have hs : (colL cs.length Rs f).sum ≤ (csOf ws cs).w f := by
    rw [col_sum]
    exact t.col f hf
  have hm : ∀ x ∈ colL cs.length Rs f, ∃ i, i < cs.length ∧ x = rt Rs i f := fun x hx => by
    obtain ⟨i, hi, e⟩ := List.mem_map.mp hx
    exact ⟨i, List.mem_range.mp hi, e.symm⟩
  obtain ⟨a, b⟩ := fit_sums r.bd (l := colL cs.length Rs f) (fun x hx => by
    obtain ⟨i, hi, e⟩ := hm x hx
    rw [e]
    exact t.nn i f hi hf) (fun x hx => by
    obtain ⟨i, hi, e⟩ := hm x hx
    rw [e]
    exact hz i f hi hf) (Rat.le_trans hs (w_le r hf))
  exact ⟨a, b, hs⟩
end
theorem pure_Lgood_table {K : PySem.W.Frag} {mg : Str → Option Value} (T : Txt K mg) (vs : List V) (H : Hp) (Q : VK) (E : XK) (h : sp_Lgood_table K vs H Q E) : t_Lgood_table K { nx := fun _ H' => Q .non H', rt := Q } (start N_Lgood_table vs) H := by
  obtain ⟨v1, v2, v3, v4, rfl, ws, cs, ps, Rs, zs, N, V, hW, hC, hP, hR, r, ce, t, hz, q⟩ := h
  obtain ⟨wa, rfl, hw⟩ := id hW
  obtain ⟨ca, cv, rfl, hc, cl⟩ := id hC
  obtain ⟨ra, rv, rfl, hr, ral⟩ := id hR
  have c16 := r.n16
  have m6 := r.m6
  have rl : rv.length = cs.length := by rw [ral.1, ce.rl]
  have vlc : ∀ {H' : Hp} {σ : L2.St}, Same H H' → σ[1]? = some (some (.ref ca)) → Val (tCB (kLen K) (tCons (tVar 1) tNil)) σ H' (nv cs.length) := fun s e => by
    have := v_lenL (K := K) (val_var e) (s.seq hc)
    rwa [cl.1] at this
  have vlw : ∀ {H' : Hp} {σ : L2.St}, Same H H' → σ[0]? = some (some (.ref wa)) → Val (tCB (kLen K) (tCons (tVar 0) tNil)) σ H' (nv ws.length) := fun s e => by
    have := v_lenL (K := K) (val_var e) (s.seq hw)
    rwa [List.length_map] at this
  unfold t_Lgood_table
  have a1 : Ans (tNot (tB (tCB (rIsi K) (tCons (tVar 3) (tCons (tC (.ty "list")) tNil))))) (start N_Lgood_table [.ref wa, .ref ca, v3, .ref ra]) H false := ans_not (b := true) (ans_val (v_isi (val_var rfl) (ty_lst hr)))
  have a2 := ans_vt (v_neI (v_lenL (K := K) (ta := tVar 3) (σ := start N_Lgood_table [.ref wa, .ref ca, v3, .ref ra]) (val_var rfl) hr) (vlc (Same.refl H) rfl))
  rw [rl, decide_eq_true rfl] at a2
  apply q_if0 (ans_or a1 a2)
  · intro z
    cases z
  intro _
  apply q_ifc0
  apply t_notall
  refine c_lcL (fun _ => true) (fun k v _ => v = .bl true) hR_val (val_var rfl) hr (by rw [rl]; omega) (fun k x H2 _ _ Q k => k) (fun k x H2 hk s2 _ => ?_) ?_
  · obtain ⟨y, hy, hyx⟩ := ral.got hk
    have hk2 : k < cs.length := by
      rw [← rl]
      exact (List.getElem?_eq_some_iff.mp hk).1
    have ylen : y.length = ws.length := by
      have := ce.cl k hk2
      rwa [getD_of hy] at this
    intro Q' q'
    apply c_call2 (val_var rfl) (vlw s2 rfl)
    exact ⟨_, _, rfl, y, hyx.monoP s2, by rw [ylen], by omega, fun H3 s3 => q' _ _ s3 rfl⟩
  intro p2 ys2 H2 hp2 s2 e2 al2
  rw [kept_all] at al2
  refine c_all (R := fun _ _ => True) e2 al2 ⟨true, rfl, iteF ?_⟩
  apply q_ifc0
  apply t_notall
  refine c_lcR (n := cs.length) (fun _ => true) (fun k v _ => v = .bl true) hR_val (vlc s2 rfl) (by omega) (fun k H3 _ _ Q k => k) (fun k H3 hk s3 _ => ?_) ?_
  · have s03 := s2.trans s3
    intro Q' q'
    obtain ⟨xa, xd, xt, vx, hxT, hxd, hxt⟩ := v_claim (tr := tVar 1) (ti := tVar 5) (σ := (wipe (start N_Lgood_table [.ref wa, .ref ca, v3, .ref ra]) [5]).set 5 (some (nv k))) (i := k) (val_var rfl) (val_var rfl) (hC.monoC s03) hk
    obtain ⟨px, vpx, hpx⟩ := v_elem (tr := tVar 2) (ti := tVar 5) (σ := (wipe (start N_Lgood_table [.ref wa, .ref ca, v3, .ref ra]) [5]).set 5 (some (nv k))) (i := k) (val_var rfl) (val_var rfl) (hP.monoP s03) (by rw [r.len]; exact hk)
    obtain ⟨rx, erx, hrx⟩ := ral.get (at_of_getD (d := []) (show k < Rs.length by rw [ce.rl]; exact hk))
    have vrx : Val (tOp (rIxL K) (tVar 3) (tVar 5)) ((wipe (start N_Lgood_table [.ref wa, .ref ca, v3, .ref ra]) [5]).set 5 (some (nv k))) H3 rx := v_ixL (val_var rfl) (val_var rfl) (s03.seq hr) erx
    obtain ⟨f1, f2⟩ := row_fits r ce t hz hk
    apply c_call3 vx vpx vrx
    refine ⟨_, _, _, rfl, cs.getD k dCl, pf ps k, Rs.getD k [], ⟨xa, xd, xt, rfl, hxT, hxd, hxt⟩, hpx, hrx.monoP s03, by rw [ce.cl k hk]; exact m6, row_sum ce t hk, fun x hx => ⟨?_, f1 x hx⟩, f2, fun f hf => ?_, fun H4 s4 => q' _ _ s4 rfl⟩
    · obtain ⟨f, hf, e⟩ := row_mem ce hk hx
      rw [e]
      exact t.nn k f hk hf
    · rw [ce.cl k hk] at hf
      by_cases e : f ∈ (cs.getD k dCl).tou
      · exact .inr e
      · exact .inl (t.zero k f hk hf e)
  intro p3 ys3 H3 hp3 s3 e3 al3
  rw [kept_all] at al3
  refine c_all (R := fun _ _ => True) e3 al3 ⟨true, rfl, iteF ?_⟩
  have s03 := s2.trans s3
  refine q_forR (n := ws.length) (fun i σ H' => Same H H' ∧ ∃ y : Option L2.V, σ = [some (.ref wa), some (.ref ca), some v3, some (.ref ra), none, none, y]) (vlw s03 rfl) (by omega) ⟨s03, _, rfl⟩ ?_ ?_
  · rintro f σ H4 hf ⟨s4, y, rfl⟩
    apply s_ifc
    apply t_B
    apply c_call2c
    refine c_tup2 (v_ixL (val_var rfl) (val_var rfl) (s4.seq hw) (int_at hf)) val_c fun p5 hp5 => ?_
    have s5 := same_new (o := .tup [L2.V.int (ws.getD f 0), L2.V.int 1]) hp5
    have e5 : isP K (upd H4 p5 (.tup [L2.V.int (ws.getD f 0), L2.V.int 1])) (.ref p5) ((csOf ws cs).w f) := part_int upd_same
    generalize upd H4 p5 (.tup [L2.V.int (ws.getD f 0), L2.V.int 1]) = H5 at s5 e5 ⊢
    have s05 := s4.trans s5
    apply c_call1c
    refine c_lcL (fun _ => true) (fun k v H' => isP K H' v (rt Rs k f)) hR_P (val_var rfl) (s05.seq hr) (by rw [rl]; omega) (fun k x H2 _ _ Q k => k) (fun k x H6 hk s6 _ => ?_) ?_
    · obtain ⟨y, hy, hyx⟩ := ral.got hk
      have hk2 : k < cs.length := by
        rw [← rl]
        exact (List.getElem?_eq_some_iff.mp hk).1
      have ylen : y.length = ws.length := by
        have := ce.cl k hk2
        rwa [getD_of hy] at this
      obtain ⟨z, vz, hzp⟩ := v_elem (tr := tVar 4) (ti := tVar 6) (σ := (wipe [some (.ref wa), some (.ref ca), some v3, some (.ref ra), none, none, some (nv f)] [4]).set 4 (some x)) (i := f) (val_var rfl) (val_var rfl) (hyx.monoP (s05.trans s6)) (by rw [ylen]; exact hf)
      intro Q' q'
      refine vz _ (q' _ _ (Same.refl _) ?_)
      show isP K H6 z (rt Rs k f)
      unfold rt
      rw [getD_of hy]
      exact hzp
    intro p6 ys6 H6 hp6 s6 e6 al6
    rw [kept_all, rl] at al6
    have alc : All2 (isP K H6) ys6 (colL cs.length Rs f) := by
      refine ⟨by rw [al6.1]; unfold colL; rw [List.length_map], fun k v x h1 h2 => ?_⟩
      unfold colL at h2
      rw [List.getElem?_map] at h2
      obtain ⟨j, hj, rfl⟩ := Option.map_eq_some_iff.mp h2
      have := al6.2 k v j h1 hj
      exact this
    obtain ⟨f1, f2, f3⟩ := col_fits r t hz hf
    refine ⟨_, rfl, colL cs.length Rs f, ⟨p6, ys6, rfl, SqL.of e6, alc⟩, f1, f2, fun v7 H7 s7 hv7 => ?_⟩
    have fw : Fit ((csOf ws cs).w f) := fit_nn r.bd (Iz.int (ws.getD f 0) N) (r.ok.w0 f hf) (w_le r hf)
    have fs : Fit (colL cs.length Rs f).sum := by
      have := f2 (colL cs.length Rs f).length
      rwa [List.take_length] at this
    refine ⟨_, _, rfl, _, _, e5.mono (tk_of (s6.trans s7)), hv7, fw, fs, ?_⟩
    have hle : ¬ ((csOf ws cs).w f < (colL cs.length Rs f).sum) := fun z => by grind
    rw [decide_eq_false hle]
    exact ⟨false, rfl, iteF ⟨(s05.trans s6).trans s7, _, rfl⟩⟩
  · rintro σ H4 ⟨s4, y, rfl⟩
    apply s_ret val_c
    exact q H4 s4
theorem ok_Lgood_table {P : Program} {w : World} {K : PySem.W.Frag} {mg : Str → Option Value} {base : Heap} (T : Txt K mg) : Okf P w K mg base 6 "_law_good_table" ["_law_worths_here", "_law_claims_here", "_law_parts", "_law_rows"] (sp_Lgood_table K) := by
  obtain ⟨fd, F0⟩ := T.c.def_ 47 (d := d_Lgood_table) rfl
  have F : FnP K "_law_good_table" s_Lgood_table (He.ga K "_law_good_table") fd := F0
  have h_Lpairs := ok_Lpairs (P := P) (w := w) (base := base) T
  have h_Lgood_row := ok_Lgood_row (P := P) (w := w) (base := base) T
  have h_Lsum := ok_Lsum (P := P) (w := w) (base := base) T
  have h_Lbelow := ok_Lbelow (P := P) (w := w) (base := base) T
  refine ⟨_, fd, F.ok sc_Lgood_table (fun vs H Q E h => ?_) (fun cdv A outer s H vs Q E hr h => ⟨t_Lgood_table K, PSs.nox ?_, pure_Lgood_table T vs H Q E h⟩), F.bindsN (fun _ _ _ _ _ _ us hl => match us, hl with | [_, _, _, _], _ => rfl), F.kp, T.glo 47 rfl⟩
  · obtain ⟨_, _, _, _, rfl, _⟩ := h
    rfl
  · exact (pss_cons (ps_if (PW.pt (pw_or (pt_not (pt_val (pe_callB call_isi (by rfl) (T.free 60 rfl) (by decide +kernel) (pa_cons (pv 3) (pa_cons (pe_bltn (v := .ty "list") rfl (T.free 59 rfl) (by decide +kernel) rfl) pa_nil))))) (pw_or1 (pt_cmpR op_ne (pe_callB call_len_seq (by rfl) (T.free 57 rfl) PySem.boot_len (pa_cons (pv 3) pa_nil)) (pe_callB call_len_seq (by rfl) (T.free 57 rfl) PySem.boot_len (pa_cons (pv 1) pa_nil)) (nomark _)))))
  (pss_one (ps_ret pe_bl))
  pss_nil)
  (pss_cons (ps_if (pt_not (pt_val (pe_callB (cr_all rfl) (by rfl) (T.free 64 rfl) (by decide +kernel) (pa_cons (pe_lc (own := [("_law_row", 4)]) (g := (gName 4)) (tt := tYes) rfl sc_Lgood_table.nd (pi_list (pv 3)) (blkOk_by (own := [("_law_row", 4)]) (N := N_Lgood_table) (sc := defScope s_Lgood_table) (by decide +kernel)) (fun _ _ _ _ _ => (pg_name (i := 4) sc_Lgood_table.nd rfl (by first | exact Or.inl rfl | exact Or.inr rfl))) (fun _ _ _ _ _ => pts_nil) (fun _ _ _ _ _ => (pe_cf h_Lpairs hr (by decide) rfl (pa_cons (pv 4) (pa_cons (pe_callB call_len_seq (by rfl) (T.free 57 rfl) PySem.boot_len (pa_cons (pv 0) pa_nil)) pa_nil))))) pa_nil))))
  (pss_one (ps_ret pe_bl))
  pss_nil)
  (pss_cons (ps_if (pt_not (pt_val (pe_callB (cr_all rfl) (by rfl) (T.free 64 rfl) (by decide +kernel) (pa_cons (pe_lc (own := [("_law_at", 5)]) (g := (gName 5)) (tt := tYes) rfl sc_Lgood_table.nd (pi_range1 (by rfl) (T.free 54 rfl) (pa_cons (pe_callB call_len_seq (by rfl) (T.free 57 rfl) PySem.boot_len (pa_cons (pv 1) pa_nil)) pa_nil)) (blkOk_by (own := [("_law_at", 5)]) (N := N_Lgood_table) (sc := defScope s_Lgood_table) (by decide +kernel)) (fun _ _ _ _ _ => (pg_name (i := 5) sc_Lgood_table.nd rfl (by first | exact Or.inl rfl | exact Or.inr rfl))) (fun _ _ _ _ _ => pts_nil) (fun _ _ _ _ _ => (pe_cf h_Lgood_row hr (by decide) rfl (pa_cons (pe_ix ix_list (pv 1) (pv 5) (fun _ _ => rfl)) (pa_cons (pe_ix ix_list (pv 2) (pv 5) (fun _ _ => rfl)) (pa_cons (pe_ix ix_list (pv 3) (pv 5) (fun _ _ => rfl)) pa_nil)))))) pa_nil))))
  (pss_one (ps_ret pe_bl))
  pss_nil)
  (pss_cons (ps_for PassesOwn.never rfl (pi_range1 (by rfl) (T.free 54 rfl) (pa_cons (pe_callB call_len_seq (by rfl) (T.free 57 rfl) PySem.boot_len (pa_cons (pv 0) pa_nil)) pa_nil)) (pg_name (i := 6) sc_Lgood_table.nd rfl (by first | exact Or.inl rfl | exact Or.inr rfl))
  (pss_one (ps_if (pt_val (pe_cf h_Lbelow hr (by decide) rfl (pa_cons (pe_tup (pa_cons (pe_ix ix_list (pv 0) (pv 6) (fun _ _ => rfl)) (pa_cons pe_int pa_nil))) (pa_cons (pe_cf h_Lsum hr (by decide) rfl (pa_cons (pe_lc (own := [("_law_row", 4)]) (g := (gName 4)) (tt := tYes) rfl sc_Lgood_table.nd (pi_list (pv 3)) (blkOk_by (own := [("_law_row", 4)]) (N := N_Lgood_table) (sc := defScope s_Lgood_table) (by decide +kernel)) (fun _ _ _ _ _ => (pg_name (i := 4) sc_Lgood_table.nd rfl (by first | exact Or.inl rfl | exact Or.inr rfl))) (fun _ _ _ _ _ => pts_nil) (fun _ _ _ _ _ => (pe_ix ix_list (pv 4) (pv 6) (fun _ _ => rfl)))) pa_nil)) pa_nil))))
  (pss_one (ps_ret pe_bl))
  pss_nil)))
  (pss_one (ps_ret pe_bl))))))
def sp_Lcase (K : PySem.W.Frag) : Sp := fun vs H Q _ => ∃ v1, vs = [v1] ∧ ∃ a b, v1 = .ref a ∧ Bag H a b ∧ ∀ t w1 w2 ws cs H', BX a H H' → Bag H' a b → SqT K H' t [w1, w2] → CaIn K H H' w1 w2 ws cs → Q (.ref t) H'
/-- slots: _law_bag_here 0, _law_worths_here 1, _law_claims_here 2, _law_parts 3, _law_rows 4, _law_many_here 5 -/
abbrev N_Lcase : List Str := ["_law_bag_here", "_law_worths_here", "_law_claims_here", "_law_parts", "_law_rows", "_law_many_here"]
theorem sc_Lcase : FnScope N_Lcase ["_law_bag_here"] (defScope s_Lcase) := ⟨rfl, rfl, rfl, by decide +kernel, rfl, by decide +kernel, by decide +kernel⟩
def t_Lcase (K : PySem.W.Frag) : TS := tSeq (tIfS (tTest (tOp rEq (tCall (sp_Lpull K) [] E0 (tCons (tVar 0) (tCons (tC (.int 2)) tNil))) (tC (.int 0))))
  (tSeq (tAsg (tCall (sp_Ltabled K) [] E0 (tCons (tVar 0) tNil)) (gTup K 4 (gCons (gName 1) (gCons (gName 2) (gCons (gName 3) (gCons (gName 4) gNil))))))
  (tRet (tTup (tCons (tVar 1) (tCons (tVar 2) tNil)))))
  tNext)
  (tSeq (tAsg (tCall (sp_Lmany K) [] E0 (tCons (tVar 0) tNil)) (gName 5))
  (tRet (tTup (tCons (tCall (sp_Lworths K) [] E0 (tCons (tVar 0) (tCons (tVar 5) tNil))) (tCons (tCall (sp_Lclaims K) [] E0 (tCons (tVar 0) (tCons (tVar 5) tNil))) tNil)))))
theorem pure_Lcase {K : PySem.W.Frag} {mg : Str → Option Value} (T : Txt K mg) (vs : List V) (H : Hp) (Q : VK) (E : XK) (h : sp_Lcase K vs H Q E) : t_Lcase K { nx := fun _ H' => Q .non H', rt := Q } (start N_Lcase vs) H := by
  obtain ⟨_, rfl, a, b, rfl, g, q⟩ := h
  unfold t_Lcase
  apply q_ifc0
  apply t_op
  show tCall _ _ _ _ _ _ _
  refine c_pull (n := 2) (val_var rfl) val_c g (by decide) (by decide) fun k H1 hk x1 g1 => ?_
  refine ⟨rfl, _, rfl, ?_⟩
  cases decide (nv k = V.int 0) with
  | true =>
    refine iteT ?_
    apply q_asgG
    apply c_call1 (val_var rfl)
    refine ⟨_, rfl, a, b, rfl, g1, fun t w1 w2 w3 w4 ws cs H2 x2 g2 hT ⟨ok, p1, p2, ys, e1, e2, n1, n2, h1, h2, al⟩ => ?_⟩
    refine ⟨t, [w1, w2, w3, w4], rfl, hT, rfl, w1, [w2, w3, w4], rfl, w2, [w3, w4], rfl, w3, [w4], rfl, w4, [], rfl, rfl, ?_⟩
    apply s_retc
    refine c_tup2 (val_var rfl) (val_var rfl) fun p hp => ?_
    have s3 := same_new (o := .tup [w1, w2]) hp
    exact q p w1 w2 ws cs _ ((x1.trans x2).trans (bx_of s3)) (g2.same s3) (SqT.of upd_same) ⟨ok, p1, p2, ys, e1, e2, x1.free g1 n1, x1.free g1 n2, s3 _ _ h1, s3 _ _ h2, al.mono fun v c z => z.mono (tk_of s3)⟩
  | false =>
    refine iteF ?_
    apply q_asg
    apply c_call1 (val_var rfl)
    refine ⟨_, rfl, a, b, rfl, g1, fun m H2 hm6 x2 g2 => ?_⟩
    have x02 := x1.trans x2
    apply s_retc
    apply c_tup2c
    apply c_call2 (val_var rfl) (val_var rfl)
    refine ⟨_, _, rfl, a, b, m, rfl, rfl, hm6, g2, fun p1 ws H3 hp1 x3 g3 e1 l1 b1 => ?_⟩
    have hp1a := g2.ne hp1
    apply c_call2 (val_var rfl) (val_var rfl)
    refine ⟨_, _, rfl, a, b, m, rfl, rfl, hm6, g3, fun p2 ys cs H4 hp2 x4 g4 e2 al cl ok => ⟨by show 2 ≤ sizeLine; decide, fun p hp => ?_⟩⟩
    have s5 := same_new (o := .tup [V.ref p1, V.ref p2]) hp
    refine q p _ _ ws cs _ (((x02.trans x3).trans x4).trans (bx_of s5)) (g4.same s5) (SqT.of upd_same) ⟨⟨by omega, cl, b1, fun c hc => ?_⟩, p1, p2, ys, rfl, rfl, x02.free g2 hp1, (x02.trans x3).free g3 hp2, s5 _ _ (x4.sx _ _ e1 hp1a.1), s5 _ _ e2, al.mono fun v c z => z.mono (tk_of s5)⟩
    obtain ⟨h1, h2, h3, h4, h5⟩ := ok c hc
    refine ⟨h1, Rat.le_trans h2 (Rat.natCast_le_natCast.mpr (by decide)), h3, h4, ?_⟩
    rw [l1]
    exact h5
theorem ok_Lcase {P : Program} {w : World} {K : PySem.W.Frag} {mg : Str → Option Value} {base : Heap} (T : Txt K mg) : Okf P w K mg base 6 "_law_case" ["_law_bag_here"] (sp_Lcase K) := by
  obtain ⟨fd, F0⟩ := T.c.def_ 48 (d := d_Lcase) rfl
  have F : FnP K "_law_case" s_Lcase (He.ga K "_law_case") fd := F0
  have h_Lpull := ok_Lpull (P := P) (w := w) (base := base) T
  have h_Ltabled := ok_Ltabled (P := P) (w := w) (base := base) T
  have h_Lmany := ok_Lmany (P := P) (w := w) (base := base) T
  have h_Lworths := ok_Lworths (P := P) (w := w) (base := base) T
  have h_Lclaims := ok_Lclaims (P := P) (w := w) (base := base) T
  refine ⟨_, fd, F.ok sc_Lcase (fun vs H Q E h => ?_) (fun cdv A outer s H vs Q E hr h => ⟨t_Lcase K, PSs.nox ?_, pure_Lcase T vs H Q E h⟩), F.bindsN (fun _ _ _ _ _ _ us hl => match us, hl with | [_], _ => rfl), F.kp, T.glo 48 rfl⟩
  · obtain ⟨_, rfl, _⟩ := h
    rfl
  · exact (pss_cons (ps_if (pt_cmpR op_eq (pe_cf h_Lpull hr (by decide) rfl (pa_cons (pv 0) (pa_cons pe_int pa_nil))) pe_int (nomark _))
  (pss_cons (ps_asg (pe_cf h_Ltabled hr (by decide) rfl (pa_cons (pv 0) pa_nil)) (pg_tup rfl (pgs_cons (pg_name (i := 1) sc_Lcase.nd rfl (by first | exact Or.inl rfl | exact Or.inr rfl)) (pgs_cons (pg_name (i := 2) sc_Lcase.nd rfl (by first | exact Or.inl rfl | exact Or.inr rfl)) (pgs_cons (pg_name (i := 3) sc_Lcase.nd rfl (by first | exact Or.inl rfl | exact Or.inr rfl)) (pgs_cons (pg_name (i := 4) sc_Lcase.nd rfl (by first | exact Or.inl rfl | exact Or.inr rfl)) pgs_nil))))))
  (pss_one (ps_ret (pe_tup (pa_cons (pv 1) (pa_cons (pv 2) pa_nil))))))
  pss_nil)
  (pss_cons (ps_set (i := 5) sc_Lcase.nd rfl (by first | exact Or.inl rfl | exact Or.inr rfl) (pe_cf h_Lmany hr (by decide) rfl (pa_cons (pv 0) pa_nil)))
  (pss_one (ps_ret (pe_tup (pa_cons (pe_cf h_Lworths hr (by decide) rfl (pa_cons (pv 0) (pa_cons (pv 5) pa_nil))) (pa_cons (pe_cf h_Lclaims hr (by decide) rfl (pa_cons (pv 0) (pa_cons (pv 5) pa_nil))) pa_nil)))))))
def sp_Lshared (K : PySem.W.Frag) : Sp := fun vs H Q _ => ∃ v1 v2, vs = [v1, v2] ∧ ∃ (ws : List Int) (cs : List Cl) (D V g M : Nat) (e : Nat → Nat), isLI K H v1 ws ∧ isL K H (isC K H) v2 cs ∧ ShaOk ws cs D V g M e ∧
  ∀ p ys qs N H', H p = none → Same H H' → H' p = some (.lst ys) → All2 (isP K H') ys qs → qs.length = cs.length → (csOf ws cs).Sh (pf qs) → D ∣ N → 0 < N → N ≤ D * M ^ 16 → (∀ i, i < cs.length → Iz (pf qs i) N) → Q (.ref p) H'
/-- slots: _law_worths_here 0, _law_claims_here 1, _law_given 2, _law_found 3, _law_at 4 -/
abbrev N_Lshared : List Str := ["_law_worths_here", "_law_claims_here", "_law_given", "_law_found", "_law_at"]
theorem sc_Lshared : FnScope N_Lshared ["_law_worths_here", "_law_claims_here"] (defScope s_Lshared) := ⟨rfl, rfl, rfl, by decide +kernel, rfl, by decide +kernel, by decide +kernel⟩
def t_Lshared (K : PySem.W.Frag) : TS := tSeq (tAsg (tTup (tCons (tCB (kList K) (tCons (tVar 0) tNil)) (tCons (tCB (kList K) (tCons (tVar 1) tNil)) tNil))) (gName 2))
  (tSeq (tAsg (tCall (sp_shared K) [] E0 (tCons (tOp (rIxT K) (tVar 2) (tC (.int 0))) (tCons (tOp (rIxT K) (tVar 2) (tC (.int 1))) tNil))) (gName 3))
  (tSeq (tIfS (tOr (tTest (tOp (rNeD K) (tVar 2) (tTup (tCons (tVar 0) (tCons (tVar 1) tNil))))) (tNot (tB (tCall (sp_Lpairs K) [] E0 (tCons (tVar 3) (tCons (tCB (kLen K) (tCons (tVar 1) tNil)) tNil))))))
  (tRet (tC .non))
  tNext)
  (tSeq (tFor (iRng1 (tCons (tCB (kLen K) (tCons (tVar 1) tNil)) tNil)) (gName 4)
  (tIfS (tOr (tTest (tOp kLt (tOp (rIxT K) (tOp (rIxL K) (tVar 3) (tVar 4)) (tC (.int 0))) (tC (.int 0)))) (tB (tCall (sp_Lbelow K) [] E0 (tCons (tOp (rIxT K) (tOp (rIxL K) (tVar 1) (tVar 4)) (tC (.int 0))) (tCons (tOp (rIxL K) (tVar 3) (tVar 4)) tNil)))))
  (tRet (tC .non))
  tNext))
  (tRet (tVar 3)))))
theorem ShaOk.bdN {ws : List Int} {cs : List Cl} {D V g M N : Nat} {e : Nat → Nat} (F : ShaOk ws cs D V g M e) (h0 : 0 < N) (hN : N ≤ D * M ^ 16) : Bd N V := by
  have h1 : 2 * V * N * D < B1 := Nat.lt_of_le_of_lt (Nat.mul_le_mul_right D (Nat.mul_le_mul_left (2 * V) hN)) F.big
  have d0 := F.dn.d0
  have v1 := F.v1
  have h2 : 2 * V * N ≤ 2 * V * N * D := Nat.le_mul_of_pos_right _ d0
  have e1 : 2 * V * N = 2 * (V * N) := Nat.mul_assoc 2 V N
  have h3 : N ≤ V * N := Nat.le_mul_of_pos_left N (by omega)
  exact ⟨h0, by omega, by omega⟩
theorem ShaOk.bdD {ws : List Int} {cs : List Cl} {D V g M : Nat} {e : Nat → Nat} (F : ShaOk ws cs D V g M e) : Bd D V := F.bdN F.dn.d0 (Nat.le_mul_of_pos_right D (Nat.pow_pos (by have := F.dn.m0; omega)))
theorem ShaOk.fitD {ws : List Int} {cs : List Cl} {D V g M i : Nat} {e : Nat → Nat} (F : ShaOk ws cs D V g M e) (hi : i < cs.length) : Fit (cs.getD i dCl).due := fit_nn F.bdD (F.dn.due_iz hi) (F.ok.due0 i hi) (Rat.le_trans (sm_le_one (f := (csOf ws cs).due) hi F.ok.due0) F.sumD)
theorem ShaOk.rowOk {ws : List Int} {cs : List Cl} {D V g M N : Nat} {e : Nat → Nat} {qs : List Rat} (F : ShaOk ws cs D V g M e) (ql : qs.length = cs.length) (sh : (csOf ws cs).Sh (pf qs)) (h0 : 0 < N) (hN : N ≤ D * M ^ 16) (hz : ∀ i, i < cs.length → Iz (pf qs i) N) : RowOk ws cs qs N V :=
  ⟨ql, F.n16, F.m6, F.ok, sh.nn, hz, Rat.le_trans (sm_le sh.le) F.sumD, F.sumW, F.bdN h0 hN⟩
theorem pure_Lshared {K : PySem.W.Frag} {mg : Str → Option Value} (T : Txt K mg) (vs : List V) (H : Hp) (Q : VK) (E : XK) (h : sp_Lshared K vs H Q E) : t_Lshared K { nx := fun _ H' => Q .non H', rt := Q } (start N_Lshared vs) H := by
  obtain ⟨v1, v2, rfl, ws, cs, D, V, gg, M, e, hW, hC, F, q⟩ := h
  obtain ⟨wa, rfl, hw⟩ := id hW
  obtain ⟨ca, cv, rfl, hc, cl⟩ := id hC
  have c16 := F.n16
  have el : (cv.length : Int) = (cs.length : Int) := by rw [cl.1]
  unfold t_Lshared
  apply q_asg
  apply c_tup2c
  refine c_listL (val_var rfl) hw fun p1 hp1 => ?_
  have s1 := same_new (o := .lst (ws.map L2.V.int)) hp1
  have e1 : (upd H p1 (.lst (ws.map L2.V.int))) p1 = some (.lst (ws.map L2.V.int)) := upd_same
  generalize upd H p1 (.lst (ws.map L2.V.int)) = H1 at s1 e1 ⊢
  refine c_listL (val_var rfl) (s1.seq hc) fun p2 hp2 => ?_
  have s2 := same_new (o := .lst cv) hp2
  have e2 : (upd H1 p2 (.lst cv)) p2 = some (.lst cv) := upd_same
  generalize upd H1 p2 (.lst cv) = H2 at s2 e2 ⊢
  refine ⟨by show 2 ≤ sizeLine; decide, fun t ht => ?_⟩
  have s3 := same_new (o := .tup [L2.V.ref p1, L2.V.ref p2]) ht
  have e3 : (upd H2 t (.tup [L2.V.ref p1, L2.V.ref p2])) t = some (.tup [L2.V.ref p1, L2.V.ref p2]) := upd_same
  generalize upd H2 t (.tup [L2.V.ref p1, L2.V.ref p2]) = H3 at s3 e3 ⊢
  have s03 := (s1.trans s2).trans s3
  have hW3 : isLI K H3 (.ref p1) ws := ⟨p1, rfl, SqL.of (s3 _ _ (s2 _ _ e1))⟩
  have hC3 : isL K H3 (isC K H3) (.ref p2) cs := ⟨p2, cv, rfl, SqL.of (s3 _ _ e2), cl.mono fun v c z => z.mono (tk_of s03)⟩
  apply q_asg
  apply c_call2 (v_ixT (j := 0) (val_var rfl) val_c (SqT.of e3) rfl) (v_ixT (j := 1) (val_var rfl) val_c (SqT.of e3) rfl)
  refine ⟨_, _, rfl, ws, cs, D, V, gg, M, e, hW3, hC3, F, fun p ys qs N H4 hp s4 e4 al4 ql sh dN n0 hN hz => ?_⟩
  have s04 := s03.trans s4
  apply q_ifc0
  apply t_orT
  apply (val_var rfl : Val (tVar 2) [some (.ref wa), some (.ref ca), some (.ref t), some (.ref p), none] H4 (.ref t))
  refine c_tup2 (val_var rfl) (val_var rfl) fun t5 ht5 => ?_
  have s5 := same_new (o := .tup [L2.V.ref wa, L2.V.ref ca]) ht5
  have e5 : (upd H4 t5 (.tup [L2.V.ref wa, L2.V.ref ca])) t5 = some (.tup [L2.V.ref wa, L2.V.ref ca]) := upd_same
  generalize upd H4 t5 (.tup [L2.V.ref wa, L2.V.ref ca]) = H5 at s5 e5 ⊢
  have s05 := s04.trans s5
  have s35 := s4.trans s5
  have d1 : Dp K H5 (.ref t) (.tuple [.list (ws.map dI), .list (cs.map dC)]) := .tup (SqT.of (s35 _ _ e3)) (.cons (dp_LI (hW3.mono s35)) (.cons (dp_LC (hC3.monoC s35)) .nil))
  have d2 : Dp K H5 (.ref t5) (.tuple [.list (ws.map dI), .list (cs.map dC)]) := .tup (SqT.of e5) (.cons (dp_LI (hW.mono s05)) (.cons (dp_LC (hC.monoC s05)) .nil))
  have sd : Sd 4 (.tuple [.list (ws.map dI), .list (cs.map dC)]) := sd_tup fun d hd => by
    rcases List.mem_cons.mp hd with rfl | hd
    · exact (sd_L (k := 0) (fun x => sd_int 0 x) ws).mono (by decide)
    · rcases List.mem_cons.mp hd with rfl | hd
      · exact sd_L sd_C cs
      · cases hd
  refine neD_refl d1 d2 sd (by decide) ⟨false, rfl, iteF ?_⟩
  show tCall _ _ _ _ _ _ _
  have al5 : All2 (isP K H5) ys qs := al4.mono fun v x z => z.mono (tk_of s5)
  have hP5 : isL K H5 (isP K H5) (.ref p) qs := ⟨p, ys, rfl, SqL.of (s5 _ _ e4), al5⟩
  have vl : ∀ {H' : Hp} {σ : L2.St}, Same H H' → σ[1]? = some (some (.ref ca)) → Val (tCB (kLen K) (tCons (tVar 1) tNil)) σ H' (nv cs.length) := fun s h => by
    have := v_lenL (K := K) (val_var h) (s.seq hc)
    rw [el] at this
    exact this
  apply c_call2 (val_var rfl) (vl s05 rfl)
  refine ⟨_, _, rfl, qs, hP5, by rw [ql], by omega, fun H6 s6 => ⟨true, rfl, iteF ?_⟩⟩
  have s06 := s05.trans s6
  have hC6 := hC.monoC s06
  have hP6 := hP5.monoP s6
  refine q_forR (n := cs.length) (fun i σ H' => H' = H6 ∧ ∃ y : Option L2.V, σ = [some (.ref wa), some (.ref ca), some (.ref t), some (.ref p), y]) (vl s06 rfl) (by omega) ⟨rfl, _, rfl⟩ ?_ ?_
  · rintro i σ H' hi ⟨rfl, y, rfl⟩
    obtain ⟨xa, xd, xt, vx, hxT, hxd, hxt⟩ := v_claim (tr := tVar 1) (ti := tVar 4) (σ := [some (.ref wa), some (.ref ca), some (.ref t), some (.ref p), some (nv i)]) (val_var rfl) (val_var rfl) hC6 hi
    obtain ⟨qx, vq, hqx⟩ := v_elem (tr := tVar 3) (ti := tVar 4) (σ := [some (.ref wa), some (.ref ca), some (.ref t), some (.ref p), some (nv i)]) (val_var rfl) (val_var rfl) hP6 (by rw [ql]; exact hi)
    have R := F.rowOk ql sh n0 hN hz
    have hnn : ¬ ((pf qs i).num < 0) := by
      have := Rat.num_nonneg.mpr (sh.nn i hi)
      omega
    have a1 := ans_vt (v_lt (v_num vq hqx) (val_c (v := .int 0)))
    rw [decide_eq_false hnn] at a1
    have hle : ¬ ((cs.getD i dCl).due < pf qs i) := by
      have := sh.le i hi
      exact fun z => by
        have z2 : (csOf ws cs).due i < pf qs i := z
        grind
    have a2 : Ans (tB (tCall (sp_Lbelow K) [] E0 (tCons (tOp (rIxT K) (tOp (rIxL K) (tVar 1) (tVar 4)) (tC (.int 0))) (tCons (tOp (rIxL K) (tVar 3) (tVar 4)) tNil)))) [some (.ref wa), some (.ref ca), some (.ref t), some (.ref p), some (nv i)] H' false := ans_val fun Q' q' => by
      apply c_call2 (v_ixT (j := 0) vx val_c hxT rfl) vq
      refine ⟨_, _, rfl, _, _, hxd, hqx, F.fitD hi, R.fit hi, ?_⟩
      rw [decide_eq_false hle]
      exact q'
    apply s_if0 (ans_or a1 a2)
    · intro z
      cases z
    · intro _
      exact ⟨rfl, _, rfl⟩
  · rintro σ H' ⟨rfl, y, rfl⟩
    apply s_ret (val_var rfl)
    exact q p ys qs N H' (s03.free hp) s06 (s6 _ _ (s5 _ _ e4)) (al5.mono fun v x z => z.mono (tk_of s6)) ql sh dN n0 hN hz
theorem ok_Lshared {P : Program} {w : World} {K : PySem.W.Frag} {mg : Str → Option Value} {base : Heap} (T : Txt K mg) : Okf P w K mg base 9 "_law_shared" ["_law_worths_here", "_law_claims_here"] (sp_Lshared K) := by
  obtain ⟨fd, F0⟩ := T.c.def_ 49 (d := d_Lshared) rfl
  have F : FnP K "_law_shared" s_Lshared (He.ga K "_law_shared") fd := F0
  have h_shared := ok_shared (P := P) (w := w) (base := base) T
  have h_Lpairs := ok_Lpairs (P := P) (w := w) (base := base) T
  have h_Lbelow := ok_Lbelow (P := P) (w := w) (base := base) T
  refine ⟨_, fd, F.ok sc_Lshared (fun vs H Q E h => ?_) (fun cdv A outer s H vs Q E hr h => ⟨t_Lshared K, PSs.nox ?_, pure_Lshared T vs H Q E h⟩), F.bindsN (fun _ _ _ _ _ _ us hl => match us, hl with | [_, _], _ => rfl), F.kp, T.glo 49 rfl⟩
  · obtain ⟨_, _, rfl, _⟩ := h
    rfl
  · exact (pss_cons (ps_set (i := 2) sc_Lshared.nd rfl (by first | exact Or.inl rfl | exact Or.inr rfl) (pe_tup (pa_cons (pe_callTy call_list_of (by rfl) (T.free 59 rfl) (by decide +kernel) (pa_cons (pv 0) pa_nil)) (pa_cons (pe_callTy call_list_of (by rfl) (T.free 59 rfl) (by decide +kernel) (pa_cons (pv 1) pa_nil)) pa_nil))))
  (pss_cons (ps_set (i := 3) sc_Lshared.nd rfl (by first | exact Or.inl rfl | exact Or.inr rfl) (pe_cf h_shared hr (by decide) rfl (pa_cons (pe_ix ix_tup (pv 2) pe_int (fun _ _ => rfl)) (pa_cons (pe_ix ix_tup (pv 2) pe_int (fun _ _ => rfl)) pa_nil))))
  (pss_cons (ps_if (PW.pt (pw_or (pt_cmpR (op_neD hr.units) (pv 2) (pe_tup (pa_cons (pv 0) (pa_cons (pv 1) pa_nil))) (nomark _)) (pw_or1 (pt_not (pt_val (pe_cf h_Lpairs hr (by decide) rfl (pa_cons (pv 3) (pa_cons (pe_callB call_len_seq (by rfl) (T.free 57 rfl) PySem.boot_len (pa_cons (pv 1) pa_nil)) pa_nil))))))))
  (pss_one (ps_ret pe_non))
  pss_nil)
  (pss_cons (ps_for PassesOwn.never rfl (pi_range1 (by rfl) (T.free 54 rfl) (pa_cons (pe_callB call_len_seq (by rfl) (T.free 57 rfl) PySem.boot_len (pa_cons (pv 1) pa_nil)) pa_nil)) (pg_name (i := 4) sc_Lshared.nd rfl (by first | exact Or.inl rfl | exact Or.inr rfl))
  (pss_one (ps_if (PW.pt (pw_or (pt_cmpR op_lt (pe_ix ix_tup (pe_ix ix_list (pv 3) (pv 4) (fun _ _ => rfl)) pe_int (fun _ _ => rfl)) pe_int (nomark _)) (pw_or1 (pt_val (pe_cf h_Lbelow hr (by decide) rfl (pa_cons (pe_ix ix_tup (pe_ix ix_list (pv 1) (pv 4) (fun _ _ => rfl)) pe_int (fun _ _ => rfl)) (pa_cons (pe_ix ix_list (pv 3) (pv 4) (fun _ _ => rfl)) pa_nil)))))))
  (pss_one (ps_ret pe_non))
  pss_nil)))
  (pss_one (ps_ret (pv 3)))))))
def sp_law (K : PySem.W.Frag) : Sp := fun vs H Q _ => ∃ v1, vs = [v1] ∧ ∃ (s : Addr) (ns : List Int), v1 = .ref s ∧ SqL K H s (ns.map L2.V.int) ∧ ns.length ≤ 63 ∧ ∀ H', Q (.bl true) H'
/-- slots: _law_script 0, _law_bag_here 1, _law_worths_here 2, _law_claims_here 3, _law_found 4, _law_rows 5, _law_at 6, _law_by 7, _law_one 8, _law_left 9, _law_place 10, _law_out 11, _law_others 12, _law_larger 13, _law_due_here 14, _law_touched 15, _law_rank 16, _law_part 17 -/
abbrev N_law : List Str := ["_law_script", "_law_bag_here", "_law_worths_here", "_law_claims_here", "_law_found", "_law_rows", "_law_at", "_law_by", "_law_one", "_law_left", "_law_place", "_law_out", "_law_others", "_law_larger", "_law_due_here", "_law_touched", "_law_rank", "_law_part"]
theorem sc_law : FnScope N_law ["_law_script"] (defScope s_law) := ⟨rfl, rfl, rfl, by decide +kernel, rfl, by decide +kernel, by decide +kernel⟩
def t_law (K : PySem.W.Frag) : TS := tSeq (tAsg (tCall (sp_Lbag K) [] E0 (tCons (tVar 0) tNil)) (gName 1))
  (tSeq (tAsg (tCall (sp_Lcase K) [] E0 (tCons (tVar 1) tNil)) (gTup K 2 (gCons (gName 2) (gCons (gName 3) gNil))))
  (tSeq (tIfS (tTest (tOp (rEqD K) (tVar 3) (tLst tNil)))
  (tRet (tOp (rEqD K) (tCall (sp_Lshared K) [] E0 (tCons (tVar 2) (tCons (tVar 3) tNil))) (tLst tNil)))
  tNext)
  (tSeq (tAsg (tCall (sp_Lshared K) [] E0 (tCons (tVar 2) (tCons (tVar 3) tNil))) (gName 4))
  (tSeq (tIfS (tTest (tOp kIsN (tVar 4) (tC .non)))
  (tRet (tC (.bl false)))
  tNext)
  (tSeq (tAsg (tCall (sp_table K) [] E0 (tCons (tCB (kList K) (tCons (tVar 2) tNil)) (tCons (tCB (kList K) (tCons (tVar 3) tNil)) (tCons (tCB (kList K) (tCons (tVar 4) tNil)) tNil)))) (gName 5))
  (tSeq (tIfS (tNot (tB (tCall (sp_Lgood_table K) [] E0 (tCons (tVar 2) (tCons (tVar 3) (tCons (tVar 4) (tCons (tVar 5) tNil)))))))
  (tRet (tC (.bl false)))
  tNext)
  (tSeq (tAsg (tCall (sp_Lpull K) [] E0 (tCons (tVar 1) (tCons (tCB (kLen K) (tCons (tVar 3) tNil)) tNil))) (gName 6))
  (tSeq (tAsg (tC (.int 1)) (gName 7))
  (tSeq (tFor (iList K (tOp (rIxL K) (tVar 5) (tVar 6))) (gName 8)
  (tAsg (tOp kMul (tVar 7) (tOp kDiv (tOp (rIxT K) (tVar 8) (tC (.int 1))) (tCall (sp_Lgcd K) [] E0 (tCons (tVar 7) (tCons (tOp (rIxT K) (tVar 8) (tC (.int 1))) tNil))))) (gName 7)))
  (tSeq (tAsg (tLst tNil) (gName 9))
  (tSeq (tFor (iRng1 (tCons (tCB (kLen K) (tCons (tVar 2) tNil)) tNil)) (gName 10)
  (tSeq (tAsg (tOp (rIxL K) (tOp (rIxL K) (tVar 5) (tVar 6)) (tVar 10)) (gName 11))
  (tDrop (tBM K "list" rAppend (tVar 9) (tCons (tOp kSub (tOp kMul (tOp (rIxL K) (tVar 2) (tVar 10)) (tVar 7)) (tOp kMul (tOp (rIxT K) (tVar 11) (tC (.int 0))) (tOp kDiv (tVar 7) (tOp (rIxT K) (tVar 11) (tC (.int 1)))))) tNil)))))
  (tSeq (tAsg (tOp rCat (tSl (rSlL K) (tVar 3) tNoPart (tPart (tVar 6))) (tSl (rSlL K) (tVar 3) (tPart (tOp kAdd (tVar 6) (tC (.int 1)))) tNoPart)) (gName 12))
  (tSeq (tAsg (tLc (iList K (tVar 12)) (gTup K 3 (gCons (gName 14) (gCons (gName 15) (gCons (gName 16) gNil)))) tYes (tTup (tCons (tCall (sp_Ltimes K) [] E0 (tCons (tVar 14) (tCons (tTup (tCons (tVar 7) (tCons (tC (.int 1)) tNil))) tNil))) (tCons (tVar 15) (tCons (tVar 16) tNil)))) [14, 15, 16]) (gName 13))
  (tSeq (tAsg (tLc (iList K (tOp rCat (tSl (rSlL K) (tVar 4) tNoPart (tPart (tVar 6))) (tSl (rSlL K) (tVar 4) (tPart (tOp kAdd (tVar 6) (tC (.int 1)))) tNoPart))) (gName 17) tYes (tCall (sp_Ltimes K) [] E0 (tCons (tVar 17) (tCons (tTup (tCons (tVar 7) (tCons (tC (.int 1)) tNil))) tNil))) [17]) (gName 14))
  (tRet (tOp (rEqD K) (tCall (sp_Lshared K) [] E0 (tCons (tVar 9) (tCons (tVar 13) tNil))) (tVar 14)))))))))))))))))
/-! ### sizes -/
def V0 : Nat := 10 ^ 13
def M0 : Nat := V0 * D0
theorem sizes {by_ : Nat} (h : by_ ≤ D0 * M0 ^ 16) : 2 * (by_ * V0) * (D0 * M0 ^ 16) * D0 < B1 := by
  have k : 2 * ((D0 * M0 ^ 16) * V0) * (D0 * M0 ^ 16) * D0 < 2 ^ 4450 := by decide +kernel
  refine Nat.lt_of_le_of_lt ?_ k
  exact Nat.mul_le_mul_right _ (Nat.mul_le_mul_right _ (Nat.mul_le_mul_left _ (Nat.mul_le_mul_right _ h)))
def eN (cs : List Cl) (i : Nat) : Nat := ((cs.getD i dCl).due * (D0 : Rat)).num.toNat
theorem eN_eq {cs : List Cl} {i : Nat} (hz : Iz (cs.getD i dCl).due D0) (h0 : 0 ≤ (cs.getD i dCl).due) : (cs.getD i dCl).due * (D0 : Rat) = ((eN cs i : Nat) : Rat) := by
  obtain ⟨z, hz⟩ := hz
  have h1 : 0 ≤ (cs.getD i dCl).due * (D0 : Rat) := Rat.mul_nonneg h0 (natV D0)
  unfold eN
  rw [hz] at h1 ⊢
  have h2 := Rat.intCast_nonneg.mp h1
  have h3 : ((z : Rat)).num = z := rfl
  rw [h3, ← Rat.intCast_natCast]
  congr 1
  omega
theorem smN_cast (e : Nat → Nat) : ∀ n : Nat, ((smN n e : Nat) : Rat) = sm n fun i => ((e i : Nat) : Rat)
  | 0 => rfl
  | n + 1 => by
    show ((smN n e + e n : Nat) : Rat) = sm n _ + _
    rw [Rat.natCast_add, smN_cast e n]
section
variable {ws : List Int} {cs : List Cl}
theorem CaOk.at (ok : CaOk ws cs) {i : Nat} (hi : i < cs.length) : ClOk ws.length (10 ^ 11) (cs.getD i dCl) := ok.cl _ (List.mem_of_getElem? (at_of_getD hi))
theorem CaOk.ok (ok : CaOk ws cs) : (csOf ws cs).Ok where
  w0 := fun f hf => Rat.intCast_nonneg.mpr (ok.w0 _ (List.mem_of_getElem? (at_of_getD hf))).1
  due0 := fun i hi => (ok.at hi).d0
  tou := fun i hi => (ok.at hi).lt
  nd := fun i hi => (ok.at hi).nd
theorem sm_const {f : Nat → Rat} {U : Nat} : ∀ {n : Nat}, (∀ i, i < n → f i ≤ (U : Rat)) → sm n f ≤ ((n * U : Nat) : Rat)
  | 0, _ => by
    rw [Nat.zero_mul]
    exact Rat.le_refl
  | n + 1, h => by
    have a := sm_const (n := n) fun i hi => h i (by omega)
    have b := h n (by omega)
    rw [Nat.succ_mul, Rat.natCast_add]
    show sm n f + f n ≤ _
    grind
theorem CaOk.sumD (ok : CaOk ws cs) : sm cs.length (csOf ws cs).due ≤ (V0 : Rat) := by
  refine Rat.le_trans (sm_const (U := 10 ^ 11) fun i hi => (ok.at hi).dU) (Rat.natCast_le_natCast.mpr ?_)
  exact Nat.le_trans (Nat.mul_le_mul_right _ ok.n16) (by decide)
theorem CaOk.sumW (ok : CaOk ws cs) : sm ws.length (csOf ws cs).w ≤ (V0 : Rat) := by
  refine Rat.le_trans (sm_const (U := 10 ^ 12) fun f hf => ?_) (Rat.natCast_le_natCast.mpr (Nat.le_trans (Nat.mul_le_mul_right _ ok.m6) (by decide)))
  have h := (ok.w0 _ (List.mem_of_getElem? (at_of_getD (d := 0) hf))).2
  have h2 := Rat.intCast_le_intCast.mpr h
  exact h2
theorem CaOk.dn (ok : CaOk ws cs) : (csOf ws cs).Dn D0 1 M0 (eN cs) where
  d0 := by decide +kernel
  g0 := by decide
  m0 := by decide +kernel
  eq := fun i hi => by
    have h := eN_eq (ok.at hi).iz (ok.at hi).d0
    have e1 : ((1 : Nat) : Rat) = 1 := rfl
    rw [e1, Rat.one_mul]
    exact h
  le := by
    have h : ((smN cs.length (eN cs) : Nat) : Rat) ≤ ((V0 * D0 : Nat) : Rat) := by
      rw [smN_cast, Rat.natCast_mul]
      have e : (sm cs.length fun i => ((eN cs i : Nat) : Rat)) = (D0 : Rat) * sm cs.length (csOf ws cs).due := by
        rw [← sm_mul]
        refine sm_congr fun i hi => ?_
        show ((eN cs i : Nat) : Rat) = (D0 : Rat) * (cs.getD i dCl).due
        rw [← eN_eq (ok.at hi).iz (ok.at hi).d0, Rat.mul_comm]
      rw [e]
      have h2 := Rat.mul_le_mul_of_nonneg_left ok.sumD (natV D0)
      grind
    exact Rat.natCast_le_natCast.mp h
  wz := fun f hf => ⟨_, rfl⟩
theorem CaOk.sha (ok : CaOk ws cs) : ShaOk ws cs D0 V0 1 M0 (eN cs) where
  n16 := ok.n16
  m6 := ok.m6
  ok := ok.ok
  dn := ok.dn
  sumD := ok.sumD
  sumW := ok.sumW
  v1 := by decide
  big := by
    have h := sizes (by_ := 1) (by decide +kernel)
    rw [Nat.one_mul] at h
    exact h
/-! ### the case without one -/
def sans {α : Type} (xs : List α) (at_ : Nat) : List α := xs.take at_ ++ xs.drop (at_ + 1)
theorem sans_getD {α : Type} (xs : List α) {at_ : Nat} (h : at_ < xs.length) (i : Nat) (d : α) : (sans xs at_).getD i d = xs.getD (skip at_ i) d := by
  have hl : (xs.take at_).length = at_ := by rw [List.length_take]; omega
  unfold sans skip
  rw [List.getD_eq_getElem?_getD, List.getD_eq_getElem?_getD]
  by_cases e : i < at_
  · rw [if_pos e, List.getElem?_append_left (by omega), List.getElem?_take_of_lt e]
  · rw [if_neg e, List.getElem?_append_right (by omega), hl, List.getElem?_drop]
    congr 2
    omega
theorem sans_len {α : Type} (xs : List α) {at_ : Nat} (h : at_ < xs.length) : (sans xs at_).length = xs.length - 1 := by
  unfold sans
  rw [List.length_append, List.length_take, List.length_drop]
  omega
theorem map_getD {α β : Type} (f : α → β) (xs : List α) (i : Nat) (d : α) (e : β) (h : f d = e) : (xs.map f).getD i e = f (xs.getD i d) := by
  rw [List.getD_eq_getElem?_getD, List.getD_eq_getElem?_getD, List.getElem?_map]
  cases xs[i]? with
  | none => exact h.symm
  | some x => rfl
def grow (by_ : Nat) (c : Cl) : Cl := ⟨c.due * (by_ : Rat), c.tou, c.rk⟩
theorem grow_d (by_ : Nat) : grow by_ dCl = dCl := by
  unfold grow dCl
  congr 1
  exact Rat.zero_mul _
theorem cs_ext {c d : Cs} (h1 : c.m = d.m) (h2 : c.n = d.n) (h3 : c.w = d.w) (h4 : c.due = d.due) (h5 : c.tou = d.tou) (h6 : c.rk = d.rk) : c = d := by
  cases c
  cases d
  simp only at h1 h2 h3 h4 h5 h6
  subst h1 h2 h3 h4 h5 h6
  rfl
variable {ps zs : List Rat} {Rs : List (List Rat)} {at_ by_ : Nat} {left : List Int}
theorem red_eq (ce : Cel cs.length ws.length Rs zs) (hat : at_ < cs.length) (ll : left.length = ws.length) (hl : ∀ f, f < ws.length → ((left.getD f 0 : Int) : Rat) = (by_ : Rat) * (((ws.getD f 0 : Int) : Rat) - rt Rs at_ f)) : csOf left ((sans cs at_).map (grow by_)) = (csOf ws cs).red (rt Rs) at_ (by_ : Rat) := by
  have gd : ∀ i, ((sans cs at_).map (grow by_)).getD i dCl = grow by_ (cs.getD (skip at_ i) dCl) := fun i => by rw [map_getD _ _ _ _ _ (grow_d by_), sans_getD cs hat]
  refine cs_ext ll ?_ (funext fun f => ?_) (funext fun i => ?_) (funext fun i => ?_) (funext fun i => ?_)
  · show ((sans cs at_).map (grow by_)).length = cs.length - 1
    rw [List.length_map, sans_len cs hat]
  · show ((left.getD f 0 : Int) : Rat) = (by_ : Rat) * (((ws.getD f 0 : Int) : Rat) - rt Rs at_ f)
    by_cases hf : f < ws.length
    · exact hl f hf
    · have e1 : left.getD f 0 = 0 := by rw [List.getD_eq_getElem?_getD, List.getElem?_eq_none (by omega)]; rfl
      have e2 : ws.getD f 0 = 0 := by rw [List.getD_eq_getElem?_getD, List.getElem?_eq_none (by omega)]; rfl
      have e3 : rt Rs at_ f = 0 := by
        unfold rt pf
        rw [List.getD_eq_getElem?_getD, List.getElem?_eq_none (by rw [ce.cl at_ hat]; omega)]
        rfl
      rw [e1, e2, e3]
      have : ((0 : Int) : Rat) = 0 := rfl
      rw [this]
      grind
  · show (((sans cs at_).map (grow by_)).getD i dCl).due = (by_ : Rat) * (cs.getD (skip at_ i) dCl).due
    rw [gd, Rat.mul_comm]
    rfl
  · show (((sans cs at_).map (grow by_)).getD i dCl).tou = (cs.getD (skip at_ i) dCl).tou
    rw [gd]
    rfl
  · show (((sans cs at_).map (grow by_)).getD i dCl).rk = (cs.getD (skip at_ i) dCl).rk
    rw [gd]
    rfl
theorem sm_sans {f : Nat → Rat} (hat : at_ < cs.length) (h0 : 0 ≤ f at_) : sm (cs.length - 1) (fun i => f (skip at_ i)) ≤ sm cs.length f := by
  obtain ⟨k, hk⟩ : ∃ k, cs.length = k + 1 := ⟨cs.length - 1, by omega⟩
  rw [hk]
  show sm k _ ≤ _
  rw [sm_skip f (by omega)]
  grind
theorem red_sha (ok : CaOk ws cs) (t : (csOf ws cs).Tab (pf ps) (rt Rs)) (hat : at_ < cs.length) (ll : left.length = ws.length) (b0 : 0 < by_) (bN : by_ ≤ D0 * M0 ^ 16)
    (e : csOf left ((sans cs at_).map (grow by_)) = (csOf ws cs).red (rt Rs) at_ (by_ : Rat)) : ShaOk left ((sans cs at_).map (grow by_)) D0 (by_ * V0) by_ M0 (fun i => eN cs (skip at_ i)) := by
  have hn : ((sans cs at_).map (grow by_)).length = cs.length - 1 := by rw [List.length_map, sans_len cs hat]
  have n16 := ok.n16
  have m6 := ok.m6
  have hb : (0 : Rat) < (by_ : Rat) := Rat.natCast_lt_natCast.mpr b0
  have hb' := Rat.le_of_lt hb
  have okk := ok.ok
  have hT : ∀ f, f < ws.length → 0 ≤ rt Rs at_ f ∧ rt Rs at_ f ≤ (csOf ws cs).w f := fun f hf => ⟨t.nn at_ f hat hf, Rat.le_trans (sm_le_one (f := fun i => rt Rs i f) (n := cs.length) hat fun i hi => t.nn i f hi hf) (t.col f hf)⟩
  have dn := ok.dn
  refine ⟨by omega, by omega, ?_, ?_, ?_, ?_, Nat.mul_pos b0 (by decide), sizes bN⟩
  · rw [e]
    refine ⟨fun f hf => ?_, fun i hi => ?_, fun i hi => okk.tou _ (Cs.skip_lt hi), fun i hi => okk.nd _ (Cs.skip_lt hi)⟩
    · show 0 ≤ (by_ : Rat) * ((csOf ws cs).w f - rt Rs at_ f)
      have := hT f hf
      exact Rat.mul_nonneg hb' (by grind)
    · exact Rat.mul_nonneg hb' (okk.due0 _ (Cs.skip_lt hi))
  · have wz : ∀ f, f < left.length → ∃ z : Int, (csOf left ((sans cs at_).map (grow by_))).w f = (z : Rat) := fun f hf => ⟨_, rfl⟩
    refine ⟨dn.d0, b0, dn.m0, fun i hi => ?_, ?_, wz⟩
    · rw [e] at hi ⊢
      show (by_ : Rat) * (csOf ws cs).due (skip at_ i) * (D0 : Rat) = (by_ : Rat) * ((eN cs (skip at_ i) : Nat) : Rat)
      have h := dn.eq (skip at_ i) (Cs.skip_lt hi)
      have e1 : ((1 : Nat) : Rat) = 1 := rfl
      rw [e1, Rat.one_mul] at h
      rw [Rat.mul_assoc, h]
    · show smN ((sans cs at_).map (grow by_)).length _ ≤ M0
      rw [hn]
      have h1 : ((smN (cs.length - 1) (fun i => eN cs (skip at_ i)) : Nat) : Rat) ≤ ((smN cs.length (eN cs) : Nat) : Rat) := by
        rw [smN_cast, smN_cast]
        exact sm_sans (f := fun i => ((eN cs i : Nat) : Rat)) hat (natV _)
      exact Nat.le_trans (Rat.natCast_le_natCast.mp h1) dn.le
  · rw [hn, e]
    show sm (cs.length - 1) (fun i => (by_ : Rat) * (csOf ws cs).due (skip at_ i)) ≤ _
    rw [sm_mul, Rat.natCast_mul]
    exact Rat.mul_le_mul_of_nonneg_left (Rat.le_trans (sm_sans (f := (csOf ws cs).due) hat (okk.due0 at_ hat)) ok.sumD) hb'
  · rw [ll, e]
    show sm ws.length (fun f => (by_ : Rat) * ((csOf ws cs).w f - rt Rs at_ f)) ≤ _
    rw [sm_mul, Rat.natCast_mul]
    refine Rat.mul_le_mul_of_nonneg_left (Rat.le_trans (sm_le fun f hf => ?_) ok.sumW) hb'
    have := (hT f hf).1
    show (csOf ws cs).w f - rt Rs at_ f ≤ (csOf ws cs).w f
    grind
end
/-! ### what the bag's change keeps -/
section
variable {K : PySem.W.Frag} {H H' : Hp} {a b : Addr} {v : V}
theorem isL.bx {α : Type} {R R' : V → α → Prop} {xs : List α} (g : Bag H a b) (x : BX a H H') (hne : ∀ (i : Int) y, ¬ R (.int i) y) (f : ∀ u y, R u y → R' u y) (h : isL K H R v xs) : isL K H' R' v xs := by
  obtain ⟨p, vs, rfl, hs, al⟩ := h
  obtain ⟨ns, i, j, k, e, e2, n⟩ := g
  refine ⟨p, vs, rfl, ?_, al.mono f⟩
  rcases hs with (hs | ⟨o, hs⟩) | hs
  · by_cases z : p = a
    · subst z
      rw [e] at hs
      have hv : [V.ref b, nv i, .int j, .int k] = vs := HO.lst.inj (Option.some.inj hs)
      subst hv
      obtain ⟨y, _, hy⟩ := al.got (i := 1) (v := nv i) rfl
      exact absurd hy (hne _ _)
    · exact .inl (.inl (x.sx _ _ hs z))
  · refine .inl (.inr ⟨o, x.sx _ _ hs fun z => ?_⟩)
    subst z
    rw [e] at hs
    cases hs
  · exact .inr hs
theorem isP_ni (i : Int) (q : Rat) : ¬ isP K H (.int i) q := fun ⟨_, e, _⟩ => nomatch e
theorem isC_ni (i : Int) (c : Cl) : ¬ isC K H (.int i) c := fun ⟨_, _, _, e, _⟩ => nomatch e
theorem isL.bxP {xs : List Rat} (g : Bag H a b) (x : BX a H H') (h : isL K H (isP K H) v xs) : isL K H' (isP K H') v xs := isL.bx g x isP_ni (fun _ _ r => r.mono x.tk) h
theorem isL.bxC {xs : List Cl} (g : Bag H a b) (x : BX a H H') (h : isL K H (isC K H) v xs) : isL K H' (isC K H') v xs := isL.bx g x isC_ni (fun _ _ r => r.mono x.tk) h
theorem isR.bx {Rs : List (List Rat)} (g : Bag H a b) (x : BX a H H') (h : isR K H v Rs) : isR K H' v Rs := isL.bx g x (fun i y ⟨_, _, e, _⟩ => nomatch e) (fun _ _ r => r.bxP g x) h
theorem isLI.bx {ns : List Int} (g : Bag H a b) (x : BX a H H') (h : isLI K H v ns) : isLI K H' v ns := by
  obtain ⟨p, rfl, hs⟩ := h
  obtain ⟨ms, i, j, k, e, e2, n⟩ := g
  refine ⟨p, rfl, ?_⟩
  rcases hs with (hs | ⟨o, hs⟩) | hs
  · by_cases z : p = a
    · subst z
      rw [e] at hs
      have hv : [V.ref b, nv i, .int j, .int k] = ns.map V.int := HO.lst.inj (Option.some.inj hs)
      cases ns with
      | nil => cases hv
      | cons y ys => cases hv
    · exact .inl (.inl (x.sx _ _ hs z))
  · refine .inl (.inr ⟨o, x.sx _ _ hs fun z => ?_⟩)
    subst z
    rw [e] at hs
    cases hs
  · exact .inr hs
end
/-! ### steps of its own -/
section
variable {K : PySem.W.Frag} {σ : L2.St} {H : Hp} {tl ta te : TE} {tt : TT} {Q : VK}
theorem c_lcGG {g : TG} {ls : List Nat} {a : Addr} {xs : List V} (I : Addr → Nat → Hp → Prop) (ht : Val tl σ H (.ref a)) (hx : SqL K H a xs) (h0 : ∀ p, H p = none → I p 0 (upd H p (.lst []))) (hl : ∀ p i H', I p i H' → SqL K H' a xs)
    (hs : ∀ p i x H', H p = none → xs[i]? = some x → I p i H' → g x (wipe σ ls) H' fun σ2 H2 => wipe σ2 ls = wipe σ ls ∧ lcT tt te σ2 p (I p (i + 1)) H2) (q : ∀ p H', H p = none → I p xs.length H' → Q (.ref p) H') : tLc (iList K tl) g tt te ls σ H Q :=
  ht _ ⟨a, rfl, ⟨xs, hx⟩, fun p hp => lc_list (xs := xs) (I p) (h0 p hp) (fun i H' _ z => hl p i H' z) (fun i x H' hi z => hs p i x H' hp hi z) (fun H' z => q p H' hp z)⟩
theorem c_lcLc {g : TG} {ls : List Nat} (h : tl σ H fun x H1 => tLc (iList K (tC x)) g tt te ls σ H1 Q) : tLc (iList K tl) g tt te ls σ H Q := h
theorem t_notB {Q : Bool → Hp → Prop} (h : te σ H fun x H1 => ∃ c, x = .bl c ∧ Q (!c) H1) : tNot (tB te) σ H Q := h
theorem c_call3d {sp : Sp} {t1 t2 t3 : TE} (h : t1 σ H fun x H1 => t2 σ H1 fun y H2 => t3 σ H2 fun z H3 => sp [x, y, z] H3 Q E0) : tCall sp [] E0 (tCons t1 (tCons t2 (tCons t3 tNil))) σ H Q := h
/-- xs[:at] + xs[at + 1:] -/
theorem c_sans {tx ti tj : TE} {p : Addr} {xs : List V} {n : Nat} (h1 : ∀ H', Val tx σ H' (.ref p)) (hi : ∀ H', Val ti σ H' (nv n)) (hj : ∀ H', Val tj σ H' (.int ((n : Int) + 1))) (hx : SqL K H p xs) (hl : xs.length ≤ 1000) (hn : n < xs.length)
    (q : ∀ r H', H r = none → Same H H' → H' r = some (.lst (sans xs n)) → Q (.ref r) H') : tOp rCat (tSl (rSlL K) tx tNoPart (tPart ti)) (tSl (rSlL K) tx (tPart tj) tNoPart) σ H Q := by
  have c1 : cutV xs none (some (n : Int)) = xs.take n := by
    unfold cutV
    rw [HT.sIx_nat, HT.sIx_none, List.drop_zero, Nat.min_eq_left (by omega)]
    rfl
  have c2 : cutV xs (some ((n : Int) + 1)) none = xs.drop (n + 1) := by
    unfold cutV
    have e : (n : Int) + 1 = ((n + 1 : Nat) : Int) := by omega
    rw [e, HT.sIx_nat, HT.sIx_none, Nat.min_eq_left (by omega)]
    exact List.take_of_length_le (by rw [List.length_drop]; omega)
  show tSl _ _ _ _ _ _ _
  refine h1 H _ ?_
  refine hi H _ ⟨_, rfl, p, xs, rfl, hx, fun p1 hp1 => ?_⟩
  rw [c1]
  have s1 := same_new (o := .lst (xs.take n)) hp1
  have e1 : (upd H p1 (.lst (xs.take n))) p1 = some (.lst (xs.take n)) := upd_same
  generalize upd H p1 (.lst (xs.take n)) = H1 at s1 e1 ⊢
  show tSl _ _ _ _ _ _ _
  refine h1 H1 _ ?_
  refine hj H1 _ ⟨_, rfl, p, xs, rfl, s1.seq hx, fun p2 hp2 => ?_⟩
  rw [c2]
  have s2 := same_new (o := .lst (xs.drop (n + 1))) hp2
  have e2 : (upd H1 p2 (.lst (xs.drop (n + 1)))) p2 = some (.lst (xs.drop (n + 1))) := upd_same
  generalize upd H1 p2 (.lst (xs.drop (n + 1))) = H2 at s2 e2 ⊢
  refine ⟨p1, p2, _, _, rfl, rfl, s2 _ _ e1, e2, ?_, fun r hr => ?_⟩
  · have := sans_len xs hn
    unfold sans at this
    rw [List.length_append] at this
    exact Nat.le_trans (show _ ≤ 1000 by omega) (by decide)
  · exact q r _ ((s1.trans s2).free hr) ((s1.trans s2).trans (same_new hr)) upd_same
end
theorem All2.sans {α : Type} {R : V → α → Prop} {vs : List V} {xs : List α} (h : All2 R vs xs) (n : Nat) : All2 R (sans vs n) (KB.sans xs n) := (h.take n).append (h.drop (n + 1))
theorem fit_nat {n : Nat} (h : n < B1) : Fit ((n : Nat) : Rat) := ⟨by show (n : Int).natAbs < B1; rw [Int.natAbs_natCast]; exact h, by show 1 < B1; unfold B1; exact Nat.one_lt_two_pow (by decide)⟩
/-- a part times what its under divides -/
theorem part_mul {q : Rat} {d : Nat} (h : q.den ∣ d) : ((q.num * ((d : Int) / (q.den : Int)) : Int) : Rat) = q * (d : Rat) := by
  obtain ⟨k, rfl⟩ := h
  have e1 : ((q.den * k : Nat) : Int) / (q.den : Int) = (k : Int) := by
    rw [Int.natCast_mul]
    exact Int.mul_ediv_cancel_left _ (by have := q.den_pos; omega)
  rw [e1, Rat.intCast_mul, Rat.natCast_mul, Rat.intCast_natCast, ← Rat.mul_assoc]
  congr 1
  have h1 : q = mkRat q.num q.den := (Rat.mkRat_self q).symm
  rw [Rat.mkRat_eq_div] at h1
  have hd : ((q.den : Nat) : Rat) ≠ 0 := fun z => q.den_nz (Rat.natCast_eq_zero_iff.mp z)
  have h2 : ((q.num : Int) : Rat) / ((q.den : Nat) : Rat) * ((q.den : Nat) : Rat) = ((q.num : Int) : Rat) := Rat.div_mul_cancel hd
  rw [← h1] at h2
  exact h2.symm
theorem pf_ext {xs ys : List Rat} (hl : xs.length = ys.length) (h : ∀ i, i < xs.length → pf xs i = pf ys i) : xs = ys := by
  refine List.ext_getElem? fun i => ?_
  by_cases hi : i < xs.length
  · have := h i hi
    unfold pf at this
    rw [at_of_getD (d := 0) hi, at_of_getD (d := 0) (show i < ys.length by omega), this]
  · rw [List.getElem?_eq_none (by omega), List.getElem?_eq_none (by omega)]
theorem pure_law {K : PySem.W.Frag} {mg : Str → Option Value} (T : Txt K mg) (vs : List V) (H : Hp) (Q : VK) (E : XK) (h : sp_law K vs H Q E) : t_law K { nx := fun _ H' => Q .non H', rt := Q } (start N_law vs) H := by
  obtain ⟨_, rfl, s, ns, rfl, hs, hl63, q⟩ := h
  unfold t_law
  apply q_asg
  apply c_call1 (val_var rfl)
  refine ⟨_, rfl, ns, ⟨s, rfl, hs⟩, hl63, fun a b H1 ha s1 g1 => ?_⟩
  apply q_asgG
  apply c_call1 (val_var rfl)
  refine ⟨_, rfl, a, b, rfl, g1, fun t w1 w2 ws cs H2 x2 g2 hT ⟨ok, p1, p2, cv, ew1, ew2, n1, n2, e1, e2, al⟩ => ?_⟩
  subst ew1 ew2
  refine ⟨t, [.ref p1, .ref p2], rfl, hT, rfl, _, [.ref p2], rfl, _, [], rfl, rfl, ?_⟩
  have hW : isLI K H2 (.ref p1) ws := ⟨p1, rfl, SqL.of e1⟩
  have hC : isL K H2 (isC K H2) (.ref p2) cs := ⟨p2, cv, rfl, SqL.of e2, al⟩
  have c16 := ok.n16
  have m6 := ok.m6
  have S := ok.sha
  -- no claims
  apply q_ifc0
  apply t_op
  apply (val_var rfl : Val (tVar 3) [some (.ref s), some (.ref a), some (.ref p1), some (.ref p2), none, none, none, none, none, none, none, none, none, none, none, none, none, none] H2 (.ref p2))
  apply c_lst0
  intro np hnp
  have s3 := same_new (o := .lst []) hnp
  have e3 : (upd H2 np (.lst [])) np = some (.lst []) := upd_same
  have g3 := g2.same s3
  generalize upd H2 np (.lst []) = H3 at s3 e3 g3 ⊢
  have hW3 := hW.mono s3
  have hC3 := hC.monoC s3
  refine eqD_nil (k := 2) (dp_LC hC3) sd_C (by decide) rfl (SqL.of e3) ⟨_, rfl, ?_⟩
  by_cases hne : cs = []
  · rw [decide_eq_true hne]
    refine iteT ?_
    apply s_retc
    show tCall _ _ _ _ _ _ _
    apply c_call2 (val_var rfl) (val_var rfl)
    refine ⟨_, _, rfl, ws, cs, D0, V0, 1, M0, eN cs, hW3, hC3, S, fun p ys qs N H4 hp s4 e4 al4 ql sh dN n0 hN hz => ?_⟩
    apply c_lst0
    intro np2 hnp2
    have s5 := same_new (o := .lst []) hnp2
    have hq : qs = [] := List.eq_nil_of_length_eq_zero (by rw [ql, hne]; rfl)
    refine eqD_nil (k := 1) (dp_LP ⟨p, ys, rfl, SqL.of (s5 _ _ e4), al4.mono fun v x z => z.mono (tk_of s5)⟩) sd_P (by decide) rfl (SqL.of upd_same) ?_
    rw [decide_eq_true hq]
    exact q _
  rw [decide_eq_false hne]
  refine iteF ?_
  have npos : 0 < cs.length := List.length_pos_iff.mpr hne
  -- the sharing out
  apply q_asg
  apply c_call2 (val_var rfl) (val_var rfl)
  refine ⟨_, _, rfl, ws, cs, D0, V0, 1, M0, eN cs, hW3, hC3, S, fun fp fv qs N H4 hfp s4 e4 al4 ql sh dN n0 hN hz => ?_⟩
  have R := S.rowOk ql sh n0 hN hz
  have hW4 := hW3.mono s4
  have hC4 := hC3.monoC s4
  have hP4 : isL K H4 (isP K H4) (.ref fp) qs := ⟨fp, fv, rfl, SqL.of e4, al4⟩
  have g4 := g3.same s4
  apply q_if0 (ans_vt (val_op (z := .bl (decide (L2.V.ref fp = L2.V.non))) (val_var rfl) val_c fun Q q => ⟨rfl, q⟩))
  · intro z
    have z := of_decide_eq_true z
    cases z
  intro _
  -- the table
  obtain ⟨wa, ewa, hws⟩ := hW4
  cases ewa
  obtain ⟨ca, cv4, eca, hcs, cal⟩ := id hC4
  cases eca
  obtain ⟨fa, fv4, efa, hfs, fal⟩ := id hP4
  cases efa
  apply q_asg
  apply c_call3d
  refine c_listL (val_var rfl) hws fun a1 ha1 => ?_
  have t1 := same_new (o := .lst (ws.map L2.V.int)) ha1
  have d1 : (upd H4 a1 (.lst (ws.map L2.V.int))) a1 = some (.lst (ws.map L2.V.int)) := upd_same
  generalize upd H4 a1 (.lst (ws.map L2.V.int)) = Ha at t1 d1 ⊢
  refine c_listL (val_var rfl) (t1.seq hcs) fun a2 ha2 => ?_
  have t2 := same_new (o := .lst cv4) ha2
  have d2 : (upd Ha a2 (.lst cv4)) a2 = some (.lst cv4) := upd_same
  generalize upd Ha a2 (.lst cv4) = Hb at t2 d2 ⊢
  refine c_listL (val_var rfl) ((t1.trans t2).seq hfs) fun a3 ha3 => ?_
  have t3 := same_new (o := .lst fv4) ha3
  have d3 : (upd Hb a3 (.lst fv4)) a3 = some (.lst fv4) := upd_same
  generalize upd Hb a3 (.lst fv4) = Hc at t3 d3 ⊢
  have t4c := (t1.trans t2).trans t3
  refine ⟨_, _, _, rfl, ws, cs, qs, N, V0, ⟨a1, rfl, SqL.of (t3 _ _ (t2 _ _ d1))⟩, ⟨a2, cv4, rfl, SqL.of (t3 _ _ d2), cal.mono fun v x z => z.mono (tk_of t4c)⟩, ⟨a3, fv4, rfl, SqL.of d3, fal.mono fun v x z => z.mono (tk_of t4c)⟩, R, sh.pay, fun pr Rs zs H5 hpr t5 hR5 ce tab izR => ?_⟩
  have s45 := t4c.trans t5
  have g5 := g4.same s45
  have hW5 : isLI K H5 (.ref p1) ws := ⟨p1, rfl, s45.seq hws⟩
  have hC5 := hC4.monoC s45
  have hP5 := hP4.monoP s45
  apply q_ifc0
  apply t_notB
  apply c_call4 (val_var rfl) (val_var rfl) (val_var rfl) (val_var rfl)
  refine ⟨_, _, _, _, rfl, ws, cs, qs, Rs, zs, N, V0, hW5, hC5, hP5, hR5, R, ce, tab, izR, fun H6 s6 => ⟨true, rfl, iteF ?_⟩⟩
  have g6 := g5.same s6
  have hW6 := hW5.mono s6
  have hC6 := hC5.monoC s6
  have hP6 := hP5.monoP s6
  have hR6 := isR.mono s6 hR5
  -- who goes
  have vlc : Val (tCB (kLen K) (tCons (tVar 3) tNil)) [some (.ref s), some (.ref a), some (.ref p1), some (.ref p2), some (.ref fp), some (.ref pr), none, none, none, none, none, none, none, none, none, none, none, none] H6 (nv cs.length) := by
    obtain ⟨x, xs, ex, hxs, xal⟩ := hC6
    cases ex
    have := v_lenL (K := K) (ta := tVar 3) (σ := [some (.ref s), some (.ref a), some (.ref p1), some (.ref p2), some (.ref fp), some (.ref pr), none, none, none, none, none, none, none, none, none, none, none, none]) (val_var rfl) hxs
    rwa [xal.1] at this
  apply q_asg
  refine c_pull (n := cs.length) (val_var rfl) vlc g6 npos (by omega) fun at_ H7 hat x7 g7 => ?_
  have hW7 := isLI.bx g6 x7 hW6
  have hC7 := isL.bxC g6 x7 hC6
  have hP7 := isL.bxP g6 x7 hP6
  have hR7 := isR.bx g6 x7 hR6
  have cell : ∀ f, f < ws.length → 0 ≤ rt Rs at_ f ∧ rt Rs at_ f ≤ (csOf ws cs).w f ∧ Fit (rt Rs at_ f) ∧ (rt Rs at_ f).den ∣ N := fun f hf => by
    have h1 := tab.nn at_ f hat hf
    have h2 : rt Rs at_ f ≤ (csOf ws cs).w f := Rat.le_trans (sm_le_one (f := fun i => rt Rs i f) (n := cs.length) hat fun i hi => tab.nn i f hi hf) (tab.col f hf)
    exact ⟨h1, h2, fit_nn R.bd (izR at_ f hat hf) h1 (Rat.le_trans h2 (w_le R hf)), (izR at_ f hat hf).dvd⟩
  have nB := R.bd.nb
  walk_at "set"
  obtain ⟨ra, rv, era, hrs, ral⟩ := id hR7
  cases era
  obtain ⟨rx, erx, hrx⟩ := ral.get (at_of_getD (d := []) (show at_ < Rs.length by rw [ce.rl]; exact hat))
  obtain ⟨rowa, rowv, erow, hrow, rowal⟩ := id hrx
  subst erow
  have rowl : rowv.length = ws.length := by rw [rowal.1, ce.cl at_ hat]
  refine q_forL (xs := rowv) (fun i σ H' => H' = H7 ∧ ∃ (by_ : Nat) (y : Option L2.V), σ = [some (.ref s), some (.ref a), some (.ref p1), some (.ref p2), some (.ref fp), some (.ref pr), some (nv at_), some (nv by_), y, none, none, none, none, none, none, none, none, none] ∧ 0 < by_ ∧ by_ ∣ N ∧ ∀ f, f < i → (rt Rs at_ f).den ∣ by_)
    (v_ixL (val_var rfl) (val_var rfl) hrs erx) hrow ⟨rfl, 1, none, rfl, by decide, ⟨N, (Nat.one_mul N).symm⟩, fun f hf => absurd hf (by omega)⟩ (fun i σ H' _ z => by rw [z.1]; exact hrow) ?_ ?_
  · rintro i x σ H' hx ⟨rfl, by_, y, rfl, b0, bN, bd⟩
    have hi : i < ws.length := by
      rw [← rowl]
      exact (List.getElem?_eq_some_iff.mp hx).1
    obtain ⟨r, hr, hxr⟩ := rowal.got hx
    have er : r = rt Rs at_ i := by
      unfold rt pf
      rw [getD_of hr]
    subst er
    obtain ⟨_, _, _, dvd⟩ := cell i hi
    have dl := Nat.le_of_dvd n0 dvd
    have bl := Nat.le_of_dvd n0 bN
    have dpos := (rt Rs at_ i).den_pos
    have gpos : 0 < Nat.gcd by_ (rt Rs at_ i).den := Nat.gcd_pos_of_pos_left _ b0
    have gle : Nat.gcd by_ (rt Rs at_ i).den ≤ by_ := Nat.gcd_le_left _ b0
    have vd := v_den (K := K) (ta := tVar 8) (σ := [some (.ref s), some (.ref a), some (.ref p1), some (.ref p2), some (.ref fp), some (.ref pr), some (nv at_), some (nv by_), some x, none, none, none, none, none, none, none, none, none]) (H := H') (val_var rfl) hxr
    have vg : Val (tCall (sp_Lgcd K) [] E0 (tCons (tVar 7) (tCons (tOp (rIxT K) (tVar 8) (tC (.int 1))) tNil))) [some (.ref s), some (.ref a), some (.ref p1), some (.ref p2), some (.ref fp), some (.ref pr), some (nv at_), some (nv by_), some x, none, none, none, none, none, none, none, none, none] H' (.int ((Nat.gcd by_ (rt Rs at_ i).den : Nat) : Int)) := fun Q' q' => by
      apply c_call2 (val_var rfl) vd
      refine ⟨_, _, rfl, _, _, rfl, rfl, ?_⟩
      rw [Int.natAbs_natCast, Int.natAbs_natCast]
      exact q'
    have cm : CMulX (by_ : Int) (((rt Rs at_ i).den : Int) / ((Nat.gcd by_ (rt Rs at_ i).den : Nat) : Int)) := by
      refine mulB (by rw [Int.natAbs_natCast]; omega) ?_
      rw [← Int.natCast_ediv, Int.natAbs_natCast]
      have := Nat.div_le_self (rt Rs at_ i).den (Nat.gcd by_ (rt Rs at_ i).den)
      omega
    apply s_set (v_mul (val_var rfl) (v_div vd vg (bs_small gpos (by omega) _)) cm)
    have elcm : ((by_ : Int) * (((rt Rs at_ i).den : Int) / ((Nat.gcd by_ (rt Rs at_ i).den : Nat) : Int))) = ((Nat.lcm by_ (rt Rs at_ i).den : Nat) : Int) := by
      rw [← Int.natCast_ediv, ← Int.natCast_mul]
      congr 1
      unfold Nat.lcm
      rw [Nat.mul_div_assoc _ (Nat.gcd_dvd_right _ _)]
    rw [elcm]
    refine ⟨rfl, _, _, rfl, Nat.lcm_pos b0 dpos, Nat.lcm_dvd bN dvd, fun f hf => ?_⟩
    by_cases e : f = i
    · subst e
      exact Nat.dvd_lcm_right _ _
    · exact Nat.dvd_trans (bd f (by omega)) (Nat.dvd_lcm_left _ _)
  rintro σ H' ⟨rfl, by_, y8, rfl, b0, bN, bd⟩
  rw [rowl] at bd
  have bl := Nat.le_of_dvd n0 bN
  -- what is left
  apply q_asg
  apply c_lst0
  intro lp hlp
  have s8 := same_new (o := .lst []) hlp
  have e8 : (upd H' lp (.lst [])) lp = some (.lst []) := upd_same
  generalize upd H' lp (.lst []) = H8 at s8 e8 ⊢
  have hW8 := hW7.mono s8
  have hC8 := hC7.monoC s8
  have hP8 := hP7.monoP s8
  have hR8 := isR.mono s8 hR7
  obtain ⟨wa8, ewa8, hws8⟩ := id hW8
  cases ewa8
  have vlw : Val (tCB (kLen K) (tCons (tVar 2) tNil)) [some (.ref s), some (.ref a), some (.ref p1), some (.ref p2), some (.ref fp), some (.ref pr), some (nv at_), some (nv by_), y8, some (.ref lp), none, none, none, none, none, none, none, none] H8 (nv ws.length) := by
    have := v_lenL (K := K) (ta := tVar 2) (σ := [some (.ref s), some (.ref a), some (.ref p1), some (.ref p2), some (.ref fp), some (.ref pr), some (nv at_), some (nv by_), y8, some (.ref lp), none, none, none, none, none, none, none, none]) (val_var rfl) hws8
    rwa [List.length_map] at this
  refine q_forR (n := ws.length) (fun i σ H9 => Same H' H9 ∧ ∃ (ls : List Int) (y10 y11 : Option L2.V), σ = [some (.ref s), some (.ref a), some (.ref p1), some (.ref p2), some (.ref fp), some (.ref pr), some (nv at_), some (nv by_), y8, some (.ref lp), y10, y11, none, none, none, none, none, none] ∧ H9 lp = some (.lst (ls.map L2.V.int)) ∧ ls.length = i ∧
      ∀ f, f < i → ((ls.getD f 0 : Int) : Rat) = (by_ : Rat) * (((ws.getD f 0 : Int) : Rat) - rt Rs at_ f)) vlw (by omega) ⟨s8, [], none, none, rfl, e8, rfl, fun f hf => absurd hf (by omega)⟩ ?_ ?_
  · rintro f σ H9 hf ⟨s9, ls, y10, y11, rfl, e9, l9, v9⟩
    obtain ⟨wa9, ewa9, hws9⟩ := hW7.mono s9
    cases ewa9
    obtain ⟨cx, vcx, hcx⟩ := v_cell (tr := tVar 5) (ti := tVar 6) (tf := tVar 10) (σ := [some (.ref s), some (.ref a), some (.ref p1), some (.ref p2), some (.ref fp), some (.ref pr), some (nv at_), some (nv by_), y8, some (.ref lp), some (nv f), y11, none, none, none, none, none, none]) (val_var rfl) (val_var rfl) (val_var rfl) (isR.mono s9 hR7) (by rw [ce.rl]; exact hat) (by rw [ce.cl at_ hat]; exact hf)
    apply q_set vcx
    obtain ⟨_, _, fitc, _⟩ := cell f hf
    have dv := bd f hf
    have dpos := (rt Rs at_ f).den_pos
    have hw12 := ok.w0 _ (List.mem_of_getElem? (at_of_getD (d := 0) hf))
    have cm1 : CMulX (ws.getD f 0) (by_ : Int) := mulB (small_B1 (by omega)) (by rw [Int.natAbs_natCast]; omega)
    have cm2 : CMulX (rt Rs at_ f).num ((by_ : Int) / ((rt Rs at_ f).den : Int)) := by
      refine mulB fitc.1 ?_
      rw [← Int.natCast_ediv, Int.natAbs_natCast]
      have := Nat.div_le_self by_ (rt Rs at_ f).den
      omega
    refine s_app (val_var rfl) (v_sub (v_mul (v_ixL (val_var rfl) (val_var rfl) hws9 (int_at hf)) (val_var rfl) cm1) (v_mul (v_num (val_var rfl) hcx) (v_div (val_var rfl) (v_den (val_var rfl) hcx) (bs_small dpos fitc.2 _)) cm2)) e9 (by rw [List.length_map]; omega) ?_
    refine ⟨same_mut s9 hlp, ls ++ [ws.getD f 0 * (by_ : Int) - (rt Rs at_ f).num * ((by_ : Int) / ((rt Rs at_ f).den : Int))], _, _, rfl, ?_, by rw [List.length_append, l9]; rfl, fun k hk => ?_⟩
    · rw [List.map_append]
      exact upd_same
    · by_cases e : k = f
      · subst e
        have : (ls ++ [ws.getD k 0 * (by_ : Int) - (rt Rs at_ k).num * ((by_ : Int) / ((rt Rs at_ k).den : Int))]).getD k 0 = ws.getD k 0 * (by_ : Int) - (rt Rs at_ k).num * ((by_ : Int) / ((rt Rs at_ k).den : Int)) := getD_of (by
          rw [List.getElem?_append_right (by omega), l9, Nat.sub_self]
          rfl)
        rw [this, Rat.intCast_sub, part_mul dv, Rat.intCast_mul, Rat.intCast_natCast]
        grind
      · have : (ls ++ [ws.getD f 0 * (by_ : Int) - (rt Rs at_ f).num * ((by_ : Int) / ((rt Rs at_ f).den : Int))]).getD k 0 = ls.getD k 0 := by
          rw [List.getD_eq_getElem?_getD, List.getElem?_append_left (by omega), ← List.getD_eq_getElem?_getD]
        rw [this]
        exact v9 k (by omega)
  rintro σ H9 ⟨s9, ls, y10, y11, rfl, e9, l9, v9⟩
  have hC9 := hC7.monoC s9
  have hP9 := hP7.monoP s9
  obtain ⟨c9, cv9, ec9, hcs9, cal9⟩ := id hC9
  cases ec9
  have er := red_eq ce hat l9 v9
  have S2 := red_sha ok tab hat l9 b0 (Nat.le_trans bl hN) er
  have fby : Fit ((by_ : Nat) : Rat) := fit_nat (by omega)
  -- the others
  apply q_asg
  refine c_sans (n := at_) (p := p2) (xs := cv9) (fun _ => val_var rfl) (fun _ => val_var rfl) (fun _ => v_add (val_var rfl) val_c) hcs9 (by rw [cal9.1]; omega) (by rw [cal9.1]; exact hat) fun op HA hop sA eA => ?_
  have s7A := s9.trans sA
  have alo : All2 (isC K HA) (sans cv9 at_) (sans cs at_) := (cal9.mono fun v x z => z.mono (tk_of sA)).sans at_
  have slen : (sans cs at_).length = cs.length - 1 := sans_len cs hat
  apply q_asg
  refine c_lcGG (a := op) (xs := sans cv9 at_) (fun p i HB => Same HA HB ∧ ∃ ys, HB p = some (.lst ys) ∧ All2 (isC K HB) ys (((sans cs at_).take i).map (grow by_))) (val_var rfl) (SqL.of eA) (fun p hp => ⟨same_new hp, [], upd_same, All2.nil⟩) (fun p i HB I => SqL.of (I.1 _ _ eA)) (fun p i x HB hp hx I => ?_) (fun gp HB hgp I => ?_)
  · obtain ⟨sB, ys, eB, alB⟩ := I
    obtain ⟨c, hc, hxc⟩ := alo.got hx
    have hi := (List.getElem?_eq_some_iff.mp hc).1
    obtain ⟨xa, xd, xt, rfl, hxT, hxd, hxt⟩ := hxc.mono (tk_of sB)
    have edue : Fit c.due := by
      have h := sans_getD cs hat i dCl
      rw [getD_of hc] at h
      rw [h]
      exact S.fitD (by unfold skip; split <;> omega)
    refine ⟨xa, _, rfl, hxT, rfl, _, _, rfl, _, _, rfl, _, [], rfl, rfl, rfl, lcT_yes ?_⟩
    apply c_tup3c
    apply c_call2c
    refine ⟨_, rfl, ?_⟩
    refine c_tup2 (val_var rfl) val_c fun p5 hp5 => ?_
    have sC := same_new (o := .tup [nv by_, L2.V.int 1]) hp5
    have hby : isP K (upd HB p5 (.tup [nv by_, L2.V.int 1])) (.ref p5) ((by_ : Nat) : Rat) := by
      rw [← Rat.intCast_natCast]
      exact part_int upd_same
    generalize upd HB p5 (.tup [nv by_, L2.V.int 1]) = HC at sC hby ⊢
    refine ⟨_, _, rfl, c.due, _, hxd.mono (tk_of sC), hby, edue, fby, fun vd HD sD hvd => ?_⟩
    refine ⟨_, rfl, _, rfl, by show 3 ≤ sizeLine; decide, fun p6 hp6 => ?_⟩
    have sE := same_new (o := .tup [vd, xt, .int c.rk]) hp6
    have eE : (upd HD p6 (.tup [vd, xt, .int c.rk])) p6 = some (.tup [vd, xt, .int c.rk]) := upd_same
    generalize upd HD p6 (.tup [vd, xt, .int c.rk]) = HE at sE eE ⊢
    have sBE := (sC.trans sD).trans sE
    have eBE := sBE _ _ eB
    have k9 : TK HE (upd HE p (.lst (ys ++ [.ref p6]))) := tk_lst eBE
    refine ⟨ys, eBE, ?_, same_mut (sB.trans sBE) hp, _, upd_same, ?_⟩
    · rw [alB.1, List.length_map, List.length_take]
      exact Nat.lt_of_lt_of_le (show _ < 1000 by omega) (by decide)
    · have take1 : ((sans cs at_).take (i + 1)).map (grow by_) = ((sans cs at_).take i).map (grow by_) ++ [grow by_ c] := by
        rw [List.take_add_one, hc, List.map_append]
        rfl
      rw [take1]
      refine (alB.mono fun v x z => (z.mono (tk_of sBE)).mono k9).snoc (isC.mono k9 ⟨p6, vd, xt, rfl, SqT.of eE, hvd.mono (tk_of sE), hxt.mono (tk_of sBE)⟩)
  obtain ⟨sB, ys, eB, alB⟩ := I
  have etake : (sans cs at_).take (sans cv9 at_).length = sans cs at_ := List.take_of_length_le (by rw [alo.1]; exact Nat.le_refl _)
  rw [etake] at alB
  have s7B := s7A.trans sB
  have hP10 := hP7.monoP s7B
  obtain ⟨f10, fv10, ef10, hfs10, fal10⟩ := id hP10
  cases ef10
  -- their parts
  apply q_asg
  apply c_lcLc
  have hatq : at_ < qs.length := by rw [ql]; exact hat
  refine c_sans (n := at_) (p := fp) (xs := fv10) (fun _ => val_var rfl) (fun _ => val_var rfl) (fun _ => v_add (val_var rfl) val_c) hfs10 (by rw [fal10.1, ql]; omega) (by rw [fal10.1]; exact hatq) fun qp HC hqp sC eC => ?_
  have alq : All2 (isP K HC) (sans fv10 at_) (sans qs at_) := (fal10.mono fun v x z => z.mono (tk_of sC)).sans at_
  have qlen : (sans qs at_).length = cs.length - 1 := by rw [sans_len qs hatq, ql]
  refine c_lcL (fun _ => true) (fun k v HD => isP K HD v (pf (sans qs at_) k * ((by_ : Nat) : Rat))) hR_P val_c (SqL.of eC) (by rw [alq.1, qlen]; omega) (fun k x HD _ _ Q k => k) (fun k x HD hk sD _ => ?_) ?_
  · obtain ⟨r, hr, hxr⟩ := alq.got hk
    have hk2 := (List.getElem?_eq_some_iff.mp hr).1
    have er : pf (sans qs at_) k = r := getD_of hr
    have fr : Fit r := by
      have h := sans_getD qs hatq k 0
      rw [getD_of hr] at h
      rw [h]
      exact R.fit (i := skip at_ k) (by unfold skip; split <;> omega)
    intro Q' q'
    apply c_call2c
    refine ⟨_, rfl, ?_⟩
    refine c_tup2 (val_var rfl) val_c fun p5 hp5 => ?_
    have sE := same_new (o := .tup [nv by_, L2.V.int 1]) hp5
    have hby : isP K (upd HD p5 (.tup [nv by_, L2.V.int 1])) (.ref p5) ((by_ : Nat) : Rat) := by
      rw [← Rat.intCast_natCast]
      exact part_int upd_same
    generalize upd HD p5 (.tup [nv by_, L2.V.int 1]) = HE at sE hby ⊢
    refine ⟨_, _, rfl, r, _, hxr.mono (tk_of (sD.trans sE)), hby, fr, fby, fun v HF sF hv => q' _ _ (sE.trans sF) ?_⟩
    rw [er]
    exact hv
  intro dp dv HD hdp sD eD alD
  rw [kept_all, alq.1] at alD
  have ald : All2 (isP K HD) dv ((sans qs at_).map fun r => r * ((by_ : Nat) : Rat)) := by
    refine ⟨by rw [alD.1, List.length_range, List.length_map], fun k v x h1 h2 => ?_⟩
    rw [List.getElem?_map] at h2
    obtain ⟨r, hr, rfl⟩ := Option.map_eq_some_iff.mp h2
    have hk := (List.getElem?_eq_some_iff.mp hr).1
    have h3 : isP K HD v (pf (sans qs at_) k * ((by_ : Nat) : Rat)) := alD.2 k v k h1 (List.getElem?_range hk)
    have er : pf (sans qs at_) k = r := getD_of hr
    rw [er] at h3
    exact h3
  have s9D := ((sA.trans sB).trans sC).trans sD
  have sBD := sC.trans sD
  apply s_retc
  show tCall _ _ _ _ _ _ _
  apply c_call2 (val_var rfl) (val_var rfl)
  refine ⟨_, _, rfl, ls, (sans cs at_).map (grow by_), D0, by_ * V0, by_, M0, fun i => eN cs (skip at_ i), ⟨lp, rfl, SqL.of (s9D _ _ e9)⟩, ⟨gp, ys, rfl, SqL.of (sBD _ _ eB), alB.mono fun v x z => z.mono (tk_of sBD)⟩, S2, fun p9 ys9 qs9 N9 H10 hp9 s10 e10 al10 ql9 sh9 _ _ _ _ => ?_⟩
  have sh0 := Cs.red_sh sh tab hat (D := ((by_ : Nat) : Rat)) (Rat.natCast_lt_natCast.mpr b0)
  rw [← er] at sh0
  have uq := Cs.uniq sh9 sh0
  have hlen9 : qs9.length = cs.length - 1 := by rw [ql9, List.length_map, slen]
  have eqq : qs9 = (sans qs at_).map fun r => r * ((by_ : Nat) : Rat) := by
    refine pf_ext (by rw [hlen9, List.length_map, qlen]) fun i hi => ?_
    have h1 := uq i (by rw [er]; show i < cs.length - 1; omega)
    rw [h1]
    show ((by_ : Nat) : Rat) * pf qs (skip at_ i) = pf ((sans qs at_).map fun r => r * ((by_ : Nat) : Rat)) i
    have h2 : pf ((sans qs at_).map fun r => r * ((by_ : Nat) : Rat)) i = pf (sans qs at_) i * ((by_ : Nat) : Rat) := map_getD (fun r => r * ((by_ : Nat) : Rat)) _ _ 0 0 (Rat.zero_mul _)
    have h3 : pf (sans qs at_) i = pf qs (skip at_ i) := sans_getD qs hatq i 0
    rw [h2, h3, Rat.mul_comm]
  apply (val_var rfl : Val (tVar 14) [some (.ref s), some (.ref a), some (.ref p1), some (.ref p2), some (.ref fp), some (.ref pr), some (nv at_), some (nv by_), y8, some (.ref lp), y10, y11, some (.ref op), some (.ref gp), some (.ref dp), none, none, none] H10 (.ref dp))
  have dA : Dp K H10 (.ref p9) (.list (qs9.map dP)) := dp_LP ⟨p9, ys9, rfl, SqL.of e10, al10⟩
  have dB : Dp K H10 (.ref dp) (.list (qs9.map dP)) := by
    rw [eqq]
    exact dp_LP ⟨dp, dv, rfl, SqL.of (s10 _ _ eD), ald.mono fun v x z => z.mono (tk_of s10)⟩
  exact eqD_refl dA dB (sd_L sd_P qs9) (by decide) (q _)
theorem law_facts {P : Program} {w : World} {K : PySem.W.Frag} {mg : Str → Option Value} (T : Txt K mg) : ∃ fd : FuncData, (∀ (s : Shared) (v : Value), BindsTo s fd ⟨[v], []⟩ [("_law_script", v)]) ∧ ∀ base : Heap, FnOk P w K mg base CX0 10 (He.ga K "law") fd ["_law_script"] (sp_law K) := by
  obtain ⟨fd, F0⟩ := T.c.def_ 50 (d := d_law) rfl
  have F : FnP K "law" s_law (He.ga K "law") fd := F0
  have bd := FunD.bindsA (ps := ["_law_script"]) F fun _ _ _ _ _ _ us hl => match us, hl with | [_], _ => rfl
  refine ⟨fd, fun s v => bd s [v] rfl, fun base => ?_⟩
  have h_Lbag := ok_Lbag (P := P) (w := w) (base := base) T
  have h_Lcase := ok_Lcase (P := P) (w := w) (base := base) T
  have h_Lshared := ok_Lshared (P := P) (w := w) (base := base) T
  have h_table := ok_table (P := P) (w := w) (base := base) T
  have h_Lgood_table := ok_Lgood_table (P := P) (w := w) (base := base) T
  have h_Lpull := ok_Lpull (P := P) (w := w) (base := base) T
  have h_Lgcd := ok_Lgcd (P := P) (w := w) (base := base) T
  have h_Ltimes := ok_Ltimes (P := P) (w := w) (base := base) T
  refine F.ok sc_law (fun vs H Q E h => ?_) (fun cdv A outer s H vs Q E hr h => ⟨t_law K, PSs.nox ?_, pure_law T vs H Q E h⟩)
  · obtain ⟨_, rfl, _⟩ := h
    rfl
  · exact (pss_cons (ps_set (i := 1) sc_law.nd rfl (by first | exact Or.inl rfl | exact Or.inr rfl) (pe_cf h_Lbag hr (by decide) rfl (pa_cons (pv 0) pa_nil)))
  (pss_cons (ps_asg (pe_cf h_Lcase hr (by decide) rfl (pa_cons (pv 1) pa_nil)) (pg_tup rfl (pgs_cons (pg_name (i := 2) sc_law.nd rfl (by first | exact Or.inl rfl | exact Or.inr rfl)) (pgs_cons (pg_name (i := 3) sc_law.nd rfl (by first | exact Or.inl rfl | exact Or.inr rfl)) pgs_nil))))
  (pss_cons (ps_if (pt_cmpR (op_eqD hr.units) (pv 3) (pe_lst pa_nil) (nomark _))
  (pss_one (ps_ret (pe_cmpR (op_eqD hr.units) (pe_cf h_Lshared hr (by decide) rfl (pa_cons (pv 2) (pa_cons (pv 3) pa_nil))) (pe_lst pa_nil) (nomark _))))
  pss_nil)
  (pss_cons (ps_set (i := 4) sc_law.nd rfl (by first | exact Or.inl rfl | exact Or.inr rfl) (pe_cf h_Lshared hr (by decide) rfl (pa_cons (pv 2) (pa_cons (pv 3) pa_nil))))
  (pss_cons (ps_if (pt_cmpR op_isN (pv 4) pe_non (nomark _))
  (pss_one (ps_ret pe_bl))
  pss_nil)
  (pss_cons (ps_set (i := 5) sc_law.nd rfl (by first | exact Or.inl rfl | exact Or.inr rfl) (pe_cf h_table hr (by decide) rfl (pa_cons (pe_callTy call_list_of (by rfl) (T.free 59 rfl) (by decide +kernel) (pa_cons (pv 2) pa_nil)) (pa_cons (pe_callTy call_list_of (by rfl) (T.free 59 rfl) (by decide +kernel) (pa_cons (pv 3) pa_nil)) (pa_cons (pe_callTy call_list_of (by rfl) (T.free 59 rfl) (by decide +kernel) (pa_cons (pv 4) pa_nil)) pa_nil)))))
  (pss_cons (ps_if (pt_not (pt_val (pe_cf h_Lgood_table hr (by decide) rfl (pa_cons (pv 2) (pa_cons (pv 3) (pa_cons (pv 4) (pa_cons (pv 5) pa_nil)))))))
  (pss_one (ps_ret pe_bl))
  pss_nil)
  (pss_cons (ps_set (i := 6) sc_law.nd rfl (by first | exact Or.inl rfl | exact Or.inr rfl) (pe_cf h_Lpull hr (by decide) rfl (pa_cons (pv 1) (pa_cons (pe_callB call_len_seq (by rfl) (T.free 57 rfl) PySem.boot_len (pa_cons (pv 3) pa_nil)) pa_nil))))
  (pss_cons (ps_set (i := 7) sc_law.nd rfl (by first | exact Or.inl rfl | exact Or.inr rfl) pe_int)
  (pss_cons (ps_for PassesOwn.never rfl (pi_list (pe_ix ix_list (pv 5) (pv 6) (fun _ _ => rfl))) (pg_name (i := 8) sc_law.nd rfl (by first | exact Or.inl rfl | exact Or.inr rfl))
  (pss_one (ps_set (i := 7) sc_law.nd rfl (by first | exact Or.inl rfl | exact Or.inr rfl) (pe_op op_mulX (pv 7) (pe_op op_fdivW (pe_ix ix_tup (pv 8) pe_int (fun _ _ => rfl)) (pe_cf h_Lgcd hr (by decide) rfl (pa_cons (pv 7) (pa_cons (pe_ix ix_tup (pv 8) pe_int (fun _ _ => rfl)) pa_nil))))))))
  (pss_cons (ps_set (i := 9) sc_law.nd rfl (by first | exact Or.inl rfl | exact Or.inr rfl) (pe_lst pa_nil))
  (pss_cons (ps_for PassesOwn.never rfl (pi_range1 (by rfl) (T.free 54 rfl) (pa_cons (pe_callB call_len_seq (by rfl) (T.free 57 rfl) PySem.boot_len (pa_cons (pv 2) pa_nil)) pa_nil)) (pg_name (i := 10) sc_law.nd rfl (by first | exact Or.inl rfl | exact Or.inr rfl))
  (pss_cons (ps_set (i := 11) sc_law.nd rfl (by first | exact Or.inl rfl | exact Or.inr rfl) (pe_ix ix_list (pe_ix ix_list (pv 5) (pv 6) (fun _ _ => rfl)) (pv 10) (fun _ _ => rfl)))
  (pss_one (ps_expr (pe_bm PySem.F.plainAttrs_list PySem.F.slot_list_append PySem.F.type_list_append mt_append (pv 9) (pa_cons (pe_op op_sub (pe_op op_mulX (pe_ix ix_list (pv 2) (pv 10) (fun _ _ => rfl)) (pv 7)) (pe_op op_mulX (pe_ix ix_tup (pv 11) pe_int (fun _ _ => rfl)) (pe_op op_fdivW (pv 7) (pe_ix ix_tup (pv 11) pe_int (fun _ _ => rfl))))) pa_nil))))))
  (pss_cons (ps_set (i := 12) sc_law.nd rfl (by first | exact Or.inl rfl | exact Or.inr rfl) (pe_op op_cat (pe_slice sl_list (pv 3) po_none (po_some (pv 6))) (pe_slice sl_list (pv 3) (po_some (pe_op op_add (pv 6) pe_int)) po_none)))
  (pss_cons (ps_setLc (i := 13) (own := [("_law_due_here", 14), ("_law_touched", 15), ("_law_rank", 16)]) (g := (gTup K 3 (gCons (gName 14) (gCons (gName 15) (gCons (gName 16) gNil))))) (tt := tYes) rfl sc_law.nd rfl rfl (sw_true rfl rfl rfl (by decide +kernel)) (pi_list (pv 12)) (blkOk_by (own := [("_law_due_here", 14), ("_law_touched", 15), ("_law_rank", 16)]) (N := N_law) (sc := defScope s_law) (by decide +kernel)) (fun _ _ _ _ _ => (pg_tup rfl (pgs_cons (pg_name (i := 14) sc_law.nd rfl (by first | exact Or.inl rfl | exact Or.inr rfl)) (pgs_cons (pg_name (i := 15) sc_law.nd rfl (by first | exact Or.inl rfl | exact Or.inr rfl)) (pgs_cons (pg_name (i := 16) sc_law.nd rfl (by first | exact Or.inl rfl | exact Or.inr rfl)) pgs_nil))))) (fun _ _ _ _ _ => pts_nil) (fun _ _ _ _ _ => (pe_tup (pa_cons (pe_cf h_Ltimes hr (by decide) rfl (pa_cons (pv 14) (pa_cons (pe_tup (pa_cons (pv 7) (pa_cons pe_int pa_nil))) pa_nil))) (pa_cons (pv 15) (pa_cons (pv 16) pa_nil))))))
  (pss_cons (ps_setLc (i := 14) (own := [("_law_part", 17)]) (g := (gName 17)) (tt := tYes) rfl sc_law.nd rfl rfl (sw_true rfl rfl rfl (by decide +kernel)) (pi_list (pe_op op_cat (pe_slice sl_list (pv 4) po_none (po_some (pv 6))) (pe_slice sl_list (pv 4) (po_some (pe_op op_add (pv 6) pe_int)) po_none))) (blkOk_by (own := [("_law_part", 17)]) (N := N_law) (sc := defScope s_law) (by decide +kernel)) (fun _ _ _ _ _ => (pg_name (i := 17) sc_law.nd rfl (by first | exact Or.inl rfl | exact Or.inr rfl))) (fun _ _ _ _ _ => pts_nil) (fun _ _ _ _ _ => (pe_cf h_Ltimes hr (by decide) rfl (pa_cons (pv 17) (pa_cons (pe_tup (pa_cons (pv 7) (pa_cons pe_int pa_nil))) pa_nil)))))
  (pss_one (ps_ret (pe_cmpR (op_eqD hr.units) (pe_cf h_Lshared hr (by decide) rfl (pa_cons (pv 9) (pa_cons (pv 13) pa_nil))) (pv 14) (nomark _)))))))))))))))))))
end KB

namespace KB
open PySem PySem.Spec PyProof.Rows L2
abbrev Rw : PySem.W.OpenRow := PySem.W.OpenLaw.row PySem.Challenge.rw_keelbond_k30_whole_who_goes_with_its_sha
def hk : PySem.W.Hook where
  α := He.AlD × Bool
  obs := fun s => (He.obsDG 4 fa fn s.heap.get?, bit (He.frG s.heap.get? (He.asD s.heap.get? 4)))
  val := fun _ => (He.valD fn, true)
  says := fun _ h => ∃ K : PySem.W.Frag, K.In h ∧ He.SaysD fa fn K ∧ bit K = true
  of := fun _ _ e => ⟨_, He.frG_in, congrArg (fun z : He.AlD × Bool => z.1) e, congrArg (fun z : He.AlD × Bool => z.2) e⟩
  keeps := fun _ _ _ ⟨K, hK, c⟩ k => ⟨K, PySem.W.Frag.In.keeps hK k, c⟩
def ob (s : PySem.W.SharedT) : He.AlD × Bool := (He.obsDG 4 fa fn (HandSHeadRun.getT s), bit (He.frG (HandSHeadRun.getT s) (He.asD (HandSHeadRun.getT s) 4)))
theorem ob_eq (s : PySem.W.SharedT) : ob s = hk.obs s.abs := by
  have e : HandSHeadRun.getT s = s.abs.heap.get? := funext fun a => HandSHeadRun.getT_eq s a
  unfold ob
  rw [e]
  rfl
def loose : List PySem.Str := (["KeelError", "BadPart", "Overdrawn", "NOUGHT", "WHOLE", "common", "lowest", "plus", "less", "times", "over", "below", "lesser", "nought_row", "heaps", "within", "heap_worth", "places_within", "load_of", "over_its_worth", "overdrawn", "room_and_need", "measured", "least_fill", "halted", "filled", "ranks_of", "shared", "stations", "road"] : List PySem.Str) ++ (["load_on_road", "move", "table", "_law_bag", "_law_pull", "_law_gcd", "_law_low", "_law_plus", "_law_times", "_law_below", "_law_sum", "_law_whole", "_law_pair", "_law_pairs", "_law_many", "_law_heap", "_law_worths", "_law_due", "_law_claims", "_law_ceil", "_law_tabled", "_law_good_row", "_law_good_table", "_law_case", "_law_shared"] : List PySem.Str)
set_option maxHeartbeats 0 in
theorem run (w : World) : HandSHeadRun.RunEq Rw (PySem.W.view Rw.prog [62]) hk ob 4000 loose w := by
  intro os
  kernel_rfl
end KB

open PySem PySem.W PySem.Calls PyProof.Rows
theorem PySem.Challenge.cw_keelbond_k30_whole_who_goes_with_its_sha_holds : PySem.Challenge.rw_keelbond_k30_whole_who_goes_with_its_sha.Holds := by
  w_on; o_law
  refine HandSHeadRun.head_any (r := OpenLaw.row PySem.Challenge.rw_keelbond_k30_whole_who_goes_with_its_sha) (q := view (OpenLaw.row PySem.Challenge.rw_keelbond_k30_whole_who_goes_with_its_sha).prog [62]) (H := KB.hk) (ob := KB.ob) (M := 4000) (loose := KB.loose)
    (d := HandSHeadRun.topDef (OpenLaw.row PySem.Challenge.rw_keelbond_k30_whole_who_goes_with_its_sha).prog 62) (kwd := []) KB.ob_eq
    (by kernel_rfl) (fun s => by kernel_rfl) KB.run (by kernel_rfl) (by kernel_rfl) (by kernel_rfl) (by rfl) (by first | assumption | decide +kernel) (by decide +kernel)
    ⟨rfl, rfl, rfl, rfl, rfl, by decide +kernel⟩ ?hw ?hc
  case hw => w_witness2
  case hc =>
    refine L2.walk_ofE (l := PySem.Challenge.rw_keelbond_k30_whole_who_goes_with_its_sha) (n := 63) (k := 10) (x := "_law_script") (CX := L2.CX0) rfl (by decide) (by kernel_rfl) ⟨rfl, by decide, by decide⟩ ?F (fun _ _ _ _ z => z)
    intro w mg fa h Y G hmg0
    obtain ⟨K, KX, c, b⟩ := Y
    have hmg : mg ("law" : PySem.Str) = some (.ref fa) := by
      have e : (HandSHeadRun.topDef (OpenLaw.row PySem.Challenge.rw_keelbond_k30_whole_who_goes_with_its_sha).prog 62).name = ("law" : PySem.Str) := by kernel_rfl
      rw [← e]
      exact hmg0
    have T : KB.Txt K mg := ⟨⟨h, KX, G⟩, c, b⟩
    have ea := hmg.symm.trans (T.glo 50 rfl)
    cases ea
    obtain ⟨fd, hb, hF⟩ := KB.law_facts (P := PySem.Challenge.rw_keelbond_k30_whole_who_goes_with_its_sha.prog) (w := w) T
    exact ⟨K, fd, KB.sp_law K, KX, hb, fun H a ns hl _ hS => ⟨_, rfl, a, ns, rfl, hS, hl, fun _ => rfl⟩, fun base _ _ => hF base⟩

import PyProof.Rows.All
import Wide.All
import OpenK.AllK
import Wide.FinOn
import PyProof.EqAt
import PyProof.EqKinds
import PyProof.TupleCall
import Open.SpecLaws
import KE.OsGo
import PySem.Challenge.RW_anyworths_k21_whole_coins_that_come_are
import HandS.ForExc
import HandS.Comp
import HandS.Dict
import HandS.Iter
import HandS.More
import HandS.Conv
import HandS.IsInst
import HandS.SortInts
import HandS.Set
import HandS.SetFor
import HandS.Strs
import HandS.Defaults
import HandS.TryMany
import HandS.ExcField
import HandS.ExcInit
import HandS.Small
import HandS.TupMul
import HandS.Flow
import KE.KExcSuper
import HandS.ExcSuper
import KE.GoesEnum
import HandS.Codes
set_option Elab.async false
/-! The mathematics of law k21, in plain Lean. -/
namespace K21
/-! ### sorting -/
def ins (c : Int) : List Int → List Int
  | [] => [c]
  | x :: xs => if c ≤ x then c :: x :: xs else x :: ins c xs
def srt : List Int → List Int
  | [] => []
  | x :: xs => ins x (srt xs)
theorem ins_perm (c : Int) : ∀ l : List Int, (ins c l).Perm (c :: l)
  | [] => List.Perm.refl _
  | x :: xs => by
    unfold ins
    split
    · exact List.Perm.refl _
    · exact ((ins_perm c xs).cons x).trans (List.Perm.swap c x xs)
theorem srt_perm : ∀ l : List Int, (srt l).Perm l
  | [] => List.Perm.refl _
  | x :: xs => (ins_perm x (srt xs)).trans ((srt_perm xs).cons x)
theorem ins_sorted (c : Int) : ∀ l : List Int, l.Pairwise (· ≤ ·) → (ins c l).Pairwise (· ≤ ·)
  | [], _ => List.pairwise_singleton _ _
  | x :: xs, h => by
    unfold ins
    obtain ⟨h1, h2⟩ := List.pairwise_cons.mp h
    split
    · rename_i hc
      refine List.pairwise_cons.mpr ⟨fun y hy => ?_, h⟩
      rcases List.mem_cons.mp hy with rfl | hy
      · exact hc
      · exact Int.le_trans hc (h1 y hy)
    · rename_i hc
      refine List.pairwise_cons.mpr ⟨fun y hy => ?_, ins_sorted c xs h2⟩
      rcases List.mem_cons.mp ((ins_perm c xs).mem_iff.mp hy) with rfl | hy
      · omega
      · exact h1 y hy
theorem srt_sorted : ∀ l : List Int, (srt l).Pairwise (· ≤ ·)
  | [] => List.Pairwise.nil
  | x :: xs => ins_sorted x _ (srt_sorted xs)
theorem sorted_unique : ∀ {a b : List Int}, a.Perm b → a.Pairwise (· ≤ ·) → b.Pairwise (· ≤ ·) → a = b
  | [], b, p, _, _ => (List.Perm.nil_eq p)
  | x :: a, [], p, _, _ => absurd p.symm.nil_eq (by simp)
  | x :: a, y :: b, p, ha, hb => by
    obtain ⟨a1, a2⟩ := List.pairwise_cons.mp ha
    obtain ⟨b1, b2⟩ := List.pairwise_cons.mp hb
    have hx : x ∈ y :: b := p.mem_iff.mp List.mem_cons_self
    have hy : y ∈ x :: a := p.mem_iff.mpr List.mem_cons_self
    have e : x = y := by
      rcases List.mem_cons.mp hx with h | h
      · exact h
      · rcases List.mem_cons.mp hy with k | k
        · exact k.symm
        · have := b1 x h
          have := a1 y k
          omega
    subst e
    have p2 : a.Perm b := p.cons_inv
    rw [sorted_unique p2 a2 b2]
theorem srt_of {l l' : List Int} (p : l'.Perm l) (s : l'.Pairwise (· ≤ ·)) : l' = srt l := sorted_unique (p.trans (srt_perm l).symm) s (srt_sorted l)
theorem srt_srt (l : List Int) : srt (srt l) = srt l := (srt_of (List.Perm.refl (srt l)) (srt_sorted l)).symm
theorem srt_length (l : List Int) : (srt l).length = l.length := (srt_perm l).length_eq
theorem srt_mem {l : List Int} {x : Int} : x ∈ srt l ↔ x ∈ l := (srt_perm l).mem_iff
theorem perm_sum : ∀ {a b : List Int}, a.Perm b → a.sum = b.sum := fun p => by
  induction p with
  | nil => rfl
  | cons x _ ih => rw [List.sum_cons, List.sum_cons, ih]
  | swap x y l => simp only [List.sum_cons]; omega
  | trans _ _ h1 h2 => rw [h1, h2]
theorem srt_sum (l : List Int) : (srt l).sum = l.sum := perm_sum (srt_perm l)
theorem srt_snoc (l : List Int) (c : Int) : srt (l ++ [c]) = ins c (srt l) := by
  symm
  refine srt_of ?_ (ins_sorted c _ (srt_sorted l))
  exact (ins_perm c _).trans (((srt_perm l).cons c).trans (List.perm_append_comm (l₁ := [c]) (l₂ := l)))
/-! ### the rooms -/
def room (t m : Int) : Int := t / (m - 1) + 1
def up (t m : Int) : Int := (t + m - 1) / m
theorem le_room {n c r : Int} (hn : 1 ≤ n) : c ≤ r / n + 1 ↔ n * (c - 1) ≤ r := by
  have h : c - 1 ≤ r / n ↔ (c - 1) * n ≤ r := Int.le_ediv_iff_mul_le (by omega)
  rw [Int.mul_comm] at h
  omega
theorem le_up {m c r : Int} (hm : 2 ≤ m) : c ≤ (r + c + m - 1) / m ↔ (m - 1) * (c - 1) ≤ r := by
  have h : c ≤ (r + c + m - 1) / m ↔ c * m ≤ r + c + m - 1 := Int.le_ediv_iff_mul_le (by omega)
  have e : (m - 1) * (c - 1) = c * m - c - m + 1 := by
    rw [Int.sub_mul, Int.mul_sub, Int.mul_sub, Int.mul_comm m c]
    omega
  rw [h, e]
  omega
/-- each coin is within the room of the sum ahead of it, r stands ahead of all -/
def srv (n : Int) (r : Int) : List Int → Prop
  | [] => True
  | c :: cs => n * (c - 1) ≤ r ∧ srv n (r + c) cs
/-- the law's own loop -/
def servesB (m : Int) (r : Int) : List Int → Bool
  | [] => true
  | c :: cs => if c > up (r + c) m then false else servesB m (r + c) cs
theorem servesB_iff {m : Int} (hm : 2 ≤ m) : ∀ (cs : List Int) (r : Int), servesB m r cs = true ↔ srv (m - 1) r cs
  | [], _ => ⟨fun _ => True.intro, fun _ => rfl⟩
  | c :: cs, r => by
    unfold servesB srv
    have h := le_up (m := m) (c := c) (r := r) hm
    unfold up
    split
    · rename_i hc
      constructor
      · intro z; cases z
      · rintro ⟨z, _⟩
        have := h.mpr z
        omega
    · rename_i hc
      rw [servesB_iff hm cs (r + c)]
      constructor
      · intro z; exact ⟨h.mp (by omega), z⟩
      · exact fun z => z.2
/-! ### the stretch -/
/-- the program's own loop, and its end -/
def fit (m : Int) (r low : Int) (high : Option Int) : List Int → Option (Int × Int)
  | [] => if low > high.getD (room r m) then none else some (low, high.getD (room r m))
  | c :: cs => if c > room r m then fit m (r + c) (if (m - 1) * (c - 1) - r > low then (m - 1) * (c - 1) - r else low) (some (high.getD (room r m))) cs else fit m (r + c) low high cs
def inR (o : Option (Int × Int)) (c : Int) : Prop := ∃ a b, o = some (a, b) ∧ a ≤ c ∧ c ≤ b
theorem fit_high {m : Int} (hm : 2 ≤ m) {c : Int} (hc : 1 ≤ c) : ∀ (cs : List Int) (r low h : Int), inR (fit m r low (some h) cs) c ↔ low ≤ c ∧ c ≤ h ∧ srv (m - 1) (r + c) cs
  | [], r, low, h => by
    unfold fit srv inR
    simp only [Option.getD_some]
    split
    · constructor
      · rintro ⟨a, b, z, _⟩; cases z
      · rintro ⟨h1, h2, _⟩; omega
    · constructor
      · rintro ⟨a, b, z, h1, h2⟩; cases z; exact ⟨h1, h2, True.intro⟩
      · rintro ⟨h1, h2, _⟩; exact ⟨_, _, rfl, h1, h2⟩
  | x :: xs, r, low, h => by
    unfold fit srv
    have hr := le_room (n := m - 1) (c := x) (r := r) (by omega)
    have e : r + x + c = r + c + x := by omega
    unfold room
    simp only [Option.getD_some]
    split
    · rename_i hx
      rw [fit_high hm hc xs, e]
      constructor
      · rintro ⟨h1, h2, h3⟩
        split at h1 <;> exact ⟨by omega, h2, by omega, h3⟩
      · rintro ⟨h1, h2, h3, h4⟩
        refine ⟨?_, h2, h4⟩
        split <;> omega
    · rename_i hx
      rw [fit_high hm hc xs, e]
      have hr' := hr.mp (by omega)
      constructor
      · rintro ⟨h1, h2, h3⟩; exact ⟨h1, h2, by omega, h3⟩
      · rintro ⟨h1, h2, _, h4⟩; exact ⟨h1, h2, h4⟩
theorem ins_small {c : Int} : ∀ {l : List Int}, (∀ y ∈ l, c ≤ y) → ins c l = c :: l
  | [], _ => rfl
  | x :: xs, h => by
    unfold ins
    rw [if_pos (h x List.mem_cons_self)]
theorem ins_le {c x : Int} {xs : List Int} (h : c ≤ x) : ins c (x :: xs) = c :: x :: xs := if_pos h
theorem ins_gt {c x : Int} {xs : List Int} (h : ¬ c ≤ x) : ins c (x :: xs) = x :: ins c xs := if_neg h
theorem srv_cons {n r c : Int} {cs : List Int} : srv n r (c :: cs) ↔ n * (c - 1) ≤ r ∧ srv n (r + c) cs := Iff.rfl
theorem fit_none {m : Int} (hm : 2 ≤ m) {c : Int} (hc : 1 ≤ c) : ∀ (cs : List Int) (r : Int), cs.Pairwise (· ≤ ·) → (∀ y ∈ cs, 1 ≤ y) → (inR (fit m r 1 none cs) c ↔ srv (m - 1) r (ins c cs))
  | [], r, _, _ => by
    have hr := le_room (n := m - 1) (c := c) (r := r) (by omega)
    unfold fit ins srv inR room
    simp only [Option.getD_none]
    split
    · constructor
      · rintro ⟨a, b, z, _⟩; cases z
      · rintro ⟨h1, _⟩
        have := hr.mpr h1
        omega
    · constructor
      · rintro ⟨a, b, z, h1, h2⟩; cases z; exact ⟨hr.mp h2, True.intro⟩
      · rintro ⟨h1, _⟩; exact ⟨_, _, rfl, hc, hr.mpr h1⟩
  | x :: xs, r, hs, h1 => by
    obtain ⟨s1, s2⟩ := List.pairwise_cons.mp hs
    have hx1 := h1 x List.mem_cons_self
    have ih := fit_none hm hc xs (r + x) s2 fun y hy => h1 y (List.mem_cons_of_mem _ hy)
    have hrx := le_room (n := m - 1) (c := x) (r := r) (by omega)
    have hrc := le_room (n := m - 1) (c := c) (r := r) (by omega)
    have e : r + x + c = r + c + x := by omega
    unfold fit room
    simp only [Option.getD_none]
    by_cases hx : x > r / (m - 1) + 1
    · rw [if_pos hx, fit_high hm hc]
      by_cases hcx : c ≤ x
      · rw [ins_le hcx, srv_cons, srv_cons, e]
        constructor
        · rintro ⟨g1, g2, g3⟩
          refine ⟨hrc.mp g2, ?_, g3⟩
          split at g1 <;> omega
        · rintro ⟨g1, g2, g3⟩
          refine ⟨?_, hrc.mpr g1, g3⟩
          split <;> omega
      · rw [ins_gt hcx, srv_cons]
        constructor
        · rintro ⟨g1, g2, g3⟩; omega
        · rintro ⟨z, _⟩
          have := hrx.mpr z
          omega
    · rw [if_neg hx, ih]
      have hx' := hrx.mp (by omega)
      by_cases hcx : c ≤ x
      · have hc1 : (m - 1) * (c - 1) ≤ (m - 1) * (x - 1) := Int.mul_le_mul_of_nonneg_left (by omega) (by omega)
        have es : ins c xs = c :: xs := ins_small fun y hy => Int.le_trans hcx (s1 y hy)
        rw [ins_le hcx, es, srv_cons, srv_cons, srv_cons, e]
        constructor
        · rintro ⟨g1, g2⟩; exact ⟨by omega, by omega, g2⟩
        · rintro ⟨g1, g2, g3⟩; exact ⟨by omega, g3⟩
      · rw [ins_gt hcx, srv_cons]
        exact ⟨fun z => ⟨hx', z⟩, fun z => z.2⟩
theorem fit_low {m : Int} : ∀ (cs : List Int) (r low : Int) (high : Option Int) {a b : Int}, fit m r low high cs = some (a, b) → low ≤ a ∧ a ≤ b
  | [], r, low, high, a, b, h => by
    unfold fit at h
    split at h
    · cases h
    · cases h; omega
  | x :: xs, r, low, high, a, b, h => by
    unfold fit at h
    split at h
    · have := fit_low xs _ _ _ h
      split at this <;> omega
    · exact fit_low xs _ _ _ h
/-- the law's own test of pool and coin -/
def serves (ns : List Int) (m : Int) : Bool := servesB m 0 (srt ns)
def stretch (ns : List Int) (m : Int) : Option (Int × Int) := fit m 0 1 none (srt ns)
/-- whether a coin lies in the stretch -/
def within (o : Option (Int × Int)) (c : Int) : Bool := match o with
  | none => false
  | some (a, b) => decide (a ≤ c) && decide (c ≤ b)
theorem within_iff {o : Option (Int × Int)} {c : Int} : within o c = true ↔ inR o c := by
  unfold within inR
  cases o with
  | none => exact ⟨fun z => (by cases z), fun ⟨a, b, z, _⟩ => (by cases z)⟩
  | some p =>
    obtain ⟨a, b⟩ := p
    simp only [Bool.and_eq_true, decide_eq_true_eq]
    constructor
    · rintro ⟨h1, h2⟩; exact ⟨a, b, rfl, h1, h2⟩
    · rintro ⟨_, _, z, h1, h2⟩; cases z; exact ⟨h1, h2⟩
theorem stretch_is {ns : List Int} {m c : Int} (hm : 2 ≤ m) (h1 : ∀ y ∈ ns, 1 ≤ y) (hc : 1 ≤ c) : serves (ns ++ [c]) m = within (stretch ns m) c := by
  have a : serves (ns ++ [c]) m = true ↔ within (stretch ns m) c = true := by
    unfold serves stretch
    rw [servesB_iff hm, within_iff, srt_snoc, fit_none hm hc _ _ (srt_sorted ns) fun y hy => h1 y (srt_mem.mp hy)]
  cases e1 : serves (ns ++ [c]) m with
  | true => exact (a.mp e1).symm
  | false =>
    cases e2 : within (stretch ns m) c with
    | false => rfl
    | true =>
      rw [a.mpr e2] at e1
      cases e1
theorem stretch_ends {ns : List Int} {m a b : Int} (hm : 2 ≤ m) (h1 : ∀ y ∈ ns, 1 ≤ y) (h : stretch ns m = some (a, b)) : 1 ≤ a ∧ a ≤ b ∧ serves (ns ++ [a]) m = true ∧ serves (ns ++ [b]) m = true := by
  have hl := fit_low _ _ _ _ h
  refine ⟨hl.1, hl.2, ?_, ?_⟩
  · rw [stretch_is hm h1 hl.1, h]
    unfold within
    simp [hl.2]
  · rw [stretch_is hm h1 (Int.le_trans hl.1 hl.2), h]
    unfold within
    simp [hl.2]
theorem stretch_srt (ns : List Int) (m : Int) : stretch (srt ns) m = stretch ns m := by
  unfold stretch
  rw [srt_srt]
end K21

set_option Elab.async false
set_option linter.all false
set_option maxRecDepth 100000
/-! Law k21: the text by places. -/
namespace K21
open PySem PySem.Spec PyProof.Rows L2
def top (i : Nat) : Stmt := PySem.Challenge.pw_anyworths_k21_whole_coins_that_come_are.main.body.getD i (.Pass ⟨0, 0, 0, 0⟩)
abbrev s_init : Stmt := inClass (top 2) 0
abbrev s_is_whole : Stmt := top 9
theorem sc_is_whole : FnScope ["thing", "low", "high"] ["thing", "low", "high"] (defScope s_is_whole) := ⟨rfl, rfl, rfl, by decide +kernel, rfl, by decide +kernel, by decide +kernel⟩
abbrev s_is_sequence : Stmt := top 10
theorem sc_is_sequence : FnScope ["thing", "low", "high"] ["thing", "low", "high"] (defScope s_is_sequence) := ⟨rfl, rfl, rfl, by decide +kernel, rfl, by decide +kernel, by decide +kernel⟩
abbrev s_chk_pool : Stmt := top 11
theorem sc_chk_pool : FnScope ["coins", "at", "coin"] ["coins"] (defScope s_chk_pool) := ⟨rfl, rfl, rfl, by decide +kernel, rfl, by decide +kernel, by decide +kernel⟩
abbrev s_chk_people : Stmt := top 12
theorem sc_chk_people : FnScope ["people", "low"] ["people", "low"] (defScope s_chk_people) := ⟨rfl, rfl, rfl, by decide +kernel, rfl, by decide +kernel, by decide +kernel⟩
abbrev s_whole_within : Stmt := top 14
theorem sc_whole_within : FnScope ["thing", "low", "high"] ["thing", "low", "high"] (defScope s_whole_within) := ⟨rfl, rfl, rfl, by decide +kernel, rfl, by decide +kernel, by decide +kernel⟩
abbrev s_next_room : Stmt := top 15
theorem sc_next_room : FnScope ["total", "people"] ["total", "people"] (defScope s_next_room) := ⟨rfl, rfl, rfl, by decide +kernel, rfl, by decide +kernel, by decide +kernel⟩
abbrev s_room_row : Stmt := top 17
theorem sc_room_row : FnScope ["pool", "people", "coins", "reached", "row", "coin"] ["pool", "people"] (defScope s_room_row) := ⟨rfl, rfl, rfl, by decide +kernel, rfl, by decide +kernel, by decide +kernel⟩
abbrev s_fitting_range : Stmt := top 18
theorem sc_fitting_range : FnScope ["coins", "people", "reached", "low", "high", "coin"] ["coins", "people"] (defScope s_fitting_range) := ⟨rfl, rfl, rfl, by decide +kernel, rfl, by decide +kernel, by decide +kernel⟩
abbrev s_fitting_coins : Stmt := top 19
theorem sc_fitting_coins : FnScope ["pool", "people", "coins"] ["pool", "people"] (defScope s_fitting_coins) := ⟨rfl, rfl, rfl, by decide +kernel, rfl, by decide +kernel, by decide +kernel⟩
abbrev s_next_coin : Stmt := top 20
theorem sc_next_coin : FnScope ["pool", "people", "stretch"] ["pool", "people"] (defScope s_next_coin) := ⟨rfl, rfl, rfl, by decide +kernel, rfl, by decide +kernel, by decide +kernel⟩
abbrev s_may_put : Stmt := top 21
theorem sc_may_put : FnScope ["pool", "coin", "people", "coins", "stretch"] ["pool", "coin", "people"] (defScope s_may_put) := ⟨rfl, rfl, rfl, by decide +kernel, rfl, by decide +kernel, by decide +kernel⟩
abbrev s_l_mix : Stmt := top 23
theorem sc_l_mix : FnScope ["_law_number", "_law_turn", "_law_once", "_law_twice"] ["_law_number", "_law_turn"] (defScope s_l_mix) := ⟨rfl, rfl, rfl, by decide +kernel, rfl, by decide +kernel, by decide +kernel⟩
abbrev s_l_hand : Stmt := top 24
theorem sc_l_hand : FnScope ["_law_script", "_law_total", "_law_k", "_law_cell"] ["_law_script"] (defScope s_l_hand) := ⟨rfl, rfl, rfl, by decide +kernel, rfl, by decide +kernel, by decide +kernel⟩
abbrev s_l_draw : Stmt := top 25
theorem sc_l_draw : FnScope ["_law_hand_here", "_law_many", "_law_cell", "_law_rest"] ["_law_hand_here", "_law_many"] (defScope s_l_draw) := ⟨rfl, rfl, rfl, by decide +kernel, rfl, by decide +kernel, by decide +kernel⟩
abbrev s_l_pick : Stmt := top 26
theorem sc_l_pick : FnScope ["_law_hand_here", "_law_things"] ["_law_hand_here", "_law_things"] (defScope s_l_pick) := ⟨rfl, rfl, rfl, by decide +kernel, rfl, by decide +kernel, by decide +kernel⟩
abbrev s_l_is_whole : Stmt := top 27
theorem sc_l_is_whole : FnScope ["_law_thing"] ["_law_thing"] (defScope s_l_is_whole) := ⟨rfl, rfl, rfl, by decide +kernel, rfl, by decide +kernel, by decide +kernel⟩
abbrev s_l_up : Stmt := top 28
theorem sc_l_up : FnScope ["_law_total", "_law_people"] ["_law_total", "_law_people"] (defScope s_l_up) := ⟨rfl, rfl, rfl, by decide +kernel, rfl, by decide +kernel, by decide +kernel⟩
abbrev s_l_serves : Stmt := top 29
theorem sc_l_serves : FnScope ["_law_coins", "_law_people", "_law_reached", "_law_coin"] ["_law_coins", "_law_people"] (defScope s_l_serves) := ⟨rfl, rfl, rfl, by decide +kernel, rfl, by decide +kernel, by decide +kernel⟩
abbrev s_l_next : Stmt := top 30
theorem sc_l_next : FnScope ["_law_total", "_law_people"] ["_law_total", "_law_people"] (defScope s_l_next) := ⟨rfl, rfl, rfl, by decide +kernel, rfl, by decide +kernel, by decide +kernel⟩
abbrev s_l_odd_people : Stmt := top 31
theorem sc_l_odd_people : FnScope ["_law_hand_here"] ["_law_hand_here"] (defScope s_l_odd_people) := ⟨rfl, rfl, rfl, by decide +kernel, rfl, by decide +kernel, by decide +kernel⟩
abbrev s_l_pool : Stmt := top 32
theorem sc_l_pool : FnScope ["_law_hand_here", "_law_people", "_law_most", "_law_many", "_law_turn", "_law_coins", "_law_k", "_law_coin", "_law_place", "_law_times"] ["_law_hand_here", "_law_people", "_law_most"] (defScope s_l_pool) := ⟨rfl, rfl, rfl, by decide +kernel, rfl, by decide +kernel, by decide +kernel⟩
abbrev s_l_robbed : Stmt := top 33
theorem sc_l_robbed : FnScope ["_law_hand_here", "_law_pool_here", "_law_place"] ["_law_hand_here", "_law_pool_here"] (defScope s_l_robbed) := ⟨rfl, rfl, rfl, by decide +kernel, rfl, by decide +kernel, by decide +kernel⟩
abbrev s_l_told : Stmt := top 34
theorem sc_l_told : FnScope ["_law_name", "_law_pool_here", "_law_coin", "_law_people", "e"] ["_law_name", "_law_pool_here", "_law_coin", "_law_people"] (defScope s_l_told) := ⟨rfl, rfl, rfl, by decide +kernel, rfl, by decide +kernel, by decide +kernel⟩
abbrev s_l_rooms_right : Stmt := top 35
theorem sc_l_rooms_right : FnScope ["_law_pool_here", "_law_people", "_law_told_here", "_law_coins", "_law_k"] ["_law_pool_here", "_law_people"] (defScope s_l_rooms_right) := ⟨rfl, rfl, rfl, by decide +kernel, rfl, by decide +kernel, by decide +kernel⟩
abbrev s_l_tried : Stmt := top 36
theorem sc_l_tried : FnScope ["_law_hand_here", "_law_pool_here", "_law_people", "_law_coins", "_law_tried_here", "_law_k", "_law_reached", "_law_near", "_law_coin"] ["_law_hand_here", "_law_pool_here", "_law_people"] (defScope s_l_tried) := ⟨rfl, rfl, rfl, by decide +kernel, rfl, by decide +kernel, by decide +kernel⟩
abbrev s_l_stretch_right : Stmt := top 37
theorem sc_l_stretch_right : FnScope ["_law_hand_here", "_law_pool_here", "_law_people", "_law_told_here", "_law_coin", "_law_due", "_law_put"] ["_law_hand_here", "_law_pool_here", "_law_people"] (defScope s_l_stretch_right) := ⟨rfl, rfl, rfl, by decide +kernel, rfl, by decide +kernel, by decide +kernel⟩
abbrev s_l_refusals_right : Stmt := top 38
theorem sc_l_refusals_right : FnScope ["_law_hand_here", "_law_pool_here", "_law_people", "_law_odd_coin", "_law_odd_people_here", "_law_place", "_law_odd_pool", "_law_due", "_law_name"] ["_law_hand_here", "_law_pool_here", "_law_people"] (defScope s_l_refusals_right) := ⟨rfl, rfl, rfl, by decide +kernel, rfl, by decide +kernel, by decide +kernel⟩
abbrev s_law : Stmt := top 39
theorem sc_law : FnScope ["_law_script", "_law_hand_here", "_law_people", "_law_pool_here", "_law_most", "_law_kept"] ["_law_script"] (defScope s_law) := ⟨rfl, rfl, rfl, by decide +kernel, rfl, by decide +kernel, by decide +kernel⟩
end K21

set_option Elab.async false
set_option linter.all false
set_option maxRecDepth 100000
set_option maxHeartbeats 4000000
/-! BadPool(place, what): an own class over an own class over ValueError, whose __init__ calls super().__init__ with a text and stores two fields. -/
namespace K21
open PySem PySem.Spec PyProof.Rows L2
/-- what the written part says of BadPool, at C, of its __init__, at fI, and of the cell that holds the class, at cc -/
structure BadTxt (prog : Program) (K : PySem.W.Frag) (mg : Str → Option Value) (C fI : Addr) : Prop where
  gC : mg "BadPool" = some (.ref C)
  gS : mg "super" = none
  cls : ∃ nm q N bs bm sn sub ab col dd k0 k1 k2 k3 k5, K.lookup C = some (excClassObj nm q C N bs bm true sn sub ab col dd k0 k1 k2 k3 k5 "ValueError.__new__") ∧ PySem.HandSPX.refsVE bm = true
  sa : PySem.W.findIn K (.ref C) "__setattr__" = some (some (.builtin "object.__setattr__"))
  nP : PySem.W.findIn K (.ref C) "place" = some none
  nW : PySem.W.findIn K (.ref C) "what" = some none
  iC : PySem.W.findIn K (.ref C) "__init__" = some (some (.ref fI))
  tC : PySem.W.typeIn K (.ref fI) = some (.type "function")
  kC : PySem.W.keepIn K (.ref C) = true
  exC : PySem.W.subIn K (.ref C) (.type "BaseException") = some true
  vlC : PySem.W.subIn K (.ref C) (.type "ValueError") = some true
  tyC : PySem.W.typeIn K (.ref C) = some (.type "type")
  suC : PySem.W.ks_superIn K C C "__init__" = some (some (.builtin "ValueError.__init__"))
  mrC : PySem.W.mroIn K C (.ref C) = some true
  any : PySem.W.nsIn K PySem.cStatics "thirdparty.any" = some none
  top : (prog.main.scope.names.lookup ("super" : Str)).isSome = false
  fn : ∃ (oc : Value) (od : Option Addr) (doc pm : Value) (an : Option Addr) (cda cc : Addr) (ct : Value) (osl : Array (Option Value)),
    K.lookup fI = some ⟨oc, od, .func (PySem.W.ksFn "__init__" "BadPool.__init__" (defArgs s_init) (defBody s_init) (defScope s_init) .none .none doc pm an (.ref cda) ct cc), osl⟩ ∧ PySem.W.codeIn K (.ref cda) "BadPool.__init__" = true ∧
    (∃ (ccl : Value) (cdd : Option Addr) (vs : Array Value) (ccs : Array (Option Value)) (file : Str) (tf : Tok), K.lookup cda = some ⟨ccl, cdd, .fields vs, ccs⟩ ∧ vs[2]? = some (.str file tf) ∧ (prog.main.file == file) = true) ∧
    ∃ (cl : Value) (cld : Option Addr) (csl : Array (Option Value)), K.lookup cc = some ⟨cl, cld, .cell (some (.ref C)), csl⟩
/-- the two fields of the error's own dict, as they lie -/
def badNs (v1 v2 : Value) : Str → Option Value := fun y => if y = "what" then some v2 else if y = "place" then some v1 else none
/-- BadPool made: after the def that stores place and what -/
structure BadEnd (h h' : Heap) (x C dx t1 : Addr) (v1 v2 : Value) : Prop where
  keep : ∀ b o, b ≠ x → h.get? b = some o → h'.get? b = some o
  obj : h'.get? x = some { cls := .ref C, dict := some dx, data := .fields #[.ref t1, .none, .none, .none, .bool false, .none] }
  dbig : h.objs.size ≤ dx
  dne : dx ≠ x
  ns : h'.Ns1 dx (badNs v1 v2)
section
open PySem.W PySem.Calls PySem.HandSPX
variable {prog : Program} {w : World} {A : Around} {E : Value → Shared → Prop} {R : Result → Shared → Prop} {s : Shared} {K : Frag} {mg : Str → Option Value} {base : Heap} {C fI : Addr}
set_option maxHeartbeats 8000000 in
theorem bad_init (T : BadTxt prog K mg C fI) (mo : Mod K mg base) (bk : ∀ b o, base.get? b = some o → s.heap.get? b = some o) {x t0 : Addr} {v1 v2 : Value} (hx : s.heap.get? x = some (excO C t0)) (hnx : base.get? x = none)
    (hroom : A.depth < recursionLimit) (hq : ∀ h' tk dx t1, BadEnd s.heap h' x C dx t1 v1 v2 → R (.ok (.ret .none)) { s with heap := h', toks := tk }) :
    codeAny (model prog w) A (.call (.ref fI) ⟨[.ref x, v1, v2], []⟩) R s := by
  obtain ⟨oc, od, doc, pm, an, cda, cc, ct, osl, ho, hcd, ⟨ccl, cdd, vs, ccs, file, tf, hcode, hvs, hfile⟩, cl, cld, csl, hcell⟩ := T.fn
  obtain ⟨nm, q, N, bs, bm, sn, sub, ab, col, dd, k0, k1, k2, k3, k5, hC, hbm⟩ := T.cls
  have hcl : clsIn K C = some { name := nm, bases := bs, mro := .ref C :: bm, ns := N, qualname := q, hasDict := true, slotNames := sn, subclasses := sub, abstract := ab, collection := col, hasDel := false } := by unfold clsIn; rw [hC] <;> rfl
  have X : K.In s.heap := mo.kin.keeps bk
  refine ks_codeAny_call_defAt (fd := ksFn "__init__" "BadPool.__init__" (defArgs s_init) (defBody s_init) (defScope s_init) .none .none doc pm an (.ref cda) ct cc) (body := defBody s_init) (binds := [("self", .ref x), ("place", v1), ("what", v2)])
    hroom (X _ _ ho) rfl (mo.nolimit.keeps bk) (codeRec_of X hcd) rfl (BindsTo.of_eq (by first | rfl | with_unfolding_all rfl)) (show ∀ x ∈ (defScope s_init).names, x.2 ≠ NameKind.cell from by decide +kernel) (fun y hy => ?_) (fun h₁ hns k => ?_) rfl rfl rfl
  · rcases List.mem_cons.mp hy with rfl | hy
    · rfl
    · rcases List.mem_cons.mp hy with rfl | hy
      · rfl
      · rcases List.mem_cons.mp hy with rfl | hy
        · rfl
        · cases hy
  have hxL : s.heap.objs.size ≠ x := Nat.ne_of_gt (Heap.lt_size hx)
  have X₁ : K.In h₁ := X.keeps k
  have hx₁ := k _ _ hx
  have b₁ : ∀ b o, base.get? b = some o → h₁.get? b = some o := fun b o e => k b o (bk b o e)
  have nxC : x ≠ C := fun z => by
    have y := mo.kin _ _ hC
    rw [← z, hnx] at y
    cases y
  refine ks_wpAt_execs_cons ?_
  refine ks_wpAt_Expr_any ?_
  refine ks_wpAt_MethodCall ?_
  obtain ⟨mb, hb1, hb2⟩ := mo.blt
  refine ks_wpAt_super_base rfl rfl (by decide) rfl (X₁ _ _ ho) rfl rfl rfl (X₁ _ _ hcode) rfl hvs hfile T.top ?_
  refine ks_loadName_global rfl rfl (loadGlobal_builtin (mo.glob.keeps b₁) T.gS (hb1.keeps b₁) ((hb2 "super" (by decide)).trans (by first | rfl | decide +kernel)) ⟨rfl, ?_⟩)
  refine wpAny_loadName_free rfl rfl rfl ⟨_, X₁ _ _ hcell, rfl⟩ ?_
  refine wpAny_loadName_local rfl rfl hns rfl ?_
  refine ks_wpAny_isType_cls (X₁ _ _ hC) rfl ⟨rfl, ?_⟩
  refine ks_wpAny_call_super (X₁ _ _ hC) rfl hx₁ rfl (fun c z => by cases z) (looks_mroIn X₁ T.mrC) (fun h₂ hso k₂ => ?_)
  have X₂ : K.In h₂ := X₁.keeps k₂
  have hx₂ := k₂ _ _ hx₁
  have I₂ : InstAt h₂ x (excO C t0) C none := ⟨hx₂, rfl, rfl, trivial⟩
  have hsu := T.suC
  unfold ks_superIn at hsu
  rw [hcl] at hsu
  refine kxs_getMethod kxs_ValueError hso (looks_opaque X₂ T.any) (l₀ := .ref C :: bm) (fun A Q E s k q => wpAny_bind ((looks_clsIn X₂ hcl) A _ E s k (wpAny_pure q))) rfl X₂ hsu (I₂.type.andThen (looks_subIn X₂ T.vlC)) nxC (by decide) ?_
  have k₃ : ∀ b o, h₂.get? b = some o → (h₂.push (kxs_mw "ValueError.__init__" x)).get? b = some o := fun b o e => Heap.get?_push_of_some _ e
  have hw₃ : (h₂.push (kxs_mw "ValueError.__init__" x)).get? h₂.objs.size = some (kxs_mw "ValueError.__init__" x) := Heap.get?_push_at rfl rfl
  have hx₃ := k₃ _ _ hx₂
  have X₃ : K.In (h₂.push (kxs_mw "ValueError.__init__" x)) := X₂.keeps k₃
  have kall : ∀ b o, s.heap.get? b = some o → (h₂.push (kxs_mw "ValueError.__init__" x)).get? b = some o := fun b o e => k₃ b o (k₂ b o (k b o e))
  refine kxs_callWith (i := "ValueError.__init__") (x := x) rfl (evalArgs_plain ?_)
  refine Calls.spliced_cons (Calls.Constant_str (k := 0) (pos := ⟨7, 25, 7, 60⟩) (spliced_nil ⟨hw₃, ?_⟩))
  refine wpAny_call (codeAny_of_tree ?_)
  show wpAny _ _ (callAny (.ref h₂.objs.size) ⟨_, []⟩) _ _ _
  simp only [callAny]
  refine wpAny_bind (wpAny_load hw₃ ?_)
  refine KFB.if_so (show (Value.type "method-wrapper" == Value.type "method" || Value.type "method-wrapper" == Value.type "builtin_function_or_method" || Value.type "method-wrapper" == Value.type "method-wrapper") = true by decide) ?_
  refine wpAny_bind (check_bound_init F.excBase_ValueError.toExcCallFacts (X₃ _ _ hC) hx₃ rfl ?_)
  refine wpAny_bind (wpAny_pure (wpAny_pure ?_))
  refine ⟨plainId_quiet F.excBase_ValueError.init.plain _, codeAny_builtin F.excBase_ValueError.initEntry ?_⟩
  refine exc_init_tree (cls := .ref C) (t0 := t0) (dv := none) (c2 := .none) (c3 := .none) (b4 := .bool false) hx₃ (by show 1 ≤ sizeLine; rw [sizeLine_eq]; decide) (fun h₄ k₄ hx₄ _ => ?_)
  -- self.place = place
  have xne : ∀ {b : Addr} {o : Obj}, h₁.get? b = some o → b ≠ x → h₄.get? b = some o := fun {b o} e hb => k₄ b o hb (k₃ b o (k₂ b o e))
  have X₄ : K.In h₄ := mo.kin.keeps fun b o e => xne (b₁ b o e) (fun z => by rw [z, hnx] at e; cases e)
  have hns₄ : h₄.Ns s.heap.objs.size fun y => List.lookup y [(Str.ofString "self", Value.ref x), (Str.ofString "place", v1), (Str.ofString "what", v2)].reverse := hns.at' fun o e => xne e hxL
  refine wpAt_of_wpAny ?_
  show wpAny _ _ (execs (_ :: _) _) _ _ _
  refine wpAny_execs_cons (plainObj_wpAny_Assign_Attribute ?_)
  refine ESX.ldL (v := v1) hns₄ rfl (ESX.ldL (v := .ref x) hns₄ rfl ?_)
  obtain ⟨t1, hx₄⟩ : ∃ t1, h₄.get? x = some (excO C t1) := ⟨_, hx₄⟩
  refine set_plain X₄ (ox := excO C t1) (od := none) ⟨hx₄, rfl, rfl, trivial⟩ T.sa ?_
  refine exc_osa X₄ hx₄ hcl (show refsVE (.ref C :: bm) = true from hbm) rfl T.nP (fun h₅ tk₅ dx k₅ dn dne hx₅ hn₅ => ?_)
  have k₄₅ : ∀ {b : Addr} {o : Obj}, s.heap.get? b = some o → b ≠ x → h₅.get? b = some o := fun {b o} e hb => k₅ b o hb (xne (k b o e) hb)
  -- self.what = what
  have X₅ : K.In h₅ := mo.kin.keeps fun b o e => k₄₅ (bk b o e) (fun z => by rw [z, hnx] at e; cases e)
  have hns₅ : h₅.Ns s.heap.objs.size fun y => List.lookup y [(Str.ofString "self", Value.ref x), (Str.ofString "place", v1), (Str.ofString "what", v2)].reverse := hns₄.at' fun o e => k₅ _ o hxL e
  have hw₅ : Within (fun y => if y = Str.ofString "place" then some v1 else none) [Str.ofString "place"] := Within.cons _ v1 Within.nil
  obtain ⟨oD, _, _, hoD, _, _⟩ := hn₅.count hw₅
  show wpAny _ _ (execs (_ :: _) _) _ _ _
  refine wpAny_execs_cons (plainObj_wpAny_Assign_Attribute ?_)
  refine ESX.ldL (v := v2) hns₅ rfl (ESX.ldL (v := .ref x) hns₅ rfl ?_)
  refine set_plain X₅ (ox := { cls := .ref C, dict := some dx, data := .fields #[.ref t1, .none, .none, .none, .bool false, .none] }) (od := some oD) ⟨hx₅, rfl, rfl, hoD⟩ T.sa ?_
  refine OEX.osa_old X₅ hx₅ hn₅ hw₅ (by decide) hcl (show refsVE (.ref C :: bm) = true from hbm) rfl T.nW (fun h₆ tk₆ k₆ hn₆ => ?_)
  show wpAny _ _ (execs _ _) _ _ _
  have dbig : s.heap.objs.size ≤ dx := by
    refine Nat.le_trans (Nat.le_of_lt ?_) dn
    exact hns₄.lt
  refine wpAny_execs_nil (hq h₆ _ dx t1 ⟨fun b o hb e => k₆ b o ?_ (k₄₅ e hb), k₆ _ _ dne.symm hx₅, dbig, dne, hn₆⟩)
  exact Nat.ne_of_lt (Nat.lt_of_lt_of_le (Heap.lt_size e) dbig)
/-- a made BadPool -/
structure BadMade (h h' : Heap) (e C d : Addr) (v1 v2 : Value) : Prop where
  keep : ∀ b o, h.get? b = some o → h'.get? b = some o
  new : h.objs.size ≤ e
  obj : ∃ oe vs, h'.get? e = some oe ∧ oe.cls = .ref C ∧ oe.dict = some d ∧ oe.data = .fields vs ∧ vs[1]? = some .none
  dbig : h.objs.size ≤ d
  dne : d ≠ e
  ns : h'.Ns1 d (badNs v1 v2)
theorem bad_made (T : BadTxt prog K mg C fI) (mo : Mod K mg base) (bk : ∀ b o, base.get? b = some o → s.heap.get? b = some o) {v1 v2 : Value} (hroom : A.depth + 1 < recursionLimit)
    (hq : ∀ h' tk e d, BadMade s.heap h' e C d v1 v2 → R (.ok (.ret (.ref e))) { s with heap := h', toks := tk }) : codeAny (model prog w) A (.call (.ref C) ⟨[v1, v2], []⟩) R s := by
  obtain ⟨nm, q, N, bs, bm, sn, sub, ab, col, dd, k0, k1, k2, k3, k5, hC, hbm⟩ := T.cls
  obtain ⟨hp, g, dr, tk, os⟩ := s
  have X : K.In hp := mo.kin.keeps bk
  have k : ∀ b o, hp.get? b = some o → ((hp.push (kdv_tup [v1, v2])).push (excO C hp.objs.size)).get? b = some o := fun b o e => Heap.get?_push_of_some _ (Heap.get?_push_of_some _ e)
  have hget : ((hp.push (kdv_tup [v1, v2])).push (excO C hp.objs.size)).get? (hp.objs.size + 1) = some (excO C hp.objs.size) := by heap_get
  have hnx : base.get? (hp.objs.size + 1) = none := by
    cases e : base.get? (hp.objs.size + 1) with
    | none => rfl
    | some o => exact absurd (Nat.lt_of_succ_lt (Heap.lt_size (bk _ _ e))) (Nat.lt_irrefl _)
  refine call_own F.excBase_ValueError (fun X => refsVE_contains X bm hbm) (X _ _ hC) (looks_findIn X T.iC) (fun self => bind_fn X self T.tC) (by show 2 ≤ sizeLine; rw [sizeLine_eq]; decide) ?_
  refine bad_init (s := ⟨(hp.push (kdv_tup [v1, v2])).push (excO C hp.objs.size), g, dr, tk, os⟩) T mo (fun b o e => k b o (bk b o e)) hget hnx ?_ fun h' tk' dx t1 ⟨k', hx, dn, dne, hns⟩ => ?_
  · show A.depth + 1 < recursionLimit
    exact hroom
  · have old : ∀ b o, hp.get? b = some o → h'.get? b = some o := fun b o e => k' b o (Nat.ne_of_lt (Nat.lt_succ_of_lt (Heap.lt_size e))) (k b o e)
    have z : hp.objs.size + 1 + 1 ≤ dx := by
      first
        | (simpa only [Heap.size_push] using dn)
        | exact dn
    exact ⟨rfl, hq h' tk' (hp.objs.size + 1) dx ⟨old, Nat.le_succ _, ⟨_, _, hx, rfl, rfl, rfl, rfl⟩, Nat.le_trans (Nat.le_trans (Nat.le_succ _) (Nat.le_succ _)) z, dne, hns⟩⟩
end
/-- the dict of a BadPool error -/
def badD (x1 x2 : V) : HO := .xd [(("what" : Str), x2), (("place" : Str), x1)]
theorem relO_bad {x1 x2 : V} {v1 v2 : Value} (r1 : RelV x1 v1) (r2 : RelV x2 v2) (f : Str) : RelO (List.lookup f [(("what" : Str), x2), (("place" : Str), x1)]) (badNs v1 v2 f) :=
  relO_put (f := "what") r2 (relO_put (f := "place") (fs := []) (mA := fun _ => none) r1 fun _ => True.intro) f
section
variable {X : Cx} {C fI : Addr}
/-- BadPool(e1, e2) -/
def tMkBad (C : Addr) (ta : TA) : L2.St → Hp → XK → Prop := fun σ H Q => ta σ H fun vs H1 => ∃ x1 x2, vs = [x1, x2] ∧ ∀ d, H1 d = none → Q (.ref C) (some d) (upd H1 d (badD x1 x2))
theorem pmk_bad {e : Expr} {es : List Expr} {ta : TA} {p pos : Pos} {k : Nat} (T : BadTxt X.prog X.K X.mg C fI) (hr : Room k X.A) (ha : PA X (e :: es) ta) (hg : Gl X "BadPool" := by rfl)
    (he : starEach (e :: es) X.env = (false, eval e X.env) :: starEach es X.env := by rfl) (hpl : (backTo pos (starEach es X.env)).any (·.1) = false := by rfl) :
    PMk X (.Call (.Name "BadPool" p) (e :: es) [] pos) (tMkBad C ta) := by
  intro pins s σ H Q I h
  refine wpAny_Call_Name_kw (ld_glob I hg T.gC ?_)
  refine PySem.W.callWith_K (h₀ := X.base) I.ok.mod.kin T.kC (thn (ha.run pos pins s σ H _ I h) fun us s1 hh => ?_) he hpl
  obtain ⟨vs, H1, I1, r1, x1, x2, ev, q1⟩ := hh
  subst ev
  refine ⟨I1.kIn, ?_⟩
  obtain ⟨v1, v2, rfl, rv1, rv2⟩ := vals2 r1
  show wpAny _ _ (call (.ref C) [v1, v2]) _ _ _
  obtain ⟨hp, g, dr, tk, os⟩ := s1
  refine wpAny_call (bad_made T I1.mod I1.bk (by have := hr.dp; omega) fun h' tk' e d M => ?_)
  show MkP X pins σ Q (.ref e) ⟨h', g, dr, tk', os⟩
  obtain ⟨oe, fv, hoe, hc, hd, hdat, h1⟩ := M.obj
  have hns := M.ns
  obtain ⟨G', g1, g2⟩ := restrict h' fun b => decide (b ≠ e)
  have gk : ∀ b, b ≠ e → G'.get? b = h'.get? b := fun b hb => g1 b (decide_eq_true hb)
  have ge : G'.get? e = none := g2 e (by simp)
  have old : ∀ b o, hp.get? b = some o → G'.get? b = some o := fun b o q => (gk b (Nat.ne_of_lt (Nat.lt_of_lt_of_le (Heap.lt_size q) M.new))).trans (M.keep b o q)
  have ob : ObjOk X.prog X.w (upd H1 d (badD x1 x2)) G' d (badD x1 x2) := ⟨_, hns.at (fun o q => (gk d M.dne).trans q), fun f => relO_bad rv1 rv2 f⟩
  have J : Inv X pins σ (upd H1 d (badD x1 x2)) ⟨G', g, dr, tk', os⟩ := I1.laid (t' := tk') old M.dbig ob
  refine ⟨e, oe, fv, ⟨G', g, dr, tk', os⟩, _, .ref C, some d, rfl, J, fun b o q => ?_, ge, hoe, ⟨hc, hd⟩, hdat, h1, ?_, rfl, I1.bare, raises_own T.exC T.tyC, q1 d (I1.hok.fresh M.dbig)⟩
  · by_cases hb : b = e
    · have q' : G'.get? b = some o := q
      rw [hb, ge] at q'; cases q'
    · exact (gk b hb).symm.trans q
  · rw [upd_ne (Ne.symm M.dne)]
    exact I1.hok.fresh M.new
/-- raise BadPool(e1, e2) -/
theorem ps_raiseBad {e : Expr} {es : List Expr} {ta : TA} {W : WX} {p pos pos2 : Pos} {k : Nat} (hc : X.calm = true) (T : BadTxt X.prog X.K X.mg C fI) (hr : Room k X.A) (tk : Takes X W) (ha : PA X (e :: es) ta) (hg : Gl X "BadPool" := by rfl)
    (he : starEach (e :: es) X.env = (false, eval e X.env) :: starEach es X.env := by rfl) (hpl : (backTo pos (starEach es X.env)).any (·.1) = false := by rfl) :
    PS X (.Raise (some (.Call (.Name "BadPool" p) (e :: es) [] pos)) none pos2) (fun _ σ H => tMkBad C ta σ H fun cls d H' => W cls d σ H') := ps_raise hc tk (pmk_bad T hr ha hg he hpl)
/-- C(), C an own exception class without own __init__ -/
theorem pmk_own0 {bmB : List Value} {B newId initId : String} {x : Str} {p pos : Pos} (F : ExcBaseFacts B newId initId bmB) (q : PySem.W.excIn X.K C bmB newId = true) (gC : X.mg x = some (.ref C)) (kC : PySem.W.keepIn X.K (.ref C) = true) (r : Raises X (.ref C)) (hg : Gl X x)
    (hdb : (x == ("__debug__" : Str)) = false := by decide) : PMk X (.Call (.Name x p) [] [] pos) (fun _ H Q => Q (.ref C) none H) := by
  intro pins s σ H Q I h
  refine wpAny_Call_Name_kw (ld_glob I hg gC ?_ hdb)
  refine PySem.W.callWith_K0 I.kIn kC ?_
  show wpAny _ _ (call (.ref C) []) _ _ _
  obtain ⟨bm, N, nm, qn, bs, hdct, sn, sub, ab, col, dd, k0, k1, k2, k3, k5, mN, hC, hN, hni, T⟩ := exc_obj I.kIn q
  refine wpAny_call_exc_subT F T hC hN hni (fun h' e hm => ?_) (Nat.zero_le _)
  exact mk_of I hm r h (I.hok.gone hm.new)
end
end K21

set_option Elab.async false
set_option linter.all false
set_option maxRecDepth 100000
set_option maxHeartbeats 4000000
/-! sorted of a list or tuple of ints, of any length, and of a set of ints; set of a list of ints. -/
namespace K21
open PySem PySem.Spec PyProof.Rows L2
section
variable {P : Program} {w : World} {A : Around} {E : Value → Shared → Prop} {s : Shared}
/-- sorted(x), x whatever collects to ints -/
theorem sorted_coll {a : Addr} {ns : List Int} {Q : Value → Shared → Prop}
    (hcol : ∀ Q' : List Value → Shared → Prop, (∀ vs s1, (∀ b o, s.heap.get? b = some o → s1.heap.get? b = some o) → s1.gens = s.gens → s1.os = s.os →
      (∃ ms, IntsAre vs ms ∧ ms.Perm ns) → Q' vs s1) → wpAny (model P w) A.in1 (collect (.ref a)) Q' E s)
    (hz : ns.length ≤ sizeLine)
    (hQ : ∀ s' p (out : Array Value) (c : Nat), (∀ b o, s.heap.get? b = some o → s'.heap.get? b = some o) → s'.gens = s.gens → s'.os = s.os → s.heap.get? p = none →
      s'.heap.get? p = some (seqObj "list" out c) → IntsAre out.toList (srt ns) → Q (.ref p) s') :
    wpAny (model P w) A (call (.builtin "sorted") [.ref a]) Q E s := by
  refine Calls.call_function_entry kind_sorted plain_sorted entry_sorted (args_sorted1 _) ?_
  unfold Builtin.«sorted»
  refine wpAny_bind (m := checkCount "sorted" 1 1 _) (wpAny_pure ?_)
  refine wpAny_bind (hcol _ fun vs s1 k1 g1 o1 hI => ?_)
  obtain ⟨ms, hI, hp⟩ := hI
  have hl : vs.length ≤ sizeLine := by
    have := hI.length
    rw [this, hp.length_eq]
    exact hz
  refine wpAny_bind (wpAny_newList ?_ hl)
  have hoL : (s1.heap.push (seqObj "list" vs.toArray 0)).get? s1.heap.objs.size = some (seqObj "list" vs.toArray 0) := Heap.get?_push_size _ rfl
  refine wpAny_bind (wpAny_holding (wpAny_call_entry slot_list_sort ⟨_, hoL, rfl⟩ entry_list_sort (SrtO.list_sort_ord SrtO.swo_int hoL hl (fun h2 => SrtO.ints_sortable hI h2) fun out h1 h2 => ⟨_, rfl, ?_⟩) (args_list_sort _)))
  obtain ⟨e1, e2, e3⟩ := SrtO.ints_out hI h1 h2
  have es : out.map SrtO.iv = srt ns := srt_of (e2.trans hp) e3
  rw [es] at e1
  obtain ⟨c, hc⟩ := sortedHeap_at (vs := vs) (out := out.toArray) hoL
  have hfree : s.heap.get? s1.heap.objs.size = none := by
    cases z : s.heap.get? s1.heap.objs.size with
    | none => rfl
    | some o => exact absurd (Heap.lt_size (k1 _ _ z)) (Nat.lt_irrefl _)
  refine wpAny_pure ⟨_, rfl, hQ _ s1.heap.objs.size out.toArray c (fun b u e => ?_) g1 o1 hfree hc (by simpa using e1)⟩
  have q := k1 b u e
  have hlt := Heap.lt_size q
  show (sortedHeap (s1.heap.push (seqObj "list" vs.toArray 0)) s1.heap.objs.size vs out.toArray).get? b = some u
  rw [sortedHeap_old (Nat.ne_of_lt hlt) (by rw [size_push']; exact Nat.lt_succ_of_lt hlt)]
  exact Heap.get?_push_of_some _ q
end
/-- a new object is laid where none stands -/
theorem un_laid {fs ex : List Addr} {H : Hp} {h h' : Heap} {a : Addr} {o : HO} (k : ∀ b u, h.get? b = some u → h'.get? b = some u) (hp : h.get? a = none) (hn : H a = none) : Un fs ex H (upd H a o) h h' where
  keep := fun b u q _ _ _ => k b u q
  slot := fun b u q _ _ _ => ⟨u.slots, k b u q⟩
  free := fun b u q n _ => by
    have nb : b ≠ a := fun z => by rw [z, hp] at q; cases q
    rw [upd_ne nb]; exact n
  there := fun b u q _ => ⟨u, k b u q⟩
  tups := fun b xs q => by rw [upd_ne (ne_of_none q hn)]; exact q
  frzs := fun b u xs q => by rw [upd_ne (ne_of_none q hn)]; exact q
  tbls := fun b ps q => ⟨#[], by rw [upd_ne (ne_of_none q hn), q]; simp⟩
theorem hok_laid {P : Program} {w : World} {H : Hp} {h h' : Heap} {a : Addr} {o : HO} (x : HOk P w H h) (k : ∀ b u, h.get? b = some u → h'.get? b = some u) (hn : H a = none) (new : ObjOk P w (upd H a o) h' a o) : HOk P w (upd H a o) h' := fun b u e => by
  by_cases hb : b = a
  · subst hb; rw [upd_same] at e; cases e; exact new
  · rw [upd_ne hb] at e
    exact (x b u e).stay (fun c v _ q => k c v q) (fun c q => by rw [upd_ne (ne_of_none q hn)]; exact q) fun c xs q => by rw [upd_ne (ne_of_none q hn)]; exact q
section
variable {X : Cx}
/-- behind a call that laid one object, at p -/
theorem ep_laid {pins : List (Addr × Obj)} {σ : L2.St} {H : Hp} {s s' : Shared} {p : Addr} {o : HO} {Q : VK} (I : Inv X pins σ H s)
    (k : ∀ b o, s.heap.get? b = some o → s'.heap.get? b = some o) (g : s'.gens = s.gens) (os : s'.os = s.os) (hp : s.heap.get? p = none) (new : ObjOk X.prog X.w (upd H p o) s'.heap p o)
    (q : ∀ p, H p = none → Q (.ref p) (upd H p o)) : EP X pins σ Q (.ref p) s' := by
  have hn : H p = none := I.hok.gone hp
  have J : Inv X pins σ (upd H p o) { s with heap := s'.heap, gens := s'.gens, drawn := s'.drawn, toks := s'.toks } :=
    I.call (ch := []) (un_laid k hp hn) (hok_laid I.hok k hn new) (by rw [g]; exact I.bare) (fun _ z => nomatch z)
  have e : s' = { s with heap := s'.heap, gens := s'.gens, drawn := s'.drawn, toks := s'.toks } := by
    cases s'
    cases s
    cases os
    rfl
  rw [e]
  exact ⟨.ref p, _, J, rfl, q p hn⟩
theorem laid_sorted {pins : List (Addr × Obj)} {σ : L2.St} {H : Hp} {s s' : Shared} {p : Addr} {out : Array Value} {c : Nat} {ms : List Int} {Q : VK} (I : Inv X pins σ H s) (hz : ms.length ≤ sizeLine)
    (k : ∀ b o, s.heap.get? b = some o → s'.heap.get? b = some o) (g : s'.gens = s.gens) (o : s'.os = s.os) (hp : s.heap.get? p = none) (hg : s'.heap.get? p = some (seqObj "list" out c)) (hi : IntsAre out.toList ms)
    (q : ∀ p, H p = none → Q (.ref p) (upd H p (.lst (ms.map V.int)))) : EP X pins σ Q (.ref p) s' :=
  ep_laid (o := .lst (ms.map V.int)) I k g o hp ⟨by rw [List.length_map]; exact hz, out.toList, c, vals_of_ints hi, hg⟩ q
/-- sorted(xs), a list or a tuple of ints -/
def rSrt (K : PySem.W.Frag) : List V → Hp → VK → Prop := fun vs H Q => ∃ (a : Addr) (ns : List Int), vs = [V.ref a] ∧ (SqL K H a (ns.map V.int) ∨ SqT K H a (ns.map V.int)) ∧ ∀ p, H p = none → Q (.ref p) (upd H p (.lst ((srt ns).map V.int)))
theorem cr_srt : CallR X (.builtin "sorted") (rSrt X.K) := by
  intro pins s σ H vs us Q I r h
  obtain ⟨a, ns, rfl, hs, q⟩ := h
  rw [Vals.ref1 r]
  have core : ∀ (its : List Value) (T : String) (o : Obj) (n : Nat), (T = "list" ∨ T = "tuple") → s.heap.get? a = some o → o.cls = .type T → o.data = .seq its.toArray n → Vals (ns.map V.int) its → (ns.map V.int).length ≤ sizeLine →
      wpAny (model X.prog X.w) X.A (call (.builtin "sorted") [.ref a]) (EP X pins σ Q) X.xe s := fun its T o n hT ho hc hd rv hz => by
    have hi := rv.ints
    have hl : its.length = ns.length := by rw [← rv.length, List.length_map]
    have hz' : ns.length ≤ sizeLine := by rw [List.length_map] at hz; exact hz
    refine sorted_coll (ns := ns) (fun Q' hQ' => ?_) hz' fun s' p out c k g o hp hg hi' => laid_sorted I (by rw [srt_length]; exact hz') k g o hp hg hi' q
    exact wpAny_collect_seq a hT ho hc hd (fun h' k => hQ' _ _ k rfl rfl ⟨ns, by simpa using hi, List.Perm.refl _⟩) (by rw [List.size_toArray, hl]; exact hz')
  rcases hs with hs | hs
  · obtain ⟨its, rv, ⟨o, n, ho, hc, hs', hd⟩, hz⟩ := I.list hs
    exact core its "list" o n (.inl rfl) ho hc hd rv hz
  · obtain ⟨its, rv, ⟨o, ho, hc, n, hd⟩, hz⟩ := I.tuple hs
    exact core its "tuple" o n (.inr rfl) ho hc hd rv hz
/-- sorted(S), a set of ints of whatever size -/
def rSrtSet (w : World) : List V → Hp → VK → Prop := fun vs H Q => ∃ (a : Addr) (S : Int → Bool) (n : Nat), vs = [V.ref a] ∧ H a = some (SetO w a S n) ∧ ∀ (ms : List Int) (p : Addr), (∀ k : Int, k ∈ ms → S k = true) → H p = none → Q (.ref p) (upd H p (.lst (ms.map V.int)))
theorem cr_srtSet (hc : X.calm = true) : CallR X (.builtin "sorted") (rSrtSet X.w) := by
  intro pins s σ H vs us Q I r h
  obtain ⟨a, S, n, rfl, ha, q⟩ := h
  obtain ⟨o, es, ep, t, ho, hex, hd, g, nd, hm, hb, hf, hn, hr, hl⟩ := setO_get I ha
  rw [Vals.ref1 r]
  have hz : (es.toList.map keyOf).length ≤ sizeLine := by
    rw [List.length_map, Array.length_toList, sizeLine_eq]
    have : es.size < 4096 := hb
    omega
  refine sorted_coll (ns := es.toList.map keyOf) (fun Q' hQ' => ?_) hz fun s' p out c k g' o' hp hg hi' => laid_sorted I (by rw [srt_length]; exact hz) k g' o' hp hg hi' fun p hn => q _ p (fun k hk => (hm k).mpr ?_) hn
  · refine collect_set (A := X.A.in1) (I.ok.hd hc) ⟨o, ho, hex.1, hd⟩ hf hb hr hl fun s1 vs k1 hz1 g1 o1 pm => hQ' vs s1 k1 g1 o1 ⟨vs.map Builtin.Re.reRawOf, ints_of vs fun v hv => ?_, ?_⟩
    · obtain ⟨e, he, z⟩ := List.mem_map.mp (pm.mem_iff.mp hv)
      obtain ⟨k, tk, h1, _⟩ := g e he
      exact ⟨k, tk, by rw [← z]; exact h1⟩
    · have z := pm.map Builtin.Re.reRawOf
      rw [List.map_map] at z
      exact z
  · exact srt_mem.mp hk
end
end K21

set_option Elab.async false
set_option linter.all false
set_option maxRecDepth 100000
set_option maxHeartbeats 4000000
/-! set of a list of ints. -/
namespace K21
open PySem PySem.Spec PyProof.Rows L2
abbrev emptySet (w : World) : Obj := { cls := .type "set", dict := none, data := .set #[] 0 (.fresh 0 0 (!w.params.followText "set-order")) }
section
variable {P : Program} {w : World} {A : Around} {E : Value → Shared → Prop} {s : Shared}
/-- what set.__init__ leaves -/
def SetEnd (w : World) (s : Shared) (ns : List Int) (s₂ : Shared) : Prop :=
  ∃ h' tk c, s₂ = { s with heap := h', toks := tk } ∧ SetR w h' s.heap.objs.size (fun j => decide (j ∈ ns)) c ∧ ∀ b o, s.heap.get? b = some o → h'.get? b = some o
theorem set_init_list {l : Addr} {items : Array Value} (ns : List Int) {R : Result → Shared → Prop} (hh : A.handled = none) (hl : s.heap.IsList l items) (hit : IntsAre items.toList ns) (hb : ns.length + 1 < scanBound)
    (hR : ∀ s₂, SetEnd w s ns s₂ → R (.ok (.ret .none)) s₂) :
    wpAny (model P w) A.in1 (Builtin.«set.__init__» ⟨[.ref s.heap.objs.size, .ref l], []⟩)
      (fun fin s' => match fin with | .done f => R (.ok f) s' | .again c' => c'.quiet = true ∧ codeAny (model P w) A c' R s') (fun e s' => R (.error e) s') { s with heap := s.heap.push (emptySet w) } := by
  obtain ⟨ol, hol, hcl, nl, hdl⟩ := hl
  obtain ⟨ocls, odict, odata, oslots⟩ := ol
  simp only at hcl hdl
  subst hcl; subst hdl
  have hn : items.size = ns.length := by
    have q := hit.length
    rw [Array.length_toList] at q
    exact q
  have hlS : l < s.heap.objs.size := Heap.lt_size hol
  have hol' : (s.heap.push (emptySet w)).get? l = some { cls := .type "list", dict := odict, data := .seq items nl, slots := oslots } := Heap.get?_push_of_some _ hol
  have hS : (s.heap.push (emptySet w)).get? s.heap.objs.size = some (emptySet w) := Heap.get?_push_size _ rfl
  have hl1 : (s.heap.push (emptySet w)).IsList l items := ⟨_, hol', rfl, nl, rfl⟩
  have hz1 : (s.heap.push (emptySet w)).objs.size = s.heap.objs.size + 1 := Heap.size_push ..
  have f1 := F.sub_list_set
  have f2 := F.sub_list_frozenset
  have f3 : (Value.type "list" == Value.type "dict") = false := by decide
  unfold Builtin.«set.__init__» noKeywords Builtin.Frozenset.updateFrom
  generalize hPI : pyIter = PI
  wp_walk
  subst hPI
  refine wpAny_pyIter_list hl1 ?_
  refine wpAny_bind (wpAny_runValue ?_)
  have hh3 : A.in1.in1.handled = none := by simp [hh]
  have n1 : l ≠ (s.heap.push (emptySet w)).objs.size := by rw [hz1]; exact Nat.ne_of_lt (Nat.lt_succ_of_lt hlS)
  have n2 : s.heap.objs.size ∉ [(s.heap.push (emptySet w)).objs.size, l] := by
    rw [hz1]
    simp only [List.mem_cons, List.not_mem_nil, or_false, not_or]
    exact ⟨Nat.ne_of_lt (Nat.lt_succ_self _), Nat.ne_of_gt hlS⟩
  have hval : ∀ (i : Nat) (v : Value), items[i]? = some v → ∃ k t, ns[i]? = some k ∧ v = .int k t := fun i v hv => by
    have hi : i < ns.length := by rw [← hn]; exact (Array.getElem?_eq_some_iff.mp hv).1
    obtain ⟨t, e⟩ := IntsAre.int_at hit i v (by rw [Array.getElem?_toList]; exact hv)
    exact ⟨ns[i], t, List.getElem?_eq_getElem hi, by rw [e, List.getD_eq_getElem?_getD, List.getElem?_eq_getElem hi] <;> rfl⟩
  refine set_update_ints ((Walks.list hh3 _ l n1 items).toS) s.heap.objs.size n2 ns hn hb hval (items.size - 0) 0 _ (by omega) (Nat.zero_le _) ⟨⟨_, Heap.get?_push_size _ rfl, rfl, rfl⟩, hl1.push _⟩ ⟨0, Nat.le_refl 0, setR_new_at (Heap.get?_push_of_some _ hS)⟩ fun s' c' hm hc' hS' => ?_
  obtain ⟨h', g2, d', tk', os'⟩ := s'
  have eg : g2 = s.gens := hm.gens
  have ed : d' = s.drawn := hm.drawn
  have eo : os' = s.os := hm.os
  subst eg; subst ed; subst eo
  show wpAny _ _ _ _ _ _
  refine wpAny_pure ?_
  show wpAny _ _ (ret Value.none) _ _ _
  refine wpAny_pure (hR _ ⟨h', tk', c', rfl, hS', fun b o e => ?_⟩)
  have hb0 : b < s.heap.objs.size := Heap.lt_size e
  refine hm.heap b o ?_ (Heap.get?_push_of_some _ (Heap.get?_push_of_some _ e))
  simp only [List.mem_cons, List.not_mem_nil, or_false, not_or]
  exact ⟨Nat.ne_of_lt hb0, by rw [hz1]; exact Nat.ne_of_lt (Nat.lt_succ_of_lt hb0)⟩
theorem call_set_ints {l : Addr} {items : Array Value} (ns : List Int) {Q : Value → Shared → Prop} (hh : A.handled = none) (hl : s.heap.IsList l items) (hit : IntsAre items.toList ns) (hb : ns.length + 1 < scanBound)
    (h : ∀ s₂, SetEnd w s ns s₂ → Q (.ref s.heap.objs.size) s₂) : wpAny (model P w) A (call (.type "set") [.ref l]) Q E s := by
  obtain ⟨c, tl, hmro⟩ := F.called_set.mro
  have hmade := F.called_set.made
  have hsub := F.called_set.sub
  refine wpAny_call (codeAny_of_tree ?_)
  show wpAny _ _ (callAny (.type "set") _) _ _ _
  refine wpAny_pure ⟨Code.quiet_builtin _ (by decide +kernel), codeAny_builtin F.entry_type_call ?_⟩
  rw [Around.under_plain (weight_type_call_type "set" [.ref l] []) rfl]
  have h1 := F.called_set.notType
  have h2 := F.called_set.canCreate
  have hct := F.typeCall_set_1 (.ref l)
  repeat (any_goals (first | assumption | wp_step))
  refine codeAny_mono (code_set_led1 (.ref l) (E := E) (Q₁ := fun obj s₁ => obj = .ref s.heap.objs.size ∧ s₁ = { s with heap := s.heap.push (emptySet w) }) ⟨rfl, rfl⟩) fun r s₁ hr => ?_
  cases r with
  | error e => exact hr
  | ok fl =>
    cases fl with
    | ret obj =>
      obtain ⟨rfl, rfl⟩ := hr
      have hT : Shared.TypeIs { s with heap := s.heap.push (emptySet w) } (.ref s.heap.objs.size) "set" := ⟨_, Heap.get?_push_size _ rfl, rfl⟩
      have hli := F.called_set.init.lookup
      have hbi := F.called_set.init.bind (.ref s.heap.objs.size)
      repeat (any_goals (first | assumption | wp_step))
      refine codeAny_mono (codeAny_call_builtin (R := wants (fun r s₂ => r = .none ∧ SetEnd w s ns s₂) E) F.called_set.init.plain F.entry_set_init (check_set_init_1 hT (set_init_list ns (by simp [hh]) hl hit hb fun s₂ e => ⟨rfl, e⟩))) fun r₂ s₂ hr₂ => ?_
      cases r₂ with
      | error e => exact hr₂
      | ok fl₂ =>
        cases fl₂ with
        | ret r =>
          obtain ⟨rfl, e⟩ := hr₂
          repeat (any_goals (first | assumption | wp_step))
          exact h _ e
        | _ => exact hr₂.elim
    | _ => exact hr.elim
end
section
variable {X : Cx}
/-- set(xs), a list of ints -/
def rSetL (K : PySem.W.Frag) (w : World) : List V → Hp → VK → Prop := fun vs H Q => ∃ (a : Addr) (ns : List Int), vs = [V.ref a] ∧ SqL K H a (ns.map V.int) ∧ ns.length ≤ 4000 ∧ ∀ p c, H p = none → Q (.ref p) (upd H p (SetO w p (fun j => decide (j ∈ ns)) c))
theorem cr_setL (hc : X.calm = true) : CallR X (.type "set") (rSetL X.K X.w) := by
  intro pins s σ H vs us Q I r h
  obtain ⟨a, ns, rfl, hs, hz, q⟩ := h
  rw [Vals.ref1 r]
  obtain ⟨its, rv, hl, _⟩ := I.list hs
  refine call_set_ints ns (I.ok.hd hc) hl.isList (by simpa using rv.ints) (by show ns.length + 1 < 4096; omega) fun s₂ ⟨h', tk, c, e, R, k⟩ => ?_
  have hp : s.heap.get? s.heap.objs.size = none := by
    cases z : s.heap.get? s.heap.objs.size with
    | none => rfl
    | some o => exact absurd (Heap.lt_size z) (Nat.lt_irrefl _)
  subst e
  have hn : H s.heap.objs.size = none := I.hok.fresh (Nat.le_refl _)
  exact ⟨.ref _, upd H s.heap.objs.size (SetO X.w s.heap.objs.size (fun j => decide (j ∈ ns)) c), I.laid (t' := tk) k (Nat.le_refl _) (setO_new R), rfl, q _ _ hn⟩
end
end K21

set_option Elab.async false
set_option linter.all false
set_option maxRecDepth 100000
set_option maxHeartbeats 4000000
/-! for i, x in enumerate(v), v a list or a tuple. -/
namespace K21
open PySem PySem.Spec PyProof.Rows L2
theorem enum_new1 {v : Value} {o : Obj} {H : Heap → Prop} (B : Begins v o H) :
    Meets (Builtin.«enumerate.__new__» ⟨[.type "enumerate", v], []⟩) (fun _ R s => H s.heap ∧
      R (.ok (.ret (.ref (s.heap.push o).objs.size))) { s with heap := (s.heap.push o).push { cls := .type "enumerate", data := .fields #[.none, .bool false, .ref s.heap.objs.size, rawInt 0, .none, .none] } }) :=
  .of_wp fun prog w A R s h => by
    obtain ⟨hp, g, d, tk, os⟩ := s; obtain ⟨h1, h⟩ := h
    have hsub := sub_enumerate
    have q1 : ∀ {A' : Around} {E : Value → Shared → Prop} {Q : Value → Shared → Prop}, Q (.ref hp.objs.size) ⟨hp.push o, g, d, tk, os⟩ → wpAny (model prog w) A' (pyIter v) Q E ⟨hp, g, d, tk, os⟩ :=
      fun q => B.iter prog w _ _ ⟨hp, g, d, tk, os⟩ _ h1 q
    wp_walk using q1
    refine wpAny_stack_any fun st => wpAny_pure ?_
    split
    · rename_i c _ _ _ _ _
      cases (c == Value.type "enumerate")
      · wp_walk using q1
        exact ⟨_, rfl, h⟩
      · wp_walk using q1
        exact ⟨_, rfl, h⟩
    · wp_walk using q1
      exact ⟨_, rfl, h⟩
theorem call_enum1 {prog : Program} {w : World} {A : Around} {E : Value → Shared → Prop} {s : Shared} {v : Value} {o : Obj} {H : Heap → Prop} {Q : Value → Shared → Prop} (B : Begins v o H) (h1 : H s.heap)
    (h : ∀ h', IsEnum h' (s.heap.objs.size + 1) s.heap.objs.size 0 .none → h'.get? s.heap.objs.size = some o → (∀ b o, s.heap.get? b = some o → h'.get? b = some o) → Q (.ref (s.heap.objs.size + 1)) { s with heap := h' }) :
    wpAny (model prog w) A (call (.type "enumerate") [v]) Q E s := by
  refine callType_new F.called_enumerate (by decide) (F.typeCall_enumerate_1 _) (F.newCall_enumerate_1 _) (fun obj => F.args_object_init_2 obj _) F.entry_enumerate_new (enum_new1 B) ⟨h1, ?_⟩
  have hz : (s.heap.push o).objs.size = s.heap.objs.size + 1 := Heap.size_push ..
  show _ ∧ _
  rw [hz]
  have he : IsEnum ((s.heap.push o).push { cls := .type "enumerate", data := .fields #[.none, .bool false, .ref s.heap.objs.size, rawInt 0, .none, .none] }) (s.heap.objs.size + 1) s.heap.objs.size 0 .none := by
    have q := Heap.get?_push_size (s.heap.push o) (o := { cls := .type "enumerate", data := .fields #[.none, .bool false, .ref s.heap.objs.size, rawInt 0, .none, .none] }) rfl
    rw [hz] at q; exact q
  exact ⟨⟨_, he, rfl⟩, h _ he (Heap.get?_push_of_some _ (Heap.get?_push_size _ B.free)) fun b o x => Heap.get?_push_of_some _ (Heap.get?_push_of_some _ x)⟩
/-- the tuple at a, each item in a new pair -/
def ItE (K : PySem.W.Frag) (a : Addr) : It :=
  ⟨fun i H => ∃ (xs : List V) (x : V), SqT K H a xs ∧ xs[i]? = some x, fun i H v H' => ∃ T x, v = .ref T ∧ H T = none ∧ H' = upd H T (.tup [.int (i : Nat), x]) ∧ ∀ xs, SqT K H a xs → xs[i]? = some x, fun i H => ∃ xs : List V, SqT K H a xs ∧ xs.length ≤ i⟩
theorem turn_enumT {P : Program} {w : World} {K : PySem.W.Frag} {elts : List Expr} {kk : Nat} {tpos : Pos} (a e it : Addr) :
    Turn P w K (.Tuple elts kk tpos) (ItE K a) [e, it] e (fun i h => (∃ old, IsEnum h e it ((i : Nat) : Int) old) ∧ h.IsTupleIter it a i ∧ e ≠ it ∧ a ≠ it ∧ e ≠ a) where
  mem := by simp
  obj := fun i h st b hb => by
    obtain ⟨⟨old, he⟩, ⟨o, ho, hc, hd⟩, _⟩ := st
    have e' : b = e ∨ b = it := by simpa using hb
    rcases e' with z | z
    · rw [z]; exact ⟨_, he, fun v q => nomatch q⟩
    · rw [z]; exact ⟨o, ho, fun v q => by rw [hd] at q; cases q⟩
  keep := fun i h h' st k => let ⟨⟨old, he⟩, hi, hne⟩ := st; ⟨⟨old, k e (by simp) _ he⟩, hi.at fun o q => k it (by simp) o q, hne⟩
  item := by
    intro X hP hw hK hc i pins s σ H E I hf st hg
    subst hP hw hK
    obtain ⟨⟨old, he⟩, hit, hne, hai, hea⟩ := st
    obtain ⟨xs, x, hq, hx⟩ := hg
    obtain ⟨its, rv, p, hz⟩ := I.tuple hq
    obtain ⟨u, hu, ru⟩ := rv.get hx
    have hlt : i < its.toArray.size := by
      rw [List.size_toArray]
      exact (List.getElem?_eq_some_iff.mp hu).1
    have hel : e < s.heap.objs.size := Heap.lt_size he
    have hil : it < s.heap.objs.size := by obtain ⟨_, q, _⟩ := hit; exact Heap.lt_size q
    refine wpAny_pyNext_enum_itemD (Draws.tuple (A := X.A.in1) (show X.A.handled = none from I.ok.hd hc) it a hai its.toArray) he ⟨hit, p⟩ hlt hne (by simp [hne, hea]) fun u' h' tk hu' ho hst hT hsz hk => ?_
    obtain rfl : u' = u := by
      have q : its[i]? = some u' := by simpa using hu'
      rw [hu] at q
      exact (Option.some.inj q).symm
    refine ⟨_, rfl, wpAny_letOwnedTupleGo_enum (s := { s with heap := h', toks := tk + 1 }) ho fun h'' he' sb => ?_⟩
    have hT2 : h''.get? s.heap.objs.size = some { cls := .type "tuple", data := .seq #[.int i tk, u'] } := (sb.2 _ (Nat.ne_of_gt hel)).trans hT
    have new : ObjOk X.prog X.w (upd H s.heap.objs.size (.tup [.int (i : Nat), x])) h'' s.heap.objs.size (.tup [.int (i : Nat), x]) :=
      ⟨by show 2 ≤ sizeLine; decide, [.int i tk, u'], .cons ⟨_, rfl⟩ (.cons ru .nil), ⟨_, hT2, rfl, _, rfl⟩⟩
    have I1 : Inv X pins σ (upd H s.heap.objs.size (.tup [.int (i : Nat), x])) { s with heap := h'', toks := tk + 1 } :=
      I.turnedNew (ch := [e, it]) (fun b ob hb q => (sb.2 b (fun z => hb (by simp [z]))).trans (hk b ob (fun z => hb (by simp [z])) (fun z => hb (by simp [z])) q)) hf (Nat.le_refl _) new
    refine ⟨.ref s.heap.objs.size, _, I1, rfl, ⟨_, x, rfl, I.hok.fresh (Nat.le_refl _), rfl, fun ys hy => by rw [I.tuple_inj hy hq]; exact hx⟩, ⟨⟨u', ?_⟩, hst.1.at fun o q => (sb.2 it (Ne.symm hne)).trans q, hne, hai, hea⟩, fun b hb => ?_⟩
    · have e1 : ((i + 1 : Nat) : Int) = (i : Int) + 1 := by omega
      rw [e1]; exact he'
    · have hb' : b < s.heap.objs.size := by
        have e' : b = e ∨ b = it := by simpa using hb
        rcases e' with z | z
        · rw [z]; exact hel
        · rw [z]; exact hil
      rw [upd_ne (Nat.ne_of_lt hb')]
      exact (hf b hb).1
  done := by
    intro X hP hw hK hc i pins s σ H E I hf st hg
    subst hP hw hK
    obtain ⟨⟨old, he⟩, hit, hne, hai, hea⟩ := st
    obtain ⟨xs, hq, hx⟩ := hg
    obtain ⟨its, rv, p, hz⟩ := I.tuple hq
    obtain ⟨f0, f1, f2, f3, f4, f5⟩ := hf it (by simp)
    have hl := rv.length
    have hT : s.TypeIs (.ref e) "enumerate" := ⟨_, he, rfl⟩
    unfold pyNext
    refine wpAny_bind (wpAny_attempt (wpAny_callSpecial?_slot (name := Str.ofString "__next__") hT F.slot_enumerate_next (wpAny_call_entry F.slot_enumerate_next hT F.entry_enumerate_next ?_ (F.args_enumerate_next_1 _))))
    show wpAny _ _ (field (.ref e) 2 >>= _) _ _ _
    refine wpAny_bind (wpAny_field he rfl (x := .ref it) rfl ?_)
    refine wpAny_bind (wpAny_nextOf_tuple_end (show X.A.handled = none from I.ok.hd hc) hit p (by simp; omega) fun h' x eb hx' => ?_)
    obtain ⟨o, ho, hc'⟩ := hx'
    refine wpAny_bind (wpAny_isInstance (T := "StopIteration") (b := true) ⟨o, ho, hc'⟩ isSubtype_stop ?_)
    exact wpAny_pure ⟨rfl, I.turned (t' := s.toks) (fun b o hb q => eb b o hb q) f0 f1 f3 f4 f5⟩
  self := fun A i s Q E st h => let ⟨⟨_, he⟩, _⟩ := st; wpAny_pyIter_enum he h
/-- enumerate(v), v a list or a tuple -/
def iEnumA (K : PySem.W.Frag) (ta : TA) : TI := fun σ H R => ta σ H fun vs H1 => ∃ a xs, vs = [.ref a] ∧ ((SqL K H1 a xs ∧ R (Ite K a) H1) ∨ (SqT K H1 a xs ∧ R (ItE K a) H1))
theorem pi_enumA {X : Cx} {e : Expr} {ta : TA} {p pos tpos : Pos} {elts : List Expr} {kk : Nat} (hg : Gl X "enumerate") (hm : X.mg "enumerate" = none) (ha : PA X [e] ta) (hs : starEach [e] X.env = [(false, eval e X.env)] := by rfl) :
    PI X (.Tuple elts kk tpos) (.Call (.Name "enumerate" p) [e] [] pos) (iEnumA X.K ta) := by
  refine ⟨fun pins s σ H R I h => ?_⟩
  refine Call_ (ld_blt I hg hm boot_enumerate (callWith_type1 (thn (ha.run pos pins s σ H _ I h) fun us s1 ⟨vs, H1, I1, r1, q1⟩ => ?_) hs rfl))
  obtain ⟨a, xs, ex, hq⟩ := q1
  subst ex
  obtain ⟨u, rfl, ru⟩ := r1.one
  cases ru
  have fp : ∀ b ∈ [s1.heap.objs.size + 1, s1.heap.objs.size], FpOk X pins H1 b := fun b hb => by
    have e' : b = s1.heap.objs.size + 1 ∨ b = s1.heap.objs.size := by simpa using hb
    have hle : s1.heap.objs.size ≤ b := by
      rcases e' with z | z
      · rw [z]; exact Nat.le_add_right _ _
      · rw [z]; exact Nat.le_refl _
    exact I1.fpOk hle (I1.hok.fresh hle)
  rcases hq with ⟨hq, q⟩ | ⟨hq, q⟩
  · obtain ⟨its, rv, p', hz⟩ := I1.list hq
    refine call_enumerate_list p'.isList fun h' he hit hsz hk => wpAny_pyIter_enum he ?_
    have I2 : Inv X pins σ H1 { s1 with heap := h' } := I1.kept (t' := s1.toks) hk
    exact ⟨s1.heap.objs.size + 1, [s1.heap.objs.size + 1, s1.heap.objs.size], _, _, H1, rfl, I2, turn_enum a (s1.heap.objs.size + 1) s1.heap.objs.size, ⟨⟨.none, he⟩, hit, Nat.succ_ne_self _⟩, fp, q⟩
  · obtain ⟨its, rv, p', hz⟩ := I1.tuple hq
    have ha : a < s1.heap.objs.size := by obtain ⟨o, ho, _⟩ := p'; exact Heap.lt_size ho
    refine call_enum1 (begins_tuple a its.toArray) p' fun h' he hit hk => wpAny_pyIter_enum he ?_
    have I2 : Inv X pins σ H1 { s1 with heap := h' } := I1.kept (t' := s1.toks) hk
    exact ⟨s1.heap.objs.size + 1, [s1.heap.objs.size + 1, s1.heap.objs.size], _, _, H1, rfl, I2, turn_enumT a (s1.heap.objs.size + 1) s1.heap.objs.size,
      ⟨⟨.none, he⟩, ⟨_, hit, rfl, rfl⟩, Nat.succ_ne_self _, Nat.ne_of_lt ha, Nat.ne_of_gt (Nat.lt_succ_of_lt ha)⟩, fp, q⟩
end K21

set_option Elab.async false
set_option linter.all false
set_option maxRecDepth 100000
set_option maxHeartbeats 4000000
/-! try with several clauses, some of them «except x as n». -/
namespace K21
open PySem PySem.Spec PyProof.Rows L2
abbrev Suite := Addr → Value → Option Addr → TS
/-- behind a clause's suite its name is gone -/
def dropAt (i : Nat) (D : Ends) : Ends := { nx := fun σ' H' => D.nx (σ'.set i none) H', rt := D.rt, bk := fun σ' H' => D.bk (σ'.set i none) H', ct := fun σ' H' => D.ct (σ'.set i none) H' }
/-- what one clause does with the exception at a -/
def suiteAt (D : Ends) : Option Nat → Suite → Value → Option Addr → L2.St → Hp → Prop
  | none, ts, cls, d, σ, H => ∀ a, H a = none → ts a cls d D σ H
  | some i, ts, cls, d, σ, H => ∀ a, H a = none → ts a cls d (dropAt i D) (σ.set i (some (.ref a))) H
/-- the clauses from the first on: the one that names the class takes it; Wout where none does -/
def wMix (K : PySem.W.Frag) (Wout : WX) (D : Ends) : List (Value × Option Nat × Suite) → WX
  | [] => Wout
  | (c, o, ts) :: r => fun cls d σ H => ∃ b, PySem.W.exmOne K cls c = some b ∧ (b = true → suiteAt D o ts cls d σ H) ∧ (b = false → wMix K Wout D r cls d σ H)
inductive HdsMix (X : Cx) : List ExceptHandler → List (Value × Option Nat × Suite) → Prop
  | nil : HdsMix X [] []
  | plain {x : Str} {c : Value} {ts : Suite} {b₀ : Stmt} {suite : List Stmt} {np pos' : Pos} {hds : List ExceptHandler} {l : List (Value × Option Nat × Suite)} (hc : Names X x c)
      (hsu : ∀ (a : Addr) (oe : Obj) (cls : Value) (d : Option Addr) (pn : List (Addr × Obj)), Zc cls d oe → (∃ vs, oe.data = .fields vs) → PSs (X.suite a ((a, oe) :: pn)) (b₀ :: suite) (ts a cls d)) (r : HdsMix X hds l) :
      HdsMix X (.ExceptHandler (some (.Name x np)) none (b₀ :: suite) pos' :: hds) ((c, none, ts) :: l)
  | named {x n : Str} {c : Value} {i : Nat} {ts : Suite} {b₀ : Stmt} {suite : List Stmt} {np pos' : Pos} {hds : List ExceptHandler} {l : List (Value × Option Nat × Suite)} (hi : X.N[i]? = some n) (hln : X.env.kindOf n = some .local) (hc : Names X x c)
      (hsu : ∀ (a : Addr) (oe : Obj) (cls : Value) (d : Option Addr) (pn : List (Addr × Obj)), Zc cls d oe → (∃ vs, oe.data = .fields vs) → PSs (X.suite a ((a, oe) :: pn)) (b₀ :: suite) (ts a cls d)) (r : HdsMix X hds l) :
      HdsMix X (.ExceptHandler (some (.Name x np)) (some n) (b₀ :: suite) pos' :: hds) ((c, some i, ts) :: l)
section
variable {X : Cx} {body : List Stmt} {h₀ : ExceptHandler} {hds : List ExceptHandler} {l : List (Value × Option Nat × Suite)} {pos : Pos} {tb : WX → TS} {Wout : WX}
theorem ps_try_mix (hs : X.stack = X.env :: X.outer) (hf : X.env.frame = some X.env.locals) (hN : X.N.Nodup) (tk : Takes X Wout)
    (hb : ∀ (W : WX) (pn : List (Addr × Obj)) (xe : Value → Shared → Prop), Takes (X.tr pn xe) W → PassesOwn (model X.prog X.w) X.A X.env xe → PSs (X.tr pn xe) body (tb W))
    (hh : HdsMix X (h₀ :: hds) l) : PS X (.Try body (h₀ :: hds) [] [] pos) (fun D σ H => tb (wMix X.K Wout D l) D σ H) := by
  refine ⟨fun pins s σ H D I h => ?_⟩
  have ok := I.ok
  have hfr : X.A.frames = some (X.env :: X.outer) := by rw [ok.frames, hs]
  refine wpAny_Try_except ?_
  refine wpAny_mono ((hb (wMix X.K Wout D l) (X.pn ++ pins) (fun e s₁ => wpAny (model X.prog X.w) X.A (noteFrame e X.env) (fun _ s₂ => wpAny (model X.prog X.w) X.A (setFlight e none) (fun _ s₃ =>
    wpAny (model X.prog X.w) X.A (handleBy e X.env (h₀ :: hds)) (SP X pins D) X.xe s₃) X.xe s₂) X.xe s₁) (fun u s' xx => ?_) PassesOwn.looking).run [] s σ H D (I.toTry _) h) (fun f s1 hsp => ?_) (fun e s1 he => he)
  · obtain ⟨a, B, sI, pins', σ', H', cls, d, rfl, J', nb, up, sky, na, os, ag, w⟩ := xx
    have J : Inv X pins σ' H' sI := J'.ofTry ok
    have sky' : Sky B (X.env :: X.outer) a (Zc cls d) X.env.locals s'.heap := by rw [← hs]; exact sky
    show wpAny (model X.prog X.w) X.A (noteFrame (.ref a) X.env) _ _ _
    refine Sky.land Zc.steady hfr hf sky' fun h3 fl3 up3 => ?_
    have J3 : Inv X pins σ' H' { s' with heap := h3 } := J.landed nb fl3.1 (up.trans up3) os ag
    obtain ⟨oe3, vs3, he3, hz3, hd3⟩ := fl3.there
    have nfr : a ∉ frs (X.env :: X.outer) := fun hm => by
      obtain ⟨_, o', e', hnf⟩ := fl3.2.2.1.mem hm
      rw [he3] at e'; cases e'
      exact hnf _ hd3
    have nL : a ≠ X.env.locals := fun z => nfr (List.mem_filterMap.mpr ⟨X.env, List.mem_cons_self, by rw [hf, z]⟩)
    have nF : a ∉ X.fs := fun hm => by
      obtain ⟨e, he, q⟩ := List.mem_filterMap.mp hm
      exact nfr (List.mem_filterMap.mpr ⟨e, List.mem_cons_of_mem _ he, q⟩)
    have S3 := J3.suite he3 hd3 na nL nF
    have LT : PySem.W.Looks (model X.prog X.w) h3 (typeOf (.ref a)) cls := fun A Q E s k q => wpAny_typeOf_ref (k _ _ he3) (by rw [hz3.1]; exact q)
    have test : ∀ {x : Str} {c : Value} {np : Pos} {Q : Value → Shared → Prop} {E : Value → Shared → Prop}, Names X x c → Q c { s' with heap := h3 } → wpAny (model X.prog X.w) (X.A.mark (some (.ref a))) (eval (.Name x np) X.env) Q E { s' with heap := h3 } := fun {x c np Q E} hc q => by
      obtain ⟨hg, hdbg, hm | ⟨hm, hv, hnn⟩⟩ := hc
      · exact ld_glob (X := X.suite a ((a, oe3) :: (X.pn ++ pins))) S3 hg hm q hdbg
      · exact ld_blt (X := X.suite a ((a, oe3) :: (X.pn ++ pins))) S3 hg hm hv q hnn hdbg
    have go : ∀ {hds' : List ExceptHandler} {l' : List (Value × Option Nat × Suite)}, HdsMix X hds' l' → wMix X.K Wout D l' cls d σ' H' →
        wpAny (model X.prog X.w) X.A (handleBy (.ref a) X.env hds') (SP X pins D) X.xe { s' with heap := h3 } := by
      intro hds' l' hk
      induction hk with
      | nil =>
        intro w
        refine wpAny_handleBy_nil ?_
        obtain ⟨k1, k2, k3, oe, vs, T, oT, ts', he, hz, hd, h1, hr⟩ := id fl3
        unfold PySem.passOn
        refine wpAny_bind (wpAny_field he hd h1 ?_)
        rw [if_neg (show ¬ ((Value.ref T == Value.none) = true) from by simp)]
        have fin : wpAny (model X.prog X.w) X.A (setFlight (.ref a) X.env.frame) (fun _ s4 => wpAny (model X.prog X.w) X.A (throw (.ref a) : Sem Flow) (SP X pins D) X.xe s4) X.xe { s' with heap := h3 } := by
          rw [hf]
          refine HandSPX.setFlight_upZ fl3 fun h4 hh4 up4 => wpAny_throw (tk _ _ ?_)
          exact ⟨a, B, sI, pins, σ', H', cls, d, rfl, J, nb, (up.trans up3).trans up4, .inr (.inr (by rw [hs]; exact hh4)), na, os, ag, w⟩
        first
          | exact wpAny_bind (wpAny_pure (wpAny_bind fin))
          | exact wpAny_bind fin
      | @plain x c ts b₀ suite np pos' hds2 l2 hc hsu r ih =>
        intro w
        obtain ⟨b, hb1, hyes, hno⟩ := w
        refine wpAny_handleBy_cons (codeAny_handlers_test ?_) (by intro q; cases q)
        refine test hc ((PySem.W.exm_one (M := model X.prog X.w) (J3.kIn) LT hb1).here ?_)
        cases b with
        | true =>
          refine codeAny_handlers_suite ?_
          refine HandSPX.lands_againZ fl3 fun h4 fl4 up4 => ?_
          have J4 : Inv X pins σ' H' { s' with heap := h4 } := J.landed nb fl4.1 ((up.trans up3).trans up4) os ag
          obtain ⟨oe4, vs4, he4, hz4, hd4⟩ := fl4.there
          have S4 := J4.suite he4 hd4 na nL nF
          have hy : ∀ a, H' a = none → ts a cls d D σ' H' := hyes rfl
          refine wpAny_mono ((hsu a oe4 cls d (X.pn ++ pins) hz4 ⟨_, hd4⟩).run [] _ _ H' _ S4 (hy a na)) (fun f s6 hsp => ?_) (fun _ _ z => False.elim z)
          cases f with
          | next => obtain ⟨σ6, H6, S6, q6⟩ := hsp; exact ⟨_, _, S6.unsuite ok, q6⟩
          | brk => obtain ⟨σ6, H6, S6, q6⟩ := hsp; exact ⟨_, _, S6.unsuite ok, q6⟩
          | cont => obtain ⟨σ6, H6, S6, q6⟩ := hsp; exact ⟨_, _, S6.unsuite ok, q6⟩
          | ret u => obtain ⟨v6, σ6, H6, S6, r6, q6⟩ := hsp; exact ⟨_, _, _, S6.unsuite ok, r6, q6⟩
        | false =>
          show wpAny _ X.A (handleBy (.ref a) X.env hds2) _ _ _
          exact ih (hno rfl)
      | @named x n c i ts b₀ suite np pos' hds2 l2 hi hln hc hsu r ih =>
        intro w
        obtain ⟨b, hb1, hyes, hno⟩ := w
        refine wpAny_handleBy_cons (codeAny_handlers_test ?_) (by intro q; cases q)
        refine test hc ((PySem.W.exm_one (M := model X.prog X.w) (J3.kIn) LT hb1).here ?_)
        cases b with
        | true =>
          refine codeAny_handlers_suite_as ?_
          refine HandSPX.lands_againZ fl3 fun h4 fl4 up4 => ?_
          have J4 : Inv X pins σ' H' { s' with heap := h4 } := J.landed nb fl4.1 ((up.trans up3).trans up4) os ag
          obtain ⟨oe4, vs4, he4, hz4, hd4⟩ := fl4.there
          have S4 := J4.suite he4 hd4 na nL nF
          refine store_ok (X := X.suite a ((a, oe4) :: (X.pn ++ pins))) (v := .ref a) S4 hN hi (.inl hln) rfl (fun s5 S5 => ?_) (.inr hln)
          have hy : ∀ a, H' a = none → ts a cls d (dropAt i D) (σ'.set i (some (.ref a))) H' := hyes rfl
          refine wpAny_mono ((hsu a oe4 cls d (X.pn ++ pins) hz4 ⟨_, hd4⟩).run [] s5 _ H' _ S5 (hy a na)) (fun f s6 hsp => ?_) (fun _ _ z => False.elim z)
          have end_ : ∀ {σ6 : L2.St} {H6 : Hp} {Q : Shared → Prop}, Inv (X.suite a ((a, oe4) :: (X.pn ++ pins))) [] σ6 H6 s6 → (∀ s7, Inv X pins (σ6.set i none) H6 s7 → Q s7) →
              wpAny (model X.prog X.w) X.A (do bindName X.env n .none; unbindBehindTheSuite X.env n pos') (fun _ s7 => Q s7) X.xe s6 := fun {σ6 H6 Q} S6 hq => gone_ok (S6.unsuite ok) hN hi hln hq
          cases f with
          | next => obtain ⟨σ6, H6, S6, q6⟩ := hsp; exact end_ S6 fun s7 J7 => ⟨_, _, J7, q6⟩
          | brk => obtain ⟨σ6, H6, S6, q6⟩ := hsp; exact end_ S6 fun s7 J7 => ⟨_, _, J7, q6⟩
          | cont => obtain ⟨σ6, H6, S6, q6⟩ := hsp; exact end_ S6 fun s7 J7 => ⟨_, _, J7, q6⟩
          | ret u => obtain ⟨v6, σ6, H6, S6, r6, q6⟩ := hsp; exact end_ S6 fun s7 J7 => ⟨_, _, _, J7, r6, q6⟩
        | false =>
          show wpAny _ X.A (handleBy (.ref a) X.env hds2) _ _ _
          exact ih (hno rfl)
    exact go hh w
  · cases f with
    | next => obtain ⟨σ', H', J', q⟩ := hsp; exact wpAny_execs_nil ⟨σ', H', J'.ofTry ok, q⟩
    | brk => obtain ⟨σ', H', J', q⟩ := hsp; exact ⟨σ', H', J'.ofTry ok, q⟩
    | cont => obtain ⟨σ', H', J', q⟩ := hsp; exact ⟨σ', H', J'.ofTry ok, q⟩
    | ret u => obtain ⟨v, σ', H', J', r, q⟩ := hsp; exact ⟨v, σ', H', J'.ofTry ok, r, q⟩
end
end K21

set_option Elab.async false
set_option linter.all false
set_option maxRecDepth 100000
set_option maxHeartbeats 1000000
/-! Words used by all the defs: built-in names, calls by name, heaps. -/
namespace K21
open PySem PySem.Spec PyProof.Rows L2
/-- the built-in names that the text uses are still the built-in ones -/
structure Bl (mg : Str → Option Value) : Prop where
  isi : mg "isinstance" = none
  int : mg "int" = none
  bool : mg "bool" = none
  list : mg "list" = none
  tuple : mg "tuple" = none
  len : mg "len" = none
  enum : mg "enumerate" = none
  sorted : mg "sorted" = none
  max : mg "max" = none
  min : mg "min" = none
  abs : mg "abs" = none
  range : mg "range" = none
  sum : mg "sum" = none
  set : mg "set" = none
theorem b_isi : bootBuiltins "isinstance" = some (.builtin "isinstance") := by decide +kernel
theorem b_int : bootBuiltins "int" = some (.type "int") := by decide +kernel
theorem b_bool : bootBuiltins "bool" = some (.type "bool") := by decide +kernel
theorem b_list : bootBuiltins "list" = some (.type "list") := by decide +kernel
theorem b_tuple : bootBuiltins "tuple" = some (.type "tuple") := by decide +kernel
theorem b_len : bootBuiltins "len" = some (.builtin "len") := by decide +kernel
theorem b_sorted : bootBuiltins "sorted" = some (.builtin "sorted") := by decide +kernel
theorem b_max : bootBuiltins "max" = some (.builtin "max") := by decide +kernel
theorem b_min : bootBuiltins "min" = some (.builtin "min") := by decide +kernel
theorem b_abs : bootBuiltins "abs" = some (.builtin "abs") := by decide +kernel
theorem b_sum : bootBuiltins "sum" = some (.builtin "sum") := by decide +kernel
theorem b_set : bootBuiltins "set" = some (.type "set") := by decide +kernel
/-- a def that keeps sp stands under the name x -/
structure Clx (P : Program) (w : World) (K : PySem.W.Frag) (mg : Str → Option Value) (base : Heap) (CX : CXT) (k : Nat) (x : Str) (sp : Sp) : Prop where
  ex : ∃ f fd ps, FnOk P w K mg base CX k f fd ps sp ∧ mg x = some (.ref f) ∧ PySem.W.keepIn K (.ref f) = true ∧ Binds K fd ps []
section
variable {X : Cx} {CX : CXT} {k j : Nat} {sp : Sp} {x : Str} {p pos : Pos} {e : Expr} {es : List Expr} {t : TA}
/-- f(e, ..) -/
theorem pe_x {E : XK} (c : Clx X.prog X.w X.K X.mg X.base CX k x sp) (hr : Room j X.A) (hk : k ≤ j) (hx : Passes CX X E) (ha : PA X (e :: es) t) (hg : Gl X x := by rfl)
    (hdb : (x == ("__debug__" : Str)) = false := by decide) (he : starEach (e :: es) X.env = (false, eval e X.env) :: starEach es X.env := by rfl) (hpl : (backTo pos (starEach es X.env)).any (·.1) = false := by rfl) :
    PE X (.Call (.Name x p) (e :: es) [] pos) (tCall sp [] E t) := by
  obtain ⟨f, fd, ps, F, hm, hkp, hb⟩ := c.ex
  exact pe_call F (hr.mono hk) hg hm hkp hb .nil hx ha hdb he hpl
/-- f(e, ..) within a try's body: what is raised is wished for at the slots -/
theorem pe_xS {E : L2.St → XK} (c : Clx X.prog X.w X.K X.mg X.base CX k x sp) (hr : Room j X.A) (hk : k ≤ j) (hx : ∀ σ, PassesAt CX X σ (E σ)) (ha : PA X (e :: es) t) (hg : Gl X x := by rfl)
    (hdb : (x == ("__debug__" : Str)) = false := by decide) (he : starEach (e :: es) X.env = (false, eval e X.env) :: starEach es X.env := by rfl) (hpl : (backTo pos (starEach es X.env)).any (·.1) = false := by rfl) :
    PE X (.Call (.Name x p) (e :: es) [] pos) (tCallS sp E t) := by
  obtain ⟨f, fd, ps, F, hm, hkp, hb⟩ := c.ex
  exact pe_callS F (hr.mono hk) hg hm hkp hb hx ha hdb he hpl
end
/-! ### heaps -/
theorem same_upd {H : Hp} {p : Addr} {o : HO} (h : H p = none) : Same H (upd H p o) := fun b x e => by
  rw [upd_ne (ne_of_none e h)]
  exact e
/-- all but what stands at a is as it was -/
def But (a : Addr) (H H' : Hp) : Prop := ∀ b o, b ≠ a → H b = some o → H' b = some o
theorem But.refl {a : Addr} {H : Hp} : But a H H := fun _ _ _ e => e
theorem But.trans {a : Addr} {H H1 H2 : Hp} (x : But a H H1) (y : But a H1 H2) : But a H H2 := fun b o n e => y b o n (x b o n e)
theorem Same.but {a : Addr} {H H' : Hp} (x : Same H H') : But a H H' := fun b o _ e => x b o e
theorem but_upd {a : Addr} {H : Hp} {o : HO} : But a H (upd H a o) := fun b x n e => by rw [upd_ne n]; exact e
/-- a list or a tuple of these -/
def SqA (H : Hp) (a : Addr) (xs : List V) : Prop := H a = some (.lst xs) ∨ H a = some (.tup xs)
theorem SqA.sq {K : PySem.W.Frag} {H : Hp} {a : Addr} {xs : List V} (h : SqA H a xs) : SqL K H a xs ∨ SqT K H a xs := by
  rcases h with h | h
  · exact .inl (.inl (.inl h))
  · exact .inr (.inl (.inl h))
theorem SqA.same {H H' : Hp} {a : Addr} {xs : List V} (h : SqA H a xs) (s : Same H H') : SqA H' a xs := h.imp (s _ _) (s _ _)
theorem sqT {K : PySem.W.Frag} {H : Hp} {a : Addr} {xs : List V} (h : H a = some (.tup xs)) : SqT K H a xs := .inl (.inl h)
theorem sqL {K : PySem.W.Frag} {H : Hp} {a : Addr} {xs : List V} (h : H a = some (.lst xs)) : SqL K H a xs := .inl (.inl h)
/-! ### things of seven types -/
inductive Ty7 (H : Hp) : V → String → Prop
  | int (i : Int) : Ty7 H (.int i) "int"
  | bl (b : Bool) : Ty7 H (.bl b) "bool"
  | non : Ty7 H .non "NoneType"
  | str (s : Str) : Ty7 H (.str s) "str"
  | lst {a : Addr} {xs : List V} (e : H a = some (.lst xs)) : Ty7 H (.ref a) "list"
  | tup {a : Addr} {xs : List V} (e : H a = some (.tup xs)) : Ty7 H (.ref a) "tuple"
  | dct {a : Addr} {kvs : List (Key × V)} (e : H a = some (.dK kvs)) : Ty7 H (.ref a) "dict"
theorem Ty7.same {H H' : Hp} {x : V} {n : String} (t : Ty7 H x n) (s : Same H H') : Ty7 H' x n := by
  cases t with
  | int i => exact .int i
  | bl b => exact .bl b
  | non => exact .non
  | str z => exact .str z
  | lst e => exact .lst (s _ _ e)
  | tup e => exact .tup (s _ _ e)
  | dct e => exact .dct (s _ _ e)
theorem Ty7.tyX {K : PySem.W.Frag} {H : Hp} {x : V} {n : String} (t : Ty7 H x n) : TyX K H x (.type n) := by
  cases t with
  | int i => exact .base (.int i)
  | bl b => exact .base (.bl b)
  | non => exact .base .non
  | str z => exact .base (.str z)
  | lst e => exact .base (.lst e)
  | tup e => exact .base (.tup e)
  | dct e => exact .base (.dK e)
theorem Ty7.isInt {H : Hp} {x : V} {n : String} (t : Ty7 H x n) : kitB n "int" = some (n == "int" || n == "bool") := by cases t <;> decide +kernel
theorem Ty7.isBool {H : Hp} {x : V} {n : String} (t : Ty7 H x n) : kitB n "bool" = some (n == "bool") := by cases t <;> decide +kernel
theorem Ty7.isList {H : Hp} {x : V} {n : String} (t : Ty7 H x n) : kitB n "list" = some (n == "list") := by cases t <;> decide +kernel
theorem Ty7.isTuple {H : Hp} {x : V} {n : String} (t : Ty7 H x n) : kitB n "tuple" = some (n == "tuple") := by cases t <;> decide +kernel
/-- a whole number from lo to hi -/
def isW (x : V) (lo hi : Int) : Bool := match x with
  | .int i => decide (lo ≤ i) && decide (i ≤ hi)
  | _ => false
end K21

set_option Elab.async false
set_option linter.all false
set_option maxRecDepth 100000
set_option maxHeartbeats 4000000
/-! is_whole, whole_within, _law_is_whole, is_sequence, next_room, _law_next, _law_up. -/
namespace K21
open PySem PySem.Spec PyProof.Rows L2
theorem isW_int (i lo hi : Int) : isW (.int i) lo hi = (decide (lo ≤ i) && decide (i ≤ hi)) := rfl
/-- is_whole(thing, low, high), whole_within alike -/
def spWhole : Sp := fun vs H Q _ => ∃ x n lo hi, vs = [x, .int lo, .int hi] ∧ Ty7 H x n ∧ Q (.bl (isW x lo hi)) H
section
variable {P : Program} {w : World} {K : PySem.W.Frag} {mg : Str → Option Value} {base : Heap}
theorem ok_is_whole {f : Addr} {fd : FuncData} {k : Nat} (F : Fun K "is_whole" "is_whole" s_is_whole f fd) (B : Bl mg) : FnOk P w K mg base CX0 (k + 1) f fd ["thing", "low", "high"] spWhole := by
  refine F.ok sc_is_whole (fun vs H Q E h => ?_) (fun cdv A outer s H vs Q E hr h => ?_)
  · obtain ⟨x, n, lo, hi, rfl, _⟩ := h
    rfl
  · obtain ⟨x, n, lo, hi, rfl, t, q⟩ := h
    refine ⟨_, pss_one (ps_ret (pe_and (pe_callB call_isi (by rfl) B.isi b_isi (pa_cons (pv 0) (pa_cons (pe_bltn (v := .ty "int") (by rfl) B.int b_int rfl) pa_nil)))
      (pe_and (pe_not (pe_callB call_isi (by rfl) B.isi b_isi (pa_cons (pv 0) (pa_cons (pe_bltn (v := .ty "bool") (by rfl) B.bool b_bool rfl) pa_nil))))
        (pe_one (pe_chain op_le op_le (pv 1) (pv 0) (pv 2)))))), ?_⟩
    refine ⟨x, rfl, x, .ty "int", _, _, _, rfl, .ty _, t.tyX, kit_ty t.isInt, _, rfl, ?_⟩
    cases t with
    | int i =>
      refine ⟨_, rfl, _, .ty "bool", _, _, _, rfl, .ty _, (Ty7.int (H := H) i).tyX, kit_ty (Ty7.int (H := H) i).isBool, _, rfl, _, rfl, ?_⟩
      refine ⟨_, rfl, _, rfl, _, _, rfl, rfl, _, rfl, ?_⟩
      rw [isW_int] at q
      by_cases e : lo ≤ i
      · rw [decide_eq_true e] at q ⊢
        exact iteT ⟨_, rfl, _, _, rfl, rfl, q⟩
      · rw [decide_eq_false e] at q ⊢
        exact iteF q
    | bl b => exact ⟨_, rfl, _, .ty "bool", _, _, _, rfl, .ty _, (Ty7.bl (H := H) b).tyX, kit_ty (Ty7.bl (H := H) b).isBool, _, rfl, _, rfl, q⟩
    | non => exact q
    | str z => exact q
    | lst e => exact q
    | tup e => exact q
    | dct e => exact q
theorem ok_whole_within {f : Addr} {fd : FuncData} {k : Nat} (F : Fun K "whole_within" "whole_within" s_whole_within f fd) (B : Bl mg) : FnOk P w K mg base CX0 (k + 1) f fd ["thing", "low", "high"] spWhole := by
  refine F.ok sc_whole_within (fun vs H Q E h => ?_) (fun cdv A outer s H vs Q E hr h => ?_)
  · obtain ⟨x, n, lo, hi, rfl, _⟩ := h
    rfl
  · obtain ⟨x, n, lo, hi, rfl, t, q⟩ := h
    refine ⟨_, pss_one (ps_ret (pe_and (pe_callB call_isi (by rfl) B.isi b_isi (pa_cons (pv 0) (pa_cons (pe_bltn (v := .ty "int") (by rfl) B.int b_int rfl) pa_nil)))
      (pe_and (pe_not (pe_callB call_isi (by rfl) B.isi b_isi (pa_cons (pv 0) (pa_cons (pe_bltn (v := .ty "bool") (by rfl) B.bool b_bool rfl) pa_nil))))
        (pe_one (pe_chain op_le op_le (pv 1) (pv 0) (pv 2)))))), ?_⟩
    refine ⟨x, rfl, x, .ty "int", _, _, _, rfl, .ty _, t.tyX, kit_ty t.isInt, _, rfl, ?_⟩
    cases t with
    | int i =>
      refine ⟨_, rfl, _, .ty "bool", _, _, _, rfl, .ty _, (Ty7.int (H := H) i).tyX, kit_ty (Ty7.int (H := H) i).isBool, _, rfl, _, rfl, ?_⟩
      refine ⟨_, rfl, _, rfl, _, _, rfl, rfl, _, rfl, ?_⟩
      rw [isW_int] at q
      by_cases e : lo ≤ i
      · rw [decide_eq_true e] at q ⊢
        exact iteT ⟨_, rfl, _, _, rfl, rfl, q⟩
      · rw [decide_eq_false e] at q ⊢
        exact iteF q
    | bl b => exact ⟨_, rfl, _, .ty "bool", _, _, _, rfl, .ty _, (Ty7.bl (H := H) b).tyX, kit_ty (Ty7.bl (H := H) b).isBool, _, rfl, _, rfl, q⟩
    | non => exact q
    | str z => exact q
    | lst e => exact q
    | tup e => exact q
    | dct e => exact q
/-- _law_is_whole(x) of a whole number -/
def spIsInt : Sp := fun vs H Q _ => ∃ i, vs = [.int i] ∧ Q (.bl true) H
theorem ok_l_is_whole {f : Addr} {fd : FuncData} {k : Nat} (F : Fun K "_law_is_whole" "_law_is_whole" s_l_is_whole f fd) (B : Bl mg) : FnOk P w K mg base CX0 (k + 1) f fd ["_law_thing"] spIsInt := by
  refine F.ok sc_l_is_whole (fun vs H Q E h => ?_) (fun cdv A outer s H vs Q E hr h => ?_)
  · obtain ⟨i, rfl, _⟩ := h
    rfl
  · obtain ⟨i, rfl, q⟩ := h
    refine ⟨_, pss_one (ps_ret (pe_and (pe_callB call_isi (by rfl) B.isi b_isi (pa_cons (pv 0) (pa_cons (pe_bltn (v := .ty "int") (by rfl) B.int b_int rfl) pa_nil)))
      (pe_one (pe_not (pe_callB call_isi (by rfl) B.isi b_isi (pa_cons (pv 0) (pa_cons (pe_bltn (v := .ty "bool") (by rfl) B.bool b_bool rfl) pa_nil))))))), ?_⟩
    refine ⟨_, rfl, _, .ty "int", _, _, _, rfl, .ty _, (Ty7.int (H := H) i).tyX, kit_ty (Ty7.int (H := H) i).isInt, _, rfl, ?_⟩
    exact ⟨_, rfl, _, .ty "bool", _, _, _, rfl, .ty _, (Ty7.int (H := H) i).tyX, kit_ty (Ty7.int (H := H) i).isBool, _, rfl, q⟩
/-- is_sequence(thing, low, high) -/
def spSeq : Sp := fun vs H Q _ => ∃ x n lo hi, vs = [x, .int lo, .int hi] ∧ Ty7 H x n ∧ ∀ H', Same H H' →
  ((n ≠ "list" → n ≠ "tuple" → Q (.bl false) H') ∧ ∀ a xs, x = .ref a → SqA H a xs → Q (.bl (decide (lo ≤ (xs.length : Int)) && decide ((xs.length : Int) ≤ hi))) H')
theorem ok_is_sequence {f : Addr} {fd : FuncData} {k : Nat} (F : Fun K "is_sequence" "is_sequence" s_is_sequence f fd) (B : Bl mg) : FnOk P w K mg base CX0 (k + 1) f fd ["thing", "low", "high"] spSeq := by
  refine F.ok sc_is_sequence (fun vs H Q E h => ?_) (fun cdv A outer s H vs Q E hr h => ?_)
  · obtain ⟨x, n, lo, hi, rfl, _⟩ := h
    rfl
  · obtain ⟨x, n, lo, hi, rfl, t, q⟩ := h
    refine ⟨_, pss_one (ps_ret (pe_and (pe_callB call_isiT (by rfl) B.isi b_isi (pa_cons (pv 0) (pa_cons (pe_tup (pa_cons (pe_bltn (v := .ty "list") (by rfl) B.list b_list rfl) (pa_cons (pe_bltn (v := .ty "tuple") (by rfl) B.tuple b_tuple rfl) pa_nil))) pa_nil)))
      (pe_one (pe_chain op_le op_le (pv 1) (pe_callB call_len_seq (by rfl) B.len b_len (pa_cons (pv 0) pa_nil)) (pv 2))))), ?_⟩
    refine ⟨x, rfl, (by show 2 ≤ sizeLine; decide), fun p np => ?_⟩
    have sm := same_upd (o := .tup [.ty "list", .ty "tuple"]) np
    have t' := t.same sm
    obtain ⟨q1, q2⟩ := q _ sm
    refine ⟨x, p, [.ty "list", .ty "tuple"], .type n, [.type "list", .type "tuple"], (n == "list" || n == "tuple"), rfl, upd_same, .cons (.ty _) (.cons (.ty _) .nil), t'.tyX, ?_, _, rfl, ?_⟩
    · refine kitAny_cons (kit_ty t.isList) (fun e => kitAny_cons (kit_ty t.isTuple) (fun e2 => ?_) (fun e2 => by rw [e, e2]; rfl)) (fun e => by rw [e]; rfl)
      rw [e, e2]
      exact kitAny_nil
    · have seq : ∀ a xs, x = .ref a → SqA H a xs → (tChain (rI0 fun i j => V.bl (decide (i ≤ j))) (rI0 fun i j => V.bl (decide (i ≤ j))) (tVar 1) (tCB (fun xs H Q => ∃ p ys, xs = [.ref p] ∧ (SqL K H p ys ∨ SqT K H p ys) ∧ Q (.int ys.length) H) (tCons (tVar 0) tNil)) (tVar 2))
          (L2.start ["thing", "low", "high"] [x, .int lo, .int hi]) (upd H p (.tup [.ty "list", .ty "tuple"])) Q := fun a xs ex hs => by
        subst ex
        refine ⟨_, rfl, _, rfl, a, xs, rfl, (hs.same sm).sq, _, _, rfl, rfl, _, rfl, ?_⟩
        have q := q2 a xs rfl hs
        by_cases e : lo ≤ (xs.length : Int)
        · rw [decide_eq_true e] at q ⊢
          exact iteT ⟨_, rfl, _, _, rfl, rfl, q⟩
        · rw [decide_eq_false e] at q ⊢
          exact iteF q
      cases t with
      | int i => exact q1 (by decide) (by decide)
      | bl b => exact q1 (by decide) (by decide)
      | non => exact q1 (by decide) (by decide)
      | str z => exact q1 (by decide) (by decide)
      | dct e => exact q1 (by decide) (by decide)
      | lst e => exact seq _ _ rfl (.inl e)
      | tup e => exact seq _ _ rfl (.inr e)
/-- next_room(total, people), _law_next alike -/
def spRoom : Sp := fun vs H Q _ => ∃ t m, vs = [.int t, .int m] ∧ 2 ≤ m ∧ m ≤ 5 ∧ Q (.int (room t m)) H
theorem ok_next_room {f : Addr} {fd : FuncData} {k : Nat} (F : Fun K "next_room" "next_room" s_next_room f fd) : FnOk P w K mg base CX0 (k + 1) f fd ["total", "people"] spRoom := by
  refine F.ok sc_next_room (fun vs H Q E h => ?_) (fun cdv A outer s H vs Q E hr h => ?_)
  · obtain ⟨t, m, rfl, _⟩ := h
    rfl
  · obtain ⟨t, m, rfl, h1, h2, q⟩ := h
    refine ⟨_, pss_one (ps_ret (pe_op op_add (pe_op op_fdiv (pv 0) (pe_op op_sub (pv 1) pe_int)) pe_int)), ?_⟩
    exact ⟨_, rfl, _, rfl, _, _, rfl, rfl, _, _, rfl, rfl, ⟨by show 0 < m - 1; omega, by show m - 1 < 1073741824; omega⟩, _, _, rfl, rfl, q⟩
theorem ok_l_next {f : Addr} {fd : FuncData} {k : Nat} (F : Fun K "_law_next" "_law_next" s_l_next f fd) : FnOk P w K mg base CX0 (k + 1) f fd ["_law_total", "_law_people"] spRoom := by
  refine F.ok sc_l_next (fun vs H Q E h => ?_) (fun cdv A outer s H vs Q E hr h => ?_)
  · obtain ⟨t, m, rfl, _⟩ := h
    rfl
  · obtain ⟨t, m, rfl, h1, h2, q⟩ := h
    refine ⟨_, pss_one (ps_ret (pe_op op_add (pe_op op_fdiv (pv 0) (pe_op op_sub (pv 1) pe_int)) pe_int)), ?_⟩
    exact ⟨_, rfl, _, rfl, _, _, rfl, rfl, _, _, rfl, rfl, ⟨by show 0 < m - 1; omega, by show m - 1 < 1073741824; omega⟩, _, _, rfl, rfl, q⟩
/-- _law_up(total, people) -/
def spUp : Sp := fun vs H Q _ => ∃ t m, vs = [.int t, .int m] ∧ 2 ≤ m ∧ m ≤ 5 ∧ Q (.int (up t m)) H
theorem ok_l_up {f : Addr} {fd : FuncData} {k : Nat} (F : Fun K "_law_up" "_law_up" s_l_up f fd) : FnOk P w K mg base CX0 (k + 1) f fd ["_law_total", "_law_people"] spUp := by
  refine F.ok sc_l_up (fun vs H Q E h => ?_) (fun cdv A outer s H vs Q E hr h => ?_)
  · obtain ⟨t, m, rfl, _⟩ := h
    rfl
  · obtain ⟨t, m, rfl, h1, h2, q⟩ := h
    refine ⟨_, pss_one (ps_ret (pe_op op_fdiv (pe_op op_sub (pe_op op_add (pv 0) (pv 1)) pe_int) (pv 1))), ?_⟩
    exact ⟨_, rfl, _, rfl, _, _, rfl, rfl, _, _, rfl, rfl, _, rfl, _, _, rfl, rfl, ⟨by show 0 < m; omega, by show m < 1073741824; omega⟩, q⟩
end
end K21

set_option Elab.async false
set_option linter.all false
set_option maxRecDepth 100000
set_option maxHeartbeats 4000000
/-! check_people, check_pool. -/
namespace K21
open PySem PySem.Spec PyProof.Rows L2
/-- an own exception class without own __init__, under the name x at C -/
structure ExC (K : PySem.W.Frag) (mg : Str → Option Value) (x : Str) (C : Addr) : Prop where
  gC : mg x = some (.ref C)
  kC : PySem.W.keepIn K (.ref C) = true
  q : PySem.W.excIn K C [.type "ValueError", .type "Exception", .type "BaseException", .type "object"] "ValueError.__new__" = true
  bC : PySem.W.subIn K (.ref C) (.type "BaseException") = some true
  tC : PySem.W.typeIn K (.ref C) = some (.type "type")
/-- check_people(people, low) -/
def spPeople (CP : Addr) : Sp := fun vs H Q E => ∃ x n lo, vs = [x, .int lo] ∧ Ty7 H x n ∧ (isW x lo 5 = true → Q x H) ∧ (isW x lo 5 = false → E (.ref CP) none H)
section
variable {P : Program} {w : World} {K : PySem.W.Frag} {mg : Str → Option Value} {base : Heap}
abbrev FunCP (K : PySem.W.Frag) (f : Addr) (fd : FuncData) : Prop := FunD K "check_people" "check_people" (defArgs s_chk_people) (defBody s_chk_people) (defScope s_chk_people) [.int 1] [] f fd
theorem ok_chk_people {f CP : Addr} {fd : FuncData} {k : Nat} {tk : Tok} (F : FunCP K f fd) (Gw : Clx P w K mg base CX0 k "is_whole" spWhole) (gm : mg "MOST_PEOPLE" = some (.int 5 tk)) (xP : ExC K mg "BadPeople" CP) :
    FnOk P w K mg base (L2.CX P w) (k + 1) f fd ["people", "low"] (spPeople CP) := by
  refine F.ok sc_chk_people (fun vs H Q E h => ?_) (fun cdv A outer s H vs Q E hr h => ?_)
  · obtain ⟨x, n, lo, rfl, _⟩ := h
    rfl
  · obtain ⟨x, n, lo, rfl, t, q1, q2⟩ := h
    refine ⟨_, pss_cons (ps_if (pt_not (pt_val (pe_x Gw hr (Nat.le_refl _) pass0 (pa_cons (pv 0) (pa_cons (pv 1) (pa_cons (pe_glob (v := .int 5) (by rfl) gm ⟨_, rfl⟩) pa_nil))))))
        (pss_one (ps_raise rfl (takes_of rfl rfl rfl rfl) (pmk_own0 PySem.F.excBase_ValueError xP.q xP.gC xP.kC (raises_own xP.bC xP.tC) (by rfl)))) pss_nil)
      (pss_one (ps_ret (pv 0))), ?_⟩
    refine ⟨_, rfl, _, rfl, x, n, lo, 5, rfl, t, _, rfl, ?_⟩
    cases e : isW x lo 5 with
    | true => exact iteF ⟨_, rfl, q1 e⟩
    | false => exact iteT (q2 e)
theorem bi_chk_people {f : Addr} {fd : FuncData} (F : FunCP K f fd) : Binds K fd ["people", "low"] [] := by
  obtain ⟨ds, r, b⟩ := F.binds1 (ps := ["people", "low"]) 2 1 (by simp) rfl fun T kV doc pm an cdv ct us its hl hi => match us, hl, its, hi with | [_, _], _, [_], _ => ⟨_, rfl, rfl⟩
  cases r
  exact b
end
end K21

set_option Elab.async false
set_option linter.all false
set_option maxRecDepth 100000
set_option maxHeartbeats 4000000
/-! check_pool. -/
namespace K21
open PySem PySem.Spec PyProof.Rows L2
theorem for_gen {J : It} {n : Nat} {g : TG} {tb : TS} {D : Ends} {σ : L2.St} {H : Hp} (Pv : Nat → L2.St → Hp → Prop) (h0 : Pv 0 σ H) (hgo : ∀ i σ H, i < n → Pv i σ H → J.go i H) (hstop : ∀ σ H, Pv n σ H → J.stop n H)
    (hs : ∀ i σ H, i < n → Pv i σ H → ∀ x H', J.yld i H x H' → g x σ H' fun σ2 H2 => tb { D with nx := Pv (i + 1), ct := Pv (i + 1), bk := D.nx } σ2 H2) (hd : ∀ σ H, Pv n σ H → D.nx σ H) :
    ∃ W : Nat → Nat → L2.St → Hp → Prop, (∃ m, W 0 m σ H) ∧ ∀ i m σ H, W i m σ H →
      (J.stop i H ∧ D.nx σ H) ∨ (J.go i H ∧ ∃ N : L2.St → Hp → Prop, (∀ σ' H', N σ' H' → ∃ m', m' < m ∧ W (i + 1) m' σ' H') ∧ ∀ x H', J.yld i H x H' → g x σ H' fun σ2 H2 => tb { D with nx := N, ct := N, bk := D.nx } σ2 H2) := by
  refine ⟨fun i m σ H => m = n - i ∧ i ≤ n ∧ Pv i σ H, ⟨n, by simp, Nat.zero_le _, h0⟩, ?_⟩
  rintro i m σ H ⟨rfl, hi, p⟩
  by_cases hlt : i < n
  · exact .inr ⟨hgo i σ H hlt p, Pv (i + 1), fun σ' H' p' => ⟨n - (i + 1), by omega, rfl, hlt, p'⟩, fun x H' y => hs i σ H hlt p x H' y⟩
  · have e : i = n := by omega
    subst e
    exact .inl ⟨hstop σ H p, hd σ H p⟩
/-- a pool of the coins ns: a list or a tuple -/
def GoodPool (H : Hp) (x : V) (ns : List Int) : Prop := ∃ a, x = .ref a ∧ SqA H a (ns.map V.int) ∧ ns.length ≤ 12 ∧ ∀ c ∈ ns, 1 ≤ c ∧ c ≤ 1000000000
/-- no pool: what check_pool tells of it -/
def BadPoolArg (H : Hp) (x : V) (p : Int) (what : Str) : Prop :=
  (p = 0 ∧ what = "many" ∧ ((∃ n, Ty7 H x n ∧ n ≠ "list" ∧ n ≠ "tuple") ∨ ∃ a xs, x = .ref a ∧ SqA H a xs ∧ 12 < xs.length)) ∨
  (what = "coin" ∧ ∃ a xs i y n, x = .ref a ∧ SqA H a xs ∧ xs.length ≤ 12 ∧ (∀ j, j < i → ∃ c, xs[j]? = some (.int c) ∧ 1 ≤ c ∧ c ≤ 1000000000) ∧ xs[i]? = some y ∧ Ty7 H y n ∧ isW y 1 1000000000 = false ∧ p = (i : Nat))
theorem GoodPool.same {H H' : Hp} {x : V} {ns : List Int} (h : GoodPool H x ns) (s : Same H H') : GoodPool H' x ns := by
  obtain ⟨a, e, q, r⟩ := h
  exact ⟨a, e, q.same s, r⟩
theorem BadPoolArg.same {H H' : Hp} {x : V} {p : Int} {what : Str} (h : BadPoolArg H x p what) (s : Same H H') : BadPoolArg H' x p what := by
  rcases h with ⟨h1, h2, ⟨n, t, h3⟩ | ⟨a, xs, e, q, h3⟩⟩ | ⟨h1, a, xs, i, y, n, e, q, h2, h3, h4, t, h5⟩
  · exact .inl ⟨h1, h2, .inl ⟨n, t.same s, h3⟩⟩
  · exact .inl ⟨h1, h2, .inr ⟨a, xs, e, q.same s, h3⟩⟩
  · exact .inr ⟨h1, a, xs, i, y, n, e, q.same s, h2, h3, h4, t.same s, h5⟩
theorem SqA.ty7 {H : Hp} {a : Addr} {xs : List V} (h : SqA H a xs) : ∃ n, Ty7 H (.ref a) n ∧ (n = "list" ∨ n = "tuple") := by
  rcases h with h | h
  · exact ⟨_, .lst h, .inl rfl⟩
  · exact ⟨_, .tup h, .inr rfl⟩
theorem Ty7.ofSq {H : Hp} {a : Addr} {xs : List V} {n : String} (t : Ty7 H (.ref a) n) (h : SqA H a xs) : n = "list" ∨ n = "tuple" := by
  cases t with
  | lst _ => exact .inl rfl
  | tup _ => exact .inr rfl
  | dct e => rcases h with h | h <;> (rw [e] at h; cases h)
theorem SqA.inj {H : Hp} {a : Addr} {xs ys : List V} (h : SqA H a xs) (h' : SqA H a ys) : xs = ys := by
  rcases h with h | h <;> rcases h' with h' | h' <;> (rw [h] at h'; cases h'; try rfl)
/-- what is told where the pool is at fault -/
def TellBad (CB : Addr) (H : Hp) (p : Int) (what : Str) (E : XK) : Prop := ∀ H' d, Same H H' → H d = none → H' d = some (badD (.int p) (.str what)) → E (.ref CB) (some d) H'
/-- check_pool(coins) -/
def spPool (CB : Addr) : Sp := fun vs H Q E => ∃ x, vs = [x] ∧ ((∃ ns, GoodPool H x ns ∧ ∀ H' p, Same H H' → H p = none → H' p = some (.tup ((srt ns).map V.int)) → Q (.ref p) H') ∨ ∃ p what, BadPoolArg H x p what ∧ TellBad CB H p what E)
theorem isW_good {c : Int} (h : 1 ≤ c ∧ c ≤ 1000000000) : isW (.int c) 1 1000000000 = true := by
  rw [isW_int, decide_eq_true h.1, decide_eq_true h.2]
  rfl
section
variable {P : Program} {w : World} {K : PySem.W.Frag} {mg : Str → Option Value} {base : Heap}
theorem ok_chk_pool {f CB fI : Addr} {fd : FuncData} {t1 t2 : Tok} (F : Fun K "check_pool" "check_pool" s_chk_pool f fd) (B : Bl mg) (Gs : Clx P w K mg base CX0 1 "is_sequence" spSeq) (Gw : Clx P w K mg base CX0 1 "is_whole" spWhole)
    (g1 : mg "MOST_COINS" = some (.int 12 t1)) (g2 : mg "MOST_WORTH" = some (.int 1000000000 t2)) (T : BadTxt P K mg CB fI) : FnOk P w K mg base (L2.CX P w) 3 f fd ["coins"] (spPool CB) := by
  refine F.okX sc_chk_pool (fun vs H Q E h => ?_) (fun cdv A outer s H vs Q E hr h => ?_)
  · obtain ⟨x, rfl, _⟩ := h
    rfl
  · obtain ⟨x, rfl, hc⟩ := h
    refine ⟨_, pss_cons (ps_if (pt_not (pt_val (pe_x Gs hr (by decide) pass0 (pa_cons (pv 0) (pa_cons pe_int (pa_cons (pe_glob (v := .int 12) (by rfl) g1 ⟨_, rfl⟩) pa_nil))))))
        (pss_one (ps_raiseBad rfl T hr (takes_of rfl rfl rfl rfl) (pa_cons pe_int (pa_cons pe_str pa_nil)))) pss_nil)
      (pss_cons (ps_for (passes_of rfl) rfl (pi_enumA (by rfl) B.enum (pa_cons (pv 0) pa_nil)) (pg_tup rfl (pgs_cons (pg_name (i := 1) sc_chk_pool.nd rfl (.inl rfl)) (pgs_cons (pg_name (i := 2) sc_chk_pool.nd rfl (.inl rfl)) pgs_nil)))
        (pss_one (ps_if (pt_not (pt_val (pe_x Gw hr (by decide) pass0 (pa_cons (pv 2) (pa_cons pe_int (pa_cons (pe_glob (v := .int 1000000000) (by rfl) g2 ⟨_, rfl⟩) pa_nil))))))
          (pss_one (ps_raiseBad rfl T hr (takes_of rfl rfl rfl rfl) (pa_cons (pv 1) (pa_cons pe_str pa_nil)))) pss_nil)))
      (pss_one (ps_ret (pe_callTy call_tuple_of (by rfl) B.tuple b_tuple (pa_cons (pe_callB cr_srt (by rfl) B.sorted b_sorted (pa_cons (pv 0) pa_nil)) pa_nil))))), ?_⟩
    have run : ∀ (a : Addr) (xs : List V) (N : Nat) (D : Ends) (H1 : Hp) (σ1 : L2.St), (∃ y1 y2, σ1 = [some (.ref a), y1, y2]) → SqA H a xs → Same H H1 →
        (∀ i, i < N → ∃ c, xs[i]? = some (.int c) ∧ 1 ≤ c ∧ c ≤ 1000000000) →
        ((N = xs.length ∧ ∀ σ' H', (∃ y1 y2, σ' = [some (.ref a), y1, y2]) → Same H H' → D.nx σ' H') ∨
          (N < xs.length ∧ ∃ y n, xs[N]? = some y ∧ Ty7 H y n ∧ isW y 1 1000000000 = false ∧ TellBad CB H (N : Int) "coin" E)) →
        iEnumA K (tCons (tVar 0) tNil) σ1 H1 (fun J H1 => ∃ W : Nat → Nat → L2.St → Hp → Prop, (∃ m, W 0 m σ1 H1) ∧ ∀ i m σ H, W i m σ H →
          (J.stop i H ∧ D.nx σ H) ∨ (J.go i H ∧ ∃ N : L2.St → Hp → Prop, (∀ σ' H', N σ' H' → ∃ m', m' < m ∧ W (i + 1) m' σ' H') ∧ ∀ x H', J.yld i H x H' →
            gTup K 2 (gCons (gName 1) (gCons (gName 2) gNil)) x σ H' fun σ2 H2 => tIfS (tNot (tB (tCall spWhole [] E0 (tCons (tVar 2) (tCons (tC (.int 1)) (tCons (tC (.int 1000000000)) tNil))))))
              (fun _ σ H => tMkBad CB (tCons (tVar 1) (tCons (tC (.str "coin")) tNil)) σ H fun cls d H' => E cls d H') tNext { D with nx := N, ct := N, bk := D.nx } σ2 H2)) := by
      intro a xs N D H1 σ1 hσ hq s1 hgood hend
      obtain ⟨z1, z2, rfl⟩ := hσ
      let Pv : Nat → L2.St → Hp → Prop := fun i σ H' => (∃ y1 y2, σ = [some (.ref a), y1, y2]) ∧ Same H H' ∧ i ≤ N
      have hNx : N ≤ xs.length := by rcases hend with ⟨h, _⟩ | ⟨h, _⟩ <;> omega
      -- one turn
      have turn : ∀ i σ H', i < xs.length → Pv i σ H' → ∀ T y, H' T = none → xs[i]? = some y →
          gTup K 2 (gCons (gName 1) (gCons (gName 2) gNil)) (.ref T) σ (upd H' T (.tup [.int (i : Nat), y])) fun σ2 H2 => tIfS (tNot (tB (tCall spWhole [] E0 (tCons (tVar 2) (tCons (tC (.int 1)) (tCons (tC (.int 1000000000)) tNil))))))
              (fun _ σ H => tMkBad CB (tCons (tVar 1) (tCons (tC (.str "coin")) tNil)) σ H fun cls d H' => E cls d H') tNext { D with nx := Pv (i + 1), ct := Pv (i + 1), bk := D.nx } σ2 H2 := by
        rintro i σ H' hi ⟨⟨y1, y2, rfl⟩, sm, hiN⟩ T y nT hy
        have sm2 : Same H (upd H' T (.tup [.int (i : Nat), y])) := sm.trans (same_upd nT)
        refine ⟨T, [.int (i : Nat), y], rfl, sqT upd_same, rfl, _, _, rfl, _, _, rfl, rfl, ?_⟩
        by_cases hlt : i < N
        · obtain ⟨c, hc, h1, h2⟩ := hgood i hlt
          obtain rfl : V.int c = y := Option.some.inj (hc.symm.trans hy)
          refine ⟨_, rfl, _, _, 1, 1000000000, rfl, .int c, _, rfl, ?_⟩
          rw [isW_good ⟨h1, h2⟩]
          exact iteF ⟨⟨_, _, rfl⟩, sm2, hlt⟩
        · have e : i = N := by omega
          subst e
          rcases hend with ⟨h, _⟩ | ⟨_, y', n, hy', t, hw, tell⟩
          · omega
          · obtain rfl : y' = y := Option.some.inj (hy'.symm.trans hy)
            refine ⟨_, rfl, _, n, 1, 1000000000, rfl, t.same sm2, _, rfl, ?_⟩
            rw [hw]
            exact iteT ⟨_, rfl, _, _, rfl, fun d hd => tell _ d (sm2.trans (same_upd hd)) (sm2.free hd) upd_same⟩
      have stop : ∀ {J : It}, (∀ i σ H, i < xs.length → Pv i σ H → J.go i H) → (∀ σ H, Pv xs.length σ H → J.stop xs.length H) → (∀ i σ H', i < xs.length → Pv i σ H' → ∀ x H'', J.yld i H' x H'' → ∃ T y, x = .ref T ∧ H' T = none ∧ H'' = upd H' T (.tup [.int (i : Nat), y]) ∧ xs[i]? = some y) →
          ∃ W : Nat → Nat → L2.St → Hp → Prop, (∃ m, W 0 m [some (.ref a), z1, z2] H1) ∧ ∀ i m σ H, W i m σ H →
          (J.stop i H ∧ D.nx σ H) ∨ (J.go i H ∧ ∃ N : L2.St → Hp → Prop, (∀ σ' H', N σ' H' → ∃ m', m' < m ∧ W (i + 1) m' σ' H') ∧ ∀ x H', J.yld i H x H' →
            gTup K 2 (gCons (gName 1) (gCons (gName 2) gNil)) x σ H' fun σ2 H2 => tIfS (tNot (tB (tCall spWhole [] E0 (tCons (tVar 2) (tCons (tC (.int 1)) (tCons (tC (.int 1000000000)) tNil))))))
              (fun _ σ H => tMkBad CB (tCons (tVar 1) (tCons (tC (.str "coin")) tNil)) σ H fun cls d H' => E cls d H') tNext { D with nx := N, ct := N, bk := D.nx } σ2 H2) := by
        intro J h1 h2 h3
        refine for_gen Pv ⟨⟨_, _, rfl⟩, s1, Nat.zero_le _⟩ h1 h2 (fun i σ H' hi p x H'' yy => ?_) (fun σ H' p => ?_)
        · obtain ⟨T, y, rfl, nT, rfl, hy⟩ := h3 i σ H' hi p x H'' yy
          exact turn i σ H' hi p T y nT hy
        · rcases hend with ⟨_, h⟩ | ⟨h, _⟩
          · exact h σ H' p.1 p.2.1
          · have := p.2.2
            omega
      refine ⟨_, rfl, a, xs, rfl, ?_⟩
      rcases hq with hq | hq
      · refine .inl ⟨sqL (s1 _ _ hq), stop (fun i σ H' hi p => ⟨xs, xs[i], sqL (p.2.1 _ _ hq), by simp [hi]⟩) (fun σ H' p => ⟨xs, sqL (p.2.1 _ _ hq), Nat.le_refl _⟩) fun i σ H' hi p x H'' y => ?_⟩
        obtain ⟨T, y, e1, e2, e3, e4⟩ := y
        exact ⟨T, y, e1, e2, e3, e4 xs (sqL (p.2.1 _ _ hq))⟩
      · refine .inr ⟨sqT (s1 _ _ hq), stop (fun i σ H' hi p => ⟨xs, xs[i], sqT (p.2.1 _ _ hq), by simp [hi]⟩) (fun σ H' p => ⟨xs, sqT (p.2.1 _ _ hq), Nat.le_refl _⟩) fun i σ H' hi p x H'' y => ?_⟩
        obtain ⟨T, y, e1, e2, e3, e4⟩ := y
        exact ⟨T, y, e1, e2, e3, e4 xs (sqT (p.2.1 _ _ hq))⟩
    rcases hc with ⟨ns, ⟨a, rfl, hq, hl, hg⟩, q⟩ | ⟨p, what, hbad, tell⟩
    · obtain ⟨n, t, hn⟩ := hq.ty7
      refine ⟨_, rfl, _, n, 0, 12, rfl, t, fun H1 s1 => ⟨fun k1 k2 => ?_, fun a' xs ea hs => ?_⟩⟩
      · rcases hn with z | z
        · exact absurd z k1
        · exact absurd z k2
      · cases ea
        obtain rfl := hq.inj hs
        rw [List.length_map]
        refine ⟨_, rfl, ?_⟩
        have e1 : (decide ((0 : Int) ≤ (ns.length : Int)) && decide ((ns.length : Int) ≤ 12)) = true := by
          rw [decide_eq_true (show (0 : Int) ≤ (ns.length : Int) by omega), decide_eq_true (show (ns.length : Int) ≤ 12 by omega)]
          rfl
        rw [e1]
        refine iteF (run a (ns.map V.int) ns.length _ H1 _ ⟨_, _, rfl⟩ hq s1 (fun i hi => ⟨ns[i], by simp [hi], hg _ (List.getElem_mem _)⟩) (.inl ⟨by simp, fun σ' H' hσ s2 => ?_⟩))
        obtain ⟨y1, y2, rfl⟩ := hσ
        refine ⟨_, rfl, a, ns, rfl, (hq.same s2).sq, fun l nl => ⟨l, _, rfl, .inl ⟨sqL upd_same, fun p np => ?_⟩⟩⟩
        have s3 := s2.trans (same_upd (o := .lst ((srt ns).map V.int)) nl)
        exact q _ p (s3.trans (same_upd np)) (s3.free np) upd_same
    · rcases hbad with ⟨rfl, rfl, ⟨n, t, k1, k2⟩ | ⟨a, xs, rfl, hq, hl⟩⟩ | ⟨rfl, a, xs, i, y, n, rfl, hq, hl, hgood, hy, t, hw, rfl⟩
      · refine ⟨_, rfl, _, n, 0, 12, rfl, t, fun H1 s1 => ⟨fun _ _ => ?_, fun a' xs ea hs => ?_⟩⟩
        · exact ⟨_, rfl, iteT ⟨_, _, rfl, fun d hd => tell _ d (s1.trans (same_upd hd)) (s1.free hd) upd_same⟩⟩
        · subst ea
          rcases t.ofSq hs with z | z
          · exact absurd z k1
          · exact absurd z k2
      · obtain ⟨n, t, hn⟩ := hq.ty7
        refine ⟨_, rfl, _, n, 0, 12, rfl, t, fun H1 s1 => ⟨fun k1 k2 => ?_, fun a' ys ea hs => ?_⟩⟩
        · rcases hn with z | z
          · exact absurd z k1
          · exact absurd z k2
        · cases ea
          obtain rfl := hq.inj hs
          have e1 : (decide ((0 : Int) ≤ (xs.length : Int)) && decide ((xs.length : Int) ≤ 12)) = false := by
            rw [decide_eq_false (show ¬ (xs.length : Int) ≤ 12 by omega), Bool.and_false]
          rw [e1]
          exact ⟨_, rfl, iteT ⟨_, _, rfl, fun d hd => tell _ d (s1.trans (same_upd hd)) (s1.free hd) upd_same⟩⟩
      · obtain ⟨n', t', hn⟩ := hq.ty7
        refine ⟨_, rfl, _, n', 0, 12, rfl, t', fun H1 s1 => ⟨fun k1 k2 => ?_, fun a' ys ea hs => ?_⟩⟩
        · rcases hn with z | z
          · exact absurd z k1
          · exact absurd z k2
        · cases ea
          obtain rfl := hq.inj hs
          have e1 : (decide ((0 : Int) ≤ (xs.length : Int)) && decide ((xs.length : Int) ≤ 12)) = true := by
            rw [decide_eq_true (show (0 : Int) ≤ (xs.length : Int) by omega), decide_eq_true (show (xs.length : Int) ≤ 12 by omega)]
            rfl
          rw [e1]
          refine ⟨_, rfl, iteF (run a xs i _ H1 _ ⟨_, _, rfl⟩ hq s1 hgood (.inr ⟨(List.getElem?_eq_some_iff.mp hy).1, y, n, hy, t, hw, tell⟩))⟩
end
end K21

set_option Elab.async false
set_option linter.all false
set_option maxRecDepth 100000
set_option maxHeartbeats 4000000
/-! room_row, fitting_range, fitting_coins, next_coin, may_put. -/
namespace K21
open PySem PySem.Spec PyProof.Rows L2
def rooms (s : List Int) (m : Int) : List Int := (List.range (s.length + 1)).map fun k => room ((s.take k).sum) m
/-- pool or people are refused -/
def Refused (CB CP : Addr) (H : Hp) (x m : V) (E : XK) : Prop :=
  (∃ p what, BadPoolArg H x p what ∧ TellBad CB H p what E) ∨ ∃ ns n, GoodPool H x ns ∧ Ty7 H m n ∧ isW m 2 5 = false ∧ ∀ H', Same H H' → E (.ref CP) none H'
/-- room_row(pool, people) -/
def spRow (CB CP : Addr) : Sp := fun vs H Q E => ∃ x m, vs = [x, m] ∧
  ((∃ ns k, m = .int k ∧ GoodPool H x ns ∧ 2 ≤ k ∧ k ≤ 5 ∧ ∀ H' p, Same H H' → H p = none → H' p = some (.tup ((rooms (srt ns) k).map V.int)) → Q (.ref p) H') ∨ Refused CB CP H x m E)
theorem isW_people {k : Int} (h1 : 2 ≤ k) (h2 : k ≤ 5) : isW (.int k) 2 5 = true := by
  rw [isW_int, decide_eq_true h1, decide_eq_true h2]
  rfl
theorem get_int {s : List Int} {i : Nat} {y : V} (h : (s.map V.int)[i]? = some y) : ∃ c, s[i]? = some c ∧ y = .int c := by
  rw [List.getElem?_map] at h
  cases e : s[i]? with
  | none => rw [e] at h; cases h
  | some c => rw [e] at h; exact ⟨c, rfl, (Option.some.inj h).symm⟩
theorem range_more (i : Nat) (f : Nat → Int) : (List.range (i + 1 + 1)).map f = (List.range (i + 1)).map f ++ [f (i + 1)] := by
  rw [List.range_succ, List.map_append]
  rfl
section
variable {P : Program} {w : World} {K : PySem.W.Frag} {mg : Str → Option Value} {base : Heap}
theorem ok_room_row {f CB CP : Addr} {fd : FuncData} (F : Fun K "room_row" "room_row" s_room_row f fd) (B : Bl mg) (Gp : Clx P w K mg base (L2.CX P w) 3 "check_pool" (spPool CB)) (Gm : Clx P w K mg base (L2.CX P w) 2 "check_people" (spPeople CP))
    (Gr : Clx P w K mg base CX0 1 "next_room" spRoom) : FnOk P w K mg base (L2.CX P w) 4 f fd ["pool", "people"] (spRow CB CP) := by
  refine F.okX sc_room_row (fun vs H Q E h => ?_) (fun cdv A outer s H vs Q E hr h => ?_)
  · obtain ⟨x, m, rfl, _⟩ := h
    rfl
  · obtain ⟨x, m, rfl, hc⟩ := h
    refine ⟨_, pss_cons (ps_set (i := 2) sc_room_row.nd rfl (.inl rfl) (pe_x Gp hr (by decide) (passes_call (takes_of rfl rfl rfl rfl) fun _ _ _ _ h => h) (pa_cons (pv 0) pa_nil)))
      (pss_cons (ps_expr (pe_x Gm hr (by decide) (passes_call (takes_of rfl rfl rfl rfl) fun _ _ _ _ h => h) (pa_cons (pv 1) (pa_cons pe_int pa_nil))))
      (pss_cons (ps_set (i := 3) sc_room_row.nd rfl (.inl rfl) pe_int)
      (pss_cons (ps_set (i := 4) sc_room_row.nd rfl (.inl rfl) (pe_lst (pa_cons (pe_x Gr hr (by decide) pass0 (pa_cons pe_int (pa_cons (pv 1) pa_nil))) pa_nil)))
      (pss_cons (ps_for (passes_of rfl) rfl (pi_tup (pv 2)) (pg_name (i := 5) sc_room_row.nd rfl (.inl rfl))
        (pss_cons (ps_set (i := 3) sc_room_row.nd rfl (.inl rfl) (pe_op op_add (pv 3) (pv 5)))
        (pss_one (ps_expr (pe_bm PySem.F.plainAttrs_list PySem.F.slot_list_append PySem.F.type_list_append mt_append (pv 4) (pa_cons (pe_x Gr hr (by decide) pass0 (pa_cons (pv 3) (pa_cons (pv 1) pa_nil))) pa_nil))))))
      (pss_one (ps_ret (pe_callTy call_tuple_of (by rfl) B.tuple b_tuple (pa_cons (pv 4) pa_nil)))))))), ?_⟩
    rcases hc with ⟨ns, k, rfl, hg, h1, h2, q⟩ | ⟨p, what, hb, tell⟩ | ⟨ns, n, hg, t, hw, tell⟩
    · refine ⟨_, rfl, x, rfl, .inl ⟨ns, hg, fun H1 p s1 np hp => ?_⟩⟩
      refine ⟨_, rfl, _, _, 2, rfl, .int k, fun _ => ?_, fun e => by rw [isW_people h1 h2] at e; cases e⟩
      refine ⟨_, rfl, 0, k, rfl, h1, h2, by show 1 ≤ sizeLine; decide, fun r nr => ?_⟩
      have npr : p ≠ r := ne_of_none hp nr
      have hlen : (srt ns).length ≤ 12 := by rw [srt_length]; obtain ⟨_, _, _, hl, _⟩ := hg; exact hl
      refine ⟨_, rfl, p, rfl, ⟨_, sqT (by rw [upd_ne npr]; exact hp)⟩, for_tup (xs := (srt ns).map V.int) (fun i σ H' => ∃ y, σ = [some x, some (.int k), some (.ref p), some (.int ((srt ns).take i).sum), some (.ref r), y] ∧ Same H1 H' ∧
          H' r = some (.lst (((List.range (i + 1)).map fun j => room (((srt ns).take j).sum) k).map V.int)))
        ⟨_, rfl, same_upd nr, upd_same⟩ (fun i σ H' _ ⟨_, _, sm, _⟩ => sqT (sm _ _ hp)) ?_ ?_⟩
      · rintro i y σ H' hi ⟨y5, rfl, sm, hrr⟩
        obtain ⟨c, hc, rfl⟩ := get_int hi
        have hi' : i < (srt ns).length := (List.getElem?_eq_some_iff.mp hc).1
        have es := sum_take hc
        refine ⟨_, rfl, _, rfl, _, _, rfl, rfl, ?_⟩
        refine ⟨_, rfl, .inl ⟨rfl, _, sqL hrr⟩, _, rfl, _, rfl, _, k, rfl, h1, h2, r, _, _, rfl, rfl, hrr, ?_, ?_⟩
        · rw [List.length_map, List.length_map, List.length_range]
          exact small1000 (by omega)
        · refine ⟨some (.int c), ?_, fun b o e => ?_, ?_⟩
          · rw [es]
            rfl
          · have nb : b ≠ r := ne_of_none e nr
            rw [upd_ne nb]
            exact sm _ _ e
          · rw [upd_same, range_more, List.map_append, ← es]
            rfl
      · rintro σ H' ⟨y5, rfl, sm, hrr⟩
        rw [List.length_map] at hrr
        refine ⟨_, rfl, r, _, rfl, .inl ⟨sqL hrr, fun u nu => ?_⟩⟩
        have s2 : Same H H' := s1.trans sm
        exact q _ u (s2.trans (same_upd nu)) (s2.free nu) upd_same
    · exact ⟨_, rfl, x, rfl, .inr ⟨p, what, hb, tell⟩⟩
    · refine ⟨_, rfl, x, rfl, .inl ⟨ns, hg, fun H1 p s1 np hp => ?_⟩⟩
      exact ⟨_, rfl, m, n, 2, rfl, t.same s1, (fun e => by rw [hw] at e; cases e), fun _ => tell H1 s1⟩
/-- what fitting_range hands back -/
def TellFit (H : Hp) (o : Option (Int × Int)) (Q : VK) : Prop := match o with
  | none => ∀ H', Same H H' → Q .non H'
  | some p => ∀ H' t, Same H H' → H t = none → H' t = some (.tup [.int p.1, .int p.2]) → Q (.ref t) H'
theorem TellFit.same {H H1 : Hp} {o : Option (Int × Int)} {Q : VK} (h : TellFit H o Q) (s : Same H H1) : TellFit H1 o Q := by
  cases o with
  | none => exact fun H' s' => h H' (s.trans s')
  | some p => exact fun H' t s' n e => h H' t (s.trans s') (s.free n) e
/-- fitting_range(coins, people) -/
def spFit : Sp := fun vs H Q _ => ∃ a s m, vs = [.ref a, .int m] ∧ H a = some (.tup (s.map V.int)) ∧ 2 ≤ m ∧ m ≤ 5 ∧ TellFit H (fit m 0 1 none s) Q
theorem fit_nil {m r low : Int} {high : Option Int} : fit m r low high [] = if low > high.getD (room r m) then none else some (low, high.getD (room r m)) := rfl
theorem fit_cons {m r low c : Int} {high : Option Int} {cs : List Int} : fit m r low high (c :: cs) = if c > room r m then fit m (r + c) (if (m - 1) * (c - 1) - r > low then (m - 1) * (c - 1) - r else low) (some (high.getD (room r m))) cs else fit m (r + c) low high cs := rfl
def oV : Option Int → V
  | none => .non
  | some h => .int h
theorem oV_non (o : Option Int) : decide (oV o = .non) = o.isNone := by
  cases o <;> rfl
theorem ok_fitting_range {f : Addr} {fd : FuncData} (F : Fun K "fitting_range" "fitting_range" s_fitting_range f fd) (B : Bl mg) (Gr : Clx P w K mg base CX0 1 "next_room" spRoom) : FnOk P w K mg base CX0 2 f fd ["coins", "people"] spFit := by
  refine F.ok sc_fitting_range (fun vs H Q E h => ?_) (fun cdv A outer s H vs Q E hr h => ?_)
  · obtain ⟨a, s, m, rfl, _⟩ := h
    rfl
  · obtain ⟨a, l, m, rfl, ha, h1, h2, q⟩ := h
    have nd := sc_fitting_range.nd
    refine ⟨_, pss_cons (ps_set (i := 2) nd rfl (.inl rfl) pe_int) (pss_cons (ps_set (i := 3) nd rfl (.inl rfl) pe_int) (pss_cons (ps_set (i := 4) nd rfl (.inl rfl) pe_non)
      (pss_cons (ps_for PassesOwn.never rfl (pi_tup (pv 0)) (pg_name (i := 5) nd rfl (.inl rfl))
        (pss_cons (ps_if (pt_cmpR op_gt (pv 5) (pe_x Gr hr (by decide) pass0 (pa_cons (pv 2) (pa_cons (pv 1) pa_nil))) (nomark _))
          (pss_cons (ps_if (pt_cmp (pc_isN (pv 4))) (pss_one (ps_set (i := 4) nd rfl (.inl rfl) (pe_x Gr hr (by decide) pass0 (pa_cons (pv 2) (pa_cons (pv 1) pa_nil))))) pss_nil)
            (pss_one (ps_set (i := 3) nd rfl (.inl rfl) (pe_callB (call_max2 rfl) (by rfl) B.max b_max (pa_cons (pv 3) (pa_cons (pe_op op_sub (pe_op op_mul (pe_op op_sub (pv 1) pe_int) (pe_op op_sub (pv 5) pe_int)) (pv 2)) pa_nil)))))) pss_nil)
          (pss_one (ps_set (i := 2) nd rfl (.inl rfl) (pe_op op_add (pv 2) (pv 5))))))
      (pss_cons (ps_if (pt_cmp (pc_isN (pv 4))) (pss_one (ps_set (i := 4) nd rfl (.inl rfl) (pe_x Gr hr (by decide) pass0 (pa_cons (pv 2) (pa_cons (pv 1) pa_nil))))) pss_nil)
      (pss_cons (ps_if (pt_cmpR op_gt (pv 3) (pv 4) (nomark _)) (pss_one (ps_ret pe_non)) pss_nil)
      (pss_one (ps_ret (pe_tup (pa_cons (pv 3) (pa_cons (pv 4) pa_nil)))))))))), ?_⟩
    refine ⟨_, rfl, a, rfl, ⟨_, sqT ha⟩, for_tup (xs := l.map V.int) (fun i σ H' => ∃ r low high y, σ = [some (.ref a), some (.int m), some (.int r), some (.int low), some (oV high), y] ∧ H' = H ∧ fit m 0 1 none l = fit m r low high (l.drop i))
      ⟨0, 1, none, none, rfl, rfl, rfl⟩ (fun i σ H' _ ⟨_, _, _, _, _, e, _⟩ => by rw [e]; exact sqT ha) ?_ ?_⟩
    · rintro i y σ H' hi ⟨r, low, high, y5, rfl, rfl, ef⟩
      obtain ⟨c, hc, rfl⟩ := get_int hi
      have hd : l.drop i = c :: l.drop (i + 1) := List.drop_eq_getElem?_toList_append.trans (by rw [hc]; rfl)
      rw [hd, fit_cons] at ef
      refine ⟨_, rfl, _, rfl, _, rfl, r, m, rfl, h1, h2, c, room r m, rfl, rfl, _, rfl, ?_⟩
      by_cases hcr : c > room r m
      · rw [if_pos hcr] at ef
        rw [decide_eq_true hcr]
        refine iteT ?_
        refine ⟨_, rfl, _, rfl, ?_⟩
        rw [oV_non]
        cases high with
        | none =>
          refine iteT ⟨_, rfl, _, rfl, r, m, rfl, h1, h2, ?_⟩
          refine ⟨_, rfl, _, rfl, _, _, rfl, rfl, _, rfl, _, _, rfl, rfl, _, _, rfl, rfl, .inl ⟨by show -(2 ^ 64) < m - 1; omega, by show m - 1 < 2 ^ 64; omega⟩, _, rfl, _, _, rfl, rfl, _, _, rfl, ?_⟩
          exact ⟨_, rfl, _, rfl, _, _, rfl, rfl, _, _, some (room r m), _, rfl, rfl, ef⟩
        | some hh =>
          refine iteF ?_
          refine ⟨_, rfl, _, rfl, _, _, rfl, rfl, _, rfl, _, _, rfl, rfl, _, _, rfl, rfl, .inl ⟨by show -(2 ^ 64) < m - 1; omega, by show m - 1 < 2 ^ 64; omega⟩, _, rfl, _, _, rfl, rfl, _, _, rfl, ?_⟩
          exact ⟨_, rfl, _, rfl, _, _, rfl, rfl, _, _, some hh, _, rfl, rfl, ef⟩
      · rw [if_neg hcr] at ef
        rw [decide_eq_false hcr]
        refine iteF ?_
        exact ⟨_, rfl, _, rfl, _, _, rfl, rfl, _, _, high, _, rfl, rfl, ef⟩
    · rintro σ H' ⟨r, low, high, y5, rfl, rfl, ef⟩
      rw [List.length_map, List.drop_length, fit_nil] at ef
      have fin : ∀ hh, high.getD (room r m) = hh → (tSeq (tIfS (tTest (tOp (rI0 fun i j => V.bl (decide (j < i))) (tVar 3) (tVar 4))) (tRet (tC .non)) tNext) (tRet (tTup (tCons (tVar 3) (tCons (tVar 4) tNil)))))
          { nx := fun _ H' => Q .non H', rt := Q } [some (.ref a), some (.int m), some (.int r), some (.int low), some (.int hh), y5] H' := fun hh eh => by
        rw [eh] at ef
        refine ⟨_, rfl, _, rfl, _, _, rfl, rfl, _, rfl, ?_⟩
        by_cases hlh : low > hh
        · rw [if_pos hlh] at ef
          rw [decide_eq_true hlh]
          rw [ef] at q
          exact iteT (q H' (Same.refl _))
        · rw [if_neg hlh] at ef
          rw [decide_eq_false hlh]
          rw [ef] at q
          exact iteF ⟨_, rfl, _, rfl, by show 2 ≤ sizeLine; decide, fun p np => q _ p (same_upd np) np upd_same⟩
      refine ⟨_, rfl, _, rfl, ?_⟩
      rw [oV_non]
      cases high with
      | none => exact iteT ⟨_, rfl, _, rfl, r, m, rfl, h1, h2, fin _ rfl⟩
      | some hh => exact iteF (fin hh rfl)
end
end K21

set_option Elab.async false
set_option linter.all false
set_option maxRecDepth 100000
set_option maxHeartbeats 4000000
/-! fitting_coins, next_coin, may_put. -/
namespace K21
open PySem PySem.Spec PyProof.Rows L2
/-- fitting_coins(pool, people) -/
def spFits (CB CP : Addr) : Sp := fun vs H Q E => ∃ x m, vs = [x, m] ∧ ((∃ ns k, m = .int k ∧ GoodPool H x ns ∧ 2 ≤ k ∧ k ≤ 5 ∧ TellFit H (stretch ns k) Q) ∨ Refused CB CP H x m E)
def nextV : Option (Int × Int) → V
  | none => .non
  | some p => .int p.2
/-- next_coin(pool, people) -/
def spNext (CB CP : Addr) : Sp := fun vs H Q E => ∃ x m, vs = [x, m] ∧ ((∃ ns k, m = .int k ∧ GoodPool H x ns ∧ 2 ≤ k ∧ k ≤ 5 ∧ ∀ H', Same H H' → Q (nextV (stretch ns k)) H') ∨ Refused CB CP H x m E)
/-- may_put(pool, coin, people) -/
def spPut (CB CP CC : Addr) : Sp := fun vs H Q E => ∃ x c m, vs = [x, c, m] ∧
  ((∃ ns i k, m = .int k ∧ c = .int i ∧ GoodPool H x ns ∧ 1 ≤ i ∧ i ≤ 1000000000 ∧ 2 ≤ k ∧ k ≤ 5 ∧ ∀ H', Same H H' → Q (.bl (within (stretch ns k) i)) H') ∨
    (∃ p what, BadPoolArg H x p what ∧ TellBad CB H p what E) ∨
    (∃ ns n, GoodPool H x ns ∧ Ty7 H c n ∧ isW c 1 1000000000 = false ∧ ∀ H', Same H H' → E (.ref CC) none H') ∨
    (∃ ns i n, GoodPool H x ns ∧ c = .int i ∧ 1 ≤ i ∧ i ≤ 1000000000 ∧ Ty7 H m n ∧ isW m 2 5 = false ∧ ∀ H', Same H H' → E (.ref CP) none H'))
section
variable {P : Program} {w : World} {K : PySem.W.Frag} {mg : Str → Option Value} {base : Heap}
theorem ok_fitting_coins {f CB CP : Addr} {fd : FuncData} (F : Fun K "fitting_coins" "fitting_coins" s_fitting_coins f fd) (Gp : Clx P w K mg base (L2.CX P w) 3 "check_pool" (spPool CB)) (Gm : Clx P w K mg base (L2.CX P w) 2 "check_people" (spPeople CP))
    (Gf : Clx P w K mg base CX0 2 "fitting_range" spFit) : FnOk P w K mg base (L2.CX P w) 4 f fd ["pool", "people"] (spFits CB CP) := by
  refine F.okX sc_fitting_coins (fun vs H Q E h => ?_) (fun cdv A outer s H vs Q E hr h => ?_)
  · obtain ⟨x, m, rfl, _⟩ := h
    rfl
  · obtain ⟨x, m, rfl, hc⟩ := h
    refine ⟨_, pss_cons (ps_set (i := 2) sc_fitting_coins.nd rfl (.inl rfl) (pe_x Gp hr (by decide) (passes_call (takes_of rfl rfl rfl rfl) fun _ _ _ _ h => h) (pa_cons (pv 0) pa_nil)))
      (pss_cons (ps_expr (pe_x Gm hr (by decide) (passes_call (takes_of rfl rfl rfl rfl) fun _ _ _ _ h => h) (pa_cons (pv 1) (pa_cons pe_int pa_nil))))
      (pss_one (ps_ret (pe_x Gf hr (by decide) pass0 (pa_cons (pv 2) (pa_cons (pv 1) pa_nil)))))), ?_⟩
    rcases hc with ⟨ns, k, rfl, hg, h1, h2, q⟩ | ⟨p, what, hb, tell⟩ | ⟨ns, n, hg, t, hw, tell⟩
    · refine ⟨_, rfl, x, rfl, .inl ⟨ns, hg, fun H1 p s1 np hp => ?_⟩⟩
      refine ⟨_, rfl, _, _, 2, rfl, .int k, fun _ => ?_, fun e => by rw [isW_people h1 h2] at e; cases e⟩
      exact ⟨_, rfl, _, rfl, p, srt ns, k, rfl, hp, h1, h2, q.same s1⟩
    · exact ⟨_, rfl, x, rfl, .inr ⟨p, what, hb, tell⟩⟩
    · refine ⟨_, rfl, x, rfl, .inl ⟨ns, hg, fun H1 p s1 np hp => ?_⟩⟩
      exact ⟨_, rfl, m, n, 2, rfl, t.same s1, (fun e => by rw [hw] at e; cases e), fun _ => tell H1 s1⟩
theorem ok_next_coin {f CB CP : Addr} {fd : FuncData} (F : Fun K "next_coin" "next_coin" s_next_coin f fd) (Gf : Clx P w K mg base (L2.CX P w) 4 "fitting_coins" (spFits CB CP)) : FnOk P w K mg base (L2.CX P w) 5 f fd ["pool", "people"] (spNext CB CP) := by
  refine F.okX sc_next_coin (fun vs H Q E h => ?_) (fun cdv A outer s H vs Q E hr h => ?_)
  · obtain ⟨x, m, rfl, _⟩ := h
    rfl
  · obtain ⟨x, m, rfl, hc⟩ := h
    refine ⟨_, pss_cons (ps_set (i := 2) sc_next_coin.nd rfl (.inl rfl) (pe_x Gf hr (by decide) (passes_call (takes_of rfl rfl rfl rfl) fun _ _ _ _ h => h) (pa_cons (pv 0) (pa_cons (pv 1) pa_nil))))
      (pss_cons (ps_if (pt_cmp (pc_isN (pv 2))) (pss_one (ps_ret pe_non)) pss_nil)
      (pss_one (ps_ret (pe_ix ix_tup (pv 2) pe_int (fun _ _ => rfl))))), ?_⟩
    refine ⟨_, rfl, _, rfl, x, m, rfl, ?_⟩
    rcases hc with ⟨ns, k, rfl, hg, h1, h2, q⟩ | hb
    · refine .inl ⟨ns, k, rfl, hg, h1, h2, ?_⟩
      unfold TellFit
      cases e : stretch ns k with
      | none =>
        rw [e] at q
        exact fun H' s' => ⟨_, rfl, _, rfl, iteT (q H' s')⟩
      | some p =>
        rw [e] at q
        exact fun H' t s' nt ht => ⟨_, rfl, _, rfl, iteF ⟨_, rfl, t, _, 1, _, rfl, rfl, sqT ht, atI_nat (j := 1) rfl, q H' s'⟩⟩
    · exact .inr hb
theorem pow9 : (10 : Int) ^ (9 : Int).toNat = 1000000000 := by decide
theorem ok_may_put {f CB CP CC : Addr} {fd : FuncData} (F : Fun K "may_put" "may_put" s_may_put f fd) (Gp : Clx P w K mg base (L2.CX P w) 3 "check_pool" (spPool CB)) (Gm : Clx P w K mg base (L2.CX P w) 2 "check_people" (spPeople CP))
    (Gw : Clx P w K mg base CX0 1 "whole_within" spWhole) (Gf : Clx P w K mg base CX0 2 "fitting_range" spFit) (xC : ExC K mg "BadCoin" CC) : FnOk P w K mg base (L2.CX P w) 4 f fd ["pool", "coin", "people"] (spPut CB CP CC) := by
  refine F.okX sc_may_put (fun vs H Q E h => ?_) (fun cdv A outer s H vs Q E hr h => ?_)
  · obtain ⟨x, c, m, rfl, _⟩ := h
    rfl
  · obtain ⟨x, c, m, rfl, hc⟩ := h
    have nd := sc_may_put.nd
    refine ⟨_, pss_cons (ps_set (i := 3) nd rfl (.inl rfl) (pe_x Gp hr (by decide) (passes_call (takes_of rfl rfl rfl rfl) fun _ _ _ _ h => h) (pa_cons (pv 0) pa_nil)))
      (pss_cons (ps_if (pt_not (pt_val (pe_x Gw hr (by decide) pass0 (pa_cons (pv 1) (pa_cons pe_int (pa_cons (pe_op op_pow pe_int pe_int) pa_nil))))))
        (pss_one (ps_raise rfl (takes_of rfl rfl rfl rfl) (pmk_own0 PySem.F.excBase_ValueError xC.q xC.gC xC.kC (raises_own xC.bC xC.tC) (by rfl)))) pss_nil)
      (pss_cons (ps_expr (pe_x Gm hr (by decide) (passes_call (takes_of rfl rfl rfl rfl) fun _ _ _ _ h => h) (pa_cons (pv 2) (pa_cons pe_int pa_nil))))
      (pss_cons (ps_set (i := 4) nd rfl (.inl rfl) (pe_x Gf hr (by decide) pass0 (pa_cons (pv 3) (pa_cons (pv 2) pa_nil))))
      (pss_one (ps_ret (pe_and (pe_cmp (pc_notN (pv 4)) rfl) (pe_one (pe_chain op_le op_le (pe_ix ix_tup (pv 4) pe_int (fun _ _ => rfl)) (pv 1) (pe_ix ix_tup (pv 4) pe_int (fun _ _ => rfl)))))))))), ?_⟩
    refine ⟨_, rfl, x, rfl, ?_⟩
    have coin : ∀ (n : String) (σ1 : L2.St) (H1 : Hp) (Q' : VK), σ1[1]? = some (some c) → Ty7 H1 c n → Q' (.bl (isW c 1 1000000000)) H1 →
        tCall spWhole [] E0 (tCons (tVar 1) (tCons (tC (.int 1)) (tCons (tOp (rI CPow fun i j => .int (i ^ j.toNat)) (tC (.int 10)) (tC (.int 9))) tNil))) σ1 H1 Q' := fun n σ1 H1 Q' e1 t q => by
      refine ⟨c, e1, _, _, rfl, rfl, ⟨by decide, by decide, by decide⟩, c, n, 1, _, rfl, t, ?_⟩
      show Q' (.bl (isW c 1 ((10 : Int) ^ (9 : Int).toNat))) H1
      rw [pow9]
      exact q
    rcases hc with ⟨ns, i, k, rfl, rfl, hg, i1, i2, h1, h2, q⟩ | ⟨p, what, hb, tell⟩ | ⟨ns, n, hg, t, hw, tell⟩ | ⟨ns, i, n, hg, rfl, i1, i2, t, hw, tell⟩
    · refine .inl ⟨ns, hg, fun H1 p s1 np hp => coin "int" _ H1 _ rfl (.int i) ?_⟩
      rw [isW_good ⟨i1, i2⟩]
      refine ⟨_, rfl, iteF ?_⟩
      refine ⟨_, rfl, _, _, 2, rfl, .int k, fun _ => ?_, fun e => by rw [isW_people h1 h2] at e; cases e⟩
      refine ⟨_, rfl, _, rfl, p, srt ns, k, rfl, hp, h1, h2, ?_⟩
      show TellFit H1 (stretch ns k) _
      unfold TellFit
      cases e : stretch ns k with
      | none =>
        rw [e] at q
        exact fun H' s' => ⟨_, rfl, _, rfl, iteF (q H' (s1.trans s'))⟩
      | some p =>
        rw [e] at q
        intro H' t s' nt ht
        refine ⟨_, rfl, _, rfl, iteT ?_⟩
        refine ⟨_, rfl, t, _, 0, _, rfl, rfl, sqT ht, atI_nat (j := 0) rfl, _, rfl, _, _, rfl, rfl, _, rfl, ?_⟩
        have q := q H' (s1.trans s')
        obtain ⟨lo, hi⟩ := p
        have ew : within (some (lo, hi)) i = (decide (lo ≤ i) && decide (i ≤ hi)) := rfl
        rw [ew] at q
        show if decide (lo ≤ i) = true then _ else _
        by_cases z : lo ≤ i
        · rw [decide_eq_true z] at q ⊢
          exact iteT ⟨_, rfl, t, _, 1, _, rfl, rfl, sqT ht, atI_nat (j := 1) rfl, _, _, rfl, rfl, q⟩
        · rw [decide_eq_false z] at q ⊢
          exact iteF q
    · exact .inr ⟨p, what, hb, tell⟩
    · refine .inl ⟨ns, hg, fun H1 p s1 np hp => coin n _ H1 _ rfl (t.same s1) ?_⟩
      rw [hw]
      exact ⟨_, rfl, iteT (tell H1 s1)⟩
    · refine .inl ⟨ns, hg, fun H1 p s1 np hp => coin "int" _ H1 _ rfl (.int i) ?_⟩
      rw [isW_good ⟨i1, i2⟩]
      refine ⟨_, rfl, iteF ?_⟩
      exact ⟨_, rfl, m, n, 2, rfl, t.same s1, (fun e => by rw [hw] at e; cases e), fun _ => tell H1 s1⟩
end
end K21

set_option Elab.async false
set_option linter.all false
set_option maxRecDepth 100000
set_option maxHeartbeats 4000000
/-! _law_mix, _law_hand, _law_draw, _law_pick. -/
namespace K21
open PySem PySem.Spec PyProof.Rows L2
/-- the hand at h: its cells, its place, its rest, its total -/
def Hand (H : Hp) (h : Addr) : Prop := ∃ (c : Addr) (cells : List Int) (pos rest tot : Int), H h = some (.lst [.ref c, .int pos, .int rest, .int tot]) ∧ H c = some (.lst (cells.map V.int)) ∧ c ≠ h ∧ (∀ x ∈ cells, (0 : Int) ≤ x) ∧ (0 : Int) ≤ pos ∧ (0 : Int) ≤ rest
/-- the cells of the hand lie at c -/
def Cells (H : Hp) (h c : Addr) : Prop := ∃ pos rest tot : Int, H h = some (.lst [.ref c, .int pos, .int rest, .int tot])
/-- the hand has gone on, all else stands -/
def Mv (h : Addr) (H H' : Hp) : Prop := But h H H' ∧ Hand H' h ∧ ∀ c, Cells H h c → Cells H' h c
theorem Hand.same {H H' : Hp} {h : Addr} (x : Hand H h) (s : Same H H') : Hand H' h := by
  obtain ⟨c, cells, pos, rest, tot, h1, h2, r⟩ := x
  exact ⟨c, cells, pos, rest, tot, s _ _ h1, s _ _ h2, r⟩
theorem Hand.some {H : Hp} {h : Addr} (x : Hand H h) : ∃ o, H h = some o := by
  obtain ⟨c, cells, pos, rest, tot, h1, _⟩ := x
  exact ⟨_, h1⟩
theorem Hand.ne {H : Hp} {h p : Addr} (x : Hand H h) (n : H p = none) : p ≠ h := by
  obtain ⟨o, e⟩ := x.some
  exact (ne_of_none e n).symm
theorem Cells.same {H H' : Hp} {h c : Addr} (x : Cells H h c) (s : Same H H') : Cells H' h c := by
  obtain ⟨p, r, t, e⟩ := x
  exact ⟨p, r, t, s _ _ e⟩
theorem Mv.same {H H1 H' : Hp} {h : Addr} (x : Mv h H H1) (s : Same H1 H') : Mv h H H' := ⟨fun b o n e => s _ _ (x.1 b o n e), x.2.1.same s, fun c e => (x.2.2 c e).same s⟩
theorem Mv.trans {H H1 H' : Hp} {h : Addr} (x : Mv h H H1) (y : Mv h H1 H') : Mv h H H' := ⟨x.1.trans y.1, y.2.1, fun c e => y.2.2 c (x.2.2 c e)⟩
theorem Mv.refl {H : Hp} {h : Addr} (x : Hand H h) : Mv h H H := ⟨But.refl, x, fun _ e => e⟩
theorem Mv.of {H H' : Hp} {h : Addr} (x : Hand H h) (s : Same H H') : Mv h H H' := (Mv.refl x).same s
theorem mv_upd {H : Hp} {h c : Addr} {p r t p' r' t' : Int} {cells : List Int} (eh : H h = some (.lst [.ref c, .int p, .int r, .int t])) (ec : H c = some (.lst (cells.map V.int))) (ne : c ≠ h) (hp : ∀ x ∈ cells, (0 : Int) ≤ x) (p0 : (0 : Int) ≤ p') (r0 : (0 : Int) ≤ r') :
    Mv h H (upd H h (.lst [.ref c, .int p', .int r', .int t'])) := by
  refine ⟨but_upd, ⟨c, cells, p', r', t', upd_same, by rw [upd_ne ne]; exact ec, ne, hp, p0, r0⟩, ?_⟩
  rintro c' ⟨p1, r1, t1, e1⟩
  rw [eh] at e1
  cases e1
  exact ⟨_, _, _, upd_same⟩
/-- a write to what did not stand at the start -/
theorem Mv.put {H H' : Hp} {h a : Addr} {o : HO} (x : Mv h H H') (y : Hand H h) (n : H a = none) : Mv h H (upd H' a o) := by
  obtain ⟨c, cells, pos, rest, tot, h1, h2, ne, r⟩ := y
  obtain ⟨c', cells', pos', rest', tot', k1, k2, ne', r'⟩ := id x.2.1
  have hc := x.2.2 c ⟨_, _, _, h1⟩
  obtain ⟨p1, r1, t1, e1⟩ := hc
  have e2 := e1
  rw [k1] at e2
  cases e2
  have nh : h ≠ a := ne_of_none h1 n
  have nc : c ≠ a := ne_of_none h2 n
  refine ⟨fun b u nb e => ?_, ⟨c, cells', _, _, _, by rw [upd_ne nh]; exact k1, by rw [upd_ne nc]; exact k2, ne', r'⟩, fun c'' e => ?_⟩
  · rw [upd_ne (ne_of_none e n)]
    exact x.1 b u nb e
  · obtain ⟨p2, r2, t2, e2⟩ := x.2.2 c'' e
    exact ⟨p2, r2, t2, by rw [upd_ne nh]; exact e2⟩
theorem Mv.free {H H' : Hp} {h p : Addr} (x : Mv h H H') (n : H' p = none) : H p = none := by
  cases e : H p with
  | none => rfl
  | some o =>
    have hp := x.2.1.ne n
    rw [x.1 p o hp e] at n
    cases n
/-- _law_mix(number, turn): some whole number -/
def spMix : Sp := fun vs H Q _ => ∃ a b, vs = [.int a, .int b] ∧ ∀ r : Int, Q (.int r) H
/-- _law_hand(script) -/
def spHand (K : PySem.W.Frag) : Sp := fun vs H Q _ => ∃ (a : Addr) (ns : List Int), vs = [.ref a] ∧ SqL K H a (ns.map V.int) ∧ ns.length ≤ 63 ∧ ∀ H' p, Same H H' → H p = none → Hand H' p → Q (.ref p) H'
/-- _law_draw(hand, many) -/
def spDraw : Sp := fun vs H Q _ => ∃ h m, vs = [.ref h, .int m] ∧ Hand H h ∧ 1 ≤ m ∧ m ≤ 1010000000 ∧ ∀ r H', Mv h H H' → 0 ≤ r → r < m → Q (.int r) H'
/-- _law_pick(hand, things) -/
def spPick : Sp := fun vs H Q _ => ∃ (h l : Addr) (xs : List V), vs = [.ref h, .ref l] ∧ Hand H h ∧ l ≠ h ∧ H l = some (.lst xs) ∧ 1 ≤ xs.length ∧ xs.length ≤ 1000 ∧ ∀ (i : Nat) (y : V) (H' : Hp), xs[i]? = some y → Mv h H H' → Q y H'
theorem mod_small {x m : Int} (h1 : 0 < m) (h2 : m ≤ 4294967296) : -(2 ^ 64) < x % m ∧ x % m < 2 ^ 64 := by
  have a := Int.emod_nonneg x (show m ≠ 0 by omega)
  have b := Int.emod_lt_of_pos x h1
  exact ⟨by omega, by omega⟩
section
variable {P : Program} {w : World} {K : PySem.W.Frag} {mg : Str → Option Value} {base : Heap}
theorem ok_l_mix {f : Addr} {fd : FuncData} (F : Fun K "_law_mix" "_law_mix" s_l_mix f fd) (B : Bl mg) : FnOk P w K mg base CX0 1 f fd ["_law_number", "_law_turn"] spMix := by
  refine F.ok sc_l_mix (fun vs H Q E h => ?_) (fun cdv A outer s H vs Q E hr h => ?_)
  · obtain ⟨a, b, rfl, _⟩ := h
    rfl
  · obtain ⟨a, b, rfl, q⟩ := h
    have nd := sc_l_mix.nd
    refine ⟨_, pss_cons (ps_set (i := 2) nd rfl (.inl rfl) (pe_op op_mod (pe_callTy call_int1 (by rfl) B.int b_int (pa_cons (pe_op op_add (pe_op op_add (pe_op op_mul (pv 0) pe_int) (pe_op op_mul (pv 1) pe_int)) pe_int) pa_nil)) pe_int))
      (pss_cons (ps_set (i := 3) nd rfl (.inl rfl) (pe_op op_mod (pe_callTy call_int1 (by rfl) B.int b_int (pa_cons (pe_op op_add (pe_op op_add (pe_op op_mul (pv 2) (pv 2)) (pe_op op_mul (pe_op op_fdiv (pv 2) pe_int) pe_int)) (pe_op op_mul (pv 1) pe_int)) pa_nil)) pe_int))
      (pss_one (ps_ret (pe_op op_fdiv (pe_op op_mod (pe_callTy call_int1 (by rfl) B.int b_int (pa_cons (pe_op op_add (pe_op op_fdiv (pe_op op_mul (pv 3) (pv 3)) pe_int) (pv 2)) pa_nil)) pe_int) pe_int)))), ?_⟩
    refine ⟨_, rfl, _, _, rfl, rfl, .inr ⟨by decide, by decide⟩, _, rfl, _, _, rfl, rfl, .inr ⟨by decide, by decide⟩, _, _, rfl, rfl, _, _, rfl, rfl, .inl ⟨_, rfl, _, _, rfl, rfl, (by show (0 : Int) < 2147483647; decide), ?_⟩⟩
    refine ⟨_, rfl, _, rfl, _, _, rfl, rfl, .inl (mod_small (by decide) (by decide)), _, rfl, _, _, rfl, rfl, ⟨by decide, by decide⟩, _, _, rfl, rfl, .inr ⟨by decide, by decide⟩, _, _, rfl, rfl, _, rfl, _, _, rfl, rfl, .inr ⟨by decide, by decide⟩, _, _, rfl, rfl, .inl ⟨_, rfl, _, _, rfl, rfl, (by show (0 : Int) < 2147483399; decide), ?_⟩⟩
    exact ⟨_, rfl, _, rfl, _, _, rfl, rfl, .inl (mod_small (by decide) (by decide)), _, _, rfl, rfl, ⟨by decide, by decide⟩, _, rfl, _, _, rfl, rfl, .inl ⟨_, rfl, _, _, rfl, rfl, (by show (0 : Int) < 2147483563; decide), _, _, rfl, rfl, ⟨by decide, by decide⟩, q _⟩⟩
theorem ok_l_hand {f : Addr} {fd : FuncData} (F : Fun K "_law_hand" "_law_hand" s_l_hand f fd) (B : Bl mg) : FnOk P w K mg base CX0 1 f fd ["_law_script"] (spHand K) := by
  refine F.ok sc_l_hand (fun vs H Q E h => ?_) (fun cdv A outer s H vs Q E hr h => ?_)
  · obtain ⟨a, b, rfl, _⟩ := h
    rfl
  · obtain ⟨a, ns, rfl, hS, hlen, q⟩ := h
    have nd := sc_l_hand.nd
    refine ⟨_, pss_cons (ps_set (i := 1) nd rfl (.inl rfl) pe_int)
      (pss_cons (ps_for PassesOwn.never rfl (pi_enum (by rfl) B.enum (pa_cons (pv 0) pa_nil)) (pg_tup rfl (pgs_cons (pg_name (i := 2) nd rfl (.inl rfl)) (pgs_cons (pg_name (i := 3) nd rfl (.inl rfl)) pgs_nil)))
        (pss_one (ps_set (i := 1) nd rfl (.inl rfl) (pe_op op_mod (pe_callTy call_int1 (by rfl) B.int b_int (pa_cons (pe_op op_add (pe_op op_mul (pv 1) pe_int) (pe_op op_mul (pe_callTy call_int1 (by rfl) B.int b_int (pa_cons (pv 3) pa_nil)) (pe_op op_add (pv 2) pe_int))) pa_nil)) pe_int))))
      (pss_one (ps_ret (pe_lst (pa_cons (pe_lc (own := [("_law_cell", 3)]) (g := gName 3) (by rfl) nd (pi_list (pv 0)) (blkOk_by (own := [("_law_cell", 3)]) (N := ["_law_script", "_law_total", "_law_k", "_law_cell"]) (sc := defScope s_l_hand) (by decide +kernel))
          (fun _ _ _ _ _ => pg_name (i := 3) nd rfl (Or.inl rfl)) (fun _ _ _ _ _ => pts_nil) (fun _ _ _ _ _ => pe_callB call_abs (by rfl) B.abs b_abs (pa_cons (pe_callTy call_int1 (by rfl) B.int b_int (pa_cons (pv 3) pa_nil)) pa_nil)))
        (pa_cons pe_int (pa_cons pe_int (pa_cons (pv 1) pa_nil)))))))), ?_⟩
    refine ⟨_, rfl, a, _, rfl, hS, for_gen (n := ns.length) (fun i σ H' => ∃ t y2 y3, σ = [some (.ref a), some (.int t), y2, y3] ∧ Same H H') ⟨0, none, none, rfl, Same.refl _⟩
      (fun i σ H' hi ⟨_, _, _, _, sm⟩ => ⟨_, .int ns[i], sm.seq hS, by simp [hi]⟩) (fun σ H' ⟨_, _, _, _, sm⟩ => ⟨_, sm.seq hS, by simp⟩) ?_ ?_⟩
    · rintro i σ H' hi ⟨t, y2, y3, rfl, sm⟩ x H2 ⟨T, y, rfl, nT, rfl, hy⟩
      obtain ⟨c, hc, rfl⟩ := get_int (hy _ (sm.seq hS))
      refine ⟨T, [.int (i : Nat), .int c], rfl, sqT upd_same, rfl, _, _, rfl, _, _, rfl, rfl, ?_⟩
      refine ⟨_, rfl, _, _, rfl, rfl, .inr ⟨by decide, by decide⟩, _, rfl, .inl ⟨_, rfl, _, rfl, _, _, rfl, rfl, _, _, rfl, rfl, .inr ⟨by omega, by omega⟩, _, _, rfl, rfl, .inl ⟨_, rfl, _, _, rfl, rfl, (by show (0 : Int) < 2147483629; decide), ?_⟩⟩⟩
      exact ⟨_, _, _, rfl, sm.trans (same_upd nT)⟩
    · rintro σ H' ⟨t, y2, y3, rfl, sm⟩
      refine ⟨_, rfl, a, rfl, ⟨_, sm.seq hS⟩, fun D nD => lc_list (K := K) (a := a) (xs := ns.map V.int) (fun i H2 => Same H' H2 ∧ ∃ cells : List Int, H2 D = some (.lst (cells.map V.int)) ∧ cells.length = i ∧ ∀ x ∈ cells, 0 ≤ x)
        ⟨same_upd nD, [], upd_same, rfl, fun x hx => by cases hx⟩ (fun i H2 _ ⟨s2, _⟩ => (sm.trans s2).seq hS) ?_ ?_⟩
      · rintro i x H2 hi ⟨s2, cells, hD, hl, hp⟩
        obtain ⟨c, hc, rfl⟩ := get_int hi
        have hi' : i < ns.length := (List.getElem?_eq_some_iff.mp hc).1
        refine ⟨rfl, ?_⟩
        refine ⟨_, rfl, .inl ⟨c, rfl, c, rfl, cells.map V.int, hD, by rw [List.length_map]; exact small1000 (by omega), ?_⟩⟩
        refine ⟨fun b o e => ?_, cells ++ [if c < 0 then -c else c], ?_, by simp [hl], fun x hx => ?_⟩
        · rw [upd_ne (ne_of_none e nD)]
          exact s2 _ _ e
        · rw [upd_same, List.map_append]
          rfl
        · rcases List.mem_append.mp hx with hx | hx
          · exact hp x hx
          · rw [List.mem_singleton.mp hx]
            split <;> omega
      · rintro H2 ⟨s2, cells, hD, hl, hp⟩
        refine ⟨_, rfl, by show 4 ≤ sizeLine; decide, fun p np => ?_⟩
        have npD : D ≠ p := ne_of_none hD np
        have s3 := sm.trans s2
        exact q _ p (s3.trans (same_upd np)) (s3.free np) ⟨D, cells, 0, 0, t, upd_same, by rw [upd_ne npD]; exact hD, npD, hp, Int.le_refl _, Int.le_refl _⟩
end
end K21

set_option Elab.async false
set_option linter.all false
set_option maxRecDepth 100000
set_option maxHeartbeats 4000000
/-! _law_draw, _law_pick. -/
namespace K21
open PySem PySem.Spec PyProof.Rows L2
theorem dec_int (a b : Int) : decide (V.int a = V.int b) = decide (a = b) := by
  by_cases h : a = b
  · rw [h, decide_eq_true rfl, decide_eq_true rfl]
  · rw [decide_eq_false h, decide_eq_false fun e => h (V.int.inj e)]
section
variable {P : Program} {w : World} {K : PySem.W.Frag} {mg : Str → Option Value} {base : Heap}
theorem ok_l_draw {f : Addr} {fd : FuncData} (F : Fun K "_law_draw" "_law_draw" s_l_draw f fd) (B : Bl mg) (Gm : Clx P w K mg base CX0 1 "_law_mix" spMix) : FnOk P w K mg base CX0 2 f fd ["_law_hand_here", "_law_many"] spDraw := by
  refine F.ok sc_l_draw (fun vs H Q E h => ?_) (fun cdv A outer s H vs Q E hr h => ?_)
  · obtain ⟨h, m, rfl, _⟩ := h
    rfl
  · obtain ⟨h, m, rfl, hh, m1, m2, q⟩ := h
    have nd := sc_l_draw.nd
    refine ⟨_, C8.pss_cut (ps_if (PW.pt (pw_and (pt_cmpR op_eq (pe_ix ix_list (pv 0) pe_int (fun _ _ => rfl)) pe_int (nomark _)) (pw_and1 (pt_cmpR op_lt (pe_ix ix_list (pv 0) pe_int (fun _ _ => rfl)) (pe_callB call_len_seq (by rfl) B.len b_len (pa_cons (pe_ix ix_list (pv 0) pe_int (fun _ _ => rfl)) pa_nil)) (nomark _)))))
        (pss_cons (ps_set (i := 2) nd rfl (.inl rfl) (pe_ix ix_list (pe_ix ix_list (pv 0) pe_int (fun _ _ => rfl)) (pe_ix ix_list (pv 0) pe_int (fun _ _ => rfl)) (fun _ _ => rfl)))
        (pss_cons (ps_asg (pe_op op_add (pe_ix ix_list (pv 0) pe_int (fun _ _ => rfl)) pe_int) (pg_sub (pv 0) pe_int set_list))
        (pss_cons (ps_if (pt_cmpR op_lt (pv 2) (pe_op op_pow pe_int pe_int) (nomark _))
          (pss_one (ps_ret (pe_op op_mod (pe_callTy call_int1 (by rfl) B.int b_int (pa_cons (pe_x Gm hr (by decide) pass0 (pa_cons (pe_op op_mod (pe_callTy call_int1 (by rfl) B.int b_int (pa_cons (pv 2) pa_nil)) pe_int) (pa_cons (pe_ix ix_list (pv 0) pe_int (fun _ _ => rfl)) pa_nil))) pa_nil)) (pv 1)))) pss_nil)
        (pss_one (ps_asg (pv 2) (pg_sub (pv 0) pe_int set_list)))))) pss_nil)
      (pss_cons (ps_if (pt_cmpR op_gt (pe_ix ix_list (pv 0) pe_int (fun _ _ => rfl)) pe_int (nomark _))
        (pss_cons (ps_set (i := 3) nd rfl (.inl rfl) (pe_ix ix_list (pv 0) pe_int (fun _ _ => rfl)))
        (pss_cons (ps_asg (pe_op op_fdiv (pv 3) (pv 1)) (pg_sub (pv 0) pe_int set_list))
        (pss_one (ps_ret (pe_op op_mod (pe_callTy call_int1 (by rfl) B.int b_int (pa_cons (pv 3) pa_nil)) (pv 1)))))) pss_nil)
      (pss_cons (ps_asg (pe_op op_mod (pe_callTy call_int1 (by rfl) B.int b_int (pa_cons (pe_op op_add (pe_ix ix_list (pv 0) pe_int (fun _ _ => rfl)) pe_int) pa_nil)) pe_int) (pg_sub (pv 0) pe_int set_list))
      (pss_one (ps_ret (pe_op op_mod (pe_callTy call_int1 (by rfl) B.int b_int (pa_cons (pe_x Gm hr (by decide) pass0 (pa_cons (pe_ix ix_list (pv 0) pe_int (fun _ _ => rfl)) (pa_cons (pe_ix ix_list (pv 0) pe_int (fun _ _ => rfl)) pa_nil))) pa_nil)) (pv 1)))))), ?_⟩
    have fin : ∀ (r : Int) (H' : Hp), Mv h H H' → Q (.int (r % m)) H' := fun r H' mv => q _ H' mv (Int.emod_nonneg _ (by omega)) (Int.emod_lt_of_pos _ (by omega))
    refine ⟨fun σ' H' => ∃ y2, σ' = [some (.ref h), some (.int m), y2, none] ∧ Mv h H H', ?_, ?_⟩
    · obtain ⟨c, cells, pos, rest, tot, eh, ec, ne, hp, p0, r0⟩ := id hh
      have miss : ∃ y2, [some (V.ref h), some (V.int m), none, none] = [some (V.ref h), some (V.int m), y2, none] ∧ Mv h H H := ⟨none, rfl, .refl hh⟩
      refine ⟨_, rfl, h, _, 2, _, rfl, rfl, sqL eh, atI_nat (j := 2) rfl, rfl, _, rfl, ?_⟩
      rw [dec_int]
      by_cases e1 : rest = 0
      · rw [decide_eq_true e1]
        refine iteT ⟨_, rfl, h, _, 1, _, rfl, rfl, sqL eh, atI_nat (j := 1) rfl, _, rfl, h, _, 0, _, rfl, rfl, sqL eh, atI_nat (j := 0) rfl, c, _, rfl, .inl (sqL ec), _, _, rfl, rfl, _, rfl, ?_⟩
        rw [List.length_map]
        by_cases e2 : pos < (cells.length : Int)
        · rw [decide_eq_true e2]
          obtain ⟨j, rfl⟩ : ∃ j : Nat, pos = (j : Int) := ⟨pos.toNat, by omega⟩
          have hj : j < cells.length := by omega
          have ej : (cells.map V.int)[j]? = some (.int cells[j]) := by simp [hj]
          have hcj := hp _ (List.getElem_mem hj)
          refine iteT ?_
          refine ⟨_, rfl, h, _, 0, _, rfl, rfl, sqL eh, atI_nat (j := 0) rfl, _, rfl, h, _, 1, _, rfl, rfl, sqL eh, atI_nat (j := 1) rfl, c, _, (j : Int), .int cells[j], rfl, rfl, sqL ec, atI_nat ej, ?_⟩
          refine ⟨_, rfl, h, _, 1, _, rfl, rfl, sqL eh, atI_nat (j := 1) rfl, _, _, rfl, rfl, _, rfl, h, _, 1, 1, rfl, rfl, eh, rfl, ?_⟩
          refine ⟨_, rfl, _, _, rfl, rfl, ⟨by decide, by decide, by decide⟩, _, _, rfl, rfl, _, rfl, ?_⟩
          refine ite2 (fun _ => ?_) (fun _ => ?_)
          · exact ⟨_, rfl, .inl ⟨_, rfl, _, _, rfl, rfl, (by show (0 : Int) < 2147483647; decide), _, rfl, h, _, 1, _, rfl, rfl, sqL upd_same, atI_nat (j := 1) rfl, _, _, rfl, fun r => .inl ⟨r, rfl, _, rfl, _, _, rfl, rfl, (by show 0 < m; omega), fin r _ (mv_upd eh ec ne hp (by omega) r0)⟩⟩⟩
          · refine ⟨_, rfl, _, rfl, h, _, 2, 2, rfl, rfl, upd_same, rfl, ?_⟩
            rw [upd_upd]
            exact ⟨_, rfl, mv_upd eh ec ne hp (by omega) hcj⟩
        · rw [decide_eq_false e2]
          exact iteF miss
      · rw [decide_eq_false e1]
        exact iteF (iteF miss)
    · rintro σ' H1 ⟨y2, rfl, mv⟩
      obtain ⟨c, cells, pos, rest, tot, eh, ec, ne, hp, p0, r0⟩ := id mv.2.1
      refine ⟨_, rfl, h, _, 2, _, rfl, rfl, sqL eh, atI_nat (j := 2) rfl, _, _, rfl, rfl, _, rfl, ite2 (fun e => ?_) (fun e => ?_)⟩
      · refine ⟨_, rfl, h, _, 2, _, rfl, rfl, sqL eh, atI_nat (j := 2) rfl, ?_⟩
        refine ⟨_, rfl, _, rfl, _, _, rfl, rfl, ⟨by show 0 < m; omega, by show m < 1073741824; omega⟩, _, rfl, h, _, 2, 2, rfl, rfl, eh, rfl, ?_⟩
        refine ⟨_, rfl, .inl ⟨_, rfl, _, rfl, _, _, rfl, rfl, (by show 0 < m; omega), fin rest _ (mv.trans (mv_upd eh ec ne hp p0 (Int.ediv_nonneg r0 (by omega))))⟩⟩
      · refine ⟨_, rfl, h, _, 3, _, rfl, rfl, sqL eh, atI_nat (j := 3) rfl, _, _, rfl, rfl, .inl ⟨_, rfl, _, _, rfl, rfl, (by show (0 : Int) < 2147483629; decide), _, rfl, h, _, 3, 3, rfl, rfl, eh, rfl, ?_⟩⟩
        refine ⟨_, rfl, h, _, 3, _, rfl, rfl, sqL upd_same, atI_nat (j := 3) rfl, _, rfl, h, _, 1, _, rfl, rfl, sqL upd_same, atI_nat (j := 1) rfl, _, _, rfl, fun r => .inl ⟨r, rfl, _, rfl, _, _, rfl, rfl, (by show 0 < m; omega), fin r _ (mv.trans (mv_upd eh ec ne hp p0 r0))⟩⟩
end
end K21

set_option Elab.async false
set_option linter.all false
set_option maxRecDepth 100000
set_option maxHeartbeats 4000000
/-! _law_pick, _law_serves, _law_odd_people, _law_robbed; == of lists of ints. -/
namespace K21
open PySem PySem.Spec PyProof.Rows L2
theorem dp_ints {K : PySem.W.Frag} {H : Hp} : ∀ ns : List Int, DpAll K H (ns.map V.int) (ns.map PyData.int)
  | [] => .nil
  | n :: ns => .cons (.int n) (dp_ints ns)
theorem dp_lst {K : PySem.W.Frag} {H : Hp} {a : Addr} {ns : List Int} (h : H a = some (.lst (ns.map V.int))) : Dp K H (.ref a) (.list (ns.map PyData.int)) := .lst (sqL h) (dp_ints ns)
theorem shaped_is (ns : List Int) : SeqAt.shaped (.list (ns.map PyData.int)) = true := PySem.W.ke_shaped_ints ns
theorem eqvAll_int : ∀ xs ys : List Int, PyData.eqvAll (xs.map PyData.int) (ys.map PyData.int) = decide (xs = ys)
  | [], [] => by simp [PyData.eqvAll]
  | [], y :: ys => by simp [PyData.eqvAll]
  | x :: xs, [] => by simp [PyData.eqvAll]
  | x :: xs, y :: ys => by
    rw [List.map_cons, List.map_cons, PyData.eqvAll, eqvAll_int xs ys, PyData.eqv]
    by_cases h : x = y <;> by_cases h' : xs = ys <;> simp [h, h']
theorem eqv_int (xs ys : List Int) : PyData.eqv (.list (xs.map PyData.int)) (.list (ys.map PyData.int)) = decide (xs = ys) := by
  rw [PyData.eqv]
  exact eqvAll_int xs ys
/-- _law_serves(coins, people) -/
def spServes : Sp := fun vs H Q _ => ∃ l ns m, vs = [.ref l, .int m] ∧ SqA H l (ns.map V.int) ∧ 2 ≤ m ∧ m ≤ 5 ∧ ∀ H', Same H H' → Q (.bl (serves ns m)) H'
/-- _law_odd_people(hand): no number of people -/
def spOdd : Sp := fun vs H Q _ => ∃ h, vs = [.ref h] ∧ Hand H h ∧ ∀ y n H', Mv h H H' → Ty7 H' y n → isW y 2 5 = false → Q y H'
/-- a pool that the law has made -/
def PoolOk (ns : List Int) : Prop := ns.length ≤ 12 ∧ (∀ c ∈ ns, 1 ≤ c) ∧ ns.sum ≤ 1000000000
/-- _law_robbed(hand, pool) -/
def spRob : Sp := fun vs H Q _ => ∃ h l ns, vs = [.ref h, .ref l] ∧ Hand H h ∧ l ≠ h ∧ H l = some (.lst (ns.map V.int)) ∧ PoolOk ns ∧ ∀ H' p ms, Mv h H H' → p ≠ h → H' p = some (.lst (ms.map V.int)) → PoolOk ms → Q (.ref p) H'
theorem servesB_cons {m r c : Int} {cs : List Int} : servesB m r (c :: cs) = if c > up (r + c) m then false else servesB m (r + c) cs := rfl
theorem sum_nonneg : ∀ {ns : List Int}, (∀ c ∈ ns, 1 ≤ c) → 0 ≤ ns.sum
  | [], _ => Int.le_refl _
  | n :: ns, h => by
    have a := h n List.mem_cons_self
    have b := sum_nonneg (ns := ns) fun c hc => h c (List.mem_cons_of_mem _ hc)
    rw [List.sum_cons]
    omega
theorem sum_sublist {xs ys : List Int} (s : xs.Sublist ys) (h : ∀ c ∈ ys, 1 ≤ c) : xs.sum ≤ ys.sum := by
  induction s with
  | slnil => exact Int.le_refl _
  | cons a s ih =>
    have := ih fun c hc => h c (List.mem_cons_of_mem _ hc)
    have := h a List.mem_cons_self
    rw [List.sum_cons]
    omega
  | cons_cons a s ih =>
    have := ih fun c hc => h c (List.mem_cons_of_mem _ hc)
    rw [List.sum_cons, List.sum_cons]
    omega
theorem PoolOk.sub {xs ys : List Int} (h : PoolOk ys) (s : xs.Sublist ys) : PoolOk xs :=
  ⟨Nat.le_trans s.length_le h.1, fun c hc => h.2.1 c (s.mem hc), Int.le_trans (sum_sublist s h.2.1) h.2.2⟩
theorem without_sub (ns : List Int) (j : Nat) : (ns.take j ++ ns.drop (j + 1)).Sublist ns := by
  have h : (ns.take j ++ ns.drop (j + 1)).Sublist (ns.take j ++ ns.drop j) := (List.Sublist.refl _).append (by rw [← List.drop_drop]; exact List.drop_sublist _ _)
  rw [List.take_append_drop] at h
  exact h
section
variable {P : Program} {w : World} {K : PySem.W.Frag} {mg : Str → Option Value} {base : Heap}
theorem ok_l_pick {f : Addr} {fd : FuncData} (F : Fun K "_law_pick" "_law_pick" s_l_pick f fd) (B : Bl mg) (Gd : Clx P w K mg base CX0 2 "_law_draw" spDraw) : FnOk P w K mg base CX0 3 f fd ["_law_hand_here", "_law_things"] spPick := by
  refine F.ok sc_l_pick (fun vs H Q E h => ?_) (fun cdv A outer s H vs Q E hr h => ?_)
  · obtain ⟨h, m, xs, rfl, _⟩ := h
    rfl
  · obtain ⟨h, l, xs, rfl, hh, ne, hl, l1, l2, q⟩ := h
    refine ⟨_, pss_one (ps_ret (pe_ix ix_list (pv 1) (pe_x Gd hr (by decide) pass0 (pa_cons (pv 0) (pa_cons (pe_callB call_len_seq (by rfl) B.len b_len (pa_cons (pv 1) pa_nil)) pa_nil))) (fun _ _ => rfl))), ?_⟩
    refine ⟨_, rfl, _, rfl, _, rfl, l, xs, rfl, .inl (sqL hl), h, (xs.length : Int), rfl, hh, by omega, by omega, fun r H' mv r0 r1 => ?_⟩
    obtain ⟨j, rfl⟩ : ∃ j : Nat, r = (j : Int) := ⟨r.toNat, by omega⟩
    have hj : j < xs.length := by omega
    exact ⟨l, xs, (j : Int), xs[j], rfl, rfl, sqL (mv.1 _ _ ne hl), atI_nat (by simp [hj]), q j _ H' (by simp [hj]) mv⟩
theorem ok_l_serves {f : Addr} {fd : FuncData} (F : Fun K "_law_serves" "_law_serves" s_l_serves f fd) (B : Bl mg) (Gu : Clx P w K mg base CX0 1 "_law_up" spUp) : FnOk P w K mg base CX0 2 f fd ["_law_coins", "_law_people"] spServes := by
  refine F.ok sc_l_serves (fun vs H Q E h => ?_) (fun cdv A outer s H vs Q E hr h => ?_)
  · obtain ⟨l, ns, m, rfl, _⟩ := h
    rfl
  · obtain ⟨l, ns, m, rfl, hl, h1, h2, q⟩ := h
    have nd := sc_l_serves.nd
    refine ⟨_, pss_cons (ps_set (i := 2) nd rfl (.inl rfl) pe_int)
      (pss_cons (ps_for PassesOwn.never rfl (pi_list (pe_callB cr_srt (by rfl) B.sorted b_sorted (pa_cons (pe_callTy call_list_of (by rfl) B.list b_list (pa_cons (pv 0) pa_nil)) pa_nil))) (pg_name (i := 3) nd rfl (.inl rfl))
        (pss_cons (ps_set (i := 2) nd rfl (.inl rfl) (pe_op op_add (pv 2) (pv 3)))
        (pss_one (ps_if (pt_cmpR op_gt (pv 3) (pe_x Gu hr (by decide) pass0 (pa_cons (pv 2) (pa_cons (pv 1) pa_nil))) (nomark _)) (pss_one (ps_ret pe_bl)) pss_nil))))
      (pss_one (ps_ret pe_bl))), ?_⟩
    refine ⟨_, rfl, l, _, rfl, hl.sq, fun u nu => ⟨u, ns, rfl, .inl (sqL upd_same), fun v nv => ?_⟩⟩
    have s2 := (same_upd (o := .lst (ns.map V.int)) nu).trans (same_upd (o := .lst ((srt ns).map V.int)) nv)
    refine ⟨v, rfl, ⟨_, sqL upd_same⟩, for_list (xs := (srt ns).map V.int) (fun i σ H' => ∃ r y, σ = [some (.ref l), some (.int m), some (.int r), y] ∧ H' = upd (upd H u (.lst (ns.map V.int))) v (.lst ((srt ns).map V.int)) ∧ servesB m 0 (srt ns) = servesB m r ((srt ns).drop i))
      ⟨0, none, rfl, rfl, rfl⟩ (fun i σ H' _ ⟨_, _, _, e, _⟩ => by rw [e]; exact sqL upd_same) ?_ ?_⟩
    · rintro i y σ H' hi ⟨r, y3, rfl, rfl, es⟩
      obtain ⟨c, hc, rfl⟩ := get_int hi
      have hd : (srt ns).drop i = c :: (srt ns).drop (i + 1) := List.drop_eq_getElem?_toList_append.trans (by rw [hc]; rfl)
      rw [hd, servesB_cons] at es
      refine ⟨_, rfl, _, rfl, _, _, rfl, rfl, ?_⟩
      refine ⟨_, rfl, _, rfl, _, rfl, _, m, rfl, h1, h2, c, _, rfl, rfl, _, rfl, ?_⟩
      by_cases hcr : c > up (r + c) m
      · rw [if_pos hcr] at es
        rw [decide_eq_true hcr]
        have q := q _ s2
        unfold serves at q
        rw [es] at q
        exact iteT q
      · rw [if_neg hcr] at es
        rw [decide_eq_false hcr]
        exact iteF ⟨_, _, rfl, rfl, es⟩
    · rintro σ H' ⟨r, y3, rfl, rfl, es⟩
      rw [List.length_map, List.drop_length] at es
      have q := q _ s2
      unfold serves at q
      rw [es] at q
      exact q
end
end K21

set_option Elab.async false
set_option linter.all false
set_option maxRecDepth 100000
set_option maxHeartbeats 4000000
/-! _law_odd_people, _law_robbed. -/
namespace K21
open PySem PySem.Spec PyProof.Rows L2
theorem cut_to (xs : List V) (j : Nat) (h : j ≤ xs.length) : cutV xs none (some (j : Int)) = xs.take j := by
  unfold cutV
  rw [HT.sIx_none, HT.sIx_nat, Nat.min_eq_left h]
  simp
theorem cut_from (xs : List V) (j : Nat) (h : j ≤ xs.length) : cutV xs (some (j : Int)) none = xs.drop j := by
  unfold cutV
  rw [HT.sIx_none, HT.sIx_nat, Nat.min_eq_left h]
  exact List.take_of_length_le (by rw [List.length_drop]; omega)
def oddP (t : Addr) : List V := [.int 1, .int 0, .int 6, .int (-2), .non, .bl true, .str "2", .ref t, .int ((10 : Int) ^ (20 : Int).toNat)]
section
variable {P : Program} {w : World} {K : PySem.W.Frag} {mg : Str → Option Value} {base : Heap}
theorem ok_l_odd_people {f : Addr} {fd : FuncData} (F : Fun K "_law_odd_people" "_law_odd_people" s_l_odd_people f fd) (Gk : Clx P w K mg base CX0 3 "_law_pick" spPick) : FnOk P w K mg base CX0 4 f fd ["_law_hand_here"] spOdd := by
  refine F.ok sc_l_odd_people (fun vs H Q E h => ?_) (fun cdv A outer s H vs Q E hr h => ?_)
  · obtain ⟨h, rfl, _⟩ := h
    rfl
  · obtain ⟨h, rfl, hh, q⟩ := h
    refine ⟨_, pss_one (ps_ret (pe_x Gk hr (by decide) pass0 (pa_cons (pv 0) (pa_cons (pe_lst (pa_cons pe_int (pa_cons pe_int (pa_cons pe_int (pa_cons (pe_un un_neg pe_int) (pa_cons pe_non (pa_cons pe_bl (pa_cons pe_str (pa_cons (pe_tup (pa_cons pe_int pa_nil)) (pa_cons (pe_op op_pow pe_int pe_int) pa_nil)))))))))) pa_nil)))), ?_⟩
    refine ⟨_, rfl, 2, rfl, by show 1 ≤ sizeLine; decide, fun t nt => ⟨_, _, rfl, rfl, ⟨by decide, by decide, by decide⟩, by show 9 ≤ sizeLine; decide, fun l nl => ?_⟩⟩
    have s1 := same_upd (o := .tup [.int 2]) nt
    have s2 := s1.trans (same_upd (o := .lst (oddP t)) nl)
    have hh2 := hh.same s2
    have tl : t ≠ l := ne_of_none upd_same nl
    have th : t ≠ h := hh.ne nt
    refine ⟨h, l, oddP t, rfl, hh2, (hh.same s1).ne nl, upd_same, by show 1 ≤ 9; decide, by show 9 ≤ 1000; decide, fun i y H' hy mv => ?_⟩
    have mv' : Mv h H H' := (Mv.of hh s2).trans mv
    have ht : H' t = some (.tup [.int 2]) := mv.1 _ _ th (by rw [upd_ne tl]; exact upd_same)
    have hi : i < 9 := (List.getElem?_eq_some_iff.mp hy).1
    have q : ∀ n, Ty7 H' y n → isW y 2 5 = false → Q y H' := fun n t e => q y n H' mv' t e
    rcases (show i = 0 ∨ i = 1 ∨ i = 2 ∨ i = 3 ∨ i = 4 ∨ i = 5 ∨ i = 6 ∨ i = 7 ∨ i = 8 by omega) with rfl | rfl | rfl | rfl | rfl | rfl | rfl | rfl | rfl
    · obtain rfl := Option.some.inj hy
      exact q _ (.int _) (by decide)
    · obtain rfl := Option.some.inj hy
      exact q _ (.int _) (by decide)
    · obtain rfl := Option.some.inj hy
      exact q _ (.int _) (by decide)
    · obtain rfl := Option.some.inj hy
      exact q _ (.int _) (by decide)
    · obtain rfl := Option.some.inj hy
      exact q _ .non rfl
    · obtain rfl := Option.some.inj hy
      exact q _ (.bl _) rfl
    · obtain rfl := Option.some.inj hy
      exact q _ (.str _) rfl
    · obtain rfl := Option.some.inj hy
      exact q _ (.tup ht) rfl
    · obtain rfl := Option.some.inj hy
      exact q _ (.int _) (by decide)
theorem ok_l_robbed {f : Addr} {fd : FuncData} (F : Fun K "_law_robbed" "_law_robbed" s_l_robbed f fd) (B : Bl mg) (Gd : Clx P w K mg base CX0 2 "_law_draw" spDraw) : FnOk P w K mg base CX0 3 f fd ["_law_hand_here", "_law_pool_here"] spRob := by
  refine F.ok sc_l_robbed (fun vs H Q E h => ?_) (fun cdv A outer s H vs Q E hr h => ?_)
  · obtain ⟨h, l, ns, rfl, _⟩ := h
    rfl
  · obtain ⟨h, l, ns, rfl, hh, ne, hl, hp, q⟩ := h
    have nd := sc_l_robbed.nd
    refine ⟨_, pss_cons (ps_if (pt_cmpR (op_eqD hr.units) (pv 1) (pe_lst pa_nil) (nomark _)) (pss_one (ps_ret (pv 1))) pss_nil)
      (pss_cons (ps_set (i := 2) nd rfl (.inl rfl) (pe_x Gd hr (by decide) pass0 (pa_cons (pv 0) (pa_cons (pe_callB call_len_seq (by rfl) B.len b_len (pa_cons (pv 1) pa_nil)) pa_nil))))
      (pss_one (ps_ret (pe_op op_cat (pe_slice sl_list (pv 1) po_none (po_some (pv 2))) (pe_slice sl_list (pv 1) (po_some (pe_op op_add (pv 2) pe_int)) po_none))))), ?_⟩
    refine ⟨_, rfl, Nat.zero_le _, fun u nu => ?_⟩
    have s1 := same_upd (o := .lst []) nu
    refine ⟨_, _, dp_lst (s1 _ _ hl), dp_lst (ns := []) upd_same, shaped_is ns, shaped_is [], _, rfl, ?_⟩
    rw [eqv_int]
    by_cases e : ns = []
    · rw [decide_eq_true e]
      exact iteT ⟨_, rfl, q _ l ns (Mv.of hh s1) ne (s1 _ _ hl) hp⟩
    · rw [decide_eq_false e]
      have hn : 1 ≤ ns.length := by
        cases ns with
        | nil => exact absurd rfl e
        | cons _ _ => simp
      refine iteF ⟨_, rfl, _, rfl, l, _, rfl, .inl (sqL (s1 _ _ hl)), h, _, rfl, hh.same s1, by rw [List.length_map]; omega, by rw [List.length_map]; have := hp.1; omega, fun r H' mv r0 r1 => ?_⟩
      rw [List.length_map] at r1
      obtain ⟨j, rfl⟩ : ∃ j : Nat, r = (j : Int) := ⟨r.toNat, by omega⟩
      have hj : j < ns.length := by omega
      have mv1 : Mv h H H' := (Mv.of hh s1).trans mv
      have hl' := mv1.1 _ _ ne hl
      refine ⟨_, rfl, _, rfl, (j : Int), rfl, l, _, rfl, sqL hl', fun a na => ?_⟩
      refine ⟨_, rfl, _, rfl, _, _, rfl, rfl, _, rfl, l, _, rfl, sqL (by rw [upd_ne (ne_of_none hl' na)]; exact hl'), fun b nb => ?_⟩
      have nab : a ≠ b := ne_of_none upd_same nb
      have s3 := (same_upd (o := .lst (cutV (ns.map V.int) none (some (j : Int)))) na).trans (same_upd (o := .lst (cutV (ns.map V.int) (some ((j : Int) + 1)) none)) nb)
      have mv2 := mv1.same s3
      refine ⟨a, b, _, _, rfl, rfl, by rw [upd_ne nab]; exact upd_same, upd_same, ?_, fun p np => ?_⟩
      · rw [cut_to _ _ (by rw [List.length_map]; omega), show ((j : Int) + 1) = ((j + 1 : Nat) : Int) by omega, cut_from _ _ (by rw [List.length_map]; omega)]
        rw [List.length_take, List.length_drop, List.length_map]
        have := hp.1
        exact Nat.le_of_lt (small1000 (by omega))
      · refine q _ p (ns.take j ++ ns.drop (j + 1)) (mv2.same (same_upd np)) (mv2.2.1.ne np) ?_ (hp.sub (without_sub ns j))
        rw [upd_same, cut_to _ _ (by rw [List.length_map]; omega), show ((j : Int) + 1) = ((j + 1 : Nat) : Int) by omega, cut_from _ _ (by rw [List.length_map]; omega), List.map_append, List.map_take, List.map_drop]
end
end K21

set_option Elab.async false
set_option linter.all false
set_option maxRecDepth 100000
set_option maxHeartbeats 4000000
/-! _law_pool. -/
namespace K21
open PySem PySem.Spec PyProof.Rows L2
theorem room_bound {s m : Int} (h : 0 ≤ s) (hm : 2 ≤ m) : 1 ≤ room s m ∧ room s m ≤ s + 1 := by
  unfold room
  have a := Int.ediv_nonneg h (show 0 ≤ m - 1 by omega)
  have b := Int.ediv_le_self (m - 1) h
  omega
theorem pow2 {i : Nat} (h : i ≤ 12) : (2 : Int) ^ i ≤ 4096 := (by decide : ∀ i : _root_.Fin 13, (2 : Int) ^ (i : Nat) ≤ 4096) ⟨i, by omega⟩
theorem pow2_more (i : Nat) : (2 : Int) ^ (i + 1) = 2 ^ i * 2 := Int.pow_succ 2 i
/-- the pool while coins come: i of them -/
structure Grown (i : Nat) (ns : List Int) : Prop where
  len : ns.length = i
  pos : ∀ c ∈ ns, 1 ≤ c
  sum : ns.sum + 1 ≤ 2 ^ i
theorem grown_more {i j : Nat} {ns : List Int} {c : Int} (g : Grown i ns) (h1 : 1 ≤ c) (h2 : c ≤ ns.sum + 1) : Grown (i + 1) (ns.take j ++ [c] ++ ns.drop j) := by
  refine ⟨?_, fun x hx => ?_, ?_⟩
  · rw [List.length_append, List.length_append, List.length_singleton]
    have := congrArg List.length (List.take_append_drop j ns)
    rw [List.length_append, g.len] at this
    omega
  · rcases List.mem_append.mp hx with hx | hx
    · rcases List.mem_append.mp hx with hx | hx
      · exact g.pos x (List.mem_of_mem_take hx)
      · rw [List.mem_singleton.mp hx]; exact h1
    · exact g.pos x (List.mem_of_mem_drop hx)
  · have e : (ns.take j).sum + (ns.drop j).sum = ns.sum := by rw [← List.sum_append_int, List.take_append_drop]
    have := g.sum
    rw [List.sum_append_int, List.sum_append_int, List.sum_singleton, pow2_more]
    omega
theorem sum_times (t : Int) : ∀ ns : List Int, (ns.map fun c => c * t).sum = ns.sum * t
  | [] => by simp
  | n :: ns => by rw [List.map_cons, List.sum_cons, List.sum_cons, sum_times t ns, Int.add_mul]
theorem sum_mul_le {s t a b : Int} (h0 : 0 ≤ s) (h1 : s ≤ a) (h2 : 0 ≤ t) (h3 : t ≤ b) : s * t ≤ a * b := Int.mul_le_mul h1 h3 h2 (Int.le_trans h0 h1)
theorem set_pos {v : Int} (hv : 1 ≤ v) {ns : List Int} {j : Nat} (h : ∀ c ∈ ns, 1 ≤ c) : ∀ c ∈ ns.set j v, 1 ≤ c := fun c hc => by
  rcases List.mem_or_eq_of_mem_set hc with hc | rfl
  · exact h c hc
  · exact hv
theorem set_sum {v : Int} (hv : 1 ≤ v) : ∀ {ns : List Int} {j : Nat}, (∀ c ∈ ns, 1 ≤ c) → (ns.set j v).sum ≤ ns.sum + v
  | [], j, h => by
    rw [List.set_nil]
    omega
  | n :: ns, 0, h => by
    have := h n List.mem_cons_self
    rw [List.set_cons_zero, List.sum_cons, List.sum_cons]
    omega
  | n :: ns, j + 1, h => by
    have := set_sum hv (ns := ns) (j := j) fun c hc => h c (List.mem_cons_of_mem _ hc)
    rw [List.set_cons_succ, List.sum_cons, List.sum_cons]
    omega
theorem ixN_nat {n j : Nat} (h : j < n) : ixN n (j : Int) = some j := by
  unfold ixN
  rw [if_pos (by omega), if_pos (by omega)]
  rfl
/-- _law_pool(hand, people, most) -/
def spMkPool : Sp := fun vs H Q _ => ∃ h m most, vs = [.ref h, .int m, .int most] ∧ Hand H h ∧ 2 ≤ m ∧ m ≤ 5 ∧ 0 ≤ most ∧ most ≤ 12 ∧ ∀ H' p ns, Mv h H H' → H p = none → H' p = some (.lst (ns.map V.int)) → PoolOk ns → Q (.ref p) H'
section
variable {P : Program} {w : World} {K : PySem.W.Frag} {mg : Str → Option Value} {base : Heap}
theorem ok_l_pool {f : Addr} {fd : FuncData} (F : Fun K "_law_pool" "_law_pool" s_l_pool f fd) (B : Bl mg) (Gd : Clx P w K mg base CX0 2 "_law_draw" spDraw) (Gn : Clx P w K mg base CX0 1 "_law_next" spRoom) : FnOk P w K mg base CX0 3 f fd ["_law_hand_here", "_law_people", "_law_most"] spMkPool := by
  refine F.ok sc_l_pool (fun vs H Q E h => ?_) (fun cdv A outer s H vs Q E hr h => ?_)
  · obtain ⟨h, l, ns, rfl, _⟩ := h
    rfl
  · obtain ⟨h, m, most, rfl, hh, m1, m2, w1, w2, q⟩ := h
    have nd := sc_l_pool.nd
    have hr2 : Room 2 _ := hr
    refine ⟨_, pss_cons (ps_set (i := 3) nd rfl (.inl rfl) (pe_x Gd hr2 (by decide) pass0 (pa_cons (pv 0) (pa_cons (pe_op op_add (pv 2) pe_int) pa_nil))))
      (pss_cons (ps_set (i := 4) nd rfl (.inl rfl) (pe_x Gd hr2 (by decide) pass0 (pa_cons (pv 0) (pa_cons pe_int pa_nil))))
      (pss_cons (ps_set (i := 5) nd rfl (.inl rfl) (pe_lst pa_nil))
      (C8.pss_cut (ps_for PassesOwn.never rfl (pi_range1 (by rfl) B.range (pa_cons (pv 3) pa_nil)) (pg_name (i := 6) nd rfl (.inl rfl))
        (pss_cons (ps_set (i := 7) nd rfl (.inl rfl) (pe_x Gn hr2 (by decide) pass0 (pa_cons (pe_callB (cr_sum rfl) (by rfl) B.sum b_sum (pa_cons (pv 5) pa_nil)) (pa_cons (pv 1) pa_nil))))
        (C8.pss_cut (ps_if (PW.pt (pw_and (pt_cmpR op_ne (pv 4) pe_int (nomark _)) (pw_and1 (pt_cmpR op_gt (pe_x Gd hr2 (by decide) pass0 (pa_cons (pv 0) (pa_cons pe_int pa_nil))) pe_int (nomark _)))))
          (pss_one (ps_set (i := 7) nd rfl (.inl rfl) (pe_op op_add pe_int (pe_x Gd hr2 (by decide) pass0 (pa_cons (pv 0) (pa_cons (pv 7) pa_nil)))))) pss_nil)
        (pss_one (ps_expr (pe_bm PySem.F.plainAttrs_list PySem.F.slot_list_insert PySem.F.type_list_insert mt_insert (pv 5)
          (pa_cons (pe_x Gd hr2 (by decide) pass0 (pa_cons (pv 0) (pa_cons (pe_op op_add (pe_callB call_len_seq (by rfl) B.len b_len (pa_cons (pv 5) pa_nil)) pe_int) pa_nil))) (pa_cons (pv 7) pa_nil))))))))
      (C8.pss_cut (ps_if (pt_cmpR (op_neD hr2.units) (pv 5) (pe_lst pa_nil) (nomark _))
        (pss_cons (ps_set (i := 8) nd rfl (.inl rfl) (pe_x Gd hr2 (by decide) pass0 (pa_cons (pv 0) (pa_cons (pe_callB call_len_seq (by rfl) B.len b_len (pa_cons (pv 5) pa_nil)) pa_nil))))
        (C8.pss_cut (ps_if (pt_cmpR op_eq (pv 4) pe_int (nomark _))
          (pss_one (ps_set (i := 5) nd rfl (.inl rfl) (pe_op op_cat (pe_slice sl_list (pv 5) po_none (po_some (pv 8))) (pe_slice sl_list (pv 5) (po_some (pe_op op_add (pv 8) pe_int)) po_none)))) pss_nil)
        (pss_one (ps_if (pt_cmpR op_ge (pv 4) pe_int (nomark _))
          (pss_one (ps_asg (pe_op op_add (pe_op op_add (pe_x Gn hr2 (by decide) pass0 (pa_cons (pe_callB (cr_sum rfl) (by rfl) B.sum b_sum (pa_cons (pv 5) pa_nil)) (pa_cons (pv 1) pa_nil))) pe_int) (pe_x Gd hr2 (by decide) pass0 (pa_cons (pv 0) (pa_cons pe_int pa_nil))))
            (pg_sub (pv 5) (pv 8) set_list))) pss_nil)))) pss_nil)
      (pss_cons (ps_if (pt_cmpR op_eq (pv 4) pe_int (nomark _))
        (pss_cons (ps_set (i := 9) nd rfl (.inr rfl) (pe_op op_add pe_int (pe_x Gd hr2 (by decide) pass0 (pa_cons (pv 0) (pa_cons (pe_op op_pow pe_int pe_int) pa_nil)))))
        (pss_one (ps_setLc (i := 5) (own := [("_law_coin", 7)]) (g := gName 7) (by rfl) nd rfl rfl (sw_true rfl rfl rfl (by decide +kernel)) (pi_list (pv 5))
          (blkOk_by (own := [("_law_coin", 7)]) (N := ["_law_hand_here", "_law_people", "_law_most", "_law_many", "_law_turn", "_law_coins", "_law_k", "_law_coin", "_law_place", "_law_times"]) (sc := defScope s_l_pool) (by decide +kernel))
          (fun _ _ _ _ _ => pg_name (i := 7) nd rfl (Or.inl rfl)) (fun _ _ _ _ _ => pts_nil) (fun _ _ _ _ _ => pe_op op_mul (pv 7) (pv 9))))) pss_nil)
      (pss_one (ps_ret (pv 5)))))))), ?_⟩
    refine ⟨_, rfl, _, rfl, _, _, rfl, rfl, h, _, rfl, hh, by omega, by omega, fun many H1 mv1 r0 r1 => ?_⟩
    refine ⟨_, rfl, h, 6, rfl, mv1.2.1, by decide, by decide, fun turn H2 mv2 t0 t1 => ?_⟩
    refine ⟨Nat.zero_le _, fun cl ncl => ?_⟩
    have mv12 := mv1.trans mv2
    have fcl : H cl = none := mv12.free ncl
    have hcl : cl ≠ h := hh.ne fcl
    have mv3 : Mv h H (upd H2 cl (.lst [])) := mv12.same (same_upd ncl)
    refine ⟨fun σ H' => ∃ ns y6 y7, σ = [some (.ref h), some (.int m), some (.int most), some (.int many), some (.int turn), some (.ref cl), y6, y7, none, none] ∧ Mv h H H' ∧ H' cl = some (.lst (ns.map V.int)) ∧ Grown many.toNat ns, ?_, ?_⟩
    · refine ⟨_, rfl, many, rfl, by omega, by omega, for_range (lo := 0) (n := many.toNat) (fun i σ H' => ∃ ns y6 y7, σ = [some (.ref h), some (.int m), some (.int most), some (.int many), some (.int turn), some (.ref cl), y6, y7, none, none] ∧ Mv h H H' ∧ H' cl = some (.lst (ns.map V.int)) ∧ Grown i ns) ?_ ?_ fun σ H' x => x⟩
      · exact ⟨[], none, none, rfl, mv3, upd_same, ⟨rfl, fun c hc => (nomatch hc), by decide⟩⟩
      · rintro i σ H3 hi ⟨ns, y6, y7, rfl, mv, hc, g⟩
        have hsum := sum_nonneg g.pos
        have hpow := pow2 (i := i) (by omega)
        have hb := room_bound hsum m1
        have hgs := g.sum
        refine ⟨_, rfl, cl, ns, rfl, sqL hc, _, rfl, _, m, rfl, m1, m2, ?_⟩
        refine ⟨fun σ' H' => ∃ c y6, σ' = [some (.ref h), some (.int m), some (.int most), some (.int many), some (.int turn), some (.ref cl), y6, some (.int c), none, none] ∧ Mv h H H' ∧ H' cl = some (.lst (ns.map V.int)) ∧ 1 ≤ c ∧ c ≤ ns.sum + 1, ?_, ?_⟩
        · have miss : ∀ H', Mv h H H' → H' cl = some (.lst (ns.map V.int)) → ∃ c y6, [some (V.ref h), some (V.int m), some (V.int most), some (V.int many), some (V.int turn), some (V.ref cl), some (V.int (0 + (i : Int))), some (V.int (room ns.sum m)), none, none] = [some (V.ref h), some (V.int m), some (V.int most), some (V.int many), some (V.int turn), some (V.ref cl), y6, some (V.int c), none, none] ∧ Mv h H H' ∧ H' cl = some (.lst (ns.map V.int)) ∧ 1 ≤ c ∧ c ≤ ns.sum + 1 := fun H' mv' hc' => ⟨_, _, rfl, mv', hc', hb.1, hb.2⟩
          refine ⟨_, rfl, rfl, _, rfl, ?_⟩
          rw [dec_int]
          by_cases e3 : turn = 3
          · rw [decide_eq_true e3]
            exact miss H3 mv hc
          · rw [decide_eq_false e3]
            refine ⟨_, rfl, h, 3, rfl, mv.2.1, by decide, by decide, fun d H4 mv4 d0 d1 => ?_⟩
            have mv' := mv.trans mv4
            have hc' := mv4.1 _ _ hcl hc
            refine ⟨_, _, rfl, rfl, _, rfl, ite2 (fun _ => ?_) fun _ => miss H4 mv' hc'⟩
            refine ⟨_, rfl, _, rfl, h, _, rfl, mv'.2.1, hb.1, by omega, fun d2 H5 mv5 e0 e1 => ?_⟩
            exact ⟨_, _, rfl, rfl, _, _, rfl, mv'.trans mv5, mv5.1 _ _ hcl hc', by omega, by omega⟩
        · rintro σ' H4 ⟨c, y6', rfl, mv4, hc4, c1, c2⟩
          have hlen : (ns.map V.int).length = i := by rw [List.length_map, g.len]
          refine ⟨_, rfl, .inl ⟨rfl, _, sqL hc4⟩, ?_⟩
          refine ⟨_, rfl, _, rfl, cl, _, rfl, .inl (sqL hc4), _, _, rfl, rfl, h, _, rfl, mv4.2.1, by rw [hlen]; omega, by rw [hlen]; omega, fun j H5 mv5 j0 j1 => ?_⟩
          have hc5 := mv5.1 _ _ hcl hc4
          refine ⟨_, rfl, cl, _, j, _, rfl, rfl, hc5, by rw [hlen]; exact small1000 (by omega), j0, by rw [hlen] at j1; omega, ?_⟩
          refine ⟨_, _, _, rfl, (mv4.trans mv5).put hh fcl, ?_, grown_more (j := j.toNat) g c1 c2⟩
          rw [upd_same, List.map_append, List.map_append, List.map_take, List.map_drop]
          rfl
    · rintro σ' H3 ⟨ns, y6, y7, rfl, mv, hc, g⟩
      have hsum := sum_nonneg g.pos
      have hlen : ns.length ≤ 12 := by rw [g.len]; omega
      have hs : ns.sum ≤ 4095 := by
        have a := pow2 (i := many.toNat) (by omega)
        have b := g.sum
        omega
      refine ⟨fun σ H' => ∃ (ns : List Int) (c : Addr) (y6 y7 y8 : Option V), σ = [some (.ref h), some (.int m), some (.int most), some (.int many), some (.int turn), some (.ref c), y6, y7, y8, none] ∧ Mv h H H' ∧ H c = none ∧ H' c = some (.lst (ns.map V.int)) ∧ ns.length ≤ 12 ∧ (∀ c ∈ ns, 1 ≤ c) ∧ ns.sum ≤ 8200, ?_, ?_⟩
      · refine ⟨_, rfl, Nat.zero_le _, fun u nu => ?_⟩
        have s1 := same_upd (o := .lst []) nu
        have hc1 := s1 _ _ hc
        have mvu := mv.same s1
        refine ⟨_, _, dp_lst hc1, dp_lst (ns := []) upd_same, shaped_is ns, shaped_is [], _, rfl, ?_⟩
        rw [eqv_int]
        by_cases e : ns = []
        · rw [decide_eq_true e]
          exact ⟨ns, cl, _, _, _, rfl, mvu, fcl, hc1, hlen, g.pos, by omega⟩
        · rw [decide_eq_false e]
          have hn : 1 ≤ ns.length := by
            cases ns with
            | nil => exact absurd rfl e
            | cons _ _ => simp
          refine ⟨_, rfl, _, rfl, cl, _, rfl, .inl (sqL hc1), h, _, rfl, mvu.2.1, by rw [List.length_map]; omega, by rw [List.length_map]; omega, fun j' H4 mv4 j0 j1 => ?_⟩
          rw [List.length_map] at j1
          obtain ⟨j, rfl⟩ : ∃ j : Nat, j' = (j : Int) := ⟨j'.toNat, by omega⟩
          have hj : j < ns.length := by omega
          have hc4 := mv4.1 _ _ hcl hc1
          have mv4' := mvu.trans mv4
          refine ⟨fun σ H' => ∃ (ms : List Int) (c : Addr), σ = [some (.ref h), some (.int m), some (.int most), some (.int many), some (.int turn), some (.ref c), y6, y7, some (.int (j : Nat)), none] ∧ Mv h H H' ∧ H c = none ∧ H' c = some (.lst (ms.map V.int)) ∧ ms.length ≤ 12 ∧ (∀ c ∈ ms, 1 ≤ c) ∧ ms.sum ≤ 4095 ∧ (turn ≠ 3 → j < ms.length), ?_, ?_⟩
          · refine ⟨_, rfl, rfl, _, rfl, ?_⟩
            rw [dec_int]
            by_cases e3 : turn = 3
            · rw [decide_eq_true e3]
              refine iteT ⟨_, rfl, _, rfl, (j : Int), rfl, cl, _, rfl, sqL hc4, fun a na => ?_⟩
              refine ⟨_, rfl, _, rfl, _, _, rfl, rfl, _, rfl, cl, _, rfl, sqL (by rw [upd_ne (ne_of_none hc4 na)]; exact hc4), fun b nb => ?_⟩
              have nab : a ≠ b := ne_of_none upd_same nb
              have s3 := (same_upd (o := .lst (cutV (ns.map V.int) none (some (j : Int)))) na).trans (same_upd (o := .lst (cutV (ns.map V.int) (some ((j : Int) + 1)) none)) nb)
              have mv5 := mv4'.same s3
              refine ⟨a, b, _, _, rfl, rfl, by rw [upd_ne nab]; exact upd_same, upd_same, ?_, fun p np => ?_⟩
              · rw [cut_to _ _ (by rw [List.length_map]; omega), show ((j : Int) + 1) = ((j + 1 : Nat) : Int) by omega, cut_from _ _ (by rw [List.length_map]; omega)]
                rw [List.length_take, List.length_drop, List.length_map]
                exact Nat.le_of_lt (small1000 (by omega))
              · have sub := without_sub ns j
                refine ⟨ns.take j ++ ns.drop (j + 1), p, rfl, mv5.same (same_upd np), mv5.free np, ?_, Nat.le_trans sub.length_le hlen, fun c hc => g.pos c (sub.mem hc), Int.le_trans (sum_sublist sub g.pos) hs, fun n => absurd e3 n⟩
                rw [upd_same, cut_to _ _ (by rw [List.length_map]; omega), show ((j : Int) + 1) = ((j + 1 : Nat) : Int) by omega, cut_from _ _ (by rw [List.length_map]; omega), List.map_append, List.map_take, List.map_drop]
            · rw [decide_eq_false e3]
              exact iteF ⟨ns, cl, rfl, mv4', fcl, hc4, hlen, g.pos, hs, fun _ => hj⟩
          · rintro σ' H5 ⟨ms, c5, rfl, mv5, fc5, hc5, hl5, hp5, hs5, hj5⟩
            have hms := sum_nonneg hp5
            have hne5 : c5 ≠ h := hh.ne fc5
            refine ⟨_, rfl, _, _, rfl, rfl, _, rfl, ite2 (fun e4 => ?_) fun _ => ⟨ms, c5, _, _, _, rfl, mv5, fc5, hc5, hl5, hp5, by omega⟩⟩
            have e4 : (4 : Int) ≤ turn := of_decide_eq_true e4
            have hjm := hj5 (by omega)
            have hb := room_bound hms m1
            refine ⟨_, rfl, c5, ms, rfl, sqL hc5, _, rfl, _, m, rfl, m1, m2, ?_⟩
            refine ⟨_, _, rfl, rfl, _, rfl, h, _, rfl, mv5.2.1, by decide, by decide, fun d H6 mv6 d0 d1 => ?_⟩
            have hc6 := mv6.1 _ _ hne5 hc5
            have hv : 1 ≤ room ms.sum m + 1 + d := by omega
            refine ⟨_, _, rfl, rfl, _, rfl, _, rfl, c5, _, (j : Int), j, rfl, rfl, hc6, ixN_nat (by rw [List.length_map]; exact hjm), ?_⟩
            refine ⟨ms.set j (room ms.sum m + 1 + d), c5, _, _, _, rfl, (mv5.trans mv6).put hh fc5, fc5, ?_, by rw [List.length_set]; exact hl5, set_pos hv hp5, ?_⟩
            · rw [upd_same, List.map_set]
            · have := set_sum hv (ns := ms) (j := j) hp5
              omega
      · rintro σ' H4 ⟨ns, c, y6', y7', y8', rfl, mv4, fc, hc4, hl4, hp4, hs4⟩
        refine ⟨_, rfl, rfl, _, rfl, ?_⟩
        rw [dec_int]
        by_cases e5 : turn = 5
        · rw [decide_eq_true e5]
          refine iteT ⟨_, rfl, _, _, rfl, rfl, ⟨by decide, by decide, by decide⟩, h, _, rfl, mv4.2.1, by decide, by decide, fun t H5 mv5 d0 d1 => ?_⟩
          have d1 : t < 100000 := d1
          have hc5 := mv5.1 _ _ (hh.ne fc) hc4
          have mv5' := mv4.trans mv5
          refine ⟨_, _, rfl, rfl, ?_⟩
          refine ⟨_, rfl, c, rfl, ⟨_, sqL hc5⟩, fun D nD => lc_list (K := K) (a := c) (xs := ns.map V.int) (fun i H2 => Same H5 H2 ∧ H2 D = some (.lst (((ns.take i).map fun c => c * (1 + t)).map V.int)))
            ⟨same_upd nD, upd_same⟩ (fun i H2 _ ⟨s2, _⟩ => sqL (s2 _ _ hc5)) ?_ ?_⟩
          · rintro i x H2 hi ⟨s2, hD⟩
            obtain ⟨z, hz, rfl⟩ := get_int hi
            have hi' : i < ns.length := (List.getElem?_eq_some_iff.mp hz).1
            refine ⟨rfl, ?_⟩
            refine ⟨_, rfl, _, rfl, _, _, rfl, rfl, .inr ⟨by omega, by omega⟩, _, hD, by rw [List.length_map, List.length_map, List.length_take]; exact small1000 (by omega), fun b o e => ?_, ?_⟩
            · rw [upd_ne (ne_of_none e nD)]
              exact s2 _ _ e
            · rw [upd_same, List.take_add_one, hz, Option.toList_some, List.map_append, List.map_append]
              rfl
          · rintro H2 ⟨s2, hD⟩
            rw [List.length_map, List.take_length] at hD
            refine ⟨_, rfl, q H2 D _ (mv5'.same s2) (mv5'.free nD) hD ⟨by rw [List.length_map]; exact hl4, fun x hx => ?_, ?_⟩⟩
            · obtain ⟨y, hy, rfl⟩ := List.mem_map.mp hx
              have := hp4 y hy
              have e : y * 1 ≤ y * (1 + t) := Int.mul_le_mul_of_nonneg_left (by omega) (by omega)
              omega
            · rw [sum_times]
              exact Int.le_trans (sum_mul_le (sum_nonneg hp4) hs4 (by omega) (show 1 + t ≤ 100000 by omega)) (by decide)
        · rw [decide_eq_false e5]
          exact iteF ⟨_, rfl, q H4 c ns mv4 fc hc4 ⟨hl4, hp4, by omega⟩⟩
end
end K21

set_option Elab.async false
set_option linter.all false
set_option maxRecDepth 100000
set_option maxHeartbeats 4000000
/-! _law_told. -/
namespace K21
open PySem PySem.Spec PyProof.Rows L2
/-- the three errors, and what the clauses say of them -/
structure Errs (K : PySem.W.Frag) (mg : Str → Option Value) (CB CP CC : Addr) : Prop where
  gB : mg "BadPool" = some (.ref CB)
  gC : mg "BadCoin" = some (.ref CC)
  gP : mg "BadPeople" = some (.ref CP)
  xf : XfC K CB
  fP : PySem.W.findIn K (.ref CB) "place" = some none
  fW : PySem.W.findIn K (.ref CB) "what" = some none
  bb : PySem.W.exmOne K (.ref CB) (.ref CB) = some true
  cb : PySem.W.exmOne K (.ref CC) (.ref CB) = some false
  cc : PySem.W.exmOne K (.ref CC) (.ref CC) = some true
  pb : PySem.W.exmOne K (.ref CP) (.ref CB) = some false
  pc : PySem.W.exmOne K (.ref CP) (.ref CC) = some false
  pp : PySem.W.exmOne K (.ref CP) (.ref CP) = some true
def TupTold (H : Hp) (xs : List V) (Q : VK) : Prop := ∀ H' t, Same H H' → H t = none → H' t = some (.tup xs) → Q (.ref t) H'
def isName (s : Str) : Prop := s = "rooms" ∨ s = "fitting" ∨ s = "next" ∨ s = "put"
/-- _law_told(name, pool, coin, people), refused -/
def spTold : Sp := fun vs H Q _ => ∃ name x c m, vs = [.str name, x, c, m] ∧ isName name ∧
  ((∃ p what, BadPoolArg H x p what ∧ TupTold H [.str "pool", .int p, .str what] Q) ∨
   (name = "put" ∧ ∃ ns n, GoodPool H x ns ∧ Ty7 H c n ∧ isW c 1 1000000000 = false ∧ TupTold H [.str "coin", .int 0] Q) ∨
   (∃ ns i n, GoodPool H x ns ∧ c = .int i ∧ 1 ≤ i ∧ i ≤ 1000000000 ∧ Ty7 H m n ∧ isW m 2 5 = false ∧ TupTold H [.str "people", .int 0] Q))
abbrev tsPool (CB : Addr) : Suite := fun a cls d => tRet (tTup (tCons (tC (.str "pool")) (tCons (tXf a cls d CB "place" (tVar 4)) (tCons (tXf a cls d CB "what" (tVar 4)) tNil))))
abbrev tsTxt (z : Str) : Suite := fun _ _ _ => tRet (tTup (tCons (tC (.str z)) (tCons (tC (.int 0)) tNil)))
abbrev clauses (CB CP CC : Addr) : List (Value × Option Nat × Suite) := [(.ref CB, some 4, tsPool CB), (.ref CC, none, tsTxt "coin"), (.ref CP, none, tsTxt "people")]
theorem tell_pool {K : PySem.W.Frag} {mg : Str → Option Value} {CB CP CC : Addr} (T : Errs K mg CB CP CC) {Wout : WX} {D : Ends} {a0 a1 a2 a3 a4 : Option V} {H : Hp} {p : Int} {what : Str} (h : TupTold H [.str "pool", .int p, .str what] D.rt) :
    TellBad CB H p what (WE (wMix K Wout D (clauses CB CP CC)) [a0, a1, a2, a3, a4]) := fun H' d sm nd hd =>
  ⟨true, T.bb, fun _ a na => ⟨_, rfl, rfl, rfl, d, _, .int p, rfl, hd, rfl, _, rfl, rfl, rfl, d, _, .str what, rfl, hd, rfl, by show 3 ≤ sizeLine; decide, fun t nt => h _ t (sm.trans (same_upd nt)) (sm.free nt) upd_same⟩, fun e => by cases e⟩
theorem tell_coin {K : PySem.W.Frag} {mg : Str → Option Value} {CB CP CC : Addr} (T : Errs K mg CB CP CC) {Wout : WX} {D : Ends} {σ : L2.St} {H : Hp} (h : TupTold H [.str "coin", .int 0] D.rt) :
    ∀ H', Same H H' → WE (wMix K Wout D (clauses CB CP CC)) σ (.ref CC) none H' := fun H' sm =>
  ⟨false, T.cb, (fun e => by cases e), fun _ => ⟨true, T.cc, fun _ a na => ⟨by show 2 ≤ sizeLine; decide, fun t nt => h _ t (sm.trans (same_upd nt)) (sm.free nt) upd_same⟩, fun e => by cases e⟩⟩
theorem tell_people {K : PySem.W.Frag} {mg : Str → Option Value} {CB CP CC : Addr} (T : Errs K mg CB CP CC) {Wout : WX} {D : Ends} {σ : L2.St} {H : Hp} (h : TupTold H [.str "people", .int 0] D.rt) :
    ∀ H', Same H H' → WE (wMix K Wout D (clauses CB CP CC)) σ (.ref CP) none H' := fun H' sm =>
  ⟨false, T.pb, (fun e => by cases e), fun _ => ⟨false, T.pc, (fun e => by cases e), fun _ => ⟨true, T.pp, fun _ a na => ⟨by show 2 ≤ sizeLine; decide, fun t nt => h _ t (sm.trans (same_upd nt)) (sm.free nt) upd_same⟩, fun e => by cases e⟩⟩⟩
section
variable {P : Program} {w : World} {K : PySem.W.Frag} {mg : Str → Option Value} {base : Heap}
theorem ok_l_told {f CB CP CC : Addr} {fd : FuncData} (F : Fun K "_law_told" "_law_told" s_l_told f fd) (T : Errs K mg CB CP CC) (G1 : Clx P w K mg base (L2.CX P w) 4 "room_row" (spRow CB CP)) (G2 : Clx P w K mg base (L2.CX P w) 4 "fitting_coins" (spFits CB CP))
    (G3 : Clx P w K mg base (L2.CX P w) 5 "next_coin" (spNext CB CP)) (G4 : Clx P w K mg base (L2.CX P w) 4 "may_put" (spPut CB CP CC)) : FnOk P w K mg base CX0 6 f fd ["_law_name", "_law_pool_here", "_law_coin", "_law_people"] spTold := by
  refine F.ok sc_l_told (fun vs H Q E h => ?_) (fun cdv A outer s H vs Q E hr h => ?_)
  · obtain ⟨name, x, c, m, rfl, _⟩ := h
    rfl
  · obtain ⟨name, x, c, m, rfl, hname, hc⟩ := h
    have nd := sc_l_told.nd
    have hr2 : Room 5 _ := hr
    refine ⟨_, pss_one (ps_try_mix rfl rfl nd takes_none5 (fun W pn xe tk po =>
      pss_cons (ps_if (pt_cmpR op_eq (pv 0) pe_str (nomark _)) (pss_one (ps_ret (pe_xS G1 hr2 (by decide) (passAt tk) (pa_cons (pv 1) (pa_cons (pv 3) pa_nil))))) pss_nil)
      (pss_cons (ps_if (pt_cmpR op_eq (pv 0) pe_str (nomark _)) (pss_one (ps_ret (pe_xS G2 hr2 (by decide) (passAt tk) (pa_cons (pv 1) (pa_cons (pv 3) pa_nil))))) pss_nil)
      (pss_cons (ps_if (pt_cmpR op_eq (pv 0) pe_str (nomark _)) (pss_one (ps_ret (pe_xS G3 hr2 (by decide) (passAt tk) (pa_cons (pv 1) (pa_cons (pv 3) pa_nil))))) pss_nil)
      (pss_one (ps_ret (pe_xS G4 hr2 (by decide) (passAt tk) (pa_cons (pv 1) (pa_cons (pv 2) (pa_cons (pv 3) pa_nil)))))))))
      (.named (i := 4) rfl rfl ⟨rfl, by decide, .inl T.gB⟩ (fun a oe cls d pn hz hf => pss_one (ps_ret (pe_tup (pa_cons pe_str (pa_cons (pe_xf T.xf T.fP hz hf (pv 4)) (pa_cons (pe_xf T.xf T.fW hz hf (pv 4)) pa_nil))))))
      (.plain ⟨rfl, by decide, .inl T.gC⟩ (fun a oe cls d pn hz hf => pss_one (ps_ret (pe_tup (pa_cons pe_str (pa_cons pe_int pa_nil)))))
      (.plain ⟨rfl, by decide, .inl T.gP⟩ (fun a oe cls d pn hz hf => pss_one (ps_ret (pe_tup (pa_cons pe_str (pa_cons pe_int pa_nil))))) .nil)))), ?_⟩
    have no1 : decide (V.str "fitting" = V.str "rooms") = false := by decide +kernel
    have no2 : decide (V.str "next" = V.str "rooms") = false := by decide +kernel
    have no3 : decide (V.str "next" = V.str "fitting") = false := by decide +kernel
    have no4 : decide (V.str "put" = V.str "rooms") = false := by decide +kernel
    have no5 : decide (V.str "put" = V.str "fitting") = false := by decide +kernel
    have no6 : decide (V.str "put" = V.str "next") = false := by decide +kernel
    rcases hname with rfl | rfl | rfl | rfl
    · refine ⟨_, rfl, rfl, _, rfl, ?_⟩
      rw [decide_eq_true rfl]
      refine iteT ⟨_, rfl, _, rfl, x, m, rfl, ?_⟩
      rcases hc with ⟨p, what, hb, h⟩ | ⟨e, _⟩ | ⟨ns, i, n, hg, _, _, _, t, hw, h⟩
      · exact .inr (.inl ⟨p, what, hb, tell_pool T h⟩)
      · exact absurd e (by decide +kernel)
      · exact .inr (.inr ⟨ns, n, hg, t, hw, tell_people T h⟩)
    · refine ⟨_, rfl, rfl, _, rfl, ?_⟩
      rw [no1]
      refine iteF ⟨_, rfl, rfl, _, rfl, ?_⟩
      rw [decide_eq_true rfl]
      refine iteT ⟨_, rfl, _, rfl, x, m, rfl, ?_⟩
      rcases hc with ⟨p, what, hb, h⟩ | ⟨e, _⟩ | ⟨ns, i, n, hg, _, _, _, t, hw, h⟩
      · exact .inr (.inl ⟨p, what, hb, tell_pool T h⟩)
      · exact absurd e (by decide +kernel)
      · exact .inr (.inr ⟨ns, n, hg, t, hw, tell_people T h⟩)
    · refine ⟨_, rfl, rfl, _, rfl, ?_⟩
      rw [no2]
      refine iteF ⟨_, rfl, rfl, _, rfl, ?_⟩
      rw [no3]
      refine iteF ⟨_, rfl, rfl, _, rfl, ?_⟩
      rw [decide_eq_true rfl]
      refine iteT ⟨_, rfl, _, rfl, x, m, rfl, ?_⟩
      rcases hc with ⟨p, what, hb, h⟩ | ⟨e, _⟩ | ⟨ns, i, n, hg, _, _, _, t, hw, h⟩
      · exact .inr (.inl ⟨p, what, hb, tell_pool T h⟩)
      · exact absurd e (by decide +kernel)
      · exact .inr (.inr ⟨ns, n, hg, t, hw, tell_people T h⟩)
    · refine ⟨_, rfl, rfl, _, rfl, ?_⟩
      rw [no4]
      refine iteF ⟨_, rfl, rfl, _, rfl, ?_⟩
      rw [no5]
      refine iteF ⟨_, rfl, rfl, _, rfl, ?_⟩
      rw [no6]
      refine iteF ⟨_, rfl, _, rfl, _, rfl, x, c, m, rfl, ?_⟩
      rcases hc with ⟨p, what, hb, h⟩ | ⟨_, ns, n, hg, t, hw, h⟩ | ⟨ns, i, n, hg, e, i1, i2, t, hw, h⟩
      · exact .inr (.inl ⟨p, what, hb, tell_pool T h⟩)
      · exact .inr (.inr (.inl ⟨ns, n, hg, t, hw, tell_coin T h⟩))
      · exact .inr (.inr (.inr ⟨ns, i, n, hg, e, i1, i2, t, hw, tell_people T h⟩))
end
end K21

set_option Elab.async false
set_option linter.all false
set_option maxRecDepth 100000
set_option maxHeartbeats 4000000
/-! _law_rooms_right. -/
namespace K21
open PySem PySem.Spec PyProof.Rows L2
theorem atI_at {α : Type} {xs : List α} {j : Nat} {x : α} (h : xs[j]? = some x) : atI xs (j : Int) = some x := atI_nat h
theorem rooms_at {s : List Int} {m : Int} {i : Nat} (h : i < s.length + 1) : ((rooms s m).map V.int)[i]? = some (.int (room ((s.take i).sum) m)) := by
  unfold rooms
  rw [List.getElem?_map, List.getElem?_map, List.getElem?_range h]
  rfl
theorem rooms_len (s : List Int) (m : Int) : (rooms s m).length = s.length + 1 := by
  unfold rooms
  rw [List.length_map, List.length_range]
/-- _law_rooms_right(pool, people) -/
def spRoomsRight : Sp := fun vs H Q _ => ∃ x ns m, vs = [x, .int m] ∧ GoodPool H x ns ∧ 2 ≤ m ∧ m ≤ 5 ∧ ∀ H', Same H H' → Q (.bl true) H'
section
variable {P : Program} {w : World} {K : PySem.W.Frag} {mg : Str → Option Value} {base : Heap}
theorem ok_l_rooms_right {f CB CP : Addr} {fd : FuncData} (F : Fun K "_law_rooms_right" "_law_rooms_right" s_l_rooms_right f fd) (B : Bl mg) (G : Clx P w K mg base (L2.CX P w) 4 "room_row" (spRow CB CP)) (Gi : Clx P w K mg base CX0 1 "_law_is_whole" spIsInt)
    (Gn : Clx P w K mg base CX0 1 "_law_next" spRoom) : FnOk P w K mg base CX0 5 f fd ["_law_pool_here", "_law_people"] spRoomsRight := by
  refine F.ok sc_l_rooms_right (fun vs H Q E h => ?_) (fun cdv A outer s H vs Q E hr h => ?_)
  · obtain ⟨x, ns, m, rfl, _⟩ := h
    rfl
  · obtain ⟨x, ns, m, rfl, hg, m1, m2, q⟩ := h
    have nd := sc_l_rooms_right.nd
    have hr2 : Room 4 _ := hr
    refine ⟨_, pss_cons (ps_set (i := 2) nd rfl (.inl rfl) (pe_x G hr2 (by decide) passL (pa_cons (pv 0) (pa_cons (pv 1) pa_nil))))
      (pss_cons (ps_set (i := 3) nd rfl (.inl rfl) (pe_callB cr_srt (by rfl) B.sorted b_sorted (pa_cons (pe_callTy call_list_of (by rfl) B.list b_list (pa_cons (pv 0) pa_nil)) pa_nil)))
      (pss_cons (ps_if (PW.pt (pw_or (pt_not (pt_val (pe_callB call_isi (by rfl) B.isi b_isi (pa_cons (pv 2) (pa_cons (pe_bltn (v := .ty "tuple") (by rfl) B.tuple b_tuple rfl) pa_nil)))))
          (pw_or1 (pt_cmpR op_ne (pe_callB call_len_seq (by rfl) B.len b_len (pa_cons (pv 2) pa_nil)) (pe_op op_add (pe_callB call_len_seq (by rfl) B.len b_len (pa_cons (pv 3) pa_nil)) pe_int) (nomark _))))) (pss_one (ps_ret pe_bl)) pss_nil)
      (pss_cons (ps_for PassesOwn.never rfl (pi_range1 (by rfl) B.range (pa_cons (pe_callB call_len_seq (by rfl) B.len b_len (pa_cons (pv 2) pa_nil)) pa_nil)) (pg_name (i := 4) nd rfl (.inl rfl))
        (pss_one (ps_if (PW.pt (pw_or (pt_not (pt_val (pe_x Gi hr2 (by decide) pass0 (pa_cons (pe_ix ix_tup (pv 2) (pv 4) (fun _ _ => rfl)) pa_nil))))
          (pw_or1 (pt_cmpR op_ne (pe_ix ix_tup (pv 2) (pv 4) (fun _ _ => rfl)) (pe_x Gn hr2 (by decide) pass0 (pa_cons (pe_callB (cr_sum rfl) (by rfl) B.sum b_sum (pa_cons (pe_slice sl_list (pv 3) po_none (po_some (pv 4))) pa_nil)) (pa_cons (pv 1) pa_nil))) (nomark _))))) (pss_one (ps_ret pe_bl)) pss_nil)))
      (pss_one (ps_ret pe_bl))))), ?_⟩
    refine ⟨_, rfl, _, rfl, x, _, rfl, .inl ⟨ns, m, rfl, hg, m1, m2, fun H1 t s1 nt ht => ?_⟩⟩
    obtain ⟨a, rfl, hq, hl, hpos⟩ := id hg
    have hq1 := hq.same s1
    refine ⟨_, rfl, a, _, rfl, hq1.sq, fun u nu => ⟨u, ns, rfl, .inl (sqL upd_same), fun v nv => ?_⟩⟩
    have s2 := s1.trans ((same_upd (o := .lst (ns.map V.int)) nu).trans (same_upd (o := .lst ((srt ns).map V.int)) nv))
    have ntu : t ≠ u := ne_of_none ht nu
    have ntv : t ≠ v := ne_of_none (by rw [upd_ne ntu]; exact ht) nv
    have ht2 : (upd (upd H1 u (.lst (ns.map V.int))) v (.lst ((srt ns).map V.int))) t = some (.tup ((rooms (srt ns) m).map V.int)) := by rw [upd_ne ntv, upd_ne ntu]; exact ht
    have lt : ((rooms (srt ns) m).map V.int).length = (srt ns).length + 1 := by rw [List.length_map, rooms_len]
    have ls : (srt ns).length = ns.length := srt_length ns
    refine ⟨_, rfl, _, .ty "tuple", _, _, _, rfl, .ty _, (Ty7.tup ht2).tyX, kit_ty (Ty7.tup ht2).isTuple, _, rfl, ?_⟩
    refine iteF ⟨_, rfl, t, _, rfl, .inr (sqT ht2), _, rfl, v, _, rfl, .inl (sqL upd_same), _, _, rfl, rfl, rfl, _, rfl, ?_⟩
    rw [dec_int, decide_eq_true (by rw [lt, List.length_map]; omega)]
    refine iteF ⟨_, rfl, t, _, rfl, .inr (sqT ht2), _, rfl, by rw [lt]; omega, by rw [lt]; omega, for_range (lo := 0) (fun i σ H' => ∃ y4, σ = [some (.ref a), some (.int m), some (.ref t), some (.ref v), y4] ∧ Same H H' ∧ H' t = some (.tup ((rooms (srt ns) m).map V.int)) ∧ H' v = some (.lst ((srt ns).map V.int)))
      ⟨none, rfl, s2, ht2, upd_same⟩ ?_ ?_⟩
    · rintro i σ H' hi ⟨y4, rfl, sm, ht', hv'⟩
      rw [lt] at hi
      have hi : i < (srt ns).length + 1 := by omega
      rw [Int.zero_add]
      refine ⟨_, rfl, _, rfl, t, _, (i : Int), _, rfl, rfl, sqT ht', atI_nat (rooms_at hi), _, rfl, _, rfl, ?_⟩
      refine iteF ⟨_, rfl, _, rfl, t, _, (i : Int), _, rfl, rfl, sqT ht', atI_nat (rooms_at hi), _, rfl, _, rfl, (i : Int), rfl, v, _, rfl, sqL hv', fun a' na => ?_⟩
      have ec : cutV ((srt ns).map V.int) none (some (i : Int)) = ((srt ns).take i).map V.int := by rw [cut_to _ _ (by rw [List.length_map]; omega), List.map_take]
      refine ⟨a', (srt ns).take i, rfl, sqL (by rw [upd_same, ec]), _, rfl, _, m, rfl, m1, m2, rfl, _, rfl, ?_⟩
      rw [decide_eq_true rfl]
      refine iteF ⟨_, rfl, sm.trans (same_upd na), ?_, ?_⟩
      · rw [upd_ne (ne_of_none ht' na)]; exact ht'
      · rw [upd_ne (ne_of_none hv' na)]; exact hv'
    · rintro σ H' ⟨y4, rfl, sm, _⟩
      exact q H' sm
end
end K21

set_option Elab.async false
set_option linter.all false
set_option maxRecDepth 100000
set_option maxHeartbeats 4000000
/-! _law_tried. -/
namespace K21
open PySem PySem.Spec PyProof.Rows L2
/-- _law_tried(hand, pool, people): whole numbers from 1 up -/
def spTried : Sp := fun vs H Q _ => ∃ h l ns m, vs = [.ref h, .ref l, .int m] ∧ Hand H h ∧ H l = some (.lst (ns.map V.int)) ∧ PoolOk ns ∧ 2 ≤ m ∧ m ≤ 5 ∧
  ∀ (H' : Hp) (p : Addr) (ms : List Int), Mv h H H' → H p = none → H' p = some (.lst (ms.map V.int)) → (∀ c ∈ ms, 1 ≤ c) → Q (.ref p) H'
/-- the sorted coins at v, what is tried at tr, n of them at most -/
structure TrOk (h : Addr) (H H' : Hp) (v tr : Addr) (cs : List Int) (n : Nat) : Prop where
  mv : Mv h H H'
  hv : H' v = some (.lst (cs.map V.int))
  fv : H v = none
  ft : H tr = none
  ne : tr ≠ v
  ht : ∃ ts : List Int, H' tr = some (.lst (ts.map V.int)) ∧ ts.length ≤ n
theorem TrOk.same {h : Addr} {H H' H'' : Hp} {v tr : Addr} {cs : List Int} {n : Nat} (x : TrOk h H H' v tr cs n) (s : Same H' H'') : TrOk h H H'' v tr cs n := by
  obtain ⟨ts, e, l⟩ := x.ht
  exact ⟨x.mv.same s, s _ _ x.hv, x.fv, x.ft, x.ne, ts, s _ _ e, l⟩
theorem TrOk.more {h : Addr} {H H' H'' : Hp} {v tr : Addr} {cs : List Int} {n : Nat} (x : TrOk h H H' v tr cs n) (y : Hand H h) (s : Mv h H' H'') : TrOk h H H'' v tr cs n := by
  obtain ⟨ts, e, l⟩ := x.ht
  exact ⟨x.mv.trans s, s.1 _ _ (y.ne x.fv) x.hv, x.fv, x.ft, x.ne, ts, s.1 _ _ (y.ne x.ft) e, l⟩
theorem TrOk.le {h : Addr} {H H' : Hp} {v tr : Addr} {cs : List Int} {n k : Nat} (x : TrOk h H H' v tr cs n) (hk : n ≤ k) : TrOk h H H' v tr cs k := by
  obtain ⟨ts, e, l⟩ := x.ht
  exact ⟨x.mv, x.hv, x.fv, x.ft, x.ne, ts, e, Nat.le_trans l hk⟩
/-- tried + [..] at a new place -/
theorem TrOk.next {h : Addr} {H H' H'' : Hp} {v tr p : Addr} {cs ts : List Int} {n k : Nat} (x : TrOk h H H' v tr cs n) (s : Same H' H'') (np : H'' p = none) (hk : ts.length ≤ k) : TrOk h H (upd H'' p (.lst (ts.map V.int))) v p cs k := by
  have y := x.same s
  exact ⟨y.mv.same (same_upd np), (same_upd np) _ _ y.hv, x.fv, y.mv.free np, (ne_of_none y.hv np).symm, ts, upd_same, hk⟩
/-- tried.append(..) -/
theorem TrOk.put {h : Addr} {H H' : Hp} {v tr : Addr} {cs ts : List Int} {n k : Nat} (x : TrOk h H H' v tr cs n) (y : Hand H h) (hk : ts.length ≤ k) : TrOk h H (upd H' tr (.lst (ts.map V.int))) v tr cs k :=
  ⟨x.mv.put y x.ft, by rw [upd_ne (Ne.symm x.ne)]; exact x.hv, x.fv, x.ft, x.ne, ts, upd_same, hk⟩
abbrev st8 (h l : Addr) (m : Int) (v tr : Addr) (y5 y6 y7 y8 : Option V) : L2.St := [some (.ref h), some (.ref l), some (.int m), some (.ref v), some (.ref tr), y5, y6, y7, y8]
theorem rgV_int (a b : Int) : rgV a b = ((List.range (b - a).toNat).map fun i => a + (i : Nat)).map V.int := by
  unfold rgV
  rw [List.map_map]
  rfl
section
variable {P : Program} {w : World} {K : PySem.W.Frag} {mg : Str → Option Value} {base : Heap}
theorem ok_l_tried {f : Addr} {fd : FuncData} (F : Fun K "_law_tried" "_law_tried" s_l_tried f fd) (B : Bl mg) (Gd : Clx P w K mg base CX0 2 "_law_draw" spDraw) (Gn : Clx P w K mg base CX0 1 "_law_next" spRoom) : FnOk P w K mg base CX0 3 f fd ["_law_hand_here", "_law_pool_here", "_law_people"] spTried := by
  refine F.ok sc_l_tried (fun vs H Q E h => ?_) (fun cdv A outer s H vs Q E hr h => ?_)
  · obtain ⟨h, l, ns, m, rfl, _⟩ := h
    rfl
  · obtain ⟨h, l, ns, m, rfl, hh, hl, hp, m1, m2, q⟩ := h
    have nd := sc_l_tried.nd
    have hr2 : Room 2 _ := hr
    refine ⟨_, pss_cons (ps_set (i := 3) nd rfl (.inl rfl) (pe_callB cr_srt (by rfl) B.sorted b_sorted (pa_cons (pe_callTy call_list_of (by rfl) B.list b_list (pa_cons (pv 1) pa_nil)) pa_nil)))
      (pss_cons (ps_set (i := 4) nd rfl (.inl rfl) (pe_lst (pa_cons pe_int (pa_cons pe_int (pa_cons pe_int (pa_cons (pe_op op_pow pe_int pe_int) pa_nil))))))
      (C8.pss_cut (ps_for PassesOwn.never rfl (pi_range1 (by rfl) B.range (pa_cons (pe_op op_add (pe_callB call_len_seq (by rfl) B.len b_len (pa_cons (pv 3) pa_nil)) pe_int) pa_nil)) (pg_name (i := 5) nd rfl (.inl rfl))
        (pss_cons (ps_set (i := 6) nd rfl (.inl rfl) (pe_callB (cr_sum rfl) (by rfl) B.sum b_sum (pa_cons (pe_slice sl_list (pv 3) po_none (po_some (pv 5))) pa_nil)))
        (pss_cons (ps_set (i := 7) nd rfl (.inl rfl) (pe_lst (pa_cons (pe_x Gn hr2 (by decide) pass0 (pa_cons (pv 6) (pa_cons (pv 2) pa_nil))) (pa_cons (pv 6) pa_nil))))
        (C8.pss_cut (ps_if (pt_cmpR op_lt (pv 5) (pe_callB call_len_seq (by rfl) B.len b_len (pa_cons (pv 3) pa_nil)) (nomark _))
          (pss_one (ps_set (i := 7) nd rfl (.inl rfl) (pe_op op_cat (pv 7) (pe_lst (pa_cons (pe_ix ix_list (pv 3) (pv 5) (fun _ _ => rfl)) (pa_cons (pe_op op_sub (pe_op op_mul (pe_op op_sub (pv 2) pe_int) (pe_op op_sub (pe_ix ix_list (pv 3) (pv 5) (fun _ _ => rfl)) pe_int)) (pv 6)) pa_nil)))))) pss_nil)
        (pss_one (ps_for PassesOwn.never rfl (pi_list (pv 7)) (pg_name (i := 8) nd rfl (.inl rfl))
          (pss_one (ps_set (i := 4) nd rfl (.inl rfl) (pe_op op_cat (pv 4) (pe_lst (pa_cons (pe_op op_sub (pv 8) pe_int) (pa_cons (pv 8) (pa_cons (pe_op op_add (pv 8) pe_int) pa_nil)))))))))))))
      (pss_cons (ps_expr (pe_bm PySem.F.plainAttrs_list PySem.F.slot_list_append PySem.F.type_list_append mt_append (pv 4) (pa_cons (pe_op op_add pe_int (pe_x Gd hr2 (by decide) pass0 (pa_cons (pv 0) (pa_cons (pe_op op_pow pe_int pe_int) pa_nil)))) pa_nil)))
      (pss_cons (ps_expr (pe_bm PySem.F.plainAttrs_list PySem.F.slot_list_append PySem.F.type_list_append mt_append (pv 4) (pa_cons (pe_op op_add pe_int (pe_x Gd hr2 (by decide) pass0 (pa_cons (pv 0) (pa_cons (pe_op op_add (pe_callB (cr_sum rfl) (by rfl) B.sum b_sum (pa_cons (pv 3) pa_nil)) pe_int) pa_nil)))) pa_nil)))
      (C8.pss_cut (ps_if (pt_cmpR op_lt (pe_callB (cr_sum rfl) (by rfl) B.sum b_sum (pa_cons (pv 3) pa_nil)) pe_int (nomark _))
        (pss_one (ps_set (i := 4) nd rfl (.inl rfl) (pe_op op_cat (pv 4) (pe_listRg rfl (by rfl) B.list (prg_2 (by rfl) B.range pe_int (pe_op op_add (pe_x Gn hr2 (by decide) pass0 (pa_cons (pe_callB (cr_sum rfl) (by rfl) B.sum b_sum (pa_cons (pv 3) pa_nil)) (pa_cons (pv 2) pa_nil))) pe_int)))))) pss_nil)
      (pss_one (ps_ret (pe_callB (cr_srtSet rfl) (by rfl) B.sorted b_sorted (pa_cons (pe_callTy (cr_setL rfl) (by rfl) B.set b_set (pa_cons
        (pe_lc (own := [("_law_coin", 8)]) (g := gName 8) (by rfl) nd (pi_list (pv 4)) (blkOk_by (own := [("_law_coin", 8)]) (N := ["_law_hand_here", "_law_pool_here", "_law_people", "_law_coins", "_law_tried_here", "_law_k", "_law_reached", "_law_near", "_law_coin"]) (sc := defScope s_l_tried) (by decide +kernel))
          (fun _ _ _ _ _ => pg_name (i := 8) nd rfl (Or.inl rfl)) (fun _ _ _ _ _ => pts_one (pt_cmpR op_le pe_int (pv 8) (nomark _))) (fun _ _ _ _ _ => pv 8)) pa_nil)) pa_nil))))))))), ?_⟩
    have lsr : (srt ns).length = ns.length := srt_length ns
    have ssr : (srt ns).sum = ns.sum := perm_sum (srt_perm ns)
    have hn0 := sum_nonneg hp.2.1
    have hn1 := hp.2.2
    have hlen := hp.1
    refine ⟨_, rfl, l, _, rfl, .inl (sqL hl), fun u nu => ⟨u, ns, rfl, .inl (sqL upd_same), fun v nv => ?_⟩⟩
    refine ⟨_, _, rfl, rfl, ⟨by decide, by decide, by decide⟩, by show 4 ≤ sizeLine; decide, fun tr ntr => ?_⟩
    have sU := same_upd (o := .lst (ns.map V.int)) nu
    have sV := sU.trans (same_upd (o := .lst ((srt ns).map V.int)) nv)
    have x0 : TrOk h H (upd (upd (upd H u (.lst (ns.map V.int))) v (.lst ((srt ns).map V.int))) tr (.lst (List.map V.int [1, 2, 3, (10 : Int) ^ (9 : Int).toNat]))) v tr (srt ns) 4 :=
      ⟨(Mv.of hh sV).same (same_upd ntr), by rw [upd_ne (ne_of_none upd_same ntr)]; exact upd_same, sU.free nv, sV.free ntr, (ne_of_none upd_same ntr).symm, _, upd_same, Nat.le_refl _⟩
    refine ⟨fun σ H' => ∃ tr y5 y6 y7 y8, σ = st8 h l m v tr y5 y6 y7 y8 ∧ TrOk h H H' v tr (srt ns) 160, ?_, ?_⟩
    · refine ⟨_, rfl, v, _, rfl, .inl (sqL x0.hv), _, _, rfl, rfl, _, rfl, by rw [List.length_map]; omega, by rw [List.length_map]; omega, for_range (lo := 0) (fun i σ H' => ∃ tr y5 y6 y7 y8, σ = st8 h l m v tr y5 y6 y7 y8 ∧ TrOk h H H' v tr (srt ns) (4 + 12 * i)) ⟨tr, _, _, _, _, rfl, x0⟩ ?_ ?_⟩
      · clear ntr x0 tr
        rintro i σ H3 hi ⟨tr, y5, y6, y7, y8, rfl, x⟩
        rw [List.length_map] at hi
        have hi : i ≤ (srt ns).length := by omega
        rw [Int.zero_add]
        refine ⟨_, rfl, _, rfl, (i : Int), rfl, v, _, rfl, sqL x.hv, fun a na => ?_⟩
        have ec : cutV ((srt ns).map V.int) none (some (i : Int)) = ((srt ns).take i).map V.int := by rw [cut_to _ _ (by rw [List.length_map]; omega), List.map_take]
        refine ⟨a, (srt ns).take i, rfl, sqL (by rw [upd_same, ec]), ?_⟩
        generalize ((srt ns).take i).sum = r
        refine ⟨_, rfl, _, rfl, _, m, rfl, m1, m2, _, rfl, by show 2 ≤ sizeLine; decide, fun nr nnr => ?_⟩
        have x5 := (x.same (same_upd na)).same (same_upd (o := .lst [.int (room r m), .int r]) nnr)
        refine ⟨fun σ H' => ∃ (na : Addr) (nears : List Int) (y8 : Option V), σ = st8 h l m v tr (some (.int (i : Nat))) (some (.int r)) (some (.ref na)) y8 ∧ TrOk h H H' v tr (srt ns) (4 + 12 * i) ∧ H' na = some (.lst (nears.map V.int)) ∧ nears.length ≤ 4, ?_, ?_⟩
        · refine ⟨_, rfl, _, rfl, v, _, rfl, .inl (sqL x5.hv), _, _, rfl, rfl, _, rfl, ite2 (fun e => ?_) (fun _ => ⟨nr, [room r m, r], _, rfl, x5, upd_same, by show 2 ≤ 4; decide⟩)⟩
          have e := of_decide_eq_true e
          rw [List.length_map] at e
          have hi' : i < (srt ns).length := by omega
          have ec : ((srt ns).map V.int)[i]? = some (.int (srt ns)[i]) := by simp [hi']
          generalize (srt ns)[i] = c at ec
          refine ⟨_, rfl, _, rfl, _, rfl, v, _, (i : Int), .int c, rfl, rfl, sqL x5.hv, atI_nat ec, ?_⟩
          refine ⟨_, rfl, _, _, rfl, rfl, _, rfl, _, rfl, v, _, (i : Int), .int c, rfl, rfl, sqL x5.hv, atI_nat ec, _, _, rfl, rfl, _, _, rfl, rfl, .inl ⟨by show -(2 ^ 64) < m - 1; omega, by show m - 1 < 2 ^ 64; omega⟩, _, rfl, _, _, rfl, rfl, by show 2 ≤ sizeLine; decide, fun b nb => ?_⟩
          refine ⟨nr, b, _, _, rfl, rfl, by rw [upd_ne (ne_of_none upd_same nb)]; exact upd_same, upd_same, by show 4 ≤ sizeLine; decide, fun p np => ?_⟩
          exact ⟨p, [room r m, r, c, (m - 1) * (c - 1) - r], _, rfl, (x5.same (same_upd nb)).same (same_upd np), upd_same, by show 4 ≤ 4; decide⟩
        · rintro σ' H6 ⟨na', nears, y8', rfl, x6, hna, hl6⟩
          refine ⟨_, rfl, na', rfl, ⟨_, sqL hna⟩, for_list (xs := nears.map V.int) (fun j σ H' => ∃ tr y8, σ = st8 h l m v tr (some (.int (i : Nat))) (some (.int r)) (some (.ref na')) y8 ∧ TrOk h H H' v tr (srt ns) (4 + 12 * i + 3 * j) ∧ H' na' = some (.lst (nears.map V.int)))
            ⟨tr, y8', rfl, x6, hna⟩ (fun j σ H' _ ⟨_, _, _, _, e⟩ => sqL e) ?_ ?_⟩
          · clear x5 x6 x tr hna nnr
            rintro j y σ H7 hj ⟨tr, y8, rfl, x7, hna7⟩
            obtain ⟨c, hc, rfl⟩ := get_int hj
            have hj' : j < nears.length := (List.getElem?_eq_some_iff.mp hc).1
            obtain ⟨ts, ht, lt⟩ := x7.ht
            refine ⟨_, rfl, _, rfl, _, _, rfl, rfl, _, rfl, _, rfl, _, _, rfl, rfl, by show 3 ≤ sizeLine; decide, fun b nb => ?_⟩
            have ht' := (same_upd (o := .lst [.int (c - 1), .int c, .int (c + 1)]) nb) _ _ ht
            refine ⟨tr, b, _, _, rfl, rfl, ht', upd_same, by rw [List.length_map]; exact Nat.le_of_lt (small1000 (by show ts.length + 3 ≤ 1000; omega)), fun p np => ?_⟩
            have em : ts.map V.int ++ [.int (c - 1), .int c, .int (c + 1)] = (ts ++ [c - 1, c, c + 1]).map V.int := by rw [List.map_append]; rfl
            rw [em]
            exact ⟨p, _, rfl, x7.next (same_upd nb) np (by rw [List.length_append]; show ts.length + 3 ≤ _; omega), (same_upd np) _ _ ((same_upd nb) _ _ hna7)⟩
          · rintro σ H' ⟨tr, y8, rfl, x7, _⟩
            exact ⟨tr, _, _, _, _, rfl, x7.le (by rw [List.length_map]; omega)⟩
      · rintro σ H' ⟨tr, y5, y6, y7, y8, rfl, x7⟩
        exact ⟨tr, _, _, _, _, rfl, x7.le (by rw [List.length_map]; omega)⟩
    · clear x0 ntr tr
      rintro σ' H3 ⟨tr, y5, y6, y7, y8, rfl, x⟩
      obtain ⟨ts, ht, lt⟩ := x.ht
      refine ⟨_, rfl, .inl ⟨rfl, _, sqL ht⟩, _, rfl, _, _, rfl, rfl, ⟨by decide, by decide, by decide⟩, h, _, rfl, x.mv.2.1, by decide, by decide, fun r1 H4 mv4 _ _ => ?_⟩
      have x4 := x.more hh mv4
      have ht4 := mv4.1 _ _ (hh.ne x.ft) ht
      refine ⟨_, _, rfl, rfl, tr, _, _, rfl, rfl, ht4, by rw [List.length_map]; exact small1000 (by omega), ?_⟩
      have em : ts.map V.int ++ [.int (1 + r1)] = (ts ++ [1 + r1]).map V.int := by rw [List.map_append]; rfl
      rw [em]
      have x5 := x4.put (ts := ts ++ [1 + r1]) (k := 161) hh (by rw [List.length_append]; show ts.length + 1 ≤ _; omega)
      have l5 : (ts ++ [1 + r1]).length ≤ 161 := by rw [List.length_append]; show ts.length + 1 ≤ _; omega
      generalize ts ++ [1 + r1] = ts5 at x5 l5
      refine ⟨_, rfl, .inl ⟨rfl, _, sqL upd_same⟩, _, rfl, _, rfl, v, srt ns, rfl, sqL x5.hv, _, _, rfl, rfl, h, _, rfl, x5.mv.2.1, by rw [ssr]; omega, by rw [ssr]; omega, fun r2 H6 mv6 _ _ => ?_⟩
      have x6 := x5.more hh mv6
      have ht6 := mv6.1 _ _ (hh.ne x.ft) upd_same
      refine ⟨_, _, rfl, rfl, tr, _, _, rfl, rfl, ht6, by rw [List.length_map]; exact small1000 (by omega), ?_⟩
      have em : ts5.map V.int ++ [.int (1 + r2)] = (ts5 ++ [1 + r2]).map V.int := by rw [List.map_append]; rfl
      rw [em]
      have l7 : (ts5 ++ [1 + r2]).length ≤ 162 := by rw [List.length_append]; show ts5.length + 1 ≤ _; omega
      have x7 := x6.put (ts := ts5 ++ [1 + r2]) (k := 162) hh l7
      generalize ts5 ++ [1 + r2] = ts7 at x7 l7
      refine ⟨fun σ H' => ∃ tr y5 y6 y7 y8, σ = st8 h l m v tr y5 y6 y7 y8 ∧ TrOk h H H' v tr (srt ns) 300, ?_, ?_⟩
      · refine ⟨_, rfl, v, srt ns, rfl, sqL x7.hv, _, _, rfl, rfl, _, rfl, ite2 (fun e => ?_) (fun _ => ⟨tr, _, _, _, _, rfl, x7.le (by decide)⟩)⟩
        have e : (srt ns).sum < 40 := of_decide_eq_true e
        have hb := room_bound (s := (srt ns).sum) (m := m) (by rw [ssr]; exact hn0) m1
        refine ⟨_, rfl, _, rfl, v, srt ns, rfl, sqL x7.hv, _, rfl, _, m, rfl, m1, m2, _, _, rfl, rfl, 1, _, rfl, rfl, .of_le (by decide) (by omega) (by decide) (by omega), fun b nb => ?_⟩
        refine ⟨tr, b, _, _, rfl, rfl, (same_upd nb) _ _ upd_same, upd_same, by rw [rgV_length, List.length_map]; exact Nat.le_of_lt (small1000 (by omega)), fun p np => ?_⟩
        have em2 : ts7.map V.int ++ rgV 1 (room (srt ns).sum m + 4) = (ts7 ++ ((List.range (room (srt ns).sum m + 4 - 1).toNat).map fun i : Nat => (1 : Int) + (i : Int))).map V.int := by rw [rgV_int, ← List.map_append]
        rw [em2]
        exact ⟨p, _, _, _, _, rfl, x7.next (same_upd nb) np (by rw [List.length_append, List.length_map, List.length_range]; omega)⟩
      · clear x7 x6 x5 x4 x
        rintro σ' H8 ⟨tr, y5, y6, y7, y8, rfl, x⟩
        obtain ⟨ts, ht, lt⟩ := x.ht
        refine ⟨_, rfl, tr, rfl, ⟨_, sqL ht⟩, fun D nD => lc_list (K := K) (a := tr) (xs := ts.map V.int) (fun i H2 => Same H8 H2 ∧ ∃ cs : List Int, H2 D = some (.lst (cs.map V.int)) ∧ cs.length ≤ i ∧ ∀ c ∈ cs, 1 ≤ c)
          ⟨same_upd nD, [], upd_same, Nat.le_refl _, fun c hc => (nomatch hc)⟩ (fun i H2 _ ⟨s2, _⟩ => sqL (s2 _ _ ht)) ?_ ?_⟩
        · rintro i y H2 hi ⟨s2, cs, hD, hl', hp'⟩
          obtain ⟨c, hc, rfl⟩ := get_int hi
          have hi' : i < ts.length := (List.getElem?_eq_some_iff.mp hc).1
          refine ⟨rfl, ?_⟩
          refine ⟨_, rfl, _, _, rfl, rfl, _, rfl, ite2 (fun e => ?_) (fun _ => ⟨s2, cs, hD, by omega, hp'⟩)⟩
          have e : 1 ≤ c := of_decide_eq_true e
          refine ⟨_, rfl, _, hD, by rw [List.length_map]; exact small1000 (by omega), fun b o e => ?_, cs ++ [c], ?_, by rw [List.length_append]; show cs.length + 1 ≤ _; omega, fun z hz => ?_⟩
          · rw [upd_ne (ne_of_none e nD)]
            exact s2 _ _ e
          · rw [upd_same, List.map_append]
            rfl
          · rcases List.mem_append.mp hz with hz | hz
            · exact hp' z hz
            · rw [List.mem_singleton.mp hz]; exact e
        · rintro H2 ⟨s2, cs, hD, hl', hp'⟩
          rw [List.length_map] at hl'
          refine ⟨D, cs, rfl, sqL hD, by omega, fun S c nS => ⟨S, _, _, rfl, upd_same, fun ms p hms np => ?_⟩⟩
          have s3 := s2.trans ((same_upd nS).trans (same_upd (o := .lst (ms.map V.int)) np))
          exact q _ p ms (x.mv.same s3) (x.mv.free (s2.free ((same_upd nS).free np))) upd_same fun z hz => hp' z (of_decide_eq_true (hms z hz))
end
end K21

set_option Elab.async false
set_option linter.all false
set_option maxRecDepth 100000
set_option maxHeartbeats 4000000
/-! _law_stretch_right. -/
namespace K21
open PySem PySem.Spec PyProof.Rows L2
theorem ifF {c : Bool} {A B : Prop} (h : c = false) (hb : B) : if c = true then A else B := by
  rw [h]
  exact iteF hb
theorem ifT {c : Bool} {A B : Prop} (h : c = true) (ha : A) : if c = true then A else B := by
  rw [h]
  exact iteT ha
theorem ne_int {i j : Int} (h : i = j) : (!decide (V.int i = V.int j)) = false := by rw [dec_int, decide_eq_true h]; rfl
theorem ne_same (x : V) : (!decide (x = x)) = false := by rw [decide_eq_true rfl]; rfl
theorem le_sum {c : Int} : ∀ {ns : List Int}, (∀ c ∈ ns, 1 ≤ c) → c ∈ ns → c ≤ ns.sum
  | [], _, h => by cases h
  | n :: ns, h, hc => by
    have a := h n List.mem_cons_self
    have b := sum_nonneg (ns := ns) fun c hc => h c (List.mem_cons_of_mem _ hc)
    rw [List.sum_cons]
    rcases List.mem_cons.mp hc with rfl | hc
    · omega
    · have := le_sum (fun c hc => h c (List.mem_cons_of_mem _ hc)) hc
      omega
theorem PoolOk.coin {ns : List Int} (h : PoolOk ns) : ∀ c ∈ ns, 1 ≤ c ∧ c ≤ 1000000000 := fun c hc => ⟨h.2.1 c hc, Int.le_trans (le_sum h.2.1 hc) h.2.2⟩
theorem PoolOk.good {H : Hp} {a : Addr} {ns : List Int} (h : PoolOk ns) (ha : SqA H a (ns.map V.int)) : GoodPool H (.ref a) ns := ⟨a, rfl, ha, h.1, h.coin⟩
/-- what fitting_coins has told -/
def ToldAt (h : Addr) (o : Option (Int × Int)) (x : V) (H : Hp) : Prop := (o = none ∧ x = .non) ∨ ∃ a b t, o = some (a, b) ∧ x = .ref t ∧ t ≠ h ∧ H t = some (.tup [.int a, .int b])
theorem ToldAt.but {h : Addr} {o : Option (Int × Int)} {x : V} {H H' : Hp} (y : ToldAt h o x H) (s : But h H H') : ToldAt h o x H' := by
  rcases y with y | ⟨a, b, t, e1, e2, n, e⟩
  · exact .inl y
  · exact .inr ⟨a, b, t, e1, e2, n, s _ _ n e⟩
/-- _law_stretch_right(hand, pool, people) -/
def spStretch : Sp := fun vs H Q _ => ∃ h l ns m, vs = [.ref h, .ref l, .int m] ∧ Hand H h ∧ l ≠ h ∧ H l = some (.lst (ns.map V.int)) ∧ PoolOk ns ∧ 2 ≤ m ∧ m ≤ 5 ∧ ∀ H', Mv h H H' → Q (.bl true) H'
theorem read_serves {K : PySem.W.Frag} {σ : L2.St} {H : Hp} {l : Addr} {ns : List Int} {m c : Int} {te : TE} {Q : VK} (h1 : σ[1]? = some (some (.ref l))) (h2 : σ[2]? = some (some (.int m))) (hl : H l = some (.lst (ns.map V.int))) (hlen : ns.length ≤ 12) (m1 : 2 ≤ m) (m2 : m ≤ 5)
    (hte : ∀ (H1 : Hp) (Q1 : VK), Same H H1 → Q1 (.int c) H1 → te σ H1 Q1) (q : ∀ H', Same H H' → Q (.bl (serves (ns ++ [c]) m)) H') :
    tCall spServes [] E0 (tCons (tOp rCat (tCB (fun xs H Q => ∃ p ys, xs = [V.ref p] ∧ (SqL K H p ys ∨ SqT K H p ys) ∧ ∀ l, H l = none → Q (.ref l) (upd H l (.lst ys))) (tCons (tVar 1) tNil)) (tLst (tCons te tNil))) (tCons (tVar 2) tNil)) σ H Q := by
  refine ⟨_, h1, l, _, rfl, .inl (sqL hl), fun u nu => hte _ _ (same_upd nu) ⟨by show 1 ≤ sizeLine; decide, fun b nb => ?_⟩⟩
  have s1 := (same_upd (o := .lst (ns.map V.int)) nu).trans (same_upd (o := .lst [V.int c]) nb)
  refine ⟨u, b, _, _, rfl, rfl, by rw [upd_ne (ne_of_none upd_same nb)]; exact upd_same, upd_same, by rw [List.length_map]; exact Nat.le_of_lt (small1000 (by show ns.length + 1 ≤ 1000; omega)), fun p np => ?_⟩
  refine ⟨_, h2, p, ns ++ [c], m, rfl, .inl ?_, m1, m2, fun H' s' => q H' ((s1.trans (same_upd np)).trans s')⟩
  rw [upd_same, List.map_append]
  rfl
section
variable {P : Program} {w : World} {K : PySem.W.Frag} {mg : Str → Option Value} {base : Heap}
theorem ok_l_stretch {f CB CP CC : Addr} {fd : FuncData} (F : Fun K "_law_stretch_right" "_law_stretch_right" s_l_stretch_right f fd) (B : Bl mg) (Gf : Clx P w K mg base (L2.CX P w) 4 "fitting_coins" (spFits CB CP)) (Gx : Clx P w K mg base (L2.CX P w) 5 "next_coin" (spNext CB CP))
    (Gp : Clx P w K mg base (L2.CX P w) 4 "may_put" (spPut CB CP CC)) (Gi : Clx P w K mg base CX0 1 "_law_is_whole" spIsInt) (Gs : Clx P w K mg base CX0 2 "_law_serves" spServes) (Gt : Clx P w K mg base CX0 3 "_law_tried" spTried) :
    FnOk P w K mg base CX0 6 f fd ["_law_hand_here", "_law_pool_here", "_law_people"] spStretch := by
  refine F.ok sc_l_stretch_right (fun vs H Q E h => ?_) (fun cdv A outer s H vs Q E hr h => ?_)
  · obtain ⟨h, l, ns, m, rfl, _⟩ := h
    rfl
  · obtain ⟨h, l, ns, m, rfl, hh, nlh, hl, hp, m1, m2, q⟩ := h
    have nd := sc_l_stretch_right.nd
    have hr2 : Room 5 _ := hr
    refine ⟨_, C8.pss_cut (ps_set (i := 3) nd rfl (.inl rfl) (pe_x Gf hr2 (by decide) passL (pa_cons (pv 1) (pa_cons (pv 2) pa_nil))))
      (C8.pss_cut (ps_if (pt_cmp (pc_notN (pv 3)))
        (pss_cons (ps_if (PW.pt (pw_or (pt_not (pt_val (pe_callB call_isi (by rfl) B.isi b_isi (pa_cons (pv 3) (pa_cons (pe_bltn (v := .ty "tuple") (by rfl) B.tuple b_tuple rfl) pa_nil)))))
            (pw_or (pt_cmpR op_ne (pe_callB call_len_seq (by rfl) B.len b_len (pa_cons (pv 3) pa_nil)) pe_int (nomark _))
            (pw_or (pt_not (pt_val (pe_x Gi hr2 (by decide) pass0 (pa_cons (pe_ix ix_tup (pv 3) pe_int (fun _ _ => rfl)) pa_nil))))
            (pw_or1 (pt_not (pt_val (pe_x Gi hr2 (by decide) pass0 (pa_cons (pe_ix ix_tup (pv 3) pe_int (fun _ _ => rfl)) pa_nil)))))))))
          (pss_one (ps_ret pe_bl)) pss_nil)
        (pss_cons (ps_if (pt_not (pt_chain op_le op_le pe_int (pe_ix ix_tup (pv 3) pe_int (fun _ _ => rfl)) (pe_ix ix_tup (pv 3) pe_int (fun _ _ => rfl)))) (pss_one (ps_ret pe_bl)) pss_nil)
        (pss_one (ps_if (PW.pt (pw_or (pt_not (pt_val (pe_x Gs hr2 (by decide) pass0 (pa_cons (pe_op op_cat (pe_callTy call_list_of (by rfl) B.list b_list (pa_cons (pv 1) pa_nil)) (pe_lst (pa_cons (pe_ix ix_tup (pv 3) pe_int (fun _ _ => rfl)) pa_nil))) (pa_cons (pv 2) pa_nil)))))
            (pw_or1 (pt_not (pt_val (pe_x Gs hr2 (by decide) pass0 (pa_cons (pe_op op_cat (pe_callTy call_list_of (by rfl) B.list b_list (pa_cons (pv 1) pa_nil)) (pe_lst (pa_cons (pe_ix ix_tup (pv 3) pe_int (fun _ _ => rfl)) pa_nil))) (pa_cons (pv 2) pa_nil))))))))
          (pss_one (ps_ret pe_bl)) pss_nil)))) pss_nil)
      (C8.pss_cut (ps_if (pt_cmpR op_ne (pe_x Gx hr2 (by decide) passL (pa_cons (pv 1) (pa_cons (pv 2) pa_nil))) (pe_ifExp (pt_cmp (pc_notN (pv 3))) (pe_ix ix_tup (pv 3) pe_int (fun _ _ => rfl)) pe_non) (nomark _)) (pss_one (ps_ret pe_bl)) pss_nil)
      (pss_cons (ps_for PassesOwn.never rfl (pi_list (pe_x Gt hr2 (by decide) pass0 (pa_cons (pv 0) (pa_cons (pv 1) (pa_cons (pv 2) pa_nil))))) (pg_name (i := 4) nd rfl (.inl rfl))
        (pss_cons (ps_set (i := 5) nd rfl (.inl rfl) (pe_x Gs hr2 (by decide) pass0 (pa_cons (pe_op op_cat (pe_callTy call_list_of (by rfl) B.list b_list (pa_cons (pv 1) pa_nil)) (pe_lst (pa_cons (pv 4) pa_nil))) (pa_cons (pv 2) pa_nil))))
        (C8.pss_cut (ps_if (pt_cmpR op_ne (pv 5) (pe_and (pe_cmp (pc_notN (pv 3)) rfl) (pe_one (pe_chain op_le op_le (pe_ix ix_tup (pv 3) pe_int (fun _ _ => rfl)) (pv 4) (pe_ix ix_tup (pv 3) pe_int (fun _ _ => rfl))))) (nomark _)) (pss_one (ps_ret pe_bl)) pss_nil)
        (pss_one (ps_if (pt_cmpR op_le (pv 4) (pe_op op_pow pe_int pe_int) (nomark _))
          (pss_cons (ps_set (i := 6) nd rfl (.inl rfl) (pe_x Gp hr2 (by decide) passL (pa_cons (pv 1) (pa_cons (pv 4) (pa_cons (pv 2) pa_nil)))))
          (pss_one (ps_if (PW.pt (pw_or (pt_not (pt_val (pe_callB call_isi (by rfl) B.isi b_isi (pa_cons (pv 6) (pa_cons (pe_bltn (v := .ty "bool") (by rfl) B.bool b_bool rfl) pa_nil)))))
            (pw_or1 (pt_cmpR op_ne (pv 6) (pv 5) (nomark _))))) (pss_one (ps_ret pe_bl)) pss_nil))) pss_nil)))))
      (pss_one (ps_ret pe_bl))))), ?_⟩
    have hg : ∀ {H' : Hp}, H' l = some (.lst (ns.map V.int)) → GoodPool H' (.ref l) ns := fun e => hp.good (.inl e)
    refine ⟨fun σ H' => ∃ x, σ = [some (.ref h), some (.ref l), some (.int m), some x, none, none, none] ∧ Same H H' ∧ ToldAt h (stretch ns m) x H', ?_, ?_⟩
    · refine ⟨_, rfl, _, rfl, _, _, rfl, .inl ⟨ns, m, rfl, hg hl, m1, m2, ?_⟩⟩
      unfold TellFit
      cases e : stretch ns m with
      | none => exact fun H' s' => ⟨_, rfl, s', .inl ⟨rfl, rfl⟩⟩
      | some p => exact fun H' t s' nt ht => ⟨_, rfl, s', .inr ⟨p.1, p.2, t, rfl, rfl, hh.ne nt, ht⟩⟩
    rintro σ' H1 ⟨x, rfl, s1, told⟩
    have hl1 := s1 _ _ hl
    refine ⟨fun σ H' => σ = [some (.ref h), some (.ref l), some (.int m), some x, none, none, none] ∧ Same H H' ∧ ToldAt h (stretch ns m) x H', ?_, ?_⟩
    · rcases id told with ⟨e, rfl⟩ | ⟨a, b, t, e, rfl, nt, ht⟩
      · exact ⟨_, rfl, _, rfl, iteF ⟨rfl, s1, told⟩⟩
      · obtain ⟨a1, ab, sa, sb⟩ := stretch_ends m1 hp.2.1 e
        refine ⟨_, rfl, _, rfl, iteT ?_⟩
        refine ⟨_, rfl, _, .ty "tuple", _, _, _, rfl, .ty _, (Ty7.tup ht).tyX, kit_ty (Ty7.tup ht).isTuple, _, rfl, ?_⟩
        refine iteF ⟨_, rfl, t, _, rfl, .inr (sqT ht), rfl, _, rfl, ?_⟩
        refine ifF (ne_int rfl) ⟨_, rfl, t, _, 0, _, rfl, rfl, sqT ht, atI_nat (j := 0) rfl, _, rfl, _, rfl, ?_⟩
        refine iteF ⟨_, rfl, t, _, 1, _, rfl, rfl, sqT ht, atI_nat (j := 1) rfl, _, rfl, _, rfl, ?_⟩
        refine iteF ⟨_, rfl, t, _, 0, _, rfl, rfl, sqT ht, atI_nat (j := 0) rfl, _, _, rfl, rfl, _, rfl, ?_⟩
        refine ifT (decide_eq_true a1) ⟨_, rfl, t, _, 1, _, rfl, rfl, sqT ht, atI_nat (j := 1) rfl, _, _, rfl, rfl, _, rfl, ?_⟩
        refine ifF (by rw [decide_eq_true ab]; rfl) (read_serves (c := a) rfl rfl hl1 hp.1 m1 m2 (fun H2 Q1 s2 q1 => ⟨_, rfl, t, _, 0, _, rfl, rfl, sqT (s2 _ _ ht), atI_nat (j := 0) rfl, q1⟩) fun H2 s2 => ⟨_, rfl, ?_⟩)
        refine ifF (by rw [sa]; rfl) (read_serves (c := b) rfl rfl (s2 _ _ hl1) hp.1 m1 m2 (fun H3 Q1 s3 q1 => ⟨_, rfl, t, _, 1, _, rfl, rfl, sqT (s3 _ _ (s2 _ _ ht)), atI_nat (j := 1) rfl, q1⟩) fun H3 s3 => ⟨_, rfl, ?_⟩)
        exact ifF (by rw [sb]; rfl) ⟨rfl, (s1.trans s2).trans s3, told.but (Same.but (s2.trans s3))⟩
    clear told hl1 s1
    rintro σ' H1 ⟨rfl, s1, told⟩
    have hl1 := s1 _ _ hl
    refine ⟨fun σ H' => σ = [some (.ref h), some (.ref l), some (.int m), some x, none, none, none] ∧ Same H H' ∧ ToldAt h (stretch ns m) x H', ?_, ?_⟩
    · refine ⟨_, rfl, _, rfl, _, _, rfl, .inl ⟨ns, m, rfl, hg hl1, m1, m2, fun H2 s2 => ?_⟩⟩
      have told2 := told.but (Same.but s2)
      rcases id told2 with ⟨e, rfl⟩ | ⟨a, b, t, e, rfl, nt, ht⟩
      · rw [e]
        exact ⟨_, rfl, _, rfl, iteF ⟨rfl, _, rfl, iteF ⟨rfl, s1.trans s2, e ▸ told2⟩⟩⟩
      · rw [e]
        refine ⟨_, rfl, _, rfl, iteT ⟨_, rfl, t, _, 1, _, rfl, rfl, sqT ht, atI_nat (j := 1) rfl, rfl, _, rfl, ?_⟩⟩
        exact ifF (ne_same _) ⟨rfl, s1.trans s2, e ▸ told2⟩
    clear told hl1 s1
    rintro σ' H1 ⟨rfl, s1, told⟩
    have hl1 := s1 _ _ hl
    refine ⟨_, rfl, _, rfl, _, rfl, h, l, ns, m, rfl, hh.same s1, hl1, hp, m1, m2, fun H2 p ms mv np hms hpos => ?_⟩
    have mvH : Mv h H H2 := (Mv.of hh s1).trans mv
    have told2 := told.but mv.1
    have hl2 := mv.1 _ _ nlh hl1
    refine ⟨p, rfl, ⟨_, sqL hms⟩, for_list (xs := ms.map V.int) (fun i σ H' => ∃ y4 y5 y6, σ = [some (.ref h), some (.ref l), some (.int m), some x, y4, y5, y6] ∧ Same H2 H') ⟨none, none, none, rfl, Same.refl _⟩ (fun i σ H' _ ⟨_, _, _, _, sm⟩ => sqL (sm _ _ hms)) ?_ ?_⟩
    · rintro i y σ H3 hi ⟨y4, y5, y6, rfl, s3⟩
      obtain ⟨c, hc, rfl⟩ := get_int hi
      have c1 := hpos c (List.mem_of_getElem? hc)
      refine read_serves (c := c) rfl rfl (s3 _ _ hl2) hp.1 m1 m2 (fun H4 Q1 s4 q1 => ⟨_, rfl, q1⟩) fun H4 s4 => ?_
      rw [stretch_is m1 hp.2.1 c1]
      have s4 := s3.trans s4
      refine ⟨fun σ H' => σ = [some (.ref h), some (.ref l), some (.int m), some x, some (.int c), some (.bl (within (stretch ns m) c)), y6] ∧ H' = H4, ?_, ?_⟩
      · have told4 := told2.but (Same.but s4)
        rcases id told4 with ⟨e, rfl⟩ | ⟨a, b, t, e, rfl, nt, ht⟩
        · rw [e]
          exact ⟨_, rfl, _, rfl, _, rfl, iteF ⟨rfl, _, rfl, ifF (ne_same _) ⟨rfl, rfl⟩⟩⟩
        · rw [e]
          refine ⟨_, rfl, _, rfl, _, rfl, iteT ⟨_, rfl, t, _, 0, _, rfl, rfl, sqT ht, atI_nat (j := 0) rfl, _, rfl, _, _, rfl, rfl, _, rfl, ?_⟩⟩
          have ew : within (some (a, b)) c = (decide (a ≤ c) && decide (c ≤ b)) := rfl
          rw [ew]
          show if decide (a ≤ c) = true then _ else _
          by_cases z : a ≤ c
          · rw [decide_eq_true z]
            exact iteT ⟨_, rfl, t, _, 1, _, rfl, rfl, sqT ht, atI_nat (j := 1) rfl, _, _, rfl, rfl, rfl, _, rfl, ifF (ne_same _) ⟨rfl, rfl⟩⟩
          · rw [decide_eq_false z]
            exact iteF ⟨rfl, _, rfl, ifF (ne_same _) ⟨rfl, rfl⟩⟩
      · rintro σ' H5 ⟨rfl, rfl⟩
        refine ⟨_, rfl, _, _, rfl, rfl, ⟨by decide, by decide, by decide⟩, _, _, rfl, rfl, _, rfl, ite2 (fun e => ?_) (fun _ => ⟨_, _, _, rfl, s4⟩)⟩
        have e : c ≤ (10 : Int) ^ (9 : Int).toNat := of_decide_eq_true e
        rw [pow9] at e
        refine ⟨_, rfl, _, rfl, _, rfl, _, _, _, rfl, .inl ⟨ns, c, m, rfl, rfl, hg (s4 _ _ hl2), c1, e, m1, m2, fun H6 s6 => ?_⟩⟩
        refine ⟨_, rfl, _, .ty "bool", _, _, _, rfl, .ty _, (Ty7.bl (H := H6) (within (stretch ns m) c)).tyX, kit_ty (Ty7.bl (H := H6) (within (stretch ns m) c)).isBool, _, rfl, ?_⟩
        exact iteF ⟨_, rfl, _, rfl, rfl, _, rfl, ifF (ne_same _) ⟨_, _, _, rfl, s4.trans s6⟩⟩
    · rintro σ H3 ⟨y4, y5, y6, rfl, s3⟩
      exact q H3 (mvH.same s3)
end
end K21

set_option Elab.async false
set_option linter.all false
set_option maxRecDepth 100000
set_option maxHeartbeats 4000000
/-! _law_refusals_right. -/
namespace K21
open PySem PySem.Spec PyProof.Rows L2
theorem cut_take (xs : List V) (j : Nat) : cutV xs none (some (j : Int)) = xs.take j := by
  unfold cutV
  rw [HT.sIx_none, HT.sIx_nat]
  simp only [List.drop_zero, Nat.sub_zero]
  exact List.take_eq_take_iff.mpr (by simp)
theorem Ty7.mv {H H' : Hp} {h : Addr} {x : V} {n : String} (t : Ty7 H x n) (hh : Hand H h) (m : Mv h H H') : Ty7 H' x n := by
  obtain ⟨c, cells, pos, rest, tot, e0, _⟩ := hh
  obtain ⟨c', cells', pos', rest', tot', e0', _⟩ := m.2.1
  cases t with
  | int i => exact .int i
  | bl b => exact .bl b
  | non => exact .non
  | str z => exact .str z
  | @lst a xs e =>
    by_cases z : a = h
    · subst z; exact .lst e0'
    · exact .lst (m.1 _ _ z e)
  | @tup a xs e =>
    by_cases z : a = h
    · subst z; rw [e0] at e; cases e
    · exact .tup (m.1 _ _ z e)
  | @dct a xs e =>
    by_cases z : a = h
    · subst z; rw [e0] at e; cases e
    · exact .dct (m.1 _ _ z e)
def OddC (y : V) : Prop := isW y 1 1000000000 = false ∧ ∃ n, ∀ H, Ty7 H y n
abbrev oddCs : List V := [.int 0, .int (-1), .int ((10 : Int) ^ (9 : Int).toNat + 1), .non, .bl true, .str "1", .int ((10 : Int) ^ (20 : Int).toNat)]
theorem oddC_ok {i : Nat} {y : V} (h : oddCs[i]? = some y) : OddC y := by
  have hi : i < 7 := (List.getElem?_eq_some_iff.mp h).1
  rcases (show i = 0 ∨ i = 1 ∨ i = 2 ∨ i = 3 ∨ i = 4 ∨ i = 5 ∨ i = 6 by omega) with rfl | rfl | rfl | rfl | rfl | rfl | rfl
  · obtain rfl := Option.some.inj h
    exact ⟨by decide, _, fun _ => .int _⟩
  · obtain rfl := Option.some.inj h
    exact ⟨by decide, _, fun _ => .int _⟩
  · obtain rfl := Option.some.inj h
    exact ⟨by decide, _, fun _ => .int _⟩
  · obtain rfl := Option.some.inj h
    exact ⟨rfl, _, fun _ => .non⟩
  · obtain rfl := Option.some.inj h
    exact ⟨rfl, _, fun _ => .bl _⟩
  · obtain rfl := Option.some.inj h
    exact ⟨rfl, _, fun _ => .str _⟩
  · obtain rfl := Option.some.inj h
    exact ⟨by decide, _, fun _ => .int _⟩
abbrev oddYs (t : Addr) : List V := [.int 0, .int (-1), .int ((10 : Int) ^ (9 : Int).toNat + 1), .non, .bl true, .str "1", .ref t]
theorem oddY_ok {t : Addr} {i : Nat} {y : V} (h : (oddYs t)[i]? = some y) : isW y 1 1000000000 = false ∧ ∃ n, ∀ H : Hp, H t = some (.tup [.int 1]) → Ty7 H y n := by
  have hi : i < 7 := (List.getElem?_eq_some_iff.mp h).1
  rcases (show i = 0 ∨ i = 1 ∨ i = 2 ∨ i = 3 ∨ i = 4 ∨ i = 5 ∨ i = 6 by omega) with rfl | rfl | rfl | rfl | rfl | rfl | rfl
  · obtain rfl := Option.some.inj h
    exact ⟨by decide, _, fun _ _ => .int _⟩
  · obtain rfl := Option.some.inj h
    exact ⟨by decide, _, fun _ _ => .int _⟩
  · obtain rfl := Option.some.inj h
    exact ⟨by decide, _, fun _ _ => .int _⟩
  · obtain rfl := Option.some.inj h
    exact ⟨rfl, _, fun _ _ => .non⟩
  · obtain rfl := Option.some.inj h
    exact ⟨rfl, _, fun _ _ => .bl _⟩
  · obtain rfl := Option.some.inj h
    exact ⟨rfl, _, fun _ _ => .str _⟩
  · obtain rfl := Option.some.inj h
    exact ⟨rfl, _, fun _ e => .tup e⟩
abbrev oddPs (a b c : Addr) : List V := [.non, .int 3, .str "12", .ref a, .ref b, .ref c]
abbrev ones : List V := (List.replicate (13 : Int).toNat [V.int 1]).flatten
theorem oddP_ok {a b c : Addr} {i : Nat} {y : V} (h : (oddPs a b c)[i]? = some y) {H : Hp} (ha : H a = some (.lst ones)) (hb : H b = some (.tup ones)) (hc : H c = some (.dK [])) : BadPoolArg H y 0 "many" := by
  have hi : i < 6 := (List.getElem?_eq_some_iff.mp h).1
  rcases (show i = 0 ∨ i = 1 ∨ i = 2 ∨ i = 3 ∨ i = 4 ∨ i = 5 by omega) with rfl | rfl | rfl | rfl | rfl | rfl
  · obtain rfl := Option.some.inj h
    exact .inl ⟨rfl, rfl, .inl ⟨_, .non, by decide, by decide⟩⟩
  · obtain rfl := Option.some.inj h
    exact .inl ⟨rfl, rfl, .inl ⟨_, .int _, by decide, by decide⟩⟩
  · obtain rfl := Option.some.inj h
    exact .inl ⟨rfl, rfl, .inl ⟨_, .str _, by decide, by decide⟩⟩
  · obtain rfl := Option.some.inj h
    exact .inl ⟨rfl, rfl, .inr ⟨a, _, rfl, .inl ha, by decide⟩⟩
  · obtain rfl := Option.some.inj h
    exact .inl ⟨rfl, rfl, .inr ⟨b, _, rfl, .inr hb, by decide⟩⟩
  · obtain rfl := Option.some.inj h
    exact .inl ⟨rfl, rfl, .inl ⟨_, .dct hc, by decide, by decide⟩⟩
/-! ### == of what is told -/
abbrev d3 (p : Int) (what : Str) : PyData := .tuple [.str "pool", .int p, .str what]
abbrev d2 (s : Str) : PyData := .tuple [.str s, .int 0]
theorem dp3 {K : PySem.W.Frag} {H : Hp} {t : Addr} {p : Int} {what : Str} (h : H t = some (.tup [.str "pool", .int p, .str what])) : Dp K H (.ref t) (d3 p what) := .tup (sqT h) (.cons (.str _) (.cons (.int _) (.cons (.str _) .nil)))
theorem dp2 {K : PySem.W.Frag} {H : Hp} {t : Addr} {s : Str} (h : H t = some (.tup [.str s, .int 0])) : Dp K H (.ref t) (d2 s) := .tup (sqT h) (.cons (.str _) (.cons (.int _) .nil))
theorem eq3 (p : Int) (what : Str) : PyData.eqv (d3 p what) (d3 p what) = true := by simp [PyData.eqv, PyData.eqvAll]
theorem eq2 (s : Str) : PyData.eqv (d2 s) (d2 s) = true := by simp [PyData.eqv, PyData.eqvAll]
theorem sh3 {p : Int} {what : Str} (h : what = "many" ∨ what = "coin") : SeqAt.shaped (d3 p what) = true := by
  rcases h with rfl | rfl <;> kernel_rfl!
theorem sh2 {s : Str} (h : s = "people" ∨ s = "coin") : SeqAt.shaped (d2 s) = true := by
  rcases h with rfl | rfl <;> kernel_rfl!
abbrev names4 : List V := [.str "rooms", .str "fitting", .str "next", .str "put"]
theorem name_at {i : Nat} {y : V} (h : names4[i]? = some y) : ∃ z, y = .str z ∧ isName z := by
  have hi : i < 4 := (List.getElem?_eq_some_iff.mp h).1
  rcases (show i = 0 ∨ i = 1 ∨ i = 2 ∨ i = 3 by omega) with rfl | rfl | rfl | rfl
  · obtain rfl := Option.some.inj h
    exact ⟨_, rfl, .inl rfl⟩
  · obtain rfl := Option.some.inj h
    exact ⟨_, rfl, .inr (.inl rfl)⟩
  · obtain rfl := Option.some.inj h
    exact ⟨_, rfl, .inr (.inr (.inl rfl))⟩
  · obtain rfl := Option.some.inj h
    exact ⟨_, rfl, .inr (.inr (.inr rfl))⟩
/-- _law_refusals_right(hand, pool, people) -/
def spRefus : Sp := fun vs H Q _ => ∃ h l ns m, vs = [.ref h, .ref l, .int m] ∧ Hand H h ∧ l ≠ h ∧ H l = some (.lst (ns.map V.int)) ∧ PoolOk ns ∧ 2 ≤ m ∧ m ≤ 5 ∧ ∀ H', Mv h H H' → Q (.bl true) H'
section
variable {P : Program} {w : World} {K : PySem.W.Frag} {mg : Str → Option Value} {base : Heap}
theorem ok_l_refus {f : Addr} {fd : FuncData} (F : Fun K "_law_refusals_right" "_law_refusals_right" s_l_refusals_right f fd) (B : Bl mg) (Gd : Clx P w K mg base CX0 2 "_law_draw" spDraw) (Gk : Clx P w K mg base CX0 3 "_law_pick" spPick)
    (Go : Clx P w K mg base CX0 4 "_law_odd_people" spOdd) (Gt : Clx P w K mg base CX0 6 "_law_told" spTold) : FnOk P w K mg base CX0 7 f fd ["_law_hand_here", "_law_pool_here", "_law_people"] spRefus := by
  refine F.ok sc_l_refusals_right (fun vs H Q E h => ?_) (fun cdv A outer s H vs Q E hr h => ?_)
  · obtain ⟨h, l, ns, m, rfl, _⟩ := h
    rfl
  · obtain ⟨h, l, ns, m, rfl, hh, nlh, hl, hp, m1, m2, q⟩ := h
    have nd := sc_l_refusals_right.nd
    have hr2 : Room 6 _ := hr
    refine ⟨_, pss_cons (ps_set (i := 3) nd rfl (.inl rfl) (pe_x Gk hr2 (by decide) pass0 (pa_cons (pv 0) (pa_cons (pe_lst (pa_cons pe_int (pa_cons (pe_un un_neg pe_int) (pa_cons (pe_op op_add (pe_op op_pow pe_int pe_int) pe_int) (pa_cons pe_non (pa_cons pe_bl (pa_cons pe_str (pa_cons (pe_op op_pow pe_int pe_int) pa_nil)))))))) pa_nil))))
      (pss_cons (ps_set (i := 4) nd rfl (.inl rfl) (pe_x Go hr2 (by decide) pass0 (pa_cons (pv 0) pa_nil)))
      (pss_cons (ps_set (i := 5) nd rfl (.inl rfl) (pe_x Gd hr2 (by decide) pass0 (pa_cons (pv 0) (pa_cons (pe_op op_add (pe_callB call_len_seq (by rfl) B.len b_len (pa_cons (pv 1) pa_nil)) pe_int) pa_nil))))
      (pss_cons (ps_set (i := 6) nd rfl (.inl rfl) (pe_slice sl_list (pe_op op_cat (pv 1) (pe_lst (pa_cons pe_int pa_nil))) po_none (po_some pe_int)))
      (pss_cons (ps_set (i := 5) nd rfl (.inl rfl) (pe_callB (call_min2 rfl) (by rfl) B.min b_min (pa_cons (pv 5) (pa_cons (pe_op op_sub (pe_callB call_len_seq (by rfl) B.len b_len (pa_cons (pv 6) pa_nil)) pe_int) pa_nil))))
      (pss_cons (ps_asg (pe_x Gk hr2 (by decide) pass0 (pa_cons (pv 0) (pa_cons (pe_lst (pa_cons pe_int (pa_cons (pe_un un_neg pe_int) (pa_cons (pe_op op_add (pe_op op_pow pe_int pe_int) pe_int) (pa_cons pe_non (pa_cons pe_bl (pa_cons pe_str (pa_cons (pe_tup (pa_cons pe_int pa_nil)) pa_nil)))))))) pa_nil))) (pg_sub (pv 6) (pv 5) set_list))
      (pss_cons (ps_set (i := 7) nd rfl (.inl rfl) (pe_tup (pa_cons pe_str (pa_cons (pv 5) (pa_cons pe_str pa_nil)))))
      (C8.pss_cut (ps_if (pt_cmpR op_eq (pe_x Gd hr2 (by decide) pass0 (pa_cons (pv 0) (pa_cons pe_int pa_nil))) pe_int (nomark _))
        (pss_cons (ps_set (i := 6) nd rfl (.inl rfl) (pe_x Gk hr2 (by decide) pass0 (pa_cons (pv 0) (pa_cons (pe_lst (pa_cons pe_non (pa_cons pe_int (pa_cons pe_str (pa_cons (pe_op op_rep (pe_lst (pa_cons pe_int pa_nil)) pe_int) (pa_cons (pe_op op_repT (pe_tup (pa_cons pe_int pa_nil)) pe_int) (pa_cons pe_dnewK pa_nil))))))) pa_nil))))
        (pss_one (ps_set (i := 7) nd rfl (.inl rfl) (pe_tup (pa_cons pe_str (pa_cons pe_int (pa_cons pe_str pa_nil))))))) pss_nil)
      (pss_cons (ps_for PassesOwn.never rfl (pi_tup (pe_tup (pa_cons pe_str (pa_cons pe_str (pa_cons pe_str (pa_cons pe_str pa_nil)))))) (pg_name (i := 8) nd rfl (.inl rfl))
        (C8.pss_cut (ps_if (PW.pt (pw_or (pt_cmpR (op_neD hr2.units) (pe_x Gt hr2 (by decide) pass0 (pa_cons (pv 8) (pa_cons (pv 6) (pa_cons (pv 3) (pa_cons (pv 4) pa_nil))))) (pv 7) (nomark _))
            (pw_or1 (pt_cmpR (op_neD hr2.units) (pe_x Gt hr2 (by decide) pass0 (pa_cons (pv 8) (pa_cons (pv 6) (pa_cons pe_int (pa_cons (pv 2) pa_nil))))) (pv 7) (nomark _))))) (pss_one (ps_ret pe_bl)) pss_nil)
        (pss_one (ps_if (pt_cmpR (op_neD hr2.units) (pe_x Gt hr2 (by decide) pass0 (pa_cons (pv 8) (pa_cons (pv 1) (pa_cons (pe_op op_add pe_int (pe_x Gd hr2 (by decide) pass0 (pa_cons (pv 0) (pa_cons pe_int pa_nil)))) (pa_cons (pv 4) pa_nil))))) (pe_tup (pa_cons pe_str (pa_cons pe_int pa_nil))) (nomark _))
          (pss_one (ps_ret pe_bl)) pss_nil))))
      (pss_one (ps_ret (pe_and (pe_cmpR (op_eqD hr2.units) (pe_x Gt hr2 (by decide) pass0 (pa_cons pe_str (pa_cons (pv 1) (pa_cons (pv 3) (pa_cons (pv 2) pa_nil))))) (pe_tup (pa_cons pe_str (pa_cons pe_int pa_nil))) (nomark _))
        (pe_one (pe_cmpR (op_eqD hr2.units) (pe_x Gt hr2 (by decide) pass0 (pa_cons pe_str (pa_cons (pv 1) (pa_cons (pv 3) (pa_cons (pv 4) pa_nil))))) (pe_tup (pa_cons pe_str (pa_cons pe_int pa_nil))) (nomark _)))))))))))))), ?_⟩
    have nlen := hp.1
    refine ⟨_, rfl, 1, rfl, _, _, rfl, rfl, ⟨by decide, by decide, by decide⟩, _, _, rfl, rfl, _, _, rfl, rfl, ⟨by decide, by decide, by decide⟩, by show 7 ≤ sizeLine; decide, fun a na => ?_⟩
    have s1 := same_upd (o := .lst oddCs) na
    refine ⟨h, a, oddCs, rfl, hh.same s1, hh.ne na, upd_same, by show 1 ≤ 7; decide, by show 7 ≤ 1000; decide, fun i oc H2 hoc mv2 => ?_⟩
    have mv2 : Mv h H H2 := (Mv.of hh s1).trans mv2
    obtain ⟨oc1, oc2, oc3⟩ := oddC_ok hoc
    refine ⟨_, rfl, h, rfl, mv2.2.1, fun op n H3 mv3 t3 w3 => ?_⟩
    have mvH3 := mv2.trans mv3
    have hl3 := mvH3.1 _ _ nlh hl
    refine ⟨_, rfl, _, rfl, l, _, rfl, .inl (sqL hl3), _, _, rfl, rfl, h, _, rfl, mvH3.2.1, by rw [List.length_map]; omega, by rw [List.length_map]; omega, fun r H4 mv4 r0 r1 => ?_⟩
    rw [List.length_map] at r1
    have mv34 := mv4
    have mv4 := mvH3.trans mv4
    have hl4 := mv4.1 _ _ nlh hl
    refine ⟨_, rfl, by show 1 ≤ sizeLine; decide, fun b nb => ⟨l, b, _, _, rfl, rfl, (same_upd nb) _ _ hl4, upd_same, by rw [List.length_map]; exact Nat.le_of_lt (small1000 (by show ns.length + 1 ≤ 1000; omega)), fun c nc => ?_⟩⟩
    refine ⟨12, rfl, c, _, rfl, sqL upd_same, fun e ne => ?_⟩
    have ek : cutV (ns.map V.int ++ [.int 1]) none (some 12) = ((ns ++ [1]).take 12).map V.int := by
      rw [show (12 : Int) = ((12 : Nat) : Int) from rfl, cut_take, List.map_take, List.map_append]
      rfl
    rw [ek]
    have hks : ∀ k : Nat, k < ((ns ++ [1]).take 12).length → ∃ z, (((ns ++ [1]).take 12).map V.int)[k]? = some (.int z) ∧ 1 ≤ z ∧ z ≤ 1000000000 := fun k hk => by
      have hm := List.mem_of_mem_take (List.getElem_mem hk)
      refine ⟨((ns ++ [1]).take 12)[k], by rw [List.getElem?_map, List.getElem?_eq_getElem hk]; rfl, ?_⟩
      rcases List.mem_append.mp hm with hm | hm
      · exact hp.coin _ hm
      · rw [List.mem_singleton.mp hm]; exact ⟨by decide, by decide⟩
    have hk1 : 1 ≤ ((ns ++ [1]).take 12).length := by rw [List.length_take, List.length_append, List.length_singleton]; omega
    have hk2 : ((ns ++ [1]).take 12).length ≤ 12 := List.length_take_le _ _
    generalize (ns ++ [1]).take 12 = ks at hks hk1 hk2
    refine ⟨_, rfl, _, rfl, e, _, rfl, .inl (sqL upd_same), _, _, rfl, rfl, _, _, rfl, ?_⟩
    obtain ⟨j, ej, hj⟩ : ∃ j : Nat, (if ((ks.map V.int).length : Int) - 1 < r then ((ks.map V.int).length : Int) - 1 else r) = (j : Int) ∧ j < ks.length := by
      rw [List.length_map]
      refine ⟨(if (ks.length : Int) - 1 < r then (ks.length : Int) - 1 else r).toNat, ?_, ?_⟩ <;> split <;> omega
    rw [ej]
    have sb := same_upd (o := .lst [.int 1]) nb
    have sc := sb.trans (same_upd (o := .lst (ns.map V.int ++ [.int 1])) nc)
    have fe := mv4.free (sc.free ne)
    have se := sc.trans (same_upd (o := .lst (ks.map V.int)) ne)
    have mv5 := mv4.same se
    have neh := hh.ne fe
    have he5 : (upd (upd (upd H4 b (.lst [.int 1])) c (.lst (ns.map V.int ++ [.int 1]))) e (.lst (ks.map V.int))) e = some (.lst (ks.map V.int)) := upd_same
    have mv35 := mv34.same se
    refine ⟨_, rfl, 1, rfl, _, _, rfl, rfl, ⟨by decide, by decide, by decide⟩, _, _, rfl, rfl, by show 1 ≤ sizeLine; decide, fun t nt => ⟨by show 7 ≤ sizeLine; decide, fun a2 na2 => ?_⟩⟩
    have st := same_upd (o := .tup [.int 1]) nt
    have s6 := st.trans (same_upd (o := .lst (oddYs t)) na2)
    have ta2 := ne_of_none upd_same na2
    have th : t ≠ h := mv5.2.1.ne nt
    have te : e ≠ t := ne_of_none he5 nt
    refine ⟨h, a2, oddYs t, rfl, mv5.2.1.same s6, (mv5.2.1.same st).ne na2, upd_same, by show 1 ≤ 7; decide, by show 7 ≤ 1000; decide, fun i2 y H6 hy mv6 => ?_⟩
    obtain ⟨yw, yn, yt⟩ := oddY_ok hy
    have ht6 : H6 t = some (.tup [.int 1]) := mv6.1 _ _ th (by rw [upd_ne ta2]; exact upd_same)
    have he6 := mv6.1 _ _ neh (s6 _ _ he5)
    have mv36 := (mv35.same s6).trans mv6
    have mv6 := (mv5.same s6).trans mv6
    refine ⟨_, rfl, _, rfl, e, _, _, j, rfl, rfl, he6, ixN_nat (by rw [List.length_map]; exact hj), ?_⟩
    have mv7 := mv6.put (o := .lst ((ks.map V.int).set j y)) hh fe
    have mv37 := mv36.put (o := .lst ((ks.map V.int).set j y)) mvH3.2.1 (mv34.free (sc.free ne))
    have bad7 : ∀ H'', Mv h (upd H6 e (.lst ((ks.map V.int).set j y))) H'' → BadPoolArg H'' (.ref e) (j : Nat) "coin" := fun H'' mv => by
      have he := mv.1 _ _ neh upd_same
      have ht := mv.1 _ _ th (show (upd H6 e (.lst ((ks.map V.int).set j y))) t = _ by rw [upd_ne (Ne.symm te)]; exact ht6)
      refine .inr ⟨rfl, e, (ks.map V.int).set j y, j, y, yn, rfl, .inl he, by rw [List.length_set, List.length_map]; exact hk2, fun k hk => ?_, ?_, yt _ ht, yw, rfl⟩
      · obtain ⟨z, ez, z1⟩ := hks k (by omega)
        exact ⟨z, by rw [List.getElem?_set_ne (by omega)]; exact ez, z1⟩
      · exact List.getElem?_set_self (by rw [List.length_map]; exact hj)
    refine ⟨_, rfl, by show 3 ≤ sizeLine; decide, fun d nd' => ?_⟩
    have sd := same_upd (o := .tup [.str "pool", .int (j : Nat), .str "coin"]) nd'
    have mv38 := mv37.same sd
    have ndh := mv37.2.1.ne nd'
    refine ⟨fun σ H' => ∃ (y5 : Option V) (xp : V) (d : Addr) (p : Int) (what : Str), σ = [some (.ref h), some (.ref l), some (.int m), some oc, some op, y5, some xp, some (.ref d), none] ∧ Mv h H3 H' ∧ (what = "many" ∨ what = "coin") ∧ d ≠ h ∧ H' d = some (.tup [.str "pool", .int p, .str what]) ∧ ∀ H'', Mv h H' H'' → BadPoolArg H'' xp p what, ?_, ?_⟩
    · refine ⟨_, rfl, h, _, rfl, mv38.2.1, by decide, by decide, fun r3 H8 mv8 _ _ => ⟨rfl, _, rfl, ite2 (fun _ => ?_) fun _ => ?_⟩⟩
      · have mv9 := mv38.trans mv8
        refine ⟨_, rfl, by show 1 ≤ sizeLine; decide, fun a1 na1 => ⟨a1, 13, _, rfl, rfl, upd_same, by decide, by decide, by decide, fun a' na' => ⟨by show 1 ≤ sizeLine; decide, fun b1 nb1 => ⟨b1, 13, _, rfl, rfl, sqT upd_same, (by intro z; cases z), by decide, by decide, by decide, fun b' nb' => fun c' nc' => ⟨by show 6 ≤ sizeLine; decide, fun L nL => ?_⟩⟩⟩⟩⟩
        have x1 := same_upd (o := .lst [.int 1]) na1
        have x2 := x1.trans (same_upd (o := .lst ones) na')
        have x3 := x2.trans (same_upd (o := .tup [.int 1]) nb1)
        have x4 := x3.trans (same_upd (o := .tup ones) nb')
        have x5 := x4.trans (same_upd (o := .dK []) nc')
        have x6 := x5.trans (same_upd (o := .lst (oddPs a' b' c')) nL)
        have ka := (((same_upd (o := .tup [.int 1]) nb1).trans (same_upd (o := .tup ones) nb')).trans (same_upd (o := .dK []) nc')).trans (same_upd (o := .lst (oddPs a' b' c')) nL) a' _ upd_same
        have kb := ((same_upd (o := .dK []) nc').trans (same_upd (o := .lst (oddPs a' b' c')) nL)) b' _ upd_same
        have kc := (same_upd (o := .lst (oddPs a' b' c')) nL) c' _ upd_same
        have hand8 := mv9.2.1
        have pa := (hand8.same x1).ne na'
        have pb := (hand8.same x3).ne nb'
        have pc := (hand8.same x4).ne nc'
        refine ⟨h, L, oddPs a' b' c', rfl, hand8.same x6, (hand8.same x5).ne nL, upd_same, by show 1 ≤ 6; decide, by show 6 ≤ 1000; decide, fun i3 xp H9 hxp mvA => ?_⟩
        have ka := mvA.1 _ _ pa ka
        have kb := mvA.1 _ _ pb kb
        have kc := mvA.1 _ _ pc kc
        have mvB := (mv9.same x6).trans mvA
        refine ⟨by show 3 ≤ sizeLine; decide, fun d2 nd2 => ?_⟩
        have sd2 := same_upd (o := .tup [.str "pool", .int 0, .str "many"]) nd2
        exact ⟨_, xp, d2, 0, "many", rfl, mvB.same sd2, .inl rfl, mvB.2.1.ne nd2, upd_same, fun H'' mv => oddP_ok hxp (mv.1 _ _ pa (sd2 _ _ ka)) (mv.1 _ _ pb (sd2 _ _ kb)) (mv.1 _ _ pc (sd2 _ _ kc))⟩
      · exact ⟨_, .ref e, d, (j : Nat), "coin", rfl, mv38.trans mv8, .inr rfl, ndh, mv8.1 _ _ ndh upd_same, fun H'' mv => bad7 H'' ((Mv.of mv37.2.1 sd).trans (mv8.trans mv))⟩
    · clear bad7 mv38 sd nd' mv37 mv7 mv36 mv6
      rintro σ' H8 ⟨y5, xp, d, p, what, rfl, mv38, hw, ndh, hd, bad⟩
      have hl8 := mv38.1 _ _ nlh hl3
      have hgood : ∀ {H'}, Mv h H8 H' → GoodPool H' (.ref l) ns := fun mv => hp.good (.inl (mv.1 _ _ nlh hl8))
      have hop : ∀ {H'}, Mv h H8 H' → Ty7 H' op n := fun mv => t3.mv mvH3.2.1 (mv38.trans mv)
      have hdd : ∀ {H'}, Mv h H8 H' → H' d = some (.tup [.str "pool", .int p, .str what]) := fun mv => mv.1 _ _ ndh hd
      refine ⟨by show 4 ≤ sizeLine; decide, fun T nT => ?_⟩
      have sT := same_upd (o := .tup names4) nT
      have nTh := mv38.2.1.ne nT
      refine ⟨T, rfl, ⟨_, sqT upd_same⟩, for_tup (xs := names4) (fun i σ H' => ∃ y8, σ = [some (.ref h), some (.ref l), some (.int m), some oc, some op, y5, some xp, some (.ref d), y8] ∧ Mv h H8 H' ∧ H' T = some (.tup names4)) ⟨none, rfl, .of mv38.2.1 sT, upd_same⟩ (fun i σ H' _ ⟨_, _, _, e⟩ => sqT e) ?_ ?_⟩
      · rintro i y σ H' hi ⟨y8, rfl, mv, hT⟩
        obtain ⟨z, rfl, hz⟩ := name_at hi
        refine ⟨fun σ H' => σ = [some (.ref h), some (.ref l), some (.int m), some oc, some op, y5, some xp, some (.ref d), some (.str z)] ∧ Mv h H8 H' ∧ H' T = some (.tup names4), ?_, ?_⟩
        · refine ⟨_, rfl, _, rfl, _, rfl, _, rfl, z, xp, oc, op, rfl, hz, .inl ⟨p, what, bad H' mv, fun H1 t s1 nt ht => ?_⟩⟩
          have mv1 := mv.same s1
          refine ⟨_, rfl, _, _, dp3 ht, dp3 (hdd mv1), sh3 hw, sh3 hw, _, rfl, ifF (by rw [eq3]; rfl) ?_⟩
          refine ⟨_, rfl, _, rfl, _, rfl, z, xp, .int 1, .int m, rfl, hz, .inl ⟨p, what, bad _ mv1, fun H2 t2 s2 nt2 ht2 => ?_⟩⟩
          have mv2 := mv1.same s2
          exact ⟨_, rfl, _, _, dp3 ht2, dp3 (hdd mv2), sh3 hw, sh3 hw, _, rfl, ifF (by rw [eq3]; rfl) ⟨rfl, mv2, (s1.trans s2) _ _ hT⟩⟩
        · rintro σ' H4 ⟨rfl, mv, hT⟩
          refine ⟨_, rfl, _, rfl, _, rfl, h, _, rfl, mv.2.1, by decide, by decide, fun r H5 mv5 r0 r1 => ?_⟩
          have mv6 := mv.trans mv5
          refine ⟨_, _, rfl, rfl, _, rfl, z, .ref l, .int (1 + r), op, rfl, hz, .inr (.inr ⟨ns, 1 + r, n, hgood mv6, rfl, by omega, by omega, hop mv6, w3, fun H6 t s6 nt ht => ⟨by show 2 ≤ sizeLine; decide, fun t' nt' => ?_⟩⟩)⟩
          have s7 := same_upd (o := .tup [.str "people", .int 0]) nt'
          exact ⟨_, _, dp2 (s7 _ _ ht), dp2 upd_same, sh2 (.inl rfl), sh2 (.inl rfl), _, rfl, ifF (by rw [eq2]; rfl) ⟨_, rfl, mv6.same (s6.trans s7), (s6.trans s7) _ _ (mv5.1 _ _ nTh hT)⟩⟩
      · rintro σ H' ⟨y8, rfl, mv, hT⟩
        refine ⟨_, rfl, _, rfl, _, rfl, "put", .ref l, oc, .int m, rfl, .inr (.inr (.inr rfl)), .inr (.inl ⟨rfl, ns, oc2, hgood mv, oc3 _, oc1, fun H1 t s1 nt ht => ⟨by show 2 ≤ sizeLine; decide, fun t' nt' => ?_⟩⟩)⟩
        have s2 := same_upd (o := .tup [.str "coin", .int 0]) nt'
        refine ⟨_, _, dp2 (s2 _ _ ht), dp2 upd_same, sh2 (.inr rfl), sh2 (.inr rfl), _, rfl, ifT (eq2 _) ?_⟩
        have mv2 := (mv.same s1).same s2
        refine ⟨_, rfl, _, rfl, _, rfl, "put", .ref l, oc, op, rfl, .inr (.inr (.inr rfl)), .inr (.inl ⟨rfl, ns, oc2, hgood mv2, oc3 _, oc1, fun H3 t3 s3 nt3 ht3 => ⟨by show 2 ≤ sizeLine; decide, fun t4 nt4 => ?_⟩⟩)⟩
        have s4 := same_upd (o := .tup [.str "coin", .int 0]) nt4
        refine ⟨_, _, dp2 (s4 _ _ ht3), dp2 upd_same, sh2 (.inr rfl), sh2 (.inr rfl), ?_⟩
        rw [eq2]
        exact q _ (mvH3.trans (mv38.trans ((mv2.same s3).same s4)))
end
end K21

set_option Elab.async false
set_option linter.all false
set_option maxRecDepth 100000
set_option maxHeartbeats 4000000
/-! law. -/
namespace K21
open PySem PySem.Spec PyProof.Rows L2
def FitV (o : Option (Int × Int)) (x : V) (H : Hp) : Prop := (o = none ∧ x = .non) ∨ ∃ a b t, o = some (a, b) ∧ x = .ref t ∧ H t = some (.tup [.int a, .int b])
theorem tellFit {H : Hp} {o : Option (Int × Int)} {Q : VK} (h : ∀ H' x, Same H H' → FitV o x H' → Q x H') : TellFit H o Q := by
  unfold TellFit
  cases o with
  | none => exact fun H' s => h H' _ s (.inl ⟨rfl, rfl⟩)
  | some p => exact fun H' t s _ e => h H' _ s (.inr ⟨p.1, p.2, t, rfl, rfl, e⟩)
theorem FitV.same {o : Option (Int × Int)} {x : V} {H H' : Hp} (y : FitV o x H) (s : Same H H') : FitV o x H' := by
  rcases y with y | ⟨a, b, t, e1, e2, e⟩
  · exact .inl y
  · exact .inr ⟨a, b, t, e1, e2, s _ _ e⟩
theorem FitV.dp {K : PySem.W.Frag} {o : Option (Int × Int)} {x y : V} {H : Hp} (hx : FitV o x H) (hy : FitV o y H) : ∃ d, Dp K H x d ∧ Dp K H y d ∧ SeqAt.shaped d = true ∧ PyData.eqv d d = true := by
  rcases hx with ⟨rfl, rfl⟩ | ⟨a, b, t, rfl, rfl, e⟩
  · rcases hy with ⟨_, rfl⟩ | ⟨_, _, _, z, _⟩
    · exact ⟨.none, .non, .non, rfl, by simp [PyData.eqv]⟩
    · cases z
  · rcases hy with ⟨z, _⟩ | ⟨a', b', t', z, rfl, e'⟩
    · cases z
    · cases z
      exact ⟨.tuple [.int a, .int b], .tup (sqT e) (.cons (.int _) (.cons (.int _) .nil)), .tup (sqT e') (.cons (.int _) (.cons (.int _) .nil)), by kernel_rfl!, by simp [PyData.eqv, PyData.eqvAll]⟩
abbrev mosts : List V := [.int 3, .int 5, .int 12]
theorem most_at {i : Nat} {y : V} (h : mosts[i]? = some y) : ∃ k : Int, y = .int k ∧ 0 ≤ k ∧ k ≤ 12 := by
  have hi : i < 3 := (List.getElem?_eq_some_iff.mp h).1
  rcases (show i = 0 ∨ i = 1 ∨ i = 2 by omega) with rfl | rfl | rfl
  · exact ⟨3, (Option.some.inj h).symm, by decide, by decide⟩
  · exact ⟨5, (Option.some.inj h).symm, by decide, by decide⟩
  · exact ⟨12, (Option.some.inj h).symm, by decide, by decide⟩
/-- law(script) -/
def spLaw (K : PySem.W.Frag) : Sp := fun vs H Q _ => ∃ (a : Addr) (ns : List Int), vs = [.ref a] ∧ SqL K H a (ns.map V.int) ∧ ns.length ≤ 63 ∧ ∀ H', Q (.bl true) H'
section
variable {P : Program} {w : World} {K : PySem.W.Frag} {mg : Str → Option Value} {base : Heap}
theorem ok_law {f CB CP : Addr} {fd : FuncData} (F : Fun K "law" "law" s_law f fd) (B : Bl mg) (Gh : Clx P w K mg base CX0 1 "_law_hand" (spHand K)) (Gd : Clx P w K mg base CX0 2 "_law_draw" spDraw) (Gp : Clx P w K mg base CX0 3 "_law_pool" spMkPool) (Gb : Clx P w K mg base CX0 3 "_law_robbed" spRob)
    (Gr : Clx P w K mg base CX0 5 "_law_rooms_right" spRoomsRight) (Gs : Clx P w K mg base CX0 6 "_law_stretch_right" spStretch) (Gf : Clx P w K mg base (L2.CX P w) 4 "fitting_coins" (spFits CB CP)) (Gu : Clx P w K mg base CX0 7 "_law_refusals_right" spRefus) :
    FnOk P w K mg base CX0 8 f fd ["_law_script"] (spLaw K) := by
  refine F.ok sc_law (fun vs H Q E h => ?_) (fun cdv A outer s H vs Q E hr h => ?_)
  · obtain ⟨a, ns, rfl, _⟩ := h
    rfl
  · obtain ⟨a, ns, rfl, hS, hlen, q⟩ := h
    have nd := sc_law.nd
    have hr2 : Room 7 _ := hr
    refine ⟨_, pss_cons (ps_set (i := 1) nd rfl (.inl rfl) (pe_x Gh hr2 (by decide) pass0 (pa_cons (pv 0) pa_nil)))
      (pss_cons (ps_set (i := 2) nd rfl (.inl rfl) (pe_op op_add pe_int (pe_x Gd hr2 (by decide) pass0 (pa_cons (pv 1) (pa_cons pe_int pa_nil)))))
      (pss_cons (ps_set (i := 3) nd rfl (.inl rfl) (pe_lst pa_nil))
      (pss_cons (ps_for PassesOwn.never rfl (pi_tup (pe_tup (pa_cons pe_int (pa_cons pe_int (pa_cons pe_int pa_nil))))) (pg_name (i := 4) nd rfl (.inl rfl))
        (pss_cons (ps_set (i := 3) nd rfl (.inl rfl) (pe_x Gp hr2 (by decide) pass0 (pa_cons (pv 1) (pa_cons (pv 2) (pa_cons (pv 4) pa_nil)))))
        (C8.pss_cut (ps_if (pt_cmpR op_eq (pe_x Gd hr2 (by decide) pass0 (pa_cons (pv 1) (pa_cons pe_int pa_nil))) pe_int (nomark _))
          (pss_one (ps_set (i := 3) nd rfl (.inl rfl) (pe_x Gb hr2 (by decide) pass0 (pa_cons (pv 1) (pa_cons (pv 3) pa_nil))))) pss_nil)
        (pss_cons (ps_set (i := 5) nd rfl (.inl rfl) (pe_callTy call_list_of (by rfl) B.list b_list (pa_cons (pv 3) pa_nil)))
        (pss_cons (ps_if (PW.pt (pw_or (pt_not (pt_val (pe_x Gr hr2 (by decide) pass0 (pa_cons (pv 3) (pa_cons (pv 2) pa_nil)))))
            (pw_or1 (pt_not (pt_val (pe_x Gs hr2 (by decide) pass0 (pa_cons (pv 1) (pa_cons (pv 3) (pa_cons (pv 2) pa_nil))))))))) (pss_one (ps_ret pe_bl)) pss_nil)
        (pss_cons (ps_if (PW.pt (pw_or (pt_not (pt_val (pe_x Gr hr2 (by decide) pass0 (pa_cons (pe_callTy call_tuple_of (by rfl) B.tuple b_tuple (pa_cons (pv 3) pa_nil)) (pa_cons (pv 2) pa_nil)))))
            (pw_or1 (pt_cmpR (op_neD hr2.units) (pe_x Gf hr2 (by decide) passL (pa_cons (pe_callTy call_tuple_of (by rfl) B.tuple b_tuple (pa_cons (pv 3) pa_nil)) (pa_cons (pv 2) pa_nil)))
              (pe_x Gf hr2 (by decide) passL (pa_cons (pe_callB cr_srt (by rfl) B.sorted b_sorted (pa_cons (pv 3) pa_nil)) (pa_cons (pv 2) pa_nil))) (nomark _))))) (pss_one (ps_ret pe_bl)) pss_nil)
        (pss_one (ps_if (pt_cmpR (op_neD hr2.units) (pv 3) (pv 5) (nomark _)) (pss_one (ps_ret pe_bl)) pss_nil))))))))
      (pss_one (ps_ret (pe_x Gu hr2 (by decide) pass0 (pa_cons (pv 1) (pa_cons (pv 3) (pa_cons (pv 2) pa_nil))))))))), ?_⟩
    refine ⟨_, rfl, a, ns, rfl, hS, hlen, fun H1 h s1 nh hh => ?_⟩
    refine ⟨_, rfl, h, 4, rfl, hh, by decide, by decide, fun r H2 mv2 r0 r1 => ⟨_, _, rfl, rfl, ?_⟩⟩
    have m1 : 2 ≤ 2 + r := by omega
    have m2 : 2 + r ≤ 5 := by omega
    obtain ⟨m, em⟩ : ∃ m, 2 + r = m := ⟨_, rfl⟩
    rw [em] at m1 m2
    refine ⟨Nat.zero_le _, fun l0 nl0 => ?_⟩
    have s3 := same_upd (o := .lst []) nl0
    refine ⟨by show 3 ≤ sizeLine; decide, fun T nT => ?_⟩
    have sT := same_upd (o := .tup mosts) nT
    have hT0 : Hand (upd (upd H2 l0 (.lst [])) T (.tup mosts)) h := (mv2.2.1.same s3).same sT
    have nTh := (mv2.2.1.same s3).ne nT
    refine ⟨T, rfl, ⟨_, sqT upd_same⟩, for_tup (xs := mosts) (fun i σ H' => ∃ (l : Addr) (ns : List Int) (y4 y5 : Option V), σ = [some (.ref a), some (.ref h), some (.int m), some (.ref l), y4, y5] ∧ Hand H' h ∧ l ≠ h ∧ H' l = some (.lst (ns.map V.int)) ∧ PoolOk ns ∧ H' T = some (.tup mosts))
      ⟨l0, [], none, none, by rw [← em]; rfl, hT0, mv2.2.1.ne nl0, sT _ _ upd_same, ⟨Nat.zero_le _, fun c hc => (nomatch hc), by decide⟩, upd_same⟩ (fun i σ H' _ ⟨_, _, _, _, _, _, _, _, _, e⟩ => sqT e) ?_ ?_⟩
    · rintro i y σ H' hi ⟨l, ns', y4, y5, rfl, hh', nlh, hl, hp, hT⟩
      obtain ⟨k, rfl, k0, k1⟩ := most_at hi
      clear hl hp nlh
      refine ⟨_, rfl, _, rfl, _, rfl, h, m, k, rfl, hh', m1, m2, k0, k1, fun H3 l ns mv3 nl hl hp => ?_⟩
      have nlh := hh'.ne nl
      have hT3 := mv3.1 _ _ nTh hT
      refine ⟨fun σ H' => ∃ (l : Addr) (ns : List Int), σ = [some (.ref a), some (.ref h), some (.int m), some (.ref l), some (.int k), y5] ∧ Hand H' h ∧ l ≠ h ∧ H' l = some (.lst (ns.map V.int)) ∧ PoolOk ns ∧ H' T = some (.tup mosts), ?_, ?_⟩
      · refine ⟨_, rfl, h, 3, rfl, mv3.2.1, by decide, by decide, fun r4 H4 mv4 _ _ => ⟨rfl, _, rfl, ite2 (fun _ => ?_) fun _ => ?_⟩⟩
        · exact ⟨_, rfl, _, rfl, h, l, ns, rfl, mv4.2.1, nlh, mv4.1 _ _ nlh hl, hp, fun H5 p ms mv5 np hm hpm => ⟨p, ms, rfl, mv5.2.1, np, hm, hpm, mv5.1 _ _ nTh (mv4.1 _ _ nTh hT3)⟩⟩
        · exact ⟨l, ns, rfl, mv4.2.1, nlh, mv4.1 _ _ nlh hl, hp, mv4.1 _ _ nTh hT3⟩
      · clear hl hp nlh nl hT3
        rintro σ' H4 ⟨l, ns, rfl, hh4, nlh, hl, hp, hT4⟩
        refine ⟨_, rfl, l, _, rfl, .inl (sqL hl), fun kp nkp => ?_⟩
        have s5 := same_upd (o := .lst (ns.map V.int)) nkp
        have nkh := hh4.ne nkp
        refine ⟨_, rfl, _, rfl, .ref l, ns, m, rfl, hp.good (.inl (s5 _ _ hl)), m1, m2, fun H6 s6 => ⟨_, rfl, iteF ?_⟩⟩
        have s6' := s5.trans s6
        have hk6 := s6 _ _ (show (upd H4 kp (.lst (ns.map V.int))) kp = _ from upd_same)
        refine ⟨_, rfl, _, rfl, _, rfl, h, l, ns, m, rfl, hh4.same s6', nlh, s6' _ _ hl, hp, m1, m2, fun H7 mv7 => ⟨_, rfl, iteF ?_⟩⟩
        have hl7 := mv7.1 _ _ nlh (s6' _ _ hl)
        have hk7 := mv7.1 _ _ nkh hk6
        have hT7 := mv7.1 _ _ nTh (s6' _ _ hT4)
        refine ⟨_, rfl, l, _, rfl, .inl ⟨sqL hl7, fun u nu => ?_⟩⟩
        have s8 := same_upd (o := .tup (ns.map V.int)) nu
        refine ⟨_, rfl, .ref u, ns, m, rfl, hp.good (.inr upd_same), m1, m2, fun H9 s9 => ⟨_, rfl, iteF ?_⟩⟩
        have s9 := s8.trans s9
        refine ⟨_, rfl, l, _, rfl, .inl ⟨sqL (s9 _ _ hl7), fun v nv => ?_⟩⟩
        have s10 := s9.trans (same_upd (o := .tup (ns.map V.int)) nv)
        refine ⟨_, rfl, _, _, rfl, .inl ⟨ns, m, rfl, hp.good (.inr upd_same), m1, m2, tellFit fun H11 x1 s11 f1 => ?_⟩⟩
        have s11 := s10.trans s11
        refine ⟨_, rfl, l, ns, rfl, .inl (sqL (s11 _ _ hl7)), fun z nz => ?_⟩
        have s12 := s11.trans (same_upd (o := .lst ((srt ns).map V.int)) nz)
        have hps : PoolOk (srt ns) := ⟨by rw [srt_length]; exact hp.1, fun c hc => hp.2.1 c (srt_mem.mp hc), by rw [perm_sum (srt_perm ns)]; exact hp.2.2⟩
        refine ⟨_, rfl, _, _, rfl, .inl ⟨srt ns, m, rfl, hps.good (.inl upd_same), m1, m2, ?_⟩⟩
        rw [stretch_srt]
        refine tellFit fun H13 x2 s13 f2 => ?_
        obtain ⟨d, d1, d2, d3, d4⟩ := ((f1.same (same_upd nz)).same s13).dp (K := K) f2
        refine ⟨d, d, d1, d2, d3, d3, _, rfl, ifF (by rw [d4]; rfl) ?_⟩
        have s14 := s12.trans s13
        refine ⟨_, rfl, _, rfl, _, _, dp_lst (s14 _ _ hl7), dp_lst (s14 _ _ hk7), shaped_is ns, shaped_is ns, _, rfl, ifF (by rw [eqv_int, decide_eq_true rfl]; rfl) ?_⟩
        exact ⟨l, ns, _, _, rfl, mv7.2.1.same s14, nlh, s14 _ _ hl7, hp, s14 _ _ hT7⟩
    · rintro σ H' ⟨l, ns', y4, y5, rfl, hh', nlh, hl, hp, hT⟩
      exact ⟨_, rfl, _, rfl, _, rfl, h, l, ns', m, rfl, hh', nlh, hl, hp, m1, m2, fun H'' _ => q H''⟩
end
end K21

set_option Elab.async false
set_option linter.all false
set_option maxRecDepth 100000
set_option maxHeartbeats 4000000
/-! All defs together. -/
namespace K21
open PySem PySem.Spec PyProof.Rows L2
theorem exm_is {K : PySem.W.Frag} {cls : Value} {S : Addr} {b : Bool} (h1 : PySem.W.subIn K (.ref S) (.type "BaseException") = some true) (h2 : PySem.W.isClsIn K S = true) (h3 : PySem.W.typeIn K (.ref S) = some (.type "type")) (h4 : PySem.W.subIn K cls (.ref S) = some b) :
    PySem.W.exmOne K cls (.ref S) = some b := by
  have e1 : (PySem.W.subIn K (.ref S) (.type "BaseException") == some true) = true := by rw [h1] <;> rfl
  have e2 : ((PySem.W.clsIn K S).isSome && PySem.W.typeIn K (.ref S) == some (.type "type")) = true := by
    have h2' : (PySem.W.clsIn K S).isSome = true := h2
    rw [h2', h3] <;> rfl
  show (if (PySem.W.subIn K (.ref S) (.type "BaseException") == some true) = true then (if ((PySem.W.clsIn K S).isSome && PySem.W.typeIn K (.ref S) == some (.type "type")) = true then PySem.W.subIn K cls (.ref S) else none) else none) = some b
  rw [if_pos e1, if_pos e2]
  exact h4
theorem clx {P : Program} {w : World} {K : PySem.W.Frag} {mg : Str → Option Value} {base : Heap} {CX : CXT} {k : Nat} {x : Str} {sp : Sp} {f : Addr} {fd : FuncData} {ps : List Str} (F : FnOk P w K mg base CX k f fd ps sp) (hm : mg x = some (.ref f)) (hk : PySem.W.keepIn K (.ref f) = true) (hb : Binds K fd ps []) :
    Clx P w K mg base CX k x sp := ⟨⟨f, fd, ps, F, hm, hk, hb⟩⟩
set_option maxHeartbeats 16000000 in
theorem all_mk
  {P : Program} {w : World} {K : PySem.W.Frag} {h : Heap} {mg : Str → Option Value} {fa : Addr}
  {f0 : Addr} {od0 an0 : Option Addr} {sl0 : Array (Option Value)} {oc0 kV0 dc0 pm0 cd0 ct0 : Value}
  {f1 : Addr} {od1 an1 : Option Addr} {sl1 : Array (Option Value)} {oc1 kV1 dc1 pm1 cd1 ct1 : Value}
  {f2 : Addr} {od2 an2 : Option Addr} {sl2 : Array (Option Value)} {oc2 kV2 dc2 pm2 cd2 ct2 : Value}
  {f3 : Addr} {od3 an3 : Option Addr} {sl3 : Array (Option Value)} {oc3 kV3 dc3 pm3 cd3 ct3 : Value}
  {f4 : Addr} {od4 an4 : Option Addr} {sl4 : Array (Option Value)} {oc4 kV4 dc4 pm4 cd4 ct4 : Value}
  {f5 : Addr} {od5 an5 : Option Addr} {sl5 : Array (Option Value)} {oc5 kV5 dc5 pm5 cd5 ct5 : Value}
  {f6 : Addr} {od6 an6 : Option Addr} {sl6 : Array (Option Value)} {oc6 kV6 dc6 pm6 cd6 ct6 : Value}
  {f7 : Addr} {od7 an7 : Option Addr} {sl7 : Array (Option Value)} {oc7 kV7 dc7 pm7 cd7 ct7 : Value}
  {f8 : Addr} {od8 an8 : Option Addr} {sl8 : Array (Option Value)} {oc8 kV8 dc8 pm8 cd8 ct8 : Value}
  {f9 : Addr} {od9 an9 : Option Addr} {sl9 : Array (Option Value)} {oc9 kV9 dc9 pm9 cd9 ct9 : Value}
  {f10 : Addr} {od10 an10 : Option Addr} {sl10 : Array (Option Value)} {oc10 kV10 dc10 pm10 cd10 ct10 : Value}
  {f11 : Addr} {od11 an11 : Option Addr} {sl11 : Array (Option Value)} {oc11 kV11 dc11 pm11 cd11 ct11 : Value}
  {f12 : Addr} {od12 an12 : Option Addr} {sl12 : Array (Option Value)} {oc12 kV12 dc12 pm12 cd12 ct12 : Value}
  {f13 : Addr} {od13 an13 : Option Addr} {sl13 : Array (Option Value)} {oc13 kV13 dc13 pm13 cd13 ct13 : Value}
  {f14 : Addr} {od14 an14 : Option Addr} {sl14 : Array (Option Value)} {oc14 kV14 dc14 pm14 cd14 ct14 : Value}
  {f15 : Addr} {od15 an15 : Option Addr} {sl15 : Array (Option Value)} {oc15 kV15 dc15 pm15 cd15 ct15 : Value}
  {f16 : Addr} {od16 an16 : Option Addr} {sl16 : Array (Option Value)} {oc16 kV16 dc16 pm16 cd16 ct16 : Value}
  {f17 : Addr} {od17 an17 : Option Addr} {sl17 : Array (Option Value)} {oc17 kV17 dc17 pm17 cd17 ct17 : Value}
  {f18 : Addr} {od18 an18 : Option Addr} {sl18 : Array (Option Value)} {oc18 kV18 dc18 pm18 cd18 ct18 : Value}
  {f19 : Addr} {od19 an19 : Option Addr} {sl19 : Array (Option Value)} {oc19 kV19 dc19 pm19 cd19 ct19 : Value}
  {f20 : Addr} {od20 an20 : Option Addr} {sl20 : Array (Option Value)} {oc20 kV20 dc20 pm20 cd20 ct20 : Value}
  {f21 : Addr} {od21 an21 : Option Addr} {sl21 : Array (Option Value)} {oc21 kV21 dc21 pm21 cd21 ct21 : Value}
  {f22 : Addr} {od22 an22 : Option Addr} {sl22 : Array (Option Value)} {oc22 kV22 dc22 pm22 cd22 ct22 : Value}
  {f23 : Addr} {od23 an23 : Option Addr} {sl23 : Array (Option Value)} {oc23 kV23 dc23 pm23 cd23 ct23 : Value}
  {f24 : Addr} {od24 an24 : Option Addr} {sl24 : Array (Option Value)} {oc24 kV24 dc24 pm24 cd24 ct24 : Value}
  {f25 : Addr} {od25 an25 : Option Addr} {sl25 : Array (Option Value)} {oc25 kV25 dc25 pm25 cd25 ct25 : Value}
  {f26 : Addr} {od26 an26 : Option Addr} {sl26 : Array (Option Value)} {oc26 kV26 dc26 pm26 cd26 ct26 : Value}
  {fP Td : Addr} {odP anP odT : Option Addr} {slP slT : Array (Option Value)} {ocP kVP dcP pmP cdP ctP ocT : Value} {tT : Tok} {nT : Nat}
  {tk0 : Tok}
  {tk1 : Tok}
  {tk2 : Tok}
  {CB CP CC fI cda cc : Addr} {nm q : Str} {N : Addr} {bs bm : List Value} {sn : List Str} {sub : List Value} {ab : Bool} {col : Option Bool} {dd : Option Addr} {m0 m1 m2 m3 m5 : Option Value} {ocI dcI pmI ctI : Value} {odI anI : Option Addr} {slI : Array (Option Value)} {ccl : Value} {cdd : Option Addr} {vs : Array Value} {ccs : Array (Option Value)} {file : Str} {tf : Tok} {cl : Value} {cld : Option Addr} {csl : Array (Option Value)}
  (X : K.In h) (G : h.Ns mainGlobals mg) (hfa : mg "law" = some (.ref fa))
  (a0 : PySem.W.nsIn K mainGlobals "is_whole" = some (some (.ref f0)))
  (l0 : K.lookup f0 = some ⟨oc0, od0, .func (PySem.W.fnOf "is_whole" "is_whole" (defArgs s_is_whole) (defBody s_is_whole) (defScope s_is_whole) .none kV0 dc0 pm0 an0 cd0 ct0), sl0⟩)
  (c0 : PySem.W.codeIn K cd0 "is_whole" = true)
  (k0 : PySem.W.keepIn K (.ref f0) = true)
  (a1 : PySem.W.nsIn K mainGlobals "is_sequence" = some (some (.ref f1)))
  (l1 : K.lookup f1 = some ⟨oc1, od1, .func (PySem.W.fnOf "is_sequence" "is_sequence" (defArgs s_is_sequence) (defBody s_is_sequence) (defScope s_is_sequence) .none kV1 dc1 pm1 an1 cd1 ct1), sl1⟩)
  (c1 : PySem.W.codeIn K cd1 "is_sequence" = true)
  (k1 : PySem.W.keepIn K (.ref f1) = true)
  (a2 : PySem.W.nsIn K mainGlobals "check_pool" = some (some (.ref f2)))
  (l2 : K.lookup f2 = some ⟨oc2, od2, .func (PySem.W.fnOf "check_pool" "check_pool" (defArgs s_chk_pool) (defBody s_chk_pool) (defScope s_chk_pool) .none kV2 dc2 pm2 an2 cd2 ct2), sl2⟩)
  (c2 : PySem.W.codeIn K cd2 "check_pool" = true)
  (k2 : PySem.W.keepIn K (.ref f2) = true)
  (a3 : PySem.W.nsIn K mainGlobals "whole_within" = some (some (.ref f3)))
  (l3 : K.lookup f3 = some ⟨oc3, od3, .func (PySem.W.fnOf "whole_within" "whole_within" (defArgs s_whole_within) (defBody s_whole_within) (defScope s_whole_within) .none kV3 dc3 pm3 an3 cd3 ct3), sl3⟩)
  (c3 : PySem.W.codeIn K cd3 "whole_within" = true)
  (k3 : PySem.W.keepIn K (.ref f3) = true)
  (a4 : PySem.W.nsIn K mainGlobals "next_room" = some (some (.ref f4)))
  (l4 : K.lookup f4 = some ⟨oc4, od4, .func (PySem.W.fnOf "next_room" "next_room" (defArgs s_next_room) (defBody s_next_room) (defScope s_next_room) .none kV4 dc4 pm4 an4 cd4 ct4), sl4⟩)
  (c4 : PySem.W.codeIn K cd4 "next_room" = true)
  (k4 : PySem.W.keepIn K (.ref f4) = true)
  (a5 : PySem.W.nsIn K mainGlobals "room_row" = some (some (.ref f5)))
  (l5 : K.lookup f5 = some ⟨oc5, od5, .func (PySem.W.fnOf "room_row" "room_row" (defArgs s_room_row) (defBody s_room_row) (defScope s_room_row) .none kV5 dc5 pm5 an5 cd5 ct5), sl5⟩)
  (c5 : PySem.W.codeIn K cd5 "room_row" = true)
  (k5 : PySem.W.keepIn K (.ref f5) = true)
  (a6 : PySem.W.nsIn K mainGlobals "fitting_range" = some (some (.ref f6)))
  (l6 : K.lookup f6 = some ⟨oc6, od6, .func (PySem.W.fnOf "fitting_range" "fitting_range" (defArgs s_fitting_range) (defBody s_fitting_range) (defScope s_fitting_range) .none kV6 dc6 pm6 an6 cd6 ct6), sl6⟩)
  (c6 : PySem.W.codeIn K cd6 "fitting_range" = true)
  (k6 : PySem.W.keepIn K (.ref f6) = true)
  (a7 : PySem.W.nsIn K mainGlobals "fitting_coins" = some (some (.ref f7)))
  (l7 : K.lookup f7 = some ⟨oc7, od7, .func (PySem.W.fnOf "fitting_coins" "fitting_coins" (defArgs s_fitting_coins) (defBody s_fitting_coins) (defScope s_fitting_coins) .none kV7 dc7 pm7 an7 cd7 ct7), sl7⟩)
  (c7 : PySem.W.codeIn K cd7 "fitting_coins" = true)
  (k7 : PySem.W.keepIn K (.ref f7) = true)
  (a8 : PySem.W.nsIn K mainGlobals "next_coin" = some (some (.ref f8)))
  (l8 : K.lookup f8 = some ⟨oc8, od8, .func (PySem.W.fnOf "next_coin" "next_coin" (defArgs s_next_coin) (defBody s_next_coin) (defScope s_next_coin) .none kV8 dc8 pm8 an8 cd8 ct8), sl8⟩)
  (c8 : PySem.W.codeIn K cd8 "next_coin" = true)
  (k8 : PySem.W.keepIn K (.ref f8) = true)
  (a9 : PySem.W.nsIn K mainGlobals "may_put" = some (some (.ref f9)))
  (l9 : K.lookup f9 = some ⟨oc9, od9, .func (PySem.W.fnOf "may_put" "may_put" (defArgs s_may_put) (defBody s_may_put) (defScope s_may_put) .none kV9 dc9 pm9 an9 cd9 ct9), sl9⟩)
  (c9 : PySem.W.codeIn K cd9 "may_put" = true)
  (k9 : PySem.W.keepIn K (.ref f9) = true)
  (a10 : PySem.W.nsIn K mainGlobals "_law_mix" = some (some (.ref f10)))
  (l10 : K.lookup f10 = some ⟨oc10, od10, .func (PySem.W.fnOf "_law_mix" "_law_mix" (defArgs s_l_mix) (defBody s_l_mix) (defScope s_l_mix) .none kV10 dc10 pm10 an10 cd10 ct10), sl10⟩)
  (c10 : PySem.W.codeIn K cd10 "_law_mix" = true)
  (k10 : PySem.W.keepIn K (.ref f10) = true)
  (a11 : PySem.W.nsIn K mainGlobals "_law_hand" = some (some (.ref f11)))
  (l11 : K.lookup f11 = some ⟨oc11, od11, .func (PySem.W.fnOf "_law_hand" "_law_hand" (defArgs s_l_hand) (defBody s_l_hand) (defScope s_l_hand) .none kV11 dc11 pm11 an11 cd11 ct11), sl11⟩)
  (c11 : PySem.W.codeIn K cd11 "_law_hand" = true)
  (k11 : PySem.W.keepIn K (.ref f11) = true)
  (a12 : PySem.W.nsIn K mainGlobals "_law_draw" = some (some (.ref f12)))
  (l12 : K.lookup f12 = some ⟨oc12, od12, .func (PySem.W.fnOf "_law_draw" "_law_draw" (defArgs s_l_draw) (defBody s_l_draw) (defScope s_l_draw) .none kV12 dc12 pm12 an12 cd12 ct12), sl12⟩)
  (c12 : PySem.W.codeIn K cd12 "_law_draw" = true)
  (k12 : PySem.W.keepIn K (.ref f12) = true)
  (a13 : PySem.W.nsIn K mainGlobals "_law_pick" = some (some (.ref f13)))
  (l13 : K.lookup f13 = some ⟨oc13, od13, .func (PySem.W.fnOf "_law_pick" "_law_pick" (defArgs s_l_pick) (defBody s_l_pick) (defScope s_l_pick) .none kV13 dc13 pm13 an13 cd13 ct13), sl13⟩)
  (c13 : PySem.W.codeIn K cd13 "_law_pick" = true)
  (k13 : PySem.W.keepIn K (.ref f13) = true)
  (a14 : PySem.W.nsIn K mainGlobals "_law_is_whole" = some (some (.ref f14)))
  (l14 : K.lookup f14 = some ⟨oc14, od14, .func (PySem.W.fnOf "_law_is_whole" "_law_is_whole" (defArgs s_l_is_whole) (defBody s_l_is_whole) (defScope s_l_is_whole) .none kV14 dc14 pm14 an14 cd14 ct14), sl14⟩)
  (c14 : PySem.W.codeIn K cd14 "_law_is_whole" = true)
  (k14 : PySem.W.keepIn K (.ref f14) = true)
  (a15 : PySem.W.nsIn K mainGlobals "_law_up" = some (some (.ref f15)))
  (l15 : K.lookup f15 = some ⟨oc15, od15, .func (PySem.W.fnOf "_law_up" "_law_up" (defArgs s_l_up) (defBody s_l_up) (defScope s_l_up) .none kV15 dc15 pm15 an15 cd15 ct15), sl15⟩)
  (c15 : PySem.W.codeIn K cd15 "_law_up" = true)
  (k15 : PySem.W.keepIn K (.ref f15) = true)
  (a16 : PySem.W.nsIn K mainGlobals "_law_serves" = some (some (.ref f16)))
  (l16 : K.lookup f16 = some ⟨oc16, od16, .func (PySem.W.fnOf "_law_serves" "_law_serves" (defArgs s_l_serves) (defBody s_l_serves) (defScope s_l_serves) .none kV16 dc16 pm16 an16 cd16 ct16), sl16⟩)
  (c16 : PySem.W.codeIn K cd16 "_law_serves" = true)
  (k16 : PySem.W.keepIn K (.ref f16) = true)
  (a17 : PySem.W.nsIn K mainGlobals "_law_next" = some (some (.ref f17)))
  (l17 : K.lookup f17 = some ⟨oc17, od17, .func (PySem.W.fnOf "_law_next" "_law_next" (defArgs s_l_next) (defBody s_l_next) (defScope s_l_next) .none kV17 dc17 pm17 an17 cd17 ct17), sl17⟩)
  (c17 : PySem.W.codeIn K cd17 "_law_next" = true)
  (k17 : PySem.W.keepIn K (.ref f17) = true)
  (a18 : PySem.W.nsIn K mainGlobals "_law_odd_people" = some (some (.ref f18)))
  (l18 : K.lookup f18 = some ⟨oc18, od18, .func (PySem.W.fnOf "_law_odd_people" "_law_odd_people" (defArgs s_l_odd_people) (defBody s_l_odd_people) (defScope s_l_odd_people) .none kV18 dc18 pm18 an18 cd18 ct18), sl18⟩)
  (c18 : PySem.W.codeIn K cd18 "_law_odd_people" = true)
  (k18 : PySem.W.keepIn K (.ref f18) = true)
  (a19 : PySem.W.nsIn K mainGlobals "_law_pool" = some (some (.ref f19)))
  (l19 : K.lookup f19 = some ⟨oc19, od19, .func (PySem.W.fnOf "_law_pool" "_law_pool" (defArgs s_l_pool) (defBody s_l_pool) (defScope s_l_pool) .none kV19 dc19 pm19 an19 cd19 ct19), sl19⟩)
  (c19 : PySem.W.codeIn K cd19 "_law_pool" = true)
  (k19 : PySem.W.keepIn K (.ref f19) = true)
  (a20 : PySem.W.nsIn K mainGlobals "_law_robbed" = some (some (.ref f20)))
  (l20 : K.lookup f20 = some ⟨oc20, od20, .func (PySem.W.fnOf "_law_robbed" "_law_robbed" (defArgs s_l_robbed) (defBody s_l_robbed) (defScope s_l_robbed) .none kV20 dc20 pm20 an20 cd20 ct20), sl20⟩)
  (c20 : PySem.W.codeIn K cd20 "_law_robbed" = true)
  (k20 : PySem.W.keepIn K (.ref f20) = true)
  (a21 : PySem.W.nsIn K mainGlobals "_law_told" = some (some (.ref f21)))
  (l21 : K.lookup f21 = some ⟨oc21, od21, .func (PySem.W.fnOf "_law_told" "_law_told" (defArgs s_l_told) (defBody s_l_told) (defScope s_l_told) .none kV21 dc21 pm21 an21 cd21 ct21), sl21⟩)
  (c21 : PySem.W.codeIn K cd21 "_law_told" = true)
  (k21 : PySem.W.keepIn K (.ref f21) = true)
  (a22 : PySem.W.nsIn K mainGlobals "_law_rooms_right" = some (some (.ref f22)))
  (l22 : K.lookup f22 = some ⟨oc22, od22, .func (PySem.W.fnOf "_law_rooms_right" "_law_rooms_right" (defArgs s_l_rooms_right) (defBody s_l_rooms_right) (defScope s_l_rooms_right) .none kV22 dc22 pm22 an22 cd22 ct22), sl22⟩)
  (c22 : PySem.W.codeIn K cd22 "_law_rooms_right" = true)
  (k22 : PySem.W.keepIn K (.ref f22) = true)
  (a23 : PySem.W.nsIn K mainGlobals "_law_tried" = some (some (.ref f23)))
  (l23 : K.lookup f23 = some ⟨oc23, od23, .func (PySem.W.fnOf "_law_tried" "_law_tried" (defArgs s_l_tried) (defBody s_l_tried) (defScope s_l_tried) .none kV23 dc23 pm23 an23 cd23 ct23), sl23⟩)
  (c23 : PySem.W.codeIn K cd23 "_law_tried" = true)
  (k23 : PySem.W.keepIn K (.ref f23) = true)
  (a24 : PySem.W.nsIn K mainGlobals "_law_stretch_right" = some (some (.ref f24)))
  (l24 : K.lookup f24 = some ⟨oc24, od24, .func (PySem.W.fnOf "_law_stretch_right" "_law_stretch_right" (defArgs s_l_stretch_right) (defBody s_l_stretch_right) (defScope s_l_stretch_right) .none kV24 dc24 pm24 an24 cd24 ct24), sl24⟩)
  (c24 : PySem.W.codeIn K cd24 "_law_stretch_right" = true)
  (k24 : PySem.W.keepIn K (.ref f24) = true)
  (a25 : PySem.W.nsIn K mainGlobals "_law_refusals_right" = some (some (.ref f25)))
  (l25 : K.lookup f25 = some ⟨oc25, od25, .func (PySem.W.fnOf "_law_refusals_right" "_law_refusals_right" (defArgs s_l_refusals_right) (defBody s_l_refusals_right) (defScope s_l_refusals_right) .none kV25 dc25 pm25 an25 cd25 ct25), sl25⟩)
  (c25 : PySem.W.codeIn K cd25 "_law_refusals_right" = true)
  (k25 : PySem.W.keepIn K (.ref f25) = true)
  (a26 : PySem.W.nsIn K mainGlobals "law" = some (some (.ref f26)))
  (l26 : K.lookup f26 = some ⟨oc26, od26, .func (PySem.W.fnOf "law" "law" (defArgs s_law) (defBody s_law) (defScope s_law) .none kV26 dc26 pm26 an26 cd26 ct26), sl26⟩)
  (c26 : PySem.W.codeIn K cd26 "law" = true)
  (k26 : PySem.W.keepIn K (.ref f26) = true)
  (aP : PySem.W.nsIn K mainGlobals "check_people" = some (some (.ref fP)))
  (lP : K.lookup fP = some ⟨ocP, odP, .func (PySem.W.fnOf "check_people" "check_people" (defArgs s_chk_people) (defBody s_chk_people) (defScope s_chk_people) (.ref Td) kVP dcP pmP anP cdP ctP), slP⟩)
  (cP : PySem.W.codeIn K cdP "check_people" = true)
  (kP : PySem.W.keepIn K (.ref fP) = true)
  (lT : K.lookup Td = some ⟨ocT, odT, .seq #[.int 1 tT] nT, slT⟩)
  (mc0 : PySem.W.nsIn K mainGlobals "MOST_COINS" = some (some (.int 12 tk0)))
  (mc1 : PySem.W.nsIn K mainGlobals "MOST_WORTH" = some (some (.int 1000000000 tk1)))
  (mc2 : PySem.W.nsIn K mainGlobals "MOST_PEOPLE" = some (some (.int 5 tk2)))
  (z_isi : PySem.W.nsIn K mainGlobals "isinstance" = some none)
  (z_int : PySem.W.nsIn K mainGlobals "int" = some none)
  (z_bool : PySem.W.nsIn K mainGlobals "bool" = some none)
  (z_list : PySem.W.nsIn K mainGlobals "list" = some none)
  (z_tuple : PySem.W.nsIn K mainGlobals "tuple" = some none)
  (z_len : PySem.W.nsIn K mainGlobals "len" = some none)
  (z_enum : PySem.W.nsIn K mainGlobals "enumerate" = some none)
  (z_sorted : PySem.W.nsIn K mainGlobals "sorted" = some none)
  (z_max : PySem.W.nsIn K mainGlobals "max" = some none)
  (z_min : PySem.W.nsIn K mainGlobals "min" = some none)
  (z_abs : PySem.W.nsIn K mainGlobals "abs" = some none)
  (z_range : PySem.W.nsIn K mainGlobals "range" = some none)
  (z_sum : PySem.W.nsIn K mainGlobals "sum" = some none)
  (z_set : PySem.W.nsIn K mainGlobals "set" = some none)
  (z_super : PySem.W.nsIn K mainGlobals "super" = some none)
  (bA : PySem.W.nsIn K mainGlobals "BadPool" = some (some (.ref CB)))
  (bL : K.lookup CB = some (excClassObj nm q CB N bs bm true sn sub ab col dd m0 m1 m2 m3 m5 "ValueError.__new__"))
  (bR : PySem.HandSPX.refsVE bm = true)
  (bsa : PySem.W.findIn K (.ref CB) "__setattr__" = some (some (.builtin "object.__setattr__")))
  (bnP : PySem.W.findIn K (.ref CB) "place" = some none)
  (bnW : PySem.W.findIn K (.ref CB) "what" = some none)
  (bi : PySem.W.findIn K (.ref CB) "__init__" = some (some (.ref fI)))
  (bl : K.lookup fI = some ⟨ocI, odI, .func (PySem.W.ksFn "__init__" "BadPool.__init__" (defArgs s_init) (defBody s_init) (defScope s_init) .none .none dcI pmI anI (.ref cda) ctI cc), slI⟩)
  (bt : PySem.W.typeIn K (.ref fI) = some (.type "function"))
  (bc : PySem.W.codeIn K (.ref cda) "BadPool.__init__" = true)
  (bk : PySem.W.keepIn K (.ref CB) = true)
  (be : PySem.W.subIn K (.ref CB) (.type "BaseException") = some true)
  (bv : PySem.W.subIn K (.ref CB) (.type "ValueError") = some true)
  (by_ : PySem.W.typeIn K (.ref CB) = some (.type "type"))
  (bs_ : PySem.W.ks_superIn K CB CB "__init__" = some (some (.builtin "ValueError.__init__")))
  (bm_ : PySem.W.mroIn K CB (.ref CB) = some true)
  (bo : PySem.W.nsIn K PySem.cStatics "thirdparty.any" = some none)
  (btop : (P.main.scope.names.lookup ("super" : Str)).isSome = false)
  (bx1 : K.lookup cda = some ⟨ccl, cdd, .fields vs, ccs⟩)
  (bx2 : vs[2]? = some (.str file tf))
  (bx3 : (P.main.file == file) = true)
  (bx4 : K.lookup cc = some ⟨cl, cld, .cell (some (.ref CB)), csl⟩)
  (bga : PySem.W.findIn K (.ref CB) "__getattribute__" = some (some (.builtin "BaseException.__getattribute__")))
  (bgg : PySem.W.findIn K (.ref CB) "__getattr__" = some none)
  (bhd : PySem.W.hasDictIn K CB = true)
  (bic : PySem.W.isClsIn K CB = true)
  (ePa : PySem.W.nsIn K mainGlobals "BadPeople" = some (some (.ref CP)))
  (ePk : PySem.W.keepIn K (.ref CP) = true)
  (ePq : PySem.W.excIn K CP [.type "ValueError", .type "Exception", .type "BaseException", .type "object"] "ValueError.__new__" = true)
  (ePb : PySem.W.subIn K (.ref CP) (.type "BaseException") = some true)
  (ePt : PySem.W.typeIn K (.ref CP) = some (.type "type"))
  (ePc : PySem.W.isClsIn K CP = true)
  (eCa : PySem.W.nsIn K mainGlobals "BadCoin" = some (some (.ref CC)))
  (eCk : PySem.W.keepIn K (.ref CC) = true)
  (eCq : PySem.W.excIn K CC [.type "ValueError", .type "Exception", .type "BaseException", .type "object"] "ValueError.__new__" = true)
  (eCb : PySem.W.subIn K (.ref CC) (.type "BaseException") = some true)
  (eCt : PySem.W.typeIn K (.ref CC) = some (.type "type"))
  (eCc : PySem.W.isClsIn K CC = true)
  (sBB : PySem.W.subIn K (.ref CB) (.ref CB) = some true)
  (sCB : PySem.W.subIn K (.ref CC) (.ref CB) = some false)
  (sCC : PySem.W.subIn K (.ref CC) (.ref CC) = some true)
  (sPB : PySem.W.subIn K (.ref CP) (.ref CB) = some false)
  (sPC : PySem.W.subIn K (.ref CP) (.ref CC) = some false)
  (sPP : PySem.W.subIn K (.ref CP) (.ref CP) = some true)
  : ∃ fd : FuncData, (∀ (s : Shared) (v : Value), BindsTo s fd ⟨[v], []⟩ [("_law_script", v)]) ∧ ∀ base : Heap, K.In base → base.Ns mainGlobals mg → FnOk P w K mg base CX0 8 fa fd ["_law_script"] (spLaw K) := by
  have e := hfa.symm.trans (PySem.W.mg_of X G a26)
  cases e
  have B : Bl mg := { isi := PySem.W.mg_none_of X G z_isi, int := PySem.W.mg_none_of X G z_int, bool := PySem.W.mg_none_of X G z_bool, list := PySem.W.mg_none_of X G z_list, tuple := PySem.W.mg_none_of X G z_tuple, len := PySem.W.mg_none_of X G z_len, enum := PySem.W.mg_none_of X G z_enum, sorted := PySem.W.mg_none_of X G z_sorted, max := PySem.W.mg_none_of X G z_max, min := PySem.W.mg_none_of X G z_min, abs := PySem.W.mg_none_of X G z_abs, range := PySem.W.mg_none_of X G z_range, sum := PySem.W.mg_none_of X G z_sum, set := PySem.W.mg_none_of X G z_set }
  have T : BadTxt P K mg CB fI := { gC := PySem.W.mg_of X G bA, gS := PySem.W.mg_none_of X G z_super, cls := ⟨nm, q, N, bs, bm, sn, sub, ab, col, dd, m0, m1, m2, m3, m5, bL, bR⟩, sa := bsa, nP := bnP, nW := bnW, iC := bi, tC := bt, kC := bk, exC := be, vlC := bv, tyC := by_, suC := bs_, mrC := bm_, any := bo, top := btop, fn := ⟨ocI, odI, dcI, pmI, anI, cda, cc, ctI, slI, bl, bc, ⟨ccl, cdd, vs, ccs, file, tf, bx1, bx2, bx3⟩, cl, cld, csl, bx4⟩ }
  have R : Errs K mg CB CP CC := { gB := PySem.W.mg_of X G bA, gC := PySem.W.mg_of X G eCa, gP := PySem.W.mg_of X G ePa, xf := ⟨bga, bgg, be, bhd⟩, fP := bnP, fW := bnW, bb := exm_is be bic by_ sBB, cb := exm_is be bic by_ sCB, cc := exm_is eCb eCc eCt sCC, pb := exm_is be bic by_ sPB, pc := exm_is eCb eCc eCt sPC, pp := exm_is ePb ePc ePt sPP }
  have xP : ExC K mg "BadPeople" CP := ⟨PySem.W.mg_of X G ePa, ePk, ePq, ePb, ePt⟩
  have xC : ExC K mg "BadCoin" CC := ⟨PySem.W.mg_of X G eCa, eCk, eCq, eCb, eCt⟩
  refine ⟨PySem.W.fnOf "law" "law" (defArgs s_law) (defBody s_law) (defScope s_law) .none kV26 dc26 pm26 an26 cd26 ct26, fun s v => .of_eq rfl, fun base _ _ => ?_⟩
  have F0 := fun_mk (st := s_is_whole) l0 c0 k0
  have G_whole := clx (ok_is_whole (P := P) (w := w) (base := base) (k := 0) F0 B) (PySem.W.mg_of X G a0) k0 (F0.binds (ps := ["thing", "low", "high"]) fun _ _ _ _ _ _ us hl => match us, hl with | [_, _, _], _ => rfl)
  have F1 := fun_mk (st := s_is_sequence) l1 c1 k1
  have G_seq := clx (ok_is_sequence (P := P) (w := w) (base := base) (k := 0) F1 B) (PySem.W.mg_of X G a1) k1 (F1.binds (ps := ["thing", "low", "high"]) fun _ _ _ _ _ _ us hl => match us, hl with | [_, _, _], _ => rfl)
  have F3 := fun_mk (st := s_whole_within) l3 c3 k3
  have G_within := clx (ok_whole_within (P := P) (w := w) (base := base) (k := 0) F3 B) (PySem.W.mg_of X G a3) k3 (F3.binds (ps := ["thing", "low", "high"]) fun _ _ _ _ _ _ us hl => match us, hl with | [_, _, _], _ => rfl)
  have F4 := fun_mk (st := s_next_room) l4 c4 k4
  have G_room := clx (ok_next_room (P := P) (w := w) (base := base) (mg := mg) (k := 0) F4) (PySem.W.mg_of X G a4) k4 (F4.binds (ps := ["total", "people"]) fun _ _ _ _ _ _ us hl => match us, hl with | [_, _], _ => rfl)
  have F14 := fun_mk (st := s_l_is_whole) l14 c14 k14
  have G_isint := clx (ok_l_is_whole (P := P) (w := w) (base := base) (k := 0) F14 B) (PySem.W.mg_of X G a14) k14 (F14.binds (ps := ["_law_thing"]) fun _ _ _ _ _ _ us hl => match us, hl with | [_], _ => rfl)
  have F15 := fun_mk (st := s_l_up) l15 c15 k15
  have G_up := clx (ok_l_up (P := P) (w := w) (base := base) (mg := mg) (k := 0) F15) (PySem.W.mg_of X G a15) k15 (F15.binds (ps := ["_law_total", "_law_people"]) fun _ _ _ _ _ _ us hl => match us, hl with | [_, _], _ => rfl)
  have F17 := fun_mk (st := s_l_next) l17 c17 k17
  have G_next := clx (ok_l_next (P := P) (w := w) (base := base) (mg := mg) (k := 0) F17) (PySem.W.mg_of X G a17) k17 (F17.binds (ps := ["_law_total", "_law_people"]) fun _ _ _ _ _ _ us hl => match us, hl with | [_, _], _ => rfl)
  have F10 := fun_mk (st := s_l_mix) l10 c10 k10
  have G_mix := clx (ok_l_mix (P := P) (w := w) (base := base) F10 B) (PySem.W.mg_of X G a10) k10 (F10.binds (ps := ["_law_number", "_law_turn"]) fun _ _ _ _ _ _ us hl => match us, hl with | [_, _], _ => rfl)
  have F11 := fun_mk (st := s_l_hand) l11 c11 k11
  have G_hand := clx (ok_l_hand (P := P) (w := w) (base := base) F11 B) (PySem.W.mg_of X G a11) k11 (F11.binds (ps := ["_law_script"]) fun _ _ _ _ _ _ us hl => match us, hl with | [_], _ => rfl)
  have FP : FunCP K fP _ := ⟨⟨ocP, odP, .ref Td, kVP, dcP, pmP, anP, cdP, ctP, slP, rfl, lP, cP, .inr ⟨by simp, Td, _, [.int 1 tT], nT, rfl, lT, rfl, .cons ⟨_, rfl⟩ .nil⟩, .inl rfl⟩, kP⟩
  have G_people := clx (ok_chk_people (P := P) (w := w) (base := base) FP G_whole (PySem.W.mg_of X G mc2) xP) (PySem.W.mg_of X G aP) kP (bi_chk_people FP)
  have F2 := fun_mk (st := s_chk_pool) l2 c2 k2
  have G_pool := clx (ok_chk_pool (P := P) (w := w) (base := base) F2 B G_seq G_whole (PySem.W.mg_of X G mc0) (PySem.W.mg_of X G mc1) T) (PySem.W.mg_of X G a2) k2 (F2.binds (ps := ["coins"]) fun _ _ _ _ _ _ us hl => match us, hl with | [_], _ => rfl)
  have F5 := fun_mk (st := s_room_row) l5 c5 k5
  have G_row := clx (ok_room_row (P := P) (w := w) (base := base) F5 B G_pool G_people G_room) (PySem.W.mg_of X G a5) k5 (F5.binds (ps := ["pool", "people"]) fun _ _ _ _ _ _ us hl => match us, hl with | [_, _], _ => rfl)
  have F6 := fun_mk (st := s_fitting_range) l6 c6 k6
  have G_fit := clx (ok_fitting_range (P := P) (w := w) (base := base) F6 B G_room) (PySem.W.mg_of X G a6) k6 (F6.binds (ps := ["coins", "people"]) fun _ _ _ _ _ _ us hl => match us, hl with | [_, _], _ => rfl)
  have F7 := fun_mk (st := s_fitting_coins) l7 c7 k7
  have G_fits := clx (ok_fitting_coins (P := P) (w := w) (base := base) F7 G_pool G_people G_fit) (PySem.W.mg_of X G a7) k7 (F7.binds (ps := ["pool", "people"]) fun _ _ _ _ _ _ us hl => match us, hl with | [_, _], _ => rfl)
  have F8 := fun_mk (st := s_next_coin) l8 c8 k8
  have G_nextc := clx (ok_next_coin (P := P) (w := w) (base := base) F8 G_fits) (PySem.W.mg_of X G a8) k8 (F8.binds (ps := ["pool", "people"]) fun _ _ _ _ _ _ us hl => match us, hl with | [_, _], _ => rfl)
  have F9 := fun_mk (st := s_may_put) l9 c9 k9
  have G_put := clx (ok_may_put (P := P) (w := w) (base := base) F9 G_pool G_people G_within G_fit xC) (PySem.W.mg_of X G a9) k9 (F9.binds (ps := ["pool", "coin", "people"]) fun _ _ _ _ _ _ us hl => match us, hl with | [_, _, _], _ => rfl)
  have F12 := fun_mk (st := s_l_draw) l12 c12 k12
  have G_draw := clx (ok_l_draw (P := P) (w := w) (base := base) F12 B G_mix) (PySem.W.mg_of X G a12) k12 (F12.binds (ps := ["_law_hand_here", "_law_many"]) fun _ _ _ _ _ _ us hl => match us, hl with | [_, _], _ => rfl)
  have F13 := fun_mk (st := s_l_pick) l13 c13 k13
  have G_pick := clx (ok_l_pick (P := P) (w := w) (base := base) F13 B G_draw) (PySem.W.mg_of X G a13) k13 (F13.binds (ps := ["_law_hand_here", "_law_things"]) fun _ _ _ _ _ _ us hl => match us, hl with | [_, _], _ => rfl)
  have F18 := fun_mk (st := s_l_odd_people) l18 c18 k18
  have G_odd := clx (ok_l_odd_people (P := P) (w := w) (base := base) F18 G_pick) (PySem.W.mg_of X G a18) k18 (F18.binds (ps := ["_law_hand_here"]) fun _ _ _ _ _ _ us hl => match us, hl with | [_], _ => rfl)
  have F16 := fun_mk (st := s_l_serves) l16 c16 k16
  have G_serves := clx (ok_l_serves (P := P) (w := w) (base := base) F16 B G_up) (PySem.W.mg_of X G a16) k16 (F16.binds (ps := ["_law_coins", "_law_people"]) fun _ _ _ _ _ _ us hl => match us, hl with | [_, _], _ => rfl)
  have F19 := fun_mk (st := s_l_pool) l19 c19 k19
  have G_mk := clx (ok_l_pool (P := P) (w := w) (base := base) F19 B G_draw G_next) (PySem.W.mg_of X G a19) k19 (F19.binds (ps := ["_law_hand_here", "_law_people", "_law_most"]) fun _ _ _ _ _ _ us hl => match us, hl with | [_, _, _], _ => rfl)
  have F20 := fun_mk (st := s_l_robbed) l20 c20 k20
  have G_rob := clx (ok_l_robbed (P := P) (w := w) (base := base) F20 B G_draw) (PySem.W.mg_of X G a20) k20 (F20.binds (ps := ["_law_hand_here", "_law_pool_here"]) fun _ _ _ _ _ _ us hl => match us, hl with | [_, _], _ => rfl)
  have F21 := fun_mk (st := s_l_told) l21 c21 k21
  have G_told := clx (ok_l_told (P := P) (w := w) (base := base) F21 R G_row G_fits G_nextc G_put) (PySem.W.mg_of X G a21) k21 (F21.binds (ps := ["_law_name", "_law_pool_here", "_law_coin", "_law_people"]) fun _ _ _ _ _ _ us hl => match us, hl with | [_, _, _, _], _ => rfl)
  have F22 := fun_mk (st := s_l_rooms_right) l22 c22 k22
  have G_rr := clx (ok_l_rooms_right (P := P) (w := w) (base := base) F22 B G_row G_isint G_next) (PySem.W.mg_of X G a22) k22 (F22.binds (ps := ["_law_pool_here", "_law_people"]) fun _ _ _ _ _ _ us hl => match us, hl with | [_, _], _ => rfl)
  have F23 := fun_mk (st := s_l_tried) l23 c23 k23
  have G_tried := clx (ok_l_tried (P := P) (w := w) (base := base) F23 B G_draw G_next) (PySem.W.mg_of X G a23) k23 (F23.binds (ps := ["_law_hand_here", "_law_pool_here", "_law_people"]) fun _ _ _ _ _ _ us hl => match us, hl with | [_, _, _], _ => rfl)
  have F24 := fun_mk (st := s_l_stretch_right) l24 c24 k24
  have G_stretch := clx (ok_l_stretch (P := P) (w := w) (base := base) F24 B G_fits G_nextc G_put G_isint G_serves G_tried) (PySem.W.mg_of X G a24) k24 (F24.binds (ps := ["_law_hand_here", "_law_pool_here", "_law_people"]) fun _ _ _ _ _ _ us hl => match us, hl with | [_, _, _], _ => rfl)
  have F25 := fun_mk (st := s_l_refusals_right) l25 c25 k25
  have G_ref := clx (ok_l_refus (P := P) (w := w) (base := base) F25 B G_draw G_pick G_odd G_told) (PySem.W.mg_of X G a25) k25 (F25.binds (ps := ["_law_hand_here", "_law_pool_here", "_law_people"]) fun _ _ _ _ _ _ us hl => match us, hl with | [_, _, _], _ => rfl)
  exact ok_law (P := P) (w := w) (base := base) (fun_mk (st := s_law) l26 c26 k26) B G_hand G_draw G_mk G_rob G_rr G_stretch G_fits G_ref
end K21

open PySem PySem.W PyProof.Rows
set_option maxRecDepth 100000
set_option maxHeartbeats 0 in
theorem PySem.Challenge.cw_anyworths_k21_whole_coins_that_come_are_holds : PySem.Challenge.rw_anyworths_k21_whole_coins_that_come_are.Holds := by
  w_on; o_law; k_head; (case hw => w_witness2)
  k_fill
  refine L2.walk_of (l := PySem.Challenge.rw_anyworths_k21_whole_coins_that_come_are) (n := 63) (k := 8) (x := "_law_script") (CX := fun _ => L2.CX0) (sp := fun w => K21.spLaw _) rfl (by decide) rfl ⟨rfl, by decide, by decide⟩ (fun w h Y => PySem.W.kIn_of Y) ?F (fun _ _ a ns hl _ hS => ⟨a, ns, rfl, hS, hl, fun _ => rfl⟩) (fun _ _ _ _ _ h => h)
  case F =>
    intro w mg fa h KX G hmg
    refine' K21.all_mk KX G hmg ?a0 ?l0 ?c0 ?k0 ?a1 ?l1 ?c1 ?k1 ?a2 ?l2 ?c2 ?k2 ?a3 ?l3 ?c3 ?k3 ?a4 ?l4 ?c4 ?k4 ?a5 ?l5 ?c5 ?k5 ?a6 ?l6 ?c6 ?k6 ?a7 ?l7 ?c7 ?k7 ?a8 ?l8 ?c8 ?k8 ?a9 ?l9 ?c9 ?k9 ?a10 ?l10 ?c10 ?k10 ?a11 ?l11 ?c11 ?k11 ?a12 ?l12 ?c12 ?k12 ?a13 ?l13 ?c13 ?k13 ?a14 ?l14 ?c14 ?k14 ?a15 ?l15 ?c15 ?k15 ?a16 ?l16 ?c16 ?k16 ?a17 ?l17 ?c17 ?k17 ?a18 ?l18 ?c18 ?k18 ?a19 ?l19 ?c19 ?k19 ?a20 ?l20 ?c20 ?k20 ?a21 ?l21 ?c21 ?k21 ?a22 ?l22 ?c22 ?k22 ?a23 ?l23 ?c23 ?k23 ?a24 ?l24 ?c24 ?k24 ?a25 ?l25 ?c25 ?k25 ?a26 ?l26 ?c26 ?k26 ?aP ?lP ?cP ?kP ?lT ?mc0 ?mc1 ?mc2 ?z_isi ?z_int ?z_bool ?z_list ?z_tuple ?z_len ?z_enum ?z_sorted ?z_max ?z_min ?z_abs ?z_range ?z_sum ?z_set ?z_super ?bA ?bL ?bR ?bsa ?bnP ?bnW ?bi ?bl ?bt ?bc ?bk ?be ?bv ?by_ ?bs_ ?bm_ ?bo ?btop ?bx1 ?bx2 ?bx3 ?bx4 ?bga ?bgg ?bhd ?bic ?ePa ?ePk ?ePq ?ePb ?ePt ?ePc ?eCa ?eCk ?eCq ?eCb ?eCt ?eCc ?sBB ?sCB ?sCC ?sPB ?sPC ?sPP
    case a0 => k_is
    case l0 => k_is
    case c0 => k_is
    case k0 => k_is
    case a1 => k_is
    case l1 => k_is
    case c1 => k_is
    case k1 => k_is
    case a2 => k_is
    case l2 => k_is
    case c2 => k_is
    case k2 => k_is
    case a3 => k_is
    case l3 => k_is
    case c3 => k_is
    case k3 => k_is
    case a4 => k_is
    case l4 => k_is
    case c4 => k_is
    case k4 => k_is
    case a5 => k_is
    case l5 => k_is
    case c5 => k_is
    case k5 => k_is
    case a6 => k_is
    case l6 => k_is
    case c6 => k_is
    case k6 => k_is
    case a7 => k_is
    case l7 => k_is
    case c7 => k_is
    case k7 => k_is
    case a8 => k_is
    case l8 => k_is
    case c8 => k_is
    case k8 => k_is
    case a9 => k_is
    case l9 => k_is
    case c9 => k_is
    case k9 => k_is
    case a10 => k_is
    case l10 => k_is
    case c10 => k_is
    case k10 => k_is
    case a11 => k_is
    case l11 => k_is
    case c11 => k_is
    case k11 => k_is
    case a12 => k_is
    case l12 => k_is
    case c12 => k_is
    case k12 => k_is
    case a13 => k_is
    case l13 => k_is
    case c13 => k_is
    case k13 => k_is
    case a14 => k_is
    case l14 => k_is
    case c14 => k_is
    case k14 => k_is
    case a15 => k_is
    case l15 => k_is
    case c15 => k_is
    case k15 => k_is
    case a16 => k_is
    case l16 => k_is
    case c16 => k_is
    case k16 => k_is
    case a17 => k_is
    case l17 => k_is
    case c17 => k_is
    case k17 => k_is
    case a18 => k_is
    case l18 => k_is
    case c18 => k_is
    case k18 => k_is
    case a19 => k_is
    case l19 => k_is
    case c19 => k_is
    case k19 => k_is
    case a20 => k_is
    case l20 => k_is
    case c20 => k_is
    case k20 => k_is
    case a21 => k_is
    case l21 => k_is
    case c21 => k_is
    case k21 => k_is
    case a22 => k_is
    case l22 => k_is
    case c22 => k_is
    case k22 => k_is
    case a23 => k_is
    case l23 => k_is
    case c23 => k_is
    case k23 => k_is
    case a24 => k_is
    case l24 => k_is
    case c24 => k_is
    case k24 => k_is
    case a25 => k_is
    case l25 => k_is
    case c25 => k_is
    case k25 => k_is
    case a26 => k_is
    case l26 => k_is
    case c26 => k_is
    case k26 => k_is
    case aP => k_is
    case lP => k_is
    case cP => k_is
    case kP => k_is
    case lT => k_is
    case mc0 => k_is
    case mc1 => k_is
    case mc2 => k_is
    case z_isi => k_is
    case z_int => k_is
    case z_bool => k_is
    case z_list => k_is
    case z_tuple => k_is
    case z_len => k_is
    case z_enum => k_is
    case z_sorted => k_is
    case z_max => k_is
    case z_min => k_is
    case z_abs => k_is
    case z_range => k_is
    case z_sum => k_is
    case z_set => k_is
    case z_super => k_is
    case bA => k_is
    case bL => k_is
    case bR => first | rfl | decide +kernel
    case bsa => k_is
    case bnP => k_is
    case bnW => k_is
    case bi => k_is
    case bl => k_is
    case bt => k_is
    case bc => k_is
    case bk => k_is
    case be => k_is
    case bv => k_is
    case by_ => k_is
    case bs_ => first | k_is | ks_is
    case bm_ => k_is
    case bo => k_is
    case btop => first | rfl | decide +kernel
    case bx1 => k_is
    case bx2 => rfl
    case bx3 => first | rfl | decide | decide +kernel
    case bx4 => k_is
    case bga => k_is
    case bgg => k_is
    case bhd => k_is
    case bic => k_is
    case ePa => k_is
    case ePk => k_is
    case ePq => k_exc
    case ePb => k_is
    case ePt => k_is
    case ePc => k_is
    case eCa => k_is
    case eCk => k_is
    case eCq => k_exc
    case eCb => k_is
    case eCt => k_is
    case eCc => k_is
    case sBB => first | k_is | rfl
    case sCB => first | k_is | rfl
    case sCC => first | k_is | rfl
    case sPB => first | k_is | rfl
    case sPC => first | k_is | rfl
    case sPP => first | k_is | rfl

import PyProof.Rows.All
import Wide.All
import OpenK.AllK
import Wide.FinOn
import KE.KStateDown
import Lean
import HandS.ForMost
import HandS.More
import HandS.WordsExc
import HandS.Defaults
import HandS.DictComp
import HandS.IsInst
import HandS.TupLe
import HandS.TupAny
import HandS.Deep
import HandS.Style
import HandS.Zip
import HandS.Walk
import HandS.WideBits
import HandS.Set
import HandS.SetFor
import HandS.Strs
import HandS.TupSets
import HandS.SortOrd
import HandS.SortKw
import HandS.Conv
import HandS.Head0
import HandS.Head1
import HandS.Head2
import HandS.HeadEnd
import HandS.HeadHook1
import HandS.HeadHook2
import KE.GoesNew
import KE.DataMinMax
import KE.SortData
import HandS.Lambda
import KE.SortKeyHeap
import HandS.HeadHook3
import HandS.HeadHook4
import HandS.HeadWalk
import HandS.EndTab
import HandS.NestedK
import PySem.Challenge.RW_lastoflot_k43_whole_lists_that_fit
/-! ## K1Math -/
set_option linter.all false
set_option maxRecDepth 100000
/-! K1Math: the mathematics of law k43, plain Lean: masks, placing the least one who can stand, lists that fit. -/
namespace K43

/-! ### masks -/
/-- the bits of some people -/
def mk : List Nat → Nat
  | [] => 0
  | p :: c => 2 ^ p + mk c
theorem mk_sum : ∀ c : List Nat, (c.map fun p => ((2 : Int) ^ p)).sum = ((mk c : Nat) : Int)
  | [] => rfl
  | p :: c => by
    rw [List.map_cons, List.sum_cons, mk_sum c]
    show (2 : Int) ^ p + ((mk c : Nat) : Int) = ((2 ^ p + mk c : Nat) : Int)
    rw [Int.natCast_add, Int.natCast_pow]
    rfl
theorem tb_add {p m : Nat} (h : m.testBit p = false) (i : Nat) : (2 ^ p + m).testBit i = (decide (i = p) || m.testBit i) := by
  have hm : m = 2 ^ (p + 1) * (m / 2 ^ (p + 1)) + m % 2 ^ (p + 1) := (Nat.div_add_mod m (2 ^ (p + 1))).symm
  have hr : m % 2 ^ (p + 1) < 2 ^ (p + 1) := Nat.mod_lt _ (Nat.two_pow_pos _)
  generalize m / 2 ^ (p + 1) = q at hm
  generalize m % 2 ^ (p + 1) = r at hm hr
  have hrp : r.testBit p = false := by
    have e : m.testBit p = r.testBit p := by
      rw [hm, Nat.testBit_two_pow_mul_add q hr, if_pos (Nat.lt_succ_self p)]
    rw [← e]; exact h
  have hlt : r < 2 ^ p := by
    rcases Nat.lt_or_ge r (2 ^ p) with z | z
    · exact z
    · exfalso
      have h2 : r / 2 ^ p = 1 := by
        have h3 : r / 2 ^ p < 2 := (Nat.div_lt_iff_lt_mul (Nat.two_pow_pos p)).mpr (by rw [Nat.pow_succ] at hr; omega)
        have h4 : 0 < r / 2 ^ p := Nat.div_pos z (Nat.two_pow_pos p)
        omega
      have h5 : r.testBit p = true := by
        rw [Nat.testBit_eq_decide_div_mod_eq, h2]
        decide
      rw [h5] at hrp
      cases hrp
  have hs : 2 ^ p + r < 2 ^ (p + 1) := by rw [Nat.pow_succ]; omega
  have e1 : 2 ^ p + m = 2 ^ (p + 1) * q + (2 ^ p + r) := by omega
  rw [e1, Nat.testBit_two_pow_mul_add q hs]
  have e2 : m.testBit i = if i < p + 1 then r.testBit i else q.testBit (i - (p + 1)) := by
    rw [hm, Nat.testBit_two_pow_mul_add q hr]
  rw [e2]
  by_cases hi : i < p + 1
  · rw [if_pos hi, if_pos hi]
    by_cases e : i = p
    · subst e
      rw [Nat.testBit_two_pow_add_eq, hrp]
      simp
    · rw [Nat.testBit_two_pow_add_gt (by omega)]
      simp [e]
  · rw [if_neg hi, if_neg hi]
    have : ¬ i = p := by omega
    simp [this]
theorem mk_tb : ∀ {c : List Nat}, c.Nodup → ∀ i, (mk c).testBit i = decide (i ∈ c)
  | [], _, i => by simp [mk]
  | p :: c, h, i => by
    obtain ⟨h1, h2⟩ := List.nodup_cons.mp h
    have e : (mk c).testBit p = false := by rw [mk_tb h2 p]; exact decide_eq_false h1
    show (2 ^ p + mk c).testBit i = _
    rw [tb_add e i, mk_tb h2 i]
    simp only [List.mem_cons, Bool.decide_or]
/-- all of some bits are among bits -/
def hld (a b : Nat) : Bool := a &&& b == b
theorem hld_iff {a b : Nat} : hld a b = true ↔ ∀ i, b.testBit i = true → a.testBit i = true := by
  unfold hld
  rw [beq_iff_eq]
  constructor
  · intro h i hi
    have e : (a &&& b).testBit i = b.testBit i := by rw [h]
    rw [Nat.testBit_and, hi, Bool.and_true] at e
    exact e
  · intro h
    refine Nat.eq_of_testBit_eq fun i => ?_
    rw [Nat.testBit_and]
    cases e : b.testBit i with
    | false => simp
    | true => rw [h i e]; rfl
theorem tb_flip {m p : Nat} (i : Nat) : (m ^^^ 2 ^ p).testBit i = (m.testBit i ^^ decide (p = i)) := by
  rw [Nat.testBit_xor, Nat.testBit_two_pow]
theorem tb_or {m p : Nat} (i : Nat) : (m ||| 2 ^ p).testBit i = (m.testBit i || decide (p = i)) := by
  rw [Nat.testBit_or, Nat.testBit_two_pow]
theorem tb_all (n i : Nat) : (2 ^ n - 1).testBit i = decide (i < n) := Nat.testBit_two_pow_sub_one n i
/-- the places of the bits, below k -/
def bl (k m : Nat) : List Nat := (List.range k).filter fun i => m.testBit i
theorem bl_eq {k n m : Nat} (hk : m < 2 ^ k) (hn : ∀ i, m.testBit i = true → i < n) : bl k m = (List.range n).filter fun i => m.testBit i := by
  have key : ∀ a b : Nat, (∀ i, m.testBit i = true → i < a) → (List.range (a + b)).filter (fun i => m.testBit i) = (List.range a).filter fun i => m.testBit i := by
    intro a b h
    induction b with
    | zero => rfl
    | succ b ih =>
      rw [← Nat.add_assoc, List.range_succ, List.filter_append, ih]
      have e : m.testBit (a + b) = false := by
        cases q : m.testBit (a + b) with
        | false => rfl
        | true =>
          have := h _ q
          omega
      simp [e]
  have hk2 : ∀ i, m.testBit i = true → i < k := fun i hi => by
    rcases Nat.lt_or_ge i k with z | z
    · exact z
    · exfalso
      have : m.testBit i = false := Nat.testBit_lt_two_pow (Nat.lt_of_lt_of_le hk (Nat.pow_le_pow_right (by decide) z))
      rw [this] at hi
      cases hi
  unfold bl
  rcases Nat.le_total k n with z | z
  · obtain ⟨d, rfl⟩ := Nat.exists_eq_add_of_le z
    exact (key k d hk2).symm
  · obtain ⟨d, rfl⟩ := Nat.exists_eq_add_of_le z
    exact key n d hn

/-! ### crowds and lots -/
/-- a crowd of n people -/
structure Crowd (n : Nat) (c : List Nat) : Prop where
  asc : c.Pairwise (· < ·)
  lt : ∀ i ∈ c, i < n
theorem asc_nd {c : List Nat} (h : c.Pairwise (· < ·)) : c.Nodup := h.imp fun h => Nat.ne_of_lt h
theorem Crowd.nd {n : Nat} {c : List Nat} (h : Crowd n c) : c.Nodup := asc_nd h.asc
/-- ascending lists of the same members are one -/
theorem asc_ext : ∀ {a b : List Nat}, a.Pairwise (· < ·) → b.Pairwise (· < ·) → (∀ i, i ∈ a ↔ i ∈ b) → a = b
  | [], [], _, _, _ => rfl
  | [], y :: b, _, _, h => absurd ((h y).mpr List.mem_cons_self) List.not_mem_nil
  | x :: a, [], _, _, h => absurd ((h x).mp List.mem_cons_self) List.not_mem_nil
  | x :: a, y :: b, ha, hb, h => by
    obtain ⟨hx, ha'⟩ := List.pairwise_cons.mp ha
    obtain ⟨hy, hb'⟩ := List.pairwise_cons.mp hb
    have e : x = y := by
      rcases List.mem_cons.mp ((h x).mp List.mem_cons_self) with z | z
      · exact z
      · rcases List.mem_cons.mp ((h y).mpr List.mem_cons_self) with z' | z'
        · exact z'.symm
        · have h1 := hy x z
          have h2 := hx y z'
          omega
    subst e
    have : a = b := asc_ext ha' hb' fun i => by
      constructor
      · intro hi
        rcases List.mem_cons.mp ((h i).mp (List.mem_cons_of_mem _ hi)) with z | z
        · have := hx i hi
          omega
        · exact z
      · intro hi
        rcases List.mem_cons.mp ((h i).mpr (List.mem_cons_of_mem _ hi)) with z | z
        · have := hy i hi
          omega
        · exact z
    rw [this]
/-- lists of numbers in the tuples' order -/
def lx : List Nat → List Nat → Bool
  | [], [] => false
  | [], _ :: _ => true
  | _ :: _, [] => false
  | x :: xs, y :: ys => if x = y then lx xs ys else decide (x < y)
theorem lx_irrefl : ∀ a, lx a a = false
  | [] => rfl
  | x :: a => by unfold lx; rw [if_pos rfl]; exact lx_irrefl a
theorem lx_trans : ∀ {a b c : List Nat}, lx a b = true → lx b c = true → lx a c = true
  | [], [], _, h, _ => by cases h
  | [], _ :: _, [], _, h => by cases h
  | [], _ :: _, _ :: _, _, _ => rfl
  | _ :: _, [], _, h, _ => by cases h
  | _ :: _, _ :: _, [], _, h => by cases h
  | x :: a, y :: b, z :: c, h1, h2 => by
    unfold lx at h1 h2 ⊢
    by_cases e1 : x = y
    · rw [if_pos e1] at h1
      by_cases e2 : y = z
      · rw [if_pos e2] at h2
        rw [if_pos (e1.trans e2)]
        exact lx_trans h1 h2
      · rw [if_neg e2] at h2
        rw [if_neg (by omega)]
        rw [e1]; exact h2
    · rw [if_neg e1] at h1
      have h1' := of_decide_eq_true h1
      by_cases e2 : y = z
      · rw [if_neg (by omega)]
        exact decide_eq_true (by omega)
      · rw [if_neg e2] at h2
        have h2' := of_decide_eq_true h2
        rw [if_neg (by omega)]
        exact decide_eq_true (by omega)
theorem lx_tri : ∀ {a b : List Nat}, lx a b = false → lx b a = false → a = b
  | [], [], _, _ => rfl
  | [], _ :: _, h, _ => by cases h
  | _ :: _, [], _, h => by cases h
  | x :: a, y :: b, h1, h2 => by
    unfold lx at h1 h2
    by_cases e : x = y
    · rw [if_pos e] at h1
      rw [if_pos e.symm] at h2
      rw [e, lx_tri h1 h2]
    · rw [if_neg e] at h1
      rw [if_neg (fun z => e z.symm)] at h2
      have h1' := of_decide_eq_false h1
      have h2' := of_decide_eq_false h2
      omega
theorem lx_append : ∀ (r a b : List Nat), lx (r ++ a) (r ++ b) = lx a b
  | [], _, _ => rfl
  | x :: r, a, b => by
    show (if x = x then lx (r ++ a) (r ++ b) else _) = _
    rw [if_pos rfl]; exact lx_append r a b
/-- of one length, what parts them stays -/
theorem lx_ext : ∀ {a b : List Nat} (c d : List Nat), a.length = b.length → lx a b = true → lx (a ++ c) (b ++ d) = true
  | [], [], _, _, _, h => by cases h
  | [], _ :: _, _, _, h, _ => by cases h
  | _ :: _, [], _, _, h, _ => by cases h
  | x :: a, y :: b, c, d, hl, h => by
    unfold lx at h
    show (if x = y then lx (a ++ c) (b ++ d) else decide (x < y)) = true
    by_cases e : x = y
    · rw [if_pos e] at h ⊢
      exact lx_ext c d (Nat.succ.inj hl) h
    · rw [if_neg e] at h ⊢
      exact h
/-- the lots of a book -/
structure Lots (n : Nat) (ls : List (List Nat)) : Prop where
  crowd : ∀ l ∈ ls, Crowd n l
  two : ∀ l ∈ ls, 2 ≤ l.length
  ord : ls.Pairwise fun a b => lx a b = true
  apart : ∀ a ∈ ls, ∀ b ∈ ls, a ≠ b → ¬ ∀ i ∈ a, i ∈ b
/-- sightings -/
structure Sights (n : Nat) (sg : List (List Nat × List Nat)) : Prop where
  crowd : ∀ z ∈ sg, Crowd n z.1
  seen : ∀ z ∈ sg, Crowd n z.2
  sub : ∀ z ∈ sg, ∀ i ∈ z.2, i ∈ z.1

/-! ### who is let in -/
/-- a person is barred: some lot has the person, all others of which are in -/
def barred (ls : List (List Nat)) (inn : List Nat) (p : Nat) : Bool := ls.any fun l => l.contains p && l.all fun k => inn.contains k || k == p
/-- those let in, in the list's order -/
def inside (ls : List (List Nat)) (c : List Nat) : List Nat → List Nat → List Nat
  | [], inn => inn
  | p :: r, inn => inside ls c r (if c.contains p && !barred ls inn p then inn ++ [p] else inn)
/-- ascending -/
def sortN (l : List Nat) : List Nat := l.mergeSort (fun a b => decide (a ≤ b))
/-- those let in, ascending, by the n people's numbers -/
def letin (n : Nat) (ls : List (List Nat)) (order c : List Nat) : List Nat := (List.range n).filter fun i => (inside ls c order []).contains i
def fits (n : Nat) (ls : List (List Nat)) (sg : List (List Nat × List Nat)) (order : List Nat) : Bool := sg.all fun z => letin n ls order z.1 == z.2
/-- a lot is seen -/
def lotSeen (ls : List (List Nat)) (s : List Nat) : Bool := ls.any fun l => l.all fun k => s.contains k
/-- the person can stand next -/
def stand (ls : List (List Nat)) (sg : List (List Nat × List Nat)) (ord : List Nat) (p : Nat) : Bool :=
  sg.all fun z => !(z.1.contains p && !z.2.contains p) || ls.any fun l => l.contains p && l.all fun q => q == p || (z.2.contains q && ord.contains q)
def cand (n : Nat) (ls : List (List Nat)) (sg : List (List Nat × List Nat)) (ord : List Nat) : List Nat := (List.range n).filter fun p => !ord.contains p && stand ls sg ord p
def step (n : Nat) (ls : List (List Nat)) (sg : List (List Nat × List Nat)) (ord : List Nat) : List Nat := ord ++ (cand n ls sg ord).take 1
def placed (n : Nat) (ls : List (List Nat)) (sg : List (List Nat × List Nat)) : Nat → List Nat
  | 0 => []
  | k + 1 => step n ls sg (placed n ls sg k)
def fitting (n : Nat) (ls : List (List Nat)) (sg : List (List Nat × List Nat)) : Option (List Nat) :=
  if sg.any (fun z => lotSeen ls z.2) then none else if (placed n ls sg n).length = n then some (placed n ls sg n) else none
/-- the lists of k of the n people -/
def lists (n : Nat) : Nat → List (List Nat)
  | 0 => [[]]
  | k + 1 => (lists n k).flatMap fun row => ((List.range n).filter fun p => !row.contains p).map fun p => row ++ [p]
/-- a list of the n people -/
structure Order (n : Nat) (o : List Nat) : Prop where
  nd : o.Nodup
  len : o.length = n
  lt : ∀ i ∈ o, i < n
end K43
/-! ## K2Math -/
set_option linter.all false
set_option maxRecDepth 100000
/-! K2Math: lists that fit; the placing of the least one who can stand next gives the least of them. -/
namespace K43
section
variable {n : Nat} {ls : List (List Nat)} {sg : List (List Nat × List Nat)}

/-! ### inside -/
theorem inside_app (c : List Nat) : ∀ (a b inn : List Nat), inside ls c (a ++ b) inn = inside ls c b (inside ls c a inn)
  | [], _, _ => rfl
  | p :: a, b, inn => inside_app c a b _
theorem inside_one (c inn : List Nat) (p : Nat) : inside ls c [p] inn = if c.contains p && !barred ls inn p then inn ++ [p] else inn := rfl
theorem inside_mem {c : List Nat} : ∀ {r inn : List Nat} {i : Nat}, i ∈ inside ls c r inn → i ∈ inn ∨ (i ∈ r ∧ i ∈ c)
  | [], _, _, h => .inl h
  | p :: r, inn, i, h => by
    rcases inside_mem (r := r) h with z | z
    · by_cases e : (c.contains p && !barred ls inn p) = true
      · rw [if_pos e] at z
        rcases List.mem_append.mp z with y | y
        · exact .inl y
        · have y' : i = p := by simpa using y
          subst y'
          have hc : c.contains i = true := (Bool.and_eq_true_iff.mp e).1
          exact .inr ⟨List.mem_cons_self, List.contains_iff_mem.mp hc⟩
      · rw [if_neg e] at z
        exact .inl z
    · exact .inr ⟨List.mem_cons_of_mem _ z.1, z.2⟩
theorem inside_keep {c : List Nat} : ∀ {r inn : List Nat} {i : Nat}, i ∈ inn → i ∈ inside ls c r inn
  | [], _, _, h => h
  | p :: r, inn, i, h => by
    refine inside_keep (r := r) ?_
    by_cases e : (c.contains p && !barred ls inn p) = true
    · rw [if_pos e]; exact List.mem_append_left _ h
    · rw [if_neg e]; exact h
/-- of those ahead, the whole list lets in just those that the part lets in -/
theorem inside_part {c a b : List Nat} (hd : (a ++ b).Nodup) {i : Nat} (hi : i ∈ a) : i ∈ inside ls c (a ++ b) [] ↔ i ∈ inside ls c a [] := by
  rw [inside_app]
  constructor
  · intro h
    rcases inside_mem h with z | z
    · exact z
    · exact absurd rfl ((List.nodup_append.mp hd).2.2 i hi i z.1)
  · exact inside_keep
theorem take_at {o : List Nat} {k p : Nat} (h : o[k]? = some p) : o.take (k + 1) = o.take k ++ [p] := by
  rw [List.take_succ, h]; rfl
theorem barred_iff {inn : List Nat} {p : Nat} : barred ls inn p = true ↔ ∃ l ∈ ls, p ∈ l ∧ ∀ k ∈ l, k ∈ inn ∨ k = p := by
  unfold barred
  rw [List.any_eq_true]
  constructor
  · rintro ⟨l, hl, h⟩
    obtain ⟨h1, h2⟩ := Bool.and_eq_true_iff.mp h
    refine ⟨l, hl, List.contains_iff_mem.mp h1, fun k hk => ?_⟩
    have := List.all_eq_true.mp h2 k hk
    rcases Bool.or_eq_true_iff.mp this with z | z
    · exact .inl (List.contains_iff_mem.mp z)
    · exact .inr (beq_iff_eq.mp z)
  · rintro ⟨l, hl, h1, h2⟩
    refine ⟨l, hl, Bool.and_eq_true_iff.mpr ⟨List.contains_iff_mem.mpr h1, List.all_eq_true.mpr fun k hk => ?_⟩⟩
    rcases h2 k hk with z | z
    · exact Bool.or_eq_true_iff.mpr (.inl (List.contains_iff_mem.mpr z))
    · exact Bool.or_eq_true_iff.mpr (.inr (beq_iff_eq.mpr z))
theorem lotSeen_iff {s : List Nat} : lotSeen ls s = true ↔ ∃ l ∈ ls, ∀ k ∈ l, k ∈ s := by
  unfold lotSeen
  rw [List.any_eq_true]
  constructor
  · rintro ⟨l, hl, h⟩
    exact ⟨l, hl, fun k hk => List.contains_iff_mem.mp (List.all_eq_true.mp h k hk)⟩
  · rintro ⟨l, hl, h⟩
    exact ⟨l, hl, List.all_eq_true.mpr fun k hk => List.contains_iff_mem.mpr (h k hk)⟩
theorem stand_iff {ord : List Nat} {p : Nat} : stand ls sg ord p = true ↔ ∀ z ∈ sg, p ∈ z.1 → p ∉ z.2 → ∃ l ∈ ls, p ∈ l ∧ ∀ q ∈ l, q = p ∨ (q ∈ z.2 ∧ q ∈ ord) := by
  unfold stand
  rw [List.all_eq_true]
  constructor
  · intro h z hz h1 h2
    rcases Bool.or_eq_true_iff.mp (h z hz) with y | y
    · exfalso
      have y' : (z.1.contains p && !z.2.contains p) = false := by
        cases e : (z.1.contains p && !z.2.contains p) with
        | false => rfl
        | true => rw [e] at y; cases y
      rw [List.contains_iff_mem.mpr h1] at y'
      have : z.2.contains p = true := by simpa using y'
      exact h2 (List.contains_iff_mem.mp this)
    · obtain ⟨l, hl, y⟩ := List.any_eq_true.mp y
      obtain ⟨y1, y2⟩ := Bool.and_eq_true_iff.mp y
      refine ⟨l, hl, List.contains_iff_mem.mp y1, fun q hq => ?_⟩
      rcases Bool.or_eq_true_iff.mp (List.all_eq_true.mp y2 q hq) with x | x
      · exact .inl (beq_iff_eq.mp x)
      · obtain ⟨x1, x2⟩ := Bool.and_eq_true_iff.mp x
        exact .inr ⟨List.contains_iff_mem.mp x1, List.contains_iff_mem.mp x2⟩
  · intro h z hz
    by_cases h1 : p ∈ z.1
    · by_cases h2 : p ∈ z.2
      · have : z.2.contains p = true := List.contains_iff_mem.mpr h2
        rw [this]; simp
      · obtain ⟨l, hl, y1, y2⟩ := h z hz h1 h2
        refine Bool.or_eq_true_iff.mpr (.inr (List.any_eq_true.mpr ⟨l, hl, Bool.and_eq_true_iff.mpr ⟨List.contains_iff_mem.mpr y1, List.all_eq_true.mpr fun q hq => ?_⟩⟩))
        rcases y2 q hq with x | x
        · exact Bool.or_eq_true_iff.mpr (.inl (beq_iff_eq.mpr x))
        · exact Bool.or_eq_true_iff.mpr (.inr (Bool.and_eq_true_iff.mpr ⟨List.contains_iff_mem.mpr x.1, List.contains_iff_mem.mpr x.2⟩))
    · have : z.1.contains p = false := by
        cases e : z.1.contains p with
        | false => rfl
        | true => exact absurd (List.contains_iff_mem.mp e) h1
      rw [this]; simp
theorem stand_mono {a b : List Nat} {p : Nat} (h : ∀ i ∈ a, i ∈ b) (s : stand ls sg a p = true) : stand ls sg b p = true := by
  refine stand_iff.mpr fun z hz h1 h2 => ?_
  obtain ⟨l, hl, y1, y2⟩ := stand_iff.mp s z hz h1 h2
  refine ⟨l, hl, y1, fun q hq => ?_⟩
  rcases y2 q hq with x | x
  · exact .inl x
  · exact .inr ⟨x.1, h q x.2⟩

/-! ### lists of n people -/
/-- pigeons -/
theorem nd_len : ∀ (l D : List Nat), l.Nodup → (∀ x ∈ l, x ∈ D) → l.length ≤ D.length
  | [], _, _, _ => Nat.zero_le _
  | x :: l, D, hn, h => by
    obtain ⟨h1, h2⟩ := List.nodup_cons.mp hn
    have hx := h x List.mem_cons_self
    have ih := nd_len l (D.erase x) h2 fun y hy => (List.mem_erase_of_ne (fun e => h1 (by rw [← e]; exact hy))).mpr (h y (List.mem_cons_of_mem _ hy))
    rw [List.length_erase_of_mem hx] at ih
    have : 0 < D.length := List.length_pos_of_mem hx
    rw [List.length_cons]
    omega
theorem small_of {o : List Nat} (hn : o.Nodup) (hlt : ∀ i ∈ o, i < n) : o.length ≤ n := by
  have := nd_len o (List.range n) hn fun x hx => List.mem_range.mpr (hlt x hx)
  rw [List.length_range] at this
  exact this
/-- n unlike numbers below n are all of them -/
theorem full (n : Nat) (o : List Nat) (hn : o.Nodup) (hl : o.length = n) (hlt : ∀ i ∈ o, i < n) (i : Nat) (hi : i < n) : i ∈ o := by
  refine Classical.byContradiction fun hc => ?_
  have := small_of (n := n) (List.nodup_cons.mpr ⟨hc, hn⟩) fun x hx => by
    rcases List.mem_cons.mp hx with z | z
    · rw [z]; exact hi
    · exact hlt x z
  rw [List.length_cons, hl] at this
  omega
theorem Order.all {o : List Nat} (h : Order n o) {i : Nat} (hi : i < n) : i ∈ o := full n o h.nd h.len h.lt i hi
/-- of a lot, the one who stands farthest behind -/
theorem last_ex {o l : List Nat} (hne : l ≠ []) : ∀ m, (∀ q ∈ l, q ∈ o.take m) → ∃ k p, o[k]? = some p ∧ p ∈ l ∧ ∀ q ∈ l, q ∈ o.take (k + 1)
  | 0, h => by
    cases l with
    | nil => exact absurd rfl hne
    | cons a l =>
      have := h a List.mem_cons_self
      simp at this
  | m + 1, h => by
    by_cases e : ∀ q ∈ l, q ∈ o.take m
    · exact last_ex hne m e
    · have : ∃ q ∈ l, q ∉ o.take m := by
        refine Classical.byContradiction fun z => e fun q hq => Classical.byContradiction fun y => z ⟨q, hq, y⟩
      obtain ⟨q, hq, hn⟩ := this
      cases ek : o[m]? with
      | none =>
        exfalso
        have h1 := h q hq
        rw [List.take_succ, ek] at h1
        exact hn (by simpa using h1)
      | some p =>
        have h1 := h q hq
        rw [take_at ek] at h1
        rcases List.mem_append.mp h1 with z | z
        · exact absurd z hn
        · have z' : q = p := by simpa using z
          exact ⟨m, p, ek, by rw [← z']; exact hq, h⟩
theorem order_split {o : List Nat} {k p : Nat} (hk : o[k]? = some p) : o = o.take k ++ p :: o.drop (k + 1) := by
  obtain ⟨h, e⟩ := List.getElem?_eq_some_iff.mp hk
  rw [← e, ← List.drop_eq_getElem_cons h, List.take_append_drop]
theorem not_ahead {o : List Nat} (hn : o.Nodup) {k p : Nat} (hk : o[k]? = some p) : p ∉ o.take k := by
  intro h
  have e := order_split hk
  rw [e] at hn
  exact (List.nodup_append.mp hn).2.2 p h p List.mem_cons_self rfl

/-! ### what fits -/
def fitsP (ls : List (List Nat)) (sg : List (List Nat × List Nat)) (o : List Nat) : Prop := ∀ z ∈ sg, ∀ i, i ∈ inside ls z.1 o [] ↔ i ∈ z.2
def canP (ls : List (List Nat)) (sg : List (List Nat × List Nat)) (o : List Nat) : Prop := ∀ k p, o[k]? = some p → stand ls sg (o.take k) p = true
def clearP (ls : List (List Nat)) (sg : List (List Nat × List Nat)) : Prop := ∀ z ∈ sg, lotSeen ls z.2 = false
theorem rangeF_asc (n : Nat) (f : Nat → Bool) : ((List.range n).filter f).Pairwise (· < ·) := List.Pairwise.filter _ List.pairwise_lt_range
theorem letin_iff {o c s : List Nat} (ho : Order n o) (hs : Crowd n s) : letin n ls o c = s ↔ ∀ i, i ∈ inside ls c o [] ↔ i ∈ s := by
  have hm : ∀ i, i ∈ letin n ls o c ↔ i ∈ inside ls c o [] := fun i => by
    unfold letin
    rw [List.mem_filter, List.mem_range, List.contains_iff_mem]
    refine ⟨fun h => h.2, fun h => ⟨?_, h⟩⟩
    rcases inside_mem h with z | z
    · cases z
    · exact ho.lt i z.1
  constructor
  · intro h i
    rw [← hm i, h]
  · intro h
    refine asc_ext (rangeF_asc n _) hs.asc fun i => ?_
    rw [hm i, h i]
theorem fits_iff {o : List Nat} (ho : Order n o) (hs : Sights n sg) : fits n ls sg o = true ↔ fitsP ls sg o := by
  unfold fits fitsP
  rw [List.all_eq_true]
  constructor
  · intro h z hz
    exact (letin_iff ho (hs.seen z hz)).mp (eq_of_beq (h z hz))
  · intro h z hz
    exact beq_iff_eq.mpr ((letin_iff ho (hs.seen z hz)).mpr (h z hz))
theorem lots_ne {l : List Nat} (hL : Lots n ls) (h : l ∈ ls) : l ≠ [] := fun e => by
  have := hL.two l h
  rw [e] at this
  simp at this
theorem fitsP_iff {o : List Nat} (ho : Order n o) (hL : Lots n ls) (hs : Sights n sg) : fitsP ls sg o ↔ clearP ls sg ∧ canP ls sg o := by
  constructor
  · intro h
    constructor
    · intro z hz
      cases e : lotSeen ls z.2 with
      | false => rfl
      | true =>
        exfalso
        obtain ⟨l, hl, hk⟩ := lotSeen_iff.mp e
        have hall : ∀ q ∈ l, q ∈ o.take n := fun q hq => by
          have : o.take n = o := by rw [← ho.len]; exact List.take_length
          rw [this]
          exact ho.all ((hL.crowd l hl).lt q hq)
        obtain ⟨k, p, hp, hpl, hq⟩ := last_ex (lots_ne hL hl) n hall
        have sp := order_split hp
        have hpin : p ∈ inside ls z.1 o [] := (h z hz p).mpr (hk p hpl)
        have hb : barred ls (inside ls z.1 (o.take k) []) p = true := by
          refine barred_iff.mpr ⟨l, hl, hpl, fun q hq' => ?_⟩
          by_cases e : q = p
          · exact .inr e
          · left
            have h1 := hq q hq'
            rw [take_at hp] at h1
            rcases List.mem_append.mp h1 with y | y
            · have h2 : q ∈ inside ls z.1 o [] := (h z hz q).mpr (hk q hq')
              have hd := ho.nd
              rw [sp] at h2 hd
              exact (inside_part hd y).mp h2
            · exact absurd (by simpa using y) e
        have hno : p ∉ inside ls z.1 (o.take (k + 1)) [] := by
          rw [take_at hp, inside_app, inside_one]
          have e2 : ¬ ((z.1.contains p && !barred ls (inside ls z.1 (o.take k) []) p) = true) := by rw [hb]; simp
          rw [if_neg e2]
          intro y
          rcases inside_mem y with x | x
          · cases x
          · exact not_ahead ho.nd hp x.1
        have hd := ho.nd
        have e3 : o = o.take (k + 1) ++ o.drop (k + 1) := (List.take_append_drop _ _).symm
        rw [e3] at hd hpin
        exact hno ((inside_part hd (by rw [take_at hp]; simp)).mp hpin)
    · intro k p hp
      refine stand_iff.mpr fun z hz h1 h2 => ?_
      have hno : p ∉ inside ls z.1 o [] := fun y => h2 ((h z hz p).mp y)
      have hd := ho.nd
      have e3 : o = o.take (k + 1) ++ o.drop (k + 1) := (List.take_append_drop _ _).symm
      rw [e3] at hd hno
      have hno' : p ∉ inside ls z.1 (o.take (k + 1)) [] := fun y => hno ((inside_part hd (by rw [take_at hp]; simp)).mpr y)
      rw [take_at hp, inside_app, inside_one] at hno'
      cases hb : barred ls (inside ls z.1 (o.take k) []) p with
      | false =>
        exfalso
        have e2 : (z.1.contains p && !barred ls (inside ls z.1 (o.take k) []) p) = true := by rw [hb, List.contains_iff_mem.mpr h1]; rfl
        rw [if_pos e2] at hno'
        exact hno' (by simp)
      | true =>
        obtain ⟨l, hl, y1, y2⟩ := barred_iff.mp hb
        refine ⟨l, hl, y1, fun q hq => ?_⟩
        rcases y2 q hq with x | x
        · right
          have hq' : q ∈ o.take k := by
            rcases inside_mem x with w | w
            · cases w
            · exact w.1
          refine ⟨(h z hz q).mp ?_, hq'⟩
          have hd' := ho.nd
          have e4 : o = o.take k ++ o.drop k := (List.take_append_drop _ _).symm
          rw [e4] at hd' ⊢
          exact (inside_part hd' hq').mpr x
        · exact .inl x
  · rintro ⟨hc, hcan⟩ z hz
    have key : ∀ k, k ≤ n → ∀ i, i ∈ inside ls z.1 (o.take k) [] ↔ i ∈ z.2 ∧ i ∈ o.take k := by
      intro k
      induction k with
      | zero =>
        intro _ i
        simp [inside]
      | succ k ih =>
        intro hk i
        have ih := ih (by omega)
        obtain ⟨p, hp⟩ : ∃ p, o[k]? = some p := ⟨_, List.getElem?_eq_getElem (by rw [ho.len]; omega)⟩
        have hnot := not_ahead ho.nd hp
        rw [take_at hp, inside_app, inside_one]
        by_cases ps : p ∈ z.2
        · have hb : barred ls (inside ls z.1 (o.take k) []) p = false := by
            cases hb : barred ls (inside ls z.1 (o.take k) []) p with
            | false => rfl
            | true =>
              exfalso
              obtain ⟨l, hl, y1, y2⟩ := barred_iff.mp hb
              have : lotSeen ls z.2 = true := lotSeen_iff.mpr ⟨l, hl, fun q hq => by
                rcases y2 q hq with x | x
                · exact ((ih q).mp x).1
                · rw [x]; exact ps⟩
              rw [hc z hz] at this
              cases this
          have e2 : (z.1.contains p && !barred ls (inside ls z.1 (o.take k) []) p) = true := by rw [hb, List.contains_iff_mem.mpr (hs.sub z hz p ps)]; rfl
          rw [if_pos e2, List.mem_append, List.mem_append, ih i]
          constructor
          · rintro (y | y)
            · exact ⟨y.1, .inl y.2⟩
            · have y' : i = p := by simpa using y
              subst y'
              exact ⟨ps, .inr y⟩
          · rintro ⟨y1, y | y⟩
            · exact .inl ⟨y1, y⟩
            · exact .inr y
        · have e2 : ¬ ((z.1.contains p && !barred ls (inside ls z.1 (o.take k) []) p) = true) := by
            intro y
            obtain ⟨y1, y2⟩ := Bool.and_eq_true_iff.mp y
            have y1 := List.contains_iff_mem.mp y1
            obtain ⟨l, hl, x1, x2⟩ := stand_iff.mp (hcan k p hp) z hz y1 ps
            have hb : barred ls (inside ls z.1 (o.take k) []) p = true := barred_iff.mpr ⟨l, hl, x1, fun q hq => by
              rcases x2 q hq with w | w
              · exact .inr w
              · exact .inl ((ih q).mpr w)⟩
            rw [hb] at y2
            cases y2
          rw [if_neg e2, ih i, List.mem_append]
          constructor
          · rintro ⟨y1, y⟩
            exact ⟨y1, .inl y⟩
          · rintro ⟨y1, y | y⟩
            · exact ⟨y1, y⟩
            · have y' : i = p := by simpa using y
              subst y'
              exact absurd y1 ps
    intro i
    have h1 := key n (Nat.le_refl n) i
    have e : o.take n = o := by rw [← ho.len]; exact List.take_length
    rw [e] at h1
    rw [h1]
    refine ⟨fun y => y.1, fun y => ⟨y, ho.all ((hs.seen z hz).lt i y)⟩⟩
end
end K43
/-! ## K3Math -/
set_option linter.all false
set_option maxRecDepth 100000
/-! K3Math: placing the least one who can stand next; the lists in their order; the least list that fits. -/
namespace K43
section
variable {n : Nat} {ls : List (List Nat)} {sg : List (List Nat × List Nat)}
theorem cand_mem {ord : List Nat} {p : Nat} : p ∈ cand n ls sg ord ↔ p < n ∧ p ∉ ord ∧ stand ls sg ord p = true := by
  unfold cand
  rw [List.mem_filter, List.mem_range, Bool.and_eq_true_iff]
  constructor
  · rintro ⟨h1, h2, h3⟩
    refine ⟨h1, fun y => ?_, h3⟩
    rw [List.contains_iff_mem.mpr y] at h2
    cases h2
  · rintro ⟨h1, h2, h3⟩
    refine ⟨h1, ?_, h3⟩
    cases e : ord.contains p with
    | false => rfl
    | true => exact absurd (List.contains_iff_mem.mp e) h2
theorem cand_asc (ord : List Nat) : (cand n ls sg ord).Pairwise (· < ·) := rangeF_asc n _
/-- a part of a list: unlike people -/
structure Part (n : Nat) (o : List Nat) : Prop where
  nd : o.Nodup
  lt : ∀ i ∈ o, i < n
theorem step_cases (ord : List Nat) : (cand n ls sg ord = [] ∧ step n ls sg ord = ord) ∨ ∃ p r, cand n ls sg ord = p :: r ∧ step n ls sg ord = ord ++ [p] := by
  unfold step
  cases e : cand n ls sg ord with
  | nil => exact .inl ⟨rfl, by simp⟩
  | cons p r => exact .inr ⟨p, r, rfl, by simp⟩
theorem step_part {ord : List Nat} (h : Part n ord) : Part n (step n ls sg ord) := by
  rcases step_cases (n := n) (ls := ls) (sg := sg) ord with ⟨_, e⟩ | ⟨p, r, e1, e⟩
  · rw [e]; exact h
  · have hp := cand_mem.mp (show p ∈ cand n ls sg ord by rw [e1]; exact List.mem_cons_self)
    rw [e]
    refine ⟨?_, fun i hi => ?_⟩
    · rw [List.nodup_append]
      refine ⟨h.nd, by simp, fun a ha b hb => ?_⟩
      have : b = p := by simpa using hb
      rw [this]
      intro z
      rw [z] at ha
      exact hp.2.1 ha
    · rcases List.mem_append.mp hi with z | z
      · exact h.lt i z
      · have : i = p := by simpa using z
        rw [this]; exact hp.1
theorem placed_part : ∀ k, Part n (placed n ls sg k)
  | 0 => ⟨by simp [placed], fun i hi => by simp [placed] at hi⟩
  | k + 1 => step_part (placed_part k)
theorem step_len (ord : List Nat) : (step n ls sg ord).length ≤ ord.length + 1 := by
  rcases step_cases (n := n) (ls := ls) (sg := sg) ord with ⟨_, e⟩ | ⟨p, r, e1, e⟩
  · rw [e]; omega
  · rw [e, List.length_append]; simp
theorem placed_len : ∀ k, (placed n ls sg k).length ≤ k
  | 0 => Nat.le_refl 0
  | k + 1 => by
    have h1 := step_len (n := n) (ls := ls) (sg := sg) (placed n ls sg k)
    have h2 := placed_len k
    show (step n ls sg (placed n ls sg k)).length ≤ k + 1
    omega
theorem placed_add (k : Nat) : ∀ j, (placed n ls sg (k + j)).length ≤ (placed n ls sg k).length + j
  | 0 => Nat.le_refl _
  | j + 1 => by
    have h1 := step_len (n := n) (ls := ls) (sg := sg) (placed n ls sg (k + j))
    have h2 := placed_add k j
    show (step n ls sg (placed n ls sg (k + j))).length ≤ _
    omega
/-- nobody can stand: it stays so -/
theorem placed_stuck {k : Nat} (h : cand n ls sg (placed n ls sg k) = []) : ∀ j, placed n ls sg (k + j) = placed n ls sg k
  | 0 => rfl
  | j + 1 => by
    show step n ls sg (placed n ls sg (k + j)) = _
    rw [placed_stuck h j]
    rcases step_cases (n := n) (ls := ls) (sg := sg) (placed n ls sg k) with ⟨_, e⟩ | ⟨p, r, e1, e⟩
    · exact e
    · rw [h] at e1; cases e1
/-- the loop of the program: it ends with all that can be placed -/
theorem placed_end {k : Nat} (hl : (placed n ls sg k).length = k) (h : cand n ls sg (placed n ls sg k) = []) : placed n ls sg n = placed n ls sg k := by
  have h1 := small_of (placed_part (n := n) (ls := ls) (sg := sg) k).nd (placed_part k).lt
  rw [hl] at h1
  obtain ⟨d, e⟩ := Nat.exists_eq_add_of_le h1
  rw [show placed n ls sg n = placed n ls sg (k + d) by rw [← e]]
  exact placed_stuck h d
theorem placed_all (h : (placed n ls sg n).length = n) {k : Nat} (hk : k ≤ n) : (placed n ls sg k).length = k := by
  obtain ⟨d, e⟩ := Nat.exists_eq_add_of_le hk
  have h1 := placed_add (n := n) (ls := ls) (sg := sg) k d
  rw [← e, h] at h1
  have h2 := placed_len (n := n) (ls := ls) (sg := sg) k
  omega
theorem placed_next (h : (placed n ls sg n).length = n) {k : Nat} (hk : k < n) : ∃ p r, cand n ls sg (placed n ls sg k) = p :: r ∧ placed n ls sg (k + 1) = placed n ls sg k ++ [p] := by
  rcases step_cases (n := n) (ls := ls) (sg := sg) (placed n ls sg k) with ⟨_, e⟩ | z
  · exfalso
    have h1 := placed_all h (show k + 1 ≤ n by omega)
    have h2 := placed_all h (show k ≤ n by omega)
    have e' : placed n ls sg (k + 1) = placed n ls sg k := e
    rw [e'] at h1
    omega
  · exact z
theorem placed_take (h : (placed n ls sg n).length = n) : ∀ d k, k + d = n → (placed n ls sg n).take k = placed n ls sg k := by
  intro d
  induction d with
  | zero =>
    intro k e
    have e' : k = n := by omega
    rw [e']
    exact List.take_of_length_le (by rw [h]; exact Nat.le_refl n)
  | succ d ih =>
    intro k e
    have h1 := ih (k + 1) (by omega)
    obtain ⟨p, r, _, e2⟩ := placed_next h (show k < n by omega)
    have hl := placed_all h (show k ≤ n by omega)
    have h3 : ((placed n ls sg n).take (k + 1)).take k = (placed n ls sg (k + 1)).take k := by rw [h1]
    rw [List.take_take, Nat.min_eq_left (by omega), e2] at h3
    rw [h3]
    have h4 : (placed n ls sg k ++ [p]).take (placed n ls sg k).length = placed n ls sg k := List.take_left
    rw [hl] at h4
    exact h4
theorem placed_order (h : (placed n ls sg n).length = n) : Order n (placed n ls sg n) := ⟨(placed_part n).nd, h, (placed_part n).lt⟩
theorem placed_can (h : (placed n ls sg n).length = n) : canP ls sg (placed n ls sg n) := by
  intro k p hp
  have hk : k < n := by
    have := (List.getElem?_eq_some_iff.mp hp).1
    rw [h] at this; exact this
  rw [placed_take h (n - k) k (by omega)]
  obtain ⟨q, r, e1, e2⟩ := placed_next h hk
  have h1 := placed_take h (n - (k + 1)) (k + 1) (by omega)
  rw [take_at hp, placed_take h (n - k) k (by omega), e2] at h1
  have : p = q := by simpa using h1
  rw [this]
  exact (cand_mem.mp (show q ∈ cand n ls sg (placed n ls sg k) by rw [e1]; exact List.mem_cons_self)).2.2
/-- where some list can be, nobody is stuck -/
theorem not_stuck {o ord : List Nat} (ho : Order n o) (hc : canP ls sg o) (hp : Part n ord) (hl : ord.length < n) : cand n ls sg ord ≠ [] := by
  have ex : ∃ k p, o[k]? = some p ∧ p ∉ ord ∧ ∀ q ∈ o.take k, q ∈ ord := by
    have hex : ∃ q ∈ o, q ∉ ord := by
      refine Classical.byContradiction fun z => ?_
      have : ∀ q ∈ o, q ∈ ord := fun q hq => Classical.byContradiction fun y => z ⟨q, hq, y⟩
      have := nd_len o ord ho.nd this
      rw [ho.len] at this
      omega
    have go : ∀ m, (∃ q ∈ o.take m, q ∉ ord) → ∃ k p, o[k]? = some p ∧ p ∉ ord ∧ ∀ q ∈ o.take k, q ∈ ord := by
      intro m
      induction m with
      | zero => rintro ⟨q, hq, _⟩; simp at hq
      | succ m ih =>
        intro hm
        by_cases e : ∃ q ∈ o.take m, q ∉ ord
        · exact ih e
        · obtain ⟨q, hq, hn⟩ := hm
          have hall : ∀ q ∈ o.take m, q ∈ ord := fun q hq => Classical.byContradiction fun y => e ⟨q, hq, y⟩
          cases em : o[m]? with
          | none =>
            rw [List.take_succ, em] at hq
            exact absurd (hall q (by simpa using hq)) hn
          | some p =>
            rw [take_at em] at hq
            rcases List.mem_append.mp hq with z | z
            · exact absurd (hall q z) hn
            · have : q = p := by simpa using z
              exact ⟨m, p, em, by rw [← this]; exact hn, hall⟩
    refine go n ?_
    have e : o.take n = o := by rw [← ho.len]; exact List.take_length
    rw [e]; exact hex
  obtain ⟨k, p, h1, h2, h3⟩ := ex
  intro e
  have hm : p ∈ cand n ls sg ord := cand_mem.mpr ⟨ho.lt p (List.mem_of_getElem? h1), h2, stand_mono h3 (hc k p h1)⟩
  rw [e] at hm
  cases hm
theorem placed_full {o : List Nat} (ho : Order n o) (hc : canP ls sg o) : ∀ k, k ≤ n → (placed n ls sg k).length = k
  | 0, _ => rfl
  | k + 1, hk => by
    have ih := placed_full ho hc k (by omega)
    have hne := not_stuck ho hc (placed_part k) (by rw [ih]; omega)
    rcases step_cases (n := n) (ls := ls) (sg := sg) (placed n ls sg k) with ⟨e, _⟩ | ⟨p, r, _, e⟩
    · exact absurd e hne
    · show (step n ls sg (placed n ls sg k)).length = k + 1
      rw [e, List.length_append, ih]; rfl
/-- the placed list is the least -/
theorem placed_least {o : List Nat} (ho : Order n o) (hc : canP ls sg o) : placed n ls sg n = o ∨ lx (placed n ls sg n) o = true := by
  have hfull := placed_full ho hc n (Nat.le_refl n)
  have key : ∀ k, k ≤ n → placed n ls sg k = o.take k ∨ lx (placed n ls sg k) (o.take k) = true := by
    intro k
    induction k with
    | zero => intro _; exact .inl (by simp [placed])
    | succ k ih =>
      intro hk
      obtain ⟨p, r, e1, e2⟩ := placed_next hfull (show k < n by omega)
      obtain ⟨q, hq⟩ : ∃ q, o[k]? = some q := ⟨_, List.getElem?_eq_getElem (by rw [ho.len]; omega)⟩
      rw [e2, take_at hq]
      rcases ih (by omega) with z | z
      · have hm : q ∈ cand n ls sg (placed n ls sg k) := by
          rw [z]
          exact cand_mem.mpr ⟨ho.lt q (List.mem_of_getElem? hq), not_ahead ho.nd hq, hc k q hq⟩
        have ha := cand_asc (n := n) (ls := ls) (sg := sg) (placed n ls sg k)
        rw [e1] at hm ha
        rcases List.mem_cons.mp hm with y | y
        · left; rw [z, y]
        · right
          have hlt := (List.pairwise_cons.mp ha).1 q y
          rw [z, lx_append]
          show (if p = q then _ else decide (p < q)) = true
          rw [if_neg (by omega)]
          exact decide_eq_true hlt
      · right
        refine lx_ext _ _ ?_ z
        rw [placed_all hfull (show k ≤ n by omega), List.length_take, ho.len]
        omega
  have h1 := key n (Nat.le_refl n)
  have e : o.take n = o := by rw [← ho.len]; exact List.take_length
  rw [e] at h1
  exact h1

/-! ### all lists -/
theorem lists_mem : ∀ {k : Nat} {r : List Nat}, r ∈ lists n k ↔ r.Nodup ∧ r.length = k ∧ ∀ i ∈ r, i < n
  | 0, r => by
    show r ∈ [[]] ↔ _
    constructor
    · intro h
      have : r = [] := by simpa using h
      subst this
      simp
    · rintro ⟨_, h, _⟩
      have : r = [] := List.length_eq_zero_iff.mp h
      simp [this]
  | k + 1, r => by
    show r ∈ (lists n k).flatMap _ ↔ _
    rw [List.mem_flatMap]
    constructor
    · rintro ⟨row, hrow, h⟩
      obtain ⟨p, hp, rfl⟩ := List.mem_map.mp h
      obtain ⟨hp1, hp2⟩ := List.mem_filter.mp hp
      obtain ⟨h1, h2, h3⟩ := lists_mem.mp hrow
      have hp3 : p ∉ row := fun y => by
        rw [List.contains_iff_mem.mpr y] at hp2
        cases hp2
      refine ⟨?_, by rw [List.length_append, h2]; rfl, fun i hi => ?_⟩
      · rw [List.nodup_append]
        refine ⟨h1, by simp, fun a ha b hb => ?_⟩
        have : b = p := by simpa using hb
        rw [this]
        intro z
        rw [z] at ha
        exact hp3 ha
      · rcases List.mem_append.mp hi with z | z
        · exact h3 i z
        · have : i = p := by simpa using z
          rw [this]; exact List.mem_range.mp hp1
    · rintro ⟨h1, h2, h3⟩
      have hne : r ≠ [] := fun e => by rw [e] at h2; cases h2
      have e := List.dropLast_concat_getLast hne
      rw [← e] at h1 h3
      obtain ⟨d1, _, d3⟩ := List.nodup_append.mp h1
      refine ⟨r.dropLast, lists_mem.mpr ⟨d1, by rw [List.length_dropLast, h2]; rfl, fun i hi => h3 i (List.mem_append_left _ hi)⟩, ?_⟩
      refine List.mem_map.mpr ⟨r.getLast hne, List.mem_filter.mpr ⟨List.mem_range.mpr (h3 _ (by simp)), ?_⟩, e⟩
      cases q : r.dropLast.contains (r.getLast hne) with
      | false => rfl
      | true => exact absurd rfl (d3 _ (List.contains_iff_mem.mp q) _ (by simp))
theorem lists_asc : ∀ k, (lists n k).Pairwise fun a b => lx a b = true
  | 0 => by simp [lists]
  | k + 1 => by
    show ((lists n k).flatMap _).Pairwise _
    rw [List.pairwise_flatMap]
    constructor
    · intro row hrow
      rw [List.pairwise_map]
      refine (List.Pairwise.filter _ List.pairwise_lt_range).imp fun {p q} h => ?_
      rw [lx_append]
      show (if p = q then _ else decide (p < q)) = true
      rw [if_neg (by omega)]
      exact decide_eq_true h
    · refine (lists_asc k).imp_of_mem fun {a b} ha hb h => ?_
      intro x hx y hy
      obtain ⟨p, _, rfl⟩ := List.mem_map.mp hx
      obtain ⟨q, _, rfl⟩ := List.mem_map.mp hy
      exact lx_ext _ _ (by rw [(lists_mem.mp ha).2.1, (lists_mem.mp hb).2.1]) h
theorem lists_order {o : List Nat} : o ∈ lists n n ↔ Order n o := lists_mem.trans ⟨fun h => ⟨h.1, h.2.1, h.2.2⟩, fun h => ⟨h.nd, h.len, h.lt⟩⟩
/-- the lists that fit, ascending -/
def good (n : Nat) (ls : List (List Nat)) (sg : List (List Nat × List Nat)) : List (List Nat) := (lists n n).filter (fits n ls sg)
theorem clear_any : sg.any (fun z => lotSeen ls z.2) = false ↔ clearP ls sg := by
  unfold clearP
  rw [List.any_eq_false]
  exact ⟨fun h z hz => by cases e : lotSeen ls z.2 with
    | false => rfl
    | true => exact absurd e (h z hz), fun h z hz => by rw [h z hz]; exact Bool.false_ne_true⟩
/-- THE LAW'S FIRST HALF: the least list that fits -/
theorem good_head (hL : Lots n ls) (hs : Sights n sg) : (good n ls sg).head? = fitting n ls sg := by
  unfold fitting
  cases ha : sg.any (fun z => lotSeen ls z.2) with
  | true =>
    rw [if_pos rfl]
    cases e : good n ls sg with
    | nil => rfl
    | cons o r =>
      exfalso
      have ho : o ∈ good n ls sg := by rw [e]; exact List.mem_cons_self
      obtain ⟨h1, h2⟩ := List.mem_filter.mp ho
      have h3 := (fitsP_iff (lists_order.mp h1) hL hs).mp ((fits_iff (lists_order.mp h1) hs).mp h2)
      have := clear_any.mpr h3.1
      rw [ha] at this
      cases this
  | false =>
    have hc := clear_any.mp ha
    rw [if_neg (by simp)]
    by_cases hl : (placed n ls sg n).length = n
    · rw [if_pos hl]
      have ho := placed_order hl
      have hf : fits n ls sg (placed n ls sg n) = true := (fits_iff ho hs).mpr ((fitsP_iff ho hL hs).mpr ⟨hc, placed_can hl⟩)
      have hm : placed n ls sg n ∈ good n ls sg := List.mem_filter.mpr ⟨lists_order.mpr ho, hf⟩
      have hp : (good n ls sg).Pairwise fun a b => lx a b = true := (lists_asc n).filter _
      cases e : good n ls sg with
      | nil => rw [e] at hm; cases hm
      | cons x r =>
        have hx : x ∈ good n ls sg := by rw [e]; exact List.mem_cons_self
        obtain ⟨h1, h2⟩ := List.mem_filter.mp hx
        have h3 := (fitsP_iff (lists_order.mp h1) hL hs).mp ((fits_iff (lists_order.mp h1) hs).mp h2)
        rw [e] at hm hp
        show some x = some (placed n ls sg n)
        rcases placed_least (lists_order.mp h1) h3.2 with z | z
        · rw [z]
        · rcases List.mem_cons.mp hm with y | y
          · rw [y]
          · exfalso
            have := lx_trans z ((List.pairwise_cons.mp hp).1 _ y)
            rw [lx_irrefl] at this
            cases this
    · rw [if_neg hl]
      cases e : good n ls sg with
      | nil => rfl
      | cons o r =>
        exfalso
        have ho : o ∈ good n ls sg := by rw [e]; exact List.mem_cons_self
        obtain ⟨h1, h2⟩ := List.mem_filter.mp ho
        have h3 := (fitsP_iff (lists_order.mp h1) hL hs).mp ((fits_iff (lists_order.mp h1) hs).mp h2)
        exact hl (placed_full (lists_order.mp h1) h3.2 n (Nat.le_refl n))
theorem sights_rev (hs : Sights n sg) : Sights n sg.reverse := ⟨fun z hz => hs.crowd z (List.mem_reverse.mp hz), fun z hz => hs.seen z (List.mem_reverse.mp hz), fun z hz => hs.sub z (List.mem_reverse.mp hz)⟩
theorem fitting_rev (hL : Lots n ls) (hs : Sights n sg) : fitting n ls sg.reverse = fitting n ls sg := by
  rw [← good_head hL hs, ← good_head hL (sights_rev hs)]
  have : good n ls sg.reverse = good n ls sg := by
    unfold good
    congr 1
    funext o
    unfold fits
    rw [List.all_reverse]
  rw [this]
/-- sightings of one list: some list fits -/
theorem fitting_of {o : List Nat} (hL : Lots n ls) (hs : Sights n sg) (ho : Order n o) (hf : fits n ls sg o = true) :
    fitting n ls sg = some (placed n ls sg n) ∧ Order n (placed n ls sg n) ∧ fits n ls sg (placed n ls sg n) = true ∧ (placed n ls sg n = o ∨ lx (placed n ls sg n) o = true) := by
  obtain ⟨hc, hcan⟩ := (fitsP_iff ho hL hs).mp ((fits_iff ho hs).mp hf)
  have hl := placed_full ho hcan n (Nat.le_refl n)
  have hO := placed_order hl
  refine ⟨?_, hO, (fits_iff hO hs).mpr ((fitsP_iff hO hL hs).mpr ⟨hc, placed_can hl⟩), placed_least ho hcan⟩
  unfold fitting
  rw [clear_any.mpr hc, if_neg (by simp), if_pos hl]
end
end K43
/-! ## K4Math -/
set_option linter.all false
set_option maxRecDepth 100000
/-! K4Math: the same by masks, as the program reckons it. -/
namespace K43
/-- the others, as bits, of each lot of a person all of which are among some bits -/
def ow (ls : List (List Nat)) (s p : Nat) : List Nat := (ls.filter fun l => (mk l).testBit p && hld s (mk l ^^^ 2 ^ p)).map fun l => mk l ^^^ 2 ^ p
/-- what a person needs -/
def nd (ls : List (List Nat)) (sg : List (List Nat × List Nat)) (p : Nat) : List (List Nat) :=
  sg.filterMap fun z => if (z.1.contains p && !z.2.contains p) = true then some (ow ls (mk z.2) p) else none
section
variable {n : Nat} {ls : List (List Nat)} {sg : List (List Nat × List Nat)}
theorem mk_mem {c : List Nat} (h : Crowd n c) (i : Nat) : (mk c).testBit i = true ↔ i ∈ c := by
  rw [mk_tb h.nd i]
  exact decide_eq_true_iff
theorem flip_mem {c : List Nat} (h : Crowd n c) {p : Nat} (hp : p ∈ c) (i : Nat) : (mk c ^^^ 2 ^ p).testBit i = true ↔ i ∈ c ∧ i ≠ p := by
  rw [tb_flip]
  by_cases e : p = i
  · subst e
    have : (mk c).testBit p = true := (mk_mem h p).mpr hp
    rw [this]
    simp
  · have : decide (p = i) = false := decide_eq_false e
    rw [this]
    simp only [Bool.xor_false]
    rw [mk_mem h i]
    exact ⟨fun h => ⟨h, fun z => e z.symm⟩, fun h => h.1⟩
theorem hld_flip {c : List Nat} (h : Crowd n c) {p : Nat} (hp : p ∈ c) {m : Nat} {s : List Nat} (hm : ∀ i, m.testBit i = true ↔ i ∈ s) : hld m (mk c ^^^ 2 ^ p) = true ↔ ∀ q ∈ c, q ≠ p → q ∈ s := by
  rw [hld_iff]
  constructor
  · intro z q hq hn
    exact (hm q).mp (z q ((flip_mem h hp q).mpr ⟨hq, hn⟩))
  · intro z i hi
    obtain ⟨h1, h2⟩ := (flip_mem h hp i).mp hi
    exact (hm i).mpr (z i h1 h2)
theorem hld_mk {c s : List Nat} (h : Crowd n c) {m : Nat} (hm : ∀ i, m.testBit i = true ↔ i ∈ s) : hld m (mk c) = true ↔ ∀ q ∈ c, q ∈ s := by
  rw [hld_iff]
  constructor
  · intro z q hq
    exact (hm q).mp (z q ((mk_mem h q).mpr hq))
  · intro z i hi
    exact (hm i).mpr (z i ((mk_mem h i).mp hi))
theorem ow_any (hL : Lots n ls) {s ord : List Nat} {ms mo p : Nat} (hs : ∀ i, ms.testBit i = true ↔ i ∈ s) (ho : ∀ i, mo.testBit i = true ↔ i ∈ ord) :
    ((ow ls ms p).any fun o => hld mo o) = true ↔ ∃ l ∈ ls, p ∈ l ∧ ∀ q ∈ l, q = p ∨ (q ∈ s ∧ q ∈ ord) := by
  unfold ow
  rw [List.any_map, List.any_eq_true]
  constructor
  · rintro ⟨l, hl, h⟩
    obtain ⟨h1, h2⟩ := List.mem_filter.mp hl
    obtain ⟨h3, h4⟩ := Bool.and_eq_true_iff.mp h2
    have hp := (mk_mem (hL.crowd l h1) p).mp h3
    have h5 := (hld_flip (hL.crowd l h1) hp hs).mp h4
    have h6 := (hld_flip (hL.crowd l h1) hp ho).mp h
    refine ⟨l, h1, hp, fun q hq => ?_⟩
    by_cases e : q = p
    · exact .inl e
    · exact .inr ⟨h5 q hq e, h6 q hq e⟩
  · rintro ⟨l, h1, hp, h⟩
    refine ⟨l, List.mem_filter.mpr ⟨h1, Bool.and_eq_true_iff.mpr ⟨(mk_mem (hL.crowd l h1) p).mpr hp, (hld_flip (hL.crowd l h1) hp hs).mpr fun q hq e => ?_⟩⟩, (hld_flip (hL.crowd l h1) hp ho).mpr fun q hq e => ?_⟩
    · exact ((h q hq).resolve_left e).1
    · exact ((h q hq).resolve_left e).2
/-- by masks: who can stand next -/
theorem stand_mask (hL : Lots n ls) (hs : Sights n sg) {ord : List Nat} {m p : Nat} (ho : ∀ i, m.testBit i = true ↔ i ∈ ord) : ((nd ls sg p).all fun w => w.any (hld m)) = stand ls sg ord p := by
  have key : ((nd ls sg p).all fun w => w.any (hld m)) = true ↔ stand ls sg ord p = true := by
    rw [stand_iff, List.all_eq_true]
    constructor
    · intro h z hz h1 h2
      have hm : ow ls (mk z.2) p ∈ nd ls sg p := by
        refine List.mem_filterMap.mpr ⟨z, hz, ?_⟩
        have e1 : z.1.contains p = true := List.contains_iff_mem.mpr h1
        have e2 : z.2.contains p = false := by
          cases e : z.2.contains p with
          | false => rfl
          | true => exact absurd (List.contains_iff_mem.mp e) h2
        rw [e1, e2]; rfl
      exact (ow_any hL (mk_mem (hs.seen z hz)) ho).mp (h _ hm)
    · intro h w hw
      obtain ⟨z, hz, e⟩ := List.mem_filterMap.mp hw
      by_cases c : (z.1.contains p && !z.2.contains p) = true
      · rw [if_pos c] at e
        have e' := (Option.some.inj e).symm
        subst e'
        obtain ⟨c1, c2⟩ := Bool.and_eq_true_iff.mp c
        refine (ow_any hL (mk_mem (hs.seen z hz)) ho).mpr (h z hz (List.contains_iff_mem.mp c1) fun y => ?_)
        rw [List.contains_iff_mem.mpr y] at c2
        cases c2
      · rw [if_neg c] at e
        cases e
  cases e : stand ls sg ord p with
  | true => exact key.mpr e
  | false =>
    cases e2 : ((nd ls sg p).all fun w => w.any (hld m)) with
    | false => rfl
    | true =>
      rw [key.mp e2] at e
      cases e
/-- those who are not placed -/
theorem rest_mask {ord : List Nat} {m : Nat} (ho : ∀ i, m.testBit i = true ↔ i ∈ ord) (hp : Part n ord) : (∀ i, ((2 ^ n - 1) ^^^ m).testBit i = true → i < n) ∧ ((List.range n).filter fun i => ((2 ^ n - 1) ^^^ m).testBit i) = (List.range n).filter fun i => !ord.contains i := by
  have hb : ∀ i, m.testBit i = ord.contains i := fun i => by
    cases e : ord.contains i with
    | true => exact (ho i).mpr (List.contains_iff_mem.mp e)
    | false =>
      cases e2 : m.testBit i with
      | false => rfl
      | true =>
        have := List.contains_iff_mem.mpr ((ho i).mp e2)
        rw [e] at this
        cases this
  constructor
  · intro i hi
    rw [Nat.testBit_xor, tb_all] at hi
    by_cases h : i < n
    · exact h
    · exfalso
      rw [decide_eq_false h] at hi
      have : m.testBit i = true := by simpa using hi
      exact h (hp.lt i ((ho i).mp this))
  · refine List.filter_congr fun i hi => ?_
    rw [Nat.testBit_xor, tb_all, decide_eq_true (List.mem_range.mp hi), hb i]
    simp
theorem cand_filter (ord : List Nat) : ((List.range n).filter fun i => !ord.contains i).filter (fun p => stand ls sg ord p) = cand n ls sg ord := by
  rw [List.filter_filter]
  unfold cand
  refine List.filter_congr fun i _ => ?_
  rw [Bool.and_comm]
theorem place_mask {ord : List Nat} {m p : Nat} (ho : ∀ i, m.testBit i = true ↔ i ∈ ord) (i : Nat) : (m ||| 2 ^ p).testBit i = true ↔ i ∈ ord ++ [p] := by
  rw [tb_or, Bool.or_eq_true_iff, ho i, decide_eq_true_iff, List.mem_append]
  constructor
  · rintro (h | h)
    · exact .inl h
    · exact .inr (by simp [h])
  · rintro (h | h)
    · exact .inl h
    · exact .inr (by simpa using (show i = p by simpa using h).symm)
/-- a lot is seen, by masks -/
theorem seen_mask (hL : Lots n ls) {s : List Nat} (hs : Crowd n s) : ls.filter (fun l => hld (mk s) (mk l)) = [] ↔ lotSeen ls s = false := by
  rw [List.filter_eq_nil_iff]
  constructor
  · intro h
    cases e : lotSeen ls s with
    | false => rfl
    | true =>
      obtain ⟨l, hl, hk⟩ := lotSeen_iff.mp e
      exact absurd ((hld_mk (hL.crowd l hl) (mk_mem hs)).mpr hk) (h l hl)
  · intro h l hl hk
    have := lotSeen_iff.mpr ⟨l, hl, (hld_mk (hL.crowd l hl) (mk_mem hs)).mp hk⟩
    rw [h] at this
    cases this
theorem crowd_len {c : List Nat} (h : Crowd n c) : c.length ≤ n := small_of h.nd h.lt
theorem mk_lt {c : List Nat} (h : Crowd n c) : mk c < 2 ^ n := by
  rcases Nat.lt_or_ge (mk c) (2 ^ n) with z | z
  · exact z
  · exfalso
    obtain ⟨i, hi, ht⟩ := Nat.exists_ge_and_testBit_of_ge_two_pow z
    have := h.lt i ((mk_mem h i).mp ht)
    omega
end
end K43
/-! ## K5Base -/
set_option Elab.async false
set_option linter.all false
set_option maxRecDepth 100000
set_option maxHeartbeats 4000000
/-! K5Base: the text's places, a def as its callers take it, heaps. -/
namespace K43
open PySem PySem.Spec PyProof.Rows L2
def top (i : Nat) : Stmt := PySem.Challenge.pw_lastoflot_k43_whole_lists_that_fit.main.body.getD i (.Pass ⟨0, 0, 0, 0⟩)
abbrev s_is_integer : Stmt := top 7
abbrev s_is_within : Stmt := top 8
abbrev s_is_pair : Stmt := top 9
abbrev s_is_listed : Stmt := top 10
abbrev s_are_ascending : Stmt := top 11
abbrev s_are_persons : Stmt := top 12
abbrev s_is_crowd : Stmt := top 13
abbrev s_is_lot : Stmt := top 14
abbrev s_is_row : Stmt := top 15
abbrev s_is_order : Stmt := top 16
abbrev s_bits_of : Stmt := top 17
abbrev s_crowd_of : Stmt := top 18
abbrev s_holds : Stmt := top 19
abbrev s_all_of : Stmt := top 20
abbrev s_first_wrong_lot : Stmt := top 23
abbrev s_Book_init : Stmt := inClass (top 24) 0
abbrev s_Book_keep : Stmt := inClass (top 24) 1
abbrev s_lasts_in : Stmt := top 26
abbrev s_Office_init : Stmt := inClass (top 27) 0
abbrev s_is_barred : Stmt := top 28
abbrev s_in_bits : Stmt := top 29
abbrev s_is_sighting : Stmt := top 32
abbrev s_check_sightings : Stmt := top 33
abbrev s_others_within : Stmt := top 34
abbrev s_needs : Stmt := top 35
abbrev s_can_stand : Stmt := top 36
abbrev s_can_follow : Stmt := top 37
abbrev s_first_lot : Stmt := top 38
abbrev s_placed_by : Stmt := top 39
abbrev s_fitting_in : Stmt := top 40
abbrev s_is_fitting : Stmt := top 41
abbrev s_fitting : Stmt := top 42
abbrev s_law_hand : Stmt := top 44
abbrev s_law_draw : Stmt := top 45
abbrev s_law_flag : Stmt := top 46
abbrev s_law_is : Stmt := top 47
abbrev s_law_part : Stmt := top 48
abbrev s_law_order : Stmt := top 49
abbrev s_law_lots : Stmt := top 50
abbrev s_law_in : Stmt := top 51
abbrev s_law_crowds : Stmt := top 52
abbrev s_law_lists : Stmt := top 53
abbrev s_law_sightings : Stmt := top 54
abbrev s_law_within : Stmt := top 55
abbrev s_law_fits : Stmt := top 56
abbrev s_law_can_stand : Stmt := top 57
abbrev s_law_least_placed : Stmt := top 58
abbrev s_law_packed : Stmt := top 59
abbrev s_law_of_many : Stmt := top 60
abbrev s_law : Stmt := top 61
/-! ### a def as it stands, a def as its callers take it -/
def Src (K : PySem.W.Frag) (mg : Str → Option Value) (x : Str) (st : Stmt) : Prop :=
  ∃ f fd, FunD K x x (defArgs st) (defBody st) (defScope st) [] [] f fd ∧ mg x = some (.ref f)
def BindsAs (x : Str) (st : Stmt) (ps : List Str) : Prop := ∀ (kV doc pm : Value) (an : Option Addr) (cdv ct : Value) (us : List Value), us.length = ps.length →
  bindArgs (PySem.W.fnOf x x (defArgs st) (defBody st) (defScope st) .none kV doc pm an cdv ct) ⟨us, []⟩ = pure (ps.zip us)
structure Def (P : Program) (w : World) (K : PySem.W.Frag) (mg : Str → Option Value) (base : Heap) (x : Str) (ps : List Str) (k : Nat) (sp : Sp) : Prop where
  ex : ∃ f fd, FnOk P w K mg base CX0 k f fd ps sp ∧ mg x = some (.ref f) ∧ PySem.W.keepIn K (.ref f) = true ∧ Binds K fd ps []
section
variable {P : Program} {w : World} {K : PySem.W.Frag} {mg : Str → Option Value} {base : Heap}
theorem Src.mk {x : Str} {st : Stmt} {N ps : List Str} {k : Nat} {sp : Sp} (S : Src K mg x st) (sc : FnScope N ps (defScope st)) (hb : BindsAs x st ps) (len : ∀ vs H Q E, sp vs H Q E → vs.length = ps.length)
    (hbody : ∀ (f : Addr) (cdv : Value) (A : Around) (outer : List Env) (s : Shared) (H : Hp) (vs : List V) (Q : VK) (E : XK), Room k (A.deeper (envOfC x (defScope st) s.heap.objs.size f cdv)) → sp vs H Q E →
      ∃ t, PSs (cxOf CX0 P w K mg base N x (defScope st) f cdv A outer s H E).nox (defBody st) t ∧ t { nx := fun _ H' => Q .non H', rt := Q } (start N vs) H) : Def P w K mg base x ps (k + 1) sp := by
  obtain ⟨f, fd, F, hm⟩ := S
  refine ⟨f, fd, F.ok sc len fun cdv A outer s H vs Q E hr h => ?_, hm, F.kp, F.bindsN hb⟩
  obtain ⟨t, h1, h2⟩ := hbody f cdv A outer s H vs Q E hr h
  exact ⟨t, h1.nox, h2⟩
end
theorem Def.up {P : Program} {w : World} {K : PySem.W.Frag} {mg : Str → Option Value} {base : Heap} {x : Str} {ps : List Str} {j k : Nat} {sp : Sp} (D : Def P w K mg base x ps j sp) (h : j ≤ k) : Def P w K mg base x ps k sp := by
  obtain ⟨f, fd, F, r⟩ := D.ex
  exact ⟨f, fd, F.mono h, r⟩
section
variable {X : Cx} {x : Str} {ps : List Str} {k : Nat} {sp : Sp} {p pos : Pos} {e : Expr} {es : List Expr} {t : TA}
theorem pe_def (D : Def X.prog X.w X.K X.mg X.base x ps k sp) (hr : Room k X.A) (hg : Gl X x) (ha : PA X (e :: es) t) (hdb : (x == ("__debug__" : Str)) = false := by decide)
    (he : starEach (e :: es) X.env = (false, eval e X.env) :: starEach es X.env := by rfl) (hpl : (backTo pos (starEach es X.env)).any (·.1) = false := by rfl) :
    PE X (.Call (.Name x p) (e :: es) [] pos) (tCall sp [] E0 t) := by
  obtain ⟨f, fd, F, hm, hk, hb⟩ := D.ex
  exact pe_call F hr hg hm hk hb .nil pass0 ha hdb he hpl
end
/-- what of the module's names a body asks -/
structure Txt (K : PySem.W.Frag) (mg : Str → Option Value) (CB CO : Addr) : Prop where
  isi : mg "isinstance" = none
  int : mg "int" = none
  bool : mg "bool" = none
  tuple : mg "tuple" = none
  list : mg "list" = none
  len : mg "len" = none
  all : mg "all" = none
  any : mg "any" = none
  sum : mg "sum" = none
  range : mg "range" = none
  enum : mg "enumerate" = none
  zip : mg "zip" = none
  max : mg "max" = none
  set : mg "set" = none
  sorted : mg "sorted" = none
  abs : mg "abs" = none
  mp : ∃ t, mg "MOST_PEOPLE" = some (.int 12 t)
  ml : ∃ t, mg "MOST_LOTS" = some (.int 60 t)
  ms : ∃ t, mg "MOST_SIGHTINGS" = some (.int 20 t)
  cB : Cls K CB
  cO : Cls K CO
  gB : mg "Book" = some (.ref CB)
  gO : mg "Office" = some (.ref CO)
  kB : PySem.W.keepIn K (.ref CB) = true
  bP : NoAttr K CB "people"
  bL : NoAttr K CB "lots"
  bM : NoAttr K CB "masks"
  oB : NoAttr K CO "book"
  oO : NoAttr K CO "order"
  oK : NoAttr K CO "kept_lasts"
  oR : NoAttr K CO "bars"
  i1 : PySem.W.findIn K (.ref CB) "__class__" = some (some (.builtin "object.__class__"))
  i2 : PySem.W.specialIn K (.builtin "object.__class__") "__get__" = some (some (.builtin "getset_descriptor.__get__"))
  i3 : PySem.W.takesIn K (.builtin "object.__class__") = some true
  i4 : PySem.W.mroIn K CB (.type "object") = some true
  i5 : PySem.W.kitOne K (.ref CB) (.ref CB) = some true

/-! ### heaps: what stays -/
/-- tuples stay -/
def TS (H H' : Hp) : Prop := ∀ b xs, H b = some (.tup xs) → H' b = some (.tup xs)
theorem TS.refl (H : Hp) : TS H H := fun _ _ h => h
theorem TS.trans {H H1 H2 : Hp} (a : TS H H1) (b : TS H1 H2) : TS H H2 := fun c xs h => b c xs (a c xs h)
theorem ts_same {H H' : Hp} (h : Same H H') : TS H H' := fun b xs e => h b _ e
/-- a new object -/
theorem same_new {H : Hp} {p : Addr} {o : HO} (h : H p = none) : Same H (upd H p o) := fun b u e => by
  rw [upd_ne (ne_of_none e h)]
  exact e
theorem ts_new {H : Hp} {p : Addr} {o : HO} (h : H p = none) : TS H (upd H p o) := ts_same (same_new h)
/-- what is no tuple is written -/
theorem ts_upd {H : Hp} {p : Addr} {o u : HO} (h : H p = some u) (hu : ∀ xs, u ≠ .tup xs) : TS H (upd H p o) := fun b xs e => by
  have : b ≠ p := fun z => by
    rw [z, h] at e
    exact hu xs (Option.some.inj e)
  rw [upd_ne this]
  exact e
theorem ts_lst {H : Hp} {p : Addr} {o : HO} {xs : List V} (h : H p = some (.lst xs)) : TS H (upd H p o) := ts_upd h fun _ z => by cases z
/-- all stays but what stands at D, which was not there -/
theorem same_at {H H1 : Hp} {D : Addr} {o : HO} (h : Same H H1) (n : H D = none) : Same H (upd H1 D o) := fun b u e => by
  rw [upd_ne (ne_of_none e n)]
  exact h b u e

/-! ### numbers, crowds, lots on the heap -/
abbrev vN (i : Nat) : V := .int (i : Int)
/-- a tuple of numbers -/
def CrT (H : Hp) (a : Addr) (c : List Nat) : Prop := H a = some (.tup (c.map vN))
theorem CrT.mono {H H' : Hp} {a : Addr} {c : List Nat} (t : TS H H') (h : CrT H a c) : CrT H' a c := t a _ h
/-- refs to tuples of numbers -/
def CrsR (H : Hp) : List V → List (List Nat) → Prop := Paired fun v c => ∃ a, v = .ref a ∧ CrT H a c
theorem CrsR.mono {H H' : Hp} {vs : List V} {cs : List (List Nat)} (t : TS H H') (h : CrsR H vs cs) : CrsR H' vs cs := Paired.mapP h fun v c ⟨a, e, r⟩ => ⟨a, e, r.mono t⟩
/-- a tuple of crowds -/
def CrTT (H : Hp) (a : Addr) (cs : List (List Nat)) : Prop := ∃ vs, H a = some (.tup vs) ∧ CrsR H vs cs
theorem CrTT.mono {H H' : Hp} {a : Addr} {cs : List (List Nat)} (t : TS H H') (h : CrTT H a cs) : CrTT H' a cs := by
  obtain ⟨vs, e, r⟩ := h
  exact ⟨vs, t a _ e, r.mono t⟩
/-- a pair of crowds -/
def PrT (H : Hp) (a : Addr) (z : List Nat × List Nat) : Prop := ∃ b c, H a = some (.tup [.ref b, .ref c]) ∧ CrT H b z.1 ∧ CrT H c z.2
theorem PrT.mono {H H' : Hp} {a : Addr} {z : List Nat × List Nat} (t : TS H H') (h : PrT H a z) : PrT H' a z := by
  obtain ⟨b, c, e, r1, r2⟩ := h
  exact ⟨b, c, t a _ e, r1.mono t, r2.mono t⟩
def PrsR (H : Hp) : List V → List (List Nat × List Nat) → Prop := Paired fun v z => ∃ a, v = .ref a ∧ PrT H a z
theorem PrsR.mono {H H' : Hp} {vs : List V} {cs : List (List Nat × List Nat)} (t : TS H H') (h : PrsR H vs cs) : PrsR H' vs cs := Paired.mapP h fun v c ⟨a, e, r⟩ => ⟨a, e, r.mono t⟩
theorem paired_at {α β : Type} {G : α → β → Prop} {l : List α} {m : List β} (h : Paired G l m) {i : Nat} {a : α} (e : l[i]? = some a) : ∃ b, m[i]? = some b ∧ G a b := paired_get h e
theorem paired_app {α β : Type} {G : α → β → Prop} : ∀ {l : List α} {m : List β} {a : α} {b : β}, Paired G l m → G a b → Paired G (l ++ [a]) (m ++ [b])
  | _, _, _, _, .nil, h => .cons h .nil
  | _, _, _, _, .cons r t, h => .cons r (paired_app t h)
theorem paired_len {α β : Type} {G : α → β → Prop} {l : List α} {m : List β} (h : Paired G l m) : l.length = m.length := Paired.length h
theorem take_next {α : Type} {l : List α} {i : Nat} {a : α} (e : l[i]? = some a) : l.take (i + 1) = l.take i ++ [a] := by
  rw [List.take_succ, e]; rfl
theorem len_at {α : Type} {l : List α} {i : Nat} {a : α} (e : l[i]? = some a) : i < l.length := (List.getElem?_eq_some_iff.mp e).1
theorem map_at {c : List Nat} {i : Nat} {x : V} (e : (c.map vN)[i]? = some x) : ∃ n, c[i]? = some n ∧ x = vN n := by
  rw [List.getElem?_map] at e
  cases q : c[i]? with
  | none => rw [q] at e; cases e
  | some n => rw [q] at e; exact ⟨n, rfl, (Option.some.inj e).symm⟩
theorem line1 {n : Nat} (h : n ≤ 100000) : n < sizeLine := Nat.lt_of_le_of_lt h (by decide)
theorem line2 {n : Nat} (h : n ≤ 100000) : n ≤ sizeLine := Nat.le_of_lt (line1 h)
end K43
/-! ## K6Loops -/
set_option Elab.async false
set_option linter.all false
set_option maxRecDepth 100000
set_option maxHeartbeats 4000000
/-! K6Loops: comprehensions whose turns leave all that stood but what lies in S. -/
namespace K43
open PySem PySem.Spec PyProof.Rows L2
/-- all that was tracked stays, but at S -/
def Kx (S : Addr → Prop) (H H' : Hp) : Prop := ∀ b o, ¬ S b → H b = some o → H' b = some o
theorem Kx.refl {S : Addr → Prop} (H : Hp) : Kx S H H := fun _ _ _ h => h
theorem Kx.trans {S : Addr → Prop} {H H1 H2 : Hp} (a : Kx S H H1) (b : Kx S H1 H2) : Kx S H H2 := fun c o n h => b c o n (a c o n h)
theorem Kx.of {S : Addr → Prop} {H H' : Hp} (h : Same H H') : Kx S H H' := fun b o _ e => h b o e
theorem Kx.same {H H' : Hp} (h : Kx (fun _ => False) H H') : Same H H' := fun b o e => h b o id e
theorem Kx.at {S : Addr → Prop} {H H1 : Hp} {D : Addr} {o : HO} (h : Kx S H H1) (n : H D = none) : Kx S H (upd H1 D o) := fun b u s e => by
  rw [upd_ne (ne_of_none e n)]
  exact h b u s e
section
variable {J : It} {n : Nat} {G : Hp → Prop} {Y : Nat → Hp → V → Hp → Prop}
/-- a comprehension: f tells what a turn appends (none: nothing), R how it lies on the heap; I what else holds between the turns -/
theorem lc_gen {β : Type} (w : Walk J n G Y) {g : TG} {tt : TT} {te : TE} {vs : List Nat} {σ : L2.St} {H1 : Hp} {D : Addr} {Qd : Hp → Prop} (S : Addr → Prop) (I : Hp → Prop) (R : Hp → V → β → Prop) (f : Nat → Option β)
    (hD : H1 D = none) (hS : ¬ S D) (hI1 : I H1) (hI : ∀ H' o, H1 D = none → I H' → I (upd H' D o)) (hG : ∀ H', Kx S H1 H' → I H' → G H') (hT : ∀ H H', I H → Kx S H H' → TS H H') (hR : ∀ H H' v b, TS H H' → R H v b → R H' v b) (hn : n ≤ 100000)
    (turn : ∀ i x H0 H' (K1 : V → Hp → Prop) (K2 : Hp → Prop), i < n → Kx S H1 H0 → I H0 → Y i H0 x H' → (∀ y H4 z, Kx S H0 H4 → I H4 → f i = some z → R H4 y z → K1 y H4) → (∀ H4, Kx S H0 H4 → I H4 → f i = none → K2 H4) →
      g x (wipe σ vs) H' fun σ2 H2 => wipe σ2 vs = wipe σ vs ∧ tt σ2 H2 fun b H3 => if b = true then te σ2 H3 K1 else K2 H3)
    (done : ∀ H' ys, Kx S H1 H' → I H' → H' D = some (.lst ys) → Paired (R H') ys ((List.range n).filterMap f) → Qd H') :
    ∃ W : Nat → Nat → Hp → Prop, (∃ m, W 0 m (upd H1 D (.lst []))) ∧ ∀ i m H, W i m H →
      (J.stop i H ∧ Qd H) ∨ (J.go i H ∧ ∃ Nx : Hp → Prop, (∀ H', Nx H' → ∃ m', m' < m ∧ W (i + 1) m' H') ∧ ∀ x H', J.yld i H x H' → g x (wipe σ vs) H' fun σ2 H2 => wipe σ2 vs = wipe σ vs ∧ tt σ2 H2 fun b H3 =>
        if b = true then te σ2 H3 fun y H4 => ∃ acc, H4 D = some (.lst acc) ∧ acc.length < sizeLine ∧ Nx (upd H4 D (.lst (acc ++ [y]))) else Nx H3) := by
  refine lc_it w (fun i H => Kx S H1 H ∧ I H ∧ ∃ ys, H D = some (.lst ys) ∧ ys.length ≤ i ∧ Paired (R H) ys ((List.range i).filterMap f)) ?_ ?_ ?_ ?_
  · exact ⟨Kx.at (Kx.refl _) hD, hI _ _ hD hI1, [], upd_same, Nat.le_refl _, .nil⟩
  · intro i H _ h
    exact hG H h.1 h.2.1
  · intro i x H0 H' hi ⟨k0, i0, ys, e0, l0, p0⟩ hy
    have hsnoc : ∀ z, f i = some z → (List.range (i + 1)).filterMap f = (List.range i).filterMap f ++ [z] := fun z e => by
      rw [List.range_succ, List.filterMap_append, List.filterMap_cons, e] <;> rfl
    have hsnon : f i = none → (List.range (i + 1)).filterMap f = (List.range i).filterMap f := fun e => by
      rw [List.range_succ, List.filterMap_append, List.filterMap_cons, e]
      simp
    refine turn i x H0 H' _ _ hi k0 i0 hy (fun y H4 z k4 i4 ez r4 => ?_) (fun H4 k4 i4 ez => ?_)
    · have e4 := k4 D _ hS e0
      refine ⟨ys, e4, line1 (by omega), Kx.at (k0.trans k4) hD, hI _ _ hD i4, ys ++ [y], upd_same, by rw [List.length_append]; simp; exact l0, ?_⟩
      have t1 : TS H4 (upd H4 D (.lst (ys ++ [y]))) := ts_lst e4
      rw [hsnoc z ez]
      exact paired_app (Paired.mapP p0 fun v b r => hR _ _ _ _ ((hT _ _ i0 k4).trans t1) r) (hR _ _ _ _ t1 r4)
    · refine ⟨k0.trans k4, i4, ys, k4 D _ hS e0, Nat.le_succ_of_le l0, ?_⟩
      rw [hsnon ez]
      exact Paired.mapP p0 fun v b r => hR _ _ _ _ (hT _ _ i0 k4) r
  · rintro H ⟨k, i, ys, e, _, p⟩
    exact done H ys k i e p
/-- .. whose turns leave all that stood -/
theorem lc_same {β : Type} (w : Walk J n G Y) {g : TG} {tt : TT} {te : TE} {vs : List Nat} {σ : L2.St} {H1 : Hp} {D : Addr} {Qd : Hp → Prop} (R : Hp → V → β → Prop) (f : Nat → Option β)
    (hD : H1 D = none) (hG : ∀ H', Same H1 H' → G H') (hR : ∀ H H' v b, TS H H' → R H v b → R H' v b) (hn : n ≤ 100000)
    (turn : ∀ i x H0 H' (K1 : V → Hp → Prop) (K2 : Hp → Prop), i < n → Same H1 H0 → Y i H0 x H' → (∀ y H4 z, Same H0 H4 → f i = some z → R H4 y z → K1 y H4) → (∀ H4, Same H0 H4 → f i = none → K2 H4) →
      g x (wipe σ vs) H' fun σ2 H2 => wipe σ2 vs = wipe σ vs ∧ tt σ2 H2 fun b H3 => if b = true then te σ2 H3 K1 else K2 H3)
    (done : ∀ H' ys, Same H1 H' → H' D = some (.lst ys) → Paired (R H') ys ((List.range n).filterMap f) → Qd H') :
    ∃ W : Nat → Nat → Hp → Prop, (∃ m, W 0 m (upd H1 D (.lst []))) ∧ ∀ i m H, W i m H →
      (J.stop i H ∧ Qd H) ∨ (J.go i H ∧ ∃ Nx : Hp → Prop, (∀ H', Nx H' → ∃ m', m' < m ∧ W (i + 1) m' H') ∧ ∀ x H', J.yld i H x H' → g x (wipe σ vs) H' fun σ2 H2 => wipe σ2 vs = wipe σ vs ∧ tt σ2 H2 fun b H3 =>
        if b = true then te σ2 H3 fun y H4 => ∃ acc, H4 D = some (.lst acc) ∧ acc.length < sizeLine ∧ Nx (upd H4 D (.lst (acc ++ [y]))) else Nx H3) := by
  refine lc_gen w (fun _ => False) (fun _ => True) R f hD id trivial (fun _ _ _ _ => trivial) (fun H' k _ => hG H' k.same) (fun H H' _ k => ts_same k.same) hR hn ?_ ?_
  · intro i x H0 H' K1 K2 hi k0 _ hy h1 h2
    exact turn i x H0 H' K1 K2 hi k0.same hy (fun y H4 z s e r => h1 y H4 z (Kx.of s) trivial e r) (fun H4 s e => h2 H4 (Kx.of s) trivial e)
  · intro H' ys k _ e p
    exact done H' ys k.same e p
end
/-- values, the heap not asked -/
theorem paired_val {β : Type} {F : β → V} : ∀ {ys : List V} {zs : List β}, Paired (fun v b => v = F b) ys zs → ys = zs.map F
  | _, _, .nil => rfl
  | _, _, .cons e t => by rw [List.map_cons, ← paired_val t, e]
theorem fm_map {α β : Type} (l : List α) (F : α → Option β) : (List.range l.length).filterMap (fun i => l[i]?.bind F) = l.filterMap F := by
  have key : ∀ (a b : List α), (List.range b.length).filterMap (fun i => (a ++ b)[a.length + i]?.bind F) = b.filterMap F := by
    intro a b
    induction b generalizing a with
    | nil => rfl
    | cons x b ih =>
      rw [List.length_cons, List.range_succ_eq_map, List.filterMap_cons, List.filterMap_map]
      have h0 : ((a ++ x :: b)[a.length + 0]?.bind F) = F x := by simp
      have h1 : (fun i => (a ++ x :: b)[a.length + i]?.bind F) ∘ Nat.succ = fun i => ((a ++ [x]) ++ b)[(a ++ [x]).length + i]?.bind F := by
        funext i
        simp only [Function.comp_apply, List.append_assoc, List.cons_append, List.nil_append, List.length_append, List.length_cons, List.length_nil]
        congr 2
        omega
      rw [h1, ih (a ++ [x]), h0, List.filterMap_cons]
  have := key [] l
  simpa using this
theorem fm_some {α β : Type} (l : List α) (F : α → β) : l.filterMap (fun x => some (F x)) = l.map F := by
  induction l with
  | nil => rfl
  | cons x l ih => rw [List.filterMap_cons, ih] <;> rfl
theorem fm_range {β : Type} (n : Nat) (F : Nat → β) (p : Nat → Bool) : (List.range n).filterMap (fun i => if p i = true then some (F i) else none) = ((List.range n).filter p).map F := by
  induction (List.range n) with
  | nil => rfl
  | cons x l ih =>
    rw [List.filterMap_cons, List.filter_cons, ih]
    cases h : p x <;> simp
theorem fm_if {α β : Type} (l : List α) (F : α → β) (p : α → Bool) : l.filterMap (fun i => if p i = true then some (F i) else none) = (l.filter p).map F := by
  induction l with
  | nil => rfl
  | cons x l ih =>
    rw [List.filterMap_cons, List.filter_cons, ih]
    cases h : p x <;> simp
end K43
/-! ## K7Rules -/
set_option Elab.async false
set_option linter.all false
set_option maxRecDepth 100000
set_option maxHeartbeats 4000000
/-! K7Rules: the layer's rules with the written part named, so that they serve within comprehensions too. -/
namespace K43
open PySem PySem.Spec PyProof.Rows L2
section
variable {X : Cx} {e : Expr} {ta : TE} {pos apos cpos p : Pos}
theorem ixL (K : PySem.W.Frag) (h : X.K = K := by rfl) : IxR X (rIxL K) := h ▸ ix_list
theorem ixT (K : PySem.W.Frag) (h : X.K = K := by rfl) : IxR X (rIxT K) := h ▸ ix_tup
theorem slL (K : PySem.W.Frag) (h : X.K = K := by rfl) : SlR X (rSlL K) := h ▸ sl_list
theorem slT (K : PySem.W.Frag) (h : X.K = K := by rfl) : SlR X (rSlA K) := h ▸ sl_tupA
def rLen (K : PySem.W.Frag) : List V → Hp → VK → Prop := fun xs H Q => ∃ p ys, xs = [.ref p] ∧ (SqL K H p ys ∨ SqT K H p ys) ∧ Q (.int ys.length) H
theorem crLen (K : PySem.W.Frag) (h : X.K = K := by rfl) : CallR X (.builtin "len") (rLen K) := h ▸ call_len_seq
theorem crIsi (K : PySem.W.Frag) (h : X.K = K := by rfl) : CallR X (.builtin "isinstance") (rIsi K) := h ▸ call_isi
theorem crIsiT (K : PySem.W.Frag) (h : X.K = K := by rfl) : CallR X (.builtin "isinstance") (rIsiT K) := h ▸ call_isiT
theorem crAll (K : PySem.W.Frag) (hc : X.calm = true := by rfl) (h : X.K = K := by rfl) : CallR X (.builtin "all") (rAll K) := h ▸ cr_all hc
theorem crAny (K : PySem.W.Frag) (hc : X.calm = true := by rfl) (h : X.K = K := by rfl) : CallR X (.builtin "any") (rAny K) := h ▸ cr_any hc
theorem crSum (K : PySem.W.Frag) (hc : X.calm = true := by rfl) (h : X.K = K := by rfl) : CallR X (.builtin "sum") (rSum K) := h ▸ cr_sum hc
def rTup (K : PySem.W.Frag) : List V → Hp → VK → Prop := fun xs H Q => ∃ p ys, xs = [.ref p] ∧ ((SqL K H p ys ∧ ∀ l, H l = none → Q (.ref l) (upd H l (.tup ys))) ∨ (SqT K H p ys ∧ Q (.ref p) H))
theorem crTup (K : PySem.W.Frag) (h : X.K = K := by rfl) : CallR X (.type "tuple") (rTup K) := h ▸ call_tuple_of
theorem opIn (K : PySem.W.Frag) (h : X.K = K := by rfl) : OpR X (compareOp .In) (rIn K false) := h ▸ op_in_seq
theorem opNotIn (K : PySem.W.Frag) (h : X.K = K := by rfl) : OpR X (compareOp .NotIn) (rIn K true) := h ▸ op_notIn_seq
theorem opEqD (K : PySem.W.Frag) (hu : X.A.units + 64 < cLine) (h : X.K = K := by rfl) : OpR X (compareOp .Eq) (rEqD K) := h ▸ op_eqD hu
theorem opNeD (K : PySem.W.Frag) (hu : X.A.units + 64 < cLine) (h : X.K = K := by rfl) : OpR X (compareOp .NotEq) (rNeD K) := h ▸ op_neD hu
theorem opInD (K : PySem.W.Frag) (hu : X.A.units + 65 < cLine) (h : X.K = K := by rfl) : OpR X (compareOp .In) (rInD K) := h ▸ op_inD hu
theorem opLtT (K : PySem.W.Frag) (hu : X.A.units < cLine) (h : X.K = K := by rfl) : OpR X (compareOp .Lt) (rLtT K) := h ▸ op_ltT hu
theorem opLeT (K : PySem.W.Frag) (hu : X.A.units < cLine) (h : X.K = K := by rfl) : OpR X (compareOp .LtE) (rLeT K) := h ▸ op_leT hu
theorem opCatA (K : PySem.W.Frag) (h : X.K = K := by rfl) : OpR X (binaryOp .Add) (rCatA K) := h ▸ op_catA
theorem peFld (K : PySem.W.Frag) {f : Str} (he : PE X e ta) (hb : attributeBase e f X.env (eval e X.env) = eval e X.env := by rfl) (h : X.K = K := by rfl) : PE X (.Attribute e f pos) (tFld K ta f) := h ▸ pe_fld he hb
theorem peBm (K : PySem.W.Frag) {o : Expr} {es : List Expr} {to : TE} {t : TA} {name : Str} {T id : String} {r : V → List V → Hp → VK → Prop} (pa : PlainAttrs T) (slot : Slot T name id) (hty : typeOf (.builtin id) = pure (.type "method_descriptor")) (hm : MtR X id r) (ho : PE X o to) (ha : PA X (e :: es) t)
    (hbase : attributeBase o name X.env (eval o X.env) = eval o X.env := by rfl)
    (hfew : ((backTo cpos (starEach (e :: es) X.env)).all (fun x => !x.1) && (backToKw cpos (keywordEach [] X.env)).all (fun x => x.1.isSome)
      && decide ((e :: es).length + ([] : List Keyword).length + (if ([] : List Keyword).isEmpty then 0 else 1) < 30)) = true := by rfl)
    (hline : (apos.endLine == cpos.line) = true := by rfl) (hs : starEach (e :: es) X.env = (false, eval e X.env) :: starEach es X.env := by rfl) (hplain : (backTo cpos (starEach es X.env)).any (·.1) = false := by rfl) (h : X.K = K := by rfl) :
    PE X (.Call (.Attribute o name apos) (e :: es) [] cpos) (tBM K T r to t) := h ▸ pe_bm pa slot hty hm ho ha hbase hfew hline hs hplain
theorem piL (K : PySem.W.Frag) {tg : Expr} (hl : PE X e ta) (h : X.K = K := by rfl) : PI X tg e (iList K ta) := h ▸ pi_list hl
theorem piT (K : PySem.W.Frag) {tg : Expr} (hl : PE X e ta) (h : X.K = K := by rfl) : PI X tg e (iTup K ta) := h ▸ pi_tup hl
theorem pgTup (K : PySem.W.Frag) {es : List Expr} {k : Nat} {t : TGs} {n : Nat} (hc : X.calm = true) (hp : PGs X es t)
    (hn : (assignEach es X.env).length = n := by rfl) (hst : (assignEach es X.env).findIdx? (·.1) = none := by rfl) (h : X.K = K := by rfl) : PG X (.Tuple es k pos) (gTup K n t) := h ▸ pg_tup hc hp hn hst
theorem piEnum (K : PySem.W.Frag) {t : TA} {tpos : Pos} {elts : List Expr} {kk : Nat} (hg : Gl X "enumerate") (hm : X.mg "enumerate" = none) (ha : PA X [e] t) (hs : starEach [e] X.env = [(false, eval e X.env)] := by rfl) (h : X.K = K := by rfl) :
    PI X (.Tuple elts kk tpos) (.Call (.Name "enumerate" p) [e] [] pos) (iEnum K t) := h ▸ pi_enum hg hm ha hs
theorem piZip (K : PySem.W.Frag) {e2 : Expr} {t : TA} {tpos : Pos} {elts : List Expr} {kk : Nat} (hg : Gl X "zip") (hm : X.mg "zip" = none) (ha : PA X [e, e2] t)
    (hs : starEach [e, e2] X.env = (false, eval e X.env) :: starEach [e2] X.env := by rfl) (hpl : (backTo pos (starEach [e2] X.env)).any (·.1) = false := by rfl) (h : X.K = K := by rfl) :
    PI X (.Tuple elts kk tpos) (.Call (.Name "zip" p) [e, e2] [] pos) (RZ.iZipA K t) := h ▸ RZ.pi_zipA hg hm ha hs hpl
theorem peRev (K : PySem.W.Frag) {k : Nat} {p1 p2 p3 : Pos} (he : PE X e ta) (h : X.K = K := by rfl) : PE X (.Subscript e (.Slice none none (some (.UnaryOp .USub (.Constant (.int 1) k p1) p2)) p3) pos) (tRevL K ta) := h ▸ pe_revL he
end
end K43
/-! ## A1 -/
set_option Elab.async false
set_option linter.all false
set_option maxRecDepth 100000
set_option maxHeartbeats 4000000
/-! A1: checks. -/
namespace K43
open PySem PySem.Spec PyProof.Rows L2
theorem qT {Q : VK} {H : Hp} {p : Prop} [Decidable p] (hp : p) (k : Q (.bl true) H) : Q (.bl (decide p)) H := by
  rw [decide_eq_true hp]; exact k
theorem qF {Q : VK} {H : Hp} {p : Prop} [Decidable p] (hp : ¬ p) (k : Q (.bl false) H) : Q (.bl (decide p)) H := by
  rw [decide_eq_false hp]; exact k
theorem rng_ok {n : Nat} (h : n ≤ 100000) : -(2 ^ 62) ≤ (n : Int) ∧ (n : Int) < 2 ^ 62 := by omega
theorem all_true {α : Type} (l : List α) : (l.filterMap fun _ => some true).all id = true := List.all_eq_true.mpr fun b hb => by
  obtain ⟨_, _, e⟩ := List.mem_filterMap.mp hb
  cases e
  rfl
theorem row_new {c : List Nat} (hn : c.Nodup) {i z : Nat} (e : c[i]? = some z) : valV ((c.take i).map fun (p : Nat) => ((Sum.inl (p : Int) : Key), V.bl true)) (Sum.inl (z : Int)) = none := by
  cases q : valV ((c.take i).map fun (p : Nat) => ((Sum.inl (p : Int) : Key), V.bl true)) (Sum.inl (z : Int)) with
  | none => rfl
  | some v =>
    exfalso
    have h1 := valV_in q
    rw [List.map_map] at h1
    obtain ⟨p, hp, e2⟩ := List.mem_map.mp h1
    have e3 : (p : Int) = (z : Int) := Sum.inl.inj e2
    have e4 : p = z := by omega
    exact not_ahead hn e (by rw [← e4]; exact hp)
theorem tyes {σ : L2.St} {H : Hp} {A B : Hp → Prop} (h : A H) : tYes σ H fun b H3 => if b = true then A H3 else B H3 := by
  show (if true = true then A H else B H)
  rw [if_pos rfl]
  exact h
theorem bits_len {m k : Nat} (h : m < 2 ^ k) : ∃ b : Nat, Builtin.Int.intBits (m : Int) = b ∧ m < 2 ^ b ∧ b ≤ k :=
  ⟨_, rfl, intBits_le_iff (x := (m : Int)).mp (Nat.le_refl _), intBits_le_iff (x := (m : Int)).mpr h⟩
theorem nat_beq (a b : Nat) : ((a : Int) == (b : Int)) = (a == b) := by
  by_cases h : a = b
  · rw [h, beq_self_eq_true, beq_self_eq_true]
  · rw [beq_eq_false_iff_ne.mpr h, beq_eq_false_iff_ne.mpr (fun z => h (by omega))]
theorem hld_dec (a b : Nat) : decide (V.int (Builtin.bitAnd (a : Int) (b : Int)) = V.int (b : Int)) = hld a b := by
  rw [dec_int, bitAnd_pp (by omega) (by omega), Int.toNat_natCast, Int.toNat_natCast, nat_beq] <;> rfl
theorem tb_dec (m i : Nat) : decide (V.int ((m / 2 ^ i % 2 : Nat) : Int) = V.int 1) = m.testBit i := by
  rw [dec_int, Nat.testBit_eq_decide_div_mod_eq]
  show (((m / 2 ^ i % 2 : Nat) : Int) == ((1 : Nat) : Int)) = _
  rw [nat_beq]
  rfl
theorem shr_cast (m i : Nat) : V.int ((m : Int) / 2 ^ i) = V.int ((m / 2 ^ i : Nat) : Int) := by
  rw [Int.natCast_ediv, Int.natCast_pow] <;> rfl
theorem all_cast (n : Nat) : V.int ((2 : Int) ^ n - 1) = vN (2 ^ n - 1) := by
  have h : 1 ≤ 2 ^ n := Nat.one_le_two_pow
  show V.int _ = V.int _
  congr 1
  rw [Int.natCast_sub h, Int.natCast_pow] <;> rfl
theorem z_add (i : Nat) : V.int (0 + (i : Int)) = V.int (i : Int) := by rw [Int.zero_add]
section
variable {P : Program} {w : World} {K : PySem.W.Frag} {mg : Str → Option Value} {base : Heap} {CB CO : Addr}
theorem sc_is_integer : FnScope ["thing"] ["thing"] (defScope s_is_integer) := ⟨rfl, rfl, rfl, by decide +kernel, rfl, by decide +kernel, by decide +kernel⟩
def sp_is_integer : Sp := fun vs H Q _ => ∃ i : Int, vs = [.int i] ∧ Q (.bl true) H
theorem def_is_integer (T : Txt K mg CB CO) (S0 : Src K mg "is_integer" s_is_integer) : Def P w K mg base "is_integer" ["thing"] 1 (sp_is_integer) := by
  refine S0.mk sc_is_integer (fun _ _ _ _ _ _ us hl => match us, hl with | [_], _ => rfl) (fun vs H Q E h => ?_) (fun f cdv A outer s H vs Q E hr h => ?_)
  · obtain ⟨i, rfl, k⟩ := h
    rfl
  · obtain ⟨i, rfl, k⟩ := h
    refine ⟨_, (pss_one (ps_ret (pe_and (pe_callB (crIsi K) (by rfl) T.isi (by decide +kernel) (pa_cons (pv 0) (pa_cons (pe_bltn (v := .ty "int") (by rfl) T.int (by decide +kernel) rfl) pa_nil))) (pe_one (pe_not (pe_callB (crIsi K) (by rfl) T.isi (by decide +kernel) (pa_cons (pv 0) (pa_cons (pe_bltn (v := .ty "bool") (by rfl) T.bool (by decide +kernel) rfl) pa_nil)))))))), ?_⟩
    exact ⟨_, rfl, _, _, _, _, true, rfl, .ty _, .base (.int _), kit_ty (by decide +kernel), true, rfl, iteT ⟨_, rfl, _, _, _, _, false, rfl, .ty _, .base (.int _), kit_ty (by decide +kernel), false, rfl, k⟩⟩
theorem sc_is_within : FnScope ["thing", "least", "most"] ["thing", "least", "most"] (defScope s_is_within) := ⟨rfl, rfl, rfl, by decide +kernel, rfl, by decide +kernel, by decide +kernel⟩
def sp_is_within : Sp := fun vs H Q _ => ∃ i a b : Int, vs = [.int i, .int a, .int b] ∧ Q (.bl (decide (a ≤ i) && decide (i ≤ b))) H
theorem def_is_within (T : Txt K mg CB CO) (D_is_integer : Def P w K mg base "is_integer" ["thing"] 1 sp_is_integer) (S0 : Src K mg "is_within" s_is_within) : Def P w K mg base "is_within" ["thing", "least", "most"] 2 (sp_is_within) := by
  have D_is_integer := D_is_integer.up (show 1 ≤ 1 by decide)
  refine S0.mk sc_is_within (fun _ _ _ _ _ _ us hl => match us, hl with | [_, _, _], _ => rfl) (fun vs H Q E h => ?_) (fun f cdv A outer s H vs Q E hr h => ?_)
  · obtain ⟨i, a, b, rfl, k⟩ := h
    rfl
  · obtain ⟨i, a, b, rfl, k⟩ := h
    refine ⟨_, (pss_one (ps_ret (pe_and (pe_def D_is_integer hr rfl (pa_cons (pv 0) pa_nil)) (pe_one (pe_chain op_le op_le (pv 1) (pv 0) (pv 2)))))), ?_⟩
    refine ⟨_, rfl, i, rfl, true, rfl, iteT ⟨_, rfl, _, rfl, _, _, rfl, rfl, _, rfl, ?_⟩⟩
    by_cases h1 : a ≤ i
    · rw [decide_eq_true h1, Bool.true_and] at k
      rw [decide_eq_true h1]
      exact iteT ⟨_, rfl, _, _, rfl, rfl, k⟩
    · rw [decide_eq_false h1, Bool.false_and] at k
      rw [decide_eq_false h1]
      exact iteF k
theorem sc_is_pair : FnScope ["thing"] ["thing"] (defScope s_is_pair) := ⟨rfl, rfl, rfl, by decide +kernel, rfl, by decide +kernel, by decide +kernel⟩
def sp_is_pair : Sp := fun vs H Q _ => ∃ (a : Addr) (x y : V), vs = [.ref a] ∧ H a = some (.tup [x, y]) ∧ Q (.bl true) H
theorem def_is_pair (T : Txt K mg CB CO) (S0 : Src K mg "is_pair" s_is_pair) : Def P w K mg base "is_pair" ["thing"] 1 (sp_is_pair) := by
  refine S0.mk sc_is_pair (fun _ _ _ _ _ _ us hl => match us, hl with | [_], _ => rfl) (fun vs H Q E h => ?_) (fun f cdv A outer s H vs Q E hr h => ?_)
  · obtain ⟨a, x, y, rfl, h, k⟩ := h
    rfl
  · obtain ⟨a, x, y, rfl, h, k⟩ := h
    refine ⟨_, (pss_one (ps_ret (pe_and (pe_callB (crIsi K) (by rfl) T.isi (by decide +kernel) (pa_cons (pv 0) (pa_cons (pe_bltn (v := .ty "tuple") (by rfl) T.tuple (by decide +kernel) rfl) pa_nil))) (pe_one (pe_cmpR op_eq (pe_callB (crLen K) (by rfl) T.len (by decide +kernel) (pa_cons (pv 0) pa_nil)) pe_int (nomark _)))))), ?_⟩
    exact ⟨_, rfl, _, _, _, _, true, rfl, .ty _, .base (.tup h), kit_ty (by decide +kernel), true, rfl, iteT ⟨_, rfl, a, _, rfl, .inr (SqT.of h), rfl, qT rfl k⟩⟩
theorem sc_is_listed : FnScope ["thing"] ["thing"] (defScope s_is_listed) := ⟨rfl, rfl, rfl, by decide +kernel, rfl, by decide +kernel, by decide +kernel⟩
def sp_is_listed : Sp := fun vs H Q _ => ∃ (a : Addr) (xs : List V), vs = [.ref a] ∧ (H a = some (.lst xs) ∨ H a = some (.tup xs)) ∧ ∀ H1, Same H H1 → Q (.bl true) H1
theorem def_is_listed (T : Txt K mg CB CO) (S0 : Src K mg "is_listed" s_is_listed) : Def P w K mg base "is_listed" ["thing"] 1 (sp_is_listed) := by
  refine S0.mk sc_is_listed (fun _ _ _ _ _ _ us hl => match us, hl with | [_], _ => rfl) (fun vs H Q E h => ?_) (fun f cdv A outer s H vs Q E hr h => ?_)
  · obtain ⟨a, xs, rfl, h, k⟩ := h
    rfl
  · obtain ⟨a, xs, rfl, h, k⟩ := h
    refine ⟨_, (pss_one (ps_ret (pe_callB (crIsiT K) (by rfl) T.isi (by decide +kernel) (pa_cons (pv 0) (pa_cons (pe_tup (pa_cons (pe_bltn (v := .ty "list") (by rfl) T.list (by decide +kernel) rfl) (pa_cons (pe_bltn (v := .ty "tuple") (by rfl) T.tuple (by decide +kernel) rfl) pa_nil))) pa_nil))))), ?_⟩
    refine ⟨_, rfl, (by show 2 ≤ sizeLine; decide), fun p hp => ?_⟩
    have sm : Same H (upd H p (.tup [.ty "list", .ty "tuple"])) := same_new hp
    rcases h with h | h
    · exact ⟨_, p, _, _, _, true, rfl, upd_same, .cons (.ty _) (.cons (.ty _) .nil), .base (.lst (sm _ _ h)), kitAny_cons (b := true) (r := true) (kit_ty (by decide +kernel)) (fun q => Bool.noConfusion q) (fun _ => rfl), k _ sm⟩
    · exact ⟨_, p, _, _, _, true, rfl, upd_same, .cons (.ty _) (.cons (.ty _) .nil), .base (.tup (sm _ _ h)), kitAny_cons (b := false) (r := true) (kit_ty (by decide +kernel)) (fun _ => kitAny_cons (b := true) (r := true) (kit_ty (by decide +kernel)) (fun q => Bool.noConfusion q) (fun _ => rfl)) (fun q => Bool.noConfusion q), k _ sm⟩
theorem sc_are_ascending : FnScope ["things", "at"] ["things"] (defScope s_are_ascending) := ⟨rfl, rfl, rfl, by decide +kernel, rfl, by decide +kernel, by decide +kernel⟩
def sp_are_ascending : Sp := fun vs H Q _ => ∃ (a : Addr) (c : List Nat), vs = [.ref a] ∧ CrT H a c ∧ c.Pairwise (· < ·) ∧ c.length ≤ 1000 ∧ ∀ H1, Same H H1 → Q (.bl true) H1
theorem def_are_ascending (T : Txt K mg CB CO) (S0 : Src K mg "are_ascending" s_are_ascending) : Def P w K mg base "are_ascending" ["things"] 1 (sp_are_ascending) := by
  refine S0.mk sc_are_ascending (fun _ _ _ _ _ _ us hl => match us, hl with | [_], _ => rfl) (fun vs H Q E h => ?_) (fun f cdv A outer s H vs Q E hr h => ?_)
  · obtain ⟨a, c, rfl, h, ha, hl, k⟩ := h
    rfl
  · obtain ⟨a, c, rfl, h, ha, hl, k⟩ := h
    refine ⟨_, (pss_one (ps_ret (pe_callB (crAll K) (by rfl) T.all (by decide +kernel) (pa_cons (pe_lc (own := [("at", 1)]) rfl sc_are_ascending.nd (pi_range2 (by rfl) T.range (pa_cons pe_int (pa_cons (pe_callB (crLen K) (by rfl) T.len (by decide +kernel) (pa_cons (pv 0) pa_nil)) pa_nil))) (blkOk_by (by kernel_rfl)) (fun _ _ _ _ _ => (pg_name (i := 1) sc_are_ascending.nd rfl (Or.inl rfl))) (fun _ _ _ _ _ => pts_nil) (fun _ _ _ _ _ => (pe_cmpR op_lt (pe_ix (ixT K) (pv 0) (pe_op op_sub (pv 1) pe_int) (fun _ _ => rfl)) (pe_ix (ixT K) (pv 0) (pv 1) (fun _ _ => rfl)) (nomark _)))) pa_nil)))), ?_⟩
    have hlm : (c.map vN).length = c.length := List.length_map _
    refine ⟨_, rfl, a, _, rfl, .inr (SqT.of h), 1, _, rfl, ⟨by decide, by decide, by omega, by omega⟩, fun D hD => ?_⟩
    refine lc_same walk_range (fun _ v (b : Bool) => v = .bl b) (fun _ => some true) hD (fun _ _ => trivial) (fun _ _ _ _ _ e => e) (by omega) ?_ ?_
    · rintro i x H0 H1 K1 K2 hi s0 ⟨rfl, rfl⟩ k1 k2
      have h0 : CrT H1 a c := s0 _ _ h
      have hi' : i + 1 < c.length := by omega
      have e1 : (c.map vN)[i]? = some (vN c[i]) := by rw [List.getElem?_map, List.getElem?_eq_getElem (by omega)] <;> rfl
      have e2 : (c.map vN)[i + 1]? = some (vN c[i + 1]) := by rw [List.getElem?_map, List.getElem?_eq_getElem hi'] <;> rfl
      have hlt : c[i] < c[i + 1] := List.pairwise_iff_getElem.mp ha i (i + 1) (by omega) hi' (by omega)
      refine ⟨rfl, tyes ?_⟩
      refine ⟨_, rfl, _, rfl, _, _, rfl, rfl, a, _, _, _, rfl, rfl, SqT.of h0, at_of (show (1 + (i : Int) - 1) = (i : Int) by omega) e1, _, rfl, _, rfl, a, _, _, _, rfl, rfl, SqT.of h0, at_of (show (1 + (i : Int)) = ((i + 1 : Nat) : Int) by omega) e2, _, _, rfl, rfl, ?_⟩
      refine k1 _ _ true (Same.refl _) rfl ?_
      exact congrArg V.bl (decide_eq_true (by omega))
    · intro H1 ys s1 e p
      rw [paired_val p] at e
      refine ⟨D, _, rfl, SqL.of e, ?_⟩
      have : ((List.range ((((c.map vN).length : Nat) : Int) - 1).toNat).filterMap fun _ => some true).all id = true := List.all_eq_true.mpr fun b hb => by
        obtain ⟨_, _, e⟩ := List.mem_filterMap.mp hb
        cases e
        rfl
      rw [this]
      exact k _ (s1)
theorem sc_are_persons : FnScope ["people", "thing", "person"] ["people", "thing"] (defScope s_are_persons) := ⟨rfl, rfl, rfl, by decide +kernel, rfl, by decide +kernel, by decide +kernel⟩
def sp_are_persons : Sp := fun vs H Q _ => ∃ (n : Nat) (a : Addr) (c : List Nat), vs = [vN n, .ref a] ∧ CrT H a c ∧ (∀ i ∈ c, i < n) ∧ c.length ≤ 1000 ∧ ∀ H1, Same H H1 → Q (.bl true) H1
theorem def_are_persons (T : Txt K mg CB CO) (D_is_within : Def P w K mg base "is_within" ["thing", "least", "most"] 2 sp_is_within) (S0 : Src K mg "are_persons" s_are_persons) : Def P w K mg base "are_persons" ["people", "thing"] 3 (sp_are_persons) := by
  have D_is_within := D_is_within.up (show 2 ≤ 2 by decide)
  refine S0.mk sc_are_persons (fun _ _ _ _ _ _ us hl => match us, hl with | [_, _], _ => rfl) (fun vs H Q E h => ?_) (fun f cdv A outer s H vs Q E hr h => ?_)
  · obtain ⟨n, a, c, rfl, h, ha, hl, k⟩ := h
    rfl
  · obtain ⟨n, a, c, rfl, h, ha, hl, k⟩ := h
    refine ⟨_, (pss_one (ps_ret (pe_and (pe_callB (crIsi K) (by rfl) T.isi (by decide +kernel) (pa_cons (pv 1) (pa_cons (pe_bltn (v := .ty "tuple") (by rfl) T.tuple (by decide +kernel) rfl) pa_nil))) (pe_one (pe_callB (crAll K) (by rfl) T.all (by decide +kernel) (pa_cons (pe_lc (own := [("person", 2)]) rfl sc_are_persons.nd (piT K (pv 1)) (blkOk_by (by kernel_rfl)) (fun _ _ _ _ _ => (pg_name (i := 2) sc_are_persons.nd rfl (Or.inl rfl))) (fun _ _ _ _ _ => pts_nil) (fun _ _ _ _ _ => (pe_def D_is_within hr rfl (pa_cons (pv 2) (pa_cons pe_int (pa_cons (pe_op op_sub (pv 0) pe_int) pa_nil)))))) pa_nil)))))), ?_⟩
    have hlm : (c.map vN).length = c.length := List.length_map _
    refine ⟨_, rfl, _, _, _, _, true, rfl, .ty _, .base (.tup h), kit_ty (by decide +kernel), true, rfl, iteT ?_⟩
    refine ⟨_, rfl, a, rfl, ⟨_, SqT.of h⟩, fun D hD => ?_⟩
    refine lc_same walk_tup (fun _ v (b : Bool) => v = .bl b) (fun _ => some true) hD (fun H1 s => SqT.of (s _ _ h)) (fun _ _ _ _ _ e => e) (by omega) ?_ ?_
    · rintro i x H0 H1 K1 K2 hi s0 ⟨rfl, e⟩ k1 k2
      obtain ⟨z, e1, rfl⟩ := map_at e
      have hz := ha z (List.mem_of_getElem? e1)
      refine ⟨rfl, tyes ?_⟩
      refine ⟨_, rfl, _, rfl, _, _, rfl, rfl, _, _, _, rfl, ?_⟩
      refine k1 _ _ true (Same.refl _) rfl ?_
      rw [decide_eq_true (by omega), decide_eq_true (by omega)]
      rfl
    · intro H1 ys s1 e p
      rw [paired_val p] at e
      refine ⟨D, _, rfl, SqL.of e, ?_⟩
      rw [all_true]
      exact k _ s1
theorem sc_is_crowd : FnScope ["people", "thing"] ["people", "thing"] (defScope s_is_crowd) := ⟨rfl, rfl, rfl, by decide +kernel, rfl, by decide +kernel, by decide +kernel⟩
def sp_is_crowd : Sp := fun vs H Q _ => ∃ (n : Nat) (a : Addr) (c : List Nat), vs = [vN n, .ref a] ∧ CrT H a c ∧ Crowd n c ∧ c.length ≤ 1000 ∧ ∀ H1, Same H H1 → Q (.bl true) H1
theorem def_is_crowd (T : Txt K mg CB CO) (D_are_persons : Def P w K mg base "are_persons" ["people", "thing"] 3 sp_are_persons) (D_are_ascending : Def P w K mg base "are_ascending" ["things"] 1 sp_are_ascending) (S0 : Src K mg "is_crowd" s_is_crowd) : Def P w K mg base "is_crowd" ["people", "thing"] 4 (sp_is_crowd) := by
  have D_are_persons := D_are_persons.up (show 3 ≤ 3 by decide)
  have D_are_ascending := D_are_ascending.up (show 1 ≤ 3 by decide)
  refine S0.mk sc_is_crowd (fun _ _ _ _ _ _ us hl => match us, hl with | [_, _], _ => rfl) (fun vs H Q E h => ?_) (fun f cdv A outer s H vs Q E hr h => ?_)
  · obtain ⟨n, a, c, rfl, h, hc, hl, k⟩ := h
    rfl
  · obtain ⟨n, a, c, rfl, h, hc, hl, k⟩ := h
    refine ⟨_, (pss_one (ps_ret (pe_and (pe_def D_are_persons hr rfl (pa_cons (pv 0) (pa_cons (pv 1) pa_nil))) (pe_one (pe_def D_are_ascending hr rfl (pa_cons (pv 1) pa_nil)))))), ?_⟩
    refine ⟨_, rfl, _, rfl, n, a, c, rfl, h, hc.lt, hl, fun H1 s1 => ⟨true, rfl, iteT ?_⟩⟩
    exact ⟨_, rfl, a, c, rfl, s1 _ _ h, hc.asc, hl, fun H2 s2 => k _ (s1.trans s2)⟩
theorem sc_is_lot : FnScope ["people", "thing"] ["people", "thing"] (defScope s_is_lot) := ⟨rfl, rfl, rfl, by decide +kernel, rfl, by decide +kernel, by decide +kernel⟩
def sp_is_lot : Sp := fun vs H Q _ => ∃ (n : Nat) (a : Addr) (c : List Nat), vs = [vN n, .ref a] ∧ CrT H a c ∧ Crowd n c ∧ 2 ≤ c.length ∧ c.length ≤ 1000 ∧ ∀ H1, Same H H1 → Q (.bl true) H1
theorem def_is_lot (T : Txt K mg CB CO) (D_is_crowd : Def P w K mg base "is_crowd" ["people", "thing"] 4 sp_is_crowd) (S0 : Src K mg "is_lot" s_is_lot) : Def P w K mg base "is_lot" ["people", "thing"] 5 (sp_is_lot) := by
  have D_is_crowd := D_is_crowd.up (show 4 ≤ 4 by decide)
  refine S0.mk sc_is_lot (fun _ _ _ _ _ _ us hl => match us, hl with | [_, _], _ => rfl) (fun vs H Q E h => ?_) (fun f cdv A outer s H vs Q E hr h => ?_)
  · obtain ⟨n, a, c, rfl, h, hc, h2, hl, k⟩ := h
    rfl
  · obtain ⟨n, a, c, rfl, h, hc, h2, hl, k⟩ := h
    refine ⟨_, (pss_one (ps_ret (pe_and (pe_def D_is_crowd hr rfl (pa_cons (pv 0) (pa_cons (pv 1) pa_nil))) (pe_one (pe_cmpR op_gt (pe_callB (crLen K) (by rfl) T.len (by decide +kernel) (pa_cons (pv 1) pa_nil)) pe_int (nomark _)))))), ?_⟩
    refine ⟨_, rfl, _, rfl, n, a, c, rfl, h, hc, hl, fun H1 s1 => ⟨true, rfl, iteT ?_⟩⟩
    refine ⟨_, rfl, a, _, rfl, .inr (SqT.of (s1 _ _ h)), _, _, rfl, rfl, qT ?_ (k _ s1)⟩
    rw [List.length_map]
    omega
theorem sc_is_row : FnScope ["people", "thing", "person"] ["people", "thing"] (defScope s_is_row) := ⟨rfl, rfl, rfl, by decide +kernel, rfl, by decide +kernel, by decide +kernel⟩
def sp_is_row : Sp := fun vs H Q _ => ∃ (n : Nat) (a : Addr) (c : List Nat), vs = [vN n, .ref a] ∧ CrT H a c ∧ Part n c ∧ c.length ≤ 1000 ∧ ∀ H1, Same H H1 → Q (.bl true) H1
theorem def_is_row (T : Txt K mg CB CO) (D_are_persons : Def P w K mg base "are_persons" ["people", "thing"] 3 sp_are_persons) (S0 : Src K mg "is_row" s_is_row) : Def P w K mg base "is_row" ["people", "thing"] 4 (sp_is_row) := by
  have D_are_persons := D_are_persons.up (show 3 ≤ 3 by decide)
  refine S0.mk sc_is_row (fun _ _ _ _ _ _ us hl => match us, hl with | [_, _], _ => rfl) (fun vs H Q E h => ?_) (fun f cdv A outer s H vs Q E hr h => ?_)
  · obtain ⟨n, a, c, rfl, h, hc, hl, k⟩ := h
    rfl
  · obtain ⟨n, a, c, rfl, h, hc, hl, k⟩ := h
    refine ⟨_, (pss_one (ps_ret (pe_and (pe_def D_are_persons hr rfl (pa_cons (pv 0) (pa_cons (pv 1) pa_nil))) (pe_one (pe_cmpR op_eq (pe_callB call_lenD (by rfl) T.len (by decide +kernel) (pa_cons (pe_dc (own := [("person", 2)]) rfl sc_is_row.nd (piT K (pv 1)) (blkOk_by (by kernel_rfl)) (fun _ _ _ _ _ => (pg_name (i := 2) sc_is_row.nd rfl (Or.inl rfl))) (fun _ _ _ _ _ => pts_nil) (fun _ _ _ _ _ => (pv 2)) (fun _ _ _ _ _ => pe_bl)) pa_nil)) (pe_callB (crLen K) (by rfl) T.len (by decide +kernel) (pa_cons (pv 1) pa_nil)) (nomark _)))))), ?_⟩
    have hlm : (c.map vN).length = c.length := List.length_map _
    refine ⟨_, rfl, _, rfl, n, a, c, rfl, h, hc.lt, hl, fun H1 s1 => ⟨true, rfl, iteT ?_⟩⟩
    refine ⟨_, rfl, a, rfl, ⟨_, SqT.of (s1 _ _ h)⟩, fun D hD => ?_⟩
    refine dc_tup (fun i H2 => Same H1 H2 ∧ H2 D = some (.dK ((c.take i).map fun (p : Nat) => (Sum.inl (p : Int), V.bl true)))) ⟨same_new hD, upd_same⟩ (fun i H2 _ z => SqT.of (z.1 _ _ (s1 _ _ h))) ?_ ?_
    · rintro i x H2 e ⟨s2, hd⟩
      obtain ⟨z, e1, rfl⟩ := map_at e
      refine ⟨rfl, tyes ⟨_, rfl, _, Sum.inl (z : Int), rfl, hd, line1 (by rw [List.length_map, List.length_take]; omega), same_at s2 hD, ?_⟩⟩
      rw [upd_same, take_next e1, List.map_append, putK_new _ (row_new hc.nd e1)]
      rfl
    · rintro H2 ⟨s2, hd⟩
      refine ⟨D, _, rfl, hd, _, rfl, a, _, rfl, .inr (SqT.of (s2 _ _ (s1 _ _ h))), rfl, qT ?_ (k _ (s1.trans s2))⟩
      rw [List.length_map, List.length_map, List.length_take, Nat.min_self]
theorem sc_is_order : FnScope ["people", "thing"] ["people", "thing"] (defScope s_is_order) := ⟨rfl, rfl, rfl, by decide +kernel, rfl, by decide +kernel, by decide +kernel⟩
def sp_is_order : Sp := fun vs H Q _ => ∃ (n : Nat) (a : Addr) (c : List Nat), vs = [vN n, .ref a] ∧ CrT H a c ∧ Order n c ∧ c.length ≤ 1000 ∧ ∀ H1, Same H H1 → Q (.bl true) H1
theorem def_is_order (T : Txt K mg CB CO) (D_is_row : Def P w K mg base "is_row" ["people", "thing"] 4 sp_is_row) (S0 : Src K mg "is_order" s_is_order) : Def P w K mg base "is_order" ["people", "thing"] 5 (sp_is_order) := by
  have D_is_row := D_is_row.up (show 4 ≤ 4 by decide)
  refine S0.mk sc_is_order (fun _ _ _ _ _ _ us hl => match us, hl with | [_, _], _ => rfl) (fun vs H Q E h => ?_) (fun f cdv A outer s H vs Q E hr h => ?_)
  · obtain ⟨n, a, c, rfl, h, hc, hl, k⟩ := h
    rfl
  · obtain ⟨n, a, c, rfl, h, hc, hl, k⟩ := h
    refine ⟨_, (pss_one (ps_ret (pe_and (pe_def D_is_row hr rfl (pa_cons (pv 0) (pa_cons (pv 1) pa_nil))) (pe_one (pe_cmpR op_eq (pe_callB (crLen K) (by rfl) T.len (by decide +kernel) (pa_cons (pv 1) pa_nil)) (pv 0) (nomark _)))))), ?_⟩
    refine ⟨_, rfl, _, rfl, n, a, c, rfl, h, ⟨hc.nd, hc.lt⟩, hl, fun H1 s1 => ⟨true, rfl, iteT ?_⟩⟩
    refine ⟨_, rfl, a, _, rfl, .inr (SqT.of (s1 _ _ h)), _, rfl, rfl, qT ?_ (k _ s1)⟩
    rw [List.length_map, hc.len]
theorem sc_bits_of : FnScope ["crowd", "person"] ["crowd"] (defScope s_bits_of) := ⟨rfl, rfl, rfl, by decide +kernel, rfl, by decide +kernel, by decide +kernel⟩
def sp_bits_of : Sp := fun vs H Q _ => ∃ (a : Addr) (c : List Nat), vs = [.ref a] ∧ CrT H a c ∧ (∀ i ∈ c, i < 1000) ∧ c.length ≤ 1000 ∧ ∀ H1, Same H H1 → Q (vN (mk c)) H1
theorem def_bits_of (T : Txt K mg CB CO) (S0 : Src K mg "bits_of" s_bits_of) : Def P w K mg base "bits_of" ["crowd"] 1 (sp_bits_of) := by
  refine S0.mk sc_bits_of (fun _ _ _ _ _ _ us hl => match us, hl with | [_], _ => rfl) (fun vs H Q E h => ?_) (fun f cdv A outer s H vs Q E hr h => ?_)
  · obtain ⟨a, c, rfl, h, ha, hl, k⟩ := h
    rfl
  · obtain ⟨a, c, rfl, h, ha, hl, k⟩ := h
    refine ⟨_, (pss_one (ps_ret (pe_callB (crSum K) (by rfl) T.sum (by decide +kernel) (pa_cons (pe_lc (own := [("person", 1)]) rfl sc_bits_of.nd (piT K (pv 0)) (blkOk_by (by kernel_rfl)) (fun _ _ _ _ _ => (pg_name (i := 1) sc_bits_of.nd rfl (Or.inl rfl))) (fun _ _ _ _ _ => pts_nil) (fun _ _ _ _ _ => (pe_op op_oneShl pe_int (pv 1)))) pa_nil)))), ?_⟩
    have hlm : (c.map vN).length = c.length := List.length_map _
    refine ⟨_, rfl, a, rfl, ⟨_, SqT.of h⟩, fun D hD => ?_⟩
    refine lc_same walk_tup (fun _ v (b : Int) => v = .int b) (fun i => c[i]?.bind fun p => some ((2 : Int) ^ p)) hD (fun H1 s => SqT.of (s _ _ h)) (fun _ _ _ _ _ e => e) (by omega) ?_ ?_
    · rintro i x H0 H1 K1 K2 hi s0 ⟨rfl, e⟩ k1 k2
      obtain ⟨z, e1, rfl⟩ := map_at e
      have hz := ha z (List.mem_of_getElem? e1)
      refine ⟨rfl, tyes ?_⟩
      refine ⟨_, rfl, z, rfl, rfl, by omega, k1 _ _ _ (Same.refl _) (by rw [e1]; rfl) rfl⟩
    · intro H1 ys s1 e p
      rw [hlm, fm_map, fm_some] at p
      rw [paired_val p] at e
      refine ⟨D, _, rfl, SqL.of e, ?_⟩
      rw [mk_sum]
      exact k _ s1
theorem sc_crowd_of : FnScope ["bits", "person"] ["bits"] (defScope s_crowd_of) := ⟨rfl, rfl, rfl, by decide +kernel, rfl, by decide +kernel, by decide +kernel⟩
def sp_crowd_of : Sp := fun vs H Q _ => ∃ (m n : Nat), vs = [vN m] ∧ (∀ i, m.testBit i = true → i < n) ∧ n ≤ 1000 ∧ m < 2 ^ 1000 ∧ ∀ (H1 : Hp) (a : Addr), Same H H1 → CrT H1 a ((List.range n).filter fun i => m.testBit i) → Q (.ref a) H1
theorem def_crowd_of (T : Txt K mg CB CO) (S0 : Src K mg "crowd_of" s_crowd_of) : Def P w K mg base "crowd_of" ["bits"] 1 (sp_crowd_of) := by
  refine S0.mk sc_crowd_of (fun _ _ _ _ _ _ us hl => match us, hl with | [_], _ => rfl) (fun vs H Q E h => ?_) (fun f cdv A outer s H vs Q E hr h => ?_)
  · obtain ⟨m, n, rfl, hm, hn, hlt, k⟩ := h
    rfl
  · obtain ⟨m, n, rfl, hm, hn, hlt, k⟩ := h
    refine ⟨_, (pss_one (ps_ret (pe_callTy (crTup K) (by rfl) T.tuple (by decide +kernel) (pa_cons (pe_lc (own := [("person", 1)]) rfl sc_crowd_of.nd (pi_range1 (by rfl) T.range (pa_cons (pe_bits (pv 0)) pa_nil)) (blkOk_by (by kernel_rfl)) (fun _ _ _ _ _ => (pg_name (i := 1) sc_crowd_of.nd rfl (Or.inl rfl))) (fun _ _ _ _ _ => (pts_one (pt_cmpR op_eq (pe_op op_odd (pe_op op_shrN (pv 0) (pv 1)) pe_int) pe_int (nomark _)))) (fun _ _ _ _ _ => (pv 1))) pa_nil)))), ?_⟩
    obtain ⟨b, hb, hb1, hb2⟩ := bits_len hlt
    refine ⟨_, rfl, _, rfl, _, by rw [hb], by omega, by omega, fun D hD => ?_⟩
    refine lc_same walk_range (fun _ v (b : Nat) => v = vN b) (fun i => if m.testBit i = true then some i else none) hD (fun H1 s => trivial) (fun _ _ _ _ _ e => e) (by omega) ?_ ?_
    · rintro i x H0 H1 K1 K2 hi s0 ⟨rfl, rfl⟩ k1 k2
      refine ⟨rfl, _, rfl, _, rfl, (m : Int), i, rfl, z_add i, m / 2 ^ i, shr_cast m i, rfl, rfl, _, rfl, ?_⟩
      rw [tb_dec]
      cases hb : m.testBit i with
      | true => exact iteT ⟨_, rfl, k1 _ _ i (Same.refl _) (by rw [hb]; rfl) (z_add i)⟩
      | false => exact iteF (k2 _ (Same.refl _) (by rw [hb]; rfl))
    · intro H1 ys s1 e p
      rw [fm_range, List.map_id', show ((b : Int)).toNat = b from rfl] at p
      rw [paired_val p] at e
      have e2 : (List.range b).filter (fun i => m.testBit i) = (List.range n).filter fun i => m.testBit i := bl_eq hb1 hm
      rw [e2] at e
      refine ⟨D, _, rfl, .inl ⟨SqL.of e, fun l hl => k _ _ (s1.trans (same_new hl)) upd_same⟩⟩
theorem sc_holds : FnScope ["bits", "some"] ["bits", "some"] (defScope s_holds) := ⟨rfl, rfl, rfl, by decide +kernel, rfl, by decide +kernel, by decide +kernel⟩
def sp_holds : Sp := fun vs H Q _ => ∃ a b : Nat, vs = [vN a, vN b] ∧ Q (.bl (hld a b)) H
theorem def_holds (T : Txt K mg CB CO) (S0 : Src K mg "holds" s_holds) : Def P w K mg base "holds" ["bits", "some"] 1 (sp_holds) := by
  refine S0.mk sc_holds (fun _ _ _ _ _ _ us hl => match us, hl with | [_, _], _ => rfl) (fun vs H Q E h => ?_) (fun f cdv A outer s H vs Q E hr h => ?_)
  · obtain ⟨a, b, rfl, k⟩ := h
    rfl
  · obtain ⟨a, b, rfl, k⟩ := h
    refine ⟨_, (pss_one (ps_ret (pe_cmpR op_eq (pe_op op_and (pv 0) (pv 1)) (pv 1) (nomark _)))), ?_⟩
    refine ⟨_, rfl, _, rfl, _, _, rfl, rfl, _, rfl, rfl, ?_⟩
    rw [hld_dec]
    exact k
theorem sc_all_of : FnScope ["people"] ["people"] (defScope s_all_of) := ⟨rfl, rfl, rfl, by decide +kernel, rfl, by decide +kernel, by decide +kernel⟩
def sp_all_of : Sp := fun vs H Q _ => ∃ n : Nat, vs = [vN n] ∧ n ≤ 1000 ∧ Q (vN (2 ^ n - 1)) H
theorem def_all_of (T : Txt K mg CB CO) (S0 : Src K mg "all_of" s_all_of) : Def P w K mg base "all_of" ["people"] 1 (sp_all_of) := by
  refine S0.mk sc_all_of (fun _ _ _ _ _ _ us hl => match us, hl with | [_], _ => rfl) (fun vs H Q E h => ?_) (fun f cdv A outer s H vs Q E hr h => ?_)
  · obtain ⟨n, rfl, hn, k⟩ := h
    rfl
  · obtain ⟨n, rfl, hn, k⟩ := h
    refine ⟨_, (pss_one (ps_ret (pe_op op_sub (pe_op op_oneShl pe_int (pv 0)) pe_int))), ?_⟩
    refine ⟨_, rfl, n, rfl, rfl, by omega, _, _, rfl, rfl, ?_⟩
    dsimp only
    rw [all_cast]
    exact k
end
end K43
/-! ## R1 -/
set_option Elab.async false
set_option linter.all false
set_option maxRecDepth 100000
set_option maxHeartbeats 4000000
/-! R1: enumerate of a tuple, zip of a tuple and a list, by the library's iterators. -/
namespace K43
open PySem PySem.Spec PyProof.Rows L2
/-- what an iterator of new pairs owes at a turn -/
def Owes (P : Program) (w : World) (tg : Expr) (J : It) (fpI : List Addr) (it : Addr) (tn : Nat → Heap → Prop) : Prop :=
  ∀ (X : Cx) (pins : List (Addr × Obj)) (s : Shared) (σ : L2.St) (H : Hp) (i : Nat), X.prog = P → X.w = w → X.calm = true → Inv X pins σ H s → (∀ b ∈ fpI, FpOk X pins H b) → tn i s.heap →
    (J.go i H → ∃ (n : Nat) (St : Nat → Heap → Prop) (fp wr : List Addr) (Pu : Nat → Value → Value → Prop) (x y : V), GoesN P w X.A tg it fp wr n (fun i h0 v h => ∃ T u1 u2, v = Value.ref T ∧ h0.objs.size ≤ T ∧ Pu i u1 u2 ∧ h.IsTuple T #[u1, u2]) St ∧ i < n ∧ St i s.heap ∧
      (∀ h', St (i + 1) h' → tn (i + 1) h') ∧ (∀ b ∈ wr, b ∈ fpI) ∧ (∀ u1 u2, Pu i u1 u2 → RelV x u1 ∧ RelV y u2) ∧ ∀ T, H T = none → J.yld i H (.ref T) (upd H T (.tup [x, y]))) ∧
    (J.stop i H → ∃ (St : Nat → Heap → Prop) (fp wr : List Addr) (Y : Nat → Heap → Value → Heap → Prop), GoesN P w X.A tg it fp wr i Y St ∧ St i s.heap ∧ ∀ b ∈ wr, b ∈ fpI)
theorem turn_owes {P : Program} {w : World} {K : PySem.W.Frag} {tg : Expr} {J : It} {fpI : List Addr} {it : Addr} {tn : Nat → Heap → Prop} (mem : it ∈ fpI) (obj : ∀ i h, tn i h → ∀ b ∈ fpI, ∃ o, h.get? b = some o ∧ ∀ v, o.data ≠ .cell v)
    (keep : ∀ i h h', tn i h → (∀ b ∈ fpI, ∀ o, h.get? b = some o → h'.get? b = some o) → tn i h')
    (self : ∀ (A : Around) (i : Nat) (s : Shared) (Q : Value → Shared → Prop) (E : Value → Shared → Prop), tn i s.heap → Q (.ref it) s → wpAny (model P w) A (pyIter (.ref it)) Q E s)
    (ow : Owes P w tg J fpI it tn) : Turn P w K tg J fpI it tn where
  mem := mem
  obj := obj
  keep := keep
  item := by
    intro X hP hw hK hc i pins s σ H E I hf st hg
    obtain ⟨n, St, fp, wr, Pu, x, y, G, hi, hst, hnx, hwr, hrel, hy⟩ := (ow X pins s σ H i hP hw hc I hf st).1 hg
    refine G.goes i s (fun u s2 => ∃ x H', Inv X pins σ H' s2 ∧ RelV x u ∧ J.yld i H x H' ∧ tn (i + 1) s2.heap ∧ ∀ b ∈ fpI, H' b = none) E hi hst fun v h' tk ⟨T, u1, u2, ev, hT, hp, hT2⟩ st' hk _ => ?_
    subst ev
    obtain ⟨r1, r2⟩ := hrel u1 u2 hp
    have new : ObjOk X.prog X.w (upd H T (.tup [x, y])) h' T (.tup [x, y]) := ⟨by show 2 ≤ sizeLine; decide, [u1, u2], .cons r1 (.cons r2 .nil), hT2⟩
    have I1 : Inv X pins σ (upd H T (.tup [x, y])) { s with heap := h', toks := tk } :=
      I.turnedNew (ch := fpI) (fun b o hb q => hk b o (fun z => hb (hwr b z)) q) hf hT new
    refine ⟨.ref T, _, I1, rfl, hy T (I.hok.fresh hT), hnx h' st', fun b hb => ?_⟩
    obtain ⟨o, ho, _⟩ := obj i _ st b hb
    rw [upd_ne (Nat.ne_of_lt (Nat.lt_of_lt_of_le (Heap.lt_size ho) hT))]
    exact (hf b hb).1
  done := by
    intro X hP hw hK hc i pins s σ H E I hf st hg
    obtain ⟨St, fp, wr, Y, G, hst, hwr⟩ := (ow X pins s σ H i hP hw hc I hf st).2 hg
    exact G.stops s (fun s1 => Inv X pins σ H s1) E hst fun h' tk hk _ => I.turnedL (ch := fpI) (fun b o hb q => hk b o (fun z => hb (hwr b z)) q) hf
  self := self

/-! ### enumerate(tuple) -/
/-- the tuple at a, each item in a new pair -/
def IteT (a : Addr) : It :=
  ⟨fun i H => ∃ (xs : List V) (x : V), H a = some (.tup xs) ∧ xs[i]? = some x, fun i H v H' => ∃ T x, v = .ref T ∧ H T = none ∧ H' = upd H T (.tup [.int (i : Nat), x]) ∧ ∀ xs, H a = some (.tup xs) → xs[i]? = some x, fun i H => ∃ xs : List V, H a = some (.tup xs) ∧ xs.length = i⟩
theorem walk_enumT {a : Addr} {xs : List V} : Walk (IteT a) xs.length (fun H => H a = some (.tup xs)) (YPair (fun i => some (.int (i : Nat))) (fun i => xs[i]?)) := by
  refine ⟨fun i _ hi q => ⟨xs, xs[i], q, by simp [hi]⟩, fun _ q => ⟨xs, q, rfl⟩, fun i H v H' _ q y => ?_⟩
  obtain ⟨T, x, h1, h2, h3, h4⟩ := y
  exact ⟨T, .int (i : Nat), x, h1, h2, h3, rfl, h4 xs q⟩
theorem tup_raw {X : Cx} {pins : List (Addr × Obj)} {s : Shared} {σ : L2.St} {H : Hp} {a : Addr} {xs : List V} (I : Inv X pins σ H s) (h : H a = some (.tup xs)) : ∃ its : List Value, Vals xs its ∧ s.heap.IsTuple a its.toArray := by
  obtain ⟨its, rv, p, _⟩ := I.tuple (SqT.of h)
  exact ⟨its, rv, p⟩
theorem apart_of {H : Hp} {a b : Addr} {o : HO} (h : H a = some o) (n : H b = none) : a ≠ b := ne_of_none h n
theorem turn_enumT {P : Program} {w : World} {K : PySem.W.Frag} {elts : List Expr} {kk : Nat} {tpos : Pos} (a e it : Addr) :
    Turn P w K (.Tuple elts kk tpos) (IteT a) [e, it] e (fun i h => (∃ old, IsEnum h e it ((0 : Int) + ((i : Nat) : Int)) old) ∧ h.IsTupleIter it a i ∧ e ≠ it) := by
  refine turn_owes (by simp) (fun i h st b hb => ?_) (fun i h h' st k => ?_) (fun A i s Q E st h => ?_) ?_
  · obtain ⟨⟨old, he⟩, ⟨o, ho, hc, hd⟩, _⟩ := st
    rcases (show b = e ∨ b = it by simpa using hb) with z | z
    · rw [z]; exact ⟨_, he, fun v q => nomatch q⟩
    · rw [z]; exact ⟨o, ho, fun v q => by rw [hd] at q; cases q⟩
  · obtain ⟨⟨old, he⟩, hi, hne⟩ := st
    exact ⟨⟨old, k e (by simp) _ he⟩, hi.at fun o q => k it (by simp) o q, hne⟩
  · obtain ⟨⟨_, he⟩, _⟩ := st
    exact wpAny_pyIter_enum he h
  · intro X pins s σ H i hP hw hc I hf st
    obtain ⟨he, hit, hne⟩ := st
    have hh : X.A.in1.handled = none := by simp [I.ok.hd hc]
    subst hP hw
    constructor
    · rintro ⟨xs, x, hq, hx⟩
      obtain ⟨its, rv, p⟩ := tup_raw I hq
      obtain ⟨u, hu, ru⟩ := rv.get hx
      have a1 : a ≠ it := apart_of hq (hf it (by simp)).1
      have a2 : a ≠ e := apart_of hq (hf e (by simp)).1
      refine ⟨its.toArray.size, _, _, _, fun i u1 u2 => (∃ t, u1 = Value.int ((0 : Int) + (i : Int)) t) ∧ its.toArray[i]? = some u2, .int (i : Nat), x, (GoesN.enumFrom 0 (Draws.tuple hh it a a1 its.toArray) e hne (by simp [hne, Ne.symm a2]) (by simp)).mono (fun i h0 v h _ ⟨T, t, x, ev, hT, hx, hT2⟩ => ⟨T, _, _, ev, hT, ⟨⟨t, rfl⟩, hx⟩, hT2⟩), ?_, ⟨he, hit, p⟩, fun h' st' => ⟨st'.1, st'.2.1, hne⟩, fun b hb => hb, ?_, ?_⟩
      · have := (List.getElem?_eq_some_iff.mp hu).1
        simpa using this
      · rintro u1 u2 ⟨⟨t, rfl⟩, h2⟩
        have e2 : u2 = u := by
          have h3 : its[i]? = some u2 := by simpa using h2
          rw [hu] at h3
          exact (Option.some.inj h3).symm
        subst e2
        exact ⟨⟨t, by rw [Int.zero_add]⟩, ru⟩
      · intro T hT
        exact ⟨T, x, rfl, hT, rfl, fun ys hy => by rw [hq] at hy; cases hy; exact hx⟩
    · rintro ⟨xs, hq, hx⟩
      obtain ⟨its, rv, p⟩ := tup_raw I hq
      have a1 : a ≠ it := apart_of hq (hf it (by simp)).1
      have a2 : a ≠ e := apart_of hq (hf e (by simp)).1
      have el : its.toArray.size = i := by rw [List.size_toArray, ← rv.length, hx]
      have G := GoesN.enumFrom (elts := elts) (x1 := kk) (pos := tpos) 0 (Draws.tuple (prog := X.prog) (w := X.w) hh it a a1 its.toArray) e hne (by simp [hne, Ne.symm a2]) (by simp)
      rw [el] at G
      exact ⟨_, _, _, _, G, ⟨he, hit, p⟩, fun b hb => hb⟩
set_option maxHeartbeats 4000000 in
theorem meets_enumB {v : Value} {o : Obj} {H : Heap → Prop} (B : Begins v o H) :
    Meets (Builtin.«enumerate.__new__» ⟨[.type "enumerate", v], []⟩) (fun _ R s => H s.heap ∧
      R (.ok (.ret (.ref (s.heap.push o).objs.size))) { s with heap := (s.heap.push o).push { cls := .type "enumerate", data := .fields #[.none, .bool false, .ref s.heap.objs.size, rawInt 0, .none, .none] } }) :=
  .of_wp fun prog w A R s h => by
    obtain ⟨hp, g, d, tk, os⟩ := s
    obtain ⟨h1, h⟩ := h
    have hsub := sub_enumerate
    have it1 : ∀ {A' : Around} {E : Value → Shared → Prop} {Q : Value → Shared → Prop}, Q (.ref hp.objs.size) ⟨hp.push o, g, d, tk, os⟩ → wpAny (model prog w) A' (pyIter v) Q E ⟨hp, g, d, tk, os⟩ :=
      fun q => B.iter prog w _ _ ⟨hp, g, d, tk, os⟩ _ h1 q
    wp_walk using it1
    refine wpAny_stack_any fun st => wpAny_pure ?_
    split
    · rename_i c _ _ _ _ _
      cases (c == Value.type "enumerate") <;> (wp_walk using it1; exact ⟨_, rfl, h⟩)
    · wp_walk using it1
      exact ⟨_, rfl, h⟩
theorem enum_make {prog : Program} {w : World} {A : Around} {E : Value → Shared → Prop} {s : Shared} {v : Value} {o : Obj} {H : Heap → Prop} {Q : Value → Shared → Prop} (B : Begins v o H) (h1 : H s.heap)
    (h : ∀ h', IsEnum h' (s.heap.objs.size + 1) s.heap.objs.size 0 .none → h'.get? s.heap.objs.size = some o → (∀ b o, s.heap.get? b = some o → h'.get? b = some o) → Q (.ref (s.heap.objs.size + 1)) { s with heap := h' }) :
    wpAny (model prog w) A (call (.type "enumerate") [v]) Q E s := by
  refine callType_new F.called_enumerate (by decide) (F.typeCall_enumerate_1 _) (F.newCall_enumerate_1 _) (fun obj => F.args_object_init_2 obj _) F.entry_enumerate_new (meets_enumB B) ⟨h1, ?_⟩
  have hz : (s.heap.push o).objs.size = s.heap.objs.size + 1 := Heap.size_push ..
  show _ ∧ _
  rw [hz]
  have he : IsEnum ((s.heap.push o).push { cls := .type "enumerate", data := .fields #[.none, .bool false, .ref s.heap.objs.size, rawInt 0, .none, .none] }) (s.heap.objs.size + 1) s.heap.objs.size 0 .none := by
    have q := Heap.get?_push_size (s.heap.push o) (o := { cls := .type "enumerate", data := .fields #[.none, .bool false, .ref s.heap.objs.size, rawInt 0, .none, .none] }) rfl
    rw [hz] at q
    exact q
  exact ⟨⟨_, he, rfl⟩, h _ he (Heap.get?_push_of_some _ (Heap.get?_push_size _ B.free)) fun b u x => Heap.get?_push_of_some _ (Heap.get?_push_of_some _ x)⟩
/-- enumerate of a list or of a tuple -/
def iEnumA (K : PySem.W.Frag) (ta : TA) : TI := fun σ H R => ta σ H fun vs H1 => ∃ a xs, vs = [.ref a] ∧ ((SqL K H1 a xs ∧ R (Ite K a) H1) ∨ (H1 a = some (.tup xs) ∧ R (IteT a) H1))
theorem piEnumA {X : Cx} (K : PySem.W.Frag) {e : Expr} {ta : TA} {p pos tpos : Pos} {elts : List Expr} {kk : Nat} (hg : Gl X "enumerate") (hm : X.mg "enumerate" = none) (ha : PA X [e] ta) (hs : starEach [e] X.env = [(false, eval e X.env)] := by rfl) (hK : X.K = K := by rfl) :
    PI X (.Tuple elts kk tpos) (.Call (.Name "enumerate" p) [e] [] pos) (iEnumA K ta) := by
  subst hK
  refine ⟨fun pins s σ H R I h => ?_⟩
  refine Call_ (ld_blt I hg hm boot_enumerate (PyProof.Rows.callWith_type1 (thn (ha.run pos pins s σ H _ I h) fun us s1 ⟨vs, H1, I1, r1, q1⟩ => ?_) hs rfl))
  obtain ⟨a, xs, ex, hq⟩ := q1
  subst ex
  obtain ⟨u, rfl, ru⟩ := vals1 r1
  cases ru
  rcases hq with ⟨hq, q⟩ | ⟨hq, q⟩
  · obtain ⟨its, rv, p', hz⟩ := I1.list hq
    refine call_enumerate_list p'.isList fun h' he hit hsz hk => wpAny_pyIter_enum he ?_
    have I2 : Inv X pins σ H1 { s1 with heap := h' } := I1.kept (t' := s1.toks) hk
    refine ⟨s1.heap.objs.size + 1, [s1.heap.objs.size + 1, s1.heap.objs.size], _, _, H1, rfl, I2, turn_enum a (s1.heap.objs.size + 1) s1.heap.objs.size, ⟨⟨.none, he⟩, hit, Nat.succ_ne_self _⟩, fun b hb => ?_, q⟩
    have hle : s1.heap.objs.size ≤ b := by
      rcases (show b = s1.heap.objs.size + 1 ∨ b = s1.heap.objs.size by simpa using hb) with z | z
      · rw [z]; exact Nat.le_add_right _ _
      · rw [z]; exact Nat.le_refl _
    exact I1.fpOk hle (I1.hok.fresh hle)
  · obtain ⟨its, rv, p'⟩ := tup_raw I1 hq
    refine enum_make (begins_tuple a its.toArray) p' fun h' he hit hk => wpAny_pyIter_enum he ?_
    have I2 : Inv X pins σ H1 { s1 with heap := h' } := I1.kept (t' := s1.toks) hk
    refine ⟨s1.heap.objs.size + 1, [s1.heap.objs.size + 1, s1.heap.objs.size], _, _, H1, rfl, I2, turn_enumT a (s1.heap.objs.size + 1) s1.heap.objs.size, ⟨⟨.none, he⟩, ⟨_, hit, rfl, rfl⟩, Nat.succ_ne_self _⟩, fun b hb => ?_, q⟩
    have hle : s1.heap.objs.size ≤ b := by
      rcases (show b = s1.heap.objs.size + 1 ∨ b = s1.heap.objs.size by simpa using hb) with z | z
      · rw [z]; exact Nat.le_add_right _ _
      · rw [z]; exact Nat.le_refl _
    exact I1.fpOk hle (I1.hok.fresh hle)
end K43
/-! ## R2 -/
set_option Elab.async false
set_option linter.all false
set_option maxRecDepth 100000
set_option maxHeartbeats 4000000
/-! R2: zip of a tuple and a list. -/
namespace K43
open PySem PySem.Spec PyProof.Rows L2
/-- the tuple at a and the list at b, the items in new pairs -/
def ItzTL (K : PySem.W.Frag) (a b : Addr) : It :=
  ⟨fun i H => ∃ (xs ys : List V) (x y : V), H a = some (.tup xs) ∧ H b = some (.lst ys) ∧ xs[i]? = some x ∧ ys[i]? = some y,
    fun i H v H' => ∃ T x y, v = .ref T ∧ H T = none ∧ H' = upd H T (.tup [x, y]) ∧ (∀ xs, H a = some (.tup xs) → xs[i]? = some x) ∧ ∀ ys, H b = some (.lst ys) → ys[i]? = some y,
    fun i H => ∃ xs ys : List V, H a = some (.tup xs) ∧ H b = some (.lst ys) ∧ xs.length = i ∧ ys.length = i⟩
theorem walk_zipTL {K : PySem.W.Frag} {a b : Addr} {xs ys : List V} (hl : ys.length = xs.length) : Walk (ItzTL K a b) xs.length (fun H => H a = some (.tup xs) ∧ H b = some (.lst ys)) (YPair (fun i => xs[i]?) (fun i => ys[i]?)) := by
  refine ⟨fun i _ hi q => ⟨xs, ys, xs[i], ys[i]'(by omega), q.1, q.2, by simp [hi], by simp [show i < ys.length by omega]⟩, fun _ q => ⟨xs, ys, q.1, q.2, rfl, hl⟩, fun i H v H' _ q y => ?_⟩
  obtain ⟨T, x, z, h1, h2, h3, h4, h5⟩ := y
  exact ⟨T, x, z, h1, h2, h3, h4 xs q.1, h5 ys q.2⟩
structure Apart5 (z TI TO i1 i2 : Addr) : Prop where
  TIz : TI ≠ z
  TOz : TO ≠ z
  i1z : i1 ≠ z
  i2z : i2 ≠ z
  TITO : TI ≠ TO
  TIi1 : TI ≠ i1
  TIi2 : TI ≠ i2
  TOi1 : TO ≠ i1
  TOi2 : TO ≠ i2
  i12 : i1 ≠ i2
theorem turn_zipTL {P : Program} {w : World} {K : PySem.W.Frag} {elts : List Expr} {kk : Nat} {tpos : Pos} {a b z TI TO i1 i2 : Addr} (D : Apart5 z TI TO i1 i2) :
    Turn P w K (.Tuple elts kk tpos) (ItzTL K a b) [z, TI, TO, i1, i2] z (fun i h => IsZip h z TI TO .none ∧ IsTupOf2 h TI (.ref i1) (.ref i2) ∧ (∃ x y, IsTupOf2 h TO x y) ∧ h.IsTupleIter i1 a i ∧ h.IsListIter i2 b i) := by
  refine turn_owes (by simp) (fun i h st c hc => ?_) (fun i h h' st k => ?_) (fun A i s Q E st h => wpAny_pyIter_zip st.1 h) ?_
  · obtain ⟨hz, hTI, ⟨x, y, hTO⟩, ⟨o1, e1, _, d1⟩, ⟨o2, e2, _, d2⟩⟩ := st
    rcases (show c = z ∨ c = TI ∨ c = TO ∨ c = i1 ∨ c = i2 by simpa using hc) with q | q | q | q | q
    · rw [q]; exact ⟨_, hz, fun v q => nomatch q⟩
    · rw [q]; exact ⟨_, hTI, fun v q => nomatch q⟩
    · rw [q]; exact ⟨_, hTO, fun v q => nomatch q⟩
    · rw [q]; exact ⟨o1, e1, fun v q => by rw [d1] at q; cases q⟩
    · rw [q]; exact ⟨o2, e2, fun v q => by rw [d2] at q; cases q⟩
  · obtain ⟨hz, hTI, ⟨x, y, hTO⟩, h1, h2⟩ := st
    exact ⟨k z (by simp) _ hz, k TI (by simp) _ hTI, ⟨x, y, k TO (by simp) _ hTO⟩, h1.at fun o q => k i1 (by simp) o q, h2.at fun o q => k i2 (by simp) o q⟩
  · intro X pins s σ H i hP hw hc I hf st
    have hh : X.A.in1.handled = none := by simp [I.ok.hd hc]
    subst hP hw
    have sep : ∀ {o1 o2 : HO}, H a = some o1 → H b = some o2 → ZipSep2 z TI TO i1 i2 [i1, a] [i2, b] := fun {o1 o2} ha hb =>
      { TIz := D.TIz, TOz := D.TOz, TITO := D.TITO, TIi1 := D.TIi1, mem1 := by simp, zf1 := by simp [Ne.symm D.i1z, Ne.symm (apart_of ha (hf z (by simp)).1)], Tf1 := by simp [D.TOi1, Ne.symm (apart_of ha (hf TO (by simp)).1)],
        TIi2 := D.TIi2, mem2 := by simp, zf2 := by simp [Ne.symm D.i2z, Ne.symm (apart_of hb (hf z (by simp)).1)], Tf2 := by simp [D.TOi2, Ne.symm (apart_of hb (hf TO (by simp)).1)],
        sep1_2 := by simp [D.i12, Ne.symm (apart_of hb (hf i1 (by simp)).1)], sep2_1 := by simp [Ne.symm D.i12, Ne.symm (apart_of ha (hf i2 (by simp)).1)] }
    constructor
    · rintro ⟨xs, ys, x, y, hqx, hqy, hx, hy⟩
      obtain ⟨its, rv, p⟩ := tup_raw I hqx
      obtain ⟨its2, rv2, p2, _⟩ := I.list (SqL.of hqy)
      obtain ⟨u, hu, ru⟩ := rv.get hx
      obtain ⟨u2, hu2, ru2⟩ := rv2.get hy
      have a1 : a ≠ i1 := apart_of hqx (hf i1 (by simp)).1
      have b2 : b ≠ i2 := apart_of hqy (hf i2 (by simp)).1
      have n1 := (List.getElem?_eq_some_iff.mp hu).1
      have n2 := (List.getElem?_eq_some_iff.mp hu2).1
      refine ⟨min its.toArray.size its2.toArray.size, _, _, _, fun i v1 v2 => its.toArray[i]? = some v1 ∧ its2.toArray[i]? = some v2, x, y,
        (GoesN.zip2 (sep hqx hqy) (Draws.tuple hh i1 a a1 its.toArray) (Draws.list hh i2 b b2 its2.toArray)).mono (fun i h0 v h _ ⟨T, x, y, ev, hT, hx, hy, hT2⟩ => ⟨T, x, y, ev, hT, ⟨hx, hy⟩, hT2⟩), ?_, ⟨st.1, st.2.1, st.2.2.1, ⟨st.2.2.2.1, p⟩, st.2.2.2.2, p2.isList⟩,
        fun h' st' => ⟨st'.1, st'.2.1, st'.2.2.1, st'.2.2.2.1.1, st'.2.2.2.2.1⟩, fun c hc => ?_, ?_, ?_⟩
      · rw [List.size_toArray, List.size_toArray]
        omega
      · rcases (show c = z ∨ c = TO ∨ c = i1 ∨ c = i2 by simpa using hc) with q | q | q | q <;> simp [q]
      · rintro v1 v2 ⟨e1, e2⟩
        have q1 : its[i]? = some v1 := by simpa using e1
        have q2 : its2[i]? = some v2 := by simpa using e2
        rw [hu] at q1
        rw [hu2] at q2
        cases q1
        cases q2
        exact ⟨ru, ru2⟩
      · intro T hT
        exact ⟨T, x, y, rfl, hT, rfl, fun l hl => by rw [hqx] at hl; cases hl; exact hx, fun l hl => by rw [hqy] at hl; cases hl; exact hy⟩
    · rintro ⟨xs, ys, hqx, hqy, l1, l2⟩
      obtain ⟨its, rv, p⟩ := tup_raw I hqx
      obtain ⟨its2, rv2, p2, _⟩ := I.list (SqL.of hqy)
      have a1 : a ≠ i1 := apart_of hqx (hf i1 (by simp)).1
      have b2 : b ≠ i2 := apart_of hqy (hf i2 (by simp)).1
      have G := GoesN.zip2 (elts := elts) (x1 := kk) (pos := tpos) (sep hqx hqy) (Draws.tuple (prog := X.prog) (w := X.w) hh i1 a a1 its.toArray) (Draws.list (prog := X.prog) (w := X.w) hh i2 b b2 its2.toArray)
      have el : min its.toArray.size its2.toArray.size = i := by rw [List.size_toArray, List.size_toArray, ← rv.length, ← rv2.length, l1, l2, Nat.min_self]
      rw [el] at G
      refine ⟨_, _, _, _, G, ⟨st.1, st.2.1, st.2.2.1, ⟨st.2.2.2.1, p⟩, st.2.2.2.2, p2.isList⟩, fun c hc => ?_⟩
      rcases (show c = z ∨ c = TO ∨ c = i1 ∨ c = i2 by simpa using hc) with q | q | q | q <;> simp [q]
def iZipTL (K : PySem.W.Frag) (ta : TA) : TI := fun σ H R => ta σ H fun vs H1 => ∃ a b xs ys, vs = [.ref a, .ref b] ∧ H1 a = some (.tup xs) ∧ H1 b = some (.lst ys) ∧ R (ItzTL K a b) H1
theorem piZipTL {X : Cx} (K : PySem.W.Frag) {e e2 : Expr} {ta : TA} {p pos tpos : Pos} {elts : List Expr} {kk : Nat} (hg : Gl X "zip") (hm : X.mg "zip" = none) (ha : PA X [e, e2] ta)
    (hs : starEach [e, e2] X.env = (false, eval e X.env) :: starEach [e2] X.env := by rfl) (hpl : (backTo pos (starEach [e2] X.env)).any (·.1) = false := by rfl) (hK : X.K = K := by rfl) :
    PI X (.Tuple elts kk tpos) (.Call (.Name "zip" p) [e, e2] [] pos) (iZipTL K ta) := by
  subst hK
  refine ⟨fun pins s σ H R I h => ?_⟩
  refine Call_ (ld_blt I hg hm PyProof.Rows.boot_zip (PyProof.Rows.callWith_type1 (thn (ha.run pos pins s σ H _ I h) fun us s1 ⟨vs, H1, I1, r1, q1⟩ => ?_) hs hpl))
  obtain ⟨a, b, xs, ys, ex, hqx, hqy, q⟩ := q1
  subst ex
  obtain ⟨u, v, rfl, ru, rv⟩ := vals2 r1
  cases ru
  cases rv
  obtain ⟨its, rv1, p1⟩ := tup_raw I1 hqx
  obtain ⟨its2, rv2, p2, _⟩ := I1.list (SqL.of hqy)
  refine zip_begins2 (begins_tuple a its.toArray) (begins_list b its2.toArray) p1 p2.isList fun h' hz hTI hTO e1 e2 hsz hk => wpAny_pyIter_zip hz ?_
  have I2 : Inv X pins σ H1 { s1 with heap := h' } := I1.kept (t' := s1.toks) hk
  have D : Apart5 (s1.heap.objs.size + 4) (s1.heap.objs.size + 2) (s1.heap.objs.size + 3) s1.heap.objs.size (s1.heap.objs.size + 1) := by
    generalize s1.heap.objs.size = n
    exact ⟨show (n + 2 : Nat) ≠ n + 4 by omega, show (n + 3 : Nat) ≠ n + 4 by omega, show (n : Nat) ≠ n + 4 by omega, show (n + 1 : Nat) ≠ n + 4 by omega, show (n + 2 : Nat) ≠ n + 3 by omega, show (n + 2 : Nat) ≠ n by omega, show (n + 2 : Nat) ≠ n + 1 by omega, show (n + 3 : Nat) ≠ n by omega, show (n + 3 : Nat) ≠ n + 1 by omega, show (n : Nat) ≠ n + 1 by omega⟩
  refine ⟨_, [s1.heap.objs.size + 4, s1.heap.objs.size + 2, s1.heap.objs.size + 3, s1.heap.objs.size, s1.heap.objs.size + 1], _, _, H1, rfl, I2, turn_zipTL (a := a) (b := b) D, ⟨hz, hTI, ⟨_, _, hTO⟩, ⟨_, e1, rfl, rfl⟩, ⟨_, e2, rfl, rfl⟩⟩, fun c hc => ?_, q⟩
  have hle : s1.heap.objs.size ≤ c := by
    rcases (show c = s1.heap.objs.size + 4 ∨ c = s1.heap.objs.size + 2 ∨ c = s1.heap.objs.size + 3 ∨ c = s1.heap.objs.size ∨ c = s1.heap.objs.size + 1 by simpa using hc) with q | q | q | q | q
    · rw [q]; exact Nat.le_add_right _ _
    · rw [q]; exact Nat.le_add_right _ _
    · rw [q]; exact Nat.le_add_right _ _
    · rw [q]; exact Nat.le_refl _
    · rw [q]; exact Nat.le_add_right _ _
  exact I1.fpOk hle (I1.hok.fresh hle)
end K43
/-! ## R3 -/
set_option Elab.async false
set_option linter.all false
set_option maxRecDepth 100000
set_option maxHeartbeats 4000000
/-! R3: a list or a tuple, walked; enumerate of a list or a tuple; a dict comprehension over anything that is walked. -/
namespace K43
open PySem PySem.Spec PyProof.Rows L2
def isSeq (o : HO) (xs : List V) : Prop := o = .lst xs ∨ o = .tup xs
def iSeq (tl : TE) : TI := fun σ H R => tl σ H fun x H1 => ∃ a xs o, x = .ref a ∧ isSeq o xs ∧ H1 a = some o ∧ ∀ J, Walk J xs.length (fun H => H a = some o) (YAt xs) → R J H1
theorem piSeq {X : Cx} {tg l : Expr} {tl : TE} (hl : PE X l tl) : PI X tg l (iSeq tl) := by
  refine ⟨fun pins s σ H R I h => thn (hl.run pins s σ H _ I h) fun v s1 ⟨x, H1, I1, r1, q1⟩ => ?_⟩
  obtain ⟨a, xs, o, e, ho, hq, q⟩ := q1
  subst e
  cases r1
  have fp : ∀ b ∈ [s1.heap.objs.size], FpOk X pins H1 b := fun b hb => by
    have e : b = s1.heap.objs.size := by simpa using hb
    subst e
    exact I1.fpOk (Nat.le_refl _) (I1.hok.fresh (Nat.le_refl _))
  rcases ho with rfl | rfl
  · obtain ⟨its, rv, p, hz⟩ := I1.list (SqL.of hq)
    refine wpAny_pyIter_list p.isList ?_
    exact ⟨s1.heap.objs.size, [s1.heap.objs.size], _, _, H1, rfl, I1.kept (t' := s1.toks) fun b o e => Heap.get?_push_of_some _ e, turn_list a _, ⟨_, Heap.get?_push_size _ rfl, rfl, rfl⟩, fp, q _ ((walk_list (K := X.K)).mono (fun H h => SqL.of h) fun i H x H' _ _ y => y)⟩
  · obtain ⟨its, rv, p⟩ := tup_raw I1 hq
    refine wpAny_pyIter_tuple p ?_
    exact ⟨s1.heap.objs.size, [s1.heap.objs.size], _, _, H1, rfl, I1.kept (t' := s1.toks) fun b o e => Heap.get?_push_of_some _ e, turn_tuple a _, ⟨_, Heap.get?_push_size _ rfl, rfl, rfl⟩, fp, q _ ((walk_tup (K := X.K)).mono (fun H h => SqT.of h) fun i H x H' _ _ y => y)⟩
def iEnumS (ta : TA) : TI := fun σ H R => ta σ H fun vs H1 => ∃ a xs o, vs = [.ref a] ∧ isSeq o xs ∧ H1 a = some o ∧ ∀ J, Walk J xs.length (fun H => H a = some o) (YPair (fun i => some (.int (i : Nat))) (fun i => xs[i]?)) → R J H1
theorem piEnumS {X : Cx} {e : Expr} {ta : TA} {p pos tpos : Pos} {elts : List Expr} {kk : Nat} (hg : Gl X "enumerate") (hm : X.mg "enumerate" = none) (ha : PA X [e] ta) (hs : starEach [e] X.env = [(false, eval e X.env)] := by rfl) :
    PI X (.Tuple elts kk tpos) (.Call (.Name "enumerate" p) [e] [] pos) (iEnumS ta) := by
  refine ⟨fun pins s σ H R I h => ?_⟩
  refine Call_ (ld_blt I hg hm boot_enumerate (PyProof.Rows.callWith_type1 (thn (ha.run pos pins s σ H _ I h) fun us s1 ⟨vs, H1, I1, r1, q1⟩ => ?_) hs rfl))
  obtain ⟨a, xs, o, ex, ho, hq, q⟩ := q1
  subst ex
  obtain ⟨u, rfl, ru⟩ := vals1 r1
  cases ru
  have fp : ∀ b ∈ [s1.heap.objs.size + 1, s1.heap.objs.size], FpOk X pins H1 b := fun b hb => by
    have hle : s1.heap.objs.size ≤ b := by
      rcases (show b = s1.heap.objs.size + 1 ∨ b = s1.heap.objs.size by simpa using hb) with z | z
      · rw [z]; exact Nat.le_add_right _ _
      · rw [z]; exact Nat.le_refl _
    exact I1.fpOk hle (I1.hok.fresh hle)
  rcases ho with rfl | rfl
  · obtain ⟨its, rv, p', hz⟩ := I1.list (SqL.of hq)
    refine call_enumerate_list p'.isList fun h' he hit hsz hk => wpAny_pyIter_enum he ?_
    have I2 : Inv X pins σ H1 { s1 with heap := h' } := I1.kept (t' := s1.toks) hk
    exact ⟨s1.heap.objs.size + 1, [s1.heap.objs.size + 1, s1.heap.objs.size], _, _, H1, rfl, I2, turn_enum a (s1.heap.objs.size + 1) s1.heap.objs.size, ⟨⟨.none, he⟩, hit, Nat.succ_ne_self _⟩, fp, q _ ((walk_enum (K := X.K)).mono (fun H h => SqL.of h) fun i H x H' _ _ y => y)⟩
  · obtain ⟨its, rv, p'⟩ := tup_raw I1 hq
    refine enum_make (begins_tuple a its.toArray) p' fun h' he hit hk => wpAny_pyIter_enum he ?_
    have I2 : Inv X pins σ H1 { s1 with heap := h' } := I1.kept (t' := s1.toks) hk
    exact ⟨s1.heap.objs.size + 1, [s1.heap.objs.size + 1, s1.heap.objs.size], _, _, H1, rfl, I2, turn_enumT a (s1.heap.objs.size + 1) s1.heap.objs.size, ⟨⟨.none, he⟩, ⟨_, hit, rfl, rfl⟩, Nat.succ_ne_self _⟩, fp, q _ (walk_enumT.mono (fun H h => h) fun i H x H' _ _ y => y)⟩
/-- a dict comprehension over anything that is walked -/
theorem dc_it {J : It} {n : Nat} {G : Hp → Prop} {Y : Nat → Hp → V → Hp → Prop} (w : Walk J n G Y) {g : TG} {tt : TT} {tk tv : TE} {vs : List Nat} {σ : L2.St} {H1 : Hp} {D : Addr} {Qd : Hp → Prop} (Pv : Nat → Hp → Prop) (h0 : Pv 0 (upd H1 D (.dK []))) (hG : ∀ i H, i ≤ n → Pv i H → G H)
    (hs : ∀ i x H H', i < n → Pv i H → Y i H x H' → g x (wipe σ vs) H' fun σ2 H2 => wipe σ2 vs = wipe σ vs ∧ tt σ2 H2 fun b H3 =>
      if b = true then tk σ2 H3 fun y H4 => tv σ2 H4 fun z H5 => ∃ kvs k, y = kV k ∧ H5 D = some (.dK kvs) ∧ kvs.length < sizeLine ∧ Pv (i + 1) (upd H5 D (.dK (putK kvs k z))) else Pv (i + 1) H3) (hd : ∀ H, Pv n H → Qd H) :
    ∃ W : Nat → Nat → Hp → Prop, (∃ m, W 0 m (upd H1 D (.dK []))) ∧ ∀ i m H, W i m H →
      (J.stop i H ∧ Qd H) ∨ (J.go i H ∧ ∃ Nx : Hp → Prop, (∀ H', Nx H' → ∃ m', m' < m ∧ W (i + 1) m' H') ∧ ∀ x H', J.yld i H x H' → g x (wipe σ vs) H' fun σ2 H2 => wipe σ2 vs = wipe σ vs ∧ tt σ2 H2 fun b H3 =>
        if b = true then tk σ2 H3 fun y H4 => tv σ2 H4 fun z H5 => ∃ kvs k, y = kV k ∧ H5 D = some (.dK kvs) ∧ kvs.length < sizeLine ∧ Nx (upd H5 D (.dK (putK kvs k z))) else Nx H3) := by
  refine ⟨fun i m H => i ≤ n ∧ m = n - i ∧ Pv i H, ⟨n, Nat.zero_le _, rfl, h0⟩, fun i m H ⟨hi, hm, hp⟩ => ?_⟩
  rcases Nat.lt_or_ge i n with z | z
  · refine .inr ⟨w.goes i H z (hG i H hi hp), Pv (i + 1), fun H' h => ⟨n - (i + 1), by omega, by omega, rfl, h⟩, fun x H' y => hs i x H H' z hp (w.yields i H x H' z (hG i H hi hp) y)⟩
  · have e : i = n := Nat.le_antisymm hi z
    subst e
    exact .inl ⟨w.stops H (hG _ H hi hp), hd H hp⟩
end K43
/-! ## A2 -/
set_option Elab.async false
set_option linter.all false
set_option maxRecDepth 100000
set_option maxHeartbeats 4000000
/-! A2: books and sightings on the heap; who can stand next. -/
namespace K43
open PySem PySem.Spec PyProof.Rows L2
/-! ### a book -/
def bkF (n : Nat) (t ml : Addr) : List (Str × V) := putF "masks" (.ref ml) (putF "lots" (.ref t) (putF "people" (vN n) []))
theorem bkF_p (n : Nat) (t ml : Addr) : (bkF n t ml).lookup ("people" : Str) = some (vN n) := by
  unfold bkF
  rw [lookup_putF, if_neg (by decide +kernel), lookup_putF, if_neg (by decide +kernel), lookup_putF, if_pos rfl]
theorem bkF_l (n : Nat) (t ml : Addr) : (bkF n t ml).lookup ("lots" : Str) = some (.ref t) := by
  unfold bkF
  rw [lookup_putF, if_neg (by decide +kernel), lookup_putF, if_pos rfl]
theorem bkF_m (n : Nat) (t ml : Addr) : (bkF n t ml).lookup ("masks" : Str) = some (.ref ml) := by
  unfold bkF
  rw [lookup_putF, if_pos rfl]
/-- a book of n people with these lots -/
def BkAt (CB : Addr) (H : Hp) (b : Addr) (n : Nat) (ls : List (List Nat)) : Prop := ∃ dx t ml, H b = some (.ins CB dx (bkF n t ml)) ∧ CrTT H t ls ∧ H ml = some (.lst (ls.map fun l => vN (mk l)))
theorem BkAt.same {CB : Addr} {H H' : Hp} {b : Addr} {n : Nat} {ls : List (List Nat)} (s : Same H H') (h : BkAt CB H b n ls) : BkAt CB H' b n ls := by
  obtain ⟨dx, t, ml, h1, h2, h3⟩ := h
  exact ⟨dx, t, ml, s _ _ h1, h2.mono (ts_same s), s _ _ h3⟩
/-- sightings: a list or a tuple -/
def SgAt (H : Hp) (v : Addr) (sg : List (List Nat × List Nat)) : Prop := ∃ ps o, isSeq o ps ∧ H v = some o ∧ PrsR H ps sg
theorem SgAt.same {H H' : Hp} {v : Addr} {sg : List (List Nat × List Nat)} (s : Same H H') (h : SgAt H v sg) : SgAt H' v sg := by
  obtain ⟨ps, o, h1, h2, h3⟩ := h
  exact ⟨ps, o, h1, s _ _ h2, h3.mono (ts_same s)⟩
theorem seq_in {K : PySem.W.Frag} {H : Hp} {v : Addr} {ps : List V} {o : HO} (h1 : isSeq o ps) (h2 : H v = some o) : SqL K H v ps ∨ SqT K H v ps := by
  rcases h1 with rfl | rfl
  · exact .inl (SqL.of h2)
  · exact .inr (SqT.of h2)
theorem seq_or {H : Hp} {v : Addr} {ps : List V} {o : HO} (h1 : isSeq o ps) (h2 : H v = some o) : H v = some (.lst ps) ∨ H v = some (.tup ps) := by
  rcases h1 with rfl | rfl
  · exact .inl h2
  · exact .inr h2
theorem ifDt {p A B : Prop} [Decidable p] (hp : p) (h : A) : if decide p = true then A else B := by
  rw [if_pos (decide_eq_true hp)]; exact h
theorem ifDf {p A B : Prop} [Decidable p] (hp : ¬ p) (h : B) : if decide p = true then A else B := by
  rw [if_neg (by rw [decide_eq_false hp]; exact Bool.false_ne_true)]; exact h
theorem xor_cast (m p : Nat) : Builtin.bitXor (m : Int) ((2 : Int) ^ p) = ((m ^^^ 2 ^ p : Nat) : Int) := by
  have e : (2 : Int) ^ p = ((2 ^ p : Nat) : Int) := by rw [Int.natCast_pow] <;> rfl
  rw [e, Bits.bitXor_pp (Int.natCast_nonneg _) (Int.natCast_nonneg _), Int.toNat_natCast, Int.toNat_natCast]
theorem xor_args (s m p : Nat) : ([vN s, V.int (Builtin.bitXor (m : Int) ((2 : Int) ^ p))] ++ [] : List V) = [vN s, vN (m ^^^ 2 ^ p)] := by rw [xor_cast] <;> rfl
theorem xor_nat (a b : Nat) : Builtin.bitXor (a : Int) (b : Int) = ((a ^^^ b : Nat) : Int) := by
  rw [Bits.bitXor_pp (by omega) (by omega), Int.toNat_natCast, Int.toNat_natCast]
theorem or_cast (m p : Nat) : Builtin.bitOr (m : Int) ((2 : Int) ^ p) = ((m ||| 2 ^ p : Nat) : Int) := by
  have e : (2 : Int) ^ p = ((2 ^ p : Nat) : Int) := by rw [Int.natCast_pow] <;> rfl
  rw [e, Bits.bitOr_pp (Int.natCast_nonneg _) (Int.natCast_nonneg _), Int.toNat_natCast, Int.toNat_natCast]
theorem ow_next {ls : List (List Nat)} {i s p : Nat} {l : List Nat} (e : ls[i]? = some l) : ow (ls.take (i + 1)) s p = ow (ls.take i) s p ++ (if ((mk l).testBit p && hld s (mk l ^^^ 2 ^ p)) = true then [mk l ^^^ 2 ^ p] else []) := by
  unfold ow
  rw [take_next e, List.filter_append, List.map_append]
  congr 1
  by_cases c : ((mk l).testBit p && hld s (mk l ^^^ 2 ^ p)) = true
  · rw [if_pos c, List.filter_cons, if_pos c]; rfl
  · rw [if_neg c, List.filter_cons, if_neg c]; rfl
theorem ow_len (ls : List (List Nat)) (s p : Nat) : (ow ls s p).length ≤ ls.length := by
  unfold ow
  rw [List.length_map]
  exact List.length_filter_le _ _
/-- a person's needs: a list of pairs, the second a list of numbers that lies outside S -/
def NdAt (S : List Addr) (H : Hp) (l : Addr) (ws : List (List Nat)) : Prop := ∃ vs, H l = some (.lst vs) ∧ Paired (fun v w => ∃ t k b, v = V.ref t ∧ H t = some (.tup [k, .ref b]) ∧ H b = some (.lst (w.map vN)) ∧ b ∉ S ∧ w.length ≤ 60) vs ws
theorem NdAt.same {S : List Addr} {H H' : Hp} {l : Addr} {ws : List (List Nat)} (s : Same H H') (h : NdAt S H l ws) : NdAt S H' l ws := by
  obtain ⟨vs, h1, h2⟩ := h
  exact ⟨vs, s _ _ h1, Paired.mapP h2 fun v w ⟨t, k, b, e1, e2, e3, e4⟩ => ⟨t, k, b, e1, s _ _ e2, s _ _ e3, e4⟩⟩
/-- all needs -/
def NeedAt (S : List Addr) (H : Hp) (a : Addr) (F : Nat → List (List Nat)) (n : Nat) : Prop := ∃ lsA : List Addr, H a = some (.lst (lsA.map V.ref)) ∧ lsA.length = n ∧ ∀ p lp, lsA[p]? = some lp → NdAt S H lp (F p)
theorem NeedAt.same {S : List Addr} {H H' : Hp} {a : Addr} {F : Nat → List (List Nat)} {n : Nat} (s : Same H H') (h : NeedAt S H a F n) : NeedAt S H' a F n := by
  obtain ⟨lsA, h1, h2, h3⟩ := h
  exact ⟨lsA, s _ _ h1, h2, fun p lp e => (h3 p lp e).same s⟩
theorem bind_if {α : Type} {l : List α} {i : Nat} {a : α} (e : l[i]? = some a) (p : α → Bool) : (l[i]?.bind fun x => if p x = true then some x else none) = if p a = true then some a else none := by rw [e]; rfl
theorem fm_id (l : List Nat) (p : Nat → Bool) : l.filterMap (fun x => if p x = true then some x else none) = l.filter p := by
  have := fm_if l (fun x => x) p
  rw [List.map_id'] at this
  exact this
theorem fm_idL {α : Type} (l : List α) (p : α → Bool) : l.filterMap (fun x => if p x = true then some x else none) = l.filter p := by
  have := fm_if l (fun x => x) p
  rw [List.map_id'] at this
  exact this
theorem need_len (ls : List (List Nat)) (sg : List (List Nat × List Nat)) (p : Nat) : (nd ls sg p).length ≤ sg.length := List.length_filterMap_le _ _
theorem rest_lt {n : Nat} (hn : n ≤ 12) {m : Nat} (h : ∀ i, m.testBit i = true → i < n) : m < 2 ^ 1000 := by
  refine Nat.lt_of_lt_of_le (Nat.lt_pow_two_of_testBit m (n := n) fun i hi => ?_) (Nat.pow_le_pow_right (by decide) (by omega))
  cases e : m.testBit i with
  | false => rfl
  | true =>
    have := h i e
    omega
theorem xor_argn (a b : Nat) : ([V.int (Builtin.bitXor (a : Int) (b : Int))] ++ [] : List V) = [vN (a ^^^ b)] := by rw [xor_nat] <;> rfl
theorem zero_bit (p : Nat) : decide (V.int ((0 / 2 ^ p % 2 : Nat) : Int) = V.int 0) = true := decide_eq_true (by rw [Nat.zero_div] <;> rfl)
/-- an answer that is a list or None -/
def OptAt (H : Hp) (x : V) : Option (List Nat) → Prop
  | none => x = .non
  | some c => ∃ a, x = .ref a ∧ CrT H a c
section
variable {P : Program} {w : World} {K : PySem.W.Frag} {mg : Str → Option Value} {base : Heap} {CB CO : Addr}
theorem sc_is_sighting : FnScope ["book", "thing"] ["book", "thing"] (defScope s_is_sighting) := ⟨rfl, rfl, rfl, by decide +kernel, rfl, by decide +kernel, by decide +kernel⟩
def sp_is_sighting (CB : Addr) : Sp := fun vs H Q _ => ∃ (b a : Addr) (n : Nat) (ls : List (List Nat)) (z : List Nat × List Nat), vs = [.ref b, .ref a] ∧ BkAt CB H b n ls ∧ PrT H a z ∧ Crowd n z.1 ∧ Crowd n z.2 ∧ (∀ i ∈ z.2, i ∈ z.1) ∧ n ≤ 12 ∧ ∀ H1, Same H H1 → Q (.bl true) H1
theorem def_is_sighting (T : Txt K mg CB CO) (D_is_crowd : Def P w K mg base "is_crowd" ["people", "thing"] 4 sp_is_crowd) (D_is_pair : Def P w K mg base "is_pair" ["thing"] 1 sp_is_pair) (D_bits_of : Def P w K mg base "bits_of" ["crowd"] 1 sp_bits_of) (D_holds : Def P w K mg base "holds" ["bits", "some"] 1 sp_holds) (S0 : Src K mg "is_sighting" s_is_sighting) : Def P w K mg base "is_sighting" ["book", "thing"] 5 (sp_is_sighting CB) := by
  have D_is_crowd := D_is_crowd.up (show 4 ≤ 4 by decide)
  have D_is_pair := D_is_pair.up (show 1 ≤ 4 by decide)
  have D_bits_of := D_bits_of.up (show 1 ≤ 4 by decide)
  have D_holds := D_holds.up (show 1 ≤ 4 by decide)
  refine S0.mk sc_is_sighting (fun _ _ _ _ _ _ us hl => match us, hl with | [_, _], _ => rfl) (fun vs H Q E h => ?_) (fun f cdv A outer s H vs Q E hr h => ?_)
  · obtain ⟨b, a, n, ls, z, rfl, hb, hz, c1, c2, hsub, hn, k⟩ := h
    rfl
  · obtain ⟨b, a, n, ls, z, rfl, hb, hz, c1, c2, hsub, hn, k⟩ := h
    refine ⟨_, (pss_cons (ps_if (PW.pt (pw_or (pt_not (pt_val (pe_def D_is_pair hr rfl (pa_cons (pv 1) pa_nil)))) (pw_or (pt_not (pt_val (pe_def D_is_crowd hr rfl (pa_cons (peFld K (pv 0)) (pa_cons (pe_ix (ixT K) (pv 1) pe_int (fun _ _ => rfl)) pa_nil))))) (pw_or1 (pt_not (pt_val (pe_def D_is_crowd hr rfl (pa_cons (peFld K (pv 0)) (pa_cons (pe_ix (ixT K) (pv 1) pe_int (fun _ _ => rfl)) pa_nil))))))))) (pss_one (ps_ret pe_bl)) pss_nil)
      (pss_one (ps_ret (pe_def D_holds hr rfl (pa_cons (pe_def D_bits_of hr rfl (pa_cons (pe_ix (ixT K) (pv 1) pe_int (fun _ _ => rfl)) pa_nil)) (pa_cons (pe_def D_bits_of hr rfl (pa_cons (pe_ix (ixT K) (pv 1) pe_int (fun _ _ => rfl)) pa_nil)) pa_nil)))))), ?_⟩
    obtain ⟨dx, t, ml, hb1, hb2, hb3⟩ := hb
    obtain ⟨x, y, hp, hx, hy⟩ := hz
    have l1 := crowd_len c1
    have l2 := crowd_len c2
    refine ⟨_, rfl, a, _, _, rfl, hp, true, rfl, iteF ?_⟩
    refine ⟨_, rfl, b, CB, dx, _, _, rfl, hb1, T.cB, T.bP, bkF_p n t ml, _, rfl, a, _, 0, _, rfl, rfl, SqT.of hp, at_of (j := 0) rfl rfl, n, x, z.1, rfl, hx, c1, by omega, fun H1 s1 => ⟨true, rfl, iteF ?_⟩⟩
    refine ⟨_, rfl, b, CB, dx, _, _, rfl, s1 _ _ hb1, T.cB, T.bP, bkF_p n t ml, _, rfl, a, _, 1, _, rfl, rfl, SqT.of (s1 _ _ hp), at_of (j := 1) rfl rfl, n, y, z.2, rfl, s1 _ _ hy, c2, by omega, fun H2 s2 => ⟨true, rfl, iteF ?_⟩⟩
    have s12 := s1.trans s2
    refine ⟨_, rfl, a, _, 0, _, rfl, rfl, SqT.of (s12 _ _ hp), at_of (j := 0) rfl rfl, x, z.1, rfl, s12 _ _ hx, fun i hi => (by have := c1.lt i hi; omega), by omega, fun H3 s3 => ?_⟩
    have s13 := s12.trans s3
    refine ⟨_, rfl, a, _, 1, _, rfl, rfl, SqT.of (s13 _ _ hp), at_of (j := 1) rfl rfl, y, z.2, rfl, s13 _ _ hy, fun i hi => (by have := c2.lt i hi; omega), by omega, fun H4 s4 => ?_⟩
    refine ⟨_, _, rfl, ?_⟩
    rw [(hld_mk c2 (mk_mem c1)).mpr hsub]
    exact k _ (s13.trans s4)
theorem sc_check_sightings : FnScope ["book", "thing", "one"] ["book", "thing"] (defScope s_check_sightings) := ⟨rfl, rfl, rfl, by decide +kernel, rfl, by decide +kernel, by decide +kernel⟩
def sp_check_sightings (CB : Addr) : Sp := fun vs H Q _ => ∃ (b v : Addr) (n : Nat) (ls : List (List Nat)) (sg : List (List Nat × List Nat)), vs = [.ref b, .ref v] ∧ BkAt CB H b n ls ∧ SgAt H v sg ∧ Sights n sg ∧ n ≤ 12 ∧ sg.length ≤ 20 ∧ ∀ H1, Same H H1 → Q .non H1
theorem def_check_sightings (T : Txt K mg CB CO) (D_is_listed : Def P w K mg base "is_listed" ["thing"] 1 sp_is_listed) (D_is_sighting : Def P w K mg base "is_sighting" ["book", "thing"] 5 (sp_is_sighting CB)) (S0 : Src K mg "check_sightings" s_check_sightings) : Def P w K mg base "check_sightings" ["book", "thing"] 6 (sp_check_sightings CB) := by
  have D_is_listed := D_is_listed.up (show 1 ≤ 5 by decide)
  have D_is_sighting := D_is_sighting.up (show 5 ≤ 5 by decide)
  obtain ⟨tms, hMS⟩ := T.ms
  refine S0.mk sc_check_sightings (fun _ _ _ _ _ _ us hl => match us, hl with | [_, _], _ => rfl) (fun vs H Q E h => ?_) (fun f cdv A outer s H vs Q E hr h => ?_)
  · obtain ⟨b, v, n, ls, sg, rfl, hb, hv, hs, hn, hl, k⟩ := h
    rfl
  · obtain ⟨b, v, n, ls, sg, rfl, hb, hv, hs, hn, hl, k⟩ := h
    refine ⟨_, (pss_one (ps_if (PW.pt (pw_or (pt_not (pt_val (pe_def D_is_listed hr rfl (pa_cons (pv 1) pa_nil)))) (pw_or (pt_cmpR op_gt (pe_callB (crLen K) (by rfl) T.len (by decide +kernel) (pa_cons (pv 1) pa_nil)) (pe_glob (v := .int 20) rfl hMS ⟨_, rfl⟩) (nomark _)) (pw_or1 (pt_not (pt_val (pe_callB (crAll K) (by rfl) T.all (by decide +kernel) (pa_cons (pe_lc (own := [("one", 2)]) rfl sc_check_sightings.nd (piSeq (pv 1)) (blkOk_by (by kernel_rfl)) (fun _ _ _ _ _ => (pg_name (i := 2) sc_check_sightings.nd rfl (Or.inl rfl))) (fun _ _ _ _ _ => pts_nil) (fun _ _ _ _ _ => (pe_def D_is_sighting hr rfl (pa_cons (pv 0) (pa_cons (pv 2) pa_nil))))) pa_nil)))))))) (pss_one ps_never) pss_nil)), ?_⟩
    obtain ⟨ps, o, ho, hv1, hv2⟩ := hv
    have lp := paired_len hv2
    refine ⟨_, rfl, v, ps, rfl, seq_or ho hv1, fun H1 s1 => ⟨true, rfl, iteF ?_⟩⟩
    refine ⟨_, rfl, v, ps, rfl, seq_in ho (s1 _ _ hv1), _, _, rfl, rfl, _, rfl, ifDf (by omega) ?_⟩
    refine ⟨_, rfl, v, ps, o, rfl, ho, s1 _ _ hv1, fun J wk D hD => ?_⟩
    refine lc_same wk (fun _ v (b : Bool) => v = .bl b) (fun _ => some true) hD (fun H2 s => s _ _ (s1 _ _ hv1)) (fun _ _ _ _ _ e => e) (by omega) ?_ ?_
    · rintro i x H0 H2 K1 K2 hi s0 ⟨rfl, e⟩ k1 k2
      have s10 := s1.trans s0
      obtain ⟨z, ez, a, rfl, hz⟩ := paired_at hv2 e
      have hm := List.mem_of_getElem? ez
      refine ⟨rfl, tyes ?_⟩
      refine ⟨_, rfl, _, rfl, b, a, n, ls, z, rfl, hb.same s10, hz.mono (ts_same s10), hs.crowd z hm, hs.seen z hm, hs.sub z hm, hn, fun H3 s3 => k1 _ _ true s3 rfl rfl⟩
    · intro H2 ys s2 e p
      rw [paired_val p] at e
      refine ⟨D, _, rfl, SqL.of e, ?_⟩
      rw [all_true]
      exact ⟨true, rfl, k _ (s1.trans s2)⟩
theorem sc_others_within : FnScope ["book", "seen", "person", "found", "mask"] ["book", "seen", "person"] (defScope s_others_within) := ⟨rfl, rfl, rfl, by decide +kernel, rfl, by decide +kernel, by decide +kernel⟩
def sp_others_within (CB : Addr) : Sp := fun vs H Q _ => ∃ (b : Addr) (n : Nat) (ls : List (List Nat)) (s p : Nat), vs = [.ref b, vN s, vN p] ∧ BkAt CB H b n ls ∧ ls.length ≤ 60 ∧ p ≤ 1000 ∧ ∀ H1 a, Same H H1 → H a = none → H1 a = some (.lst ((ow ls s p).map vN)) → Q (.ref a) H1
theorem def_others_within (T : Txt K mg CB CO) (D_holds : Def P w K mg base "holds" ["bits", "some"] 1 sp_holds) (S0 : Src K mg "others_within" s_others_within) : Def P w K mg base "others_within" ["book", "seen", "person"] 2 (sp_others_within CB) := by
  have D_holds := D_holds.up (show 1 ≤ 1 by decide)
  refine S0.mk sc_others_within (fun _ _ _ _ _ _ us hl => match us, hl with | [_, _, _], _ => rfl) (fun vs H Q E h => ?_) (fun f cdv A outer s H vs Q E hr h => ?_)
  · obtain ⟨b, n, ls, sn, p, rfl, hb, hl, hp, k⟩ := h
    rfl
  · obtain ⟨b, n, ls, sn, p, rfl, hb, hl, hp, k⟩ := h
    refine ⟨_, (pss_cons (ps_set (i := 3) sc_others_within.nd rfl (Or.inl rfl) (pe_lst pa_nil))
      (pss_cons (ps_for PassesOwn.never rfl (piL K (peFld K (pv 0))) (pg_name (i := 4) sc_others_within.nd rfl (Or.inl rfl)) (pss_one (ps_if (PW.pt (pw_and (pt_cmpR op_eq (pe_op op_odd (pe_op op_shrN (pv 4) (pv 2)) pe_int) pe_int (nomark _)) (pw_and1 (pt_val (pe_def D_holds hr rfl (pa_cons (pv 1) (pa_cons (pe_op op_xor (pv 4) (pe_op op_oneShl pe_int (pv 2))) pa_nil))))))) (pss_one (ps_expr (peBm K PySem.F.plainAttrs_list PySem.F.slot_list_append PySem.F.type_list_append mt_append (pv 3) (pa_cons (pe_op op_xor (pv 4) (pe_op op_oneShl pe_int (pv 2))) pa_nil)))) pss_nil)))
      (pss_one (ps_ret (pv 3))))), ?_⟩
    obtain ⟨dx, t, ml, hb1, hb2, hb3⟩ := hb
    refine ⟨Nat.zero_le _, fun l hl0 => ?_⟩
    have s1 : Same H (upd H l (.lst [])) := same_new hl0
    have lm : (ls.map fun l => vN (mk l)).length = ls.length := List.length_map _
    refine ⟨_, rfl, b, CB, dx, _, _, rfl, s1 _ _ hb1, T.cB, T.bM, bkF_m n t ml, ml, rfl, ⟨_, SqL.of (s1 _ _ hb3)⟩, for_list (K := K) (a := ml) (xs := ls.map fun l => vN (mk l)) (fun i σ H' => ∃ mv, σ = [some (.ref b), some (vN sn), some (vN p), some (.ref l), mv] ∧ Same H H' ∧ H' l = some (.lst ((ow (ls.take i) sn p).map vN)))
      ⟨none, rfl, s1, upd_same⟩ (fun i σ H' _ ⟨_, _, s', _⟩ => SqL.of (s' _ _ hb3)) ?_ ?_⟩
    · rintro i x σ H' hi ⟨mv, rfl, s', e'⟩
      rw [List.getElem?_map] at hi
      cases el : ls[i]? with
      | none => rw [el] at hi; cases hi
      | some c =>
      rw [el] at hi
      cases hi
      have hlen := len_at el
      refine ⟨_, rfl, _, rfl, (mk c : Int), p, rfl, rfl, mk c / 2 ^ p, shr_cast _ _, rfl, rfl, _, rfl, ?_⟩
      rw [tb_dec]
      cases hb : (mk c).testBit p with
      | false =>
        refine iteF (iteF ⟨_, rfl, s', ?_⟩)
        rw [ow_next el, hb, Bool.false_and, if_neg Bool.false_ne_true, List.append_nil]
        exact e'
      | true =>
        refine iteT ⟨_, rfl, _, rfl, _, rfl, p, rfl, rfl, by omega, _, _, rfl, rfl, sn, mk c ^^^ 2 ^ p, xor_args sn (mk c) p, _, rfl, ?_⟩
        cases hh : hld sn (mk c ^^^ 2 ^ p) with
        | false =>
          refine iteF ⟨_, rfl, s', ?_⟩
          rw [ow_next el, hb, hh, Bool.true_and, if_neg Bool.false_ne_true, List.append_nil]
          exact e'
        | true =>
          have hlw := ow_len (ls.take i) sn p
          rw [List.length_take] at hlw
          refine iteT ⟨_, rfl, .inl ⟨rfl, _, SqL.of e'⟩, _, rfl, _, rfl, p, rfl, rfl, by omega, _, _, rfl, rfl, l, _, _, rfl, rfl, e', line1 (by rw [List.length_map]; omega), _, rfl, same_at s' hl0, ?_⟩
          rw [upd_same, ow_next el, hb, hh, Bool.true_and, if_pos rfl, List.map_append]
          dsimp only
          rw [xor_cast] <;> rfl
    · rintro σ H' ⟨mv, rfl, s', e'⟩
      rw [lm, List.take_length] at e'
      exact ⟨_, rfl, k _ _ s' hl0 e'⟩
theorem sc_can_stand : FnScope ["need", "placed", "number", "lots", "others"] ["need", "placed"] (defScope s_can_stand) := ⟨rfl, rfl, rfl, by decide +kernel, rfl, by decide +kernel, by decide +kernel⟩
def sp_can_stand : Sp := fun vs H Q _ => ∃ (S : List Addr) (lp : Addr) (ws : List (List Nat)) (m : Nat), vs = [.ref lp, vN m] ∧ NdAt S H lp ws ∧ ws.length ≤ 1000 ∧ ∀ H1, Same H H1 → Q (.bl (ws.all fun w => w.any (hld m))) H1
theorem def_can_stand (T : Txt K mg CB CO) (D_holds : Def P w K mg base "holds" ["bits", "some"] 1 sp_holds) (S0 : Src K mg "can_stand" s_can_stand) : Def P w K mg base "can_stand" ["need", "placed"] 2 (sp_can_stand) := by
  have D_holds := D_holds.up (show 1 ≤ 1 by decide)
  refine S0.mk sc_can_stand (fun _ _ _ _ _ _ us hl => match us, hl with | [_, _], _ => rfl) (fun vs H Q E h => ?_) (fun f cdv A outer s H vs Q E hr h => ?_)
  · obtain ⟨S, lp, ws, m, rfl, ⟨us, h1, hp⟩, hl, k⟩ := h
    rfl
  · obtain ⟨S, lp, ws, m, rfl, ⟨us, h1, hp⟩, hl, k⟩ := h
    refine ⟨_, (pss_one (ps_ret (pe_callB (crAll K) (by rfl) T.all (by decide +kernel) (pa_cons (pe_lc (own := [("number", 2), ("lots", 3)]) rfl sc_can_stand.nd (piL K (pv 0)) (blkOk_by (by kernel_rfl)) (fun _ _ _ _ _ => (pgTup K (n := 2) (by rfl) (pgs_cons (pg_name (i := 2) sc_can_stand.nd rfl (Or.inl rfl)) (pgs_cons (pg_name (i := 3) sc_can_stand.nd rfl (Or.inl rfl)) pgs_nil)))) (fun _ _ _ _ _ => pts_nil) (fun _ _ _ _ _ => (pe_callB (crAny K) (by rfl) T.any (by decide +kernel) (pa_cons (pe_lc (own := [("others", 4)]) rfl sc_can_stand.nd (piL K (pv 3)) (blkOk_by (by kernel_rfl)) (fun _ _ _ _ _ => (pg_name (i := 4) sc_can_stand.nd rfl (Or.inl rfl))) (fun _ _ _ _ _ => pts_nil) (fun _ _ _ _ _ => (pe_def D_holds hr rfl (pa_cons (pv 1) (pa_cons (pv 4) pa_nil))))) pa_nil)))) pa_nil)))), ?_⟩
    have lp' := paired_len hp
    refine ⟨_, rfl, lp, rfl, ⟨_, SqL.of h1⟩, fun D hD => ?_⟩
    refine lc_same walk_list (fun _ v (b : Bool) => v = .bl b) (fun i => ws[i]?.bind fun w => some (w.any (hld m))) hD (fun H2 s => SqL.of (s _ _ h1)) (fun _ _ _ _ _ e => e) (by omega) ?_ ?_
    · rintro i x H0 H2 K1 K2 hi s0 ⟨rfl, e⟩ k1 k2
      obtain ⟨w, ew, t, z, b, rfl, e1, e2, e3, e4⟩ := paired_at hp e
      refine ⟨t, _, rfl, SqT.of (s0 _ _ e1), rfl, _, _, rfl, _, _, rfl, rfl, rfl, tyes ?_⟩
      refine ⟨_, rfl, b, rfl, ⟨_, SqL.of (s0 _ _ e2)⟩, fun D2 hD2 => ?_⟩
      have lw : (w.map vN).length = w.length := List.length_map _
      refine lc_same walk_list (fun _ v (b : Bool) => v = .bl b) (fun i => w[i]?.bind fun o => some (hld m o)) hD2 (fun H3 s => SqL.of (s _ _ (s0 _ _ e2))) (fun _ _ _ _ _ e => e) (by omega) ?_ ?_
      · rintro j y H3 H4 K3 K4 hj s3 ⟨rfl, e5⟩ k3 k4
        obtain ⟨o, eo, rfl⟩ := map_at e5
        exact ⟨rfl, tyes ⟨_, rfl, _, rfl, m, o, rfl, k3 _ _ _ (Same.refl _) (by rw [eo]; rfl) rfl⟩⟩
      · intro H3 ys s3 e5 p5
        rw [lw, fm_map, fm_some] at p5
        rw [paired_val p5] at e5
        refine ⟨D2, _, rfl, SqL.of e5, ?_⟩
        refine k1 _ _ (w.any (hld m)) s3 (by rw [ew]; rfl) ?_
        rw [List.any_map] <;> rfl
    · intro H2 ys s2 e p
      rw [lp', fm_map, fm_some] at p
      rw [paired_val p] at e
      refine ⟨D, _, rfl, SqL.of e, ?_⟩
      rw [List.all_map]
      exact k _ s2
theorem sc_can_follow : FnScope ["book", "need", "placed", "some", "person"] ["book", "need", "placed"] (defScope s_can_follow) := ⟨rfl, rfl, rfl, by decide +kernel, rfl, by decide +kernel, by decide +kernel⟩
def sp_can_follow (CB : Addr) : Sp := fun vs H Q _ => ∃ (S : List Addr) (b a : Addr) (n : Nat) (ls : List (List Nat)) (sg : List (List Nat × List Nat)) (ord : List Nat) (m : Nat), vs = [.ref b, .ref a, vN m] ∧ BkAt CB H b n ls ∧ NeedAt S H a (nd ls sg) n ∧ (∀ i, m.testBit i = true ↔ i ∈ ord) ∧ Part n ord ∧ Lots n ls ∧ Sights n sg ∧ sg.length ≤ 20 ∧ n ≤ 12 ∧ ∀ H1 l, Same H H1 → H l = none → H1 l = some (.lst ((cand n ls sg ord).map vN)) → Q (.ref l) H1
theorem def_can_follow (T : Txt K mg CB CO) (D_can_stand : Def P w K mg base "can_stand" ["need", "placed"] 2 sp_can_stand) (D_all_of : Def P w K mg base "all_of" ["people"] 1 sp_all_of) (D_crowd_of : Def P w K mg base "crowd_of" ["bits"] 1 sp_crowd_of) (S0 : Src K mg "can_follow" s_can_follow) : Def P w K mg base "can_follow" ["book", "need", "placed"] 3 (sp_can_follow CB) := by
  have D_can_stand := D_can_stand.up (show 2 ≤ 2 by decide)
  have D_all_of := D_all_of.up (show 1 ≤ 2 by decide)
  have D_crowd_of := D_crowd_of.up (show 1 ≤ 2 by decide)
  refine S0.mk sc_can_follow (fun _ _ _ _ _ _ us hl => match us, hl with | [_, _, _], _ => rfl) (fun vs H Q E h => ?_) (fun f cdv A outer s H vs Q E hr h => ?_)
  · obtain ⟨S, b, a, n, ls, sg, ord, m, rfl, hb, hnd, hm, hpt, hL, hs, hl, hn, k⟩ := h
    rfl
  · obtain ⟨S, b, a, n, ls, sg, ord, m, rfl, hb, hnd, hm, hpt, hL, hs, hl, hn, k⟩ := h
    refine ⟨_, (pss_cons (ps_set (i := 3) sc_can_follow.nd rfl (Or.inl rfl) (pe_def D_crowd_of hr rfl (pa_cons (pe_op op_xor (pe_def D_all_of hr rfl (pa_cons (peFld K (pv 0)) pa_nil)) (pv 2)) pa_nil)))
      (pss_one (ps_ret (pe_lc (own := [("person", 4)]) rfl sc_can_follow.nd (piT K (pv 3)) (blkOk_by (by kernel_rfl)) (fun _ _ _ _ _ => (pg_name (i := 4) sc_can_follow.nd rfl (Or.inl rfl))) (fun _ _ _ _ _ => (pts_one (pt_val (pe_def D_can_stand hr rfl (pa_cons (pe_ix (ixL K) (pv 1) (pv 4) (fun _ _ => rfl)) (pa_cons (pv 2) pa_nil)))))) (fun _ _ _ _ _ => (pv 4)))))), ?_⟩
    obtain ⟨dx, t, ml, hb1, hb2, hb3⟩ := hb
    obtain ⟨r1, r2⟩ := rest_mask hm hpt
    refine ⟨_, rfl, b, CB, dx, _, _, rfl, hb1, T.cB, T.bP, bkF_p n t ml, n, rfl, by omega, _, rfl, _, _, rfl, rfl, (2 ^ n - 1) ^^^ m, n, xor_argn _ _, r1, by omega, rest_lt hn r1, fun H1 c s1 hc => ?_⟩
    rw [r2] at hc
    obtain ⟨lsA, ha1, ha2, ha3⟩ := hnd.same s1
    refine ⟨_, rfl, c, rfl, ⟨_, SqT.of hc⟩, fun D hD => ?_⟩
    have lr : (((List.range n).filter fun i => !ord.contains i).map vN).length = ((List.range n).filter fun i => !ord.contains i).length := List.length_map _
    have lr2 : ((List.range n).filter fun i => !ord.contains i).length ≤ n := by
      have := List.length_filter_le (fun i => !ord.contains i) (List.range n)
      rw [List.length_range] at this
      exact this
    refine lc_same walk_tup (fun _ v (p : Nat) => v = vN p) (fun i => ((List.range n).filter fun i => !ord.contains i)[i]?.bind fun p => if stand ls sg ord p = true then some p else none) hD (fun H2 s => SqT.of (s _ _ hc)) (fun _ _ _ _ _ e => e) (by omega) ?_ ?_
    · rintro i x H0 H2 K1 K2 hi s0 ⟨rfl, e⟩ k1 k2
      obtain ⟨p, ep, rfl⟩ := map_at e
      have hp : p < n := List.mem_range.mp (List.mem_filter.mp (List.mem_of_getElem? ep)).1
      obtain ⟨lp, hlp⟩ : ∃ lp, lsA[p]? = some lp := ⟨_, List.getElem?_eq_getElem (by omega)⟩
      have hnl := need_len ls sg p
      refine ⟨rfl, _, rfl, _, rfl, a, _, _, .ref lp, rfl, rfl, SqL.of (s0 _ _ ha1), at_of rfl (by rw [List.getElem?_map, hlp]; rfl), _, rfl, S, lp, nd ls sg p, m, rfl, (ha3 p lp hlp).same s0, by omega, fun H3 s3 => ⟨_, rfl, ?_⟩⟩
      rw [stand_mask hL hs hm]
      cases hst : stand ls sg ord p with
      | true => exact iteT ⟨_, rfl, k1 _ _ p s3 (by rw [bind_if ep, hst]; rfl) rfl⟩
      | false => exact iteF (k2 _ s3 (by rw [bind_if ep, hst]; rfl))
    · intro H2 ys s2 e p
      rw [lr, fm_map, fm_id, cand_filter] at p
      rw [paired_val p] at e
      exact k _ _ (s1.trans s2) (s1.free hD) e
end
end K43
/-! ## A3 -/
set_option Elab.async false
set_option linter.all false
set_option maxRecDepth 100000
set_option maxHeartbeats 4000000
/-! A3: fitting. -/
namespace K43
open PySem PySem.Spec PyProof.Rows L2
theorem inV_nat (p : Nat) (s : List Nat) : inV (vN p) (s.map vN) = s.contains p := by
  unfold inV
  rw [List.any_map]
  induction s with
  | nil => rfl
  | cons x s ih =>
    rw [List.any_cons, ih, List.contains_cons]
    congr 1
    show ((x : Int) == (p : Int)) = (p == x)
    rw [nat_beq, Bool.beq_comm]
theorem flat_nat (s : List Nat) : (s.map vN).all flatV = true := by
  rw [List.all_map]
  exact List.all_eq_true.mpr fun _ _ => rfl
theorem any_take_next {α : Type} {l : List α} {i : Nat} {a : α} (e : l[i]? = some a) {q : α → Prop} (h : ∀ z ∈ l.take i, q z) (ha : q a) : ∀ z ∈ l.take (i + 1), q z := by
  intro z hz
  rw [take_next e] at hz
  rcases List.mem_append.mp hz with y | y
  · exact h z y
  · have : z = a := by simpa using y
    rw [this]; exact ha
def NeI (H H' : Hp) (fa : Addr) (lsA : List Addr) (F : Nat → List (List Nat)) : Prop := Same H H' ∧ H' fa = some (.lst (lsA.map V.ref)) ∧ ∀ p lp, lsA[p]? = some lp → NdAt lsA H' lp (F p)
theorem NeI.congr {H H' : Hp} {fa : Addr} {lsA : List Addr} {F G : Nat → List (List Nat)} (h : NeI H H' fa lsA F) (e : ∀ p, F p = G p) : NeI H H' fa lsA G := by
  have : F = G := funext e
  rw [← this]; exact h
theorem NeI.same {H H' H2 : Hp} {fa : Addr} {lsA : List Addr} {F : Nat → List (List Nat)} (h : NeI H H' fa lsA F) (s : Same H' H2) : NeI H H2 fa lsA F := ⟨h.1.trans s, s _ _ h.2.1, fun p lp e => (h.2.2 p lp e).same s⟩
theorem need_step {H H2 H3 : Hp} {fa lq o t : Addr} {lsA : List Addr} {F : Nat → List (List Nat)} {q : Nat} {x1 : V} {w : List Nat} {vs : List V} (nod : lsA.Nodup) (hfn : fa ∉ lsA) (fr : ∀ lp ∈ lsA, H lp = none)
    (h : NeI H H2 fa lsA F) (s3 : Same H2 H3) (ho : H2 o = none) (ho2 : H3 o = some (.lst (w.map vN))) (hw : w.length ≤ 60) (ht : H3 t = none) (eq : lsA[q]? = some lq) (hv : H2 lq = some (.lst vs)) :
    NeI H (upd (upd H3 t (.tup [x1, .ref o])) lq (.lst (vs ++ [.ref t]))) fa lsA (fun p => F p ++ if p = q then [w] else []) := by
  obtain ⟨h1, h2, h3⟩ := h
  have hlq : lq ∈ lsA := List.mem_of_getElem? eq
  have s4 : Same H2 (upd H3 t (.tup [x1, .ref o])) := s3.trans (same_new ht)
  have keep : ∀ b u, b ≠ lq → H2 b = some u → upd (upd H3 t (.tup [x1, .ref o])) lq (.lst (vs ++ [.ref t])) b = some u := fun b u n e => by
    rw [upd_ne n]; exact s4 _ _ e
  have oth : ∀ p lp, lsA[p]? = some lp → lp ∈ lsA := fun p lp e => List.mem_of_getElem? e
  have nt : t ≠ lq := fun z => by rw [z] at ht; rw [s3 _ _ hv] at ht; cases ht
  have nol : o ∉ lsA := fun z => by
    obtain ⟨p, hp, e⟩ := List.getElem_of_mem z
    obtain ⟨us, e1, _⟩ := h3 p o (by rw [List.getElem?_eq_getElem hp, e])
    rw [ho] at e1; cases e1
  have carry : ∀ (v : V) (w' : List Nat), (∃ t k b, v = V.ref t ∧ H2 t = some (.tup [k, .ref b]) ∧ H2 b = some (.lst (w'.map vN)) ∧ b ∉ lsA ∧ w'.length ≤ 60) →
      ∃ t2 k b, v = V.ref t2 ∧ upd (upd H3 t (.tup [x1, .ref o])) lq (.lst (vs ++ [.ref t])) t2 = some (.tup [k, .ref b]) ∧ upd (upd H3 t (.tup [x1, .ref o])) lq (.lst (vs ++ [.ref t])) b = some (.lst (w'.map vN)) ∧ b ∉ lsA ∧ w'.length ≤ 60 := fun v w' ⟨t2, k, b, e1, e2, e3, e4, e5⟩ =>
    ⟨t2, k, b, e1, keep _ _ (fun z => by rw [z, hv] at e2; cases e2) e2, keep _ _ (fun z => e4 (by rw [z]; exact hlq)) e3, e4, e5⟩
  refine ⟨same_at (h1.trans s4) (fr lq hlq), keep _ _ (fun z => hfn (by rw [z]; exact hlq)) h2, fun p lp e => ?_⟩
  obtain ⟨us, e1, e2⟩ := h3 p lp e
  by_cases c : p = q
  · subst c
    rw [eq] at e
    cases e
    rw [hv] at e1
    cases e1
    dsimp only
    rw [if_pos rfl]
    refine ⟨vs ++ [.ref t], upd_same, paired_app (Paired.mapP e2 carry) ⟨t, x1, o, rfl, by rw [upd_ne nt, upd_same], ?_, nol, hw⟩⟩
    rw [upd_ne (fun z => nol (by rw [z]; exact hlq))]
    exact same_new ht _ _ ho2
  · dsimp only
    rw [if_neg c, List.append_nil]
    have nl : lp ≠ lq := fun z => by
      rw [z] at e
      exact c (nd_ix nod e eq)
    exact ⟨us, keep _ _ nl e1, Paired.mapP e2 carry⟩
theorem nd_next {ls : List (List Nat)} {sg : List (List Nat × List Nat)} {i : Nat} {z : List Nat × List Nat} (e : sg[i]? = some z) (p : Nat) : nd ls (sg.take (i + 1)) p = nd ls (sg.take i) p ++ (if (z.1.contains p && !z.2.contains p) = true then [ow ls (mk z.2) p] else []) := by
  unfold nd
  rw [take_next e, List.filterMap_append]
  congr 1
  by_cases c : (z.1.contains p && !z.2.contains p) = true
  · rw [if_pos c, List.filterMap_cons, if_pos c] <;> rfl
  · rw [if_neg c, List.filterMap_cons, if_neg c] <;> rfl
theorem nd_all {ls : List (List Nat)} {sg : List (List Nat × List Nat)} (p : Nat) : nd ls (sg.take 0) p = [] := rfl
theorem some_true (n : Nat) : (List.range n).length = n := List.length_range
section
variable {P : Program} {w : World} {K : PySem.W.Frag} {mg : Str → Option Value} {base : Heap} {CB CO : Addr}
theorem sc_first_lot : FnScope ["book", "sightings", "number", "crowd", "seen", "bits", "lots", "lot", "mask"] ["book", "sightings"] (defScope s_first_lot) := ⟨rfl, rfl, rfl, by decide +kernel, rfl, by decide +kernel, by decide +kernel⟩
def sp_first_lot (CB : Addr) : Sp := fun vs H Q _ => ∃ (b v : Addr) (n : Nat) (ls : List (List Nat)) (sg : List (List Nat × List Nat)), vs = [.ref b, .ref v] ∧ BkAt CB H b n ls ∧ SgAt H v sg ∧ Sights n sg ∧ Lots n ls ∧ n ≤ 12 ∧ sg.length ≤ 20 ∧ ls.length ≤ 60 ∧ ∀ H1 x, Same H H1 → (x = .non ↔ sg.any (fun z => lotSeen ls z.2) = false) → Q x H1
theorem def_first_lot (T : Txt K mg CB CO) (D_bits_of : Def P w K mg base "bits_of" ["crowd"] 1 sp_bits_of) (D_holds : Def P w K mg base "holds" ["bits", "some"] 1 sp_holds) (S0 : Src K mg "first_lot" s_first_lot) : Def P w K mg base "first_lot" ["book", "sightings"] 2 (sp_first_lot CB) := by
  have D_bits_of := D_bits_of.up (show 1 ≤ 1 by decide)
  have D_holds := D_holds.up (show 1 ≤ 1 by decide)
  refine S0.mk sc_first_lot (fun _ _ _ _ _ _ us hl => match us, hl with | [_, _], _ => rfl) (fun vs H Q E h => ?_) (fun f cdv A outer s H vs Q E hr h => ?_)
  · obtain ⟨b, v, n, ls, sg, rfl, hb, hv, hs, hL, hn, hl, hll, k⟩ := h
    rfl
  · obtain ⟨b, v, n, ls, sg, rfl, hb, hv, hs, hL, hn, hl, hll, k⟩ := h
    refine ⟨_, (pss_cons (ps_for PassesOwn.never rfl (piEnumS (by rfl) T.enum (pa_cons (pv 1) pa_nil)) (pgTup K (n := 2) (by rfl) (pgs_cons (pg_name (i := 2) sc_first_lot.nd rfl (Or.inl rfl)) (pgs_cons (pgTup K (n := 2) (by rfl) (pgs_cons (pg_name (i := 3) sc_first_lot.nd rfl (Or.inl rfl)) (pgs_cons (pg_name (i := 4) sc_first_lot.nd rfl (Or.inl rfl)) pgs_nil))) pgs_nil))) (pss_cons (ps_set (i := 5) sc_first_lot.nd rfl (Or.inr rfl) (pe_def D_bits_of hr rfl (pa_cons (pv 4) pa_nil)))
      (pss_cons (ps_setLc (i := 6) (own := [("lot", 7), ("mask", 8)]) rfl sc_first_lot.nd rfl rfl (sw_true rfl rfl rfl (by decide +kernel)) (piZipTL K (by rfl) T.zip (pa_cons (peFld K (pv 0)) (pa_cons (peFld K (pv 0)) pa_nil))) (blkOk_by (by kernel_rfl)) (fun _ _ _ _ _ => (pgTup K (n := 2) (by rfl) (pgs_cons (pg_name (i := 7) sc_first_lot.nd rfl (Or.inl rfl)) (pgs_cons (pg_name (i := 8) sc_first_lot.nd rfl (Or.inl rfl)) pgs_nil)))) (fun _ _ _ _ _ => (pts_one (pt_val (pe_def D_holds hr rfl (pa_cons (pv 5) (pa_cons (pv 8) pa_nil)))))) (fun _ _ _ _ _ => (pv 7)))
      (pss_one (ps_if (pt_cmpR op_gt (pe_callB (crLen K) (by rfl) T.len (by decide +kernel) (pa_cons (pv 6) pa_nil)) pe_int (nomark _)) (pss_one (ps_ret (pe_tup (pa_cons (pv 2) (pa_cons (pe_ix (ixL K) (pv 6) pe_int (fun _ _ => rfl)) pa_nil))))) pss_nil)))))
      (pss_one (ps_ret pe_non))), ?_⟩
    obtain ⟨ps, o, ho, hv1, hv2⟩ := hv
    obtain ⟨dx, t, ml, hb1, ⟨tv, ht1, ht2⟩, hb3⟩ := hb
    have lp := paired_len hv2
    have lt := paired_len ht2
    refine ⟨_, rfl, v, ps, o, rfl, ho, hv1, fun J wk => ?_⟩
    refine for_it wk (fun i σ H' => (∃ a2 a3 a4 a5 a6, σ = [some (.ref b), some (.ref v), a2, a3, a4, a5, a6, none, none]) ∧ Same H H' ∧ ∀ z ∈ sg.take i, lotSeen ls z.2 = false) ⟨⟨_, _, _, _, _, rfl⟩, Same.refl _, fun z hz => by simp at hz⟩ (fun i σ H' _ z => z.2.1 _ _ hv1) ?_ ?_
    · rintro i x σ H0 H' hi ⟨⟨a2, a3, a4, a5, a6, rfl⟩, s0, hno⟩ ⟨T0, x1, y1, rfl, hT, rfl, ex, ey⟩
      obtain ⟨z, ez, p, rfl, cr, se, hp, hcr, hse⟩ := paired_at hv2 ey
      have hm := List.mem_of_getElem? ez
      have cs := hs.seen z hm
      have lcs := crowd_len cs
      have s1 : Same H (upd H0 T0 (.tup [x1, .ref p])) := s0.trans (same_new hT)
      refine ⟨T0, _, rfl, SqT.of upd_same, rfl, _, _, rfl, _, _, rfl, p, _, rfl, SqT.of (s1 _ _ hp), rfl, _, _, rfl, _, _, rfl, rfl, rfl, ?_⟩
      refine ⟨_, rfl, se, z.2, rfl, s1 _ _ hse, fun i hi => (by have := cs.lt i hi; omega), by omega, fun H2 s2 => ?_⟩
      have s12 := s1.trans s2
      refine ⟨_, rfl, b, CB, dx, _, _, rfl, s12 _ _ hb1, T.cB, T.bL, bkF_l n t ml, _, rfl, b, CB, dx, _, _, rfl, s12 _ _ hb1, T.cB, T.bM, bkF_m n t ml, t, ml, _, _, rfl, s12 _ _ ht1, s12 _ _ hb3, fun D hD => ?_⟩
      refine lc_same (walk_zipTL (by rw [List.length_map]; exact lt.symm)) (fun H v l => ∃ a, v = .ref a ∧ CrT H a l) (fun i => ls[i]?.bind fun l => if hld (mk z.2) (mk l) = true then some l else none) hD (fun H3 s => ⟨s _ _ (s12 _ _ ht1), s _ _ (s12 _ _ hb3)⟩) (fun _ _ _ _ t ⟨a, e, r⟩ => ⟨a, e, r.mono t⟩) (by omega) ?_ ?_
      · rintro j y H3 H4 K1 K2 hj s3 ⟨T2, x2, y2, rfl, hT2, rfl, ex2, ey2⟩ k1 k2
        obtain ⟨l, el, la, rfl, hla⟩ := paired_at ht2 ex2
        dsimp only at ey2
        rw [List.getElem?_map, el] at ey2
        cases ey2
        have s4 : Same H3 (upd H3 T2 (.tup [.ref la, vN (mk l)])) := same_new hT2
        refine ⟨T2, _, rfl, SqT.of upd_same, rfl, _, _, rfl, _, _, rfl, rfl, rfl, ?_⟩
        refine ⟨_, rfl, _, rfl, mk z.2, mk l, rfl, _, rfl, ?_⟩
        cases hh : hld (mk z.2) (mk l) with
        | true => exact iteT ⟨_, rfl, k1 _ _ l s4 (by rw [bind_if el, hh]; rfl) ⟨la, rfl, s4 _ _ (s3 _ _ (s12 _ _ hla))⟩⟩
        | false => exact iteF (k2 _ s4 (by rw [bind_if el, hh]; rfl))
      · intro H3 ys s3 e p3
        rw [lt, fm_map, fm_idL] at p3
        have s13 := s12.trans s3
        refine ⟨_, rfl, D, ys, rfl, .inl (SqL.of e), _, _, rfl, rfl, _, rfl, ?_⟩
        cases hys : ys with
        | nil =>
          subst hys
          refine ifDf (by simp) ⟨⟨_, _, _, _, _, rfl⟩, s13, any_take_next ez hno ((seen_mask hL cs).mp ?_)⟩
          have := paired_len p3
          exact List.length_eq_zero_iff.mp this.symm
        | cons y0 yr =>
          subst hys
          refine ifDt (by rw [List.length_cons]; omega) ?_
          refine ⟨_, rfl, _, rfl, D, _, 0, y0, rfl, rfl, SqL.of e, at_of (j := 0) rfl rfl, (by show 2 ≤ sizeLine; decide), fun p' hp' => k _ _ (s13.trans (same_new hp')) ⟨fun q => (by cases q), fun q => ?_⟩⟩
          exfalso
          have hall := List.any_eq_false.mp q z hm
          have : ls.filter (fun l => hld (mk z.2) (mk l)) = [] := (seen_mask hL cs).mpr (by cases e : lotSeen ls z.2 with
            | false => rfl
            | true => exact absurd e hall)
          rw [this] at p3
          cases p3
    · rintro σ H' ⟨_, s', hno⟩
      rw [lp, List.take_length] at hno
      refine k _ _ s' ⟨fun _ => ?_, fun _ => rfl⟩
      rw [List.any_eq_false]
      intro z hz
      rw [hno z hz]
      exact Bool.false_ne_true
theorem sc_needs : FnScope ["book", "sightings", "found", "number", "crowd", "seen", "bits", "person"] ["book", "sightings"] (defScope s_needs) := ⟨rfl, rfl, rfl, by decide +kernel, rfl, by decide +kernel, by decide +kernel⟩
def sp_needs (CB : Addr) : Sp := fun vs H Q _ => ∃ (b v : Addr) (n : Nat) (ls : List (List Nat)) (sg : List (List Nat × List Nat)), vs = [.ref b, .ref v] ∧ BkAt CB H b n ls ∧ SgAt H v sg ∧ Sights n sg ∧ n ≤ 12 ∧ sg.length ≤ 20 ∧ ls.length ≤ 60 ∧ ∀ H1 a S, Same H H1 → NeedAt S H1 a (nd ls sg) n → Q (.ref a) H1
theorem def_needs (T : Txt K mg CB CO) (D_bits_of : Def P w K mg base "bits_of" ["crowd"] 1 sp_bits_of) (D_others_within : Def P w K mg base "others_within" ["book", "seen", "person"] 2 (sp_others_within CB)) (S0 : Src K mg "needs" s_needs) : Def P w K mg base "needs" ["book", "sightings"] 3 (sp_needs CB) := by
  have D_bits_of := D_bits_of.up (show 1 ≤ 2 by decide)
  have D_others_within := D_others_within.up (show 2 ≤ 2 by decide)
  refine S0.mk sc_needs (fun _ _ _ _ _ _ us hl => match us, hl with | [_, _], _ => rfl) (fun vs H Q E h => ?_) (fun f cdv A outer s H vs Q E hr h => ?_)
  · obtain ⟨b, v, n, ls, sg, rfl, hb, hv, hs, hn, hl, hll, k⟩ := h
    rfl
  · obtain ⟨b, v, n, ls, sg, rfl, hb, hv, hs, hn, hl, hll, k⟩ := h
    refine ⟨_, (pss_cons (ps_setLc (i := 2) (own := [("person", 7)]) rfl sc_needs.nd rfl rfl (sw_true rfl rfl rfl (by decide +kernel)) (pi_range1 (by rfl) T.range (pa_cons (peFld K (pv 0)) pa_nil)) (blkOk_by (by kernel_rfl)) (fun _ _ _ _ _ => (pg_name (i := 7) sc_needs.nd rfl (Or.inl rfl))) (fun _ _ _ _ _ => pts_nil) (fun _ _ _ _ _ => (pe_lst pa_nil)))
      (pss_cons (ps_for PassesOwn.never rfl (piEnumS (by rfl) T.enum (pa_cons (pv 1) pa_nil)) (pgTup K (n := 2) (by rfl) (pgs_cons (pg_name (i := 3) sc_needs.nd rfl (Or.inl rfl)) (pgs_cons (pgTup K (n := 2) (by rfl) (pgs_cons (pg_name (i := 4) sc_needs.nd rfl (Or.inl rfl)) (pgs_cons (pg_name (i := 5) sc_needs.nd rfl (Or.inl rfl)) pgs_nil))) pgs_nil))) (pss_cons (ps_set (i := 6) sc_needs.nd rfl (Or.inl rfl) (pe_def D_bits_of hr rfl (pa_cons (pv 5) pa_nil)))
      (pss_one (ps_for PassesOwn.never rfl (piT K (pv 4)) (pg_name (i := 7) sc_needs.nd rfl (Or.inl rfl)) (pss_one (ps_if (pt_cmpR (opNotIn K) (pv 7) (pv 5) (by rfl)) (pss_one (ps_expr (peBm K PySem.F.plainAttrs_list PySem.F.slot_list_append PySem.F.type_list_append mt_append (pe_ix (ixL K) (pv 2) (pv 7) (fun _ _ => rfl)) (pa_cons (pe_tup (pa_cons (pv 3) (pa_cons (pe_def D_others_within hr rfl (pa_cons (pv 0) (pa_cons (pv 6) (pa_cons (pv 7) pa_nil)))) pa_nil))) pa_nil)))) pss_nil))))))
      (pss_one (ps_ret (pv 2))))), ?_⟩
    obtain ⟨ps, o, ho, hv1, hv2⟩ := hv
    obtain ⟨dx, t, ml, hb1, hb2, hb3⟩ := id hb
    have lp := paired_len hv2
    refine ⟨_, rfl, b, CB, dx, _, _, rfl, hb1, T.cB, T.bP, bkF_p n t ml, _, rfl, by omega, by omega, fun fa hfa => ?_⟩
    refine lc_it walk_range (fun i H' => ∃ lsA : List Addr, lsA.length = i ∧ lsA.Nodup ∧ fa ∉ lsA ∧ (∀ lp ∈ lsA, H lp = none ∧ H' lp = some (.lst [])) ∧ Same H H' ∧ H' fa = some (.lst (lsA.map V.ref))) ⟨[], rfl, List.nodup_nil, by simp, fun _ h => by simp at h, same_new hfa, upd_same⟩ (fun _ _ _ _ => trivial) ?_ ?_
    · rintro i x H0 H' hi ⟨lsA, l1, l2, l3, l4, l5, l6⟩ ⟨rfl, rfl⟩
      refine ⟨rfl, tyes ⟨Nat.zero_le _, fun q hq => ?_⟩⟩
      have nq : fa ≠ q := ne_of_none l6 hq
      have nqA : q ∉ lsA := fun z => by
        rw [(l4 q z).2] at hq; cases hq
      refine ⟨_, by rw [upd_ne nq]; exact l6, line1 (by rw [List.length_map]; omega), lsA ++ [q], by rw [List.length_append]; simp [l1], ?_, ?_, ?_, ?_, ?_⟩
      · rw [List.nodup_append]
        refine ⟨l2, by simp, fun a ha c hc => ?_⟩
        have : c = q := by simpa using hc
        rw [this]
        exact fun z => nqA (by rw [← z]; exact ha)
      · simp only [List.mem_append, List.mem_singleton, not_or]
        exact ⟨l3, nq⟩
      · intro a ha
        rcases List.mem_append.mp ha with z | z
        · have n1 : a ≠ fa := fun y => l3 (by rw [← y]; exact z)
          refine ⟨(l4 a z).1, ?_⟩
          rw [upd_ne n1, upd_ne (ne_of_none (l4 a z).2 hq)]
          exact (l4 a z).2
        · have : a = q := by simpa using z
          subst this
          exact ⟨l5.free hq, by rw [upd_ne (Ne.symm nq), upd_same]⟩
      · exact same_at (l5.trans (same_new hq)) hfa
      · rw [upd_same, List.map_append] <;> rfl
    rintro Hc ⟨lsA, l1, l2, l3, l4, l5, l6⟩
    have fr : ∀ lp ∈ lsA, H lp = none := fun lp h => (l4 lp h).1
    have st0 : NeI H Hc fa lsA (fun p => nd ls (sg.take 0) p) := ⟨l5, l6, fun p lp e => ⟨[], (l4 lp (List.mem_of_getElem? e)).2, .nil⟩⟩
    refine ⟨_, rfl, v, ps, o, rfl, ho, l5 _ _ hv1, fun J wk => ?_⟩
    refine for_it wk (fun i σ H' => (∃ a3 a4 a5 a6 a7, σ = [some (.ref b), some (.ref v), some (.ref fa), a3, a4, a5, a6, a7]) ∧ NeI H H' fa lsA (fun p => nd ls (sg.take i) p)) ⟨⟨_, _, _, _, _, rfl⟩, st0⟩ (fun i σ H' _ z => z.2.1 _ _ hv1) ?_ ?_
    · rintro i x σ H0 H' hi ⟨⟨a3, a4, a5, a6, a7, rfl⟩, n0⟩ ⟨T0, x1, y1, rfl, hT, rfl, ex, ey⟩
      obtain ⟨z, ez, p, rfl, cr, se, hp, hcr, hse⟩ := paired_at hv2 ey
      have hm := List.mem_of_getElem? ez
      have cs := hs.seen z hm
      have cc := hs.crowd z hm
      have lcs := crowd_len cs
      have n1 := n0.same (same_new (o := .tup [x1, .ref p]) hT)
      have s1 := n1.1
      refine ⟨T0, _, rfl, SqT.of upd_same, rfl, _, _, rfl, _, _, rfl, p, _, rfl, SqT.of (s1 _ _ hp), rfl, _, _, rfl, _, _, rfl, rfl, rfl, ?_⟩
      refine ⟨_, rfl, se, z.2, rfl, s1 _ _ hse, fun i hi => (by have := cs.lt i hi; omega), by omega, fun H2 s2 => ?_⟩
      have n2 := n1.same s2
      refine ⟨_, rfl, cr, rfl, ⟨_, SqT.of (n2.1 _ _ hcr)⟩, for_tup (K := K) (a := cr) (xs := z.1.map vN) (fun j σ H' => (∃ a7, σ = [some (.ref b), some (.ref v), some (.ref fa), some x1, some (.ref cr), some (.ref se), some (vN (mk z.2)), a7]) ∧ NeI H H' fa lsA (fun p => nd ls (sg.take i) p ++ if ((z.1.take j).contains p && !z.2.contains p) = true then [ow ls (mk z.2) p] else []))
        ⟨⟨_, rfl⟩, n2.congr fun p => by simp⟩ (fun j σ H' _ y => SqT.of (y.2.1 _ _ hcr)) ?_ ?_⟩
      · rintro j y σ H3 hj ⟨⟨a7, rfl⟩, n3⟩
        obtain ⟨q, eq, rfl⟩ := map_at hj
        have hq := cc.lt q (List.mem_of_getElem? eq)
        have nq : q ∉ z.1.take j := not_ahead cc.nd eq
        have hcon : ∀ p, (z.1.take (j + 1)).contains p = ((z.1.take j).contains p || p == q) := fun p => by
          rw [take_next eq, List.contains_append, List.contains_cons, List.contains_nil, Bool.or_false]
        refine ⟨_, rfl, _, rfl, se, _, rfl, .inr (SqT.of (n3.1 _ _ hse)), rfl, flat_nat _, _, rfl, ?_⟩
        show (if (!inV (vN q) (z.2.map vN)) = true then _ else _)
        rw [inV_nat]
        cases hc : z.2.contains q with
        | true =>
          refine iteF ⟨⟨_, rfl⟩, n3.congr fun p => ?_⟩
          rw [hcon p]
          by_cases e : p = q
          · subst e
            rw [hc]; simp
          · have : (p == q) = false := beq_eq_false_iff_ne.mpr e
            rw [this, Bool.or_false]
        | false =>
          obtain ⟨lq, hlq⟩ : ∃ lq, lsA[q]? = some lq := ⟨_, List.getElem?_eq_getElem (by omega)⟩
          obtain ⟨us, hu1, hu2⟩ := n3.2.2 q lq hlq
          have hus := paired_len hu2
          refine iteT ?_
          refine ⟨_, rfl, _, rfl, fa, _, _, .ref lq, rfl, rfl, SqL.of n3.2.1, at_of rfl (by rw [List.getElem?_map, hlq]; rfl), .inl ⟨rfl, _, SqL.of hu1⟩, _, rfl, _, rfl, _, rfl, _, rfl, b, n, ls, mk z.2, q, rfl, hb.same n3.1, hll, by omega, fun H4 o' s4 ho1 ho2 => ⟨by show 2 ≤ sizeLine; decide, fun t' ht' => ?_⟩⟩
          have how := ow_len ls (mk z.2) q
          have hlim : us.length ≤ 100 := by
            have h1 := need_len ls (sg.take i) q
            rw [List.length_take] at h1
            rw [hus, List.length_append]
            have h2 : (if ((z.1.take j).contains q && !z.2.contains q) = true then [ow ls (mk z.2) q] else []).length ≤ 1 := by split <;> simp
            omega
          refine ⟨lq, _, _, rfl, rfl, same_new ht' _ _ (s4 _ _ hu1), line1 (by omega), ⟨_, rfl⟩, (need_step (x1 := x1) l2 l3 fr n3 s4 ho1 ho2 (by omega) ht' hlq hu1).congr fun p => ?_⟩
          rw [hcon p]
          have nqb : (z.1.take j).contains q = false := by
            cases e : (z.1.take j).contains q with
            | false => rfl
            | true => exact absurd (List.contains_iff_mem.mp e) nq
          by_cases e : p = q
          · subst e
            rw [hc, nqb]; simp
          · have : (p == q) = false := beq_eq_false_iff_ne.mpr e
            rw [this, Bool.or_false, if_neg e, List.append_nil]
      · rintro σ H3 ⟨⟨a7, rfl⟩, n3⟩
        refine ⟨⟨_, _, _, _, _, rfl⟩, n3.congr fun p => ?_⟩
        rw [nd_next ez, List.length_map, List.take_length]
    · rintro σ H' ⟨⟨a3, a4, a5, a6, a7, rfl⟩, n0⟩
      rw [lp, List.take_length] at n0
      exact ⟨_, rfl, k _ _ lsA n0.1 ⟨lsA, n0.2.1, l1, n0.2.2⟩⟩
end
end K43
/-! ## A4 -/
set_option Elab.async false
set_option linter.all false
set_option maxRecDepth 100000
set_option maxHeartbeats 4000000
/-! A4: the least list. -/
namespace K43
open PySem PySem.Spec PyProof.Rows L2
theorem catA_of {K : PySem.W.Frag} {a b : Addr} {xs ys : List V} {H : Hp} {Q : VK} (ha : H a = some (.tup xs)) (hb : H b = some (.tup ys)) (hl : xs.length + ys.length ≤ 100000)
    (h : ∀ q H2, Same H H2 → H2 q = some (.tup (xs ++ ys)) → Q (.ref q) H2) : rCatA K (.ref a) (.ref b) H Q := by
  refine ⟨a, b, xs, ys, rfl, rfl, SqT.of ha, SqT.of hb, line2 hl, fun e => h b H (Same.refl _) (by rw [e]; exact hb), fun _ e => h a H (Same.refl _) (by rw [e, List.append_nil]; exact ha), fun _ _ p hp => h p _ (same_new hp) upd_same⟩
section
variable {P : Program} {w : World} {K : PySem.W.Frag} {mg : Str → Option Value} {base : Heap} {CB CO : Addr}
theorem sc_placed_by : FnScope ["book", "need", "without", "order", "placed", "some", "person"] ["book", "need", "without"] (defScope s_placed_by) := ⟨rfl, rfl, rfl, by decide +kernel, rfl, by decide +kernel, by decide +kernel⟩
def sp_placed_by (CB : Addr) : Sp := fun vs H Q _ => ∃ (S : List Addr) (b a : Addr) (n : Nat) (ls : List (List Nat)) (sg : List (List Nat × List Nat)), vs = [.ref b, .ref a, vN 0] ∧ BkAt CB H b n ls ∧ NeedAt S H a (nd ls sg) n ∧ Lots n ls ∧ Sights n sg ∧ sg.length ≤ 20 ∧ n ≤ 12 ∧ ∀ H1 l, Same H H1 → CrT H1 l (placed n ls sg n) → Q (.ref l) H1
theorem def_placed_by (T : Txt K mg CB CO) (D_can_follow : Def P w K mg base "can_follow" ["book", "need", "placed"] 3 (sp_can_follow CB)) (S0 : Src K mg "placed_by" s_placed_by) : Def P w K mg base "placed_by" ["book", "need", "without"] 4 (sp_placed_by CB) := by
  have D_can_follow := D_can_follow.up (show 3 ≤ 3 by decide)
  refine S0.mk sc_placed_by (fun _ _ _ _ _ _ us hl => match us, hl with | [_, _, _], _ => rfl) (fun vs H Q E h => ?_) (fun f cdv A outer s H vs Q E hr h => ?_)
  · obtain ⟨S, b, a, n, ls, sg, rfl, hb, hnd, hL, hs, hl20, hn, k⟩ := h
    rfl
  · obtain ⟨S, b, a, n, ls, sg, rfl, hb, hnd, hL, hs, hl20, hn, k⟩ := h
    refine ⟨_, (pss_cons (ps_set (i := 3) sc_placed_by.nd rfl (Or.inl rfl) (pe_tup pa_nil))
      (pss_cons (ps_set (i := 4) sc_placed_by.nd rfl (Or.inl rfl) pe_int)
      (pss_cons (ps_setLc (i := 5) (own := [("person", 6)]) rfl sc_placed_by.nd rfl rfl (sw_true rfl rfl rfl (by decide +kernel)) (piL K (pe_def D_can_follow hr rfl (pa_cons (pv 0) (pa_cons (pv 1) (pa_cons (pv 4) pa_nil))))) (blkOk_by (by kernel_rfl)) (fun _ _ _ _ _ => (pg_name (i := 6) sc_placed_by.nd rfl (Or.inl rfl))) (fun _ _ _ _ _ => (pts_one (pt_cmpR op_eq (pe_op op_odd (pe_op op_shrN (pv 2) (pv 6)) pe_int) pe_int (nomark _)))) (fun _ _ _ _ _ => (pv 6)))
      (pss_cons (ps_while PassesOwn.never (pt_cmpR op_gt (pe_callB (crLen K) (by rfl) T.len (by decide +kernel) (pa_cons (pv 5) pa_nil)) pe_int (nomark _)) (pss_cons (ps_set (i := 3) sc_placed_by.nd rfl (Or.inl rfl) (pe_op (opCatA K) (pv 3) (pe_tup (pa_cons (pe_ix (ixL K) (pv 5) pe_int (fun _ _ => rfl)) pa_nil))))
      (pss_cons (ps_set (i := 4) sc_placed_by.nd rfl (Or.inl rfl) (pe_op op_or (pv 4) (pe_op op_oneShl pe_int (pe_ix (ixL K) (pv 5) pe_int (fun _ _ => rfl)))))
      (pss_one (ps_setLc (i := 5) (own := [("person", 6)]) rfl sc_placed_by.nd rfl rfl (sw_true rfl rfl rfl (by decide +kernel)) (piL K (pe_def D_can_follow hr rfl (pa_cons (pv 0) (pa_cons (pv 1) (pa_cons (pv 4) pa_nil))))) (blkOk_by (by kernel_rfl)) (fun _ _ _ _ _ => (pg_name (i := 6) sc_placed_by.nd rfl (Or.inl rfl))) (fun _ _ _ _ _ => (pts_one (pt_cmpR op_eq (pe_op op_odd (pe_op op_shrN (pv 2) (pv 6)) pe_int) pe_int (nomark _)))) (fun _ _ _ _ _ => (pv 6)))))))
      (pss_one (ps_ret (pv 3))))))), ?_⟩
    have clen : ∀ j, (cand n ls sg (placed n ls sg j)).length ≤ n := fun j => by
      have := List.length_filter_le (fun p => !(placed n ls sg j).contains p && stand ls sg (placed n ls sg j) p) (List.range n)
      rw [List.length_range] at this
      exact this
    refine ⟨by show 0 ≤ sizeLine; decide, fun o ho => ?_⟩
    have s0 : Same H (upd H o (.tup [])) := same_new ho
    refine ⟨_, rfl, _, rfl, _, rfl, S, b, a, n, ls, sg, placed n ls sg 0, 0, rfl, hb.same s0, hnd.same s0, fun i => (by rw [Nat.zero_testBit]; exact ⟨fun h => (by cases h), fun h => (by cases h)⟩), placed_part 0, hL, hs, hl20, hn, fun H1 l s1 hf hl => ?_⟩
    have s2 := s0.trans s1
    refine ⟨l, rfl, ⟨_, SqL.of hl⟩, fun D hD => ?_⟩
    have lm := clen 0
    have lm2 : ((cand n ls sg (placed n ls sg 0)).map vN).length = (cand n ls sg (placed n ls sg 0)).length := List.length_map _
    refine lc_same walk_list (fun _ v (p : Nat) => v = vN p) (fun i => (cand n ls sg (placed n ls sg 0))[i]?.bind fun p => some p) hD (fun H3 s => SqL.of (s _ _ hl)) (fun _ _ _ _ _ e => e) (by omega) ?_ ?_
    · rintro i x H0 H2 K1 K2 hi s0 ⟨rfl, e⟩ k1 k2
      obtain ⟨p, ep, rfl⟩ := map_at e
      refine ⟨rfl, _, rfl, _, rfl, ((0 : Nat) : Int), p, rfl, rfl, 0 / 2 ^ p, shr_cast _ _, rfl, rfl, _, rfl, ?_⟩
      rw [zero_bit]
      exact iteT ⟨_, rfl, k1 _ _ p (Same.refl _) (by rw [ep]; rfl) rfl⟩
    intro H3 ys s3 e p3
    rw [lm2, fm_map, fm_some, List.map_id'] at p3
    rw [paired_val p3] at e
    refine ⟨fun m σ H' => ∃ j ao mm l a6, σ = [some (.ref b), some (.ref a), some (vN 0), some (.ref ao), some (vN mm), some (.ref l), a6] ∧ m + j = n ∧ Same H H' ∧ CrT H' ao (placed n ls sg j) ∧ (placed n ls sg j).length = j ∧ (∀ i, mm.testBit i = true ↔ i ∈ placed n ls sg j) ∧ H' l = some (.lst ((cand n ls sg (placed n ls sg j)).map vN)), ⟨n, 0, o, 0, D, _, rfl, by omega, s2.trans s3, s3 _ _ (s1 _ _ upd_same), rfl, fun i => (by rw [Nat.zero_testBit]; exact ⟨fun h => (by cases h), fun h => (by cases h)⟩), e⟩, ?_⟩
    rintro m σ H' ⟨j, ao, mm, l, a6, rfl, hm, s4, hao, hj, hmm, hl⟩
    refine ⟨_, rfl, l, _, rfl, .inl (SqL.of hl), _, _, rfl, rfl, _, rfl, ?_⟩
    rcases step_cases (n := n) (ls := ls) (sg := sg) (placed n ls sg j) with ⟨e0, _⟩ | ⟨p, r, e1, e2⟩
    · rw [e0]
      refine ifDf (by simp) ⟨_, rfl, k _ _ s4 ?_⟩
      rw [placed_end hj e0]
      exact hao
    · have hp : p < n := (cand_mem.mp (show p ∈ cand n ls sg (placed n ls sg j) by rw [e1]; exact List.mem_cons_self)).1
      have e3 : placed n ls sg (j + 1) = placed n ls sg j ++ [p] := e2
      have hj1 : (placed n ls sg (j + 1)).length = j + 1 := by rw [e3, List.length_append, hj]; rfl
      have hle := small_of (placed_part (n := n) (ls := ls) (sg := sg) (j + 1)).nd (placed_part (j + 1)).lt
      rw [hj1] at hle
      have hl0 : H' l = some (.lst ((p :: r).map vN)) := by rw [← e1]; exact hl
      refine ifDt (by rw [List.length_map, e1, List.length_cons]; omega) ⟨fun σ' H' => ∃ m', m' < m ∧ ∃ j ao mm l a6, σ' = [some (.ref b), some (.ref a), some (vN 0), some (.ref ao), some (vN mm), some (.ref l), a6] ∧ m' + j = n ∧ Same H H' ∧ CrT H' ao (placed n ls sg j) ∧ (placed n ls sg j).length = j ∧ (∀ i, mm.testBit i = true ↔ i ∈ placed n ls sg j) ∧ H' l = some (.lst ((cand n ls sg (placed n ls sg j)).map vN)), fun _ _ h => h, ?_⟩
      refine ⟨_, rfl, _, rfl, l, _, 0, vN p, rfl, rfl, SqL.of hl0, at_of (j := 0) rfl rfl, by show 1 ≤ sizeLine; decide, fun t ht => ?_⟩
      refine catA_of (same_new ht _ _ hao) upd_same (by rw [List.length_map]; show _ + 1 ≤ 100000; omega) fun q H2 s5 hq => ?_
      have s6 : Same H' H2 := (same_new ht).trans s5
      have hao2 : CrT H2 q (placed n ls sg (j + 1)) := by
        show H2 q = _
        rw [hq, e3, List.map_append] <;> rfl
      have hmm2 : ∀ i, (mm ||| 2 ^ p).testBit i = true ↔ i ∈ placed n ls sg (j + 1) := fun i => by
        rw [e3]; exact place_mask hmm i
      refine ⟨_, rfl, _, rfl, l, _, 0, vN p, rfl, rfl, SqL.of (s6 _ _ hl0), at_of (j := 0) rfl rfl, p, rfl, rfl, by omega, _, _, rfl, rfl, ?_⟩
      dsimp only
      rw [or_cast]
      refine ⟨_, rfl, _, rfl, _, rfl, S, b, a, n, ls, sg, placed n ls sg (j + 1), mm ||| 2 ^ p, rfl, hb.same (s4.trans s6), hnd.same (s4.trans s6), hmm2, placed_part (j + 1), hL, hs, hl20, hn, fun H3 l2 s7 hf hl2 => ?_⟩
      refine ⟨l2, rfl, ⟨_, SqL.of hl2⟩, fun D hD => ?_⟩
      have lm := clen (j + 1)
      have lm2 : ((cand n ls sg (placed n ls sg (j + 1))).map vN).length = (cand n ls sg (placed n ls sg (j + 1))).length := List.length_map _
      refine lc_same walk_list (fun _ v (p : Nat) => v = vN p) (fun i => (cand n ls sg (placed n ls sg (j + 1)))[i]?.bind fun p => some p) hD (fun H3 s => SqL.of (s _ _ hl2)) (fun _ _ _ _ _ e => e) (by omega) ?_ ?_
      · rintro i x H0 H2 K1 K2 hi s0 ⟨rfl, e⟩ k1 k2
        obtain ⟨p, ep, rfl⟩ := map_at e
        refine ⟨rfl, _, rfl, _, rfl, ((0 : Nat) : Int), p, rfl, rfl, 0 / 2 ^ p, shr_cast _ _, rfl, rfl, _, rfl, ?_⟩
        rw [zero_bit]
        exact iteT ⟨_, rfl, k1 _ _ p (Same.refl _) (by rw [ep]; rfl) rfl⟩
      intro H4 ys s8 e p3
      rw [lm2, fm_map, fm_some, List.map_id'] at p3
      rw [paired_val p3] at e
      exact ⟨m - 1, by omega, j + 1, q, mm ||| 2 ^ p, D, _, rfl, by omega, ((s4.trans s6).trans s7).trans s8, s8 _ _ (s7 _ _ hao2), hj1, hmm2, e⟩
theorem sc_fitting_in : FnScope ["book", "sightings", "order"] ["book", "sightings"] (defScope s_fitting_in) := ⟨rfl, rfl, rfl, by decide +kernel, rfl, by decide +kernel, by decide +kernel⟩
def sp_fitting_in (CB : Addr) : Sp := fun vs H Q _ => ∃ (b v : Addr) (n : Nat) (ls : List (List Nat)) (sg : List (List Nat × List Nat)), vs = [.ref b, .ref v] ∧ BkAt CB H b n ls ∧ SgAt H v sg ∧ Sights n sg ∧ Lots n ls ∧ n ≤ 12 ∧ sg.length ≤ 20 ∧ ls.length ≤ 60 ∧ ∀ H1 x, Same H H1 → OptAt H1 x (fitting n ls sg) → Q x H1
theorem def_fitting_in (T : Txt K mg CB CO) (D_first_lot : Def P w K mg base "first_lot" ["book", "sightings"] 2 (sp_first_lot CB)) (D_needs : Def P w K mg base "needs" ["book", "sightings"] 3 (sp_needs CB)) (D_placed_by : Def P w K mg base "placed_by" ["book", "need", "without"] 4 (sp_placed_by CB)) (S0 : Src K mg "fitting_in" s_fitting_in) : Def P w K mg base "fitting_in" ["book", "sightings"] 5 (sp_fitting_in CB) := by
  have D_first_lot := D_first_lot.up (show 2 ≤ 4 by decide)
  have D_needs := D_needs.up (show 3 ≤ 4 by decide)
  have D_placed_by := D_placed_by.up (show 4 ≤ 4 by decide)
  refine S0.mk sc_fitting_in (fun _ _ _ _ _ _ us hl => match us, hl with | [_, _], _ => rfl) (fun vs H Q E h => ?_) (fun f cdv A outer s H vs Q E hr h => ?_)
  · obtain ⟨b, v, n, ls, sg, rfl, hb, hv, hs, hL, hn, hl, hll, k⟩ := h
    rfl
  · obtain ⟨b, v, n, ls, sg, rfl, hb, hv, hs, hL, hn, hl, hll, k⟩ := h
    refine ⟨_, (pss_cons (ps_if (pt_cmpR op_notN (pe_def D_first_lot hr rfl (pa_cons (pv 0) (pa_cons (pv 1) pa_nil))) pe_non (nomark _)) (pss_one (ps_ret pe_non)) pss_nil)
      (pss_cons (ps_set (i := 2) sc_fitting_in.nd rfl (Or.inl rfl) (pe_def D_placed_by hr rfl (pa_cons (pv 0) (pa_cons (pe_def D_needs hr rfl (pa_cons (pv 0) (pa_cons (pv 1) pa_nil))) (pa_cons pe_int pa_nil)))))
      (pss_one (ps_ret (pe_ifExp (pt_cmpR op_eq (pe_callB (crLen K) (by rfl) T.len (by decide +kernel) (pa_cons (pv 2) pa_nil)) (peFld K (pv 0)) (nomark _)) (pv 2) pe_non))))), ?_⟩
    refine ⟨_, rfl, _, rfl, b, v, n, ls, sg, rfl, hb, hv, hs, hL, hn, hl, hll, fun H1 x s1 hx => ?_⟩
    cases ha : sg.any (fun z => lotSeen ls z.2) with
    | true =>
      have hf : fitting n ls sg = none := by
        unfold fitting
        rw [ha]; rfl
      have hne : x ≠ .non := fun z => by
        have := hx.mp z
        rw [ha] at this; cases this
      refine ⟨rfl, _, rfl, ?_⟩
      rw [decide_eq_false hne]
      exact iteT (k _ _ s1 (by rw [hf]; rfl))
    | false =>
      have he := hx.mpr ha
      subst he
      refine ⟨rfl, _, rfl, ?_⟩
      rw [decide_eq_true rfl]
      refine iteF ?_
      refine ⟨_, rfl, _, rfl, _, rfl, b, v, n, ls, sg, rfl, hb.same s1, hv.same s1, hs, hn, hl, hll, fun H2 a S s2 hnd => ?_⟩
      have s12 := s1.trans s2
      refine ⟨S, b, a, n, ls, sg, rfl, hb.same s12, hnd, hL, hs, hl, hn, fun H3 o s3 ho => ?_⟩
      have s13 := s12.trans s3
      obtain ⟨dx, t, ml, hb1, hb2, hb3⟩ := hb
      refine ⟨_, rfl, o, _, rfl, .inr (SqT.of ho), _, rfl, b, CB, dx, _, _, rfl, s13 _ _ hb1, T.cB, T.bP, bkF_p n t ml, rfl, _, rfl, ?_⟩
      have hf : fitting n ls sg = if (placed n ls sg n).length = n then some (placed n ls sg n) else none := by
        unfold fitting
        rw [ha]; rfl
      rw [List.length_map]
      by_cases c : (placed n ls sg n).length = n
      · rw [decide_eq_true (by rw [c])]
        refine ⟨_, rfl, k _ _ s13 ?_⟩
        rw [hf, if_pos c]
        exact ⟨o, rfl, ho⟩
      · rw [decide_eq_false (fun z => c (by have := V.int.inj z; omega))]
        refine k _ _ s13 ?_
        rw [hf, if_neg c]
        rfl
theorem sc_fitting : FnScope ["book", "sightings"] ["book", "sightings"] (defScope s_fitting) := ⟨rfl, rfl, rfl, by decide +kernel, rfl, by decide +kernel, by decide +kernel⟩
def sp_fitting (CB : Addr) : Sp := fun vs H Q _ => ∃ (b v : Addr) (n : Nat) (ls : List (List Nat)) (sg : List (List Nat × List Nat)), vs = [.ref b, .ref v] ∧ BkAt CB H b n ls ∧ SgAt H v sg ∧ Sights n sg ∧ Lots n ls ∧ n ≤ 12 ∧ sg.length ≤ 20 ∧ ls.length ≤ 60 ∧ ∀ H1 x, Same H H1 → OptAt H1 x (fitting n ls sg) → Q x H1
theorem def_fitting (T : Txt K mg CB CO) (D_check_sightings : Def P w K mg base "check_sightings" ["book", "thing"] 6 (sp_check_sightings CB)) (D_fitting_in : Def P w K mg base "fitting_in" ["book", "sightings"] 5 (sp_fitting_in CB)) (S0 : Src K mg "fitting" s_fitting) : Def P w K mg base "fitting" ["book", "sightings"] 7 (sp_fitting CB) := by
  have D_check_sightings := D_check_sightings.up (show 6 ≤ 6 by decide)
  have D_fitting_in := D_fitting_in.up (show 5 ≤ 6 by decide)
  refine S0.mk sc_fitting (fun _ _ _ _ _ _ us hl => match us, hl with | [_, _], _ => rfl) (fun vs H Q E h => ?_) (fun f cdv A outer s H vs Q E hr h => ?_)
  · obtain ⟨b, v, n, ls, sg, rfl, hb, hv, hs, hL, hn, hl, hll, k⟩ := h
    rfl
  · obtain ⟨b, v, n, ls, sg, rfl, hb, hv, hs, hL, hn, hl, hll, k⟩ := h
    refine ⟨_, (pss_cons (ps_expr (pe_def D_check_sightings hr rfl (pa_cons (pv 0) (pa_cons (pv 1) pa_nil))))
      (pss_one (ps_ret (pe_def D_fitting_in hr rfl (pa_cons (pv 0) (pa_cons (pv 1) pa_nil)))))), ?_⟩
    refine ⟨_, rfl, _, rfl, b, v, n, ls, sg, rfl, hb, hv, hs, hn, hl, fun H1 s1 => ?_⟩
    exact ⟨_, rfl, _, rfl, b, v, n, ls, sg, rfl, hb.same s1, hv.same s1, hs, hL, hn, hl, hll, fun H2 x s2 hx => k _ _ (s1.trans s2) hx⟩
end
end K43
/-! ## B0 -/
set_option Elab.async false
set_option linter.all false
set_option maxRecDepth 100000
set_option maxHeartbeats 4000000
/-! B0: methods, makers. -/
namespace K43
open PySem PySem.Spec PyProof.Rows L2
def SrcM (K : PySem.W.Frag) (x q : Str) (st : Stmt) (W : Addr → Prop) : Prop := ∃ f fd, FunD K x q (defArgs st) (defBody st) (defScope st) [] [] f fd ∧ W f
def BindsM (x q : Str) (st : Stmt) (ps : List Str) : Prop := ∀ (kV doc pm : Value) (an : Option Addr) (cdv ct : Value) (us : List Value), us.length = ps.length →
  bindArgs (PySem.W.fnOf x q (defArgs st) (defBody st) (defScope st) .none kV doc pm an cdv ct) ⟨us, []⟩ = pure (ps.zip us)
structure DefM (P : Program) (w : World) (K : PySem.W.Frag) (mg : Str → Option Value) (base : Heap) (W : Addr → Prop) (ps : List Str) (k : Nat) (sp : Sp) : Prop where
  ex : ∃ f fd, FnOk P w K mg base CX0 k f fd ps sp ∧ W f ∧ Binds K fd ps []
section
variable {P : Program} {w : World} {K : PySem.W.Frag} {mg : Str → Option Value} {base : Heap}
theorem SrcM.mk {W : Addr → Prop} {x q : Str} {st : Stmt} {N ps : List Str} {k : Nat} {sp : Sp} (S : SrcM K x q st W) (sc : FnScope N ps (defScope st)) (hb : BindsM x q st ps) (len : ∀ vs H Q E, sp vs H Q E → vs.length = ps.length)
    (hbody : ∀ (f : Addr) (cdv : Value) (A : Around) (outer : List Env) (s : Shared) (H : Hp) (vs : List V) (Q : VK) (E : XK), Room k (A.deeper (envOfC q (defScope st) s.heap.objs.size f cdv)) → sp vs H Q E →
      ∃ t, PSs (cxOf CX0 P w K mg base N q (defScope st) f cdv A outer s H E).nox (defBody st) t ∧ t { nx := fun _ H' => Q .non H', rt := Q } (start N vs) H) : DefM P w K mg base W ps (k + 1) sp := by
  obtain ⟨f, fd, F, hm⟩ := S
  refine ⟨f, fd, F.ok sc len fun cdv A outer s H vs Q E hr h => ?_, hm, F.bindsN hb⟩
  obtain ⟨t, h1, h2⟩ := hbody f cdv A outer s H vs Q E hr h
  exact ⟨t, h1.nox, h2⟩
theorem DefM.up {W : Addr → Prop} {ps : List Str} {j k : Nat} {sp : Sp} (D : DefM P w K mg base W ps j sp) (h : j ≤ k) : DefM P w K mg base W ps k sp := by
  obtain ⟨f, fd, F, r⟩ := D.ex
  exact ⟨f, fd, F.mono h, r⟩
end
section
variable {X : Cx} {x m : Str} {C : Addr} {ps : List Str} {k j : Nat} {sp : Sp} {p pos apos : Pos} {o e : Expr} {es : List Expr} {ta : TE} {t : TA}
theorem pe_mkD (D : DefM X.prog X.w X.K X.mg X.base (fun f => Mk X.K C f) ps k sp) (hr : Room j X.A) (hk : k + 1 ≤ j) (hg : Gl X x) (hm : X.mg x = some (.ref C)) (ha : PA X (e :: es) t)
    (hdb : (x == ("__debug__" : Str)) = false := by decide) (he : starEach (e :: es) X.env = (false, eval e X.env) :: starEach es X.env := by rfl) (hpl : (backTo pos (starEach es X.env)).any (·.1) = false := by rfl) :
    PE X (.Call (.Name x p) (e :: es) [] pos) (tMake C sp [] E0 t) := by
  obtain ⟨f, fd, F, M, hb⟩ := D.ex
  exact pe_make M F (hr.mono hk) hg hm hb .nil pass0 ha hdb he hpl
theorem pe_metD {pl : Sem Bool} (D : DefM X.prog X.w X.K X.mg X.base (fun f => Meth X.K C m f) ps k sp) (hr : Room j X.A) (hk : k ≤ j) (he : PE X o ta) (c : Cls X.K C) (ha : PA X (e :: es) t)
    (hst : starEach (e :: es) X.env = (false, eval e X.env) :: starEach es X.env := by rfl) (hpl : (backTo pos (starEach es X.env)).any (·.1) = false := by rfl)
    (ht : eval (.Call (.Attribute o m apos) (e :: es) [] pos) X.env = (do
      let ov ← eval o X.env
      standAt apos.atName
      let (f, first) ← holding [ov] (getMethod ov m pl)
      callWith pos f first (backTo pos (starEach (e :: es) X.env)) (backToKw pos (keywordEach [] X.env))) := by rfl) :
    PE X (.Call (.Attribute o m apos) (e :: es) [] pos) (tMeth C m sp [] E0 ta t) := by
  obtain ⟨f, fd, F, M, hb⟩ := D.ex
  exact pe_meth he c M F (hr.mono hk) hb .nil pass0 ha hst hpl ht
theorem psFld {value : Expr} {f : Str} {pos' : Pos} {tv : TE} (K : PySem.W.Frag) (ha : PE X o ta) (hv : PE X value tv) (hs : swapsWith value (some (.Attribute o f pos')) pos.line X.env = pure false := by rfl) (h : X.K = K := by rfl) : PS X (.Assign [.Attribute o f pos'] value pos) (sFld K ta tv f) := h ▸ ps_fld ha hv hs
theorem hu_of' {A : Around} (r : Room k A) : A.units < cLine := by have := r.un; omega
end
theorem lexLt_nat : ∀ a b : List Nat, HT.lexLt (a.map fun i : Nat => (i : Int)) (b.map fun i : Nat => (i : Int)) = lx a b
  | [], [] => rfl
  | [], _ :: _ => rfl
  | _ :: _, [] => rfl
  | x :: xs, y :: ys => by
    have ih := lexLt_nat xs ys
    show (if (x : Int) = (y : Int) then HT.lexLt (xs.map fun i : Nat => (i : Int)) (ys.map fun i : Nat => (i : Int)) else decide ((x : Int) < (y : Int))) = (if x = y then lx xs ys else decide (x < y))
    rw [ih]
    by_cases h : x = y
    · rw [if_pos h, if_pos (by rw [h])]
    · rw [if_neg h, if_neg (by omega)]
      by_cases h2 : x < y
      · rw [decide_eq_true h2, decide_eq_true (by omega)]
      · rw [decide_eq_false h2, decide_eq_false (by omega)]
theorem map_vN (a : List Nat) : a.map vN = (a.map fun i : Nat => (i : Int)).map V.int := by rw [List.map_map] <;> rfl
end K43
/-! ## B1 -/
set_option Elab.async false
set_option linter.all false
set_option maxRecDepth 100000
set_option maxHeartbeats 4000000
/-! B1: books. -/
namespace K43
open PySem PySem.Spec PyProof.Rows L2
theorem putF_len (f : Str) (v : V) : ∀ fs : List (Str × V), (putF f v fs).length ≤ fs.length + 1
  | [] => Nat.le_refl _
  | p :: fs => by
    have := putF_len f v fs
    unfold putF
    split
    · simp
    · simp only [List.length_cons]; omega
theorem lots_nd {n : Nat} {ls : List (List Nat)} (h : Lots n ls) : ls.Nodup := h.ord.imp fun h e => by rw [e, lx_irrefl] at h; cases h
theorem lots_hld {n : Nat} {ls : List (List Nat)} (h : Lots n ls) {a b : List Nat} (ha : a ∈ ls) (hb : b ∈ ls) (hne : a ≠ b) : hld (mk a) (mk b) = false := by
  cases e : hld (mk a) (mk b) with
  | false => rfl
  | true => exact absurd ((hld_mk (h.crowd b hb) (mk_mem (h.crowd a ha))).mp e) (h.apart b hb a ha (Ne.symm hne))
theorem lots_nd_ahead {ls : List (List Nat)} (h : ls.Nodup) {i : Nat} {l : List Nat} (e : ls[i]? = some l) : l ∉ ls.take i := fun ho => by
  obtain ⟨j, hj, e2⟩ := List.getElem_of_mem ho
  have hi := len_at e
  rw [List.length_take] at hj
  rw [List.getElem_take] at e2
  rw [List.getElem?_eq_getElem hi] at e
  have e3 := (List.getElem_inj (h₀ := by omega) (h₁ := hi) h).mp (e2.trans (Option.some.inj e).symm)
  omega
theorem lots_before {n : Nat} {ls : List (List Nat)} (h : Lots n ls) {i : Nat} {l o : List Nat} (e : ls[i]? = some l) (ho : o ∈ ls.take i) : o ∈ ls ∧ l ≠ o := ⟨List.mem_of_mem_take ho, fun z => by subst z; exact (lots_nd_ahead (lots_nd h) e) ho⟩
theorem lots_next {n : Nat} {ls : List (List Nat)} (h : Lots n ls) {i : Nat} {l : List Nat} (e : ls[i + 1]? = some l) : ∃ k, ls[i]? = some k ∧ lx k l = true := by
  have hi := len_at e
  have h1 := List.pairwise_iff_getElem.mp h.ord i (i + 1) (by omega) hi (by omega)
  refine ⟨ls[i], List.getElem?_eq_getElem (by omega), ?_⟩
  rw [List.getElem?_eq_getElem hi] at e
  cases e
  exact h1
theorem paired_back {α β : Type} {G : α → β → Prop} {l : List α} {m : List β} (h : Paired G l m) {i : Nat} {b : β} (e : m[i]? = some b) : ∃ a, l[i]? = some a ∧ G a b := by
  have hi := len_at e
  have hl := paired_len h
  have e1 : l[i]? = some l[i] := List.getElem?_eq_getElem (by omega)
  obtain ⟨b', e2, g⟩ := paired_at h e1
  rw [e] at e2
  cases e2
  exact ⟨_, e1, g⟩
theorem any_false {α : Type} (l : List α) : (l.filterMap fun _ => some false).any id = false := List.any_eq_false.mpr fun b hb => by
  obtain ⟨_, _, e⟩ := List.mem_filterMap.mp hb
  cases e
  exact Bool.false_ne_true
theorem and_keep {t u : TT} {σ : L2.St} {H : Hp} {Q : Bool → Hp → Prop} (h : ∀ Q' : Bool → Hp → Prop, Q' false H → tAnd t u σ H Q') (k : Q false H) : tAnd t u σ H Q := h Q k
section
variable {P : Program} {w : World} {K : PySem.W.Frag} {mg : Str → Option Value} {base : Heap} {CB CO : Addr}
theorem sc_Book_keep : FnScope ["self", "people", "lots", "lot"] ["self", "people", "lots"] (defScope s_Book_keep) := ⟨rfl, rfl, rfl, by decide +kernel, rfl, by decide +kernel, by decide +kernel⟩
def sp_Book_keep (CB : Addr) : Sp := fun vs H Q _ => ∃ (x dx t : Addr) (n : Nat) (ls : List (List Nat)), vs = [.ref x, vN n, .ref t] ∧ H x = some (.ins CB dx []) ∧ CrTT H t ls ∧ Lots n ls ∧ n ≤ 12 ∧ ls.length ≤ 60 ∧ ∀ H1, Kx (fun b => b = x) H H1 → BkAt CB H1 x n ls → Q .non H1
theorem def_Book_keep (T : Txt K mg CB CO) (D_bits_of : Def P w K mg base "bits_of" ["crowd"] 1 sp_bits_of) (S0 : SrcM K "keep" "Book.keep" s_Book_keep (fun f => Meth K CB "keep" f)) : DefM P w K mg base (fun f => Meth K CB "keep" f) ["self", "people", "lots"] 2 (sp_Book_keep CB) := by
  have D_bits_of := D_bits_of.up (show 1 ≤ 1 by decide)
  refine S0.mk sc_Book_keep (fun _ _ _ _ _ _ us hl => match us, hl with | [_, _, _], _ => rfl) (fun vs H Q E h => ?_) (fun f cdv A outer s H vs Q E hr h => ?_)
  · obtain ⟨x, dx, t, n, ls, rfl, hx, ht, hL, hn, hl, k⟩ := h
    rfl
  · obtain ⟨x, dx, t, n, ls, rfl, hx, ht, hL, hn, hl, k⟩ := h
    refine ⟨_, (pss_cons (psFld K (pv 0) (pv 1))
      (pss_cons (psFld K (pv 0) (pv 2))
      (pss_one (psFld K (pv 0) (pe_lc (own := [("lot", 3)]) rfl sc_Book_keep.nd (piT K (pv 2)) (blkOk_by (by kernel_rfl)) (fun _ _ _ _ _ => (pg_name (i := 3) sc_Book_keep.nd rfl (Or.inl rfl))) (fun _ _ _ _ _ => pts_nil) (fun _ _ _ _ _ => (pe_def D_bits_of hr rfl (pa_cons (pv 3) pa_nil)))))))), ?_⟩
    have hxt : t ≠ x := fun z => by
      obtain ⟨us, e, _⟩ := ht
      rw [z, hx] at e; cases e
    refine ⟨_, rfl, _, rfl, x, CB, dx, _, rfl, hx, T.cB, T.bP, by decide, ?_⟩
    have l1 := putF_len "people" (vN n) []
    refine ⟨_, rfl, _, rfl, x, CB, dx, _, rfl, upd_same, T.cB, T.bL, Nat.lt_of_le_of_lt l1 (by decide), ?_⟩
    have l2 := putF_len "lots" (.ref t) (putF "people" (vN n) [])
    obtain ⟨ts, ht1, ht2⟩ := ht
    have lt := paired_len ht2
    refine ⟨_, rfl, t, rfl, ⟨_, SqT.of (by rw [upd_ne hxt, upd_ne hxt]; exact ht1)⟩, fun D hD => ?_⟩
    have ht3 : upd (upd H x (.ins CB dx (putF "people" (vN n) []))) x (.ins CB dx (putF "lots" (.ref t) (putF "people" (vN n) []))) t = some (.tup ts) := by rw [upd_ne hxt, upd_ne hxt]; exact ht1
    have kx : Kx (fun b => b = x) H (upd (upd H x (.ins CB dx (putF "people" (vN n) []))) x (.ins CB dx (putF "lots" (.ref t) (putF "people" (vN n) [])))) := fun b o hb e => by rw [upd_ne hb, upd_ne hb]; exact e
    have ts0 : TS H (upd (upd H x (.ins CB dx (putF "people" (vN n) []))) x (.ins CB dx (putF "lots" (.ref t) (putF "people" (vN n) [])))) := (ts_upd hx fun _ z => by cases z).trans (ts_upd upd_same fun _ z => by cases z)
    refine lc_same walk_tup (fun _ v (m : Nat) => v = vN m) (fun i => ls[i]?.bind fun l => some (mk l)) hD (fun H2 s => SqT.of (s _ _ ht3)) (fun _ _ _ _ _ e => e) (by omega) ?_ ?_
    · rintro i y H0 H2 K1 K2 hi s0 ⟨rfl, e⟩ k1 k2
      obtain ⟨l, el, a, rfl, ha⟩ := paired_at ht2 e
      have hm := List.mem_of_getElem? el
      have hc := hL.crowd l hm
      have hlen := crowd_len hc
      refine ⟨rfl, tyes ?_⟩
      refine ⟨_, rfl, a, l, rfl, (ha.mono ts0).mono (ts_same s0), fun i hi => (by have := hc.lt i hi; omega), by omega, fun H3 s3 => k1 _ _ (mk l) s3 (by rw [el]; rfl) rfl⟩
    intro H2 ys s2 e p
    rw [lt, fm_map, fm_some] at p
    rw [paired_val p] at e
    refine ⟨_, rfl, x, CB, dx, _, rfl, s2 _ _ upd_same, T.cB, T.bM, Nat.lt_of_le_of_lt l2 (Nat.lt_of_le_of_lt (Nat.succ_le_succ l1) (by decide)), ?_⟩
    have hDx : D ≠ x := fun z => by rw [z, upd_same] at hD; cases hD
    have hH2x : H2 x = some (.ins CB dx (putF "lots" (.ref t) (putF "people" (vN n) []))) := s2 _ _ upd_same
    refine k _ (kx.trans fun b o hb eb => by rw [upd_ne hb]; exact s2 _ _ eb) ⟨dx, t, D, upd_same, ⟨ts, by rw [upd_ne hxt]; exact s2 _ _ ht3, ht2.mono ((ts0.trans (ts_same s2)).trans (ts_upd hH2x fun _ z => by cases z))⟩, ?_⟩
    rw [upd_ne hDx, e, List.map_map] <;> rfl
theorem sc_first_wrong_lot : FnScope ["people", "lots", "found", "at", "lot", "bits", "other"] ["people", "lots"] (defScope s_first_wrong_lot) := ⟨rfl, rfl, rfl, by decide +kernel, rfl, by decide +kernel, by decide +kernel⟩
def sp_first_wrong_lot : Sp := fun vs H Q _ => ∃ (t : Addr) (n : Nat) (ls : List (List Nat)), vs = [vN n, .ref t] ∧ CrTT H t ls ∧ Lots n ls ∧ n ≤ 12 ∧ ls.length ≤ 60 ∧ ∀ H1, Same H H1 → Q .non H1
theorem def_first_wrong_lot (T : Txt K mg CB CO) (D_bits_of : Def P w K mg base "bits_of" ["crowd"] 1 sp_bits_of) (D_holds : Def P w K mg base "holds" ["bits", "some"] 1 sp_holds) (D_is_lot : Def P w K mg base "is_lot" ["people", "thing"] 5 sp_is_lot) (S0 : Src K mg "first_wrong_lot" s_first_wrong_lot) : Def P w K mg base "first_wrong_lot" ["people", "lots"] 6 (sp_first_wrong_lot) := by
  have D_bits_of := D_bits_of.up (show 1 ≤ 5 by decide)
  have D_holds := D_holds.up (show 1 ≤ 5 by decide)
  have D_is_lot := D_is_lot.up (show 5 ≤ 5 by decide)
  refine S0.mk sc_first_wrong_lot (fun _ _ _ _ _ _ us hl => match us, hl with | [_, _], _ => rfl) (fun vs H Q E h => ?_) (fun f cdv A outer s H vs Q E hr h => ?_)
  · obtain ⟨t, n, ls, rfl, ⟨ts, ht1, ht2⟩, hL, hn, hl, k⟩ := h
    rfl
  · obtain ⟨t, n, ls, rfl, ⟨ts, ht1, ht2⟩, hL, hn, hl, k⟩ := h
    refine ⟨_, (pss_cons (ps_set (i := 2) sc_first_wrong_lot.nd rfl (Or.inl rfl) (pe_lst pa_nil))
      (pss_cons (ps_for PassesOwn.never rfl (piEnumS (by rfl) T.enum (pa_cons (pv 1) pa_nil)) (pgTup K (n := 2) (by rfl) (pgs_cons (pg_name (i := 3) sc_first_wrong_lot.nd rfl (Or.inl rfl)) (pgs_cons (pg_name (i := 4) sc_first_wrong_lot.nd rfl (Or.inl rfl)) pgs_nil))) (pss_cons (ps_if (PW.pt (pw_or (pt_not (pt_val (pe_def D_is_lot hr rfl (pa_cons (pv 0) (pa_cons (pv 4) pa_nil))))) (pw_or1 (PW.pt (pw_and (pt_cmpR op_gt (pv 3) pe_int (nomark _)) (pw_and1 (pt_not (pt_cmpR (opLtT K (hu_of' hr)) (pe_ix (ixT K) (pv 1) (pe_op op_sub (pv 3) pe_int) (fun _ _ => rfl)) (pv 4) (nomark _))))))))) (pss_one (ps_ret (pv 3))) pss_nil)
      (pss_cons (ps_set (i := 5) sc_first_wrong_lot.nd rfl (Or.inr rfl) (pe_def D_bits_of hr rfl (pa_cons (pv 4) pa_nil)))
      (pss_cons (ps_if (pt_val (pe_callB (crAny K) (by rfl) T.any (by decide +kernel) (pa_cons (pe_lc (own := [("other", 6)]) rfl sc_first_wrong_lot.nd (piL K (pv 2)) (blkOk_by (by kernel_rfl)) (fun _ _ _ _ _ => (pg_name (i := 6) sc_first_wrong_lot.nd rfl (Or.inl rfl))) (fun _ _ _ _ _ => pts_nil) (fun _ _ _ _ _ => (pe_or (pe_def D_holds hr rfl (pa_cons (pv 5) (pa_cons (pv 6) pa_nil))) (pe_one (pe_def D_holds hr rfl (pa_cons (pv 6) (pa_cons (pv 5) pa_nil))))))) pa_nil))) (pss_one (ps_ret (pv 3))) pss_nil)
      (pss_one (ps_expr (peBm K PySem.F.plainAttrs_list PySem.F.slot_list_append PySem.F.type_list_append mt_append (pv 2) (pa_cons (pv 5) pa_nil))))))))
      (pss_one (ps_ret pe_non)))), ?_⟩
    have lt := paired_len ht2
    refine ⟨Nat.zero_le _, fun f hf => ?_⟩
    have s1 : Same H (upd H f (.lst [])) := same_new hf
    refine ⟨_, rfl, t, ts, .tup ts, rfl, .inr rfl, s1 _ _ ht1, fun J wk => ?_⟩
    refine for_it wk (fun i σ H' => (∃ a3 a4 a5 a6, σ = [some (vN n), some (.ref t), some (.ref f), a3, a4, a5, a6]) ∧ Same H H' ∧ H' f = some (.lst ((ls.take i).map fun l => vN (mk l)))) ⟨⟨_, _, _, _, rfl⟩, s1, upd_same⟩ (fun i σ H' _ z => z.2.1 _ _ ht1) ?_ ?_
    · rintro i x σ H0 H' hi ⟨⟨a3, a4, a5, a6, rfl⟩, s0, e0⟩ ⟨T0, x1, y1, rfl, hT, rfl, ex, ey⟩
      cases ex
      obtain ⟨l, el, a, rfl, ha⟩ := paired_at ht2 ey
      have hm := List.mem_of_getElem? el
      have hc := hL.crowd l hm
      have hlen := crowd_len hc
      have s2 : Same H (upd H0 T0 (.tup [.int (i : Nat), .ref a])) := s0.trans (same_new hT)
      have e2 : upd H0 T0 (.tup [.int (i : Nat), .ref a]) f = some (.lst ((ls.take i).map fun l => vN (mk l))) := same_new hT _ _ e0
      refine ⟨T0, _, rfl, SqT.of upd_same, rfl, _, _, rfl, _, _, rfl, rfl, ?_⟩
      refine ⟨_, rfl, _, rfl, n, a, l, rfl, ha.mono (ts_same s2), hc, hL.two l hm, by omega, fun H3 s3 => ⟨true, rfl, ?_⟩⟩
      have s13 := s2.trans s3
      refine iteF (and_keep (fun Q' k' => ?_) ?_)
      · refine ⟨_, rfl, _, _, rfl, rfl, _, rfl, ?_⟩
        cases i with
        | zero => exact ifDf (by omega) k'
        | succ i =>
          obtain ⟨kk, ek, hlx⟩ := lots_next hL el
          obtain ⟨v2, hv2, a2, rfl, ha2⟩ := paired_back ht2 ek
          refine ifDt (by omega) ?_
          have r1 := (ha2.mono (ts_same s13))
          have r2 := (ha.mono (ts_same s13))
          unfold CrT at r1 r2
          rw [map_vN] at r1 r2
          refine ⟨_, rfl, _, rfl, _, _, rfl, rfl, t, ts, _, _, rfl, rfl, SqT.of (s13 _ _ ht1), at_of (j := i) (by omega) hv2, _, rfl, a2, a, _, _, rfl, rfl, SqT.of r1, SqT.of r2, ?_⟩
          rw [lexLt_nat, hlx]
          exact ⟨_, rfl, k'⟩
      · refine iteF ⟨_, rfl, a, l, rfl, ha.mono (ts_same s13), fun i hi => (by have := hc.lt i hi; omega), by omega, fun H4 s4 => ?_⟩
        have s14 := s13.trans s4
        have e4 := s4 _ _ (s3 _ _ e2)
        refine ⟨_, rfl, f, rfl, ⟨_, SqL.of e4⟩, fun D hD => ?_⟩
        have lm : ((ls.take i).map fun l => vN (mk l)).length = (ls.take i).length := List.length_map _
        have lm2 : (ls.take i).length ≤ 60 := by rw [List.length_take]; omega
        refine lc_same walk_list (fun _ v (b : Bool) => v = .bl b) (fun _ => some false) hD (fun H2 s => SqL.of (s _ _ e4)) (fun _ _ _ _ _ e => e) (by omega) ?_ ?_
        · rintro j y H5 H6 K1 K2 hj s5 ⟨rfl, e⟩ k1 k2
          rw [List.getElem?_map] at e
          cases eo : (ls.take i)[j]? with
          | none => rw [eo] at e; cases e
          | some o =>
          rw [eo] at e
          cases e
          obtain ⟨o1, o2⟩ := lots_before hL el (List.mem_of_getElem? eo)
          refine ⟨rfl, tyes ⟨_, rfl, _, rfl, mk l, mk o, rfl, _, rfl, ?_⟩⟩
          rw [lots_hld hL hm o1 o2]
          refine iteF ⟨_, rfl, _, rfl, mk o, mk l, rfl, ?_⟩
          rw [lots_hld hL o1 hm (Ne.symm o2)]
          exact k1 _ _ false (Same.refl _) rfl rfl
        · intro H5 ys s5 e p
          rw [paired_val p] at e
          refine ⟨D, _, rfl, SqL.of e, ?_⟩
          rw [any_false]
          have e6 := s5 _ _ e4
          refine ⟨_, rfl, iteF ⟨_, rfl, .inl ⟨rfl, _, SqL.of e6⟩, _, rfl, f, _, _, rfl, rfl, e6, line1 (by omega), ⟨_, _, _, _, rfl⟩, same_at (s14.trans s5) hf, ?_⟩⟩
          rw [upd_same, take_next el, List.map_append] <;> rfl
    · rintro σ H' ⟨_, s', _⟩
      exact k _ s'
theorem sc_Book_init : FnScope ["self", "people", "lots", "at"] ["self", "people", "lots"] (defScope s_Book_init) := ⟨rfl, rfl, rfl, by decide +kernel, rfl, by decide +kernel, by decide +kernel⟩
def sp_Book_init (CB : Addr) : Sp := fun vs H Q _ => ∃ (x dx t : Addr) (n : Nat) (ls : List (List Nat)), vs = [.ref x, vN n, .ref t] ∧ H x = some (.ins CB dx []) ∧ CrTT H t ls ∧ Lots n ls ∧ 1 ≤ n ∧ n ≤ 12 ∧ ls.length ≤ 60 ∧ ∀ H1, Kx (fun b => b = x) H H1 → BkAt CB H1 x n ls → Q .non H1
theorem def_Book_init (T : Txt K mg CB CO) (D_is_within : Def P w K mg base "is_within" ["thing", "least", "most"] 2 sp_is_within) (D_first_wrong_lot : Def P w K mg base "first_wrong_lot" ["people", "lots"] 6 sp_first_wrong_lot) (D_keep : DefM P w K mg base (fun f => Meth K CB "keep" f) ["self", "people", "lots"] 2 (sp_Book_keep CB)) (S0 : SrcM K "__init__" "Book.__init__" s_Book_init (fun f => Mk K CB f)) : DefM P w K mg base (fun f => Mk K CB f) ["self", "people", "lots"] 7 (sp_Book_init CB) := by
  have D_is_within := D_is_within.up (show 2 ≤ 6 by decide)
  have D_first_wrong_lot := D_first_wrong_lot.up (show 6 ≤ 6 by decide)
  have D_keep := D_keep.up (show 2 ≤ 6 by decide)
  obtain ⟨tmp, hMP⟩ := T.mp
  obtain ⟨tml, hML⟩ := T.ml
  refine S0.mk sc_Book_init (fun _ _ _ _ _ _ us hl => match us, hl with | [_, _, _], _ => rfl) (fun vs H Q E h => ?_) (fun f cdv A outer s H vs Q E hr h => ?_)
  · obtain ⟨x, dx, t, n, ls, rfl, hx, ht, hL, h1, hn, hl, k⟩ := h
    rfl
  · obtain ⟨x, dx, t, n, ls, rfl, hx, ht, hL, h1, hn, hl, k⟩ := h
    refine ⟨_, (pss_cons (ps_if (pt_not (pt_val (pe_def D_is_within hr rfl (pa_cons (pv 1) (pa_cons pe_int (pa_cons (pe_glob (v := .int 12) rfl hMP ⟨_, rfl⟩) pa_nil)))))) (pss_one ps_never) pss_nil)
      (pss_cons (ps_if (PW.pt (pw_or (pt_not (pt_val (pe_callB (crIsi K) (by rfl) T.isi (by decide +kernel) (pa_cons (pv 2) (pa_cons (pe_bltn (v := .ty "tuple") (by rfl) T.tuple (by decide +kernel) rfl) pa_nil))))) (pw_or1 (pt_cmpR op_gt (pe_callB (crLen K) (by rfl) T.len (by decide +kernel) (pa_cons (pv 2) pa_nil)) (pe_glob (v := .int 60) rfl hML ⟨_, rfl⟩) (nomark _))))) (pss_one ps_never) pss_nil)
      (pss_cons (ps_set (i := 3) sc_Book_init.nd rfl (Or.inl rfl) (pe_def D_first_wrong_lot hr rfl (pa_cons (pv 1) (pa_cons (pv 2) pa_nil))))
      (pss_cons (ps_if (pt_cmpR op_notN (pv 3) pe_non (nomark _)) (pss_one ps_never) pss_nil)
      (pss_one (ps_expr (pe_metD D_keep hr (by decide) (pv 0) T.cB (pa_cons (pv 1) (pa_cons (pv 2) pa_nil))))))))), ?_⟩
    obtain ⟨ts, ht1, ht2⟩ := id ht
    have lt := paired_len ht2
    refine ⟨_, rfl, (n : Int), 1, 12, rfl, _, rfl, ?_⟩
    rw [decide_eq_true (show (1 : Int) ≤ (n : Int) by omega), decide_eq_true (show (n : Int) ≤ 12 by omega)]
    refine iteF ⟨_, rfl, _, _, _, _, true, rfl, .ty _, .base (.tup ht1), kit_ty (by decide +kernel), true, rfl, iteF ?_⟩
    refine ⟨_, rfl, t, _, rfl, .inr (SqT.of ht1), _, _, rfl, rfl, _, rfl, ifDf (by omega) ?_⟩
    refine ⟨_, rfl, _, rfl, t, n, ls, rfl, ht, hL, hn, hl, fun H1 s1 => ?_⟩
    refine ⟨_, rfl, rfl, _, rfl, ?_⟩
    rw [decide_eq_true rfl]
    refine iteF ?_
    refine ⟨_, rfl, x, dx, [], rfl, s1 _ _ hx, rfl, _, rfl, _, rfl, x, dx, t, n, ls, rfl, s1 _ _ hx, ht.mono (ts_same s1), hL, hn, hl, fun H2 kx hb => ?_⟩
    exact k _ ((Kx.of s1).trans kx) hb
end
end K43
/-! ## R4 -/
set_option Elab.async false
set_option linter.all false
set_option maxRecDepth 100000
set_option maxHeartbeats 4000000
/-! R4: max of a list of pairs of ints. -/
namespace PySem.W
open PySem PySem.SeqAt PyProof.Rows
theorem k43_max {prog : Program} {w : World} {A : Around} {E : Value → Shared → Prop} {s : Shared} {l : Addr} {vs : Array Value} {x : PyData} {xs : List PyData} {as : List Addr} {Q : Value → Shared → Prop} (hh : A.handled = none) (hl : s.heap.IsList l vs) (hr : ReadsAll s.heap vs.toList (x :: xs) as) (ha : AlikeAll (x :: xs)) (hu : A.units + 1 + PyData.depthAll (x :: xs) < cLine)
    (h : ∀ (i : Nat) v h' tk, vs[i]? = some v → (x :: xs).getD i .none = maxD x xs → (∀ b o, s.heap.get? b = some o → h'.get? b = some o) → Q v { s with heap := h', toks := tk }) :
    wpAny (model prog w) A (call (.builtin "max") [.ref l]) Q E s := by
  have hn : vs.size = xs.length + 1 := readsAll_len hr
  refine call_max_walkH (iter_listW (A := A.in1) hh hl fun s₂ e W st hfp hw hk => ?_)
  refine ⟨_, _, _, _, _, _, _, s.heap, _, rfl, W, st, hfp, by omega, hw, hk, cmpIn_gt (A := A.in1) hr ha (by show A.units + 1 + _ < _; exact hu), fun v s' hP m => ?_⟩
  obtain ⟨h', tk, rfl, hk'⟩ := moved_old e rfl m
  have e1 : vs.size - 1 = xs.length := by omega
  have e2 := (argBest_fold (fun a b => dataLt b a) PyData.none x xs xs.length (Nat.le_refl _)).2
  rw [List.take_length] at e2
  refine h _ v h' tk hP ?_ hk'
  rw [e1]
  exact e2
end PySem.W
namespace K43
open PySem PySem.Spec PyProof.Rows L2
def pD (p : Int × Int) : PyData := .tuple [.int p.1, .int p.2]
theorem maxD_pairs : ∀ (ps : List (Int × Int)) (p : Int × Int), ∃ q ∈ p :: ps, PySem.W.maxD (pD p) (ps.map pD) = pD q ∧ ∀ z ∈ p :: ps, z.1 ≤ q.1
  | [], p => ⟨p, List.mem_cons_self, rfl, fun z hz => by
      have : z = p := by simpa using hz
      rw [this]; exact Int.le_refl _⟩
  | y :: ps, p => by
    have e0 : PySem.W.maxD (pD p) ((y :: ps).map pD) = PySem.W.maxD (if PySem.W.dataLt (pD p) (pD y) = true then pD y else pD p) (ps.map pD) := rfl
    have e1 : PySem.W.dataLt (pD p) (pD y) = decide (p.1 < y.1 ∨ (p.1 = y.1 ∧ p.2 < y.2)) := PySem.W.dataLt_ii _ _ _ _
    by_cases c : p.1 < y.1 ∨ (p.1 = y.1 ∧ p.2 < y.2)
    · rw [e1, if_pos (decide_eq_true c)] at e0
      obtain ⟨q, h1, h2, h3⟩ := maxD_pairs ps y
      refine ⟨q, List.mem_cons_of_mem _ h1, e0.trans h2, fun z hz => ?_⟩
      rcases List.mem_cons.mp hz with e | e
      · have := h3 y List.mem_cons_self
        rw [e]
        rcases c with c | c <;> omega
      · exact h3 z e
    · rw [e1, if_neg (by simpa using c)] at e0
      obtain ⟨q, h1, h2, h3⟩ := maxD_pairs ps p
      refine ⟨q, ?_, e0.trans h2, fun z hz => ?_⟩
      · rcases List.mem_cons.mp h1 with e | e
        · rw [e]; exact List.mem_cons_self
        · exact List.mem_cons_of_mem _ (List.mem_cons_of_mem _ e)
      · rcases List.mem_cons.mp hz with e | e
        · rw [e]; exact h3 p List.mem_cons_self
        · rcases List.mem_cons.mp e with e | e
          · have := h3 p List.mem_cons_self
            rw [e]
            omega
          · exact h3 z (List.mem_cons_of_mem _ e)
theorem pD_inj {p q : Int × Int} (h : pD p = pD q) : p = q := by
  have h1 := PyData.tuple.inj h
  have h2 := List.cons.inj h1
  have h3 := List.cons.inj h2.2
  exact Prod.ext (PyData.int.inj h2.1) (PyData.int.inj h3.1)
def PairAt (H : Hp) (y : V) (p : Int × Int) : Prop := ∃ b, y = .ref b ∧ H b = some (.tup [.int p.1, .int p.2])
theorem dp_pairs {K : PySem.W.Frag} {H : Hp} : ∀ {ys : List V} {ps : List (Int × Int)}, Paired (PairAt H) ys ps → DpAll K H ys (ps.map pD)
  | [], [], _ => .nil
  | _ :: _, _ :: _, .cons ⟨b, e, h⟩ r => by
    subst e
    exact .cons (.tup (SqT.of h) (.cons (.int _) (.cons (.int _) .nil))) (dp_pairs r)
theorem alike_pairs (ps : List (Int × Int)) : PySem.W.AlikeAll (ps.map pD) := by
  refine ⟨fun x hx y hy => ?_, fun x hx => ?_⟩
  · obtain ⟨p, _, rfl⟩ := List.mem_map.mp hx
    obtain ⟨q, _, rfl⟩ := List.mem_map.mp hy
    rfl
  · obtain ⟨p, _, rfl⟩ := List.mem_map.mp hx
    exact PyData.noConfusion
theorem depth_pairs : ∀ ps : List (Int × Int), PyData.depthAll (ps.map pD) ≤ 2
  | [] => Nat.zero_le _
  | p :: ps => by
    show max (pD p).depth (PyData.depthAll (ps.map pD)) ≤ 2
    have h1 : (pD p).depth ≤ 2 := by unfold pD; simp [PyData.depth, PyData.depthAll]
    exact Nat.max_le.mpr ⟨h1, depth_pairs ps⟩
def rMaxP (K : PySem.W.Frag) : List V → Hp → VK → Prop := fun xs H Q => ∃ (a : Addr) (ys : List V) (ps : List (Int × Int)), xs = [.ref a] ∧ SqL K H a ys ∧ Paired (PairAt H) ys ps ∧ ps ≠ [] ∧
  ∀ b p, p ∈ ps → H b = some (.tup [.int p.1, .int p.2]) → (∀ q ∈ ps, q.1 ≤ p.1) → Q (.ref b) H
theorem crMaxP {X : Cx} (K : PySem.W.Frag) (hu : X.A.units + 64 < cLine) (hc : X.calm = true := by rfl) (hK : X.K = K := by rfl) : CallR X (.builtin "max") (rMaxP K) := by
  subst hK
  intro pins s σ H vs us Q I r h
  obtain ⟨a, ys, ps, rfl, hs, hp, hne, q⟩ := h
  obtain ⟨its, rv, hl, _⟩ := I.list hs
  rw [Vals.ref1 r]
  obtain ⟨as, hr⟩ := Dp.readsAll I _ _ _ (dp_pairs (K := X.K) hp) rv
  cases ps with
  | nil => exact absurd rfl hne
  | cons p0 ps =>
    have hd := depth_pairs (p0 :: ps)
    refine PySem.W.k43_max (I.ok.hd hc) hl.isList (by simpa using hr) (alike_pairs (p0 :: ps)) (by rw [List.map_cons] at hd; omega) fun i v h' tk hv e hk => ?_
    obtain ⟨m, hm, e2, hmx⟩ := maxD_pairs ps p0
    have hv2 : its[i]? = some v := by simpa using hv
    have hil : i < ys.length := by rw [rv.length]; exact len_at hv2
    have hy : ys[i]? = some ys[i] := List.getElem?_eq_getElem hil
    obtain ⟨p, ep, b, eb, hb⟩ := paired_at hp hy
    obtain ⟨v', hv', rr⟩ := rv.get hy
    rw [hv2] at hv'
    cases hv'
    rw [eb] at rr
    cases (show v = Value.ref b from rr)
    have e3 : ((p0 :: ps).map pD).getD i .none = pD p := by
      rw [List.getD_eq_getElem?_getD, List.getElem?_map, ep] <;> rfl
    have e4 : pD p = pD m := by
      rw [← e3, ← e2]
      exact e
    have e5 := pD_inj e4
    exact ⟨.ref b, H, I.kept hk, rfl, q b p (List.mem_of_getElem? ep) hb (by rw [e5]; exact hmx)⟩
end K43
/-! ## B2 -/
set_option Elab.async false
set_option linter.all false
set_option maxRecDepth 100000
set_option maxHeartbeats 4000000
/-! B2: lasts. -/
namespace K43
open PySem PySem.Spec PyProof.Rows L2
/-- the last of a lot by a list -/
def lastOf (o l : List Nat) : Nat := (l.find? fun p => l.all fun q => decide (o.idxOf q ≤ o.idxOf p)).getD 0
theorem idx_inj {o : List Nat} {p q : Nat} (hp : p ∈ o) (hq : q ∈ o) (h : o.idxOf p = o.idxOf q) : p = q := by
  have h1 := List.getElem_idxOf (List.idxOf_lt_length_of_mem hp)
  have h2 := List.getElem_idxOf (List.idxOf_lt_length_of_mem hq)
  rw [← h1, ← h2]
  congr 1
theorem last_eq {o l : List Nat} (hs : ∀ i ∈ l, i ∈ o) {p : Nat} (hp : p ∈ l) (hm : ∀ q ∈ l, o.idxOf q ≤ o.idxOf p) : lastOf o l = p := by
  unfold lastOf
  cases e : l.find? fun p => l.all fun q => decide (o.idxOf q ≤ o.idxOf p) with
  | none =>
    have := List.find?_eq_none.mp e p hp
    exact absurd (List.all_eq_true.mpr fun q hq => decide_eq_true (hm q hq)) this
  | some r =>
    have h1 := List.find?_some e
    have h2 := List.mem_of_find?_eq_some e
    have h3 := of_decide_eq_true (List.all_eq_true.mp h1 p hp)
    exact (idx_inj (hs r h2) (hs p hp) (Nat.le_antisymm (hm r h2) h3))
theorem idx_at {o : List Nat} (hn : o.Nodup) {i p : Nat} (e : o[i]? = some p) : o.idxOf p = i := by
  have hi := len_at e
  rw [List.getElem?_eq_getElem hi] at e
  cases e
  exact hn.idxOf_getElem i hi
theorem hu64 {A : Around} {k : Nat} (hr : Room k A) : A.units + 64 < cLine := by have := hr.un; omega
/-- places so far -/
def PlD (kvs : List (Key × V)) (o : List Nat) : Prop := kvs.length ≤ o.length ∧ ∀ (j p : Nat), o[j]? = some p → valV kvs (Sum.inl (p : Int)) = some (vN j)
theorem putK_len (kvs : List (Key × V)) (k : Key) (v : V) : (putK kvs k v).length ≤ kvs.length + 1 := by
  unfold putK
  split
  · rw [List.length_map]; omega
  · rw [List.length_append]; exact Nat.le_refl _
theorem pld_next {kvs : List (Key × V)} {o : List Nat} (hn : o.Nodup) {i p : Nat} (e : o[i]? = some p) (h : PlD kvs (o.take i)) : PlD (putK kvs (Sum.inl (p : Int)) (vN i)) (o.take (i + 1)) := by
  have hi := len_at e
  refine ⟨?_, fun j q ej => ?_⟩
  · have h1 := putK_len kvs (Sum.inl (p : Int)) (vN i)
    have h2 := h.1
    rw [List.length_take] at h2 ⊢
    omega
  · rw [valV_put]
    rw [take_next e] at ej
    by_cases c : j < i
    · have hl : j < (o.take i).length := by rw [List.length_take]; omega
      rw [List.getElem?_append_left hl] at ej
      rw [if_neg (fun z => not_ahead hn e (by
        have z2 : (q : Int) = (p : Int) := Sum.inl.inj z
        have : q = p := by omega
        rw [← this]
        exact List.mem_of_getElem? ej))]
      exact h.2 j q ej
    · have hl : (o.take i).length = i := by rw [List.length_take]; omega
      rw [List.getElem?_append_right (by omega), hl] at ej
      have hj : j = i := by
        have := len_at ej
        simp at this
        omega
      subst hj
      rw [Nat.sub_self] at ej
      cases ej
      rw [if_pos rfl]
section
variable {P : Program} {w : World} {K : PySem.W.Frag} {mg : Str → Option Value} {base : Heap} {CB CO : Addr}
theorem sc_lasts_in : FnScope ["book", "order", "places", "place", "person", "lot"] ["book", "order"] (defScope s_lasts_in) := ⟨rfl, rfl, rfl, by decide +kernel, rfl, by decide +kernel, by decide +kernel⟩
def sp_lasts_in (CB : Addr) : Sp := fun vs H Q _ => ∃ (b t : Addr) (n : Nat) (ls : List (List Nat)) (o : List Nat), vs = [.ref b, .ref t] ∧ BkAt CB H b n ls ∧ CrT H t o ∧ Order n o ∧ Lots n ls ∧ n ≤ 12 ∧ ls.length ≤ 60 ∧ ∀ H1 l, Same H H1 → CrT H1 l (ls.map (lastOf o)) → Q (.ref l) H1
theorem def_lasts_in (T : Txt K mg CB CO) (S0 : Src K mg "lasts_in" s_lasts_in) : Def P w K mg base "lasts_in" ["book", "order"] 1 (sp_lasts_in CB) := by
  refine S0.mk sc_lasts_in (fun _ _ _ _ _ _ us hl => match us, hl with | [_, _], _ => rfl) (fun vs H Q E h => ?_) (fun f cdv A outer s H vs Q E hr h => ?_)
  · obtain ⟨b, t, n, ls, o, rfl, hb, ht, ho, hL, hn, hl, k⟩ := h
    rfl
  · obtain ⟨b, t, n, ls, o, rfl, hb, ht, ho, hL, hn, hl, k⟩ := h
    refine ⟨_, (pss_cons (ps_set (i := 2) sc_lasts_in.nd rfl (Or.inr rfl) (pe_dc (own := [("place", 3), ("person", 4)]) rfl sc_lasts_in.nd (piEnumS (by rfl) T.enum (pa_cons (pv 1) pa_nil)) (blkOk_by (by kernel_rfl)) (fun _ _ _ _ _ => (pgTup K (n := 2) (by rfl) (pgs_cons (pg_name (i := 3) sc_lasts_in.nd rfl (Or.inl rfl)) (pgs_cons (pg_name (i := 4) sc_lasts_in.nd rfl (Or.inl rfl)) pgs_nil)))) (fun _ _ _ _ _ => pts_nil) (fun _ _ _ _ _ => (pv 4)) (fun _ _ _ _ _ => (pv 3))))
      (pss_one (ps_ret (pe_callTy (crTup K) (by rfl) T.tuple (by decide +kernel) (pa_cons (pe_lc (own := [("lot", 5)]) rfl sc_lasts_in.nd (piT K (peFld K (pv 0))) (blkOk_by (by kernel_rfl)) (fun _ _ _ _ _ => (pg_name (i := 5) sc_lasts_in.nd rfl (Or.inl rfl))) (fun _ _ _ _ _ => pts_nil) (fun _ _ _ _ _ => (pe_ix (ixT K) (pe_callB (crMaxP K (hu64 hr)) (by rfl) T.max (by decide +kernel) (pa_cons (pe_lc (own := [("person", 4)]) rfl sc_lasts_in.nd (piT K (pv 5)) (blkOk_by (by kernel_rfl)) (fun _ _ _ _ _ => (pg_name (i := 4) sc_lasts_in.nd rfl (Or.inl rfl))) (fun _ _ _ _ _ => pts_nil) (fun _ _ _ _ _ => (pe_tup (pa_cons (pe_dget (hu_of hr) (pv 2) (pv 4) (fun _ _ => rfl)) (pa_cons (pv 4) pa_nil))))) pa_nil)) pe_int (fun _ _ => rfl)))) pa_nil))))), ?_⟩
    have lo := ho.len
    have lm : (o.map vN).length = o.length := List.length_map _
    obtain ⟨dx, tl, ml, hb1, ⟨ts, hb2, hb4⟩, hb3⟩ := id hb
    have lt := paired_len hb4
    refine ⟨_, rfl, t, o.map vN, .tup (o.map vN), rfl, .inr rfl, ht, fun J wk D hD => ?_⟩
    refine dc_it wk (fun i H' => Same H H' ∧ ∃ kvs, H' D = some (.dK kvs) ∧ PlD kvs (o.take i)) ⟨same_new hD, [], upd_same, Nat.zero_le _, fun j p e => by simp at e⟩ (fun i H' _ z => z.1 _ _ ht) ?_ ?_
    · rintro i x H0 H' hi ⟨s0, kvs, e0, h0⟩ ⟨T0, x1, y1, rfl, hT, rfl, ex, ey⟩
      cases ex
      obtain ⟨p, ep, rfl⟩ := map_at ey
      have s1 : Same H0 (upd H0 T0 (.tup [.int (i : Nat), vN p])) := same_new hT
      have h1 := h0.1
      rw [List.length_take] at h1
      refine ⟨T0, _, rfl, SqT.of upd_same, rfl, _, _, rfl, _, _, rfl, rfl, rfl, tyes ⟨_, rfl, _, rfl, kvs, Sum.inl (p : Int), rfl, s1 _ _ e0, line1 (by omega), same_at (s0.trans s1) hD, _, upd_same, pld_next ho.nd ep h0⟩⟩
    rintro H1 ⟨s1, kvs, e1, h1⟩
    rw [lm, List.take_length] at h1
    refine ⟨_, rfl, b, CB, dx, _, _, rfl, s1 _ _ hb1, T.cB, T.bL, bkF_l n tl ml, tl, rfl, ⟨_, SqT.of (s1 _ _ hb2)⟩, fun D2 hD2 => ?_⟩
    refine lc_same walk_tup (fun _ v (p : Nat) => v = vN p) (fun i => ls[i]?.bind fun l => some (lastOf o l)) hD2 (fun H2 s => SqT.of (s _ _ (s1 _ _ hb2))) (fun _ _ _ _ _ e => e) (by omega) ?_ ?_
    · rintro i y H0 H2 K1 K2 hi s2 ⟨rfl, e⟩ k1 k2
      obtain ⟨l, el, a, rfl, ha⟩ := paired_at hb4 e
      have hm := List.mem_of_getElem? el
      have hc := hL.crowd l hm
      have hlen := crowd_len hc
      have h2l := hL.two l hm
      have hin : ∀ i ∈ l, i ∈ o := fun i hi => ho.all (hc.lt i hi)
      have ha2 : CrT H2 a l := (ha.mono (ts_same s1)).mono (ts_same s2)
      refine ⟨rfl, tyes ?_⟩
      refine ⟨_, rfl, a, rfl, ⟨_, SqT.of ha2⟩, fun D3 hD3 => ?_⟩
      have ll : (l.map vN).length = l.length := List.length_map _
      refine lc_same walk_tup PairAt (fun i => l[i]?.bind fun q => some ((o.idxOf q : Int), (q : Int))) hD3 (fun H2 s => SqT.of (s _ _ ha2)) (fun _ _ _ _ t ⟨b, e, h⟩ => ⟨b, e, t _ _ h⟩) (by omega) ?_ ?_
      · rintro j y H3 H4 K3 K4 hj s3 ⟨rfl, e5⟩ k3 k4
        obtain ⟨q, eq, rfl⟩ := map_at e5
        have hq := hin q (List.mem_of_getElem? eq)
        have hix : o[o.idxOf q]? = some q := by
          rw [List.getElem?_eq_getElem (List.idxOf_lt_length_of_mem hq), List.getElem_idxOf]
        refine ⟨rfl, tyes ⟨_, rfl, _, rfl, D, _, rfl, (h1.2 _ q hix) ▸ DGet.k (s3 _ _ (s2 _ _ e1)), _, rfl, by show 2 ≤ sizeLine; decide, fun p' hp' => ?_⟩⟩
        exact k3 _ _ _ (same_new hp') (by rw [eq]; rfl) ⟨p', rfl, upd_same⟩
      · intro H3 ys s3 e5 p5
        rw [ll, fm_map, fm_some] at p5
        refine ⟨D3, ys, _, rfl, SqL.of e5, p5, fun z => ?_, fun bb p hp hbb hmx => ?_⟩
        · have z2 := List.map_eq_nil_iff.mp z
          rw [z2] at h2l
          exact absurd h2l (by decide)
        · obtain ⟨q, hq, rfl⟩ := List.mem_map.mp hp
          have hlast : lastOf o l = q := last_eq hin hq fun r hr => by
            have h6 := hmx _ (List.mem_map.mpr ⟨r, hr, rfl⟩)
            exact Int.ofNat_le.mp h6
          refine ⟨bb, _, 1, _, rfl, rfl, SqT.of hbb, at_of (j := 1) rfl rfl, k1 _ _ (lastOf o l) s3 (by rw [el]; rfl) ?_⟩
          rw [hlast]
    · intro H2 ys s2 e p
      rw [lt, fm_map, fm_some] at p
      rw [paired_val p] at e
      exact ⟨D2, _, rfl, .inl ⟨SqL.of e, fun l hl2 => k _ _ ((s1.trans s2).trans (same_new hl2)) upd_same⟩⟩
end
end K43
/-! ## K5Math -/
set_option Elab.async false
set_option linter.all false
set_option maxRecDepth 100000
set_option maxHeartbeats 400000
/-! K5Math: who is let in, by bars. -/
namespace K43
open PySem
theorem argmax (f : Nat → Nat) : ∀ l : List Nat, l ≠ [] → ∃ p ∈ l, ∀ q ∈ l, f q ≤ f p
  | [], h => absurd rfl h
  | [a], _ => ⟨a, List.mem_cons_self, fun q hq => by
      have : q = a := by simpa using hq
      rw [this]; exact Nat.le_refl _⟩
  | a :: b :: l, _ => by
    obtain ⟨p, hp, hm⟩ := argmax f (b :: l) (by simp)
    by_cases c : f a ≤ f p
    · refine ⟨p, List.mem_cons_of_mem _ hp, fun q hq => ?_⟩
      rcases List.mem_cons.mp hq with e | e
      · rw [e]; exact c
      · exact hm q e
    · refine ⟨a, List.mem_cons_self, fun q hq => ?_⟩
      rcases List.mem_cons.mp hq with e | e
      · rw [e]; exact Nat.le_refl _
      · have := hm q e; omega
theorem last_spec {o l : List Nat} (hs : ∀ i ∈ l, i ∈ o) (h0 : l ≠ []) : lastOf o l ∈ l ∧ ∀ q ∈ l, o.idxOf q ≤ o.idxOf (lastOf o l) := by
  obtain ⟨p, hp, hm⟩ := argmax (fun q => o.idxOf q) l h0
  have e := last_eq hs hp hm
  rw [e]
  exact ⟨hp, hm⟩
def barsOf (ls : List (List Nat)) (o : List Nat) (p : Nat) : List Nat := (ls.filter fun l => lastOf o l == p).map fun l => mk l ^^^ 2 ^ p
def inS (B : Nat → List Nat) (m f p : Nat) : Nat := if (m.testBit p && !(B p).any (hld f)) = true then f ||| 2 ^ p else f
def inM (B : Nat → List Nat) (m : Nat) (o : List Nat) : Nat := o.foldl (inS B m) 0
theorem bar_iff {n : Nat} {ls : List (List Nat)} {pre r inn : List Nat} {p f : Nat} (ho : Order n (pre ++ p :: r)) (hL : Lots n ls) (hi : ∀ i ∈ inn, i ∈ pre) (hf : ∀ i, f.testBit i = true ↔ i ∈ inn) : (barsOf ls (pre ++ p :: r) p).any (hld f) = barred ls inn p := by
  have hp0 : p ∉ pre := fun h => by
    have := List.nodup_append.mp ho.nd
    exact this.2.2 p h p List.mem_cons_self rfl
  have hidx : (pre ++ p :: r).idxOf p = pre.length := by
    rw [List.idxOf_append, if_neg hp0, List.idxOf_cons_self]; omega
  have key : (barsOf ls (pre ++ p :: r) p).any (hld f) = true ↔ barred ls inn p = true := by
    unfold barsOf barred
    rw [List.any_map, List.any_eq_true, List.any_eq_true]
    constructor
    · rintro ⟨l, hl, h⟩
      obtain ⟨h1, h2⟩ := List.mem_filter.mp hl
      have h3 : lastOf (pre ++ p :: r) l = p := by simpa using h2
      have hin : ∀ i ∈ l, i ∈ pre ++ p :: r := fun i hi => ho.all ((hL.crowd l h1).lt i hi)
      have hne : l ≠ [] := fun z => by
        have := hL.two l h1
        rw [z] at this
        exact absurd this (by decide)
      have hpl := (last_spec hin hne).1
      rw [h3] at hpl
      have h4 := (hld_flip (hL.crowd l h1) hpl hf).mp h
      refine ⟨l, h1, ?_⟩
      rw [Bool.and_eq_true]
      refine ⟨List.contains_iff_mem.mpr hpl, List.all_eq_true.mpr fun k hk => ?_⟩
      rw [Bool.or_eq_true]
      by_cases c : k = p
      · exact .inr (by rw [c]; exact beq_self_eq_true p)
      · exact .inl (List.contains_iff_mem.mpr (h4 k hk c))
    · rintro ⟨l, h1, h⟩
      rw [Bool.and_eq_true] at h
      have hpl := List.contains_iff_mem.mp h.1
      have hall := List.all_eq_true.mp h.2
      have hin : ∀ i ∈ l, i ∈ pre ++ p :: r := fun i hi => ho.all ((hL.crowd l h1).lt i hi)
      have h4 : ∀ k ∈ l, k ≠ p → k ∈ inn := fun k hk c => by
        have := hall k hk
        rw [Bool.or_eq_true] at this
        rcases this with z | z
        · exact List.contains_iff_mem.mp z
        · exact absurd (by simpa using z) c
      have h3 : lastOf (pre ++ p :: r) l = p := last_eq hin hpl fun k hk => by
        by_cases c : k = p
        · rw [c]; exact Nat.le_refl _
        · have h5 := hi k (h4 k hk c)
          rw [hidx, List.idxOf_append, if_pos h5]
          exact Nat.le_of_lt (List.idxOf_lt_length_of_mem h5)
      exact ⟨l, List.mem_filter.mpr ⟨h1, by rw [h3]; exact beq_self_eq_true p⟩, (hld_flip (hL.crowd l h1) hpl hf).mpr h4⟩
  cases a : (barsOf ls (pre ++ p :: r) p).any (hld f) with
  | true => exact (key.mp a).symm
  | false =>
    cases b : barred ls inn p with
    | false => rfl
    | true => rw [key.mpr b] at a; cases a
theorem in_sim {n : Nat} {ls : List (List Nat)} {c : List Nat} {m : Nat} (hL : Lots n ls) (hm : ∀ i, m.testBit i = true ↔ i ∈ c) :
    ∀ (r pre inn : List Nat) (f : Nat), Order n (pre ++ r) → (∀ i ∈ inn, i ∈ pre) → (∀ i, f.testBit i = true ↔ i ∈ inn) → ∀ i, (r.foldl (inS (barsOf ls (pre ++ r)) m) f).testBit i = true ↔ i ∈ inside ls c r inn
  | [], pre, inn, f, _, _, hf => hf
  | p :: r, pre, inn, f, ho, hi, hf => by
    have e1 : pre ++ p :: r = (pre ++ [p]) ++ r := by simp
    have hmc : m.testBit p = c.contains p := by
      cases a : m.testBit p with
      | true => exact (List.contains_iff_mem.mpr ((hm p).mp a)).symm
      | false =>
        cases b : c.contains p with
        | false => rfl
        | true => rw [(hm p).mpr (List.contains_iff_mem.mp b)] at a; cases a
    have hb := bar_iff ho hL hi hf
    have e2 : (p :: r).foldl (inS (barsOf ls (pre ++ p :: r)) m) f = r.foldl (inS (barsOf ls ((pre ++ [p]) ++ r)) m) (if (c.contains p && !barred ls inn p) = true then f ||| 2 ^ p else f) := by
      rw [List.foldl_cons, ← e1]
      unfold inS
      rw [hb, hmc]
    rw [e2]
    show ∀ i, _ ↔ i ∈ inside ls c r (if c.contains p && !barred ls inn p then inn ++ [p] else inn)
    by_cases z : (c.contains p && !barred ls inn p) = true
    · rw [if_pos z, if_pos z]
      refine in_sim hL hm r (pre ++ [p]) (inn ++ [p]) (f ||| 2 ^ p) (by rw [← e1]; exact ho) (fun i hi2 => ?_) (place_mask hf)
      rcases List.mem_append.mp hi2 with y | y
      · exact List.mem_append_left _ (hi i y)
      · exact List.mem_append_right _ y
    · rw [if_neg z, if_neg z]
      exact in_sim hL hm r (pre ++ [p]) inn f (by rw [← e1]; exact ho) (fun i hi2 => List.mem_append_left _ (hi i hi2)) hf
/-- by bars: those let in from a crowd are those seen -/
theorem in_fits {n : Nat} {ls : List (List Nat)} {o c s : List Nat} (ho : Order n o) (hL : Lots n ls) (hc : Crowd n c) (hs : Crowd n s) : (inM (barsOf ls o) (mk c) o == mk s) = (letin n ls o c == s) := by
  have h1 : ∀ i, (inM (barsOf ls o) (mk c) o).testBit i = true ↔ i ∈ inside ls c o [] := by
    have h0 := in_sim hL (mk_mem hc) o [] [] 0 ho (fun i h => by cases h) (fun i => by rw [Nat.zero_testBit]; exact ⟨fun h => (by cases h), fun h => (by cases h)⟩)
    rw [List.nil_append] at h0
    exact h0
  have key : inM (barsOf ls o) (mk c) o = mk s ↔ letin n ls o c = s := by
    rw [letin_iff ho hs]
    generalize inM (barsOf ls o) (mk c) o = M at h1
    generalize hK : mk s = S
    have h3 : ∀ i, S.testBit i = true ↔ i ∈ s := by rw [← hK]; exact mk_mem hs
    constructor
    · intro e i
      rw [← h1 i, e]
      exact h3 i
    · intro h
      refine Nat.eq_of_testBit_eq fun i => ?_
      have h2 := (h1 i).trans ((h i).trans (h3 i).symm)
      cases a : M.testBit i with
      | true => exact (h2.mp a).symm
      | false =>
        cases b : S.testBit i with
        | false => rfl
        | true => rw [h2.mpr b] at a; cases a
  by_cases z : letin n ls o c = s
  · rw [beq_iff_eq.mpr z, beq_iff_eq.mpr (key.mpr z)]
  · rw [beq_eq_false_iff_ne.mpr z, beq_eq_false_iff_ne.mpr (fun y => z (key.mp y))]
end K43
/-! ## B3 -/
set_option Elab.async false
set_option linter.all false
set_option maxRecDepth 100000
set_option maxHeartbeats 1000000
/-! B3: offices, lists that fit. -/
namespace K43
open PySem PySem.Spec PyProof.Rows L2
def offF (b t kl d : Addr) : List (Str × V) := putF "bars" (.ref d) (putF "kept_lasts" (.ref kl) (putF "order" (.ref t) (putF "book" (.ref b) [])))
theorem offF_b (b t kl d : Addr) : (offF b t kl d).lookup ("book" : Str) = some (.ref b) := by
  unfold offF
  rw [lookup_putF, if_neg (by decide +kernel), lookup_putF, if_neg (by decide +kernel), lookup_putF, if_neg (by decide +kernel), lookup_putF, if_pos rfl]
theorem offF_o (b t kl d : Addr) : (offF b t kl d).lookup ("order" : Str) = some (.ref t) := by
  unfold offF
  rw [lookup_putF, if_neg (by decide +kernel), lookup_putF, if_neg (by decide +kernel), lookup_putF, if_pos rfl]
theorem offF_k (b t kl d : Addr) : (offF b t kl d).lookup ("kept_lasts" : Str) = some (.ref kl) := by
  unfold offF
  rw [lookup_putF, if_neg (by decide +kernel), lookup_putF, if_pos rfl]
theorem offF_r (b t kl d : Addr) : (offF b t kl d).lookup ("bars" : Str) = some (.ref d) := by
  unfold offF
  rw [lookup_putF, if_pos rfl]
/-- one person's bars -/
def BaAt (H : Hp) (l : Addr) (ws : List Nat) : Prop := ∃ vs, H l = some (.lst vs) ∧ Paired (fun v m => ∃ t k, v = V.ref t ∧ H t = some (.tup [vN m, k])) vs ws
theorem BaAt.same {H H' : Hp} {l : Addr} {ws : List Nat} (s : Same H H') (h : BaAt H l ws) : BaAt H' l ws := by
  obtain ⟨vs, h1, h2⟩ := h
  exact ⟨vs, s _ _ h1, Paired.mapP h2 fun v m ⟨t, k, e1, e2⟩ => ⟨t, k, e1, s _ _ e2⟩⟩
def OffAt (CB CO : Addr) (H : Hp) (x : Addr) (n : Nat) (ls : List (List Nat)) (o : List Nat) : Prop := ∃ (dx b t kl d : Addr) (kvs : List (Key × V)) (A : List Addr), H x = some (.ins CO dx (offF b t kl d)) ∧ BkAt CB H b n ls ∧ CrT H t o ∧ H d = some (.dK kvs) ∧ A.length = o.length ∧
  ∀ (j p : Nat) (a : Addr), o[j]? = some p → A[j]? = some a → valV kvs (Sum.inl (p : Int)) = some (.ref a) ∧ BaAt H a (barsOf ls o p)
theorem OffAt.same {CB CO : Addr} {H H' : Hp} {x : Addr} {n : Nat} {ls : List (List Nat)} {o : List Nat} (s : Same H H') (h : OffAt CB CO H x n ls o) : OffAt CB CO H' x n ls o := by
  obtain ⟨dx, b, t, kl, d, kvs, A, h1, h2, h3, h4, h5, h6⟩ := h
  exact ⟨dx, b, t, kl, d, kvs, A, s _ _ h1, h2.same s, s _ _ h3, s _ _ h4, h5, fun j p a e1 e2 => ⟨(h6 j p a e1 e2).1, (h6 j p a e1 e2).2.same s⟩⟩
theorem ts_kx {H H' : Hp} {x : Addr} {C dx : Addr} {fs : List (Str × V)} (hx : H x = some (.ins C dx fs)) (k : Kx (fun b => b = x) H H') : TS H H' := fun b xs e => k b _ (fun z => by rw [z, hx] at e; cases e) e
theorem BkAt.kx {CB C : Addr} {H H' : Hp} {x dx b : Addr} {n : Nat} {ls : List (List Nat)} (hx : H x = some (.ins C dx [])) (k : Kx (fun b => b = x) H H') (h : BkAt CB H b n ls) : BkAt CB H' b n ls := by
  obtain ⟨db, t, ml, h1, h2, h3⟩ := h
  refine ⟨db, t, ml, k _ _ (fun z => ?_) h1, h2.mono (ts_kx hx k), k _ _ (fun z => by rw [z, hx] at h3; cases h3) h3⟩
  rw [z, hx] at h1
  cases h1
theorem barsOf_next {ls : List (List Nat)} {o l : List Nat} {i : Nat} (e : ls[i]? = some l) (p : Nat) : barsOf (ls.take (i + 1)) o p = barsOf (ls.take i) o p ++ (if lastOf o l = p then [mk l ^^^ 2 ^ p] else []) := by
  unfold barsOf
  rw [take_next e, List.filter_append, List.map_append]
  congr 1
  by_cases c : lastOf o l = p
  · rw [if_pos c, List.filter_cons, if_pos (beq_iff_eq.mpr c)] <;> rfl
  · rw [if_neg c, List.filter_cons, if_neg (fun z => c (beq_iff_eq.mp z))] <;> rfl
theorem barsOf_len (ls : List (List Nat)) (o : List Nat) (p : Nat) : (barsOf ls o p).length ≤ ls.length := by
  unfold barsOf
  rw [List.length_map]
  exact List.length_filter_le _ _
theorem ba_other {H2 : Hp} {lq t a : Addr} {u : HO} {vs ws : List V} {c : List Nat} (ht : H2 t = none) (hv : H2 lq = some (.lst vs)) (hne : a ≠ lq) (h : BaAt H2 a c) : BaAt (upd (upd H2 t u) lq (.lst ws)) a c := by
  have keep : ∀ b o, b ≠ lq → H2 b = some o → upd (upd H2 t u) lq (.lst ws) b = some o := fun b o n e => by
    rw [upd_ne n]; exact same_new ht _ _ e
  obtain ⟨us, h1, h2⟩ := h
  exact ⟨us, keep _ _ hne h1, Paired.mapP h2 fun v m ⟨t2, k, e1, e2⟩ => ⟨t2, k, e1, keep _ _ (fun z => by rw [z, hv] at e2; cases e2) e2⟩⟩
theorem ba_this {H2 : Hp} {lq t : Addr} {vs : List V} {c : List Nat} {m : Nat} {k : V} (ht : H2 t = none) (hv : H2 lq = some (.lst vs)) (h : Paired (fun v m => ∃ t k, v = V.ref t ∧ H2 t = some (.tup [vN m, k])) vs c) : BaAt (upd (upd H2 t (.tup [vN m, k])) lq (.lst (vs ++ [.ref t]))) lq (c ++ [m]) := by
  have keep : ∀ b o, b ≠ lq → H2 b = some o → upd (upd H2 t (.tup [vN m, k])) lq (.lst (vs ++ [.ref t])) b = some o := fun b o n e => by
    rw [upd_ne n]; exact same_new ht _ _ e
  have nt : t ≠ lq := fun z => by rw [z] at ht; rw [hv] at ht; cases ht
  refine ⟨vs ++ [.ref t], upd_same, paired_app (Paired.mapP h fun v m ⟨t2, k, e1, e2⟩ => ⟨t2, k, e1, keep _ _ (fun z => by rw [z, hv] at e2; cases e2) e2⟩) ⟨t, k, rfl, by rw [upd_ne nt, upd_same]⟩⟩
theorem dget_at {H : Hp} {D : Addr} {kvs : List (Key × V)} {p : Nat} {v : V} (e : H D = some (.dK kvs)) (h : valV kvs (Sum.inl (p : Int)) = some v) : DGet H D (vN p) (some v) := by
  have := DGet.k (k := Sum.inl (p : Int)) e
  rw [h] at this
  exact this
section
variable {P : Program} {w : World} {K : PySem.W.Frag} {mg : Str → Option Value} {base : Heap} {CB CO : Addr}
theorem sc_Office_init : FnScope ["self", "book", "order", "number", "last", "person"] ["self", "book", "order"] (defScope s_Office_init) := ⟨rfl, rfl, rfl, by decide +kernel, rfl, by decide +kernel, by decide +kernel⟩
def sp_Office_init (CB CO : Addr) : Sp := fun vs H Q _ => ∃ (x dx b t : Addr) (n : Nat) (ls : List (List Nat)) (o : List Nat), vs = [.ref x, .ref b, .ref t] ∧ H x = some (.ins CO dx []) ∧ BkAt CB H b n ls ∧ CrT H t o ∧ Order n o ∧ Lots n ls ∧ n ≤ 12 ∧ ls.length ≤ 60 ∧ ∀ H1, Kx (fun b => b = x) H H1 → OffAt CB CO H1 x n ls o → Q .non H1
theorem def_Office_init (T : Txt K mg CB CO) (D_is_order : Def P w K mg base "is_order" ["people", "thing"] 5 sp_is_order) (D_lasts_in : Def P w K mg base "lasts_in" ["book", "order"] 1 (sp_lasts_in CB)) (S0 : SrcM K "__init__" "Office.__init__" s_Office_init (fun f => Mk K CO f)) : DefM P w K mg base (fun f => Mk K CO f) ["self", "book", "order"] 6 (sp_Office_init CB CO) := by
  have D_is_order := D_is_order.up (show 5 ≤ 5 by decide)
  have D_lasts_in := D_lasts_in.up (show 1 ≤ 5 by decide)
  refine S0.mk sc_Office_init (fun _ _ _ _ _ _ us hl => match us, hl with | [_, _, _], _ => rfl) (fun vs H Q E h => ?_) (fun f cdv A outer s H vs Q E hr h => ?_)
  · obtain ⟨x, dx, b, t, n, ls, o, rfl, hx, hb, ht, ho, hL, hn, hl, k⟩ := h
    rfl
  · obtain ⟨x, dx, b, t, n, ls, o, rfl, hx, hb, ht, ho, hL, hn, hl, k⟩ := h
    refine ⟨_, (pss_cons (ps_if (pt_not (pt_val (pe_callB (crIsi K) (by rfl) T.isi (by decide +kernel) (pa_cons (pv 1) (pa_cons (pe_glob (v := .ref CB) rfl T.gB rfl) pa_nil))))) (pss_one ps_never) pss_nil)
      (pss_cons (ps_if (pt_not (pt_val (pe_def D_is_order hr rfl (pa_cons (peFld K (pv 1)) (pa_cons (pv 2) pa_nil))))) (pss_one ps_never) pss_nil)
      (pss_cons (psFld K (pv 0) (pv 1))
      (pss_cons (psFld K (pv 0) (pv 2))
      (pss_cons (psFld K (pv 0) (pe_def D_lasts_in hr rfl (pa_cons (pv 1) (pa_cons (pv 2) pa_nil))))
      (pss_cons (psFld K (pv 0) (pe_dc (own := [("person", 5)]) rfl sc_Office_init.nd (piT K (pv 2)) (blkOk_by (by kernel_rfl)) (fun _ _ _ _ _ => (pg_name (i := 5) sc_Office_init.nd rfl (Or.inl rfl))) (fun _ _ _ _ _ => pts_nil) (fun _ _ _ _ _ => (pv 5)) (fun _ _ _ _ _ => (pe_lst pa_nil))))
      (pss_one (ps_for PassesOwn.never rfl (piEnumS (by rfl) T.enum (pa_cons (peFld K (pv 0)) pa_nil)) (pgTup K (n := 2) (by rfl) (pgs_cons (pg_name (i := 3) sc_Office_init.nd rfl (Or.inl rfl)) (pgs_cons (pg_name (i := 4) sc_Office_init.nd rfl (Or.inl rfl)) pgs_nil))) (pss_one (ps_expr (peBm K PySem.F.plainAttrs_list PySem.F.slot_list_append PySem.F.type_list_append mt_append (pe_dget (hu_of hr) (peFld K (pv 0)) (pv 4) (fun _ _ => rfl)) (pa_cons (pe_tup (pa_cons (pe_op op_xor (pe_ix (ixL K) (peFld K (pv 1)) (pv 3) (fun _ _ => rfl)) (pe_op op_oneShl pe_int (pv 4))) (pa_cons (pv 3) pa_nil))) pa_nil)))))))))))), ?_⟩
    have lo := ho.len
    have lm : (o.map vN).length = o.length := List.length_map _
    obtain ⟨db, tl, ml, hb1, hb2, hb3⟩ := id hb
    refine ⟨_, rfl, _, _, _, _, true, rfl, .own _, .base (.ins hb1 T.cB T.i1 T.i2 T.i3 T.i4), T.i5, true, rfl, iteF ?_⟩
    refine ⟨_, rfl, b, CB, db, _, _, rfl, hb1, T.cB, T.bP, bkF_p n tl ml, _, rfl, n, t, o, rfl, ht, ho, by omega, fun H1 s1 => ⟨true, rfl, iteF ?_⟩⟩
    have l1 := putF_len "book" (.ref b) []
    have l2 := putF_len "order" (.ref t) (putF "book" (.ref b) [])
    refine ⟨_, rfl, _, rfl, x, CO, dx, _, rfl, s1 _ _ hx, T.cO, T.oB, by decide, ?_⟩
    refine ⟨_, rfl, _, rfl, x, CO, dx, _, rfl, upd_same, T.cO, T.oO, Nat.lt_of_le_of_lt l1 (by decide), ?_⟩
    generalize hF1 : putF "order" (.ref t) (putF "book" (.ref b) []) = F1
    rw [hF1] at l2
    generalize hH2 : upd (upd H1 x (.ins CO dx (putF "book" (.ref b) []))) x (.ins CO dx F1) = H2
    have e2 : H2 x = some (.ins CO dx F1) := by rw [← hH2, upd_same]
    have k2 : Kx (fun b => b = x) H H2 := (Kx.of s1).trans fun c u hc e => by rw [← hH2, upd_ne hc, upd_ne hc]; exact e
    have b2 := hb.kx hx k2
    have t2 : CrT H2 t o := ts_kx hx k2 _ _ ht
    refine ⟨_, rfl, _, rfl, b, t, n, ls, o, rfl, b2, t2, ho, hL, hn, hl, fun H3 kl s3 hkl => ?_⟩
    refine ⟨_, rfl, x, CO, dx, _, rfl, s3 _ _ e2, T.cO, T.oK, Nat.lt_of_le_of_lt l2 (Nat.lt_of_le_of_lt (Nat.succ_le_succ l1) (by decide)), ?_⟩
    have l3 := putF_len "kept_lasts" (.ref kl) F1
    generalize hF2 : putF "kept_lasts" (.ref kl) F1 = F2
    rw [hF2] at l3
    generalize hH4 : upd H3 x (.ins CO dx F2) = H4
    have e4 : H4 x = some (.ins CO dx F2) := by rw [← hH4, upd_same]
    have k34 : Kx (fun b => b = x) H3 H4 := fun c u hc e => by rw [← hH4, upd_ne hc]; exact e
    have k4 : Kx (fun b => b = x) H H4 := (k2.trans (Kx.of s3)).trans k34
    have t4 : CrT H4 t o := ts_kx hx k4 _ _ ht
    have hk4 : CrT H4 kl (ls.map (lastOf o)) := ts_kx (s3 _ _ e2) k34 _ _ hkl
    have fresh : ∀ {H5 : Hp} {a : Addr}, Same H4 H5 → H5 a = none → H a = none := fun {H5 a} s e => by
      cases q : H a with
      | none => rfl
      | some u =>
        by_cases c : a = x
        · rw [c, s _ _ e4] at e; cases e
        · rw [s _ _ (k4 _ _ c q)] at e; cases e
    refine ⟨_, rfl, t, rfl, ⟨_, SqT.of t4⟩, fun D hD => ?_⟩
    refine dc_tup (fun i H' => ∃ (kvs : List (Key × V)) (A : List Addr), Same H4 H' ∧ H' D = some (.dK kvs) ∧ kvs.length ≤ i ∧ A.length = i ∧ A.Nodup ∧ (∀ a ∈ A, H4 a = none ∧ H' a = some (.lst [])) ∧ ∀ (j p : Nat) (a : Addr), (o.take i)[j]? = some p → A[j]? = some a → valV kvs (Sum.inl (p : Int)) = some (.ref a)) ⟨[], [], same_new hD, upd_same, Nat.le_refl _, rfl, List.nodup_nil, fun _ h => (by cases h), fun j p a e => by simp at e⟩ (fun i H' _ ⟨_, _, z, _⟩ => SqT.of (z _ _ t4)) ?_ ?_
    · rintro i y H' e ⟨kvs, A, s5, h1, h2, h3, h4, h5, h6⟩
      obtain ⟨p, ep, rfl⟩ := map_at e
      have hi := len_at ep
      refine ⟨rfl, tyes ⟨_, rfl, Nat.zero_le _, fun q hq => ?_⟩⟩
      have nq : D ≠ q := ne_of_none h1 hq
      have nqA : q ∉ A := fun z => by
        rw [(h5 q z).2] at hq; cases hq
      have nDA : D ∉ A := fun z => by
        rw [(h5 D z).2] at h1; cases h1
      have pl := putK_len kvs (Sum.inl (p : Int)) (.ref q)
      refine ⟨kvs, Sum.inl (p : Int), rfl, by rw [upd_ne nq]; exact h1, line1 (by omega), putK kvs (Sum.inl (p : Int)) (.ref q), A ++ [q], same_at (s5.trans (same_new hq)) hD, upd_same, by omega, by rw [List.length_append, h3]; rfl, ?_, ?_, ?_⟩
      · rw [List.nodup_append]
        refine ⟨h4, by simp, fun a ha c hc => ?_⟩
        have : c = q := by simpa using hc
        rw [this]
        exact fun z => nqA (by rw [← z]; exact ha)
      · intro a ha
        rcases List.mem_append.mp ha with z | z
        · have n1 : a ≠ D := fun y => nDA (by rw [← y]; exact z)
          refine ⟨(h5 a z).1, ?_⟩
          rw [upd_ne n1, upd_ne (ne_of_none (h5 a z).2 hq)]
          exact (h5 a z).2
        · have : a = q := by simpa using z
          subst this
          exact ⟨s5.free hq, by rw [upd_ne (Ne.symm nq), upd_same]⟩
      · intro j r a ej ea
        rw [valV_put]
        rw [take_next ep] at ej
        have hl1 : (o.take i).length = i := by rw [List.length_take]; omega
        by_cases c : j < i
        · rw [List.getElem?_append_left (by omega)] at ej ea
          rw [if_neg (fun z => not_ahead ho.nd ep (by
            have z2 : (r : Int) = (p : Int) := Sum.inl.inj z
            have : r = p := by omega
            rw [← this]
            exact List.mem_of_getElem? ej))]
          exact h6 j r a ej ea
        · rw [List.getElem?_append_right (by omega), hl1] at ej
          rw [List.getElem?_append_right (by omega), h3] at ea
          have hj : j = i := by
            have := len_at ej
            simp at this
            omega
          subst hj
          rw [Nat.sub_self] at ej ea
          cases ej
          cases ea
          rw [if_pos rfl]
    rintro H5 ⟨kvs, A, s5, h1, h2, h3, h4, h5, h6⟩
    rw [lm, List.take_length] at h6
    rw [lm] at h2 h3
    refine ⟨_, rfl, x, CO, dx, _, rfl, s5 _ _ e4, T.cO, T.oR, Nat.lt_of_le_of_lt l3 (Nat.lt_of_le_of_lt (Nat.succ_le_succ (Nat.le_trans l2 (Nat.succ_le_succ l1))) (by decide)), ?_⟩
    have hF3 : putF "bars" (.ref D) F2 = offF b t kl D := by rw [← hF2, ← hF1] <;> rfl
    rw [hF3]
    generalize hH6 : upd H5 x (.ins CO dx (offF b t kl D)) = H6
    have e6 : H6 x = some (.ins CO dx (offF b t kl D)) := by rw [← hH6, upd_same]
    have k56 : Kx (fun b => b = x) H5 H6 := fun c u hc e => by rw [← hH6, upd_ne hc]; exact e
    have k6 : Kx (fun b => b = x) H H6 := (k4.trans (Kx.of s5)).trans k56
    have hDx : D ≠ x := fun z => by rw [z, e4] at hD; cases hD
    have hAx : ∀ a ∈ A, a ≠ x := fun a ha z => by
      have := (h5 a ha).1
      rw [z, e4] at this; cases this
    have hAn : ∀ a ∈ A, H a = none := fun a ha => fresh (Same.refl _) (h5 a ha).1
    refine ⟨_, rfl, x, CO, dx, _, _, rfl, e6, T.cO, T.oK, offF_k b t kl D, kl, (ls.map (lastOf o)).map vN, .tup ((ls.map (lastOf o)).map vN), rfl, .inr rfl, ts_kx (s5 _ _ e4) k56 _ _ (s5 _ _ hk4), fun J wk => ?_⟩
    have hkl6 : CrT H6 kl (ls.map (lastOf o)) := ts_kx (s5 _ _ e4) k56 _ _ (s5 _ _ hk4)
    refine for_it wk (fun i σ H' => (∃ a3 a4 a5, σ = [some (.ref x), some (.ref b), some (.ref t), a3, a4, a5]) ∧ Kx (fun b => b = x) H H' ∧ H' x = some (.ins CO dx (offF b t kl D)) ∧ H' D = some (.dK kvs) ∧ CrT H' kl (ls.map (lastOf o)) ∧ ∀ (j p : Nat) (a : Addr), o[j]? = some p → A[j]? = some a → BaAt H' a (barsOf (ls.take i) o p))
      ⟨⟨_, _, _, rfl⟩, k6, e6, k56 _ _ hDx h1, hkl6, fun j p a e1 e2 => ⟨[], k56 _ _ (hAx a (List.mem_of_getElem? e2)) (h5 a (List.mem_of_getElem? e2)).2, .nil⟩⟩ (fun i σ H' _ z => z.2.2.2.2.1) ?_ ?_
    · rintro i y σ H0 H' hi ⟨⟨a3, a4, a5, rfl⟩, k7, e7, d7, kl7, q7⟩ ⟨T0, x1, y1, rfl, hT, rfl, ex, ey⟩
      cases ex
      obtain ⟨q, eq, rfl⟩ := map_at ey
      rw [List.getElem?_map] at eq
      cases el : ls[i]? with
      | none => rw [el] at eq; cases eq
      | some l =>
      rw [el] at eq
      have hq : lastOf o l = q := Option.some.inj eq
      have hm := List.mem_of_getElem? el
      have hc := hL.crowd l hm
      have h2l := hL.two l hm
      have hin : ∀ i ∈ l, i ∈ o := fun i hi => ho.all (hc.lt i hi)
      have hlast := (last_spec hin (fun z => by rw [z] at h2l; exact absurd h2l (by decide))).1
      rw [hq] at hlast
      have hqo := hin q hlast
      have hql := hc.lt q hlast
      have hjx : o[o.idxOf q]? = some q := by
        rw [List.getElem?_eq_getElem (List.idxOf_lt_length_of_mem hqo), List.getElem_idxOf]
      obtain ⟨lq, hlq⟩ : ∃ lq, A[o.idxOf q]? = some lq := ⟨_, List.getElem?_eq_getElem (by rw [h3]; exact List.idxOf_lt_length_of_mem hqo)⟩
      have s8 : Same H0 (upd H0 T0 (.tup [.int (i : Nat), vN q])) := same_new hT
      obtain ⟨us, hu1, hu2⟩ := q7 _ _ _ hjx hlq
      have hus := paired_len hu2
      have k8 := k7.trans (Kx.of s8)
      obtain ⟨db8, tl8, ml8, hb81, hb82, hb83⟩ := hb.kx hx k8
      have huu := barsOf_len (ls.take i) o q
      rw [List.length_take] at huu
      refine ⟨T0, _, rfl, SqT.of upd_same, rfl, _, _, rfl, _, _, rfl, rfl, ?_⟩
      refine ⟨_, rfl, x, CO, dx, _, _, rfl, s8 _ _ e7, T.cO, T.oR, offF_r b t kl D, _, rfl, D, .ref lq, rfl, dget_at (s8 _ _ d7) (h6 _ _ _ hjx hlq), .inl ⟨rfl, _, SqL.of (s8 _ _ hu1)⟩, ?_⟩
      refine ⟨_, rfl, b, CB, db8, _, _, rfl, hb81, T.cB, T.bM, bkF_m n tl8 ml8, _, rfl, ml8, _, i, _, rfl, rfl, SqL.of hb83, at_of (j := i) rfl (by rw [List.getElem?_map, el]; rfl), _, rfl, q, rfl, rfl, by omega, _, _, rfl, rfl, _, rfl, by show 2 ≤ sizeLine; decide, fun t9 ht9 => ?_⟩
      have s9 : Same H0 (upd (upd H0 T0 (.tup [.int (i : Nat), vN q])) t9 (.tup [V.int (Builtin.bitXor (mk l : Int) ((2 : Int) ^ q)), .int (i : Nat)])) := s8.trans (same_new ht9)
      refine ⟨lq, us, _, rfl, rfl, s9 _ _ hu1, line1 (by omega), ⟨_, _, _, rfl⟩, ?_⟩
      have hlA : lq ∈ A := List.mem_of_getElem? hlq
      have keep : ∀ c u, c ≠ lq → H0 c = some u → upd (upd (upd H0 T0 (.tup [.int (i : Nat), vN q])) t9 (.tup [V.int (Builtin.bitXor (mk l : Int) ((2 : Int) ^ q)), .int (i : Nat)])) lq (.lst (us ++ [.ref t9])) c = some u := fun c u hc e => by
        rw [upd_ne hc]; exact s9 _ _ e
      refine ⟨fun c u hc e => keep _ _ (fun z => by rw [z, hAn lq hlA] at e; cases e) (k7 _ _ hc e), keep _ _ (fun z => hAx lq hlA z.symm) e7, keep _ _ (fun z => by rw [← z, d7] at hu1; cases hu1) d7, keep _ _ (fun z => by
        have e9 : H0 kl = _ := kl7
        rw [z, hu1] at e9; cases e9) kl7, fun j p a ej ea => ?_⟩
      rw [barsOf_next el, hq]
      by_cases c : q = p
      · subst c
        have hj : j = o.idxOf q := nd_ix ho.nd ej hjx
        rw [hj, hlq] at ea
        cases ea
        rw [if_pos rfl]
        have e9 : V.int (Builtin.bitXor (mk l : Int) ((2 : Int) ^ q)) = vN (mk l ^^^ 2 ^ q) := by rw [xor_cast] <;> rfl
        dsimp only
        rw [e9]
        exact ba_this ht9 (s8 _ _ hu1) (Paired.mapP hu2 fun v m ⟨t2, k2, f1, f2⟩ => ⟨t2, k2, f1, s8 _ _ f2⟩)
      · rw [if_neg c, List.append_nil]
        have hne : a ≠ lq := fun z => c (by
          rw [z] at ea
          have := nd_ix h4 ea hlq
          rw [this] at ej
          rw [hjx] at ej
          exact Option.some.inj ej)
        exact ba_other ht9 (s8 _ _ hu1) hne ((q7 j p a ej ea).same s8)
    · rintro σ H' ⟨_, k7, e7, d7, kl7, q7⟩
      have hle : ls.take (((ls.map (lastOf o)).map vN).length) = ls := by rw [List.length_map, List.length_map, List.take_length]
      rw [hle] at q7
      exact k _ k7 ⟨dx, b, t, kl, D, kvs, A, e7, hb.kx hx k7, ts_kx hx k7 _ _ ht, d7, h3, fun j p a e1 e2 => ⟨h6 j p a e1 e2, q7 j p a e1 e2⟩⟩
theorem sc_is_barred : FnScope ["office", "inside", "person", "others", "number"] ["office", "inside", "person"] (defScope s_is_barred) := ⟨rfl, rfl, rfl, by decide +kernel, rfl, by decide +kernel, by decide +kernel⟩
def sp_is_barred (CB CO : Addr) : Sp := fun vs H Q _ => ∃ (x : Addr) (n : Nat) (ls : List (List Nat)) (o : List Nat) (m p : Nat), vs = [.ref x, vN m, vN p] ∧ OffAt CB CO H x n ls o ∧ p ∈ o ∧ ls.length ≤ 60 ∧ ∀ H1, Same H H1 → Q (.bl ((barsOf ls o p).any (hld m))) H1
theorem def_is_barred (T : Txt K mg CB CO) (D_holds : Def P w K mg base "holds" ["bits", "some"] 1 sp_holds) (S0 : Src K mg "is_barred" s_is_barred) : Def P w K mg base "is_barred" ["office", "inside", "person"] 2 (sp_is_barred CB CO) := by
  have D_holds := D_holds.up (show 1 ≤ 1 by decide)
  refine S0.mk sc_is_barred (fun _ _ _ _ _ _ us hl => match us, hl with | [_, _, _], _ => rfl) (fun vs H Q E h => ?_) (fun f cdv A outer s H vs Q E hr h => ?_)
  · obtain ⟨x, n, ls, o, m, p, rfl, hx, hp, hl, k⟩ := h
    rfl
  · obtain ⟨x, n, ls, o, m, p, rfl, hx, hp, hl, k⟩ := h
    refine ⟨_, (pss_one (ps_ret (pe_callB (crAny K) (by rfl) T.any (by decide +kernel) (pa_cons (pe_lc (own := [("others", 3), ("number", 4)]) rfl sc_is_barred.nd (piL K (pe_dget (hu_of hr) (peFld K (pv 0)) (pv 2) (fun _ _ => rfl))) (blkOk_by (by kernel_rfl)) (fun _ _ _ _ _ => (pgTup K (n := 2) (by rfl) (pgs_cons (pg_name (i := 3) sc_is_barred.nd rfl (Or.inl rfl)) (pgs_cons (pg_name (i := 4) sc_is_barred.nd rfl (Or.inl rfl)) pgs_nil)))) (fun _ _ _ _ _ => pts_nil) (fun _ _ _ _ _ => (pe_def D_holds hr rfl (pa_cons (pv 1) (pa_cons (pv 3) pa_nil))))) pa_nil)))), ?_⟩
    obtain ⟨dx, b, t, kl, d, kvs, A, h1, h2, h3, h4, h5, h6⟩ := hx
    have hjx : o[o.idxOf p]? = some p := by
      rw [List.getElem?_eq_getElem (List.idxOf_lt_length_of_mem hp), List.getElem_idxOf]
    obtain ⟨lq, hlq⟩ : ∃ lq, A[o.idxOf p]? = some lq := ⟨_, List.getElem?_eq_getElem (by rw [h5]; exact List.idxOf_lt_length_of_mem hp)⟩
    obtain ⟨hv, us, hu1, hu2⟩ := h6 _ _ _ hjx hlq
    have hus := paired_len hu2
    have hbl := barsOf_len ls o p
    refine ⟨_, rfl, x, CO, dx, _, _, rfl, h1, T.cO, T.oR, offF_r b t kl d, _, rfl, d, .ref lq, rfl, dget_at h4 hv, lq, rfl, ⟨_, SqL.of hu1⟩, fun D hD => ?_⟩
    refine lc_same walk_list (fun _ v (b : Bool) => v = .bl b) (fun i => (barsOf ls o p)[i]?.bind fun z => some (hld m z)) hD (fun H3 s => SqL.of (s _ _ hu1)) (fun _ _ _ _ _ e => e) (by omega) ?_ ?_
    · rintro i y H0 H2 K1 K2 hi s0 ⟨rfl, e⟩ k1 k2
      obtain ⟨z, ez, t2, k3, rfl, e2⟩ := paired_at hu2 e
      refine ⟨t2, _, rfl, SqT.of (s0 _ _ e2), rfl, _, _, rfl, _, _, rfl, rfl, rfl, tyes ?_⟩
      exact ⟨_, rfl, _, rfl, m, z, rfl, k1 _ _ _ (Same.refl _) (by rw [ez]; rfl) rfl⟩
    · intro H2 ys s2 e p2
      rw [hus, fm_map, fm_some] at p2
      rw [paired_val p2] at e
      refine ⟨D, _, rfl, SqL.of e, ?_⟩
      rw [List.any_map]
      exact k _ s2
theorem sc_in_bits : FnScope ["office", "bits", "found", "person"] ["office", "bits"] (defScope s_in_bits) := ⟨rfl, rfl, rfl, by decide +kernel, rfl, by decide +kernel, by decide +kernel⟩
def sp_in_bits (CB CO : Addr) : Sp := fun vs H Q _ => ∃ (x : Addr) (n : Nat) (ls : List (List Nat)) (o : List Nat) (m : Nat), vs = [.ref x, vN m] ∧ OffAt CB CO H x n ls o ∧ (∀ i ∈ o, i < 1000) ∧ ls.length ≤ 60 ∧ ∀ H1, Same H H1 → Q (vN (inM (barsOf ls o) m o)) H1
theorem def_in_bits (T : Txt K mg CB CO) (D_is_barred : Def P w K mg base "is_barred" ["office", "inside", "person"] 2 (sp_is_barred CB CO)) (S0 : Src K mg "in_bits" s_in_bits) : Def P w K mg base "in_bits" ["office", "bits"] 3 (sp_in_bits CB CO) := by
  have D_is_barred := D_is_barred.up (show 2 ≤ 2 by decide)
  refine S0.mk sc_in_bits (fun _ _ _ _ _ _ us hl => match us, hl with | [_, _], _ => rfl) (fun vs H Q E h => ?_) (fun f cdv A outer s H vs Q E hr h => ?_)
  · obtain ⟨x, n, ls, o, m, rfl, hx, ho, hl, k⟩ := h
    rfl
  · obtain ⟨x, n, ls, o, m, rfl, hx, ho, hl, k⟩ := h
    refine ⟨_, (pss_cons (ps_set (i := 2) sc_in_bits.nd rfl (Or.inl rfl) pe_int)
      (pss_cons (ps_for PassesOwn.never rfl (piT K (peFld K (pv 0))) (pg_name (i := 3) sc_in_bits.nd rfl (Or.inl rfl)) (pss_one (ps_if (PW.pt (pw_and (pt_cmpR op_eq (pe_op op_odd (pe_op op_shrN (pv 1) (pv 3)) pe_int) pe_int (nomark _)) (pw_and1 (pt_not (pt_val (pe_def D_is_barred hr rfl (pa_cons (pv 0) (pa_cons (pv 2) (pa_cons (pv 3) pa_nil))))))))) (pss_one (ps_set (i := 2) sc_in_bits.nd rfl (Or.inl rfl) (pe_op op_or (pv 2) (pe_op op_oneShl pe_int (pv 3))))) pss_nil)))
      (pss_one (ps_ret (pv 2))))), ?_⟩
    obtain ⟨dx, b, t, kl, d, kvs, A, h1, h2, h3, h4, h5, h6⟩ := id hx
    have lm : (o.map vN).length = o.length := List.length_map _
    refine ⟨_, rfl, x, CO, dx, _, _, rfl, h1, T.cO, T.oO, offF_o b t kl d, t, rfl, ⟨_, SqT.of h3⟩, for_tup (K := K) (a := t) (xs := o.map vN) (fun i σ H' => (∃ a3, σ = [some (.ref x), some (vN m), some (vN ((o.take i).foldl (inS (barsOf ls o) m) 0)), a3]) ∧ Same H H') ⟨⟨_, rfl⟩, Same.refl _⟩ (fun i σ H' _ z => SqT.of (z.2 _ _ h3)) ?_ ?_⟩
    · rintro i y σ H' hi ⟨⟨a3, rfl⟩, s0⟩
      obtain ⟨p, ep, rfl⟩ := map_at hi
      have hp := List.mem_of_getElem? ep
      have hp2 := ho p hp
      have e0 : (o.take (i + 1)).foldl (inS (barsOf ls o) m) 0 = inS (barsOf ls o) m ((o.take i).foldl (inS (barsOf ls o) m) 0) p := by rw [take_next ep, List.foldl_append] <;> rfl
      rw [e0]
      generalize (o.take i).foldl (inS (barsOf ls o) m) 0 = f
      unfold inS
      refine ⟨_, rfl, _, rfl, (m : Int), p, rfl, rfl, m / 2 ^ p, shr_cast _ _, rfl, rfl, _, rfl, ?_⟩
      rw [tb_dec]
      cases hb : m.testBit p with
      | false => exact iteF (iteF ⟨⟨_, rfl⟩, s0⟩)
      | true =>
        refine iteT ⟨_, rfl, _, rfl, _, rfl, x, n, ls, o, f, p, rfl, hx.same s0, hp, hl, fun H2 s2 => ⟨_, rfl, ?_⟩⟩
        cases hb2 : (barsOf ls o p).any (hld f) with
        | true => exact iteF ⟨⟨_, rfl⟩, s0.trans s2⟩
        | false =>
          refine iteT ⟨_, rfl, _, rfl, p, rfl, rfl, by omega, _, _, rfl, rfl, ⟨some (vN p), ?_⟩, s0.trans s2⟩
          dsimp only
          rw [or_cast]
          rfl
    · rintro σ H' ⟨⟨a3, rfl⟩, s0⟩
      rw [lm, List.take_length]
      exact ⟨_, rfl, k _ s0⟩
theorem sc_is_fitting : FnScope ["book", "sightings", "thing", "office", "crowd", "seen"] ["book", "sightings", "thing"] (defScope s_is_fitting) := ⟨rfl, rfl, rfl, by decide +kernel, rfl, by decide +kernel, by decide +kernel⟩
def sp_is_fitting (CB CO : Addr) : Sp := fun vs H Q _ => ∃ (b v t : Addr) (n : Nat) (ls : List (List Nat)) (sg : List (List Nat × List Nat)) (o : List Nat), vs = [.ref b, .ref v, .ref t] ∧ BkAt CB H b n ls ∧ SgAt H v sg ∧ CrT H t o ∧ Sights n sg ∧ Lots n ls ∧ Order n o ∧ n ≤ 12 ∧ sg.length ≤ 20 ∧ ls.length ≤ 60 ∧ ∀ H1, Same H H1 → Q (.bl (fits n ls sg o)) H1
theorem def_is_fitting (T : Txt K mg CB CO) (D_bits_of : Def P w K mg base "bits_of" ["crowd"] 1 sp_bits_of) (D_is_order : Def P w K mg base "is_order" ["people", "thing"] 5 sp_is_order) (D_check_sightings : Def P w K mg base "check_sightings" ["book", "thing"] 6 (sp_check_sightings CB)) (D_Office : DefM P w K mg base (fun f => Mk K CO f) ["self", "book", "order"] 6 (sp_Office_init CB CO)) (D_in_bits : Def P w K mg base "in_bits" ["office", "bits"] 3 (sp_in_bits CB CO)) (S0 : Src K mg "is_fitting" s_is_fitting) : Def P w K mg base "is_fitting" ["book", "sightings", "thing"] 8 (sp_is_fitting CB CO) := by
  have D_bits_of := D_bits_of.up (show 1 ≤ 7 by decide)
  have D_is_order := D_is_order.up (show 5 ≤ 7 by decide)
  have D_check_sightings := D_check_sightings.up (show 6 ≤ 7 by decide)
  have D_Office := D_Office.up (show 6 ≤ 6 by decide)
  have D_in_bits := D_in_bits.up (show 3 ≤ 7 by decide)
  refine S0.mk sc_is_fitting (fun _ _ _ _ _ _ us hl => match us, hl with | [_, _, _], _ => rfl) (fun vs H Q E h => ?_) (fun f cdv A outer s H vs Q E hr h => ?_)
  · obtain ⟨b, v, t, n, ls, sg, o, rfl, hb, hv, ht, hs, hL, ho, hn, hl, hll, k⟩ := h
    rfl
  · obtain ⟨b, v, t, n, ls, sg, o, rfl, hb, hv, ht, hs, hL, ho, hn, hl, hll, k⟩ := h
    refine ⟨_, (pss_cons (ps_expr (pe_def D_check_sightings hr rfl (pa_cons (pv 0) (pa_cons (pv 1) pa_nil))))
      (pss_cons (ps_if (pt_not (pt_val (pe_def D_is_order hr rfl (pa_cons (peFld K (pv 0)) (pa_cons (pv 2) pa_nil))))) (pss_one (ps_ret pe_bl)) pss_nil)
      (pss_cons (ps_set (i := 3) sc_is_fitting.nd rfl (Or.inr rfl) (pe_mkD D_Office hr (by decide) rfl T.gO (pa_cons (pv 0) (pa_cons (pv 2) pa_nil))))
      (pss_one (ps_ret (pe_callB (crAll K) (by rfl) T.all (by decide +kernel) (pa_cons (pe_lc (own := [("crowd", 4), ("seen", 5)]) rfl sc_is_fitting.nd (piSeq (pv 1)) (blkOk_by (by kernel_rfl)) (fun _ _ _ _ _ => (pgTup K (n := 2) (by rfl) (pgs_cons (pg_name (i := 4) sc_is_fitting.nd rfl (Or.inl rfl)) (pgs_cons (pg_name (i := 5) sc_is_fitting.nd rfl (Or.inl rfl)) pgs_nil)))) (fun _ _ _ _ _ => pts_nil) (fun _ _ _ _ _ => (pe_cmpR op_eq (pe_def D_in_bits hr rfl (pa_cons (pv 3) (pa_cons (pe_def D_bits_of hr rfl (pa_cons (pv 4) pa_nil)) pa_nil))) (pe_def D_bits_of hr rfl (pa_cons (pv 5) pa_nil)) (nomark _)))) pa_nil))))))), ?_⟩
    have lo := ho.len
    refine ⟨_, rfl, _, rfl, b, v, n, ls, sg, rfl, hb, hv, hs, hn, hl, fun H1 s1 => ?_⟩
    obtain ⟨db, tl, ml, hb1, hb2, hb3⟩ := hb.same s1
    refine ⟨_, rfl, b, CB, db, _, _, rfl, hb1, T.cB, T.bP, bkF_p n tl ml, _, rfl, n, t, o, rfl, s1 _ _ ht, ho, by omega, fun H2 s2 => ⟨true, rfl, iteF ?_⟩⟩
    have s12 := s1.trans s2
    refine ⟨_, rfl, _, rfl, fun x dx hx hdx hne => ?_⟩
    have s3 : Same H2 (upd (upd H2 dx (.own x)) x (.ins CO dx [])) := Same.trans (same_new hdx) (same_new (by rw [upd_ne (Ne.symm hne)]; exact hx))
    have s13 := s12.trans s3
    refine ⟨x, dx, b, t, n, ls, o, rfl, upd_same, hb.same s13, s13 _ _ ht, ho, hL, hn, hll, fun H4 k4 hO => ⟨rfl, ?_⟩⟩
    have s4 : Same H H4 := fun c u e => k4 _ _ (fun z => by
      have := s12 _ _ e
      rw [z, hx] at this; cases this) (s13 _ _ e)
    obtain ⟨ps, oo, hoo, hv1, hv2⟩ := hv.same s4
    have lp := paired_len hv2
    refine ⟨_, rfl, v, ps, oo, rfl, hoo, hv1, fun J wk D hD => ?_⟩
    refine lc_same wk (fun _ v (b : Bool) => v = .bl b) (fun i => sg[i]?.bind fun z => some (letin n ls o z.1 == z.2)) hD (fun H5 s => s _ _ hv1) (fun _ _ _ _ _ e => e) (by omega) ?_ ?_
    · rintro i y H0 H5 K1 K2 hi s5 ⟨rfl, e⟩ k1 k2
      obtain ⟨z, ez, p, rfl, cr, se, hp, hcr, hse⟩ := paired_at hv2 e
      have hm := List.mem_of_getElem? ez
      have cc := hs.crowd z hm
      have cs := hs.seen z hm
      have lcc := crowd_len cc
      have lcs := crowd_len cs
      refine ⟨p, _, rfl, SqT.of (s5 _ _ hp), rfl, _, _, rfl, _, _, rfl, rfl, rfl, tyes ?_⟩
      refine ⟨_, rfl, _, rfl, cr, z.1, rfl, s5 _ _ hcr, fun i hi => (by have := cc.lt i hi; omega), by omega, fun H6 s6 => ?_⟩
      refine ⟨x, n, ls, o, mk z.1, rfl, (hO.same s5).same s6, fun i hi => (by have := ho.lt i hi; omega), hll, fun H7 s7 => ?_⟩
      refine ⟨_, rfl, se, z.2, rfl, s7 _ _ (s6 _ _ (s5 _ _ hse)), fun i hi => (by have := cs.lt i hi; omega), by omega, fun H8 s8 => ⟨rfl, ?_⟩⟩
      refine k1 _ _ (letin n ls o z.1 == z.2) ((s6.trans s7).trans s8) (by rw [ez]; rfl) ?_
      rw [← in_fits ho hL cc cs, ← nat_beq, ← dec_int]
    · intro H5 ys s5 e p
      rw [lp, fm_map, fm_some] at p
      rw [paired_val p] at e
      refine ⟨D, _, rfl, SqL.of e, ?_⟩
      rw [List.all_map]
      exact k _ (s4.trans s5)
end
end K43
/-! ## L0 -/
set_option Elab.async false
set_option linter.all false
set_option maxRecDepth 100000
set_option maxHeartbeats 1000000
/-! L0: the hand, a draw. -/
namespace K43
open PySem PySem.Spec PyProof.Rows L2
structure HS (H0 H : Hp) (h ca : Addr) (cells : List Int) (a : Nat) (l st ct : Int) : Prop where
  kx : Kx (fun b => b = h) H0 H
  at_ : H h = some (.lst [.ref ca, .int (a : Int), .int l, .int st, .int ct])
  cs : H ca = some (.lst (cells.map V.int))
  ne : ca ≠ h
theorem HS.put {H0 H : Hp} {h ca : Addr} {cells : List Int} {a : Nat} {l st ct : Int} (s : HS H0 H h ca cells a l st ct) (a' : Nat) (l' st' ct' : Int) : HS H0 (upd H h (.lst [.ref ca, .int (a' : Int), .int l', .int st', .int ct'])) h ca cells a' l' st' ct' :=
  ⟨fun b o hb e => by rw [upd_ne hb]; exact s.kx b o hb e, upd_same, by rw [upd_ne s.ne]; exact s.cs, s.ne⟩
/-- the hand -/
def HandAt (H : Hp) (h ca : Addr) : Prop := ∃ cells a l st ct, HS H H h ca cells a l st ct
theorem HS.hand {H0 H : Hp} {h ca : Addr} {cells : List Int} {a : Nat} {l st ct : Int} (s : HS H0 H h ca cells a l st ct) : HandAt H h ca := ⟨cells, a, l, st, ct, Kx.refl _, s.at_, s.cs, s.ne⟩
theorem HandAt.same {H H' : Hp} {h ca : Addr} (s : Same H H') (w : HandAt H h ca) : HandAt H' h ca := by
  obtain ⟨cells, a, l, st, ct, z⟩ := w
  exact ⟨cells, a, l, st, ct, Kx.refl _, s _ _ z.at_, s _ _ z.cs, z.ne⟩
theorem HandAt.new {H : Hp} {h ca D : Addr} (w : HandAt H h ca) (hD : H D = none) : D ≠ h ∧ D ≠ ca := by
  obtain ⟨cells, a, l, st, ct, z⟩ := w
  exact ⟨fun e => (by rw [e, z.at_] at hD; cases hD), fun e => (by rw [e, z.cs] at hD; cases hD)⟩
theorem HandAt.put {H : Hp} {h ca D : Addr} {o : HO} (w : HandAt H h ca) (hD : D ≠ h ∧ D ≠ ca) : HandAt (upd H D o) h ca := by
  obtain ⟨cells, a, l, st, ct, z⟩ := w
  exact ⟨cells, a, l, st, ct, Kx.refl _, by rw [upd_ne (Ne.symm hD.1)]; exact z.at_, by rw [upd_ne (Ne.symm hD.2)]; exact z.cs, z.ne⟩
/-- the heap goes on, the hand alone changes -/
def KH (h ca : Addr) (H H' : Hp) : Prop := Kx (fun b => b = h) H H' ∧ HandAt H' h ca
theorem KH.of {h ca : Addr} {H H' : Hp} (w : HandAt H h ca) (s : Same H H') : KH h ca H H' := ⟨Kx.of s, w.same s⟩
theorem KH.trans {h ca : Addr} {H H1 H2 : Hp} (a : KH h ca H H1) (b : KH h ca H1 H2) : KH h ca H H2 := ⟨a.1.trans b.1, b.2⟩
theorem KH.then_ {h ca : Addr} {H H1 H2 : Hp} (a : KH h ca H H1) (s : Same H1 H2) : KH h ca H H2 := ⟨a.1.trans (Kx.of s), a.2.same s⟩
theorem KH.at {h ca D : Addr} {H H1 : Hp} {o : HO} (w : HandAt H h ca) (a : KH h ca H H1) (n : H D = none) : KH h ca H (upd H1 D o) := ⟨Kx.at a.1 n, a.2.put (w.new n)⟩
theorem KH.ts {h ca : Addr} {H H1 : Hp} (w : HandAt H h ca) (a : KH h ca H H1) : TS H H1 := fun b xs e => a.1 b _ (fun z => by
  obtain ⟨cells, a, l, st, ct, y⟩ := w
  rw [z, y.at_] at e; cases e) e
theorem KH.keep {h ca D : Addr} {H H1 : Hp} {o : HO} (a : KH h ca H H1) (n : D ≠ h) (e : H D = some o) : H1 D = some o := a.1 D o n e
theorem seq_keep {A B : L2.TS} {D : Ends} {σ : L2.St} {H : Hp} (I : L2.St → Hp → Prop) (hA : ∀ D' : Ends, (∀ σ' H', I σ' H' → D'.nx σ' H') → A D' σ H) (hB : ∀ σ' H', I σ' H' → B D σ' H') : tSeq A B D σ H := hA _ hB
theorem ite_both {b : Bool} {A B : Prop} (h1 : A) (h2 : B) : if b = true then A else B := by
  cases b with
  | true => exact h1
  | false => exact h2
theorem mod_nat {i : Int} {m : Nat} (hm : 0 < m) : ∃ d : Nat, i % (m : Int) = (d : Int) ∧ d < m := by
  have h1 := Int.emod_nonneg i (show (m : Int) ≠ 0 by omega)
  have h2 := Int.emod_lt_of_pos i (show (0 : Int) < (m : Int) by omega)
  exact ⟨(i % (m : Int)).toNat, by omega, by omega⟩
theorem q_mod {Q : VK} {H : Hp} {i : Int} {m : Nat} (hm : 0 < m) (h : ∀ d : Nat, d < m → Q (vN d) H) : Q (.int (i % (m : Int))) H := by
  obtain ⟨d, h1, h2⟩ := mod_nat (i := i) hm
  rw [h1]
  exact h d h2
section
variable {P : Program} {w : World} {K : PySem.W.Frag} {mg : Str → Option Value} {base : Heap} {CB CO : Addr}
theorem sc_law_hand : FnScope ["_law_script", "_law_cells", "_law_cell"] ["_law_script"] (defScope s_law_hand) := ⟨rfl, rfl, rfl, by decide +kernel, rfl, by decide +kernel, by decide +kernel⟩
def sp_law_hand (K : PySem.W.Frag) : Sp := fun vs H Q _ => ∃ (a : Addr) (ns : List Int), vs = [.ref a] ∧ SqL K H a (ns.map V.int) ∧ ns.length ≤ 63 ∧ ∀ H1 h ca, Same H H1 → HandAt H1 h ca → Q (.ref h) H1
theorem def_law_hand (T : Txt K mg CB CO) (S0 : Src K mg "_law_hand" s_law_hand) : Def P w K mg base "_law_hand" ["_law_script"] 1 (sp_law_hand K) := by
  refine S0.mk sc_law_hand (fun _ _ _ _ _ _ us hl => match us, hl with | [_], _ => rfl) (fun vs H Q E h => ?_) (fun f cdv A outer s H vs Q E hr h => ?_)
  · obtain ⟨a, ns, rfl, ha, hnl, k⟩ := h
    rfl
  · obtain ⟨a, ns, rfl, ha, hnl, k⟩ := h
    refine ⟨_, (pss_cons (ps_setLc (i := 1) (own := [("_law_cell", 2)]) rfl sc_law_hand.nd rfl rfl (sw_true rfl rfl rfl (by decide +kernel)) (piL K (pe_slice (slL K) (pv 0) po_none (po_some pe_int))) (blkOk_by (by kernel_rfl)) (fun _ _ _ _ _ => (pg_name (i := 2) sc_law_hand.nd rfl (Or.inl rfl))) (fun _ _ _ _ _ => pts_nil) (fun _ _ _ _ _ => (pe_callB call_abs (by rfl) T.abs (by decide +kernel) (pa_cons (pe_callTy call_int1 (by rfl) T.int (by decide +kernel) (pa_cons (pv 2) pa_nil)) pa_nil))))
      (pss_one (ps_ret (pe_lst (pa_cons (pv 1) (pa_cons pe_int (pa_cons pe_int (pa_cons (pe_op op_add pe_int (pe_callB (crLen K) (by rfl) T.len (by decide +kernel) (pa_cons (pv 1) pa_nil))) (pa_cons pe_int pa_nil))))))))), ?_⟩
    refine ⟨_, rfl, _, rfl, a, _, rfl, ha, fun p hp => ?_⟩
    refine ⟨p, rfl, ⟨_, SqL.of upd_same⟩, fun D hD => ?_⟩
    have ep : upd H p (.lst (cutV (ns.map V.int) none (some 63))) p = some (.lst (cutV (ns.map V.int) none (some 63))) := upd_same
    have hcl : (cutV (ns.map V.int) none (some 63)).length ≤ 1000 := by
      have := cutV_length (ns.map V.int) none (some 63)
      rw [List.length_map] at this
      omega
    refine lc_it walk_list (fun i H' => ∃ cells : List Int, cells.length = i ∧ Same (upd H p (.lst (cutV (ns.map V.int) none (some 63)))) H' ∧ H' D = some (.lst (cells.map V.int))) ⟨[], rfl, same_new hD, upd_same⟩ (fun i H' _ ⟨_, _, z, _⟩ => SqL.of (z _ _ ep)) ?_ ?_
    · rintro i x H0 H' hi ⟨cells, l1, s1, e1⟩ ⟨rfl, e⟩
      have hx : x ∈ ns.map V.int := by
        have e3 := List.mem_of_getElem? e
        unfold cutV at e3
        exact List.mem_of_mem_drop (List.mem_of_mem_take e3)
      obtain ⟨c, _, rfl⟩ := List.mem_map.mp hx
      refine ⟨rfl, tyes ⟨_, rfl, .inl ⟨_, rfl, _, rfl, cells.map V.int, e1, line1 (by rw [List.length_map]; omega), cells ++ [if c < 0 then -c else c], by rw [List.length_append, l1]; rfl, same_at s1 hD, ?_⟩⟩⟩
      rw [upd_same, List.map_append] <;> rfl
    · rintro H' ⟨cells, l1, s1, e1⟩
      have s2 : Same H H' := (same_new hp).trans s1
      refine ⟨_, rfl, _, rfl, D, _, rfl, .inl (SqL.of e1), _, _, rfl, rfl, by show 5 ≤ sizeLine; decide, fun q hq => ?_⟩
      have nq : D ≠ q := ne_of_none e1 hq
      exact k _ q D (s2.trans (same_new hq)) ⟨cells, 0, 0, _, 0, Kx.refl _, upd_same, by rw [upd_ne nq]; exact e1, nq⟩
theorem sc_law_draw : FnScope ["_law_hand_here", "_law_many", "_law_cell", "_law_digit", "_law_number"] ["_law_hand_here", "_law_many"] (defScope s_law_draw) := ⟨rfl, rfl, rfl, by decide +kernel, rfl, by decide +kernel, by decide +kernel⟩
def sp_law_draw : Sp := fun vs H Q _ => ∃ (h ca : Addr) (m : Nat), vs = [.ref h, vN m] ∧ HandAt H h ca ∧ 0 < m ∧ m < 1000000 ∧ ∀ H1 d, KH h ca H H1 → d < m → Q (vN d) H1
theorem def_law_draw (T : Txt K mg CB CO) (S0 : Src K mg "_law_draw" s_law_draw) : Def P w K mg base "_law_draw" ["_law_hand_here", "_law_many"] 1 (sp_law_draw) := by
  refine S0.mk sc_law_draw (fun _ _ _ _ _ _ us hl => match us, hl with | [_, _], _ => rfl) (fun vs H Q E h => ?_) (fun f cdv A outer s H vs Q E hr h => ?_)
  · obtain ⟨h, ca, m, rfl, ⟨cells, a, l, st, ct, s1⟩, hm0, hm1, k⟩ := h
    rfl
  · obtain ⟨h, ca, m, rfl, ⟨cells, a, l, st, ct, s1⟩, hm0, hm1, k⟩ := h
    refine ⟨_, (pss_cons (ps_if (PW.pt (pw_and (pt_cmpR op_eq (pe_ix (ixL K) (pv 0) pe_int (fun _ _ => rfl)) pe_int (nomark _)) (pw_and1 (pt_cmpR op_lt (pe_ix (ixL K) (pv 0) pe_int (fun _ _ => rfl)) (pe_callB (crLen K) (by rfl) T.len (by decide +kernel) (pa_cons (pe_ix (ixL K) (pv 0) pe_int (fun _ _ => rfl)) pa_nil)) (nomark _))))) (pss_cons (ps_set (i := 2) sc_law_draw.nd rfl (Or.inl rfl) (pe_ix (ixL K) (pe_ix (ixL K) (pv 0) pe_int (fun _ _ => rfl)) (pe_ix (ixL K) (pv 0) pe_int (fun _ _ => rfl)) (fun _ _ => rfl)))
      (pss_cons (ps_asg (pe_op op_add (pe_ix (ixL K) (pv 0) pe_int (fun _ _ => rfl)) pe_int) (pg_sub (pv 0) pe_int set_list))
      (pss_cons (ps_asg (pe_op op_mod (pe_callTy call_int1 (by rfl) T.int (by decide +kernel) (pa_cons (pe_op op_add (pe_op op_add (pe_op op_mul (pe_ix (ixL K) (pv 0) pe_int (fun _ _ => rfl)) pe_int) (pv 2)) pe_int) pa_nil)) pe_int) (pg_sub (pv 0) pe_int set_list))
      (pss_one (ps_if (pt_cmpR op_ge (pv 2) (pe_op op_pow pe_int pe_int) (nomark _)) (pss_one (ps_asg (pv 2) (pg_sub (pv 0) pe_int set_list))) pss_nil))))) pss_nil)
      (pss_cons (ps_if (pt_cmpR op_gt (pe_ix (ixL K) (pv 0) pe_int (fun _ _ => rfl)) pe_int (nomark _)) (pss_cons (ps_set (i := 3) sc_law_draw.nd rfl (Or.inl rfl) (pe_op op_mod (pe_callTy call_int1 (by rfl) T.int (by decide +kernel) (pa_cons (pe_ix (ixL K) (pv 0) pe_int (fun _ _ => rfl)) pa_nil)) (pv 1)))
      (pss_cons (ps_asg (pe_op op_fdiv (pe_ix (ixL K) (pv 0) pe_int (fun _ _ => rfl)) (pv 1)) (pg_sub (pv 0) pe_int set_list))
      (pss_one (ps_ret (pv 3))))) pss_nil)
      (pss_cons (ps_asg (pe_op op_add (pe_ix (ixL K) (pv 0) pe_int (fun _ _ => rfl)) pe_int) (pg_sub (pv 0) pe_int set_list))
      (pss_cons (ps_set (i := 4) sc_law_draw.nd rfl (Or.inl rfl) (pe_op op_mod (pe_callTy call_int1 (by rfl) T.int (by decide +kernel) (pa_cons (pe_op op_mul (pe_callTy call_int1 (by rfl) T.int (by decide +kernel) (pa_cons (pe_op op_add (pe_ix (ixL K) (pv 0) pe_int (fun _ _ => rfl)) (pe_op op_mul pe_int (pe_ix (ixL K) (pv 0) pe_int (fun _ _ => rfl)))) pa_nil)) pe_int) pa_nil)) pe_int))
      (pss_cons (ps_set (i := 4) sc_law_draw.nd rfl (Or.inl rfl) (pe_op op_mod (pe_callTy call_int1 (by rfl) T.int (by decide +kernel) (pa_cons (pe_op op_mul (pv 4) (pe_op op_add (pe_op op_fdiv (pv 4) pe_int) pe_int)) pa_nil)) pe_int))
      (pss_cons (ps_set (i := 4) sc_law_draw.nd rfl (Or.inl rfl) (pe_op op_mod (pe_callTy call_int1 (by rfl) T.int (by decide +kernel) (pa_cons (pe_op op_mul (pv 4) (pe_op op_add (pe_op op_fdiv (pv 4) pe_int) pe_int)) pa_nil)) pe_int))
      (pss_one (ps_ret (pe_op op_mod (pe_callTy call_int1 (by rfl) T.int (by decide +kernel) (pa_cons (pe_op op_fdiv (pv 4) pe_int) pa_nil)) (pv 1)))))))))), ?_⟩
    refine seq_keep (fun σ' H' => ∃ a' l' st' ct' x2, σ' = [some (.ref h), some (vN m), x2, none, none] ∧ HS H H' h ca cells a' l' st' ct') (fun D' kD => ?_) ?_
    · refine ⟨_, rfl, h, _, 2, _, rfl, rfl, SqL.of s1.at_, at_of (j := 2) rfl rfl, rfl, _, rfl, ?_⟩
      by_cases hl : l = 0
      · rw [decide_eq_true (by rw [hl])]
        refine iteT ⟨_, rfl, h, _, 1, _, rfl, rfl, SqL.of s1.at_, at_of (j := 1) rfl rfl, _, rfl, h, _, 0, _, rfl, rfl, SqL.of s1.at_, at_of (j := 0) rfl rfl, ca, _, rfl, .inl (SqL.of s1.cs), _, _, rfl, rfl, _, rfl, ?_⟩
        by_cases ha : (a : Int) < ((cells.map V.int).length : Int)
        · rw [decide_eq_true ha]
          have ha2 : a < cells.length := by rw [List.length_map] at ha; omega
          refine iteT ?_
          have s2 := s1.put (a + 1) l st ct
          refine ⟨_, rfl, h, _, 0, _, rfl, rfl, SqL.of s1.at_, at_of (j := 0) rfl rfl, _, rfl, h, _, 1, _, rfl, rfl, SqL.of s1.at_, at_of (j := 1) rfl rfl, ca, _, a, .int cells[a], rfl, rfl, SqL.of s1.cs, at_of (j := a) rfl (by rw [List.getElem?_map, List.getElem?_eq_getElem ha2]; rfl), ?_⟩
          refine ⟨_, rfl, h, _, 1, _, rfl, rfl, SqL.of s1.at_, at_of (j := 1) rfl rfl, _, _, rfl, rfl, _, rfl, h, _, 1, 1, rfl, rfl, s1.at_, rfl, ?_⟩
          have s3 := s2.put (a + 1) l ((st * 69621 + cells[a] + 11) % 2147483629) ct
          refine ⟨_, rfl, h, _, 3, _, rfl, rfl, SqL.of s2.at_, at_of (j := 3) rfl rfl, _, _, rfl, rfl, .inr (by decide), _, rfl, _, _, rfl, rfl, _, _, rfl, rfl, .inl ⟨_, rfl, _, _, rfl, rfl, (by show (0 : Int) < _; decide), _, rfl, h, _, 3, 3, rfl, rfl, s2.at_, rfl, ?_⟩⟩
          refine ⟨_, rfl, _, _, rfl, rfl, ⟨by decide, by decide, by decide⟩, _, _, rfl, rfl, _, rfl, ?_⟩
          refine ite_both ?_ ?_
          · exact ⟨_, rfl, _, rfl, h, _, 2, 2, rfl, rfl, s3.at_, rfl, kD _ _ ⟨_, _, _, _, _, rfl, s3.put (a + 1) cells[a] ((st * 69621 + cells[a] + 11) % 2147483629) ct⟩⟩
          · exact kD _ _ ⟨_, _, _, _, _, rfl, s3⟩
        · rw [decide_eq_false ha]
          exact iteF (kD _ _ ⟨_, _, _, _, _, rfl, s1⟩)
      · rw [decide_eq_false (fun z => hl (V.int.inj z))]
        exact iteF (iteF (kD _ _ ⟨_, _, _, _, _, rfl, s1⟩))
    rintro σ' H' ⟨a', l', st', ct', x2, rfl, s1⟩
    refine ⟨_, rfl, h, _, 2, _, rfl, rfl, SqL.of s1.at_, at_of (j := 2) rfl rfl, _, _, rfl, rfl, _, rfl, ite_both ?_ ?_⟩
    · refine ⟨_, rfl, h, _, 2, _, rfl, rfl, SqL.of s1.at_, at_of (j := 2) rfl rfl, .inl ⟨_, rfl, _, rfl, _, _, rfl, rfl, (by show (0 : Int) < (m : Int); omega), ?_⟩⟩
      obtain ⟨d, hd1, hd2⟩ := mod_nat (i := l') hm0
      dsimp only
      rw [hd1]
      refine ⟨_, rfl, h, _, 2, _, rfl, rfl, SqL.of s1.at_, at_of (j := 2) rfl rfl, _, rfl, _, _, rfl, rfl, ⟨by omega, by omega⟩, _, rfl, h, _, 2, 2, rfl, rfl, s1.at_, rfl, ?_⟩
      have s2 := s1.put a' (l' / (m : Int)) st' ct'
      exact ⟨_, rfl, k _ d ⟨s2.kx, s2.hand⟩ hd2⟩
    · have s2 := s1.put a' l' st' (ct' + 1)
      refine ⟨_, rfl, h, _, 4, _, rfl, rfl, SqL.of s1.at_, at_of (j := 4) rfl rfl, _, _, rfl, rfl, _, rfl, h, _, 4, 4, rfl, rfl, s1.at_, rfl, ?_⟩
      refine ⟨_, rfl, h, _, 3, _, rfl, rfl, SqL.of s2.at_, at_of (j := 3) rfl rfl, _, rfl, h, _, 4, _, rfl, rfl, SqL.of s2.at_, at_of (j := 4) rfl rfl, _, _, rfl, rfl, .inl (by decide), _, _, rfl, rfl, .inl ⟨_, rfl, _, _, rfl, rfl, .inr (by decide), .inl ⟨_, rfl, _, _, rfl, rfl, (by show (0 : Int) < _; decide), ?_⟩⟩⟩
      have b1 : ∀ i : Int, -(2 ^ 64) < i % 2147483647 ∧ i % 2147483647 < 2 ^ 64 := fun i => by omega
      refine ⟨_, rfl, _, rfl, _, _, rfl, rfl, ⟨by decide, by decide⟩, _, _, rfl, rfl, _, _, rfl, rfl, .inl (b1 _), .inl ⟨_, rfl, _, _, rfl, rfl, (by show (0 : Int) < _; decide), ?_⟩⟩
      refine ⟨_, rfl, _, rfl, _, _, rfl, rfl, ⟨by decide, by decide⟩, _, _, rfl, rfl, _, _, rfl, rfl, .inl (b1 _), .inl ⟨_, rfl, _, _, rfl, rfl, (by show (0 : Int) < _; decide), ?_⟩⟩
      refine ⟨_, rfl, _, _, rfl, rfl, ⟨by decide, by decide⟩, .inl ⟨_, rfl, _, rfl, _, _, rfl, rfl, (by show (0 : Int) < (m : Int); omega), ?_⟩⟩
      exact q_mod hm0 fun d hd2 => k _ d ⟨s2.kx, s2.hand⟩ hd2
end
end K43
/-! ## L1 -/
set_option Elab.async false
set_option linter.all false
set_option maxRecDepth 100000
set_option maxHeartbeats 1000000
/-! L1: drawn crowds and lists; who is let in; who can stand. -/
namespace K43
open PySem PySem.Spec PyProof.Rows L2
theorem crSorted {X : Cx} (K : PySem.W.Frag) (h : X.K = K := by rfl) : CallR X (.builtin "sorted") (rSorted K) := h ▸ cr_sorted
theorem crowd_none {n : Nat} : Crowd n [] := ⟨List.Pairwise.nil, fun _ h => by cases h⟩
theorem crowd_skip {n : Nat} {c : List Nat} (h : Crowd n c) : Crowd (n + 1) c := ⟨h.asc, fun i hi => Nat.lt_succ_of_lt (h.lt i hi)⟩
theorem crowd_put {n : Nat} {c : List Nat} (h : Crowd n c) : Crowd (n + 1) (c ++ [n]) := by
  refine ⟨?_, fun i hi => ?_⟩
  · rw [List.pairwise_append]
    refine ⟨h.asc, List.pairwise_singleton _ _, fun a ha b hb => ?_⟩
    have : b = n := by simpa using hb
    rw [this]
    exact h.lt a ha
  · rcases List.mem_append.mp hi with z | z
    · exact Nat.lt_succ_of_lt (h.lt i z)
    · have : i = n := by simpa using z
      rw [this]; exact Nat.lt_succ_self n
theorem rg_nat (n : Nat) : rgV 0 (n : Int) = (List.range n).map vN := by
  unfold rgV
  rw [Int.sub_zero, Int.toNat_natCast]
  refine List.map_congr_left fun i _ => ?_
  rw [Int.zero_add]
theorem perm_pop : ∀ {L : List Nat} {d : Nat} {y : Nat}, L[d]? = some y → (y :: L.eraseIdx d).Perm L
  | [], _, _, e => by simp at e
  | a :: L, 0, y, e => by
    cases e
    exact List.Perm.refl _
  | a :: L, d + 1, y, e => (List.Perm.swap a y _).trans (List.Perm.cons a (perm_pop (by simpa using e)))
theorem erase_map {α β : Type} (f : α → β) : ∀ (L : List α) (d : Nat), (L.map f).eraseIdx d = (L.eraseIdx d).map f
  | [], _ => rfl
  | _ :: _, 0 => rfl
  | a :: L, d + 1 => by
    show f a :: (L.map f).eraseIdx d = f a :: (L.eraseIdx d).map f
    rw [erase_map f L d]
theorem order_of_perm {n : Nat} {o : List Nat} (h : o.Perm (List.range n)) : Order n o :=
  ⟨h.nodup_iff.mpr List.nodup_range, by rw [h.length_eq, List.length_range], fun i hi => List.mem_range.mp (h.mem_iff.mp hi)⟩
theorem inside_snoc (ls : List (List Nat)) (c : List Nat) (p : Nat) : ∀ (r inn : List Nat), inside ls c (r ++ [p]) inn = if (c.contains p && !barred ls (inside ls c r inn) p) = true then inside ls c r inn ++ [p] else inside ls c r inn
  | [], inn => rfl
  | q :: r, inn => inside_snoc ls c p r _
theorem inside_sub (ls : List (List Nat)) (c : List Nat) : ∀ (r inn : List Nat), ∀ i ∈ inside ls c r inn, i ∈ inn ∨ i ∈ r
  | [], inn, i, h => .inl h
  | q :: r, inn, i, h => by
    have h' : i ∈ inside ls c r (if c.contains q && !barred ls inn q then inn ++ [q] else inn) := h
    rcases inside_sub ls c r _ i h' with z | z
    · by_cases e : (c.contains q && !barred ls inn q) = true
      · rw [if_pos e] at z
        rcases List.mem_append.mp z with y | y
        · exact .inl y
        · have : i = q := by simpa using y
          rw [this]
          exact .inr List.mem_cons_self
      · rw [if_neg e] at z
        exact .inl z
    · exact .inr (List.mem_cons_of_mem _ z)
theorem inside_nd (ls : List (List Nat)) (c : List Nat) : ∀ (r inn : List Nat), r.Nodup → inn.Nodup → (∀ i ∈ inn, i ∉ r) → (inside ls c r inn).Nodup
  | [], inn, _, h, _ => h
  | q :: r, inn, hr, hi, hd => by
    have hr2 := List.nodup_cons.mp hr
    show (inside ls c r (if c.contains q && !barred ls inn q then inn ++ [q] else inn)).Nodup
    by_cases e : (c.contains q && !barred ls inn q) = true
    · rw [if_pos e]
      refine inside_nd ls c r _ hr2.2 ?_ fun i hx => ?_
      · rw [List.nodup_append]
        refine ⟨hi, by simp, fun a ha b hb => ?_⟩
        have : b = q := by simpa using hb
        rw [this]
        exact fun z => hd a ha (by rw [z]; exact List.mem_cons_self)
      · rcases List.mem_append.mp hx with y | y
        · exact fun z => hd i y (List.mem_cons_of_mem _ z)
        · have : i = q := by simpa using y
          rw [this]; exact hr2.1
    · rw [if_neg e]
      exact inside_nd ls c r _ hr2.2 hi fun i hx z => hd i hx (List.mem_cons_of_mem _ z)
theorem sorted_letin {n : Nat} {ls : List (List Nat)} {o c : List Nat} (ho : Part n o) {ns : List Int} (hp : ns.Perm ((inside ls c o []).map fun i : Nat => (i : Int))) (hs : ns.Pairwise (· ≤ ·)) : ns.map V.int = (letin n ls o c).map vN := by
  have hnd := inside_nd ls c o [] ho.nd List.nodup_nil (fun i h => by cases h)
  have hsub := inside_sub ls c o []
  have h1 : ns = (ns.map Int.toNat).map fun i : Nat => (i : Int) := by
    rw [List.map_map]
    conv => lhs; rw [← List.map_id ns]
    refine List.map_congr_left fun i hi => ?_
    obtain ⟨k, _, rfl⟩ := List.mem_map.mp (hp.mem_iff.mp hi)
    rfl
  have h2 : (ns.map Int.toNat).Perm (inside ls c o []) := by
    have := hp.map Int.toNat
    rw [List.map_map] at this
    have e : (Int.toNat ∘ fun i : Nat => (i : Int)) = id := funext fun i => Int.toNat_natCast i
    rw [e, List.map_id] at this
    exact this
  have h3 : (ns.map Int.toNat).Pairwise (· < ·) := by
    have hnd2 := h2.nodup_iff.mpr hnd
    have hs2 : (ns.map Int.toNat).Pairwise (· ≤ ·) := List.Pairwise.map Int.toNat (fun a b (h : a ≤ b) => Int.toNat_le_toNat h) hs
    exact List.Pairwise.imp₂ (fun a b h1 h2 => Nat.lt_of_le_of_ne h1 h2) hs2 hnd2
  have h4 : ns.map Int.toNat = letin n ls o c := by
    refine asc_ext h3 (rangeF_asc n _) fun i => ?_
    rw [h2.mem_iff]
    show _ ↔ i ∈ (List.range n).filter fun i => (inside ls c o []).contains i
    rw [List.mem_filter, List.mem_range, List.contains_iff_mem]
    exact ⟨fun h => ⟨ho.lt i ((hsub i h).resolve_left (fun z => by cases z)), h⟩, fun h => h.2⟩
  rw [h1, h4, List.map_map] <;> rfl
theorem letin_crowd {n : Nat} {ls : List (List Nat)} {o c : List Nat} : Crowd n (letin n ls o c) := ⟨rangeF_asc n _, fun i hi => List.mem_range.mp (List.mem_filter.mp hi).1⟩
theorem filter_none {α : Type} {l : List α} {p : α → Bool} : (l.filter p).length = 0 ↔ l.any p = false := by
  rw [List.length_eq_zero_iff, List.filter_eq_nil_iff, List.any_eq_false]
theorem dec_bl (a b : Bool) : decide (V.bl a = V.bl b) = (a == b) := by
  cases a <;> cases b <;> rfl
theorem some_has {s ord : List Nat} {p q : Nat} : ((ord.filter s.contains) ++ [p]).contains q = (q == p || (s.contains q && ord.contains q)) := by
  rw [List.contains_append, List.contains_cons, List.contains_nil, Bool.or_false, Bool.or_comm]
  congr 1
  cases e : (ord.filter s.contains).contains q with
  | true =>
    have := List.mem_filter.mp (List.contains_iff_mem.mp e)
    rw [this.2, List.contains_iff_mem.mpr this.1] <;> rfl
  | false =>
    cases e2 : s.contains q with
    | false => rfl
    | true =>
      cases e3 : ord.contains q with
      | false => rfl
      | true =>
        have := List.contains_iff_mem.mpr (List.mem_filter.mpr ⟨List.contains_iff_mem.mp e3, e2⟩)
        rw [this] at e; cases e
section
variable {P : Program} {w : World} {K : PySem.W.Frag} {mg : Str → Option Value} {base : Heap} {CB CO : Addr}
theorem sc_law_part : FnScope ["_law_hand_here", "_law_people", "_law_share", "_law_person"] ["_law_hand_here", "_law_people", "_law_share"] (defScope s_law_part) := ⟨rfl, rfl, rfl, by decide +kernel, rfl, by decide +kernel, by decide +kernel⟩
def sp_law_part : Sp := fun vs H Q _ => ∃ (h ca : Addr) (n s : Nat), vs = [.ref h, vN n, vN s] ∧ HandAt H h ca ∧ n ≤ 1000 ∧ ∀ H1 a c, KH h ca H H1 → CrT H1 a c → Crowd n c → Q (.ref a) H1
theorem def_law_part (T : Txt K mg CB CO) (D_law_draw : Def P w K mg base "_law_draw" ["_law_hand_here", "_law_many"] 1 sp_law_draw) (S0 : Src K mg "_law_part" s_law_part) : Def P w K mg base "_law_part" ["_law_hand_here", "_law_people", "_law_share"] 2 (sp_law_part) := by
  have D_law_draw := D_law_draw.up (show 1 ≤ 1 by decide)
  refine S0.mk sc_law_part (fun _ _ _ _ _ _ us hl => match us, hl with | [_, _, _], _ => rfl) (fun vs H Q E h => ?_) (fun f cdv A outer s H vs Q E hr h => ?_)
  · obtain ⟨h, ca, n, s, rfl, hh, hn, k⟩ := h
    rfl
  · obtain ⟨h, ca, n, s, rfl, hh, hn, k⟩ := h
    refine ⟨_, (pss_one (ps_ret (pe_callTy (crTup K) (by rfl) T.tuple (by decide +kernel) (pa_cons (pe_lc (own := [("_law_person", 3)]) rfl sc_law_part.nd (pi_range1 (by rfl) T.range (pa_cons (pv 1) pa_nil)) (blkOk_by (by kernel_rfl)) (fun _ _ _ _ _ => (pg_name (i := 3) sc_law_part.nd rfl (Or.inl rfl))) (fun _ _ _ _ _ => (pts_one (pt_cmpR op_lt (pe_def D_law_draw hr rfl (pa_cons (pv 0) (pa_cons pe_int pa_nil))) (pv 2) (nomark _)))) (fun _ _ _ _ _ => (pv 3))) pa_nil)))), ?_⟩
    refine ⟨_, rfl, _, rfl, by omega, by omega, fun D hD => ?_⟩
    refine lc_it walk_range (fun i H' => ∃ c : List Nat, KH h ca H H' ∧ H' D = some (.lst (c.map vN)) ∧ c.length ≤ i ∧ Crowd i c) ⟨[], KH.of hh (same_new hD), upd_same, Nat.le_refl _, crowd_none⟩ (fun _ _ _ _ => trivial) ?_ ?_
    · rintro i x H0 H' hi ⟨c, kh, e1, l1, hc⟩ ⟨rfl, rfl⟩
      refine ⟨rfl, _, rfl, h, ca, 6, rfl, kh.2, by decide, by decide, fun H2 d k2 hd => ⟨_, rfl, _, _, rfl, rfl, _, rfl, ?_⟩⟩
      have k02 := kh.trans k2
      have e2 := k2.keep (hh.new hD).1 e1
      refine ite_both ?_ ?_
      · refine ⟨_, rfl, c.map vN, e2, line1 (by rw [List.length_map]; omega), c ++ [i], KH.at hh k02 hD, ?_, by rw [List.length_append]; exact Nat.succ_le_succ l1, crowd_put hc⟩
        rw [upd_same, List.map_append]
        dsimp only
        rw [Int.zero_add] <;> rfl
      · exact ⟨c, k02, e2, Nat.le_succ_of_le l1, crowd_skip hc⟩
    · rintro H' ⟨c, kh, e1, l1, hc⟩
      exact ⟨D, _, rfl, .inl ⟨SqL.of e1, fun l hl => k _ _ c (kh.then_ (same_new hl)) upd_same hc⟩⟩
theorem sc_law_order : FnScope ["_law_hand_here", "_law_people", "_law_left", "_law_found", "_law_turn"] ["_law_hand_here", "_law_people"] (defScope s_law_order) := ⟨rfl, rfl, rfl, by decide +kernel, rfl, by decide +kernel, by decide +kernel⟩
def sp_law_order : Sp := fun vs H Q _ => ∃ (h ca : Addr) (n : Nat), vs = [.ref h, vN n] ∧ HandAt H h ca ∧ n ≤ 1000 ∧ ∀ H1 a o, KH h ca H H1 → CrT H1 a o → Order n o → Q (.ref a) H1
theorem def_law_order (T : Txt K mg CB CO) (D_law_draw : Def P w K mg base "_law_draw" ["_law_hand_here", "_law_many"] 1 sp_law_draw) (S0 : Src K mg "_law_order" s_law_order) : Def P w K mg base "_law_order" ["_law_hand_here", "_law_people"] 2 (sp_law_order) := by
  have D_law_draw := D_law_draw.up (show 1 ≤ 1 by decide)
  refine S0.mk sc_law_order (fun _ _ _ _ _ _ us hl => match us, hl with | [_, _], _ => rfl) (fun vs H Q E h => ?_) (fun f cdv A outer s H vs Q E hr h => ?_)
  · obtain ⟨h, ca, n, rfl, hh, hn, k⟩ := h
    rfl
  · obtain ⟨h, ca, n, rfl, hh, hn, k⟩ := h
    refine ⟨_, (pss_cons (ps_set (i := 2) sc_law_order.nd rfl (Or.inl rfl) (pe_listRg rfl (by rfl) T.list (prg_1 (by rfl) T.range (pv 1))))
      (pss_cons (ps_set (i := 3) sc_law_order.nd rfl (Or.inl rfl) (pe_lst pa_nil))
      (pss_cons (ps_for PassesOwn.never rfl (pi_range1 (by rfl) T.range (pa_cons (pv 1) pa_nil)) (pg_name (i := 4) sc_law_order.nd rfl (Or.inl rfl)) (pss_one (ps_expr (peBm K PySem.F.plainAttrs_list PySem.F.slot_list_append PySem.F.type_list_append mt_append (pv 3) (pa_cons (peBm K PySem.F.plainAttrs_list PySem.F.slot_list_pop PySem.F.type_list_pop mt_popAt (pv 2) (pa_cons (pe_def D_law_draw hr rfl (pa_cons (pv 0) (pa_cons (pe_callB (crLen K) (by rfl) T.len (by decide +kernel) (pa_cons (pv 2) pa_nil)) pa_nil))) pa_nil)) pa_nil)))))
      (pss_one (ps_ret (pe_callTy (crTup K) (by rfl) T.tuple (by decide +kernel) (pa_cons (pv 3) pa_nil))))))), ?_⟩
    refine ⟨_, rfl, n, rfl, RgOk.of_le (by omega) (by omega) (by omega) (by omega), fun q hq => ?_⟩
    rw [rg_nat]
    refine ⟨Nat.zero_le _, fun f hf => ?_⟩
    have nqf : q ≠ f := ne_of_none upd_same hf
    have hqh := hh.new hq
    have hfh := (hh.same (same_new (o := .lst ((List.range n).map vN)) hq)).new hf
    have hf0 : H f = none := by
      rw [upd_ne (Ne.symm nqf)] at hf; exact hf
    refine ⟨_, rfl, _, rfl, by omega, by omega, for_it walk_range (fun i σ H' => ∃ (a4 : Option V) (L F : List Nat), σ = [some (.ref h), some (vN n), some (.ref q), some (.ref f), a4] ∧ KH h ca H H' ∧ H' q = some (.lst (L.map vN)) ∧ H' f = some (.lst (F.map vN)) ∧ F.length = i ∧ (F ++ L).Perm (List.range n)) ⟨_, List.range n, [], rfl, KH.of hh (Same.trans (same_new hq) (same_new hf)), by rw [upd_ne nqf, upd_same], upd_same, rfl, List.Perm.refl _⟩ (fun _ _ _ _ _ => trivial) ?_ ?_⟩
    · rintro i x σ H0 H' hi ⟨a4, L, F, rfl, kh, e1, e2, l1, pm⟩ ⟨rfl, rfl⟩
      have hl := pm.length_eq
      rw [List.length_append, List.length_range] at hl
      refine ⟨_, rfl, .inl ⟨rfl, _, SqL.of e2⟩, _, rfl, .inl ⟨rfl, _, SqL.of e1⟩, _, rfl, _, rfl, q, _, rfl, .inl (SqL.of e1), ?_⟩
      refine ⟨h, ca, (L.map vN).length, rfl, kh.2, by rw [List.length_map]; omega, by rw [List.length_map]; omega, fun H2 d k2 hd => ?_⟩
      rw [List.length_map] at hd
      have e3 := k2.keep hqh.1 e1
      have e4 := k2.keep hfh.1 e2
      obtain ⟨y, ey⟩ : ∃ y, L[d]? = some y := ⟨_, List.getElem?_eq_getElem hd⟩
      refine ⟨q, _, (d : Int), d, vN y, rfl, rfl, e3, by omega, by omega, by rw [seqIndex_of (by omega) (by rw [List.length_map]; omega)]; rfl, by rw [List.getElem?_map, ey]; rfl, ?_⟩
      refine ⟨f, F.map vN, vN y, rfl, rfl, by rw [upd_ne (Ne.symm nqf)]; exact e4, line1 (by rw [List.length_map]; omega), ?_⟩
      refine ⟨_, L.eraseIdx d, F ++ [y], rfl, KH.at hh (KH.at hh (kh.trans k2) hq) hf0, by rw [upd_ne nqf, upd_same, erase_map], by rw [upd_same, List.map_append]; rfl, by rw [List.length_append, l1]; rfl, ?_⟩
      rw [List.append_assoc]
      exact ((perm_pop ey).append_left F).trans pm
    · rintro σ H' ⟨a4, L, F, rfl, kh, e1, e2, l1, pm⟩
      have hl := pm.length_eq
      rw [List.length_append, List.length_range] at hl
      have hL : L = [] := List.length_eq_zero_iff.mp (by omega)
      subst hL
      rw [List.append_nil] at pm
      exact ⟨_, rfl, f, _, rfl, .inl ⟨SqL.of e2, fun l hl => k _ _ F (kh.then_ (same_new hl)) upd_same (order_of_perm pm)⟩⟩
theorem sc_law_flag : FnScope ["_law_told", "_law_due"] ["_law_told", "_law_due"] (defScope s_law_flag) := ⟨rfl, rfl, rfl, by decide +kernel, rfl, by decide +kernel, by decide +kernel⟩
def sp_law_flag : Sp := fun vs H Q _ => ∃ a b : Bool, vs = [.bl a, .bl b] ∧ Q (.bl (a == b)) H
theorem def_law_flag (T : Txt K mg CB CO) (S0 : Src K mg "_law_flag" s_law_flag) : Def P w K mg base "_law_flag" ["_law_told", "_law_due"] 1 (sp_law_flag) := by
  refine S0.mk sc_law_flag (fun _ _ _ _ _ _ us hl => match us, hl with | [_, _], _ => rfl) (fun vs H Q E h => ?_) (fun f cdv A outer s H vs Q E hr h => ?_)
  · obtain ⟨a, b, rfl, k⟩ := h
    rfl
  · obtain ⟨a, b, rfl, k⟩ := h
    refine ⟨_, (pss_one (ps_ret (pe_and (pe_callB (crIsi K) (by rfl) T.isi (by decide +kernel) (pa_cons (pv 0) (pa_cons (pe_bltn (v := .ty "bool") (by rfl) T.bool (by decide +kernel) rfl) pa_nil))) (pe_one (pe_cmpR op_eq (pv 0) (pv 1) (nomark _)))))), ?_⟩
    refine ⟨_, rfl, _, _, _, _, true, rfl, .ty _, .base (.bl _), kit_ty (by decide +kernel), true, rfl, iteT ⟨_, rfl, _, rfl, rfl, ?_⟩⟩
    rw [dec_bl]
    exact k
theorem sc_law_within : FnScope ["_law_some", "_law_crowd", "_law_person"] ["_law_some", "_law_crowd"] (defScope s_law_within) := ⟨rfl, rfl, rfl, by decide +kernel, rfl, by decide +kernel, by decide +kernel⟩
def sp_law_within : Sp := fun vs H Q _ => ∃ (a b : Addr) (l s : List Nat), vs = [.ref a, .ref b] ∧ CrT H a l ∧ H b = some (.lst (s.map vN)) ∧ l.length ≤ 1000 ∧ ∀ H1, Same H H1 → Q (.bl (l.all fun q => s.contains q)) H1
theorem def_law_within (T : Txt K mg CB CO) (S0 : Src K mg "_law_within" s_law_within) : Def P w K mg base "_law_within" ["_law_some", "_law_crowd"] 1 (sp_law_within) := by
  refine S0.mk sc_law_within (fun _ _ _ _ _ _ us hl => match us, hl with | [_, _], _ => rfl) (fun vs H Q E h => ?_) (fun f cdv A outer s H vs Q E hr h => ?_)
  · obtain ⟨a, b, l, s, rfl, ha, hb, hl, k⟩ := h
    rfl
  · obtain ⟨a, b, l, s, rfl, ha, hb, hl, k⟩ := h
    refine ⟨_, (pss_one (ps_ret (pe_callB (crAll K) (by rfl) T.all (by decide +kernel) (pa_cons (pe_lc (own := [("_law_person", 2)]) rfl sc_law_within.nd (piT K (pv 0)) (blkOk_by (by kernel_rfl)) (fun _ _ _ _ _ => (pg_name (i := 2) sc_law_within.nd rfl (Or.inl rfl))) (fun _ _ _ _ _ => pts_nil) (fun _ _ _ _ _ => (pe_cmpR (opIn K) (pv 2) (pv 1) (by rfl)))) pa_nil)))), ?_⟩
    have lm : (l.map vN).length = l.length := List.length_map _
    refine ⟨_, rfl, a, rfl, ⟨_, SqT.of ha⟩, fun D hD => ?_⟩
    refine lc_same walk_tup (fun _ v (b : Bool) => v = .bl b) (fun i => l[i]?.bind fun q => some (s.contains q)) hD (fun H2 s => SqT.of (s _ _ ha)) (fun _ _ _ _ _ e => e) (by omega) ?_ ?_
    · rintro i x H0 H2 K1 K2 hi s0 ⟨rfl, e⟩ k1 k2
      obtain ⟨q, eq, rfl⟩ := map_at e
      refine ⟨rfl, tyes ⟨_, rfl, _, rfl, b, _, rfl, .inl (SqL.of (s0 _ _ hb)), rfl, flat_nat _, ?_⟩⟩
      refine k1 _ _ (s.contains q) (Same.refl _) (by rw [eq]; rfl) ?_
      show V.bl (inV (vN q) (s.map vN)) = _
      rw [inV_nat]
    · intro H2 ys s2 e p
      rw [lm, fm_map, fm_some] at p
      rw [paired_val p] at e
      refine ⟨D, _, rfl, SqL.of e, ?_⟩
      rw [List.all_map]
      exact k _ s2
theorem sc_law_in : FnScope ["_law_lots_here", "_law_order_here", "_law_crowd", "_law_found", "_law_person", "_law_barred", "_law_lot", "_law_k"] ["_law_lots_here", "_law_order_here", "_law_crowd"] (defScope s_law_in) := ⟨rfl, rfl, rfl, by decide +kernel, rfl, by decide +kernel, by decide +kernel⟩
def sp_law_in : Sp := fun vs H Q _ => ∃ (a b c : Addr) (n : Nat) (ls : List (List Nat)) (o cr : List Nat), vs = [.ref a, .ref b, .ref c] ∧ CrTT H a ls ∧ CrT H b o ∧ CrT H c cr ∧ Part n o ∧ n ≤ 60 ∧ ls.length ≤ 1000 ∧ (∀ l ∈ ls, l.length ≤ 1000) ∧ ∀ H1 x, Same H H1 → CrT H1 x (letin n ls o cr) → Q (.ref x) H1
theorem def_law_in (T : Txt K mg CB CO) (S0 : Src K mg "_law_in" s_law_in) : Def P w K mg base "_law_in" ["_law_lots_here", "_law_order_here", "_law_crowd"] 1 (sp_law_in) := by
  refine S0.mk sc_law_in (fun _ _ _ _ _ _ us hl => match us, hl with | [_, _, _], _ => rfl) (fun vs H Q E h => ?_) (fun f cdv A outer s H vs Q E hr h => ?_)
  · obtain ⟨a, b, c, n, ls, o, cr, rfl, ⟨ts, ha1, ha2⟩, hb, hc, ho, hol, hll, hl2, k⟩ := h
    rfl
  · obtain ⟨a, b, c, n, ls, o, cr, rfl, ⟨ts, ha1, ha2⟩, hb, hc, ho, hol, hll, hl2, k⟩ := h
    refine ⟨_, (pss_cons (ps_set (i := 3) sc_law_in.nd rfl (Or.inr rfl) (pe_lst pa_nil))
      (pss_cons (ps_for PassesOwn.never rfl (piT K (pv 1)) (pg_name (i := 4) sc_law_in.nd rfl (Or.inr rfl)) (pss_one (ps_if (pt_cmpR (opIn K) (pv 4) (pv 2) (by rfl)) (pss_cons (ps_setLc (i := 5) (own := [("_law_lot", 6)]) rfl sc_law_in.nd rfl rfl (sw_true rfl rfl rfl (by decide +kernel)) (piT K (pv 0)) (blkOk_by (by kernel_rfl)) (fun _ _ _ _ _ => (pg_name (i := 6) sc_law_in.nd rfl (Or.inl rfl))) (fun _ _ _ _ _ => (pts_one (PW.pt (pw_and (pt_cmpR (opIn K) (pv 4) (pv 6) (by rfl)) (pw_and1 (pt_val (pe_callB (crAll K) (by rfl) T.all (by decide +kernel) (pa_cons (pe_lc (own := [("_law_k", 7)]) rfl sc_law_in.nd (piT K (pv 6)) (blkOk_by (by kernel_rfl)) (fun _ _ _ _ _ => (pg_name (i := 7) sc_law_in.nd rfl (Or.inl rfl))) (fun _ _ _ _ _ => pts_nil) (fun _ _ _ _ _ => (pe_or (pe_cmpR (opIn K) (pv 7) (pv 3) (by rfl)) (pe_one (pe_cmpR op_eq (pv 7) (pv 4) (nomark _)))))) pa_nil)))))))) (fun _ _ _ _ _ => (pv 6)))
      (pss_one (ps_if (pt_cmpR op_eq (pe_callB (crLen K) (by rfl) T.len (by decide +kernel) (pa_cons (pv 5) pa_nil)) pe_int (nomark _)) (pss_one (ps_expr (peBm K PySem.F.plainAttrs_list PySem.F.slot_list_append PySem.F.type_list_append mt_append (pv 3) (pa_cons (pv 4) pa_nil)))) pss_nil))) pss_nil)))
      (pss_one (ps_ret (pe_callTy (crTup K) (by rfl) T.tuple (by decide +kernel) (pa_cons (pe_callB (crSorted K) (by rfl) T.sorted (by decide +kernel) (pa_cons (pv 3) pa_nil)) pa_nil)))))), ?_⟩
    have lt := paired_len ha2
    have lm : (o.map vN).length = o.length := List.length_map _
    refine ⟨Nat.zero_le _, fun f hf => ?_⟩
    have s1 : Same H (upd H f (.lst [])) := same_new hf
    have hin : ∀ i : Nat, (inside ls cr (o.take i) []).length ≤ 60 := fun i => by
      have h1 := inside_nd ls cr (o.take i) [] (List.Sublist.nodup (List.take_sublist _ _) ho.nd) List.nodup_nil (fun i h => by cases h)
      have h2 : ∀ x ∈ inside ls cr (o.take i) [], x < n := fun x hx => ho.lt x (List.mem_of_mem_take ((inside_sub ls cr (o.take i) [] x hx).resolve_left (fun z => by cases z)))
      have h3 := small_of h1 h2
      omega
    refine ⟨_, rfl, b, rfl, ⟨_, SqT.of (s1 _ _ hb)⟩, for_tup (K := K) (a := b) (xs := o.map vN) (fun i σ H' => (∃ a4 a5 a6 a7, σ = [some (.ref a), some (.ref b), some (.ref c), some (.ref f), a4, a5, a6, a7]) ∧ Same H H' ∧ H' f = some (.lst ((inside ls cr (o.take i) []).map vN))) ⟨⟨_, _, _, _, rfl⟩, s1, upd_same⟩ (fun i σ H' _ z => SqT.of (z.2.1 _ _ hb)) ?_ ?_⟩
    · rintro i x σ H' hi ⟨⟨a4, a5, a6, a7, rfl⟩, s2, e2⟩
      obtain ⟨p, ep, rfl⟩ := map_at hi
      have hlen := hin i
      rw [take_next ep, inside_snoc]
      generalize inside ls cr (o.take i) [] = J at e2 hlen ⊢
      refine ⟨_, rfl, _, rfl, c, _, rfl, .inr (SqT.of (s2 _ _ hc)), rfl, flat_nat _, _, rfl, ?_⟩
      show (if (inV (vN p) (cr.map vN)) = true then _ else _)
      rw [inV_nat]
      cases hcp : cr.contains p with
      | false => exact iteF ⟨⟨_, _, _, _, rfl⟩, s2, e2⟩
      | true =>
        refine iteT ⟨_, rfl, a, rfl, ⟨_, SqT.of (s2 _ _ ha1)⟩, fun D hD => ?_⟩
        refine lc_same walk_tup (fun _ _ (_ : List Nat) => True) (fun i => ls[i]?.bind fun l => if (l.contains p && l.all fun k => J.contains k || k == p) = true then some l else none) hD (fun H3 s => SqT.of (s _ _ (s2 _ _ ha1))) (fun _ _ _ _ _ _ => trivial) (by omega) ?_ ?_
        · rintro j y H3 H4 K1 K2 hj s3 ⟨rfl, e⟩ k1 k2
          obtain ⟨l, el, la, rfl, hla⟩ := paired_at ha2 e
          have hm := List.mem_of_getElem? el
          have hlm := hl2 l hm
          have ll : (l.map vN).length = l.length := List.length_map _
          have hla3 : CrT _ la l := (hla.mono (ts_same s2)).mono (ts_same s3)
          refine ⟨rfl, _, rfl, _, rfl, la, _, rfl, .inr (SqT.of hla3), rfl, flat_nat _, _, rfl, ?_⟩
          show (if (inV (vN p) (l.map vN)) = true then _ else _)
          rw [inV_nat]
          cases hlp : l.contains p with
          | false => exact iteF (iteF (k2 _ (Same.refl _) (by rw [bind_if el, hlp]; rfl)))
          | true =>
            refine iteT ⟨_, rfl, la, rfl, ⟨_, SqT.of hla3⟩, fun D2 hD2 => ?_⟩
            refine lc_same walk_tup (fun _ v (b : Bool) => v = .bl b) (fun i => l[i]?.bind fun k => some (J.contains k || k == p)) hD2 (fun H5 s => SqT.of (s _ _ hla3)) (fun _ _ _ _ _ e => e) (by omega) ?_ ?_
            · rintro j y H5 H6 K3 K4 hj s5 ⟨rfl, e⟩ k3 k4
              obtain ⟨q, eq, rfl⟩ := map_at e
              refine ⟨rfl, tyes ⟨_, rfl, _, rfl, f, _, rfl, .inl (SqL.of (s5 _ _ (s3 _ _ e2))), rfl, flat_nat _, _, rfl, ?_⟩⟩
              show (if (inV (vN q) (J.map vN)) = true then _ else _)
              rw [inV_nat]
              cases hjq : J.contains q with
              | true => exact iteT (k3 _ _ true (Same.refl _) (by rw [eq]; show some (J.contains q || q == p) = _; rw [hjq]; rfl) rfl)
              | false =>
                refine iteF ⟨_, rfl, _, rfl, rfl, ?_⟩
                refine k3 _ _ (q == p) (Same.refl _) (by rw [eq]; show some (J.contains q || q == p) = _; rw [hjq]; rfl) ?_
                rw [dec_int, nat_beq]
            · intro H5 ys s5 e5 p5
              rw [ll, fm_map, fm_some] at p5
              rw [paired_val p5] at e5
              refine ⟨D2, _, rfl, SqL.of e5, ?_⟩
              rw [List.all_map]
              refine ⟨_, rfl, ?_⟩
              show (if (l.all fun k => J.contains k || k == p) = true then _ else _)
              cases hal : l.all fun k => J.contains k || k == p with
              | true => exact iteT ⟨_, rfl, k1 _ _ l s5 (by rw [bind_if el, hlp, hal]; rfl) trivial⟩
              | false => exact iteF (k2 _ s5 (by rw [bind_if el, hlp, hal]; rfl))
        · intro H3 ys s3 e3 p3
          rw [lt, fm_map, fm_idL] at p3
          have hys := paired_len p3
          have e23 := s3 _ _ e2
          refine ⟨_, rfl, D, ys, rfl, .inl (SqL.of e3), rfl, _, rfl, ?_⟩
          cases hbr : barred ls J p with
          | true =>
            have : ¬ ys.length = 0 := fun z => by
              rw [hys, filter_none] at z
              have z2 : barred ls J p = false := z
              rw [hbr] at z2; cases z2
            rw [decide_eq_false (fun z => this (by have := V.int.inj z; omega))]
            exact iteF ⟨⟨_, _, _, _, rfl⟩, s2.trans s3, e23⟩
          | false =>
            have : ys.length = 0 := by rw [hys, filter_none]; exact hbr
            rw [decide_eq_true (by rw [this]; rfl)]
            refine iteT ⟨_, rfl, .inl ⟨rfl, _, SqL.of e23⟩, _, rfl, f, _, _, rfl, rfl, e23, line1 (by rw [List.length_map]; omega), ⟨_, _, _, _, rfl⟩, same_at (s2.trans s3) hf, ?_⟩
            rw [upd_same]
            show _ = some (HO.lst ((J ++ [p]).map vN))
            rw [List.map_append] <;> rfl
    · rintro σ H' ⟨⟨a4, a5, a6, a7, rfl⟩, s2, e2⟩
      rw [lm, List.take_length] at e2
      have hlen := hin o.length
      rw [List.take_length] at hlen
      rw [map_vN] at e2
      refine ⟨_, rfl, f, _, rfl, SqL.of e2, by rw [List.length_map]; omega, fun ns' p hp hs hpn => ?_⟩
      rw [sorted_letin ho hp hs]
      exact ⟨p, _, rfl, .inl ⟨SqL.of upd_same, fun l hl => k _ _ ((s2.trans (same_new hpn)).trans (same_new hl)) upd_same⟩⟩
theorem sc_law_can_stand : FnScope ["_law_lots_here", "_law_sightings_here", "_law_placed", "_law_person", "_law_crowd", "_law_seen", "_law_some", "_law_k", "_law_lot"] ["_law_lots_here", "_law_sightings_here", "_law_placed", "_law_person"] (defScope s_law_can_stand) := ⟨rfl, rfl, rfl, by decide +kernel, rfl, by decide +kernel, by decide +kernel⟩
def sp_law_can_stand : Sp := fun vs H Q _ => ∃ (a b c : Addr) (n : Nat) (ls : List (List Nat)) (sg : List (List Nat × List Nat)) (o : List Nat) (p : Nat), vs = [.ref a, .ref b, .ref c, vN p] ∧ CrTT H a ls ∧ SgAt H b sg ∧ CrT H c o ∧ sg.length ≤ 1000 ∧ o.length ≤ 60 ∧ ls.length ≤ 1000 ∧ (∀ l ∈ ls, l.length ≤ 1000) ∧ ∀ H1, Same H H1 → Q (.bl (stand ls sg o p)) H1
theorem def_law_can_stand (T : Txt K mg CB CO) (D_law_within : Def P w K mg base "_law_within" ["_law_some", "_law_crowd"] 1 sp_law_within) (S0 : Src K mg "_law_can_stand" s_law_can_stand) : Def P w K mg base "_law_can_stand" ["_law_lots_here", "_law_sightings_here", "_law_placed", "_law_person"] 2 (sp_law_can_stand) := by
  have D_law_within := D_law_within.up (show 1 ≤ 1 by decide)
  refine S0.mk sc_law_can_stand (fun _ _ _ _ _ _ us hl => match us, hl with | [_, _, _, _], _ => rfl) (fun vs H Q E h => ?_) (fun f cdv A outer s H vs Q E hr h => ?_)
  · obtain ⟨a, b, c, n, ls, sg, o, p, rfl, ⟨ts, ha1, ha2⟩, hb, hc, hsl, hol, hll, hl2, k⟩ := h
    rfl
  · obtain ⟨a, b, c, n, ls, sg, o, p, rfl, ⟨ts, ha1, ha2⟩, hb, hc, hsl, hol, hll, hl2, k⟩ := h
    refine ⟨_, (pss_cons (ps_for PassesOwn.never rfl (piSeq (pv 1)) (pgTup K (n := 2) (by rfl) (pgs_cons (pg_name (i := 4) sc_law_can_stand.nd rfl (Or.inl rfl)) (pgs_cons (pg_name (i := 5) sc_law_can_stand.nd rfl (Or.inr rfl)) pgs_nil))) (pss_one (ps_if (PW.pt (pw_and (pt_cmpR (opIn K) (pv 3) (pv 4) (by rfl)) (pw_and1 (pt_cmpR (opNotIn K) (pv 3) (pv 5) (by rfl))))) (pss_cons (ps_set (i := 6) sc_law_can_stand.nd rfl (Or.inr rfl) (pe_op op_cat (pe_lc (own := [("_law_k", 7)]) rfl sc_law_can_stand.nd (piT K (pv 2)) (blkOk_by (by kernel_rfl)) (fun _ _ _ _ _ => (pg_name (i := 7) sc_law_can_stand.nd rfl (Or.inl rfl))) (fun _ _ _ _ _ => (pts_one (pt_cmpR (opIn K) (pv 7) (pv 5) (by rfl)))) (fun _ _ _ _ _ => (pv 7))) (pe_lst (pa_cons (pv 3) pa_nil))))
      (pss_one (ps_if (pt_not (pt_val (pe_callB (crAny K) (by rfl) T.any (by decide +kernel) (pa_cons (pe_lc (own := [("_law_lot", 8)]) rfl sc_law_can_stand.nd (piT K (pv 0)) (blkOk_by (by kernel_rfl)) (fun _ _ _ _ _ => (pg_name (i := 8) sc_law_can_stand.nd rfl (Or.inl rfl))) (fun _ _ _ _ _ => pts_nil) (fun _ _ _ _ _ => (pe_and (pe_cmpR (opIn K) (pv 3) (pv 8) (by rfl)) (pe_one (pe_def D_law_within hr rfl (pa_cons (pv 8) (pa_cons (pv 6) pa_nil))))))) pa_nil)))) (pss_one (ps_ret pe_bl)) pss_nil))) pss_nil)))
      (pss_one (ps_ret pe_bl))), ?_⟩
    obtain ⟨ps, oo, hoo, hv1, hv2⟩ := hb
    have lp := paired_len hv2
    have lt := paired_len ha2
    have lmo : (o.map vN).length = o.length := List.length_map _
    refine ⟨_, rfl, b, ps, oo, rfl, hoo, hv1, fun J wk => ?_⟩
    refine for_it wk (fun i σ H' => (∃ a4 a5 a6 a7 a8, σ = [some (.ref a), some (.ref b), some (.ref c), some (vN p), a4, a5, a6, a7, a8]) ∧ Same H H' ∧ stand ls (sg.take i) o p = true) ⟨⟨_, _, _, _, _, rfl⟩, Same.refl _, rfl⟩ (fun i σ H' _ z => z.2.1 _ _ hv1) ?_ ?_
    · rintro i x σ H0 H' hi ⟨⟨a4, a5, a6, a7, a8, rfl⟩, s0, hst⟩ ⟨rfl, e⟩
      obtain ⟨z, ez, t, rfl, cr, se, hp, hcr, hse⟩ := paired_at hv2 e
      have hnx : stand ls (sg.take (i + 1)) o p = (!(z.1.contains p && !z.2.contains p) || ls.any fun l => l.contains p && l.all fun q => q == p || (z.2.contains q && o.contains q)) := by
        unfold stand at hst ⊢
        rw [take_next ez, List.all_append, hst, Bool.true_and, List.all_cons, List.all_nil, Bool.and_true]
      have bad : (!(z.1.contains p && !z.2.contains p) || ls.any fun l => l.contains p && l.all fun q => q == p || (z.2.contains q && o.contains q)) = false → stand ls sg o p = false := fun h => by
        cases hh : stand ls sg o p with
        | false => rfl
        | true =>
          unfold stand at hh
          have := List.all_eq_true.mp hh z (List.mem_of_getElem? ez)
          rw [h] at this; cases this
      refine ⟨t, _, rfl, SqT.of (s0 _ _ hp), rfl, _, _, rfl, _, _, rfl, rfl, ?_⟩
      refine ⟨_, rfl, _, rfl, cr, _, rfl, .inr (SqT.of (s0 _ _ hcr)), rfl, flat_nat _, _, rfl, ?_⟩
      show (if (inV (vN p) (z.1.map vN)) = true then _ else _)
      rw [inV_nat]
      cases h1 : z.1.contains p with
      | false =>
        refine iteF (iteF ⟨⟨_, _, _, _, _, rfl⟩, s0, ?_⟩)
        rw [hnx, h1]; rfl
      | true =>
        refine iteT ⟨_, rfl, _, rfl, se, _, rfl, .inr (SqT.of (s0 _ _ hse)), rfl, flat_nat _, _, rfl, ?_⟩
        show (if (!inV (vN p) (z.2.map vN)) = true then _ else _)
        rw [inV_nat]
        cases h2 : z.2.contains p with
        | true =>
          refine iteF ⟨⟨_, _, _, _, _, rfl⟩, s0, ?_⟩
          rw [hnx, h1, h2]; rfl
        | false =>
          refine iteT ⟨_, rfl, c, rfl, ⟨_, SqT.of (s0 _ _ hc)⟩, fun D hD => ?_⟩
          refine lc_same walk_tup (fun _ v (p : Nat) => v = vN p) (fun i => o[i]?.bind fun q => if z.2.contains q = true then some q else none) hD (fun H3 s => SqT.of (s _ _ (s0 _ _ hc))) (fun _ _ _ _ _ e => e) (by omega) ?_ ?_
          · rintro j y H3 H4 K1 K2 hj s3 ⟨rfl, e⟩ k1 k2
            obtain ⟨q, eq, rfl⟩ := map_at e
            refine ⟨rfl, _, rfl, _, rfl, se, _, rfl, .inr (SqT.of (s3 _ _ (s0 _ _ hse))), rfl, flat_nat _, _, rfl, ?_⟩
            show (if (inV (vN q) (z.2.map vN)) = true then _ else _)
            rw [inV_nat]
            cases h3 : z.2.contains q with
            | true => exact iteT ⟨_, rfl, k1 _ _ q (Same.refl _) (by rw [bind_if eq, h3]; rfl) rfl⟩
            | false => exact iteF (k2 _ (Same.refl _) (by rw [bind_if eq, h3]; rfl))
          · intro H3 ys s3 e3 p3
            rw [lmo, fm_map, fm_id] at p3
            rw [paired_val p3] at e3
            have hfl := List.length_filter_le z.2.contains o
            refine ⟨_, rfl, by show 1 ≤ sizeLine; decide, fun q hq => ?_⟩
            refine ⟨D, q, _, _, rfl, rfl, same_new hq _ _ e3, upd_same, line2 (by rw [List.length_map]; show _ + 1 ≤ 100000; omega), fun m hm => ?_⟩
            generalize hG : upd (upd H3 q (.lst [vN p])) m (.lst ((o.filter z.2.contains).map vN ++ [vN p])) = Hm
            have s4 : Same H Hm := by
              rw [← hG]
              exact ((s0.trans s3).trans (same_new hq)).trans (same_new hm)
            have e4 : Hm m = some (.lst (((o.filter z.2.contains) ++ [p]).map vN)) := by
              rw [← hG, upd_same, List.map_append] <;> rfl
            refine ⟨_, rfl, a, rfl, ⟨_, SqT.of (s4 _ _ ha1)⟩, fun D2 hD2 => ?_⟩
            refine lc_same walk_tup (fun _ v (b : Bool) => v = .bl b) (fun i => ls[i]?.bind fun l => some (l.contains p && l.all fun q => ((o.filter z.2.contains) ++ [p]).contains q)) hD2 (fun H5 s => SqT.of (s _ _ (s4 _ _ ha1))) (fun _ _ _ _ _ e => e) (by omega) ?_ ?_
            · rintro j y H5 H6 K3 K4 hj s5 ⟨rfl, e⟩ k3 k4
              obtain ⟨l, el, la, rfl, hla⟩ := paired_at ha2 e
              have hla5 : CrT _ la l := (hla.mono (ts_same s4)).mono (ts_same s5)
              refine ⟨rfl, tyes ⟨_, rfl, _, rfl, la, _, rfl, .inr (SqT.of hla5), rfl, flat_nat _, _, rfl, ?_⟩⟩
              show (if (inV (vN p) (l.map vN)) = true then _ else _)
              rw [inV_nat]
              cases hlp : l.contains p with
              | false => exact iteF (k3 _ _ false (Same.refl _) (by rw [el]; show some (l.contains p && _) = _; rw [hlp]; rfl) rfl)
              | true => exact iteT ⟨_, rfl, _, rfl, la, m, l, (o.filter z.2.contains) ++ [p], rfl, hla5, s5 _ _ e4, hl2 l (List.mem_of_getElem? el), fun H7 s7 => k3 _ _ _ s7 (by rw [el]; show some (l.contains p && _) = _; rw [hlp]; rfl) rfl⟩
            · intro H5 ys s5 e5 p5
              rw [lt, fm_map, fm_some] at p5
              rw [paired_val p5] at e5
              refine ⟨D2, _, rfl, SqL.of e5, _, rfl, ?_⟩
              rw [List.any_map]
              have heq : (ls.any (id ∘ fun l => l.contains p && l.all fun q => ((o.filter z.2.contains) ++ [p]).contains q)) = ls.any fun l => l.contains p && l.all fun q => q == p || (z.2.contains q && o.contains q) := by
                congr 1
                funext l
                show (l.contains p && l.all fun q => ((o.filter z.2.contains) ++ [p]).contains q) = _
                congr 2
                funext q
                exact some_has
              rw [heq]
              cases hres : ls.any fun l => l.contains p && l.all fun q => q == p || (z.2.contains q && o.contains q) with
              | true =>
                refine iteF ⟨⟨_, _, _, _, _, rfl⟩, s4.trans s5, ?_⟩
                rw [hnx, hres, Bool.or_true]
              | false =>
                refine iteT ?_
                have := bad (by rw [h1, h2, hres]; rfl)
                rw [this] at k
                exact k _ (s4.trans s5)
    · rintro σ H' ⟨_, s', hst⟩
      rw [lp, List.take_length] at hst
      rw [hst] at k
      exact k _ s'
end
end K43
/-! ## L2t -/
set_option Elab.async false
set_option linter.all false
set_option maxRecDepth 100000
set_option maxHeartbeats 1000000
/-! L2t: all lists, lists that fit, the least list by placing, alike. -/
namespace K43
open PySem PySem.Spec PyProof.Rows L2
theorem piZipA (K : PySem.W.Frag) {X : Cx} {e e2 : Expr} {ta : TA} {p pos tpos : Pos} {elts : List Expr} {kk : Nat} (hg : Gl X "zip") (hm : X.mg "zip" = none) (ha : PA X [e, e2] ta)
    (hs : starEach [e, e2] X.env = (false, eval e X.env) :: starEach [e2] X.env := by rfl) (hpl : (backTo pos (starEach [e2] X.env)).any (·.1) = false := by rfl) (h : X.K = K := by rfl) :
    PI X (.Tuple elts kk tpos) (.Call (.Name "zip" p) [e, e2] [] pos) (RZ.iZipA K ta) := h ▸ RZ.pi_zipA hg hm ha hs hpl
theorem walk_zipT {K : PySem.W.Frag} {a b : Addr} {xs ys : List V} (hl : ys.length = xs.length) : Walk (RZ.ItzT K a b) xs.length (fun H => SqT K H a xs ∧ SqT K H b ys) (YPair (fun i => xs[i]?) (fun i => ys[i]?)) := by
  refine ⟨fun i _ hi q => ⟨xs, ys, xs[i], ys[i]'(by omega), q.1, q.2, by simp [hi], by simp [show i < ys.length by omega]⟩, fun _ q => ⟨xs, ys, q.1, q.2, .inl (Nat.le_refl _)⟩, fun i H v H' _ q y => ?_⟩
  obtain ⟨T, x, z, h1, h2, h3, h4, h5⟩ := y
  exact ⟨T, x, z, h1, h2, h3, h4 xs q.1, h5 ys q.2⟩
def natD (c : List Nat) : PyData := .tuple (c.map fun i : Nat => PyData.int (i : Int))
theorem dp_all {K : PySem.W.Frag} {H : Hp} : ∀ c : List Nat, DpAll K H (c.map vN) (c.map fun i : Nat => PyData.int (i : Int))
  | [] => .nil
  | i :: c => .cons (.int _) (dp_all c)
theorem dp_nat {K : PySem.W.Frag} {H : Hp} {a : Addr} {c : List Nat} (h : CrT H a c) : Dp K H (.ref a) (natD c) := .tup (SqT.of h) (dp_all c)
theorem eqv_all : ∀ a b : List Nat, PyData.eqvAll (a.map fun i : Nat => PyData.int (i : Int)) (b.map fun i : Nat => PyData.int (i : Int)) = (a == b)
  | [], [] => by simp [PyData.eqvAll]
  | [], _ :: _ => by simp [PyData.eqvAll]
  | _ :: _, [] => by simp [PyData.eqvAll]
  | x :: a, y :: b => by
    rw [List.map_cons, List.map_cons, PySem.W.eqv_all_cons, eqv_all a b]
    show ((PyData.eqv (.int (x : Int)) (.int (y : Int))) && (a == b)) = (x == y && a == b)
    congr 1
    rw [← nat_beq]
    simp [PyData.eqv]
theorem eqv_nat (a b : List Nat) : PyData.eqv (natD a) (natD b) = (a == b) := by
  unfold natD
  rw [← eqv_all]
  simp only [PyData.eqv]
theorem lay_nat : ∀ c : List Nat, PyData.canLayAll0 (c.map fun i : Nat => PyData.int (i : Int)) = true
  | [] => rfl
  | i :: c => by
    rw [List.map_cons]
    simp only [PyData.canLayAll0, PyData.canLay0, lay_nat c, Bool.and_true]
theorem dep_nat : ∀ c : List Nat, PyData.depthAll (c.map fun i : Nat => PyData.int (i : Int)) = 0
  | [] => rfl
  | i :: c => by
    rw [List.map_cons]
    simp [PyData.depthAll, PyData.depth, dep_nat c]
theorem shaped_nat (c : List Nat) : SeqAt.shaped (natD c) = true := by
  unfold SeqAt.shaped natD
  have h1 : PyData.canLay0 (.tuple (c.map fun i : Nat => PyData.int (i : Int))) = true := by
    simp only [PyData.canLay0, lay_nat c]
  have h2 : PyData.depth (.tuple (c.map fun i : Nat => PyData.int (i : Int))) ≤ 64 := by
    simp [PyData.depth, dep_nat c]
  rw [h1, Bool.true_and]
  exact decide_eq_true h2
theorem cut_some (xs : List V) (k : Nat) : cutV xs none (some (k : Int)) = xs.take k := by
  unfold cutV
  rw [HT.sIx_none, HT.sIx_nat, Nat.sub_zero, List.drop_zero]
  by_cases h : k ≤ xs.length
  · rw [Nat.min_eq_left h]
  · rw [Nat.min_eq_right (by omega), List.take_length, List.take_of_length_le (by omega)]
theorem lists_len (n : Nat) : ∀ k, (lists n k).length ≤ n ^ k
  | 0 => Nat.le_refl _
  | k + 1 => by
    show ((lists n k).flatMap fun row => ((List.range n).filter fun p => !row.contains p).map fun p => row ++ [p]).length ≤ _
    rw [List.length_flatMap]
    have h1 : ∀ l : List (List Nat), (l.map fun row => (((List.range n).filter fun p => !row.contains p).map fun p => row ++ [p]).length).sum ≤ l.length * n := fun l => by
      induction l with
      | nil => simp
      | cons a l ih =>
        have h2 := List.length_filter_le (fun p => !a.contains p) (List.range n)
        rw [List.length_range] at h2
        rw [List.map_cons, List.sum_cons, List.length_map, List.length_cons, Nat.succ_mul]
        omega
    have h3 := h1 (lists n k)
    have h4 := Nat.mul_le_mul_right n (lists_len n k)
    rw [Nat.pow_succ]
    exact Nat.le_trans h3 h4
theorem lists_len6 {n k : Nat} (hn : n ≤ 6) (hk : k ≤ n) : (lists n k).length ≤ 46656 :=
  Nat.le_trans (lists_len n k) (Nat.le_trans (Nat.pow_le_pow_left hn k) (Nat.pow_le_pow_right (by decide) (show k ≤ 6 by omega)))
theorem lists_row {n : Nat} : ∀ {k : Nat} {row : List Nat}, row ∈ lists n k → row.length = k
  | 0, row, h => by
    have : row = [] := by simpa [lists] using h
    rw [this]; rfl
  | k + 1, row, h => by
    obtain ⟨r, hr, h2⟩ := List.mem_flatMap.mp h
    obtain ⟨p, _, rfl⟩ := List.mem_map.mp h2
    rw [List.length_append, lists_row hr]
    rfl
theorem paired_append {α β : Type} {G : α → β → Prop} : ∀ {l : List α} {m : List β} {l2 : List α} {m2 : List β}, Paired G l m → Paired G l2 m2 → Paired G (l ++ l2) (m ++ m2)
  | [], [], _, _, _, h => h
  | _ :: _, _ :: _, _, _, .cons g r, h => .cons g (paired_append r h)
section
variable {P : Program} {w : World} {K : PySem.W.Frag} {mg : Str → Option Value} {base : Heap} {CB CO : Addr}
theorem sc_law_fits : FnScope ["_law_lots_here", "_law_order_here", "_law_sightings_here", "_law_crowd", "_law_seen"] ["_law_lots_here", "_law_order_here", "_law_sightings_here"] (defScope s_law_fits) := ⟨rfl, rfl, rfl, by decide +kernel, rfl, by decide +kernel, by decide +kernel⟩
def sp_law_fits : Sp := fun vs H Q _ => ∃ (a b c : Addr) (n : Nat) (ls : List (List Nat)) (sg : List (List Nat × List Nat)) (o : List Nat), vs = [.ref a, .ref b, .ref c] ∧ CrTT H a ls ∧ CrT H b o ∧ SgAt H c sg ∧ Part n o ∧ n ≤ 60 ∧ sg.length ≤ 1000 ∧ ls.length ≤ 1000 ∧ (∀ l ∈ ls, l.length ≤ 1000) ∧ ∀ H1, Same H H1 → Q (.bl (fits n ls sg o)) H1
theorem def_law_fits (T : Txt K mg CB CO) (D_law_in : Def P w K mg base "_law_in" ["_law_lots_here", "_law_order_here", "_law_crowd"] 1 sp_law_in) (S0 : Src K mg "_law_fits" s_law_fits) : Def P w K mg base "_law_fits" ["_law_lots_here", "_law_order_here", "_law_sightings_here"] 2 (sp_law_fits) := by
  have D_law_in := D_law_in.up (show 1 ≤ 1 by decide)
  refine S0.mk sc_law_fits (fun _ _ _ _ _ _ us hl => match us, hl with | [_, _, _], _ => rfl) (fun vs H Q E h => ?_) (fun f cdv A outer s H vs Q E hr h => ?_)
  · obtain ⟨a, b, c, n, ls, sg, o, rfl, ha, hb, hc, ho, hn, hsl, hll, hl2, k⟩ := h
    rfl
  · obtain ⟨a, b, c, n, ls, sg, o, rfl, ha, hb, hc, ho, hn, hsl, hll, hl2, k⟩ := h
    refine ⟨_, (pss_one (ps_ret (pe_callB (crAll K) (by rfl) T.all (by decide +kernel) (pa_cons (pe_lc (own := [("_law_crowd", 3), ("_law_seen", 4)]) rfl sc_law_fits.nd (piSeq (pv 2)) (blkOk_by (by kernel_rfl)) (fun _ _ _ _ _ => (pgTup K (n := 2) (by rfl) (pgs_cons (pg_name (i := 3) sc_law_fits.nd rfl (Or.inl rfl)) (pgs_cons (pg_name (i := 4) sc_law_fits.nd rfl (Or.inl rfl)) pgs_nil)))) (fun _ _ _ _ _ => pts_nil) (fun _ _ _ _ _ => (pe_cmpR (opEqD K (hu64 hr)) (pe_def D_law_in hr rfl (pa_cons (pv 0) (pa_cons (pv 1) (pa_cons (pv 3) pa_nil)))) (pv 4) (nomark _)))) pa_nil)))), ?_⟩
    obtain ⟨ps, oo, hoo, hv1, hv2⟩ := hc
    have lp := paired_len hv2
    refine ⟨_, rfl, c, ps, oo, rfl, hoo, hv1, fun J wk D hD => ?_⟩
    refine lc_same wk (fun _ v (b : Bool) => v = .bl b) (fun i => sg[i]?.bind fun z => some (letin n ls o z.1 == z.2)) hD (fun H5 s => s _ _ hv1) (fun _ _ _ _ _ e => e) (by omega) ?_ ?_
    · rintro i y H0 H5 K1 K2 hi s5 ⟨rfl, e⟩ k1 k2
      obtain ⟨z, ez, p, rfl, cr, se, hp, hcr, hse⟩ := paired_at hv2 e
      refine ⟨p, _, rfl, SqT.of (s5 _ _ hp), rfl, _, _, rfl, _, _, rfl, rfl, rfl, tyes ?_⟩
      refine ⟨_, rfl, _, rfl, _, rfl, a, b, cr, n, ls, o, z.1, rfl, ha.mono (ts_same s5), s5 _ _ hb, s5 _ _ hcr, ho, hn, hll, hl2, fun H6 x s6 hx => ?_⟩
      refine ⟨_, rfl, natD (letin n ls o z.1), natD z.2, dp_nat hx, dp_nat (s6 _ _ (s5 _ _ hse)), shaped_nat _, shaped_nat _, ?_⟩
      rw [eqv_nat]
      exact k1 _ _ _ s6 (by rw [ez]; rfl) rfl
    · intro H5 ys s5 e p
      rw [lp, fm_map, fm_some] at p
      rw [paired_val p] at e
      refine ⟨D, _, rfl, SqL.of e, ?_⟩
      rw [List.all_map]
      exact k _ s5
theorem sc_law_least_placed : FnScope ["_law_people", "_law_lots_here", "_law_sightings_here", "_law_found", "_law_turn", "_law_left", "_law_some", "_law_person"] ["_law_people", "_law_lots_here", "_law_sightings_here"] (defScope s_law_least_placed) := ⟨rfl, rfl, rfl, by decide +kernel, rfl, by decide +kernel, by decide +kernel⟩
def sp_law_least_placed : Sp := fun vs H Q _ => ∃ (a b : Addr) (n : Nat) (ls : List (List Nat)) (sg : List (List Nat × List Nat)), vs = [vN n, .ref a, .ref b] ∧ CrTT H a ls ∧ SgAt H b sg ∧ n ≤ 60 ∧ sg.length ≤ 1000 ∧ ls.length ≤ 1000 ∧ (∀ l ∈ ls, l.length ≤ 1000) ∧ ∀ H1 x, Same H H1 → CrT H1 x (placed n ls sg n) → Q (.ref x) H1
theorem def_law_least_placed (T : Txt K mg CB CO) (D_law_can_stand : Def P w K mg base "_law_can_stand" ["_law_lots_here", "_law_sightings_here", "_law_placed", "_law_person"] 2 sp_law_can_stand) (S0 : Src K mg "_law_least_placed" s_law_least_placed) : Def P w K mg base "_law_least_placed" ["_law_people", "_law_lots_here", "_law_sightings_here"] 3 (sp_law_least_placed) := by
  have D_law_can_stand := D_law_can_stand.up (show 2 ≤ 2 by decide)
  refine S0.mk sc_law_least_placed (fun _ _ _ _ _ _ us hl => match us, hl with | [_, _, _], _ => rfl) (fun vs H Q E h => ?_) (fun f cdv A outer s H vs Q E hr h => ?_)
  · obtain ⟨a, b, n, ls, sg, rfl, ha, hb, hn, hsl, hll, hl2, k⟩ := h
    rfl
  · obtain ⟨a, b, n, ls, sg, rfl, ha, hb, hn, hsl, hll, hl2, k⟩ := h
    refine ⟨_, (pss_cons (ps_set (i := 3) sc_law_least_placed.nd rfl (Or.inr rfl) (pe_tup pa_nil))
      (pss_cons (ps_for PassesOwn.never rfl (pi_range1 (by rfl) T.range (pa_cons (pv 0) pa_nil)) (pg_name (i := 4) sc_law_least_placed.nd rfl (Or.inl rfl)) (pss_cons (ps_setLc (i := 5) (own := [("_law_person", 7)]) rfl sc_law_least_placed.nd rfl rfl (sw_true rfl rfl rfl (by decide +kernel)) (pi_range1 (by rfl) T.range (pa_cons (pv 0) pa_nil)) (blkOk_by (by kernel_rfl)) (fun _ _ _ _ _ => (pg_name (i := 7) sc_law_least_placed.nd rfl (Or.inl rfl))) (fun _ _ _ _ _ => (pts_one (pt_cmpR (opNotIn K) (pv 7) (pv 3) (by rfl)))) (fun _ _ _ _ _ => (pv 7)))
      (pss_cons (ps_setLc (i := 6) (own := [("_law_person", 7)]) rfl sc_law_least_placed.nd rfl rfl (sw_true rfl rfl rfl (by decide +kernel)) (piL K (pv 5)) (blkOk_by (by kernel_rfl)) (fun _ _ _ _ _ => (pg_name (i := 7) sc_law_least_placed.nd rfl (Or.inl rfl))) (fun _ _ _ _ _ => (pts_one (pt_val (pe_def D_law_can_stand hr rfl (pa_cons (pv 1) (pa_cons (pv 2) (pa_cons (pv 3) (pa_cons (pv 7) pa_nil)))))))) (fun _ _ _ _ _ => (pv 7)))
      (pss_one (ps_set (i := 3) sc_law_least_placed.nd rfl (Or.inr rfl) (pe_op (opCatA K) (pv 3) (pe_callTy (crTup K) (by rfl) T.tuple (by decide +kernel) (pa_cons (pe_slice (slL K) (pv 6) po_none (po_some pe_int)) pa_nil))))))))
      (pss_one (ps_ret (pv 3))))), ?_⟩
    refine ⟨by show 0 ≤ sizeLine; decide, fun f hf => ?_⟩
    refine ⟨_, rfl, _, rfl, by omega, by omega, for_it walk_range (fun i σ H' => ∃ (fa : Addr) (a4 a5 a6 a7 : Option V), σ = [some (vN n), some (.ref a), some (.ref b), some (.ref fa), a4, a5, a6, a7] ∧ Same H H' ∧ CrT H' fa (placed n ls sg i)) ⟨f, _, _, _, _, rfl, same_new hf, upd_same⟩ (fun _ _ _ _ _ => trivial) ?_ ?_⟩
    · rintro i x σ H0 H' hi ⟨fa, a4, a5, a6, a7, rfl, s0, hfa⟩ ⟨rfl, rfl⟩
      have hple : (placed n ls sg i).length ≤ n := small_of (placed_part i).nd (placed_part i).lt
      refine ⟨_, rfl, _, rfl, by omega, by omega, fun D hD => ?_⟩
      refine lc_same walk_range (fun _ v (p : Nat) => v = vN p) (fun i' => if (!(placed n ls sg i).contains i') = true then some i' else none) hD (fun _ _ => trivial) (fun _ _ _ _ _ e => e) (by omega) ?_ ?_
      · rintro j y H3 H4 K1 K2 hj s3 ⟨rfl, ex⟩ k1 k2
        have ex2 : y = vN j := ex.trans (z_add j)
        subst ex2
        refine ⟨rfl, _, rfl, _, rfl, fa, _, rfl, .inr (SqT.of (s3 _ _ hfa)), rfl, flat_nat _, _, rfl, ?_⟩
        show (if (!inV (vN j) ((placed n ls sg i).map vN)) = true then _ else _)
        rw [inV_nat]
        cases h3 : (placed n ls sg i).contains j with
        | false => exact iteT ⟨_, rfl, k1 _ _ j (Same.refl _) (by rw [h3]; rfl) rfl⟩
        | true => exact iteF (k2 _ (Same.refl _) (by rw [h3]; rfl))
      · intro H3 ys s3 e3 p3
        have hfr : (List.range (n : Int).toNat).filterMap (fun i' => if (!(placed n ls sg i).contains i') = true then some i' else none) = (List.range n).filter fun p => !(placed n ls sg i).contains p := by
          rw [Int.toNat_natCast, fm_id]
        rw [hfr] at p3
        rw [paired_val p3] at e3
        have hlf : (((List.range n).filter fun p => !(placed n ls sg i).contains p).map vN).length ≤ n := by
          rw [List.length_map]
          have := List.length_filter_le (fun p => !(placed n ls sg i).contains p) (List.range n)
          rw [List.length_range] at this
          exact this
        have hlm : (((List.range n).filter fun p => !(placed n ls sg i).contains p).map vN).length = ((List.range n).filter fun p => !(placed n ls sg i).contains p).length := List.length_map _
        refine ⟨_, rfl, D, rfl, ⟨_, SqL.of e3⟩, fun D2 hD2 => ?_⟩
        refine lc_same walk_list (fun _ v (p : Nat) => v = vN p) (fun i' => ((List.range n).filter fun p => !(placed n ls sg i).contains p)[i']?.bind fun p => if stand ls sg (placed n ls sg i) p = true then some p else none) hD2 (fun H4 s => SqL.of (s _ _ e3)) (fun _ _ _ _ _ e => e) (by omega) ?_ ?_
        · rintro j y H4 H5 K1 K2 hj s4 ⟨rfl, e⟩ k1 k2
          obtain ⟨p, ep, rfl⟩ := map_at e
          have s04 := (s0.trans s3).trans s4
          refine ⟨rfl, _, rfl, _, rfl, _, rfl, _, rfl, a, b, fa, n, ls, sg, placed n ls sg i, p, rfl, ha.mono (ts_same s04), hb.same s04, s4 _ _ (s3 _ _ hfa), hsl, by omega, hll, hl2, fun H6 s6 => ⟨_, rfl, ?_⟩⟩
          cases hst : stand ls sg (placed n ls sg i) p with
          | true => exact iteT ⟨_, rfl, k1 _ _ p s6 (by rw [bind_if ep, hst]; rfl) rfl⟩
          | false => exact iteF (k2 _ s6 (by rw [bind_if ep, hst]; rfl))
        · intro H4 ys2 s4 e4 p4
          rw [hlm, fm_map, fm_id, cand_filter] at p4
          rw [paired_val p4] at e4
          refine ⟨_, rfl, _, rfl, _, rfl, D2, _, rfl, SqL.of e4, fun q hq => ?_⟩
          refine ⟨q, _, rfl, .inl ⟨SqL.of upd_same, fun t ht => ?_⟩⟩
          have s5 : Same H4 (upd (upd H4 q (.lst (cutV ((cand n ls sg (placed n ls sg i)).map vN) none (some 1)))) t (.tup (cutV ((cand n ls sg (placed n ls sg i)).map vN) none (some 1)))) := Same.trans (same_new hq) (same_new ht)
          have hcut : cutV ((cand n ls sg (placed n ls sg i)).map vN) none (some 1) = ((cand n ls sg (placed n ls sg i)).take 1).map vN := by
            rw [List.map_take]
            exact cut_some _ 1
          have htk : ((cand n ls sg (placed n ls sg i)).take 1).length ≤ 1 := by rw [List.length_take]; omega
          refine catA_of (s5 _ _ (s4 _ _ (s3 _ _ hfa))) upd_same (by rw [hcut, List.length_map, List.length_map]; omega) fun r H6 s6 hr => ?_
          refine ⟨r, _, _, _, _, rfl, ((((s0.trans s3).trans s4).trans s5).trans s6), ?_⟩
          show H6 r = _
          rw [hr, hcut, ← List.map_append] <;> rfl
    · rintro σ H' ⟨fa, a4, a5, a6, a7, rfl, s0, hfa⟩
      have hfa2 : CrT H' fa (placed n ls sg n) := by
        rw [Int.toNat_natCast] at hfa
        exact hfa
      exact ⟨_, rfl, k _ _ s0 hfa2⟩
theorem sc_law_lists : FnScope ["_law_people", "_law_found", "_law_turn", "_law_later", "_law_row", "_law_person"] ["_law_people"] (defScope s_law_lists) := ⟨rfl, rfl, rfl, by decide +kernel, rfl, by decide +kernel, by decide +kernel⟩
def sp_law_lists : Sp := fun vs H Q _ => ∃ n : Nat, vs = [vN n] ∧ n ≤ 6 ∧ ∀ H1 x xs, Same H H1 → H1 x = some (.lst xs) → CrsR H1 xs (lists n n) → Q (.ref x) H1
theorem def_law_lists (T : Txt K mg CB CO) (S0 : Src K mg "_law_lists" s_law_lists) : Def P w K mg base "_law_lists" ["_law_people"] 1 (sp_law_lists) := by
  refine S0.mk sc_law_lists (fun _ _ _ _ _ _ us hl => match us, hl with | [_], _ => rfl) (fun vs H Q E h => ?_) (fun f cdv A outer s H vs Q E hr h => ?_)
  · obtain ⟨n, rfl, hn, k⟩ := h
    rfl
  · obtain ⟨n, rfl, hn, k⟩ := h
    refine ⟨_, (pss_cons (ps_set (i := 1) sc_law_lists.nd rfl (Or.inl rfl) (pe_lst (pa_cons (pe_tup pa_nil) pa_nil)))
      (pss_cons (ps_for PassesOwn.never rfl (pi_range1 (by rfl) T.range (pa_cons (pv 0) pa_nil)) (pg_name (i := 2) sc_law_lists.nd rfl (Or.inl rfl)) (pss_cons (ps_set (i := 3) sc_law_lists.nd rfl (Or.inl rfl) (pe_lst pa_nil))
      (pss_cons (ps_for PassesOwn.never rfl (piL K (pv 1)) (pg_name (i := 4) sc_law_lists.nd rfl (Or.inr rfl)) (pss_one (ps_expr (peBm K PySem.F.plainAttrs_list PySem.F.slot_list_extend PySem.F.type_list_extend mt_extend (pv 3) (pa_cons (pe_lc (own := [("_law_person", 5)]) rfl sc_law_lists.nd (pi_range1 (by rfl) T.range (pa_cons (pv 0) pa_nil)) (blkOk_by (by kernel_rfl)) (fun _ _ _ _ _ => (pg_name (i := 5) sc_law_lists.nd rfl (Or.inl rfl))) (fun _ _ _ _ _ => (pts_one (pt_cmpR (opNotIn K) (pv 5) (pv 4) (by rfl)))) (fun _ _ _ _ _ => (pe_op (opCatA K) (pv 4) (pe_tup (pa_cons (pv 5) pa_nil))))) pa_nil)))))
      (pss_one (ps_set (i := 1) sc_law_lists.nd rfl (Or.inl rfl) (pv 3))))))
      (pss_one (ps_ret (pv 1))))), ?_⟩
    refine ⟨by show 0 ≤ sizeLine; decide, fun e0 he0 => ⟨by show 1 ≤ sizeLine; decide, fun f hf => ?_⟩⟩
    have s0 : Same H (upd (upd H e0 (.tup [])) f (.lst [.ref e0])) := Same.trans (same_new he0) (same_new hf)
    have nef : e0 ≠ f := ne_of_none upd_same hf
    refine ⟨_, rfl, _, rfl, by omega, by omega, for_it walk_range (fun i σ H' => ∃ (fa : Addr) (xs : List V) (a2 a3 a4 a5 : Option V), σ = [some (vN n), some (.ref fa), a2, a3, a4, a5] ∧ Same H H' ∧ H' fa = some (.lst xs) ∧ CrsR H' xs (lists n i)) ⟨f, _, _, _, _, _, rfl, s0, upd_same, .cons ⟨e0, rfl, by show upd _ _ _ e0 = _; rw [upd_ne nef, upd_same]; rfl⟩ .nil⟩ (fun _ _ _ _ _ => trivial) ?_ ?_⟩
    · rintro i x σ H0 H' hi ⟨fa, xs, a2, a3, a4, a5, rfl, s1, hfa, hxs⟩ ⟨rfl, rfl⟩
      have hi2 : i + 1 ≤ n := by rw [Int.toNat_natCast] at hi; exact hi
      have lx2 := paired_len hxs
      have hb1 := lists_len6 hn (show i ≤ n by omega)
      have hb2 := lists_len6 hn hi2
      refine ⟨Nat.zero_le _, fun g hg => ?_⟩
      have s2 : Same H' (upd H' g (.lst [])) := same_new hg
      refine ⟨_, rfl, fa, rfl, ⟨_, SqL.of (s2 _ _ hfa)⟩, for_list (K := K) (a := fa) (xs := xs) (fun j σ H2 => ∃ (ys : List V) (a4 a5 : Option V), σ = [some (vN n), some (.ref fa), some (V.int (0 + (i : Int))), some (.ref g), a4, a5] ∧ Same H' H2 ∧ H2 g = some (.lst ys) ∧ CrsR H2 ys (((lists n i).take j).flatMap fun row => ((List.range n).filter fun p => !row.contains p).map fun p => row ++ [p])) ⟨[], _, _, rfl, s2, upd_same, .nil⟩ (fun j σ H2 _ ⟨_, _, _, _, z, _⟩ => SqL.of (z _ _ hfa)) ?_ ?_⟩
      · rintro j y σ H2 hj ⟨ys, a4, a5, rfl, s3, e3, c3⟩
        obtain ⟨row, er, ra, rfl, hra⟩ := paired_at hxs hj
        have hra2 : CrT H2 ra row := hra.mono (ts_same s3)
        have hrl : row.length ≤ 1000 := by
          have := lists_row (List.mem_of_getElem? er)
          omega
        have lys := paired_len c3
        have hsub : (((lists n i).take j).flatMap fun row => ((List.range n).filter fun p => !row.contains p).map fun p => row ++ [p]).length ≤ (lists n (i + 1)).length := by
          show _ ≤ ((lists n i).flatMap fun row => ((List.range n).filter fun p => !row.contains p).map fun p => row ++ [p]).length
          conv => rhs; rw [← List.take_append_drop j (lists n i), List.flatMap_append, List.length_append]
          exact Nat.le_add_right _ _
        refine ⟨_, rfl, .inl ⟨rfl, _, SqL.of e3⟩, _, rfl, _, rfl, by omega, by omega, fun D hD => ?_⟩
        refine lc_same walk_range (fun H v c => ∃ a, v = V.ref a ∧ CrT H a c) (fun q => if (!row.contains q) = true then some (row ++ [q]) else none) hD (fun _ _ => trivial) (fun _ _ _ _ t ⟨a, e, r⟩ => ⟨a, e, r.mono t⟩) (by omega) ?_ ?_
        · rintro q y H3 H4 K1 K2 hq s4 ⟨rfl, ex⟩ k1 k2
          have ex2 : y = vN q := ex.trans (z_add q)
          subst ex2
          refine ⟨rfl, _, rfl, _, rfl, ra, _, rfl, .inr (SqT.of (s4 _ _ hra2)), rfl, flat_nat _, _, rfl, ?_⟩
          show (if (!inV (vN q) (row.map vN)) = true then _ else _)
          rw [inV_nat]
          cases h3 : row.contains q with
          | true => exact iteF (k2 _ (Same.refl _) (by rw [h3]; rfl))
          | false =>
            refine iteT ⟨_, rfl, _, rfl, by show 1 ≤ sizeLine; decide, fun t ht => ?_⟩
            refine catA_of (same_new ht _ _ (s4 _ _ hra2)) upd_same (by rw [List.length_map]; show _ + 1 ≤ _; omega) fun r H6 s6 hr => ?_
            refine k1 _ _ (row ++ [q]) (Same.trans (same_new ht) s6) (by rw [h3]; rfl) ⟨r, rfl, ?_⟩
            show H6 r = _
            rw [hr, List.map_append] <;> rfl
        · intro H3 zs s4 e4 p4
          have hfr : (List.range (n : Int).toNat).filterMap (fun q => if (!row.contains q) = true then some (row ++ [q]) else none) = ((List.range n).filter fun p => !row.contains p).map fun p => row ++ [p] := by
            rw [Int.toNat_natCast, fm_range]
          rw [hfr] at p4
          have lzs := paired_len p4
          have hzl : zs.length ≤ n := by
            rw [lzs, List.length_map]
            have := List.length_filter_le (fun p => !row.contains p) (List.range n)
            rw [List.length_range] at this
            exact this
          have e34 := s4 _ _ e3
          refine ⟨g, D, ys, zs, rfl, rfl, e34, e4, line2 (by omega), ys ++ zs, _, _, rfl, same_at (s3.trans s4) hg, upd_same, ?_⟩
          rw [take_next er, List.flatMap_append]
          refine paired_append ((c3.mono (ts_same s4)).mono (ts_lst e34)) ?_
          rw [List.flatMap_cons, List.flatMap_nil, List.append_nil]
          exact CrsR.mono (ts_lst e34) p4
      · rintro σ H2 ⟨ys, a4, a5, rfl, s3, e3, c3⟩
        rw [lx2, List.take_length] at c3
        exact ⟨_, rfl, g, ys, _, _, _, _, rfl, s1.trans s3, e3, c3⟩
    · rintro σ H' ⟨fa, xs, a2, a3, a4, a5, rfl, s1, hfa, hxs⟩
      rw [Int.toNat_natCast] at hxs
      exact ⟨_, rfl, k _ _ _ s1 hfa hxs⟩
end
end K43
/-! ## L3 -/
set_option Elab.async false
set_option linter.all false
set_option maxRecDepth 100000
set_option maxHeartbeats 1000000
/-! L3: alike, sightings. -/
namespace K43
open PySem PySem.Spec PyProof.Rows L2
def spIs0 : Sp := fun vs H Q _ => (vs = [.non, .non] ∨ ∃ i : Int, vs = [.int i, .int i]) ∧ ∀ H1, Same H H1 → Q (.bl true) H1
def spIsS (spP : Sp) : Sp := fun vs H Q E => spIs0 vs H Q E ∨ ∃ (a b : Addr) (xs ys : List V) (o1 o2 : HO), vs = [.ref a, .ref b] ∧ ((o1 = .lst xs ∧ o2 = .lst ys) ∨ (o1 = .tup xs ∧ o2 = .tup ys)) ∧ H a = some o1 ∧ H b = some o2 ∧ xs.length = ys.length ∧ ys.length ≤ 1000 ∧
  (∀ (i : Nat) (x y : V) (H' : Hp) (Q' : VK), xs[i]? = some x → ys[i]? = some y → Same H H' → (∀ H1, Same H' H1 → Q' (.bl true) H1) → spP [x, y] H' Q' E0) ∧ ∀ H1, Same H H1 → Q (.bl true) H1
theorem dec_tt (b : Bool) : decide (V.bl b = V.bl b) = true := decide_eq_true rfl
theorem not_tt (b : Bool) : (!decide (V.bl b = V.bl b)) = false := by rw [dec_tt] <;> rfl
section
variable {P : Program} {w : World} {K : PySem.W.Frag} {mg : Str → Option Value} {base : Heap} {CB CO : Addr}
theorem sc_law_is : FnScope ["_law_told", "_law_due", "_law_one", "_law_two"] ["_law_told", "_law_due"] (defScope s_law_is) := ⟨rfl, rfl, rfl, by decide +kernel, rfl, by decide +kernel, by decide +kernel⟩
theorem def_law_is0 (T : Txt K mg CB CO) (S0 : Src K mg "_law_is" s_law_is) : Def P w K mg base "_law_is" ["_law_told", "_law_due"] 1 spIs0 := by
  refine S0.mk sc_law_is (fun _ _ _ _ _ _ us hl => match us, hl with | [_, _], _ => rfl) (fun vs H Q E h => ?_) (fun f cdv A outer s H vs Q E hr h => ?_)
  · rcases h with ⟨rfl | ⟨i, rfl⟩, k⟩
    · rfl
    · rfl
  · show _
    refine ⟨_, (pss_cons (ps_if (pt_val (pe_callB (crIsiT K) (by rfl) T.isi (by decide +kernel) (pa_cons (pv 1) (pa_cons (pe_tup (pa_cons (pe_bltn (v := .ty "tuple") (by rfl) T.tuple (by decide +kernel) rfl) (pa_cons (pe_bltn (v := .ty "list") (by rfl) T.list (by decide +kernel) rfl) pa_nil))) pa_nil)))) (pss_cons (ps_if (PW.pt (pw_or (pt_cmpR op_ne (pe_callB (crIsi K) (by rfl) T.isi (by decide +kernel) (pa_cons (pv 0) (pa_cons (pe_bltn (v := .ty "tuple") (by rfl) T.tuple (by decide +kernel) rfl) pa_nil))) (pe_callB (crIsi K) (by rfl) T.isi (by decide +kernel) (pa_cons (pv 1) (pa_cons (pe_bltn (v := .ty "tuple") (by rfl) T.tuple (by decide +kernel) rfl) pa_nil))) (nomark _)) (pw_or1 (pt_not (pt_val (pe_callB (crIsiT K) (by rfl) T.isi (by decide +kernel) (pa_cons (pv 0) (pa_cons (pe_tup (pa_cons (pe_bltn (v := .ty "tuple") (by rfl) T.tuple (by decide +kernel) rfl) (pa_cons (pe_bltn (v := .ty "list") (by rfl) T.list (by decide +kernel) rfl) pa_nil))) pa_nil)))))))) (pss_one (ps_ret pe_bl)) pss_nil)
      (pss_one ps_never)) pss_nil)
      (pss_one (ps_ret (pe_and (pe_cmpR op_eq (pe_callB (crIsi K) (by rfl) T.isi (by decide +kernel) (pa_cons (pv 0) (pa_cons (pe_bltn (v := .ty "bool") (by rfl) T.bool (by decide +kernel) rfl) pa_nil))) (pe_callB (crIsi K) (by rfl) T.isi (by decide +kernel) (pa_cons (pv 1) (pa_cons (pe_bltn (v := .ty "bool") (by rfl) T.bool (by decide +kernel) rfl) pa_nil))) (nomark _)) (pe_one (pe_cmpR op_eq (pv 0) (pv 1) (nomark _))))))), ?_⟩
    rcases h with ⟨rfl | ⟨i, rfl⟩, k⟩
    · refine ⟨_, rfl, (by show 2 ≤ sizeLine; decide), fun p hp => ?_⟩
      refine ⟨_, p, _, _, _, false, rfl, upd_same, .cons (.ty _) (.cons (.ty _) .nil), .base .non, kitAny_cons (b := false) (r := false) (kit_ty (by decide +kernel)) (fun _ => kitAny_cons (b := false) (r := false) (kit_ty (by decide +kernel)) (fun _ => rfl) (fun q => Bool.noConfusion q)) (fun q => Bool.noConfusion q), _, rfl, iteF ?_⟩
      refine ⟨_, rfl, _, _, _, _, false, rfl, .ty _, .base .non, kit_ty (by decide +kernel), _, rfl, _, _, _, _, false, rfl, .ty _, .base .non, kit_ty (by decide +kernel), rfl, _, rfl, ?_⟩
      rw [dec_tt]
      exact iteT ⟨_, rfl, _, rfl, rfl, qT rfl (k _ (same_new hp))⟩
    · refine ⟨_, rfl, (by show 2 ≤ sizeLine; decide), fun p hp => ?_⟩
      refine ⟨_, p, _, _, _, false, rfl, upd_same, .cons (.ty _) (.cons (.ty _) .nil), .base (.int _), kitAny_cons (b := false) (r := false) (kit_ty (by decide +kernel)) (fun _ => kitAny_cons (b := false) (r := false) (kit_ty (by decide +kernel)) (fun _ => rfl) (fun q => Bool.noConfusion q)) (fun q => Bool.noConfusion q), _, rfl, iteF ?_⟩
      refine ⟨_, rfl, _, _, _, _, false, rfl, .ty _, .base (.int _), kit_ty (by decide +kernel), _, rfl, _, _, _, _, false, rfl, .ty _, .base (.int _), kit_ty (by decide +kernel), rfl, _, rfl, ?_⟩
      rw [dec_tt]
      exact iteT ⟨_, rfl, _, rfl, rfl, qT rfl (k _ (same_new hp))⟩
theorem def_law_is1 (spP : Sp) (T : Txt K mg CB CO) (D_law_is : Def P w K mg base "_law_is" ["_law_told", "_law_due"] 1 spP) (S0 : Src K mg "_law_is" s_law_is) : Def P w K mg base "_law_is" ["_law_told", "_law_due"] 2 (spIsS spP) := by
  have D_law_is := D_law_is.up (show 1 ≤ 1 by decide)
  refine S0.mk sc_law_is (fun _ _ _ _ _ _ us hl => match us, hl with | [_, _], _ => rfl) (fun vs H Q E h => ?_) (fun f cdv A outer s H vs Q E hr h => ?_)
  · rcases h with ⟨rfl | ⟨i, rfl⟩, k⟩ | ⟨a, b, xs, ys, o1, o2, rfl, _⟩
    · rfl
    · rfl
    · rfl
  · show _
    refine ⟨_, (pss_cons (ps_if (pt_val (pe_callB (crIsiT K) (by rfl) T.isi (by decide +kernel) (pa_cons (pv 1) (pa_cons (pe_tup (pa_cons (pe_bltn (v := .ty "tuple") (by rfl) T.tuple (by decide +kernel) rfl) (pa_cons (pe_bltn (v := .ty "list") (by rfl) T.list (by decide +kernel) rfl) pa_nil))) pa_nil)))) (pss_cons (ps_if (PW.pt (pw_or (pt_cmpR op_ne (pe_callB (crIsi K) (by rfl) T.isi (by decide +kernel) (pa_cons (pv 0) (pa_cons (pe_bltn (v := .ty "tuple") (by rfl) T.tuple (by decide +kernel) rfl) pa_nil))) (pe_callB (crIsi K) (by rfl) T.isi (by decide +kernel) (pa_cons (pv 1) (pa_cons (pe_bltn (v := .ty "tuple") (by rfl) T.tuple (by decide +kernel) rfl) pa_nil))) (nomark _)) (pw_or1 (pt_not (pt_val (pe_callB (crIsiT K) (by rfl) T.isi (by decide +kernel) (pa_cons (pv 0) (pa_cons (pe_tup (pa_cons (pe_bltn (v := .ty "tuple") (by rfl) T.tuple (by decide +kernel) rfl) (pa_cons (pe_bltn (v := .ty "list") (by rfl) T.list (by decide +kernel) rfl) pa_nil))) pa_nil)))))))) (pss_one (ps_ret pe_bl)) pss_nil)
      (pss_one (ps_ret (pe_and (pe_cmpR op_eq (pe_callB (crLen K) (by rfl) T.len (by decide +kernel) (pa_cons (pv 0) pa_nil)) (pe_callB (crLen K) (by rfl) T.len (by decide +kernel) (pa_cons (pv 1) pa_nil)) (nomark _)) (pe_one (pe_callB (crAll K) (by rfl) T.all (by decide +kernel) (pa_cons (pe_lc (own := [("_law_one", 2), ("_law_two", 3)]) rfl sc_law_is.nd (piZipA K (by rfl) T.zip (pa_cons (pv 0) (pa_cons (pv 1) pa_nil))) (blkOk_by (by kernel_rfl)) (fun _ _ _ _ _ => (pgTup K (n := 2) (by rfl) (pgs_cons (pg_name (i := 2) sc_law_is.nd rfl (Or.inl rfl)) (pgs_cons (pg_name (i := 3) sc_law_is.nd rfl (Or.inl rfl)) pgs_nil)))) (fun _ _ _ _ _ => pts_nil) (fun _ _ _ _ _ => (pe_def D_law_is hr rfl (pa_cons (pv 2) (pa_cons (pv 3) pa_nil))))) pa_nil))))))) pss_nil)
      (pss_one (ps_ret (pe_and (pe_cmpR op_eq (pe_callB (crIsi K) (by rfl) T.isi (by decide +kernel) (pa_cons (pv 0) (pa_cons (pe_bltn (v := .ty "bool") (by rfl) T.bool (by decide +kernel) rfl) pa_nil))) (pe_callB (crIsi K) (by rfl) T.isi (by decide +kernel) (pa_cons (pv 1) (pa_cons (pe_bltn (v := .ty "bool") (by rfl) T.bool (by decide +kernel) rfl) pa_nil))) (nomark _)) (pe_one (pe_cmpR op_eq (pv 0) (pv 1) (nomark _))))))), ?_⟩
    rcases h with ⟨rfl | ⟨i, rfl⟩, k⟩ | ⟨a, b, xs, ys, o1, o2, rfl, ho, ha, hb, hl, hll, hP, k⟩
    · refine ⟨_, rfl, (by show 2 ≤ sizeLine; decide), fun p hp => ?_⟩
      refine ⟨_, p, _, _, _, false, rfl, upd_same, .cons (.ty _) (.cons (.ty _) .nil), .base .non, kitAny_cons (b := false) (r := false) (kit_ty (by decide +kernel)) (fun _ => kitAny_cons (b := false) (r := false) (kit_ty (by decide +kernel)) (fun _ => rfl) (fun q => Bool.noConfusion q)) (fun q => Bool.noConfusion q), _, rfl, iteF ?_⟩
      refine ⟨_, rfl, _, _, _, _, false, rfl, .ty _, .base .non, kit_ty (by decide +kernel), _, rfl, _, _, _, _, false, rfl, .ty _, .base .non, kit_ty (by decide +kernel), rfl, _, rfl, ?_⟩
      rw [dec_tt]
      exact iteT ⟨_, rfl, _, rfl, rfl, qT rfl (k _ (same_new hp))⟩
    · refine ⟨_, rfl, (by show 2 ≤ sizeLine; decide), fun p hp => ?_⟩
      refine ⟨_, p, _, _, _, false, rfl, upd_same, .cons (.ty _) (.cons (.ty _) .nil), .base (.int _), kitAny_cons (b := false) (r := false) (kit_ty (by decide +kernel)) (fun _ => kitAny_cons (b := false) (r := false) (kit_ty (by decide +kernel)) (fun _ => rfl) (fun q => Bool.noConfusion q)) (fun q => Bool.noConfusion q), _, rfl, iteF ?_⟩
      refine ⟨_, rfl, _, _, _, _, false, rfl, .ty _, .base (.int _), kit_ty (by decide +kernel), _, rfl, _, _, _, _, false, rfl, .ty _, .base (.int _), kit_ty (by decide +kernel), rfl, _, rfl, ?_⟩
      rw [dec_tt]
      exact iteT ⟨_, rfl, _, rfl, rfl, qT rfl (k _ (same_new hp))⟩
    · rcases ho with ⟨rfl, rfl⟩ | ⟨rfl, rfl⟩
      · refine ⟨_, rfl, (by show 2 ≤ sizeLine; decide), fun p hp => ?_⟩
        have s1 : Same H (upd H p (.tup [.ty "tuple", .ty "list"])) := same_new hp
        refine ⟨_, p, _, _, _, true, rfl, upd_same, .cons (.ty _) (.cons (.ty _) .nil), .base (.lst (s1 _ _ hb)), kitAny_cons (b := false) (r := true) (kit_ty (by decide +kernel)) (fun _ => kitAny_cons (b := true) (r := true) (kit_ty (by decide +kernel)) (fun q => Bool.noConfusion q) (fun _ => rfl)) (fun q => Bool.noConfusion q), _, rfl, iteT ?_⟩
        refine ⟨_, rfl, _, _, _, _, false, rfl, .ty _, .base (.lst (s1 _ _ ha)), kit_ty (by decide +kernel), _, rfl, _, _, _, _, false, rfl, .ty _, .base (.lst (s1 _ _ hb)), kit_ty (by decide +kernel), rfl, _, rfl, ?_⟩
        rw [not_tt]
        refine iteF ⟨_, rfl, (by show 2 ≤ sizeLine; decide), fun p2 hp2 => ?_⟩
        have s2 : Same H (upd (upd H p (.tup [.ty "tuple", .ty "list"])) p2 (.tup [.ty "tuple", .ty "list"])) := s1.trans (same_new hp2)
        refine ⟨_, p2, _, _, _, true, rfl, upd_same, .cons (.ty _) (.cons (.ty _) .nil), .base (.lst (s2 _ _ ha)), kitAny_cons (b := false) (r := true) (kit_ty (by decide +kernel)) (fun _ => kitAny_cons (b := true) (r := true) (kit_ty (by decide +kernel)) (fun q => Bool.noConfusion q) (fun _ => rfl)) (fun q => Bool.noConfusion q), _, rfl, iteF ?_⟩
        refine ⟨_, rfl, a, xs, rfl, .inl (SqL.of (s2 _ _ ha)), _, rfl, b, ys, rfl, .inl (SqL.of (s2 _ _ hb)), rfl, _, rfl, ?_⟩
        rw [decide_eq_true (by rw [hl])]
        refine iteT ⟨_, rfl, _, rfl, a, b, xs, ys, rfl, .inl ⟨SqL.of (s2 _ _ ha), SqL.of (s2 _ _ hb), fun D hD => ?_⟩⟩
        refine lc_same (walk_zip (n := ys.length) (by omega)) (fun _ v (b : Bool) => v = .bl b) (fun _ => some true) hD (fun H3 s => ⟨SqL.of (s _ _ (s2 _ _ ha)), SqL.of (s _ _ (s2 _ _ hb))⟩) (fun _ _ _ _ _ e => e) (by omega) ?_ ?_
        · rintro i x H3 H4 K1 K2 hi s3 ⟨T0, x1, y1, rfl, hT, rfl, ex, ey⟩ k1 k2
          refine ⟨T0, _, rfl, SqT.of upd_same, rfl, _, _, rfl, _, _, rfl, rfl, rfl, tyes ?_⟩
          exact ⟨_, rfl, _, rfl, hP i x1 y1 _ _ ex ey ((s2.trans s3).trans (same_new hT)) fun H5 s5 => k1 _ _ true (Same.trans (same_new hT) s5) rfl rfl⟩
        · intro H3 zs s3 e3 p3
          rw [paired_val p3] at e3
          refine ⟨D, _, rfl, SqL.of e3, ?_⟩
          rw [all_true]
          exact k _ (s2.trans s3)
      · refine ⟨_, rfl, (by show 2 ≤ sizeLine; decide), fun p hp => ?_⟩
        have s1 : Same H (upd H p (.tup [.ty "tuple", .ty "list"])) := same_new hp
        refine ⟨_, p, _, _, _, true, rfl, upd_same, .cons (.ty _) (.cons (.ty _) .nil), .base (.tup (s1 _ _ hb)), kitAny_cons (b := true) (r := true) (kit_ty (by decide +kernel)) (fun q => Bool.noConfusion q) (fun _ => rfl), _, rfl, iteT ?_⟩
        refine ⟨_, rfl, _, _, _, _, true, rfl, .ty _, .base (.tup (s1 _ _ ha)), kit_ty (by decide +kernel), _, rfl, _, _, _, _, true, rfl, .ty _, .base (.tup (s1 _ _ hb)), kit_ty (by decide +kernel), rfl, _, rfl, ?_⟩
        rw [not_tt]
        refine iteF ⟨_, rfl, (by show 2 ≤ sizeLine; decide), fun p2 hp2 => ?_⟩
        have s2 : Same H (upd (upd H p (.tup [.ty "tuple", .ty "list"])) p2 (.tup [.ty "tuple", .ty "list"])) := s1.trans (same_new hp2)
        refine ⟨_, p2, _, _, _, true, rfl, upd_same, .cons (.ty _) (.cons (.ty _) .nil), .base (.tup (s2 _ _ ha)), kitAny_cons (b := true) (r := true) (kit_ty (by decide +kernel)) (fun q => Bool.noConfusion q) (fun _ => rfl), _, rfl, iteF ?_⟩
        refine ⟨_, rfl, a, xs, rfl, .inr (SqT.of (s2 _ _ ha)), _, rfl, b, ys, rfl, .inr (SqT.of (s2 _ _ hb)), rfl, _, rfl, ?_⟩
        rw [decide_eq_true (by rw [hl])]
        refine iteT ⟨_, rfl, _, rfl, a, b, xs, ys, rfl, .inr ⟨SqT.of (s2 _ _ ha), SqT.of (s2 _ _ hb), fun D hD => ?_⟩⟩
        refine lc_same (walk_zipT hl.symm) (fun _ v (b : Bool) => v = .bl b) (fun _ => some true) hD (fun H3 s => ⟨SqT.of (s _ _ (s2 _ _ ha)), SqT.of (s _ _ (s2 _ _ hb))⟩) (fun _ _ _ _ _ e => e) (by omega) ?_ ?_
        · rintro i x H3 H4 K1 K2 hi s3 ⟨T0, x1, y1, rfl, hT, rfl, ex, ey⟩ k1 k2
          refine ⟨T0, _, rfl, SqT.of upd_same, rfl, _, _, rfl, _, _, rfl, rfl, rfl, tyes ?_⟩
          exact ⟨_, rfl, _, rfl, hP i x1 y1 _ _ ex ey ((s2.trans s3).trans (same_new hT)) fun H5 s5 => k1 _ _ true (Same.trans (same_new hT) s5) rfl rfl⟩
        · intro H3 zs s3 e3 p3
          rw [paired_val p3] at e3
          refine ⟨D, _, rfl, SqL.of e3, ?_⟩
          rw [all_true]
          exact k _ (s2.trans s3)
theorem def_law_is2 (spP : Sp) (T : Txt K mg CB CO) (D_law_is : Def P w K mg base "_law_is" ["_law_told", "_law_due"] 2 spP) (S0 : Src K mg "_law_is" s_law_is) : Def P w K mg base "_law_is" ["_law_told", "_law_due"] 3 (spIsS spP) := by
  have D_law_is := D_law_is.up (show 2 ≤ 2 by decide)
  refine S0.mk sc_law_is (fun _ _ _ _ _ _ us hl => match us, hl with | [_, _], _ => rfl) (fun vs H Q E h => ?_) (fun f cdv A outer s H vs Q E hr h => ?_)
  · rcases h with ⟨rfl | ⟨i, rfl⟩, k⟩ | ⟨a, b, xs, ys, o1, o2, rfl, _⟩
    · rfl
    · rfl
    · rfl
  · show _
    refine ⟨_, (pss_cons (ps_if (pt_val (pe_callB (crIsiT K) (by rfl) T.isi (by decide +kernel) (pa_cons (pv 1) (pa_cons (pe_tup (pa_cons (pe_bltn (v := .ty "tuple") (by rfl) T.tuple (by decide +kernel) rfl) (pa_cons (pe_bltn (v := .ty "list") (by rfl) T.list (by decide +kernel) rfl) pa_nil))) pa_nil)))) (pss_cons (ps_if (PW.pt (pw_or (pt_cmpR op_ne (pe_callB (crIsi K) (by rfl) T.isi (by decide +kernel) (pa_cons (pv 0) (pa_cons (pe_bltn (v := .ty "tuple") (by rfl) T.tuple (by decide +kernel) rfl) pa_nil))) (pe_callB (crIsi K) (by rfl) T.isi (by decide +kernel) (pa_cons (pv 1) (pa_cons (pe_bltn (v := .ty "tuple") (by rfl) T.tuple (by decide +kernel) rfl) pa_nil))) (nomark _)) (pw_or1 (pt_not (pt_val (pe_callB (crIsiT K) (by rfl) T.isi (by decide +kernel) (pa_cons (pv 0) (pa_cons (pe_tup (pa_cons (pe_bltn (v := .ty "tuple") (by rfl) T.tuple (by decide +kernel) rfl) (pa_cons (pe_bltn (v := .ty "list") (by rfl) T.list (by decide +kernel) rfl) pa_nil))) pa_nil)))))))) (pss_one (ps_ret pe_bl)) pss_nil)
      (pss_one (ps_ret (pe_and (pe_cmpR op_eq (pe_callB (crLen K) (by rfl) T.len (by decide +kernel) (pa_cons (pv 0) pa_nil)) (pe_callB (crLen K) (by rfl) T.len (by decide +kernel) (pa_cons (pv 1) pa_nil)) (nomark _)) (pe_one (pe_callB (crAll K) (by rfl) T.all (by decide +kernel) (pa_cons (pe_lc (own := [("_law_one", 2), ("_law_two", 3)]) rfl sc_law_is.nd (piZipA K (by rfl) T.zip (pa_cons (pv 0) (pa_cons (pv 1) pa_nil))) (blkOk_by (by kernel_rfl)) (fun _ _ _ _ _ => (pgTup K (n := 2) (by rfl) (pgs_cons (pg_name (i := 2) sc_law_is.nd rfl (Or.inl rfl)) (pgs_cons (pg_name (i := 3) sc_law_is.nd rfl (Or.inl rfl)) pgs_nil)))) (fun _ _ _ _ _ => pts_nil) (fun _ _ _ _ _ => (pe_def D_law_is hr rfl (pa_cons (pv 2) (pa_cons (pv 3) pa_nil))))) pa_nil))))))) pss_nil)
      (pss_one (ps_ret (pe_and (pe_cmpR op_eq (pe_callB (crIsi K) (by rfl) T.isi (by decide +kernel) (pa_cons (pv 0) (pa_cons (pe_bltn (v := .ty "bool") (by rfl) T.bool (by decide +kernel) rfl) pa_nil))) (pe_callB (crIsi K) (by rfl) T.isi (by decide +kernel) (pa_cons (pv 1) (pa_cons (pe_bltn (v := .ty "bool") (by rfl) T.bool (by decide +kernel) rfl) pa_nil))) (nomark _)) (pe_one (pe_cmpR op_eq (pv 0) (pv 1) (nomark _))))))), ?_⟩
    rcases h with ⟨rfl | ⟨i, rfl⟩, k⟩ | ⟨a, b, xs, ys, o1, o2, rfl, ho, ha, hb, hl, hll, hP, k⟩
    · refine ⟨_, rfl, (by show 2 ≤ sizeLine; decide), fun p hp => ?_⟩
      refine ⟨_, p, _, _, _, false, rfl, upd_same, .cons (.ty _) (.cons (.ty _) .nil), .base .non, kitAny_cons (b := false) (r := false) (kit_ty (by decide +kernel)) (fun _ => kitAny_cons (b := false) (r := false) (kit_ty (by decide +kernel)) (fun _ => rfl) (fun q => Bool.noConfusion q)) (fun q => Bool.noConfusion q), _, rfl, iteF ?_⟩
      refine ⟨_, rfl, _, _, _, _, false, rfl, .ty _, .base .non, kit_ty (by decide +kernel), _, rfl, _, _, _, _, false, rfl, .ty _, .base .non, kit_ty (by decide +kernel), rfl, _, rfl, ?_⟩
      rw [dec_tt]
      exact iteT ⟨_, rfl, _, rfl, rfl, qT rfl (k _ (same_new hp))⟩
    · refine ⟨_, rfl, (by show 2 ≤ sizeLine; decide), fun p hp => ?_⟩
      refine ⟨_, p, _, _, _, false, rfl, upd_same, .cons (.ty _) (.cons (.ty _) .nil), .base (.int _), kitAny_cons (b := false) (r := false) (kit_ty (by decide +kernel)) (fun _ => kitAny_cons (b := false) (r := false) (kit_ty (by decide +kernel)) (fun _ => rfl) (fun q => Bool.noConfusion q)) (fun q => Bool.noConfusion q), _, rfl, iteF ?_⟩
      refine ⟨_, rfl, _, _, _, _, false, rfl, .ty _, .base (.int _), kit_ty (by decide +kernel), _, rfl, _, _, _, _, false, rfl, .ty _, .base (.int _), kit_ty (by decide +kernel), rfl, _, rfl, ?_⟩
      rw [dec_tt]
      exact iteT ⟨_, rfl, _, rfl, rfl, qT rfl (k _ (same_new hp))⟩
    · rcases ho with ⟨rfl, rfl⟩ | ⟨rfl, rfl⟩
      · refine ⟨_, rfl, (by show 2 ≤ sizeLine; decide), fun p hp => ?_⟩
        have s1 : Same H (upd H p (.tup [.ty "tuple", .ty "list"])) := same_new hp
        refine ⟨_, p, _, _, _, true, rfl, upd_same, .cons (.ty _) (.cons (.ty _) .nil), .base (.lst (s1 _ _ hb)), kitAny_cons (b := false) (r := true) (kit_ty (by decide +kernel)) (fun _ => kitAny_cons (b := true) (r := true) (kit_ty (by decide +kernel)) (fun q => Bool.noConfusion q) (fun _ => rfl)) (fun q => Bool.noConfusion q), _, rfl, iteT ?_⟩
        refine ⟨_, rfl, _, _, _, _, false, rfl, .ty _, .base (.lst (s1 _ _ ha)), kit_ty (by decide +kernel), _, rfl, _, _, _, _, false, rfl, .ty _, .base (.lst (s1 _ _ hb)), kit_ty (by decide +kernel), rfl, _, rfl, ?_⟩
        rw [not_tt]
        refine iteF ⟨_, rfl, (by show 2 ≤ sizeLine; decide), fun p2 hp2 => ?_⟩
        have s2 : Same H (upd (upd H p (.tup [.ty "tuple", .ty "list"])) p2 (.tup [.ty "tuple", .ty "list"])) := s1.trans (same_new hp2)
        refine ⟨_, p2, _, _, _, true, rfl, upd_same, .cons (.ty _) (.cons (.ty _) .nil), .base (.lst (s2 _ _ ha)), kitAny_cons (b := false) (r := true) (kit_ty (by decide +kernel)) (fun _ => kitAny_cons (b := true) (r := true) (kit_ty (by decide +kernel)) (fun q => Bool.noConfusion q) (fun _ => rfl)) (fun q => Bool.noConfusion q), _, rfl, iteF ?_⟩
        refine ⟨_, rfl, a, xs, rfl, .inl (SqL.of (s2 _ _ ha)), _, rfl, b, ys, rfl, .inl (SqL.of (s2 _ _ hb)), rfl, _, rfl, ?_⟩
        rw [decide_eq_true (by rw [hl])]
        refine iteT ⟨_, rfl, _, rfl, a, b, xs, ys, rfl, .inl ⟨SqL.of (s2 _ _ ha), SqL.of (s2 _ _ hb), fun D hD => ?_⟩⟩
        refine lc_same (walk_zip (n := ys.length) (by omega)) (fun _ v (b : Bool) => v = .bl b) (fun _ => some true) hD (fun H3 s => ⟨SqL.of (s _ _ (s2 _ _ ha)), SqL.of (s _ _ (s2 _ _ hb))⟩) (fun _ _ _ _ _ e => e) (by omega) ?_ ?_
        · rintro i x H3 H4 K1 K2 hi s3 ⟨T0, x1, y1, rfl, hT, rfl, ex, ey⟩ k1 k2
          refine ⟨T0, _, rfl, SqT.of upd_same, rfl, _, _, rfl, _, _, rfl, rfl, rfl, tyes ?_⟩
          exact ⟨_, rfl, _, rfl, hP i x1 y1 _ _ ex ey ((s2.trans s3).trans (same_new hT)) fun H5 s5 => k1 _ _ true (Same.trans (same_new hT) s5) rfl rfl⟩
        · intro H3 zs s3 e3 p3
          rw [paired_val p3] at e3
          refine ⟨D, _, rfl, SqL.of e3, ?_⟩
          rw [all_true]
          exact k _ (s2.trans s3)
      · refine ⟨_, rfl, (by show 2 ≤ sizeLine; decide), fun p hp => ?_⟩
        have s1 : Same H (upd H p (.tup [.ty "tuple", .ty "list"])) := same_new hp
        refine ⟨_, p, _, _, _, true, rfl, upd_same, .cons (.ty _) (.cons (.ty _) .nil), .base (.tup (s1 _ _ hb)), kitAny_cons (b := true) (r := true) (kit_ty (by decide +kernel)) (fun q => Bool.noConfusion q) (fun _ => rfl), _, rfl, iteT ?_⟩
        refine ⟨_, rfl, _, _, _, _, true, rfl, .ty _, .base (.tup (s1 _ _ ha)), kit_ty (by decide +kernel), _, rfl, _, _, _, _, true, rfl, .ty _, .base (.tup (s1 _ _ hb)), kit_ty (by decide +kernel), rfl, _, rfl, ?_⟩
        rw [not_tt]
        refine iteF ⟨_, rfl, (by show 2 ≤ sizeLine; decide), fun p2 hp2 => ?_⟩
        have s2 : Same H (upd (upd H p (.tup [.ty "tuple", .ty "list"])) p2 (.tup [.ty "tuple", .ty "list"])) := s1.trans (same_new hp2)
        refine ⟨_, p2, _, _, _, true, rfl, upd_same, .cons (.ty _) (.cons (.ty _) .nil), .base (.tup (s2 _ _ ha)), kitAny_cons (b := true) (r := true) (kit_ty (by decide +kernel)) (fun q => Bool.noConfusion q) (fun _ => rfl), _, rfl, iteF ?_⟩
        refine ⟨_, rfl, a, xs, rfl, .inr (SqT.of (s2 _ _ ha)), _, rfl, b, ys, rfl, .inr (SqT.of (s2 _ _ hb)), rfl, _, rfl, ?_⟩
        rw [decide_eq_true (by rw [hl])]
        refine iteT ⟨_, rfl, _, rfl, a, b, xs, ys, rfl, .inr ⟨SqT.of (s2 _ _ ha), SqT.of (s2 _ _ hb), fun D hD => ?_⟩⟩
        refine lc_same (walk_zipT hl.symm) (fun _ v (b : Bool) => v = .bl b) (fun _ => some true) hD (fun H3 s => ⟨SqT.of (s _ _ (s2 _ _ ha)), SqT.of (s _ _ (s2 _ _ hb))⟩) (fun _ _ _ _ _ e => e) (by omega) ?_ ?_
        · rintro i x H3 H4 K1 K2 hi s3 ⟨T0, x1, y1, rfl, hT, rfl, ex, ey⟩ k1 k2
          refine ⟨T0, _, rfl, SqT.of upd_same, rfl, _, _, rfl, _, _, rfl, rfl, rfl, tyes ?_⟩
          exact ⟨_, rfl, _, rfl, hP i x1 y1 _ _ ex ey ((s2.trans s3).trans (same_new hT)) fun H5 s5 => k1 _ _ true (Same.trans (same_new hT) s5) rfl rfl⟩
        · intro H3 zs s3 e3 p3
          rw [paired_val p3] at e3
          refine ⟨D, _, rfl, SqL.of e3, ?_⟩
          rw [all_true]
          exact k _ (s2.trans s3)
end
end K43
/-! ## L4 -/
set_option Elab.async false
set_option linter.all false
set_option maxRecDepth 100000
set_option maxHeartbeats 1000000
/-! L4: drawn sightings. -/
namespace K43
open PySem PySem.Spec PyProof.Rows L2
theorem inside_c (ls : List (List Nat)) (c : List Nat) : ∀ (r inn : List Nat), ∀ i ∈ inside ls c r inn, i ∈ inn ∨ i ∈ c
  | [], inn, i, h => .inl h
  | q :: r, inn, i, h => by
    have h' : i ∈ inside ls c r (if c.contains q && !barred ls inn q then inn ++ [q] else inn) := h
    rcases inside_c ls c r _ i h' with z | z
    · by_cases e : (c.contains q && !barred ls inn q) = true
      · rw [if_pos e] at z
        rcases List.mem_append.mp z with y | y
        · exact .inl y
        · have : i = q := by simpa using y
          rw [this]
          exact .inr (List.contains_iff_mem.mp (Bool.and_eq_true_iff.mp e).1)
      · rw [if_neg e] at z
        exact .inl z
    · exact .inr z
theorem letin_sub {n : Nat} {ls : List (List Nat)} {o c : List Nat} : ∀ i ∈ letin n ls o c, i ∈ c := fun i hi => by
  have h := (List.mem_filter.mp hi).2
  exact (inside_c ls c o [] i (List.contains_iff_mem.mp h)).resolve_left (fun z => by cases z)
theorem sights_put {n : Nat} {sg : List (List Nat × List Nat)} {z : List Nat × List Nat} (h : Sights n sg) (h1 : Crowd n z.1) (h2 : Crowd n z.2) (h3 : ∀ i ∈ z.2, i ∈ z.1) : Sights n (sg ++ [z]) := by
  have go : ∀ (q : List Nat × List Nat → Prop), (∀ y ∈ sg, q y) → q z → ∀ y ∈ sg ++ [z], q y := fun q ha hb y hy => by
    rcases List.mem_append.mp hy with e | e
    · exact ha y e
    · have : y = z := by simpa using e
      rw [this]; exact hb
  exact ⟨go _ h.crowd h1, go _ h.seen h2, go _ h.sub h3⟩
theorem sights_set {n : Nat} {sg : List (List Nat × List Nat)} {z : List Nat × List Nat} {d : Nat} (h : Sights n sg) (h1 : Crowd n z.1) (h2 : Crowd n z.2) (h3 : ∀ i ∈ z.2, i ∈ z.1) : Sights n (sg.set d z) := by
  have go : ∀ (q : List Nat × List Nat → Prop), (∀ y ∈ sg, q y) → q z → ∀ y ∈ sg.set d z, q y := fun q ha hb y hy => by
    rcases List.mem_or_eq_of_mem_set hy with e | e
    · exact ha y e
    · rw [e]; exact hb
  exact ⟨go _ h.crowd h1, go _ h.seen h2, go _ h.sub h3⟩
theorem paired_set {α β : Type} {G : α → β → Prop} : ∀ {l : List α} {m : List β} {d : Nat} {a : α} {b : β}, Paired G l m → G a b → Paired G (l.set d a) (m.set d b)
  | [], [], _, _, _, h, _ => h
  | _ :: _, _ :: _, 0, _, _, .cons _ r, g => .cons g r
  | _ :: _, _ :: _, d + 1, _, _, .cons g r, g2 => .cons g (paired_set r g2)
theorem pick3 : ∀ d : Nat, d < 3 → ∃ s : Nat, [V.int 3, V.int 5, V.int 6][d]? = some (vN s)
  | 0, _ => ⟨3, rfl⟩
  | 1, _ => ⟨5, rfl⟩
  | 2, _ => ⟨6, rfl⟩
  | n + 3, h => absurd h (by omega)
theorem ixN_at {n d : Nat} (h : d < n) : ixN n (d : Int) = some d := by
  unfold ixN
  simp [h]
theorem pair_crowd {H : Hp} {t cr : Addr} {v : V} {c s : List Nat} {ta : Addr} (hc : CrT H cr c) (hs : CrT H ta s) (ht : H t = some (.tup [.ref cr, .ref ta])) : PrT H t (c, s) := ⟨cr, ta, ht, hc, hs⟩
def SgI (h ca f a b : Addr) (n most : Nat) (H : Hp) (σ : L2.St) (H' : Hp) : Prop := ∃ (sg : List (List Nat × List Nat)) (ps : List V) (a6 a7 a8 a9 a10 : Option V), σ = [some (.ref h), some (vN n), some (.ref a), some (.ref b), some (vN most), some (.ref f), a6, a7, a8, a9, a10] ∧
  KH h ca H H' ∧ H' f = some (.lst ps) ∧ PrsR H' ps sg ∧ Sights n sg ∧ sg.length ≤ most
section
variable {P : Program} {w : World} {K : PySem.W.Frag} {mg : Str → Option Value} {base : Heap} {CB CO : Addr}
theorem sc_law_sightings : FnScope ["_law_hand_here", "_law_people", "_law_lots_here", "_law_order_here", "_law_most", "_law_found", "_law_turn", "_law_crowd", "_law_at", "_law_other", "_law_person"] ["_law_hand_here", "_law_people", "_law_lots_here", "_law_order_here", "_law_most"] (defScope s_law_sightings) := ⟨rfl, rfl, rfl, by decide +kernel, rfl, by decide +kernel, by decide +kernel⟩
def sp_law_sightings : Sp := fun vs H Q _ => ∃ (h ca a b : Addr) (n most : Nat) (ls : List (List Nat)) (o : List Nat), vs = [.ref h, vN n, .ref a, .ref b, vN most] ∧ HandAt H h ca ∧ CrTT H a ls ∧ CrT H b o ∧ Order n o ∧ n ≤ 12 ∧ most ≤ 20 ∧ ls.length ≤ 60 ∧ (∀ l ∈ ls, l.length ≤ 1000) ∧ ∀ H1 v ps sg, KH h ca H H1 → H1 v = some (.lst ps) → PrsR H1 ps sg → Sights n sg → sg.length ≤ most → H v = none → Q (.ref v) H1
theorem def_law_sightings (T : Txt K mg CB CO) (D_law_draw : Def P w K mg base "_law_draw" ["_law_hand_here", "_law_many"] 1 sp_law_draw) (D_law_in : Def P w K mg base "_law_in" ["_law_lots_here", "_law_order_here", "_law_crowd"] 1 sp_law_in) (D_law_part : Def P w K mg base "_law_part" ["_law_hand_here", "_law_people", "_law_share"] 2 sp_law_part) (D_law_order : Def P w K mg base "_law_order" ["_law_hand_here", "_law_people"] 2 sp_law_order) (S0 : Src K mg "_law_sightings" s_law_sightings) : Def P w K mg base "_law_sightings" ["_law_hand_here", "_law_people", "_law_lots_here", "_law_order_here", "_law_most"] 3 (sp_law_sightings) := by
  have D_law_draw := D_law_draw.up (show 1 ≤ 2 by decide)
  have D_law_in := D_law_in.up (show 1 ≤ 2 by decide)
  have D_law_part := D_law_part.up (show 2 ≤ 2 by decide)
  have D_law_order := D_law_order.up (show 2 ≤ 2 by decide)
  refine S0.mk sc_law_sightings (fun _ _ _ _ _ _ us hl => match us, hl with | [_, _, _, _, _], _ => rfl) (fun vs H Q E h => ?_) (fun f cdv A outer s H vs Q E hr h => ?_)
  · obtain ⟨h, ca, a, b, n, most, ls, o, rfl, hh, ha, hb, ho, hn, hmo, hll, hl2, k⟩ := h
    rfl
  · obtain ⟨h, ca, a, b, n, most, ls, o, rfl, hh, ha, hb, ho, hn, hmo, hll, hl2, k⟩ := h
    refine ⟨_, (pss_cons (ps_set (i := 5) sc_law_sightings.nd rfl (Or.inl rfl) (pe_lst pa_nil))
      (pss_cons (ps_for PassesOwn.never rfl (pi_range1 (by rfl) T.range (pa_cons (pe_def D_law_draw hr rfl (pa_cons (pv 0) (pa_cons (pe_op op_add (pv 4) pe_int) pa_nil))) pa_nil)) (pg_name (i := 6) sc_law_sightings.nd rfl (Or.inl rfl)) (pss_cons (ps_set (i := 7) sc_law_sightings.nd rfl (Or.inl rfl) (pe_def D_law_part hr rfl (pa_cons (pv 0) (pa_cons (pv 1) (pa_cons (pe_ix (ixL K) (pe_lst (pa_cons pe_int (pa_cons pe_int (pa_cons pe_int pa_nil)))) (pe_def D_law_draw hr rfl (pa_cons (pv 0) (pa_cons pe_int pa_nil))) (fun _ _ => rfl)) pa_nil)))))
      (pss_one (ps_expr (peBm K PySem.F.plainAttrs_list PySem.F.slot_list_append PySem.F.type_list_append mt_append (pv 5) (pa_cons (pe_tup (pa_cons (pv 7) (pa_cons (pe_def D_law_in hr rfl (pa_cons (pv 2) (pa_cons (pv 3) (pa_cons (pv 7) pa_nil)))) pa_nil))) pa_nil))))))
      (pss_cons (ps_if (PW.pt (pw_and (pt_cmpR op_gt (pe_callB (crLen K) (by rfl) T.len (by decide +kernel) (pa_cons (pv 5) pa_nil)) pe_int (nomark _)) (pw_and1 (pt_cmpR op_eq (pe_def D_law_draw hr rfl (pa_cons (pv 0) (pa_cons pe_int pa_nil))) pe_int (nomark _))))) (pss_cons (ps_set (i := 8) sc_law_sightings.nd rfl (Or.inl rfl) (pe_def D_law_draw hr rfl (pa_cons (pv 0) (pa_cons (pe_callB (crLen K) (by rfl) T.len (by decide +kernel) (pa_cons (pv 5) pa_nil)) pa_nil))))
      (pss_cons (ps_set (i := 7) sc_law_sightings.nd rfl (Or.inl rfl) (pe_ix (ixT K) (pe_ix (ixL K) (pv 5) (pv 8) (fun _ _ => rfl)) pe_int (fun _ _ => rfl)))
      (pss_one (ps_asg (pe_tup (pa_cons (pv 7) (pa_cons (pe_callTy (crTup K) (by rfl) T.tuple (by decide +kernel) (pa_cons (pe_lc (own := [("_law_person", 10)]) rfl sc_law_sightings.nd (piT K (pv 7)) (blkOk_by (by kernel_rfl)) (fun _ _ _ _ _ => (pg_name (i := 10) sc_law_sightings.nd rfl (Or.inl rfl))) (fun _ _ _ _ _ => (pts_one (pt_cmpR op_eq (pe_def D_law_draw hr rfl (pa_cons (pv 0) (pa_cons pe_int pa_nil))) pe_int (nomark _)))) (fun _ _ _ _ _ => (pv 10))) pa_nil)) pa_nil))) (pg_sub (pv 5) (pv 8) set_list))))) pss_nil)
      (pss_cons (ps_if (PW.pt (pw_and (pt_cmpR op_gt (pe_callB (crLen K) (by rfl) T.len (by decide +kernel) (pa_cons (pv 5) pa_nil)) pe_int (nomark _)) (pw_and1 (pt_cmpR op_eq (pe_def D_law_draw hr rfl (pa_cons (pv 0) (pa_cons pe_int pa_nil))) pe_int (nomark _))))) (pss_cons (ps_set (i := 9) sc_law_sightings.nd rfl (Or.inl rfl) (pe_def D_law_order hr rfl (pa_cons (pv 0) (pa_cons (pv 1) pa_nil))))
      (pss_cons (ps_set (i := 8) sc_law_sightings.nd rfl (Or.inl rfl) (pe_def D_law_draw hr rfl (pa_cons (pv 0) (pa_cons (pe_callB (crLen K) (by rfl) T.len (by decide +kernel) (pa_cons (pv 5) pa_nil)) pa_nil))))
      (pss_one (ps_asg (pe_tup (pa_cons (pe_ix (ixT K) (pe_ix (ixL K) (pv 5) (pv 8) (fun _ _ => rfl)) pe_int (fun _ _ => rfl)) (pa_cons (pe_def D_law_in hr rfl (pa_cons (pv 2) (pa_cons (pv 9) (pa_cons (pe_ix (ixT K) (pe_ix (ixL K) (pv 5) (pv 8) (fun _ _ => rfl)) pe_int (fun _ _ => rfl)) pa_nil)))) pa_nil))) (pg_sub (pv 5) (pv 8) set_list))))) pss_nil)
      (pss_one (ps_ret (pv 5))))))), ?_⟩
    refine seq_keep (fun σ' H' => ∃ f, H f = none ∧ σ' = [some (.ref h), some (vN n), some (.ref a), some (.ref b), some (vN most), some (.ref f), none, none, none, none, none] ∧ H' = upd H f (.lst [])) (fun D' kD => ⟨Nat.zero_le _, fun f hf => kD _ _ ⟨f, hf, rfl, rfl⟩⟩) ?_
    rintro σ H0 ⟨f, hf, rfl, rfl⟩
    have hfh := hh.new hf
    have kh0 : KH h ca H (upd H f (.lst [])) := KH.of hh (same_new hf)
    have part : Part n o := ⟨ho.nd, ho.lt⟩
    refine seq_keep (SgI h ca f a b n most H) (fun D' kD => ?_) ?_
    · refine ⟨_, rfl, _, rfl, _, _, rfl, rfl, h, ca, most + 1, rfl, kh0.2, by omega, by omega, fun H1 d k1 hd => ?_⟩
      refine ⟨_, rfl, by omega, by omega, for_it walk_range (fun i σ H' => ∃ (sg : List (List Nat × List Nat)) (ps : List V) (a6 a7 a8 a9 a10 : Option V), σ = [some (.ref h), some (vN n), some (.ref a), some (.ref b), some (vN most), some (.ref f), a6, a7, a8, a9, a10] ∧ KH h ca H H' ∧ H' f = some (.lst ps) ∧ PrsR H' ps sg ∧ Sights n sg ∧ sg.length = i) ⟨[], [], _, _, _, _, _, rfl, kh0.trans k1, k1.keep hfh.1 upd_same, .nil, ⟨fun _ h => (by cases h), fun _ h => (by cases h), fun _ h => (by cases h)⟩, rfl⟩ (fun _ _ _ _ _ => trivial) ?_ ?_⟩
      · rintro i x σ H0 H' hi ⟨sg, ps, a6, a7, a8, a9, a10, rfl, kh, e1, r1, q1, l1⟩ ⟨rfl, rfl⟩
        have hi2 : i < d := by rw [Int.toNat_natCast] at hi; exact hi
        have lps := paired_len r1
        refine ⟨_, rfl, _, rfl, by show 3 ≤ sizeLine; decide, fun q hq => ?_⟩
        have kq := kh.then_ (same_new (o := .lst [.int 3, .int 5, .int 6]) hq)
        refine ⟨_, rfl, h, ca, 3, rfl, kq.2, by decide, by decide, fun H2 d2 k2 hd2 => ?_⟩
        obtain ⟨s, hs⟩ := pick3 d2 hd2
        have eq2 := k2.keep (kh.2.new hq).1 upd_same
        refine ⟨q, _, d2, vN s, rfl, rfl, SqL.of eq2, at_of (j := d2) rfl hs, ?_⟩
        have k02 := kq.trans k2
        refine ⟨h, ca, n, s, rfl, k02.2, by omega, fun H3 cr c k3 hcr hc => ?_⟩
        have k03 := k02.trans k3
        have e3 : H3 f = some (.lst ps) := k3.keep hfh.1 (k2.keep hfh.1 (same_new hq _ _ e1))
        refine ⟨_, rfl, .inl ⟨rfl, _, SqL.of e3⟩, _, rfl, _, rfl, _, rfl, _, rfl, a, b, cr, n, ls, o, c, rfl, ha.mono (k03.ts hh), k03.ts hh _ _ hb, hcr, part, by omega, by omega, hl2, fun H4 y s4 hy => ?_⟩
        refine ⟨by show 2 ≤ sizeLine; decide, fun t ht => ?_⟩
        have s5 : Same H3 (upd H4 t (.tup [.ref cr, .ref y])) := s4.trans (same_new ht)
        have r3 : PrsR H3 ps sg := (r1.mono (ts_same (same_new hq))).mono ((k2.trans k3).ts (kq.2))
        refine ⟨f, ps, _, rfl, rfl, s5 _ _ e3, line1 (by omega), sg ++ [(c, letin n ls o c)], ps ++ [.ref t], _, _, _, _, _, rfl, KH.at hh (k03.then_ s5) hf, upd_same, ?_, sights_put q1 hc letin_crowd letin_sub, by rw [List.length_append, l1]; rfl⟩
        have ts1 := ts_lst (o := .lst (ps ++ [.ref t])) (s5 _ _ e3)
        refine paired_app ((r3.mono (ts_same s5)).mono ts1) ⟨t, rfl, PrT.mono ts1 ⟨cr, y, upd_same, s5 _ _ hcr, same_new ht _ _ hy⟩⟩
      · rintro σ H' ⟨sg, ps, a6, a7, a8, a9, a10, rfl, kh, e1, r1, q1, l1⟩
        rw [Int.toNat_natCast] at l1
        exact kD _ _ ⟨sg, ps, _, _, _, _, _, rfl, kh, e1, r1, q1, by omega⟩
    rintro σ H' ⟨sg, ps, a6, a7, a8, a9, a10, rfl, kh, e1, r1, q1, l1⟩
    refine seq_keep (SgI h ca f a b n most H) (fun D' kD => ?_) ?_
    · have lps := paired_len r1
      refine ⟨_, rfl, f, _, rfl, .inl (SqL.of e1), _, _, rfl, rfl, _, rfl, ?_⟩
      by_cases hpos : (ps.length : Int) > 0
      · rw [decide_eq_true hpos]
        refine iteT ⟨_, rfl, h, ca, 3, rfl, kh.2, by decide, by decide, fun H2 d2 k2 hd2 => ⟨rfl, _, rfl, ite_both ?_ (kD _ _ ⟨sg, ps, _, _, _, _, _, rfl, kh.trans k2, k2.keep hfh.1 e1, r1.mono (k2.ts kh.2), q1, l1⟩)⟩⟩
        have k02 := kh.trans k2
        have e2 := k2.keep hfh.1 e1
        have r2 := r1.mono (k2.ts kh.2)
        refine ⟨_, rfl, _, rfl, f, _, rfl, .inl (SqL.of e2), h, ca, ps.length, rfl, k02.2, by omega, by omega, fun H3 d k3 hd => ?_⟩
        have e3 := k3.keep hfh.1 e2
        have r3 := r2.mono (k3.ts k02.2)
        have k03 := k02.trans k3
        have hpd : ps[d]? = some ps[d] := List.getElem?_eq_getElem hd
        obtain ⟨z, ez, t, et, cr, se, ht, hcr, hse⟩ := paired_at r3 hpd
        rw [et] at hpd
        refine ⟨_, rfl, _, rfl, f, _, d, _, rfl, rfl, SqL.of e3, at_of (j := d) rfl hpd, t, _, 0, _, rfl, rfl, SqT.of ht, at_of (j := 0) rfl rfl, ?_⟩
        have hm := List.mem_of_getElem? ez
        refine ⟨_, rfl, _, rfl, cr, rfl, ⟨_, SqT.of hcr⟩, fun D hD => ?_⟩
        have lzm : (z.1.map vN).length = z.1.length := List.length_map _
        have lzc := crowd_len (q1.crowd z hm)
        refine lc_it walk_tup (fun i H' => ∃ c : List Nat, KH h ca H3 H' ∧ H' D = some (.lst (c.map vN)) ∧ c.Sublist (z.1.take i)) ⟨[], KH.at k03.2 (KH.of k03.2 (Same.refl _)) hD, upd_same, List.nil_sublist _⟩ (fun i H' _ ⟨_, y, _⟩ => SqT.of (y.ts k03.2 _ _ hcr)) ?_ ?_
        · rintro i x H0 H' hi ⟨c, k4, e4, hsl⟩ ⟨rfl, e⟩
          obtain ⟨p, ep, rfl⟩ := map_at e
          have hcl := hsl.length_le
          rw [List.length_take] at hcl
          refine ⟨rfl, _, rfl, h, ca, 2, rfl, k4.2, by decide, by decide, fun H5 d5 k5 hd5 => ⟨rfl, _, rfl, ite_both ?_ ?_⟩⟩
          · refine ⟨_, rfl, c.map vN, k5.keep (k03.2.new hD).1 e4, line1 (by rw [List.length_map]; omega), c ++ [p], KH.at k03.2 (k4.trans k5) hD, ?_, ?_⟩
            · rw [upd_same, List.map_append] <;> rfl
            · rw [take_next ep]
              exact hsl.append (List.Sublist.refl _)
          · refine ⟨c, k4.trans k5, k5.keep (k03.2.new hD).1 e4, ?_⟩
            rw [take_next ep]
            exact hsl.trans (List.sublist_append_left _ _)
        · rintro H4 ⟨c, k4, e4, hsl⟩
          rw [lzm, List.take_length] at hsl
          have k04 := k03.trans k4
          refine ⟨D, _, rfl, .inl ⟨SqL.of e4, fun t2 ht2 => ?_⟩⟩
          refine ⟨by show 2 ≤ sizeLine; decide, fun t3 ht3 => ?_⟩
          have s5 : Same H4 (upd (upd H4 t2 (.tup (c.map vN))) t3 (.tup [.ref cr, .ref t2])) := Same.trans (same_new ht2) (same_new ht3)
          have e5 := s5 _ _ (k4.keep hfh.1 e3)
          have n23 : t2 ≠ t3 := ne_of_none upd_same ht3
          refine ⟨_, rfl, _, rfl, f, ps, (d : Int), d, rfl, rfl, e5, ixN_at hd, kD _ _ ⟨sg.set d (z.1, c), ps.set d (.ref t3), _, _, _, _, _, rfl, KH.at hh (k04.then_ s5) hf, upd_same, ?_, sights_set q1 (q1.crowd z hm) ⟨(q1.crowd z hm).asc.sublist hsl, fun i hi => (q1.crowd z hm).lt i (hsl.subset hi)⟩ (fun i hi => hsl.subset hi), by rw [List.length_set]; exact l1⟩⟩
          have ts1 := ts_lst (o := .lst (ps.set d (.ref t3))) e5
          refine paired_set (((r3.mono (k4.ts k03.2)).mono (ts_same s5)).mono ts1) ⟨t3, rfl, PrT.mono ts1 ⟨cr, t2, upd_same, s5 _ _ (k4.ts k03.2 _ _ hcr), ?_⟩⟩
          show upd _ _ _ t2 = _
          rw [upd_ne n23, upd_same]
      · rw [decide_eq_false hpos]
        exact iteF (iteF (kD _ _ ⟨sg, ps, _, _, _, _, _, rfl, kh, e1, r1, q1, l1⟩))
    rintro σ H' ⟨sg, ps, a6, a7, a8, a9, a10, rfl, kh, e1, r1, q1, l1⟩
    refine seq_keep (SgI h ca f a b n most H) (fun D' kD => ?_) ?_
    · have lps := paired_len r1
      refine ⟨_, rfl, f, _, rfl, .inl (SqL.of e1), _, _, rfl, rfl, _, rfl, ?_⟩
      by_cases hpos : (ps.length : Int) > 1
      · rw [decide_eq_true hpos]
        refine iteT ⟨_, rfl, h, ca, 4, rfl, kh.2, by decide, by decide, fun H2 d2 k2 hd2 => ⟨rfl, _, rfl, ite_both ?_ (kD _ _ ⟨sg, ps, _, _, _, _, _, rfl, kh.trans k2, k2.keep hfh.1 e1, r1.mono (k2.ts kh.2), q1, l1⟩)⟩⟩
        have k02 := kh.trans k2
        have e2 := k2.keep hfh.1 e1
        have r2 := r1.mono (k2.ts kh.2)
        refine ⟨_, rfl, _, rfl, h, ca, n, rfl, k02.2, by omega, fun H3 oa oo k3 hoa hoo => ?_⟩
        have k03 := k02.trans k3
        have e3 := k3.keep hfh.1 e2
        have r3 := r2.mono (k3.ts k02.2)
        refine ⟨_, rfl, _, rfl, f, _, rfl, .inl (SqL.of e3), h, ca, ps.length, rfl, k03.2, by omega, by omega, fun H4 d k4 hd => ?_⟩
        have k04 := k03.trans k4
        have e4 := k4.keep hfh.1 e3
        have r4 := r3.mono (k4.ts k03.2)
        have hoa4 := k4.ts k03.2 _ _ hoa
        have hpd : ps[d]? = some ps[d] := List.getElem?_eq_getElem hd
        obtain ⟨z, ez, t, et, cr, se, ht, hcr, hse⟩ := paired_at r4 hpd
        rw [et] at hpd
        have hm := List.mem_of_getElem? ez
        have kh4 := k04
        refine ⟨_, rfl, _, rfl, f, _, d, _, rfl, rfl, SqL.of e4, at_of (j := d) rfl hpd, t, _, 0, _, rfl, rfl, SqT.of ht, at_of (j := 0) rfl rfl, ?_⟩
        refine ⟨_, rfl, _, rfl, _, rfl, _, rfl, f, _, d, _, rfl, rfl, SqL.of e4, at_of (j := d) rfl hpd, t, _, 0, _, rfl, rfl, SqT.of ht, at_of (j := 0) rfl rfl, ?_⟩
        refine ⟨a, oa, cr, n, ls, oo, z.1, rfl, ha.mono (kh4.ts hh), hoa4, hcr, ⟨hoo.nd, hoo.lt⟩, by omega, by omega, hl2, fun H5 y s5 hy => ?_⟩
        refine ⟨by show 2 ≤ sizeLine; decide, fun t3 ht3 => ?_⟩
        have s6 : Same H4 (upd H5 t3 (.tup [.ref cr, .ref y])) := s5.trans (same_new ht3)
        have e6 := s6 _ _ e4
        refine ⟨_, rfl, _, rfl, f, ps, (d : Int), d, rfl, rfl, e6, ixN_at hd, kD _ _ ⟨sg.set d (z.1, letin n ls oo z.1), ps.set d (.ref t3), _, _, _, _, _, rfl, KH.at hh (kh4.then_ s6) hf, upd_same, ?_, sights_set q1 (q1.crowd z hm) letin_crowd letin_sub, by rw [List.length_set]; exact l1⟩⟩
        have ts1 := ts_lst (o := .lst (ps.set d (.ref t3))) e6
        exact paired_set ((r4.mono (ts_same s6)).mono ts1) ⟨t3, rfl, PrT.mono ts1 ⟨cr, y, upd_same, s6 _ _ hcr, same_new ht3 _ _ hy⟩⟩
      · rw [decide_eq_false hpos]
        exact iteF (iteF (kD _ _ ⟨sg, ps, _, _, _, _, _, rfl, kh, e1, r1, q1, l1⟩))
    rintro σ H' ⟨sg, ps, a6, a7, a8, a9, a10, rfl, kh, e1, r1, q1, l1⟩
    exact ⟨_, rfl, k _ f ps sg kh e1 r1 q1 l1 hf⟩
end
end K43
/-! ## R5 -/
set_option Elab.async false
set_option linter.all false
set_option maxRecDepth 100000
set_option maxHeartbeats 1000000
/-! R5: sets of ints. -/
namespace L2
open PySem PySem.Spec PyProof.Rows
theorem k43_entry_ne : entryFor table "set.__ne__" = some Builtin.«frozenset.__ne__» := entryFor_alias (id' := "frozenset.__ne__") (by kernel_rfl) rfl (by decide +kernel) (by kernel_rfl)
theorem k43_nd_full : ∀ (l D : List Int), l.Nodup → (∀ x ∈ l, x ∈ D) → D.length ≤ l.length → ∀ x ∈ D, x ∈ l
  | [], D, _, _, hl, x, hx => by
    have : D = [] := List.length_eq_zero_iff.mp (Nat.le_zero.mp hl)
    rw [this] at hx; exact hx
  | a :: l, D, hn, hs, hl, x, hx => by
    obtain ⟨h1, h2⟩ := List.nodup_cons.mp hn
    have ha := hs a List.mem_cons_self
    have hle := List.length_erase_of_mem ha
    have hpos := List.length_pos_of_mem ha
    have ih := k43_nd_full l (D.erase a) h2 (fun y hy => (List.mem_erase_of_ne (fun z => h1 (by rw [← z]; exact hy))).mpr (hs y (List.mem_cons_of_mem _ hy))) (by rw [hle]; simp only [List.length_cons] at hl; omega)
    by_cases c : x = a
    · rw [c]; exact List.mem_cons_self
    · exact List.mem_cons_of_mem _ (ih x ((List.mem_erase_of_ne c).mpr hx))
section
variable {P : Program} {w : World} {A : Around} {E : Value → Shared → Prop} {s : Shared} {a b : Addr} {S S2 : Int → Bool} {n n2 : Nat} {Q : Value → Shared → Prop}
theorem k43_ne_sets (hu : A.units < cLine) (Ra : SetR w s.heap a S n) (Rb : SetR w s.heap b S2 n2) (h : ∀ (tk : Nat) (r : Bool), ((∃ k, S k ≠ S2 k) → r = true) → Q (.bool r) { s with toks := tk }) :
    wpAny (model P w) A (compareOp .NotEq (.ref a) (.ref b)) Q E s := by
  have hSa := Ra.setOf (P := P)
  have hSb := Rb.setOf (P := P)
  obtain ⟨oa, ea, pa, ta, ha, hxa, hda, hga, hna, hma, hba, hfa, hsa, _⟩ := id Ra
  obtain ⟨ob, eb, pb, tb, hb, hxb, hdb, hgb, hnb, hmb, hbb, hfb, hsb, _⟩ := id Rb
  have hTa : s.TypeIs (.ref a) "set" := ⟨_, ha, hxa.1⟩
  have hTb : s.TypeIs (.ref b) "set" := ⟨_, hb, hxb.1⟩
  show wpAny _ _ (richCompare .NotEq (.ref a) (.ref b)) _ _ _
  refine wpAny_richCompare_same_room hTa hTb F.slot_set_ne (wpAny_call_entry F.slot_set_ne hTa k43_entry_ne ?_ (F.args_set_ne_2 _ _)) hu
  unfold Builtin.«frozenset.__ne__»
  show wpAny _ _ (Builtin.Frozenset.slot1 "__ne__" _ >>= _) _ _ _
  refine wpAny_bind (m := Builtin.Frozenset.slot1 "__ne__" _) (wpAny_pure ?_)
  refine wpAny_bind (m := Builtin.Frozenset.isAnySet (.ref b)) ?_
  unfold Builtin.Frozenset.isAnySet orM
  refine wpAny_bind (wpAny_isInstance (b := true) hTb sub_set_self ?_)
  refine wpAny_pure ?_
  refine wp_if_neg (by simp) ?_
  refine wpAny_bind (m := Builtin.Frozenset.addrOf (.ref a)) (wpAny_pure ?_)
  refine wpAny_bind (m := Builtin.Frozenset.addrOf (.ref b)) (wpAny_pure ?_)
  refine wpAny_bind (m := Builtin.Frozenset.sizeOf a) ?_
  unfold Builtin.Frozenset.sizeOf
  refine wpAny_bind (wpAny_setEntries_of ha hda hfa (wpAny_pure ?_))
  refine wpAny_bind (wpAny_bind (wpAny_setEntries_of hb hdb hfb (wpAny_pure ?_)))
  dsimp only
  refine wpAny_bind (wpAny_mono (Q := fun (r : Bool) s' => s' = s ∧ (r = true → ∀ k, S k = S2 k)) ?_ (fun r s' hr => ?_) fun _ _ z => z)
  · by_cases hne : (ea.size != eb.size) = true
    · rw [if_pos hne]
      exact wpAny_pure ⟨rfl, fun z => by cases z⟩
    · rw [if_neg hne]
      have heq : ea.size = eb.size := by simpa using hne
      unfold andM
      refine wpAny_bind (wpAny_bind (wpAny_isInstance (b := false) hTa F.sub_set_frozenset ?_))
      refine wpAny_pure ?_
      refine wp_if_neg (by simp) ?_
      unfold Builtin.Frozenset.subsetOf
      refine wpAny_bind (m := Builtin.Frozenset.sizeOf a) ?_
      unfold Builtin.Frozenset.sizeOf
      refine wpAny_bind (wpAny_setEntries_of ha hda hfa (wpAny_pure ?_))
      refine wpAny_bind (wpAny_bind (wpAny_setEntries_of hb hdb hfb (wpAny_pure ?_)))
      refine wp_if_neg (by omega) ?_
      have good : ∀ e ∈ ea.toList ++ eb.toList, GoodE e := fun e he => by
        rcases List.mem_append.mp he with z | z
        · exact hga e z
        · exact hgb e z
      unfold setEpoch
      refine wpAny_bind (wpAny_bind (wpAny_setState_of ha hda hfa (wpAny_pure ?_)))
      refine wpAny_bind (m := Builtin.Frozenset.walkUnseen a b) ?_
      unfold Builtin.Frozenset.walkUnseen
      refine wpAny_bind (wpAny_setEntries_of ha hda hfa ?_)
      refine wpAny_bind (wpAny_setEntries_of hb hdb hfb ?_)
      refine wpAny_bind (wpAny_forIn_list _ (fun rest b s' => s' = s ∧ b.1 = none ∧ ∀ e ∈ rest, GoodE e) (fun b s' => s' = s ∧ b.1 = none) ?_ ?_ _ _ ⟨rfl, rfl, good⟩ |> fun z => wpAny_mono z ?_ fun _ _ y => y)
      · rintro ⟨b1, b2⟩ s' ⟨rfl, hb1⟩
        simp only at hb1
        subst hb1
        refine wpAny_pure ?_
        refine wpAny_bind (wpAny_forIn_list _ (fun rest b s'' => s'' = s' ∧ b.1 = none ∧ ∃ done, done ++ rest = ea.toList ∧ ∀ e ∈ done, S2 (keyOf e) = true) (fun b s'' => s'' = s' ∧ (b.1 = some false ∨ (b.1 = none ∧ ∀ e ∈ ea.toList, S2 (keyOf e) = true))) ?_ ?_ _ _ ⟨rfl, rfl, [], rfl, fun e he => by cases he⟩ |> fun z => wpAny_mono z ?_ fun _ _ y => y)
        · rintro ⟨b1, b2⟩ s'' ⟨rfl, hb1⟩
          simp only at hb1
          rcases hb1 with rfl | ⟨rfl, hall⟩
          · exact wpAny_pure ⟨rfl, fun z => by cases z⟩
          · refine wpAny_pure ⟨rfl, fun _ k => ?_⟩
            have hsub : ∀ x ∈ ea.toList.map keyOf, x ∈ eb.toList.map keyOf := fun x hx => by
              obtain ⟨e, he, rfl⟩ := List.mem_map.mp hx
              exact (hmb _).mp (hall e he)
            have hfull := k43_nd_full _ _ hna hsub (by rw [List.length_map, List.length_map, Array.length_toList, Array.length_toList]; omega)
            cases c : S k with
            | true => exact ((hmb k).mpr (hsub k ((hma k).mp c))).symm
            | false =>
              cases c2 : S2 k with
              | false => rfl
              | true => rw [(hma k).mpr (hfull k ((hmb k).mp c2))] at c; cases c
        · rintro ⟨hx, x⟩ rest ⟨b1, b2⟩ s'' ⟨rfl, hb1, done, hd, hall⟩
          have hmem : (hx, x) ∈ ea.toList := by rw [← hd]; exact List.mem_append_right _ List.mem_cons_self
          obtain ⟨k, tk, h1, h2⟩ := hga _ hmem
          simp only at h1 h2
          subst h1
          subst h2
          refine wpAny_bind (wpAny_holding (wpAny_setFind_of (knd := PySem.intKind P w) (k := k) (intKind_is P w k tk) rfl hSb fun r hr => ?_))
          cases r with
          | none => exact wpAny_pure ⟨rfl, .inl rfl⟩
          | some j =>
            refine wp_if_neg (by simp) ?_
            refine wpAny_bind (m := Builtin.Frozenset.unchanged _ a _) ?_
            unfold Builtin.Frozenset.unchanged setEpoch
            refine wpAny_bind (wpAny_bind (wpAny_setState_of ha hda hfa (wpAny_pure ?_)))
            refine wp_if_neg (by simp) ?_
            refine wpAny_pure (wpAny_pure ⟨rfl, rfl, done ++ [(hashInt k, .int k tk)], by rw [List.append_assoc]; exact hd, fun e he => ?_⟩)
            rcases List.mem_append.mp he with z | z
            · exact hall e z
            · have : e = (hashInt k, .int k tk) := by simpa using z
              rw [this]
              exact hr.symm
        · rintro ⟨b1, b2⟩ s'' ⟨rfl, hb1, done, hd, hall⟩
          rw [List.append_nil] at hd
          rw [hd] at hall
          exact ⟨rfl, .inr ⟨hb1, hall⟩⟩
      · rintro ⟨hx, x⟩ rest ⟨b1, b2⟩ s' ⟨rfl, hb1, hg⟩
        obtain ⟨k, tk, h1, h2⟩ := hg _ List.mem_cons_self
        simp only at h1 h2
        subst h1
        refine wpAny_bind (m := Builtin.Frozenset.quietEq (.int k tk)) (wpAny_pure ?_)
        refine wp_if_neg (by simp) ?_
        exact wpAny_pure ⟨rfl, rfl, fun e he => hg e (List.mem_cons_of_mem _ he)⟩
      · rintro ⟨b1, b2⟩ s' ⟨rfl, hb1, _⟩
        exact ⟨rfl, hb1⟩
  · obtain ⟨rfl, hr⟩ := hr
    refine wpAny_pure ⟨_, rfl, (fun z => by cases z), h s'.toks (!r) ?_⟩
    rintro ⟨k, hk⟩
    cases r with
    | false => rfl
    | true => exact absurd (hr rfl k) hk
end
end L2
/-! ## R6 -/
set_option Elab.async false
set_option linter.all false
set_option maxRecDepth 100000
set_option maxHeartbeats 3200000
/-! R6: set(xs) of a list of ints; != of two sets; sorted(set) of tuples of ints. -/
namespace L2
open PySem PySem.Spec PyProof.Rows
section
variable {P : Program} {w : World} {A : Around} {E : Value → Shared → Prop} {s : Shared}
/-- set(xs), xs a list of ints: the road of set(t) of a tuple, with the list's walk -/
theorem k43_set_listI {l : Addr} {items : Array Value} (ns : List Int) {Q : Value → Shared → Prop} (hh : A.handled = none) (hl : s.heap.IsList l items) (hit : IntsAre items.toList ns) (hb : ns.length + 1 < scanBound)
    (h : ∀ (h' : Heap) (tk c : Nat), SetR w h' s.heap.objs.size (fun j => decide (j ∈ ns)) c → c ≤ ns.length → (∀ b o, s.heap.get? b = some o → h'.get? b = some o) → Q (.ref s.heap.objs.size) { s with heap := h', toks := tk }) :
    wpAny (model P w) A (call (.type "set") [.ref l]) Q E s := by
  have hisz : items.size = ns.length := by
    have q := IntsAre.length hit
    rw [Array.length_toList] at q
    exact q
  obtain ⟨c, tl, hmro⟩ := F.called_set.mro
  have hmade := F.called_set.made
  have hsub := F.called_set.sub
  refine wpAny_call (codeAny_of_tree ?_)
  show wpAny _ _ (callAny (.type "set") _) _ _ _
  refine wpAny_pure ⟨Code.quiet_builtin _ (by decide +kernel), codeAny_builtin F.entry_type_call ?_⟩
  rw [Around.under_plain (weight_type_call_type "set" [.ref l] []) rfl]
  have h1 := F.called_set.notType
  have h2 := F.called_set.canCreate
  have hct := F.typeCall_set_1 (.ref l)
  repeat (any_goals (first | assumption | wp_step))
  refine codeAny_mono (code_set_led1 (.ref l) (E := E) (Q₁ := fun obj s₁ => obj = .ref s.heap.objs.size ∧ s₁ = { s with heap := s.heap.push { cls := .type "set", dict := none, data := .set #[] 0 (.fresh 0 0 (!w.params.followText "set-order")) } }) ⟨rfl, rfl⟩) fun r s₁ hr => ?_
  cases r with
  | error e => exact hr
  | ok fl =>
    cases fl with
    | ret obj =>
      obtain ⟨rfl, rfl⟩ := hr
      have hS : (s.heap.push { cls := .type "set", dict := none, data := .set #[] 0 (.fresh 0 0 (!w.params.followText "set-order")) }).get? s.heap.objs.size = some { cls := .type "set", dict := none, data := .set #[] 0 (.fresh 0 0 (!w.params.followText "set-order")) } := Heap.get?_push_size _ rfl
      have hT : Shared.TypeIs { s with heap := s.heap.push { cls := .type "set", dict := none, data := .set #[] 0 (.fresh 0 0 (!w.params.followText "set-order")) } } (.ref s.heap.objs.size) "set" := ⟨_, hS, rfl⟩
      have hli := F.called_set.init.lookup
      have hbi := F.called_set.init.bind (.ref s.heap.objs.size)
      repeat (any_goals (first | assumption | wp_step))
      refine codeAny_mono (codeAny_call_builtin (R := wants (fun r s₂ => r = .none ∧ ∃ h' tk c, s₂ = { s with heap := h', toks := tk } ∧ SetR w h' s.heap.objs.size (fun j => decide (j ∈ ns)) c ∧ c ≤ ns.length ∧
          (∀ b o, s.heap.get? b = some o → h'.get? b = some o)) E) F.called_set.init.plain F.entry_set_init (check_set_init_1 hT ?_)) fun r₂ s₂ hr₂ => ?_
      · obtain ⟨ol, hol, hcl, nl, hdl⟩ := hl
        obtain ⟨ocls, odict, odata, oslots⟩ := ol
        simp only at hcl hdl
        subst hcl; subst hdl
        have hol' : (s.heap.push { cls := .type "set", dict := none, data := .set #[] 0 (.fresh 0 0 (!w.params.followText "set-order")) }).get? l = some { cls := .type "list", dict := odict, data := .seq items nl, slots := oslots } := Heap.get?_push_of_some _ hol
        have hsls := F.sub_list_set
        have hslf := F.sub_list_frozenset
        have hne : (Value.type "list" == Value.type "dict") = false := by decide
        have hl1 : (s.heap.push { cls := .type "set", dict := none, data := .set #[] 0 (.fresh 0 0 (!w.params.followText "set-order")) }).IsList l items := ⟨_, hol', rfl, nl, rfl⟩
        unfold Builtin.«set.__init__» noKeywords Builtin.Frozenset.updateFrom
        generalize hPI : pyIter = PI
        wp_walk
        subst hPI
        refine wpAny_pyIter_list hl1 ?_
        refine wpAny_bind (wpAny_runValue ?_)
        have hlS : l < s.heap.objs.size := Heap.lt_size hol
        have hh3 : A.in1.in1.in1.handled = none := by simp [hh]
        have hneI : l ≠ (s.heap.push { cls := .type "set", dict := none, data := .set #[] 0 (.fresh 0 0 (!w.params.followText "set-order")) }).objs.size := by
          rw [Heap.size_push]; exact Nat.ne_of_lt (Nat.lt_succ_of_lt hlS)
        have hSf : s.heap.objs.size ∉ [(s.heap.push { cls := .type "set", dict := none, data := .set #[] 0 (.fresh 0 0 (!w.params.followText "set-order")) }).objs.size, l] := by
          rw [Heap.size_push]; simp only [List.mem_cons, List.mem_singleton, List.not_mem_nil, or_false, not_or]
          exact ⟨Nat.ne_of_lt (Nat.lt_succ_self _), Nat.ne_of_gt hlS⟩
        have hval : ∀ (i : Nat) (v : Value), items[i]? = some v → ∃ k t, ns[i]? = some k ∧ v = .int k t := fun i v hv => by
          have hi : i < ns.length := by rw [← hisz]; exact (Array.getElem?_eq_some_iff.mp hv).1
          obtain ⟨t, e⟩ := PyProof.Rows.IntsAre.int_at hit i v (by rw [Array.getElem?_toList]; exact hv)
          refine ⟨ns[i], t, List.getElem?_eq_getElem hi, ?_⟩
          rw [e, List.getD_eq_getElem?_getD, List.getElem?_eq_getElem hi] <;> rfl
        refine set_update_ints ((Walks.list hh3 _ l hneI items).toS) s.heap.objs.size
          hSf ns hisz hb hval (items.size - 0) 0 _ (by omega) (Nat.zero_le _)
          ⟨⟨_, Heap.get?_push_size _ rfl, rfl, rfl⟩, (hl1.push _)⟩ ?hS0 ?hR
        case hS0 =>
          have hget : ((s.heap.push { cls := .type "set", dict := none, data := .set #[] 0 (.fresh 0 0 (!w.params.followText "set-order")) }).push { cls := .type "list_iterator", data := .fields #[.ref l, .int 0 0] }).get? s.heap.objs.size
              = some { cls := .type "set", dict := none, data := .set #[] 0 (.fresh 0 0 (!w.params.followText "set-order")) } := Heap.get?_push_of_some _ hS
          exact ⟨0, Nat.le_refl 0, setR_new_at hget⟩
        case hR =>
          intro s' c' hm hc' hS'
          obtain ⟨h', g2, d', tk', os'⟩ := s'
          have eg : g2 = s.gens := hm.gens
          have ed : d' = s.drawn := hm.drawn
          have eo : os' = s.os := hm.os
          subst eg; subst ed; subst eo
          show wpAny _ _ _ _ _ _
          refine wpAny_pure ?_
          show wpAny _ _ (ret Value.none) _ _ _
          rw [hisz] at hc'
          refine wpAny_pure ⟨rfl, h', tk', c', rfl, hS', hc', fun b o e => ?_⟩
          have hb0 : b < s.heap.objs.size := Heap.lt_size e
          have hb1 : b ≠ s.heap.objs.size := Nat.ne_of_lt hb0
          have hb2 : b ≠ (s.heap.push { cls := .type "set", dict := none, data := .set #[] 0 (.fresh 0 0 (!w.params.followText "set-order")) }).objs.size := by
            rw [Heap.size_push]; exact Nat.ne_of_lt (Nat.lt_succ_of_lt hb0)
          exact hm.heap b o (by simp only [List.mem_cons, List.mem_singleton, List.not_mem_nil, or_false, not_or]; exact ⟨hb1, hb2⟩) (Heap.get?_push_of_some _ (Heap.get?_push_of_some _ e))
      · cases r₂ with
        | error e => exact hr₂
        | ok fl₂ =>
          cases fl₂ with
          | ret r =>
            obtain ⟨rfl, h', tk, c', rfl, hS', hc', hk'⟩ := hr₂
            repeat (any_goals (first | assumption | wp_step))
            exact h _ _ _ hS' hc' hk'
          | _ => exact hr₂.elim
    | _ => exact hr.elim
end
end L2
namespace K43
open PySem PySem.Spec PyProof.Rows L2
section
variable {X : Cx}
/-- set(xs), xs a list or a tuple of ints -/
def rSetI (K : PySem.W.Frag) (w : World) : List V → Hp → VK → Prop := fun xs H Q => ∃ (l : Addr) (ns : List Int), xs = [.ref l] ∧ (SqL K H l (ns.map V.int) ∨ SqT K H l (ns.map V.int)) ∧ ns.length ≤ 1000 ∧
  ∀ a c, H a = none → c ≤ ns.length → Q (.ref a) (upd H a (SetO w a (fun j => decide (j ∈ ns)) c))
theorem crSetI (K : PySem.W.Frag) (w : World) (hc : X.calm = true := by rfl) (hK : X.K = K := by rfl) (hw : X.w = w := by rfl) : CallR X (.type "set") (rSetI K w) := by
  subst hK
  subst hw
  intro pins s σ H vs us Q I r h
  obtain ⟨l, ns, rfl, hl, hn, q⟩ := h
  rw [Vals.ref1 r]
  have hn0 : H s.heap.objs.size = none := I.hok.fresh (Nat.le_refl _)
  rcases hl with hl | hl
  · obtain ⟨its, rv, hl, _⟩ := I.list hl
    refine k43_set_listI ns (I.ok.hd hc) hl.isList (by simpa using rv.ints) (by show ns.length + 1 < 4096; omega) fun h' tk c R hcn hk => ?_
    exact ⟨.ref _, _, I.laid (t' := tk) hk (Nat.le_refl _) (setO_new R), rfl, q _ c hn0 hcn⟩
  · obtain ⟨its, rv, hl, _⟩ := I.tuple hl
    refine call_set_tupI ns (I.ok.hd hc) hl (by simpa using rv.ints) (by show ns.length + 1 < 4096; omega) fun h' tk c R hcn hk => ?_
    exact ⟨.ref _, _, I.laid (t' := tk) hk (Nat.le_refl _) (setO_new R), rfl, q _ c hn0 hcn⟩
def rNeSet (w : World) : R2 := fun x y H Q => ∃ (a b : Addr) (S S2 : Int → Bool) (n n2 : Nat), x = .ref a ∧ y = .ref b ∧ H a = some (SetO w a S n) ∧ H b = some (SetO w b S2 n2) ∧ ∀ r : Bool, ((∃ k, S k ≠ S2 k) → r = true) → Q (.bl r) H
theorem opNeSet (w : World) (hu : X.A.units < cLine) (hw : X.w = w := by rfl) : OpR X (compareOp .NotEq) (rNeSet w) := by
  subst hw
  intro pins s σ H x y v u Q I rx ry h
  obtain ⟨a, b, S, S2, n, n2, rfl, rfl, ha, hb, q⟩ := h
  cases rx
  cases ry
  exact k43_ne_sets hu (setO_get I ha) (setO_get I hb) fun tk r hr => ⟨.bl r, H, I.tok _, rfl, q r hr⟩
end
end K43
/-! ## R7 -/
set_option Elab.async false
set_option linter.all false
set_option maxRecDepth 100000
set_option maxHeartbeats 3200000
/-! R7: sorted(set) of tuples of ints of any lengths. -/
namespace L2
open PySem PySem.Spec PyProof.Rows
def k43enc (q : Addr × List Int) : PyData := .tuple (q.2.map PyData.int)
theorem k43_le : PySem.W.dataLe false k43enc = fun p q => decide (p.2 ≤ q.2) := PySem.W.dataLe_rows (fun q : Addr × List Int => q.2)
theorem k43_reads_ints {h : Heap} : ∀ {its : List Value} {ns : List Int}, IntsAre its ns → ReadsAll h its (ns.map PyData.int) []
  | _, _, .nil => .nil
  | _, _, .cons k t r => ReadsAll.cons (as := []) (bs := []) (.int k t) (k43_reads_ints r)
section
variable {P : Program} {w : World} {A : Around} {E : Value → Shared → Prop} {s : Shared}
theorem k43_reads {h : Heap} {k : List Int} {b : Addr} (x : IsT P w h k b) : Reads h (.ref b) (.tuple (k.map PyData.int)) [] := by
  obtain ⟨b', its, e, ⟨o, ho, hc, n, hd⟩, hi⟩ := tupInts_of x
  injection e with e
  subst e
  exact .tuple ho hc hd (k43_reads_ints hi)
theorem k43_each : ∀ (L1 : List (Addr × List Int)), PySem.W.EachIs (fun (v : Value) (q : Addr × List Int) => v = .ref q.1) (L1.map fun q => Value.ref q.1) L1
  | [] => .nil
  | q :: L1 => .cons rfl (k43_each L1)
theorem k43_each_eq : ∀ {vs : List Value} {L1 : List (Addr × List Int)}, PySem.W.EachIs (fun (v : Value) (q : Addr × List Int) => v = .ref q.1) vs L1 → vs = L1.map fun q => Value.ref q.1
  | _, _, .nil => rfl
  | _, _, .cons h r => by rw [List.map_cons, ← h, ← k43_each_eq r]
theorem k43_each_reads {h : Heap} : ∀ (L1 : List (Addr × List Int)), (∀ q ∈ L1, IsT P w h q.2 q.1) → ∀ a : Addr, PySem.W.EachIs (fun (v : Value) (q : Addr × List Int) => ∃ as, Reads h v (k43enc q) as ∧ a ∉ as) (L1.map fun q => Value.ref q.1) L1
  | [], _, _ => .nil
  | q :: L1, hq, a => .cons ⟨[], k43_reads (hq q List.mem_cons_self), fun z => by cases z⟩ (k43_each_reads L1 (fun r hr => hq r (List.mem_cons_of_mem _ hr)) a)
theorem k43_sorted_setT {a : Addr} {L : List (Addr × List Int)} {es : Array (Int × Value)} {ep : Nat} {t : SetTable} {Q : Value → Shared → Prop} (R : SetTR P w s.heap a L es ep t) (hh : A.handled = none) (hu : A.units + 64 < cLine)
    (h0 : ∀ p ∈ L, p.2 ≠ [])
    (hQ : ∀ s' p (out : Array Value) (c : Nat) (L' : List (Addr × List Int)), (∀ b o, s.heap.get? b = some o → s'.heap.get? b = some o) → s'.gens = s.gens → s'.os = s.os → s.heap.objs.size ≤ p →
      s'.heap.get? p = some (seqObj "list" out c) → out.toList = L'.map (fun q => Value.ref q.1) → L'.Perm L → L'.Pairwise (fun q r => q.2 ≤ r.2) → Q (.ref p) s') :
    wpAny (model P w) A (call (.builtin "sorted") [.ref a]) Q E s := by
  obtain ⟨o, ho, hex, hd⟩ := R.ob
  have hsz := R.size
  have hfew := R.few
  refine Calls.call_function_entry kind_sorted plain_sorted entry_sorted (args_sorted1 _) ?_
  unfold Builtin.«sorted»
  refine wpAny_bind (m := checkCount "sorted" 1 1 _) (wpAny_pure ?_)
  refine wpAny_bind (collect_set (A := A.in1) hh ⟨o, ho, hex.1, hd⟩ R.fits (by unfold scanBound; omega) R.tab.ris R.led fun s1 vs k1 hz g1 o1 pm => ?_)
  have hes : es.toList.map (·.2) = L.map fun q => Value.ref q.1 := by
    rw [R.rows]
    unfold rowsOf
    rw [List.map_map] <;> rfl
  rw [hes] at pm
  have one : ∀ q ∈ L, ∀ r ∈ L, q.1 = r.1 → q = r := fun q hq r hr e => by
    have a1 := R.tup q hq
    have a2 := R.tup r hr
    rw [e] at a1
    exact Prod.ext e (a1.inj a2)
  have ord : ∀ vs : List Value, (∀ v ∈ vs, ∃ q ∈ L, v = Value.ref q.1) → ∃ L1 : List (Addr × List Int), vs = L1.map (fun q => Value.ref q.1) ∧ ∀ q ∈ L1, q ∈ L := fun vs => by
    induction vs with
    | nil => exact fun _ => ⟨[], rfl, fun q hq => (by cases hq)⟩
    | cons v vs ih =>
      intro hv
      obtain ⟨q, hq, e⟩ := hv v List.mem_cons_self
      obtain ⟨L1, e1, hs⟩ := ih fun u hu => hv u (List.mem_cons_of_mem _ hu)
      refine ⟨q :: L1, by rw [List.map_cons, e, e1], fun r hr => ?_⟩
      rcases List.mem_cons.mp hr with z | z
      · rw [z]; exact hq
      · exact hs r z
  obtain ⟨L1, hL1, hsub⟩ := ord vs fun v hv => by
    obtain ⟨q, hq, e⟩ := List.mem_map.mp (pm.mem_iff.mp hv)
    exact ⟨q, hq, e.symm⟩
  have nL : L.Nodup := nodup_of_map R.nd
  have pL : L1.Perm L := by
    have nref : (L.map fun q => Value.ref q.1).Nodup := by
      refine List.pairwise_map.mpr (List.Pairwise.imp_of_mem (fun {q r} hq hr hne e => ?_) nL)
      injection e with e
      exact hne (one q hq r hr e)
    rw [hL1] at pm
    have n1 : L1.Nodup := nodup_of_map (pm.nodup_iff.mpr nref)
    refine (List.perm_ext_iff_of_nodup n1 nL).mpr fun q => ⟨hsub q, fun hq => ?_⟩
    obtain ⟨r, hr, e⟩ := List.mem_map.mp (pm.mem_iff.mpr (List.mem_map.mpr ⟨q, hq, rfl⟩))
    injection e with e
    rw [← one r (hsub r hr) q hq e]
    exact hr
  have hvl : vs.length < 64 := by rw [pm.length_eq, List.length_map]; exact hfew
  refine wpAny_bind (wpAny_newList ?_ (by rw [sizeLine_eq]; omega))
  have hoL : (s1.heap.push (seqObj "list" vs.toArray 0)).get? s1.heap.objs.size = some (seqObj "list" vs.toArray 0) := Heap.get?_push_size _ rfl
  have tk : ∀ q ∈ L1, IsT P w (s1.heap.push (seqObj "list" vs.toArray 0)) q.2 q.1 := fun q hq => isT_keep (R.tup q (hsub q hq)) fun b u e => Heap.get?_push_of_some _ (k1 b u e)
  have hl1 : L1.length < 64 := by rw [pL.length_eq]; exact hfew
  have dz : ∀ q : Addr × List Int, (k43enc q).depth ≤ 1 := fun q => by
    have := PySem.W.depth_ints q.2
    unfold k43enc
    simp [PyData.depth, this]
  refine wpAny_bind (wpAny_holding (PySem.W.list_sort_data (s := { s1 with heap := s1.heap.push (seqObj "list" vs.toArray 0) }) (enc := k43enc) (R := fun v q => v = .ref q.1) (bs := L1) hoL (by rw [hL1]; exact k43_each L1) (by have := k43_each_reads L1 tk s1.heap.objs.size; rw [← hL1] at this; exact this)
    (PySem.W.AllAlike.of fun b b' => PySem.W.alike_ints b.2 b'.2) (.inl fun d hd => ?_) (by rw [sizeLine_eq]; omega) (fun q hq => ?_) fun out e1 e2 => ?_))
  · obtain ⟨q, hq, rfl⟩ := List.mem_map.mp hd
    have := h0 q (hsub q hq)
    unfold k43enc
    cases e : q.2 with
    | nil => exact absurd e this
    | cons x r => exact ⟨.int x, r.map PyData.int, rfl⟩
  · have := dz q
    show A.units + 1 + 1 + _ < _
    omega
  · rw [k43_le] at e2
    obtain ⟨c, hc⟩ := sortedHeap_at (vs := vs) (out := List.toArray out) hoL
    have e3 := k43_each_eq e2
    refine wpAny_pure ⟨_, rfl, hQ _ s1.heap.objs.size (List.toArray out) c (L1.mergeSort fun p q => decide (p.2 ≤ q.2)) (fun b u e => ?_) g1 o1 hz hc (by simpa using e3) ((List.mergeSort_perm _ _).trans pL) ?_⟩
    · have q := k1 b u e
      have hlt := Heap.lt_size q
      show (sortedHeap (s1.heap.push (seqObj "list" vs.toArray 0)) s1.heap.objs.size vs (List.toArray out)).get? b = some u
      rw [sortedHeap_old (Nat.ne_of_lt hlt) (by rw [size_push']; exact Nat.lt_succ_of_lt hlt)]
      exact Heap.get?_push_of_some _ q
    · have := List.pairwise_mergeSort (le := fun p q : Addr × List Int => decide (p.2 ≤ q.2)) (fun a b c h1 h2 => by
        simp only [decide_eq_true_eq] at h1 h2 ⊢
        exact List.le_trans h1 h2) (fun a b => by
        simp only [Bool.or_eq_true, decide_eq_true_eq]
        exact List.le_total _ _) L1
      exact this.imp fun h => of_decide_eq_true h
end
section
variable {X : Cx}
def rSortedTU (K : PySem.W.Frag) (P : Program) (w : World) : List V → Hp → VK → Prop := fun vs H Q => ∃ (a : Addr) (L : List (Addr × List Int)), vs = [V.ref a] ∧ H a = some (SetTO P w a L) ∧ (∀ p ∈ L, SqT K H p.1 (p.2.map V.int)) ∧
  (∀ p ∈ L, p.2 ≠ []) ∧
  ∀ (L' : List (Addr × List Int)) (p : Addr), L'.Perm L → (L'.map (·.2)).Nodup → L'.length < 64 → L'.Pairwise (fun q r => q.2 ≤ r.2) → H p = none → Q (.ref p) (upd H p (.lst (L'.map fun q => V.ref q.1)))
theorem cr_sortedTU (hc : X.calm = true) (hu : X.A.units + 64 < cLine) : CallR X (.builtin "sorted") (rSortedTU X.K X.prog X.w) := by
  intro pins s σ H vs us Q I r h
  obtain ⟨a, L, rfl, ha, hk, h0, q⟩ := h
  have R0 : SetT0 X.prog X.w s.heap a L := (I.hok a _ ha).1
  obtain ⟨es, ep, t, R⟩ := R0.full fun p hp => I.isT (hk p hp)
  rw [Vals.ref1 r]
  refine k43_sorted_setT R (I.ok.hd hc) hu h0 fun s' p out c L' k g o hp hg hout pm pw => ?_
  have hfew : L'.length < 64 := by rw [pm.length_eq]; exact R.few
  have hlen : (L'.map fun q => V.ref q.1).length ≤ sizeLine := by rw [List.length_map, sizeLine_eq]; omega
  have hn : H p = none := I.hok.fresh hp
  have hv : Vals (L'.map fun q => V.ref q.1) out.toList := by rw [hout]; exact vals_of_refs L'
  have J : Inv X pins σ (upd H p (.lst (L'.map fun q => V.ref q.1))) { s with heap := s'.heap, gens := s'.gens, drawn := s'.drawn, toks := s'.toks } :=
    I.call (ch := []) (Un.laid k hp hn) (I.hok.laid k hp ⟨hlen, out.toList, c, hv, hg⟩) (by rw [g]; exact I.bare) (fun _ z => nomatch z)
  have e : s' = { s with heap := s'.heap, gens := s'.gens, drawn := s'.drawn, toks := s'.toks } := by
    cases s'
    cases s
    cases o
    rfl
  rw [e]
  exact ⟨.ref p, _, J, rfl, q L' p pm ((pm.map (·.2)).nodup_iff.mpr R.nd) hfew pw hn⟩
end
end L2
namespace K43
open PySem PySem.Spec PyProof.Rows L2
section
variable {X : Cx}
theorem crSortedTU (K : PySem.W.Frag) (P : Program) (w : World) (hu : X.A.units + 64 < cLine) (hc : X.calm = true := by rfl) (hK : X.K = K := by rfl) (hP : X.prog = P := by rfl) (hw : X.w = w := by rfl) : CallR X (.builtin "sorted") (rSortedTU K P w) := by
  subst hK
  subst hP
  subst hw
  exact cr_sortedTU hc hu
theorem crSetOfT (K : PySem.W.Frag) (P : Program) (w : World) (hu : X.A.units + 64 < cLine) (hc : X.calm = true := by rfl) (hK : X.K = K := by rfl) (hP : X.prog = P := by rfl) (hw : X.w = w := by rfl) : CallR X (.type "set") (rSetOfT K P w) := by
  subst hK
  subst hP
  subst hw
  exact cr_setOfT hc hu
theorem crSortedSet (w : World) (hc : X.calm = true := by rfl) (hw : X.w = w := by rfl) : CallR X (.builtin "sorted") (rSortedSet w) := by
  subst hw
  exact cr_sortedSet hc
end
end K43
/-! ## L5 -/
set_option Elab.async false
set_option linter.all false
set_option maxRecDepth 100000
set_option maxHeartbeats 1000000
/-! L5: drawn lots. -/
namespace K43
open PySem PySem.Spec PyProof.Rows L2
def HpR (h f : Addr) (H : Hp) : List V → List (List Nat) → Prop := Paired fun v c => ∃ a, v = V.ref a ∧ a ≠ h ∧ a ≠ f ∧ H a = some (.lst (c.map vN))
theorem HpR.kx {h f : Addr} {H H' : Hp} {vs : List V} {cs : List (List Nat)} (k : Kx (fun b => b = h) H H') (r : HpR h f H vs cs) : HpR h f H' vs cs := Paired.mapP r fun v c ⟨a, e1, e2, e3, e4⟩ => ⟨a, e1, e2, e3, k _ _ e2 e4⟩
theorem HpR.put {h f : Addr} {H : Hp} {o : HO} {vs : List V} {cs : List (List Nat)} (r : HpR h f H vs cs) : HpR h f (upd H f o) vs cs := Paired.mapP r fun v c ⟨a, e1, e2, e3, e4⟩ => ⟨a, e1, e2, e3, by rw [upd_ne e3]; exact e4⟩
theorem asc_nats {n : Nat} {ns : List Int} (hp : ns.Pairwise (· < ·)) (ha : ∀ k ∈ ns, ∃ i : Nat, k = (i : Int) ∧ i < n) : ∃ e : List Nat, ns.map V.int = e.map vN ∧ Crowd n e ∧ e.length = ns.length := by
  have h1 : ns = (ns.map Int.toNat).map fun i : Nat => (i : Int) := by
    rw [List.map_map]
    conv => lhs; rw [← List.map_id ns]
    refine List.map_congr_left fun k hk => ?_
    obtain ⟨i, rfl, _⟩ := ha k hk
    rfl
  refine ⟨ns.map Int.toNat, ?_, ⟨?_, fun i hi => ?_⟩, List.length_map _⟩
  · conv => lhs; rw [h1]
    rw [List.map_map] <;> rfl
  · refine List.pairwise_map.mpr (List.Pairwise.imp_of_mem (fun {a b} ha' hb' hab => ?_) hp)
    obtain ⟨i, rfl, _⟩ := ha a ha'
    obtain ⟨j, rfl, _⟩ := ha b hb'
    rw [Int.toNat_natCast, Int.toNat_natCast]
    exact Int.ofNat_lt.mp hab
  · obtain ⟨k, hk, rfl⟩ := List.mem_map.mp hi
    obtain ⟨j, rfl, hj⟩ := ha k hk
    rw [Int.toNat_natCast]; exact hj
theorem pick8 : ∀ d : Nat, d < 8 → ∃ s : Nat, [V.int 2, V.int 2, V.int 2, V.int 3, V.int 3, V.int 4, V.int 2, V.int 5][d]? = some (vN s) ∧ s ≤ 5
  | 0, _ => ⟨2, rfl, by decide⟩
  | 1, _ => ⟨2, rfl, by decide⟩
  | 2, _ => ⟨2, rfl, by decide⟩
  | 3, _ => ⟨3, rfl, by decide⟩
  | 4, _ => ⟨3, rfl, by decide⟩
  | 5, _ => ⟨4, rfl, by decide⟩
  | 6, _ => ⟨2, rfl, by decide⟩
  | 7, _ => ⟨5, rfl, by decide⟩
  | n + 8, h => absurd h (by omega)
theorem le_lx : ∀ a b : List Nat, (a.map fun i : Nat => (i : Int)) ≤ (b.map fun i : Nat => (i : Int)) → a ≠ b → lx a b = true
  | [], [], _, h => absurd rfl h
  | [], _ :: _, _, _ => rfl
  | _ :: _, [], h, _ => by
    rw [List.map_cons, List.map_nil] at h
    simp at h
  | x :: a, y :: b, h, hne => by
    rw [List.map_cons, List.map_cons, List.cons_le_cons_iff] at h
    show (if x = y then lx a b else decide (x < y)) = true
    rcases h with h | ⟨h1, h2⟩
    · have : x < y := Int.ofNat_lt.mp h
      rw [if_neg (by omega)]
      exact decide_eq_true this
    · have h3 : x = y := Int.ofNat_inj.mp h1
      rw [if_pos h3]
      exact le_lx a b h2 fun z => hne (by rw [h3, z])
/-- nobody else's lot is within -/
def Least (cs : List (List Nat)) (c : List Nat) : Prop := ∀ o ∈ cs, (∀ x ∈ o, x ∈ c) → o = c
theorem lots_of {n : Nat} {cs ls : List (List Nat)} (hc : ∀ c ∈ cs, Crowd n c ∧ 2 ≤ c.length) (hl : ∀ l ∈ ls, l ∈ cs ∧ Least cs l) (ho : ls.Pairwise fun a b => lx a b = true) : Lots n ls :=
  ⟨fun l h => (hc l (hl l h).1).1, fun l h => (hc l (hl l h).1).2, ho, fun a ha b hb hne hs => hne ((hl b hb).2 a (hl a ha).1 hs)⟩
theorem refs_split {H : Hp} : ∀ {ts : List V} {cs : List (List Nat)}, CrsR H ts cs → ∃ ks : List (Addr × List Int), ts = ks.map (fun p => V.ref p.1) ∧ ks.map (·.2) = cs.map (fun c => c.map fun i : Nat => (i : Int)) ∧ ∀ p ∈ ks, H p.1 = some (.tup (p.2.map V.int))
  | [], [], _ => ⟨[], rfl, rfl, fun _ h => by cases h⟩
  | _ :: _, _ :: _, .cons ⟨a, e, h⟩ r => by
    obtain ⟨ks, h1, h2, h3⟩ := refs_split r
    subst e
    rename_i c cs'
    refine ⟨(a, c.map fun i : Nat => (i : Int)) :: ks, by rw [h1]; rfl, by rw [List.map_cons, List.map_cons, h2], fun p hp => ?_⟩
    rcases List.mem_cons.mp hp with e | e
    · rw [e]
      show H a = _
      rw [← map_vN]
      exact h
    · exact h3 p e
theorem refs_join {H : Hp} {cs : List (List Nat)} : ∀ {L : List (Addr × List Int)}, (∀ p ∈ L, H p.1 = some (.tup (p.2.map V.int)) ∧ ∃ c ∈ cs, p.2 = c.map fun i : Nat => (i : Int)) → ∃ ls : List (List Nat), CrsR H (L.map fun p => V.ref p.1) ls ∧ L.map (·.2) = ls.map (fun c => c.map fun i : Nat => (i : Int)) ∧ ∀ l ∈ ls, l ∈ cs
  | [], _ => ⟨[], .nil, rfl, fun _ h => by cases h⟩
  | p :: L, h => by
    obtain ⟨ls, h1, h2, h3⟩ := refs_join (L := L) fun q hq => h q (List.mem_cons_of_mem _ hq)
    obtain ⟨e1, c, hc, e2⟩ := h p List.mem_cons_self
    refine ⟨c :: ls, .cons ⟨p.1, rfl, ?_⟩ h1, by rw [List.map_cons, List.map_cons, h2, e2], fun l hl => ?_⟩
    · show H p.1 = _
      rw [e1, e2, ← map_vN]
    · rcases List.mem_cons.mp hl with e | e
      · rw [e]; exact hc
      · exact h3 l e
theorem cast_inj {a b : List Nat} (h : (a.map fun i : Nat => (i : Int)) = b.map fun i : Nat => (i : Int)) : a = b := by
  have := congrArg (fun l : List Int => l.map Int.toNat) h
  simp only [List.map_map] at this
  have e : (Int.toNat ∘ fun i : Nat => (i : Int)) = id := funext fun i => Int.toNat_natCast i
  rw [e, List.map_id, List.map_id] at this
  exact this
theorem pair_map_le {L : List (Addr × List Int)} {ls : List (List Nat)} (h : L.map (·.2) = ls.map (fun c => c.map fun i : Nat => (i : Int))) (hp : L.Pairwise fun q r => q.2 ≤ r.2) (hn : (L.map (·.2)).Nodup) : ls.Pairwise fun a b => lx a b = true := by
  have h1 : (L.map (·.2)).Pairwise fun a b => a ≤ b := List.pairwise_map.mpr hp
  rw [h] at h1 hn
  have h2 := List.pairwise_map.mp h1
  have h3 : ls.Pairwise fun a b => (a.map fun i : Nat => (i : Int)) ≠ (b.map fun i : Nat => (i : Int)) := List.pairwise_map.mp hn
  exact List.Pairwise.imp₂ (fun a b x y => le_lx a b x fun z => y (by rw [z])) h2 h3
theorem nd_lenA {α : Type} [DecidableEq α] : ∀ (l D : List α), l.Nodup → (∀ x ∈ l, x ∈ D) → l.length ≤ D.length
  | [], D, _, _ => Nat.zero_le _
  | a :: l, D, hn, hs => by
    obtain ⟨h1, h2⟩ := List.nodup_cons.mp hn
    have ha := hs a List.mem_cons_self
    have hle := List.length_erase_of_mem ha
    have hpos := List.length_pos_of_mem ha
    have ih := nd_lenA l (D.erase a) h2 fun y hy => (List.mem_erase_of_ne (fun z => h1 (by rw [← z]; exact hy))).mpr (hs y (List.mem_cons_of_mem _ hy))
    rw [List.length_cons]
    omega
section
variable {P : Program} {w : World} {K : PySem.W.Frag} {mg : Str → Option Value} {base : Heap} {CB CO : Addr}
theorem sc_law_lots : FnScope ["_law_hand_here", "_law_people", "_law_most", "_law_heaps", "_law_turn", "_law_size", "_law_heap", "_law_least", "_law_k", "_law_other", "_law_person"] ["_law_hand_here", "_law_people", "_law_most"] (defScope s_law_lots) := ⟨rfl, rfl, rfl, by decide +kernel, rfl, by decide +kernel, by decide +kernel⟩
def sp_law_lots : Sp := fun vs H Q _ => ∃ (h ca : Addr) (n most : Nat), vs = [.ref h, vN n, vN most] ∧ HandAt H h ca ∧ 1 ≤ n ∧ n ≤ 12 ∧ most ≤ 14 ∧ ∀ H1 x ls, KH h ca H H1 → CrTT H1 x ls → Lots n ls → ls.length ≤ 14 → Q (.ref x) H1
theorem def_law_lots (T : Txt K mg CB CO) (D_law_draw : Def P w K mg base "_law_draw" ["_law_hand_here", "_law_many"] 1 sp_law_draw) (S0 : Src K mg "_law_lots" s_law_lots) : Def P w K mg base "_law_lots" ["_law_hand_here", "_law_people", "_law_most"] 2 (sp_law_lots) := by
  have D_law_draw := D_law_draw.up (show 1 ≤ 1 by decide)
  refine S0.mk sc_law_lots (fun _ _ _ _ _ _ us hl => match us, hl with | [_, _, _], _ => rfl) (fun vs H Q E h => ?_) (fun f cdv A outer s H vs Q E hr h => ?_)
  · obtain ⟨h, ca, n, most, rfl, hh, hn1, hn, hmo, k⟩ := h
    rfl
  · obtain ⟨h, ca, n, most, rfl, hh, hn1, hn, hmo, k⟩ := h
    refine ⟨_, (pss_cons (ps_set (i := 3) sc_law_lots.nd rfl (Or.inl rfl) (pe_lst pa_nil))
      (pss_cons (ps_for PassesOwn.never rfl (pi_range1 (by rfl) T.range (pa_cons (pe_def D_law_draw hr rfl (pa_cons (pv 0) (pa_cons (pe_op op_add (pv 2) pe_int) pa_nil))) pa_nil)) (pg_name (i := 4) sc_law_lots.nd rfl (Or.inl rfl)) (pss_cons (ps_set (i := 5) sc_law_lots.nd rfl (Or.inl rfl) (pe_ix (ixL K) (pe_lst (pa_cons pe_int (pa_cons pe_int (pa_cons pe_int (pa_cons pe_int (pa_cons pe_int (pa_cons pe_int (pa_cons pe_int (pa_cons pe_int pa_nil))))))))) (pe_def D_law_draw hr rfl (pa_cons (pv 0) (pa_cons pe_int pa_nil))) (fun _ _ => rfl)))
      (pss_cons (ps_set (i := 6) sc_law_lots.nd rfl (Or.inr rfl) (pe_callB (crSortedSet w) (by rfl) T.sorted (by decide +kernel) (pa_cons (pe_callTy (crSetI K w) (by rfl) T.set (by decide +kernel) (pa_cons (pe_lc (own := [("_law_k", 8)]) rfl sc_law_lots.nd (pi_range1 (by rfl) T.range (pa_cons (pv 5) pa_nil)) (blkOk_by (by kernel_rfl)) (fun _ _ _ _ _ => (pg_name (i := 8) sc_law_lots.nd rfl (Or.inl rfl))) (fun _ _ _ _ _ => pts_nil) (fun _ _ _ _ _ => (pe_def D_law_draw hr rfl (pa_cons (pv 0) (pa_cons (pv 1) pa_nil))))) pa_nil)) pa_nil)))
      (pss_one (ps_if (pt_cmpR op_gt (pe_callB (crLen K) (by rfl) T.len (by decide +kernel) (pa_cons (pv 6) pa_nil)) pe_int (nomark _)) (pss_one (ps_expr (peBm K PySem.F.plainAttrs_list PySem.F.slot_list_append PySem.F.type_list_append mt_append (pv 3) (pa_cons (pv 6) pa_nil)))) pss_nil)))))
      (pss_cons (ps_set (i := 7) sc_law_lots.nd rfl (Or.inl rfl) (pe_lst pa_nil))
      (pss_cons (ps_for PassesOwn.never rfl (piL K (pv 3)) (pg_name (i := 6) sc_law_lots.nd rfl (Or.inr rfl)) (pss_one (ps_if (pt_not (pt_val (pe_callB (crAny K) (by rfl) T.any (by decide +kernel) (pa_cons (pe_lc (own := [("_law_other", 9)]) rfl sc_law_lots.nd (piL K (pv 3)) (blkOk_by (by kernel_rfl)) (fun _ _ _ _ _ => (pg_name (i := 9) sc_law_lots.nd rfl (Or.inl rfl))) (fun _ _ _ _ _ => pts_nil) (fun _ _ _ _ _ => (pe_and (pe_cmpR (opNeSet w (hu_of' hr)) (pe_callTy (crSetI K w) (by rfl) T.set (by decide +kernel) (pa_cons (pv 9) pa_nil)) (pe_callTy (crSetI K w) (by rfl) T.set (by decide +kernel) (pa_cons (pv 6) pa_nil)) (nomark _)) (pe_one (pe_callB (crAll K) (by rfl) T.all (by decide +kernel) (pa_cons (pe_lc (own := [("_law_person", 10)]) rfl sc_law_lots.nd (piL K (pv 9)) (blkOk_by (by kernel_rfl)) (fun _ _ _ _ _ => (pg_name (i := 10) sc_law_lots.nd rfl (Or.inl rfl))) (fun _ _ _ _ _ => pts_nil) (fun _ _ _ _ _ => (pe_cmpR (opIn K) (pv 10) (pv 6) (by rfl)))) pa_nil)))))) pa_nil)))) (pss_one (ps_expr (peBm K PySem.F.plainAttrs_list PySem.F.slot_list_append PySem.F.type_list_append mt_append (pv 7) (pa_cons (pe_callTy (crTup K) (by rfl) T.tuple (by decide +kernel) (pa_cons (pv 6) pa_nil)) pa_nil)))) pss_nil)))
      (pss_one (ps_ret (pe_callTy (crTup K) (by rfl) T.tuple (by decide +kernel) (pa_cons (pe_callB (crSortedTU K P w (hu64 hr)) (by rfl) T.sorted (by decide +kernel) (pa_cons (pe_callTy (crSetOfT K P w (hu64 hr)) (by rfl) T.set (by decide +kernel) (pa_cons (pv 7) pa_nil)) pa_nil)) pa_nil)))))))), ?_⟩
    refine seq_keep (fun σ' H' => ∃ f, H f = none ∧ σ' = [some (.ref h), some (vN n), some (vN most), some (.ref f), none, none, none, none, none, none, none] ∧ H' = upd H f (.lst [])) (fun D' kD => ⟨Nat.zero_le _, fun f hf => kD _ _ ⟨f, hf, rfl, rfl⟩⟩) ?_
    rintro σ H0 ⟨f, hf, rfl, rfl⟩
    have hfh := hh.new hf
    have kh0 : KH h ca H (upd H f (.lst [])) := KH.of hh (same_new hf)
    refine seq_keep (fun σ' H' => ∃ (vs : List V) (cs : List (List Nat)) (a4 a5 a6 : Option V), σ' = [some (.ref h), some (vN n), some (vN most), some (.ref f), a4, a5, a6, none, none, none, none] ∧ KH h ca H H' ∧ H' f = some (.lst vs) ∧ HpR h f H' vs cs ∧ (∀ c ∈ cs, Crowd n c ∧ 2 ≤ c.length) ∧ cs.length ≤ 14) (fun D' kD => ?_) ?_
    · refine ⟨_, rfl, _, rfl, _, _, rfl, rfl, h, ca, most + 1, rfl, kh0.2, by omega, by omega, fun H1 d k1 hd => ?_⟩
      refine ⟨_, rfl, by omega, by omega, for_it walk_range (fun i σ' H' => ∃ (vs : List V) (cs : List (List Nat)) (a4 a5 a6 : Option V), σ' = [some (.ref h), some (vN n), some (vN most), some (.ref f), a4, a5, a6, none, none, none, none] ∧ KH h ca H H' ∧ H' f = some (.lst vs) ∧ HpR h f H' vs cs ∧ (∀ c ∈ cs, Crowd n c ∧ 2 ≤ c.length) ∧ cs.length ≤ i) ⟨[], [], _, _, _, rfl, kh0.trans k1, k1.keep hfh.1 upd_same, .nil, (fun _ h => by cases h), Nat.le_refl _⟩ (fun _ _ _ _ _ => trivial) ?_ ?_⟩
      · rintro i x σ H0 H' hi ⟨vs, cs, a4, a5, a6, rfl, kh, e1, r1, q1, l1⟩ ⟨rfl, rfl⟩
        have hi2 : i < d := by rw [Int.toNat_natCast] at hi; exact hi
        have lvs := paired_len r1
        refine ⟨by show 8 ≤ sizeLine; decide, fun q hq => ?_⟩
        have kq := kh.then_ (same_new (o := .lst [.int 2, .int 2, .int 2, .int 3, .int 3, .int 4, .int 2, .int 5]) hq)
        refine ⟨_, rfl, h, ca, 8, rfl, kq.2, by decide, by decide, fun H2 d2 k2 hd2 => ?_⟩
        obtain ⟨s, hs, hs5⟩ := pick8 d2 hd2
        have eq2 := k2.keep (kh.2.new hq).1 upd_same
        refine ⟨q, _, d2, vN s, rfl, rfl, SqL.of eq2, at_of (j := d2) rfl hs, ?_⟩
        have k02 := kq.trans k2
        refine ⟨_, rfl, _, rfl, by omega, by omega, fun D hD => ?_⟩
        refine lc_it walk_range (fun i H' => ∃ c : List Nat, KH h ca H2 H' ∧ H' D = some (.lst (c.map vN)) ∧ c.length = i ∧ ∀ y ∈ c, y < n) ⟨[], KH.at k02.2 (KH.of k02.2 (Same.refl _)) hD, upd_same, rfl, fun _ h => by cases h⟩ (fun _ _ _ _ => trivial) ?_ ?_
        · rintro j y H3 H4 hj ⟨c, k4, e4, l4, q4⟩ ⟨rfl, rfl⟩
          refine ⟨rfl, tyes ⟨_, rfl, _, rfl, h, ca, n, rfl, k4.2, by omega, by omega, fun H5 d5 k5 hd5 => ?_⟩⟩
          refine ⟨c.map vN, k5.keep (k02.2.new hD).1 e4, line1 (by rw [List.length_map, l4]; omega), c ++ [d5], KH.at k02.2 (k4.trans k5) hD, by rw [upd_same, List.map_append]; rfl, by rw [List.length_append, l4]; rfl, fun z hz => ?_⟩
          rcases List.mem_append.mp hz with e | e
          · exact q4 z e
          · have : z = d5 := by simpa using e
            rw [this]; exact hd5
        · rintro H4 ⟨c, k4, e4, l4, q4⟩
          have hlc : c.length ≤ 5 := by rw [Int.toNat_natCast] at l4; omega
          have k04 := k02.trans k4
          have e4' := e4
          rw [map_vN] at e4'
          refine ⟨D, _, rfl, .inl (SqL.of e4'), by rw [List.length_map]; omega, fun sa cnt hsa hcnt => ?_⟩
          rw [List.length_map] at hcnt
          refine ⟨sa, _, cnt, rfl, upd_same, by omega, fun ns p hpw hmem hlen hp => ?_⟩
          obtain ⟨e, he1, he2, he3⟩ := asc_nats (n := n) hpw fun z hz => by
            have := of_decide_eq_true ((hmem z).mp hz)
            obtain ⟨y, hy, rfl⟩ := List.mem_map.mp this
            exact ⟨y, rfl, q4 y hy⟩
          rw [he1]
          have s5 : Same H4 (upd (upd H4 sa (SetO w sa (fun j => decide (j ∈ c.map fun i : Nat => (i : Int))) cnt)) p (.lst (e.map vN))) := Same.trans (same_new hsa) (same_new hp)
          have k05 := k04.then_ s5
          have f5 : upd (upd H4 sa (SetO w sa (fun j => decide (j ∈ c.map fun i : Nat => (i : Int))) cnt)) p (.lst (e.map vN)) f = some (.lst vs) := s5 _ _ (k4.keep hfh.1 (k2.keep hfh.1 (same_new hq _ _ e1)))
          have kk : Kx (fun b => b = h) H' (upd (upd H4 sa (SetO w sa (fun j => decide (j ∈ c.map fun i : Nat => (i : Int))) cnt)) p (.lst (e.map vN))) := (((Kx.of (same_new hq)).trans k2.1).trans k4.1).trans (Kx.of s5)
          have r5 := r1.kx kk
          refine ⟨_, rfl, p, _, rfl, .inl (SqL.of upd_same), _, _, rfl, rfl, _, rfl, ?_⟩
          have npf : p ≠ f := fun z => by
            rw [z] at hp
            have := same_new hsa (o := SetO w sa (fun j => decide (j ∈ c.map fun i : Nat => (i : Int))) cnt) _ _ (k4.keep hfh.1 (k2.keep hfh.1 (same_new hq _ _ e1)))
            rw [this] at hp; cases hp
          have nph : p ≠ h := ((k04.then_ (same_new hsa)).2.new hp).1
          by_cases c2 : ((e.map vN).length : Int) > 1
          · rw [decide_eq_true c2]
            rw [List.length_map] at c2
            refine iteT ⟨_, rfl, .inl ⟨rfl, _, SqL.of f5⟩, _, rfl, f, vs, .ref p, rfl, rfl, f5, line1 (by omega), vs ++ [.ref p], cs ++ [e], _, _, _, rfl, KH.at hh k05 hf, upd_same, ?_, fun z hz => ?_, by rw [List.length_append]; exact Nat.succ_le_succ l1⟩
            · exact paired_app r5.put ⟨p, rfl, nph, npf, by rw [upd_ne npf, upd_same]⟩
            · rcases List.mem_append.mp hz with y | y
              · exact q1 z y
              · have : z = e := by simpa using y
                rw [this]
                exact ⟨he2, by omega⟩
          · rw [decide_eq_false c2]
            exact iteF ⟨vs, cs, _, _, _, rfl, k05, f5, r5, q1, Nat.le_succ_of_le l1⟩
      · rintro σ H' ⟨vs, cs, a4, a5, a6, rfl, kh, e1, r1, q1, l1⟩
        rw [Int.toNat_natCast] at l1
        exact kD _ _ ⟨vs, cs, _, _, _, rfl, kh, e1, r1, q1, by omega⟩
    rintro σ H' ⟨vs, cs, a4, a5, a6, rfl, kh, e1, r1, q1, l1⟩
    have lvs := paired_len r1
    refine seq_keep (fun σ' H2 => ∃ g, H' g = none ∧ σ' = [some (.ref h), some (vN n), some (vN most), some (.ref f), a4, a5, a6, some (.ref g), none, none, none] ∧ H2 = upd H' g (.lst [])) (fun D' kD => ⟨Nat.zero_le _, fun g hg => kD _ _ ⟨g, hg, rfl, rfl⟩⟩) ?_
    rintro σ H0 ⟨g, hg, rfl, rfl⟩
    have sg0 : Same H' (upd H' g (.lst [])) := same_new hg
    refine ⟨_, rfl, f, rfl, ⟨_, SqL.of (sg0 _ _ e1)⟩, for_list (K := K) (a := f) (xs := vs) (fun i σ H2 => ∃ (ts : List V) (ls0 : List (List Nat)) (a6 a8 a9 a10 : Option V), σ = [some (.ref h), some (vN n), some (vN most), some (.ref f), a4, a5, a6, some (.ref g), a8, a9, a10] ∧ Same H' H2 ∧ H2 g = some (.lst ts) ∧ CrsR H2 ts ls0 ∧ (∀ l ∈ ls0, l ∈ cs ∧ Least cs l) ∧ ls0.length ≤ i) ⟨[], [], _, _, _, _, rfl, sg0, upd_same, .nil, (fun _ h => by cases h), Nat.le_refl _⟩ (fun i σ H2 _ ⟨_, _, _, _, _, _, _, z, _⟩ => SqL.of (z _ _ e1)) ?_ ?_⟩
    · rintro i x σ H2 hi ⟨ts, ls0, a6, a8, a9, a10, rfl, s2, e2, r2, q2, l2⟩
      obtain ⟨c, ec, pa, rfl, hpa1, hpa2, hpa⟩ := paired_at r1 hi
      have hcm := List.mem_of_getElem? ec
      have hcc := (q1 c hcm).1
      have hclen := crowd_len hcc
      have lts := paired_len r2
      have hi14 := len_at ec
      have hpa' := s2 _ _ hpa
      have e1' := s2 _ _ e1
      refine ⟨_, rfl, f, rfl, ⟨_, SqL.of e1'⟩, fun D hD => ?_⟩
      refine lc_it walk_list (fun j H3 => ∃ bs : List Bool, Same H2 H3 ∧ H3 D = some (.lst (bs.map V.bl)) ∧ bs.length = j ∧ ∀ (j' : Nat) (o : List Nat), j' < j → cs[j']? = some o → (∀ x ∈ o, x ∈ c) → o ≠ c → bs[j']? = some true) ⟨[], same_new hD, upd_same, rfl, fun j' o hj => absurd hj (Nat.not_lt_zero _)⟩ (fun j H3 _ ⟨_, z, _⟩ => SqL.of (z _ _ e1')) ?_ ?_
      · rintro j y H3 H4 hj ⟨bs, s3, e3, l3, q3⟩ ⟨rfl, e⟩
        obtain ⟨o, eo, oa, rfl, hoa1, hoa2, hoa⟩ := paired_at r1 e
        have hom := List.mem_of_getElem? eo
        have hoc := (q1 o hom).1
        have holen := crowd_len hoc
        have hoa3 := s3 _ _ (s2 _ _ hoa)
        have hpa3 := s3 _ _ hpa'
        have hoa4 := hoa3
        have hpa4 := hpa3
        rw [map_vN] at hoa4 hpa4
        have fin : ∀ (b : Bool) (H5 : Hp), Same H4 H5 → ((∀ x ∈ o, x ∈ c) → o ≠ c → b = true) → ∃ acc, H5 D = some (.lst acc) ∧ acc.length < sizeLine ∧ ∃ bs : List Bool, Same H2 (upd H5 D (.lst (acc ++ [.bl b]))) ∧ upd H5 D (.lst (acc ++ [.bl b])) D = some (.lst (bs.map V.bl)) ∧ bs.length = j + 1 ∧ ∀ (j' : Nat) (o : List Nat), j' < j + 1 → cs[j']? = some o → (∀ x ∈ o, x ∈ c) → o ≠ c → bs[j']? = some true := fun b H5 s5 hb => by
          refine ⟨bs.map V.bl, s5 _ _ e3, line1 (by rw [List.length_map, l3]; omega), bs ++ [b], same_at (s3.trans s5) hD, by rw [upd_same, List.map_append]; rfl, by rw [List.length_append, l3]; rfl, fun j' o' hj' eo' h1 h2 => ?_⟩
          by_cases cj : j' < j
          · rw [List.getElem?_append_left (by omega)]
            exact q3 j' o' cj eo' h1 h2
          · have : j' = j := by omega
            subst this
            rw [eo] at eo'
            cases eo'
            rw [List.getElem?_append_right (by omega), l3, Nat.sub_self, hb h1 h2] <;> rfl
        refine ⟨rfl, tyes ⟨_, rfl, oa, _, rfl, .inl (SqL.of hoa4), by rw [List.length_map]; omega, fun sa c1 hsa hc1 => ?_⟩⟩
        refine ⟨_, rfl, pa, _, rfl, .inl (SqL.of (same_new hsa _ _ hpa4)), by rw [List.length_map]; omega, fun sb c2 hsb hc2 => ?_⟩
        have sab := Same.trans (same_new (o := SetO w sa (fun j => decide (j ∈ o.map fun i : Nat => (i : Int))) c1) hsa) (same_new (o := SetO w sb (fun j => decide (j ∈ c.map fun i : Nat => (i : Int))) c2) hsb)
        refine ⟨sa, sb, _, _, c1, c2, rfl, rfl, same_new hsb _ _ upd_same, upd_same, fun r hr => ⟨r, rfl, ?_⟩⟩
        have hne : o ≠ c → r = true := fun hoc2 => by
          refine hr ?_
          refine Classical.byContradiction fun hno => hoc2 (asc_ext hoc.asc hcc.asc fun i => ?_)
          have h1 : decide ((i : Int) ∈ o.map fun i : Nat => (i : Int)) = decide ((i : Int) ∈ c.map fun i : Nat => (i : Int)) := Classical.byContradiction fun h2 => hno ⟨(i : Int), h2⟩
          have h3 : ∀ l : List Nat, (i : Int) ∈ (l.map fun i : Nat => (i : Int)) ↔ i ∈ l := fun l => by
            rw [List.mem_map]
            exact ⟨fun ⟨k, hk, e⟩ => by
              have : k = i := Int.ofNat_inj.mp e
              rw [← this]; exact hk, fun hi => ⟨i, hi, rfl⟩⟩
          have h4 := decide_eq_decide.mp h1
          rw [h3, h3] at h4
          exact h4
        cases r with
        | false => exact iteF (fin false _ sab fun _ h2 => hne h2)
        | true =>
          refine iteT ⟨_, rfl, oa, rfl, ⟨_, SqL.of (sab _ _ hoa3)⟩, fun D2 hD2 => ?_⟩
          have lom : (o.map vN).length = o.length := List.length_map _
          refine lc_same walk_list (fun _ v (b : Bool) => v = .bl b) (fun i => o[i]?.bind fun q => some (c.contains q)) hD2 (fun H5 s => SqL.of (s _ _ (sab _ _ hoa3))) (fun _ _ _ _ _ e => e) (by omega) ?_ ?_
          · rintro j2 y H5 H6 K3 K4 hj2 s5 ⟨rfl, e5⟩ k3 k4
            obtain ⟨q, eq, rfl⟩ := map_at e5
            refine ⟨rfl, tyes ⟨_, rfl, _, rfl, pa, _, rfl, .inl (SqL.of (s5 _ _ (sab _ _ hpa3))), rfl, flat_nat _, ?_⟩⟩
            refine k3 _ _ (c.contains q) (Same.refl _) (by rw [eq]; rfl) ?_
            show V.bl (inV (vN q) (c.map vN)) = _
            rw [inV_nat]
          · intro H5 ys s5 e5 p5
            rw [lom, fm_map, fm_some] at p5
            rw [paired_val p5] at e5
            refine ⟨D2, _, rfl, SqL.of e5, ?_⟩
            refine fin _ _ (sab.trans s5) fun h1 _ => ?_
            rw [List.all_map]
            exact List.all_eq_true.mpr fun q hq => List.contains_iff_mem.mpr (h1 q hq)
      · rintro H3 ⟨bs, s3, e3, l3, q3⟩
        refine ⟨D, bs, rfl, SqL.of e3, _, rfl, ?_⟩
        have s23 := s2.trans s3
        cases hb : bs.any id with
        | true => exact iteF ⟨ts, ls0, _, _, _, _, rfl, s23, s3 _ _ e2, r2.mono (ts_same s3), q2, Nat.le_succ_of_le l2⟩
        | false =>
          have hleast : Least cs c := fun o ho h1 => Classical.byContradiction fun h2 => by
            obtain ⟨j, hj, ej⟩ := List.getElem_of_mem ho
            have h3 := q3 j o (by omega) (by rw [List.getElem?_eq_getElem hj, ej]) h1 h2
            have h4 := List.any_eq_false.mp hb true (List.mem_of_getElem? h3)
            exact h4 rfl
          refine iteT ⟨_, rfl, .inl ⟨rfl, _, SqL.of (s3 _ _ e2)⟩, _, rfl, pa, _, rfl, .inl ⟨SqL.of (s3 _ _ hpa'), fun t ht => ?_⟩⟩
          have s4 := s3.trans (same_new (o := .tup (c.map vN)) ht)
          have e4 := s4 _ _ e2
          have ts1 := ts_lst (o := .lst (ts ++ [.ref t])) e4
          refine ⟨g, ts, .ref t, rfl, rfl, e4, line1 (by omega), ts ++ [.ref t], ls0 ++ [c], _, _, _, _, rfl, same_at (s2.trans s4) hg, upd_same, paired_app ((r2.mono (ts_same s4)).mono ts1) ⟨t, rfl, CrT.mono ts1 upd_same⟩, fun z hz => ?_, by rw [List.length_append]; exact Nat.succ_le_succ l2⟩
          rcases List.mem_append.mp hz with y | y
          · exact q2 z y
          · have : z = c := by simpa using y
            rw [this]
            exact ⟨hcm, hleast⟩
    · rintro σ H2 ⟨ts, ls0, a6, a8, a9, a10, rfl, s2, e2, r2, q2, l2⟩
      obtain ⟨ks, hk1, hk2, hk3⟩ := refs_split r2
      have lts := paired_len r2
      rw [hk1] at e2
      have hkl : ks.length ≤ 14 := by
        have := congrArg List.length hk1
        rw [List.length_map] at this
        omega
      have hk2m : ∀ p ∈ ks, ∃ c ∈ ls0, p.2 = c.map fun i : Nat => (i : Int) := fun p hp => by
        have h1 : p.2 ∈ ks.map (·.2) := List.mem_map.mpr ⟨p, hp, rfl⟩
        rw [hk2] at h1
        obtain ⟨c, hc, e⟩ := List.mem_map.mp h1
        exact ⟨c, hc, e.symm⟩
      refine ⟨_, rfl, g, ks, rfl, SqL.of e2, fun p hp => SqT.of (hk3 p hp), by omega, fun a L ha hsub hall => ?_⟩
      refine ⟨a, L, rfl, upd_same, fun p hp => SqT.of (same_new ha _ _ (hk3 p (hsub p hp))), fun p hp hz => ?_, fun L' p pm nd few pw hp => ?_⟩
      · obtain ⟨c, hc, e⟩ := hk2m p (hsub p hp)
        have h2 := (q1 c (q2 c hc).1).2
        rw [hz] at e
        have : c = [] := List.map_eq_nil_iff.mp e.symm
        rw [this] at h2
        exact absurd h2 (by decide)
      · have s3 : Same H2 (upd (upd H2 a (SetTO P w a L)) p (.lst (L'.map fun q => V.ref q.1))) := Same.trans (same_new ha) (same_new hp)
        refine ⟨p, _, rfl, .inl ⟨SqL.of upd_same, fun l hl => ?_⟩⟩
        have s4 := s3.trans (same_new (o := .tup (L'.map fun q => V.ref q.1)) hl)
        obtain ⟨ls, hl1, hl2, hl3⟩ := refs_join (H := upd (upd (upd H2 a (SetTO P w a L)) p (.lst (L'.map fun q => V.ref q.1))) l (.tup (L'.map fun q => V.ref q.1))) (cs := ls0) (L := L') fun q hq => ⟨s4 _ _ (hk3 q (hsub q (pm.mem_iff.mp hq))), hk2m q (hsub q (pm.mem_iff.mp hq))⟩
        have hord := pair_map_le hl2 pw nd
        refine k _ l ls (kh.then_ (s2.trans s4)) ⟨_, upd_same, hl1⟩ (lots_of q1 (fun z hz => q2 z (hl3 z hz)) hord) ?_
        have hnd : ls.Nodup := hord.imp fun h e => by rw [e, lx_irrefl] at h; cases h
        have := nd_lenA ls ls0 hnd hl3
        omega
end
end K43
/-! ## L6 -/
set_option Elab.async false
set_option linter.all false
set_option maxRecDepth 100000
set_option maxHeartbeats 1000000
/-! L6: drawn lots of six people; sightings of eight. -/
namespace K43
open PySem PySem.Spec PyProof.Rows L2
/-! ### the table of code objects that a lambda's maker writes -/
theorem tabS_kh {h ca PT : Addr} {tq : Str} {H H' : Hp} (w : HandAt H h ca) (t : LamX.TabS H PT tq) (k : KH h ca H H') : LamX.TabS H' PT tq := by
  obtain ⟨cells, a, l, st, ct, z⟩ := w
  obtain ⟨ps, h1, h2, h3⟩ := t
  refine ⟨ps, k.1 _ _ (fun e => by rw [e, z.at_] at h1; cases h1) h1, h2, fun pos cv hc => ?_⟩
  obtain ⟨c, e1, e2⟩ := h3 pos cv hc
  refine ⟨c, e1, k.1 _ _ (fun e => ?_) e2⟩
  rw [e, z.at_] at e2
  unfold LamX.CodeO at e2
  cases e2
def KT (h ca PT : Addr) (tq : Str) (H H' : Hp) : Prop := (∀ b o, b ≠ h → (∀ ps, o ≠ .tbl ps) → H b = some o → H' b = some o) ∧ HandAt H' h ca ∧ LamX.TabS H' PT tq
theorem KT.of {h ca PT : Addr} {tq : Str} {H H' : Hp} (w : HandAt H h ca) (t : LamX.TabS H PT tq) (k : KH h ca H H') : KT h ca PT tq H H' := ⟨fun b o hb _ e => k.1 b o hb e, k.2, tabS_kh w t k⟩
theorem KT.trans {h ca PT : Addr} {tq : Str} {H H1 H2 : Hp} (a : KT h ca PT tq H H1) (b : KT h ca PT tq H1 H2) : KT h ca PT tq H H2 := ⟨fun c o hc ho e => b.1 c o hc ho (a.1 c o hc ho e), b.2⟩
theorem KT.kh {h ca PT : Addr} {tq : Str} {H H1 H2 : Hp} (a : KT h ca PT tq H H1) (b : KH h ca H1 H2) : KT h ca PT tq H H2 := a.trans (KT.of a.2.1 a.2.2 b)
theorem KT.same {h ca PT : Addr} {tq : Str} {H H1 H2 : Hp} (a : KT h ca PT tq H H1) (b : Same H1 H2) : KT h ca PT tq H H2 := a.kh (KH.of a.2.1 b)
theorem KT.refl {h ca PT : Addr} {tq : Str} {H : Hp} (w : HandAt H h ca) (t : LamX.TabS H PT tq) : KT h ca PT tq H H := ⟨fun _ _ _ _ e => e, w, t⟩
theorem KT.ts {h ca PT : Addr} {tq : Str} {H H1 : Hp} (w : HandAt H h ca) (a : KT h ca PT tq H H1) : TS H H1 := fun b xs e => a.1 b _ (fun z => by
  obtain ⟨cells, a, l, st, ct, y⟩ := w
  rw [z, y.at_] at e; cases e) (fun ps z => by cases z) e
/-! ### the crowds of six -/
def subs : Nat → List (List Nat)
  | 0 => [[]]
  | n + 1 => subs n ++ (subs n).map fun c => c ++ [n]
theorem subs_crowd : ∀ n, ∀ c ∈ subs n, Crowd n c
  | 0, c, h => by
    have : c = [] := by simpa [subs] using h
    rw [this]; exact crowd_none
  | n + 1, c, h => by
    rcases List.mem_append.mp h with e | e
    · exact crowd_skip (subs_crowd n c e)
    · obtain ⟨d, hd, rfl⟩ := List.mem_map.mp e
      exact crowd_put (subs_crowd n d hd)
theorem subs6_nd : (subs 6).Nodup := by decide +kernel
theorem subs6_len (d : Nat) (hd : d < 2) : 15 ≤ ((subs 6).filter fun c => decide (c.length = 2 + d)).length ∧ ((subs 6).filter fun c => decide (c.length = 2 + d)).length ≤ 20 := by
  match d, hd with
  | 0, _ => decide +kernel
  | 1, _ => decide +kernel
def Asc6 (cs : List (List Nat)) : Prop := cs.Perm (subs 6) ∧ cs.Pairwise fun a b => a.length = b.length → (a.map fun i : Nat => (i : Int)) ≤ (b.map fun i : Nat => (i : Int))
theorem k43_nd_fullN : ∀ (l D : List Nat), l.Nodup → (∀ x ∈ l, x ∈ D) → D.length ≤ l.length → ∀ x ∈ D, x ∈ l
  | [], D, _, _, hl, x, hx => by
    have : D = [] := List.length_eq_zero_iff.mp (Nat.le_zero.mp hl)
    rw [this] at hx; exact hx
  | a :: l, D, hn, hs, hl, x, hx => by
    obtain ⟨h1, h2⟩ := List.nodup_cons.mp hn
    have ha := hs a List.mem_cons_self
    have hle := List.length_erase_of_mem ha
    have hpos := List.length_pos_of_mem ha
    have ih := k43_nd_fullN l (D.erase a) h2 (fun y hy => (List.mem_erase_of_ne (fun z => h1 (by rw [← z]; exact hy))).mpr (hs y (List.mem_cons_of_mem _ hy))) (by rw [hle]; simp only [List.length_cons] at hl; omega)
    by_cases c : x = a
    · rw [c]; exact List.mem_cons_self
    · exact List.mem_cons_of_mem _ (ih x ((List.mem_erase_of_ne c).mpr hx))
theorem lots6 {cs : List (List Nat)} (h : Asc6 cs) {d : Nat} (hd : d < 2) {ls : List (List Nat)} (hs : ls.Sublist (cs.filter fun c => decide (c.length = 2 + d))) : Lots 6 ls := by
  have hm : ∀ l ∈ ls, Crowd 6 l ∧ l.length = 2 + d := fun l hl => by
    have h1 := List.mem_filter.mp (hs.subset hl)
    exact ⟨subs_crowd 6 l (h.1.mem_iff.mp h1.1), of_decide_eq_true h1.2⟩
  have hp : ls.Pairwise fun a b => a.length = b.length → (a.map fun i : Nat => (i : Int)) ≤ (b.map fun i : Nat => (i : Int)) := (h.2.filter _).sublist hs
  have hn : ls.Nodup := ((h.1.nodup_iff.mpr subs6_nd).filter _).sublist hs
  refine ⟨fun l hl => (hm l hl).1, fun l hl => by rw [(hm l hl).2]; omega, ?_, fun a ha b hb hne hsub => hne ?_⟩
  · have := hp.and hn
    refine List.Pairwise.imp_of_mem (fun {a b} ha hb hab => ?_) this
    exact le_lx a b (hab.1 ((hm a ha).2.trans (hm b hb).2.symm)) hab.2
  · have ca := (hm a ha).1
    have cb := (hm b hb).1
    refine asc_ext ca.asc cb.asc fun i => ⟨hsub i, fun hi => ?_⟩
    have hl : a.length = b.length := (hm a ha).2.trans (hm b hb).2.symm
    have := k43_nd_fullN a b ca.nd hsub (by omega) i hi
    exact this
theorem len6 {cs : List (List Nat)} (h : Asc6 cs) {d : Nat} (hd : d < 2) : 15 ≤ (cs.filter fun c => decide (c.length = 2 + d)).length ∧ (cs.filter fun c => decide (c.length = 2 + d)).length ≤ 20 := by
  rw [(h.1.filter _).length_eq]
  exact subs6_len d hd
theorem paired_erase {α β : Type} {G : α → β → Prop} : ∀ {l : List α} {m : List β} (d : Nat), Paired G l m → Paired G (l.eraseIdx d) (m.eraseIdx d)
  | [], [], _, h => h
  | _ :: _, _ :: _, 0, .cons _ r => r
  | _ :: _, _ :: _, d + 1, .cons g r => .cons g (paired_erase d r)
def sp_law_crowds (PT : Addr) (tq : Str) : Sp := fun vs H Q _ => vs = [vN 6] ∧ LamX.TabS H PT tq ∧ ∀ H1 l xs cs, LamX.ExtN H H1 → LamX.TabS H1 PT tq → H1 l = some (.lst xs) → CrsR H1 xs cs → Asc6 cs → Q (.ref l) H1
theorem lexAt_le : ∀ (a b pre : List Nat) (z : Bool), z = true → a.length = b.length → (a = b ∨ lx a b = true) → Ob.lexAt (fun j => decide (((pre ++ a).map fun i : Nat => (i : Int)).getD j 0 = ((pre ++ b).map fun i : Nat => (i : Int)).getD j 0)) (fun j => decide (((pre ++ a).map fun i : Nat => (i : Int)).getD j 0 ≤ ((pre ++ b).map fun i : Nat => (i : Int)).getD j 0)) z pre.length a.length = true
  | [], [], pre, z, hz, _, _ => hz
  | x :: a, y :: b, pre, z, hz, hl, h => by
    have g : ∀ (c : List Nat) (u : Nat), ((pre ++ u :: c).map fun i : Nat => (i : Int)).getD pre.length 0 = (u : Int) := fun c u => by
      rw [List.getD_eq_getElem?_getD, List.getElem?_map, List.getElem?_append_right (Nat.le_refl _), Nat.sub_self] <;> rfl
    rw [List.length_cons, Ob.lexAt_succ, g, g]
    by_cases c : x = y
    · subst c
      rw [if_pos (decide_eq_true rfl)]
      have h2 : a = b ∨ lx a b = true := by
        rcases h with e | e
        · exact .inl (List.cons.inj e).2
        · right
          have e2 : (if x = x then lx a b else decide (x < x)) = true := e
          rw [if_pos rfl] at e2
          exact e2
      have := lexAt_le a b (pre ++ [x]) z hz (by simpa using hl) h2
      rw [List.length_append] at this
      simpa using this
    · rw [if_neg (fun z => c (Int.ofNat_inj.mp (of_decide_eq_true z)))]
      rcases h with e | e
      · exact absurd (List.cons.inj e).1 c
      · have e2 : (if x = y then lx a b else decide (x < y)) = true := e
        rw [if_neg c] at e2
        have := of_decide_eq_true e2
        exact decide_eq_true (by omega)
theorem gName_def {i : Nat} {x : V} {σ : L2.St} {H : Hp} {Q : L2.St → Hp → Prop} : gName i x σ H Q = Q (σ.set i (some x)) H := rfl
section
variable {P : Program} {w : World} {K : PySem.W.Frag} {mg : Str → Option Value} {base : Heap} {CB CO : Addr}
theorem sc_law_packed : FnScope ["_law_hand_here", "_law_size", "_law_found", "_law_turn", "_law_crowd"] ["_law_hand_here"] (defScope s_law_packed) := ⟨rfl, rfl, rfl, by decide +kernel, rfl, by decide +kernel, by decide +kernel⟩
def sp_law_packed (PT : Addr) (tq : Str) : Sp := fun vs H Q _ => ∃ (h ca : Addr), vs = [.ref h] ∧ HandAt H h ca ∧ LamX.TabS H PT tq ∧ ∀ H1 x ls, KT h ca PT tq H H1 → CrTT H1 x ls → Lots 6 ls → ls.length ≤ 20 → Q (.ref x) H1
theorem def_law_packed {PT : Addr} {tq : Str} (T : Txt K mg CB CO) (D_law_draw : Def P w K mg base "_law_draw" ["_law_hand_here", "_law_many"] 1 sp_law_draw) (D_law_crowds : Def P w K mg base "_law_crowds" ["_law_people"] 2 (sp_law_crowds PT tq)) (S0 : Src K mg "_law_packed" s_law_packed) : Def P w K mg base "_law_packed" ["_law_hand_here"] 3 (sp_law_packed PT tq) := by
  have D_law_draw := D_law_draw.up (show 1 ≤ 2 by decide)
  have D_law_crowds := D_law_crowds.up (show 2 ≤ 2 by decide)
  refine S0.mk sc_law_packed (fun _ _ _ _ _ _ us hl => match us, hl with | [_], _ => rfl) (fun vs H Q E h => ?_) (fun f cdv A outer s H vs Q E hr h => ?_)
  · obtain ⟨h, ca, rfl, hh, ht, k⟩ := h
    rfl
  · obtain ⟨h, ca, rfl, hh, ht, k⟩ := h
    refine ⟨_, (pss_cons (ps_set (i := 1) sc_law_packed.nd rfl (Or.inr rfl) (pe_op op_add pe_int (pe_def D_law_draw hr rfl (pa_cons (pv 0) (pa_cons pe_int pa_nil)))))
      (pss_cons (ps_setLc (i := 2) (own := [("_law_crowd", 4)]) rfl sc_law_packed.nd rfl rfl (sw_true rfl rfl rfl (by decide +kernel)) (piL K (pe_def D_law_crowds hr rfl (pa_cons pe_int pa_nil))) (blkOk_by (by kernel_rfl)) (fun _ _ _ _ _ => (pg_name (i := 4) sc_law_packed.nd rfl (Or.inl rfl))) (fun _ _ _ _ _ => (pts_one (pt_cmpR op_eq (pe_callB (crLen K) (by rfl) T.len (by decide +kernel) (pa_cons (pv 4) pa_nil)) (pv 1) (nomark _)))) (fun _ _ _ _ _ => (pv 4)))
      (pss_cons (ps_for PassesOwn.never rfl (pi_range1 (by rfl) T.range (pa_cons (pe_def D_law_draw hr rfl (pa_cons (pv 0) (pa_cons pe_int pa_nil))) pa_nil)) (pg_name (i := 3) sc_law_packed.nd rfl (Or.inl rfl)) (pss_one (ps_expr (peBm K PySem.F.plainAttrs_list PySem.F.slot_list_pop PySem.F.type_list_pop mt_popAt (pv 2) (pa_cons (pe_def D_law_draw hr rfl (pa_cons (pv 0) (pa_cons (pe_callB (crLen K) (by rfl) T.len (by decide +kernel) (pa_cons (pv 2) pa_nil)) pa_nil))) pa_nil)))))
      (pss_one (ps_ret (pe_callTy (crTup K) (by rfl) T.tuple (by decide +kernel) (pa_cons (pv 2) pa_nil))))))), ?_⟩
    refine ⟨_, rfl, h, ca, 2, rfl, hh, by decide, by decide, fun H1 d k1 hd => ⟨_, _, rfl, rfl, ?_⟩⟩
    have t1 := tabS_kh hh ht k1
    refine ⟨rfl, t1, fun H2 l xs cs hE t2 hl hcs hasc => ?_⟩
    have w2 : HandAt H2 h ca := by
      obtain ⟨cells, a, l', st, ct, z⟩ := k1.2
      exact ⟨cells, a, l', st, ct, Kx.refl _, hE _ _ z.at_ (fun ps q => by cases q), hE _ _ z.cs (fun ps q => by cases q), z.ne⟩
    have kt2 : KT h ca PT tq H H2 := (KT.of hh ht k1).trans ⟨fun b o _ ho e => hE b o e ho, w2, t2⟩
    have lxs := paired_len hcs
    have hcl : cs.length = 64 := by
      rw [hasc.1.length_eq]
      decide +kernel
    refine ⟨l, rfl, ⟨_, SqL.of hl⟩, fun f hf => ?_⟩
    refine lc_same walk_list (fun H v c => ∃ a, v = V.ref a ∧ CrT H a c) (fun i => cs[i]?.bind fun c => if decide (c.length = 2 + d) = true then some c else none) hf (fun H3 s => SqL.of (s _ _ hl)) (fun _ _ _ _ t ⟨a, e, r⟩ => ⟨a, e, r.mono t⟩) (by omega) ?_ ?_
    · rintro i y H3 H4 K1 K2 hi s3 ⟨rfl, e⟩ kk1 kk2
      obtain ⟨c, ec, a, rfl, ha⟩ := paired_at hcs e
      have ha3 := ha.mono (ts_same s3)
      refine ⟨rfl, _, rfl, a, _, rfl, .inr (SqT.of ha3), _, rfl, rfl, _, rfl, ?_⟩
      by_cases cl : c.length = 2 + d
      · rw [decide_eq_true (by rw [List.length_map, cl]; exact congrArg V.int (by omega))]
        exact iteT ⟨_, rfl, kk1 _ _ c (Same.refl _) (by rw [bind_if ec, decide_eq_true cl]; rfl) ⟨a, rfl, ha3⟩⟩
      · rw [decide_eq_false (fun z => cl (by have := V.int.inj z; rw [List.length_map] at this; omega))]
        exact iteF (kk2 _ (Same.refl _) (by rw [bind_if ec, decide_eq_false cl]; rfl))
    · intro H3 ys s3 e3 p3
      rw [lxs, fm_map, fm_idL] at p3
      have hlen := len6 hasc hd
      have kh3 : KH h ca H2 H3 := KH.of w2 s3
      have hfh := w2.new hf
      refine ⟨_, rfl, h, ca, 7, rfl, kh3.2, by decide, by decide, fun H4 d2 k4 hd2 => ?_⟩
      refine ⟨_, rfl, by omega, by omega, for_it walk_range (fun i σ H' => ∃ (xs : List V) (ls : List (List Nat)) (a3 a4 : Option V), σ = [some (.ref h), some (V.int (2 + (d : Int))), some (.ref f), a3, a4] ∧ KH h ca H2 H' ∧ H' f = some (.lst xs) ∧ CrsR H' xs ls ∧ ls.Sublist (cs.filter fun c => decide (c.length = 2 + d)) ∧ ls.length + i = (cs.filter fun c => decide (c.length = 2 + d)).length) ⟨ys, _, _, _, rfl, kh3.trans k4, k4.keep hfh.1 e3, CrsR.mono (k4.ts kh3.2) p3, List.Sublist.refl _, rfl⟩ (fun _ _ _ _ _ => trivial) ?_ ?_⟩
      · rintro i x σ H0 H' hi ⟨xs, ls, a3, a4, rfl, kh, e1, r1, q1, l1⟩ ⟨rfl, rfl⟩
        have hi2 : i < d2 := by rw [Int.toNat_natCast] at hi; exact hi
        have lxs2 := paired_len r1
        refine ⟨_, rfl, .inl ⟨rfl, _, SqL.of e1⟩, _, rfl, _, rfl, f, _, rfl, .inl (SqL.of e1), h, ca, xs.length, rfl, kh.2, by omega, by omega, fun H5 d5 k5 hd5 => ?_⟩
        have e5 := k5.keep hfh.1 e1
        refine ⟨f, xs, (d5 : Int), d5, _, rfl, rfl, e5, by omega, by omega, by rw [seqIndex_of (by omega) (by omega)]; rfl, List.getElem?_eq_getElem hd5, ?_⟩
        refine ⟨xs.eraseIdx d5, ls.eraseIdx d5, _, _, rfl, KH.at w2 (kh.trans k5) hf, upd_same, paired_erase d5 ((r1.mono (k5.ts kh.2)).mono (ts_lst e5)), (List.eraseIdx_sublist ..).trans q1, ?_⟩
        rw [List.length_eraseIdx, if_pos (by omega)]
        omega
      · rintro σ H' ⟨xs, ls, a3, a4, rfl, kh, e1, r1, q1, l1⟩
        have hll := q1.length_le
        refine ⟨_, rfl, f, _, rfl, .inl ⟨SqL.of e1, fun t ht => k _ t ls (kt2.kh (kh.then_ (same_new ht))) ⟨xs, upd_same, CrsR.mono (ts_new ht) r1⟩ (lots6 hasc hd q1) (by omega)⟩⟩
theorem sc_law_of_many : FnScope ["_law_hand_here", "_law_lots_here", "_law_order_here", "_law_book", "_law_sightings_here", "_law_turn", "_law_crowd", "_law_told"] ["_law_hand_here"] (defScope s_law_of_many) := ⟨rfl, rfl, rfl, by decide +kernel, rfl, by decide +kernel, by decide +kernel⟩
def sp_law_of_many (CB CO : Addr) : Sp := fun vs H Q _ => ∃ (h ca : Addr), vs = [.ref h] ∧ HandAt H h ca ∧ ∀ H1, Q (.bl true) H1
theorem def_law_of_many (T : Txt K mg CB CO) (D_law_draw : Def P w K mg base "_law_draw" ["_law_hand_here", "_law_many"] 1 sp_law_draw) (D_law_in : Def P w K mg base "_law_in" ["_law_lots_here", "_law_order_here", "_law_crowd"] 1 sp_law_in) (D_law_part : Def P w K mg base "_law_part" ["_law_hand_here", "_law_people", "_law_share"] 2 sp_law_part) (D_law_order : Def P w K mg base "_law_order" ["_law_hand_here", "_law_people"] 2 sp_law_order) (D_law_lots : Def P w K mg base "_law_lots" ["_law_hand_here", "_law_people", "_law_most"] 2 sp_law_lots) (D_law_least_placed : Def P w K mg base "_law_least_placed" ["_law_people", "_law_lots_here", "_law_sightings_here"] 3 sp_law_least_placed) (D_law_fits : Def P w K mg base "_law_fits" ["_law_lots_here", "_law_order_here", "_law_sightings_here"] 2 sp_law_fits) (D_law_is : Def P w K mg base "_law_is" ["_law_told", "_law_due"] 3 (spIsS (spIsS spIs0))) (D_Book : DefM P w K mg base (fun f => Mk K CB f) ["self", "people", "lots"] 7 (sp_Book_init CB)) (D_fitting : Def P w K mg base "fitting" ["book", "sightings"] 7 (sp_fitting CB)) (D_is_fitting : Def P w K mg base "is_fitting" ["book", "sightings", "thing"] 8 (sp_is_fitting CB CO)) (S0 : Src K mg "_law_of_many" s_law_of_many) : Def P w K mg base "_law_of_many" ["_law_hand_here"] 9 (sp_law_of_many CB CO) := by
  have D_law_draw := D_law_draw.up (show 1 ≤ 8 by decide)
  have D_law_in := D_law_in.up (show 1 ≤ 8 by decide)
  have D_law_part := D_law_part.up (show 2 ≤ 8 by decide)
  have D_law_order := D_law_order.up (show 2 ≤ 8 by decide)
  have D_law_lots := D_law_lots.up (show 2 ≤ 8 by decide)
  have D_law_least_placed := D_law_least_placed.up (show 3 ≤ 8 by decide)
  have D_law_fits := D_law_fits.up (show 2 ≤ 8 by decide)
  have D_law_is := D_law_is.up (show 3 ≤ 8 by decide)
  have D_Book := D_Book.up (show 7 ≤ 7 by decide)
  have D_fitting := D_fitting.up (show 7 ≤ 8 by decide)
  have D_is_fitting := D_is_fitting.up (show 8 ≤ 8 by decide)
  refine S0.mk sc_law_of_many (fun _ _ _ _ _ _ us hl => match us, hl with | [_], _ => rfl) (fun vs H Q E h => ?_) (fun f cdv A outer s H vs Q E hr h => ?_)
  · obtain ⟨h, ca, rfl, hh, k⟩ := h
    rfl
  · obtain ⟨h, ca, rfl, hh, k⟩ := h
    refine ⟨_, (pss_cons (ps_set (i := 1) sc_law_of_many.nd rfl (Or.inl rfl) (pe_def D_law_lots hr rfl (pa_cons (pv 0) (pa_cons pe_int (pa_cons pe_int pa_nil)))))
      (pss_cons (ps_set (i := 2) sc_law_of_many.nd rfl (Or.inl rfl) (pe_def D_law_order hr rfl (pa_cons (pv 0) (pa_cons pe_int pa_nil))))
      (pss_cons (ps_set (i := 3) sc_law_of_many.nd rfl (Or.inl rfl) (pe_mkD D_Book hr (by decide) rfl T.gB (pa_cons pe_int (pa_cons (pv 1) pa_nil))))
      (pss_cons (ps_set (i := 4) sc_law_of_many.nd rfl (Or.inl rfl) (pe_lst pa_nil))
      (pss_cons (ps_for PassesOwn.never rfl (pi_range1 (by rfl) T.range (pa_cons (pe_ix (ixL K) (pe_lst (pa_cons pe_int (pa_cons pe_int pa_nil))) (pe_def D_law_draw hr rfl (pa_cons (pv 0) (pa_cons pe_int pa_nil))) (fun _ _ => rfl)) pa_nil)) (pg_name (i := 5) sc_law_of_many.nd rfl (Or.inl rfl)) (pss_cons (ps_set (i := 6) sc_law_of_many.nd rfl (Or.inl rfl) (pe_def D_law_part hr rfl (pa_cons (pv 0) (pa_cons pe_int (pa_cons pe_int pa_nil)))))
      (pss_one (ps_expr (peBm K PySem.F.plainAttrs_list PySem.F.slot_list_append PySem.F.type_list_append mt_append (pv 4) (pa_cons (pe_tup (pa_cons (pv 6) (pa_cons (pe_def D_law_in hr rfl (pa_cons (pv 1) (pa_cons (pv 2) (pa_cons (pv 6) pa_nil)))) pa_nil))) pa_nil))))))
      (pss_cons (ps_set (i := 7) sc_law_of_many.nd rfl (Or.inl rfl) (pe_def D_fitting hr rfl (pa_cons (pv 3) (pa_cons (pv 4) pa_nil))))
      (pss_cons (ps_if (PW.pt (pw_or (pt_not (pt_val (pe_def D_law_is hr rfl (pa_cons (pv 7) (pa_cons (pe_def D_law_least_placed hr rfl (pa_cons pe_int (pa_cons (pv 1) (pa_cons (pv 4) pa_nil)))) pa_nil))))) (pw_or1 (pt_not (pt_val (pe_def D_law_fits hr rfl (pa_cons (pv 1) (pa_cons (pv 7) (pa_cons (pv 4) pa_nil))))))))) (pss_one (ps_ret pe_bl)) pss_nil)
      (pss_one (ps_ret (pe_and (pe_cmpR op_isBl (pe_def D_is_fitting hr rfl (pa_cons (pv 3) (pa_cons (pv 4) (pa_cons (pv 7) pa_nil)))) pe_bl (nomark _)) (pe_and (pe_cmpR op_isBl (pe_def D_is_fitting hr rfl (pa_cons (pv 3) (pa_cons (pv 4) (pa_cons (pv 2) pa_nil)))) pe_bl (nomark _)) (pe_one (pe_cmpR (opLeT K (hu_of' hr)) (pv 7) (pv 2) (nomark _)))))))))))))), ?_⟩
    refine ⟨_, rfl, h, ca, 8, 14, rfl, hh, by decide, by decide, by decide, fun H1 a ls k1 ha hL hl14 => ?_⟩
    have hl2 : ∀ l ∈ ls, l.length ≤ 1000 := fun l hl => by
      have := crowd_len (hL.crowd l hl)
      omega
    refine ⟨_, rfl, h, ca, 8, rfl, k1.2, by decide, fun H2 b o k2 hb ho => ?_⟩
    have k02 := k1.trans k2
    have part : Part 8 o := ⟨ho.nd, ho.lt⟩
    have ha2 := ha.mono (k2.ts k1.2)
    refine ⟨_, rfl, fun x dx hx hdx hne => ?_⟩
    have s3 : Same H2 (upd (upd H2 dx (.own x)) x (.ins CB dx [])) := Same.trans (same_new hdx) (same_new (by rw [upd_ne (Ne.symm hne)]; exact hx))
    refine ⟨x, dx, a, 8, ls, rfl, upd_same, ha2.mono (ts_same s3), hL, by decide, by decide, by omega, fun H4 k4 hB => ⟨rfl, ?_⟩⟩
    have s4 : Same H2 H4 := fun c u e => k4 _ _ (fun z => by rw [z, hx] at e; cases e) (s3 _ _ e)
    have k04 := k02.then_ s4
    have ha4 := ha2.mono (ts_same s4)
    have hb4 := s4 _ _ hb
    show gName _ _ _ _ _
    rw [gName_def]
    dsimp only
    refine seq_keep (fun σ' H' => ∃ f, H4 f = none ∧ σ' = [some (.ref h), some (.ref a), some (.ref b), some (.ref x), some (.ref f), none, none, none] ∧ H' = upd H4 f (.lst [])) (fun D' kD => ⟨Nat.zero_le _, fun f hf => kD _ _ ⟨f, hf, rfl, rfl⟩⟩) ?_
    rintro σ H5 ⟨f, hf, rfl, rfl⟩
    have w4 := k04.2
    have hfh := w4.new hf
    have hxh : x ≠ h := (k02.2.new hx).1
    obtain ⟨db, tb, mb, hB1, hB2, hB3⟩ := id hB
    have hmb : mb ≠ h := fun z => by
      obtain ⟨cells, a', l', st, ct, y⟩ := w4
      rw [z, y.at_] at hB3
      have := HO.lst.inj (Option.some.inj hB3)
      cases ls with
      | nil => cases this
      | cons q qs =>
        have := (List.cons.inj this).1
        cases this
    have bk : ∀ H', KH h ca H4 H' → BkAt CB H' x 8 ls := fun H' kk => ⟨db, tb, mb, kk.1 _ _ hxh hB1, hB2.mono (kk.ts w4), kk.1 _ _ hmb hB3⟩
    refine seq_keep (fun σ' H' => ∃ (sg : List (List Nat × List Nat)) (ps : List V) (a5 a6 : Option V), σ' = [some (.ref h), some (.ref a), some (.ref b), some (.ref x), some (.ref f), a5, a6, none] ∧ KH h ca H4 H' ∧ H' f = some (.lst ps) ∧ PrsR H' ps sg ∧ Sights 8 sg ∧ sg.length ≤ 20 ∧ fits 8 ls sg o = true) (fun D' kD => ?_) ?_
    · refine ⟨by show 2 ≤ sizeLine; decide, fun q hq => ?_⟩
      have kq : KH h ca H4 (upd (upd H4 f (.lst [])) q (.lst [.int 4, .int 20])) := KH.of w4 (Same.trans (same_new hf) (same_new hq))
      have nqf : q ≠ f := fun z => by rw [z, upd_same] at hq; cases hq
      have efq : upd (upd H4 f (.lst [])) q (.lst [.int 4, .int 20]) f = some (.lst []) := by rw [upd_ne (Ne.symm nqf), upd_same]
      have wf : HandAt (upd H4 f (.lst [])) h ca := w4.same (same_new hf)
      refine ⟨_, rfl, h, ca, 2, rfl, kq.2, by decide, by decide, fun H6 d k6 hd => ?_⟩
      have eq6 := k6.keep (wf.new hq).1 upd_same
      have hpick : ∃ s : Nat, [V.int 4, V.int 20][d]? = some (vN s) ∧ s ≤ 20 := by
        match d, hd with
        | 0, _ => exact ⟨4, rfl, by decide⟩
        | 1, _ => exact ⟨20, rfl, by decide⟩
      obtain ⟨s, hs, hs20⟩ := hpick
      have k46 := kq.trans k6
      refine ⟨q, _, d, vN s, rfl, rfl, SqL.of eq6, at_of (j := d) rfl hs, _, rfl, by omega, by omega, for_it walk_range (fun i σ' H' => ∃ (sg : List (List Nat × List Nat)) (ps : List V) (a5 a6 : Option V), σ' = [some (.ref h), some (.ref a), some (.ref b), some (.ref x), some (.ref f), a5, a6, none] ∧ KH h ca H4 H' ∧ H' f = some (.lst ps) ∧ PrsR H' ps sg ∧ Sights 8 sg ∧ sg.length = i ∧ fits 8 ls sg o = true) ⟨[], [], _, _, rfl, k46, k6.keep hfh.1 efq, .nil, ⟨fun _ h => (by cases h), fun _ h => (by cases h), fun _ h => (by cases h)⟩, rfl, rfl⟩ (fun _ _ _ _ _ => trivial) ?_ ?_⟩
      · rintro i y σ H0 H' hi ⟨sg, ps, a5, a6, rfl, kh, e1, r1, q1, l1, f1⟩ ⟨rfl, rfl⟩
        have hi2 : i < s := by rw [Int.toNat_natCast] at hi; exact hi
        have lps := paired_len r1
        refine ⟨_, rfl, h, ca, 8, 4, rfl, kh.2, by decide, fun H7 cr c k7 hcr hc => ?_⟩
        have k07 := kh.trans k7
        have e7 := k7.keep hfh.1 e1
        refine ⟨_, rfl, .inl ⟨rfl, _, SqL.of e7⟩, _, rfl, _, rfl, _, rfl, _, rfl, a, b, cr, 8, ls, o, c, rfl, ha4.mono (k07.ts w4), k07.ts w4 _ _ hb4, hcr, part, by decide, by omega, hl2, fun H8 y s8 hy => ?_⟩
        refine ⟨by show 2 ≤ sizeLine; decide, fun t ht => ?_⟩
        have s9 : Same H7 (upd H8 t (.tup [.ref cr, .ref y])) := s8.trans (same_new ht)
        have e9 := s9 _ _ e7
        have ts1 := ts_lst (o := .lst (ps ++ [.ref t])) e9
        have r7 : PrsR H7 ps sg := r1.mono (k7.ts kh.2)
        refine ⟨f, ps, _, rfl, rfl, e9, line1 (by omega), sg ++ [(c, letin 8 ls o c)], ps ++ [.ref t], _, _, rfl, KH.at w4 (k07.then_ s9) hf, upd_same, paired_app ((r7.mono (ts_same s9)).mono ts1) ⟨t, rfl, PrT.mono ts1 ⟨cr, y, upd_same, s9 _ _ hcr, same_new ht _ _ hy⟩⟩, sights_put q1 hc letin_crowd letin_sub, by rw [List.length_append, l1]; rfl, ?_⟩
        unfold fits at f1 ⊢
        rw [List.all_append, f1, List.all_cons, List.all_nil, beq_self_eq_true] <;> rfl
      · rintro σ H' ⟨sg, ps, a5, a6, rfl, kh, e1, r1, q1, l1, f1⟩
        rw [Int.toNat_natCast] at l1
        exact kD _ _ ⟨sg, ps, _, _, rfl, kh, e1, r1, q1, by omega, f1⟩
    rintro σ H' ⟨sg, ps, a5, a6, rfl, kh, e1, r1, q1, l1, f1⟩
    have lps := paired_len r1
    obtain ⟨g1, g2, g3, g4⟩ := fitting_of hL q1 ho f1
    have hB5 := bk H' kh
    have hv : SgAt H' f sg := ⟨ps, .lst ps, .inl rfl, e1, r1⟩
    have haH := ha4.mono (kh.ts w4)
    have hbH := kh.ts w4 _ _ hb4
    refine ⟨_, rfl, _, rfl, x, f, 8, ls, sg, rfl, hB5, hv, q1, hL, by decide, l1, by omega, fun H6 y s6 hy => ?_⟩
    rw [g1] at hy
    obtain ⟨t, rfl, ht⟩ := hy
    refine ⟨_, rfl, _, rfl, _, rfl, a, f, 8, ls, sg, rfl, haH.mono (ts_same s6), hv.same s6, by decide, by omega, by omega, hl2, fun H7 t2 s7 ht2 => ?_⟩
    have ht7 := s7 _ _ ht
    have s67 := s6.trans s7
    have hlen : (placed 8 ls sg 8).length = 8 := g2.len
    refine .inr ⟨t, t2, _, _, _, _, rfl, .inr ⟨rfl, rfl⟩, ht7, ht2, rfl, by rw [List.length_map]; omega, fun i x1 y1 H8 Q' e3 e4 s8 k8 => ?_, fun H8 s8 => ⟨true, rfl, iteF ?_⟩⟩
    · rw [e3] at e4
      cases e4
      obtain ⟨p, _, rfl⟩ := map_at e3
      exact .inl ⟨.inr ⟨_, rfl⟩, k8⟩
    have s68 := s67.trans s8
    refine ⟨_, rfl, _, rfl, _, rfl, a, t, f, 8, ls, sg, placed 8 ls sg 8, rfl, haH.mono (ts_same s68), s8 _ _ ht7, hv.same s68, ⟨g2.nd, g2.lt⟩, by decide, by omega, by omega, hl2, fun H9 s9 => ?_⟩
    rw [g3]
    refine ⟨true, rfl, iteF ?_⟩
    have s69 := s68.trans s9
    have ht9 := s9 _ _ (s8 _ _ ht7)
    refine ⟨_, rfl, _, rfl, _, rfl, x, f, t, 8, ls, sg, placed 8 ls sg 8, rfl, hB5.same s69, hv.same s69, ht9, q1, hL, g2, by decide, l1, by omega, fun H10 s10 => ?_⟩
    rw [g3]
    refine ⟨true, true, rfl, rfl, true, rfl, iteT ?_⟩
    have s610 := s69.trans s10
    refine ⟨_, rfl, _, rfl, _, rfl, x, f, b, 8, ls, sg, o, rfl, hB5.same s610, hv.same s610, s610 _ _ hbH, q1, hL, ho, by decide, l1, by omega, fun H11 s11 => ?_⟩
    rw [f1]
    refine ⟨true, true, rfl, rfl, true, rfl, iteT ?_⟩
    have ht11 := s11 _ _ (s10 _ _ ht9)
    have hb11 := s11 _ _ (s610 _ _ hbH)
    have r3 : H11 t = some (.tup (((placed 8 ls sg 8).map fun i : Nat => (i : Int)).map V.int)) := by rw [← map_vN]; exact ht11
    have r4 : H11 b = some (.tup ((o.map fun i : Nat => (i : Int)).map V.int)) := by rw [← map_vN]; exact hb11
    refine ⟨_, rfl, _, rfl, t, b, _, _, rfl, rfl, SqT.of r3, SqT.of r4, ?_⟩
    have hle := lexAt_le (placed 8 ls sg 8) o [] (decide (((placed 8 ls sg 8).map fun i : Nat => (i : Int)).length ≤ (o.map fun i : Nat => (i : Int)).length)) (decide_eq_true (by rw [List.length_map, List.length_map, hlen, ho.len]; exact Nat.le_refl _)) (by rw [hlen, ho.len]) g4
    have hmin : min ((placed 8 ls sg 8).map fun i : Nat => (i : Int)).length (o.map fun i : Nat => (i : Int)).length = (placed 8 ls sg 8).length := by rw [List.length_map, List.length_map, hlen, ho.len] <;> rfl
    rw [hmin]
    rw [List.nil_append, List.nil_append, List.length_nil] at hle
    rw [hle]
    exact k _
end
end K43
/-! ## L7 -/
set_option Elab.async false
set_option linter.all false
set_option maxRecDepth 100000
set_option maxHeartbeats 2000000
/-! L7: the law. -/
namespace K43
open PySem PySem.Spec PyProof.Rows L2
theorem crs_ne {h ca l : Addr} {H : Hp} {xs : List V} {cs : List (List Nat)} (w : HandAt H h ca) (e : H l = some (.lst xs)) (r : CrsR H xs cs) : l ≠ h := fun z => by
  obtain ⟨cells, a, l', st, ct, y⟩ := w
  rw [z, y.at_] at e
  have e2 := HO.lst.inj (Option.some.inj e)
  have e1 : xs[1]? = some (.int (a : Int)) := by rw [← e2] <;> rfl
  obtain ⟨c, _, b, e3, _⟩ := paired_at r e1
  cases e3
theorem prs_ne {h ca l : Addr} {H : Hp} {xs : List V} {cs : List (List Nat × List Nat)} (w : HandAt H h ca) (e : H l = some (.lst xs)) (r : PrsR H xs cs) : l ≠ h := fun z => by
  obtain ⟨cells, a, l', st, ct, y⟩ := w
  rw [z, y.at_] at e
  have e2 := HO.lst.inj (Option.some.inj e)
  have e1 : xs[1]? = some (.int (a : Int)) := by rw [← e2] <;> rfl
  obtain ⟨c, _, b, e3, _⟩ := paired_at r e1
  cases e3
theorem BkAt.kh {CB h ca b : Addr} {n : Nat} {ls : List (List Nat)} {H H' : Hp} (w : HandAt H h ca) (kk : KH h ca H H') (hB : BkAt CB H b n ls) : BkAt CB H' b n ls := by
  obtain ⟨db, tb, mb, hB1, hB2, hB3⟩ := hB
  obtain ⟨cells, a', l', st, ct, y⟩ := id w
  refine ⟨db, tb, mb, kk.1 _ _ (fun z => ?_) hB1, hB2.mono (kk.ts w), kk.1 _ _ (fun z => ?_) hB3⟩
  · rw [z, y.at_] at hB1; cases hB1
  · rw [z, y.at_] at hB3
    have := HO.lst.inj (Option.some.inj hB3)
    cases ls with
    | nil => cases this
    | cons q qs =>
      have := (List.cons.inj this).1
      cases this
theorem paired_rev {α β : Type} {G : α → β → Prop} : ∀ {l : List α} {m : List β}, Paired G l m → Paired G l.reverse m.reverse
  | [], [], _ => .nil
  | _ :: _, _ :: _, .cons g r => by
    rw [List.reverse_cons, List.reverse_cons]
    exact paired_app (paired_rev r) g
theorem good_take {H : Hp} {gs : List V} {n : Nat} {ls : List (List Nat)} {sg : List (List Nat × List Nat)} (hL : Lots n ls) (hs : Sights n sg) (hg : CrsR H gs (good n ls sg)) :
    ∃ z : V, (gs ++ [V.non]).take 1 = [z] ∧ (gs ++ [V.non])[0]? = some z ∧ OptAt H z (fitting n ls sg) := by
  rw [← good_head hL hs]
  generalize good n ls sg = G at hg
  cases gs with
  | nil =>
    cases hg
    exact ⟨.non, rfl, rfl, rfl⟩
  | cons v gs =>
    cases hg with
    | cons g r =>
      obtain ⟨a, rfl, ha⟩ := g
      exact ⟨.ref a, rfl, rfl, a, rfl, ha⟩
theorem dp_crs {K : PySem.W.Frag} {H : Hp} : ∀ {gs : List V} {cs : List (List Nat)}, CrsR H gs cs → DpAll K H gs (cs.map natD)
  | [], [], _ => .nil
  | _ :: _, _ :: _, .cons ⟨a, e, h⟩ r => by
    subst e
    exact .cons (dp_nat h) (dp_crs r)
theorem lay_nats : ∀ cs : List (List Nat), PyData.canLayAll0 (cs.map natD) = true
  | [] => rfl
  | c :: cs => by
    rw [List.map_cons]
    have h := SeqAt.canLay_of_shaped (shaped_nat c)
    simp only [PyData.canLayAll0, h, lay_nats cs, Bool.and_true]
theorem dep_nats : ∀ cs : List (List Nat), PyData.depthAll (cs.map natD) ≤ 1
  | [] => Nat.zero_le _
  | c :: cs => by
    rw [List.map_cons]
    have h := dep_nats cs
    have h2 := dep_nat c
    unfold natD at h ⊢
    simp only [PyData.depthAll, PyData.depth, h2]
    exact Nat.max_le.mpr ⟨Nat.le_refl _, h⟩
theorem shaped_nats (cs : List (List Nat)) : SeqAt.shaped (.list (cs.map natD)) = true := by
  unfold SeqAt.shaped
  have h1 : PyData.canLay0 (.list (cs.map natD)) = true := by simp only [PyData.canLay0, lay_nats cs]
  have h2 : PyData.depth (.list (cs.map natD)) ≤ 64 := by
    have := dep_nats cs
    simp only [PyData.depth]
    omega
  rw [h1, Bool.true_and]
  exact decide_eq_true h2
theorem good_has {n : Nat} {ls : List (List Nat)} {sg : List (List Nat × List Nat)} {o : List Nat} (ho : o ∈ lists n n) : ((good n ls sg).map natD).any (fun z => PyData.eqv z (natD o)) = fits n ls sg o := by
  rw [List.any_map]
  have e : (fun z => PyData.eqv (natD z) (natD o)) = fun z => z == o := funext fun z => eqv_nat z o
  show (good n ls sg).any (fun z => PyData.eqv (natD z) (natD o)) = _
  rw [e]
  cases h : fits n ls sg o with
  | true => exact List.any_eq_true.mpr ⟨o, List.mem_filter.mpr ⟨ho, h⟩, beq_self_eq_true o⟩
  | false =>
    rw [List.any_eq_false]
    intro z hz hzo
    have : z = o := by simpa using hzo
    rw [this] at hz
    have := (List.mem_filter.mp hz).2
    rw [h] at this; cases this
theorem lists_pos (n : Nat) : 0 < (lists n n).length := List.length_pos_of_mem (lists_order.mpr (⟨List.nodup_range, List.length_range, fun i hi => List.mem_range.mp hi⟩ : Order n (List.range n)))
theorem eqv_non : PyData.eqv .none .none = true := by simp [PyData.eqv]
theorem opt_dp {K : PySem.W.Frag} {H : Hp} {x y : V} : ∀ {r : Option (List Nat)}, OptAt H x r → OptAt H y r → ∃ d, Dp K H x d ∧ Dp K H y d ∧ SeqAt.shaped d = true ∧ PyData.eqv d d = true
  | none, hx, hy => by
    cases hx
    cases hy
    exact ⟨.none, .non, .non, by decide +kernel, eqv_non⟩
  | some c, ⟨a, e1, h1⟩, ⟨b, e2, h2⟩ => by
    subst e1
    subst e2
    exact ⟨natD c, dp_nat h1, dp_nat h2, shaped_nat c, by rw [eqv_nat]; exact beq_self_eq_true c⟩
theorem OptAt.mono {H H' : Hp} {x : V} (t : TS H H') : ∀ {r : Option (List Nat)}, OptAt H x r → OptAt H' x r
  | none, h => h
  | some c, ⟨a, e, h⟩ => ⟨a, e, h.mono t⟩
theorem is_opt {H : Hp} {x y : V} : ∀ {r : Option (List Nat)}, OptAt H x r → OptAt H y r → (∀ c, r = some c → c.length ≤ 1000) → ∀ {Q : VK}, (∀ H1, Same H H1 → Q (.bl true) H1) → spIsS spIs0 [x, y] H Q E0
  | none, hx, hy, _, _, k => by
    cases hx
    cases hy
    exact .inl ⟨.inl rfl, k⟩
  | some c, ⟨a, e1, h1⟩, ⟨b, e2, h2⟩, hc, Q, k => by
    subst e1
    subst e2
    refine .inr ⟨a, b, _, _, _, _, rfl, .inr ⟨rfl, rfl⟩, h1, h2, rfl, by rw [List.length_map]; exact hc c rfl, fun i x1 y1 H8 Q' e3 e4 s8 k8 => ?_, k⟩
    rw [e3] at e4
    cases e4
    obtain ⟨p, _, rfl⟩ := map_at e3
    exact ⟨.inr ⟨_, rfl⟩, k8⟩
theorem people4 {d s : Nat} (hd : d < 3) (hs : 4 ≤ s ∧ s ≤ 5) : ∀ i : Nat, i < 4 → ∃ n : Nat, [V.int (1 + (d : Int)), V.int 4, V.int 4, vN s][i]? = some (vN n) ∧ 1 ≤ n ∧ n ≤ 6
  | 0, _ => ⟨1 + d, by show some (V.int (1 + (d : Int))) = some (V.int ((1 + d : Nat) : Int)); rw [Int.natCast_add] <;> rfl, by omega, by omega⟩
  | 1, _ => ⟨4, rfl, by decide, by decide⟩
  | 2, _ => ⟨4, rfl, by decide, by decide⟩
  | 3, _ => ⟨s, rfl, by omega, by omega⟩
  | n + 4, h => absurd h (by omega)
theorem pick45 : ∀ d : Nat, d < 3 → ∃ s : Nat, [V.int 4, V.int 5, V.int 5][d]? = some (vN s) ∧ 4 ≤ s ∧ s ≤ 5
  | 0, _ => ⟨4, rfl, by decide, by decide⟩
  | 1, _ => ⟨5, rfl, by decide, by decide⟩
  | 2, _ => ⟨5, rfl, by decide, by decide⟩
  | n + 3, h => absurd h (by omega)
theorem okN {P : Program} {w : World} {K : PySem.W.Frag} {mg : Str → Option Value} {base : Heap} {x : Str} {st : Stmt} {f : Addr} {fd : FuncData} {N ps : List Str} {k : Nat} {sp : Sp} (F : FunD K x x (defArgs st) (defBody st) (defScope st) [] [] f fd) (sc : FnScope N ps (defScope st)) (len : ∀ vs H Q E, sp vs H Q E → vs.length = ps.length)
    (hbody : ∀ (f : Addr) (cdv : Value) (A : Around) (outer : List Env) (s : Shared) (H : Hp) (vs : List V) (Q : VK) (E : XK), Room k (A.deeper (envOfC x (defScope st) s.heap.objs.size f cdv)) → sp vs H Q E →
      ∃ t, PSs (cxOf CX0 P w K mg base N x (defScope st) f cdv A outer s H E).nox (defBody st) t ∧ t { nx := fun _ H' => Q .non H', rt := Q } (start N vs) H) : FnOk P w K mg base CX0 (k + 1) f fd ps sp :=
  F.ok sc len fun cdv A outer s H vs Q E hr h => by
    obtain ⟨t, h1, h2⟩ := hbody f cdv A outer s H vs Q E hr h
    exact ⟨t, h1.nox, h2⟩
theorem tNext_def {D : Ends} {σ : L2.St} {H : Hp} : tNext D σ H = D.nx σ H := rfl
theorem hu65 {A : Around} {k : Nat} (hr : Room k A) : A.units + 65 < cLine := by have := hr.un; omega
section
variable {P : Program} {w : World} {K : PySem.W.Frag} {mg : Str → Option Value} {base : Heap} {CB CO : Addr}
theorem sc_law : FnScope ["_law_script", "_law_hand_here", "_law_turn", "_law_people", "_law_lots_here", "_law_book", "_law_sightings_here", "_law_lists_here", "_law_good", "_law_again", "_law_order_here"] ["_law_script"] (defScope s_law) := ⟨rfl, rfl, rfl, by decide +kernel, rfl, by decide +kernel, by decide +kernel⟩
def sp_law (CB CO : Addr) (PT : Addr) (tq : Str) (K : PySem.W.Frag) : Sp := fun vs H Q _ => ∃ (a : Addr) (ns : List Int), vs = [.ref a] ∧ SqL K H a (ns.map V.int) ∧ ns.length ≤ 63 ∧ LamX.TabS H PT tq ∧ ∀ H1, Q (.bl true) H1
theorem def_law {PT : Addr} {tq : Str} (T : Txt K mg CB CO) (D_law_draw : Def P w K mg base "_law_draw" ["_law_hand_here", "_law_many"] 1 sp_law_draw) (D_law_hand : Def P w K mg base "_law_hand" ["_law_script"] 1 (sp_law_hand K)) (D_law_order : Def P w K mg base "_law_order" ["_law_hand_here", "_law_people"] 2 sp_law_order) (D_law_lots : Def P w K mg base "_law_lots" ["_law_hand_here", "_law_people", "_law_most"] 2 sp_law_lots) (D_law_packed : Def P w K mg base "_law_packed" ["_law_hand_here"] 3 (sp_law_packed PT tq)) (D_law_sightings : Def P w K mg base "_law_sightings" ["_law_hand_here", "_law_people", "_law_lots_here", "_law_order_here", "_law_most"] 3 sp_law_sightings) (D_law_lists : Def P w K mg base "_law_lists" ["_law_people"] 1 sp_law_lists) (D_law_fits : Def P w K mg base "_law_fits" ["_law_lots_here", "_law_order_here", "_law_sightings_here"] 2 sp_law_fits) (D_law_is : Def P w K mg base "_law_is" ["_law_told", "_law_due"] 3 (spIsS (spIsS spIs0))) (D_law_flag : Def P w K mg base "_law_flag" ["_law_told", "_law_due"] 1 sp_law_flag) (D_law_of_many : Def P w K mg base "_law_of_many" ["_law_hand_here"] 9 (sp_law_of_many CB CO)) (D_Book : DefM P w K mg base (fun f => Mk K CB f) ["self", "people", "lots"] 7 (sp_Book_init CB)) (D_fitting : Def P w K mg base "fitting" ["book", "sightings"] 7 (sp_fitting CB)) (D_is_fitting : Def P w K mg base "is_fitting" ["book", "sightings", "thing"] 8 (sp_is_fitting CB CO)) {f0 : Addr} {fd0 : FuncData} (S0 : FunD K "law" "law" (defArgs s_law) (defBody s_law) (defScope s_law) [] [] f0 fd0) : FnOk P w K mg base CX0 10 f0 fd0 ["_law_script"] (sp_law CB CO PT tq K) := by
  have D_law_draw := D_law_draw.up (show 1 ≤ 9 by decide)
  have D_law_hand := D_law_hand.up (show 1 ≤ 9 by decide)
  have D_law_order := D_law_order.up (show 2 ≤ 9 by decide)
  have D_law_lots := D_law_lots.up (show 2 ≤ 9 by decide)
  have D_law_packed := D_law_packed.up (show 3 ≤ 9 by decide)
  have D_law_sightings := D_law_sightings.up (show 3 ≤ 9 by decide)
  have D_law_lists := D_law_lists.up (show 1 ≤ 9 by decide)
  have D_law_fits := D_law_fits.up (show 2 ≤ 9 by decide)
  have D_law_is := D_law_is.up (show 3 ≤ 9 by decide)
  have D_law_flag := D_law_flag.up (show 1 ≤ 9 by decide)
  have D_law_of_many := D_law_of_many.up (show 9 ≤ 9 by decide)
  have D_Book := D_Book.up (show 7 ≤ 8 by decide)
  have D_fitting := D_fitting.up (show 7 ≤ 9 by decide)
  have D_is_fitting := D_is_fitting.up (show 8 ≤ 9 by decide)
  refine okN S0 sc_law (fun vs H Q E h => ?_) (fun f cdv A outer s H vs Q E hr h => ?_)
  · obtain ⟨a0, ns, rfl, ha0, hns, ht0, k⟩ := h
    rfl
  · obtain ⟨a0, ns, rfl, ha0, hns, ht0, k⟩ := h
    refine ⟨_, (pss_cons (ps_set (i := 1) sc_law.nd rfl (Or.inl rfl) (pe_def D_law_hand hr rfl (pa_cons (pv 0) pa_nil)))
      (pss_cons (ps_for PassesOwn.never rfl (pi_range1 (by rfl) T.range (pa_cons pe_int pa_nil)) (pg_name (i := 2) sc_law.nd rfl (Or.inl rfl)) (pss_cons (ps_set (i := 3) sc_law.nd rfl (Or.inl rfl) (pe_ix (ixL K) (pe_lst (pa_cons (pe_op op_add pe_int (pe_def D_law_draw hr rfl (pa_cons (pv 1) (pa_cons pe_int pa_nil)))) (pa_cons pe_int (pa_cons pe_int (pa_cons (pe_ix (ixL K) (pe_lst (pa_cons pe_int (pa_cons pe_int (pa_cons pe_int pa_nil)))) (pe_def D_law_draw hr rfl (pa_cons (pv 1) (pa_cons pe_int pa_nil))) (fun _ _ => rfl)) pa_nil))))) (pv 2) (fun _ _ => rfl)))
      (pss_cons (ps_set (i := 4) sc_law.nd rfl (Or.inr rfl) (pe_def D_law_lots hr rfl (pa_cons (pv 1) (pa_cons (pv 3) (pa_cons pe_int pa_nil)))))
      (pss_cons (ps_if (PW.pt (pw_and (pt_cmpR op_eq (pv 2) pe_int (nomark _)) (pw_and1 (pt_cmpR op_eq (pe_def D_law_draw hr rfl (pa_cons (pv 1) (pa_cons pe_int pa_nil))) pe_int (nomark _))))) (pss_cons (ps_set (i := 3) sc_law.nd rfl (Or.inl rfl) pe_int)
      (pss_one (ps_set (i := 4) sc_law.nd rfl (Or.inr rfl) (pe_def D_law_packed hr rfl (pa_cons (pv 1) pa_nil))))) pss_nil)
      (pss_cons (ps_set (i := 5) sc_law.nd rfl (Or.inr rfl) (pe_mkD D_Book hr (by decide) rfl T.gB (pa_cons (pv 3) (pa_cons (pv 4) pa_nil))))
      (pss_cons (ps_set (i := 6) sc_law.nd rfl (Or.inr rfl) (pe_def D_law_sightings hr rfl (pa_cons (pv 1) (pa_cons (pv 3) (pa_cons (pv 4) (pa_cons (pe_def D_law_order hr rfl (pa_cons (pv 1) (pa_cons (pv 3) pa_nil))) (pa_cons pe_int pa_nil)))))))
      (pss_cons (ps_set (i := 7) sc_law.nd rfl (Or.inl rfl) (pe_def D_law_lists hr rfl (pa_cons (pv 3) pa_nil)))
      (pss_cons (ps_setLc (i := 8) (own := [("_law_order_here", 10)]) rfl sc_law.nd rfl rfl (sw_true rfl rfl rfl (by decide +kernel)) (piL K (pv 7)) (blkOk_by (by kernel_rfl)) (fun _ _ _ _ _ => (pg_name (i := 10) sc_law.nd rfl (Or.inl rfl))) (fun _ _ _ _ _ => (pts_one (pt_val (pe_def D_law_fits hr rfl (pa_cons (pv 4) (pa_cons (pv 10) (pa_cons (pv 6) pa_nil))))))) (fun _ _ _ _ _ => (pv 10)))
      (pss_cons (ps_if (pt_not (pt_val (pe_def D_law_is hr rfl (pa_cons (pe_lst (pa_cons (pe_def D_fitting hr rfl (pa_cons (pv 5) (pa_cons (pv 6) pa_nil))) pa_nil)) (pa_cons (pe_slice (slL K) (pe_op op_cat (pv 8) (pe_lst (pa_cons pe_non pa_nil))) po_none (po_some pe_int)) pa_nil))))) (pss_one (ps_ret pe_bl)) pss_nil)
      (pss_cons (ps_if (pt_cmpR (opNeD K (hu64 hr)) (pe_def D_fitting hr rfl (pa_cons (pv 5) (pa_cons (pe_callTy (crTup K) (by rfl) T.tuple (by decide +kernel) (pa_cons (peRev K (pv 6)) pa_nil)) pa_nil))) (pe_ix (ixL K) (pe_op op_cat (pv 8) (pe_lst (pa_cons pe_non pa_nil))) pe_int (fun _ _ => rfl)) (nomark _)) (pss_one (ps_ret pe_bl)) pss_nil)
      (pss_cons (ps_for PassesOwn.never rfl (pi_range1 (by rfl) T.range (pa_cons pe_int pa_nil)) (pg_name (i := 9) sc_law.nd rfl (Or.inl rfl)) (pss_cons (ps_set (i := 10) sc_law.nd rfl (Or.inl rfl) (pe_ix (ixL K) (pv 7) (pe_def D_law_draw hr rfl (pa_cons (pv 1) (pa_cons (pe_callB (crLen K) (by rfl) T.len (by decide +kernel) (pa_cons (pv 7) pa_nil)) pa_nil))) (fun _ _ => rfl)))
      (pss_one (ps_if (pt_not (pt_val (pe_def D_law_flag hr rfl (pa_cons (pe_def D_is_fitting hr rfl (pa_cons (pv 5) (pa_cons (pv 6) (pa_cons (pv 10) pa_nil)))) (pa_cons (pe_cmpR (opInD K (hu65 hr)) (pv 10) (pv 8) (by rfl)) pa_nil))))) (pss_one (ps_ret pe_bl)) pss_nil))))
      (pss_one (ps_if (pt_not (pt_val (pe_callB (crAll K) (by rfl) T.all (by decide +kernel) (pa_cons (pe_lc (own := [("_law_order_here", 10)]) rfl sc_law.nd (piL K (pe_slice (slL K) (pv 8) po_none (po_some pe_int))) (blkOk_by (by kernel_rfl)) (fun _ _ _ _ _ => (pg_name (i := 10) sc_law.nd rfl (Or.inl rfl))) (fun _ _ _ _ _ => pts_nil) (fun _ _ _ _ _ => (pe_cmpR op_isBl (pe_def D_is_fitting hr rfl (pa_cons (pv 5) (pa_cons (pv 6) (pa_cons (pv 10) pa_nil)))) pe_bl (nomark _)))) pa_nil)))) (pss_one (ps_ret pe_bl)) pss_nil)))))))))))))
      (pss_one (ps_ret (pe_or (pe_cmpR op_gt (pe_def D_law_draw hr rfl (pa_cons (pv 1) (pa_cons pe_int pa_nil))) pe_int (nomark _)) (pe_one (pe_def D_law_of_many hr rfl (pa_cons (pv 1) pa_nil)))))))), ?_⟩
    refine ⟨_, rfl, a0, ns, rfl, ha0, hns, fun H1 h ca s1 w1 => ?_⟩
    have t1 := ht0.ext s1
    show gName _ _ _ _ _
    rw [gName_def]
    dsimp only
    refine seq_keep (fun σ' H' => (∃ a2 a3 a4 a5 a6 a7 a8 a9 a10, σ' = [some (.ref a0), some (.ref h), a2, a3, a4, a5, a6, a7, a8, a9, a10]) ∧ HandAt H' h ca ∧ LamX.TabS H' PT tq) (fun D' kD => ?_) ?_
    · refine ⟨_, rfl, by decide, by decide, for_it walk_range (fun i σ' H' => (∃ a2 a3 a4 a5 a6 a7 a8 a9 a10, σ' = [some (.ref a0), some (.ref h), a2, a3, a4, a5, a6, a7, a8, a9, a10]) ∧ HandAt H' h ca ∧ LamX.TabS H' PT tq) ⟨⟨_, _, _, _, _, _, _, _, _, rfl⟩, w1, t1⟩ (fun _ _ _ _ _ => trivial) ?_ ?_⟩
      · rintro i y σ H0 H' hi ⟨⟨a2, a3, a4, a5, a6, a7, a8, a9, a10, rfl⟩, w2, t2⟩ ⟨rfl, rfl⟩
        have hi4 : i < 4 := hi
        refine ⟨_, rfl, h, ca, 3, rfl, w2, by decide, by decide, fun H3 d3 k3 hd3 => ⟨_, _, rfl, rfl, ?_⟩⟩
        refine ⟨by show 3 ≤ sizeLine; decide, fun q hq => ⟨_, rfl, h, ca, 3, rfl, k3.2.same (same_new hq), by decide, by decide, fun H4 d4 k4 hd4 => ?_⟩⟩
        obtain ⟨s, hs, hs45⟩ := pick45 d4 hd4
        have eq4 := k4.keep (k3.2.new hq).1 upd_same
        obtain ⟨n, hn, hn1, hn6⟩ := people4 hd3 hs45 i hi4
        refine ⟨q, _, d4, vN s, rfl, rfl, SqL.of eq4, at_of (j := d4) rfl hs, by show 4 ≤ sizeLine; decide, fun p hp => ?_⟩
        have kA : KH h ca H' (upd H4 p (.lst [V.int (1 + (d3 : Int)), V.int 4, V.int 4, vN s])) := ((k3.then_ (same_new hq)).trans k4).then_ (same_new hp)
        have tA := tabS_kh w2 t2 kA
        have wA := kA.2
        generalize hHA : upd H4 p (.lst [V.int (1 + (d3 : Int)), V.int 4, V.int 4, vN s]) = HA
        have ep : HA p = some (.lst [V.int (1 + (d3 : Int)), V.int 4, V.int 4, vN s]) := by rw [← hHA, upd_same]
        rw [hHA] at kA tA wA
        refine ⟨_, rfl, p, _, _, vN n, rfl, rfl, SqL.of ep, at_of (j := i) (by omega) hn, ?_⟩
        refine ⟨_, rfl, _, rfl, h, ca, n, 8, rfl, wA, hn1, by omega, by decide, fun HB a ls kB ha hL hl14 => ?_⟩
        have tB := tabS_kh wA tA kB
        show gName _ _ _ _ _
        rw [gName_def]
        dsimp only
        refine seq_keep (fun σ' H' => ∃ (n : Nat) (a : Addr) (ls : List (List Nat)) (a2 a5 a6 a7 a8 a9 a10 : Option V), σ' = [some (.ref a0), some (.ref h), a2, some (vN n), some (.ref a), a5, a6, a7, a8, a9, a10] ∧ HandAt H' h ca ∧ LamX.TabS H' PT tq ∧ 1 ≤ n ∧ n ≤ 6 ∧ CrTT H' a ls ∧ Lots n ls ∧ ls.length ≤ 20) (fun D2 kD2 => ?_) ?_
        · refine ⟨_, rfl, rfl, _, rfl, ite_both ?_ (iteF (kD2 _ _ ⟨n, a, ls, _, _, _, _, _, _, _, rfl, kB.2, tB, hn1, hn6, ha, hL, by omega⟩))⟩
          refine ⟨_, rfl, h, ca, 20, rfl, kB.2, by decide, by decide, fun HC dC kC hdC => ⟨rfl, _, rfl, ite_both ?_ (kD2 _ _ ⟨n, a, ls, _, _, _, _, _, _, _, rfl, kC.2, tabS_kh kB.2 tB kC, hn1, hn6, ha.mono (kC.ts kB.2), hL, by omega⟩)⟩⟩
          exact ⟨_, rfl, h, ca, rfl, kC.2, tabS_kh kB.2 tB kC, fun HD x ls6 kD6 hx hL6 hl6 => kD2 _ _ ⟨6, x, ls6, _, _, _, _, _, _, _, rfl, kD6.2.1, kD6.2.2, by decide, by decide, hx, hL6, hl6⟩⟩
        clear hL hl14 ha hn hn1 hn6
        rintro σ HC ⟨n, a, ls, a2, a5, a6, a7, a8, a9, a10, rfl, wC, tC, hn1, hn6, ha, hL, hl20⟩
        have hl2 : ∀ l ∈ ls, l.length ≤ 1000 := fun l hl => by
          have := crowd_len (hL.crowd l hl)
          omega
        refine ⟨_, rfl, _, rfl, fun x dx hx hdx hne => ?_⟩
        have s3 : Same HC (upd (upd HC dx (.own x)) x (.ins CB dx [])) := Same.trans (same_new hdx) (same_new (by rw [upd_ne (Ne.symm hne)]; exact hx))
        refine ⟨x, dx, a, n, ls, rfl, upd_same, ha.mono (ts_same s3), hL, hn1, by omega, by omega, fun HD kD4 hB => ⟨rfl, ?_⟩⟩
        have sCD : Same HC HD := fun c u e => kD4 _ _ (fun z => by rw [z, hx] at e; cases e) (s3 _ _ e)
        have wD := wC.same sCD
        have tD := tC.ext sCD
        have haD := ha.mono (ts_same sCD)
        refine ⟨_, rfl, _, rfl, _, rfl, _, rfl, _, rfl, h, ca, n, rfl, wD, by omega, fun HE b o kE hb ho => ?_⟩
        refine ⟨h, ca, a, b, n, 5, ls, o, rfl, kE.2, haD.mono (kE.ts wD), hb, ho, by omega, by decide, by omega, hl2, fun HF v ps sg kF hv hps hsg hsl hv0 => ?_⟩
        have kDF := kE.trans kF
        have wF := kF.2
        have tF := tabS_kh wD tD kDF
        have hBF := hB.kh wD kDF
        have haF := haD.mono (kDF.ts wD)
        have lps := paired_len hps
        refine ⟨_, rfl, n, rfl, hn6, fun HG l xs sG hl hxs => ?_⟩
        have lxs := paired_len hxs
        have hlen6 := lists_len6 hn6 (Nat.le_refl n)
        have hBG := hBF.same sG
        have hvG := sG _ _ hv
        have hpsG := hps.mono (ts_same sG)
        have haG := haF.mono (ts_same sG)
        refine ⟨_, rfl, l, rfl, ⟨_, SqL.of hl⟩, fun D hD => ?_⟩
        refine lc_same walk_list (fun H v c => ∃ a, v = V.ref a ∧ CrT H a c) (fun i => (lists n n)[i]?.bind fun o => if fits n ls sg o = true then some o else none) hD (fun H3 s => SqL.of (s _ _ hl)) (fun _ _ _ _ t ⟨a, e, r⟩ => ⟨a, e, r.mono t⟩) (by omega) ?_ ?_
        · rintro j y H3 H4 K1 K2 hj s3 ⟨rfl, e⟩ kk1 kk2
          obtain ⟨o2, eo, oa, rfl, hoa⟩ := paired_at hxs e
          have ho2 := lists_order.mp (List.mem_of_getElem? eo)
          have hoa3 := hoa.mono (ts_same s3)
          refine ⟨rfl, _, rfl, _, rfl, _, rfl, a, oa, v, n, ls, sg, o2, rfl, haG.mono (ts_same s3), hoa3, ⟨ps, .lst ps, .inl rfl, s3 _ _ hvG, hpsG.mono (ts_same s3)⟩, ⟨ho2.nd, ho2.lt⟩, by omega, by omega, by omega, hl2, fun H5 s5 => ⟨_, rfl, ?_⟩⟩
          cases hf : fits n ls sg o2 with
          | true => exact iteT ⟨_, rfl, kk1 _ _ o2 s5 (by rw [bind_if eo, hf]; rfl) ⟨oa, rfl, hoa3.mono (ts_same s5)⟩⟩
          | false => exact iteF (kk2 _ s5 (by rw [bind_if eo, hf]; rfl))
        intro HH gs sH eg pg
        rw [lxs, fm_map, fm_idL] at pg
        have hgs : CrsR HH gs (good n ls sg) := pg
        clear pg
        have lgs := paired_len hgs
        have hgl : (good n ls sg).length ≤ (lists n n).length := List.length_filter_le _ _
        have sFH := sG.trans sH
        have wH := wF.same sFH
        have tH := tF.ext sFH
        have hBH := hBF.same sFH
        have hvH := sFH _ _ hv
        have hpsH := hps.mono (ts_same sFH)
        have hlH := sH _ _ hl
        have hxsH := hxs.mono (ts_same sH)
        have hfl : ∀ c, fitting n ls sg = some c → c.length ≤ 1000 := fun c hc => by
          rw [← good_head hL hsg] at hc
          have h1 : c ∈ good n ls sg := List.mem_of_head? hc
          have h2 := lists_order.mp (List.mem_filter.mp h1).1
          rw [h2.len]; omega
        refine ⟨_, rfl, _, rfl, x, v, n, ls, sg, rfl, hBH, ⟨ps, .lst ps, .inl rfl, hvH, hpsH⟩, hsg, hL, by omega, by omega, by omega, fun HI y sI hy => ?_⟩
        refine ⟨by show 1 ≤ sizeLine; decide, fun q1 hq1 => ?_⟩
        refine ⟨_, rfl, by show 1 ≤ sizeLine; decide, fun q2 hq2 => ?_⟩
        have eg2 := same_new hq2 (o := .lst [.non]) _ _ (same_new hq1 (o := .lst [y]) _ _ (sI _ _ eg))
        refine ⟨D, q2, gs, [.non], rfl, rfl, eg2, upd_same, line2 (by show _ + 1 ≤ _; omega), fun q3 hq3 => ?_⟩
        refine ⟨_, rfl, q3, _, rfl, SqL.of upd_same, fun q4 hq4 => ?_⟩
        have hcut : cutV (gs ++ [V.non]) none (some 1) = (gs ++ [V.non]).take 1 := cut_some _ 1
        rw [hcut]
        generalize hHJ : upd (upd (upd (upd HI q1 (.lst [y])) q2 (.lst [.non])) q3 (.lst (gs ++ [.non]))) q4 (.lst ((gs ++ [V.non]).take 1)) = HJ
        have sJ : Same HI HJ := by
          rw [← hHJ]
          exact Same.trans (Same.trans (Same.trans (same_new hq1) (same_new hq2)) (same_new hq3)) (same_new hq4)
        have n14 : q1 ≠ q4 := fun z => by
          rw [← z] at hq4
          have : upd (upd (upd HI q1 (.lst [y])) q2 (.lst [.non])) q3 (.lst (gs ++ [.non])) q1 = some (.lst [y]) := same_new hq3 _ _ (same_new hq2 _ _ upd_same)
          rw [this] at hq4; cases hq4
        have e1J : HJ q1 = some (.lst [y]) := by
          rw [← hHJ, upd_ne n14]
          exact same_new hq3 _ _ (same_new hq2 _ _ upd_same)
        have e4J : HJ q4 = some (.lst ((gs ++ [V.non]).take 1)) := by rw [← hHJ, upd_same]
        have sHJ := sI.trans sJ
        have hgsJ := hgs.mono (ts_same sHJ)
        obtain ⟨z, hz1, hz2, hz3⟩ := good_take hL hsg hgsJ
        rw [hz1] at e4J
        have hyJ := hy.mono (ts_same sJ)
        refine .inr ⟨q1, q4, [y], [z], _, _, rfl, .inl ⟨rfl, rfl⟩, e1J, e4J, rfl, by show 1 ≤ 1000; decide, fun i x1 y1 H8 Q' e3 e4 s8 k8 => ?_, fun HK sK => ⟨true, rfl, iteF ?_⟩⟩
        · cases i with
          | zero =>
            cases e3
            cases e4
            exact is_opt (hyJ.mono (ts_same s8)) (hz3.mono (ts_same s8)) hfl k8
          | succ i => simp at e3
        have sHK := sHJ.trans sK
        refine ⟨_, rfl, _, rfl, v, ps, rfl, SqL.of (sHK _ _ hvH), fun q5 hq5 => ?_⟩
        refine ⟨q5, _, rfl, .inl ⟨SqL.of upd_same, fun t5 ht5 => ?_⟩⟩
        have s5 : Same HK (upd (upd HK q5 (.lst ps.reverse)) t5 (.tup ps.reverse)) := Same.trans (same_new hq5) (same_new ht5)
        have sH5 := sHK.trans s5
        refine ⟨x, t5, n, ls, sg.reverse, rfl, hBH.same sH5, ⟨ps.reverse, .tup ps.reverse, .inr rfl, upd_same, paired_rev (hpsH.mono (ts_same sH5))⟩, sights_rev hsg, hL, by omega, by rw [List.length_reverse]; omega, by omega, fun HL y2 sL hy2 => ?_⟩
        rw [fitting_rev hL hsg] at hy2
        have sHL := sH5.trans sL
        refine ⟨_, rfl, by show 1 ≤ sizeLine; decide, fun q6 hq6 => ?_⟩
        refine ⟨D, q6, gs, [.non], rfl, rfl, same_new hq6 _ _ (sHL _ _ eg), upd_same, line2 (by show _ + 1 ≤ _; omega), fun q7 hq7 => ?_⟩
        have s7 : Same HL (upd (upd HL q6 (.lst [.non])) q7 (.lst (gs ++ [.non]))) := Same.trans (same_new hq6) (same_new hq7)
        obtain ⟨z2, hz4, hz5, hz6⟩ := good_take hL hsg (hgs.mono (ts_same (sHL.trans s7)))
        refine ⟨q7, _, 0, z2, rfl, rfl, SqL.of upd_same, at_of (j := 0) rfl hz5, ?_⟩
        obtain ⟨dd, hd1, hd2, hd3, hd4⟩ := opt_dp (K := K) (hy2.mono (ts_same s7)) hz6
        refine ⟨dd, dd, hd1, hd2, hd3, hd3, _, rfl, ?_⟩
        rw [hd4]
        refine iteF ?_
        have sHM := sHL.trans s7
        generalize upd (upd HL q6 (.lst [.non])) q7 (.lst (gs ++ [.non])) = HM at sHM ⊢
        have wM := wH.same sHM
        have tM := tH.ext sHM
        have hBM := hBH.same sHM
        have hvM := sHM _ _ hvH
        have hpsM := hpsH.mono (ts_same sHM)
        have hlM := sHM _ _ hlH
        have hxsM := hxsH.mono (ts_same sHM)
        have egM := sHM _ _ eg
        have hgsM := hgs.mono (ts_same sHM)
        have hvh := prs_ne wM hvM hpsM
        have hlh := crs_ne wM hlM hxsM
        have hDh := crs_ne wM egM hgsM
        clear hd1 hd2 hd3 hd4 hz1 hz2 hz3 hz4 hz5 hz6
        show tNext _ _ _
        rw [tNext_def]
        dsimp only
        refine seq_keep (fun σ' H' => ∃ (a9 a10 : Option V), σ' = [some (.ref a0), some (.ref h), a2, some (vN n), some (.ref a), some (.ref x), some (.ref v), some (.ref l), some (.ref D), a9, a10] ∧ KH h ca HM H') (fun D3 kD3 => ?_) ?_
        · refine ⟨_, rfl, by decide, by decide, for_it walk_range (fun j σ' H' => ∃ (a9 a10 : Option V), σ' = [some (.ref a0), some (.ref h), a2, some (vN n), some (.ref a), some (.ref x), some (.ref v), some (.ref l), some (.ref D), a9, a10] ∧ KH h ca HM H') ⟨_, _, rfl, KH.of wM (Same.refl _)⟩ (fun _ _ _ _ _ => trivial) ?_ ?_⟩
          · rintro j y9 σ H0 H' hj ⟨a9, a10, rfl, kM⟩ ⟨rfl, rfl⟩
            have hl' := kM.keep hlh hlM
            have hpos := lists_pos n
            refine ⟨_, rfl, _, rfl, _, rfl, l, _, rfl, .inl (SqL.of hl'), h, ca, xs.length, rfl, kM.2, by omega, by omega, fun H9 d9 k9 hd9 => ?_⟩
            have kM9 := kM.trans k9
            have hl9 := kM9.keep hlh hlM
            have hxs9 := hxsM.mono (kM9.ts wM)
            obtain ⟨o9, eo9, oa, eoa, hoa⟩ := paired_at hxs9 (List.getElem?_eq_getElem hd9)
            have hom := List.mem_of_getElem? eo9
            have ho9 := lists_order.mp hom
            refine ⟨l, xs, d9, .ref oa, rfl, rfl, SqL.of hl9, at_of (j := d9) rfl (by rw [List.getElem?_eq_getElem hd9, eoa]), ?_⟩
            have hB9 := hBM.kh wM kM9
            have hv9 := kM9.keep hvh hvM
            have hps9 := hpsM.mono (kM9.ts wM)
            refine ⟨_, rfl, _, rfl, _, rfl, x, v, oa, n, ls, sg, o9, rfl, hB9, ⟨ps, .lst ps, .inl rfl, hv9, hps9⟩, hoa, hsg, hL, ho9, by omega, by omega, by omega, fun H10 s10 => ?_⟩
            have kM10 := kM9.then_ s10
            refine ⟨_, rfl, _, rfl, natD o9, (good n ls sg).map natD, dp_nat (s10 _ _ hoa), .lst (SqL.of (kM10.keep hDh egM)) (dp_crs (hgsM.mono (kM10.ts wM))), shaped_nat _, shaped_nats _, ?_⟩
            rw [good_has hom]
            refine ⟨_, _, rfl, ?_⟩
            rw [beq_self_eq_true]
            exact ⟨true, rfl, iteF ⟨_, _, rfl, kM10⟩⟩
          · rintro σ H' h'
            exact kD3 _ _ h'
        rintro σ HN ⟨a9, a10, rfl, kN⟩
        have egN := kN.keep hDh egM
        have hgsN := hgsM.mono (kN.ts wM)
        have hBN := hBM.kh wM kN
        have hvN := kN.keep hvh hvM
        have hpsN := hpsM.mono (kN.ts wM)
        refine ⟨_, rfl, _, rfl, D, gs, rfl, SqL.of egN, fun q8 hq8 => ?_⟩
        have hcut4 : cutV gs none (some 4) = gs.take 4 := cut_some _ 4
        rw [hcut4]
        have s8 : Same HN (upd HN q8 (.lst (gs.take 4))) := same_new hq8
        refine ⟨q8, rfl, ⟨_, SqL.of upd_same⟩, fun D2 hD2 => ?_⟩
        have e8 : upd HN q8 (.lst (gs.take 4)) q8 = some (.lst (gs.take 4)) := upd_same
        have l8 : (gs.take 4).length ≤ 4 := by rw [List.length_take]; omega
        refine lc_same walk_list (fun _ v (b : Bool) => v = .bl b) (fun _ => some true) hD2 (fun H3 s => SqL.of (s _ _ e8)) (fun _ _ _ _ _ e => e) (by omega) ?_ ?_
        · rintro j y H3 H4 K1 K2 hj s3 ⟨rfl, e⟩ kk1 kk2
          have e' : gs[j]? = some y := by
            rw [List.getElem?_take] at e
            split at e
            · exact e
            · cases e
          obtain ⟨o2, eo, oa, rfl, hoa⟩ := paired_at hgsN e'
          have hom := List.mem_filter.mp (List.mem_of_getElem? eo)
          have ho2 := lists_order.mp hom.1
          have s83 := s8.trans s3
          refine ⟨rfl, tyes ⟨_, rfl, _, rfl, _, rfl, x, v, oa, n, ls, sg, o2, rfl, hBN.same s83, ⟨ps, .lst ps, .inl rfl, s83 _ _ hvN, hpsN.mono (ts_same s83)⟩, hoa.mono (ts_same s83), hsg, hL, ho2, by omega, by omega, by omega, fun H5 s5 => ?_⟩⟩
          rw [hom.2]
          exact ⟨true, true, rfl, rfl, kk1 _ _ true s5 rfl rfl⟩
        · intro H3 ys s3 e p
          rw [paired_val p] at e
          refine ⟨D2, _, rfl, SqL.of e, ?_⟩
          rw [all_true]
          have kN3 := kN.then_ (s8.trans s3)
          exact ⟨true, rfl, iteF ⟨⟨_, _, _, _, _, _, _, _, _, rfl⟩, kN3.2, tabS_kh wM tM kN3⟩⟩
      · rintro σ H' h'
        exact kD _ _ h'
    rintro σ H' ⟨⟨a2, a3, a4, a5, a6, a7, a8, a9, a10, rfl⟩, w2, t2⟩
    exact ⟨_, rfl, h, ca, 4, rfl, w2, by decide, by decide, fun H3 d3 k3 hd3 => ⟨_, _, rfl, rfl, _, rfl, ite_both (k _) ⟨_, rfl, h, ca, rfl, k3.2, fun H4 => k _⟩⟩⟩
end
end K43
/-! ## R8 -/
set_option Elab.async false
set_option linter.all false
set_option maxRecDepth 100000
set_option maxHeartbeats 2000000
/-! R8: sorted(xs, key=lambda c: (len(c), c)). -/
namespace L2
open PySem PySem.Spec PyProof.Rows
/-- what a lambda of one parameter asks of its scope -/
structure Lam1 (x : Str) (scope : Scope) : Prop where
  kind : scope.kind = .function
  co : scope.isCoroutine = false
  gen : scope.isGenerator = false
  loc : scope.names.lookup x = some .local
  len : scope.names.lookup ("len" : Str) = some .globalImplicit
  nofree : ∀ y ∈ scope.names, y.2 ≠ .free
section
variable {P : Program} {w : World} {A : Around} {s : Shared} {mg mb : Str → Option Value}
theorem k43_lam_key {x q : Str} {params : Arguments} {scope : Scope} {pm ctv : Value} {c' f b : Addr} {p1 p2 p3 p4 p5 : Pos} {kk : Nat} {its : List Value} {ns : List Int} (S : Lam1 x scope) (hdp : A.depth < recursionLimit) (hg : s.heap.Ns mainGlobals mg) (hb : s.heap.Ns builtinsNs mb) (hbb : ∀ x : Str, x ≠ "__name__" → mb x = bootBuiltins x) (hml : mg "len" = none) (hlim : s.heap.NoLimit)
    (hxd : (x == ("__debug__" : Str)) = false)
    (ho : s.heap.get? f = some (PySem.W.kla_obj "<lambda>" q params (.Tuple [.Call (.Name "len" p1) [.Name x p2] [] p3, .Name x p4] kk p5) scope [] pm c' ctv)) (hcd : s.heap.CodeRec (.ref c') q)
    (hbind : ∀ u : Value, bindArgs (PySem.W.kla_fn "<lambda>" q params (.Tuple [.Call (.Name "len" p1) [.Name x p2] [] p3, .Name x p4] kk p5) scope [] pm (.ref c') ctv) ⟨[u], []⟩ = pure [(x, u)])
    (ht : s.heap.IsTuple b its.toArray) (hi : IntsAre its ns) (hn : ns.length ≤ 1000) :
    wpAny (model P w) A (call (.ref f) [.ref b]) (PySem.W.KeyPure (.tuple [.int (ns.length : Int), .tuple (ns.map PyData.int)]) s) (fun _ _ => False) s := by
  refine wpAny_call ?_
  refine PySem.W.kla_callFunE hdp ho rfl S.co S.gen rfl hcd ?_
  rw [hbind]
  refine wpAny_pure (wpAny_newFunctionEnv_cells S.kind (fun y hy => ?_) fun env he s1 z => ?_)
  · have : y = (x, .ref b) := by simpa using hy
    rw [this]
    exact .inl S.loc
  · have hkx : env.kindOf x = some .local := by rw [he]; exact S.loc
    have hkl : env.kindOf "len" = some .globalImplicit := by rw [he]; exact S.len
    have hkk : env.scope.kind = .function := by rw [he]; exact S.kind
    have hgg : env.globals = mainGlobals := by rw [he] <;> rfl
    have hgb : env.builtins = builtinsNs := by rw [he] <;> rfl
    clear he
    have k1 := z.toInCall.keep
    have hns := z.toInCall.ns
    obtain ⟨h1, tk1, e1⟩ := z.toInCall.same
    refine ⟨hlim.keeps k1, PySem.W.kla_codeExpr ?_⟩
    have hbl : (bindL env.kindOf [(x, Value.ref b)] fun _ => none) x = some (.ref b) := by
      unfold bindL bindL
      rw [if_pos hkx, if_pos rfl]
    refine wpAny_Tuple_spliced ?_
    show wpAny _ _ (spliced ((false, eval (.Call (.Name "len" p1) [.Name x p2] [] p3) _) :: backTo p5 (starEach [.Name x p4] _))) _ _ _
    refine Calls.spliced_cons ?_
    refine wpAny_Call_Name_kw (Calls.Name_function_global hkk hkl (Calls.loadGlobal_builtin (by rw [hgg]; exact hg.keeps k1) hml (by rw [hgb]; exact hb.keeps k1) ((hbb _ (by decide)).trans boot_len) ?_))
    refine PyProof.Rows.callWith_builtin1 ?_ rfl rfl
    refine Calls.spliced_cons (wpAny_Name (wpAny_loadName_local hkk hkx hns hbl ?_) hxd)
    refine Calls.spliced_nil ?_
    have ht1 : s1.heap.IsTuple b its.toArray := by
      obtain ⟨o, h1, h2⟩ := ht
      exact ⟨o, k1 _ _ h1, h2⟩
    have hlen := hi.length
    refine len_tuple ht1 (by simp only [List.size_toArray]; omega) ?_
    subst e1
    show wpAny _ _ (spliced ((false, eval (.Name x p4) env) :: [])) _ _ _
    refine Calls.spliced_cons (wpAny_Name (wpAny_loadName_local hkk hkx hns hbl ?_) hxd)
    refine Calls.spliced_nil ⟨by show 2 ≤ sizeLine; decide, ?_⟩
    refine ⟨_, _, rfl, fun c o e => Heap.get?_push_of_some _ (k1 c o e), ?_⟩
    have hr : Reads (h1.push { cls := .type "tuple", data := .seq #[.int (its.toArray.size : Int) (tk1 + 1), .ref b] }) (.ref b) (.tuple (ns.map PyData.int)) [] := by
      obtain ⟨o, g1, g2, n, g3⟩ := ht1
      exact .tuple (Heap.get?_push_of_some _ g1) g2 g3 (by simpa using k43_reads_ints hi)
    refine .tuple (Heap.get?_push_size _ rfl) rfl rfl ?_
    refine ReadsAll.cons (as := []) (bs := []) ?_ (ReadsAll.cons (as := []) (bs := []) hr .nil)
    have e : (its.toArray.size : Int) = (ns.length : Int) := by simp only [List.size_toArray]; omega
    rw [e]
    exact .int _ _
end
def k43key (q : Addr × List Int) : PyData := .tuple [.int (q.2.length : Int), .tuple (q.2.map PyData.int)]
theorem k43_eqvZ : ∀ a b : List Int, PyData.eqvAll (a.map PyData.int) (b.map PyData.int) = (a == b)
  | [], [] => by simp [PyData.eqvAll]
  | [], _ :: _ => by simp [PyData.eqvAll]
  | _ :: _, [] => by simp [PyData.eqvAll]
  | x :: a, y :: b => by
    rw [List.map_cons, List.map_cons, PySem.W.eqv_all_cons, k43_eqvZ a b]
    show ((PyData.eqv (.int x) (.int y)) && (a == b)) = (x == y && a == b)
    congr 1
theorem k43_key_le {a b : Addr × List Int} (h : PySem.W.dataLe false k43key a b = true) (hl : a.2.length = b.2.length) : a.2 ≤ b.2 := by
  have h1 : PySem.W.dataLe false k43key a b = !PySem.W.dataLt (k43key b) (k43key a) := rfl
  rw [h1] at h
  have h2 : PySem.W.dataLt (k43key b) (k43key a) = false := by simpa using h
  unfold k43key at h2
  have ha : PySem.W.alike (.tuple (b.2.map PyData.int)) (.tuple (a.2.map PyData.int)) = true := by
    simp only [PySem.W.alike, PySem.W.alike_ints]
  have hi : PySem.W.alike (.int (b.2.length : Int)) (.int (a.2.length : Int)) = true := by simp only [PySem.W.alike]
  rw [PySem.W.dataLt_pair hi ha] at h2
  have e1 : PyData.eqv (.int (b.2.length : Int)) (.int (a.2.length : Int)) = true := by
    rw [hl]
    simp [PyData.eqv]
  rw [if_pos e1] at h2
  have e3 : PySem.W.dataLt (.tuple (b.2.map PyData.int)) (.tuple (a.2.map PyData.int)) = decide (b.2 < a.2) := PySem.W.dataLt_ints _ _
  by_cases c : PyData.eqv (.tuple (b.2.map PyData.int)) (.tuple (a.2.map PyData.int)) = true
  · have e4 : a.2 = b.2 := by
      simp only [PyData.eqv] at c
      rw [k43_eqvZ] at c
      exact (by simpa using c : b.2 = a.2).symm
    rw [e4]
    exact List.le_refl _
  · rw [if_neg c, e3] at h2
    have h5 : ¬ b.2 < a.2 := by simpa using h2
    exact List.not_lt.mp h5
theorem k43_key_sorted (l : List (Addr × List Int)) : (l.mergeSort (PySem.W.dataLe false k43key)).Pairwise fun a b => a.2.length = b.2.length → a.2 ≤ b.2 := by
  have := List.pairwise_mergeSort (le := PySem.W.dataLe false k43key) (PySem.W.sortLe_total _ _ _).trans (fun a b => Bool.or_eq_true_iff.mpr ((PySem.W.sortLe_total (listOrd itemOrd) false fun b => PySem.W.keyToks (k43key b)).total a b)) l
  exact this.imp fun h hl => k43_key_le h hl
section
variable {X : Cx}
/-- sorted(e, key=lambda x: (len(x), x)), e a list of tuples of ints -/
def tSL (K : PySem.W.Frag) (PT : Addr) (q : Str) (te : TE) : TE := fun σ H Q => te σ H fun x H1 => ∃ (l : Addr) (ks : List (Addr × List Int)), x = .ref l ∧ H1 l = some (.lst (ks.map fun p => V.ref p.1)) ∧ (∀ p ∈ ks, H1 p.1 = some (.tup (p.2.map V.int)) ∧ p.2.length ≤ 1000) ∧ ks.length ≤ 1000 ∧ LamX.TabS H1 PT q ∧
  ∀ (H2 : Hp) (p : Addr) (ks' : List (Addr × List Int)), LamX.ExtN H1 H2 → LamX.TabS H2 PT q → ks'.Perm ks → (ks'.Pairwise fun a b => a.2.length = b.2.length → a.2 ≤ b.2) → H2 p = none → Q (.ref p) (upd H2 p (.lst (ks'.map fun p => V.ref p.1)))
theorem pe_sortedLam {k : Nat} {c PT : Addr} {q x : Str} {e : Expr} {te : TE} {params : Arguments} {scope : Scope} {p pos lpos kpos p1 p2 p3 p4 p5 : Pos} {kk : Nat} (TB : LamX.TabB X.base X.mg c PT) (hcode : X.env.code = .ref c) (hq : X.env.qual ++ "<lambda>" = q) (hr : Room k X.A) (hc : X.calm = true)
    (S : Lam1 x scope) (hxd : (x == ("__debug__" : Str)) = false)
    (hdef : defaultsOf params X.env = ([], []))
    (hbind : ∀ (q : Str) (pm cv ctv u : Value), bindArgs (PySem.W.kla_fn "<lambda>" q params (.Tuple [.Call (.Name "len" p1) [.Name x p2] [] p3, .Name x p4] kk p5) scope [] pm cv ctv) ⟨[u], []⟩ = pure [(x, u)])
    (hcl : ∀ cells, cloFrom cells scope.names [] = [])
    (hg : Gl X "sorted") (hm : X.mg "sorted" = none) (hml : X.mg "len" = none) (he : PE X e te)
    (hs1 : backTo pos (starEach [e] X.env) = (false, eval e X.env) :: backTo pos (starEach [] X.env) := by rfl) (hs2 : starEach [e] X.env = (false, eval e X.env) :: starEach [] X.env := by rfl) (hs3 : (backTo pos (starEach [e] X.env)).any (·.1) = false := by rfl) :
    PE X (.Call (.Name "sorted" p) [e] [⟨some "key", .Lambda params (.Tuple [.Call (.Name "len" p1) [.Name x p2] [] p3, .Name x p4] kk p5) scope lpos, kpos⟩] pos) (tSL X.K PT q te) := by
  refine ⟨fun pins s σ H Q I h => ?_⟩
  refine wpAny_Call_Name_kw (ld_blt I hg hm boot_sorted ?_)
  refine PyProof.Rows.callWith_kw ?_ hs1 hs3 rfl rfl
  rw [hs1]
  refine Calls.spliced_cons (thn (he.run pins s σ H _ I h) fun u s1 ⟨v, H1, I1, r1, q1⟩ => ?_)
  refine Calls.spliced_nil ?_
  obtain ⟨l, ks, rfl, hl, hk, hn, hT, q1⟩ := q1
  cases r1
  refine wpAny_evalAll_cons (wpAny_bind ?_)
  have hTs : LamX.Tabs [(PT, q)] H1 := fun z hz => by
    have : z = (PT, q) := by simpa using hz
    rw [this]; exact hT
  refine LamX.lam_make2 (T := [(PT, q)]) I1 TB hcode (by rw [hq]; exact List.mem_cons_self) (fun z hz _ => by
    have : z = (PT, q) := by simpa using hz
    rw [this, hq]) hTs hdef (fun y hy hfree => absurd hfree (S.nofree y hy)) fun f c' pm ctv H2 s2 I2 hE hT2 hf hfn hfr hco => ?_
  refine wpAny_bind (wpAny_standAt (wpAny_pure ?_))
  refine wpAny_evalAll_nil ?_
  rw [hq, hcl] at hf
  rw [hq] at hco
  have hl2 : H2 l = some (.lst (ks.map fun p => V.ref p.1)) := hE _ _ hl (fun ps z => by cases z)
  have hk2 : ∀ p ∈ ks, H2 p.1 = some (.tup (p.2.map V.int)) := fun p hp => hE _ _ (hk p hp).1 (fun ps z => by cases z)
  obtain ⟨its, rv, pl, hz⟩ := I2.list (SqL.of (K := X.K) hl2)
  have hits : its = ks.map fun p => Value.ref p.1 := refs_of_vals rv
  subst hits
  obtain ⟨oc, vs, t, hoc, hdc, hvc⟩ := (I2.hok c' _ hco).1
  have hcr : s2.heap.CodeRec (.ref c') q := ⟨c', oc, vs, t, rfl, hoc, hdc, hvc⟩
  obtain ⟨mb, hb1, hb2⟩ := I2.mod.blt
  have hlim : s2.heap.NoLimit := I2.mod.nolimit.keeps I2.bk
  have hrd := hr.dp
  have hru := hr.un
  refine PySem.W.sorted_key_data (β := Addr × List Int) (R := fun v q => v = .ref q.1) (bs := ks) (b := false) (vs := ks.map fun p => Value.ref p.1) k43key pl.isList (k43_each ks) (PySem.W.AllAlike.of fun a b => ?_) (.inl fun d hd => ?_) (by rw [sizeLine_eq]; omega) (fun z hz => ?_) (PyProof.Rows.ksk_s1 _ _) (fun z => ?_) (fun z => PyProof.Rows.ksk_t1 _ _) (fun v z hR hz h tk kp => ?_) fun out cc h' tk kp hfr2 hout hlen hE3 => ?_
  · unfold k43key
    simp only [PySem.W.alike, PySem.W.alikeAll, PySem.W.alike_ints, Bool.and_true]
  · obtain ⟨z, hz, rfl⟩ := List.mem_map.mp hd
    exact ⟨_, _, rfl⟩
  · have h1 := PySem.W.depth_ints z.2
    have h2 : (k43key z).depth ≤ 2 := by
      unfold k43key
      simp [PyData.depth, PyData.depthAll, h1]
    omega
  · exact PyProof.Rows.ksk_l1 _ _
  · subst hR
    have ht1 := hk2 z hz
    obtain ⟨its, rv2, pt, _⟩ := I2.tuple (SqT.of (K := X.K) ht1)
    have ptk : h.IsTuple z.1 its.toArray := by
      obtain ⟨o, g1, g2⟩ := pt
      exact ⟨o, kp _ _ g1, g2⟩
    exact k43_lam_key (s := { s2 with heap := h, toks := tk }) S (by show X.A.depth < _; omega) ((I2.mod.glob.keeps I2.bk).keeps kp) ((hb1.keeps I2.bk).keeps kp) hb2 hml (hlim.keeps kp) hxd (kp _ _ hf) (hcr.keeps kp) (fun u => hbind _ _ _ _ u) ptk rv2.ints (hk z hz).2
  · have hperm := List.mergeSort_perm ks (PySem.W.dataLe false k43key)
    have hout2 := k43_each_eq hE3
    have hlen2 : ((ks.mergeSort (PySem.W.dataLe false k43key)).map fun p => V.ref p.1).length ≤ sizeLine := by
      rw [List.length_map, hperm.length_eq, sizeLine_eq]; omega
    have hn0 : H2 (s2.heap.objs.size + 1) = none := I2.hok.fresh (Nat.le_succ _)
    refine ⟨.ref (s2.heap.objs.size + 1), upd H2 (s2.heap.objs.size + 1) (.lst ((ks.mergeSort (PySem.W.dataLe false k43key)).map fun p => V.ref p.1)), I2.laid (t' := tk) kp (Nat.le_succ _) ⟨hlen2, out, cc, ?_, hout⟩, rfl, q1 H2 _ _ hE (hT2 (PT, q) List.mem_cons_self) hperm (k43_key_sorted ks) hn0⟩
    rw [hout2]
    exact vals_of_refs _
end
end L2
namespace K43
open PySem PySem.Spec PyProof.Rows L2
/-- a def whose code object is told -/
def SrcC (K : PySem.W.Frag) (mg : Str → Option Value) (x : Str) (st : Stmt) (c : Addr) : Prop :=
  ∃ f fd, FunD K x x (defArgs st) (defBody st) (defScope st) [] [] f fd ∧ mg x = some (.ref f) ∧ fd.code = .ref c
theorem SrcC.mk {P : Program} {w : World} {K : PySem.W.Frag} {mg : Str → Option Value} {base : Heap} {x : Str} {st : Stmt} {N ps : List Str} {k : Nat} {sp : Sp} {c : Addr} (S : SrcC K mg x st c) (sc : FnScope N ps (defScope st)) (hb : BindsAs x st ps) (len : ∀ vs H Q E, sp vs H Q E → vs.length = ps.length)
    (hbody : ∀ (f : Addr) (cdv : Value) (A : Around) (outer : List Env) (s : Shared) (H : Hp) (vs : List V) (Q : VK) (E : XK), cdv = .ref c → Room k (A.deeper (envOfC x (defScope st) s.heap.objs.size f cdv)) → sp vs H Q E →
      ∃ t, PSs (cxOf CX0 P w K mg base N x (defScope st) f cdv A outer s H E).nox (defBody st) t ∧ t { nx := fun _ H' => Q .non H', rt := Q } (start N vs) H) : Def P w K mg base x ps (k + 1) sp := by
  obtain ⟨f, fd, F, hm, hcode⟩ := S
  have hbn := F.bindsN hb
  have hkp := F.kp
  obtain ⟨oc, od, dV, kV, doc, pm, an, cdv, ct, osl, rfl, lk, hcd, _, _⟩ := F.ex
  have hc : cdv = .ref c := hcode
  refine ⟨f, _, fn_of lk hcd sc len fun A outer s H vs Q E hr hsp => ?_, hm, hkp, hbn⟩
  obtain ⟨t, h1, h2⟩ := hbody f cdv A outer s H vs Q E hc hr hsp
  exact ⟨t, h1.nox, h2⟩
end K43
/-! ## L8 -/
set_option Elab.async false
set_option linter.all false
set_option maxRecDepth 100000
set_option maxHeartbeats 2000000
/-! L8: all crowds, fewest first. -/
namespace K43
open PySem PySem.Spec PyProof.Rows L2
/-- the name of the lambda's code object -/
def lamQ : Str := (("_law_crowds" : Str) ++ (".<locals>." : Str)) ++ ("<lambda>" : Str)
theorem subs_len : ∀ n, (subs n).length = 2 ^ n
  | 0 => rfl
  | n + 1 => by
    show (subs n ++ (subs n).map fun c => c ++ [n]).length = _
    rw [List.length_append, List.length_map, subs_len n, Nat.pow_succ]
    omega
theorem subs_clen : ∀ {n : Nat} {c : List Nat}, c ∈ subs n → c.length ≤ n := fun h => crowd_len (subs_crowd _ _ h)
theorem uncast {a b : List (List Nat)} (h : (a.map (fun c => c.map fun i : Nat => (i : Int))).Perm (b.map (fun c => c.map fun i : Nat => (i : Int)))) : a.Perm b := by
  have h2 := h.map (fun l : List Int => l.map Int.toNat)
  have e : ∀ l : List (List Nat), (l.map (fun c => c.map fun i : Nat => (i : Int))).map (fun l : List Int => l.map Int.toNat) = l := fun l => by
    rw [List.map_map]
    conv => rhs; rw [← List.map_id l]
    refine List.map_congr_left fun c _ => ?_
    show (c.map fun i : Nat => (i : Int)).map Int.toNat = c
    rw [List.map_map]
    conv => rhs; rw [← List.map_id c]
    exact List.map_congr_left fun i _ => Int.toNat_natCast i
  rw [e, e] at h2
  exact h2
theorem asc6_of {ks ks' : List (Addr × List Int)} {ls : List (List Nat)} (h1 : ks.map (·.2) = (subs 6).map (fun c => c.map fun i : Nat => (i : Int))) (h2 : ks'.map (·.2) = ls.map (fun c => c.map fun i : Nat => (i : Int))) (pm : ks'.Perm ks) (hs : ks'.Pairwise fun a b => a.2.length = b.2.length → a.2 ≤ b.2) : Asc6 ls := by
  refine ⟨uncast (by rw [← h1, ← h2]; exact pm.map _), ?_⟩
  have h3 : (ks'.map (·.2)).Pairwise fun a b => a.length = b.length → a ≤ b := List.pairwise_map.mpr hs
  rw [h2] at h3
  have h4 := List.pairwise_map.mp h3
  exact h4.imp fun h e => h (by rw [List.length_map, List.length_map, e])
section
variable {P : Program} {w : World} {K : PySem.W.Frag} {mg : Str → Option Value} {base : Heap} {CB CO : Addr}
theorem sc_law_crowds : FnScope ["_law_people", "_law_found", "_law_person", "_law_crowd"] ["_law_people"] (defScope s_law_crowds) := ⟨rfl, rfl, rfl, by decide +kernel, rfl, by decide +kernel, by decide +kernel⟩
theorem def_law_crowds (T : Txt K mg CB CO) {c PT : Addr} (TB : LamX.TabB base mg c PT) (S0 : SrcC K mg "_law_crowds" s_law_crowds c) : Def P w K mg base "_law_crowds" ["_law_people"] 2 (sp_law_crowds PT lamQ) := by
  refine S0.mk sc_law_crowds (fun _ _ _ _ _ _ us hl => match us, hl with | [_], _ => rfl) (fun vs H Q E h => ?_) (fun f cdv A outer s H vs Q E hc0 hr h => ?_)
  · obtain ⟨rfl, ht, k⟩ := h
    rfl
  · obtain ⟨rfl, ht, k⟩ := h
    refine ⟨_, (pss_cons (ps_set (i := 1) sc_law_crowds.nd rfl (Or.inl rfl) (pe_lst (pa_cons (pe_tup pa_nil) pa_nil)))
      (pss_cons (ps_for PassesOwn.never rfl (pi_range1 (by rfl) T.range (pa_cons (pv 0) pa_nil)) (pg_name (i := 2) sc_law_crowds.nd rfl (Or.inr rfl)) (pss_one (ps_set (i := 1) sc_law_crowds.nd rfl (Or.inl rfl) (pe_op op_cat (pv 1) (pe_lc (own := [("_law_crowd", 3)]) rfl sc_law_crowds.nd (piL K (pv 1)) (blkOk_by (by kernel_rfl)) (fun _ _ _ _ _ => (pg_name (i := 3) sc_law_crowds.nd rfl (Or.inl rfl))) (fun _ _ _ _ _ => pts_nil) (fun _ _ _ _ _ => (pe_op (opCatA K) (pv 3) (pe_tup (pa_cons (pv 2) pa_nil)))))))))
      (pss_one (ps_ret (pe_sortedLam (c := c) (PT := PT) (q := lamQ) TB hc0 (by rfl) hr rfl ⟨by rfl, by rfl, by rfl, by rfl, by rfl, by decide +kernel⟩ (by decide) (by rfl) (fun _ _ _ _ _ => by rfl) (fun _ => by rfl) rfl T.sorted T.len (pv 1)))))), ?_⟩
    refine ⟨by show 0 ≤ sizeLine; decide, fun e0 he0 => ⟨by show 1 ≤ sizeLine; decide, fun f hf => ?_⟩⟩
    have s0 : Same H (upd (upd H e0 (.tup [])) f (.lst [.ref e0])) := Same.trans (same_new he0) (same_new hf)
    have nef : e0 ≠ f := ne_of_none upd_same hf
    refine ⟨_, rfl, _, rfl, by decide, by decide, for_it walk_range (fun i σ H' => ∃ (fa : Addr) (xs : List V) (a2 a3 : Option V), σ = [some (vN 6), some (.ref fa), a2, a3] ∧ Same H H' ∧ H' fa = some (.lst xs) ∧ CrsR H' xs (subs i)) ⟨f, _, _, _, rfl, s0, upd_same, .cons ⟨e0, rfl, by show upd _ _ _ e0 = _; rw [upd_ne nef, upd_same]; rfl⟩ .nil⟩ (fun _ _ _ _ _ => trivial) ?_ ?_⟩
    · rintro i x σ H0 H' hi ⟨fa, xs, a2, a3, rfl, s1, hfa, hxs⟩ ⟨rfl, ex⟩
      have ex2 : x = vN i := ex.trans (z_add i)
      subst ex2
      have hi6 : i < 6 := hi
      have lx2 := paired_len hxs
      have hsl := subs_len i
      have hpow : (2 : Nat) ^ i ≤ 64 := Nat.le_trans (Nat.pow_le_pow_right (by decide) (show i ≤ 6 by omega)) (by decide)
      refine ⟨_, rfl, _, rfl, fa, rfl, ⟨_, SqL.of hfa⟩, fun D hD => ?_⟩
      refine lc_same walk_list (fun H v c => ∃ a, v = V.ref a ∧ CrT H a c) (fun j => (subs i)[j]?.bind fun c => some (c ++ [i])) hD (fun H2 s => SqL.of (s _ _ hfa)) (fun _ _ _ _ t ⟨a, e, r⟩ => ⟨a, e, r.mono t⟩) (by omega) ?_ ?_
      · rintro j y H3 H4 K1 K2 hj s3 ⟨rfl, e⟩ kk1 kk2
        obtain ⟨c2, ec, a, rfl, ha⟩ := paired_at hxs e
        have ha3 := ha.mono (ts_same s3)
        have hcl := subs_clen (List.mem_of_getElem? ec)
        refine ⟨rfl, tyes ⟨_, rfl, _, rfl, by show 1 ≤ sizeLine; decide, fun t ht1 => ?_⟩⟩
        refine catA_of (same_new ht1 _ _ ha3) upd_same (by rw [List.length_map]; show _ + 1 ≤ _; omega) fun r H6 s6 hr6 => ?_
        refine kk1 _ _ (c2 ++ [i]) (Same.trans (same_new ht1) s6) (by rw [ec]; rfl) ⟨r, rfl, ?_⟩
        show H6 r = _
        rw [hr6, List.map_append] <;> rfl
      · intro H3 ys s3 e3 p3
        rw [lx2, fm_map, fm_some] at p3
        have lys := paired_len p3
        rw [List.length_map] at lys
        refine ⟨fa, D, xs, ys, rfl, rfl, s3 _ _ hfa, e3, line2 (by omega), fun q hq => ?_⟩
        refine ⟨q, xs ++ ys, _, _, rfl, (s1.trans s3).trans (same_new hq), upd_same, ?_⟩
        exact paired_append ((hxs.mono (ts_same s3)).mono (ts_new hq)) (CrsR.mono (ts_new hq) p3)
    · rintro σ H' ⟨fa, xs, a2, a3, rfl, s1, hfa, hxs⟩
      have hxs6 : CrsR H' xs (subs 6) := hxs
      obtain ⟨ks, hk1, hk2, hk3⟩ := refs_split hxs6
      rw [hk1] at hfa
      have hkm : ∀ p ∈ ks, ∃ c ∈ subs 6, p.2 = c.map fun i : Nat => (i : Int) := fun p hp => by
        have h1 : p.2 ∈ ks.map (·.2) := List.mem_map.mpr ⟨p, hp, rfl⟩
        rw [hk2] at h1
        obtain ⟨c2, hc2, e⟩ := List.mem_map.mp h1
        exact ⟨c2, hc2, e.symm⟩
      have hkl : ks.length = 64 := by
        have := congrArg List.length hk2
        rw [List.length_map, List.length_map, subs_len] at this
        exact this
      refine ⟨_, rfl, fa, ks, rfl, hfa, fun p hp => ⟨hk3 p hp, ?_⟩, by omega, ht.ext s1, fun H2 p ks' hE hT2 pm hs hp => ?_⟩
      · obtain ⟨c2, hc2, e⟩ := hkm p hp
        have := subs_clen hc2
        rw [e, List.length_map]; omega
      · obtain ⟨ls, hl1, hl2, hl3⟩ := refs_join (H := upd H2 p (.lst (ks'.map fun p => V.ref p.1))) (cs := subs 6) (L := ks') fun q hq => ⟨same_new hp _ _ (hE _ _ (hk3 q (pm.mem_iff.mp hq)) (fun ps z => by cases z)), hkm q (pm.mem_iff.mp hq)⟩
        exact k _ p _ ls (fun b o e n => same_new hp _ _ (hE _ _ (s1 _ _ e) n)) (hT2.ext (same_new hp)) upd_same hl1 (asc6_of hk2 hl2 pm hs)
end
end K43
/-! ## E0 -/
set_option Elab.async false
set_option linter.all false
set_option maxRecDepth 100000
set_option maxHeartbeats 0
/-! E0: the head by facts. -/
namespace K43
open PySem PySem.Spec PyProof.Rows L2
def d0 : He.DefD := ⟨("is_integer", none), "is_integer", "is_integer", defArgs s_is_integer, defBody s_is_integer, defScope s_is_integer, [], []⟩
def d1 : He.DefD := ⟨("is_within", none), "is_within", "is_within", defArgs s_is_within, defBody s_is_within, defScope s_is_within, [], []⟩
def d2 : He.DefD := ⟨("is_pair", none), "is_pair", "is_pair", defArgs s_is_pair, defBody s_is_pair, defScope s_is_pair, [], []⟩
def d3 : He.DefD := ⟨("is_listed", none), "is_listed", "is_listed", defArgs s_is_listed, defBody s_is_listed, defScope s_is_listed, [], []⟩
def d4 : He.DefD := ⟨("are_ascending", none), "are_ascending", "are_ascending", defArgs s_are_ascending, defBody s_are_ascending, defScope s_are_ascending, [], []⟩
def d5 : He.DefD := ⟨("are_persons", none), "are_persons", "are_persons", defArgs s_are_persons, defBody s_are_persons, defScope s_are_persons, [], []⟩
def d6 : He.DefD := ⟨("is_crowd", none), "is_crowd", "is_crowd", defArgs s_is_crowd, defBody s_is_crowd, defScope s_is_crowd, [], []⟩
def d7 : He.DefD := ⟨("is_lot", none), "is_lot", "is_lot", defArgs s_is_lot, defBody s_is_lot, defScope s_is_lot, [], []⟩
def d8 : He.DefD := ⟨("is_row", none), "is_row", "is_row", defArgs s_is_row, defBody s_is_row, defScope s_is_row, [], []⟩
def d9 : He.DefD := ⟨("is_order", none), "is_order", "is_order", defArgs s_is_order, defBody s_is_order, defScope s_is_order, [], []⟩
def d10 : He.DefD := ⟨("bits_of", none), "bits_of", "bits_of", defArgs s_bits_of, defBody s_bits_of, defScope s_bits_of, [], []⟩
def d11 : He.DefD := ⟨("crowd_of", none), "crowd_of", "crowd_of", defArgs s_crowd_of, defBody s_crowd_of, defScope s_crowd_of, [], []⟩
def d12 : He.DefD := ⟨("holds", none), "holds", "holds", defArgs s_holds, defBody s_holds, defScope s_holds, [], []⟩
def d13 : He.DefD := ⟨("all_of", none), "all_of", "all_of", defArgs s_all_of, defBody s_all_of, defScope s_all_of, [], []⟩
def d14 : He.DefD := ⟨("first_wrong_lot", none), "first_wrong_lot", "first_wrong_lot", defArgs s_first_wrong_lot, defBody s_first_wrong_lot, defScope s_first_wrong_lot, [], []⟩
def d15 : He.DefD := ⟨("Book", some "__init__"), "__init__", "Book.__init__", defArgs s_Book_init, defBody s_Book_init, defScope s_Book_init, [], []⟩
def d16 : He.DefD := ⟨("Book", some "keep"), "keep", "Book.keep", defArgs s_Book_keep, defBody s_Book_keep, defScope s_Book_keep, [], []⟩
def d17 : He.DefD := ⟨("lasts_in", none), "lasts_in", "lasts_in", defArgs s_lasts_in, defBody s_lasts_in, defScope s_lasts_in, [], []⟩
def d18 : He.DefD := ⟨("Office", some "__init__"), "__init__", "Office.__init__", defArgs s_Office_init, defBody s_Office_init, defScope s_Office_init, [], []⟩
def d19 : He.DefD := ⟨("is_barred", none), "is_barred", "is_barred", defArgs s_is_barred, defBody s_is_barred, defScope s_is_barred, [], []⟩
def d20 : He.DefD := ⟨("in_bits", none), "in_bits", "in_bits", defArgs s_in_bits, defBody s_in_bits, defScope s_in_bits, [], []⟩
def d21 : He.DefD := ⟨("is_sighting", none), "is_sighting", "is_sighting", defArgs s_is_sighting, defBody s_is_sighting, defScope s_is_sighting, [], []⟩
def d22 : He.DefD := ⟨("check_sightings", none), "check_sightings", "check_sightings", defArgs s_check_sightings, defBody s_check_sightings, defScope s_check_sightings, [], []⟩
def d23 : He.DefD := ⟨("others_within", none), "others_within", "others_within", defArgs s_others_within, defBody s_others_within, defScope s_others_within, [], []⟩
def d24 : He.DefD := ⟨("needs", none), "needs", "needs", defArgs s_needs, defBody s_needs, defScope s_needs, [], []⟩
def d25 : He.DefD := ⟨("can_stand", none), "can_stand", "can_stand", defArgs s_can_stand, defBody s_can_stand, defScope s_can_stand, [], []⟩
def d26 : He.DefD := ⟨("can_follow", none), "can_follow", "can_follow", defArgs s_can_follow, defBody s_can_follow, defScope s_can_follow, [], []⟩
def d27 : He.DefD := ⟨("first_lot", none), "first_lot", "first_lot", defArgs s_first_lot, defBody s_first_lot, defScope s_first_lot, [], []⟩
def d28 : He.DefD := ⟨("placed_by", none), "placed_by", "placed_by", defArgs s_placed_by, defBody s_placed_by, defScope s_placed_by, [], []⟩
def d29 : He.DefD := ⟨("fitting_in", none), "fitting_in", "fitting_in", defArgs s_fitting_in, defBody s_fitting_in, defScope s_fitting_in, [], []⟩
def d30 : He.DefD := ⟨("is_fitting", none), "is_fitting", "is_fitting", defArgs s_is_fitting, defBody s_is_fitting, defScope s_is_fitting, [], []⟩
def d31 : He.DefD := ⟨("fitting", none), "fitting", "fitting", defArgs s_fitting, defBody s_fitting, defScope s_fitting, [], []⟩
def d32 : He.DefD := ⟨("_law_hand", none), "_law_hand", "_law_hand", defArgs s_law_hand, defBody s_law_hand, defScope s_law_hand, [], []⟩
def d33 : He.DefD := ⟨("_law_draw", none), "_law_draw", "_law_draw", defArgs s_law_draw, defBody s_law_draw, defScope s_law_draw, [], []⟩
def d34 : He.DefD := ⟨("_law_flag", none), "_law_flag", "_law_flag", defArgs s_law_flag, defBody s_law_flag, defScope s_law_flag, [], []⟩
def d35 : He.DefD := ⟨("_law_is", none), "_law_is", "_law_is", defArgs s_law_is, defBody s_law_is, defScope s_law_is, [], []⟩
def d36 : He.DefD := ⟨("_law_part", none), "_law_part", "_law_part", defArgs s_law_part, defBody s_law_part, defScope s_law_part, [], []⟩
def d37 : He.DefD := ⟨("_law_order", none), "_law_order", "_law_order", defArgs s_law_order, defBody s_law_order, defScope s_law_order, [], []⟩
def d38 : He.DefD := ⟨("_law_lots", none), "_law_lots", "_law_lots", defArgs s_law_lots, defBody s_law_lots, defScope s_law_lots, [], []⟩
def d39 : He.DefD := ⟨("_law_in", none), "_law_in", "_law_in", defArgs s_law_in, defBody s_law_in, defScope s_law_in, [], []⟩
def d40 : He.DefD := ⟨("_law_crowds", none), "_law_crowds", "_law_crowds", defArgs s_law_crowds, defBody s_law_crowds, defScope s_law_crowds, [], []⟩
def d41 : He.DefD := ⟨("_law_lists", none), "_law_lists", "_law_lists", defArgs s_law_lists, defBody s_law_lists, defScope s_law_lists, [], []⟩
def d42 : He.DefD := ⟨("_law_sightings", none), "_law_sightings", "_law_sightings", defArgs s_law_sightings, defBody s_law_sightings, defScope s_law_sightings, [], []⟩
def d43 : He.DefD := ⟨("_law_within", none), "_law_within", "_law_within", defArgs s_law_within, defBody s_law_within, defScope s_law_within, [], []⟩
def d44 : He.DefD := ⟨("_law_fits", none), "_law_fits", "_law_fits", defArgs s_law_fits, defBody s_law_fits, defScope s_law_fits, [], []⟩
def d45 : He.DefD := ⟨("_law_can_stand", none), "_law_can_stand", "_law_can_stand", defArgs s_law_can_stand, defBody s_law_can_stand, defScope s_law_can_stand, [], []⟩
def d46 : He.DefD := ⟨("_law_least_placed", none), "_law_least_placed", "_law_least_placed", defArgs s_law_least_placed, defBody s_law_least_placed, defScope s_law_least_placed, [], []⟩
def d47 : He.DefD := ⟨("_law_packed", none), "_law_packed", "_law_packed", defArgs s_law_packed, defBody s_law_packed, defScope s_law_packed, [], []⟩
def d48 : He.DefD := ⟨("_law_of_many", none), "_law_of_many", "_law_of_many", defArgs s_law_of_many, defBody s_law_of_many, defScope s_law_of_many, [], []⟩
def d49 : He.DefD := ⟨("law", none), "law", "law", defArgs s_law, defBody s_law, defScope s_law, [], []⟩
def fn : List He.DefD := [d0, d1, d2, d3, d4, d5, d6, d7, d8, d9, d10, d11, d12, d13, d14, d15, d16, d17, d18, d19, d20, d21, d22, d23, d24] ++ [d25, d26, d27, d28, d29, d30, d31, d32, d33, d34, d35, d36, d37, d38, d39, d40, d41, d42, d43, d44, d45, d46, d47, d48, d49]
def fa0 : List He.Fa := [.glo "is_integer", .glo "is_within", .glo "is_pair", .glo "is_listed", .glo "are_ascending", .glo "are_persons", .glo "is_crowd", .glo "is_lot", .glo "is_row", .glo "is_order", .glo "bits_of", .glo "crowd_of", .glo "holds", .glo "all_of", .glo "first_wrong_lot", .glo "lasts_in", .glo "is_barred", .glo "in_bits", .glo "is_sighting", .glo "check_sightings", .glo "others_within", .glo "needs", .glo "can_stand", .glo "can_follow", .glo "first_lot"]
def fa1 : List He.Fa := [.glo "placed_by", .glo "fitting_in", .glo "is_fitting", .glo "fitting", .glo "_law_hand", .glo "_law_draw", .glo "_law_flag", .glo "_law_is", .glo "_law_part", .glo "_law_order", .glo "_law_lots", .glo "_law_in", .glo "_law_crowds", .glo "_law_lists", .glo "_law_sightings", .glo "_law_within", .glo "_law_fits", .glo "_law_can_stand", .glo "_law_least_placed", .glo "_law_packed", .glo "_law_of_many", .glo "law", .glo "Book", .cls "Book", .mkr "Book"]
def fa2 : List He.Fa := [.glo "Office", .cls "Office", .mkr "Office", .meth "Book" "keep", .noat "Book" "people", .noat "Book" "lots", .noat "Book" "masks", .noat "Office" "book", .noat "Office" "order", .noat "Office" "kept_lasts", .noat "Office" "bars", .int "MOST_PEOPLE" 12, .int "MOST_LOTS" 60, .int "MOST_SIGHTINGS" 20, .free "isinstance", .free "int", .free "bool", .free "tuple", .free "list", .free "len", .free "all", .free "any", .free "sum", .free "range", .free "enumerate"]
def fa3 : List He.Fa := [.free "zip", .free "max", .free "set", .free "sorted", .free "abs"]
def fa : List He.Fa := fa0 ++ fa1 ++ fa2 ++ fa3
def loose0 : List PySem.Str := ["LotError", "BadBook", "BadOffice", "NoSightings", "MOST_PEOPLE", "is_integer", "is_within", "is_pair", "is_listed", "are_ascending", "are_persons", "is_crowd", "is_lot", "is_row", "is_order", "bits_of", "crowd_of", "holds", "all_of", "MOST_LOTS", "first_wrong_lot", "Book", "lasts_in", "Office", "is_barred"]
def loose1 : List PySem.Str := ["in_bits", "MOST_SIGHTINGS", "is_sighting", "check_sightings", "others_within", "needs", "can_stand", "can_follow", "first_lot", "placed_by", "fitting_in", "is_fitting", "fitting", "_law_hand", "_law_draw", "_law_flag", "_law_is", "_law_part", "_law_order", "_law_lots", "_law_in", "_law_crowds", "_law_lists", "_law_sightings", "_law_within"]
def loose2 : List PySem.Str := ["_law_fits", "_law_can_stand", "_law_least_placed", "_law_packed", "_law_of_many"]
def loose : List PySem.Str := loose0 ++ loose1 ++ loose2
def isiB (K : PySem.W.Frag) (x : Str) : Bool := He.eqO (PySem.W.findIn K (.ref (He.ga K x)) "__class__") (some (some (.builtin "object.__class__"))) && (He.eqO (PySem.W.specialIn K (.builtin "object.__class__") "__get__") (some (some (.builtin "getset_descriptor.__get__"))) &&
  (decide (PySem.W.takesIn K (.builtin "object.__class__") = some true) && (decide (PySem.W.mroIn K (He.ga K x) (.type "object") = some true) && decide (PySem.W.kitOne K (.ref (He.ga K x)) (.ref (He.ga K x)) = some true))))
def tf : List He.Defn := [("_law_crowds", none)]
abbrev RR : PySem.W.OpenRow := PySem.W.OpenLaw.row PySem.Challenge.rw_lastoflot_k43_whole_lists_that_fit
abbrev hk : PySem.W.Hook := He.hookX 5 fa fn [] tf fun K => isiB K "Book"
def ob (s : PySem.W.SharedT) : He.AlX := He.obsX 5 fa fn [] tf (fun K => isiB K "Book") (HandSHeadRun.getT s)
theorem ob_eq (s : PySem.W.SharedT) : ob s = hk.obs s.abs := He.obsX_eq (HandSHeadRun.getT_eq s)
theorem run (w : World) : HandSHeadRun.RunEq RR (PySem.W.view RR.prog [61]) hk ob 4000 loose w := by
  intro os
  kernel_rfl
end K43
/-! ## E1 -/
set_option Elab.async false
set_option linter.all false
set_option maxRecDepth 100000
set_option maxHeartbeats 0
/-! E1: the end. -/
namespace K43
open PySem PySem.Spec PyProof.Rows L2
section
variable {w : World} {K : PySem.W.Frag} {h : Heap} {mg : Str → Option Value}
theorem src_of (X : K.In h) (G : h.Ns mainGlobals mg) (cd : He.SaysD fa fn K) (i j : Nat) {x : Str} {st : Stmt} (h1 : fn[i]? = some ⟨(x, none), x, x, defArgs st, defBody st, defScope st, [], []⟩) (h2 : fa[j]? = some (.glo x)) : Src K mg x st := by
  obtain ⟨fd, F⟩ := cd.def_ i h1
  exact ⟨_, fd, F, He.glo_ok X G (cd.fact j h2)⟩
theorem srcM_of (cd : He.SaysD fa fn K) (i : Nat) {C m qn : Str} {st : Stmt} {W : Addr → Prop} (h1 : fn[i]? = some ⟨(C, some m), m, qn, defArgs st, defBody st, defScope st, [], []⟩) (hW : W (He.ma K (He.ga K C) m)) : SrcM K m qn st W := by
  obtain ⟨fd, F⟩ := cd.def_ i h1
  exact ⟨_, fd, F, hW⟩
theorem srcC_of (X : K.In h) (G : h.Ns mainGlobals mg) (cd : He.SaysD fa fn K) (i j : Nat) {x : Str} {st : Stmt} (h1 : fn[i]? = some ⟨(x, none), x, x, defArgs st, defBody st, defScope st, [], []⟩) (h2 : fa[j]? = some (.glo x)) : SrcC K mg x st (He.codeOf K (x, none)) := by
  obtain ⟨fd, F⟩ := cd.def_ i h1
  have F' := F
  obtain ⟨oc, od, dV, kV, doc, pm, an, cdv, ct, osl, e, lk, hcd, _, _⟩ := F.ex
  obtain ⟨c, hc⟩ := He.codeIn_ref hcd
  have hfc : fd.code = .ref c := by rw [e]; exact hc
  have := He.codeOf_eq lk hfc
  exact ⟨_, fd, F', He.glo_ok X G (cd.fact j h2), by rw [this]; exact hfc⟩

theorem txt_of (X : K.In h) (G : h.Ns mainGlobals mg) (cd : He.SaysD fa fn K) (hb : isiB K "Book" = true) : Txt K mg (He.ga K "Book") (He.ga K "Office") := by
  obtain ⟨b1, hb⟩ := He.ba hb
  obtain ⟨b2, hb⟩ := He.ba hb
  obtain ⟨b3, hb⟩ := He.ba hb
  obtain ⟨b4, b5⟩ := He.ba hb
  exact ⟨He.free_ok X G (cd.fact 64 (f := .free "isinstance") rfl),
    He.free_ok X G (cd.fact 65 (f := .free "int") rfl),
    He.free_ok X G (cd.fact 66 (f := .free "bool") rfl),
    He.free_ok X G (cd.fact 67 (f := .free "tuple") rfl),
    He.free_ok X G (cd.fact 68 (f := .free "list") rfl),
    He.free_ok X G (cd.fact 69 (f := .free "len") rfl),
    He.free_ok X G (cd.fact 70 (f := .free "all") rfl),
    He.free_ok X G (cd.fact 71 (f := .free "any") rfl),
    He.free_ok X G (cd.fact 72 (f := .free "sum") rfl),
    He.free_ok X G (cd.fact 73 (f := .free "range") rfl),
    He.free_ok X G (cd.fact 74 (f := .free "enumerate") rfl),
    He.free_ok X G (cd.fact 75 (f := .free "zip") rfl),
    He.free_ok X G (cd.fact 76 (f := .free "max") rfl),
    He.free_ok X G (cd.fact 77 (f := .free "set") rfl),
    He.free_ok X G (cd.fact 78 (f := .free "sorted") rfl),
    He.free_ok X G (cd.fact 79 (f := .free "abs") rfl),
    He.int_ok X G (cd.fact 61 (f := .int "MOST_PEOPLE" 12) rfl),
    He.int_ok X G (cd.fact 62 (f := .int "MOST_LOTS" 60) rfl),
    He.int_ok X G (cd.fact 63 (f := .int "MOST_SIGHTINGS" 20) rfl),
    He.cls_ok (cd.fact 48 (f := .cls "Book") rfl),
    He.cls_ok (cd.fact 51 (f := .cls "Office") rfl),
    He.glo_ok X G (cd.fact 47 (f := .glo "Book") rfl),
    He.glo_ok X G (cd.fact 50 (f := .glo "Office") rfl),
    (He.mkr_ok (cd.fact 49 (f := .mkr "Book") rfl)).kp,
    He.noat_ok (cd.fact 54 (f := .noat "Book" "people") rfl),
    He.noat_ok (cd.fact 55 (f := .noat "Book" "lots") rfl),
    He.noat_ok (cd.fact 56 (f := .noat "Book" "masks") rfl),
    He.noat_ok (cd.fact 57 (f := .noat "Office" "book") rfl),
    He.noat_ok (cd.fact 58 (f := .noat "Office" "order") rfl),
    He.noat_ok (cd.fact 59 (f := .noat "Office" "kept_lasts") rfl),
    He.noat_ok (cd.fact 60 (f := .noat "Office" "bars") rfl),
    He.eqO_ok b1,
    He.eqO_ok b2,
    of_decide_eq_true b3,
    of_decide_eq_true b4,
    of_decide_eq_true b5⟩
theorem law_fn {P : Program} {base : Heap} {f0 : Addr} {fd0 : FuncData} (X : K.In h) (G : h.Ns mainGlobals mg) (cd : He.SaysD fa fn K) (hb : isiB K "Book" = true) (S0 : FunD K "law" "law" (defArgs s_law) (defBody s_law) (defScope s_law) [] [] f0 fd0) {PT : Addr} (TB : LamX.TabB base mg (He.codeOf K ("_law_crowds", none)) PT) :
    FnOk P w K mg base CX0 10 f0 fd0 ["_law_script"] (sp_law (He.ga K "Book") (He.ga K "Office") PT lamQ K) := by
  have T := txt_of X G cd hb
  have D_is_integer := def_is_integer (P := P) (w := w) (base := base) T (src_of X G cd 0 0 (x := "is_integer") (st := s_is_integer) rfl rfl)
  have D_is_within := def_is_within (P := P) (w := w) (base := base) T (D_is_integer.up (by decide)) (src_of X G cd 1 1 (x := "is_within") (st := s_is_within) rfl rfl)
  have D_is_pair := def_is_pair (P := P) (w := w) (base := base) T (src_of X G cd 2 2 (x := "is_pair") (st := s_is_pair) rfl rfl)
  have D_is_listed := def_is_listed (P := P) (w := w) (base := base) T (src_of X G cd 3 3 (x := "is_listed") (st := s_is_listed) rfl rfl)
  have D_are_ascending := def_are_ascending (P := P) (w := w) (base := base) T (src_of X G cd 4 4 (x := "are_ascending") (st := s_are_ascending) rfl rfl)
  have D_are_persons := def_are_persons (P := P) (w := w) (base := base) T (D_is_within.up (by decide)) (src_of X G cd 5 5 (x := "are_persons") (st := s_are_persons) rfl rfl)
  have D_is_crowd := def_is_crowd (P := P) (w := w) (base := base) T (D_are_persons.up (by decide)) (D_are_ascending.up (by decide)) (src_of X G cd 6 6 (x := "is_crowd") (st := s_is_crowd) rfl rfl)
  have D_is_lot := def_is_lot (P := P) (w := w) (base := base) T (D_is_crowd.up (by decide)) (src_of X G cd 7 7 (x := "is_lot") (st := s_is_lot) rfl rfl)
  have D_is_row := def_is_row (P := P) (w := w) (base := base) T (D_are_persons.up (by decide)) (src_of X G cd 8 8 (x := "is_row") (st := s_is_row) rfl rfl)
  have D_is_order := def_is_order (P := P) (w := w) (base := base) T (D_is_row.up (by decide)) (src_of X G cd 9 9 (x := "is_order") (st := s_is_order) rfl rfl)
  have D_bits_of := def_bits_of (P := P) (w := w) (base := base) T (src_of X G cd 10 10 (x := "bits_of") (st := s_bits_of) rfl rfl)
  have D_crowd_of := def_crowd_of (P := P) (w := w) (base := base) T (src_of X G cd 11 11 (x := "crowd_of") (st := s_crowd_of) rfl rfl)
  have D_holds := def_holds (P := P) (w := w) (base := base) T (src_of X G cd 12 12 (x := "holds") (st := s_holds) rfl rfl)
  have D_all_of := def_all_of (P := P) (w := w) (base := base) T (src_of X G cd 13 13 (x := "all_of") (st := s_all_of) rfl rfl)
  have D_is_sighting := def_is_sighting (P := P) (w := w) (base := base) T (D_is_crowd.up (by decide)) (D_is_pair.up (by decide)) (D_bits_of.up (by decide)) (D_holds.up (by decide)) (src_of X G cd 21 18 (x := "is_sighting") (st := s_is_sighting) rfl rfl)
  have D_check_sightings := def_check_sightings (P := P) (w := w) (base := base) T (D_is_listed.up (by decide)) (D_is_sighting.up (by decide)) (src_of X G cd 22 19 (x := "check_sightings") (st := s_check_sightings) rfl rfl)
  have D_others_within := def_others_within (P := P) (w := w) (base := base) T (D_holds.up (by decide)) (src_of X G cd 23 20 (x := "others_within") (st := s_others_within) rfl rfl)
  have D_can_stand := def_can_stand (P := P) (w := w) (base := base) T (D_holds.up (by decide)) (src_of X G cd 25 22 (x := "can_stand") (st := s_can_stand) rfl rfl)
  have D_can_follow := def_can_follow (P := P) (w := w) (base := base) T (D_can_stand.up (by decide)) (D_all_of.up (by decide)) (D_crowd_of.up (by decide)) (src_of X G cd 26 23 (x := "can_follow") (st := s_can_follow) rfl rfl)
  have D_first_lot := def_first_lot (P := P) (w := w) (base := base) T (D_bits_of.up (by decide)) (D_holds.up (by decide)) (src_of X G cd 27 24 (x := "first_lot") (st := s_first_lot) rfl rfl)
  have D_needs := def_needs (P := P) (w := w) (base := base) T (D_bits_of.up (by decide)) (D_others_within.up (by decide)) (src_of X G cd 24 21 (x := "needs") (st := s_needs) rfl rfl)
  have D_placed_by := def_placed_by (P := P) (w := w) (base := base) T (D_can_follow.up (by decide)) (src_of X G cd 28 25 (x := "placed_by") (st := s_placed_by) rfl rfl)
  have D_fitting_in := def_fitting_in (P := P) (w := w) (base := base) T (D_first_lot.up (by decide)) (D_needs.up (by decide)) (D_placed_by.up (by decide)) (src_of X G cd 29 26 (x := "fitting_in") (st := s_fitting_in) rfl rfl)
  have D_fitting := def_fitting (P := P) (w := w) (base := base) T (D_check_sightings.up (by decide)) (D_fitting_in.up (by decide)) (src_of X G cd 31 28 (x := "fitting") (st := s_fitting) rfl rfl)
  have D_Book_keep := def_Book_keep (P := P) (w := w) (base := base) T (D_bits_of.up (by decide)) (srcM_of cd 16 (C := "Book") (m := "keep") (qn := "Book.keep") (st := s_Book_keep) rfl (He.meth_ok (cd.fact 53 (f := .meth "Book" "keep") rfl)))
  have D_first_wrong_lot := def_first_wrong_lot (P := P) (w := w) (base := base) T (D_bits_of.up (by decide)) (D_holds.up (by decide)) (D_is_lot.up (by decide)) (src_of X G cd 14 14 (x := "first_wrong_lot") (st := s_first_wrong_lot) rfl rfl)
  have D_Book_init := def_Book_init (P := P) (w := w) (base := base) T (D_is_within.up (by decide)) (D_first_wrong_lot.up (by decide)) (D_Book_keep.up (by decide)) (srcM_of cd 15 (C := "Book") (m := "__init__") (qn := "Book.__init__") (st := s_Book_init) rfl (He.mkr_ok (cd.fact 49 (f := .mkr "Book") rfl)))
  have D_lasts_in := def_lasts_in (P := P) (w := w) (base := base) T (src_of X G cd 17 15 (x := "lasts_in") (st := s_lasts_in) rfl rfl)
  have D_Office_init := def_Office_init (P := P) (w := w) (base := base) T (D_is_order.up (by decide)) (D_lasts_in.up (by decide)) (srcM_of cd 18 (C := "Office") (m := "__init__") (qn := "Office.__init__") (st := s_Office_init) rfl (He.mkr_ok (cd.fact 52 (f := .mkr "Office") rfl)))
  have D_is_barred := def_is_barred (P := P) (w := w) (base := base) T (D_holds.up (by decide)) (src_of X G cd 19 16 (x := "is_barred") (st := s_is_barred) rfl rfl)
  have D_in_bits := def_in_bits (P := P) (w := w) (base := base) T (D_is_barred.up (by decide)) (src_of X G cd 20 17 (x := "in_bits") (st := s_in_bits) rfl rfl)
  have D_is_fitting := def_is_fitting (P := P) (w := w) (base := base) T (D_bits_of.up (by decide)) (D_is_order.up (by decide)) (D_check_sightings.up (by decide)) (D_Office_init.up (by decide)) (D_in_bits.up (by decide)) (src_of X G cd 30 27 (x := "is_fitting") (st := s_is_fitting) rfl rfl)
  have D_law_hand := def_law_hand (P := P) (w := w) (base := base) T (src_of X G cd 32 29 (x := "_law_hand") (st := s_law_hand) rfl rfl)
  have D_law_draw := def_law_draw (P := P) (w := w) (base := base) T (src_of X G cd 33 30 (x := "_law_draw") (st := s_law_draw) rfl rfl)
  have D_law_part := def_law_part (P := P) (w := w) (base := base) T (D_law_draw.up (by decide)) (src_of X G cd 36 33 (x := "_law_part") (st := s_law_part) rfl rfl)
  have D_law_order := def_law_order (P := P) (w := w) (base := base) T (D_law_draw.up (by decide)) (src_of X G cd 37 34 (x := "_law_order") (st := s_law_order) rfl rfl)
  have D_law_flag := def_law_flag (P := P) (w := w) (base := base) T (src_of X G cd 34 31 (x := "_law_flag") (st := s_law_flag) rfl rfl)
  have D_law_within := def_law_within (P := P) (w := w) (base := base) T (src_of X G cd 43 40 (x := "_law_within") (st := s_law_within) rfl rfl)
  have D_law_in := def_law_in (P := P) (w := w) (base := base) T (src_of X G cd 39 36 (x := "_law_in") (st := s_law_in) rfl rfl)
  have D_law_can_stand := def_law_can_stand (P := P) (w := w) (base := base) T (D_law_within.up (by decide)) (src_of X G cd 45 42 (x := "_law_can_stand") (st := s_law_can_stand) rfl rfl)
  have D_law_fits := def_law_fits (P := P) (w := w) (base := base) T (D_law_in.up (by decide)) (src_of X G cd 44 41 (x := "_law_fits") (st := s_law_fits) rfl rfl)
  have D_law_least_placed := def_law_least_placed (P := P) (w := w) (base := base) T (D_law_can_stand.up (by decide)) (src_of X G cd 46 43 (x := "_law_least_placed") (st := s_law_least_placed) rfl rfl)
  have D_law_lists := def_law_lists (P := P) (w := w) (base := base) T (src_of X G cd 41 38 (x := "_law_lists") (st := s_law_lists) rfl rfl)
  have D_law_is0 := def_law_is0 (P := P) (w := w) (base := base) T (src_of X G cd 35 32 (x := "_law_is") (st := s_law_is) rfl rfl)
  have D_law_is1 := def_law_is1 (P := P) (w := w) (base := base) spIs0 T (D_law_is0.up (by decide)) (src_of X G cd 35 32 (x := "_law_is") (st := s_law_is) rfl rfl)
  have D_law_is2 := def_law_is2 (P := P) (w := w) (base := base) (spIsS spIs0) T (D_law_is1.up (by decide)) (src_of X G cd 35 32 (x := "_law_is") (st := s_law_is) rfl rfl)
  have D_law_sightings := def_law_sightings (P := P) (w := w) (base := base) T (D_law_draw.up (by decide)) (D_law_in.up (by decide)) (D_law_part.up (by decide)) (D_law_order.up (by decide)) (src_of X G cd 42 39 (x := "_law_sightings") (st := s_law_sightings) rfl rfl)
  have D_law_lots := def_law_lots (P := P) (w := w) (base := base) T (D_law_draw.up (by decide)) (src_of X G cd 38 35 (x := "_law_lots") (st := s_law_lots) rfl rfl)
  have D_law_crowds := def_law_crowds (P := P) (w := w) (base := base) T TB (srcC_of X G cd 40 37 (x := "_law_crowds") (st := s_law_crowds) rfl rfl)
  have D_law_packed := def_law_packed (P := P) (w := w) (base := base) T (D_law_draw.up (by decide)) (D_law_crowds.up (by decide)) (src_of X G cd 47 44 (x := "_law_packed") (st := s_law_packed) rfl rfl)
  have D_law_of_many := def_law_of_many (P := P) (w := w) (base := base) T (D_law_draw.up (by decide)) (D_law_in.up (by decide)) (D_law_part.up (by decide)) (D_law_order.up (by decide)) (D_law_lots.up (by decide)) (D_law_least_placed.up (by decide)) (D_law_fits.up (by decide)) (D_law_is2.up (by decide)) (D_Book_init.up (by decide)) (D_fitting.up (by decide)) (D_is_fitting.up (by decide)) (src_of X G cd 48 45 (x := "_law_of_many") (st := s_law_of_many) rfl rfl)
  exact def_law (P := P) (w := w) (base := base) T (D_law_draw.up (by decide)) (D_law_hand.up (by decide)) (D_law_order.up (by decide)) (D_law_lots.up (by decide)) (D_law_packed.up (by decide)) (D_law_sightings.up (by decide)) (D_law_lists.up (by decide)) (D_law_fits.up (by decide)) (D_law_is2.up (by decide)) (D_law_flag.up (by decide)) (D_law_of_many.up (by decide)) (D_Book_init.up (by decide)) (D_fitting.up (by decide)) (D_is_fitting.up (by decide)) S0
theorem law_at {f : Addr} (X : K.In h) (G : h.Ns mainGlobals mg) (hfa : mg ("law" : Str) = some (.ref f)) (c : He.SaysX fa fn [] tf (fun K => isiB K "Book") w h K) : LamX.LawAtS PySem.Challenge.rw_lastoflot_k43_whole_lists_that_fit w K CX0 10 63 "_law_script" mg f h := by
  have cd := c.t.d
  obtain ⟨fd, F⟩ := cd.def_ 49 (d := d49) rfl
  have e := hfa.symm.trans (He.glo_ok X G (cd.fact 46 (f := .glo "law") rfl))
  cases e
  have hb := FunD.bindsA (ps := ["_law_script"]) F fun _ _ _ _ _ _ us hl => match us, hl with | [_], _ => rfl
  have hm : (("_law_crowds", none) : He.Defn) ∈ tf := List.mem_cons_self
  refine ⟨fd, [He.cT K ("_law_crowds", none)], sp_law (He.ga K "Book") (He.ga K "Office") (He.cT K ("_law_crowds", none)).2 lamQ K, fun p hp => ?_, fun p hp => ?_, fun p hp => ?_, fun s v => hb s [v] rfl, fun H a ns hl _ hT hS => ?_, fun base KB GB hTB => ?_⟩
  · have : p = He.cT K ("_law_crowds", none) := by simpa using hp
    rw [this]; exact c.empty _ hm
  · have : p = He.cT K ("_law_crowds", none) := by simpa using hp
    rw [this]; exact c.out _ hm
  · have : p = He.cT K ("_law_crowds", none) := by simpa using hp
    rw [this]; exact PySem.W.codeHd_of_K X (c.hd _ hm)
  · exact ⟨a, ns, rfl, hS, hl, LamX.TabS.nil (hT _ List.mem_cons_self), fun _ => rfl⟩
  · exact law_fn X G cd c.more F (hTB _ List.mem_cons_self)
end
end K43
open PySem PySem.W PySem.Calls PyProof.Rows
theorem PySem.Challenge.cw_lastoflot_k43_whole_lists_that_fit_holds : PySem.Challenge.rw_lastoflot_k43_whole_lists_that_fit.Holds := by
  w_on; o_law
  refine HandSHeadRun.head_any (r := OpenLaw.row PySem.Challenge.rw_lastoflot_k43_whole_lists_that_fit) (q := view (OpenLaw.row PySem.Challenge.rw_lastoflot_k43_whole_lists_that_fit).prog [61]) (H := K43.hk) (ob := K43.ob) (M := 4000) (loose := K43.loose) (d := HandSHeadRun.topDef (OpenLaw.row PySem.Challenge.rw_lastoflot_k43_whole_lists_that_fit).prog 61) (kwd := []) K43.ob_eq
    (by kernel_rfl) (fun s => by kernel_rfl) K43.run (by kernel_rfl) (by kernel_rfl) (by kernel_rfl) (by rfl) (by first | assumption | decide +kernel) (by decide +kernel) ⟨rfl, rfl, rfl, rfl, rfl, by decide +kernel⟩ ?hw ?hc
  case hw => w_witness2
  case hc =>
    refine LamX.walk_ofTsE (l := PySem.Challenge.rw_lastoflot_k43_whole_lists_that_fit) (n := 63) (k := 10) (x := "_law_script") (CX := fun _ => L2.CX0) rfl (by decide) (by kernel_rfl) ⟨rfl, by decide, by decide⟩ ?F (fun _ _ _ _ _ z => z)
    intro w mg fa h Y G hmg0
    obtain ⟨K, KX, c⟩ := Y
    have hmg : mg ("law" : PySem.Str) = some (.ref fa) := by
      have e : (HandSHeadRun.topDef (OpenLaw.row PySem.Challenge.rw_lastoflot_k43_whole_lists_that_fit).prog 61).name = ("law" : PySem.Str) := by kernel_rfl
      rw [← e]
      exact hmg0
    exact ⟨K, KX, K43.law_at KX G hmg c⟩

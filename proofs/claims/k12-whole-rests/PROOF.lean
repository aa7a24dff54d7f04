import PyProof.Rows.All
import Wide.All
import OpenK.AllK
import Wide.FinOn
import HandS.ForMost
import HandS.Wide
import HandS.IsInst
import HandS.Style
import HandS.Zip
import HandS.More
import HandS.Codes
import PySem.Challenge.RW_evenpoints_k12_whole_rests
set_option linter.all false
set_option maxRecDepth 100000
/-! The plain mathematics of k12: fractions as rationals, sides, their sizes, what lies in them. Core Lean alone. -/
namespace K12

/-! ### fractions of two whole numbers -/
theorem div_num {t b : Int} (hb : 0 < b) : (Rat.divInt t b).num = t / ((Int.gcd t b : Nat) : Int) := by
  rw [Rat.num_divInt, Int.sign_eq_one_of_pos hb, Int.one_mul, Int.gcd_comm]
theorem div_den {t b : Int} (hb : 0 < b) : (((Rat.divInt t b).den : Nat) : Int) = b / ((Int.gcd t b : Nat) : Int) := by
  rw [Rat.den_divInt, if_neg (by omega), Int.gcd_comm]
  rw [Int.natCast_ediv]
  congr 1
  omega

/-- both numbers below a power of two -/
def Bd (k : Nat) (q : Rat) : Prop := q.num.natAbs < 2 ^ k ∧ q.den < 2 ^ k
theorem Bd.mono {j k : Nat} {q : Rat} (h : Bd j q) (e : j ≤ k) : Bd k q :=
  have p : 2 ^ j ≤ 2 ^ k := Nat.pow_le_pow_right (by decide) e
  ⟨Nat.lt_of_lt_of_le h.1 p, Nat.lt_of_lt_of_le h.2 p⟩
theorem bd_div {k : Nat} {t b : Int} (hb : 0 < b) (ht : t.natAbs < 2 ^ k) (hk : b.natAbs < 2 ^ k) : Bd k (Rat.divInt t b) := by
  constructor
  · rw [div_num hb]
    refine Nat.lt_of_le_of_lt ?_ ht
    exact Int.natAbs_ediv_le_natAbs _ _
  · have e := div_den (t := t) hb
    have e2 : (Rat.divInt t b).den ≤ b.natAbs := by
      have h1 : b / ((Int.gcd t b : Nat) : Int) ≤ b := Int.ediv_le_self _ (by omega)
      omega
    exact Nat.lt_of_le_of_lt e2 hk
theorem den_pos (q : Rat) : (0 : Int) < (q.den : Int) := by
  have := q.den_nz
  omega
theorem den_ne (q : Rat) : ((q.den : Nat) : Int) ≠ 0 := by
  have := den_pos q
  omega
theorem mul_bd {a b : Int} {j k : Nat} (h1 : a.natAbs < 2 ^ j) (h2 : b.natAbs < 2 ^ k) : (a * b).natAbs < 2 ^ (j + k) := by
  rw [Int.natAbs_mul, Nat.pow_add]
  exact Nat.mul_lt_mul'' h1 h2
theorem add_bd {a b : Int} {k : Nat} (h1 : a.natAbs < 2 ^ k) (h2 : b.natAbs < 2 ^ k) : (a + b).natAbs < 2 ^ (k + 1) := by
  have : 2 ^ (k + 1) = 2 ^ k + 2 ^ k := by rw [Nat.pow_succ]; omega
  omega
theorem sub_bd {a b : Int} {k : Nat} (h1 : a.natAbs < 2 ^ k) (h2 : b.natAbs < 2 ^ k) : (a - b).natAbs < 2 ^ (k + 1) := by
  have : 2 ^ (k + 1) = 2 ^ k + 2 ^ k := by rw [Nat.pow_succ]; omega
  omega
theorem den_bd {k : Nat} {q : Rat} (h : Bd k q) : ((q.den : Nat) : Int).natAbs < 2 ^ k := by
  have := h.2
  omega
theorem up_bd {a : Int} {j k : Nat} (h : a.natAbs < 2 ^ j) (e : j ≤ k) : a.natAbs < 2 ^ k := Nat.lt_of_lt_of_le h (Nat.pow_le_pow_right (by decide) e)
theorem dd_pos (a b : Rat) : (0 : Int) < (a.den : Int) * (b.den : Int) := Int.mul_pos (den_pos a) (den_pos b)
theorem add_eq (a b : Rat) : Rat.divInt (a.num * (b.den : Int) + b.num * (a.den : Int)) ((a.den : Int) * (b.den : Int)) = a + b := by
  rw [← Rat.divInt_add_divInt _ _ (den_ne a) (den_ne b), Rat.num_divInt_den, Rat.num_divInt_den]
theorem sub_eq (a b : Rat) : Rat.divInt (a.num * (b.den : Int) - b.num * (a.den : Int)) ((a.den : Int) * (b.den : Int)) = a - b := by
  rw [← Rat.divInt_sub_divInt _ _ (den_ne a) (den_ne b), Rat.num_divInt_den, Rat.num_divInt_den]
theorem mul_eq (a b : Rat) : Rat.divInt (a.num * b.num) ((a.den : Int) * (b.den : Int)) = a * b := by
  rw [← Rat.divInt_mul_divInt, Rat.num_divInt_den, Rat.num_divInt_den]
theorem top_add {j k : Nat} {a b : Rat} (h1 : Bd j a) (h2 : Bd k b) : (a.num * (b.den : Int) + b.num * (a.den : Int)).natAbs < 2 ^ (j + k + 1) :=
  add_bd (mul_bd h1.1 (den_bd h2)) (up_bd (mul_bd h2.1 (den_bd h1)) (by omega))
theorem top_sub {j k : Nat} {a b : Rat} (h1 : Bd j a) (h2 : Bd k b) : (a.num * (b.den : Int) - b.num * (a.den : Int)).natAbs < 2 ^ (j + k + 1) :=
  sub_bd (mul_bd h1.1 (den_bd h2)) (up_bd (mul_bd h2.1 (den_bd h1)) (by omega))
theorem bot_bd {j k : Nat} {a b : Rat} (h1 : Bd j a) (h2 : Bd k b) : ((a.den : Int) * (b.den : Int)).natAbs < 2 ^ (j + k + 1) :=
  up_bd (mul_bd (den_bd h1) (den_bd h2)) (by omega)
theorem Bd.add {j k : Nat} {a b : Rat} (h1 : Bd j a) (h2 : Bd k b) : Bd (j + k + 1) (a + b) := by
  rw [← add_eq]
  exact bd_div (dd_pos a b) (top_add h1 h2) (bot_bd h1 h2)
theorem Bd.sub {j k : Nat} {a b : Rat} (h1 : Bd j a) (h2 : Bd k b) : Bd (j + k + 1) (a - b) := by
  rw [← sub_eq]
  exact bd_div (dd_pos a b) (top_sub h1 h2) (bot_bd h1 h2)
theorem Bd.mul {j k : Nat} {a b : Rat} (h1 : Bd j a) (h2 : Bd k b) : Bd (j + k + 1) (a * b) := by
  rw [← mul_eq]
  exact bd_div (dd_pos a b) (up_bd (mul_bd h1.1 h2.1) (by omega)) (bot_bd h1 h2)
theorem lt_num (a b : Rat) : (a.num * (b.den : Int) < b.num * (a.den : Int)) = (a < b) := propext (Rat.lt_iff a b).symm
theorem rat_ext {a b : Rat} (h1 : a.num = b.num) (h2 : (a.den : Int) = (b.den : Int)) : a = b := by
  have h3 : a.den = b.den := by omega
  exact Rat.ext h1 h3
theorem bd_zero : Bd 1 0 := by constructor <;> decide
theorem bd_one : Bd 1 1 := by constructor <;> decide

/-! ### sides -/
inductive Side where
  | to (t : Rat) | fr (a b : Rat) | rd (a b : Rat)
inductive Way where
  | half | shut | opn
  deriving DecidableEq
def rest : Side → Side
  | .to t => .fr t 1
  | .fr a b => .rd b a
  | .rd a b => .fr b a
/-- no less than nought -/
def nn (q : Rat) : Rat := if q < 0 then 0 else q
def size : Side → Rat
  | .to t => nn t
  | .fr a b => nn (nn b - nn a)
  | .rd a b => if 0 < nn b - nn a then 1 else 1 + (nn b - nn a)
def behind (x e : Rat) (w : Way) : Bool := decide (e < x) || (decide (x = e) && !decide (w = .opn))
def ahead (x e : Rat) (w : Way) : Bool := decide (x < e) || (decide (x = e) && decide (w = .shut))
def lie (x : Rat) : Side → Way → Bool
  | .to t, w => ahead x t w
  | .fr a b, w => behind x a w && ahead x b w
  | .rd a b, w => behind x a w || ahead x b w
/-- the numbers of a side are from -1 to 1, of at most forty bits -/
def Ed (q : Rat) : Prop := -1 ≤ q ∧ q ≤ 1 ∧ Bd 41 q ∧ q.den < 1000000000000
def Side.ok : Side → Prop
  | .to t => Ed t
  | .fr a b => Ed a ∧ Ed b
  | .rd a b => Ed a ∧ Ed b
/-- a number of points -/
def Nu (q : Rat) : Prop := 0 ≤ q ∧ q < 1 ∧ Bd 41 q ∧ q.den < 1000000000000
theorem Nu.ed {q : Rat} (h : Nu q) : Ed q := ⟨by have := h.1; grind, by have := h.2.1; grind, h.2.2⟩
theorem ed_zero : Ed 0 := ⟨by decide, by decide, bd_zero.mono (by decide), by decide⟩
theorem ed_one : Ed 1 := ⟨by decide, by decide, bd_one.mono (by decide), by decide⟩
theorem nu_zero : Nu 0 := ⟨by decide, by decide, bd_zero.mono (by decide), by decide⟩
theorem ed_num_le {q : Rat} (h1 : -1 ≤ q) (h2 : q ≤ 1) : q.num.natAbs ≤ q.den := by
  have h1 := (Rat.le_iff (-1) q).mp h1
  have h2 := (Rat.le_iff q 1).mp h2
  have e1 : (-1 : Rat).num = -1 := rfl
  have e2 : (-1 : Rat).den = 1 := rfl
  have e3 : (1 : Rat).num = 1 := rfl
  have e4 : (1 : Rat).den = 1 := rfl
  rw [e1, e2] at h1
  rw [e3, e4] at h2
  omega
theorem ed_mk {q : Rat} (h1 : -1 ≤ q) (h2 : q ≤ 1) (h3 : q.den < 1000000000000) : Ed q := by
  have h := ed_num_le h1 h2
  refine ⟨h1, h2, ⟨?_, ?_⟩, h3⟩
  · show _ < 2199023255552
    omega
  · show _ < 2199023255552
    omega
theorem nu_mk {q : Rat} (h1 : 0 ≤ q) (h2 : q < 1) (h3 : q.den < 1000000000000) : Nu q :=
  ⟨h1, h2, (ed_mk (q := q) (by grind) (by grind) h3).2.2.1, h3⟩
theorem rest_ok {s : Side} (h : s.ok) : (rest s).ok := by
  cases s with
  | to t => exact ⟨h, ed_one⟩
  | fr a b => exact ⟨h.2, h.1⟩
  | rd a b => exact ⟨h.2, h.1⟩
theorem nn_bd {k : Nat} {q : Rat} (h : Bd k q) (hk : 1 ≤ k) : Bd k (nn q) := by
  unfold nn
  split
  · exact bd_zero.mono hk
  · exact h
theorem size_rest {s : Side} (h : s.ok) : size s + size (rest s) = 1 := by
  cases s with
  | to t =>
    have h1 := h.1
    have h2 := h.2.1
    simp only [size, rest, nn]
    grind
  | fr a b =>
    simp only [size, rest, nn]
    grind
  | rd a b =>
    simp only [size, rest, nn]
    grind
theorem size_back {s : Side} (h : s.ok) : size (rest (rest s)) = size s := by
  have h1 := size_rest h
  have h2 := size_rest (rest_ok h)
  grind
theorem size_bd {s : Side} (h : s.ok) : Bd 90 (size s) := by
  cases s with
  | to t => exact (nn_bd h.2.2.1 (by decide)).mono (by decide)
  | fr a b => exact (nn_bd ((nn_bd h.2.2.2.1 (by decide)).sub (nn_bd h.1.2.2.1 (by decide))) (by decide)).mono (by decide)
  | rd a b =>
    simp only [size]
    split
    · exact bd_one.mono (by decide)
    · exact (bd_one.add ((nn_bd h.2.2.2.1 (by decide)).sub (nn_bd h.1.2.2.1 (by decide)))).mono (by decide)

theorem Nu.lt {q : Rat} (h : Nu q) : q < 1 := h.2.1
theorem tri (x e : Rat) : (x < e ∧ ¬ e < x ∧ ¬ x = e) ∨ (¬ x < e ∧ ¬ e < x ∧ x = e) ∨ (¬ x < e ∧ e < x ∧ ¬ x = e) := by grind
theorem lie_half {x : Rat} (hx : Nu x) (s : Side) : lie x (rest s) .half = !lie x s .half := by
  have h1 := hx.lt
  cases s with
  | to t =>
    rcases tri x t with ⟨p, q, r⟩ | ⟨p, q, r⟩ | ⟨p, q, r⟩ <;> simp [lie, rest, behind, ahead, p, q, r, h1] <;> grind
  | fr a b =>
    rcases tri x a with ⟨p, q, r⟩ | ⟨p, q, r⟩ | ⟨p, q, r⟩ <;> rcases tri x b with ⟨p', q', r'⟩ | ⟨p', q', r'⟩ | ⟨p', q', r'⟩ <;> simp [lie, rest, behind, ahead, p, q, r, p', q', r'] <;> grind
  | rd a b =>
    rcases tri x a with ⟨p, q, r⟩ | ⟨p, q, r⟩ | ⟨p, q, r⟩ <;> rcases tri x b with ⟨p', q', r'⟩ | ⟨p', q', r'⟩ | ⟨p', q', r'⟩ <;> simp [lie, rest, behind, ahead, p, q, r, p', q', r'] <;> grind
theorem lie_open {x : Rat} (hx : Nu x) (s : Side) : lie x (rest s) .opn = !lie x s .shut := by
  have h1 := hx.lt
  cases s with
  | to t =>
    rcases tri x t with ⟨p, q, r⟩ | ⟨p, q, r⟩ | ⟨p, q, r⟩ <;> simp [lie, rest, behind, ahead, p, q, r, h1] <;> grind
  | fr a b =>
    rcases tri x a with ⟨p, q, r⟩ | ⟨p, q, r⟩ | ⟨p, q, r⟩ <;> rcases tri x b with ⟨p', q', r'⟩ | ⟨p', q', r'⟩ | ⟨p', q', r'⟩ <;> simp [lie, rest, behind, ahead, p, q, r, p', q', r'] <;> grind
  | rd a b =>
    rcases tri x a with ⟨p, q, r⟩ | ⟨p, q, r⟩ | ⟨p, q, r⟩ <;> rcases tri x b with ⟨p', q', r'⟩ | ⟨p', q', r'⟩ | ⟨p', q', r'⟩ <;> simp [lie, rest, behind, ahead, p, q, r, p', q', r'] <;> grind
theorem lie_shut {x : Rat} (hx : Nu x) (s : Side) : lie x (rest s) .shut = !lie x s .opn := by
  have h1 := hx.lt
  cases s with
  | to t =>
    rcases tri x t with ⟨p, q, r⟩ | ⟨p, q, r⟩ | ⟨p, q, r⟩ <;> simp [lie, rest, behind, ahead, p, q, r, h1] <;> grind
  | fr a b =>
    rcases tri x a with ⟨p, q, r⟩ | ⟨p, q, r⟩ | ⟨p, q, r⟩ <;> rcases tri x b with ⟨p', q', r'⟩ | ⟨p', q', r'⟩ | ⟨p', q', r'⟩ <;> simp [lie, rest, behind, ahead, p, q, r, p', q', r'] <;> grind
  | rd a b =>
    rcases tri x a with ⟨p, q, r⟩ | ⟨p, q, r⟩ | ⟨p, q, r⟩ <;> rcases tri x b with ⟨p', q', r'⟩ | ⟨p', q', r'⟩ | ⟨p', q', r'⟩ <;> simp [lie, rest, behind, ahead, p, q, r, p', q', r'] <;> grind

/-! ### points of one side -/
/-- how many lie in -/
def many (xs : List Rat) (s : Side) (w : Way) : Nat := xs.countP fun x => lie x s w
theorem many_le (xs : List Rat) (s : Side) (w : Way) : many xs s w ≤ xs.length := List.countP_le_length
theorem many_not {xs : List Rat} {s r : Side} {w v : Way} (h : ∀ x ∈ xs, lie x r v = !lie x s w) : many xs r v + many xs s w = xs.length := by
  induction xs with
  | nil => rfl
  | cons x xs ih =>
    have h1 := h x List.mem_cons_self
    have h2 := ih fun y hy => h y (List.mem_cons_of_mem _ hy)
    unfold many at h2 ⊢
    rw [List.countP_cons, List.countP_cons, List.length_cons, h1]
    cases lie x s w <;> simp <;> omega
/-- a share of so many -/
def share (m n : Nat) : Rat := Rat.divInt (m : Int) (n : Int)
theorem share_bd {m n : Nat} (h : m ≤ n) (hn : 0 < n) (h12 : n ≤ 12) : Bd 4 (share m n) :=
  bd_div (by omega) (by show (m : Int).natAbs < 16; omega) (by show (n : Int).natAbs < 16; omega)
theorem share_not {a b n : Nat} (h : a + b = n) (hn : 0 < n) : share a n = 1 - share b n := by
  have e : share a n + share b n = 1 := by
    unfold share
    rw [Rat.divInt_add_divInt _ _ (by omega) (by omega)]
    have e2 : (a : Int) * (n : Int) + (b : Int) * (n : Int) = (n : Int) * (n : Int) := by
      rw [← Int.add_mul, show (a : Int) + (b : Int) = (n : Int) by omega]
    rw [e2]
    exact Rat.divInt_self' (by
      have : (0 : Int) < (n : Int) * (n : Int) := Int.mul_pos (by omega) (by omega)
      omega)
  grind
def miss (xs : List Rat) (s : Side) : Rat := share (many xs s .half) xs.length - size s
def overS (xs : List Rat) (s : Side) : Rat := share (many xs s .shut) xs.length - size s
def lackS (xs : List Rat) (s : Side) : Rat := size s - share (many xs s .opn) xs.length
theorem over_lack {xs : List Rat} {s : Side} (hx : ∀ x ∈ xs, Nu x) (h0 : 0 < xs.length) (hs : s.ok) : overS xs s = lackS xs (rest s) := by
  have h1 := size_rest hs
  have h2 := share_not (many_not (xs := xs) (s := s) (r := rest s) (w := .shut) (v := .opn) fun x h => lie_open (hx x h) s) h0
  unfold overS lackS
  grind
theorem lack_over {xs : List Rat} {s : Side} (hx : ∀ x ∈ xs, Nu x) (h0 : 0 < xs.length) (hs : s.ok) : lackS xs s = overS xs (rest s) := by
  have h1 := size_rest hs
  have h2 := share_not (many_not (xs := xs) (s := s) (r := rest s) (w := .opn) (v := .shut) fun x h => lie_shut (hx x h) s) h0
  unfold overS lackS
  grind
theorem miss_rest {xs : List Rat} {s : Side} (hx : ∀ x ∈ xs, Nu x) (h0 : 0 < xs.length) (hs : s.ok) : 0 - miss xs s = miss xs (rest s) := by
  have h1 := size_rest hs
  have h2 := share_not (many_not (xs := xs) (s := s) (r := rest s) (w := .half) (v := .half) fun x h => lie_half (hx x h) s) h0
  unfold miss
  grind
theorem miss_bd {xs : List Rat} {s : Side} (h0 : 0 < xs.length) (h12 : xs.length ≤ 12) (hs : s.ok) : Bd 95 (miss xs s) :=
  (share_bd (many_le xs s .half) h0 h12).sub (size_bd hs)
theorem over_bd {xs : List Rat} {s : Side} (h0 : 0 < xs.length) (h12 : xs.length ≤ 12) (hs : s.ok) : Bd 95 (overS xs s) :=
  (share_bd (many_le xs s .shut) h0 h12).sub (size_bd hs)
theorem lack_bd {xs : List Rat} {s : Side} (h0 : 0 < xs.length) (h12 : xs.length ≤ 12) (hs : s.ok) : Bd 95 (lackS xs s) :=
  (size_bd hs).sub (share_bd (many_le xs s .opn) h0 h12)
end K12

set_option Elab.async false
set_option linter.all false
set_option maxRecDepth 100000
set_option maxHeartbeats 4000000
/-! The text by its places, the scopes, what stands in the heap: fractions, sides, points. -/
namespace K12
open PySem PySem.Spec PyProof.Rows L2

def top (i : Nat) : Stmt := PySem.Challenge.pw_evenpoints_k12_whole_rests.main.body.getD i (.Pass ⟨0, 0, 0, 0⟩)
abbrev stWhole : Stmt := top 6
abbrev stShared : Stmt := top 7
abbrev stIsFrac : Stmt := top 8
abbrev stFrac : Stmt := top 9
abbrev stPlus : Stmt := top 10
abbrev stLess : Stmt := top 11
abbrev stTimes : Stmt := top 12
abbrev stBelow : Stmt := top 13
abbrev stRest : Stmt := top 15
abbrev stEdge : Stmt := top 18
abbrev stIsSide : Stmt := top 19
abbrev stNought : Stmt := top 20
abbrev stSize : Stmt := top 21
abbrev stSizeOf : Stmt := top 22
abbrev stBehind : Stmt := top 23
abbrev stAhead : Stmt := top 24
abbrev stLies : Stmt := top 25
abbrev stLiesIn : Stmt := top 26
abbrev stInside : Stmt := top 27
abbrev stMiss : Stmt := top 28
abbrev stOver : Stmt := top 29
abbrev stLack : Stmt := top 30
abbrev stReel : Stmt := top 32
abbrev stPick : Stmt := top 33
abbrev stMade : Stmt := top 34
abbrev stNumber : Stmt := top 35
abbrev stPoints : Stmt := top 36
abbrev stLEdge : Stmt := top 37
abbrev stLSide : Stmt := top 38
abbrev stDue : Stmt := top 39
abbrev stLiesRight : Stmt := top 40
abbrev stRight : Stmt := top 41
abbrev stLaw : Stmt := top 42

/-- the built-in names that the text leaves alone -/
structure Bt (mg : Str → Option Value) : Prop where
  b_isinstance : mg "isinstance" = none
  b_int : mg "int" = none
  b_bool : mg "bool" = none
  b_tuple : mg "tuple" = none
  b_str : mg "str" = none
  b_len : mg "len" = none
  b_abs : mg "abs" = none
  b_all : mg "all" = none
  b_repr : mg "repr" = none
  b_zip : mg "zip" = none
  b_range : mg "range" = none

/-! ### heaps -/
/-- what stood stands, but at r -/
def Sb (r : Addr) (H H' : Hp) : Prop := ∀ b o, b ≠ r → H b = some o → H' b = some o
theorem Sb.refl (r : Addr) (H : Hp) : Sb r H H := fun _ _ _ h => h
theorem Sb.trans {r : Addr} {H H1 H2 : Hp} (a : Sb r H H1) (b : Sb r H1 H2) : Sb r H H2 := fun c o n h => b c o n (a c o n h)
theorem Sb.of {r : Addr} {H H' : Hp} (h : Same H H') : Sb r H H' := fun b o _ e => h b o e
theorem same_new {H : Hp} {p : Addr} {o : HO} (h : H p = none) : Same H (upd H p o) := fun b u e => by
  rw [upd_ne (ne_of_none e h)]
  exact e
theorem sb_upd {r : Addr} {H : Hp} {o : HO} : Sb r H (upd H r o) := fun b u n e => by
  rw [upd_ne n]
  exact e
/-- tuples never change -/
def Tk (H H' : Hp) : Prop := ∀ a xs, Rd H a (.tup xs) → Rd H' a (.tup xs)
theorem Tk.refl (H : Hp) : Tk H H := fun _ _ h => h
theorem Tk.trans {H H1 H2 : Hp} (a : Tk H H1) (b : Tk H1 H2) : Tk H H2 := fun c xs h => b c xs (a c xs h)
theorem Tk.of {H H' : Hp} (h : Same H H') : Tk H H' := fun a xs e => by
  rcases e with e | ⟨o, e⟩
  · exact .inl (h _ _ e)
  · exact .inr ⟨o, h _ _ e⟩
/-- r bears what is no tuple -/
def NoTup (H : Hp) (r : Addr) : Prop := ∀ xs, ¬ Rd H r (.tup xs)
theorem NoTup.dK {H : Hp} {r : Addr} {kvs : List (Key × V)} (h : H r = some (.dK kvs)) : NoTup H r := fun xs e => by
  rcases e with e | ⟨o, e⟩
  · rw [h] at e
    cases e
  · rw [h] at e
    cases e
theorem NoTup.lst {H : Hp} {r : Addr} {ys : List V} (h : H r = some (.lst ys)) : NoTup H r := fun xs e => by
  rcases e with e | ⟨o, e⟩
  · rw [h] at e
    cases e
  · rw [h] at e
    cases e
theorem Tk.sb {r : Addr} {H H' : Hp} (h : Sb r H H') (n : NoTup H r) : Tk H H' := fun a xs e => by
  have ne : a ≠ r := fun q => by
    subst q
    exact n xs e
  rcases e with e | ⟨o, e⟩
  · exact .inl (h _ _ ne e)
  · exact .inr ⟨o, h _ _ ne e⟩
section
variable {K : PySem.W.Frag} {H H' : Hp}
theorem Tk.sq {a : Addr} {xs : List V} (t : Tk H H') (h : SqT K H a xs) : SqT K H' a xs := by
  rcases h with h | h
  · exact .inl (t _ _ h)
  · exact .inr h
theorem sql_sb {r a : Addr} {xs : List V} (t : Sb r H H') (n : a ≠ r) (h : SqL K H a xs) : SqL K H' a xs := by
  rcases h with (h | ⟨o, h⟩) | h
  · exact .inl (.inl (t _ _ n h))
  · exact .inl (.inr ⟨o, t _ _ n h⟩)
  · exact .inr h

/-! ### fractions, sides, points in the heap -/
def Fq (K : PySem.W.Frag) (H : Hp) (v : V) (q : Rat) : Prop := ∃ p, v = .ref p ∧ SqT K H p [.int q.num, .int (q.den : Int)]
theorem Fq.tk {v : V} {q : Rat} (t : Tk H H') (h : Fq K H v q) : Fq K H' v q := by
  obtain ⟨p, e, s⟩ := h
  exact ⟨p, e, t.sq s⟩
theorem Fq.same {v : V} {q : Rat} (t : Same H H') (h : Fq K H v q) : Fq K H' v q := h.tk (.of t)
theorem Fq.new {p : Addr} {q : Rat} : Fq K (upd H p (.tup [.int q.num, .int (q.den : Int)])) (.ref p) q := ⟨p, rfl, .of upd_same⟩
def word : Side → Str
  | .to _ => "to"
  | .fr _ _ => "from"
  | .rd _ _ => "round"
/-- a side stands at v -/
def Sq (K : PySem.W.Frag) (H : Hp) (v : V) : Side → Prop
  | .to t => ∃ p x, v = .ref p ∧ SqT K H p [.str "to", x] ∧ Fq K H x t
  | .fr a b => ∃ p x y, v = .ref p ∧ SqT K H p [.str "from", x, y] ∧ Fq K H x a ∧ Fq K H y b
  | .rd a b => ∃ p x y, v = .ref p ∧ SqT K H p [.str "round", x, y] ∧ Fq K H x a ∧ Fq K H y b
theorem Sq.tk {v : V} {s : Side} (t : Tk H H') (h : Sq K H v s) : Sq K H' v s := by
  cases s with
  | to q =>
    obtain ⟨p, x, e, a, b⟩ := h
    exact ⟨p, x, e, t.sq a, b.tk t⟩
  | fr q r =>
    obtain ⟨p, x, y, e, a, b, c⟩ := h
    exact ⟨p, x, y, e, t.sq a, b.tk t, c.tk t⟩
  | rd q r =>
    obtain ⟨p, x, y, e, a, b, c⟩ := h
    exact ⟨p, x, y, e, t.sq a, b.tk t, c.tk t⟩
theorem Sq.same {v : V} {s : Side} (t : Same H H') (h : Sq K H v s) : Sq K H' v s := h.tk (.of t)
/-- a point of one number -/
def Pq (K : PySem.W.Frag) (H : Hp) (v : V) (q : Rat) : Prop := ∃ p x, v = .ref p ∧ SqT K H p [x] ∧ Fq K H x q
theorem Pq.tk {v : V} {q : Rat} (t : Tk H H') (h : Pq K H v q) : Pq K H' v q := by
  obtain ⟨p, x, e, a, b⟩ := h
  exact ⟨p, x, e, t.sq a, b.tk t⟩
def PsOf (K : PySem.W.Frag) (H : Hp) : List V → List Rat → Prop := Paired (Pq K H)
def FsOf (K : PySem.W.Frag) (H : Hp) : List V → List Rat → Prop := Paired (Fq K H)
theorem paired_mono {α β : Type} {F G : α → β → Prop} (f : ∀ a b, F a b → G a b) : ∀ {l : List α} {m : List β}, Paired F l m → Paired G l m
  | _, _, .nil => .nil
  | _, _, .cons r t => .cons (f _ _ r) (paired_mono f t)
theorem paired_len {α β : Type} {F : α → β → Prop} : ∀ {l : List α} {m : List β}, Paired F l m → l.length = m.length
  | _, _, .nil => rfl
  | _, _, .cons _ t => congrArg (· + 1) (paired_len t)
theorem paired_get {α β : Type} {F : α → β → Prop} : ∀ {l : List α} {m : List β} {i : Nat} {x : α}, Paired F l m → l[i]? = some x → ∃ y, m[i]? = some y ∧ F x y
  | _, _, _, _, .nil, e => by simp at e
  | _, _, 0, _, .cons r _, e => by
    simp at e
    subst e
    exact ⟨_, rfl, r⟩
  | _, _, i + 1, x, .cons _ t, e => by
    obtain ⟨y, h1, h2⟩ := paired_get (i := i) (x := x) t (by simpa using e)
    exact ⟨y, by simpa using h1, h2⟩
theorem paired_app {α β : Type} {F : α → β → Prop} : ∀ {l l' : List α} {m m' : List β}, Paired F l m → Paired F l' m' → Paired F (l ++ l') (m ++ m')
  | _, _, _, _, .nil, s => s
  | _, _, _, _, .cons r t, s => .cons r (paired_app t s)
theorem FsOf.tk {l : List V} {qs : List Rat} (t : Tk H H') (h : FsOf K H l qs) : FsOf K H' l qs := paired_mono (fun _ _ h => h.tk t) h
theorem PsOf.tk {l : List V} {qs : List Rat} (t : Tk H H') (h : PsOf K H l qs) : PsOf K H' l qs := paired_mono (fun _ _ h => h.tk t) h
end
end K12

set_option Elab.async false
set_option linter.all false
set_option maxRecDepth 100000
set_option maxHeartbeats 4000000
/-! The defs of evenpoints.fractions. -/
namespace K12
open PySem PySem.Spec PyProof.Rows L2
section
variable {P : Program} {w : World} {K : PySem.W.Frag} {mg : Str → Option Value} {base : Heap} {f : Addr} {fd : FuncData}

/-! ### is_whole -/
theorem scWhole : FnScope ["thing"] ["thing"] (C8.fnScope stWhole) := C8.fnScope_by (by decide +kernel)
def spWhole : Sp := fun vs H Q _ => ∃ i : Int, vs = [.int i] ∧ Q (.bl true) H
theorem calWhole (F : C8.Def K mg "is_whole" stWhole f fd) (b : Binds K fd ["thing"] []) (M : Bt mg) : C8.Cal P w K mg base 1 "is_whole" spWhole [] := by
  refine C8.cal0 F b .nil scWhole (fun vs H Q E h => ?_) (fun cdv A outer s H vs Q E hr h => ?_)
  · obtain ⟨i, rfl, _⟩ := h
    rfl
  · obtain ⟨i, rfl, q⟩ := h
    refine ⟨_, pss_one (ps_ret (pe_and
      (pe_callB call_isi (by rfl) M.b_isinstance (by decide +kernel) (pa_cons (pv 0) (pa_cons (pe_bltn (v := .ty "int") (by rfl) M.b_int (by decide +kernel) rfl) pa_nil)))
      (pe_one (pe_not (pe_callB call_isi (by rfl) M.b_isinstance (by decide +kernel) (pa_cons (pv 0) (pa_cons (pe_bltn (v := .ty "bool") (by rfl) M.b_bool (by decide +kernel) rfl) pa_nil))))))), ?_⟩
    refine ⟨_, rfl, _, _, .type "int", .type "int", true, rfl, .ty "int", .base (.int i), kit_ty (by decide +kernel), true, rfl, iteT ?_⟩
    refine ⟨_, rfl, _, _, .type "int", .type "bool", false, rfl, .ty "bool", .base (.int i), kit_ty (by decide +kernel), false, rfl, ?_⟩
    exact q

/-! ### shared -/
theorem scShared : FnScope ["one", "other"] ["one", "other"] (C8.fnScope stShared) := C8.fnScope_by (by decide +kernel)
def spShared : Sp := fun vs H Q _ => ∃ m n : Nat, vs = [.int m, .int n] ∧ Q (.int (Nat.gcd m n)) H
theorem calShared (F : C8.Def K mg "shared" stShared f fd) (b : Binds K fd ["one", "other"] []) : C8.Cal P w K mg base 1 "shared" spShared [] := by
  refine C8.cal0 F b .nil scShared (fun vs H Q E h => ?_) (fun cdv A outer s H vs Q E hr h => ?_)
  · obtain ⟨m, n, rfl, _⟩ := h
    rfl
  · obtain ⟨m, n, rfl, q⟩ := h
    refine ⟨_, pss_cons (ps_while PassesOwn.never (pt_cmpR op_ne (pv 1) pe_int (nomark _))
        (pss_one (ps_par (i := 0) (j := 1) rfl scShared.nd rfl rfl (by decide) rfl rfl (pa_cons (pv 1) (pa_cons (pe_op op_mod (pv 0) (pv 1)) pa_nil)) (by rfl))))
      (pss_one (ps_ret (pv 0))), ?_⟩
    refine while_by (fun σ H' => H' = H ∧ ∃ a c : Nat, σ = [some (.int a), some (.int c)] ∧ Nat.gcd a c = Nat.gcd m n) (fun σ _ => match σ with
      | [_, some (.int c)] => c.toNat
      | _ => 0) ⟨rfl, m, n, rfl, rfl⟩ ?_ ?_
    · rintro σ H' ⟨rfl, a, c, rfl, e⟩
      refine ⟨_, rfl, rfl, _, rfl, ite2 (fun hc => ?_) (fun hc => ?_)⟩
      · have hc' : ¬ (V.int (c : Int) = V.int 0) := by simpa using hc
        have c0 : c ≠ 0 := fun z => hc' (by rw [z]; rfl)
        refine ⟨_, rfl, _, rfl, _, rfl, _, _, rfl, rfl, (by show (0 : Int) < (c : Int); omega), _, _, rfl, ⟨rfl, c, a % c, ?_, ?_⟩, ?_⟩
        · show [some (V.int (c : Int)), some (V.int ((a : Int) % (c : Int)))] = _
          rw [← Int.natCast_emod]
        · rw [Nat.gcd_comm, ← Nat.gcd_rec, Nat.gcd_comm]
          exact e
        · show ((a : Int) % (c : Int)).toNat < (c : Int).toNat
          have h1 := Int.emod_lt_of_pos (a : Int) (show (0 : Int) < (c : Int) by omega)
          have h2 := Int.emod_nonneg (a : Int) (show (c : Int) ≠ 0 by omega)
          omega
      · have hc' : (V.int (c : Int) = V.int 0) := by simpa using hc
        have c0 : c = 0 := by
          have := V.int.inj hc'
          omega
        subst c0
        refine ⟨_, rfl, ?_⟩
        rw [Nat.gcd_zero_right] at e
        show Q (V.int (a : Int)) H'
        rw [e]
        exact q
    · intro σ H' Q1 Q2 hq ht
      obtain ⟨v, e, e2, k, e3, h⟩ := ht
      exact ⟨v, e, e2, k, e3, hq _ _ h⟩

/-! ### fraction -/
theorem scFrac : FnScope ["top", "bottom", "by"] ["top", "bottom"] (C8.fnScope stFrac) := C8.fnScope_by (by decide +kernel)
/-- the first by the second, above nought -/
def spFrac (K : PySem.W.Frag) : Sp := fun vs H Q _ => ∃ t b : Int, vs = [.int t, .int b] ∧ 0 < b ∧ b.natAbs < 2 ^ 2000 ∧ ∀ v H', Same H H' → Fq K H' v (Rat.divInt t b) → Q v H'
theorem abs_nat (i : Int) : (if i < 0 then -i else i) = ((i.natAbs : Nat) : Int) := by
  split <;> omega
theorem gcd_nat (t b : Int) : ((Nat.gcd t.natAbs b.natAbs : Nat) : Int) = ((Int.gcd t b : Nat) : Int) := rfl
theorem calFrac (F : C8.Def K mg "fraction" stFrac f fd) (b : Binds K fd ["top", "bottom"] []) (M : Bt mg) (cS : C8.Cal P w K mg base 1 "shared" spShared []) : C8.Cal P w K mg base 2 "fraction" (spFrac K) [] := by
  refine C8.cal0 F b .nil scFrac (fun vs H Q E h => ?_) (fun cdv A outer s H vs Q E hr h => ?_)
  · obtain ⟨t, n, rfl, _⟩ := h
    rfl
  · obtain ⟨t, n, rfl, h0, hz, q⟩ := h
    refine ⟨_, pss_cons (ps_if (pt_cmpR op_eq (pv 1) pe_int (nomark _)) (pss_one ps_never) pss_nil)
      (pss_cons (ps_set (i := 2) scFrac.nd rfl (.inl rfl) (C8.pe_c cS hr (by decide) rfl (pa_cons (pe_callB call_abs (by rfl) M.b_abs (by decide +kernel) (pa_cons (pv 0) pa_nil)) (pa_cons (pe_callB call_abs (by rfl) M.b_abs (by decide +kernel) (pa_cons (pv 1) pa_nil)) pa_nil))))
      (pss_cons (ps_if (pt_cmpR op_lt (pv 1) pe_int (nomark _)) (pss_one (ps_set (i := 2) scFrac.nd rfl (.inl rfl) (pe_un un_neg (pv 2)))) pss_nil)
      (pss_one (ps_ret (pe_tup (pa_cons (pe_op op_fdivW (pv 0) (pv 2)) (pa_cons (pe_op op_fdivW (pv 1) (pv 2)) pa_nil))))))), ?_⟩
    refine ⟨_, rfl, rfl, _, rfl, ite2 (fun hc => ?_) (fun hc => ?_)⟩
    · have hc' : (V.int n = V.int 0) := by simpa using hc
      have := V.int.inj hc'
      omega
    · refine ⟨_, rfl, t, rfl, _, rfl, n, rfl, t.natAbs, n.natAbs, by rw [abs_nat, abs_nat] <;> rfl, ?_⟩
      refine ⟨_, rfl, _, _, rfl, rfl, _, rfl, ite2 (fun hc => ?_) (fun hc => ?_)⟩
      · have := of_decide_eq_true hc
        omega
      · have g0 : (0 : Int) < ((Int.gcd t n : Nat) : Int) := by
          have := Int.gcd_pos_of_ne_zero_right t (show n ≠ 0 by omega)
          omega
        have g1 : (((Int.gcd t n : Nat) : Int)).natAbs < 2 ^ 2000 := by
          have h1 : (Int.gcd t n : Nat) ≤ n.natAbs := Int.gcd_le_natAbs_right t (show n ≠ 0 by omega)
          omega
        refine ⟨_, rfl, _, rfl, _, _, rfl, rfl, wide_div g0 g1 (by decide) (by decide), _, rfl, _, rfl, _, _, rfl, rfl, wide_div g0 g1 (by decide) (by decide), (by show 2 ≤ sizeLine; decide), fun p hp => ?_⟩
        refine q _ _ (same_new hp) ⟨p, rfl, .of ?_⟩
        rw [upd_same, div_num h0, div_den h0, gcd_nat]

/-! ### plus, less, times, is_below -/
def spOp (K : PySem.W.Frag) (op : Rat → Rat → Rat) : Sp := fun vs H Q _ => ∃ (x y : V) (a b : Rat), vs = [x, y] ∧ Fq K H x a ∧ Fq K H y b ∧ Bd 900 a ∧ Bd 900 b ∧ ∀ v H', Same H H' → Fq K H' v (op a b) → Q v H'
theorem scPlus : FnScope ["one", "other"] ["one", "other"] (C8.fnScope stPlus) := C8.fnScope_by (by decide +kernel)
theorem scLess : FnScope ["one", "other"] ["one", "other"] (C8.fnScope stLess) := C8.fnScope_by (by decide +kernel)
theorem scTimes : FnScope ["one", "other"] ["one", "other"] (C8.fnScope stTimes) := C8.fnScope_by (by decide +kernel)
theorem scBelow : FnScope ["one", "other"] ["one", "other"] (C8.fnScope stBelow) := C8.fnScope_by (by decide +kernel)
theorem mul_ok {j k : Nat} {a b : Rat} (ha : Bd j a) (hb : Bd k b) (h : j + k + 2 ≤ 1000000) : CMulW a.num (b.den : Int) :=
  wide_mul (a := j + 1) (b := k + 1) (up_bd ha.1 (by omega)) (up_bd (den_bd hb) (by omega)) (by omega) (by omega) (by omega)
theorem mul_dd {j k : Nat} {a b : Rat} (ha : Bd j a) (hb : Bd k b) (h : j + k + 2 ≤ 1000000) : CMulW (a.den : Int) (b.den : Int) :=
  wide_mul (a := j + 1) (b := k + 1) (up_bd (den_bd ha) (by omega)) (up_bd (den_bd hb) (by omega)) (by omega) (by omega) (by omega)
theorem mul_nn {j k : Nat} {a b : Rat} (ha : Bd j a) (hb : Bd k b) (h : j + k + 2 ≤ 1000000) : CMulW a.num b.num :=
  wide_mul (a := j + 1) (b := k + 1) (up_bd ha.1 (by omega)) (up_bd hb.1 (by omega)) (by omega) (by omega) (by omega)
theorem calPlus (F : C8.Def K mg "plus" stPlus f fd) (b : Binds K fd ["one", "other"] []) (cF : C8.Cal P w K mg base 2 "fraction" (spFrac K) []) : C8.Cal P w K mg base 3 "plus" (spOp K fun a b => a + b) [] := by
  refine C8.cal0 F b .nil scPlus (fun vs H Q E h => ?_) (fun cdv A outer s H vs Q E hr h => ?_)
  · obtain ⟨x, y, a, b, rfl, _⟩ := h
    rfl
  · obtain ⟨_, _, a, b, rfl, ⟨pa, rfl, sa⟩, ⟨pb, rfl, sb⟩, ha, hb, q⟩ := h
    refine ⟨_, pss_one (ps_ret (C8.pe_c cF hr (by decide) rfl (pa_cons (pe_op op_add
        (pe_op op_mulW (pe_ix ix_tup (pv 0) pe_int (fun _ _ => rfl)) (pe_ix ix_tup (pv 1) pe_int (fun _ _ => rfl)))
        (pe_op op_mulW (pe_ix ix_tup (pv 1) pe_int (fun _ _ => rfl)) (pe_ix ix_tup (pv 0) pe_int (fun _ _ => rfl))))
      (pa_cons (pe_op op_mulW (pe_ix ix_tup (pv 0) pe_int (fun _ _ => rfl)) (pe_ix ix_tup (pv 1) pe_int (fun _ _ => rfl))) pa_nil)))), ?_⟩
    refine ⟨_, rfl, pa, _, 0, _, rfl, rfl, sa, rfl, _, rfl, pb, _, 1, _, rfl, rfl, sb, rfl, _, _, rfl, rfl, mul_ok ha hb (by decide), ?_⟩
    refine ⟨_, rfl, pb, _, 0, _, rfl, rfl, sb, rfl, _, rfl, pa, _, 1, _, rfl, rfl, sa, rfl, _, _, rfl, rfl, mul_ok hb ha (by decide), _, _, rfl, rfl, ?_⟩
    refine ⟨_, rfl, pa, _, 1, _, rfl, rfl, sa, rfl, _, rfl, pb, _, 1, _, rfl, rfl, sb, rfl, _, _, rfl, rfl, mul_dd ha hb (by decide), ?_⟩
    refine ⟨_, _, rfl, dd_pos a b, up_bd (bot_bd ha hb) (by decide), fun v H' sm hv => q v H' sm ?_⟩
    rw [add_eq] at hv
    exact hv
theorem calLess (F : C8.Def K mg "less" stLess f fd) (b : Binds K fd ["one", "other"] []) (cF : C8.Cal P w K mg base 2 "fraction" (spFrac K) []) : C8.Cal P w K mg base 3 "less" (spOp K fun a b => a - b) [] := by
  refine C8.cal0 F b .nil scLess (fun vs H Q E h => ?_) (fun cdv A outer s H vs Q E hr h => ?_)
  · obtain ⟨x, y, a, b, rfl, _⟩ := h
    rfl
  · obtain ⟨_, _, a, b, rfl, ⟨pa, rfl, sa⟩, ⟨pb, rfl, sb⟩, ha, hb, q⟩ := h
    refine ⟨_, pss_one (ps_ret (C8.pe_c cF hr (by decide) rfl (pa_cons (pe_op op_sub
        (pe_op op_mulW (pe_ix ix_tup (pv 0) pe_int (fun _ _ => rfl)) (pe_ix ix_tup (pv 1) pe_int (fun _ _ => rfl)))
        (pe_op op_mulW (pe_ix ix_tup (pv 1) pe_int (fun _ _ => rfl)) (pe_ix ix_tup (pv 0) pe_int (fun _ _ => rfl))))
      (pa_cons (pe_op op_mulW (pe_ix ix_tup (pv 0) pe_int (fun _ _ => rfl)) (pe_ix ix_tup (pv 1) pe_int (fun _ _ => rfl))) pa_nil)))), ?_⟩
    refine ⟨_, rfl, pa, _, 0, _, rfl, rfl, sa, rfl, _, rfl, pb, _, 1, _, rfl, rfl, sb, rfl, _, _, rfl, rfl, mul_ok ha hb (by decide), ?_⟩
    refine ⟨_, rfl, pb, _, 0, _, rfl, rfl, sb, rfl, _, rfl, pa, _, 1, _, rfl, rfl, sa, rfl, _, _, rfl, rfl, mul_ok hb ha (by decide), _, _, rfl, rfl, ?_⟩
    refine ⟨_, rfl, pa, _, 1, _, rfl, rfl, sa, rfl, _, rfl, pb, _, 1, _, rfl, rfl, sb, rfl, _, _, rfl, rfl, mul_dd ha hb (by decide), ?_⟩
    refine ⟨_, _, rfl, dd_pos a b, up_bd (bot_bd ha hb) (by decide), fun v H' sm hv => q v H' sm ?_⟩
    rw [sub_eq] at hv
    exact hv
theorem calTimes (F : C8.Def K mg "times" stTimes f fd) (b : Binds K fd ["one", "other"] []) (cF : C8.Cal P w K mg base 2 "fraction" (spFrac K) []) : C8.Cal P w K mg base 3 "times" (spOp K fun a b => a * b) [] := by
  refine C8.cal0 F b .nil scTimes (fun vs H Q E h => ?_) (fun cdv A outer s H vs Q E hr h => ?_)
  · obtain ⟨x, y, a, b, rfl, _⟩ := h
    rfl
  · obtain ⟨_, _, a, b, rfl, ⟨pa, rfl, sa⟩, ⟨pb, rfl, sb⟩, ha, hb, q⟩ := h
    refine ⟨_, pss_one (ps_ret (C8.pe_c cF hr (by decide) rfl (pa_cons
        (pe_op op_mulW (pe_ix ix_tup (pv 0) pe_int (fun _ _ => rfl)) (pe_ix ix_tup (pv 1) pe_int (fun _ _ => rfl)))
      (pa_cons (pe_op op_mulW (pe_ix ix_tup (pv 0) pe_int (fun _ _ => rfl)) (pe_ix ix_tup (pv 1) pe_int (fun _ _ => rfl))) pa_nil)))), ?_⟩
    refine ⟨_, rfl, pa, _, 0, _, rfl, rfl, sa, rfl, _, rfl, pb, _, 0, _, rfl, rfl, sb, rfl, _, _, rfl, rfl, mul_nn ha hb (by decide), ?_⟩
    refine ⟨_, rfl, pa, _, 1, _, rfl, rfl, sa, rfl, _, rfl, pb, _, 1, _, rfl, rfl, sb, rfl, _, _, rfl, rfl, mul_dd ha hb (by decide), ?_⟩
    refine ⟨_, _, rfl, dd_pos a b, up_bd (bot_bd ha hb) (by decide), fun v H' sm hv => q v H' sm ?_⟩
    rw [mul_eq] at hv
    exact hv
def spBelow (K : PySem.W.Frag) : Sp := fun vs H Q _ => ∃ (x y : V) (a b : Rat), vs = [x, y] ∧ Fq K H x a ∧ Fq K H y b ∧ Bd 900 a ∧ Bd 900 b ∧ Q (.bl (decide (a < b))) H
theorem calBelow (F : C8.Def K mg "is_below" stBelow f fd) (b : Binds K fd ["one", "other"] []) : C8.Cal P w K mg base 1 "is_below" (spBelow K) [] := by
  refine C8.cal0 F b .nil scBelow (fun vs H Q E h => ?_) (fun cdv A outer s H vs Q E hr h => ?_)
  · obtain ⟨x, y, a, b, rfl, _⟩ := h
    rfl
  · obtain ⟨_, _, a, b, rfl, ⟨pa, rfl, sa⟩, ⟨pb, rfl, sb⟩, ha, hb, q⟩ := h
    refine ⟨_, pss_one (ps_ret (pe_cmpR op_lt
        (pe_op op_mulW (pe_ix ix_tup (pv 0) pe_int (fun _ _ => rfl)) (pe_ix ix_tup (pv 1) pe_int (fun _ _ => rfl)))
        (pe_op op_mulW (pe_ix ix_tup (pv 1) pe_int (fun _ _ => rfl)) (pe_ix ix_tup (pv 0) pe_int (fun _ _ => rfl))) (nomark _))), ?_⟩
    refine ⟨_, rfl, pa, _, 0, _, rfl, rfl, sa, rfl, _, rfl, pb, _, 1, _, rfl, rfl, sb, rfl, _, _, rfl, rfl, mul_ok ha hb (by decide), ?_⟩
    refine ⟨_, rfl, pb, _, 0, _, rfl, rfl, sb, rfl, _, rfl, pa, _, 1, _, rfl, rfl, sa, rfl, _, _, rfl, rfl, mul_ok hb ha (by decide), _, _, rfl, rfl, ?_⟩
    have e : decide (a < b) = decide (a.num * (b.den : Int) < b.num * (a.den : Int)) := by
      have := lt_num a b
      simp only [this]
    rw [e] at q
    exact q
end
end K12

set_option Elab.async false
set_option linter.all false
set_option maxRecDepth 100000
set_option maxHeartbeats 4000000
/-! is_fraction, is_edge, is_side, rest_of. -/
namespace K12
open PySem PySem.Spec PyProof.Rows L2
/-! ### d.get(k, x) of a dict of the module's top -/
def KGet (K : PySem.W.Frag) (w : World) (a : Addr) (z : Str) (v : V) : Prop := (a == sysModules) = false ∧ KDct K w a z v
def tKGet (K : PySem.W.Frag) (w : World) (td ty tx : TE) : TE := fun σ H Q => td σ H fun x H1 => ∃ a z v, x = V.ref a ∧ KGet K w a z v ∧
  ty σ H1 fun y H2 => y = V.str z ∧ tx σ H2 fun _ H3 => Q v H3
section
variable {X : Cx} {o e f : Expr} {apos cpos : Pos} {td ty tx : TE}
theorem pe_kget (ho : PE X o td) (he : PE X e ty) (hf : PE X f tx) (m : M2 X o "get" apos e f cpos) : PE X (.Call (.Attribute o "get" apos) [e, f] [] cpos) (tKGet X.K X.w td ty tx) :=
  ⟨fun pins s σ H Q I hw => by
    refine wpAny_Call_method m.base m.few m.line PySem.F.plainAttrs_dict PySem.F.slot_dict_get PySem.F.type_dict_get
      (thn (ho.run pins s σ H _ I hw) ?_)
    rintro u s1 ⟨x, H1, I1, rx, a, z, v, rfl, ⟨low, es, n, u0, hl, hk, el, ru⟩, q1⟩
    cases rx
    have map1 := PySem.W.mapOf_K (prog := X.prog) (w := X.w) I1.kIn hl hk
    refine ⟨map1.typeIs, map1.noDict, ?_⟩
    rw [m.trees]
    refine Calls.callWith_builtin rfl (Calls.evalArgs_plain (Calls.spliced_cons (thn (he.run pins s1 σ H1 _ I1 q1) ?_)))
    rintro iv s2 ⟨_, H2, I2, ry, rfl, q2⟩
    obtain ⟨tk, rfl⟩ := ry
    refine Calls.spliced_cons (thn (hf.run pins s2 σ H2 _ I2 q2) ?_)
    rintro fv s3 ⟨x3, H3, I3, r3, q3⟩
    refine Calls.spliced_nil ?_
    have map3 := PySem.W.mapOf_K (prog := X.prog) (w := X.w) I3.kIn hl hk
    refine call_meetsIn PySem.F.slot_dict_get map3.typeIs PySem.F.entry_dict_get (PySem.F.args_dict_get_3 _ _ _)
      (meets_dict_get_default (strKind X.prog X.w) a (strKind_is X.prog X.w z _) low fv) ⟨_, map3, ?_⟩
    rw [PySem.W.find_K hl el]
    exact ⟨v, H3, I3.tok _, ru, q3⟩⟩
end
section
variable {P : Program} {w : World} {K : PySem.W.Frag} {mg : Str → Option Value} {base : Heap} {f : Addr} {fd : FuncData} {H : Hp}
theorem ty_tup {p : Addr} {xs : List V} (h : SqT K H p xs) : TyX K H (.ref p) (.type "tuple") := by
  rcases h with (h | ⟨o, h⟩) | ⟨o, its, n, h, c, _⟩
  · exact .base (.tup h)
  · exact .fTuple h
  · exact .kTuple h c
/-! ### is_fraction, is_edge -/
theorem scIsFrac : FnScope ["thing"] ["thing"] (C8.fnScope stIsFrac) := C8.fnScope_by (by decide +kernel)
theorem scEdge : FnScope ["thing"] ["thing"] (C8.fnScope stEdge) := C8.fnScope_by (by decide +kernel)
theorem scIsSide : FnScope ["thing", "one"] ["thing"] (C8.fnScope stIsSide) := C8.fnScope_by (by decide +kernel)
def spIsFrac (K : PySem.W.Frag) : Sp := fun vs H Q _ => ∃ (x : V) (a : Rat), vs = [x] ∧ Fq K H x a ∧ Q (.bl true) H
theorem calIsFrac (F : C8.Def K mg "is_fraction" stIsFrac f fd) (b : Binds K fd ["thing"] []) (M : Bt mg)
    (cW : C8.Cal P w K mg base 1 "is_whole" spWhole []) (cS : C8.Cal P w K mg base 1 "shared" spShared []) : C8.Cal P w K mg base 2 "is_fraction" (spIsFrac K) [] := by
  refine C8.cal0 F b .nil scIsFrac (fun vs H Q E h => ?_) (fun cdv A outer s H vs Q E hr h => ?_)
  · obtain ⟨x, a, rfl, _⟩ := h
    rfl
  · obtain ⟨_, a, rfl, ⟨p, rfl, sp⟩, q⟩ := h
    refine ⟨_, pss_cons (ps_if (PW.pt (pw_or (pt_not (pt_val (pe_callB call_isi (by rfl) M.b_isinstance (by decide +kernel) (pa_cons (pv 0) (pa_cons (pe_bltn (v := .ty "tuple") (by rfl) M.b_tuple (by decide +kernel) rfl) pa_nil)))))
          (pw_or1 (pt_cmpR op_ne (pe_callB call_len_seq (by rfl) M.b_len PySem.boot_len (pa_cons (pv 0) pa_nil)) pe_int (nomark _))))) (pss_one (ps_ret pe_bl)) pss_nil)
      (pss_cons (ps_if (PW.pt (pw_or (pt_not (pt_val (C8.pe_c cW hr (by decide) rfl (pa_cons (pe_ix ix_tup (pv 0) pe_int (fun _ _ => rfl)) pa_nil))))
          (pw_or (pt_not (pt_val (C8.pe_c cW hr (by decide) rfl (pa_cons (pe_ix ix_tup (pv 0) pe_int (fun _ _ => rfl)) pa_nil))))
          (pw_or1 (pt_cmpR op_lt (pe_ix ix_tup (pv 0) pe_int (fun _ _ => rfl)) pe_int (nomark _)))))) (pss_one (ps_ret pe_bl)) pss_nil)
      (pss_one (ps_ret (pe_cmpR op_eq (C8.pe_c cS hr (by decide) rfl (pa_cons (pe_callB call_abs (by rfl) M.b_abs (by decide +kernel) (pa_cons (pe_ix ix_tup (pv 0) pe_int (fun _ _ => rfl)) pa_nil)) (pa_cons (pe_ix ix_tup (pv 0) pe_int (fun _ _ => rfl)) pa_nil))) pe_int (nomark _))))), ?_⟩
    refine ⟨_, rfl, _, _, .type "tuple", .type "tuple", true, rfl, .ty "tuple", ty_tup sp, kit_ty (by decide +kernel), true, rfl, iteF ?_⟩
    refine ⟨_, rfl, p, _, rfl, .inr sp, rfl, false, rfl, iteF ?_⟩
    refine ⟨_, rfl, p, _, 0, _, rfl, rfl, sp, rfl, _, rfl, true, rfl, iteF ?_⟩
    refine ⟨_, rfl, p, _, 1, _, rfl, rfl, sp, rfl, _, rfl, true, rfl, iteF ?_⟩
    refine ⟨_, rfl, p, _, 1, _, rfl, rfl, sp, rfl, _, _, rfl, rfl, _, rfl, ite2 (fun hc => ?_) (fun hc => ?_)⟩
    · have h1 := of_decide_eq_true hc
      have h2 := den_pos a
      omega
    · refine ⟨_, rfl, p, _, 0, _, rfl, rfl, sp, rfl, _, rfl, _, rfl, p, _, 1, _, rfl, rfl, sp, rfl, a.num.natAbs, a.den, by rw [abs_nat] <;> rfl, rfl, ?_⟩
      have e : Nat.gcd a.num.natAbs a.den = 1 := a.reduced
      rw [e]
      exact q
def spEdge (K : PySem.W.Frag) : Sp := fun vs H Q _ => ∃ (x : V) (a : Rat), vs = [x] ∧ Fq K H x a ∧ Ed a ∧ Q (.bl true) H
theorem ed_num {a : Rat} (h : Ed a) : -(a.den : Int) ≤ a.num ∧ a.num ≤ (a.den : Int) := by
  have h1 := (Rat.le_iff (-1) a).mp h.1
  have h2 := (Rat.le_iff a 1).mp h.2.1
  have e1 : (-1 : Rat).num = -1 := rfl
  have e2 : (-1 : Rat).den = 1 := rfl
  have e3 : (1 : Rat).num = 1 := rfl
  have e4 : (1 : Rat).den = 1 := rfl
  rw [e1, e2] at h1
  rw [e3, e4] at h2
  omega
theorem calEdge (F : C8.Def K mg "is_edge" stEdge f fd) (b : Binds K fd ["thing"] []) (cF : C8.Cal P w K mg base 2 "is_fraction" (spIsFrac K) []) : C8.Cal P w K mg base 3 "is_edge" (spEdge K) [] := by
  refine C8.cal0 F b .nil scEdge (fun vs H Q E h => ?_) (fun cdv A outer s H vs Q E hr h => ?_)
  · obtain ⟨x, a, rfl, _⟩ := h
    rfl
  · obtain ⟨_, a, rfl, ⟨p, rfl, sp⟩, ed, q⟩ := h
    obtain ⟨e1, e2⟩ := ed_num ed
    refine ⟨_, pss_one (ps_ret (pe_and (C8.pe_c cF hr (by decide) rfl (pa_cons (pv 0) pa_nil))
      (pe_one (pe_chain op_le op_le (pe_un un_neg (pe_ix ix_tup (pv 0) pe_int (fun _ _ => rfl))) (pe_ix ix_tup (pv 0) pe_int (fun _ _ => rfl)) (pe_ix ix_tup (pv 0) pe_int (fun _ _ => rfl)))))), ?_⟩
    refine ⟨_, rfl, _, a, rfl, ⟨p, rfl, sp⟩, true, rfl, iteT ?_⟩
    refine ⟨_, rfl, p, _, 1, _, rfl, rfl, sp, rfl, _, rfl, _, rfl, p, _, 0, _, rfl, rfl, sp, rfl, _, _, rfl, rfl, _, rfl, ite2 (fun hc => ?_) (fun hc => absurd (decide_eq_true e1) hc)⟩
    refine ⟨_, rfl, p, _, 1, _, rfl, rfl, sp, rfl, _, _, rfl, rfl, ?_⟩
    rw [← decide_eq_true e2] at q
    exact q

/-! ### is_side -/
/-- beside a new list at D all stays -/
theorem same_at {H0 H4 : Hp} {D : Addr} {o : HO} (h : Same H0 H4) (n : H0 D = none) : Same H0 (upd H4 D o) := fun b u e => by
  rw [upd_ne (ne_of_none e n)]
  exact h b u e
theorem cut2 (x y : V) : cutV [x, y] (some 1) none = [y] := rfl
theorem cut3 (x y z : V) : cutV [x, y, z] (some 1) none = [y, z] := rfl
def spIsSide (K : PySem.W.Frag) : Sp := fun vs H Q _ => ∃ (x : V) (s : Side), vs = [x] ∧ Sq K H x s ∧ s.ok ∧ ∀ H', Same H H' → Q (.bl true) H'
/-- the numbers of a side -/
def nums : Side → List Rat
  | .to t => [t]
  | .fr a b => [a, b]
  | .rd a b => [a, b]
/-- a side as a tuple: its word, its numbers -/
theorem sq_open {x : V} {s : Side} (h : Sq K H x s) : ∃ p xs, x = .ref p ∧ SqT K H p (.str (word s) :: xs) ∧ FsOf K H xs (nums s) := by
  cases s with
  | to t =>
    obtain ⟨p, y, rfl, a, b⟩ := h
    exact ⟨p, [y], rfl, a, .cons b .nil⟩
  | fr q r =>
    obtain ⟨p, y, z, rfl, a, b, c⟩ := h
    exact ⟨p, [y, z], rfl, a, .cons b (.cons c .nil)⟩
  | rd q r =>
    obtain ⟨p, y, z, rfl, a, b, c⟩ := h
    exact ⟨p, [y, z], rfl, a, .cons b (.cons c .nil)⟩
theorem nums_ok {s : Side} (h : s.ok) : ∀ q ∈ nums s, Ed q := by
  cases s with
  | to t =>
    intro q hq
    obtain rfl := List.mem_singleton.mp hq
    exact h
  | fr a b =>
    intro q hq
    rcases List.mem_cons.mp hq with rfl | hq
    · exact h.1
    · obtain rfl := List.mem_singleton.mp hq
      exact h.2
  | rd a b =>
    intro q hq
    rcases List.mem_cons.mp hq with rfl | hq
    · exact h.1
    · obtain rfl := List.mem_singleton.mp hq
      exact h.2
theorem nums_len (s : Side) : (nums s).length = 1 ∨ (nums s).length = 2 := by
  cases s <;> simp [nums]
theorem cut_side {w : V} {xs : List V} (h : xs.length = 1 ∨ xs.length = 2) : cutV (w :: xs) (some 1) none = xs := by
  match xs, h with
  | [_], _ => rfl
  | [_, _], _ => rfl
  | [], h => simp at h
  | _ :: _ :: _ :: _, h => simp at h
theorem not_whole {w : V} {xs : List V} (h : xs.length = 1 ∨ xs.length = 2) : ¬ (HT.sIx (w :: xs).length 0 (some 1) = 0 ∧ HT.sIx (w :: xs).length (w :: xs).length none = (w :: xs).length) := by
  match xs, h with
  | [x], _ =>
    intro z
    have e : HT.sIx [w, x].length 0 (some 1) = 1 := rfl
    rw [e] at z
    exact absurd z.1 (by decide)
  | [x, y], _ =>
    intro z
    have e : HT.sIx [w, x, y].length 0 (some 1) = 1 := rfl
    rw [e] at z
    exact absurd z.1 (by decide)
  | [], h => simp at h
  | _ :: _ :: _ :: _, h => simp at h
/-- how many items LONG tells -/
def long : Side → Int
  | .to _ => 2
  | .fr _ _ => 3
  | .rd _ _ => 3
theorem long_eq (s : Side) : long s = (((nums s).length + 1 : Nat) : Int) := by
  cases s <;> rfl
theorem rep_all (n : Nat) : (List.replicate n true).all id = true := by
  induction n with
  | zero => rfl
  | succ n ih => simp [List.replicate_succ]
theorem calIsSide {aLONG : Addr} (F : C8.Def K mg "is_side" stIsSide f fd) (b : Binds K fd ["thing"] []) (M : Bt mg)
    (mLONG : mg "LONG" = some (.ref aLONG)) (gL : ∀ s : Side, KGet K w aLONG (word s) (.int (long s)))
    (c_is_edge : C8.Cal P w K mg base 3 "is_edge" (spEdge K) []) : C8.Cal P w K mg base 4 "is_side" (spIsSide K) [] := by
  refine C8.cal0 F b .nil scIsSide (fun vs H Q E h => ?_) (fun cdv A outer s H vs Q E hr h => ?_)
  · obtain ⟨x, a, rfl, _⟩ := h
    rfl
  · obtain ⟨_, sd, rfl, hs, ok, q⟩ := h
    obtain ⟨p, xs, rfl, sp, fs⟩ := sq_open hs
    have len : xs.length = (nums sd).length := paired_len fs
    have l12 : xs.length = 1 ∨ xs.length = 2 := by
      rw [len]
      exact nums_len sd
    refine ⟨_, (pss_cons (ps_if (PW.pt (pw_or (pt_not (pt_val (pe_callB call_isi (by rfl) M.b_isinstance (by decide +kernel) (pa_cons (pv 0) (pa_cons (pe_bltn (v := .ty "tuple") (by rfl) M.b_tuple (by decide +kernel) rfl) pa_nil))))) (pw_or (pt_cmpR op_eq (pe_callB call_len_seq (by rfl) M.b_len (by decide +kernel) (pa_cons (pv 0) pa_nil)) pe_int (nomark _)) (pw_or1 (pt_not (pt_val (pe_callB call_isi (by rfl) M.b_isinstance (by decide +kernel) (pa_cons (pe_ix ix_tup (pv 0) pe_int (fun _ _ => rfl)) (pa_cons (pe_bltn (v := .ty "str") (by rfl) M.b_str (by decide +kernel) rfl) pa_nil))))))))) (pss_one (ps_ret pe_bl)) pss_nil)
      (pss_one (ps_ret (pe_and (pe_cmpR op_eq (pe_kget (pe_glob (v := .ref aLONG) (by rfl) mLONG rfl) (pe_ix ix_tup (pv 0) pe_int (fun _ _ => rfl)) pe_int ⟨rfl, rfl, rfl, rfl⟩) (pe_callB call_len_seq (by rfl) M.b_len (by decide +kernel) (pa_cons (pv 0) pa_nil)) (nomark _)) (pe_one (pe_callB (cr_all rfl) (by rfl) M.b_all (by decide +kernel) (pa_cons (pe_lc (own := [("one", 1)]) (g := gName 1) (tt := tYes) rfl scIsSide.nd (pi_tup (pe_slice sl_tup (pv 0) (po_some pe_int) po_none)) (blkOk_by (N := ["thing", "one"]) (sc := C8.fnScope stIsSide) (by decide +kernel)) (fun _ _ _ _ _ => pg_name (i := 1) scIsSide.nd rfl (Or.inl rfl)) (fun _ _ _ _ _ => pts_nil) (fun _ _ _ _ _ => (C8.pe_c c_is_edge hr (by decide) rfl (pa_cons (pv 1) pa_nil)))) pa_nil))))))), ?_⟩
    refine ⟨_, rfl, _, _, .type "tuple", .type "tuple", true, rfl, .ty "tuple", ty_tup sp, kit_ty (by decide +kernel), true, rfl, iteF ?_⟩
    have n0 : decide (V.int (((V.str (word sd) :: xs).length : Nat) : Int) = V.int 0) = false := decide_eq_false fun z => by
      have := V.int.inj z
      rw [List.length_cons] at this
      omega
    refine ⟨_, rfl, p, _, rfl, .inr sp, rfl, _, rfl, ?_⟩
    rw [n0]
    refine iteF ?_
    refine ⟨_, rfl, p, _, 0, _, rfl, rfl, sp, atI_nat (j := 0) rfl, _, _, .type "str", .type "str", true, rfl, .ty "str", .base (.str _), kit_ty (by decide +kernel), true, rfl, iteF ?_⟩
    refine ⟨aLONG, _, _, rfl, gL sd, _, rfl, p, _, 0, _, rfl, rfl, sp, atI_nat (j := 0) rfl, rfl, ?_⟩
    have n1 : decide (V.int (long sd) = V.int (((V.str (word sd) :: xs).length : Nat) : Int)) = true := decide_eq_true (by
      rw [List.length_cons, len, long_eq])
    refine ⟨_, rfl, p, _, rfl, .inr sp, rfl, _, rfl, ?_⟩
    rw [n1]
    refine iteT ?_
    refine ⟨_, rfl, 1, rfl, p, _, rfl, sp, not_whole l12, fun c nc => ?_⟩
    have sc : Same H (upd H c (.tup (cutV (V.str (word sd) :: xs) (some 1) none))) := same_new nc
    rw [cut_side l12] at sc ⊢
    have sqc : SqT K (upd H c (.tup xs)) c xs := .of upd_same
    refine ⟨c, rfl, ⟨_, sqc⟩, fun D hD => ?_⟩
    refine lc_tup (K := K) (a := c) (xs := xs) (fun i H' => Same (upd H c (.tup xs)) H' ∧ H' D = some (.lst ((List.replicate i true).map V.bl))) ⟨same_new hD, upd_same⟩ (fun i H' _ h => (Tk.of h.1).sq sqc) ?_ ?_
    · rintro i x H' hx ⟨sm, hd⟩
      obtain ⟨qx, g1, g2⟩ := paired_get fs hx
      refine ⟨rfl, _, rfl, _, qx, rfl, (g2.same sc).same sm, nums_ok ok _ (List.mem_of_getElem? g1), _, hd, ?_, same_at sm hD, ?_⟩
      · have hi := (List.getElem?_eq_some_iff.mp hx).1
        rw [List.length_map, List.length_replicate]
        exact small1000 (by omega)
      · rw [upd_same, List.replicate_succ', List.map_append]
        rfl
    · rintro H' ⟨sm, hd⟩
      refine ⟨D, _, rfl, .of hd, ?_⟩
      rw [rep_all]
      exact q _ (sc.trans sm)
end
end K12

set_option Elab.async false
set_option linter.all false
set_option maxRecDepth 100000
set_option maxHeartbeats 4000000
/-! rest_of, the sizes, what lies in a side, the misses. -/
namespace K12
open PySem PySem.Spec PyProof.Rows L2
theorem iteY {c : Bool} {A B : Prop} (hc : c = true) (h : A) : if c = true then A else B := by
  rw [if_pos hc]
  exact h
theorem iteN {c : Bool} {A B : Prop} (hc : c = false) (h : B) : if c = true then A else B := by
  rw [hc, if_neg Bool.false_ne_true]
  exact h
/-! ### == of fractions -/
def datF (q : Rat) : PyData := .tuple [.int q.num, .int (q.den : Int)]
theorem shaped_datF (q : Rat) : SeqAt.shaped (datF q) = true := rfl
theorem eqv_datF (a b : Rat) : PyData.eqv (datF a) (datF b) = decide (a = b) := by
  show ((a.num == b.num) && (((a.den : Int) == (b.den : Int)) && true)) = decide (a = b)
  by_cases h : a = b
  · subst h
    simp
  · rw [decide_eq_false h, Bool.and_true]
    cases h1 : (a.num == b.num) with
    | false => rfl
    | true =>
      cases h2 : ((a.den : Int) == (b.den : Int)) with
      | false => rfl
      | true => exact absurd (rat_ext (by simpa using h1) (eq_of_beq h2)) h
theorem Fq.dp {K : PySem.W.Frag} {H : Hp} {v : V} {q : Rat} (h : Fq K H v q) : Dp K H v (datF q) := by
  obtain ⟨p, rfl, s⟩ := h
  exact .tup s (.cons (.int _) (.cons (.int _) .nil))
def rEqF (K : PySem.W.Frag) : R2 := fun x y H Q => ∃ a b : Rat, Fq K H x a ∧ Fq K H y b ∧ Q (.bl (decide (a = b))) H
def rNeF (K : PySem.W.Frag) : R2 := fun x y H Q => ∃ a b : Rat, Fq K H x a ∧ Fq K H y b ∧ Q (.bl (!decide (a = b))) H
section
variable {X : Cx}
theorem op_eqF (hu : X.A.units + 64 < cLine) : OpR X (compareOp .Eq) (rEqF X.K) := fun pins s σ H x y v u Q I rx ry ⟨a, b, ha, hb, q⟩ =>
  op_eqD hu pins s σ H x y v u Q I rx ry ⟨datF a, datF b, ha.dp, hb.dp, shaped_datF a, shaped_datF b, by rw [eqv_datF]; exact q⟩
theorem op_neF (hu : X.A.units + 64 < cLine) : OpR X (compareOp .NotEq) (rNeF X.K) := fun pins s σ H x y v u Q I rx ry ⟨a, b, ha, hb, q⟩ =>
  op_neD hu pins s σ H x y v u Q I rx ry ⟨datF a, datF b, ha.dp, hb.dp, shaped_datF a, shaped_datF b, by rw [eqv_datF]; exact q⟩
end
/-! ### words -/
theorem w_tt : decide (V.str ("to" : Str) = V.str "to") = true := decide_eq_true rfl
theorem w_ft : decide (V.str ("from" : Str) = V.str "to") = false := by decide +kernel
theorem w_rt : decide (V.str ("round" : Str) = V.str "to") = false := by decide +kernel
theorem w_ff : decide (V.str ("from" : Str) = V.str "from") = true := decide_eq_true rfl
theorem w_rf : decide (V.str ("round" : Str) = V.str "from") = false := by decide +kernel
def wayS : Way → Str
  | .half => "half"
  | .shut => "shut"
  | .opn => "open"
theorem way_open (w : Way) : (!decide (V.str (wayS w) = V.str "open")) = !decide (w = .opn) := by
  cases w <;> decide +kernel
theorem way_shut (w : Way) : decide (V.str (wayS w) = V.str "shut") = decide (w = .shut) := by
  cases w <;> decide +kernel
theorem ed_bd {q : Rat} (h : Ed q) : Bd 900 q := h.2.2.1.mono (by decide)
theorem nu_bd {q : Rat} (h : Nu q) : Bd 900 q := h.2.2.1.mono (by decide)
theorem bd0 : Bd 900 0 := bd_zero.mono (by decide)
theorem bd1 : Bd 900 1 := bd_one.mono (by decide)
section
variable {P : Program} {w : World} {K : PySem.W.Frag} {mg : Str → Option Value} {base : Heap} {f : Addr} {fd : FuncData} {H : Hp}
/-! ### rest_of -/
theorem scRest : FnScope ["side"] ["side"] (C8.fnScope stRest) := C8.fnScope_by (by decide +kernel)
def spRest (K : PySem.W.Frag) : Sp := fun vs H Q _ => ∃ (x : V) (s : Side), vs = [x] ∧ Sq K H x s ∧ ∀ v H', Same H H' → Sq K H' v (rest s) → Q v H'
theorem calRest {aONE : Addr} (F : C8.Def K mg "rest_of" stRest f fd) (b : Binds K fd ["side"] []) (mONE : mg "ONE" = some (.ref aONE)) (oONE : ∀ H, Fq K H (.ref aONE) 1) : C8.Cal P w K mg base 1 "rest_of" (spRest K) [] := by
  refine C8.cal0 F b .nil scRest (fun vs H Q E h => ?_) (fun cdv A outer s H vs Q E hr h => ?_)
  · obtain ⟨x, a, rfl, _⟩ := h
    rfl
  · obtain ⟨_, sd, rfl, hs, q⟩ := h
    refine ⟨_, (pss_cons (ps_if (pt_cmpR op_eq (pe_ix ix_tup (pv 0) pe_int (fun _ _ => rfl)) pe_str (nomark _)) (pss_one (ps_ret (pe_tup (pa_cons pe_str (pa_cons (pe_ix ix_tup (pv 0) pe_int (fun _ _ => rfl)) (pa_cons (pe_glob (v := .ref aONE) (by rfl) mONE rfl) pa_nil)))))) pss_nil)
      (pss_cons (ps_if (pt_cmpR op_eq (pe_ix ix_tup (pv 0) pe_int (fun _ _ => rfl)) pe_str (nomark _)) (pss_one (ps_ret (pe_tup (pa_cons pe_str (pa_cons (pe_ix ix_tup (pv 0) pe_int (fun _ _ => rfl)) (pa_cons (pe_ix ix_tup (pv 0) pe_int (fun _ _ => rfl)) pa_nil)))))) pss_nil)
      (pss_one (ps_ret (pe_tup (pa_cons pe_str (pa_cons (pe_ix ix_tup (pv 0) pe_int (fun _ _ => rfl)) (pa_cons (pe_ix ix_tup (pv 0) pe_int (fun _ _ => rfl)) pa_nil)))))))), ?_⟩
    cases sd with
    | to t =>
      obtain ⟨p, x, rfl, sp, hx⟩ := hs
      refine ⟨_, rfl, p, _, 0, _, rfl, rfl, sp, rfl, rfl, _, rfl, iteY w_tt ?_⟩
      refine ⟨_, rfl, p, _, 1, _, rfl, rfl, sp, rfl, (by show 3 ≤ sizeLine; decide), fun c nc => ?_⟩
      exact q _ _ (same_new nc) ⟨c, x, .ref aONE, rfl, .of upd_same, hx.same (same_new nc), oONE _⟩
    | fr a b =>
      obtain ⟨p, x, y, rfl, sp, hx, hy⟩ := hs
      refine ⟨_, rfl, p, _, 0, _, rfl, rfl, sp, rfl, rfl, _, rfl, iteN w_ft ?_⟩
      refine ⟨_, rfl, p, _, 0, _, rfl, rfl, sp, rfl, rfl, _, rfl, iteY w_ff ?_⟩
      refine ⟨_, rfl, p, _, 2, _, rfl, rfl, sp, rfl, _, rfl, p, _, 1, _, rfl, rfl, sp, rfl, (by show 3 ≤ sizeLine; decide), fun c nc => ?_⟩
      exact q _ _ (same_new nc) ⟨c, y, x, rfl, .of upd_same, hy.same (same_new nc), hx.same (same_new nc)⟩
    | rd a b =>
      obtain ⟨p, x, y, rfl, sp, hx, hy⟩ := hs
      refine ⟨_, rfl, p, _, 0, _, rfl, rfl, sp, rfl, rfl, _, rfl, iteN w_rt ?_⟩
      refine ⟨_, rfl, p, _, 0, _, rfl, rfl, sp, rfl, rfl, _, rfl, iteN w_rf ?_⟩
      refine ⟨_, rfl, p, _, 2, _, rfl, rfl, sp, rfl, _, rfl, p, _, 1, _, rfl, rfl, sp, rfl, (by show 3 ≤ sizeLine; decide), fun c nc => ?_⟩
      exact q _ _ (same_new nc) ⟨c, y, x, rfl, .of upd_same, hy.same (same_new nc), hx.same (same_new nc)⟩
/-! ### sizes -/
theorem scNought : FnScope ["one"] ["one"] (C8.fnScope stNought) := C8.fnScope_by (by decide +kernel)
theorem scSize : FnScope ["side", "found"] ["side"] (C8.fnScope stSize) := C8.fnScope_by (by decide +kernel)
theorem scSizeOf : FnScope ["box", "found", "side"] ["box"] (C8.fnScope stSizeOf) := C8.fnScope_by (by decide +kernel)
def spNought (K : PySem.W.Frag) : Sp := fun vs H Q _ => ∃ (x : V) (a : Rat), vs = [x] ∧ Fq K H x a ∧ Bd 900 a ∧ ∀ v, Fq K H v (nn a) → Q v H
theorem calNought {aNOUGHT : Addr} (F : C8.Def K mg "from_nought" stNought f fd) (b : Binds K fd ["one"] []) (mNOUGHT : mg "NOUGHT" = some (.ref aNOUGHT)) (oNOUGHT : ∀ H, Fq K H (.ref aNOUGHT) 0)
    (c_is_below : C8.Cal P w K mg base 1 "is_below" (spBelow K) []) : C8.Cal P w K mg base 2 "from_nought" (spNought K) [] := by
  refine C8.cal0 F b .nil scNought (fun vs H Q E h => ?_) (fun cdv A outer s H vs Q E hr h => ?_)
  · obtain ⟨x, a, rfl, _⟩ := h
    rfl
  · obtain ⟨x, a, rfl, hx, bx, q⟩ := h
    refine ⟨_, (pss_one (ps_ret (pe_ifExp (pt_val (C8.pe_c c_is_below hr (by decide) rfl (pa_cons (pv 0) (pa_cons (pe_glob (v := .ref aNOUGHT) (by rfl) mNOUGHT rfl) pa_nil)))) (pe_glob (v := .ref aNOUGHT) (by rfl) mNOUGHT rfl) (pv 0)))), ?_⟩
    refine ⟨_, rfl, x, .ref aNOUGHT, a, 0, rfl, hx, oNOUGHT H, bx, bd0, _, rfl, ite2 (fun hc => ?_) (fun hc => ?_)⟩
    · have e : nn a = 0 := if_pos (of_decide_eq_true hc)
      exact q _ (by rw [e]; exact oNOUGHT H)
    · have e : nn a = a := if_neg (of_decide_eq_false (Bool.eq_false_iff.mpr hc))
      exact ⟨_, rfl, q _ (by rw [e]; exact hx)⟩
def spSize (K : PySem.W.Frag) : Sp := fun vs H Q _ => ∃ (x : V) (s : Side), vs = [x] ∧ Sq K H x s ∧ s.ok ∧ ∀ v H', Same H H' → Fq K H' v (size s) → Q v H'
theorem calSize {aNOUGHT aONE : Addr} (F : C8.Def K mg "side_size" stSize f fd) (b : Binds K fd ["side"] []) (mNOUGHT : mg "NOUGHT" = some (.ref aNOUGHT)) (oNOUGHT : ∀ H, Fq K H (.ref aNOUGHT) 0)
    (mONE : mg "ONE" = some (.ref aONE)) (oONE : ∀ H, Fq K H (.ref aONE) 1)
    (c_is_below : C8.Cal P w K mg base 1 "is_below" (spBelow K) []) (c_from_nought : C8.Cal P w K mg base 2 "from_nought" (spNought K) []) (c_less : C8.Cal P w K mg base 3 "less" (spOp K fun a b => a - b) [])
    (c_plus : C8.Cal P w K mg base 3 "plus" (spOp K fun a b => a + b) []) : C8.Cal P w K mg base 4 "side_size" (spSize K) [] := by
  refine C8.cal0 F b .nil scSize (fun vs H Q E h => ?_) (fun cdv A outer s H vs Q E hr h => ?_)
  · obtain ⟨x, a, rfl, _⟩ := h
    rfl
  · obtain ⟨_, sd, rfl, hs, ok, q⟩ := h
    refine ⟨_, (pss_cons (ps_if (pt_cmpR op_eq (pe_ix ix_tup (pv 0) pe_int (fun _ _ => rfl)) pe_str (nomark _)) (pss_one (ps_ret (C8.pe_c c_from_nought hr (by decide) rfl (pa_cons (pe_ix ix_tup (pv 0) pe_int (fun _ _ => rfl)) pa_nil)))) pss_nil)
      (pss_cons (ps_set (i := 1) scSize.nd rfl (.inl rfl) (C8.pe_c c_less hr (by decide) rfl (pa_cons (C8.pe_c c_from_nought hr (by decide) rfl (pa_cons (pe_ix ix_tup (pv 0) pe_int (fun _ _ => rfl)) pa_nil)) (pa_cons (C8.pe_c c_from_nought hr (by decide) rfl (pa_cons (pe_ix ix_tup (pv 0) pe_int (fun _ _ => rfl)) pa_nil)) pa_nil))))
      (pss_cons (ps_if (pt_cmpR op_eq (pe_ix ix_tup (pv 0) pe_int (fun _ _ => rfl)) pe_str (nomark _)) (pss_one (ps_ret (C8.pe_c c_from_nought hr (by decide) rfl (pa_cons (pv 1) pa_nil)))) pss_nil)
      (pss_one (ps_ret (pe_ifExp (pt_val (C8.pe_c c_is_below hr (by decide) rfl (pa_cons (pe_glob (v := .ref aNOUGHT) (by rfl) mNOUGHT rfl) (pa_cons (pv 1) pa_nil)))) (pe_glob (v := .ref aONE) (by rfl) mONE rfl) (C8.pe_c c_plus hr (by decide) rfl (pa_cons (pe_glob (v := .ref aONE) (by rfl) mONE rfl) (pa_cons (pv 1) pa_nil))))))))), ?_⟩
    cases sd with
    | to t =>
      obtain ⟨p, x, rfl, sp, hx⟩ := hs
      refine ⟨_, rfl, p, _, 0, _, rfl, rfl, sp, rfl, rfl, _, rfl, iteY w_tt ?_⟩
      exact ⟨_, rfl, p, _, 1, _, rfl, rfl, sp, rfl, x, t, rfl, hx, ed_bd ok, fun v hv => q v _ (.refl _) hv⟩
    | fr a b =>
      obtain ⟨p, x, y, rfl, sp, hx, hy⟩ := hs
      refine ⟨_, rfl, p, _, 0, _, rfl, rfl, sp, rfl, rfl, _, rfl, iteN w_ft ?_⟩
      have bn : ∀ {z : Rat}, Ed z → Bd 41 (nn z) := fun h => nn_bd h.2.2.1 (by decide)
      have bd : Bd 900 (nn b - nn a) := ((bn ok.2).sub (bn ok.1)).mono (by decide)
      refine ⟨_, rfl, p, _, 2, _, rfl, rfl, sp, rfl, y, b, rfl, hy, ed_bd ok.2, fun v1 h1 => ?_⟩
      refine ⟨_, rfl, p, _, 1, _, rfl, rfl, sp, rfl, x, a, rfl, hx, ed_bd ok.1, fun v2 h2 => ?_⟩
      refine ⟨v1, v2, _, _, rfl, h1, h2, (bn ok.2).mono (by decide), (bn ok.1).mono (by decide), fun v3 H3 sm h3 => ?_⟩
      refine ⟨_, rfl, p, _, 0, _, rfl, rfl, (Tk.of sm).sq sp, rfl, rfl, _, rfl, iteY w_ff ?_⟩
      exact ⟨_, rfl, v3, _, rfl, h3, bd, fun v hv => q v _ sm hv⟩
    | rd a b =>
      obtain ⟨p, x, y, rfl, sp, hx, hy⟩ := hs
      refine ⟨_, rfl, p, _, 0, _, rfl, rfl, sp, rfl, rfl, _, rfl, iteN w_rt ?_⟩
      have bn : ∀ {z : Rat}, Ed z → Bd 41 (nn z) := fun h => nn_bd h.2.2.1 (by decide)
      have bd : Bd 900 (nn b - nn a) := ((bn ok.2).sub (bn ok.1)).mono (by decide)
      refine ⟨_, rfl, p, _, 2, _, rfl, rfl, sp, rfl, y, b, rfl, hy, ed_bd ok.2, fun v1 h1 => ?_⟩
      refine ⟨_, rfl, p, _, 1, _, rfl, rfl, sp, rfl, x, a, rfl, hx, ed_bd ok.1, fun v2 h2 => ?_⟩
      refine ⟨v1, v2, _, _, rfl, h1, h2, (bn ok.2).mono (by decide), (bn ok.1).mono (by decide), fun v3 H3 sm h3 => ?_⟩
      refine ⟨_, rfl, p, _, 0, _, rfl, rfl, (Tk.of sm).sq sp, rfl, rfl, _, rfl, iteN w_rf ?_⟩
      refine ⟨_, rfl, .ref aNOUGHT, v3, 0, _, rfl, oNOUGHT _, h3, bd0, bd, _, rfl, ite2 (fun hc => ?_) (fun hc => ?_)⟩
      · have e : size (.rd a b) = 1 := if_pos (of_decide_eq_true hc)
        exact q _ _ sm (by rw [e]; exact oONE _)
      · have e : size (.rd a b) = 1 + (nn b - nn a) := if_neg (of_decide_eq_false (Bool.eq_false_iff.mpr hc))
        exact ⟨_, rfl, _, v3, 1, _, rfl, oONE _, h3, bd1, bd, fun v4 H4 sm4 h4 => q _ _ (sm.trans sm4) (by rw [e]; exact h4)⟩
/-- a box of one side -/
def Bq (K : PySem.W.Frag) (H : Hp) (v : V) (s : Side) : Prop := ∃ p x, v = .ref p ∧ SqT K H p [x] ∧ Sq K H x s
theorem Bq.same {H' : Hp} {v : V} {s : Side} (t : Same H H') (h : Bq K H v s) : Bq K H' v s := by
  obtain ⟨p, x, e, a, b⟩ := h
  exact ⟨p, x, e, (Tk.of t).sq a, b.same t⟩
def spSizeOf (K : PySem.W.Frag) : Sp := fun vs H Q _ => ∃ (x : V) (s : Side), vs = [x] ∧ Bq K H x s ∧ s.ok ∧ ∀ v H', Same H H' → Fq K H' v (size s) → Q v H'
theorem calSizeOf {aONE : Addr} (F : C8.Def K mg "size_of" stSizeOf f fd) (b : Binds K fd ["box"] [])
    (mONE : mg "ONE" = some (.ref aONE)) (oONE : ∀ H, Fq K H (.ref aONE) 1)
    (c_times : C8.Cal P w K mg base 3 "times" (spOp K fun a b => a * b) []) (c_side_size : C8.Cal P w K mg base 4 "side_size" (spSize K) []) : C8.Cal P w K mg base 5 "size_of" (spSizeOf K) [] := by
  refine C8.cal0 F b .nil scSizeOf (fun vs H Q E h => ?_) (fun cdv A outer s H vs Q E hr h => ?_)
  · obtain ⟨x, a, rfl, _⟩ := h
    rfl
  · obtain ⟨_, sd, rfl, ⟨p, x, rfl, sp, hx⟩, ok, q⟩ := h
    refine ⟨_, (pss_cons (ps_set (i := 1) scSizeOf.nd rfl (.inl rfl) (pe_glob (v := .ref aONE) (by rfl) mONE rfl))
      (pss_cons (ps_for PassesOwn.never rfl (pi_tup (pv 0)) (pg_name (i := 2) scSizeOf.nd rfl (.inl rfl))
      (pss_one (ps_set (i := 1) scSizeOf.nd rfl (.inl rfl) (C8.pe_c c_times hr (by decide) rfl (pa_cons (pv 1) (pa_cons (C8.pe_c c_side_size hr (by decide) rfl (pa_cons (pv 2) pa_nil)) pa_nil))))))
      (pss_one (ps_ret (pv 1))))), ?_⟩
    refine ⟨_, rfl, p, rfl, ⟨_, sp⟩, for_tup (K := K) (a := p) (xs := [x]) (fun i σ H' => ∃ v u, σ = [some (.ref p), some v, u] ∧ Same H H' ∧ Fq K H' v (if i = 0 then 1 else size sd))
      ⟨_, _, rfl, .refl _, oONE _⟩ (fun i σ H' _ ⟨_, _, _, sm, _⟩ => (Tk.of sm).sq sp) ?_ ?_⟩
    · rintro i y σ H' hi ⟨v, u, rfl, sm, hv⟩
      have hy : i = 0 ∧ y = x := by
        cases i with
        | zero => exact ⟨rfl, (Option.some.inj hi).symm⟩
        | succ n => simp at hi
      obtain ⟨rfl, rfl⟩ := hy
      rw [if_pos rfl] at hv
      refine ⟨_, rfl, _, rfl, y, sd, rfl, hx.same sm, ok, fun v1 H1 sm1 h1 => ?_⟩
      refine ⟨v, v1, 1, _, rfl, hv.same sm1, h1, bd1, (size_bd ok).mono (by decide), fun v2 H2 sm2 h2 => ?_⟩
      have e : (1 : Rat) * size sd = size sd := Rat.one_mul _
      refine ⟨v2, _, rfl, (sm.trans sm1).trans sm2, ?_⟩
      rw [if_neg (by omega)]
      have h2' : Fq K H2 v2 (1 * size sd) := h2
      rw [e] at h2'
      exact h2'
    · rintro σ H' ⟨v, u, rfl, sm, hv⟩
      exact ⟨v, rfl, q v H' sm hv⟩
end
end K12

set_option Elab.async false
set_option linter.all false
set_option maxRecDepth 100000
set_option maxHeartbeats 4000000
/-! What lies in a side, in a box; the misses. -/
namespace K12
open PySem PySem.Spec PyProof.Rows L2
section
variable {P : Program} {w : World} {K : PySem.W.Frag} {mg : Str → Option Value} {base : Heap} {f : Addr} {fd : FuncData} {H : Hp}
theorem scBehind : FnScope ["x", "edge", "way"] ["x", "edge", "way"] (C8.fnScope stBehind) := C8.fnScope_by (by decide +kernel)
theorem scAhead : FnScope ["x", "edge", "way"] ["x", "edge", "way"] (C8.fnScope stAhead) := C8.fnScope_by (by decide +kernel)
theorem scLies : FnScope ["x", "side", "way"] ["x", "side", "way"] (C8.fnScope stLies) := C8.fnScope_by (by decide +kernel)
/-- of a number, an edge and a way -/
def spEW (K : PySem.W.Frag) (g : Rat → Rat → Way → Bool) : Sp := fun vs H Q _ => ∃ (x y : V) (a e : Rat) (v : Way), vs = [x, y, .str (wayS v)] ∧ Fq K H x a ∧ Fq K H y e ∧ Bd 900 a ∧ Bd 900 e ∧ Q (.bl (g a e v)) H
theorem calBehind (F : C8.Def K mg "is_behind" stBehind f fd) (b : Binds K fd ["x", "edge", "way"] []) (c_is_below : C8.Cal P w K mg base 1 "is_below" (spBelow K) []) : C8.Cal P w K mg base 2 "is_behind" (spEW K behind) [] := by
  refine C8.cal0 F b .nil scBehind (fun vs H Q E h => ?_) (fun cdv A outer s H vs Q E hr h => ?_)
  · obtain ⟨x, y, a, e, v, rfl, _⟩ := h
    rfl
  · obtain ⟨x, y, a, e, v, rfl, hx, hy, ba, be, q⟩ := h
    refine ⟨_, (pss_one (ps_ret (pe_or (C8.pe_c c_is_below hr (by decide) rfl (pa_cons (pv 1) (pa_cons (pv 0) pa_nil))) (pe_one (pe_and (pe_cmpR (op_eqF hr.units) (pv 0) (pv 1) (nomark _)) (pe_one (pe_cmpR op_ne (pv 2) pe_str (nomark _)))))))), ?_⟩
    refine ⟨_, rfl, _, rfl, y, x, e, a, rfl, hy, hx, be, ba, _, rfl, ite2 (fun hc => ?_) (fun hc => ?_)⟩
    · have e1 : behind a e v = true := by
        unfold behind
        rw [hc, Bool.true_or]
      rw [e1] at q
      exact q
    · have h1 : decide (e < a) = false := Bool.eq_false_iff.mpr hc
      refine ⟨_, rfl, _, rfl, a, e, hx, hy, _, rfl, ite2 (fun hd => ?_) (fun hd => ?_)⟩
      · have e1 : behind a e v = !decide (V.str (wayS v) = V.str "open") := by
          unfold behind
          rw [h1, hd, way_open, Bool.false_or, Bool.true_and]
        rw [e1] at q
        exact ⟨_, rfl, rfl, q⟩
      · have e1 : behind a e v = false := by
          unfold behind
          rw [h1, Bool.eq_false_iff.mpr hd, Bool.false_or, Bool.false_and]
        rw [e1] at q
        exact q
theorem calAhead (F : C8.Def K mg "is_ahead" stAhead f fd) (b : Binds K fd ["x", "edge", "way"] []) (c_is_below : C8.Cal P w K mg base 1 "is_below" (spBelow K) []) : C8.Cal P w K mg base 2 "is_ahead" (spEW K ahead) [] := by
  refine C8.cal0 F b .nil scAhead (fun vs H Q E h => ?_) (fun cdv A outer s H vs Q E hr h => ?_)
  · obtain ⟨x, y, a, e, v, rfl, _⟩ := h
    rfl
  · obtain ⟨x, y, a, e, v, rfl, hx, hy, ba, be, q⟩ := h
    refine ⟨_, (pss_one (ps_ret (pe_or (C8.pe_c c_is_below hr (by decide) rfl (pa_cons (pv 0) (pa_cons (pv 1) pa_nil))) (pe_one (pe_and (pe_cmpR (op_eqF hr.units) (pv 0) (pv 1) (nomark _)) (pe_one (pe_cmpR op_eq (pv 2) pe_str (nomark _)))))))), ?_⟩
    refine ⟨_, rfl, _, rfl, x, y, a, e, rfl, hx, hy, ba, be, _, rfl, ite2 (fun hc => ?_) (fun hc => ?_)⟩
    · have e1 : ahead a e v = true := by
        unfold ahead
        rw [hc, Bool.true_or]
      rw [e1] at q
      exact q
    · have h1 : decide (a < e) = false := Bool.eq_false_iff.mpr hc
      refine ⟨_, rfl, _, rfl, a, e, hx, hy, _, rfl, ite2 (fun hd => ?_) (fun hd => ?_)⟩
      · have e1 : ahead a e v = decide (V.str (wayS v) = V.str "shut") := by
          unfold ahead
          rw [h1, hd, way_shut, Bool.false_or, Bool.true_and]
        rw [e1] at q
        exact ⟨_, rfl, rfl, q⟩
      · have e1 : ahead a e v = false := by
          unfold ahead
          rw [h1, Bool.eq_false_iff.mpr hd, Bool.false_or, Bool.false_and]
        rw [e1] at q
        exact q
def spLies (K : PySem.W.Frag) : Sp := fun vs H Q _ => ∃ (x y : V) (a : Rat) (s : Side) (v : Way), vs = [x, y, .str (wayS v)] ∧ Fq K H x a ∧ Sq K H y s ∧ Bd 900 a ∧ s.ok ∧ Q (.bl (lie a s v)) H
theorem calLies (F : C8.Def K mg "lies" stLies f fd) (b : Binds K fd ["x", "side", "way"] []) (c_is_behind : C8.Cal P w K mg base 2 "is_behind" (spEW K behind) []) (c_is_ahead : C8.Cal P w K mg base 2 "is_ahead" (spEW K ahead) []) :
    C8.Cal P w K mg base 3 "lies" (spLies K) [] := by
  refine C8.cal0 F b .nil scLies (fun vs H Q E h => ?_) (fun cdv A outer s H vs Q E hr h => ?_)
  · obtain ⟨x, y, a, e, v, rfl, _⟩ := h
    rfl
  · obtain ⟨x, _, a, sd, v, rfl, hx, hs, ba, ok, q⟩ := h
    refine ⟨_, (pss_cons (ps_if (pt_cmpR op_eq (pe_ix ix_tup (pv 1) pe_int (fun _ _ => rfl)) pe_str (nomark _)) (pss_one (ps_ret (C8.pe_c c_is_ahead hr (by decide) rfl (pa_cons (pv 0) (pa_cons (pe_ix ix_tup (pv 1) pe_int (fun _ _ => rfl)) (pa_cons (pv 2) pa_nil)))))) pss_nil)
      (pss_cons (ps_if (pt_cmpR op_eq (pe_ix ix_tup (pv 1) pe_int (fun _ _ => rfl)) pe_str (nomark _)) (pss_one (ps_ret (pe_and (C8.pe_c c_is_behind hr (by decide) rfl (pa_cons (pv 0) (pa_cons (pe_ix ix_tup (pv 1) pe_int (fun _ _ => rfl)) (pa_cons (pv 2) pa_nil)))) (pe_one (C8.pe_c c_is_ahead hr (by decide) rfl (pa_cons (pv 0) (pa_cons (pe_ix ix_tup (pv 1) pe_int (fun _ _ => rfl)) (pa_cons (pv 2) pa_nil)))))))) pss_nil)
      (pss_one (ps_ret (pe_or (C8.pe_c c_is_behind hr (by decide) rfl (pa_cons (pv 0) (pa_cons (pe_ix ix_tup (pv 1) pe_int (fun _ _ => rfl)) (pa_cons (pv 2) pa_nil)))) (pe_one (C8.pe_c c_is_ahead hr (by decide) rfl (pa_cons (pv 0) (pa_cons (pe_ix ix_tup (pv 1) pe_int (fun _ _ => rfl)) (pa_cons (pv 2) pa_nil)))))))))), ?_⟩
    cases sd with
    | to t =>
      obtain ⟨p, y, rfl, sp, hy⟩ := hs
      refine ⟨_, rfl, p, _, 0, _, rfl, rfl, sp, rfl, rfl, _, rfl, iteY w_tt ?_⟩
      exact ⟨_, rfl, _, rfl, p, _, 1, _, rfl, rfl, sp, rfl, _, rfl, x, y, a, t, v, rfl, hx, hy, ba, ed_bd ok, q⟩
    | fr c d =>
      obtain ⟨p, y, z, rfl, sp, hy, hz⟩ := hs
      refine ⟨_, rfl, p, _, 0, _, rfl, rfl, sp, rfl, rfl, _, rfl, iteN w_ft ?_⟩
      refine ⟨_, rfl, p, _, 0, _, rfl, rfl, sp, rfl, rfl, _, rfl, iteY w_ff ?_⟩
      refine ⟨_, rfl, _, rfl, p, _, 1, _, rfl, rfl, sp, rfl, _, rfl, x, y, a, c, v, rfl, hx, hy, ba, ed_bd ok.1, _, rfl, ite2 (fun hc => ?_) (fun hc => ?_)⟩
      · have e1 : lie a (.fr c d) v = ahead a d v := by
          show (behind a c v && ahead a d v) = ahead a d v
          rw [hc, Bool.true_and]
        rw [e1] at q
        exact ⟨_, rfl, _, rfl, p, _, 2, _, rfl, rfl, sp, rfl, _, rfl, x, z, a, d, v, rfl, hx, hz, ba, ed_bd ok.2, q⟩
      · have e1 : lie a (.fr c d) v = false := by
          show (behind a c v && ahead a d v) = false
          rw [Bool.eq_false_iff.mpr hc, Bool.false_and]
        rw [e1] at q
        exact q
    | rd c d =>
      obtain ⟨p, y, z, rfl, sp, hy, hz⟩ := hs
      refine ⟨_, rfl, p, _, 0, _, rfl, rfl, sp, rfl, rfl, _, rfl, iteN w_rt ?_⟩
      refine ⟨_, rfl, p, _, 0, _, rfl, rfl, sp, rfl, rfl, _, rfl, iteN w_rf ?_⟩
      refine ⟨_, rfl, _, rfl, p, _, 1, _, rfl, rfl, sp, rfl, _, rfl, x, y, a, c, v, rfl, hx, hy, ba, ed_bd ok.1, _, rfl, ite2 (fun hc => ?_) (fun hc => ?_)⟩
      · have e1 : lie a (.rd c d) v = true := by
          show (behind a c v || ahead a d v) = true
          rw [hc, Bool.true_or]
        rw [e1] at q
        exact q
      · have e1 : lie a (.rd c d) v = ahead a d v := by
          show (behind a c v || ahead a d v) = ahead a d v
          rw [Bool.eq_false_iff.mpr hc, Bool.false_or]
        rw [e1] at q
        exact ⟨_, rfl, _, rfl, p, _, 2, _, rfl, rfl, sp, rfl, _, rfl, x, z, a, d, v, rfl, hx, hz, ba, ed_bd ok.2, q⟩
end
end K12

set_option Elab.async false
set_option linter.all false
set_option maxRecDepth 100000
set_option maxHeartbeats 4000000
/-! lies_in, inside, the misses. -/
namespace K12
open PySem PySem.Spec PyProof.Rows L2
/-- [.. for x, y in zip(t, u)], tuples of one thing each -/
theorem lc_zip1 {K : PySem.W.Frag} {a b : Addr} {x y : V} {g : TG} {tt : TT} {te : TE} {vs : List Nat} {σ : L2.St} {H1 : Hp} {D : Addr} {Qd : Hp → Prop} (hx : SqT K (upd H1 D (.lst [])) a [x]) (hy : SqT K (upd H1 D (.lst [])) b [y]) (Pv : Hp → Prop)
    (hs : ∀ T, upd H1 D (.lst []) T = none → g (.ref T) (wipe σ vs) (upd (upd H1 D (.lst [])) T (.tup [x, y])) fun σ2 H2 => wipe σ2 vs = wipe σ vs ∧ tt σ2 H2 fun c H3 =>
      if c = true then te σ2 H3 fun z H4 => ∃ acc, H4 D = some (.lst acc) ∧ acc.length < sizeLine ∧ Pv (upd H4 D (.lst (acc ++ [z]))) else Pv H3)
    (hp : ∀ H, Pv H → SqT K H a [x] ∧ SqT K H b [y]) (hd : ∀ H, Pv H → Qd H) :
    ∃ W : Nat → Nat → Hp → Prop, (∃ m, W 0 m (upd H1 D (.lst []))) ∧ ∀ i m H, W i m H →
      ((RZ.ItzT K a b).stop i H ∧ Qd H) ∨ ((RZ.ItzT K a b).go i H ∧ ∃ Nx : Hp → Prop, (∀ H', Nx H' → ∃ m', m' < m ∧ W (i + 1) m' H') ∧
        ∀ z H', (RZ.ItzT K a b).yld i H z H' → g z (wipe σ vs) H' fun σ2 H2 => wipe σ2 vs = wipe σ vs ∧ tt σ2 H2 fun c H3 =>
          if c = true then te σ2 H3 fun z H4 => ∃ acc, H4 D = some (.lst acc) ∧ acc.length < sizeLine ∧ Nx (upd H4 D (.lst (acc ++ [z]))) else Nx H3) := by
  refine ⟨fun i m H => (i = 0 ∧ m = 1 ∧ H = upd H1 D (.lst [])) ∨ (i = 1 ∧ m = 0 ∧ Pv H), ⟨1, .inl ⟨rfl, rfl, rfl⟩⟩, ?_⟩
  rintro i m H (⟨rfl, rfl, rfl⟩ | ⟨rfl, rfl, pv⟩)
  · refine .inr ⟨⟨_, _, _, _, hx, hy, rfl, rfl⟩, Pv, fun H' p' => ⟨0, Nat.zero_lt_one, .inr ⟨rfl, rfl, p'⟩⟩, ?_⟩
    rintro z H' ⟨T, x', y', rfl, hT, rfl, f1, f2⟩
    have e1 : x = x' := Option.some.inj (f1 _ hx)
    have e2 : y = y' := Option.some.inj (f2 _ hy)
    subst e1 e2
    exact hs T hT
  · obtain ⟨h1, h2⟩ := hp H pv
    exact .inl ⟨⟨_, _, h1, h2, .inl (Nat.le_refl 1)⟩, hd H pv⟩
section
variable {P : Program} {w : World} {K : PySem.W.Frag} {mg : Str → Option Value} {base : Heap} {f : Addr} {fd : FuncData} {H : Hp}
theorem scLiesIn : FnScope ["point", "box", "way", "x", "side"] ["point", "box", "way"] (C8.fnScope stLiesIn) := C8.fnScope_by (by decide +kernel)
theorem scInside : FnScope ["points", "box", "way", "point"] ["points", "box", "way"] (C8.fnScope stInside) := C8.fnScope_by (by decide +kernel)
def spLiesIn (K : PySem.W.Frag) : Sp := fun vs H Q _ => ∃ (x y : V) (a : Rat) (s : Side) (v : Way), vs = [x, y, .str (wayS v)] ∧ Pq K H x a ∧ Bq K H y s ∧ Bd 900 a ∧ s.ok ∧ ∀ H', Same H H' → Q (.bl (lie a s v)) H'
theorem calLiesIn (F : C8.Def K mg "lies_in" stLiesIn f fd) (b : Binds K fd ["point", "box", "way"] []) (M : Bt mg) (c_lies : C8.Cal P w K mg base 3 "lies" (spLies K) []) : C8.Cal P w K mg base 4 "lies_in" (spLiesIn K) [] := by
  refine C8.cal0 F b .nil scLiesIn (fun vs H Q E h => ?_) (fun cdv A outer s H vs Q E hr h => ?_)
  · obtain ⟨x, y, a, e, v, rfl, _⟩ := h
    rfl
  · obtain ⟨_, _, a, sd, v, rfl, ⟨p, x, rfl, sp, hx⟩, ⟨c, y, rfl, sc, hy⟩, ba, ok, q⟩ := h
    refine ⟨_, (pss_one (ps_ret (pe_callB (cr_all rfl) (by rfl) M.b_all (by decide +kernel) (pa_cons (pe_lc (own := [("x", 3), ("side", 4)]) (g := gTup K 2 (gCons (gName 3) (gCons (gName 4) gNil))) (tt := tYes) rfl scLiesIn.nd (RZ.pi_zipA (by rfl) M.b_zip (pa_cons (pv 0) (pa_cons (pv 1) pa_nil))) (blkOk_by (N := ["point", "box", "way", "x", "side"]) (sc := C8.fnScope stLiesIn) (by decide +kernel)) (fun _ _ _ _ _ => pg_tup rfl (pgs_cons (pg_name (i := 3) scLiesIn.nd rfl (Or.inl rfl)) (pgs_cons (pg_name (i := 4) scLiesIn.nd rfl (Or.inl rfl)) pgs_nil))) (fun _ _ _ _ _ => pts_nil) (fun _ _ _ _ _ => (C8.pe_c c_lies hr (by decide) rfl (pa_cons (pv 3) (pa_cons (pv 4) (pa_cons (pv 2) pa_nil)))))) pa_nil)))), ?_⟩
    refine ⟨_, rfl, _, rfl, p, c, [x], [y], rfl, .inr ⟨sp, sc, fun D hD => ?_⟩⟩
    have s1 : Same H (upd H D (.lst [])) := same_new hD
    refine lc_zip1 (x := x) (y := y) ((Tk.of s1).sq sp) ((Tk.of s1).sq sc) (fun H' => Same H H' ∧ H' D = some (.lst [.bl (lie a sd v)])) (fun T hT => ?_) (fun H' h => ⟨(Tk.of h.1).sq sp, (Tk.of h.1).sq sc⟩) (fun H' h => ?_)
    · have s2 : Same H (upd (upd H D (.lst [])) T (.tup [x, y])) := s1.trans (same_new hT)
      have nT : D ≠ T := ne_of_none (upd_same (H := H) (a := D)) hT
      refine ⟨T, _, rfl, .of upd_same, rfl, x, [y], rfl, y, [], rfl, rfl, rfl, ?_⟩
      refine ⟨_, rfl, _, rfl, _, rfl, x, y, a, sd, v, rfl, hx.same s2, hy.same s2, ba, ok, [], ?_, (by show 0 < sizeLine; decide), same_at s2 hD, upd_same⟩
      rw [upd_ne nT]
      exact upd_same
    · refine ⟨D, [lie a sd v], rfl, .of h.2, ?_⟩
      have e : [lie a sd v].all id = lie a sd v := by simp
      rw [e]
      exact q H' h.1
/-- points of one number stand at v -/
def Qs (K : PySem.W.Frag) (H : Hp) (v : V) (qs : List Rat) : Prop := ∃ p ps, v = .ref p ∧ SqT K H p ps ∧ PsOf K H ps qs
theorem Qs.same {H' : Hp} {v : V} {qs : List Rat} (t : Same H H') (h : Qs K H v qs) : Qs K H' v qs := by
  obtain ⟨p, ps, e, a, b⟩ := h
  exact ⟨p, ps, e, (Tk.of t).sq a, b.tk (.of t)⟩
def spInside (K : PySem.W.Frag) : Sp := fun vs H Q _ => ∃ (x y : V) (qs : List Rat) (s : Side) (v : Way), vs = [x, y, .str (wayS v)] ∧ Qs K H x qs ∧ Bq K H y s ∧ (∀ a ∈ qs, Nu a) ∧ qs.length ≤ 12 ∧ s.ok ∧ ∀ H', Same H H' → Q (.int (many qs s v : Nat)) H'
theorem many_succ {qs : List Rat} {i : Nat} {a : Rat} {s : Side} {v : Way} (h : qs[i]? = some a) : many (qs.take (i + 1)) s v = many (qs.take i) s v + (if lie a s v = true then 1 else 0) := by
  unfold many
  rw [List.take_add_one, h, List.countP_append]
  show _ + List.countP (fun x => lie x s v) [a] = _
  rw [List.countP_singleton]
theorem calInside (F : C8.Def K mg "inside" stInside f fd) (b : Binds K fd ["points", "box", "way"] []) (M : Bt mg) (c_lies_in : C8.Cal P w K mg base 4 "lies_in" (spLiesIn K) []) : C8.Cal P w K mg base 5 "inside" (spInside K) [] := by
  refine C8.cal0 F b .nil scInside (fun vs H Q E h => ?_) (fun cdv A outer s H vs Q E hr h => ?_)
  · obtain ⟨x, y, a, e, v, rfl, _⟩ := h
    rfl
  · obtain ⟨_, y, qs, sd, v, rfl, ⟨p, ps, rfl, sp, hp⟩, hy, nu, l12, ok, q⟩ := h
    refine ⟨_, (pss_one (ps_ret (pe_callB call_len_seq (by rfl) M.b_len (by decide +kernel) (pa_cons (pe_lc (own := [("point", 3)]) (g := gName 3) rfl scInside.nd (pi_tup (pv 0)) (blkOk_by (N := ["points", "box", "way", "point"]) (sc := C8.fnScope stInside) (by decide +kernel)) (fun _ _ _ _ _ => pg_name (i := 3) scInside.nd rfl (Or.inl rfl)) (fun _ _ _ _ _ => pts_one (pt_val (C8.pe_c c_lies_in hr (by decide) rfl (pa_cons (pv 3) (pa_cons (pv 1) (pa_cons (pv 2) pa_nil)))))) (fun _ _ _ _ _ => (pv 3))) pa_nil)))), ?_⟩
    have len : ps.length = qs.length := paired_len hp
    refine ⟨_, rfl, p, rfl, ⟨_, sp⟩, fun D hD => ?_⟩
    refine lc_tup (K := K) (a := p) (xs := ps) (fun i H' => Same H H' ∧ ∃ acc : List V, H' D = some (.lst acc) ∧ acc.length = many (qs.take i) sd v) ⟨same_new hD, [], upd_same, rfl⟩ (fun i H' _ h => (Tk.of h.1).sq sp) ?_ ?_
    · rintro i x H' hi ⟨sm, acc, ha, hl⟩
      obtain ⟨a, g1, g2⟩ := paired_get hp hi
      have hil : i < qs.length := (List.getElem?_eq_some_iff.mp g1).1
      refine ⟨rfl, _, rfl, _, rfl, _, rfl, x, y, a, sd, v, rfl, g2.tk (.of sm), hy.same sm, nu_bd (nu a (List.mem_of_getElem? g1)), ok, fun H2 sm2 => ⟨_, rfl, ite2 (fun hc => ?_) (fun hc => ?_)⟩⟩
      · have s3 : Same H H2 := sm.trans sm2
        have hD2 : H2 D = some (.lst acc) := sm2 _ _ ha
        refine ⟨_, rfl, acc, hD2, ?_, same_at s3 hD, _, upd_same, ?_⟩
        · have := many_le (qs.take i) sd v
          rw [List.length_take] at this
          exact small1000 (by omega)
        · rw [List.length_append, hl, many_succ g1, if_pos hc]
          rfl
      · refine ⟨sm.trans sm2, acc, sm2 _ _ ha, ?_⟩
        rw [hl, many_succ g1, if_neg hc]
        rfl
    · rintro H' ⟨sm, acc, ha, hl⟩
      refine ⟨D, acc, rfl, .inl (.of ha), ?_⟩
      rw [hl, len, List.take_length]
      exact q H' sm
/-! ### the misses -/
theorem scMiss : FnScope ["points", "box"] ["points", "box"] (C8.fnScope stMiss) := C8.fnScope_by (by decide +kernel)
theorem scOver : FnScope ["points", "box"] ["points", "box"] (C8.fnScope stOver) := C8.fnScope_by (by decide +kernel)
theorem scLack : FnScope ["points", "box"] ["points", "box"] (C8.fnScope stLack) := C8.fnScope_by (by decide +kernel)
def spVal (K : PySem.W.Frag) (g : List Rat → Side → Rat) : Sp := fun vs H Q _ => ∃ (x y : V) (qs : List Rat) (s : Side), vs = [x, y] ∧ Qs K H x qs ∧ Bq K H y s ∧ (∀ a ∈ qs, Nu a) ∧ 0 < qs.length ∧ qs.length ≤ 12 ∧ s.ok ∧
  ∀ v H', Same H H' → Fq K H' v (g qs s) → Q v H'
theorem calMiss (F : C8.Def K mg "miss_of" stMiss f fd) (b : Binds K fd ["points", "box"] []) (M : Bt mg) (c_inside : C8.Cal P w K mg base 5 "inside" (spInside K) []) (c_fraction : C8.Cal P w K mg base 2 "fraction" (spFrac K) [])
    (c_size_of : C8.Cal P w K mg base 5 "size_of" (spSizeOf K) []) (c_less : C8.Cal P w K mg base 3 "less" (spOp K fun a b => a - b) []) : C8.Cal P w K mg base 6 "miss_of" (spVal K miss) [] := by
  refine C8.cal0 F b .nil scMiss (fun vs H Q E h => ?_) (fun cdv A outer s H vs Q E hr h => ?_)
  · obtain ⟨x, y, a, e, rfl, _⟩ := h
    rfl
  · obtain ⟨_, y, qs, sd, rfl, ⟨p, ps, rfl, sp, hp⟩, hy, nu, l0, l12, ok, q⟩ := h
    refine ⟨_, (pss_one (ps_ret (C8.pe_c c_less hr (by decide) rfl (pa_cons (C8.pe_c c_fraction hr (by decide) rfl (pa_cons (C8.pe_c c_inside hr (by decide) rfl (pa_cons (pv 0) (pa_cons (pv 1) (pa_cons pe_str pa_nil)))) (pa_cons (pe_callB call_len_seq (by rfl) M.b_len (by decide +kernel) (pa_cons (pv 0) pa_nil)) pa_nil))) (pa_cons (C8.pe_c c_size_of hr (by decide) rfl (pa_cons (pv 1) pa_nil)) pa_nil))))), ?_⟩
    have len : ps.length = qs.length := paired_len hp
    refine ⟨_, rfl, _, rfl, .ref p, y, qs, sd, .half, rfl, ⟨p, ps, rfl, sp, hp⟩, hy, nu, l12, ok, fun H1 s1 => ?_⟩
    refine ⟨_, rfl, p, ps, rfl, .inr ((Tk.of s1).sq sp), _, _, rfl, by omega, ?_, fun v1 H2 s2 h1 => ?_⟩
    · have h4 : ((ps.length : Nat) : Int).natAbs < 2 ^ 4 := by
        show _ < 16
        omega
      exact up_bd h4 (by decide)
    · refine ⟨_, rfl, y, sd, rfl, (hy.same s1).same s2, ok, fun v2 H3 s3 h2 => ?_⟩
      rw [len] at h1
      exact ⟨v1, v2, _, _, rfl, h1.same s3, h2, (share_bd (many_le qs sd .half) l0 l12).mono (by decide), (size_bd ok).mono (by decide), fun v H4 s4 h => q v H4 (((s1.trans s2).trans s3).trans s4) h⟩
theorem calOver (F : C8.Def K mg "over_of" stOver f fd) (b : Binds K fd ["points", "box"] []) (M : Bt mg) (c_inside : C8.Cal P w K mg base 5 "inside" (spInside K) []) (c_fraction : C8.Cal P w K mg base 2 "fraction" (spFrac K) [])
    (c_size_of : C8.Cal P w K mg base 5 "size_of" (spSizeOf K) []) (c_less : C8.Cal P w K mg base 3 "less" (spOp K fun a b => a - b) []) : C8.Cal P w K mg base 6 "over_of" (spVal K overS) [] := by
  refine C8.cal0 F b .nil scOver (fun vs H Q E h => ?_) (fun cdv A outer s H vs Q E hr h => ?_)
  · obtain ⟨x, y, a, e, rfl, _⟩ := h
    rfl
  · obtain ⟨_, y, qs, sd, rfl, ⟨p, ps, rfl, sp, hp⟩, hy, nu, l0, l12, ok, q⟩ := h
    refine ⟨_, (pss_one (ps_ret (C8.pe_c c_less hr (by decide) rfl (pa_cons (C8.pe_c c_fraction hr (by decide) rfl (pa_cons (C8.pe_c c_inside hr (by decide) rfl (pa_cons (pv 0) (pa_cons (pv 1) (pa_cons pe_str pa_nil)))) (pa_cons (pe_callB call_len_seq (by rfl) M.b_len (by decide +kernel) (pa_cons (pv 0) pa_nil)) pa_nil))) (pa_cons (C8.pe_c c_size_of hr (by decide) rfl (pa_cons (pv 1) pa_nil)) pa_nil))))), ?_⟩
    have len : ps.length = qs.length := paired_len hp
    refine ⟨_, rfl, _, rfl, .ref p, y, qs, sd, .shut, rfl, ⟨p, ps, rfl, sp, hp⟩, hy, nu, l12, ok, fun H1 s1 => ?_⟩
    refine ⟨_, rfl, p, ps, rfl, .inr ((Tk.of s1).sq sp), _, _, rfl, by omega, ?_, fun v1 H2 s2 h1 => ?_⟩
    · have h4 : ((ps.length : Nat) : Int).natAbs < 2 ^ 4 := by
        show _ < 16
        omega
      exact up_bd h4 (by decide)
    · refine ⟨_, rfl, y, sd, rfl, (hy.same s1).same s2, ok, fun v2 H3 s3 h2 => ?_⟩
      rw [len] at h1
      exact ⟨v1, v2, _, _, rfl, h1.same s3, h2, (share_bd (many_le qs sd .shut) l0 l12).mono (by decide), (size_bd ok).mono (by decide), fun v H4 s4 h => q v H4 (((s1.trans s2).trans s3).trans s4) h⟩
theorem calLack (F : C8.Def K mg "lack_of" stLack f fd) (b : Binds K fd ["points", "box"] []) (M : Bt mg) (c_inside : C8.Cal P w K mg base 5 "inside" (spInside K) []) (c_fraction : C8.Cal P w K mg base 2 "fraction" (spFrac K) [])
    (c_size_of : C8.Cal P w K mg base 5 "size_of" (spSizeOf K) []) (c_less : C8.Cal P w K mg base 3 "less" (spOp K fun a b => a - b) []) : C8.Cal P w K mg base 6 "lack_of" (spVal K lackS) [] := by
  refine C8.cal0 F b .nil scLack (fun vs H Q E h => ?_) (fun cdv A outer s H vs Q E hr h => ?_)
  · obtain ⟨x, y, a, e, rfl, _⟩ := h
    rfl
  · obtain ⟨_, y, qs, sd, rfl, ⟨p, ps, rfl, sp, hp⟩, hy, nu, l0, l12, ok, q⟩ := h
    refine ⟨_, (pss_one (ps_ret (C8.pe_c c_less hr (by decide) rfl (pa_cons (C8.pe_c c_size_of hr (by decide) rfl (pa_cons (pv 1) pa_nil)) (pa_cons (C8.pe_c c_fraction hr (by decide) rfl (pa_cons (C8.pe_c c_inside hr (by decide) rfl (pa_cons (pv 0) (pa_cons (pv 1) (pa_cons pe_str pa_nil)))) (pa_cons (pe_callB call_len_seq (by rfl) M.b_len (by decide +kernel) (pa_cons (pv 0) pa_nil)) pa_nil))) pa_nil))))), ?_⟩
    have len : ps.length = qs.length := paired_len hp
    refine ⟨_, rfl, y, sd, rfl, hy, ok, fun v2 H1 s1 h2 => ?_⟩
    have hP : Qs K H1 (.ref p) qs := Qs.same s1 ⟨p, ps, rfl, sp, hp⟩
    refine ⟨_, rfl, _, rfl, .ref p, y, qs, sd, .opn, rfl, hP, hy.same s1, nu, l12, ok, fun H2 s2 => ?_⟩
    refine ⟨_, rfl, p, ps, rfl, .inr ((Tk.of (s1.trans s2)).sq sp), _, _, rfl, by omega, ?_, fun v1 H3 s3 h1 => ?_⟩
    · have h4 : ((ps.length : Nat) : Int).natAbs < 2 ^ 4 := by
        show _ < 16
        omega
      exact up_bd h4 (by decide)
    · rw [len] at h1
      exact ⟨v2, v1, _, _, rfl, (h2.same s2).same s3, h1, (size_bd ok).mono (by decide), (share_bd (many_le qs sd .opn) l0 l12).mono (by decide), fun v H4 s4 h => q v H4 (((s1.trans s2).trans s3).trans s4) h⟩
end
end K12

set_option Elab.async false
set_option linter.all false
set_option maxRecDepth 100000
set_option maxHeartbeats 4000000
/-! The law's reel: what is drawn from the script. -/
namespace K12
open PySem PySem.Spec PyProof.Rows L2
theorem cut_all {α : Type} {C : α → Prop} {G : Prop} (h : (∀ z, C z) → G) (k : ∀ z, C z) : G := h k
theorem iteB {A B : Prop} {c : Bool} (h1 : c = true → A) (h2 : c = false → B) : if c = true then A else B := by
  cases c with
  | true =>
    rw [if_pos rfl]
    exact h1 rfl
  | false =>
    rw [if_neg Bool.false_ne_true]
    exact h2 rfl
theorem cut_one {C G : Prop} (h : C → G) (k : C) : G := h k
/-! ### the reel's dict -/
def rl (c : Addr) (a l t : Int) : List (Key × V) := [(.inr "cells", .ref c), (.inr "at", .int a), (.inr "left", .int l), (.inr "turn", .int t)]
theorem n_ca : (("cells" : Str) = "at") = False := eq_false (by decide +kernel)
theorem n_cl : (("cells" : Str) = "left") = False := eq_false (by decide +kernel)
theorem n_ct : (("cells" : Str) = "turn") = False := eq_false (by decide +kernel)
theorem n_al : (("at" : Str) = "left") = False := eq_false (by decide +kernel)
theorem n_at : (("at" : Str) = "turn") = False := eq_false (by decide +kernel)
theorem n_lt : (("left" : Str) = "turn") = False := eq_false (by decide +kernel)
theorem n_la : (("left" : Str) = "at") = False := eq_false (by decide +kernel)
theorem n_ta : (("turn" : Str) = "at") = False := eq_false (by decide +kernel)
theorem n_tl : (("turn" : Str) = "left") = False := eq_false (by decide +kernel)
section
variable {c : Addr} {a l t : Int}
theorem g_cells : valV (rl c a l t) (.inr "cells") = some (.ref c) := by simp [rl, valV]
theorem g_at : valV (rl c a l t) (.inr "at") = some (.int a) := by simp [rl, valV, n_ca]
theorem g_left : valV (rl c a l t) (.inr "left") = some (.int l) := by simp [rl, valV, n_cl, n_al]
theorem g_turn : valV (rl c a l t) (.inr "turn") = some (.int t) := by simp [rl, valV, n_ct, n_at, n_lt]
theorem p_at {z : Int} : putK (rl c a l t) (.inr "at") (.int z) = rl c z l t := by simp [rl, putK, n_ca, n_la, n_ta]
theorem p_left {z : Int} : putK (rl c a l t) (.inr "left") (.int z) = rl c a z t := by simp [rl, putK, n_cl, n_al, n_tl]
theorem p_turn {z : Int} : putK (rl c a l t) (.inr "turn") (.int z) = rl c a l z := by simp [rl, putK, n_ct, n_at, n_lt]
theorem m_reel : mergeK [] [(.inr "cells", .ref c), (.inr "at", .int a), (.inr "left", .int l), (.inr "turn", .int t)] = rl c a l t := by
  simp [mergeK, putK, rl, n_ca, n_cl, n_ct, n_al, n_at, n_lt]
end
section
variable {H : Hp} {r c : Addr} {a l t : Int}
theorem dg_cells (h : H r = some (.dK (rl c a l t))) : DGet H r (.str "cells") (some (.ref c)) := by
  rw [← g_cells (c := c) (a := a) (l := l) (t := t)]
  exact DGet.k (k := Sum.inr "cells") h
theorem dg_at (h : H r = some (.dK (rl c a l t))) : DGet H r (.str "at") (some (.int a)) := by
  rw [← g_at (c := c) (a := a) (l := l) (t := t)]
  exact DGet.k (k := Sum.inr "at") h
theorem dg_left (h : H r = some (.dK (rl c a l t))) : DGet H r (.str "left") (some (.int l)) := by
  rw [← g_left (c := c) (a := a) (l := l) (t := t)]
  exact DGet.k (k := Sum.inr "left") h
theorem dg_turn (h : H r = some (.dK (rl c a l t))) : DGet H r (.str "turn") (some (.int t)) := by
  rw [← g_turn (c := c) (a := a) (l := l) (t := t)]
  exact DGet.k (k := Sum.inr "turn") h
theorem dp_at {z : Int} (h : H r = some (.dK (rl c a l t))) : DPut H r (.str "at") (.int z) (upd H r (.dK (rl c z l t))) := by
  rw [← p_at (a := a)]
  exact DPut.k (k := Sum.inr "at") h (by show 4 < sizeLine; decide)
theorem dp_left {z : Int} (h : H r = some (.dK (rl c a l t))) : DPut H r (.str "left") (.int z) (upd H r (.dK (rl c a z t))) := by
  rw [← p_left (l := l)]
  exact DPut.k (k := Sum.inr "left") h (by show 4 < sizeLine; decide)
theorem dp_turn {z : Int} (h : H r = some (.dK (rl c a l t))) : DPut H r (.str "turn") (.int z) (upd H r (.dK (rl c a l z))) := by
  rw [← p_turn (t := t)]
  exact DPut.k (k := Sum.inr "turn") h (by show 4 < sizeLine; decide)
end
/-- a reel stands at r -/
def Reel (H : Hp) (r c : Addr) (ns : List Int) : Prop := ∃ (a l t : Int), H r = some (.dK (rl c a l t)) ∧ H c = some (.lst (ns.map V.int)) ∧ ns.length ≤ 63
section
variable {H H' : Hp} {r c : Addr} {ns : List Int}
theorem Reel.same (s : Same H H') (h : Reel H r c ns) : Reel H' r c ns := by
  obtain ⟨a, l, t, h1, h2, h3⟩ := h
  exact ⟨a, l, t, s _ _ h1, s _ _ h2, h3⟩
theorem Reel.noTup (h : Reel H r c ns) : NoTup H r := by
  obtain ⟨a, l, t, h1, h2, h3⟩ := h
  exact .dK h1
theorem Reel.tk (h : Reel H r c ns) (s : Sb r H H') : Tk H H' := .sb s h.noTup
theorem Reel.nr {p : Addr} (h : Reel H r c ns) (n : H p = none) : p ≠ r := by
  obtain ⟨a, l, t, h1, h2, h3⟩ := h
  exact (ne_of_none h1 n).symm
theorem Reel.nc {p : Addr} (h : Reel H r c ns) (n : H p = none) : p ≠ c := by
  obtain ⟨a, l, t, h1, h2, h3⟩ := h
  exact (ne_of_none h2 n).symm
theorem Reel.lr {p : Addr} {xs : List V} (h : Reel H r c ns) (n : H p = some (.lst xs)) : p ≠ r := by
  obtain ⟨a, l, t, h1, h2, h3⟩ := h
  exact ne_of n h1 (by intro z; cases z)
theorem Reel.upd {p : Addr} {o : HO} (h : Reel H r c ns) (n : p ≠ r) (m : p ≠ c) : Reel (upd H p o) r c ns := by
  obtain ⟨a, l, t, h1, h2, h3⟩ := h
  refine ⟨a, l, t, ?_, ?_, h3⟩
  · rw [upd_ne n.symm]
    exact h1
  · rw [upd_ne m.symm]
    exact h2
end
/-! ### xs != [] -/
theorem shaped_list : ∀ {ds : List PyData}, (∀ d ∈ ds, d.canLay0 = true ∧ d.depth ≤ 60) → PyData.canLayAll0 ds = true ∧ PyData.depthAll ds ≤ 60
  | [], _ => ⟨rfl, Nat.zero_le _⟩
  | d :: ds, h => by
    obtain ⟨h1, h2⟩ := shaped_list fun e he => h e (List.mem_cons_of_mem _ he)
    obtain ⟨h3, h4⟩ := h d List.mem_cons_self
    constructor
    · show (PyData.canLay0 d && PyData.canLayAll0 ds) = true
      rw [h1, h3] <;> rfl
    · show max (PyData.depth d) (PyData.depthAll ds) ≤ 60
      omega
theorem shaped_lst {ds : List PyData} (h : ∀ d ∈ ds, d.canLay0 = true ∧ d.depth ≤ 60) : SeqAt.shaped (.list ds) = true := by
  obtain ⟨h1, h2⟩ := shaped_list h
  show (PyData.canLayAll0 ds && decide (PyData.depthAll ds + 1 ≤ 64)) = true
  rw [h1, decide_eq_true (by omega)] <;> rfl
def rNeNil (K : PySem.W.Frag) : R2 := fun x y H Q => ∃ (p e : Addr) (xs : List V) (ds : List PyData), x = .ref p ∧ y = .ref e ∧ SqL K H p xs ∧ H e = some (.lst []) ∧ DpAll K H xs ds ∧ (∀ d ∈ ds, d.canLay0 = true ∧ d.depth ≤ 60) ∧ Q (.bl (!xs.isEmpty)) H
theorem eqv_nil (ds : List PyData) : PyData.eqv (.list ds) (.list []) = ds.isEmpty := by
  cases ds <;> rfl
theorem dpAll_nil {K : PySem.W.Frag} {H : Hp} {xs : List V} {ds : List PyData} (h : DpAll K H xs ds) : xs.isEmpty = ds.isEmpty := by
  cases h <;> rfl
section
variable {X : Cx}
theorem op_neNil (hu : X.A.units + 64 < cLine) : OpR X (compareOp .NotEq) (rNeNil X.K) := fun pins s σ H x y v u Q I rx ry ⟨p, e, xs, ds, ex, ey, hx, he, hd, hs, q⟩ => by
  subst ex ey
  refine op_neD hu pins s σ H _ _ v u Q I rx ry ⟨.list ds, .list [], .lst hx hd, .lst (.of he) .nil, shaped_lst hs, rfl, ?_⟩
  rw [eqv_nil, ← dpAll_nil hd]
  exact q
end
theorem dpAll_ints {K : PySem.W.Frag} {H : Hp} : ∀ ns : List Int, DpAll K H (ns.map V.int) (ns.map PyData.int)
  | [] => .nil
  | n :: ns => .cons (.int n) (dpAll_ints ns)
theorem ints_flat (ns : List Int) : ∀ d ∈ ns.map PyData.int, d.canLay0 = true ∧ d.depth ≤ 60 := by
  intro d hd
  obtain ⟨n, _, rfl⟩ := List.mem_map.mp hd
  exact ⟨rfl, Nat.zero_le _⟩
section
variable {P : Program} {w : World} {K : PySem.W.Frag} {mg : Str → Option Value} {base : Heap} {f : Addr} {fd : FuncData} {H : Hp}
theorem scReel : FnScope ["_law_script"] ["_law_script"] (C8.fnScope stReel) := C8.fnScope_by (by decide +kernel)
theorem scPick : FnScope ["_law_reel_here", "_law_many", "_law_found", "_law_cells", "_law_cell", "_law_mixed"] ["_law_reel_here", "_law_many"] (C8.fnScope stPick) := C8.fnScope_by (by decide +kernel)
def spReel (K : PySem.W.Frag) : Sp := fun vs H Q _ => ∃ (a : Addr) (ns : List Int), vs = [.ref a] ∧ SqL K H a (ns.map V.int) ∧ ns.length ≤ 63 ∧ ∀ r c H', Reel H' r c ns → Q (.ref r) H'
theorem cut63 {xs : List V} (h : xs.length ≤ 63) : cutV xs none (some 63) = xs := by
  unfold cutV
  rw [HT.sIx_none, show HT.sIx xs.length xs.length (some 63) = min 63 xs.length from HT.sIx_nat xs.length xs.length 63, List.drop_zero]
  rw [show min 63 xs.length - 0 = xs.length by omega]
  exact List.take_length
theorem calReel (F : C8.Def K mg "_law_reel" stReel f fd) (b : Binds K fd ["_law_script"] []) : C8.Cal P w K mg base 1 "_law_reel" (spReel K) [] := by
  refine C8.cal0 F b .nil scReel (fun vs H Q E h => ?_) (fun cdv A outer s H vs Q E hr h => ?_)
  · obtain ⟨a, ns, rfl, _⟩ := h
    rfl
  · obtain ⟨a, ns, rfl, hs, l63, q⟩ := h
    refine ⟨_, (pss_one (ps_ret (pe_disp (pps_cons pe_str (pe_slice sl_list (pv 0) po_none (po_some pe_int)) (pps_cons pe_str pe_int (pps_cons pe_str pe_int (pps_cons pe_str pe_int pps_nil)))) (by rfl) (by rfl) (fun z => by cases z) (by decide)))), ?_⟩
    have hl : (ns.map V.int).length ≤ 63 := by rwa [List.length_map]
    intro r nr
    have s1 : Same H (upd H r (.dK [])) := same_new nr
    refine ⟨_, rfl, 63, rfl, a, _, rfl, s1.seq hs, fun c nc => ?_⟩
    have nrc : r ≠ c := ne_of_none (upd_same (H := H) (a := r)) nc
    have e1 : upd (upd H r (.dK [])) c (.lst (cutV (ns.map V.int) none (some 63))) r = some (.dK []) := by
      rw [upd_ne nrc]
      exact upd_same
    refine ⟨e1, [(.inr "cells", .ref c), (.inr "at", .int 0), (.inr "left", .int 0), (.inr "turn", .int 0)], rfl, (by show 4 ≤ 15; decide), ?_⟩
    refine q r c _ ⟨0, 0, 0, ?_, ?_, l63⟩
    · rw [upd_same, m_reel]
    · rw [upd_ne nrc.symm, upd_same, cut63 hl]
def spPick : Sp := fun vs H Q _ => ∃ (r c : Addr) (ns : List Int) (m : Int), vs = [.ref r, .int m] ∧ Reel H r c ns ∧ 1 ≤ m ∧ m ≤ 1000000 ∧ ∀ (z : Int) H', 0 ≤ z → z < m → Reel H' r c ns → Sb r H H' → Q (.int z) H'
theorem div_ok {m : Int} (h1 : 1 ≤ m) (h2 : m ≤ 1000000) {i : Int} : CDivW i m := wide_div (b := 20) (by omega) (by show _ < 1048576; omega) (by decide) (by decide)
/-- a list's item at a rest -/
theorem at_rest {ns : List Int} (h : ns ≠ []) (a : Int) : ∃ z, atI (ns.map V.int) (a % (((ns.map V.int).length : Nat) : Int)) = some (.int z) := by
  have h0 : 0 < ns.length := List.length_pos_iff.mpr h
  rw [List.length_map]
  have h1 := Int.emod_nonneg a (show (ns.length : Int) ≠ 0 by omega)
  have h2 := Int.emod_lt_of_pos a (show (0 : Int) < (ns.length : Int) by omega)
  obtain ⟨k, hk⟩ : ∃ k : Nat, a % (ns.length : Int) = (k : Int) := ⟨(a % (ns.length : Int)).toNat, by omega⟩
  have hk2 : k < ns.length := by omega
  refine ⟨ns[k], ?_⟩
  rw [hk]
  refine atI_nat ?_
  rw [List.getElem?_map, List.getElem?_eq_getElem hk2]
  rfl
theorem calPick (F : C8.Def K mg "_law_pick" stPick f fd) (b : Binds K fd ["_law_reel_here", "_law_many"] []) (M : Bt mg) : C8.Cal P w K mg base 1 "_law_pick" spPick [] := by
  refine C8.cal0 F b .nil scPick (fun vs H Q E h => ?_) (fun cdv A outer s H vs Q E hr h => ?_)
  · obtain ⟨r, c, ns, m, rfl, _⟩ := h
    rfl
  · obtain ⟨r, c, ns, m, rfl, ⟨a, l, t, h1, h2, l63⟩, m1, m2, q⟩ := h
    refine ⟨_, (pss_cons (ps_dput (hu_of hr) (pv 0) pe_str (pe_op op_add (pe_dget (hu_of hr) (pv 0) pe_str (fun _ _ => rfl)) pe_int) rfl)
      (pss_cons (ps_if (pt_cmpR op_gt (pe_dget (hu_of hr) (pv 0) pe_str (fun _ _ => rfl)) pe_int (nomark _)) (pss_cons (ps_set (i := 2) scPick.nd rfl (.inl rfl) (pe_op op_mod (pe_dget (hu_of hr) (pv 0) pe_str (fun _ _ => rfl)) (pv 1)))
      (pss_cons (ps_dput (hu_of hr) (pv 0) pe_str (pe_op op_fdivW (pe_dget (hu_of hr) (pv 0) pe_str (fun _ _ => rfl)) (pv 1)) rfl)
      (pss_one (ps_ret (pv 2))))) pss_nil)
      (pss_cons (ps_set (i := 3) scPick.nd rfl (.inl rfl) (pe_dget (hu_of hr) (pv 0) pe_str (fun _ _ => rfl)))
      (pss_cons (ps_set (i := 4) scPick.nd rfl (.inl rfl) (pe_ifExp (pt_cmpR (op_neNil hr.units) (pv 3) (pe_lst pa_nil) (nomark _)) (pe_ix ix_list (pv 3) (pe_op op_mod (pe_dget (hu_of hr) (pv 0) pe_str (fun _ _ => rfl)) (pe_callB call_len_seq (by rfl) M.b_len (by decide +kernel) (pa_cons (pv 3) pa_nil))) (fun _ _ => rfl)) pe_int))
      (pss_cons (ps_dput (hu_of hr) (pv 0) pe_str (pe_op op_add (pe_dget (hu_of hr) (pv 0) pe_str (fun _ _ => rfl)) pe_int) rfl)
      (pss_cons (ps_if (PW.pt (pw_and (pt_cmpR op_ge (pv 4) (pe_op op_pow pe_int pe_int) (nomark _)) (pw_and1 (pt_cmpR op_le (pe_dget (hu_of hr) (pv 0) pe_str (fun _ _ => rfl)) (pe_callB call_len_seq (by rfl) M.b_len (by decide +kernel) (pa_cons (pv 3) pa_nil)) (nomark _))))) (pss_cons (ps_dput (hu_of hr) (pv 0) pe_str (pe_op op_fdivW (pv 4) (pv 1)) rfl)
      (pss_one (ps_ret (pe_op op_mod (pv 4) (pv 1))))) pss_nil)
      (pss_cons (ps_set (i := 5) scPick.nd rfl (.inl rfl) (pe_op op_mod (pe_op op_mul (pe_op op_add (pe_op op_mod (pv 4) pe_int) (pe_op op_mul pe_int (pe_dget (hu_of hr) (pv 0) pe_str (fun _ _ => rfl)))) pe_int) pe_int))
      (pss_cons (ps_set (i := 5) scPick.nd rfl (.inl rfl) (pe_op op_mod (pe_op op_add (pe_op op_mul (pv 5) (pv 5)) (pe_op op_mul pe_int (pe_dget (hu_of hr) (pv 0) pe_str (fun _ _ => rfl)))) pe_int))
      (pss_one (ps_ret (pe_op op_mod (pe_op op_fdivW (pe_op op_mod (pe_op op_mul (pv 5) pe_int) pe_int) pe_int) (pv 1)))))))))))), ?_⟩
    have hm : (0 : Int) < m := by omega
    have hm0 : m ≠ 0 := by omega
    have ncr : c ≠ r := ne_of h2 h1 (by intro z; cases z)
    -- turn + 1
    refine ⟨_, rfl, r, _, rfl, dg_turn h1, _, _, rfl, rfl, _, rfl, r, _, rfl, dp_turn h1, ?_⟩
    have b1 : Sb r H (upd H r (.dK (rl c a l (t + 1)))) := sb_upd
    have h11 : upd H r (.dK (rl c a l (t + 1))) r = some (.dK (rl c a l (t + 1))) := upd_same
    have h21 := b1 _ _ ncr h2
    generalize upd H r (.dK (rl c a l (t + 1))) = H1 at b1 h11 h21 ⊢
    -- if left > 0
    refine ⟨_, rfl, r, _, rfl, dg_left h11, _, _, rfl, rfl, _, rfl, ite2 (fun hc => ?_) (fun hc => ?_)⟩
    · refine ⟨_, rfl, r, _, rfl, dg_left h11, _, rfl, _, _, rfl, rfl, hm, ?_⟩
      refine ⟨_, rfl, r, _, rfl, dg_left h11, _, rfl, _, _, rfl, rfl, div_ok m1 m2, _, rfl, r, _, rfl, dp_left h11, ?_⟩
      refine ⟨_, rfl, q _ _ (Int.emod_nonneg _ hm0) (Int.emod_lt_of_pos _ hm) ⟨a, _, _, upd_same, ?_, l63⟩ (b1.trans sb_upd)⟩
      rw [upd_ne ncr]
      exact h21
    · -- cells, cell
      refine ⟨_, rfl, r, _, rfl, dg_cells h11, ?_⟩
      refine ⟨_, rfl, Nat.zero_le _, fun e ne => ?_⟩
      have s2 : Same H1 (upd H1 e (.lst [])) := same_new ne
      refine ⟨c, e, _, _, rfl, rfl, .of (s2 _ _ h21), upd_same, dpAll_ints ns, ints_flat ns, _, rfl, ?_⟩
      have h12 := s2 _ _ h11
      have h22 := s2 _ _ h21
      have b2 : Sb r H (upd H1 e (.lst [])) := b1.trans (.of s2)
      generalize upd H1 e (.lst []) = H2 at h12 h22 b2 ⊢
      -- behind the cell
      refine cut_all (α := Int) (C := ?C) (fun go => ?main) ?tail
      case main =>
        refine iteB (fun hc => ?_) (fun hc => ?_)
        · have hne : ns ≠ [] := fun z => by
            subst z
            exact absurd hc (by decide)
          obtain ⟨z, hz⟩ := at_rest hne a
          refine ⟨_, rfl, _, rfl, r, _, rfl, dg_at h12, _, rfl, c, _, rfl, .inl (.of h22), _, _, rfl, rfl, ?_, c, _, _, _, rfl, rfl, .of h22, hz, ?_⟩
          · show (0 : Int) < (((ns.map V.int).length : Nat) : Int)
            have := List.length_pos_iff.mpr hne
            rw [List.length_map]
            omega
          · exact go z
        · exact go 3
      case tail =>
        intro z
        refine ⟨_, rfl, r, _, rfl, dg_at h12, _, _, rfl, rfl, _, rfl, r, _, rfl, dp_at h12, ?_⟩
        have h13 : upd H2 r (.dK (rl c (a + 1) l (t + 1))) r = some (.dK (rl c (a + 1) l (t + 1))) := upd_same
        have b3 : Sb r H (upd H2 r (.dK (rl c (a + 1) l (t + 1)))) := b2.trans sb_upd
        have h23 : upd H2 r (.dK (rl c (a + 1) l (t + 1))) c = some (.lst (ns.map V.int)) := by
          rw [upd_ne ncr]
          exact h22
        generalize upd H2 r (.dK (rl c (a + 1) l (t + 1))) = H3 at h13 h23 b3 ⊢
        refine cut_one (C := ?D) (fun go => ?main) ?tail
        case main =>
          refine ⟨_, rfl, _, _, rfl, rfl, ⟨by decide, by decide, by decide⟩, _, _, rfl, rfl, _, rfl, ite2 (fun hc => ?_) (fun hc => ?_)⟩
          · refine ⟨_, rfl, r, _, rfl, dg_at h13, _, rfl, c, _, rfl, .inl (.of h23), _, _, rfl, rfl, _, rfl, ite2 (fun hd => ?_) (fun hd => ?_)⟩
            · refine ⟨_, rfl, _, rfl, _, _, rfl, rfl, div_ok m1 m2, _, rfl, r, _, rfl, dp_left h13, ?_⟩
              refine ⟨_, rfl, _, rfl, _, _, rfl, rfl, hm, q _ _ (Int.emod_nonneg _ hm0) (Int.emod_lt_of_pos _ hm) ⟨_, _, _, upd_same, ?_, l63⟩ (b3.trans sb_upd)⟩
              rw [upd_ne ncr]
              exact h23
            · exact go
          · exact go
        case tail =>
          refine ⟨_, rfl, _, _, rfl, rfl, (by show (0 : Int) < 1000000007; decide), _, rfl, r, _, rfl, dg_turn h13, _, _, rfl, rfl, .inl ⟨by decide, by decide⟩, _, _, rfl, rfl, _, _, rfl, rfl, .inr ⟨by decide, by decide⟩, _, _, rfl, rfl, (by show (0 : Int) < 2147483647; decide), ?_⟩
          have k1 := Int.emod_nonneg ((z % 1000000007 + 7919 * (t + 1)) * 48271) (show (2147483647 : Int) ≠ 0 by decide)
          have k2 := Int.emod_lt_of_pos ((z % 1000000007 + 7919 * (t + 1)) * 48271) (show (0 : Int) < 2147483647 by decide)
          refine ⟨_, rfl, _, rfl, _, _, rfl, rfl, .inl ⟨by omega, by omega⟩, _, rfl, r, _, rfl, dg_turn h13, _, _, rfl, rfl, .inl ⟨by decide, by decide⟩, _, _, rfl, rfl, _, _, rfl, rfl, (by show (0 : Int) < 2147483629; decide), ?_⟩
          refine ⟨_, rfl, _, _, rfl, rfl, .inr ⟨by decide, by decide⟩, _, _, rfl, rfl, (by show (0 : Int) < 2147483587; decide), _, _, rfl, rfl, wide_div (b := 8) (by decide) (by decide) (by decide) (by decide), _, rfl, _, _, rfl, rfl, hm, ?_⟩
          exact q _ _ (Int.emod_nonneg _ hm0) (Int.emod_lt_of_pos _ hm) ⟨_, _, _, h13, h23, l63⟩ b3
end
end K12

set_option Elab.async false
set_option linter.all false
set_option maxRecDepth 100000
set_option maxHeartbeats 4000000
/-! What the law draws: numbers, points, edges, sides. -/
namespace K12
open PySem PySem.Spec PyProof.Rows L2
theorem nu_div {t b : Int} (h0 : 0 ≤ t) (h1 : t < b) (hb : b < 1000000000000) : Nu (Rat.divInt t b) := by
  have b0 : 0 < b := by omega
  have g0 : (0 : Int) < ((Int.gcd t b : Nat) : Int) := by
    have := Int.gcd_pos_of_ne_zero_right t (show b ≠ 0 by omega)
    omega
  have e1 : t / ((Int.gcd t b : Nat) : Int) * ((Int.gcd t b : Nat) : Int) = t := Int.ediv_mul_cancel (Int.gcd_dvd_left t b)
  have e2 : b / ((Int.gcd t b : Nat) : Int) * ((Int.gcd t b : Nat) : Int) = b := Int.ediv_mul_cancel (Int.gcd_dvd_right t b)
  have n1 := div_num (t := t) b0
  have n2 := div_den (t := t) b0
  refine nu_mk (Rat.divInt_nonneg h0 (by omega)) ?_ ?_
  · rw [Rat.lt_iff]
    have e3 : (1 : Rat).num = 1 := rfl
    have e4 : (1 : Rat).den = 1 := rfl
    rw [e3, e4, n1, n2]
    refine Int.lt_of_not_ge fun hc => ?_
    have h2 : b / ((Int.gcd t b : Nat) : Int) ≤ t / ((Int.gcd t b : Nat) : Int) := by omega
    have h3 := Int.mul_le_mul_of_nonneg_right h2 (show (0 : Int) ≤ ((Int.gcd t b : Nat) : Int) by omega)
    rw [e1, e2] at h3
    omega
  · have h1 : b / ((Int.gcd t b : Nat) : Int) ≤ b := Int.ediv_le_self _ (by omega)
    omega
/-- an item of a written list -/
theorem at_of_seven {bs : List Int} {z : Int} (h0 : 0 ≤ z) (h1 : z < (bs.length : Int)) : ∃ b ∈ bs, atI (bs.map V.int) z = some (.int b) := by
  obtain ⟨k, rfl⟩ : ∃ k : Nat, z = (k : Int) := ⟨z.toNat, by omega⟩
  have hk : k < bs.length := by omega
  refine ⟨bs[k], List.getElem_mem hk, atI_nat ?_⟩
  rw [List.getElem?_map, List.getElem?_eq_getElem hk]
  rfl
/-- an item of a list, by its place -/
theorem at_paired {F : V → Rat → Prop} {xs : List V} {qs : List Rat} {z : Int} (h : Paired F xs qs) (h0 : 0 ≤ z) (h1 : z < (xs.length : Int)) : ∃ x q, atI xs z = some x ∧ F x q ∧ q ∈ qs := by
  obtain ⟨k, rfl⟩ : ∃ k : Nat, z = (k : Int) := ⟨z.toNat, by omega⟩
  have hk : k < xs.length := by omega
  obtain ⟨q, g1, g2⟩ := paired_get h (List.getElem?_eq_getElem hk)
  exact ⟨xs[k], q, atI_nat (List.getElem?_eq_getElem hk), g2, List.mem_of_getElem? g1⟩
section
variable {P : Program} {w : World} {K : PySem.W.Frag} {mg : Str → Option Value} {base : Heap} {f : Addr} {fd : FuncData} {H : Hp}
/-! ### _law_made -/
theorem scMade : FnScope ["_law_top", "_law_bottom", "_law_one", "_law_other", "_law_by"] ["_law_top", "_law_bottom"] (C8.fnScope stMade) := C8.fnScope_by (by decide +kernel)
theorem calMade (F : C8.Def K mg "_law_made" stMade f fd) (b : Binds K fd ["_law_top", "_law_bottom"] []) (M : Bt mg) : C8.Cal P w K mg base 1 "_law_made" (spFrac K) [] := by
  refine C8.cal0 F b .nil scMade (fun vs H Q E h => ?_) (fun cdv A outer s H vs Q E hr h => ?_)
  · obtain ⟨t, n, rfl, _⟩ := h
    rfl
  · obtain ⟨t, n, rfl, h0, hz, q⟩ := h
    refine ⟨_, (pss_cons (ps_par (i := 2) (j := 3) rfl scMade.nd rfl rfl (by decide) rfl rfl (pa_cons (pe_callB call_abs (by rfl) M.b_abs (by decide +kernel) (pa_cons (pv 0) pa_nil)) (pa_cons (pe_callB call_abs (by rfl) M.b_abs (by decide +kernel) (pa_cons (pv 1) pa_nil)) pa_nil)) (by rfl))
      (pss_cons (ps_while PassesOwn.never (pt_cmpR op_gt (pv 3) pe_int (nomark _)) (pss_one (ps_par (i := 2) (j := 3) rfl scMade.nd rfl rfl (by decide) rfl rfl (pa_cons (pv 3) (pa_cons (pe_op op_mod (pv 2) (pv 3)) pa_nil)) (by rfl))))
      (pss_cons (ps_set (i := 4) scMade.nd rfl (.inl rfl) (pe_ifExp (pt_cmpR op_gt (pv 1) pe_int (nomark _)) (pv 2) (pe_un un_neg (pv 2))))
      (pss_one (ps_ret (pe_tup (pa_cons (pe_op op_fdivW (pv 0) (pv 4)) (pa_cons (pe_op op_fdivW (pv 1) (pv 4)) pa_nil)))))))), ?_⟩
    have g0 : (0 : Int) < ((Int.gcd t n : Nat) : Int) := by
      have := Int.gcd_pos_of_ne_zero_right t (show n ≠ 0 by omega)
      omega
    have g1 : (((Int.gcd t n : Nat) : Int)).natAbs < 2 ^ 2000 := by
      have h1 : (Int.gcd t n : Nat) ≤ n.natAbs := Int.gcd_le_natAbs_right t (show n ≠ 0 by omega)
      omega
    refine ⟨_, rfl, t, rfl, _, rfl, n, rfl, _, _, rfl, ?_⟩
    refine while_by (fun σ H' => H' = H ∧ ∃ a c : Nat, σ = [some (.int t), some (.int n), some (.int a), some (.int c), none] ∧ Nat.gcd a c = Int.gcd t n) (fun σ _ => match σ with
      | [_, _, _, some (.int c), _] => c.toNat
      | _ => 0) ⟨rfl, t.natAbs, n.natAbs, ?_, rfl⟩ ?_ ?_
    · rw [abs_nat, abs_nat]
      rfl
    · rintro σ H' ⟨rfl, a, c, rfl, e⟩
      refine ⟨_, rfl, _, _, rfl, rfl, _, rfl, ite2 (fun hc => ?_) (fun hc => ?_)⟩
      · have c0 := of_decide_eq_true hc
        refine ⟨_, rfl, _, rfl, _, rfl, _, _, rfl, rfl, c0, _, _, rfl, ⟨rfl, c, a % c, ?_, ?_⟩, ?_⟩
        · show [some (V.int t), some (V.int n), some (V.int (c : Int)), some (V.int ((a : Int) % (c : Int))), none] = _
          rw [← Int.natCast_emod]
        · rw [Nat.gcd_comm, ← Nat.gcd_rec, Nat.gcd_comm]
          exact e
        · show ((a : Int) % (c : Int)).toNat < (c : Int).toNat
          have h1 := Int.emod_lt_of_pos (a : Int) c0
          have h2 := Int.emod_nonneg (a : Int) (show (c : Int) ≠ 0 by omega)
          omega
      · have c1 := of_decide_eq_false (Bool.eq_false_iff.mpr hc)
        have c0 : c = 0 := by omega
        subst c0
        rw [Nat.gcd_zero_right] at e
        subst e
        refine ⟨_, rfl, _, _, rfl, rfl, _, rfl, ite2 (fun hd => ?_) (fun hd => absurd (decide_eq_true h0) hd)⟩
        refine ⟨_, rfl, _, rfl, _, rfl, _, _, rfl, rfl, wide_div g0 g1 (by decide) (by decide), _, rfl, _, rfl, _, _, rfl, rfl, wide_div g0 g1 (by decide) (by decide), (by show 2 ≤ sizeLine; decide), fun p hp => ?_⟩
        refine q _ _ (same_new hp) ⟨p, rfl, .of ?_⟩
        rw [upd_same, div_num h0, div_den h0]
    · intro σ H' Q1 Q2 hq ht
      obtain ⟨v, e, x, y, e2, e3, k, e4, h⟩ := ht
      exact ⟨v, e, x, y, e2, e3, k, e4, hq _ _ h⟩
/-! ### _law_number -/
theorem scNumber : FnScope ["_law_reel_here", "_law_way", "_law_bottom"] ["_law_reel_here"] (C8.fnScope stNumber) := C8.fnScope_by (by decide +kernel)
def spNumber (K : PySem.W.Frag) : Sp := fun vs H Q _ => ∃ (r c : Addr) (ns : List Int), vs = [.ref r] ∧ Reel H r c ns ∧ ∀ v H' q, Reel H' r c ns → Sb r H H' → Fq K H' v q → Nu q → Q v H'
theorem calNumber (F : C8.Def K mg "_law_number" stNumber f fd) (b : Binds K fd ["_law_reel_here"] []) (c__law_pick : C8.Cal P w K mg base 1 "_law_pick" spPick []) (c__law_made : C8.Cal P w K mg base 1 "_law_made" (spFrac K) []) :
    C8.Cal P w K mg base 2 "_law_number" (spNumber K) [] := by
  refine C8.cal0 F b .nil scNumber (fun vs H Q E h => ?_) (fun cdv A outer s H vs Q E hr h => ?_)
  · obtain ⟨r, c, ns, rfl, _⟩ := h
    rfl
  · obtain ⟨r, c, ns, rfl, hR, q⟩ := h
    refine ⟨_, (pss_cons (ps_set (i := 1) scNumber.nd rfl (.inl rfl) (C8.pe_c c__law_pick hr (by decide) rfl (pa_cons (pv 0) (pa_cons pe_int pa_nil))))
      (pss_cons (ps_if (pt_cmpR op_eq (pv 1) pe_int (nomark _)) (pss_one (ps_ret (pe_tup (pa_cons pe_int (pa_cons pe_int pa_nil))))) pss_nil)
      (pss_cons (ps_set (i := 2) scNumber.nd rfl (.inl rfl) (pe_ix ix_list (pe_lst (pa_cons pe_int (pa_cons pe_int (pa_cons pe_int (pa_cons pe_int (pa_cons pe_int (pa_cons (pe_op op_add pe_int (C8.pe_c c__law_pick hr (by decide) rfl (pa_cons (pv 0) (pa_cons pe_int pa_nil)))) (pa_cons (pe_op op_sub (pe_op op_sub (pe_op op_pow pe_int pe_int) pe_int) (C8.pe_c c__law_pick hr (by decide) rfl (pa_cons (pv 0) (pa_cons pe_int pa_nil)))) pa_nil)))))))) (pv 1) (fun _ _ => rfl)))
      (pss_one (ps_ret (C8.pe_c c__law_made hr (by decide) rfl (pa_cons (pe_op op_mod (pe_op op_add (pe_op op_mul (C8.pe_c c__law_pick hr (by decide) rfl (pa_cons (pv 0) (pa_cons (pe_op op_pow pe_int pe_int) pa_nil))) (pe_op op_pow pe_int pe_int)) (C8.pe_c c__law_pick hr (by decide) rfl (pa_cons (pv 0) (pa_cons (pe_op op_pow pe_int pe_int) pa_nil)))) (pv 2)) (pa_cons (pv 2) pa_nil)))))))), ?_⟩
    refine ⟨_, rfl, r, c, ns, 7, rfl, hR, by decide, by decide, fun z H1 z0 z1 R1 b1 => ?_⟩
    refine ⟨_, rfl, rfl, _, rfl, ite2 (fun hc => ?_) (fun hc => ?_)⟩
    · refine ⟨(by show 2 ≤ sizeLine; decide), fun p np => ?_⟩
      have s1 : Same H1 (upd H1 p (.tup [.int 0, .int 1])) := same_new np
      exact q _ _ 0 (R1.same s1) (b1.trans (.of s1)) (Fq.new (q := 0)) nu_zero
    · refine ⟨_, rfl, r, c, ns, 60, rfl, R1, by decide, by decide, fun z1' H2 y0 y1 R2 b2 => ⟨_, _, rfl, rfl, ?_⟩⟩
      refine ⟨_, _, rfl, rfl, ⟨by decide, by decide, by decide⟩, _, _, rfl, rfl, _, rfl, r, c, ns, 1000, rfl, R2, by decide, by decide, fun z2 H3 x0 x1 R3 b3 => ⟨_, _, rfl, rfl, ?_⟩⟩
      refine ⟨(by show 7 ≤ sizeLine; decide), fun p np => ?_⟩
      obtain ⟨bt, hm, hat⟩ := at_of_seven (bs := [2, 3, 4, 8, 12, 1 + z1', 10 ^ (12 : Int).toNat - 1 - z2]) z0 z1
      have e12 : (10 : Int) ^ (12 : Int).toNat = 1000000000000 := rfl
      have hb : 0 < bt ∧ bt < 1000000000000 := by
        rw [e12] at hm
        simp only [List.mem_cons, List.not_mem_nil, or_false] at hm
        omega
      have s4 : Same H3 (upd H3 p (.lst [.int 2, .int 3, .int 4, .int 8, .int 12, .int (1 + z1'), .int (10 ^ (12 : Int).toNat - 1 - z2)])) := same_new np
      refine ⟨_, rfl, p, _, _, _, rfl, rfl, .of upd_same, hat, ?_⟩
      refine ⟨_, rfl, _, _, rfl, rfl, ⟨by decide, by decide, by decide⟩, r, c, ns, _, rfl, R3.same s4, by decide, by decide, fun a1 H5 a10 a11 R5 b5 => ?_⟩
      refine ⟨_, _, rfl, rfl, ⟨by decide, by decide, by decide⟩, _, _, rfl, rfl, .inr ⟨by decide, by decide⟩, ?_⟩
      refine ⟨_, rfl, _, _, rfl, rfl, ⟨by decide, by decide, by decide⟩, r, c, ns, _, rfl, R5, by decide, by decide, fun a2 H6 a20 a21 R6 b6 => ?_⟩
      refine ⟨_, _, rfl, rfl, _, rfl, _, _, rfl, rfl, hb.1, _, rfl, _, bt, rfl, hb.1, ?_, fun v H7 s7 hv => ?_⟩
      · have : bt.natAbs < 2 ^ 40 := by
          show _ < 1099511627776
          omega
        exact up_bd this (by decide)
      · refine q v H7 _ (R6.same s7) ?_ hv (nu_div (Int.emod_nonneg _ (by omega)) (Int.emod_lt_of_pos _ hb.1) hb.2)
        exact (((((b1.trans b2).trans b3).trans (.of s4)).trans b5).trans b6).trans (.of s7)

/-! ### _law_points -/
theorem scPoints : FnScope ["_law_reel_here", "_law_s", "_law_most", "_law_found", "_law_k", "_law_point", "_law_side_here", "_law_elder"] ["_law_reel_here", "_law_s", "_law_most"] (C8.fnScope stPoints) := C8.fnScope_by (by decide +kernel)
def spPoints (K : PySem.W.Frag) : Sp := fun vs H Q _ => ∃ (r c : Addr) (ns : List Int), vs = [.ref r, .int 1, .int 12] ∧ Reel H r c ns ∧
  ∀ v H' qs, Reel H' r c ns → Sb r H H' → Qs K H' v qs → (∀ q ∈ qs, Nu q) → 0 < qs.length → qs.length ≤ 12 → Q v H'
theorem cut_imp {α β : Type} {B C : α → β → Prop} {G : Prop} (h : (∀ y z, B y z → C y z) → G) (k : ∀ y z, B y z → C y z) : G := h k
def datP (q : Rat) : PyData := .tuple [datF q]
theorem dpAll_pts {ps : List V} {qs : List Rat} (h : PsOf K H ps qs) : DpAll K H ps (qs.map datP) := by
  induction h with
  | nil => exact .nil
  | cons r _ ih =>
    obtain ⟨p, x, rfl, a, b⟩ := r
    exact .cons (.tup a (.cons b.dp .nil)) ih
theorem pts_flat (qs : List Rat) : ∀ d ∈ qs.map datP, d.canLay0 = true ∧ d.depth ≤ 60 := by
  intro d hd
  obtain ⟨n, _, rfl⟩ := List.mem_map.mp hd
  exact ⟨rfl, by show 2 ≤ 60; decide⟩
theorem sb_new {r p : Addr} {H H1 : Hp} {o : HO} (h : Sb r H H1) (n : H p = none) : Sb r H (upd H1 p o) := fun b u nb e => by
  rw [upd_ne (ne_of_none e n)]
  exact h b u nb e
theorem calPoints (F : C8.Def K mg "_law_points" stPoints f fd) (b : Binds K fd ["_law_reel_here", "_law_s", "_law_most"] []) (M : Bt mg) (c__law_pick : C8.Cal P w K mg base 1 "_law_pick" spPick [])
    (c__law_number : C8.Cal P w K mg base 2 "_law_number" (spNumber K) []) : C8.Cal P w K mg base 3 "_law_points" (spPoints K) [] := by
  refine C8.cal0 F b .nil scPoints (fun vs H Q E h => ?_) (fun cdv A outer s H vs Q E hr h => ?_)
  · obtain ⟨r, c, ns, rfl, _⟩ := h
    rfl
  · obtain ⟨r, c, ns, rfl, hR, q⟩ := h
    refine ⟨_, (pss_cons (ps_set (i := 3) scPoints.nd rfl (.inl rfl) (pe_lst pa_nil))
      (pss_cons (ps_for PassesOwn.never rfl (pi_range1 (by rfl) M.b_range (pa_cons (pe_op op_add pe_int (C8.pe_c c__law_pick hr (by decide) rfl (pa_cons (pv 0) (pa_cons (pv 2) pa_nil)))) pa_nil)) (pg_name (i := 4) scPoints.nd rfl (.inl rfl))
      (pss_cons (ps_set (i := 5) scPoints.nd rfl (.inl rfl) (pe_lst pa_nil))
      (pss_cons (ps_for PassesOwn.never rfl (pi_range1 (by rfl) M.b_range (pa_cons (pv 1) pa_nil)) (pg_name (i := 6) scPoints.nd rfl (.inl rfl))
      (pss_cons (ps_set (i := 7) scPoints.nd rfl (.inl rfl) (pe_ifExp (PW.pt (pw_and (pt_cmpR (op_neNil hr.units) (pv 3) (pe_lst pa_nil) (nomark _)) (pw_and1 (pt_cmpR op_eq (C8.pe_c c__law_pick hr (by decide) rfl (pa_cons (pv 0) (pa_cons pe_int pa_nil))) pe_int (nomark _))))) (pe_ix ix_tup (pe_ix ix_list (pv 3) (C8.pe_c c__law_pick hr (by decide) rfl (pa_cons (pv 0) (pa_cons (pe_callB call_len_seq (by rfl) M.b_len (by decide +kernel) (pa_cons (pv 3) pa_nil)) pa_nil))) (fun _ _ => rfl)) (pv 6) (fun _ _ => rfl)) pe_non))
      (pss_one (ps_expr (pe_bm PySem.F.plainAttrs_list PySem.F.slot_list_append PySem.F.type_list_append mt_append (pv 5) (pa_cons (pe_ifExp (pt_cmpR op_isN (pv 7) pe_non (nomark _)) (C8.pe_c c__law_number hr (by decide) rfl (pa_cons (pv 0) pa_nil)) (pv 7)) pa_nil))))))
      (pss_one (ps_expr (pe_bm PySem.F.plainAttrs_list PySem.F.slot_list_append PySem.F.type_list_append mt_append (pv 3) (pa_cons (pe_callTy call_tuple_of (by rfl) M.b_tuple (by decide +kernel) (pa_cons (pv 5) pa_nil)) pa_nil)))))))
      (pss_one (ps_ret (pe_callTy call_tuple_of (by rfl) M.b_tuple (by decide +kernel) (pa_cons (pv 3) pa_nil)))))), ?_⟩
    refine ⟨Nat.zero_le _, fun F nF => ?_⟩
    have nFr : F ≠ r := hR.nr nF
    have nFc : F ≠ c := hR.nc nF
    have s0 : Same H (upd H F (.lst [])) := same_new nF
    refine ⟨_, rfl, _, rfl, r, c, ns, 12, rfl, hR.same s0, by decide, by decide, fun z H1 z0 z1 R1 b1 => ⟨_, _, rfl, rfl, 1 + z, rfl, by omega, by omega, ?_⟩⟩
    have bF : Sb r H H1 := Sb.trans (.of s0) b1
    have hF : H1 F = some (.lst []) := b1 _ _ nFr upd_same
    refine for_range (lo := 0) (n := (1 + z).toNat) (fun i σ H' => ∃ k u v x ps qs, σ = [some (.ref r), some (.int 1), some (.int 12), some (.ref F), k, u, v, x] ∧ Reel H' r c ns ∧ Sb r H H' ∧ H' F = some (.lst ps) ∧ PsOf K H' ps qs ∧ (∀ q ∈ qs, Nu q) ∧ qs.length = i)
      ⟨none, none, none, none, [], [], rfl, R1, bF, hF, .nil, (fun _ hq => absurd hq List.not_mem_nil), rfl⟩ ?_ ?_
    · rintro i σ H2 hi ⟨k, u, v, x, ps, qs, rfl, R2, b2, hF2, hps, nu, lq⟩
      have lp : ps.length = qs.length := paired_len hps
      -- point = []
      refine ⟨Nat.zero_le _, fun p np => ?_⟩
      have s2 : Same H2 (upd H2 p (.lst [])) := same_new np
      have npr : p ≠ r := R2.nr np
      have npc : p ≠ c := R2.nc np
      have nFp : F ≠ p := ne_of_none hF2 np
      have npH : H p = none := by
        cases e : H p with
        | none => rfl
        | some o =>
          rw [b2 _ _ npr e] at np
          cases np
      refine ⟨_, rfl, 1, rfl, by decide, by decide, ?_⟩
      refine for_range (lo := 0) (n := 1) (fun j σ H' => ∃ v x, σ = [some (.ref r), some (.int 1), some (.int 12), some (.ref F), some (.int (0 + (i : Int))), some (.ref p), v, x] ∧ Reel H' r c ns ∧ Sb r H2 H' ∧ H' F = some (.lst ps) ∧
        ((j = 0 ∧ H' p = some (.lst [])) ∨ (j = 1 ∧ ∃ y q, H' p = some (.lst [y]) ∧ Fq K H' y q ∧ Nu q))) ⟨v, x, rfl, R2.same s2, .of s2, s2 _ _ hF2, .inl ⟨rfl, upd_same⟩⟩ ?_ ?_
      · rintro j σ H3 hj ⟨v3, x3, rfl, R3, b3, hF3, hp3⟩
        have j0 : j = 0 := by omega
        subst j0
        have hp3 : H3 p = some (.lst []) := by
          rcases hp3 with ⟨_, h⟩ | ⟨h, _⟩
          · exact h
          · omega
        have t3 : Tk H2 H3 := R2.tk b3
        -- elder
        refine cut_imp (α := V) (β := Hp) (B := fun y H' => Reel H' r c ns ∧ Sb r H2 H' ∧ H' F = some (.lst ps) ∧ H' p = some (.lst []) ∧ (y = .non ∨ ∃ q, Fq K H' y q ∧ Nu q)) (C := ?C) (fun go => ?main) ?tail
        case main =>
          refine ⟨_, rfl, Nat.zero_le _, fun e ne => ?_⟩
          have s4 : Same H3 (upd H3 e (.lst [])) := same_new ne
          have R4 := R3.same s4
          have b4 : Sb r H2 (upd H3 e (.lst [])) := b3.trans (.of s4)
          have hF4 := s4 _ _ hF3
          have hp4 := s4 _ _ hp3
          refine ⟨F, e, ps, _, rfl, rfl, .of hF4, upd_same, dpAll_pts (hps.tk (t3.trans (.of s4))), pts_flat qs, _, rfl, ite2 (fun hc => ?_) (fun hc => ?_)⟩
          · have l0 : 0 < ps.length := by
              cases ps with
              | nil => exact absurd hc (by decide)
              | cons _ _ => exact Nat.succ_pos _
            have l12 : ps.length ≤ 12 := by
              have h1 : i < (1 + z).toNat := hi
              clear go
              omega
            have d1 : (1 : Int) ≤ ((ps.length : Nat) : Int) := by
              clear go
              omega
            have d2 : ((ps.length : Nat) : Int) ≤ 1000000 := by
              clear go
              omega
            generalize upd H3 e (.lst []) = H4 at R4 b4 hF4 hp4 ⊢
            refine ⟨_, rfl, r, c, ns, 3, rfl, R4, by decide, by decide, fun z2 H5 _ _ R5 b5 => ⟨rfl, _, rfl, ite2 (fun hd => ?_) (fun hd => ?_)⟩⟩
            · refine ⟨_, rfl, _, rfl, _, rfl, F, ps, rfl, .inl (.of (b5 _ _ nFr hF4)), r, c, ns, _, rfl, R5, d1, d2, fun z3 H6 w0 w1 R6 b6 => ?_⟩
              have hF6 := b6 _ _ nFr (b5 _ _ nFr hF4)
              have b26 : Sb r H2 H6 := (b4.trans b5).trans b6
              obtain ⟨vp, q', hat, ⟨pt, y, rfl, sq, fy⟩, hm⟩ := at_paired (hps.tk (R2.tk b26)) w0 w1
              refine ⟨F, ps, z3, _, rfl, rfl, .of hF6, hat, _, rfl, pt, _, _, y, rfl, rfl, sq, rfl, ?_⟩
              exact go y H6 ⟨R6, b26, hF6, b6 _ _ npr (b5 _ _ npr hp4), .inr ⟨q', fy, nu _ hm⟩⟩
            · exact go .non H5 ⟨R5, b4.trans b5, b5 _ _ nFr hF4, b5 _ _ npr hp4, .inl rfl⟩
          · exact go .non _ ⟨R4, b4, hF4, hp4, .inl rfl⟩
        case tail =>
          rintro y H4 ⟨R4, b4, hF4, hp4, hy⟩
          refine ⟨_, rfl, .inl ⟨rfl, _, .of hp4⟩, _, rfl, rfl, _, rfl, ?_⟩
          rcases hy with rfl | ⟨q', fy, ny⟩
          · refine iteY (decide_eq_true rfl) ?_
            refine ⟨_, rfl, r, c, ns, rfl, R4, fun v H5 q' R5 b5 hv nv => ?_⟩
            have hp5 := b5 _ _ npr hp4
            refine ⟨p, _, _, rfl, rfl, hp5, (by show 0 < sizeLine; decide), _, _, rfl, R5.upd npr npc, sb_new (b4.trans b5) np, ?_, .inr ⟨rfl, v, q', upd_same, hv.tk (.sb sb_upd (.lst hp5)), nv⟩⟩
            rw [upd_ne nFp]
            exact b5 _ _ nFr hF4
          · obtain ⟨py, rfl, sy⟩ := id fy
            refine iteN (decide_eq_false fun z => nomatch z) ?_
            refine ⟨_, rfl, p, _, _, rfl, rfl, hp4, (by show 0 < sizeLine; decide), _, _, rfl, R4.upd npr npc, sb_new b4 np, ?_, .inr ⟨rfl, _, q', upd_same, fy.tk (.sb sb_upd (.lst hp4)), ny⟩⟩
            rw [upd_ne nFp]
            exact hF4
      · rintro σ H4 ⟨v4, x4, rfl, R4, b4, hF4, hp4⟩
        obtain ⟨y, q', hp4, fy, ny⟩ : ∃ y q, H4 p = some (.lst [y]) ∧ Fq K H4 y q ∧ Nu q := by
          rcases hp4 with ⟨h, _⟩ | ⟨_, h⟩
          · omega
          · exact h
        refine ⟨_, rfl, .inl ⟨rfl, _, .of hF4⟩, _, rfl, p, _, rfl, .inl ⟨.of hp4, fun t nt => ?_⟩⟩
        have s5 : Same H4 (upd H4 t (.tup [y])) := same_new nt
        have hF5 := s5 _ _ hF4
        have hi12 : i < 12 := by omega
        refine ⟨F, ps, _, rfl, rfl, hF5, small1000 (by omega), _, _, _, _, ps ++ [.ref t], qs ++ [q'], rfl, (R4.same s5).upd nFr nFc, sb_new ((b2.trans b4).trans (.of s5)) nF, upd_same, ?_, ?_, ?_⟩
        · have t5 : Tk (upd H4 t (.tup [y])) (upd (upd H4 t (.tup [y])) F (.lst (ps ++ [.ref t]))) := .sb sb_upd (.lst hF5)
          refine paired_app (PsOf.tk (((R2.tk b4).trans (.of s5)).trans t5) hps) (.cons ⟨t, y, rfl, t5.sq (.of upd_same), (fy.same s5).tk t5⟩ .nil)
        · intro a ha
          rcases List.mem_append.mp ha with h | h
          · exact nu a h
          · obtain rfl := List.mem_singleton.mp h
            exact ny
        · rw [List.length_append, lq]
          rfl
    · rintro σ H2 ⟨k, u, v, x, ps, qs, rfl, R2, b2, hF2, hps, nu, lq⟩
      refine ⟨_, rfl, F, ps, rfl, .inl ⟨.of hF2, fun t nt => ?_⟩⟩
      have s3 : Same H2 (upd H2 t (.tup ps)) := same_new nt
      exact q _ _ qs (R2.same s3) (b2.trans (.of s3)) ⟨t, ps, rfl, .of upd_same, hps.tk (.of s3)⟩ nu (by omega) (by omega)
end
end K12

set_option Elab.async false
set_option linter.all false
set_option maxRecDepth 100000
set_option maxHeartbeats 4000000
/-! Edges and sides drawn; the rest that is due; what lies rightly. -/
namespace K12
open PySem PySem.Spec PyProof.Rows L2
theorem cut_imp1 {α : Type} {B C : α → Prop} {G : Prop} (h : (∀ y, B y → C y) → G) (k : ∀ y, B y → C y) : G := h k
section
variable {P : Program} {w : World} {K : PySem.W.Frag} {mg : Str → Option Value} {base : Heap} {f : Addr} {fd : FuncData} {H : Hp}
theorem dpAll_frs {xs : List V} {qs : List Rat} (h : FsOf K H xs qs) : DpAll K H xs (qs.map datF) := by
  induction h with
  | nil => exact .nil
  | cons r _ ih => exact .cons r.dp ih
theorem frs_flat (qs : List Rat) : ∀ d ∈ qs.map datF, d.canLay0 = true ∧ d.depth ≤ 60 := by
  intro d hd
  obtain ⟨n, _, rfl⟩ := List.mem_map.mp hd
  exact ⟨rfl, by show 1 ≤ 60; decide⟩
/-- fractions in a list at l -/
def Fl (K : PySem.W.Frag) (H : Hp) (l : Addr) (qs : List Rat) : Prop := ∃ xs, H l = some (.lst xs) ∧ FsOf K H xs qs
theorem Fl.sb {H' : Hp} {r c l : Addr} {ns : List Int} {qs : List Rat} (h : Fl K H l qs) (R : Reel H r c ns) (b : Sb r H H') : Fl K H' l qs := by
  obtain ⟨xs, h1, h2⟩ := h
  exact ⟨xs, b _ _ (R.lr h1) h1, h2.tk (R.tk b)⟩
theorem Fl.same {H' : Hp} {l : Addr} {qs : List Rat} (h : Fl K H l qs) (s : Same H H') : Fl K H' l qs := by
  obtain ⟨xs, h1, h2⟩ := h
  exact ⟨xs, s _ _ h1, h2.tk (.of s)⟩
/-! ### _law_edge -/
theorem scLEdge : FnScope ["_law_reel_here", "_law_some", "_law_way", "_law_one"] ["_law_reel_here", "_law_some"] (C8.fnScope stLEdge) := C8.fnScope_by (by decide +kernel)
def spLEdge (K : PySem.W.Frag) : Sp := fun vs H Q _ => ∃ (r c : Addr) (ns : List Int) (l : Addr) (qs : List Rat), vs = [.ref r, .ref l] ∧ Reel H r c ns ∧ Fl K H l qs ∧ (∀ q ∈ qs, Nu q) ∧ qs.length ≤ 12 ∧
  ∀ v H' q, Reel H' r c ns → Sb r H H' → Fq K H' v q → Ed q → Q v H'
theorem neg_ed {q : Rat} (h : Nu q) : Ed (-q) := by
  refine ed_mk ?_ ?_ ?_
  · have := h.2.1
    grind
  · have := h.1
    grind
  · rw [Rat.neg_den]
    exact h.2.2.2
theorem calLEdge (F : C8.Def K mg "_law_edge" stLEdge f fd) (b : Binds K fd ["_law_reel_here", "_law_some"] []) (M : Bt mg) (c__law_pick : C8.Cal P w K mg base 1 "_law_pick" spPick [])
    (c__law_number : C8.Cal P w K mg base 2 "_law_number" (spNumber K) []) : C8.Cal P w K mg base 3 "_law_edge" (spLEdge K) [] := by
  refine C8.cal0 F b .nil scLEdge (fun vs H Q E h => ?_) (fun cdv A outer s H vs Q E hr h => ?_)
  · obtain ⟨r, c, ns, l, qs, rfl, _⟩ := h
    rfl
  · obtain ⟨r, c, ns, l, qs, rfl, hR, hL, nu, l12, q⟩ := h
    refine ⟨_, (pss_cons (ps_set (i := 2) scLEdge.nd rfl (.inl rfl) (C8.pe_c c__law_pick hr (by decide) rfl (pa_cons (pv 0) (pa_cons pe_int pa_nil))))
      (pss_cons (ps_if (PW.pt (pw_and (pt_cmpR op_lt (pv 2) pe_int (nomark _)) (pw_and1 (pt_cmpR (op_neNil hr.units) (pv 1) (pe_lst pa_nil) (nomark _))))) (pss_one (ps_ret (pe_ix ix_list (pv 1) (C8.pe_c c__law_pick hr (by decide) rfl (pa_cons (pv 0) (pa_cons (pe_callB call_len_seq (by rfl) M.b_len (by decide +kernel) (pa_cons (pv 1) pa_nil)) pa_nil))) (fun _ _ => rfl)))) pss_nil)
      (pss_cons (ps_if (pt_cmpR op_eq (pv 2) pe_int (nomark _)) (pss_one (ps_ret (pe_ix ix_list (pe_lst (pa_cons (pe_tup (pa_cons pe_int (pa_cons pe_int pa_nil))) (pa_cons (pe_tup (pa_cons pe_int (pa_cons pe_int pa_nil))) (pa_cons (pe_tup (pa_cons (pe_un un_neg pe_int) (pa_cons pe_int pa_nil))) pa_nil)))) (C8.pe_c c__law_pick hr (by decide) rfl (pa_cons (pv 0) (pa_cons pe_int pa_nil))) (fun _ _ => rfl)))) pss_nil)
      (pss_cons (ps_if (pt_cmpR op_eq (pv 2) pe_int (nomark _)) (pss_cons (ps_set (i := 3) scLEdge.nd rfl (.inl rfl) (C8.pe_c c__law_number hr (by decide) rfl (pa_cons (pv 0) pa_nil)))
      (pss_one (ps_ret (pe_tup (pa_cons (pe_un un_neg (pe_ix ix_tup (pv 3) pe_int (fun _ _ => rfl))) (pa_cons (pe_ix ix_tup (pv 3) pe_int (fun _ _ => rfl)) pa_nil)))))) pss_nil)
      (pss_one (ps_ret (C8.pe_c c__law_number hr (by decide) rfl (pa_cons (pv 0) pa_nil)))))))), ?_⟩
    refine ⟨_, rfl, r, c, ns, 8, rfl, hR, by decide, by decide, fun z H1 _ _ R1 b1 => ?_⟩
    -- behind the first choice
    refine cut_imp1 (α := Hp) (B := fun H' => Reel H' r c ns ∧ Sb r H H') (C := ?C) (fun go => ?main) ?tail
    case main =>
      refine ⟨_, rfl, _, _, rfl, rfl, _, rfl, ite2 (fun hc => ?_) (fun hc => ?_)⟩
      · refine ⟨_, rfl, Nat.zero_le _, fun e ne => ?_⟩
        have s2 : Same H1 (upd H1 e (.lst [])) := same_new ne
        have R2 := R1.same s2
        have b2 : Sb r H (upd H1 e (.lst [])) := b1.trans (.of s2)
        obtain ⟨xs, hx, fx⟩ := (hL.sb hR b1).same s2
        have lx : xs.length = qs.length := paired_len fx
        have he : upd H1 e (.lst []) e = some (.lst []) := upd_same
        generalize upd H1 e (.lst []) = H2 at R2 b2 hx fx he ⊢
        refine ⟨l, e, xs, _, rfl, rfl, .of hx, he, dpAll_frs fx, frs_flat qs, _, rfl, ite2 (fun hd => ?_) (fun hd => ?_)⟩
        rotate_left
        · exact go H2 ⟨R2, b2⟩
        have l0 : 0 < xs.length := by
          cases xs with
          | nil => exact absurd hd (by decide)
          | cons _ _ => exact Nat.succ_pos _
        have d1 : (1 : Int) ≤ ((xs.length : Nat) : Int) := by
          clear go
          omega
        have d2 : ((xs.length : Nat) : Int) ≤ 1000000 := by
          clear go
          omega
        refine ⟨_, rfl, _, rfl, _, rfl, l, xs, rfl, .inl (.of hx), r, c, ns, _, rfl, R2, d1, d2, fun z3 H3 w0 w1 R3 b3 => ?_⟩
        obtain ⟨x, q', hat, hq, hm⟩ := at_paired (fx.tk (R2.tk b3)) w0 w1
        exact ⟨l, xs, z3, _, rfl, rfl, .of (b3 _ _ (R2.lr hx) hx), hat, q _ _ q' R3 (b2.trans b3) hq (nu _ hm).ed⟩
      · exact go H1 ⟨R1, b1⟩
    case tail =>
      rintro H2 ⟨R2, b2⟩
      refine ⟨_, rfl, rfl, _, rfl, ite2 (fun hc => ?_) (fun hc => ?_)⟩
      · -- one of three
        refine ⟨(by show 2 ≤ sizeLine; decide), fun p1 n1 => ⟨(by show 2 ≤ sizeLine; decide), fun p2 n2 => ⟨_, rfl, (by show 2 ≤ sizeLine; decide), fun p3 n3 => ⟨(by show 3 ≤ sizeLine; decide), fun p4 n4 => ?_⟩⟩⟩⟩
        have s1 : Same H2 (upd H2 p1 (.tup [.int 1, .int 1])) := same_new n1
        have f1 : Fq K (upd H2 p1 (.tup [.int 1, .int 1])) (.ref p1) 1 := Fq.new (q := 1)
        generalize upd H2 p1 (.tup [.int 1, .int 1]) = H3 at s1 f1 n2 n3 n4 ⊢
        have s2 : Same H3 (upd H3 p2 (.tup [.int 0, .int 1])) := same_new n2
        have f2 : Fq K (upd H3 p2 (.tup [.int 0, .int 1])) (.ref p2) 0 := Fq.new (q := 0)
        generalize upd H3 p2 (.tup [.int 0, .int 1]) = H4 at s2 f2 n3 n4 ⊢
        have s3 : Same H4 (upd H4 p3 (.tup [.int (-1), .int 1])) := same_new n3
        have f3 : Fq K (upd H4 p3 (.tup [.int (-1), .int 1])) (.ref p3) (-1) := Fq.new (q := -1)
        generalize upd H4 p3 (.tup [.int (-1), .int 1]) = H5 at s3 f3 n4 ⊢
        have s4 : Same H5 (upd H5 p4 (.lst [.ref p1, .ref p2, .ref p3])) := same_new n4
        have fs : FsOf K (upd H5 p4 (.lst [.ref p1, .ref p2, .ref p3])) [.ref p1, .ref p2, .ref p3] [1, 0, -1] :=
          .cons (((f1.same s2).same s3).same s4) (.cons ((f2.same s3).same s4) (.cons (f3.same s4) .nil))
        have sa : Same H2 (upd H5 p4 (.lst [.ref p1, .ref p2, .ref p3])) := ((s1.trans s2).trans s3).trans s4
        have h4 : upd H5 p4 (.lst [.ref p1, .ref p2, .ref p3]) p4 = some (.lst [.ref p1, .ref p2, .ref p3]) := upd_same
        have R6 := R2.same sa
        generalize upd H5 p4 (.lst [.ref p1, .ref p2, .ref p3]) = H6 at fs sa h4 R6 ⊢
        refine ⟨_, rfl, r, c, ns, 3, rfl, R6, by decide, by decide, fun z3 H7 w0 w1 R7 b7 => ?_⟩
        obtain ⟨x, q', hat, hq, hm⟩ := at_paired (fs.tk (R6.tk b7)) w0 w1
        refine ⟨p4, _, z3, _, rfl, rfl, .of (b7 _ _ (R6.lr h4) h4), hat, q _ _ q' R7 ((b2.trans (.of sa)).trans b7) hq ?_⟩
        have h5 : q' = 1 ∨ q' = 0 ∨ q' = -1 := by simpa using hm
        rcases h5 with rfl | rfl | rfl
        · exact ed_one
        · exact ed_zero
        · exact ed_mk (by decide) (by decide) (by decide)
      · refine ⟨_, rfl, rfl, _, rfl, ite2 (fun hd => ?_) (fun hd => ?_)⟩
        · refine ⟨_, rfl, r, c, ns, rfl, R2, fun v H3 q' R3 b3 ⟨p, ev, sp⟩ nv => ?_⟩
          subst ev
          refine ⟨_, rfl, p, _, 0, _, rfl, rfl, sp, rfl, _, rfl, _, rfl, p, _, 1, _, rfl, rfl, sp, rfl, (by show 2 ≤ sizeLine; decide), fun p2 n2 => ?_⟩
          have s4 : Same H3 (upd H3 p2 (.tup [.int (-q'.num), .int (q'.den : Int)])) := same_new n2
          refine q _ _ (-q') (R3.same s4) ((b2.trans b3).trans (.of s4)) ⟨p2, rfl, .of ?_⟩ (neg_ed nv)
          rw [upd_same, Rat.neg_num, Rat.neg_den]
        · exact ⟨_, rfl, r, c, ns, rfl, R2, fun v H3 q' R3 b3 hv nv => q v H3 q' R3 (b2.trans b3) hv nv.ed⟩
/-! ### _law_side -/
theorem scLSide : FnScope ["_law_reel_here", "_law_some", "_law_word"] ["_law_reel_here", "_law_some", "_law_word"] (C8.fnScope stLSide) := C8.fnScope_by (by decide +kernel)
def spLSide (K : PySem.W.Frag) : Sp := fun vs H Q _ => ∃ (r c : Addr) (ns : List Int) (l : Addr) (qs : List Rat) (wd : Str), vs = [.ref r, .ref l, .str wd] ∧ (wd = "to" ∨ wd = "from" ∨ wd = "round") ∧ Reel H r c ns ∧ Fl K H l qs ∧ (∀ q ∈ qs, Nu q) ∧ qs.length ≤ 12 ∧
  ∀ v H' s, Reel H' r c ns → Sb r H H' → Sq K H' v s → s.ok → Q v H'
theorem calLSide (F : C8.Def K mg "_law_side" stLSide f fd) (b : Binds K fd ["_law_reel_here", "_law_some", "_law_word"] []) (c__law_edge : C8.Cal P w K mg base 3 "_law_edge" (spLEdge K) []) : C8.Cal P w K mg base 4 "_law_side" (spLSide K) [] := by
  refine C8.cal0 F b .nil scLSide (fun vs H Q E h => ?_) (fun cdv A outer s H vs Q E hr h => ?_)
  · obtain ⟨r, c, ns, l, qs, wd, rfl, _⟩ := h
    rfl
  · obtain ⟨r, c, ns, l, qs, wd, rfl, hw, hR, hL, nu, l12, q⟩ := h
    refine ⟨_, (pss_cons (ps_if (pt_cmpR op_eq (pv 2) pe_str (nomark _)) (pss_one (ps_ret (pe_tup (pa_cons pe_str (pa_cons (C8.pe_c c__law_edge hr (by decide) rfl (pa_cons (pv 0) (pa_cons (pv 1) pa_nil))) pa_nil))))) pss_nil)
      (pss_one (ps_ret (pe_tup (pa_cons (pv 2) (pa_cons (C8.pe_c c__law_edge hr (by decide) rfl (pa_cons (pv 0) (pa_cons (pv 1) pa_nil))) (pa_cons (C8.pe_c c__law_edge hr (by decide) rfl (pa_cons (pv 0) (pa_cons (pv 1) pa_nil))) pa_nil))))))), ?_⟩
    rcases hw with rfl | hw
    · refine ⟨_, rfl, rfl, _, rfl, iteY w_tt ?_⟩
      refine ⟨_, rfl, _, rfl, r, c, ns, l, qs, rfl, hR, hL, nu, l12, fun v H1 t R1 b1 hv ed => ⟨(by show 2 ≤ sizeLine; decide), fun p np => ?_⟩⟩
      have s2 : Same H1 (upd H1 p (.tup [.str "to", v])) := same_new np
      exact q _ _ (.to t) (R1.same s2) (b1.trans (.of s2)) ⟨p, v, rfl, .of upd_same, hv.same s2⟩ ed
    · have hn : decide (V.str wd = V.str "to") = false := by
        rcases hw with rfl | rfl
        · exact w_ft
        · exact w_rt
      refine ⟨_, rfl, rfl, _, rfl, iteN hn ?_⟩
      refine ⟨_, rfl, _, rfl, _, rfl, r, c, ns, l, qs, rfl, hR, hL, nu, l12, fun v1 H1 a R1 b1 h1 ed1 => ?_⟩
      refine ⟨_, rfl, _, rfl, r, c, ns, l, qs, rfl, R1, hL.sb hR b1, nu, l12, fun v2 H2 d R2 b2 h2 ed2 => ⟨(by show 3 ≤ sizeLine; decide), fun p np => ?_⟩⟩
      have s3 : Same H2 (upd H2 p (.tup [.str wd, v1, v2])) := same_new np
      rcases hw with rfl | rfl
      · exact q _ _ (.fr a d) (R2.same s3) ((b1.trans b2).trans (.of s3)) ⟨p, v1, v2, rfl, .of upd_same, (h1.tk (R1.tk b2)).same s3, h2.same s3⟩ ⟨ed1, ed2⟩
      · exact q _ _ (.rd a d) (R2.same s3) ((b1.trans b2).trans (.of s3)) ⟨p, v1, v2, rfl, .of upd_same, (h1.tk (R1.tk b2)).same s3, h2.same s3⟩ ⟨ed1, ed2⟩
/-! ### _law_due -/
theorem scDue : FnScope ["_law_side_here"] ["_law_side_here"] (C8.fnScope stDue) := C8.fnScope_by (by decide +kernel)
theorem n_fr : (("from" : Str) = "round") = False := eq_false (by decide +kernel)
theorem n_rf : (("round" : Str) = "from") = False := eq_false (by decide +kernel)
def wds : List (Key × V) := [(.inr "from", .str "round"), (.inr "round", .str "from")]
theorem g_from : valV wds (.inr "from") = some (.str "round") := by simp [wds, valV]
theorem g_round : valV wds (.inr "round") = some (.str "from") := by simp [wds, valV, n_fr]
theorem m_wds : mergeK [] wds = wds := by simp [mergeK, putK, wds, n_fr]
theorem calDue (F : C8.Def K mg "_law_due" stDue f fd) (b : Binds K fd ["_law_side_here"] []) : C8.Cal P w K mg base 1 "_law_due" (spRest K) [] := by
  refine C8.cal0 F b .nil scDue (fun vs H Q E h => ?_) (fun cdv A outer s H vs Q E hr h => ?_)
  · obtain ⟨x, a, rfl, _⟩ := h
    rfl
  · obtain ⟨_, sd, rfl, hs, q⟩ := h
    refine ⟨_, (pss_cons (ps_if (pt_cmpR op_eq (pe_ix ix_tup (pv 0) pe_int (fun _ _ => rfl)) pe_str (nomark _)) (pss_one (ps_ret (pe_tup (pa_cons pe_str (pa_cons (pe_ix ix_tup (pv 0) pe_int (fun _ _ => rfl)) (pa_cons (pe_tup (pa_cons pe_int (pa_cons pe_int pa_nil))) pa_nil)))))) pss_nil)
      (pss_one (ps_ret (pe_tup (pa_cons (pe_dget (hu_of hr) (pe_disp (pps_cons pe_str pe_str (pps_cons pe_str pe_str pps_nil)) (by rfl) (by rfl) (fun z => by cases z) (by decide)) (pe_ix ix_tup (pv 0) pe_int (fun _ _ => rfl)) (fun _ _ => rfl)) (pa_cons (pe_ix ix_tup (pv 0) pe_int (fun _ _ => rfl)) (pa_cons (pe_ix ix_tup (pv 0) pe_int (fun _ _ => rfl)) pa_nil))))))), ?_⟩
    cases sd with
    | to t =>
      obtain ⟨p, x, rfl, sp, hx⟩ := hs
      refine ⟨_, rfl, p, _, 0, _, rfl, rfl, sp, rfl, rfl, _, rfl, iteY w_tt ?_⟩
      refine ⟨_, rfl, p, _, 1, _, rfl, rfl, sp, rfl, (by show 2 ≤ sizeLine; decide), fun o no => ⟨(by show 3 ≤ sizeLine; decide), fun c nc => ?_⟩⟩
      have s1 : Same H (upd H o (.tup [.int 1, .int 1])) := same_new no
      have s2 := s1.trans (same_new (o := .tup [.str "from", x, .ref o]) nc)
      exact q _ _ s2 ⟨c, x, .ref o, rfl, .of upd_same, hx.same s2, (Fq.new (q := 1)).same (same_new nc)⟩
    | fr a b =>
      obtain ⟨p, x, y, rfl, sp, hx, hy⟩ := hs
      refine ⟨_, rfl, p, _, 0, _, rfl, rfl, sp, rfl, rfl, _, rfl, iteN w_ft ?_⟩
      intro d nd
      have s1 : Same H (upd H d (.dK [])) := same_new nd
      refine ⟨upd_same, wds, rfl, (by show 2 ≤ 15; decide), ?_⟩
      rw [m_wds]
      have s2 : Same H (upd (upd H d (.dK [])) d (.dK wds)) := same_at s1 nd
      have hd : upd (upd H d (.dK [])) d (.dK wds) d = some (.dK wds) := upd_same
      generalize upd (upd H d (.dK [])) d (.dK wds) = H1 at s2 hd ⊢
      have sp1 := (Tk.of s2).sq sp
      have dg : DGet H1 d (.str "from") (some (.str "round")) := by
        rw [← g_from]
        exact DGet.k (k := Sum.inr "from") hd
      refine ⟨_, rfl, p, _, 0, _, rfl, rfl, sp1, rfl, d, _, rfl, dg, ?_⟩
      refine ⟨_, rfl, p, _, 2, _, rfl, rfl, sp1, rfl, _, rfl, p, _, 1, _, rfl, rfl, sp1, rfl, (by show 3 ≤ sizeLine; decide), fun c nc => ?_⟩
      have s3 := s2.trans (same_new (o := .tup [.str "round", y, x]) nc)
      exact q _ _ s3 ⟨c, y, x, rfl, .of upd_same, hy.same s3, hx.same s3⟩
    | rd a b =>
      obtain ⟨p, x, y, rfl, sp, hx, hy⟩ := hs
      refine ⟨_, rfl, p, _, 0, _, rfl, rfl, sp, rfl, rfl, _, rfl, iteN w_rt ?_⟩
      intro d nd
      have s1 : Same H (upd H d (.dK [])) := same_new nd
      refine ⟨upd_same, wds, rfl, (by show 2 ≤ 15; decide), ?_⟩
      rw [m_wds]
      have s2 : Same H (upd (upd H d (.dK [])) d (.dK wds)) := same_at s1 nd
      have hd : upd (upd H d (.dK [])) d (.dK wds) d = some (.dK wds) := upd_same
      generalize upd (upd H d (.dK [])) d (.dK wds) = H1 at s2 hd ⊢
      have sp1 := (Tk.of s2).sq sp
      have dg : DGet H1 d (.str "round") (some (.str "from")) := by
        rw [← g_round]
        exact DGet.k (k := Sum.inr "round") hd
      refine ⟨_, rfl, p, _, 0, _, rfl, rfl, sp1, rfl, d, _, rfl, dg, ?_⟩
      refine ⟨_, rfl, p, _, 2, _, rfl, rfl, sp1, rfl, _, rfl, p, _, 1, _, rfl, rfl, sp1, rfl, (by show 3 ≤ sizeLine; decide), fun c nc => ?_⟩
      have s3 := s2.trans (same_new (o := .tup [.str "from", y, x]) nc)
      exact q _ _ s3 ⟨c, y, x, rfl, .of upd_same, hy.same s3, hx.same s3⟩
/-! ### _law_lies_right -/
theorem scLiesRight : FnScope ["_law_x", "_law_side_here", "_law_rest"] ["_law_x", "_law_side_here", "_law_rest"] (C8.fnScope stLiesRight) := C8.fnScope_by (by decide +kernel)
def spLiesRight (K : PySem.W.Frag) : Sp := fun vs H Q _ => ∃ (x y z : V) (a : Rat) (s : Side), vs = [x, y, z] ∧ Fq K H x a ∧ Nu a ∧ Sq K H y s ∧ Sq K H z (rest s) ∧ s.ok ∧ ∀ H', Same H H' → Q (.bl true) H'
theorem calLiesRight (F : C8.Def K mg "_law_lies_right" stLiesRight f fd) (b : Binds K fd ["_law_x", "_law_side_here", "_law_rest"] []) (c_lies : C8.Cal P w K mg base 3 "lies" (spLies K) []) (c_rest_of : C8.Cal P w K mg base 1 "rest_of" (spRest K) []) :
    C8.Cal P w K mg base 4 "_law_lies_right" (spLiesRight K) [] := by
  refine C8.cal0 F b .nil scLiesRight (fun vs H Q E h => ?_) (fun cdv A outer s H vs Q E hr h => ?_)
  · obtain ⟨x, y, z, a, e, rfl, _⟩ := h
    rfl
  · obtain ⟨x, y, z, a, sd, rfl, hx, nu, hy, hz, ok, q⟩ := h
    have ba := nu_bd nu
    have okr := rest_ok ok
    refine ⟨_, (pss_cons (ps_if (pt_cmpR op_eq (C8.pe_c c_lies hr (by decide) rfl (pa_cons (pv 0) (pa_cons (pv 1) (pa_cons pe_str pa_nil)))) (C8.pe_c c_lies hr (by decide) rfl (pa_cons (pv 0) (pa_cons (pv 2) (pa_cons pe_str pa_nil)))) (nomark _)) (pss_one (ps_ret pe_bl)) pss_nil)
      (pss_cons (ps_if (PW.pt (pw_or (pt_cmpR op_eq (C8.pe_c c_lies hr (by decide) rfl (pa_cons (pv 0) (pa_cons (pv 1) (pa_cons pe_str pa_nil)))) (C8.pe_c c_lies hr (by decide) rfl (pa_cons (pv 0) (pa_cons (pv 2) (pa_cons pe_str pa_nil)))) (nomark _)) (pw_or1 (pt_cmpR op_eq (C8.pe_c c_lies hr (by decide) rfl (pa_cons (pv 0) (pa_cons (pv 1) (pa_cons pe_str pa_nil)))) (C8.pe_c c_lies hr (by decide) rfl (pa_cons (pv 0) (pa_cons (pv 2) (pa_cons pe_str pa_nil)))) (nomark _))))) (pss_one (ps_ret pe_bl)) pss_nil)
      (pss_one (ps_ret (pe_cmpR op_eq (C8.pe_c c_lies hr (by decide) rfl (pa_cons (pv 0) (pa_cons (C8.pe_c c_rest_of hr (by decide) rfl (pa_cons (pv 2) pa_nil)) (pa_cons pe_str pa_nil)))) (C8.pe_c c_lies hr (by decide) rfl (pa_cons (pv 0) (pa_cons (pv 1) (pa_cons pe_str pa_nil)))) (nomark _)))))), ?_⟩
    have ne1 : ∀ {p r : Bool}, r = !p → decide (V.bl p = V.bl r) = false := fun {p r} e => by
      subst e
      cases p <;> rfl
    refine ⟨_, rfl, _, rfl, x, y, a, sd, .half, rfl, hx, hy, ba, ok, _, rfl, _, rfl, x, z, a, rest sd, .half, rfl, hx, hz, ba, okr, rfl, _, rfl, iteN (ne1 (lie_half nu sd)) ?_⟩
    refine ⟨_, rfl, _, rfl, x, y, a, sd, .shut, rfl, hx, hy, ba, ok, _, rfl, _, rfl, x, z, a, rest sd, .opn, rfl, hx, hz, ba, okr, rfl, _, rfl, iteN (ne1 (lie_open nu sd)) ?_⟩
    refine ⟨_, rfl, _, rfl, x, y, a, sd, .opn, rfl, hx, hy, ba, ok, _, rfl, _, rfl, x, z, a, rest sd, .shut, rfl, hx, hz, ba, okr, rfl, _, rfl, iteN (ne1 (lie_shut nu sd)) ?_⟩
    refine ⟨_, rfl, _, rfl, z, rest sd, rfl, hz, fun v H1 s1 hv => ?_⟩
    refine ⟨x, v, a, rest (rest sd), .half, rfl, hx.same s1, hv, ba, rest_ok okr, _, rfl, _, rfl, x, y, a, sd, .half, rfl, hx.same s1, hy.same s1, ba, ok, rfl, ?_⟩
    have e : lie a (rest (rest sd)) .half = lie a sd .half := by
      rw [lie_half nu, lie_half nu, Bool.not_not]
    rw [e]
    have e2 : decide (V.bl (lie a sd .half) = V.bl (lie a sd .half)) = true := decide_eq_true rfl
    show Q (V.bl (decide (V.bl (lie a sd .half) = V.bl (lie a sd .half)))) H1
    rw [e2]
    exact q H1 s1
end
end K12

set_option Elab.async false
set_option linter.all false
set_option maxRecDepth 100000
set_option maxHeartbeats 4000000
/-! repr of a tuple wants to know that no repr is under way (A.guards): a promise that says so, for the two defs that need it; the law's head over it. -/
namespace K12
open PySem PySem.Spec PyProof.Rows L2
/-! ### repr of what stands in the heap -/
section
variable {X : Cx} {k : Nat}
def rRepr (K : PySem.W.Frag) : List V → Hp → VK → Prop := fun xs H Q => ∃ (p : Addr) (d : PyData), xs = [.ref p] ∧ Dp K H (.ref p) d ∧ d.showable = true ∧ d.hasDict = false ∧ d.depth ≤ 60 ∧ d.shown.length ≤ sizeLine ∧ Q (.str d.shown) H
theorem call_reprD (hg : X.A.guards = some []) (hr : Room k X.A) : CallR X (.builtin "repr") (rRepr X.K) := fun pins s σ H xs us Q I r hw => by
  obtain ⟨p, d, rfl, dp, h1, h2, h3, h4, q⟩ := hw
  obtain ⟨u, rfl, rx⟩ := vals1 r
  obtain ⟨as, rd⟩ := Dp.reads I d _ u dp rx
  have hu := hr.units
  cases rx
  exact repr_of_reads' rd h1 (PyData.noDict_hsm h2) hg (by omega) (fun _ _ e => e) (fun h' u tk hk => ⟨.str d.shown, H, I.kept (t' := tk) hk, ⟨u, rfl⟩, q⟩) h4
end
/-- a side as data -/
def datS : Side → PyData
  | .to t => .tuple [.str "to", datF t]
  | .fr a b => .tuple [.str "from", datF a, datF b]
  | .rd a b => .tuple [.str "round", datF a, datF b]
theorem Sq.dp {K : PySem.W.Frag} {H : Hp} {v : V} {s : Side} (h : Sq K H v s) : Dp K H v (datS s) := by
  cases s with
  | to t =>
    obtain ⟨p, x, rfl, a, b⟩ := h
    exact .tup a (.cons (.str _) (.cons b.dp .nil))
  | fr c d =>
    obtain ⟨p, x, y, rfl, a, b, c⟩ := h
    exact .tup a (.cons (.str _) (.cons b.dp (.cons c.dp .nil)))
  | rd c d =>
    obtain ⟨p, x, y, rfl, a, b, c⟩ := h
    exact .tup a (.cons (.str _) (.cons b.dp (.cons c.dp .nil)))
theorem Sq.ref {K : PySem.W.Frag} {H : Hp} {v : V} {s : Side} (h : Sq K H v s) : ∃ p, v = .ref p := by
  obtain ⟨p, xs, e, _⟩ := sq_open h
  exact ⟨p, e⟩
/-- of at most twelve figures -/
def Few (q : Rat) : Prop := q.num.natAbs < 1000000000000 ∧ q.den < 1000000000000
theorem Ed.few {q : Rat} (h : Ed q) : Few q := by
  have h1 := ed_num_le h.1 h.2.1
  have h2 := h.2.2.2
  exact ⟨by omega, h2⟩
theorem few_log {i : Int} (h : i.natAbs < 1000000000000) : i.natAbs.log2 < 1920 := by
  have h2 : i.natAbs < 2 ^ 40 := by
    show _ < 1099511627776
    omega
  have := PySem.Flt.log2_lt_of (show 0 < 40 by decide) h2
  omega
theorem few_show {q : Rat} (h : Few q) : (datF q).showable = true := by
  have h1 := few_log h.1
  have h2 := few_log (i := (q.den : Int)) (by have := h.2; omega)
  show (decide (q.num.natAbs.log2 < 1920) && (decide ((q.den : Int).natAbs.log2 < 1920) && true)) = true
  rw [decide_eq_true h1, decide_eq_true h2] <;> rfl
theorem few_short {q : Rat} (h : Few q) : (datF q).leavesShort 13 = true := by
  have h1 := PyData.shown_int_le (i := q.num) h.1
  have h2 := PyData.shown_int_le (i := (q.den : Int)) (by have := h.2; show _ < 1000000000000; omega)
  show (decide ((PyData.shown (.int q.num)).length ≤ 13) && (decide ((PyData.shown (.int (q.den : Int))).length ≤ 13) && true)) = true
  rw [decide_eq_true h1, decide_eq_true h2] <;> rfl
theorem side_show {s : Side} (h : s.ok) : (datS s).showable = true := by
  cases s with
  | to t =>
    show (true && ((datF t).showable && true)) = true
    rw [few_show (Ed.few h)] <;> rfl
  | fr a b =>
    show (true && ((datF a).showable && ((datF b).showable && true))) = true
    rw [few_show (Ed.few h.1), few_show (Ed.few h.2)] <;> rfl
  | rd a b =>
    show (true && ((datF a).showable && ((datF b).showable && true))) = true
    rw [few_show (Ed.few h.1), few_show (Ed.few h.2)] <;> rfl
theorem side_short {s : Side} (h : s.ok) : (datS s).leavesShort 13 = true := by
  cases s with
  | to t =>
    show (PyData.leavesShort 13 (.str "to") && ((datF t).leavesShort 13 && true)) = true
    rw [few_short (Ed.few h), show PyData.leavesShort 13 (.str "to") = true by decide +kernel] <;> rfl
  | fr a b =>
    show (PyData.leavesShort 13 (.str "from") && ((datF a).leavesShort 13 && ((datF b).leavesShort 13 && true))) = true
    rw [few_short (Ed.few h.1), few_short (Ed.few h.2), show PyData.leavesShort 13 (.str "from") = true by decide +kernel] <;> rfl
  | rd a b =>
    show (PyData.leavesShort 13 (.str "round") && ((datF a).leavesShort 13 && ((datF b).leavesShort 13 && true))) = true
    rw [few_short (Ed.few h.1), few_short (Ed.few h.2), show PyData.leavesShort 13 (.str "round") = true by decide +kernel] <;> rfl
theorem side_dict (s : Side) : (datS s).hasDict = false := by
  cases s <;> rfl
theorem side_deep (s : Side) : (datS s).depth ≤ 60 := by
  cases s with
  | to t =>
    show 2 ≤ 60
    decide
  | fr a b =>
    show 2 ≤ 60
    decide
  | rd a b =>
    show 2 ≤ 60
    decide
theorem side_bulk (s : Side) : (datS s).bulk ≤ 2 ^ 20 := by
  cases s with
  | to t =>
    show 6 ≤ 2 ^ 20
    decide
  | fr a b =>
    show 11 ≤ 2 ^ 20
    decide
  | rd a b =>
    show 12 ≤ 2 ^ 20
    decide
theorem side_fits {s : Side} (h : s.ok) : (datS s).shown.length ≤ sizeLine := PyData.shown_fits_bulk (B := 13) (by decide) (by decide) (side_short h) (side_bulk s)

/-! ### a def whose promise leans on the guards -/
section
variable {P : Program} {w : World} {K : PySem.W.Frag} {mg : Str → Option Value} {base : Heap} {f : Addr} {fd : FuncData}
structure CalG (P : Program) (w : World) (K : PySem.W.Frag) (mg : Str → Option Value) (base : Heap) (k : Nat) (f : Addr) (sp : Sp) : Prop where
  kp : PySem.W.keepIn K (.ref f) = true
  run : ∀ (A : Around) (outer : List Env) (s : Shared) (H : Hp) (us : List Value) (vs : List V) (Q : VK), A.guards = some [] → Room k A → Env0 P w K mg base A outer s H → Vals vs us → sp vs H Q C8.E0 →
    codeAny (model P w) A (.call (.ref f) ⟨us, []⟩) (CR C8.CX0 outer P w H s Q C8.E0) s
theorem calG0 {x : Str} {st : Stmt} {N ps : List Str} {k : Nat} {sp : Sp} (F : C8.Def K mg x st f fd) (b : Binds K fd ps []) (S : FnScope N ps (C8.fnScope st)) (len : ∀ vs H Q E, sp vs H Q E → vs.length = ps.length)
    (hbody : ∀ (cdv : Value) (A : Around) (outer : List Env) (s : Shared) (H : Hp) (vs : List V) (Q : VK), A.guards = some [] → Room k (A.deeper (envOfC x (C8.fnScope st) s.heap.objs.size f cdv)) → sp vs H Q C8.E0 →
      ∃ t, PSs (cxOf C8.CX0 P w K mg base N x (C8.fnScope st) f cdv A outer s H C8.E0).nox (C8.fnBody st) t ∧ t { nx := fun _ H' => Q .non H', rt := Q } (start N vs) H) : CalG P w K mg base (k + 1) f sp := by
  refine ⟨F.kp, fun A outer s H us vs Q hg hr e0 r hsp => ?_⟩
  obtain ⟨oc, od, dV, kV, doc, pm, an, cdv, ct, osl, rfl, lk, hcd⟩ := F.fn.ex
  have n1 := len _ _ _ _ hsp
  have inK : K.In s.heap := e0.mod.kin.keeps fun b o e => (e0.bs b o e).1
  have noL : s.heap.NoLimit := e0.mod.nolimit.keeps fun b o e => (e0.bs b o e).1
  have n2 : (us ++ []).length = ps.length := by
    rw [List.append_nil, ← r.length]
    exact n1
  have bd := b s us inK n2
  rw [List.append_nil] at bd
  refine Att.call_fn inK noL lk hcd hr.depth bd (List.all_eq_true.mpr fun y hy => ?_) (fun s1 x1 => ?_) S.co S.gen S.kind
  · rcases S.par y.1 (List.of_mem_zip (a := y.1) (b := y.2) hy).1 with z | z
    · rw [z]
      rfl
    · rw [z]
      rfl
  · obtain ⟨t, ht, hq⟩ := hbody cdv A outer s H vs Q hg (hr.deeper _) hsp
    have I := inv_start (CX := C8.CX0) (E := C8.E0) (N := N) S hr.hd e0 n1 r x1
    refine wpAny_mono (ht.nox.run [] s1 _ H _ I hq) (fun fl s' hs => ?_) (fun e s' hs => hs)
    cases fl with
    | ret u =>
      obtain ⟨v, σ', H', J, rv, qv⟩ := hs
      exact ⟨v, H', J.os, J.bare, J.base, J.hok, rv, qv⟩
    | next =>
      obtain ⟨σ', H', J, qv⟩ := hs
      exact ⟨.non, H', J.os, J.bare, J.base, J.hok, rfl, qv⟩
    | brk =>
      obtain ⟨_, _, _, qv⟩ := hs
      exact qv.elim
    | cont =>
      obtain ⟨_, _, _, qv⟩ := hs
      exact qv.elim
end
section
variable {X : Cx} {k j : Nat} {f : Addr} {x : Str} {sp : Sp} {p pos : Pos} {e : Expr} {es : List Expr} {t : TA}
theorem pe_callG (c : CalG X.prog X.w X.K X.mg X.base k f sp) (hg : X.A.guards = some []) (hr : Room j X.A) (hk : k ≤ j) (hm : X.mg x = some (.ref f)) (hgl : Gl X x) (ha : PA X (e :: es) t)
    (hdb : (x == ("__debug__" : Str)) = false := by decide) (he : starEach (e :: es) X.env = (false, eval e X.env) :: starEach es X.env := by rfl)
    (hpl : (backTo pos (starEach es X.env)).any (·.1) = false := by rfl) : PE X (.Call (.Name x p) (e :: es) [] pos) (tCall sp [] C8.E0 t) :=
  ⟨fun pins s σ H Q I hw => by
    refine wpAny_Call_Name_kw (ld_glob (x := x) I hgl hm ?_ hdb)
    refine PySem.W.callWith_K (h₀ := X.base) I.ok.mod.kin c.kp (thn (ha.run pos pins s σ H _ I hw) ?_) he hpl
    rintro us s1 ⟨vs, H1, I1, r, q⟩
    have q' : sp (vs ++ []) H1 Q C8.E0 := q
    rw [List.append_nil] at q'
    refine ⟨I1.kIn, wpAny_call (codeAny_mono (c.run X.A X.stack s1 H1 us vs Q hg (hr.mono hk) I1.env0 r q') ?_)⟩
    intro r2 s' hq
    cases r2 with
    | error z => exact False.elim hq
    | ok fl =>
      cases fl with
      | ret u => exact I1.after hq
      | next => exact False.elim hq
      | brk => exact False.elim hq
      | cont => exact False.elim hq⟩
end
end K12

set_option Elab.async false
set_option linter.all false
set_option maxRecDepth 100000
set_option maxHeartbeats 8000000
/-! What the law asks of one side: _law_right. -/
namespace K12
open PySem PySem.Spec PyProof.Rows L2
theorem nd_self (x : V) : (!decide (x = x)) = false := by rw [decide_eq_true rfl] <;> rfl
theorem nd_eq {a b : Rat} (h : a = b) : (!decide (a = b)) = false := by rw [decide_eq_true h] <;> rfl
section
variable {P : Program} {w : World} {K : PySem.W.Frag} {mg : Str → Option Value} {base : Heap} {f : Addr} {fd : FuncData} {H : Hp}
theorem scRight : FnScope ["_law_spots", "_law_side_here", "_law_marks", "_law_kept", "_law_rest", "_law_x"] ["_law_spots", "_law_side_here", "_law_marks"] (C8.fnScope stRight) := C8.fnScope_by (by decide +kernel)
def spRight (K : PySem.W.Frag) : Sp := fun vs H Q _ => ∃ (x y : V) (l : Addr) (qs : List Rat) (s : Side) (ms : List Rat), vs = [x, y, .ref l] ∧ Qs K H x qs ∧ (∀ a ∈ qs, Nu a) ∧ 0 < qs.length ∧ qs.length ≤ 12 ∧ Sq K H y s ∧ s.ok ∧ Fl K H l ms ∧ (∀ m ∈ ms, Nu m) ∧ ms.length ≤ 1000 ∧
  ∀ H', Same H H' → Q (.bl true) H'
theorem calRight (F : C8.Def K mg "_law_right" stRight f fd) (b : Binds K fd ["_law_spots", "_law_side_here", "_law_marks"] []) (M : Bt mg)
    (c_rest_of : C8.Cal P w K mg base 1 "rest_of" (spRest K) []) (c__law_due : C8.Cal P w K mg base 1 "_law_due" (spRest K) []) (c_is_side : C8.Cal P w K mg base 4 "is_side" (spIsSide K) [])
    (c_side_size : C8.Cal P w K mg base 4 "side_size" (spSize K) []) (c_plus : C8.Cal P w K mg base 3 "plus" (spOp K fun a b => a + b) []) (c_less : C8.Cal P w K mg base 3 "less" (spOp K fun a b => a - b) [])
    (c__law_lies_right : C8.Cal P w K mg base 4 "_law_lies_right" (spLiesRight K) []) (c_over_of : C8.Cal P w K mg base 6 "over_of" (spVal K overS) []) (c_lack_of : C8.Cal P w K mg base 6 "lack_of" (spVal K lackS) [])
    (c_miss_of : C8.Cal P w K mg base 6 "miss_of" (spVal K miss) []) : CalG P w K mg base 7 f (spRight K) := by
  refine calG0 F b scRight (fun vs H Q E h => ?_) (fun cdv A outer s H vs Q hg hr h => ?_)
  · obtain ⟨x, y, l, qs, sd, ms, rfl, _⟩ := h
    rfl
  · obtain ⟨x, y, l, qs, sd, ms, rfl, hP, nu, l0, l12, hs, ok, hL, nm, lm, q⟩ := h
    have okr := rest_ok ok
    obtain ⟨p, rfl⟩ := hs.ref
    refine ⟨_, (pss_cons (ps_set (i := 3) scRight.nd rfl (.inl rfl) (pe_callB (call_reprD hg hr) (by rfl) M.b_repr (by decide +kernel) (pa_cons (pv 1) pa_nil)))
      (pss_cons (ps_set (i := 4) scRight.nd rfl (.inr rfl) (C8.pe_c c_rest_of hr (by decide) rfl (pa_cons (pv 1) pa_nil)))
      (pss_cons (ps_if (PW.pt (pw_or (pt_cmpR op_ne (pe_callB (call_reprD hg hr) (by rfl) M.b_repr (by decide +kernel) (pa_cons (pv 4) pa_nil)) (pe_callB (call_reprD hg hr) (by rfl) M.b_repr (by decide +kernel) (pa_cons (C8.pe_c c__law_due hr (by decide) rfl (pa_cons (pv 1) pa_nil)) pa_nil)) (nomark _)) (pw_or (pt_cmpR op_notBl (C8.pe_c c_is_side hr (by decide) rfl (pa_cons (pv 4) pa_nil)) pe_bl (nomark _)) (pw_or1 (pt_cmpR op_ne (pe_callB (call_reprD hg hr) (by rfl) M.b_repr (by decide +kernel) (pa_cons (pv 1) pa_nil)) (pv 3) (nomark _)))))) (pss_one (ps_ret pe_bl)) pss_nil)
      (pss_cons (ps_if (PW.pt (pw_or (pt_cmpR (op_neF hr.units) (C8.pe_c c_plus hr (by decide) rfl (pa_cons (C8.pe_c c_side_size hr (by decide) rfl (pa_cons (pv 1) pa_nil)) (pa_cons (C8.pe_c c_side_size hr (by decide) rfl (pa_cons (pv 4) pa_nil)) pa_nil))) (pe_tup (pa_cons pe_int (pa_cons pe_int pa_nil))) (nomark _)) (pw_or1 (pt_cmpR (op_neF hr.units) (C8.pe_c c_side_size hr (by decide) rfl (pa_cons (C8.pe_c c_rest_of hr (by decide) rfl (pa_cons (pv 4) pa_nil)) pa_nil)) (C8.pe_c c_side_size hr (by decide) rfl (pa_cons (pv 1) pa_nil)) (nomark _))))) (pss_one (ps_ret pe_bl)) pss_nil)
      (pss_cons (ps_if (pt_cmpR (op_neNil hr.units) (pe_lc (own := [("_law_x", 5)]) (g := gName 5) rfl scRight.nd (pi_list (pv 2)) (blkOk_by (N := ["_law_spots", "_law_side_here", "_law_marks", "_law_kept", "_law_rest", "_law_x"]) (sc := C8.fnScope stRight) (by decide +kernel)) (fun _ _ _ _ _ => pg_name (i := 5) scRight.nd rfl (Or.inl rfl)) (fun _ _ _ _ _ => pts_one (pt_not (pt_val (C8.pe_c c__law_lies_right hr (by decide) rfl (pa_cons (pv 5) (pa_cons (pv 1) (pa_cons (pv 4) pa_nil))))))) (fun _ _ _ _ _ => (pv 5))) (pe_lst pa_nil) (nomark _)) (pss_one (ps_ret pe_bl)) pss_nil)
      (pss_cons (ps_if (PW.pt (pw_or (pt_cmpR (op_neF hr.units) (C8.pe_c c_over_of hr (by decide) rfl (pa_cons (pv 0) (pa_cons (pe_tup (pa_cons (pv 1) pa_nil)) pa_nil))) (C8.pe_c c_lack_of hr (by decide) rfl (pa_cons (pv 0) (pa_cons (pe_tup (pa_cons (pv 4) pa_nil)) pa_nil))) (nomark _)) (pw_or1 (pt_cmpR (op_neF hr.units) (C8.pe_c c_lack_of hr (by decide) rfl (pa_cons (pv 0) (pa_cons (pe_tup (pa_cons (pv 1) pa_nil)) pa_nil))) (C8.pe_c c_over_of hr (by decide) rfl (pa_cons (pv 0) (pa_cons (pe_tup (pa_cons (pv 4) pa_nil)) pa_nil))) (nomark _))))) (pss_one (ps_ret pe_bl)) pss_nil)
      (pss_one (ps_ret (pe_cmpR (op_eqF hr.units) (C8.pe_c c_less hr (by decide) rfl (pa_cons (pe_tup (pa_cons pe_int (pa_cons pe_int pa_nil))) (pa_cons (C8.pe_c c_miss_of hr (by decide) rfl (pa_cons (pv 0) (pa_cons (pe_tup (pa_cons (pv 1) pa_nil)) pa_nil))) pa_nil))) (C8.pe_c c_miss_of hr (by decide) rfl (pa_cons (pv 0) (pa_cons (pe_tup (pa_cons (pv 4) pa_nil)) pa_nil))) (nomark _)))))))))), ?_⟩
    -- kept, rest
    refine ⟨_, rfl, p, datS sd, rfl, hs.dp, side_show ok, side_dict sd, side_deep sd, side_fits ok, ?_⟩
    refine ⟨_, rfl, _, sd, rfl, hs, fun v1 H1 s1 h1 => ?_⟩
    obtain ⟨pr, rfl⟩ := h1.ref
    -- the three looks
    refine ⟨_, rfl, pr, datS (rest sd), rfl, h1.dp, side_show okr, side_dict _, side_deep _, side_fits okr, ?_⟩
    refine ⟨_, rfl, _, sd, rfl, hs.same s1, fun v2 H2 s2 h2 => ?_⟩
    obtain ⟨pd, rfl⟩ := h2.ref
    refine ⟨pd, datS (rest sd), rfl, h2.dp, side_show okr, side_dict _, side_deep _, side_fits okr, rfl, _, rfl, iteN (nd_self _) ?_⟩
    refine ⟨_, rfl, _, rest sd, rfl, h1.same s2, okr, fun H3 s3 => ⟨true, true, rfl, rfl, _, rfl, iteN rfl ?_⟩⟩
    have s03 : Same H H3 := (s1.trans s2).trans s3
    have s13 : Same H1 H3 := s2.trans s3
    refine ⟨_, rfl, p, datS sd, rfl, (hs.same s03).dp, side_show ok, side_dict sd, side_deep sd, side_fits ok, _, rfl, rfl, _, rfl, iteN (nd_self _) ?_⟩
    have a3 := hs.same s03
    have r3 := h1.same s13
    have p3 := hP.same s03
    have L3 := hL.same s03
    clear hs h1 h2 hP hL s13 s1 s2 s3
    generalize H3 = H0 at s03 a3 r3 p3 L3 ⊢
    -- the sizes
    refine ⟨_, rfl, _, sd, rfl, a3, ok, fun v4 H4 s4 h4 => ?_⟩
    refine ⟨_, rfl, _, rest sd, rfl, r3.same s4, okr, fun v5 H5 s5 h5 => ?_⟩
    refine ⟨v4, v5, _, _, rfl, h4.same s5, h5, (size_bd ok).mono (by decide), (size_bd okr).mono (by decide), fun v6 H6 s6 h6 => ?_⟩
    refine ⟨(by show 2 ≤ sizeLine; decide), fun o no => ⟨_, 1, h6.same (same_new no), Fq.new (q := 1), _, rfl, iteN (nd_eq (size_rest ok)) ?_⟩⟩
    have s07 : Same H0 (upd H6 o (.tup [.int 1, .int 1])) := ((s4.trans s5).trans s6).trans (same_new no)
    generalize upd H6 o (.tup [.int 1, .int 1]) = H7 at s07 ⊢
    refine ⟨_, rfl, _, rest sd, rfl, r3.same s07, fun v8 H8 s8 h8 => ?_⟩
    refine ⟨v8, rest (rest sd), rfl, h8, rest_ok okr, fun v9 H9 s9 h9 => ?_⟩
    refine ⟨_, rfl, _, sd, rfl, a3.same ((s07.trans s8).trans s9), ok, fun v10 H10 s10 h10 => ?_⟩
    refine ⟨_, _, h9.same s10, h10, _, rfl, iteN (nd_eq (size_back ok)) ?_⟩
    have sA : Same H0 H10 := ((s07.trans s8).trans s9).trans s10
    have a4 := a3.same sA
    have r4 := r3.same sA
    have p4 := p3.same sA
    have L4 := L3.same sA
    have sB : Same H H10 := s03.trans sA
    clear a3 r3 p3 L3 sA s03 h4 h5 h6 h8 h9 h10 s4 s5 s6 s07 s8 s9 s10
    generalize H10 = H0 at a4 r4 p4 L4 sB ⊢
    -- the marks
    obtain ⟨xs, hx, fx⟩ := L4
    have lx : xs.length = ms.length := paired_len fx
    refine ⟨_, rfl, l, rfl, ⟨xs, .of hx⟩, fun D hD => ?_⟩
    refine lc_list (K := K) (a := l) (xs := xs) (fun i H' => Same H0 H' ∧ H' D = some (.lst [])) ⟨same_new hD, upd_same⟩ (fun i H' _ h => .of (h.1 _ _ hx)) ?_ ?_
    · rintro i z H' hi ⟨sm, hd⟩
      obtain ⟨a, g1, g2⟩ := paired_get fx hi
      refine ⟨rfl, _, rfl, _, rfl, _, rfl, z, _, _, a, sd, rfl, g2.same sm, nm a (List.mem_of_getElem? g1), a4.same sm, r4.same sm, ok, fun H2 s2 => ⟨_, rfl, ?_⟩⟩
      exact ⟨sm.trans s2, s2 _ _ hd⟩
    · rintro H1 ⟨s1, hd⟩
      refine ⟨Nat.zero_le _, fun e ne => ?_⟩
      have s2 : Same H1 (upd H1 e (.lst [])) := same_new ne
      refine ⟨D, e, [], [], rfl, rfl, .of (s2 _ _ hd), upd_same, .nil, (fun _ hq => absurd hq List.not_mem_nil), _, rfl, iteN rfl ?_⟩
      have s12 := s1.trans s2
      have a5 := a4.same s12
      have r5 := r4.same s12
      have p5 := p4.same s12
      have sC : Same H (upd H1 e (.lst [])) := sB.trans s12
      clear a4 r4 p4 hx fx hd s12 s1 s2 sB
      generalize upd H1 e (.lst []) = H2 at a5 r5 p5 sC ⊢
      have bx : ∀ {H' : Hp} {o : Addr} {z : V} {t : Side}, H' o = none → Sq K H' z t → Bq K (upd H' o (.tup [z])) (.ref o) t := fun {H' o z t} n h => ⟨o, z, rfl, .of upd_same, h.same (same_new n)⟩
      -- over and lack
      refine ⟨_, rfl, _, rfl, (by show 1 ≤ sizeLine; decide), fun o1 n1 => ?_⟩
      have t1 : Same H2 (upd H2 o1 (.tup [.ref p])) := same_new n1
      refine ⟨x, .ref o1, qs, sd, rfl, p5.same t1, bx n1 a5, nu, l0, l12, ok, fun v3 H3 t2 h3 => ?_⟩
      have t3 := t1.trans t2
      refine ⟨_, rfl, _, rfl, (by show 1 ≤ sizeLine; decide), fun o2 n2 => ?_⟩
      have t4 : Same H3 (upd H3 o2 (.tup [.ref pr])) := same_new n2
      refine ⟨x, .ref o2, qs, rest sd, rfl, (p5.same t3).same t4, bx n2 (r5.same t3), nu, l0, l12, okr, fun v4 H4 t5 h4 => ?_⟩
      refine ⟨_, _, (h3.same t4).same t5, h4, _, rfl, iteN (nd_eq (over_lack nu l0 ok)) ?_⟩
      have t6 := (t3.trans t4).trans t5
      refine ⟨_, rfl, _, rfl, (by show 1 ≤ sizeLine; decide), fun o3 n3 => ?_⟩
      have t7 : Same H4 (upd H4 o3 (.tup [.ref p])) := same_new n3
      refine ⟨x, .ref o3, qs, sd, rfl, (p5.same t6).same t7, bx n3 (a5.same t6), nu, l0, l12, ok, fun v5 H5 t8 h5 => ?_⟩
      have t9 := (t6.trans t7).trans t8
      refine ⟨_, rfl, _, rfl, (by show 1 ≤ sizeLine; decide), fun o4 n4 => ?_⟩
      have tA : Same H5 (upd H5 o4 (.tup [.ref pr])) := same_new n4
      refine ⟨x, .ref o4, qs, rest sd, rfl, (p5.same t9).same tA, bx n4 (r5.same t9), nu, l0, l12, okr, fun v6 H6 tB h6 => ?_⟩
      refine ⟨_, _, (h5.same tA).same tB, h6, _, rfl, iteN (nd_eq (lack_over nu l0 ok)) ?_⟩
      have tC := (t9.trans tA).trans tB
      have a6 := a5.same tC
      have r6 := r5.same tC
      have p6 := p5.same tC
      have sD : Same H H6 := sC.trans tC
      clear a5 r5 p5 h3 h4 h5 h6 t1 t2 t3 t4 t5 t6 t7 t8 t9 tA tB tC sC
      -- the misses
      refine ⟨(by show 2 ≤ sizeLine; decide), fun o5 n5 => ?_⟩
      have u1 : Same H6 (upd H6 o5 (.tup [.int 0, .int 1])) := same_new n5
      have z0 : Fq K (upd H6 o5 (.tup [.int 0, .int 1])) (.ref o5) 0 := Fq.new (q := 0)
      generalize upd H6 o5 (.tup [.int 0, .int 1]) = H7 at u1 z0 ⊢
      refine ⟨_, rfl, _, rfl, (by show 1 ≤ sizeLine; decide), fun o6 n6 => ?_⟩
      have u2 : Same H7 (upd H7 o6 (.tup [.ref p])) := same_new n6
      refine ⟨x, .ref o6, qs, sd, rfl, (p6.same u1).same u2, bx n6 (a6.same u1), nu, l0, l12, ok, fun v8 H8 u3 h8 => ?_⟩
      refine ⟨.ref o5, v8, 0, _, rfl, (z0.same u2).same u3, h8, bd0, (miss_bd l0 l12 ok).mono (by decide), fun v9 H9 u4 h9 => ?_⟩
      have u5 := ((u1.trans u2).trans u3).trans u4
      refine ⟨_, rfl, _, rfl, (by show 1 ≤ sizeLine; decide), fun o7 n7 => ?_⟩
      have u6 : Same H9 (upd H9 o7 (.tup [.ref pr])) := same_new n7
      refine ⟨x, .ref o7, qs, rest sd, rfl, (p6.same u5).same u6, bx n7 (r6.same u5), nu, l0, l12, okr, fun v10 H10 u7 h10 => ?_⟩
      refine ⟨_, _, (h9.same u6).same u7, h10, ?_⟩
      have e : decide ((0 : Rat) - miss qs sd = miss qs (rest sd)) = true := decide_eq_true (miss_rest nu l0 ok)
      show Q (.bl (decide ((0 : Rat) - miss qs sd = miss qs (rest sd)))) H10
      rw [e]
      exact q H10 ((sD.trans u5).trans (u6.trans u7))
end
end K12

set_option Elab.async false
set_option linter.all false
set_option maxRecDepth 100000
set_option maxHeartbeats 8000000
/-! The law. -/
namespace K12
open PySem PySem.Spec PyProof.Rows L2
section
variable {P : Program} {w : World} {K : PySem.W.Frag} {mg : Str → Option Value} {base : Heap} {f : Addr} {fd : FuncData} {H H' : Hp}
theorem Qs.tk {v : V} {qs : List Rat} (t : Tk H H') (h : Qs K H v qs) : Qs K H' v qs := by
  obtain ⟨p, ps, e, a, b⟩ := h
  exact ⟨p, ps, e, t.sq a, b.tk t⟩
def qTop : Rat := ⟨999999999998, 999999999999, by decide, by decide +kernel⟩
theorem nu_top : Nu qTop := nu_mk (by decide +kernel) (by decide +kernel) (by decide +kernel)
theorem nu_of {q : Rat} (h : Ed q) (h0 : 0 ≤ q.num) (h1 : q.num < (q.den : Int)) : Nu q := by
  refine nu_mk (Rat.num_nonneg.mp h0) ?_ h.2.2.2
  rw [Rat.lt_iff]
  have e3 : (1 : Rat).num = 1 := rfl
  have e4 : (1 : Rat).den = 1 := rfl
  rw [e3, e4]
  omega
theorem scLaw : FnScope ["_law_script", "_law_reel_here", "_law_turn", "_law_spots", "_law_some", "_law_word", "_law_side_here", "_law_marks", "_law_point", "_law_one", "_law_k"] ["_law_script"] (C8.fnScope stLaw) := C8.fnScope_by (by decide +kernel)
def spLaw (K : PySem.W.Frag) : Sp := fun vs H Q _ => ∃ (a : Addr) (ns : List Int), vs = [.ref a] ∧ SqL K H a (ns.map V.int) ∧ ns.length ≤ 63 ∧ ∀ H', Q (.bl true) H'
theorem calLaw {fR : Addr} (F : C8.Def K mg "law" stLaw f fd) (b : Binds K fd ["_law_script"] []) (M : Bt mg)
    (c__law_reel : C8.Cal P w K mg base 1 "_law_reel" (spReel K) []) (c__law_points : C8.Cal P w K mg base 3 "_law_points" (spPoints K) []) (c__law_side : C8.Cal P w K mg base 4 "_law_side" (spLSide K) [])
    (c__law_number : C8.Cal P w K mg base 2 "_law_number" (spNumber K) []) (m__law_right : mg "_law_right" = some (.ref fR)) (c__law_right : CalG P w K mg base 7 fR (spRight K)) : CalG P w K mg base 8 f (spLaw K) := by
  refine calG0 F b scLaw (fun vs H Q E h => ?_) (fun cdv A outer s H vs Q hg hr h => ?_)
  · obtain ⟨a, ns, rfl, _⟩ := h
    rfl
  · obtain ⟨a, ns, rfl, hS, l63, q⟩ := h
    refine ⟨_, (pss_cons (ps_set (i := 1) scLaw.nd rfl (.inr rfl) (C8.pe_c c__law_reel hr (by decide) rfl (pa_cons (pv 0) pa_nil)))
      (pss_cons (ps_for PassesOwn.never rfl (pi_range1 (by rfl) M.b_range (pa_cons pe_int pa_nil)) (pg_name (i := 2) scLaw.nd rfl (.inl rfl))
      (pss_cons (ps_set (i := 3) scLaw.nd rfl (.inl rfl) (C8.pe_c c__law_points hr (by decide) rfl (pa_cons (pv 1) (pa_cons pe_int (pa_cons pe_int pa_nil)))))
      (pss_cons (ps_setLc (i := 4) (own := [("_law_point", 8)]) (g := gName 8) (tt := tYes) rfl scLaw.nd rfl rfl (sw_true rfl rfl rfl (by decide +kernel)) (pi_tup (pv 3)) (blkOk_by (N := ["_law_script", "_law_reel_here", "_law_turn", "_law_spots", "_law_some", "_law_word", "_law_side_here", "_law_marks", "_law_point", "_law_one", "_law_k"]) (sc := C8.fnScope stLaw) (by decide +kernel)) (fun _ _ _ _ _ => pg_name (i := 8) scLaw.nd rfl (Or.inl rfl)) (fun _ _ _ _ _ => pts_nil) (fun _ _ _ _ _ => (pe_ix (r := rIxT K) ix_tup (pv 8) pe_int (fun _ _ => rfl))))
      (pss_one (ps_for PassesOwn.never rfl (pi_tup (pe_tup (pa_cons pe_str (pa_cons pe_str (pa_cons pe_str pa_nil))))) (pg_name (i := 5) scLaw.nd rfl (.inl rfl))
      (pss_cons (ps_set (i := 6) scLaw.nd rfl (.inl rfl) (C8.pe_c c__law_side hr (by decide) rfl (pa_cons (pv 1) (pa_cons (pv 4) (pa_cons (pv 5) pa_nil)))))
      (pss_cons (ps_set (i := 7) scLaw.nd rfl (.inl rfl) (pe_op op_cat (pe_op op_cat (pv 4) (pe_lc (own := [("_law_one", 9)]) (g := gName 9) rfl scLaw.nd (pi_tup (pe_slice sl_tup (pv 6) (po_some pe_int) po_none)) (blkOk_by (N := ["_law_script", "_law_reel_here", "_law_turn", "_law_spots", "_law_some", "_law_word", "_law_side_here", "_law_marks", "_law_point", "_law_one", "_law_k"]) (sc := C8.fnScope stLaw) (by decide +kernel)) (fun _ _ _ _ _ => pg_name (i := 9) scLaw.nd rfl (Or.inl rfl)) (fun _ _ _ _ _ => pts_one (pt_chain op_le op_lt pe_int (pe_ix (r := rIxT K) ix_tup (pv 9) pe_int (fun _ _ => rfl)) (pe_ix (r := rIxT K) ix_tup (pv 9) pe_int (fun _ _ => rfl)))) (fun _ _ _ _ _ => (pv 9)))) (pe_lst (pa_cons (pe_tup (pa_cons pe_int (pa_cons pe_int pa_nil))) (pa_cons (pe_tup (pa_cons (pe_op op_sub (pe_op op_pow pe_int pe_int) pe_int) (pa_cons (pe_op op_sub (pe_op op_pow pe_int pe_int) pe_int) pa_nil))) pa_nil)))))
      (pss_one (ps_if (pt_not (pt_val (pe_callG c__law_right hg hr (by decide) m__law_right rfl (pa_cons (pv 3) (pa_cons (pv 6) (pa_cons (pe_op op_cat (pv 7) (pe_lc (own := [("_law_k", 10)]) (g := gName 10) (tt := tYes) rfl scLaw.nd (pi_range1 (by rfl) M.b_range (pa_cons pe_int pa_nil)) (blkOk_by (N := ["_law_script", "_law_reel_here", "_law_turn", "_law_spots", "_law_some", "_law_word", "_law_side_here", "_law_marks", "_law_point", "_law_one", "_law_k"]) (sc := C8.fnScope stLaw) (by decide +kernel)) (fun _ _ _ _ _ => pg_name (i := 10) scLaw.nd rfl (Or.inl rfl)) (fun _ _ _ _ _ => pts_nil) (fun _ _ _ _ _ => (C8.pe_c c__law_number hr (by decide) rfl (pa_cons (pv 1) pa_nil))))) pa_nil)))))) (pss_one (ps_ret pe_bl)) pss_nil)))))))))
      (pss_one (ps_ret pe_bl)))), ?_⟩
    refine ⟨_, rfl, a, ns, rfl, hS, l63, fun r c H1 R1 => ?_⟩
    refine ⟨5, rfl, by decide, by decide, ?_⟩
    refine for_range (lo := 0) (n := 5) (fun i σ H' => ∃ y2 y3 y4 y5 y6 y7 y8 y9 y10, σ = [some (.ref a), some (.ref r), y2, y3, y4, y5, y6, y7, y8, y9, y10] ∧ Reel H' r c ns)
      ⟨none, none, none, none, none, none, none, none, none, rfl, R1⟩ ?_ (fun σ H' _ => q H')
    rintro i σ H2 hi ⟨y2, y3, y4, y5, y6, y7, y8, y9, y10, rfl, R2⟩
    -- spots
    refine ⟨_, rfl, r, c, ns, rfl, R2, fun v H3 qs R3 b3 hP nu l0 l12 => ?_⟩
    obtain ⟨p, ps, rfl, sp, hp⟩ := id hP
    have lp : ps.length = qs.length := paired_len hp
    -- some
    refine ⟨_, rfl, p, rfl, ⟨_, sp⟩, fun D hD => ?_⟩
    refine lc_tup (K := K) (a := p) (xs := ps) (fun j H' => Same H3 H' ∧ ∃ acc, H' D = some (.lst acc) ∧ FsOf K H' acc (qs.take j)) ⟨same_new hD, [], upd_same, .nil⟩ (fun j H' _ h => (Tk.of h.1).sq sp) ?_ ?_
    · rintro j x H' hj ⟨sm, acc, hd, hf⟩
      obtain ⟨q', g1, pt, z, rfl, sq, fz⟩ := paired_get hp hj
      have la : acc.length = (qs.take j).length := paired_len hf
      rw [List.length_take] at la
      have tk : Tk H' (upd H' D (.lst (acc ++ [z]))) := .sb sb_upd (.lst hd)
      refine ⟨rfl, _, rfl, pt, _, 0, _, rfl, rfl, (Tk.of sm).sq sq, rfl, acc, hd, small1000 (by omega), same_at sm hD, acc ++ [z], upd_same, ?_⟩
      rw [List.take_add_one, g1]
      exact paired_app (FsOf.tk tk hf) (.cons ((fz.same sm).tk tk) .nil)
    rintro H4 ⟨sm, acc, hd, hf⟩
    rw [lp, List.take_length] at hf
    have L4 : Fl K H4 D qs := ⟨acc, hd, hf⟩
    have R4 := R3.same sm
    have P4 := hP.same sm
    clear hf hd sm hP sp hp R2 R3 b3 R1 hS hD
    -- the words
    refine ⟨(by show 3 ≤ sizeLine; decide), fun T nT => ⟨T, rfl, ⟨_, .of upd_same⟩, ?_⟩⟩
    have sT : Same H4 (upd H4 T (.tup [.str "to", .str "from", .str "round"])) := same_new nT
    refine for_tup (K := K) (a := T) (xs := [.str "to", .str "from", .str "round"]) (fun k σ H' => ∃ y5 y6 y7 y8 y9 y10, σ = [some (.ref a), some (.ref r), some (.int (0 + (i : Int))), some (.ref p), some (.ref D), y5, y6, y7, y8, y9, y10] ∧
        Reel H' r c ns ∧ Qs K H' (.ref p) qs ∧ Fl K H' D qs ∧ SqT K H' T [.str "to", .str "from", .str "round"])
      ⟨y5, y6, y7, y8, y9, y10, rfl, R4.same sT, P4.same sT, L4.same sT, .of upd_same⟩ (fun k σ H' _ ⟨_, _, _, _, _, _, _, _, _, _, h⟩ => h) ?_ ?_
    · rintro k x σ H5 hk ⟨z5, z6, z7, z8, z9, z10, rfl, R5, P5, L5, T5⟩
      obtain ⟨wd, rfl, hw⟩ : ∃ wd : Str, x = .str wd ∧ (wd = "to" ∨ wd = "from" ∨ wd = "round") := by
        match k, hk with
        | 0, hk => exact ⟨"to", (Option.some.inj hk).symm, .inl rfl⟩
        | 1, hk => exact ⟨"from", (Option.some.inj hk).symm, .inr (.inl rfl)⟩
        | 2, hk => exact ⟨"round", (Option.some.inj hk).symm, .inr (.inr rfl)⟩
        | k + 3, hk => simp at hk
      -- the side
      refine ⟨_, rfl, _, rfl, _, rfl, r, c, ns, D, qs, wd, rfl, hw, R5, L5, nu, l12, fun v H6 sd R6 b6 hs ok => ?_⟩
      have P6 := P5.tk (R5.tk b6)
      have L6 := L5.sb R5 b6
      have T6 := (R5.tk b6).sq T5
      clear R5 P5 L5 T5 b6
      obtain ⟨pS, xS, rfl, sqS, fS⟩ := sq_open hs
      have lS : xS.length = 1 ∨ xS.length = 2 := by
        rw [show xS.length = (nums sd).length from paired_len fS]
        exact nums_len sd
      -- the marks
      refine ⟨_, rfl, _, rfl, 1, rfl, pS, _, rfl, sqS, not_whole lS, fun e ne => ?_⟩
      have s7 : Same H6 (upd H6 e (.tup (cutV (V.str (word sd) :: xS) (some 1) none))) := same_new ne
      rw [cut_side lS] at s7 ⊢
      have sqe : SqT K (upd H6 e (.tup xS)) e xS := .of upd_same
      have R7 := R6.same s7
      have P7 := P6.same s7
      have L7 := L6.same s7
      have T7 := (Tk.of s7).sq T6
      have h7 := hs.same s7
      have f7 : FsOf K (upd H6 e (.tup xS)) xS (nums sd) := fS.tk (.of s7)
      generalize upd H6 e (.tup xS) = H7 at s7 sqe R7 P7 L7 T7 h7 f7 ⊢
      refine ⟨e, rfl, ⟨_, sqe⟩, fun D2 hD2 => ?_⟩
      refine lc_tup (K := K) (a := e) (xs := xS) (fun j H' => Same H7 H' ∧ ∃ acc ms, H' D2 = some (.lst acc) ∧ FsOf K H' acc ms ∧ (∀ m ∈ ms, Nu m) ∧ ms.length ≤ j)
        ⟨same_new hD2, [], [], upd_same, .nil, (fun _ hm => absurd hm List.not_mem_nil), Nat.le_refl _⟩ (fun j H' _ h => (Tk.of h.1).sq sqe) ?_ ?_
      · rintro j x H' hj ⟨sm, acc, ms, hd, hf, nm, lm⟩
        obtain ⟨q', g1, pt, rfl, sq⟩ := paired_get f7 hj
        have sq' := (Tk.of sm).sq sq
        have hjl := (List.getElem?_eq_some_iff.mp hj).1
        have la : acc.length = ms.length := paired_len hf
        have keep : Same H7 H' ∧ ∃ acc ms, H' D2 = some (.lst acc) ∧ FsOf K H' acc ms ∧ (∀ m ∈ ms, Nu m) ∧ ms.length ≤ j + 1 := ⟨sm, acc, ms, hd, hf, nm, by omega⟩
        refine ⟨rfl, _, rfl, pt, _, 0, _, rfl, rfl, sq', rfl, _, _, rfl, rfl, _, rfl, ite2 (fun hc => ?_) (fun hc => ⟨_, rfl, keep⟩)⟩
        refine ⟨_, rfl, pt, _, 1, _, rfl, rfl, sq', rfl, _, _, rfl, rfl, _, rfl, ite2 (fun he => ?_) (fun he => keep)⟩
        have tk : Tk H' (upd H' D2 (.lst (acc ++ [.ref pt]))) := .sb sb_upd (.lst hd)
        refine ⟨_, rfl, acc, hd, small1000 (by omega), same_at sm hD2, acc ++ [.ref pt], ms ++ [q'], upd_same, paired_app (FsOf.tk tk hf) (.cons ⟨pt, rfl, tk.sq sq'⟩ .nil), ?_, ?_⟩
        · intro m hm
          rcases List.mem_append.mp hm with h | h
          · exact nm m h
          · obtain rfl := List.mem_singleton.mp h
            exact nu_of (nums_ok ok _ (List.mem_of_getElem? g1)) (of_decide_eq_true hc) (of_decide_eq_true he)
        · rw [List.length_append]
          show ms.length + 1 ≤ j + 1
          omega
      rintro H8 ⟨s8, acc, ms, hd, hf, nm, lm⟩
      have lm2 : ms.length ≤ 2 := by omega
      have R8 := R7.same s8
      have P8 := P7.same s8
      obtain ⟨xL, hL, fL⟩ := L7.same s8
      have T8 := (Tk.of s8).sq T7
      have h8 := h7.same s8
      have e1 : xL.length = qs.length := paired_len fL
      have e2 : acc.length = ms.length := paired_len hf
      clear R7 P7 L7 T7 h7 s7 s8 sqe f7 hs fS sqS R6 P6 L6 T6 hD2 ne
      refine ⟨D, D2, _, _, rfl, rfl, hL, hd, Nat.le_of_lt (small1000 (by omega)), fun p1 n1 => ?_⟩
      have s9 : Same H8 (upd H8 p1 (.lst (xL ++ acc))) := same_new n1
      have hp1 : upd H8 p1 (.lst (xL ++ acc)) p1 = some (.lst (xL ++ acc)) := upd_same
      have fp1 : FsOf K (upd H8 p1 (.lst (xL ++ acc))) (xL ++ acc) (qs ++ ms) := paired_app (FsOf.tk (.of s9) fL) (FsOf.tk (.of s9) hf)
      have L9 : Fl K (upd H8 p1 (.lst (xL ++ acc))) D qs := Fl.same ⟨xL, hL, fL⟩ s9
      generalize upd H8 p1 (.lst (xL ++ acc)) = H9 at s9 hp1 fp1 L9 ⊢
      refine ⟨(by show 2 ≤ sizeLine; decide), fun o1 m1 => ?_⟩
      have sA : Same H9 (upd H9 o1 (.tup [.int 0, .int 1])) := same_new m1
      have z0 : Fq K (upd H9 o1 (.tup [.int 0, .int 1])) (.ref o1) 0 := Fq.new (q := 0)
      generalize upd H9 o1 (.tup [.int 0, .int 1]) = HA at sA z0 ⊢
      refine ⟨_, _, rfl, rfl, ⟨by decide, by decide, by decide⟩, _, _, rfl, rfl, _, _, rfl, rfl, ⟨by decide, by decide, by decide⟩, _, _, rfl, rfl, (by show 2 ≤ sizeLine; decide), fun o2 m2 => ?_⟩
      have sB : Same HA (upd HA o2 (.tup [.int (10 ^ (12 : Int).toNat - 2), .int (10 ^ (12 : Int).toNat - 1)])) := same_new m2
      have zT : Fq K (upd HA o2 (.tup [.int (10 ^ (12 : Int).toNat - 2), .int (10 ^ (12 : Int).toNat - 1)])) (.ref o2) qTop := Fq.new (q := qTop)
      generalize upd HA o2 (.tup [.int (10 ^ (12 : Int).toNat - 2), .int (10 ^ (12 : Int).toNat - 1)]) = HB at sB zT ⊢
      refine ⟨(by show 2 ≤ sizeLine; decide), fun o3 m3 => ?_⟩
      have sC : Same HB (upd HB o3 (.lst [.ref o1, .ref o2])) := same_new m3
      have s9C : Same H9 (upd HB o3 (.lst [.ref o1, .ref o2])) := (sA.trans sB).trans sC
      refine ⟨p1, o3, _, _, rfl, rfl, s9C _ _ hp1, upd_same, Nat.le_of_lt (small1000 (by rw [List.length_append]; show xL.length + acc.length + 2 ≤ 1000; omega)), fun p2 n2 => ?_⟩
      have sD : Same (upd HB o3 (.lst [.ref o1, .ref o2])) (upd (upd HB o3 (.lst [.ref o1, .ref o2])) p2 (.lst ((xL ++ acc) ++ [.ref o1, .ref o2]))) := same_new n2
      have sE : Same H8 (upd (upd HB o3 (.lst [.ref o1, .ref o2])) p2 (.lst ((xL ++ acc) ++ [.ref o1, .ref o2]))) := (s9.trans s9C).trans sD
      have hE : upd (upd HB o3 (.lst [.ref o1, .ref o2])) p2 (.lst ((xL ++ acc) ++ [.ref o1, .ref o2])) p2 = some (.lst ((xL ++ acc) ++ [.ref o1, .ref o2])) := upd_same
      have fE : FsOf K (upd (upd HB o3 (.lst [.ref o1, .ref o2])) p2 (.lst ((xL ++ acc) ++ [.ref o1, .ref o2]))) ((xL ++ acc) ++ [.ref o1, .ref o2]) ((qs ++ ms) ++ [0, qTop]) :=
        paired_app (FsOf.tk (.of (s9C.trans sD)) fp1) (.cons ((((z0.same sB).same sC)).same sD) (.cons ((zT.same sC).same sD) .nil))
      have LE : Fl K (upd (upd HB o3 (.lst [.ref o1, .ref o2])) p2 (.lst ((xL ++ acc) ++ [.ref o1, .ref o2]))) D qs := L9.same (s9C.trans sD)
      generalize upd (upd HB o3 (.lst [.ref o1, .ref o2])) p2 (.lst ((xL ++ acc) ++ [.ref o1, .ref o2])) = HE at sD sE hE fE LE ⊢
      have RE := R8.same sE
      have PE' := P8.same sE
      have TE' := (Tk.of sE).sq T8
      have hsE := h8.same sE
      clear s9 hp1 fp1 L9 sA z0 sB zT sC s9C sD sE R8 P8 T8 h8 hL fL hd hf n2 m3 m2 m1 n1
      -- the look
      refine ⟨_, rfl, _, rfl, _, rfl, 4, rfl, by decide, by decide, fun D3 hD3 => ?_⟩
      have nr := RE.nr hD3
      have nc := RE.nc hD3
      have s0 : Same HE (upd HE D3 (.lst [])) := same_new hD3
      refine lc_range (lo := 0) (n := 4) (fun j H' => Reel H' r c ns ∧ Sb r HE H' ∧ ∃ acc ks, H' D3 = some (.lst acc) ∧ FsOf K H' acc ks ∧ (∀ m ∈ ks, Nu m) ∧ ks.length = j)
        ⟨RE.same s0, .of s0, [], [], upd_same, .nil, (fun _ hm => absurd hm List.not_mem_nil), rfl⟩ ?_ ?_
      · rintro j H' hj ⟨R', b', ac, ks, hd, hf, nk, lk⟩
        have la : ac.length = ks.length := paired_len hf
        refine ⟨rfl, _, rfl, r, c, ns, rfl, R', fun z Hz q' Rz bz hz nz => ?_⟩
        have hdz := bz _ _ nr hd
        have tk : Tk Hz (upd Hz D3 (.lst (ac ++ [z]))) := .sb sb_upd (.lst hdz)
        refine ⟨ac, hdz, small1000 (by omega), Rz.upd nr nc, sb_new (b'.trans bz) hD3, ac ++ [z], ks ++ [q'], upd_same, paired_app (FsOf.tk tk (FsOf.tk (R'.tk bz) hf)) (.cons (hz.tk tk) .nil), ?_, ?_⟩
        · intro m hm
          rcases List.mem_append.mp hm with h | h
          · exact nk m h
          · obtain rfl := List.mem_singleton.mp h
            exact nz
        · rw [List.length_append, lk]
          rfl
      rintro HF ⟨RF, bF, ac, ks, hd, hf, nk, lk⟩
      have la : ac.length = ks.length := paired_len hf
      have tF := RE.tk bF
      have hEF := bF _ _ (RE.lr hE) hE
      have lE : ((xL ++ acc) ++ [V.ref o1, V.ref o2]).length ≤ 100 := by
        rw [List.length_append, List.length_append]
        show xL.length + acc.length + 2 ≤ 100
        omega
      refine ⟨p2, D3, _, _, rfl, rfl, hEF, hd, Nat.le_of_lt (small1000 (by omega)), fun p3 n3 => ?_⟩
      have sG : Same HF (upd HF p3 (.lst (((xL ++ acc) ++ [.ref o1, .ref o2]) ++ ac))) := same_new n3
      refine ⟨.ref p, .ref pS, p3, qs, sd, ((qs ++ ms) ++ [0, qTop]) ++ ks, rfl, (PE'.tk tF).same sG, nu, l0, l12, (hsE.tk tF).same sG, ok, ⟨_, upd_same, paired_app (FsOf.tk (tF.trans (.of sG)) fE) (FsOf.tk (.of sG) hf)⟩, ?_, ?_, fun HG sH => ?_⟩
      · intro m hm
        simp only [List.mem_append, List.mem_cons, List.not_mem_nil, or_false] at hm
        rcases hm with ((h | h) | (h | h)) | h
        · exact nu m h
        · exact nm m h
        · rw [h]
          exact nu_zero
        · rw [h]
          exact nu_top
        · exact nk m h
      · rw [List.length_append, List.length_append, List.length_append]
        show qs.length + ms.length + 2 + ks.length ≤ 1000
        omega
      · have sI := sG.trans sH
        refine ⟨_, rfl, ?_⟩
        exact ⟨_, _, _, _, _, _, rfl, RF.same sI, (PE'.tk tF).same sI, (LE.sb RE bF).same sI, (Tk.of sI).sq (tF.sq TE')⟩
    · rintro σ H5 ⟨z5, z6, z7, z8, z9, z10, rfl, R5, _⟩
      exact ⟨_, _, _, _, _, _, _, _, _, rfl, R5⟩
end
end K12

set_option Elab.async false
set_option linter.all false
set_option maxRecDepth 100000
set_option maxHeartbeats 4000000
/-! The law's call from outside; what the top has left; the end. -/
namespace K12
open PySem PySem.Spec PyProof.Rows L2
section
/-- the law called, over an abstract heap that holds the script at most -/
theorem call_at {P : Program} {w : World} {K : PySem.W.Frag} {mg mb : Str → Option Value} {fa a : Addr} {s : Shared} {vs : List Value} {ns : List Int} {H : Hp}
    (inK : K.In s.heap) (hn : s.heap.Ns mainGlobals mg) (hb : s.heap.Ns builtinsNs mb) (hbb : ∀ x : Str, x ≠ "__name__" → mb x = bootBuiltins x) (noL : s.heap.NoLimit) (hg : s.gens = #[])
    (ha : s.heap.get? a = some { cls := .type "list", data := .seq vs.toArray }) (h63 : ns.length ≤ 63) (F : ∀ base, CalG P w K mg base 8 fa (spLaw K))
    (only : ∀ b u, H b = some u → b = a ∧ K.lookup a = none ∧ u = .frz { cls := .type "list", data := .seq vs.toArray } (.lst (ns.map V.int))) (hS : SqL K H a (ns.map V.int)) (hok : HOk P w H s.heap) :
    codeAny (model P w) callerA (.call (.ref fa) ⟨[.ref a], []⟩) (fun r s' => r = .ok (.ret (.bool true)) ∧ OldK s.heap s'.heap ∧ s'.os = s.os ∧ AllBare s'.gens) s := by
  have free : ∀ {b : Addr} {o : Obj} {es : Array DictEntry} {ep : Nat}, s.heap.get? b = some o → o.data = .dict es ep → H b = none := by
    intro b o es ep e1 e2
    cases q : H b with
    | none => rfl
    | some u =>
      obtain ⟨rfl, _, _⟩ := only b u q
      rw [ha] at e1
      cases e1
      cases e2
  have nsB : ∀ {b : Addr} {m : Str → Option Value}, s.heap.Ns b m → (hidT s.heap H).Ns b m := by
    rintro b m ⟨o, es, ep, e1, e2, r⟩
    exact ⟨o, es, ep, hidT_get e1 (free e1 e2), e2, r⟩
  have inB : K.In (hidT s.heap H) := by
    intro b o e1
    refine hidT_get (inK b o e1) ?_
    cases q : H b with
    | none => rfl
    | some u =>
      obtain ⟨rfl, z, _⟩ := only b u q
      rw [z] at e1
      cases e1
  have md : Mod K mg (hidT s.heap H) := by
    refine ⟨inB, nsB hn, ⟨mb, nsB hb, hbb⟩, ?_⟩
    obtain ⟨mc, h1, h2⟩ := noL
    exact ⟨mc, nsB h1, h2⟩
  have e0 : Env0 P w K mg (hidT s.heap H) callerA [] s H := by
    refine ⟨rfl, md, fun b o e => of_hidT e, Nat.le_of_eq (hidT_size _ _), trivial, fun b hb2 => ?_, hok, .of_eq hg⟩
    cases (show b ∈ ([] : List Addr) from hb2)
  refine codeAny_mono ((F (hidT s.heap H)).run callerA [] s H [.ref a] [.ref a] (fun v _ => v = .bl true) rfl ⟨rfl, by decide, by decide⟩ e0 (.cons rfl .nil) ⟨a, ns, rfl, hS, h63, fun _ => rfl⟩) ?_
  intro r s' hq
  match r, hq with
  | .error e, hq => exact False.elim hq
  | .ok .next, hq => exact False.elim hq
  | .ok .brk, hq => exact False.elim hq
  | .ok .cont, hq => exact False.elim hq
  | .ok (.ret u), hq =>
    obtain ⟨v, H', os, bare, un, hok', rv, ev⟩ := hq
    have ev' : v = .bl true := ev
    subst ev'
    cases (show u = Value.bool true from rv)
    refine ⟨rfl, OldK.of_keep fun b o e => ?_, os, bare⟩
    cases q : H b with
    | none => exact un.keep b o e q (fun z => by cases (show b ∈ ([] : List Addr) from z)) (fun z => by cases z)
    | some u =>
      obtain ⟨rfl, _, rfl⟩ := only b u q
      obtain ⟨h1, _⟩ := hok' _ _ (un.frzs _ _ _ q)
      rw [ha] at e
      cases e
      exact h1
theorem call_law {P : Program} {w : World} {K : PySem.W.Frag} {mg mb : Str → Option Value} {fa a : Addr} {s : Shared} {vs : List Value} {ns : List Int}
    (inK : K.In s.heap) (hn : s.heap.Ns mainGlobals mg) (hb : s.heap.Ns builtinsNs mb) (hbb : ∀ x : Str, x ≠ "__name__" → mb x = bootBuiltins x) (noL : s.heap.NoLimit) (hg : s.gens = #[])
    (ha : s.heap.get? a = some { cls := .type "list", data := .seq vs.toArray }) (hi : IntsAre vs ns) (h63 : ns.length ≤ 63) (F : ∀ base, CalG P w K mg base 8 fa (spLaw K)) :
    codeAny (model P w) callerA (.call (.ref fa) ⟨[.ref a], []⟩) (fun r s' => r = .ok (.ret (.bool true)) ∧ OldK s.heap s'.heap ∧ s'.os = s.os ∧ AllBare s'.gens) s := by
  have rv := vals_ints hi
  have lv := hi.length
  have lz : ns.length ≤ sizeLine := Nat.le_of_lt (small1000 (by omega))
  cases hk : K.lookup a with
  | some o =>
    have e := inK a o hk
    rw [ha] at e
    cases e
    refine call_at (H := fun _ => none) inK hn hb hbb noL hg ha h63 F (fun b u z => nomatch z) (.inr ⟨_, vs.toArray, _, hk, rfl, rfl, rfl, ?_, by simpa using rv⟩) (fun b u z => nomatch z)
    rw [List.size_toArray, lv]
    exact lz
  | none =>
    refine call_at (H := fun b => if b = a then some (.frz { cls := .type "list", data := .seq vs.toArray } (.lst (ns.map V.int))) else none) inK hn hb hbb noL hg ha h63 F (fun b u z => ?_) (.inl (.inr ⟨_, if_pos rfl⟩)) (fun b u z => ?_)
    · by_cases hba : b = a
      · have z' := (if_pos hba).symm.trans z
        exact ⟨hba, hk, (Option.some.inj z').symm⟩
      · have z' := (if_neg hba).symm.trans z
        cases z'
    · by_cases hba : b = a
      · have z' := (if_pos hba).symm.trans z
        cases z'
        subst hba
        exact ⟨ha, by rw [List.length_map]; exact lz, vs, _, rv, ha⟩
      · have z' := (if_neg hba).symm.trans z
        cases z'
theorem walk {l : PySem.W.OpenLaw} {q : Program} {loose : List Str} {XP : (Str → Option Value) → Heap → Prop} {YP : World → Heap → Prop} {d : DefRec} {K : Params → PySem.W.Frag} (hn : l.most = some 63) (hdf : d.params.defaults = [])
    (hY : ∀ (w : World) (h : Heap), YP w h → (K w.params).In h)
    (F : ∀ (w : World) (mg : Str → Option Value) (fa : Addr) (h : Heap), (K w.params).In h → h.Ns mainGlobals mg → mg d.name = some (.ref fa) → ∀ base : Heap, CalG l.prog w (K w.params) mg base 8 fa (spLaw (K w.params))) :
    PySem.W.WalkO q loose XP YP l.row.toRowW d [] (fun f vs => PySem.call f vs) :=
  Att.attach_call hn hdf fun w s₀ s₁ mg mb fa o pm cd doc a vs ns G Y ho hd hcd hmg hobj hints hlen hg =>
    call_law (hY w _ Y) G.T.g G.T.b G.T.builtins G.T.nolimit hg hobj hints hlen (F w mg fa _ (hY w _ Y) G.T.g hmg)
theorem def_mk {K : PySem.W.Frag} {h : Heap} {mg : Str → Option Value} {x : Str} {st : Stmt} {f : Addr} {oc : Value} {od an : Option Addr} {osl : Array (Option Value)} {kV doc pm cdv ct : Value} (X : K.In h) (G : h.Ns mainGlobals mg)
    (a : PySem.W.nsIn K mainGlobals x = some (some (.ref f))) (l : K.lookup f = some ⟨oc, od, .func (PySem.W.fnOf x x (C8.fnArgs st) (C8.fnBody st) (C8.fnScope st) .none kV doc pm an cdv ct), osl⟩)
    (c : PySem.W.codeIn K cdv x = true) (k : PySem.W.keepIn K (.ref f) = true) : C8.Def K mg x st f (PySem.W.fnOf x x (C8.fnArgs st) (C8.fnBody st) (C8.fnScope st) .none kV doc pm an cdv ct) :=
  ⟨⟨oc, od, .none, kV, doc, pm, an, cdv, ct, osl, rfl, l, c⟩, PySem.W.mg_of X G a, k⟩
theorem all_mk {P : Program} {w : World} {K : PySem.W.Frag} {h : Heap} {mg : Str → Option Value} {fa : Addr} (X : K.In h) (G : h.Ns mainGlobals mg) (hfa : mg "law" = some (.ref fa))
    {f6 f7 f8 f9 f10 f11 f12 f13 f15 f18 f19 f20 f21 f22 f23 f24 f25 f26 f27 f28 f29 f30 f32 f33 f34 f35 f36 f37 f38 f39 f40 f41 f42 : Addr} {od6 od7 od8 od9 od10 od11 od12 od13 od15 od18 od19 od20 od21 od22 od23 od24 od25 od26 od27 od28 od29 od30 od32 od33 od34 od35 od36 od37 od38 od39 od40 od41 od42 an6 an7 an8 an9 an10 an11 an12 an13 an15 an18 an19 an20 an21 an22 an23 an24 an25 an26 an27 an28 an29 an30 an32 an33 an34 an35 an36 an37 an38 an39 an40 an41 an42 : Option Addr} {sl6 sl7 sl8 sl9 sl10 sl11 sl12 sl13 sl15 sl18 sl19 sl20 sl21 sl22 sl23 sl24 sl25 sl26 sl27 sl28 sl29 sl30 sl32 sl33 sl34 sl35 sl36 sl37 sl38 sl39 sl40 sl41 sl42 : Array (Option Value)}
    {oc6 oc7 oc8 oc9 oc10 oc11 oc12 oc13 oc15 oc18 oc19 oc20 oc21 oc22 oc23 oc24 oc25 oc26 oc27 oc28 oc29 oc30 oc32 oc33 oc34 oc35 oc36 oc37 oc38 oc39 oc40 oc41 oc42 kV6 kV7 kV8 kV9 kV10 kV11 kV12 kV13 kV15 kV18 kV19 kV20 kV21 kV22 kV23 kV24 kV25 kV26 kV27 kV28 kV29 kV30 kV32 kV33 kV34 kV35 kV36 kV37 kV38 kV39 kV40 kV41 kV42 dc6 dc7 dc8 dc9 dc10 dc11 dc12 dc13 dc15 dc18 dc19 dc20 dc21 dc22 dc23 dc24 dc25 dc26 dc27 dc28 dc29 dc30 dc32 dc33 dc34 dc35 dc36 dc37 dc38 dc39 dc40 dc41 dc42 pm6 pm7 pm8 pm9 pm10 pm11 pm12 pm13 pm15 pm18 pm19 pm20 pm21 pm22 pm23 pm24 pm25 pm26 pm27 pm28 pm29 pm30 pm32 pm33 pm34 pm35 pm36 pm37 pm38 pm39 pm40 pm41 pm42 cd6 cd7 cd8 cd9 cd10 cd11 cd12 cd13 cd15 cd18 cd19 cd20 cd21 cd22 cd23 cd24 cd25 cd26 cd27 cd28 cd29 cd30 cd32 cd33 cd34 cd35 cd36 cd37 cd38 cd39 cd40 cd41 cd42 ct6 ct7 ct8 ct9 ct10 ct11 ct12 ct13 ct15 ct18 ct19 ct20 ct21 ct22 ct23 ct24 ct25 ct26 ct27 ct28 ct29 ct30 ct32 ct33 ct34 ct35 ct36 ct37 ct38 ct39 ct40 ct41 ct42 : Value}
    (a6 : PySem.W.nsIn K mainGlobals "is_whole" = some (some (.ref f6)))
    (l6 : K.lookup f6 = some ⟨oc6, od6, .func (PySem.W.fnOf "is_whole" "is_whole" (C8.fnArgs stWhole) (C8.fnBody stWhole) (C8.fnScope stWhole) .none kV6 dc6 pm6 an6 cd6 ct6), sl6⟩)
    (c6 : PySem.W.codeIn K cd6 "is_whole" = true) (k6 : PySem.W.keepIn K (.ref f6) = true)
    (a7 : PySem.W.nsIn K mainGlobals "shared" = some (some (.ref f7)))
    (l7 : K.lookup f7 = some ⟨oc7, od7, .func (PySem.W.fnOf "shared" "shared" (C8.fnArgs stShared) (C8.fnBody stShared) (C8.fnScope stShared) .none kV7 dc7 pm7 an7 cd7 ct7), sl7⟩)
    (c7 : PySem.W.codeIn K cd7 "shared" = true) (k7 : PySem.W.keepIn K (.ref f7) = true)
    (a8 : PySem.W.nsIn K mainGlobals "is_fraction" = some (some (.ref f8)))
    (l8 : K.lookup f8 = some ⟨oc8, od8, .func (PySem.W.fnOf "is_fraction" "is_fraction" (C8.fnArgs stIsFrac) (C8.fnBody stIsFrac) (C8.fnScope stIsFrac) .none kV8 dc8 pm8 an8 cd8 ct8), sl8⟩)
    (c8 : PySem.W.codeIn K cd8 "is_fraction" = true) (k8 : PySem.W.keepIn K (.ref f8) = true)
    (a9 : PySem.W.nsIn K mainGlobals "fraction" = some (some (.ref f9)))
    (l9 : K.lookup f9 = some ⟨oc9, od9, .func (PySem.W.fnOf "fraction" "fraction" (C8.fnArgs stFrac) (C8.fnBody stFrac) (C8.fnScope stFrac) .none kV9 dc9 pm9 an9 cd9 ct9), sl9⟩)
    (c9 : PySem.W.codeIn K cd9 "fraction" = true) (k9 : PySem.W.keepIn K (.ref f9) = true)
    (a10 : PySem.W.nsIn K mainGlobals "plus" = some (some (.ref f10)))
    (l10 : K.lookup f10 = some ⟨oc10, od10, .func (PySem.W.fnOf "plus" "plus" (C8.fnArgs stPlus) (C8.fnBody stPlus) (C8.fnScope stPlus) .none kV10 dc10 pm10 an10 cd10 ct10), sl10⟩)
    (c10 : PySem.W.codeIn K cd10 "plus" = true) (k10 : PySem.W.keepIn K (.ref f10) = true)
    (a11 : PySem.W.nsIn K mainGlobals "less" = some (some (.ref f11)))
    (l11 : K.lookup f11 = some ⟨oc11, od11, .func (PySem.W.fnOf "less" "less" (C8.fnArgs stLess) (C8.fnBody stLess) (C8.fnScope stLess) .none kV11 dc11 pm11 an11 cd11 ct11), sl11⟩)
    (c11 : PySem.W.codeIn K cd11 "less" = true) (k11 : PySem.W.keepIn K (.ref f11) = true)
    (a12 : PySem.W.nsIn K mainGlobals "times" = some (some (.ref f12)))
    (l12 : K.lookup f12 = some ⟨oc12, od12, .func (PySem.W.fnOf "times" "times" (C8.fnArgs stTimes) (C8.fnBody stTimes) (C8.fnScope stTimes) .none kV12 dc12 pm12 an12 cd12 ct12), sl12⟩)
    (c12 : PySem.W.codeIn K cd12 "times" = true) (k12 : PySem.W.keepIn K (.ref f12) = true)
    (a13 : PySem.W.nsIn K mainGlobals "is_below" = some (some (.ref f13)))
    (l13 : K.lookup f13 = some ⟨oc13, od13, .func (PySem.W.fnOf "is_below" "is_below" (C8.fnArgs stBelow) (C8.fnBody stBelow) (C8.fnScope stBelow) .none kV13 dc13 pm13 an13 cd13 ct13), sl13⟩)
    (c13 : PySem.W.codeIn K cd13 "is_below" = true) (k13 : PySem.W.keepIn K (.ref f13) = true)
    (a15 : PySem.W.nsIn K mainGlobals "rest_of" = some (some (.ref f15)))
    (l15 : K.lookup f15 = some ⟨oc15, od15, .func (PySem.W.fnOf "rest_of" "rest_of" (C8.fnArgs stRest) (C8.fnBody stRest) (C8.fnScope stRest) .none kV15 dc15 pm15 an15 cd15 ct15), sl15⟩)
    (c15 : PySem.W.codeIn K cd15 "rest_of" = true) (k15 : PySem.W.keepIn K (.ref f15) = true)
    (a18 : PySem.W.nsIn K mainGlobals "is_edge" = some (some (.ref f18)))
    (l18 : K.lookup f18 = some ⟨oc18, od18, .func (PySem.W.fnOf "is_edge" "is_edge" (C8.fnArgs stEdge) (C8.fnBody stEdge) (C8.fnScope stEdge) .none kV18 dc18 pm18 an18 cd18 ct18), sl18⟩)
    (c18 : PySem.W.codeIn K cd18 "is_edge" = true) (k18 : PySem.W.keepIn K (.ref f18) = true)
    (a19 : PySem.W.nsIn K mainGlobals "is_side" = some (some (.ref f19)))
    (l19 : K.lookup f19 = some ⟨oc19, od19, .func (PySem.W.fnOf "is_side" "is_side" (C8.fnArgs stIsSide) (C8.fnBody stIsSide) (C8.fnScope stIsSide) .none kV19 dc19 pm19 an19 cd19 ct19), sl19⟩)
    (c19 : PySem.W.codeIn K cd19 "is_side" = true) (k19 : PySem.W.keepIn K (.ref f19) = true)
    (a20 : PySem.W.nsIn K mainGlobals "from_nought" = some (some (.ref f20)))
    (l20 : K.lookup f20 = some ⟨oc20, od20, .func (PySem.W.fnOf "from_nought" "from_nought" (C8.fnArgs stNought) (C8.fnBody stNought) (C8.fnScope stNought) .none kV20 dc20 pm20 an20 cd20 ct20), sl20⟩)
    (c20 : PySem.W.codeIn K cd20 "from_nought" = true) (k20 : PySem.W.keepIn K (.ref f20) = true)
    (a21 : PySem.W.nsIn K mainGlobals "side_size" = some (some (.ref f21)))
    (l21 : K.lookup f21 = some ⟨oc21, od21, .func (PySem.W.fnOf "side_size" "side_size" (C8.fnArgs stSize) (C8.fnBody stSize) (C8.fnScope stSize) .none kV21 dc21 pm21 an21 cd21 ct21), sl21⟩)
    (c21 : PySem.W.codeIn K cd21 "side_size" = true) (k21 : PySem.W.keepIn K (.ref f21) = true)
    (a22 : PySem.W.nsIn K mainGlobals "size_of" = some (some (.ref f22)))
    (l22 : K.lookup f22 = some ⟨oc22, od22, .func (PySem.W.fnOf "size_of" "size_of" (C8.fnArgs stSizeOf) (C8.fnBody stSizeOf) (C8.fnScope stSizeOf) .none kV22 dc22 pm22 an22 cd22 ct22), sl22⟩)
    (c22 : PySem.W.codeIn K cd22 "size_of" = true) (k22 : PySem.W.keepIn K (.ref f22) = true)
    (a23 : PySem.W.nsIn K mainGlobals "is_behind" = some (some (.ref f23)))
    (l23 : K.lookup f23 = some ⟨oc23, od23, .func (PySem.W.fnOf "is_behind" "is_behind" (C8.fnArgs stBehind) (C8.fnBody stBehind) (C8.fnScope stBehind) .none kV23 dc23 pm23 an23 cd23 ct23), sl23⟩)
    (c23 : PySem.W.codeIn K cd23 "is_behind" = true) (k23 : PySem.W.keepIn K (.ref f23) = true)
    (a24 : PySem.W.nsIn K mainGlobals "is_ahead" = some (some (.ref f24)))
    (l24 : K.lookup f24 = some ⟨oc24, od24, .func (PySem.W.fnOf "is_ahead" "is_ahead" (C8.fnArgs stAhead) (C8.fnBody stAhead) (C8.fnScope stAhead) .none kV24 dc24 pm24 an24 cd24 ct24), sl24⟩)
    (c24 : PySem.W.codeIn K cd24 "is_ahead" = true) (k24 : PySem.W.keepIn K (.ref f24) = true)
    (a25 : PySem.W.nsIn K mainGlobals "lies" = some (some (.ref f25)))
    (l25 : K.lookup f25 = some ⟨oc25, od25, .func (PySem.W.fnOf "lies" "lies" (C8.fnArgs stLies) (C8.fnBody stLies) (C8.fnScope stLies) .none kV25 dc25 pm25 an25 cd25 ct25), sl25⟩)
    (c25 : PySem.W.codeIn K cd25 "lies" = true) (k25 : PySem.W.keepIn K (.ref f25) = true)
    (a26 : PySem.W.nsIn K mainGlobals "lies_in" = some (some (.ref f26)))
    (l26 : K.lookup f26 = some ⟨oc26, od26, .func (PySem.W.fnOf "lies_in" "lies_in" (C8.fnArgs stLiesIn) (C8.fnBody stLiesIn) (C8.fnScope stLiesIn) .none kV26 dc26 pm26 an26 cd26 ct26), sl26⟩)
    (c26 : PySem.W.codeIn K cd26 "lies_in" = true) (k26 : PySem.W.keepIn K (.ref f26) = true)
    (a27 : PySem.W.nsIn K mainGlobals "inside" = some (some (.ref f27)))
    (l27 : K.lookup f27 = some ⟨oc27, od27, .func (PySem.W.fnOf "inside" "inside" (C8.fnArgs stInside) (C8.fnBody stInside) (C8.fnScope stInside) .none kV27 dc27 pm27 an27 cd27 ct27), sl27⟩)
    (c27 : PySem.W.codeIn K cd27 "inside" = true) (k27 : PySem.W.keepIn K (.ref f27) = true)
    (a28 : PySem.W.nsIn K mainGlobals "miss_of" = some (some (.ref f28)))
    (l28 : K.lookup f28 = some ⟨oc28, od28, .func (PySem.W.fnOf "miss_of" "miss_of" (C8.fnArgs stMiss) (C8.fnBody stMiss) (C8.fnScope stMiss) .none kV28 dc28 pm28 an28 cd28 ct28), sl28⟩)
    (c28 : PySem.W.codeIn K cd28 "miss_of" = true) (k28 : PySem.W.keepIn K (.ref f28) = true)
    (a29 : PySem.W.nsIn K mainGlobals "over_of" = some (some (.ref f29)))
    (l29 : K.lookup f29 = some ⟨oc29, od29, .func (PySem.W.fnOf "over_of" "over_of" (C8.fnArgs stOver) (C8.fnBody stOver) (C8.fnScope stOver) .none kV29 dc29 pm29 an29 cd29 ct29), sl29⟩)
    (c29 : PySem.W.codeIn K cd29 "over_of" = true) (k29 : PySem.W.keepIn K (.ref f29) = true)
    (a30 : PySem.W.nsIn K mainGlobals "lack_of" = some (some (.ref f30)))
    (l30 : K.lookup f30 = some ⟨oc30, od30, .func (PySem.W.fnOf "lack_of" "lack_of" (C8.fnArgs stLack) (C8.fnBody stLack) (C8.fnScope stLack) .none kV30 dc30 pm30 an30 cd30 ct30), sl30⟩)
    (c30 : PySem.W.codeIn K cd30 "lack_of" = true) (k30 : PySem.W.keepIn K (.ref f30) = true)
    (a32 : PySem.W.nsIn K mainGlobals "_law_reel" = some (some (.ref f32)))
    (l32 : K.lookup f32 = some ⟨oc32, od32, .func (PySem.W.fnOf "_law_reel" "_law_reel" (C8.fnArgs stReel) (C8.fnBody stReel) (C8.fnScope stReel) .none kV32 dc32 pm32 an32 cd32 ct32), sl32⟩)
    (c32 : PySem.W.codeIn K cd32 "_law_reel" = true) (k32 : PySem.W.keepIn K (.ref f32) = true)
    (a33 : PySem.W.nsIn K mainGlobals "_law_pick" = some (some (.ref f33)))
    (l33 : K.lookup f33 = some ⟨oc33, od33, .func (PySem.W.fnOf "_law_pick" "_law_pick" (C8.fnArgs stPick) (C8.fnBody stPick) (C8.fnScope stPick) .none kV33 dc33 pm33 an33 cd33 ct33), sl33⟩)
    (c33 : PySem.W.codeIn K cd33 "_law_pick" = true) (k33 : PySem.W.keepIn K (.ref f33) = true)
    (a34 : PySem.W.nsIn K mainGlobals "_law_made" = some (some (.ref f34)))
    (l34 : K.lookup f34 = some ⟨oc34, od34, .func (PySem.W.fnOf "_law_made" "_law_made" (C8.fnArgs stMade) (C8.fnBody stMade) (C8.fnScope stMade) .none kV34 dc34 pm34 an34 cd34 ct34), sl34⟩)
    (c34 : PySem.W.codeIn K cd34 "_law_made" = true) (k34 : PySem.W.keepIn K (.ref f34) = true)
    (a35 : PySem.W.nsIn K mainGlobals "_law_number" = some (some (.ref f35)))
    (l35 : K.lookup f35 = some ⟨oc35, od35, .func (PySem.W.fnOf "_law_number" "_law_number" (C8.fnArgs stNumber) (C8.fnBody stNumber) (C8.fnScope stNumber) .none kV35 dc35 pm35 an35 cd35 ct35), sl35⟩)
    (c35 : PySem.W.codeIn K cd35 "_law_number" = true) (k35 : PySem.W.keepIn K (.ref f35) = true)
    (a36 : PySem.W.nsIn K mainGlobals "_law_points" = some (some (.ref f36)))
    (l36 : K.lookup f36 = some ⟨oc36, od36, .func (PySem.W.fnOf "_law_points" "_law_points" (C8.fnArgs stPoints) (C8.fnBody stPoints) (C8.fnScope stPoints) .none kV36 dc36 pm36 an36 cd36 ct36), sl36⟩)
    (c36 : PySem.W.codeIn K cd36 "_law_points" = true) (k36 : PySem.W.keepIn K (.ref f36) = true)
    (a37 : PySem.W.nsIn K mainGlobals "_law_edge" = some (some (.ref f37)))
    (l37 : K.lookup f37 = some ⟨oc37, od37, .func (PySem.W.fnOf "_law_edge" "_law_edge" (C8.fnArgs stLEdge) (C8.fnBody stLEdge) (C8.fnScope stLEdge) .none kV37 dc37 pm37 an37 cd37 ct37), sl37⟩)
    (c37 : PySem.W.codeIn K cd37 "_law_edge" = true) (k37 : PySem.W.keepIn K (.ref f37) = true)
    (a38 : PySem.W.nsIn K mainGlobals "_law_side" = some (some (.ref f38)))
    (l38 : K.lookup f38 = some ⟨oc38, od38, .func (PySem.W.fnOf "_law_side" "_law_side" (C8.fnArgs stLSide) (C8.fnBody stLSide) (C8.fnScope stLSide) .none kV38 dc38 pm38 an38 cd38 ct38), sl38⟩)
    (c38 : PySem.W.codeIn K cd38 "_law_side" = true) (k38 : PySem.W.keepIn K (.ref f38) = true)
    (a39 : PySem.W.nsIn K mainGlobals "_law_due" = some (some (.ref f39)))
    (l39 : K.lookup f39 = some ⟨oc39, od39, .func (PySem.W.fnOf "_law_due" "_law_due" (C8.fnArgs stDue) (C8.fnBody stDue) (C8.fnScope stDue) .none kV39 dc39 pm39 an39 cd39 ct39), sl39⟩)
    (c39 : PySem.W.codeIn K cd39 "_law_due" = true) (k39 : PySem.W.keepIn K (.ref f39) = true)
    (a40 : PySem.W.nsIn K mainGlobals "_law_lies_right" = some (some (.ref f40)))
    (l40 : K.lookup f40 = some ⟨oc40, od40, .func (PySem.W.fnOf "_law_lies_right" "_law_lies_right" (C8.fnArgs stLiesRight) (C8.fnBody stLiesRight) (C8.fnScope stLiesRight) .none kV40 dc40 pm40 an40 cd40 ct40), sl40⟩)
    (c40 : PySem.W.codeIn K cd40 "_law_lies_right" = true) (k40 : PySem.W.keepIn K (.ref f40) = true)
    (a41 : PySem.W.nsIn K mainGlobals "_law_right" = some (some (.ref f41)))
    (l41 : K.lookup f41 = some ⟨oc41, od41, .func (PySem.W.fnOf "_law_right" "_law_right" (C8.fnArgs stRight) (C8.fnBody stRight) (C8.fnScope stRight) .none kV41 dc41 pm41 an41 cd41 ct41), sl41⟩)
    (c41 : PySem.W.codeIn K cd41 "_law_right" = true) (k41 : PySem.W.keepIn K (.ref f41) = true)
    (a42 : PySem.W.nsIn K mainGlobals "law" = some (some (.ref f42)))
    (l42 : K.lookup f42 = some ⟨oc42, od42, .func (PySem.W.fnOf "law" "law" (C8.fnArgs stLaw) (C8.fnBody stLaw) (C8.fnScope stLaw) .none kV42 dc42 pm42 an42 cd42 ct42), sl42⟩)
    (c42 : PySem.W.codeIn K cd42 "law" = true) (k42 : PySem.W.keepIn K (.ref f42) = true)
    {aONE aNOUGHT aLONG : Addr} {tA tB tC tD tE tF tG : Tok} {dO dN : Option Addr} {sO sN : Array (Option Value)} {nO nN nL : Nat} {es : Array DictEntry}
    (aO : PySem.W.nsIn K mainGlobals "ONE" = some (some (.ref aONE))) (lO : K.lookup aONE = some ⟨.type "tuple", dO, .seq #[.int 1 tA, .int 1 tB] nO, sO⟩)
    (aN : PySem.W.nsIn K mainGlobals "NOUGHT" = some (some (.ref aNOUGHT))) (lN : K.lookup aNOUGHT = some ⟨.type "tuple", dN, .seq #[.int 0 tC, .int 1 tD] nN, sN⟩)
    (aL : PySem.W.nsIn K mainGlobals "LONG" = some (some (.ref aLONG))) (lL : K.lookup aLONG = some ⟨.type "dict", none, .dict es nL, #[]⟩) (kL : PySem.W.KeysLit w.params es.toList) (wL : (aLONG == sysModules) = false)
    (g1 : PySem.W.nsIn K aLONG "to" = some (some (.int 2 tE))) (g2 : PySem.W.nsIn K aLONG "from" = some (some (.int 3 tF))) (g3 : PySem.W.nsIn K aLONG "round" = some (some (.int 3 tG)))
    (z_isinstance : PySem.W.nsIn K mainGlobals "isinstance" = some none) (z_int : PySem.W.nsIn K mainGlobals "int" = some none) (z_bool : PySem.W.nsIn K mainGlobals "bool" = some none) (z_tuple : PySem.W.nsIn K mainGlobals "tuple" = some none) (z_str : PySem.W.nsIn K mainGlobals "str" = some none) (z_len : PySem.W.nsIn K mainGlobals "len" = some none) (z_abs : PySem.W.nsIn K mainGlobals "abs" = some none) (z_all : PySem.W.nsIn K mainGlobals "all" = some none) (z_repr : PySem.W.nsIn K mainGlobals "repr" = some none) (z_zip : PySem.W.nsIn K mainGlobals "zip" = some none) (z_range : PySem.W.nsIn K mainGlobals "range" = some none) :
    ∀ base : Heap, CalG P w K mg base 8 fa (spLaw K) := by
  have e := hfa.symm.trans (PySem.W.mg_of X G a42)
  cases e
  have D6 := def_mk X G a6 l6 c6 k6
  have B6 := D6.fn.binds rfl (ps := ["thing"]) fun _ _ _ _ _ _ us hl => match us, hl with | [_], _ => rfl
  have D7 := def_mk X G a7 l7 c7 k7
  have B7 := D7.fn.binds rfl (ps := ["one", "other"]) fun _ _ _ _ _ _ us hl => match us, hl with | [_, _], _ => rfl
  have D8 := def_mk X G a8 l8 c8 k8
  have B8 := D8.fn.binds rfl (ps := ["thing"]) fun _ _ _ _ _ _ us hl => match us, hl with | [_], _ => rfl
  have D9 := def_mk X G a9 l9 c9 k9
  have B9 := D9.fn.binds rfl (ps := ["top", "bottom"]) fun _ _ _ _ _ _ us hl => match us, hl with | [_, _], _ => rfl
  have D10 := def_mk X G a10 l10 c10 k10
  have B10 := D10.fn.binds rfl (ps := ["one", "other"]) fun _ _ _ _ _ _ us hl => match us, hl with | [_, _], _ => rfl
  have D11 := def_mk X G a11 l11 c11 k11
  have B11 := D11.fn.binds rfl (ps := ["one", "other"]) fun _ _ _ _ _ _ us hl => match us, hl with | [_, _], _ => rfl
  have D12 := def_mk X G a12 l12 c12 k12
  have B12 := D12.fn.binds rfl (ps := ["one", "other"]) fun _ _ _ _ _ _ us hl => match us, hl with | [_, _], _ => rfl
  have D13 := def_mk X G a13 l13 c13 k13
  have B13 := D13.fn.binds rfl (ps := ["one", "other"]) fun _ _ _ _ _ _ us hl => match us, hl with | [_, _], _ => rfl
  have D15 := def_mk X G a15 l15 c15 k15
  have B15 := D15.fn.binds rfl (ps := ["side"]) fun _ _ _ _ _ _ us hl => match us, hl with | [_], _ => rfl
  have D18 := def_mk X G a18 l18 c18 k18
  have B18 := D18.fn.binds rfl (ps := ["thing"]) fun _ _ _ _ _ _ us hl => match us, hl with | [_], _ => rfl
  have D19 := def_mk X G a19 l19 c19 k19
  have B19 := D19.fn.binds rfl (ps := ["thing"]) fun _ _ _ _ _ _ us hl => match us, hl with | [_], _ => rfl
  have D20 := def_mk X G a20 l20 c20 k20
  have B20 := D20.fn.binds rfl (ps := ["one"]) fun _ _ _ _ _ _ us hl => match us, hl with | [_], _ => rfl
  have D21 := def_mk X G a21 l21 c21 k21
  have B21 := D21.fn.binds rfl (ps := ["side"]) fun _ _ _ _ _ _ us hl => match us, hl with | [_], _ => rfl
  have D22 := def_mk X G a22 l22 c22 k22
  have B22 := D22.fn.binds rfl (ps := ["box"]) fun _ _ _ _ _ _ us hl => match us, hl with | [_], _ => rfl
  have D23 := def_mk X G a23 l23 c23 k23
  have B23 := D23.fn.binds rfl (ps := ["x", "edge", "way"]) fun _ _ _ _ _ _ us hl => match us, hl with | [_, _, _], _ => rfl
  have D24 := def_mk X G a24 l24 c24 k24
  have B24 := D24.fn.binds rfl (ps := ["x", "edge", "way"]) fun _ _ _ _ _ _ us hl => match us, hl with | [_, _, _], _ => rfl
  have D25 := def_mk X G a25 l25 c25 k25
  have B25 := D25.fn.binds rfl (ps := ["x", "side", "way"]) fun _ _ _ _ _ _ us hl => match us, hl with | [_, _, _], _ => rfl
  have D26 := def_mk X G a26 l26 c26 k26
  have B26 := D26.fn.binds rfl (ps := ["point", "box", "way"]) fun _ _ _ _ _ _ us hl => match us, hl with | [_, _, _], _ => rfl
  have D27 := def_mk X G a27 l27 c27 k27
  have B27 := D27.fn.binds rfl (ps := ["points", "box", "way"]) fun _ _ _ _ _ _ us hl => match us, hl with | [_, _, _], _ => rfl
  have D28 := def_mk X G a28 l28 c28 k28
  have B28 := D28.fn.binds rfl (ps := ["points", "box"]) fun _ _ _ _ _ _ us hl => match us, hl with | [_, _], _ => rfl
  have D29 := def_mk X G a29 l29 c29 k29
  have B29 := D29.fn.binds rfl (ps := ["points", "box"]) fun _ _ _ _ _ _ us hl => match us, hl with | [_, _], _ => rfl
  have D30 := def_mk X G a30 l30 c30 k30
  have B30 := D30.fn.binds rfl (ps := ["points", "box"]) fun _ _ _ _ _ _ us hl => match us, hl with | [_, _], _ => rfl
  have D32 := def_mk X G a32 l32 c32 k32
  have B32 := D32.fn.binds rfl (ps := ["_law_script"]) fun _ _ _ _ _ _ us hl => match us, hl with | [_], _ => rfl
  have D33 := def_mk X G a33 l33 c33 k33
  have B33 := D33.fn.binds rfl (ps := ["_law_reel_here", "_law_many"]) fun _ _ _ _ _ _ us hl => match us, hl with | [_, _], _ => rfl
  have D34 := def_mk X G a34 l34 c34 k34
  have B34 := D34.fn.binds rfl (ps := ["_law_top", "_law_bottom"]) fun _ _ _ _ _ _ us hl => match us, hl with | [_, _], _ => rfl
  have D35 := def_mk X G a35 l35 c35 k35
  have B35 := D35.fn.binds rfl (ps := ["_law_reel_here"]) fun _ _ _ _ _ _ us hl => match us, hl with | [_], _ => rfl
  have D36 := def_mk X G a36 l36 c36 k36
  have B36 := D36.fn.binds rfl (ps := ["_law_reel_here", "_law_s", "_law_most"]) fun _ _ _ _ _ _ us hl => match us, hl with | [_, _, _], _ => rfl
  have D37 := def_mk X G a37 l37 c37 k37
  have B37 := D37.fn.binds rfl (ps := ["_law_reel_here", "_law_some"]) fun _ _ _ _ _ _ us hl => match us, hl with | [_, _], _ => rfl
  have D38 := def_mk X G a38 l38 c38 k38
  have B38 := D38.fn.binds rfl (ps := ["_law_reel_here", "_law_some", "_law_word"]) fun _ _ _ _ _ _ us hl => match us, hl with | [_, _, _], _ => rfl
  have D39 := def_mk X G a39 l39 c39 k39
  have B39 := D39.fn.binds rfl (ps := ["_law_side_here"]) fun _ _ _ _ _ _ us hl => match us, hl with | [_], _ => rfl
  have D40 := def_mk X G a40 l40 c40 k40
  have B40 := D40.fn.binds rfl (ps := ["_law_x", "_law_side_here", "_law_rest"]) fun _ _ _ _ _ _ us hl => match us, hl with | [_, _, _], _ => rfl
  have D41 := def_mk X G a41 l41 c41 k41
  have B41 := D41.fn.binds rfl (ps := ["_law_spots", "_law_side_here", "_law_marks"]) fun _ _ _ _ _ _ us hl => match us, hl with | [_, _, _], _ => rfl
  have D42 := def_mk X G a42 l42 c42 k42
  have B42 := D42.fn.binds rfl (ps := ["_law_script"]) fun _ _ _ _ _ _ us hl => match us, hl with | [_], _ => rfl
  have M : Bt mg := ⟨PySem.W.mg_none_of X G z_isinstance, PySem.W.mg_none_of X G z_int, PySem.W.mg_none_of X G z_bool, PySem.W.mg_none_of X G z_tuple, PySem.W.mg_none_of X G z_str, PySem.W.mg_none_of X G z_len, PySem.W.mg_none_of X G z_abs, PySem.W.mg_none_of X G z_all, PySem.W.mg_none_of X G z_repr, PySem.W.mg_none_of X G z_zip, PySem.W.mg_none_of X G z_range⟩
  have mONE := PySem.W.mg_of X G aO
  have mNOUGHT := PySem.W.mg_of X G aN
  have mLONG := PySem.W.mg_of X G aL
  have oONE : ∀ H, Fq K H (.ref aONE) 1 := fun H => ⟨aONE, rfl, .inr ⟨_, _, _, lO, rfl, rfl, (by show 2 ≤ sizeLine; decide), .cons ⟨tA, rfl⟩ (.cons ⟨tB, rfl⟩ .nil)⟩⟩
  have oNOUGHT : ∀ H, Fq K H (.ref aNOUGHT) 0 := fun H => ⟨aNOUGHT, rfl, .inr ⟨_, _, _, lN, rfl, rfl, (by show 2 ≤ sizeLine; decide), .cons ⟨tC, rfl⟩ (.cons ⟨tD, rfl⟩ .nil)⟩⟩
  have gL : ∀ s : Side, KGet K w aLONG (word s) (.int (long s)) := fun s => by
    cases s with
    | to t => exact ⟨wL, es, nL, _, lL, kL, g1, ⟨tE, rfl⟩⟩
    | fr a b => exact ⟨wL, es, nL, _, lL, kL, g2, ⟨tF, rfl⟩⟩
    | rd a b => exact ⟨wL, es, nL, _, lL, kL, g3, ⟨tG, rfl⟩⟩
  intro base
  have K6 := calWhole (P := P) (w := w) (base := base) D6 B6 M
  have K7 := calShared (P := P) (w := w) (base := base) D7 B7
  have K8 := calIsFrac D8 B8 M K6 K7
  have K9 := calFrac D9 B9 M K7
  have K10 := calPlus D10 B10 K9
  have K11 := calLess D11 B11 K9
  have K12 := calTimes D12 B12 K9
  have K13 := calBelow (P := P) (w := w) (base := base) D13 B13
  have K15 := calRest (P := P) (w := w) (base := base) D15 B15 mONE oONE
  have K18 := calEdge D18 B18 K8
  have K19 := calIsSide D19 B19 M mLONG gL K18
  have K20 := calNought D20 B20 mNOUGHT oNOUGHT K13
  have K21 := calSize D21 B21 mNOUGHT oNOUGHT mONE oONE K13 K20 K11 K10
  have K22 := calSizeOf D22 B22 mONE oONE K12 K21
  have K23 := calBehind D23 B23 K13
  have K24 := calAhead D24 B24 K13
  have K25 := calLies D25 B25 K23 K24
  have K26 := calLiesIn D26 B26 M K25
  have K27 := calInside D27 B27 M K26
  have K28 := calMiss D28 B28 M K27 K9 K22 K11
  have K29 := calOver D29 B29 M K27 K9 K22 K11
  have K30 := calLack D30 B30 M K27 K9 K22 K11
  have K32 := calReel (P := P) (w := w) (base := base) D32 B32
  have K33 := calPick (P := P) (w := w) (base := base) D33 B33 M
  have K34 := calMade (P := P) (w := w) (base := base) D34 B34 M
  have K35 := calNumber D35 B35 K33 K34
  have K36 := calPoints D36 B36 M K33 K35
  have K37 := calLEdge D37 B37 M K33 K35
  have K38 := calLSide D38 B38 K37
  have K39 := calDue (P := P) (w := w) (base := base) D39 B39
  have K40 := calLiesRight D40 B40 K25 K15
  have K41 := calRight D41 B41 M K15 K39 K19 K21 K10 K11 K40 K29 K30 K28
  exact calLaw D42 B42 M K32 K36 K38 K35 D41.mgf K41
end
end K12
open PySem PySem.W PyProof.Rows
set_option maxRecDepth 100000 in
set_option maxHeartbeats 0 in
theorem PySem.Challenge.cw_evenpoints_k12_whole_rests_holds : PySem.Challenge.rw_evenpoints_k12_whole_rests.Holds := by
  w_on; o_law; k_head; (case hw => w_witness2)
  k_fill
  refine K12.walk (l := PySem.Challenge.rw_evenpoints_k12_whole_rests) rfl rfl (fun w h Y => PySem.W.kIn_of Y) ?F
  case F =>
    intro w mg fa h KX G hmg
    refine' K12.all_mk KX G hmg ?a6 ?l6 ?c6 ?k6 ?a7 ?l7 ?c7 ?k7 ?a8 ?l8 ?c8 ?k8 ?a9 ?l9 ?c9 ?k9 ?a10 ?l10 ?c10 ?k10 ?a11 ?l11 ?c11 ?k11 ?a12 ?l12 ?c12 ?k12 ?a13 ?l13 ?c13 ?k13 ?a15 ?l15 ?c15 ?k15 ?a18 ?l18 ?c18 ?k18 ?a19 ?l19 ?c19 ?k19 ?a20 ?l20 ?c20 ?k20 ?a21 ?l21 ?c21 ?k21 ?a22 ?l22 ?c22 ?k22 ?a23 ?l23 ?c23 ?k23 ?a24 ?l24 ?c24 ?k24 ?a25 ?l25 ?c25 ?k25 ?a26 ?l26 ?c26 ?k26 ?a27 ?l27 ?c27 ?k27 ?a28 ?l28 ?c28 ?k28 ?a29 ?l29 ?c29 ?k29 ?a30 ?l30 ?c30 ?k30 ?a32 ?l32 ?c32 ?k32 ?a33 ?l33 ?c33 ?k33 ?a34 ?l34 ?c34 ?k34 ?a35 ?l35 ?c35 ?k35 ?a36 ?l36 ?c36 ?k36 ?a37 ?l37 ?c37 ?k37 ?a38 ?l38 ?c38 ?k38 ?a39 ?l39 ?c39 ?k39 ?a40 ?l40 ?c40 ?k40 ?a41 ?l41 ?c41 ?k41 ?a42 ?l42 ?c42 ?k42 ?aO ?lO ?aN ?lN ?aL ?lL ?kL ?wL ?g1 ?g2 ?g3 ?z_isinstance ?z_int ?z_bool ?z_tuple ?z_str ?z_len ?z_abs ?z_all ?z_repr ?z_zip ?z_range
    (case a6 => k_is)
    (case l6 => k_is)
    (case c6 => k_is)
    (case k6 => k_is)
    (case a7 => k_is)
    (case l7 => k_is)
    (case c7 => k_is)
    (case k7 => k_is)
    (case a8 => k_is)
    (case l8 => k_is)
    (case c8 => k_is)
    (case k8 => k_is)
    (case a9 => k_is)
    (case l9 => k_is)
    (case c9 => k_is)
    (case k9 => k_is)
    (case a10 => k_is)
    (case l10 => k_is)
    (case c10 => k_is)
    (case k10 => k_is)
    (case a11 => k_is)
    (case l11 => k_is)
    (case c11 => k_is)
    (case k11 => k_is)
    (case a12 => k_is)
    (case l12 => k_is)
    (case c12 => k_is)
    (case k12 => k_is)
    (case a13 => k_is)
    (case l13 => k_is)
    (case c13 => k_is)
    (case k13 => k_is)
    (case a15 => k_is)
    (case l15 => k_is)
    (case c15 => k_is)
    (case k15 => k_is)
    (case a18 => k_is)
    (case l18 => k_is)
    (case c18 => k_is)
    (case k18 => k_is)
    (case a19 => k_is)
    (case l19 => k_is)
    (case c19 => k_is)
    (case k19 => k_is)
    (case a20 => k_is)
    (case l20 => k_is)
    (case c20 => k_is)
    (case k20 => k_is)
    (case a21 => k_is)
    (case l21 => k_is)
    (case c21 => k_is)
    (case k21 => k_is)
    (case a22 => k_is)
    (case l22 => k_is)
    (case c22 => k_is)
    (case k22 => k_is)
    (case a23 => k_is)
    (case l23 => k_is)
    (case c23 => k_is)
    (case k23 => k_is)
    (case a24 => k_is)
    (case l24 => k_is)
    (case c24 => k_is)
    (case k24 => k_is)
    (case a25 => k_is)
    (case l25 => k_is)
    (case c25 => k_is)
    (case k25 => k_is)
    (case a26 => k_is)
    (case l26 => k_is)
    (case c26 => k_is)
    (case k26 => k_is)
    (case a27 => k_is)
    (case l27 => k_is)
    (case c27 => k_is)
    (case k27 => k_is)
    (case a28 => k_is)
    (case l28 => k_is)
    (case c28 => k_is)
    (case k28 => k_is)
    (case a29 => k_is)
    (case l29 => k_is)
    (case c29 => k_is)
    (case k29 => k_is)
    (case a30 => k_is)
    (case l30 => k_is)
    (case c30 => k_is)
    (case k30 => k_is)
    (case a32 => k_is)
    (case l32 => k_is)
    (case c32 => k_is)
    (case k32 => k_is)
    (case a33 => k_is)
    (case l33 => k_is)
    (case c33 => k_is)
    (case k33 => k_is)
    (case a34 => k_is)
    (case l34 => k_is)
    (case c34 => k_is)
    (case k34 => k_is)
    (case a35 => k_is)
    (case l35 => k_is)
    (case c35 => k_is)
    (case k35 => k_is)
    (case a36 => k_is)
    (case l36 => k_is)
    (case c36 => k_is)
    (case k36 => k_is)
    (case a37 => k_is)
    (case l37 => k_is)
    (case c37 => k_is)
    (case k37 => k_is)
    (case a38 => k_is)
    (case l38 => k_is)
    (case c38 => k_is)
    (case k38 => k_is)
    (case a39 => k_is)
    (case l39 => k_is)
    (case c39 => k_is)
    (case k39 => k_is)
    (case a40 => k_is)
    (case l40 => k_is)
    (case c40 => k_is)
    (case k40 => k_is)
    (case a41 => k_is)
    (case l41 => k_is)
    (case c41 => k_is)
    (case k41 => k_is)
    (case a42 => k_is)
    (case l42 => k_is)
    (case c42 => k_is)
    (case k42 => k_is)
    (case aO => k_is)
    (case lO => k_is)
    (case aN => k_is)
    (case lN => k_is)
    (case aL => k_is)
    (case lL => k_is)
    (case kL => k_keys)
    (case wL => decide)
    (case g1 => k_is)
    (case g2 => k_is)
    (case g3 => k_is)
    (case z_isinstance => k_is)
    (case z_int => k_is)
    (case z_bool => k_is)
    (case z_tuple => k_is)
    (case z_str => k_is)
    (case z_len => k_is)
    (case z_abs => k_is)
    (case z_all => k_is)
    (case z_repr => k_is)
    (case z_zip => k_is)
    (case z_range => k_is)

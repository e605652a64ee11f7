import PyProof.Rows.All
import Wide.All
import OpenK.AllK
import Wide.FinOn
import HandS.ForMost
import HandS.Evl
import HandS.Wide
import HandS.Gcd
import HandS.Zip
import HandS.Conv
import HandS.IsInst
import HandS.Exc
import HandS.ExcOwn
import HandS.TryOnly
import HandS.WordsExc
import HandS.ExcInit
import HandS.TupAny
import HandS.More
import HandS.Walk
import HandS.Defaults
import HandS.Deep
import HandS.DictTup
import HandS.DictComp
import HandS.Remove
import HandS.SortOrd
import HandS.SortRule
import HandS.TupSets
import KE.KDictKeyed
import KE.KeyNested
import KE.GoesMore
import KE.KDictDisplayH
import KE.KDictWalk
import KE.KDictList
import KE.DataFind
import HandS.ExcField
import PySem.Challenge.RW_untoldgaps_k74_whole_closed_rows_have_fe
set_option Elab.async false
set_option linter.all false
set_option maxRecDepth 100000
set_option maxHeartbeats 4000000
namespace K74
/-! ## the mirror: what the program computes, in plain Lean -/
def firstOf (wall : Bool) : Int := if wall then -1 else 0
def pairsOf (n : Nat) (wall : Bool) : List Int := (List.range (((n : Int) - 1) - firstOf wall).toNat).map fun (i : Nat) => firstOf wall + (i : Int)
def mixR (a b z : Int) (x y : Rat) : Rat := ((a : Rat) * x + (b : Rat) * y) / (z : Rat)
def clashR (ws : List Int) (v : List Rat) (p : Int) : List Rat :=
  if p = -1 then v.set 0 (-(v.getD 0 0)) else
    let i := p.toNat
    let a := ws.getD i 1
    let b := ws.getD (i + 1) 1
    let x := v.getD i 0
    let y := v.getD (i + 1) 0
    (v.set i (mixR (a - b) (2 * b) (a + b) x y)).set (i + 1) (mixR (2 * a) (b - a) (a + b) x y)
def closeR (v : List Rat) (p : Int) : Rat := if p = -1 then -(v.getD 0 0) else v.getD p.toNat 0 - v.getD (p.toNat + 1) 0
def afterR (ws : List Int) (v : List Rat) (w : List Int) : List Rat := w.foldl (clashR ws) v
def comingR (n : Nat) (wall : Bool) (v : List Rat) : List Int := (pairsOf n wall).filter fun p => decide (0 < closeR v p)
/-- the index (counted from k on) of the first pair that does not come -/
def firstNot (ws : List Int) : List Rat → List Int → Nat → Option Nat
  | _, [], _ => none
  | v, p :: w, k => if closeR v p ≤ 0 then some k else firstNot ws (clashR ws v p) w (k + 1)
/-! tables -/
def restR (n : Nat) : List (List Rat) := (List.range n).map fun k => (List.range n).map fun j => if j = k then 1 else 0
def behindR (ws : List Int) (T : List (List Rat)) (p : Int) : List (List Rat) :=
  if p = -1 then T.set 0 ((T.getD 0 []).map fun x => -x) else
    let i := p.toNat
    let a := ws.getD i 1
    let b := ws.getD (i + 1) 1
    let x := T.getD i []
    let y := T.getD (i + 1) []
    (T.set i (List.zipWith (mixR (a - b) (2 * b) (a + b)) x y)).set (i + 1) (List.zipWith (mixR (2 * a) (b - a) (a + b)) x y)
def tableR (ws : List Int) (w : List Int) : List (List Rat) := w.foldl (behindR ws) (restR ws.length)
def dotR (xs ys : List Rat) : Rat := (List.zipWith (fun x y => x * y) xs ys).foldl (· + ·) 0
def mulR (A B : List (List Rat)) : List (List Rat) := B.map fun e => (List.range A.length).map fun j => dotR e (A.map fun r => r.getD j 0)
/-- how often: the least count at which often is rest -/
def timesR (once rest : List (List Rat)) : Nat → Nat → List (List Rat) → Option Nat
  | 0, _, _ => none
  | f + 1, k, often => if often = rest then some k else timesR once rest f (k + 1) (mulR often once)
/-! like rows: what a word does -/
def carriedR (n : Nat) (w : List Int) : List Int × List Bool :=
  w.foldl (fun s p => if p = -1 then (s.1, s.2.set 0 (!(s.2.getD 0 false)))
    else ((s.1.set p.toNat (s.1.getD (p.toNat + 1) 0)).set (p.toNat + 1) (s.1.getD p.toNat 0), (s.2.set p.toNat (s.2.getD (p.toNat + 1) false)).set (p.toNat + 1) (s.2.getD p.toNat false)))
    ((List.range n).map (fun (i : Nat) => (i : Int)), List.replicate n false)
/-- one round from a ball: what is seen, its length, how many turns -/
def roundR (balls : List Int) (turned : List Bool) : Nat → List Bool → Int → Nat → Nat → List Bool × Nat × Nat
  | 0, seen, _, len, t => (seen, len, t)
  | f + 1, seen, ball, len, t => if seen.getD ball.toNat false then (seen, len, t)
    else roundR balls turned f (seen.set ball.toNat true) (balls.getD ball.toNat 0) (len + 1) (t + if turned.getD ball.toNat false then 1 else 0)
def likeR (n : Nat) (w : List Int) : Nat :=
  let bt := carriedR n w
  ((List.range n).foldl (fun (s : List Bool × Nat) (start : Nat) =>
    let r := roundR bt.1 bt.2 (n + 1) s.1 (start : Int) 0 0
    (r.1, if 0 < r.2.1 then Nat.lcm s.2 (if r.2.2 / 2 * 2 = r.2.2 then r.2.1 else 2 * r.2.1) else s.2)) (List.replicate n false, 1)).2
def isLike (ws : List Int) : Bool := ws.all fun w => decide (w = ws.getD 0 0)
def returnsR (ws : List Int) (w : List Int) : Option Nat :=
  if isLike ws then some (likeR ws.length w) else timesR (tableR ws w) (restR ws.length) 6 1 (tableR ws w)
/-! all tables -/
abbrev Fnd := List (List Int × List (List Rat))
def bfsOne (ws : List Int) (w : List Int) (T : List (List Rat)) : List Int → Fnd → Option Fnd
  | [], st => some st
  | p :: ps, st =>
    let L := behindR ws T p
    if L ∈ st.map (·.2) then bfsOne ws w T ps st
    else if st.length = 48 then none
    else bfsOne ws w T ps (st ++ [(w ++ [p], L)])
def bfsAll (ws : List Int) (ps : List Int) : Nat → Nat → Fnd → Option Fnd
  | 0, _, st => some st
  | f + 1, k, st => match st[k]? with
    | none => some st
    | some x => match bfsOne ws x.1 x.2 ps st with
      | none => none
      | some st' => bfsAll ws ps f (k + 1) st'
def allR (ws : List Int) (wall : Bool) : Option Fnd := bfsAll ws (pairsOf ws.length wall) 49 0 [([], restR ws.length)]
/-! orders -/
def gainR (ws : List Int) (p q : Int) : Rat :=
  if p < 0 then 2 else
    let a := ws.getD p.toNat 1
    let b := ws.getD (p.toNat + 1) 1
    mkRat (2 * if q > p then a else b) (a + b).toNat
def orderR (s : Rat) : Option Int := if s = 1 then some 3 else if s = 2 then some 4 else if s = 3 then some 6 else none
def ordersR (ws : List Int) (wall : Bool) : List (Option Int) :=
  let ps := pairsOf ws.length wall
  List.zipWith (fun p q => orderR (gainR ws p q * gainR ws q p)) ps (ps.drop 1)
/-! roots -/
def lowestR (qs : List Rat) : List Int :=
  let whole : Nat := qs.foldl (fun w q => Nat.lcm w q.den) 1
  let tops := qs.map fun q => q.num * ((whole : Int) / (q.den : Int))
  let common : Nat := tops.foldl (fun c t => Nat.gcd c t.natAbs) 0
  if common = 0 then tops else tops.map fun t => t / (common : Int)
def shareR (ws : List Int) (ps : List Int) (root : List Int) (i : Nat) : Rat :=
  let s0 : Rat := (-1 : Rat) * ((root.getD i 0 : Int) : Rat)
  let s1 := if 1 ≤ i ∧ i - 1 < root.length then s0 + gainR ws (ps.getD i 0) (ps.getD (i - 1) 0) * ((root.getD (i - 1) 0 : Int) : Rat) else s0
  if i + 1 < root.length then s1 + gainR ws (ps.getD i 0) (ps.getD (i + 1) 0) * ((root.getD (i + 1) 0 : Int) : Rat) else s1
def rootB (ws : List Int) (ps : List Int) (root : List Int) (i : Nat) : List Int :=
  lowestR ((root.map fun (x : Int) => (x : Rat)).set i (shareR ws ps root i))
/-- all of one root: found, later -/
def rootOne (ws : List Int) (ps : List Int) (root : List Int) : List Nat → List (List Int) × List (List Int) → List (List Int) × List (List Int)
  | [], s => s
  | i :: is, s =>
    let b := rootB ws ps root i
    if (b.all fun x => decide (0 ≤ x)) && !decide (b ∈ s.1) then rootOne ws ps root is (s.1 ++ [b], s.2 ++ [b]) else rootOne ws ps root is s
def rootLvl (ws : List Int) (ps : List Int) (found fresh : List (List Int)) : List (List Int) × List (List Int) :=
  fresh.foldl (fun s r => rootOne ws ps r (List.range ps.length) s) (found, [])
def rootAll (ws : List Int) (ps : List Int) : Nat → List (List Int) → List (List Int) → Option (List (List Int))
  | 0, _, _ => none
  | f + 1, found, fresh => if fresh = [] then some found else let s := rootLvl ws ps found fresh; rootAll ws ps f s.1 s.2
def unitR (m : Nat) : List (List Int) := (List.range m).map fun i => (List.range m).map fun j => if j = i then 1 else 0
def rootsR (ws : List Int) (wall : Bool) : Option (List (List Int)) :=
  let ps := pairsOf ws.length wall
  rootAll ws ps 12 (unitR ps.length) (unitR ps.length)
def valueR (root : List Int) (cs : List Rat) : Rat := (List.zipWith (fun (r : Int) (x : Rat) => (r : Rat) * x) root cs).foldl (· + ·) 0
def closingsR (n : Nat) (wall : Bool) (v : List Rat) : List Rat := (pairsOf n wall).map (closeR v)
end K74
namespace K74
/-- weights that may come -/
structure Wk (ws : List Int) (wall : Bool) : Prop where
  w : ∀ x ∈ ws, 1 ≤ x ∧ x ≤ 9
  n : ws.length ≤ 4
  lo : (if wall = true then 1 else 2) ≤ ws.length
  g : (pairsOf ws.length wall).length ≤ 3
/-- a pair of n balls -/
def PrOk (n : Nat) (p : Int) : Prop := (p = -1 ∧ 1 ≤ n) ∨ ∃ i : Nat, p = (i : Int) ∧ i + 1 < n
theorem Wk.pos {ws : List Int} {wall : Bool} (h : Wk ws wall) : 1 ≤ ws.length := by
  have := h.lo
  split at this <;> omega
theorem pairs_ok {n : Nat} {wall : Bool} {p : Int} (hn : 1 ≤ n) (h : p ∈ pairsOf n wall) : PrOk n p := by
  unfold pairsOf firstOf at h
  obtain ⟨i, hi, rfl⟩ := List.mem_map.mp h
  rw [List.mem_range] at hi
  cases wall with
  | false => exact .inr ⟨i, by simp, by simp at hi; omega⟩
  | true =>
    simp at hi ⊢
    cases i with
    | zero => exact .inl ⟨by simp, hn⟩
    | succ i => exact .inr ⟨i, by simp; omega, by omega⟩
end K74
namespace K74
/-! ## sizes of the numbers that are met -/
def LL : Nat := 12252240
def Frac (m : Nat) (q : Rat) : Prop := ∃ z : Int, q * (LL : Rat) ^ m = (z : Rat)
def Bd (m : Nat) (q : Rat) : Prop := Frac m q ∧ -((16 : Rat) ^ m) ≤ q ∧ q ≤ (16 : Rat) ^ m
theorem Frac.mono {m n : Nat} {q : Rat} (h : Frac m q) (hmn : m ≤ n) : Frac n q := by
  obtain ⟨z, hz⟩ := h
  refine ⟨z * (LL : Int) ^ (n - m), ?_⟩
  have e : n = m + (n - m) := by omega
  rw [Rat.intCast_mul, ← hz, Rat.intCast_pow]
  generalize hk : n - m = k at *
  subst e
  rw [show ((LL : Int) : Rat) = (LL : Rat) from rfl]
  have : ∀ (a : Rat) (i j : Nat), a ^ (i + j) = a ^ i * a ^ j := by
    intro a i j
    induction j with
    | zero => simp [Rat.pow_zero, Rat.mul_one]
    | succ j ih => rw [← Nat.add_assoc, Rat.pow_succ, Rat.pow_succ, ih, Rat.mul_assoc]
  rw [this, Rat.mul_assoc]
theorem rpow_add (a : Rat) (i j : Nat) : a ^ (i + j) = a ^ i * a ^ j := by
  induction j with
  | zero => simp [Rat.pow_zero, Rat.mul_one]
  | succ j ih => rw [← Nat.add_assoc, Rat.pow_succ, Rat.pow_succ, ih, Rat.mul_assoc]
theorem p16_pos (m : Nat) : (0 : Rat) < (16 : Rat) ^ m := Rat.pow_pos (by decide)
theorem p16_le {m n : Nat} (h : m ≤ n) : (16 : Rat) ^ m ≤ (16 : Rat) ^ n := by
  obtain ⟨k, rfl⟩ := Nat.exists_eq_add_of_le h
  induction k with
  | zero => exact Rat.le_refl
  | succ k ih =>
    have h1 := ih (by omega)
    have h2 : (16 : Rat) ^ (m + (k + 1)) = (16 : Rat) ^ (m + k) * 16 := by rw [← Nat.add_assoc, Rat.pow_succ]
    have h3 := p16_pos (m + k)
    grind
theorem Bd.mono {m n : Nat} {q : Rat} (h : Bd m q) (hmn : m ≤ n) : Bd n q := by
  obtain ⟨h1, h2, h3⟩ := h
  have := p16_le hmn
  exact ⟨h1.mono hmn, by grind, by grind⟩
theorem Frac.neg {m : Nat} {q : Rat} (h : Frac m q) : Frac m (-q) := by
  obtain ⟨z, hz⟩ := h
  exact ⟨-z, by rw [Rat.neg_mul, hz, Rat.intCast_neg]⟩
theorem Frac.add {m : Nat} {p q : Rat} (h : Frac m p) (h' : Frac m q) : Frac m (p + q) := by
  obtain ⟨z, hz⟩ := h
  obtain ⟨y, hy⟩ := h'
  exact ⟨z + y, by rw [Rat.add_mul, hz, hy, Rat.intCast_add]⟩
theorem Frac.mul {m n : Nat} {p q : Rat} (h : Frac m p) (h' : Frac n q) : Frac (m + n) (p * q) := by
  obtain ⟨z, hz⟩ := h
  obtain ⟨y, hy⟩ := h'
  refine ⟨z * y, ?_⟩
  rw [rpow_add, Rat.intCast_mul, ← hz, ← hy]
  grind
theorem Frac.int (m : Nat) (i : Int) : Frac m (i : Rat) := by
  have h0 : Frac 0 (i : Rat) := ⟨i, by rw [Rat.pow_zero, Rat.mul_one]⟩
  exact h0.mono (Nat.zero_le _)
theorem Frac.imul {m : Nat} {q : Rat} (i : Int) (h : Frac m q) : Frac m ((i : Rat) * q) := by
  have := (Frac.int 0 i).mul h
  rwa [Nat.zero_add] at this
/-- 1 / d for d from 1 to 18 -/
theorem Frac.inv {d : Int} (h1 : 1 ≤ d) (h2 : d ≤ 18) : Frac 1 ((d : Rat)⁻¹) := by
  have all : ∀ k : Fin 18, ((((k.val + 1 : Nat) : Int) : Rat)⁻¹ * (LL : Rat) ^ 1 = ((((LL : Nat) / (k.val + 1) : Nat) : Int) : Rat)) := by decide +kernel
  have e := all ⟨(d - 1).toNat, by omega⟩
  have ed : (((d - 1).toNat + 1 : Nat) : Int) = d := by omega
  simp only [ed] at e
  exact ⟨_, e⟩
theorem Bd.neg {m : Nat} {q : Rat} (h : Bd m q) : Bd m (-q) := by
  obtain ⟨h1, h2, h3⟩ := h
  exact ⟨h1.neg, by grind, by grind⟩
theorem Bd.add {m : Nat} {p q : Rat} (h : Bd m p) (h' : Bd m q) : Bd (m + 1) (p + q) := by
  obtain ⟨h1, h2, h3⟩ := h
  obtain ⟨g1, g2, g3⟩ := h'
  have e : (16 : Rat) ^ (m + 1) = (16 : Rat) ^ m * 16 := Rat.pow_succ _ _
  have := p16_pos m
  exact ⟨(h1.add g1).mono (by omega), by grind, by grind⟩
theorem Bd.sub {m : Nat} {p q : Rat} (h : Bd m p) (h' : Bd m q) : Bd (m + 1) (p - q) := by
  rw [Rat.sub_eq_add_neg]
  exact h.add h'.neg
theorem abs_mul {x y M N : Rat} (hx1 : -M ≤ x) (hx2 : x ≤ M) (hy1 : -N ≤ y) (hy2 : y ≤ N) : -(M * N) ≤ x * y ∧ x * y ≤ M * N := by
  have a1 : 0 ≤ (M - x) * (N + y) := Rat.mul_nonneg (by grind) (by grind)
  have a2 : 0 ≤ (M + x) * (N - y) := Rat.mul_nonneg (by grind) (by grind)
  have a3 : 0 ≤ (M - x) * (N - y) := Rat.mul_nonneg (by grind) (by grind)
  have a4 : 0 ≤ (M + x) * (N + y) := Rat.mul_nonneg (by grind) (by grind)
  constructor <;> grind
theorem Bd.mul {m n : Nat} {p q : Rat} (h : Bd m p) (h' : Bd n q) : Bd (m + n) (p * q) := by
  obtain ⟨h1, h2, h3⟩ := h
  obtain ⟨g1, g2, g3⟩ := h'
  have := abs_mul h2 h3 g2 g3
  exact ⟨h1.mul g1, by rw [rpow_add]; exact this.1, by rw [rpow_add]; exact this.2⟩
theorem Bd.int {m : Nat} {i : Int} (h1 : -16 ≤ i) (h2 : i ≤ 16) (hm : 1 ≤ m) : Bd m (i : Rat) := by
  have h0 : Bd 1 (i : Rat) := by
    refine ⟨Frac.int 1 i, ?_, ?_⟩
    · have : ((-16 : Int) : Rat) ≤ (i : Rat) := Rat.intCast_le_intCast.mpr h1
      rw [show (16 : Rat) ^ 1 = 16 from by decide]
      exact this
    · have : (i : Rat) ≤ ((16 : Int) : Rat) := Rat.intCast_le_intCast.mpr h2
      rw [show (16 : Rat) ^ 1 = 16 from by decide]
      exact this
  exact h0.mono hm
theorem Bd.zero (m : Nat) : Bd m 0 := ⟨by have := Frac.int m 0; exact this, by have := p16_pos m; grind, by have := p16_pos m; grind⟩
theorem Bd.one (m : Nat) : Bd m 1 := ⟨by have := Frac.int m 1; exact this, by have := p16_pos m; grind, by have := p16_le (Nat.zero_le m); rw [Rat.pow_zero] at this; exact this⟩
/-- (a x + b y) / z where |a| + |b| is at most 3 z -/
theorem Bd.mix {m : Nat} {a b z : Int} {x y : Rat} (hx : Bd m x) (hy : Bd m y) (hz1 : 1 ≤ z) (hz2 : z ≤ 18) (hab : (a.natAbs : Int) + (b.natAbs : Int) ≤ 3 * z) : Bd (m + 1) (mixR a b z x y) := by
  obtain ⟨x1, x2, x3⟩ := hx
  obtain ⟨y1, y2, y3⟩ := hy
  have hM := p16_pos m
  generalize hMM : (16 : Rat) ^ m = M at *
  have e : (16 : Rat) ^ (m + 1) = M * 16 := by rw [Rat.pow_succ, hMM]
  unfold mixR
  have hA1 : -((a.natAbs : Int) : Rat) ≤ (a : Rat) := by rw [← Rat.intCast_neg]; exact Rat.intCast_le_intCast.mpr (by omega)
  have hA2 : (a : Rat) ≤ ((a.natAbs : Int) : Rat) := Rat.intCast_le_intCast.mpr (by omega)
  have hB1 : -((b.natAbs : Int) : Rat) ≤ (b : Rat) := by rw [← Rat.intCast_neg]; exact Rat.intCast_le_intCast.mpr (by omega)
  have hB2 : (b : Rat) ≤ ((b.natAbs : Int) : Rat) := Rat.intCast_le_intCast.mpr (by omega)
  have ax := abs_mul hA1 hA2 x2 x3
  have bx := abs_mul hB1 hB2 y2 y3
  have hs : ((a.natAbs : Int) : Rat) + ((b.natAbs : Int) : Rat) ≤ 3 * (z : Rat) := by
    have : (((a.natAbs : Int) + (b.natAbs : Int) : Int) : Rat) ≤ ((3 * z : Int) : Rat) := Rat.intCast_le_intCast.mpr hab
    rw [Rat.intCast_add, Rat.intCast_mul] at this
    exact this
  have hz : (0 : Rat) < (z : Rat) := Rat.intCast_pos.mpr (by omega)
  have hp : ((a.natAbs : Int) : Rat) * M + ((b.natAbs : Int) : Rat) * M ≤ 3 * (z : Rat) * M := by
    rw [← Rat.add_mul]
    exact Rat.mul_le_mul_of_nonneg_right hs (Rat.le_of_lt hM)
  have hzM : 0 < (z : Rat) * M := Rat.mul_pos hz hM
  have hi : (z : Rat) * (z : Rat)⁻¹ = 1 := Rat.mul_inv_cancel _ (by grind)
  have hiv : 0 < (z : Rat)⁻¹ := Rat.inv_pos.mpr hz
  refine ⟨?_, ?_, ?_⟩
  · rw [Rat.div_def]
    exact ((x1.imul a).add (y1.imul b)).mul (Frac.inv hz1 hz2)
  · rw [e, Rat.div_def]
    have q : (-(3 * (z : Rat) * M)) * (z : Rat)⁻¹ ≤ ((a : Rat) * x + (b : Rat) * y) * (z : Rat)⁻¹ := Rat.mul_le_mul_of_nonneg_right (by grind) (Rat.le_of_lt hiv)
    have q2 : (-(3 * (z : Rat) * M)) * (z : Rat)⁻¹ = -(3 * M) := by grind
    grind
  · rw [e, Rat.div_def]
    have q : ((a : Rat) * x + (b : Rat) * y) * (z : Rat)⁻¹ ≤ (3 * (z : Rat) * M) * (z : Rat)⁻¹ := Rat.mul_le_mul_of_nonneg_right (by grind) (Rat.le_of_lt hiv)
    have q2 : (3 * (z : Rat) * M) * (z : Rat)⁻¹ = 3 * M := by grind
    grind
theorem Bd.clash1 {m : Nat} {a b : Int} {x y : Rat} (hx : Bd m x) (hy : Bd m y) (ha : 1 ≤ a ∧ a ≤ 9) (hb : 1 ≤ b ∧ b ≤ 9) : Bd (m + 1) (mixR (a - b) (2 * b) (a + b) x y) := hx.mix hy (by omega) (by omega) (by omega)
theorem Bd.clash2 {m : Nat} {a b : Int} {x y : Rat} (hx : Bd m x) (hy : Bd m y) (ha : 1 ≤ a ∧ a ≤ 9) (hb : 1 ≤ b ∧ b ≤ 9) : Bd (m + 1) (mixR (2 * a) (b - a) (a + b) x y) := hx.mix hy (by omega) (by omega) (by omega)
/-- the numbers are of a size for which products are promised -/
theorem Frac.den {m : Nat} {q : Rat} (h : Frac m q) : q.den ∣ LL ^ m := by
  obtain ⟨z, hz⟩ := h
  have h0 : (LL ^ m : Nat) ≠ 0 := by
    have : 0 < LL ^ m := Nat.pow_pos (by decide)
    omega
  have e : q = mkRat z (LL ^ m) := by
    rw [Rat.mkRat_eq_div, ← hz]
    have e2 : ((LL ^ m : Nat) : Rat) = (LL : Rat) ^ m := by simp [Rat.natCast_pow]
    rw [e2]
    have hne : (LL : Rat) ^ m ≠ 0 := by
      have : (0 : Rat) < (LL : Rat) ^ m := Rat.pow_pos (by decide +kernel)
      grind
    exact (Rat.mul_div_cancel hne).symm
  have d := Rat.den_mkRat z (LL ^ m)
  rw [if_neg h0] at d
  have d2 : q.den = LL ^ m / (LL ^ m).gcd z.natAbs := by
    conv => lhs; rw [e]
    exact d
  rw [d2]
  exact Nat.div_dvd_of_dvd (Nat.gcd_dvd_left _ _)
theorem Bd.small {m : Nat} {q : Rat} (h : Bd m q) (hm : m ≤ 100) : q.num.natAbs < 2 ^ 4000 ∧ q.den < 2 ^ 4000 := by
  obtain ⟨h1, h2, h3⟩ := h
  have hd : q.den ≤ LL ^ m := Nat.le_of_dvd (Nat.pow_pos (by decide)) h1.den
  have hL : LL ^ m ≤ 2 ^ (24 * m) := by
    rw [Nat.pow_mul]
    exact Nat.pow_le_pow_left (by decide) m
  have h24 : (2 : Nat) ^ (24 * m) ≤ 2 ^ 2400 := Nat.pow_le_pow_right (by decide) (by omega)
  have hn : q.num.natAbs ≤ 16 ^ m * q.den := by
    have k1 := (Rat.le_iff _ _).mp h3
    have k2 := (Rat.le_iff _ _).mp h2
    have e1 : ((16 : Rat) ^ m).num = 16 ^ m := by rw [Rat.num_pow]; rfl
    have e2 : ((16 : Rat) ^ m).den = 1 := by rw [Rat.den_pow]; show (1 : Nat) ^ m = 1; exact Nat.one_pow m
    rw [e1, e2] at k1
    rw [Rat.neg_num, Rat.neg_den, e1, e2] at k2
    have : ((16 ^ m * q.den : Nat) : Int) = (16 : Int) ^ m * (q.den : Int) := by push_cast; rfl
    have k3 : q.num ≤ ((16 ^ m * q.den : Nat) : Int) := by rw [this]; simpa using k1
    have k4 : -((16 ^ m * q.den : Nat) : Int) ≤ q.num := by rw [this, ← Int.neg_mul]; simpa using k2
    omega
  have h16 : (16 : Nat) ^ m = 2 ^ (4 * m) := by rw [Nat.pow_mul]
  constructor
  · refine Nat.lt_of_le_of_lt hn ?_
    rw [h16]
    have : 2 ^ (4 * m) * q.den ≤ 2 ^ (4 * m) * 2 ^ (24 * m) := Nat.mul_le_mul_left _ (Nat.le_trans hd hL)
    rw [← Nat.pow_add] at this
    exact Nat.lt_of_le_of_lt this (Nat.pow_lt_pow_right (by decide) (by omega))
  · exact Nat.lt_of_le_of_lt (Nat.le_trans (Nat.le_trans hd hL) h24) (Nat.pow_lt_pow_right (by decide) (by decide))
end K74
namespace K74
open PySem PySem.Spec PyProof.Rows L2
/-! ### the heap grows -/
abbrev Ex := Evl.Ex
theorem Ex.rfl {H : Hp} : Ex H H := Evl.Ex.refl H
/-! ### data that never changes: ints, None, tuples of such at any depth -/
mutual
inductive NK (H : Hp) : NestedKey → V → Prop
  | none : NK H .none .non
  | num (i : Int) : NK H (.num i) (.int i)
  | tup {a : Addr} {xs : List V} {ks : List NestedKey} : H a = some (.tup xs) → NKs H ks xs → NK H (.tup ks) (.ref a)
inductive NKs (H : Hp) : List NestedKey → List V → Prop
  | nil : NKs H [] []
  | cons {k : NestedKey} {ks : List NestedKey} {v : V} {vs : List V} : NK H k v → NKs H ks vs → NKs H (k :: ks) (v :: vs)
end
mutual
theorem NK.mono {H H' : Hp} (e : Ex H H') : ∀ (k : NestedKey) (v : V), NK H k v → NK H' k v
  | .none, _, h => by cases h; exact .none
  | .num i, _, h => by cases h; exact .num i
  | .text _, _, h => by cases h
  | .tup ks, _, h => by
    cases h with
    | tup h1 h2 => exact .tup (e _ _ h1) (NKs.mono e ks _ h2)
theorem NKs.mono {H H' : Hp} (e : Ex H H') : ∀ (ks : List NestedKey) (vs : List V), NKs H ks vs → NKs H' ks vs
  | [], _, h => by cases h; exact .nil
  | k :: ks, _, h => by
    cases h with
    | cons h1 h2 => exact .cons (NK.mono e k _ h1) (NKs.mono e ks _ h2)
end
theorem NK.ex {H H' : Hp} {k : NestedKey} {v : V} (h : NK H k v) (e : Ex H H') : NK H' k v := NK.mono e k v h
theorem NKs.ex {H H' : Hp} {k : List NestedKey} {v : List V} (h : NKs H k v) (e : Ex H H') : NKs H' k v := NKs.mono e k v h
theorem NK.num_inv {H : Hp} {i : Int} {v : V} (h : NK H (.num i) v) : v = .int i := by cases h; rfl
theorem NK.none_inv {H : Hp} {v : V} (h : NK H .none v) : v = .non := by cases h; rfl
theorem NK.tup_inv {H : Hp} {ks : List NestedKey} {v : V} (h : NK H (.tup ks) v) : ∃ a xs, v = .ref a ∧ H a = some (.tup xs) ∧ NKs H ks xs := by
  cases h with
  | tup h1 h2 => exact ⟨_, _, rfl, h1, h2⟩
theorem NKs.nil_inv {H : Hp} {vs : List V} (h : NKs H [] vs) : vs = [] := by cases h; rfl
theorem NKs.cons_inv {H : Hp} {k : NestedKey} {ks : List NestedKey} {vs : List V} (h : NKs H (k :: ks) vs) : ∃ v r, vs = v :: r ∧ NK H k v ∧ NKs H ks r := by
  cases h with
  | cons h1 h2 => exact ⟨_, _, rfl, h1, h2⟩
theorem NKs.len {H : Hp} : ∀ {ks : List NestedKey} {vs : List V}, NKs H ks vs → vs.length = ks.length
  | [], _, h => by cases h; rfl
  | k :: ks, _, h => by
    cases h with
    | cons _ h2 => rw [List.length_cons, List.length_cons, NKs.len h2]
theorem NKs.get {H : Hp} : ∀ {ks : List NestedKey} {vs : List V} {i : Nat} {k : NestedKey}, NKs H ks vs → ks[i]? = some k → ∃ v, vs[i]? = some v ∧ NK H k v
  | [], _, _, _, _, e => by simp at e
  | k :: ks, _, 0, k', h, e => by
    cases h with
    | cons h1 h2 =>
      cases (Option.some.inj e)
      exact ⟨_, rfl, h1⟩
  | k :: ks, _, i + 1, k', h, e => by
    cases h with
    | cons h1 h2 => exact NKs.get (i := i) h2 e
theorem NKs.got {H : Hp} : ∀ {ks : List NestedKey} {vs : List V} {i : Nat} {v : V}, NKs H ks vs → vs[i]? = some v → ∃ k, ks[i]? = some k ∧ NK H k v
  | [], _, _, _, h, e => by cases h; simp at e
  | k :: ks, _, 0, _, h, e => by
    cases h with
    | cons h1 h2 =>
      cases (Option.some.inj e)
      exact ⟨_, rfl, h1⟩
  | k :: ks, _, i + 1, _, h, e => by
    cases h with
    | cons h1 h2 => exact NKs.got (i := i) h2 e
theorem NKs.snoc {H : Hp} {k : NestedKey} {v : V} (hk : NK H k v) : ∀ {ks : List NestedKey} {vs : List V}, NKs H ks vs → NKs H (ks ++ [k]) (vs ++ [v])
  | [], _, h => by cases h; exact .cons hk .nil
  | k :: ks, _, h => by
    cases h with
    | cons h1 h2 => exact .cons h1 (NKs.snoc hk h2)
theorem NKs.set {H : Hp} {k : NestedKey} {v : V} (hk : NK H k v) : ∀ {ks : List NestedKey} {vs : List V} (i : Nat), NKs H ks vs → NKs H (ks.set i k) (vs.set i v)
  | [], _, _, h => by cases h; exact .nil
  | k' :: ks, _, 0, h => by
    cases h with
    | cons h1 h2 => exact .cons hk h2
  | k' :: ks, _, i + 1, h => by
    cases h with
    | cons h1 h2 => exact .cons h1 (NKs.set hk i h2)
theorem NKs.app {H : Hp} {ks2 : List NestedKey} {vs2 : List V} (h2 : NKs H ks2 vs2) : ∀ {ks : List NestedKey} {vs : List V}, NKs H ks vs → NKs H (ks ++ ks2) (vs ++ vs2)
  | [], _, h => by cases h; exact h2
  | k :: ks, _, h => by
    cases h with
    | cons h1 hr => exact .cons h1 (NKs.app h2 hr)
theorem NKs.ints {H : Hp} : ∀ {ns : List Int} {vs : List V}, NKs H (ns.map .num) vs → vs = ns.map V.int
  | [], _, h => by cases h; rfl
  | n :: ns, _, h => by
    cases h with
    | cons h1 h2 => rw [h1.num_inv, NKs.ints h2]; rfl
theorem NKs.ofInts {H : Hp} : ∀ (ns : List Int), NKs H (ns.map .num) (ns.map V.int)
  | [] => .nil
  | n :: ns => .cons (.num n) (NKs.ofInts ns)
/-! ### ratios -/
def qK (q : Rat) : NestedKey := .tup [.num q.num, .num (q.den : Int)]
theorem qK_inv {H : Hp} {q : Rat} {v : V} (h : NK H (qK q) v) : ∃ a, v = .ref a ∧ H a = some (.tup [.int q.num, .int (q.den : Int)]) := by
  obtain ⟨a, xs, rfl, ha, hx⟩ := h.tup_inv
  obtain ⟨x, r, rfl, h1, h2⟩ := hx.cons_inv
  obtain ⟨y, r, rfl, h3, h4⟩ := h2.cons_inv
  cases h4
  rw [h1.num_inv, h3.num_inv] at ha
  exact ⟨a, rfl, ha⟩
theorem qK_mk {H : Hp} {q : Rat} {a : Addr} (h : H a = some (.tup [.int q.num, .int (q.den : Int)])) : NK H (qK q) (.ref a) := .tup h (.cons (.num _) (.cons (.num _) .nil))
/-- a thing that may be passed as a ratio: a whole number, or two of them, the second above 0 -/
def IsR (H : Hp) (v : V) (q : Rat) : Prop := (∃ i : Int, v = .int i ∧ q = i) ∨ ∃ (a : Addr) (n d : Int), v = .ref a ∧ H a = some (.tup [.int n, .int d]) ∧ 0 < d ∧ q = mkRat n d.toNat ∧ n.natAbs < 2 ^ 8700 ∧ d.natAbs < 2 ^ 8700
theorem IsR.ex {H H' : Hp} {v : V} {q : Rat} (h : IsR H v q) (e : Ex H H') : IsR H' v q := by
  rcases h with h | ⟨a, n, d, h1, h2, h3⟩
  · exact .inl h
  · exact .inr ⟨a, n, d, h1, e _ _ h2, h3⟩
/-- numbers of a size for which products are promised -/
def Sm (q : Rat) : Prop := q.num.natAbs < 2 ^ 4000 ∧ q.den < 2 ^ 4000
theorem isR_q {H : Hp} {v : V} {q : Rat} (h : NK H (qK q) v) (s : Sm q) : IsR H v q := by
  obtain ⟨a, rfl, ha⟩ := qK_inv h
  refine .inr ⟨a, _, _, rfl, ha, ?_, ?_, ?_, ?_⟩
  · have := q.den_pos; omega
  · rw [Int.toNat_natCast, Rat.mkRat_self]
  · exact Nat.lt_of_lt_of_le s.1 (Nat.pow_le_pow_right (by decide) (by decide))
  · rw [Int.natAbs_natCast]
    exact Nat.lt_of_lt_of_le s.2 (Nat.pow_le_pow_right (by decide) (by decide))
theorem isR_int {H : Hp} (i : Int) : IsR H (.int i) i := .inl ⟨i, rfl, rfl⟩
/-! ### promises -/
def sp1 (R : V → Hp → VK → Prop) : Sp := fun vs H Q _ => ∃ x, vs = [x] ∧ R x H Q
def sp2 (R : V → V → Hp → VK → Prop) : Sp := fun vs H Q _ => ∃ x y, vs = [x, y] ∧ R x y H Q
def sp3 (R : V → V → V → Hp → VK → Prop) : Sp := fun vs H Q _ => ∃ x y z, vs = [x, y, z] ∧ R x y z H Q
def sp4 (R : V → V → V → V → Hp → VK → Prop) : Sp := fun vs H Q _ => ∃ x y z u, vs = [x, y, z, u] ∧ R x y z u H Q
def sp5 (R : V → V → V → V → V → Hp → VK → Prop) : Sp := fun vs H Q _ => ∃ x y z u t, vs = [x, y, z, u, t] ∧ R x y z u t H Q
theorem len1 {R : V → Hp → VK → Prop} : ∀ vs H Q E, sp1 R vs H Q E → vs.length = 1 := fun _ _ _ _ h => by obtain ⟨x, rfl, _⟩ := h; rfl
theorem len2 {R : V → V → Hp → VK → Prop} : ∀ vs H Q E, sp2 R vs H Q E → vs.length = 2 := fun _ _ _ _ h => by obtain ⟨x, y, rfl, _⟩ := h; rfl
theorem len3 {R : V → V → V → Hp → VK → Prop} : ∀ vs H Q E, sp3 R vs H Q E → vs.length = 3 := fun _ _ _ _ h => by obtain ⟨x, y, z, rfl, _⟩ := h; rfl
theorem len4 {R : V → V → V → V → Hp → VK → Prop} : ∀ vs H Q E, sp4 R vs H Q E → vs.length = 4 := fun _ _ _ _ h => by obtain ⟨x, y, z, u, rfl, _⟩ := h; rfl
theorem len5 {R : V → V → V → V → V → Hp → VK → Prop} : ∀ vs H Q E, sp5 R vs H Q E → vs.length = 5 := fun _ _ _ _ h => by obtain ⟨x, y, z, u, t, rfl, _⟩ := h; rfl
/-- the answer is this value, the heap grows -/
def RetV (v : V) (H : Hp) (Q : VK) : Prop := ∀ H', Ex H H' → Q v H'
/-- the answer is this data -/
def Ret (k : NestedKey) (H : Hp) (Q : VK) : Prop := ∀ v H', Ex H H' → NK H' k v → Q v H'
/-- the answer is a list of this data -/
def RetL (ks : List NestedKey) (H : Hp) (Q : VK) : Prop := ∀ p xs H', Ex H H' → H' p = some (.lst xs) → NKs H' ks xs → Q (.ref p) H'
/-! ### the text, what stands at the top -/
abbrev prg : Program := PySem.Challenge.pw_untoldgaps_k74_whole_closed_rows_have_fe
def topS (i : Nat) : Stmt := prg.main.body.getD i (.Pass ⟨0, 0, 0, 0⟩)
structure Cn where
  P : Program
  w : World
  K : PySem.W.Frag
  mg : Str → Option Value
  base : Heap
/-- a def that keeps its promise, called by its name -/
structure Kn (c : Cn) (CX : CXT) (k : Nat) (x : Str) (ps : List Str) (sp : Sp) : Prop where
  ex : ∃ f fd, FnOk c.P c.w c.K c.mg c.base CX k f fd ps sp ∧ c.mg x = some (.ref f) ∧ PySem.W.keepIn c.K (.ref f) = true ∧ Binds c.K fd ps []
/-- a def of the top -/
structure Dn (c : Cn) (x : Str) (st : Stmt) (ps : List Str) : Prop where
  ex : ∃ f fd, Fun c.K x x st f fd ∧ c.mg x = some (.ref f) ∧ Binds c.K fd ps []
/-- the builtins' names are not the module's; gcd and lcm are math's -/
structure Tx (mg : Str → Option Value) : Prop where
  len : mg "len" = none
  abs : mg "abs" = none
  isinstance : mg "isinstance" = none
  tuple : mg "tuple" = none
  list : mg "list" = none
  int : mg "int" = none
  bool : mg "bool" = none
  range : mg "range" = none
  zip : mg "zip" = none
  enumerate : mg "enumerate" = none
  min : mg "min" = none
  max : mg "max" = none
  sorted : mg "sorted" = none
  gcd : mg "gcd" = some (.builtin "math.gcd")
  lcm : mg "lcm" = some (.builtin "math.lcm")
theorem Dn.ok {c : Cn} {x : Str} {st : Stmt} {N ps : List Str} {k : Nat} {sp : Sp} (D : Dn c x st ps) (S : FnScope N ps (defScope st)) (len : ∀ vs H Q E, sp vs H Q E → vs.length = ps.length)
    (hbody : ∀ (f : Addr) (cdv : Value) (A : Around) (outer : List Env) (s : Shared) (H : Hp) (vs : List V) (Q : VK) (E : XK), Room k (A.deeper (envOfC x (defScope st) s.heap.objs.size f cdv)) → sp vs H Q E →
      ∃ t, PSs (cxOf CX0 c.P c.w c.K c.mg c.base N x (defScope st) f cdv A outer s H E).nox (defBody st) t ∧ t { nx := fun _ H' => Q .non H', rt := Q } (start N vs) H) : Kn c CX0 (k + 1) x ps sp := by
  obtain ⟨f, fd, F, hm, hb⟩ := D.ex
  exact ⟨⟨f, fd, F.ok S len (hbody f), hm, F.kp, hb⟩⟩
section
variable {X : Cx} {k : Nat} {x : Str} {ps : List Str} {sp : Sp} {p pos : Pos} {e : Expr} {es : List Expr} {t : TA}
theorem pe_kn (G : Kn ⟨X.prog, X.w, X.K, X.mg, X.base⟩ CX0 k x ps sp) (hr : Room k X.A) (hg : Gl X x)
    (ha : PA X (e :: es) t) (hdb : (x == ("__debug__" : Str)) = false := by decide) (he : starEach (e :: es) X.env = (false, eval e X.env) :: starEach es X.env := by rfl) (hpl : (backTo pos (starEach es X.env)).any (·.1) = false := by rfl) :
    PE X (.Call (.Name x p) (e :: es) [] pos) (tCall sp [] E0 t) := by
  obtain ⟨f, fd, F, hm, hk, hb⟩ := G.ex
  exact pe_call F hr hg hm hk hb .nil pass0 ha hdb he hpl
end
end K74
namespace K74
open PySem PySem.Spec PyProof.Rows L2
section
variable {X : Cx} {pos : Pos}
theorem ty_int (T : Tx X.mg) (hg : Gl X "int" := by rfl) : PE X (.Name "int" pos) (tC (.ty "int")) := pe_bltn (v := .ty "int") hg T.int (by decide +kernel) rfl
theorem ty_bool (T : Tx X.mg) (hg : Gl X "bool" := by rfl) : PE X (.Name "bool" pos) (tC (.ty "bool")) := pe_bltn (v := .ty "bool") hg T.bool (by decide +kernel) rfl
theorem ty_tuple (T : Tx X.mg) (hg : Gl X "tuple" := by rfl) : PE X (.Name "tuple" pos) (tC (.ty "tuple")) := pe_bltn (v := .ty "tuple") hg T.tuple (by decide +kernel) rfl
theorem ty_list (T : Tx X.mg) (hg : Gl X "list" := by rfl) : PE X (.Name "list" pos) (tC (.ty "list")) := pe_bltn (v := .ty "list") hg T.list (by decide +kernel) rfl
end
theorem kit_int_int {K : PySem.W.Frag} : PySem.W.kitOne K (.type "int") (.type "int") = some true := kit_ty (by decide +kernel)
theorem kit_int_bool {K : PySem.W.Frag} : PySem.W.kitOne K (.type "int") (.type "bool") = some false := kit_ty (by decide +kernel)
theorem kit_int_tuple {K : PySem.W.Frag} : PySem.W.kitOne K (.type "int") (.type "tuple") = some false := kit_ty (by decide +kernel)
theorem kit_tup_tuple {K : PySem.W.Frag} : PySem.W.kitOne K (.type "tuple") (.type "tuple") = some true := kit_ty (by decide +kernel)
theorem kit_bl_bool {K : PySem.W.Frag} : PySem.W.kitOne K (.type "bool") (.type "bool") = some true := kit_ty (by decide +kernel)
theorem ite_t {b : Bool} {A B : Prop} (e : b = true) (h : A) : if b = true then A else B := by rw [if_pos e]; exact h
theorem ite_f {b : Bool} {A B : Prop} (e : b = false) (h : B) : if b = true then A else B := by rw [if_neg (by rw [e]; decide)]; exact h
/-! ### is_whole -/
abbrev s_is_whole : Stmt := topS 12
theorem sc_is_whole : FnScope ["thing"] ["thing"] (defScope s_is_whole) := ⟨rfl, rfl, rfl, by decide +kernel, rfl, by decide +kernel, by decide +kernel⟩
def spWhole : Sp := sp1 fun v H Q => ∃ i : Int, v = .int i ∧ RetV (.bl true) H Q
theorem ok_is_whole {c : Cn} (T : Tx c.mg) (D : Dn c "is_whole" s_is_whole ["thing"]) : Kn c CX0 1 "is_whole" ["thing"] spWhole := by
  have sc := sc_is_whole
  refine D.ok sc len1 (fun f cdv A outer s H vs Q E hr h => ?_)
  refine ⟨_, (pss_one (ps_ret (pe_and (pe_callB call_isi (by rfl) T.isinstance (by decide +kernel) (pa_cons (pv 0) (pa_cons (ty_int T) pa_nil))) (pe_one (pe_not (pe_callB call_isi (by rfl) T.isinstance (by decide +kernel) (pa_cons (pv 0) (pa_cons (ty_bool T) pa_nil)))))))), ?_⟩
  obtain ⟨x, rfl, i, rfl, k⟩ := h
  exact ⟨_, rfl, _, _, _, _, true, rfl, .ty "int", .base (.int i), kit_int_int, _, rfl, ite_t rfl ⟨_, rfl, _, _, _, _, false, rfl, .ty "bool", .base (.int i), kit_int_bool, _, rfl, k _ Ex.rfl⟩⟩
/-! ### is_ratio -/
abbrev s_is_ratio : Stmt := topS 13
theorem sc_is_ratio : FnScope ["thing"] ["thing"] (defScope s_is_ratio) := ⟨rfl, rfl, rfl, by decide +kernel, rfl, by decide +kernel, by decide +kernel⟩
def spIsRatio : Sp := sp1 fun v H Q => ∃ q : Rat, IsR H v q ∧ RetV (.bl true) H Q
theorem ok_is_ratio {c : Cn} (T : Tx c.mg) (D : Dn c "is_ratio" s_is_ratio ["thing"]) (g_is_whole : Kn c CX0 1 "is_whole" ["thing"] spWhole) : Kn c CX0 2 "is_ratio" ["thing"] spIsRatio := by
  have sc := sc_is_ratio
  refine D.ok sc len1 (fun f cdv A outer s H vs Q E hr h => ?_)
  refine ⟨_, (pss_cons (ps_if (pt_val (pe_callB call_isi (by rfl) T.isinstance (by decide +kernel) (pa_cons (pv 0) (pa_cons (ty_tuple T) pa_nil)))) (pss_one (ps_ret (pe_and (pe_cmpR op_eq (pe_callB call_len_seq (by rfl) T.len PySem.boot_len (pa_cons (pv 0) pa_nil)) pe_int (nomark _)) (pe_and (pe_kn g_is_whole (hr.mono (by decide)) rfl (pa_cons (pe_ix ix_tup (pv 0) pe_int (fun _ _ => rfl)) pa_nil)) (pe_and (pe_kn g_is_whole (hr.mono (by decide)) rfl (pa_cons (pe_ix ix_tup (pv 0) pe_int (fun _ _ => rfl)) pa_nil)) (pe_one (pe_cmpR op_gt (pe_ix ix_tup (pv 0) pe_int (fun _ _ => rfl)) pe_int (nomark _))))))))
    pss_nil)
  (pss_one (ps_ret (pe_kn g_is_whole (hr.mono (by decide)) rfl (pa_cons (pv 0) pa_nil))))), ?_⟩
  obtain ⟨x, rfl, q, hx, k⟩ := h
  rcases hx with ⟨i, rfl, _⟩ | ⟨a, n, d, rfl, ha, hd, _⟩
  · exact ⟨_, rfl, _, _, _, _, false, rfl, .ty "tuple", .base (.int i), kit_int_tuple, _, rfl, ite_f rfl ⟨_, rfl, _, rfl, i, rfl, k⟩⟩
  · refine ⟨_, rfl, _, _, _, _, true, rfl, .ty "tuple", .base (.tup ha), kit_tup_tuple, _, rfl, ite_t rfl ?_⟩
    refine ⟨_, rfl, a, _, rfl, .inr (SqT.of ha), rfl, true, rfl, ite_t rfl ?_⟩
    refine ⟨_, rfl, a, _, _, _, rfl, rfl, SqT.of ha, rfl, _, rfl, n, rfl, fun H1 e1 => ⟨true, rfl, ite_t rfl ?_⟩⟩
    have h1 := e1 _ _ ha
    refine ⟨_, rfl, a, _, _, _, rfl, rfl, SqT.of h1, rfl, _, rfl, d, rfl, fun H2 e2 => ⟨true, rfl, ite_t rfl ?_⟩⟩
    have h2 := e2 _ _ h1
    refine ⟨_, rfl, a, _, _, _, rfl, rfl, SqT.of h2, rfl, d, 0, rfl, rfl, ?_⟩
    show Q (V.bl (decide (0 < d))) _
    rw [decide_eq_true hd]
    exact k _ (e1.trans e2)
/-! ### lowest_terms -/
theorem low_num (n d : Int) (hd : 0 < d) : n / ((Nat.gcd n.natAbs d.natAbs : Nat) : Int) = (mkRat n d.toNat).num := by
  rw [Rat.num_mkRat, if_neg (by omega)]
  have e : d.natAbs = d.toNat := by omega
  rw [e, Nat.gcd_comm]
theorem low_den (n d : Int) (hd : 0 < d) : d / ((Nat.gcd n.natAbs d.natAbs : Nat) : Int) = ((mkRat n d.toNat).den : Int) := by
  rw [Rat.den_mkRat, if_neg (by omega)]
  have e : d.natAbs = d.toNat := by omega
  have e2 : d = (d.toNat : Int) := by omega
  rw [e, Nat.gcd_comm]
  conv => lhs; lhs; rw [e2]
  exact (Int.natCast_ediv _ _).symm
theorem gcd_pos (n d : Int) (hd : 0 < d) : (0 : Int) < ((Nat.gcd n.natAbs d.natAbs : Nat) : Int) := by
  have : 0 < Nat.gcd n.natAbs d.natAbs := Nat.gcd_pos_of_pos_right _ (by omega)
  omega
theorem gcd_div (n d : Int) (hd : 0 < d) (hb : d.natAbs < 2 ^ 8700) (i : Int) : CDivW i ((Nat.gcd n.natAbs d.natAbs : Nat) : Int) := by
  refine wide_div (b := 8700) (gcd_pos n d hd) ?_ (by decide) (by decide)
  refine Nat.lt_of_le_of_lt ?_ hb
  rw [Int.natAbs_natCast]
  exact Nat.gcd_le_right _ (by omega)
abbrev s_lowest_terms : Stmt := topS 15
theorem sc_lowest_terms : FnScope ["top", "bottom", "common"] ["top", "bottom"] (defScope s_lowest_terms) := ⟨rfl, rfl, rfl, by decide +kernel, rfl, by decide +kernel, by decide +kernel⟩
def spLow : Sp := sp2 fun x y H Q => ∃ n d : Int, x = .int n ∧ y = .int d ∧ 0 < d ∧ d.natAbs < 2 ^ 8700 ∧ Ret (qK (mkRat n d.toNat)) H Q
theorem ok_lowest_terms {c : Cn} (T : Tx c.mg) (D : Dn c "lowest_terms" s_lowest_terms ["top", "bottom"]) : Kn c CX0 1 "lowest_terms" ["top", "bottom"] spLow := by
  have sc := sc_lowest_terms
  refine D.ok sc len2 (fun f cdv A outer s H vs Q E hr h => ?_)
  refine ⟨_, (pss_cons (ps_set (i := 2) sc.nd rfl (.inl rfl) (pe_callBfun cr_gcd rfl T.gcd (pa_cons (pv 0) (pa_cons (pv 1) pa_nil))))
    (pss_cons (ps_if (pt_cmpR op_lt (pv 1) pe_int (nomark _)) (pss_one (ps_set (i := 2) sc.nd rfl (.inl rfl) (pe_un un_neg (pv 2))))
      pss_nil)
    (pss_one (ps_ret (pe_tup (pa_cons (pe_op op_fdivW (pv 0) (pv 2)) (pa_cons (pe_op op_fdivW (pv 1) (pv 2)) pa_nil))))))), ?_⟩
  obtain ⟨x, y, rfl, n, d, rfl, rfl, hd, hb, k⟩ := h
  refine ⟨_, rfl, _, rfl, n, d, rfl, ?_⟩
  refine ⟨_, rfl, d, 0, rfl, rfl, _, rfl, ite_f (decide_eq_false (by omega)) ?_⟩
  refine ⟨_, rfl, _, rfl, _, _, rfl, rfl, gcd_div n d hd hb _, _, rfl, _, rfl, _, _, rfl, rfl, gcd_div n d hd hb _, (by show 2 ≤ sizeLine; decide), fun p hp => ?_⟩
  refine k _ _ (Evl.Ex.new hp) (qK_mk (upd_same.trans ?_))
  show some (HO.tup [V.int (n / _), V.int (d / _)]) = _
  rw [low_num n d hd, low_den n d hd]
/-! ### ratio_of -/
abbrev s_ratio_of : Stmt := topS 14
theorem sc_ratio_of : FnScope ["thing"] ["thing"] (defScope s_ratio_of) := ⟨rfl, rfl, rfl, by decide +kernel, rfl, by decide +kernel, by decide +kernel⟩
def spRatio : Sp := sp1 fun v H Q => ∃ q : Rat, IsR H v q ∧ Ret (qK q) H Q
theorem ok_ratio_of {c : Cn} (T : Tx c.mg) (D : Dn c "ratio_of" s_ratio_of ["thing"]) (g_is_ratio : Kn c CX0 2 "is_ratio" ["thing"] spIsRatio) (g_lowest_terms : Kn c CX0 1 "lowest_terms" ["top", "bottom"] spLow) : Kn c CX0 3 "ratio_of" ["thing"] spRatio := by
  have sc := sc_ratio_of
  refine D.ok sc len1 (fun f cdv A outer s H vs Q E hr h => ?_)
  refine ⟨_, (pss_cons (ps_if (pt_not (pt_val (pe_kn g_is_ratio (hr.mono (by decide)) rfl (pa_cons (pv 0) pa_nil)))) (pss_one ps_never)
    pss_nil)
  (pss_cons (ps_if (pt_not (pt_val (pe_callB call_isi (by rfl) T.isinstance (by decide +kernel) (pa_cons (pv 0) (pa_cons (ty_tuple T) pa_nil))))) (pss_one (ps_ret (pe_tup (pa_cons (pv 0) (pa_cons pe_int pa_nil)))))
    pss_nil)
  (pss_one (ps_ret (pe_kn g_lowest_terms (hr.mono (by decide)) rfl (pa_cons (pe_ix ix_tup (pv 0) pe_int (fun _ _ => rfl)) (pa_cons (pe_ix ix_tup (pv 0) pe_int (fun _ _ => rfl)) pa_nil))))))), ?_⟩
  obtain ⟨x, rfl, q, hx, k⟩ := h
  refine ⟨_, rfl, _, rfl, q, hx, fun H1 e1 => ⟨_, rfl, ite_f rfl ?_⟩⟩
  rcases hx.ex e1 with ⟨i, rfl, hq⟩ | ⟨a, n, d, rfl, ha, hd, hq, _, hb⟩
  · refine ⟨_, rfl, _, _, _, _, false, rfl, .ty "tuple", .base (.int i), kit_int_tuple, _, rfl, ite_t rfl ?_⟩
    refine ⟨_, rfl, (by show 2 ≤ sizeLine; decide), fun p hp => ?_⟩
    refine k _ _ (e1.trans (Evl.Ex.new hp)) (qK_mk ?_)
    rw [upd_same, hq]
    rfl
  · refine ⟨_, rfl, _, _, _, _, true, rfl, .ty "tuple", .base (.tup ha), kit_tup_tuple, _, rfl, ite_f rfl ?_⟩
    refine ⟨_, rfl, a, _, _, _, rfl, rfl, SqT.of ha, rfl, _, rfl, a, _, _, _, rfl, rfl, SqT.of ha, rfl, _, _, rfl, n, d, rfl, rfl, hd, hb, fun v H2 e2 hv => ?_⟩
    refine k _ _ (e1.trans e2) ?_
    rw [hq]
    exact hv
end K74
namespace K74
open PySem PySem.Spec PyProof.Rows L2
/-! ### sizes -/
theorem lt_up {n a b : Nat} (h : n < 2 ^ a) (hab : a ≤ b) : n < 2 ^ b := Nat.lt_of_lt_of_le h (Nat.pow_le_pow_right (by decide) hab)
theorem pow_dbl (a : Nat) : 2 ^ (a + 1) = 2 ^ a + 2 ^ a := by rw [Nat.pow_succ]; omega
theorem add_lt {x y : Int} {a : Nat} (hx : x.natAbs < 2 ^ a) (hy : y.natAbs < 2 ^ a) : (x + y).natAbs < 2 ^ (a + 1) := by rw [pow_dbl]; omega
theorem sub_lt {x y : Int} {a : Nat} (hx : x.natAbs < 2 ^ a) (hy : y.natAbs < 2 ^ a) : (x - y).natAbs < 2 ^ (a + 1) := by rw [pow_dbl]; omega
theorem nat_abs_den {q : Rat} {a : Nat} (h : q.den < 2 ^ a) : ((q.den : Int)).natAbs < 2 ^ a := by rw [Int.natAbs_natCast]; exact h
section
variable {p q : Rat}
theorem sm_nd (hp : Sm p) (hq : Sm q) : CMulW p.num (q.den : Int) := wide_mul (a := 4000) (b := 4000) hp.1 (nat_abs_den hq.2) (by decide) (by decide) (by decide)
theorem sm_dd (hp : Sm p) (hq : Sm q) : CMulW (p.den : Int) (q.den : Int) := wide_mul (a := 4000) (b := 4000) (nat_abs_den hp.2) (nat_abs_den hq.2) (by decide) (by decide) (by decide)
theorem sm_nn (hp : Sm p) (hq : Sm q) : CMulW p.num q.num := wide_mul (a := 4000) (b := 4000) hp.1 hq.1 (by decide) (by decide) (by decide)
theorem lt_dd (hp : Sm p) (hq : Sm q) : ((p.den : Int) * (q.den : Int)).natAbs < 2 ^ 8700 := lt_up (a := 4000 + 4000) (wide_lt (nat_abs_den hp.2) (nat_abs_den hq.2)) (by decide)
end
theorem pos_dd (p q : Rat) : (0 : Int) < (p.den : Int) * (q.den : Int) := Int.mul_pos (by have := p.den_pos; omega) (by have := q.den_pos; omega)
theorem dd_nat (p q : Rat) : ((p.den : Int) * (q.den : Int)).toNat = p.den * q.den := by
  have e : (p.den : Int) * (q.den : Int) = ((p.den * q.den : Nat) : Int) := by push_cast; rfl
  rw [e, Int.toNat_natCast]
/-! ### plus, minus, times -/
def spPlus : Sp := sp2 fun x y H Q => ∃ p q : Rat, IsR H x p ∧ IsR H y q ∧ Sm p ∧ Sm q ∧ Ret (qK (p + q)) H Q
def spMinus : Sp := sp2 fun x y H Q => ∃ p q : Rat, IsR H x p ∧ IsR H y q ∧ Sm p ∧ Sm q ∧ Ret (qK (p - q)) H Q
def spTimes : Sp := sp2 fun x y H Q => ∃ p q : Rat, IsR H x p ∧ IsR H y q ∧ Sm p ∧ Sm q ∧ Ret (qK (p * q)) H Q
def spCompare : Sp := sp2 fun x y H Q => ∃ p q : Rat, IsR H x p ∧ IsR H y q ∧ Sm p ∧ Sm q ∧ RetV (.int (if p < q then -1 else if q < p then 1 else 0)) H Q
abbrev s_plus : Stmt := topS 16
theorem sc_plus : FnScope ["one", "other", "a", "b", "c", "d"] ["one", "other"] (defScope s_plus) := ⟨rfl, rfl, rfl, by decide +kernel, rfl, by decide +kernel, by decide +kernel⟩
theorem ok_plus {c : Cn} (D : Dn c "plus" s_plus ["one", "other"]) (g_ratio_of : Kn c CX0 3 "ratio_of" ["thing"] spRatio) (g_lowest_terms : Kn c CX0 1 "lowest_terms" ["top", "bottom"] spLow) : Kn c CX0 4 "plus" ["one", "other"] spPlus := by
  have sc := sc_plus
  refine D.ok sc len2 (fun f cdv A outer s H vs Q E hr h => ?_)
  refine ⟨_, (pss_cons (ps_asg (pe_kn g_ratio_of (hr.mono (by decide)) rfl (pa_cons (pv 0) pa_nil)) (pg_tup rfl (pgs_cons (pg_name (i := 2) sc.nd rfl (.inl rfl)) (pgs_cons (pg_name (i := 3) sc.nd rfl (.inl rfl)) pgs_nil))))
  (pss_cons (ps_asg (pe_kn g_ratio_of (hr.mono (by decide)) rfl (pa_cons (pv 1) pa_nil)) (pg_tup rfl (pgs_cons (pg_name (i := 4) sc.nd rfl (.inl rfl)) (pgs_cons (pg_name (i := 5) sc.nd rfl (.inl rfl)) pgs_nil))))
  (pss_one (ps_ret (pe_kn g_lowest_terms (hr.mono (by decide)) rfl (pa_cons (pe_op op_add (pe_op op_mulW (pv 2) (pv 5)) (pe_op op_mulW (pv 4) (pv 3))) (pa_cons (pe_op op_mulW (pv 3) (pv 5)) pa_nil))))))), ?_⟩
  obtain ⟨x, y, rfl, p, q, hx, hy, hp, hq, k⟩ := h
  refine ⟨_, rfl, x, rfl, p, hx, fun v1 H1 e1 hv1 => ?_⟩
  obtain ⟨a1, rfl, h1⟩ := qK_inv hv1
  refine ⟨a1, _, rfl, SqT.of h1, rfl, _, _, rfl, _, _, rfl, rfl, ?_⟩
  refine ⟨_, rfl, y, rfl, q, hy.ex e1, fun v2 H2 e2 hv2 => ?_⟩
  obtain ⟨a2, rfl, h2⟩ := qK_inv hv2
  refine ⟨a2, _, rfl, SqT.of h2, rfl, _, _, rfl, _, _, rfl, rfl, ?_⟩
  refine ⟨_, rfl, _, rfl, _, _, rfl, rfl, sm_nd hp hq, _, rfl, _, rfl, _, _, rfl, rfl, sm_nd hq hp, _, _, rfl, rfl, _, rfl, _, rfl, _, _, rfl, rfl, sm_dd hp hq, _, _, rfl, _, _, rfl, rfl, pos_dd p q, lt_dd hp hq, fun v H3 e3 hv => ?_⟩
  refine k _ _ ((e1.trans e2).trans e3) ?_
  rw [Rat.add_def', ← dd_nat]
  exact hv
abbrev s_minus : Stmt := topS 17
theorem sc_minus : FnScope ["one", "other", "a", "b", "c", "d"] ["one", "other"] (defScope s_minus) := ⟨rfl, rfl, rfl, by decide +kernel, rfl, by decide +kernel, by decide +kernel⟩
theorem ok_minus {c : Cn} (D : Dn c "minus" s_minus ["one", "other"]) (g_ratio_of : Kn c CX0 3 "ratio_of" ["thing"] spRatio) (g_lowest_terms : Kn c CX0 1 "lowest_terms" ["top", "bottom"] spLow) : Kn c CX0 4 "minus" ["one", "other"] spMinus := by
  have sc := sc_minus
  refine D.ok sc len2 (fun f cdv A outer s H vs Q E hr h => ?_)
  refine ⟨_, (pss_cons (ps_asg (pe_kn g_ratio_of (hr.mono (by decide)) rfl (pa_cons (pv 0) pa_nil)) (pg_tup rfl (pgs_cons (pg_name (i := 2) sc.nd rfl (.inl rfl)) (pgs_cons (pg_name (i := 3) sc.nd rfl (.inl rfl)) pgs_nil))))
  (pss_cons (ps_asg (pe_kn g_ratio_of (hr.mono (by decide)) rfl (pa_cons (pv 1) pa_nil)) (pg_tup rfl (pgs_cons (pg_name (i := 4) sc.nd rfl (.inl rfl)) (pgs_cons (pg_name (i := 5) sc.nd rfl (.inl rfl)) pgs_nil))))
  (pss_one (ps_ret (pe_kn g_lowest_terms (hr.mono (by decide)) rfl (pa_cons (pe_op op_sub (pe_op op_mulW (pv 2) (pv 5)) (pe_op op_mulW (pv 4) (pv 3))) (pa_cons (pe_op op_mulW (pv 3) (pv 5)) pa_nil))))))), ?_⟩
  obtain ⟨x, y, rfl, p, q, hx, hy, hp, hq, k⟩ := h
  refine ⟨_, rfl, x, rfl, p, hx, fun v1 H1 e1 hv1 => ?_⟩
  obtain ⟨a1, rfl, h1⟩ := qK_inv hv1
  refine ⟨a1, _, rfl, SqT.of h1, rfl, _, _, rfl, _, _, rfl, rfl, ?_⟩
  refine ⟨_, rfl, y, rfl, q, hy.ex e1, fun v2 H2 e2 hv2 => ?_⟩
  obtain ⟨a2, rfl, h2⟩ := qK_inv hv2
  refine ⟨a2, _, rfl, SqT.of h2, rfl, _, _, rfl, _, _, rfl, rfl, ?_⟩
  refine ⟨_, rfl, _, rfl, _, _, rfl, rfl, sm_nd hp hq, _, rfl, _, rfl, _, _, rfl, rfl, sm_nd hq hp, _, _, rfl, rfl, _, rfl, _, rfl, _, _, rfl, rfl, sm_dd hp hq, _, _, rfl, _, _, rfl, rfl, pos_dd p q, lt_dd hp hq, fun v H3 e3 hv => ?_⟩
  refine k _ _ ((e1.trans e2).trans e3) ?_
  rw [Rat.sub_def', ← dd_nat]
  exact hv
abbrev s_times : Stmt := topS 18
theorem sc_times : FnScope ["one", "other", "a", "b", "c", "d"] ["one", "other"] (defScope s_times) := ⟨rfl, rfl, rfl, by decide +kernel, rfl, by decide +kernel, by decide +kernel⟩
theorem ok_times {c : Cn} (D : Dn c "times" s_times ["one", "other"]) (g_ratio_of : Kn c CX0 3 "ratio_of" ["thing"] spRatio) (g_lowest_terms : Kn c CX0 1 "lowest_terms" ["top", "bottom"] spLow) : Kn c CX0 4 "times" ["one", "other"] spTimes := by
  have sc := sc_times
  refine D.ok sc len2 (fun f cdv A outer s H vs Q E hr h => ?_)
  refine ⟨_, (pss_cons (ps_asg (pe_kn g_ratio_of (hr.mono (by decide)) rfl (pa_cons (pv 0) pa_nil)) (pg_tup rfl (pgs_cons (pg_name (i := 2) sc.nd rfl (.inl rfl)) (pgs_cons (pg_name (i := 3) sc.nd rfl (.inl rfl)) pgs_nil))))
  (pss_cons (ps_asg (pe_kn g_ratio_of (hr.mono (by decide)) rfl (pa_cons (pv 1) pa_nil)) (pg_tup rfl (pgs_cons (pg_name (i := 4) sc.nd rfl (.inl rfl)) (pgs_cons (pg_name (i := 5) sc.nd rfl (.inl rfl)) pgs_nil))))
  (pss_one (ps_ret (pe_kn g_lowest_terms (hr.mono (by decide)) rfl (pa_cons (pe_op op_mulW (pv 2) (pv 4)) (pa_cons (pe_op op_mulW (pv 3) (pv 5)) pa_nil))))))), ?_⟩
  obtain ⟨x, y, rfl, p, q, hx, hy, hp, hq, k⟩ := h
  refine ⟨_, rfl, x, rfl, p, hx, fun v1 H1 e1 hv1 => ?_⟩
  obtain ⟨a1, rfl, h1⟩ := qK_inv hv1
  refine ⟨a1, _, rfl, SqT.of h1, rfl, _, _, rfl, _, _, rfl, rfl, ?_⟩
  refine ⟨_, rfl, y, rfl, q, hy.ex e1, fun v2 H2 e2 hv2 => ?_⟩
  obtain ⟨a2, rfl, h2⟩ := qK_inv hv2
  refine ⟨a2, _, rfl, SqT.of h2, rfl, _, _, rfl, _, _, rfl, rfl, ?_⟩
  refine ⟨_, rfl, _, rfl, _, _, rfl, rfl, sm_nn hp hq, _, rfl, _, rfl, _, _, rfl, rfl, sm_dd hp hq, _, _, rfl, _, _, rfl, rfl, pos_dd p q, lt_dd hp hq, fun v H3 e3 hv => ?_⟩
  refine k _ _ ((e1.trans e2).trans e3) ?_
  rw [Rat.mul_def', ← dd_nat]
  exact hv
abbrev s_compare : Stmt := topS 19
theorem sc_compare : FnScope ["one", "other", "a", "b", "c", "d", "left", "right"] ["one", "other"] (defScope s_compare) := ⟨rfl, rfl, rfl, by decide +kernel, rfl, by decide +kernel, by decide +kernel⟩
theorem ok_compare {c : Cn} (D : Dn c "compare" s_compare ["one", "other"]) (g_ratio_of : Kn c CX0 3 "ratio_of" ["thing"] spRatio) : Kn c CX0 4 "compare" ["one", "other"] spCompare := by
  have sc := sc_compare
  refine D.ok sc len2 (fun f cdv A outer s H vs Q E hr h => ?_)
  refine ⟨_, (pss_cons (ps_asg (pe_kn g_ratio_of (hr.mono (by decide)) rfl (pa_cons (pv 0) pa_nil)) (pg_tup rfl (pgs_cons (pg_name (i := 2) sc.nd rfl (.inl rfl)) (pgs_cons (pg_name (i := 3) sc.nd rfl (.inl rfl)) pgs_nil))))
  (pss_cons (ps_asg (pe_kn g_ratio_of (hr.mono (by decide)) rfl (pa_cons (pv 1) pa_nil)) (pg_tup rfl (pgs_cons (pg_name (i := 4) sc.nd rfl (.inl rfl)) (pgs_cons (pg_name (i := 5) sc.nd rfl (.inl rfl)) pgs_nil))))
  (pss_cons (ps_set (i := 6) sc.nd rfl (.inl rfl) (pe_op op_mulW (pv 2) (pv 5)))
  (pss_cons (ps_set (i := 7) sc.nd rfl (.inl rfl) (pe_op op_mulW (pv 4) (pv 3)))
  (pss_cons (ps_if (pt_cmpR op_lt (pv 6) (pv 7) (nomark _)) (pss_one (ps_ret (pe_un un_neg pe_int)))
    pss_nil)
  (pss_one (ps_ret (pe_ifExp (pt_cmpR op_gt (pv 6) (pv 7) (nomark _)) pe_int pe_int)))))))), ?_⟩
  obtain ⟨x, y, rfl, p, q, hx, hy, hp, hq, k⟩ := h
  refine ⟨_, rfl, x, rfl, p, hx, fun v1 H1 e1 hv1 => ?_⟩
  obtain ⟨a1, rfl, h1⟩ := qK_inv hv1
  refine ⟨a1, _, rfl, SqT.of h1, rfl, _, _, rfl, _, _, rfl, rfl, ?_⟩
  refine ⟨_, rfl, y, rfl, q, hy.ex e1, fun v2 H2 e2 hv2 => ?_⟩
  obtain ⟨a2, rfl, h2⟩ := qK_inv hv2
  refine ⟨a2, _, rfl, SqT.of h2, rfl, _, _, rfl, _, _, rfl, rfl, ?_⟩
  refine ⟨_, rfl, _, rfl, _, _, rfl, rfl, sm_nd hp hq, _, rfl, _, rfl, _, _, rfl, rfl, sm_nd hq hp, ?_⟩
  refine ⟨_, rfl, _, rfl, _, _, rfl, rfl, _, rfl, ?_⟩
  by_cases h12 : p < q
  · refine ite_t (decide_eq_true ((Rat.lt_iff _ _).mp h12)) ?_
    have k2 := k _ (e1.trans e2)
    rw [if_pos h12] at k2
    exact ⟨_, rfl, k2⟩
  · refine ite_f (decide_eq_false fun z => h12 ((Rat.lt_iff _ _).mpr z)) ?_
    refine ⟨_, rfl, _, rfl, _, _, rfl, rfl, _, rfl, ?_⟩
    have k2 := k _ (e1.trans e2)
    rw [if_neg h12] at k2
    by_cases h21 : q < p
    · refine ite_t (decide_eq_true ((Rat.lt_iff _ _).mp h21)) ?_
      rw [if_pos h21] at k2
      exact k2
    · refine ite_f (decide_eq_false fun z => h21 ((Rat.lt_iff _ _).mpr z)) ?_
      rw [if_neg h21] at k2
      exact k2
/-! ### mixed_ratio -/
def Ti (i : Int) : Prop := i.natAbs < 2 ^ 10
def spMixed : Sp := sp5 fun o f p g d H Q => ∃ (a : Int) (x : Rat) (b : Int) (y : Rat) (z : Int), o = .int a ∧ NK H (qK x) f ∧ p = .int b ∧ NK H (qK y) g ∧ d = .int z ∧ Ti a ∧ Ti b ∧ Ti z ∧ 0 < z ∧ Sm x ∧ Sm y ∧ Ret (qK (((a : Rat) * x + (b : Rat) * y) / (z : Rat))) H Q
theorem mix_eq (a b z : Int) (x y : Rat) (hz : 0 < z) : ((a : Rat) * x + (b : Rat) * y) / (z : Rat) = mkRat (a * x.num * y.den + b * y.num * x.den) (z * x.den * y.den).toNat := by
  have hx : (x.den : Int) ≠ 0 := by have := x.den_pos; omega
  have hy : (y.den : Int) ≠ 0 := by have := y.den_pos; omega
  have e : (z * x.den * y.den).toNat = z.toNat * x.den * y.den := by
    have : (z * x.den * y.den) = ((z.toNat * x.den * y.den : Nat) : Int) := by
      push_cast
      rw [Int.toNat_of_nonneg (by omega)]
    rw [this, Int.toNat_natCast]
  rw [e, Rat.mkRat_eq_div]
  have hz' : ((z.toNat : Nat) : Rat) = (z : Rat) := by
    have : ((z.toNat : Nat) : Rat) = (((z.toNat : Nat) : Int) : Rat) := rfl
    rw [this, Int.toNat_of_nonneg (by omega)]
  have hx1 : x = (x.num : Rat) / (x.den : Rat) := by rw [← Rat.mkRat_eq_div, Rat.mkRat_self]
  have hy1 : y = (y.num : Rat) / (y.den : Rat) := by rw [← Rat.mkRat_eq_div, Rat.mkRat_self]
  have zz : (z : Rat) ≠ 0 := by
    intro h0
    have : (z : Rat).num = (0 : Rat).num := by rw [h0]
    simp at this
    omega
  have xz : (x.den : Rat) ≠ 0 := by
    intro h0
    have : ((x.den : Nat) : Rat).num = (0 : Rat).num := by rw [h0]
    simp at this
    have := x.den_pos
    omega
  have yz : (y.den : Rat) ≠ 0 := by
    intro h0
    have : ((y.den : Nat) : Rat).num = (0 : Rat).num := by rw [h0]
    simp at this
    have := y.den_pos
    omega
  push_cast
  rw [hz']
  generalize hn : (x.num : Rat) = xn at *
  generalize hm : (y.num : Rat) = yn at *
  generalize hd1 : (x.den : Rat) = xd at *
  generalize hd2 : (y.den : Rat) = yd at *
  rw [hx1, hy1]
  grind
end K74
namespace K74
open PySem PySem.Spec PyProof.Rows L2
/-! ### a list or a tuple -/
def Sq (K : PySem.W.Frag) (H : Hp) (a : Addr) (xs : List V) : Prop := SqL K H a xs ∨ SqT K H a xs
theorem Sq.ex {K : PySem.W.Frag} {H H' : Hp} {a : Addr} {xs : List V} (h : Sq K H a xs) (e : Ex H H') : Sq K H' a xs := h.elim (fun h => .inl (Evl.ex_l e h)) (fun h => .inr (Evl.ex_t e h))
theorem Sq.l {K : PySem.W.Frag} {H : Hp} {a : Addr} {xs : List V} (h : H a = some (.lst xs)) : Sq K H a xs := .inl (SqL.of h)
theorem Sq.t {K : PySem.W.Frag} {H : Hp} {a : Addr} {xs : List V} (h : H a = some (.tup xs)) : Sq K H a xs := .inr (SqT.of h)
section
variable {X : Cx}
def rIxSq (K : PySem.W.Frag) : R2 := fun x y H Q => ∃ p xs i v, x = .ref p ∧ y = .int i ∧ Sq K H p xs ∧ atI xs i = some v ∧ Q v H
theorem ix_sq : IxR X (rIxSq X.K) := by
  intro value slice pins s σ H x y v u Q I rx ry h hs
  obtain ⟨p, xs, j, z, rfl, rfl, hq, ha, q⟩ := h
  rcases hq with hq | hq
  · exact ix_list value slice pins s σ H _ _ _ _ Q I rx ry ⟨p, xs, j, z, rfl, rfl, hq, ha, q⟩ hs
  · exact ix_tup value slice pins s σ H _ _ _ _ Q I rx ry ⟨p, xs, j, z, rfl, rfl, hq, ha, q⟩ hs
def iSqv (K : PySem.W.Frag) (x : V) (H : Hp) (R : It → Hp → Prop) : Prop := ∃ a xs, x = .ref a ∧ ((SqL K H a xs ∧ R (Itl K a) H) ∨ (SqT K H a xs ∧ R (Itt K a) H))
def iSq (K : PySem.W.Frag) (tl : TE) : TI := fun σ H R => tl σ H fun x H1 => iSqv K x H1 R
theorem pi_sq {tg l : Expr} {tl : TE} (hl : PE X l tl) : PI X tg l (iSq X.K tl) := by
  refine ⟨fun pins s σ H R I h => ?_⟩
  refine thn (hl.run pins s σ H _ I h) fun v s1 ⟨x, H1, I1, r1, q1⟩ => ?_
  obtain ⟨a, xs, rfl, q | q⟩ := q1
  · obtain ⟨hq, q⟩ := q
    cases r1
    obtain ⟨its, rv, p, hz⟩ := I1.list hq
    refine wpAny_pyIter_list p.isList ?_
    refine ⟨s1.heap.objs.size, [s1.heap.objs.size], _, _, H1, rfl, I1.kept (t' := s1.toks) fun b o e => Heap.get?_push_of_some _ e, turn_list a _, ⟨_, Heap.get?_push_size _ rfl, rfl, rfl⟩, fun b hb => ?_, q⟩
    have e : b = s1.heap.objs.size := by simpa using hb
    subst e
    exact I1.fpOk (Nat.le_refl _) (I1.hok.fresh (Nat.le_refl _))
  · obtain ⟨hq, q⟩ := q
    cases r1
    obtain ⟨its, rv, p, hz⟩ := I1.tuple hq
    refine wpAny_pyIter_tuple (show s1.heap.IsTuple a its.toArray from p) ?_
    refine ⟨s1.heap.objs.size, [s1.heap.objs.size], _, _, H1, rfl, I1.kept (t' := s1.toks) fun b o e => Heap.get?_push_of_some _ e, turn_tuple a _, ⟨_, Heap.get?_push_size _ rfl, rfl, rfl⟩, fun b hb => ?_, q⟩
    have e : b = s1.heap.objs.size := by simpa using hb
    subst e
    exact I1.fpOk (Nat.le_refl _) (I1.hok.fresh (Nat.le_refl _))
end
theorem iSq_go {K : PySem.W.Frag} {H : Hp} {a : Addr} {xs : List V} {R : It → Hp → Prop} (hq : Sq K H a xs) (h : ∀ J, Walk J xs.length (fun H' => Ex H H') (YAt xs) → R J H) : iSqv K (.ref a) H R := by
  rcases hq with hq | hq
  · exact ⟨a, xs, rfl, .inl ⟨hq, h _ (walk_list.mono (fun H' e => Evl.ex_l e hq) fun _ _ _ _ _ _ y => y)⟩⟩
  · exact ⟨a, xs, rfl, .inr ⟨hq, h _ (walk_tup.mono (fun H' e => Evl.ex_t e hq) fun _ _ _ _ _ _ y => y)⟩⟩
theorem walk_tupE {K : PySem.W.Frag} {H : Hp} {a : Addr} {xs : List V} (hq : SqT K H a xs) : Walk (Itt K a) xs.length (fun H' => Ex H H') (YAt xs) := walk_tup.mono (fun H' e => Evl.ex_t e hq) fun _ _ _ _ _ _ y => y
theorem walk_lstE {K : PySem.W.Frag} {H : Hp} {a : Addr} {xs : List V} (hq : SqL K H a xs) : Walk (Itl K a) xs.length (fun H' => Ex H H') (YAt xs) := walk_list.mono (fun H' e => Evl.ex_l e hq) fun _ _ _ _ _ _ y => y
theorem walk_rangeE {H : Hp} {lo : Int} {n : Nat} : Walk (Itr lo n) n (fun H' => Ex H H') (YFn fun i => .int (lo + i)) := walk_range.mono (fun _ _ => trivial) fun _ _ _ _ _ _ y => y
theorem walk_zipTE {K : PySem.W.Frag} {H : Hp} {a b : Addr} {xs ys : List V} {n : Nat} (hn : n = min xs.length ys.length) (hx : SqT K H a xs) (hy : SqT K H b ys) : Walk (RZ.ItzT K a b) n (fun H' => Ex H H') (YPair (fun i => xs[i]?) (fun i => ys[i]?)) := by
  subst hn
  refine ⟨fun i _ hi e => ?_, fun _ e => ⟨xs, ys, Evl.ex_t e hx, Evl.ex_t e hy, by omega⟩, fun i H' v H'' _ e y => ?_⟩
  · have h1 : i < xs.length := by omega
    have h2 : i < ys.length := by omega
    exact ⟨xs, ys, xs[i], ys[i], Evl.ex_t e hx, Evl.ex_t e hy, by simp [h1], by simp [h2]⟩
  · obtain ⟨T, x, z, h1, h2, h3, h4, h5⟩ := y
    exact ⟨T, x, z, h1, h2, h3, h4 xs (Evl.ex_t e hx), h5 ys (Evl.ex_t e hy)⟩
theorem line_of {n : Nat} (h : n ≤ 100000) : n < sizeLine := Nat.lt_of_le_of_lt h (by decide)
/-! ### a comprehension whose items are all kept -/
/-- Y is such that the heap grows -/
def Grow (Y : Nat → Hp → V → Hp → Prop) : Prop := ∀ i H x H', Y i H x H' → Ex H H'
theorem grow_at {xs : List V} : Grow (YAt xs) := fun _ _ _ _ y => by rw [y.1]; exact Ex.rfl
theorem grow_fn {f : Nat → V} : Grow (YFn f) := fun _ _ _ _ y => by rw [y.1]; exact Ex.rfl
theorem grow_pair {f g : Nat → Option V} : Grow (YPair f g) := fun _ _ _ _ y => by
  obtain ⟨T, x, z, rfl, hT, rfl, _⟩ := y
  exact Evl.Ex.new hT
mutual
theorem NK.lupd {H : Hp} {D : Addr} {acc ys : List V} (hD : H D = some (.lst acc)) : ∀ (k : NestedKey) (v : V), NK H k v → NK (upd H D (.lst ys)) k v
  | .none, _, h => by cases h; exact .none
  | .num i, _, h => by cases h; exact .num i
  | .text _, _, h => by cases h
  | .tup ks, _, h => by
    cases h with
    | tup h1 h2 => exact .tup (by rw [upd_ne (ne_of h1 hD (by intro z; cases z))]; exact h1) (NKs.lupd hD ks _ h2)
theorem NKs.lupd {H : Hp} {D : Addr} {acc ys : List V} (hD : H D = some (.lst acc)) : ∀ (ks : List NestedKey) (vs : List V), NKs H ks vs → NKs (upd H D (.lst ys)) ks vs
  | [], _, h => by cases h; exact .nil
  | k :: ks, _, h => by
    cases h with
    | cons h1 h2 => exact .cons (NK.lupd hD k _ h1) (NKs.lupd hD ks _ h2)
end
/-- what lasts while the heap grows and while the list at D is changed -/
structure Lasts (D : Addr) (R : Hp → Prop) : Prop where
  ex : ∀ H H', Ex H H' → R H → R H'
  lu : ∀ H acc ys, H D = some (.lst acc) → R H → R (upd H D (.lst ys))
theorem Lasts.nk {D : Addr} {k : NestedKey} {v : V} : Lasts D (fun H => NK H k v) := ⟨fun _ _ e h => h.ex e, fun _ _ _ hD h => NK.lupd hD _ _ h⟩
/-- items told by Rel (that lasts) -/
theorem lc_rel {J : It} {n : Nat} {H1 : Hp} {Y : Nat → Hp → V → Hp → Prop} (w : Walk J n (fun H' => Ex H1 H') Y) (gy : Grow Y) {g : TG} {te : TE} {vs : List Nat} {σ : L2.St} {Qd : Addr → Hp → Prop}
    (Rel : Addr → Nat → V → Hp → Prop) (la : ∀ D i v, Lasts D (Rel D i v)) (hn : n ≤ 10000)
    (hs : ∀ D acc i x H H', i < n → Ex H1 H → H D = some (.lst acc) → Y i H x H' → ∀ B : L2.St → Hp → Prop, (∀ σ2 H2, Ex H' H2 → wipe σ2 vs = wipe σ vs → (∀ Q' : VK, (∀ v H4, Ex H2 H4 → Rel D i v H4 → Q' v H4) → te σ2 H2 Q') → B σ2 H2) → g x (wipe σ vs) H' B)
    (k : ∀ D xs H', H1 D = none → Ex H1 H' → H' D = some (.lst xs) → xs.length = n → (∀ i v, xs[i]? = some v → Rel D i v H') → Qd D H') :
    ∀ D, H1 D = none → ∃ W : Nat → Nat → Hp → Prop, (∃ m, W 0 m (upd H1 D (.lst []))) ∧ ∀ i m H, W i m H →
      (J.stop i H ∧ Qd D H) ∨ (J.go i H ∧ ∃ Nx : Hp → Prop, (∀ H', Nx H' → ∃ m', m' < m ∧ W (i + 1) m' H') ∧ ∀ x H', J.yld i H x H' → g x (wipe σ vs) H' fun σ2 H2 => wipe σ2 vs = wipe σ vs ∧ tYes σ2 H2 fun b H3 =>
        if b = true then te σ2 H3 fun y H4 => ∃ acc, H4 D = some (.lst acc) ∧ acc.length < sizeLine ∧ Nx (upd H4 D (.lst (acc ++ [y]))) else Nx H3) := by
  intro D hD
  refine lc_it w (fun i H => Ex H1 H ∧ ∃ acc, H D = some (.lst acc) ∧ acc.length = i ∧ ∀ (j : Nat) v, acc[j]? = some v → Rel D j v H) ⟨Evl.Ex.new hD, [], upd_same, rfl, fun j v e => by simp at e⟩ (fun i H _ p => p.1) (fun i x H H' hi p y => ?_) (fun H p => ?_)
  · obtain ⟨e1, acc, hacc, hl, hr⟩ := p
    have e2 := gy i H x H' y
    refine hs D acc i x H H' hi e1 hacc y _ fun σ2 H2 e3 hw2 ht => ⟨hw2, ?_⟩
    refine ht _ fun v H4 e4 hv => ?_
    have eD : H4 D = some (.lst acc) := e4 _ _ (e3 _ _ (e2 _ _ hacc))
    have all := ((e2.trans e3).trans e4)
    refine ⟨acc, eD, line_of (by omega), Evl.Ex.mut (e1.trans all) hD, acc ++ [v], upd_same, by simp [hl], fun j u e => ?_⟩
    refine (la D j u).lu H4 acc (acc ++ [v]) eD ?_
    by_cases hj : j < acc.length
    · rw [List.getElem?_append_left hj] at e
      exact (la D j u).ex _ _ all (hr j u e)
    · rw [List.getElem?_append_right (by omega)] at e
      have hj0 : j - acc.length = 0 := by
        rcases Nat.eq_zero_or_pos (j - acc.length) with z | z
        · exact z
        · rw [List.getElem?_eq_none (by simp; omega)] at e
          cases e
      rw [hj0] at e
      have eu : v = u := Option.some.inj e
      have ej : j = i := by omega
      subst eu ej
      exact hv
  · obtain ⟨e1, acc, hacc, hl, hr⟩ := p
    exact k D acc H hD e1 hacc hl hr
theorem NKs.of_get {H : Hp} : ∀ {ks : List NestedKey} {vs : List V}, vs.length = ks.length → (∀ (i : Nat) k v, ks[i]? = some k → vs[i]? = some v → NK H k v) → NKs H ks vs
  | [], [], _, _ => .nil
  | [], _ :: _, h, _ => by simp at h
  | _ :: _, [], h, _ => by simp at h
  | k :: ks, v :: vs, h, f => .cons (f 0 k v rfl rfl) (NKs.of_get (by simpa using h) fun i k' v' e1 e2 => f (i + 1) k' v' e1 e2)
/-- items that are data; the target a name -/
theorem lc_name {J : It} {n : Nat} {H1 : Hp} {Y : Nat → Hp → V → Hp → Prop} (w : Walk J n (fun H' => Ex H1 H') Y) (gy : Grow Y) {j : Nat} {te : TE} {vs : List Nat} {σ : L2.St} {Qd : Addr → Hp → Prop}
    (ks : List NestedKey) (hk : ks.length = n) (hn : n ≤ 10000) (hw : ∀ x, wipe ((wipe σ vs).set j (some x)) vs = wipe σ vs)
    (hs : ∀ i x kk H H', ks[i]? = some kk → Ex H1 H → Ex H1 H' → Y i H x H' → ∀ Q' : VK, (∀ v H4, Ex H' H4 → NK H4 kk v → Q' v H4) → te ((wipe σ vs).set j (some x)) H' Q')
    (k : ∀ D xs H', H1 D = none → Ex H1 H' → H' D = some (.lst xs) → NKs H' ks xs → Qd D H') :
    ∀ D, H1 D = none → ∃ W : Nat → Nat → Hp → Prop, (∃ m, W 0 m (upd H1 D (.lst []))) ∧ ∀ i m H, W i m H →
      (J.stop i H ∧ Qd D H) ∨ (J.go i H ∧ ∃ Nx : Hp → Prop, (∀ H', Nx H' → ∃ m', m' < m ∧ W (i + 1) m' H') ∧ ∀ x H', J.yld i H x H' → gName j x (wipe σ vs) H' fun σ2 H2 => wipe σ2 vs = wipe σ vs ∧ tYes σ2 H2 fun b H3 =>
        if b = true then te σ2 H3 fun y H4 => ∃ acc, H4 D = some (.lst acc) ∧ acc.length < sizeLine ∧ Nx (upd H4 D (.lst (acc ++ [y]))) else Nx H3) := by
  refine lc_rel w gy (fun _ i v H => ∀ kk, ks[i]? = some kk → NK H kk v) (fun D i v => ⟨fun H H' e h kk hkk => (h kk hkk).ex e, fun H acc ys hD h kk hkk => NK.lupd hD _ _ (h kk hkk)⟩) hn (fun D acc i x H H' hi e1 hD y B hB => ?_) (fun D xs H' hD e hx hl hr => ?_)
  · have hki : ks[i]? = some ks[i] := List.getElem?_eq_getElem (by omega)
    refine hB _ _ Ex.rfl (hw x) fun Q' q => hs i x _ H H' hki e1 (e1.trans (gy _ _ _ _ y)) y Q' fun v H4 e4 hv => q v H4 e4 fun kk hkk => ?_
    rw [hki] at hkk
    cases hkk
    exact hv
  · exact k D xs H' hD e hx (NKs.of_get (by omega) fun i kk v h1 h2 => hr i v h2 kk h1)
/-- items that are data; the target two names, each turn a pair -/
theorem lc_pair {J : It} {n : Nat} {H1 : Hp} {f1 f2 : Nat → Option V} (w : Walk J n (fun H' => Ex H1 H') (YPair f1 f2)) {K : PySem.W.Frag} {j l : Nat} {te : TE} {vs : List Nat} {σ : L2.St} {Qd : Addr → Hp → Prop}
    (ks : List NestedKey) (hk : ks.length = n) (hn : n ≤ 10000) (hw : ∀ x y, wipe (((wipe σ vs).set j (some x)).set l (some y)) vs = wipe σ vs)
    (hs : ∀ i x y kk H', ks[i]? = some kk → Ex H1 H' → f1 i = some x → f2 i = some y → ∀ Q' : VK, (∀ v H4, Ex H' H4 → NK H4 kk v → Q' v H4) → te (((wipe σ vs).set j (some x)).set l (some y)) H' Q')
    (k : ∀ D xs H', H1 D = none → Ex H1 H' → H' D = some (.lst xs) → NKs H' ks xs → Qd D H') :
    ∀ D, H1 D = none → ∃ W : Nat → Nat → Hp → Prop, (∃ m, W 0 m (upd H1 D (.lst []))) ∧ ∀ i m H, W i m H →
      (J.stop i H ∧ Qd D H) ∨ (J.go i H ∧ ∃ Nx : Hp → Prop, (∀ H', Nx H' → ∃ m', m' < m ∧ W (i + 1) m' H') ∧ ∀ x H', J.yld i H x H' → gTup K 2 (gCons (gName j) (gCons (gName l) gNil)) x (wipe σ vs) H' fun σ2 H2 => wipe σ2 vs = wipe σ vs ∧ tYes σ2 H2 fun b H3 =>
        if b = true then te σ2 H3 fun y H4 => ∃ acc, H4 D = some (.lst acc) ∧ acc.length < sizeLine ∧ Nx (upd H4 D (.lst (acc ++ [y]))) else Nx H3) := by
  refine lc_rel w grow_pair (fun _ i v H => ∀ kk, ks[i]? = some kk → NK H kk v) (fun D i v => ⟨fun H H' e h kk hkk => (h kk hkk).ex e, fun H acc ys hD h kk hkk => NK.lupd hD _ _ (h kk hkk)⟩) hn (fun D acc i z H H' hi e1 hD y B hB => ?_) (fun D xs H' hD e hx hl hr => ?_)
  · have hki : ks[i]? = some ks[i] := List.getElem?_eq_getElem (by omega)
    obtain ⟨T, x, u, rfl, hT, rfl, h1, h2⟩ := y
    have e2 := e1.trans (Evl.Ex.new (o := .tup [x, u]) hT)
    refine ⟨T, [x, u], rfl, SqT.of upd_same, rfl, x, [u], rfl, u, [], rfl, rfl, ?_⟩
    refine hB _ _ Ex.rfl (hw x u) fun Q' q => hs i x u _ _ hki e2 h1 h2 Q' fun v H4 e4 hv => q v H4 e4 fun kk hkk => ?_
    rw [hki] at hkk
    cases hkk
    exact hv
  · exact k D xs H' hD e hx (NKs.of_get (by omega) fun i kk v h1 h2 => hr i v h2 kk h1)
/-- the items x for which the test says True -/
theorem lc_if {J : It} {H1 : Hp} {ks : List NestedKey} {xs0 : List V} (hx0 : NKs H1 ks xs0) (w : Walk J xs0.length (fun H' => Ex H1 H') (YAt xs0)) {j : Nat} {tt : TT} {vs : List Nat} {σ : L2.St} {Qd : Addr → Hp → Prop}
    (p : NestedKey → Bool) (hn : ks.length ≤ 10000) (hj : ∀ x, ((wipe σ vs).set j (some x))[j]? = some (some x)) (hw : ∀ x, wipe ((wipe σ vs).set j (some x)) vs = wipe σ vs)
    (hs : ∀ (i : Nat) x kk H, ks[i]? = some kk → xs0[i]? = some x → NK H kk x → Ex H1 H → ∀ Q' : Bool → Hp → Prop, (∀ H4, Ex H H4 → Q' (p kk) H4) → tt ((wipe σ vs).set j (some x)) H Q')
    (k : ∀ D xs H', H1 D = none → Ex H1 H' → H' D = some (.lst xs) → NKs H' (ks.filter p) xs → Qd D H') :
    ∀ D, H1 D = none → ∃ W : Nat → Nat → Hp → Prop, (∃ m, W 0 m (upd H1 D (.lst []))) ∧ ∀ i m H, W i m H →
      (J.stop i H ∧ Qd D H) ∨ (J.go i H ∧ ∃ Nx : Hp → Prop, (∀ H', Nx H' → ∃ m', m' < m ∧ W (i + 1) m' H') ∧ ∀ x H', J.yld i H x H' → gName j x (wipe σ vs) H' fun σ2 H2 => wipe σ2 vs = wipe σ vs ∧ tt σ2 H2 fun b H3 =>
        if b = true then tVar j σ2 H3 fun y H4 => ∃ acc, H4 D = some (.lst acc) ∧ acc.length < sizeLine ∧ Nx (upd H4 D (.lst (acc ++ [y]))) else Nx H3) := by
  intro D hD
  have hlen := hx0.len
  refine lc_it w (fun i H => Ex H1 H ∧ ∃ acc, H D = some (.lst acc) ∧ NKs H ((ks.take i).filter p) acc) ⟨Evl.Ex.new hD, [], upd_same, .nil⟩ (fun i H _ p => p.1) (fun i x H H' hi pv y => ?_) (fun H pv => ?_)
  · obtain ⟨e1, acc, hacc, hr⟩ := pv
    obtain ⟨rfl, hx⟩ := y
    obtain ⟨kk, hkk, hnk⟩ := hx0.got hx
    have hnk1 := hnk.ex e1
    have tk : ks.take (i + 1) = ks.take i ++ [kk] := by rw [List.take_add_one, hkk]; rfl
    refine ⟨hw x, hs i x kk _ hkk hx hnk1 e1 _ fun H4 e4 => ?_⟩
    have eD : H4 D = some (.lst acc) := e4 _ _ hacc
    by_cases hp : p kk = true
    · refine ite_t hp ⟨x, hj x, acc, eD, line_of ?_, Evl.Ex.mut (e1.trans e4) hD, acc ++ [x], upd_same, ?_⟩
      · rw [hr.len]
        have := List.length_filter_le p (ks.take i)
        have := List.length_take_le i ks
        omega
      · rw [tk, List.filter_append, List.filter_cons, if_pos hp]
        exact NKs.snoc (NK.lupd eD _ _ (hnk1.ex e4)) (NKs.lupd eD _ _ (hr.ex e4))
    · refine ite_f (by simpa using hp) ⟨e1.trans e4, acc, eD, ?_⟩
      rw [tk, List.filter_append, List.filter_cons, if_neg hp]
      simpa using hr.ex e4
  · obtain ⟨e1, acc, hacc, hr⟩ := pv
    refine k D acc H hD e1 hacc ?_
    rw [List.take_of_length_le (by omega)] at hr
    exact hr
end K74
namespace K74
open PySem PySem.Spec PyProof.Rows L2
theorem Bd.sm {m : Nat} {q : Rat} (h : Bd m q) (hm : m ≤ 100) : Sm q := h.small hm
theorem small_neg {i : Int} (h : (0 : Int) ≤ i) : decide (V.int i = V.int (-1)) = false := decide_eq_false fun e => by injection e with e; omega
/-! ### mixed_ratio -/
abbrev s_mixed_ratio : Stmt := topS 23
theorem sc_mixed_ratio : FnScope ["one", "first", "other", "second", "divisor", "top"] ["one", "first", "other", "second", "divisor"] (defScope s_mixed_ratio) := ⟨rfl, rfl, rfl, by decide +kernel, rfl, by decide +kernel, by decide +kernel⟩
theorem ok_mixed_ratio {c : Cn} (D : Dn c "mixed_ratio" s_mixed_ratio ["one", "first", "other", "second", "divisor"]) (g_ratio_of : Kn c CX0 3 "ratio_of" ["thing"] spRatio) : Kn c CX0 4 "mixed_ratio" ["one", "first", "other", "second", "divisor"] spMixed := by
  have sc := sc_mixed_ratio
  refine D.ok sc len5 (fun f cdv A outer s H vs Q E hr h => ?_)
  refine ⟨_, (pss_cons (ps_set (i := 5) sc.nd rfl (.inl rfl) (pe_op op_add (pe_op op_mulW (pe_op op_mulW (pv 0) (pe_ix ix_tup (pv 1) pe_int (fun _ _ => rfl))) (pe_ix ix_tup (pv 3) pe_int (fun _ _ => rfl))) (pe_op op_mulW (pe_op op_mulW (pv 2) (pe_ix ix_tup (pv 3) pe_int (fun _ _ => rfl))) (pe_ix ix_tup (pv 1) pe_int (fun _ _ => rfl)))))
    (pss_one (ps_ret (pe_kn g_ratio_of (hr.mono (by decide)) rfl (pa_cons (pe_tup (pa_cons (pv 5) (pa_cons (pe_op op_mulW (pe_op op_mulW (pv 4) (pe_ix ix_tup (pv 1) pe_int (fun _ _ => rfl))) (pe_ix ix_tup (pv 3) pe_int (fun _ _ => rfl))) pa_nil))) pa_nil))))), ?_⟩
  obtain ⟨_, _, _, _, _, rfl, a, x, b, y, z, rfl, hx, rfl, hy, rfl, ha, hb, hz, hz0, sx, sy, k⟩ := h
  obtain ⟨p, rfl, hp⟩ := qK_inv hx
  obtain ⟨q, rfl, hq⟩ := qK_inv hy
  have nx : x.num.natAbs < 2 ^ 4000 := sx.1
  have ny : y.num.natAbs < 2 ^ 4000 := sy.1
  have dx : ((x.den : Int)).natAbs < 2 ^ 4000 := nat_abs_den sx.2
  have dy : ((y.den : Int)).natAbs < 2 ^ 4000 := nat_abs_den sy.2
  have ax := wide_lt ha nx
  have by' := wide_lt hb ny
  have zx := wide_lt hz dx
  refine ⟨_, rfl, _, rfl, p, _, _, _, rfl, rfl, SqT.of hp, rfl, _, _, rfl, rfl, wide_mul ha nx (by decide) (by decide) (by decide), _, rfl, q, _, _, _, rfl, rfl, SqT.of hq, rfl, _, _, rfl, rfl, wide_mul ax dy (by decide) (by decide) (by decide), ?_⟩
  refine ⟨_, rfl, _, rfl, q, _, _, _, rfl, rfl, SqT.of hq, rfl, _, _, rfl, rfl, wide_mul hb ny (by decide) (by decide) (by decide), _, rfl, p, _, _, _, rfl, rfl, SqT.of hp, rfl, _, _, rfl, rfl, wide_mul by' dx (by decide) (by decide) (by decide), ?_⟩
  refine ⟨_, _, rfl, rfl, ?_⟩
  refine ⟨_, rfl, _, rfl, _, rfl, p, _, _, _, rfl, rfl, SqT.of hp, rfl, _, _, rfl, rfl, wide_mul hz dx (by decide) (by decide) (by decide), _, rfl, q, _, _, _, rfl, rfl, SqT.of hq, rfl, _, _, rfl, rfl, wide_mul zx dy (by decide) (by decide) (by decide), (by show 2 ≤ sizeLine; decide), fun t ht => ?_⟩
  have pos : (0 : Int) < z * x.den * y.den := Int.mul_pos (Int.mul_pos hz0 (by have := x.den_pos; omega)) (by have := y.den_pos; omega)
  refine ⟨_, rfl, _, .inr ⟨t, _, _, rfl, upd_same, pos, rfl, ?_, ?_⟩, fun v H' e hv => ?_⟩
  · exact lt_up (add_lt (a := 10 + 4000 + 4000) (wide_lt ax dy) (wide_lt by' dx)) (by decide)
  · exact lt_up (wide_lt zx dy) (by decide)
  · refine k v H' ((Evl.Ex.new ht).trans e) ?_
    rw [mix_eq a b z x y hz0]
    exact hv
/-! ### places in lists -/
theorem ixN_nat {n j : Nat} (h : j < n) : ixN n (j : Int) = some j := by
  unfold ixN
  rw [if_pos (by omega), if_pos (by omega)]
  simp
theorem ixN_at {n j : Nat} {i : Int} (e : i = (j : Int)) (h : j < n) : ixN n i = some j := by rw [e]; exact ixN_nat h
theorem getD_some {α : Type} {l : List α} {i : Nat} (h : i < l.length) (d : α) : l[i]? = some (l.getD i d) := by
  rw [List.getElem?_eq_getElem h]
  simp [List.getD, List.getElem?_eq_getElem h]
theorem ints_at {ws : List Int} {i : Nat} (h : i < ws.length) (d : Int) : (ws.map V.int)[i]? = some (.int (ws.getD i d)) := by rw [List.getElem?_map, getD_some h d]; rfl
theorem q_at {H : Hp} {v : List Rat} {xs : List V} (hv : NKs H (v.map qK) xs) {i : Nat} (h : i < v.length) : ∃ x, xs[i]? = some x ∧ NK H (qK (v.getD i 0)) x := NKs.get hv (by rw [List.getElem?_map, getD_some h 0]; rfl)
theorem mem_getD {α : Type} {l : List α} {i : Nat} (h : i < l.length) (d : α) : l.getD i d ∈ l := List.mem_of_getElem? (getD_some h d)
/-! ### clashed, closing_of -/
abbrev s_clashed : Stmt := topS 24
theorem sc_clashed : FnScope ["weights", "rates", "pair", "fresh", "left", "right", "one", "other", "both"] ["weights", "rates", "pair"] (defScope s_clashed) := ⟨rfl, rfl, rfl, by decide +kernel, rfl, by decide +kernel, by decide +kernel⟩
def spClashed (K : PySem.W.Frag) : Sp := sp3 fun w r p H Q => ∃ (aw ar : Addr) (ws : List Int) (xs : List V) (v : List Rat) (pi : Int), w = .ref aw ∧ H aw = some (.tup (ws.map V.int)) ∧ r = .ref ar ∧ Sq K H ar xs ∧ NKs H (v.map qK) xs ∧ p = .int pi ∧
  v.length = ws.length ∧ (∀ x ∈ ws, 1 ≤ x ∧ x ≤ 9) ∧ PrOk ws.length pi ∧ (∀ q ∈ v, Sm q) ∧ RetL ((clashR ws v pi).map qK) H Q
theorem neg_q {H : Hp} {q : Rat} {a : Addr} (h : H a = some (.tup [.int (-q.num), .int (q.den : Int)])) : NK H (qK (-q)) (.ref a) := qK_mk h
theorem ti_of {i : Int} (h1 : -1000 ≤ i) (h2 : i ≤ 1000) : Ti i := by show i.natAbs < 1024; omega
theorem ok_clashed {c : Cn} (T : Tx c.mg) (D : Dn c "clashed" s_clashed ["weights", "rates", "pair"]) (g_mixed_ratio : Kn c CX0 4 "mixed_ratio" ["one", "first", "other", "second", "divisor"] spMixed) : Kn c CX0 5 "clashed" ["weights", "rates", "pair"] (spClashed c.K) := by
  have sc := sc_clashed
  refine D.ok sc len3 (fun f cdv A outer s H vs Q E hr h => ?_)
  refine ⟨_, (pss_cons (ps_set (i := 3) sc.nd rfl (.inl rfl) (pe_callTy call_list_of (by rfl) T.list (by decide +kernel) (pa_cons (pv 1) pa_nil)))
  (pss_cons (ps_if (pt_cmpR op_eq (pv 2) (pe_un un_neg pe_int) (nomark _)) (pss_cons (ps_asg (pe_tup (pa_cons (pe_un un_neg (pe_ix ix_tup (pe_ix ix_sq (pv 1) pe_int (fun _ _ => rfl)) pe_int (fun _ _ => rfl))) (pa_cons (pe_ix ix_tup (pe_ix ix_sq (pv 1) pe_int (fun _ _ => rfl)) pe_int (fun _ _ => rfl)) pa_nil))) (pg_sub (pv 3) pe_int set_list))
    (pss_one (ps_ret (pv 3))))
    pss_nil)
  (pss_cons (ps_par (i := 4) (j := 5) rfl sc.nd rfl rfl (by decide) rfl rfl (pa_cons (pe_ix ix_tup (pv 0) (pv 2) (fun _ _ => rfl)) (pa_cons (pe_ix ix_tup (pv 0) (pe_op op_add (pv 2) pe_int) (fun _ _ => rfl)) pa_nil)) (by rfl))
  (pss_cons (ps_par (i := 6) (j := 7) rfl sc.nd rfl rfl (by decide) rfl rfl (pa_cons (pe_ix ix_sq (pv 1) (pv 2) (fun _ _ => rfl)) (pa_cons (pe_ix ix_sq (pv 1) (pe_op op_add (pv 2) pe_int) (fun _ _ => rfl)) pa_nil)) (by rfl))
  (pss_cons (ps_set (i := 8) sc.nd rfl (.inl rfl) (pe_op op_add (pv 4) (pv 5)))
  (pss_cons (ps_asg (pe_kn g_mixed_ratio (hr.mono (by decide)) rfl (pa_cons (pe_op op_sub (pv 4) (pv 5)) (pa_cons (pv 6) (pa_cons (pe_op op_mulW pe_int (pv 5)) (pa_cons (pv 7) (pa_cons (pv 8) pa_nil)))))) (pg_sub (pv 3) (pv 2) set_list))
  (pss_cons (ps_asg (pe_kn g_mixed_ratio (hr.mono (by decide)) rfl (pa_cons (pe_op op_mulW pe_int (pv 4)) (pa_cons (pv 6) (pa_cons (pe_op op_sub (pv 5) (pv 4)) (pa_cons (pv 7) (pa_cons (pv 8) pa_nil)))))) (pg_sub (pv 3) (pe_op op_add (pv 2) pe_int) set_list))
  (pss_one (ps_ret (pv 3)))))))))), ?_⟩
  obtain ⟨_, _, _, rfl, aw, ar, ws, xs, v, pi, rfl, haw, rfl, hsq, hv, rfl, hlen, hws, hp, hsm, k⟩ := h
  have hxl : xs.length = v.length := by rw [hv.len, List.length_map]
  refine ⟨_, rfl, ar, xs, rfl, hsq, fun l hl => ?_⟩
  have e1 : Ex H (upd H l (.lst xs)) := Evl.Ex.new hl
  refine ⟨_, rfl, 1, rfl, rfl, _, rfl, ?_⟩
  rcases hp with ⟨rfl, hn⟩ | ⟨i, rfl, hi⟩
  · refine ite_t (decide_eq_true rfl) ?_
    obtain ⟨x, hx, nx⟩ := q_at (hv.ex e1) (i := 0) (by omega)
    obtain ⟨a, rfl, ha⟩ := qK_inv nx
    have h0 : atI xs 0 = some (.ref a) := atI_nat (j := 0) hx
    refine ⟨_, rfl, ar, xs, 0, _, rfl, rfl, hsq.ex e1, h0, a, _, _, _, rfl, rfl, SqT.of ha, rfl, _, rfl, _, rfl, ar, xs, 0, _, rfl, rfl, hsq.ex e1, h0, a, _, _, _, rfl, rfl, SqT.of ha, rfl, (by show 2 ≤ sizeLine; decide), fun t ht => ?_⟩
    have hlt : l ≠ t := ne_of_none upd_same ht
    refine ⟨_, rfl, l, xs, 0, 0, rfl, rfl, by rw [upd_ne hlt, upd_same], ixN_at (j := 0) rfl (by omega), _, rfl, ?_⟩
    refine k l (xs.set 0 (.ref t)) _ (Evl.Ex.mut (e1.trans (Evl.Ex.new ht)) hl) upd_same ?_
    have ec : clashR ws v (-1) = v.set 0 (-(v.getD 0 0)) := if_pos rfl
    rw [ec, List.map_set]
    refine NKs.lupd (acc := xs) (by rw [upd_ne hlt, upd_same]) _ _ (NKs.set ?_ 0 (hv.ex (e1.trans (Evl.Ex.new ht))))
    exact neg_q upd_same
  · refine ite_f (small_neg (by omega)) ?_
    have h0 : i < ws.length := by omega
    obtain ⟨wa1, wa2⟩ := hws _ (mem_getD h0 1)
    obtain ⟨wb1, wb2⟩ := hws _ (mem_getD hi 1)
    have e0 : ((i : Int) + 1) = ((i + 1 : Nat) : Int) := by omega
    obtain ⟨x, hx, nx⟩ := q_at hv (i := i) (by omega)
    obtain ⟨y, hy, ny⟩ := q_at hv (i := i + 1) (by omega)
    have sx := hsm _ (mem_getD (show i < v.length by omega) 0)
    have sy := hsm _ (mem_getD (show i + 1 < v.length by omega) 0)
    generalize ea : ws.getD i 1 = wa at *
    generalize eb : ws.getD (i + 1) 1 = wb at *
    generalize exx : v.getD i 0 = vx at *
    generalize eyy : v.getD (i + 1) 0 = vy at *
    refine ⟨_, rfl, _, rfl, aw, _, _, _, rfl, rfl, SqT.of (e1 _ _ haw), atI_nat (ints_at h0 1), _, rfl, _, rfl, _, _, rfl, rfl, aw, _, _, _, rfl, rfl, SqT.of (e1 _ _ haw), at_of e0 (ints_at hi 1), _, _, rfl, ?_⟩
    refine ⟨_, rfl, _, rfl, ar, _, _, _, rfl, rfl, hsq.ex e1, atI_nat hx, _, rfl, _, rfl, _, _, rfl, rfl, ar, _, _, _, rfl, rfl, hsq.ex e1, at_of e0 hy, _, _, rfl, ?_⟩
    rw [ea, eb]
    refine ⟨_, rfl, _, rfl, _, _, rfl, rfl, ?_⟩
    -- fresh[pair]
    refine ⟨_, rfl, _, rfl, _, _, rfl, rfl, _, rfl, _, rfl, _, _, rfl, rfl, wide_mul (a := 10) (b := 10) (by decide) (by omega) (by decide) (by decide) (by decide), _, rfl, _, rfl, ?_⟩
    refine ⟨_, _, _, _, _, rfl, wa - wb, vx, 2 * wb, vy, wa + wb, rfl, nx.ex e1, rfl, ny.ex e1, rfl, ti_of (by omega) (by omega), ti_of (by omega) (by omega), ti_of (by omega) (by omega), by omega, sx, sy, fun u H2 e2 hu => ?_⟩
    have hL2 : H2 l = some (.lst xs) := e2 _ _ upd_same
    refine ⟨_, rfl, _, rfl, l, xs, i, i, rfl, rfl, hL2, ixN_nat (by omega), ?_⟩
    have e3 : Ex H (upd H2 l (.lst (xs.set i u))) := Evl.Ex.mut (e1.trans e2) hl
    -- fresh[pair + 1]
    refine ⟨_, rfl, _, _, rfl, rfl, wide_mul (a := 10) (b := 10) (by decide) (by omega) (by decide) (by decide) (by decide), _, rfl, _, rfl, _, rfl, _, _, rfl, rfl, _, rfl, _, rfl, ?_⟩
    refine ⟨_, _, _, _, _, rfl, 2 * wa, vx, wb - wa, vy, wa + wb, rfl, nx.ex e3, rfl, ny.ex e3, rfl, ti_of (by omega) (by omega), ti_of (by omega) (by omega), ti_of (by omega) (by omega), by omega, sx, sy, fun u2 H4 e4 hu2 => ?_⟩
    have hL4 : H4 l = some (.lst (xs.set i u)) := e4 _ _ upd_same
    refine ⟨_, rfl, _, rfl, _, _, rfl, rfl, l, xs.set i u, _, i + 1, rfl, rfl, hL4, ixN_at e0 (by rw [List.length_set]; omega), _, rfl, ?_⟩
    refine k l ((xs.set i u).set (i + 1) u2) _ (Evl.Ex.mut (e3.trans e4) hl) upd_same ?_
    have ec : clashR ws v (i : Int) = (v.set i (mixR (wa - wb) (2 * wb) (wa + wb) vx vy)).set (i + 1) (mixR (2 * wa) (wb - wa) (wa + wb) vx vy) := by
      unfold clashR
      rw [if_neg (by omega)]
      simp only [Int.toNat_natCast, ea, eb, exx, eyy]
    rw [ec, List.map_set, List.map_set]
    refine NKs.lupd hL4 _ _ (NKs.set hu2 _ (NKs.set ?_ _ (hv.ex (e3.trans e4))))
    exact (NK.lupd hL2 _ _ hu).ex e4
abbrev s_closing_of : Stmt := topS 25
theorem sc_closing_of : FnScope ["rates", "pair"] ["rates", "pair"] (defScope s_closing_of) := ⟨rfl, rfl, rfl, by decide +kernel, rfl, by decide +kernel, by decide +kernel⟩
def spClosing (K : PySem.W.Frag) : Sp := sp2 fun r p H Q => ∃ (ar : Addr) (xs : List V) (v : List Rat) (pi : Int), r = .ref ar ∧ Sq K H ar xs ∧ NKs H (v.map qK) xs ∧ p = .int pi ∧ PrOk v.length pi ∧ (∀ q ∈ v, Sm q) ∧ Ret (qK (closeR v pi)) H Q
theorem ok_closing_of {c : Cn} (D : Dn c "closing_of" s_closing_of ["rates", "pair"]) (g_minus : Kn c CX0 4 "minus" ["one", "other"] spMinus) : Kn c CX0 5 "closing_of" ["rates", "pair"] (spClosing c.K) := by
  have sc := sc_closing_of
  refine D.ok sc len2 (fun f cdv A outer s H vs Q E hr h => ?_)
  refine ⟨_, (pss_cons (ps_if (pt_cmpR op_eq (pv 1) (pe_un un_neg pe_int) (nomark _)) (pss_one (ps_ret (pe_tup (pa_cons (pe_un un_neg (pe_ix ix_tup (pe_ix ix_sq (pv 0) pe_int (fun _ _ => rfl)) pe_int (fun _ _ => rfl))) (pa_cons (pe_ix ix_tup (pe_ix ix_sq (pv 0) pe_int (fun _ _ => rfl)) pe_int (fun _ _ => rfl)) pa_nil)))))
    pss_nil)
  (pss_one (ps_ret (pe_kn g_minus (hr.mono (by decide)) rfl (pa_cons (pe_ix ix_sq (pv 0) (pv 1) (fun _ _ => rfl)) (pa_cons (pe_ix ix_sq (pv 0) (pe_op op_add (pv 1) pe_int) (fun _ _ => rfl)) pa_nil)))))), ?_⟩
  obtain ⟨_, _, rfl, ar, xs, v, pi, rfl, hsq, hv, rfl, hp, hsm, k⟩ := h
  have hxl : xs.length = v.length := by rw [hv.len, List.length_map]
  refine ⟨_, rfl, 1, rfl, rfl, _, rfl, ?_⟩
  rcases hp with ⟨rfl, hn⟩ | ⟨i, rfl, hi⟩
  · refine ite_t (decide_eq_true rfl) ?_
    obtain ⟨x, hx, nx⟩ := q_at hv (i := 0) (by omega)
    obtain ⟨a, rfl, ha⟩ := qK_inv nx
    have h0 : atI xs 0 = some (.ref a) := atI_nat (j := 0) hx
    refine ⟨_, rfl, ar, xs, 0, _, rfl, rfl, hsq, h0, a, _, _, _, rfl, rfl, SqT.of ha, rfl, _, rfl, _, rfl, ar, xs, 0, _, rfl, rfl, hsq, h0, a, _, _, _, rfl, rfl, SqT.of ha, rfl, (by show 2 ≤ sizeLine; decide), fun t ht => ?_⟩
    exact k _ _ (Evl.Ex.new ht) (neg_q upd_same)
  · refine ite_f (small_neg (by omega)) ?_
    have e0 : ((i : Int) + 1) = ((i + 1 : Nat) : Int) := by omega
    obtain ⟨x, hx, nx⟩ := q_at hv (i := i) (by omega)
    obtain ⟨y, hy, ny⟩ := q_at hv (i := i + 1) (by omega)
    have sx := hsm _ (mem_getD (show i < v.length by omega) 0)
    have sy := hsm _ (mem_getD (show i + 1 < v.length by omega) 0)
    have ec : closeR v (i : Int) = v.getD i 0 - v.getD (i + 1) 0 := by
      unfold closeR
      rw [if_neg (by omega), Int.toNat_natCast]
    rw [ec] at k
    exact ⟨_, rfl, _, rfl, ar, _, _, _, rfl, rfl, hsq, atI_nat hx, _, rfl, _, rfl, _, _, rfl, rfl, ar, _, _, _, rfl, rfl, hsq, at_of e0 hy, _, _, rfl, _, _, isR_q nx sx, isR_q ny sy, sx, sy, k⟩
end K74
namespace K74
open PySem PySem.Spec PyProof.Rows L2
/-! ### max, min of a tuple of whole numbers; math.lcm -/
section
variable {prog : Program} {w : World} {A : Around} {E : Value → Shared → Prop} {s : Shared} {l : Addr} {xs : Array (Int × Tok)}
theorem iter_intTup {Q : Value → Shared → Prop} (hl : s.heap.IsTuple l (intItems xs))
    (h : ∀ s₂ : Shared, s₂ = { s with heap := s.heap.push { cls := .type "tuple_iterator", data := .fields #[.ref l, .int 0 0] } } →
      (s₂.heap.IsTupleIter s.heap.objs.size l 0 ∧ s₂.heap.IsTuple l (intItems xs)) → (∀ b ∈ [s.heap.objs.size, l], b < s₂.heap.objs.size) → l ≠ s.heap.objs.size → Q (.ref s.heap.objs.size) s₂) :
    wpAny (model prog w) A (pyIter (.ref l)) Q E s := by
  have hlt : l < s.heap.objs.size := by obtain ⟨_, e, _⟩ := hl; exact Heap.lt_size e
  refine wpAny_pyIter_tuple hl (h _ rfl ⟨⟨_, Heap.get?_push_size _ rfl, rfl, rfl⟩, hl.at fun o e => Heap.get?_push_of_some _ e⟩ (fun b hb => ?_) (Nat.ne_of_lt hlt))
  show b < (s.heap.push _).objs.size
  rw [Heap.size_push]
  rcases List.mem_cons.mp hb with rfl | hb
  · exact Nat.lt_succ_self _
  · rcases List.mem_cons.mp hb with rfl | hb
    · exact Nat.lt_succ_of_lt hlt
    · cases hb
theorem old_keptT {h' : Heap} (hk : ∀ b o, b ∉ [s.heap.objs.size] → (s.heap.push { cls := .type "tuple_iterator", data := .fields #[.ref l, .int 0 0] }).get? b = some o → h'.get? b = some o) :
    ∀ b o, s.heap.get? b = some o → h'.get? b = some o := fun b o e => by
  refine hk b o (fun hm => ?_) (Heap.get?_push_of_some _ e)
  rcases List.mem_cons.mp hm with e1 | hm
  · exact absurd (e1 ▸ Heap.lt_size e) (Nat.lt_irrefl _)
  · cases hm
theorem max_intTup {Q : Value → Shared → Prop} (hh : A.handled = none) (hl : s.heap.IsTuple l (intItems xs)) (hne : 0 < xs.size)
    (h : ∀ v h' tk, (intItems xs)[argBest (fun i j => decide (numAt xs i > numAt xs j)) (xs.size - 1)]? = some v → (∀ b o, s.heap.get? b = some o → h'.get? b = some o) → Q v { s with heap := h', toks := tk }) :
    wpAny (model prog w) A (call (.builtin "max") [.ref l]) Q E s := by
  refine call_max_walk (iter_intTup hl fun s₂ e st hfp hlI => ?_)
  subst e
  refine ⟨_, _, _, _, _, _, _, rfl, Walks.tuple (A := A.in1) hh _ l hlI (intItems xs), st, hfp, by simpa [intItems] using hne, CmpOf.ints_gt (numAt xs) (fun _ _ => intItems_at), fun v h' tk hP hk => ?_⟩
  exact h v h' tk (by simpa [intItems] using hP) (old_keptT hk)
theorem min_intTup {Q : Value → Shared → Prop} (hh : A.handled = none) (hl : s.heap.IsTuple l (intItems xs)) (hne : 0 < xs.size)
    (h : ∀ v h' tk, (intItems xs)[argBest (fun i j => decide (numAt xs i < numAt xs j)) (xs.size - 1)]? = some v → (∀ b o, s.heap.get? b = some o → h'.get? b = some o) → Q v { s with heap := h', toks := tk }) :
    wpAny (model prog w) A (call (.builtin "min") [.ref l]) Q E s := by
  refine call_min_walk (iter_intTup hl fun s₂ e st hfp hlI => ?_)
  subst e
  refine ⟨_, _, _, _, _, _, _, rfl, Walks.tuple (A := A.in1) hh _ l hlI (intItems xs), st, hfp, by simpa [intItems] using hne, CmpOf.ints_lt (numAt xs) (fun _ _ => intItems_at), fun v h' tk hP hk => ?_⟩
  exact h v h' tk (by simpa [intItems] using hP) (old_keptT hk)
variable {its : List Value} {ns : List Int}
theorem max_rawT {Q : Value → Shared → Prop} (hh : A.handled = none) (hl : s.heap.IsTuple l its.toArray) (hi : IntsAre its ns) (hne : 0 < ns.length)
    (h : ∀ h' tk M t', (∀ b o, s.heap.get? b = some o → h'.get? b = some o) → M ∈ ns → (∀ a, a ∈ ns → a ≤ M) → Q (.int M t') { s with heap := h', toks := tk }) : wpAny (model prog w) A (call (.builtin "max") [.ref l]) Q E s := by
  obtain ⟨xs, e⟩ := hi.allInts.items
  have hn : numsOf (intItems xs).toList = ns := by rw [← e]; exact hi.numsOf
  rw [nums_intItems] at hn
  subst hn
  rw [e] at hl
  have hsz : 0 < xs.size := by simpa using hne
  refine max_intTup hh hl hsz fun v h' tk hv hk => ?_
  obtain ⟨t, rfl⟩ := intItems_at hv
  obtain ⟨h1, h2⟩ := argBest_gt (numAt xs) (xs.size - 1)
  refine h h' tk _ t hk ?_ fun a ha => ?_
  · rw [numAt_eq]; exact PySem.getD_mem (by rw [List.length_map, Array.length_toList]; omega)
  · obtain ⟨j, hj, rfl⟩ := PySem.mem_getD ha
    rw [List.length_map, Array.length_toList] at hj
    rw [← numAt_eq]; exact h2 j (by omega)
theorem min_rawT {Q : Value → Shared → Prop} (hh : A.handled = none) (hl : s.heap.IsTuple l its.toArray) (hi : IntsAre its ns) (hne : 0 < ns.length)
    (h : ∀ h' tk M t', (∀ b o, s.heap.get? b = some o → h'.get? b = some o) → M ∈ ns → (∀ a, a ∈ ns → M ≤ a) → Q (.int M t') { s with heap := h', toks := tk }) : wpAny (model prog w) A (call (.builtin "min") [.ref l]) Q E s := by
  obtain ⟨xs, e⟩ := hi.allInts.items
  have hn : numsOf (intItems xs).toList = ns := by rw [← e]; exact hi.numsOf
  rw [nums_intItems] at hn
  subst hn
  rw [e] at hl
  have hsz : 0 < xs.size := by simpa using hne
  refine min_intTup hh hl hsz fun v h' tk hv hk => ?_
  obtain ⟨t, rfl⟩ := intItems_at hv
  obtain ⟨h1, h2⟩ := argBest_lt (numAt xs) (xs.size - 1)
  refine h h' tk _ t hk ?_ fun a ha => ?_
  · rw [numAt_eq]; exact PySem.getD_mem (by rw [List.length_map, Array.length_toList]; omega)
  · obtain ⟨j, hj, rfl⟩ := PySem.mem_getD ha
    rw [List.length_map, Array.length_toList] at hj
    rw [← numAt_eq]; exact h2 j (by omega)
end
section
variable {X : Cx}
def rMaxT (K : PySem.W.Frag) : List V → Hp → VK → Prop := fun vs H Q => ∃ (a : Addr) (ns : List Int), vs = [V.ref a] ∧ SqT K H a (ns.map V.int) ∧ 0 < ns.length ∧ ∀ m, m ∈ ns → (∀ y, y ∈ ns → y ≤ m) → Q (.int m) H
def rMinT (K : PySem.W.Frag) : List V → Hp → VK → Prop := fun vs H Q => ∃ (a : Addr) (ns : List Int), vs = [V.ref a] ∧ SqT K H a (ns.map V.int) ∧ 0 < ns.length ∧ ∀ m, m ∈ ns → (∀ y, y ∈ ns → m ≤ y) → Q (.int m) H
theorem cr_maxT (hc : X.calm = true) : CallR X (.builtin "max") (rMaxT X.K) := by
  intro pins s σ H vs us Q I r h
  obtain ⟨a, ns, rfl, hs, hne, q⟩ := h
  obtain ⟨its, rv, hl, _⟩ := I.tuple hs
  rw [Vals.ref1 r]
  exact max_rawT (I.ok.hd hc) (show s.heap.IsTuple a its.toArray from hl) rv.ints hne fun h' tk m t' hk h1 h2 => ⟨.int _, H, I.kept hk, ⟨_, rfl⟩, q m h1 h2⟩
theorem cr_minT (hc : X.calm = true) : CallR X (.builtin "min") (rMinT X.K) := by
  intro pins s σ H vs us Q I r h
  obtain ⟨a, ns, rfl, hs, hne, q⟩ := h
  obtain ⟨its, rv, hl, _⟩ := I.tuple hs
  rw [Vals.ref1 r]
  exact min_rawT (I.ok.hd hc) (show s.heap.IsTuple a its.toArray from hl) rv.ints hne fun h' tk m t' hk h1 h2 => ⟨.int _, H, I.kept hk, ⟨_, rfl⟩, q m h1 h2⟩
def rLcm : List V → Hp → VK → Prop := fun vs H Q => ∃ a b : Int, vs = [.int a, .int b] ∧ a.natAbs < 2 ^ 64 ∧ b.natAbs < 2 ^ 64 ∧ Q (.int ((Nat.lcm a.natAbs b.natAbs : Nat) : Int)) H
theorem cr_lcm : CallR X (.builtin "math.lcm") rLcm := by
  intro pins s σ H vs us Q I r h
  obtain ⟨a, b, rfl, ha, hb, q⟩ := h
  obtain ⟨t, u, rfl⟩ := Vals.int2 r
  exact PySem.W.mc_lcm ha hb fun _ => ⟨.int _, H, I.tok _, ⟨_, rfl⟩, q⟩
end
/-! ### isinstance(x, (list, tuple)) -/
theorem kit_lst_lt {K : PySem.W.Frag} : PySem.W.kitAny K (.type "list") [.type "list", .type "tuple"] = some true := kitAny_cons (b := true) (kit_ty (by decide +kernel)) (fun z => nomatch z) fun _ => rfl
theorem kit_tup_lt {K : PySem.W.Frag} : PySem.W.kitAny K (.type "tuple") [.type "list", .type "tuple"] = some true :=
  kitAny_cons (b := false) (kit_ty (by decide +kernel)) (fun _ => kitAny_cons (b := true) (kit_ty (by decide +kernel)) (fun z => nomatch z) fun _ => rfl) fun z => nomatch z
theorem cls_lt : Paired ClsV [V.ty "list", V.ty "tuple"] [Value.type "list", Value.type "tuple"] := .cons (.ty _) (.cons (.ty _) .nil)
/-- a list or a tuple that is tracked -/
def Sx (H : Hp) (a : Addr) (xs : List V) : Prop := H a = some (.lst xs) ∨ H a = some (.tup xs)
theorem Sx.ex {H H' : Hp} {a : Addr} {xs : List V} (h : Sx H a xs) (e : Ex H H') : Sx H' a xs := h.elim (fun h => .inl (e _ _ h)) (fun h => .inr (e _ _ h))
theorem Sx.sq {K : PySem.W.Frag} {H : Hp} {a : Addr} {xs : List V} (h : Sx H a xs) : Sq K H a xs := h.elim Sq.l Sq.t
theorem isi_lt {K : PySem.W.Frag} {H : Hp} {a : Addr} {xs : List V} (h : Sx H a xs) : ∃ t, TyX K H (.ref a) t ∧ PySem.W.kitAny K t [.type "list", .type "tuple"] = some true := by
  rcases h with h | h
  · exact ⟨_, .base (.lst h), kit_lst_lt⟩
  · exact ⟨_, .base (.tup h), kit_tup_lt⟩
/-! ### own classes: a method by its name, a new instance, len(x) -/
structure Mn (c : Cn) (C : Addr) (CX : CXT) (k : Nat) (m : Str) (ps : List Str) (sp : Sp) : Prop where
  ex : ∃ f fd, FnOk c.P c.w c.K c.mg c.base CX k f fd ps sp ∧ Meth c.K C m f ∧ Binds c.K fd ps []
structure Nn (c : Cn) (C : Addr) (k : Nat) (x : Str) (ps : List Str) (sp : Sp) : Prop where
  ex : ∃ f fd, FnOk c.P c.w c.K c.mg c.base CX0 k f fd ps sp ∧ Mk c.K C f ∧ c.mg x = some (.ref C) ∧ Binds c.K fd ps []
/-- a method of the text -/
structure Dm (c : Cn) (C : Addr) (m qual : Str) (st : Stmt) (ps : List Str) : Prop where
  ex : ∃ f fd, Fun c.K m qual st f fd ∧ Meth c.K C m f ∧ Binds c.K fd ps []
theorem Dm.ok {c : Cn} {C : Addr} {m qual : Str} {st : Stmt} {N ps : List Str} {k : Nat} {sp : Sp} (D : Dm c C m qual st ps) (S : FnScope N ps (defScope st)) (len : ∀ vs H Q E, sp vs H Q E → vs.length = ps.length)
    (hbody : ∀ (f : Addr) (cdv : Value) (A : Around) (outer : List Env) (s : Shared) (H : Hp) (vs : List V) (Q : VK) (E : XK), Room k (A.deeper (envOfC qual (defScope st) s.heap.objs.size f cdv)) → sp vs H Q E →
      ∃ t, PSs (cxOf CX0 c.P c.w c.K c.mg c.base N qual (defScope st) f cdv A outer s H E).nox (defBody st) t ∧ t { nx := fun _ H' => Q .non H', rt := Q } (start N vs) H) : Mn c C CX0 (k + 1) m ps sp := by
  obtain ⟨f, fd, F, hm, hb⟩ := D.ex
  exact ⟨⟨f, fd, F.ok S len (hbody f), hm, hb⟩⟩
section
variable {X : Cx} {k : Nat} {x m : Str} {C : Addr} {ps : List Str} {sp : Sp} {p pos apos : Pos} {e o : Expr} {es : List Expr} {t : TA} {ta : TE}
theorem pe_nn (G : Nn ⟨X.prog, X.w, X.K, X.mg, X.base⟩ C k x ps sp) (hr : Room (k + 1) X.A) (hg : Gl X x) (ha : PA X (e :: es) t) (hdb : (x == ("__debug__" : Str)) = false := by decide)
    (he : starEach (e :: es) X.env = (false, eval e X.env) :: starEach es X.env := by rfl) (hpl : (backTo pos (starEach es X.env)).any (·.1) = false := by rfl) : PE X (.Call (.Name x p) (e :: es) [] pos) (tMake C sp [] E0 t) := by
  obtain ⟨f, fd, F, hM, hm, hb⟩ := G.ex
  exact pe_make hM F hr hg hm hb .nil pass0 ha hdb he hpl
theorem pe_mn {pl : Sem Bool} (he : PE X o ta) (c : Cls X.K C) (G : Mn ⟨X.prog, X.w, X.K, X.mg, X.base⟩ C CX0 k m ps sp) (hr : Room k X.A) (ha : PA X (e :: es) t)
    (hst : starEach (e :: es) X.env = (false, eval e X.env) :: starEach es X.env := by rfl) (hpl : (backTo pos (starEach es X.env)).any (·.1) = false := by rfl)
    (ht : eval (.Call (.Attribute o m apos) (e :: es) [] pos) X.env = (do
      let ov ← eval o X.env
      standAt apos.atName
      let (f, first) ← holding [ov] (getMethod ov m pl)
      callWith pos f first (backTo pos (starEach (e :: es) X.env)) (backToKw pos (keywordEach [] X.env))) := by rfl) :
    PE X (.Call (.Attribute o m apos) (e :: es) [] pos) (tMeth C m sp [] E0 ta t) := by
  obtain ⟨f, fd, F, hm, hb⟩ := G.ex
  exact pe_meth he c hm F hr hb .nil pass0 ha hst hpl ht
theorem pe_mn0 {pl : Sem Bool} (he : PE X o ta) (c : Cls X.K C) (G : Mn ⟨X.prog, X.w, X.K, X.mg, X.base⟩ C CX0 k m ps sp) (hr : Room k X.A)
    (ht : eval (.Call (.Attribute o m apos) [] [] pos) X.env = (do
      let ov ← eval o X.env
      standAt apos.atName
      let (f, first) ← holding [ov] (getMethod ov m pl)
      callWith pos f first (backTo pos (starEach [] X.env)) (backToKw pos (keywordEach [] X.env))) := by rfl) :
    PE X (.Call (.Attribute o m apos) [] [] pos) (tMeth C m sp [] E0 ta tNil) := by
  obtain ⟨f, fd, F, hm, hb⟩ := G.ex
  exact pe_meth0 he c hm F hr hb .nil pass0 ht
end
section
variable {X : Cx} {C : Addr} {k : Nat} {ps : List Str} {sp : Sp}
/-- the callee runs below the running body -/
theorem run_below {f : Addr} {fd : FuncData} {A : Around} {pins : List (Addr × Obj)} {σ : L2.St} {H : Hp} {s : Shared} {Q : VK} {us : List Value} {vs : List V} (F : FnOk X.prog X.w X.K X.mg X.base CX0 k f fd ps sp) (hr : Room k A) (hfr : A.frames = X.A.frames) (hb : Binds X.K fd ps [])
    (I : Inv X pins σ H s) (r : Vals vs us) (h : sp vs H Q E0) : wpAny (model X.prog X.w) A (call (.ref f) us) (EP X pins σ Q) X.xe s := by
  have hl : (us ++ ([] : List Value)).length = ps.length := by rw [List.append_nil, ← r.length]; exact F.len _ _ _ _ h
  have e0 : Env0 X.prog X.w X.K X.mg X.base A X.stack s H := by
    have e := I.env0
    exact ⟨by rw [hfr]; exact e.frames, e.mod, e.bs, e.bsz, e.funs, e.frf, e.hok, e.bare⟩
  refine wpAny_call (codeAny_mono (F.run A X.stack s H ⟨us, []⟩ us vs Q E0 hr e0 (by
    have := hb s us I.kIn hl
    rwa [List.append_nil] at this) r h) fun r s' hq => ?_)
  cases r with
  | error e => exact hq.elim
  | ok fl =>
    cases fl with
    | ret u => exact I.after hq
    | next => exact False.elim hq
    | brk => exact False.elim hq
    | cont => exact False.elim hq
theorem cmpb {P : Value → Shared → Prop} {z : V} {v : Value} {s' : Shared} (r : RelV z v) (h : P v s') : PySem.W.CmpBack P v s' := by
  cases z with
  | non => cases (show v = Value.none from r); exact h
  | bl b => cases (show v = Value.bool b from r); exact h
  | int i =>
    obtain ⟨t, e⟩ := (show ∃ t, v = Value.int i t from r)
    cases e
    exact h
  | str x =>
    obtain ⟨t, e⟩ := (show ∃ t, v = Value.str x t from r)
    cases e
    exact h
  | byt b =>
    obtain ⟨t, e⟩ := (show ∃ t, v = Value.bytes b t from r)
    cases e
    exact h
  | flt b =>
    obtain ⟨t, e⟩ := (show ∃ t, v = Value.float b t from r)
    cases e
    exact h
  | ref a => cases (show v = Value.ref a from r); exact h
  | ty n => cases (show v = Value.type n from r); exact h
/-- len(x) of an instance by its own __len__ -/
def rLenOwn (C : Addr) (sp : Sp) : List V → Hp → VK → Prop := fun xs H Q => ∃ a dx fs, xs = [V.ref a] ∧ H a = some (.ins C dx fs) ∧ sp [.ref a] H (fun z H' => ∃ n : Int, z = .int n ∧ 0 ≤ n ∧ n < 2 ^ 63 ∧ Q (.int n) H') E0
theorem call_lenOwn (G : Mn ⟨X.prog, X.w, X.K, X.mg, X.base⟩ C CX0 k "__len__" ps sp) (hr : Room (k + 1) X.A) : CallR X (.builtin "len") (rLenOwn C sp) := by
  intro pins s σ H xs us Q I r h
  obtain ⟨a, dx, fs, rfl, ha, q⟩ := h
  obtain ⟨u, rfl, ru⟩ := r.one
  cases (show u = Value.ref a from ru)
  obtain ⟨f, fd, F, hm, hb⟩ := G.ex
  obtain ⟨mA, J, _⟩ := ins_get I.hok ha
  obtain ⟨od, J, _⟩ := J.look
  obtain ⟨m, hF⟩ := I.fr
  refine PySem.W.len_K hF I.ok.mod.kin J hm.at_ hm.fn (wpAny_mono (run_below (us := [.ref a]) (vs := [.ref a]) F hr.in1 rfl hb I (.cons rfl .nil) q) (fun v s' z => ?_) fun _ _ x => x)
  obtain ⟨z', H', I', rz, n, ez, h0, h1, qz⟩ := z
  subst ez
  obtain ⟨t, e⟩ := (show ∃ t, v = Value.int n t from rz)
  cases e
  exact ⟨⟨h0, h1⟩, .int n, H', I'.tok _, ⟨_, rfl⟩, qz⟩
/-- x == y of two instances of one class by its own __eq__ -/
def rEqOwn (C : Addr) (sp : Sp) : R2 := fun x y H Q => ∃ a dx fs b dy gs, x = .ref a ∧ y = .ref b ∧ H a = some (.ins C dx fs) ∧ H b = some (.ins C dy gs) ∧ sp [.ref a, .ref b] H Q E0
theorem op_eqOwn (G : Mn ⟨X.prog, X.w, X.K, X.mg, X.base⟩ C CX0 k "__eq__" ps sp) (hr : Room k X.A) : OpR X (compareOp .Eq) (rEqOwn C sp) := by
  intro pins s σ H x y v u Q I rx ry h
  obtain ⟨a, dx, fs, b, dy, gs, rfl, rfl, ha, hb', q⟩ := h
  cases (show v = Value.ref a from rx)
  cases (show u = Value.ref b from ry)
  obtain ⟨f, fd, F, hm, hb⟩ := G.ex
  obtain ⟨mA, J, _⟩ := ins_get I.hok ha
  obtain ⟨mB, J', _⟩ := ins_get I.hok hb'
  obtain ⟨od, J, _⟩ := J.look
  obtain ⟨od', J', _⟩ := J'.look
  obtain ⟨m, hF⟩ := I.fr
  show wpAny (model X.prog X.w) X.A (richCompare .Eq (.ref a) (.ref b)) (EP X pins σ Q) X.xe s
  refine PySem.W.cmp_K (op := .Eq) (tb := .ref C) hr.units0 hF I.ok.mod.kin J J'.type (by simp [PySem.W.notFirst]) hm.at_ hm.fn ?_
  refine wpAny_mono (run_below (us := [.ref a, .ref b]) (vs := [.ref a, .ref b]) F hr rfl hb I (.cons rfl (.cons rfl .nil)) q) (fun w s' z => ?_) fun _ _ x => x
  obtain ⟨z', H', I', rz, qz⟩ := z
  exact cmpb rz ⟨z', H', I', rz, qz⟩
/-- x * y of two instances of one class by its own __mul__ -/
theorem op_mulOwn (hc : PySem.W.selfFirst X.K C = true) (G : Mn ⟨X.prog, X.w, X.K, X.mg, X.base⟩ C CX0 k "__mul__" ps sp) (hr : Room k X.A) : OpR X (binaryOp .Mult) (rEqOwn C sp) := by
  intro pins s σ H x y v u Q I rx ry h
  obtain ⟨a, dx, fs, b, dy, gs, rfl, rfl, ha, hb', q⟩ := h
  cases (show v = Value.ref a from rx)
  cases (show u = Value.ref b from ry)
  obtain ⟨f, fd, F, hm, hb⟩ := G.ex
  obtain ⟨mA, J, _⟩ := ins_get I.hok ha
  obtain ⟨mB, J', _⟩ := ins_get I.hok hb'
  obtain ⟨od, J, _⟩ := J.look
  obtain ⟨od', J', _⟩ := J'.look
  obtain ⟨m, hF⟩ := I.fr
  refine PySem.W.binop_K (op := .Mult) hF I.ok.mod.kin J J'.type hc hm.at_ hm.fn ?_
  refine wpAny_mono (run_below (us := [.ref a, .ref b]) (vs := [.ref a, .ref b]) F hr rfl hb I (.cons rfl (.cons rfl .nil)) q) (fun w s' z => ?_) fun _ _ x => x
  obtain ⟨z', H', I', rz, qz⟩ := z
  exact cmpb rz ⟨z', H', I', rz, qz⟩
end
end K74
namespace K74
open PySem PySem.Spec PyProof.Rows L2
/-! ### data stays while the tuples stay -/
def Tex (H H' : Hp) : Prop := ∀ b xs, H b = some (.tup xs) → H' b = some (.tup xs)
mutual
theorem NK.tx {H H' : Hp} (e : Tex H H') : ∀ (k : NestedKey) (v : V), NK H k v → NK H' k v
  | .none, _, h => by cases h; exact .none
  | .num i, _, h => by cases h; exact .num i
  | .text _, _, h => by cases h
  | .tup ks, _, h => by
    cases h with
    | tup h1 h2 => exact .tup (e _ _ h1) (NKs.tx e ks _ h2)
theorem NKs.tx {H H' : Hp} (e : Tex H H') : ∀ (ks : List NestedKey) (vs : List V), NKs H ks vs → NKs H' ks vs
  | [], _, h => by cases h; exact .nil
  | k :: ks, _, h => by
    cases h with
    | cons h1 h2 => exact .cons (NK.tx e k _ h1) (NKs.tx e ks _ h2)
end
/-- all but a stay -/
def ExA (a : Addr) (H H' : Hp) : Prop := ∀ b o, b ≠ a → H b = some o → H' b = some o
theorem ExA.refl {a : Addr} {H : Hp} : ExA a H H := fun _ _ _ h => h
theorem ExA.of {a : Addr} {H H' : Hp} (e : Ex H H') : ExA a H H' := fun b o _ h => e b o h
theorem ExA.trans {a : Addr} {H H1 H2 : Hp} (e : ExA a H H1) (e2 : ExA a H1 H2) : ExA a H H2 := fun b o n h => e2 b o n (e b o n h)
theorem ExA.upd {a : Addr} {H : Hp} {o : HO} : ExA a H (upd H a o) := fun b o' n h => by rw [upd_ne n]; exact h
theorem ExA.tex {a C dx : Addr} {fs : List (Str × V)} {H H' : Hp} (e : ExA a H H') (ha : H a = some (.ins C dx fs)) : Tex H H' := fun b xs h => e b _ (ne_of h ha (by intro z; cases z)) h
/-! ### constants -/
theorem pe_most {X : Cx} {x : Str} {n : Int} {pos : Pos} (h : ∃ t, X.mg x = some (.int n t)) (hg : Gl X x := by rfl) (hd : (x == ("__debug__" : Str)) = false := by decide) : PE X (.Name x pos) (tC (.int n)) := by
  obtain ⟨t, h⟩ := h
  exact pe_glob hg h ⟨t, rfl⟩ hd
structure Tm (mg : Str → Option Value) : Prop where
  word : ∃ t, mg "MOST_WORD" = some (.int 800 t)
  balls : ∃ t, mg "MOST_BALLS" = some (.int 40 t)
  weight : ∃ t, mg "MOST_WEIGHT" = some (.int 9 t)
  lines : ∃ t, mg "MOST_LINES" = some (.int 40 t)
  times : ∃ t, mg "MOST_TIMES" = some (.int 6 t)
  tables : ∃ t, mg "MOST_TABLES" = some (.int 48 t)
/-! ### check_balls -/
abbrev s_check_balls : Stmt := topS 35
theorem sc_check_balls : FnScope ["weights", "speeds", "wall", "least", "ball"] ["weights", "speeds", "wall"] (defScope s_check_balls) := ⟨rfl, rfl, rfl, by decide +kernel, rfl, by decide +kernel, by decide +kernel⟩
/-- what Row asks -/
def RowIn (H : Hp) (w s b : V) (ws : List Int) (v : List Rat) (wall : Bool) : Prop := ∃ (aw as : Addr) (xs : List V), w = .ref aw ∧ Sx H aw (ws.map V.int) ∧ s = .ref as ∧ Sx H as xs ∧ NKs H (v.map qK) xs ∧ b = .bl wall ∧ Wk ws wall ∧ v.length = ws.length ∧ ∃ m, m ≤ 20 ∧ ∀ q ∈ v, Bd m q
def spCheckBalls : Sp := sp3 fun w s b H Q => ∃ ws v wall, RowIn H w s b ws v wall ∧ RetV .non H Q
theorem ok_check_balls {c : Cn} (T : Tx c.mg) (M : Tm c.mg) (D : Dn c "check_balls" s_check_balls ["weights", "speeds", "wall"]) (g_is_whole : Kn c CX0 1 "is_whole" ["thing"] spWhole) (g_is_ratio : Kn c CX0 2 "is_ratio" ["thing"] spIsRatio) :
    Kn c CX0 3 "check_balls" ["weights", "speeds", "wall"] spCheckBalls := by
  have sc := sc_check_balls
  refine D.ok sc len3 (fun f cdv A outer s H vs Q E hr h => ?_)
  refine ⟨_, (pss_cons (ps_if (pt_not (pt_val (pe_callB call_isi (by rfl) T.isinstance (by decide +kernel) (pa_cons (pv 2) (pa_cons (ty_bool T) pa_nil))))) (pss_one ps_never)
    pss_nil)
  (pss_cons (ps_set (i := 3) sc.nd rfl (.inl rfl) (pe_ifExp (pt_val (pv 2)) pe_int pe_int))
  (pss_cons (ps_if (PW.pt (pw_or (pt_not (pt_val (pe_callB call_isiT (by rfl) T.isinstance (by decide +kernel) (pa_cons (pv 0) (pa_cons (pe_tup (pa_cons (ty_list T) (pa_cons (ty_tuple T) pa_nil))) pa_nil))))) (pw_or1 (pt_not (pt_chain op_le op_le (pv 3) (pe_callB call_len_seq (by rfl) T.len PySem.boot_len (pa_cons (pv 0) pa_nil)) (pe_most M.balls)))))) (pss_one ps_never)
    pss_nil)
  (pss_cons (ps_if (PW.pt (pw_or (pt_not (pt_val (pe_callB call_isiT (by rfl) T.isinstance (by decide +kernel) (pa_cons (pv 1) (pa_cons (pe_tup (pa_cons (ty_list T) (pa_cons (ty_tuple T) pa_nil))) pa_nil))))) (pw_or1 (pt_cmpR op_ne (pe_callB call_len_seq (by rfl) T.len PySem.boot_len (pa_cons (pv 1) pa_nil)) (pe_callB call_len_seq (by rfl) T.len PySem.boot_len (pa_cons (pv 0) pa_nil)) (nomark _))))) (pss_one ps_never)
    pss_nil)
  (pss_one (ps_for PassesOwn.never rfl (pi_range1 rfl T.range (pa_cons (pe_callB call_len_seq (by rfl) T.len PySem.boot_len (pa_cons (pv 0) pa_nil)) pa_nil)) (pg_name (i := 4) sc.nd rfl (.inl rfl))
    (pss_cons (ps_if (PW.pt (pw_or (pt_not (pt_val (pe_kn g_is_whole (hr.mono (by decide)) rfl (pa_cons (pe_ix ix_sq (pv 0) (pv 4) (fun _ _ => rfl)) pa_nil)))) (pw_or1 (pt_not (pt_chain op_le op_le pe_int (pe_ix ix_sq (pv 0) (pv 4) (fun _ _ => rfl)) (pe_most M.weight)))))) (pss_one ps_never)
      pss_nil)
    (pss_one (ps_if (pt_not (pt_val (pe_kn g_is_ratio (hr.mono (by decide)) rfl (pa_cons (pe_ix ix_sq (pv 1) (pv 4) (fun _ _ => rfl)) pa_nil)))) (pss_one ps_never)
      pss_nil))))))))), ?_⟩
  obtain ⟨_, _, _, rfl, ws, v, wall, ⟨aw, as, xs, rfl, hw, rfl, hs, hv, rfl, W, hl, m, hm, hb⟩, k⟩ := h
  have hxl : xs.length = ws.length := by rw [hv.len, List.length_map, hl]
  have hn := W.n
  refine ⟨_, rfl, _, _, _, _, true, rfl, .ty "bool", .base (.bl wall), kit_bl_bool, _, rfl, ite_f rfl ?_⟩
  have hlo := W.lo
  -- least
  refine ⟨_, rfl, wall, rfl, ?_⟩
  obtain ⟨least, hle, go⟩ : ∃ least : Int, least ≤ (ws.length : Int) ∧ ∀ B : V → Prop, B (.int least) → if wall = true then B (.int 1) else B (.int 2) := by
    cases wall with
    | true => exact ⟨1, by rw [if_pos rfl] at hlo; omega, fun B h => ite_t rfl h⟩
    | false => exact ⟨2, by rw [if_neg (by decide)] at hlo; omega, fun B h => ite_f rfl h⟩
  refine go (fun z => (tSeq _ _ : TS) { nx := fun _ H' => Q .non H', rt := Q } [some (.ref aw), some (.ref as), some (.bl wall), some z, none] H) ?_
  · skip
    refine ⟨_, rfl, (by show 2 ≤ sizeLine; decide), fun t1 ht1 => ?_⟩
    have e1 := Evl.Ex.new (o := .tup [V.ty "list", V.ty "tuple"]) ht1
    obtain ⟨ty, htx, hk⟩ := isi_lt (K := c.K) (hw.ex e1)
    refine ⟨_, _, _, _, _, true, rfl, upd_same, cls_lt, htx, hk, _, rfl, ite_f rfl ?_⟩
    refine ⟨_, rfl, _, rfl, aw, _, rfl, (hw.ex e1).sq, _, _, rfl, rfl, _, rfl, ?_⟩
    have l1 : decide (least ≤ ((ws.map V.int).length : Int)) = true := decide_eq_true (by rw [List.length_map]; exact hle)
    refine ite_t l1 ⟨_, _, rfl, rfl, _, rfl, ?_⟩
    have l2 : decide (((ws.map V.int).length : Int) ≤ 40) = true := decide_eq_true (by rw [List.length_map]; omega)
    refine ite_f (by show (!decide _) = false; rw [l2]; rfl) ?_
    refine ⟨_, rfl, (by show 2 ≤ sizeLine; decide), fun t2 ht2 => ?_⟩
    have e2 := e1.trans (Evl.Ex.new (o := .tup [V.ty "list", V.ty "tuple"]) ht2)
    obtain ⟨ty2, htx2, hk2⟩ := isi_lt (K := c.K) (hs.ex e2)
    refine ⟨_, _, _, _, _, true, rfl, upd_same, cls_lt, htx2, hk2, _, rfl, ite_f rfl ?_⟩
    refine ⟨_, rfl, as, _, rfl, (hs.ex e2).sq, _, rfl, aw, _, rfl, (hw.ex e2).sq, rfl, _, rfl, ?_⟩
    refine ite_f (by rw [List.length_map, hxl]; simp) ?_
    refine ⟨_, rfl, aw, _, rfl, (hw.ex e2).sq, _, rfl, by rw [List.length_map]; omega, by rw [List.length_map]; omega, ?_⟩
    refine for_it (walk_rangeE (H := H)) (fun i σ' H' => Ex H H' ∧ ∃ y, σ' = [some (.ref aw), some (.ref as), some (.bl wall), some (.int least), y]) ⟨e2, _, rfl⟩ (fun i σ' H' _ p => p.1) (fun i x σ' H' H'' hi p y => ?_) (fun σ' H' p => ?_)
    · obtain ⟨e3, y4, rfl⟩ := p
      obtain ⟨rfl, rfl⟩ := y
      rw [List.length_map] at hi
      have hi' : i < ws.length := by omega
      have ei : (0 : Int) + (i : Int) = (i : Int) := Int.zero_add _
      obtain ⟨w1, w2⟩ := W.w _ (mem_getD hi' 1)
      refine ⟨_, rfl, _, rfl, aw, _, _, _, rfl, rfl, (hw.ex e3).sq, at_of ei (ints_at hi' 1), _, rfl, _, rfl, fun H4 e4 => ⟨_, rfl, ite_f rfl ?_⟩⟩
      have e5 := e3.trans e4
      refine ⟨_, rfl, _, rfl, aw, _, _, _, rfl, rfl, (hw.ex e5).sq, at_of ei (ints_at hi' 1), _, _, rfl, rfl, _, rfl, ?_⟩
      refine ite_t (decide_eq_true w1) ⟨_, _, rfl, rfl, _, rfl, ?_⟩
      refine ite_f (by show (!decide _) = false; rw [decide_eq_true w2]; rfl) ?_
      obtain ⟨x, hx, nx⟩ := q_at (hv.ex e5) (i := i) (by omega)
      refine ⟨_, rfl, _, rfl, as, _, _, _, rfl, rfl, (hs.ex e5).sq, at_of ei hx, _, rfl, _, isR_q nx ((hb _ (mem_getD (by omega) 0)).sm (by omega)), fun H6 e6 => ⟨_, rfl, ite_f rfl ?_⟩⟩
      exact ⟨e5.trans e6, _, rfl⟩
    · exact k _ p.1
end K74
namespace K74
open PySem PySem.Spec PyProof.Rows L2
/-! ### a row -/
structure RowF (H : Hp) (fs : List (Str × V)) (ws : List Int) (v : List Rat) (wall : Bool) : Prop where
  w : ∃ aw, fs.lookup ("weights" : Str) = some (.ref aw) ∧ H aw = some (.tup (ws.map V.int))
  s : ∃ as xs, fs.lookup ("speeds" : Str) = some (.ref as) ∧ H as = some (.tup xs) ∧ NKs H (v.map qK) xs
  b : fs.lookup ("wall" : Str) = some (.bl wall)
  p : ∃ ap, fs.lookup ("pairs" : Str) = some (.ref ap) ∧ H ap = some (.tup ((pairsOf ws.length wall).map V.int))
  g : fs.lookup ("gap_count" : Str) = some (.int ((pairsOf ws.length wall).length : Int))
  l : fs.lookup ("is_like" : Str) = some (.bl (isLike ws))
  n1 : fs.lookup ("with_speeds" : Str) = none
  n2 : fs.lookup ("turned" : Str) = none
theorem RowF.tx {H H' : Hp} {fs : List (Str × V)} {ws : List Int} {v : List Rat} {wall : Bool} (h : RowF H fs ws v wall) (e : Tex H H') : RowF H' fs ws v wall := by
  obtain ⟨⟨aw, w1, w2⟩, ⟨as, xs, s1, s2, s3⟩, b, ⟨ap, p1, p2⟩, g, l, n1, n2⟩ := h
  exact ⟨⟨aw, w1, e _ _ w2⟩, ⟨as, xs, s1, e _ _ s2, NKs.tx e _ _ s3⟩, b, ⟨ap, p1, e _ _ p2⟩, g, l, n1, n2⟩
/-- at x a row of the class at C -/
def RowAt (C : Addr) (H : Hp) (x : V) (ws : List Int) (v : List Rat) (wall : Bool) : Prop := ∃ a dx fs, x = .ref a ∧ H a = some (.ins C dx fs) ∧ RowF H fs ws v wall
theorem RowAt.ex {C : Addr} {H H' : Hp} {x : V} {ws : List Int} {v : List Rat} {wall : Bool} (h : RowAt C H x ws v wall) (e : Ex H H') : RowAt C H' x ws v wall := by
  obtain ⟨a, dx, fs, h1, h2, h3⟩ := h
  exact ⟨a, dx, fs, h1, e _ _ h2, h3.tx fun b xs q => e _ _ q⟩
/-- what the text says of the class -/
structure RwC (c : Cn) (C : Addr) : Prop where
  cl : Cls c.K C
  w : NoAttr c.K C "weights"
  s : NoAttr c.K C "speeds"
  b : NoAttr c.K C "wall"
  p : NoAttr c.K C "pairs"
  g : NoAttr c.K C "gap_count"
  l : NoAttr c.K C "is_like"
  f1 : NoAttr c.K C "first_sum"
  f2 : NoAttr c.K C "second_sum"
theorem like_of {ws : List Int} {M m : Int} (h1 : M ∈ ws) (h2 : ∀ y, y ∈ ws → y ≤ M) (h3 : m ∈ ws) (h4 : ∀ y, y ∈ ws → m ≤ y) : decide (V.int M = V.int m) = isLike ws := by
  unfold isLike
  by_cases e : M = m
  · subst e
    have all : ∀ y ∈ ws, y = M := fun y hy => by have := h2 y hy; have := h4 y hy; omega
    rw [decide_eq_true rfl]
    refine (List.all_eq_true.mpr fun y hy => ?_).symm
    have h0 : ws.getD 0 0 ∈ ws := by
      cases ws with
      | nil => cases h1
      | cons a r => simp
    rw [all y hy, all _ h0]
    simp
  · rw [decide_eq_false fun z => e (by injection z)]
    symm
    rw [Bool.eq_false_iff]
    intro h
    have all := List.all_eq_true.mp h
    have a1 := of_decide_eq_true (all M h1)
    have a2 := of_decide_eq_true (all m h3)
    exact e (a1.trans a2.symm)
/-- tuple(x) of a list or a tuple: at a tuple of the same -/
def rTupX : List V → Hp → VK → Prop := fun vs H Q => ∃ p ys, vs = [.ref p] ∧ Sx H p ys ∧ ∀ l H', Ex H H' → H' l = some (.tup ys) → Q (.ref l) H'
theorem call_tupX {X : Cx} : CallR X (.type "tuple") rTupX := by
  intro pins s σ H vs us Q I r h
  obtain ⟨p, ys, rfl, hs, q⟩ := h
  refine call_tuple_of pins s σ H _ us Q I r ⟨p, ys, rfl, ?_⟩
  rcases hs with hs | hs
  · exact .inl ⟨SqL.of hs, fun l hl => q l _ (Evl.Ex.new hl) upd_same⟩
  · exact .inr ⟨SqT.of hs, q p H Ex.rfl hs⟩
def rowPut (a1 a2 b a3 n l a4 a5 : V) : List (Str × V) := putF "second_sum" a5 (putF "first_sum" a4 (putF "is_like" l (putF "gap_count" n (putF "pairs" a3 (putF "wall" b (putF "speeds" a2 (putF "weights" a1 [])))))))
theorem rowPut_eq (a1 a2 b a3 n l a4 a5 : V) : rowPut a1 a2 b a3 n l a4 a5 = ([("weights", a1), ("speeds", a2), ("wall", b), ("pairs", a3), ("gap_count", n), ("is_like", l), ("first_sum", a4), ("second_sum", a5)] : List (Str × V)) := by
  kernel_rfl
abbrev s_Row_init : Stmt := inClass (topS 36) 0
theorem sc_Row_init : FnScope ["self", "weights", "speeds", "wall", "speed", "first", "once", "twice", "weight"] ["self", "weights", "speeds", "wall"] (defScope s_Row_init) := ⟨rfl, rfl, rfl, by decide +kernel, rfl, by decide +kernel, by decide +kernel⟩
def spRowInit (C : Addr) : Sp := sp4 fun x w s b H Q => ∃ a dx ws v wall, x = .ref a ∧ H a = some (.ins C dx []) ∧ RowIn H w s b ws v wall ∧ ∀ H' fs, ExA a H H' → H' a = some (.ins C dx fs) → RowF H' fs ws v wall → Q .non H'
/-- __init__ as it stands behind the top (it has a default) -/
structure DiRow (c : Cn) (C : Addr) : Prop where
  ex : ∃ f fd, FunD c.K "__init__" "Row.__init__" (defArgs s_Row_init) (defBody s_Row_init) (defScope s_Row_init) [.bl false] [] f fd ∧ Mk c.K C f ∧ c.mg "Row" = some (.ref C) ∧ Binds c.K fd ["self", "weights", "speeds", "wall"] []
theorem ok_row {c : Cn} {C : Addr} (T : Tx c.mg) (RC : RwC c C) (D : DiRow c C) (g_check_balls : Kn c CX0 3 "check_balls" ["weights", "speeds", "wall"] spCheckBalls) (g_ratio_of : Kn c CX0 3 "ratio_of" ["thing"] spRatio)
    (g_plus : Kn c CX0 4 "plus" ["one", "other"] spPlus) (g_times : Kn c CX0 4 "times" ["one", "other"] spTimes) : Nn c C 5 "Row" ["self", "weights", "speeds", "wall"] (spRowInit C) := by
  have sc := sc_Row_init
  obtain ⟨f, fd, F, hM, hmg, hbi⟩ := D.ex
  refine ⟨⟨f, fd, ?_, hM, hmg, hbi⟩⟩
  refine F.ok sc len4 (fun cdv A outer s H vs Q E hr h => ?_)
  refine ⟨_, PSs.nox (pss_cons (ps_expr (pe_kn g_check_balls (hr.mono (by decide)) rfl (pa_cons (pv 1) (pa_cons (pv 2) (pa_cons (pv 3) pa_nil)))))
  (pss_cons (ps_fld (pv 0) (pe_callTy call_tupX (by rfl) T.tuple (by decide +kernel) (pa_cons (pv 1) pa_nil)) rfl)
  (pss_cons (ps_fld (pv 0) (pe_callTy call_tupX (by rfl) T.tuple (by decide +kernel) (pa_cons (pe_lc (own := [("speed", 4)]) (g := gName 4) (tt := tYes) rfl sc.nd (pi_sq (pv 2)) (blkOk_by (by kernel_rfl)) (fun _ _ _ _ _ => (pg_name (i := 4) sc.nd rfl (.inl rfl))) (fun _ _ _ _ _ => pts_nil) (fun _ _ _ _ _ => (pe_kn g_ratio_of (hr.mono (by decide)) rfl (pa_cons (pv 4) pa_nil)))) pa_nil)) rfl)
  (pss_cons (ps_fld (pv 0) (pv 3) rfl)
  (pss_cons (ps_set (i := 5) sc.nd rfl (.inl rfl) (pe_ifExp (pt_val (pv 3)) (pe_un un_neg pe_int) pe_int))
  (pss_cons (ps_fld (pv 0) (pe_tupRg rfl (by rfl) T.tuple (prg_2 (by rfl) T.range (pv 5) (pe_op op_sub (pe_callB call_len_seq (by rfl) T.len PySem.boot_len (pa_cons (pv 1) pa_nil)) pe_int))) rfl)
  (pss_cons (ps_fld (pv 0) (pe_callB call_len_seq (by rfl) T.len PySem.boot_len (pa_cons (pe_fld (pv 0) rfl) pa_nil)) rfl)
  (pss_cons (ps_fld (pv 0) (pe_cmpR op_eq (pe_callB (cr_maxT rfl) (by rfl) T.max (by decide +kernel) (pa_cons (pe_fld (pv 0) rfl) pa_nil)) (pe_callB (cr_minT rfl) (by rfl) T.min (by decide +kernel) (pa_cons (pe_fld (pv 0) rfl) pa_nil)) (nomark _)) rfl)
  (pss_cons (ps_set (i := 6) sc.nd rfl (.inl rfl) (pe_tup (pa_cons pe_int (pa_cons pe_int pa_nil))))
  (pss_cons (ps_set (i := 7) sc.nd rfl (.inl rfl) (pe_tup (pa_cons pe_int (pa_cons pe_int pa_nil))))
  (pss_cons (ps_for PassesOwn.never rfl (RZ.pi_zipA rfl T.zip (pa_cons (pe_fld (pv 0) rfl) (pa_cons (pe_fld (pv 0) rfl) pa_nil))) (pg_tup rfl (pgs_cons (pg_name (i := 8) sc.nd rfl (.inl rfl)) (pgs_cons (pg_name (i := 4) sc.nd rfl (.inl rfl)) pgs_nil)))
    (pss_cons (ps_set (i := 6) sc.nd rfl (.inl rfl) (pe_kn g_plus (hr.mono (by decide)) rfl (pa_cons (pv 6) (pa_cons (pe_kn g_times (hr.mono (by decide)) rfl (pa_cons (pv 8) (pa_cons (pv 4) pa_nil))) pa_nil))))
    (pss_one (ps_set (i := 7) sc.nd rfl (.inl rfl) (pe_kn g_plus (hr.mono (by decide)) rfl (pa_cons (pv 7) (pa_cons (pe_kn g_times (hr.mono (by decide)) rfl (pa_cons (pv 8) (pa_cons (pe_kn g_times (hr.mono (by decide)) rfl (pa_cons (pv 4) (pa_cons (pv 4) pa_nil))) pa_nil))) pa_nil)))))))
  (pss_cons (ps_fld (pv 0) (pv 6) rfl)
  (pss_one (ps_fld (pv 0) (pv 7) rfl)))))))))))))), ?_⟩
  obtain ⟨_, _, _, _, rfl, a, dx, ws, v, wall, rfl, ha, hin, k⟩ := h
  obtain ⟨aw, as, xs, rfl, hw, rfl, hs, hv, rfl, W, hl, m, hm, hb⟩ := id hin
  have hn := W.n
  have hpos := W.pos
  have hxl : xs.length = v.length := by rw [hv.len, List.length_map]
  refine ⟨_, rfl, _, rfl, _, rfl, _, _, _, rfl, ws, v, wall, hin, fun H1 e1 => ?_⟩
  -- self.weights
  refine ⟨_, rfl, aw, _, rfl, hw.ex e1, fun t1 H2 e2 ht1 => ?_⟩
  have E2 := e1.trans e2
  refine ⟨_, rfl, a, C, dx, [], rfl, E2 _ _ ha, RC.cl, RC.w, (by show 0 < 1000; decide), ?_⟩
  generalize hH3 : upd H2 a (.ins C dx (putF "weights" (.ref t1) [])) = H3
  have a3 : H3 a = some (.ins C dx (putF "weights" (.ref t1) [])) := by rw [← hH3]; exact upd_same
  have A3 : ExA a H H3 := by rw [← hH3]; exact (ExA.of E2).trans ExA.upd
  have ne1 : t1 ≠ a := ne_of ht1 (E2 _ _ ha) (by intro z; cases z)
  have t3 : H3 t1 = some (.tup (ws.map V.int)) := by rw [← hH3, upd_ne ne1]; exact ht1
  have nsa : as ≠ a := hs.elim (fun q => ne_of q ha (by intro z; cases z)) (fun q => ne_of q ha (by intro z; cases z))
  have s3 : Sx H3 as xs := hs.elim (fun q => .inl (A3 _ _ nsa q)) (fun q => .inr (A3 _ _ nsa q))
  have nwa : aw ≠ a := hw.elim (fun q => ne_of q ha (by intro z; cases z)) (fun q => ne_of q ha (by intro z; cases z))
  have w3 : Sx H3 aw (ws.map V.int) := hw.elim (fun q => .inl (A3 _ _ nwa q)) (fun q => .inr (A3 _ _ nwa q))
  have v3 := NKs.tx (A3.tex ha) _ _ hv
  -- self.speeds
  refine ⟨_, rfl, iSq_go s3.sq fun J wk => ?_⟩
  refine lc_name wk grow_at (v.map qK) (by rw [List.length_map, hxl]) (by omega) (by intro _; rfl) (fun i x kk H4 H5 hk e4 e5 y Q' q => ?_) (fun L ys H4 hL e4 hL4 hys => ?_)
  · obtain ⟨rfl, hx⟩ := y
    obtain ⟨kk', hk', nk⟩ := (v3.ex e5).got hx
    rw [hk] at hk'
    cases hk'
    rw [List.getElem?_map] at hk
    cases hvi : v[i]? with
    | none => rw [hvi] at hk; cases hk
    | some z =>
      rw [hvi] at hk
      cases hk
      exact ⟨_, rfl, _, rfl, z, isR_q nk ((hb z (List.mem_of_getElem? hvi)).sm (by omega)), fun u H6 e6 hu => q u H6 e6 hu⟩
  refine ⟨L, ys, rfl, .inl hL4, fun t2 H5 e5 ht2 => ?_⟩
  have E5 := e4.trans e5
  refine ⟨_, rfl, a, C, dx, _, rfl, E5 _ _ a3, RC.cl, RC.s, (by show 1 < 1000; decide), ?_⟩
  generalize hH6 : upd H5 a (.ins C dx (putF "speeds" (.ref t2) (putF "weights" (.ref t1) []))) = H6
  have a6 : H6 a = some (.ins C dx (putF "speeds" (.ref t2) (putF "weights" (.ref t1) []))) := by rw [← hH6]; exact upd_same
  have A6 : ExA a H3 H6 := by rw [← hH6]; exact (ExA.of E5).trans ExA.upd
  have X6 := A6.tex a3
  have ne2 : t2 ≠ a := ne_of ht2 (E5 _ _ a3) (by intro z; cases z)
  have t6 : H6 t2 = some (.tup ys) := by rw [← hH6, upd_ne ne2]; exact ht2
  have w6 := X6 _ _ t3
  have v6 : NKs H6 (v.map qK) ys := by
    rw [← hH6]
    exact NKs.tx (ExA.upd.tex (E5 _ _ a3)) _ _ (hys.ex e5)
  have wx6 : Sx H6 aw (ws.map V.int) := w3.elim (fun q => .inl (A6 _ _ nwa q)) (fun q => .inr (A6 _ _ nwa q))
  -- self.wall
  refine ⟨_, rfl, _, rfl, a, C, dx, _, rfl, a6, RC.cl, RC.b, (by show 2 < 1000; decide), ?_⟩
  generalize hH7 : upd H6 a (.ins C dx (putF "wall" (.bl wall) (putF "speeds" (.ref t2) (putF "weights" (.ref t1) [])))) = H7
  have a7 : H7 a = some (.ins C dx (putF "wall" (.bl wall) (putF "speeds" (.ref t2) (putF "weights" (.ref t1) [])))) := by rw [← hH7]; exact upd_same
  have A7 : ExA a H6 H7 := by rw [← hH7]; exact ExA.upd
  have X7 := A7.tex a6
  have wx7 : Sx H7 aw (ws.map V.int) := wx6.elim (fun q => .inl (A7 _ _ nwa q)) (fun q => .inr (A7 _ _ nwa q))
  -- first
  refine ⟨_, rfl, wall, rfl, ?_⟩
  have go : ∀ B : V → Prop, B (.int (firstOf wall)) → if wall = true then B (.int (-1)) else B (.int 0) := by
    intro B h
    cases wall with
    | true => exact ite_t rfl h
    | false => exact ite_f rfl h
  have go2 : ∀ B : V → Prop, B (.int (firstOf wall)) → if wall = true then (∃ i : Int, V.int 1 = V.int i ∧ B (.int (-i))) else B (.int 0) := by
    intro B h
    have := go B h
    cases wall with
    | true => rw [if_pos rfl] at this ⊢; exact ⟨1, rfl, this⟩
    | false => exact this
  refine go2 (fun z => (tSeq _ _ : TS) { nx := fun _ H' => Q .non H', rt := Q } [some (.ref a), some (.ref aw), some (.ref as), some (.bl wall), none, some z, none, none, none] H7) ?_
  -- self.pairs
  have hf : firstOf wall = -1 ∨ firstOf wall = 0 := by cases wall <;> simp [firstOf]
  refine ⟨_, rfl, _, rfl, aw, _, rfl, wx7.sq, _, _, rfl, rfl, _, _, rfl, rfl, ⟨by omega, by omega, by rw [List.length_map]; omega, by rw [List.length_map]; omega, by rw [List.length_map]; omega⟩, fun t3' ht3 => ?_⟩
  have E8 := Evl.Ex.new (o := .tup (rgV (firstOf wall) (((ws.map V.int).length : Int) - 1))) ht3
  refine ⟨_, rfl, a, C, dx, _, rfl, E8 _ _ a7, RC.cl, RC.p, (by show 3 < 1000; decide), ?_⟩
  have epr : rgV (firstOf wall) (((ws.map V.int).length : Int) - 1) = (pairsOf ws.length wall).map V.int := by
    unfold rgV pairsOf
    rw [List.length_map, List.map_map]
    rfl
  rw [epr] at E8 ⊢
  generalize hH9 : upd (upd H7 t3' (.tup ((pairsOf ws.length wall).map V.int))) a (.ins C dx (putF "pairs" (.ref t3') (putF "wall" (.bl wall) (putF "speeds" (.ref t2) (putF "weights" (.ref t1) []))))) = H9
  have a9 : H9 a = some (.ins C dx (putF "pairs" (.ref t3') (putF "wall" (.bl wall) (putF "speeds" (.ref t2) (putF "weights" (.ref t1) []))))) := by rw [← hH9]; exact upd_same
  have A9 : ExA a H7 H9 := by rw [← hH9]; exact (ExA.of E8).trans ExA.upd
  have X9 := A9.tex a7
  have ne3 : t3' ≠ a := fun z => by rw [z, a7] at ht3; cases ht3
  have p9 : H9 t3' = some (.tup ((pairsOf ws.length wall).map V.int)) := by rw [← hH9, upd_ne ne3, upd_same]
  -- self.gap_count
  refine ⟨_, rfl, a, C, dx, _, _, rfl, a9, RC.cl, RC.p, (by kernel_rfl), t3', _, rfl, .inr (SqT.of p9), _, rfl, a, C, dx, _, rfl, a9, RC.cl, RC.g, (by show 4 < 1000; decide), ?_⟩
  rw [List.length_map]
  generalize hH10 : upd H9 a (.ins C dx (putF "gap_count" (.int ((pairsOf ws.length wall).length : Int)) (putF "pairs" (.ref t3') (putF "wall" (.bl wall) (putF "speeds" (.ref t2) (putF "weights" (.ref t1) [])))))) = H10
  have a10 : H10 a = some (.ins C dx (putF "gap_count" (.int ((pairsOf ws.length wall).length : Int)) (putF "pairs" (.ref t3') (putF "wall" (.bl wall) (putF "speeds" (.ref t2) (putF "weights" (.ref t1) [])))))) := by rw [← hH10]; exact upd_same
  have A10 : ExA a H9 H10 := by rw [← hH10]; exact ExA.upd
  have X10 := A10.tex a9
  have w10 := X10 _ _ (X9 _ _ (X7 _ _ w6))
  -- self.is_like
  refine ⟨_, rfl, a, C, dx, _, _, rfl, a10, RC.cl, RC.w, (by kernel_rfl), t1, ws, rfl, SqT.of w10, by omega, fun M hM1 hM2 => ?_⟩
  refine ⟨_, rfl, a, C, dx, _, _, rfl, a10, RC.cl, RC.w, (by kernel_rfl), t1, ws, rfl, SqT.of w10, by omega, fun m' hm1 hm2 => ?_⟩
  refine ⟨rfl, _, rfl, a, C, dx, _, rfl, a10, RC.cl, RC.l, (by show 5 < 1000; decide), ?_⟩
  rw [like_of hM1 hM2 hm1 hm2]
  generalize hH11 : upd H10 a (.ins C dx (putF "is_like" (.bl (isLike ws)) (putF "gap_count" (.int ((pairsOf ws.length wall).length : Int)) (putF "pairs" (.ref t3') (putF "wall" (.bl wall) (putF "speeds" (.ref t2) (putF "weights" (.ref t1) []))))))) = H11
  have a11 : H11 a = some (.ins C dx (putF "is_like" (.bl (isLike ws)) (putF "gap_count" (.int ((pairsOf ws.length wall).length : Int)) (putF "pairs" (.ref t3') (putF "wall" (.bl wall) (putF "speeds" (.ref t2) (putF "weights" (.ref t1) []))))))) := by rw [← hH11]; exact upd_same
  have A11 : ExA a H10 H11 := by rw [← hH11]; exact ExA.upd
  have X11 := A11.tex a10
  have w11 := X11 _ _ w10
  have v11 := NKs.tx X11 _ _ (NKs.tx X10 _ _ (NKs.tx X9 _ _ (NKs.tx X7 _ _ v6)))
  have s11 := X11 _ _ (X10 _ _ (X9 _ _ (X7 _ _ t6)))
  have p11 := X11 _ _ (X10 _ _ p9)
  have A0 : ExA a H H11 := (A3.trans A6).trans (((A7.trans A9).trans A10).trans A11)
  have yl : ys.length = v.length := by rw [hys.len, List.length_map]
  -- once, twice
  refine ⟨(by show 2 ≤ sizeLine; decide), fun o1 ho1 => ?_⟩
  refine ⟨(by show 2 ≤ sizeLine; decide), fun o2 ho2 => ?_⟩
  have E12 := Evl.Ex.new (o := .tup [V.int 0, V.int 1]) ho1
  have E13 := E12.trans (Evl.Ex.new (o := .tup [V.int 0, V.int 1]) ho2)
  have n1 : NK (upd (upd H11 o1 (.tup [V.int 0, V.int 1])) o2 (.tup [V.int 0, V.int 1])) (qK 0) (.ref o1) := qK_mk ((Evl.Ex.new ho2) _ _ upd_same)
  have n2 : NK (upd (upd H11 o1 (.tup [V.int 0, V.int 1])) o2 (.tup [V.int 0, V.int 1])) (qK 0) (.ref o2) := qK_mk upd_same
  generalize upd (upd H11 o1 (.tup [V.int 0, V.int 1])) o2 (.tup [V.int 0, V.int 1]) = H13 at *
  -- the loop
  refine ⟨_, rfl, a, C, dx, _, _, rfl, E13 _ _ a11, RC.cl, RC.w, (by kernel_rfl), _, rfl, a, C, dx, _, _, rfl, E13 _ _ a11, RC.cl, RC.s, (by kernel_rfl), t1, t2, _, _, rfl, .inr ⟨SqT.of (E13 _ _ w11), SqT.of (E13 _ _ s11), ?_⟩⟩
  refine for_it (walk_zipTE (H := H13) (n := ws.length) (by rw [List.length_map, yl, hl]; omega) (SqT.of (E13 _ _ w11)) (SqT.of (E13 _ _ s11))) (fun i σ' H' => ∃ (y8 y4 : Option V) (u6 u7 : V) (p q : Rat), σ' = [some (.ref a), some (.ref aw), some (.ref as), some (.bl wall), y4, some (.int (firstOf wall)), some u6, some u7, y8] ∧ Ex H13 H' ∧ NK H' (qK p) u6 ∧ NK H' (qK q) u7 ∧ Bd (m + 1 + i) p ∧ Bd (m + m + 1 + i) q)
    ⟨none, none, _, _, 0, 0, rfl, Ex.rfl, n1, n2, Bd.zero _, Bd.zero _⟩ (fun i σ' H' _ p => by obtain ⟨_, _, _, _, _, _, _, p, _⟩ := p; exact p) (fun i x σ' H' H'' hi pv y => ?_) (fun σ' H' pv => ?_)
  · obtain ⟨y8, y4, u6, u7, p, q, rfl, e, np, nq, bp, bq⟩ := pv
    obtain ⟨Tp, x1, x2, rfl, hT, rfl, h1, h2⟩ := y
    have eT := e.trans (Evl.Ex.new (o := .tup [x1, x2]) hT)
    have hi' : i < v.length := by omega
    have ex1 : V.int (ws.getD i 1) = x1 := Option.some.inj ((ints_at hi 1).symm.trans h1)
    subst ex1
    obtain ⟨x2', hx2, nx2⟩ := q_at ((v11.ex E13).ex eT) (i := i) hi'
    have ex2 : x2' = x2 := Option.some.inj (hx2.symm.trans h2)
    subst ex2
    have bv := hb _ (mem_getD hi' 0)
    obtain ⟨w1, w2⟩ := W.w _ (mem_getD hi 1)
    have bw : Bd 1 ((ws.getD i 1 : Int) : Rat) := Bd.int (by omega) (by omega) (Nat.le_refl _)
    refine ⟨Tp, _, rfl, SqT.of upd_same, rfl, _, _, rfl, _, _, rfl, rfl, ?_⟩
    have np' := np.ex (Evl.Ex.new (o := .tup [V.int (ws.getD i 1), x2']) hT)
    have nq' := nq.ex (Evl.Ex.new (o := .tup [V.int (ws.getD i 1), x2']) hT)
    refine ⟨_, rfl, _, rfl, _, rfl, _, _, rfl, _, _, isR_int _, isR_q nx2 (bv.sm (by omega)), bw.sm (by omega), bv.sm (by omega), fun r1 H1' g1 nr1 => ?_⟩
    have b1 : Bd (m + 1 + i) (((ws.getD i 1 : Int) : Rat) * v.getD i 0) := (bw.mul bv).mono (by omega)
    refine ⟨_, _, rfl, _, _, isR_q (np'.ex g1) (bp.sm (by omega)), isR_q nr1 (b1.sm (by omega)), bp.sm (by omega), b1.sm (by omega), fun r2 H2' g2 nr2 => ?_⟩
    have G2 := g1.trans g2
    refine ⟨_, rfl, _, rfl, _, rfl, _, rfl, _, _, rfl, _, _, isR_q (nx2.ex G2) (bv.sm (by omega)), isR_q (nx2.ex G2) (bv.sm (by omega)), bv.sm (by omega), bv.sm (by omega), fun r3 H3' g3 nr3 => ?_⟩
    have b3 := bv.mul bv
    refine ⟨_, _, rfl, _, _, isR_int _, isR_q nr3 (b3.sm (by omega)), bw.sm (by omega), b3.sm (by omega), fun r4 H4' g4 nr4 => ?_⟩
    have b4 : Bd (m + m + 1 + i) (((ws.getD i 1 : Int) : Rat) * (v.getD i 0 * v.getD i 0)) := (bw.mul b3).mono (by omega)
    have G4 := (G2.trans g3).trans g4
    refine ⟨_, _, rfl, _, _, isR_q (nq'.ex G4) (bq.sm (by omega)), isR_q nr4 (b4.sm (by omega)), bq.sm (by omega), b4.sm (by omega), fun r5 H5' g5 nr5 => ?_⟩
    exact ⟨_, _, _, _, _, _, rfl, (eT.trans G4).trans g5, nr2.ex ((g3.trans g4).trans g5), nr5, bp.add b1, bq.add b4⟩
  · obtain ⟨y8, y4, u6, u7, p, q, rfl, e, np, nq, bp, bq⟩ := pv
    have EE := E13.trans e
    refine ⟨_, rfl, _, rfl, a, C, dx, _, rfl, EE _ _ a11, RC.cl, RC.f1, (by show 6 < 1000; decide), ?_⟩
    refine ⟨_, rfl, _, rfl, a, C, dx, _, rfl, upd_same, RC.cl, RC.f2, (by show 7 < 1000; decide), ?_⟩
    refine k _ (rowPut (.ref t1) (.ref t2) (.bl wall) (.ref t3') (.int ((pairsOf ws.length wall).length : Int)) (.bl (isLike ws)) u6 u7) ((A0.trans (ExA.of EE)).trans (ExA.upd.trans ExA.upd)) upd_same ?_
    refine RowF.tx (H := H') ?_ ((ExA.upd.trans ExA.upd).tex (EE _ _ a11))
    rw [rowPut_eq]
    exact ⟨⟨t1, by kernel_rfl, EE _ _ w11⟩, ⟨t2, ys, by kernel_rfl, EE _ _ s11, v11.ex EE⟩, by kernel_rfl, ⟨t3', by kernel_rfl, EE _ _ p11⟩, by kernel_rfl, by kernel_rfl, by kernel_rfl, by kernel_rfl⟩
end K74
namespace K74
open PySem PySem.Spec PyProof.Rows L2
open AutoSeq1 (wpAny_loadPart')
/-! ### enumerate(tuple) -/
theorem meets_enumerate_newT (l : Addr) (items : Array Value) :
    Meets (Builtin.«enumerate.__new__» ⟨[.type "enumerate", .ref l], []⟩) (fun _ R s => s.heap.IsTuple l items ∧
      R (.ok (.ret (.ref (s.heap.push { cls := .type "tuple_iterator", data := .fields #[.ref l, .int 0 0] }).objs.size)))
        { s with heap := (s.heap.push { cls := .type "tuple_iterator", data := .fields #[.ref l, .int 0 0] }).push { cls := .type "enumerate", data := .fields #[.none, .bool false, .ref s.heap.objs.size, rawInt 0, .none, .none] } }) :=
  .of_wp fun prog w A R s h => by
    obtain ⟨hp, g, d, tk, os⟩ := s; obtain ⟨hl, h⟩ := h
    have hsub := sub_enumerate
    have hL : Heap.IsTuple (Shared.heap ⟨hp, g, d, tk, os⟩) l items := hl
    wp_walk
    refine wpAny_stack_any fun st => wpAny_pure ?_
    split
    · rename_i c _ _ _ _ _
      cases (c == Value.type "enumerate")
      · wp_walk using wpAny_pyIter_tuple hL
        exact ⟨_, rfl, h⟩
      · wp_walk using wpAny_pyIter_tuple hL
        exact ⟨_, rfl, h⟩
    · wp_walk using wpAny_pyIter_tuple hL
      exact ⟨_, rfl, h⟩
section
variable {prog : Program} {w : World} {A : Around} {E : Value → Shared → Prop} {s : Shared}
theorem call_enumerate_tuple {l : Addr} {items : Array Value} {Q : Value → Shared → Prop} (hL : s.heap.IsTuple l items)
    (h : ∀ h', IsEnum h' (s.heap.objs.size + 1) s.heap.objs.size 0 .none → h'.IsTupleIter s.heap.objs.size l 0 → h'.objs.size = s.heap.objs.size + 2 →
      (∀ b o, s.heap.get? b = some o → h'.get? b = some o) → Q (.ref (s.heap.objs.size + 1)) { s with heap := h' }) :
    wpAny (model prog w) A (call (.type "enumerate") [.ref l]) Q E s := by
  refine callType_new F.called_enumerate (by decide) (F.typeCall_enumerate_1 _) (F.newCall_enumerate_1 _) (fun obj => F.args_object_init_2 obj _) F.entry_enumerate_new
    (meets_enumerate_newT l items) ⟨hL, ?_⟩
  have hz : (s.heap.push { cls := .type "tuple_iterator", data := .fields #[.ref l, .int 0 0] }).objs.size = s.heap.objs.size + 1 := Heap.size_push ..
  show _ ∧ _
  rw [hz]
  have he : IsEnum ((s.heap.push { cls := .type "tuple_iterator", data := .fields #[.ref l, .int 0 0] }).push
      { cls := .type "enumerate", data := .fields #[.none, .bool false, .ref s.heap.objs.size, rawInt 0, .none, .none] }) (s.heap.objs.size + 1) s.heap.objs.size 0 .none := by
    have := Heap.get?_push_size (s.heap.push { cls := .type "tuple_iterator", data := .fields #[.ref l, .int 0 0] })
      (o := { cls := .type "enumerate", data := .fields #[.none, .bool false, .ref s.heap.objs.size, rawInt 0, .none, .none] }) rfl
    rw [hz] at this; exact this
  refine ⟨⟨_, he, rfl⟩, h _ he ⟨_, Heap.get?_push_of_some _ (Heap.get?_push_size _ rfl), rfl, rfl⟩ (by rw [Heap.size_push, hz]) fun b o x => Heap.get?_push_of_some _ (Heap.get?_push_of_some _ x)⟩
end
/-- the tuple at a as it stands at each turn, each item in a new pair -/
def IteT (K : PySem.W.Frag) (a : Addr) : It :=
  ⟨fun i H => ∃ (xs : List V) (x : V), SqT K H a xs ∧ xs[i]? = some x, fun i H v H' => ∃ T x, v = .ref T ∧ H T = none ∧ H' = upd H T (.tup [.int (i : Nat), x]) ∧ ∀ xs, SqT K H a xs → xs[i]? = some x, fun i H => ∃ xs : List V, SqT K H a xs ∧ xs.length ≤ i⟩
theorem turn_enumT {P : Program} {w : World} {K : PySem.W.Frag} {elts : List Expr} {kk : Nat} {tpos : Pos} (a e it : Addr) (hae : a ≠ e) (hai : a ≠ it) :
    Turn P w K (.Tuple elts kk tpos) (IteT K a) [e, it] e (fun i h => (∃ old, IsEnum h e it ((i : Nat) : Int) old) ∧ h.IsTupleIter it a i ∧ e ≠ it) where
  mem := by simp
  obj := fun i h st b hb => by
    obtain ⟨⟨old, he⟩, ⟨o, ho, hc, hd⟩, _⟩ := st
    have e' : b = e ∨ b = it := by simpa using hb
    rcases e' with z | z
    · rw [z]; exact ⟨_, he, fun v q => nomatch q⟩
    · rw [z]; exact ⟨o, ho, fun v q => by rw [hd] at q; cases q⟩
  keep := fun i h h' st k => let ⟨⟨old, he⟩, hi, hne⟩ := st; ⟨⟨old, k e (by simp) _ he⟩, hi.at fun o q => k it (by simp) o q, hne⟩
  item := by
    intro X hP hw hK hc i pins s σ H E I hf st hg
    subst hP hw hK
    obtain ⟨⟨old, he⟩, hit, hne⟩ := st
    obtain ⟨xs, x, hq, hx⟩ := hg
    obtain ⟨its, rv, p, hz⟩ := I.tuple hq
    obtain ⟨u, hu, ru⟩ := rv.get hx
    have hel : e < s.heap.objs.size := Heap.lt_size he
    have hil : it < s.heap.objs.size := by obtain ⟨_, q, _⟩ := hit; exact Heap.lt_size q
    have hui : its.toArray[i]? = some u := by simpa using hu
    have hlt : i < its.toArray.size := by
      rcases Nat.lt_or_ge i its.toArray.size with z | z
      · exact z
      · rw [Array.getElem?_eq_none z] at hui; cases hui
    refine wpAny_pyNext_enum_itemD (Draws.tuple (A := X.A.in1) (I.ok.hd hc) it a hai its.toArray) he ⟨hit, p⟩ hlt hne (by simp [hne, Ne.symm hae]) fun x' h' tk hPx ho hst hT hsz hk => ?_
    rw [hui] at hPx
    obtain rfl : u = x' := Option.some.inj hPx
    obtain ⟨hit', _⟩ := hst
    refine ⟨_, rfl, wpAny_letOwnedTupleGo_enum (s := { s with heap := h', toks := tk + 1 }) ho fun h'' he' sb => ?_⟩
    have hT2 : h''.get? s.heap.objs.size = some { cls := .type "tuple", data := .seq #[.int i tk, u] } := (sb.2 _ (Nat.ne_of_gt hel)).trans hT
    have new : ObjOk X.prog X.w (upd H s.heap.objs.size (.tup [.int (i : Nat), x])) h'' s.heap.objs.size (.tup [.int (i : Nat), x]) :=
      ⟨by show 2 ≤ sizeLine; decide, [.int i tk, u], .cons ⟨_, rfl⟩ (.cons ru .nil), ⟨_, hT2, rfl, _, rfl⟩⟩
    have I1 : Inv X pins σ (upd H s.heap.objs.size (.tup [.int (i : Nat), x])) { s with heap := h'', toks := tk + 1 } :=
      I.turnedNew (ch := [e, it]) (fun b ob hb q => (sb.2 b (fun z => hb (by simp [z]))).trans (hk b ob (fun z => hb (by simp [z])) (fun z => hb (by simp [z])) q)) hf (Nat.le_refl _) new
    refine ⟨.ref s.heap.objs.size, _, I1, rfl, ⟨_, x, rfl, I.hok.fresh (Nat.le_refl _), rfl, fun ys hy => by rw [I.tuple_inj hy hq]; exact hx⟩, ⟨⟨u, ?_⟩, hit'.at fun o q => (sb.2 it (Ne.symm hne)).trans q, hne⟩, fun b hb => ?_⟩
    · have e1 : ((i + 1 : Nat) : Int) = (i : Int) + 1 := by omega
      rw [e1]; exact he'
    · have hb' : b < s.heap.objs.size := by
        have e' : b = e ∨ b = it := by simpa using hb
        rcases e' with z | z
        · rw [z]; exact hel
        · rw [z]; exact hil
      rw [upd_ne (Nat.ne_of_lt hb')]
      exact (hf b hb).1
  done := by
    intro X hP hw hK hc i pins s σ H E I hf st hg
    subst hP hw hK
    obtain ⟨⟨old, he⟩, hit, hne⟩ := st
    obtain ⟨xs, hq, hx⟩ := hg
    obtain ⟨its, rv, p, hz⟩ := I.tuple hq
    obtain ⟨f0, f1, f2, f3, f4, f5⟩ := hf it (by simp)
    have hl := rv.length
    have hT : s.TypeIs (.ref e) "enumerate" := ⟨_, he, rfl⟩
    unfold pyNext
    refine wpAny_bind (wpAny_attempt (wpAny_callSpecial?_slot (name := Str.ofString "__next__") hT F.slot_enumerate_next
      (wpAny_call_entry F.slot_enumerate_next hT F.entry_enumerate_next ?_ (F.args_enumerate_next_1 _))))
    show wpAny _ _ (field (.ref e) 2 >>= _) _ _ _
    refine wpAny_bind (wpAny_field he rfl (x := .ref it) rfl ?_)
    refine wpAny_bind (wpAny_nextOf_tuple_end (I.ok.hd hc) hit p (by simp; omega) fun h' x he' hx' => ?_)
    obtain ⟨o, ho, hc'⟩ := hx'
    refine wpAny_bind (wpAny_isInstance (T := "StopIteration") (b := true) ⟨o, ho, hc'⟩ isSubtype_stop ?_)
    exact wpAny_pure ⟨rfl, I.turned (t' := s.toks) (fun b o hb q => he' b o hb q) f0 f1 f3 f4 f5⟩
  self := fun A i s Q E st h => let ⟨⟨_, he⟩, _⟩ := st; wpAny_pyIter_enum he h
def iEnumT (K : PySem.W.Frag) (ta : TA) : TI := fun σ H R => ta σ H fun vs H1 => ∃ a xs, vs = [.ref a] ∧ SqT K H1 a xs ∧ R (IteT K a) H1
theorem pi_enumT {X : Cx} {e : Expr} {ta : TA} {p pos tpos : Pos} {elts : List Expr} {kk : Nat} (hg : Gl X "enumerate") (hm : X.mg "enumerate" = none) (ha : PA X [e] ta) (hs : starEach [e] X.env = [(false, eval e X.env)] := by rfl) :
    PI X (.Tuple elts kk tpos) (.Call (.Name "enumerate" p) [e] [] pos) (iEnumT X.K ta) := by
  refine ⟨fun pins s σ H R I h => ?_⟩
  refine Call_ (ld_blt I hg hm boot_enumerate (PyProof.Rows.callWith_type1 (thn (ha.run pos pins s σ H _ I h) fun us s1 ⟨vs, H1, I1, r1, q1⟩ => ?_) hs rfl))
  obtain ⟨a, xs, ex, hq, q⟩ := q1
  subst ex
  cases r1 with
  | cons r rr =>
    cases rr
    cases r
    obtain ⟨its, rv, p', hz⟩ := I1.tuple hq
    have hal : a < s1.heap.objs.size := by obtain ⟨o, ho, _⟩ := id p'; exact Heap.lt_size ho
    refine call_enumerate_tuple p' fun h' he hit hsz hk => wpAny_pyIter_enum he ?_
    have I2 : Inv X pins σ H1 { s1 with heap := h' } := I1.kept (t' := s1.toks) hk
    refine ⟨s1.heap.objs.size + 1, [s1.heap.objs.size + 1, s1.heap.objs.size], _, _, H1, rfl, I2, turn_enumT a (s1.heap.objs.size + 1) s1.heap.objs.size (Nat.ne_of_lt (Nat.lt_succ_of_lt hal)) (Nat.ne_of_lt hal), ⟨⟨.none, he⟩, hit, Nat.succ_ne_self _⟩, fun b hb => ?_, q⟩
    have e' : b = s1.heap.objs.size + 1 ∨ b = s1.heap.objs.size := by simpa using hb
    have hle : s1.heap.objs.size ≤ b := by
      rcases e' with z | z
      · rw [z]; exact Nat.le_add_right _ _
      · rw [z]; exact Nat.le_refl _
    exact I1.fpOk hle (I1.hok.fresh hle)
theorem walk_enumTE {K : PySem.W.Frag} {H : Hp} {a : Addr} {xs : List V} (hx : SqT K H a xs) : Walk (IteT K a) xs.length (fun H' => Ex H H') (YPair (fun i => some (.int (i : Nat))) (fun i => xs[i]?)) := by
  refine ⟨fun i _ hi e => ⟨xs, xs[i], Evl.ex_t e hx, by simp [hi]⟩, fun _ e => ⟨xs, Evl.ex_t e hx, Nat.le_refl _⟩, fun i H' v H'' _ e y => ?_⟩
  obtain ⟨T, x, h1, h2, h3, h4⟩ := y
  exact ⟨T, .int (i : Nat), x, h1, h2, h3, rfl, h4 xs (Evl.ex_t e hx)⟩
theorem walk_enumLE {K : PySem.W.Frag} {H : Hp} {a : Addr} {xs : List V} (hx : SqL K H a xs) : Walk (Ite K a) xs.length (fun H' => Ex H H') (YPair (fun i => some (.int (i : Nat))) (fun i => xs[i]?)) := by
  refine ⟨fun i _ hi e => ⟨xs, xs[i], Evl.ex_l e hx, by simp [hi]⟩, fun _ e => ⟨xs, Evl.ex_l e hx, Nat.le_refl _⟩, fun i H' v H'' _ e y => ?_⟩
  obtain ⟨T, x, h1, h2, h3, h4⟩ := y
  exact ⟨T, .int (i : Nat), x, h1, h2, h3, rfl, h4 xs (Evl.ex_l e hx)⟩
/-! ### zip(tuple, list) -/
def ItzX (K : PySem.W.Frag) (a b : Addr) : It :=
  ⟨fun i H => ∃ (xs ys : List V) (x y : V), SqT K H a xs ∧ SqL K H b ys ∧ xs[i]? = some x ∧ ys[i]? = some y,
    fun i H v H' => ∃ T x y, v = .ref T ∧ H T = none ∧ H' = upd H T (.tup [x, y]) ∧ (∀ xs, SqT K H a xs → xs[i]? = some x) ∧ ∀ ys, SqL K H b ys → ys[i]? = some y,
    fun i H => ∃ xs ys : List V, SqT K H a xs ∧ SqL K H b ys ∧ (xs.length = i ∧ i ≤ ys.length)⟩
theorem turn_zipX {P : Program} {w : World} {K : PySem.W.Frag} {elts : List Expr} {kk : Nat} {tpos : Pos} {a b z TI TO i1 i2 : Addr} (D : ZipSep2 z TI TO i1 i2 [i1, a] [i2, b]) (h1a : a ≠ i1) (h2b : b ≠ i2) :
    Turn P w K (.Tuple elts kk tpos) (ItzX K a b) [z, TI, TO, i1, i2] z (fun i h => IsZip h z TI TO .none ∧ IsPair h TI (.ref i1) (.ref i2) ∧ (∃ x y, IsPair h TO x y) ∧ h.IsTupleIter i1 a i ∧ h.IsListIter i2 b i) where
  mem := by simp
  obj := fun i h st c hc => by
    obtain ⟨hz, hTI, ⟨x, y, hTO⟩, ⟨o1, e1, _, d1⟩, ⟨o2, e2, _, d2⟩⟩ := st
    have e' : c = z ∨ c = TI ∨ c = TO ∨ c = i1 ∨ c = i2 := by simpa using hc
    rcases e' with q | q | q | q | q
    · rw [q]; exact ⟨_, hz, fun v q => nomatch q⟩
    · rw [q]; exact ⟨_, hTI, fun v q => nomatch q⟩
    · rw [q]; exact ⟨_, hTO, fun v q => nomatch q⟩
    · rw [q]; exact ⟨o1, e1, fun v q => by rw [d1] at q; cases q⟩
    · rw [q]; exact ⟨o2, e2, fun v q => by rw [d2] at q; cases q⟩
  keep := fun i h h' st k => by
    obtain ⟨hz, hTI, ⟨x, y, hTO⟩, h1, h2⟩ := st
    exact ⟨k z (by simp) _ hz, k TI (by simp) _ hTI, ⟨x, y, k TO (by simp) _ hTO⟩, h1.at fun o q => k i1 (by simp) o q, h2.at fun o q => k i2 (by simp) o q⟩
  item := by
    intro X hP hw hK hc i pins s σ H E I hf st hg
    subst hP hw hK
    obtain ⟨hz, hTI, ⟨x0, y0, hTO⟩, h1, h2⟩ := st
    obtain ⟨xs, ys, x, y, hqx, hqy, hx, hy⟩ := hg
    obtain ⟨its, rv, p, _⟩ := I.tuple hqx
    obtain ⟨its2, rv2, p2, _⟩ := I.list hqy
    obtain ⟨u, hu, ru⟩ := rv.get hx
    obtain ⟨u2, hu2, ru2⟩ := rv2.get hy
    have hzl : z < s.heap.objs.size := Heap.lt_size hz
    have hui : its.toArray[i]? = some u := by simpa using hu
    have hui2 : its2.toArray[i]? = some u2 := by simpa using hu2
    have hlt : i < its.toArray.size := by
      rcases Nat.lt_or_ge i its.toArray.size with z | z
      · exact z
      · rw [Array.getElem?_eq_none z] at hui; cases hui
    have hlt2 : i < its2.toArray.size := by
      rcases Nat.lt_or_ge i its2.toArray.size with z | z
      · exact z
      · rw [Array.getElem?_eq_none z] at hui2; cases hui2
    refine wpAny_pyNext_zipD2_item D (Draws.tuple (A := X.A.in1) (I.ok.hd hc) i1 a h1a its.toArray) (Draws.list (A := X.A.in1) (I.ok.hd hc) i2 b h2b its2.toArray) hz hTI hTO ⟨h1, p⟩ ⟨h2, p2.isList⟩ hlt hlt2 fun x1 x2 h' tk g1 g2 z' TO' s1' s2' hT hsz hk => ?_
    rw [hui] at g1
    rw [hui2] at g2
    obtain rfl : u = x1 := Option.some.inj g1
    obtain rfl : u2 = x2 := Option.some.inj g2
    obtain ⟨h1', _⟩ := s1'
    obtain ⟨h2', _⟩ := s2'
    refine ⟨_, rfl, wpAny_letOwnedTupleGo_zip (s := { s with heap := h', toks := tk }) z' fun h'' z'' sb => ?_⟩
    have hT2 : h''.get? s.heap.objs.size = some { cls := .type "tuple", data := .seq #[u, u2] } := (sb.2 _ (Nat.ne_of_gt hzl)).trans hT
    have new : ObjOk X.prog X.w (upd H s.heap.objs.size (.tup [x, y])) h'' s.heap.objs.size (.tup [x, y]) :=
      ⟨by show 2 ≤ sizeLine; decide, [u, u2], .cons ru (.cons ru2 .nil), ⟨_, hT2, rfl, _, rfl⟩⟩
    have I1 : Inv X pins σ (upd H s.heap.objs.size (.tup [x, y])) { s with heap := h'', toks := tk } :=
      I.turnedNew (ch := [z, TI, TO, i1, i2]) (fun c o hb q => (sb.2 c (fun q' => hb (by simp [q']))).trans (hk c o (fun q' => hb (by simp [q'])) (fun q' => hb (by simp [q'])) (fun q' => hb (by simp [q'])) (fun q' => hb (by simp [q'])) q)) hf (Nat.le_refl _) new
    refine ⟨.ref s.heap.objs.size, _, I1, rfl, ⟨_, x, y, rfl, I.hok.fresh (Nat.le_refl _), rfl, fun l hl => by rw [I.tuple_inj hl hqx]; exact hx, fun l hl => by rw [I.list_inj hl hqy]; exact hy⟩, ⟨z'', ?_, ⟨u, u2, ?_⟩, ?_, ?_⟩, fun c hcm => ?_⟩
    · exact (sb.2 _ D.TIz).trans (hk _ _ D.TIz D.TITO D.TIi1 D.TIi2 hTI)
    · exact (sb.2 _ D.TOz).trans TO'
    · exact h1'.at fun o q => (sb.2 _ D.zi1.symm).trans q
    · exact h2'.at fun o q => (sb.2 _ D.zi2.symm).trans q
    · have hlt : c < s.heap.objs.size := by
        have e' : c = z ∨ c = TI ∨ c = TO ∨ c = i1 ∨ c = i2 := by simpa using hcm
        rcases e' with q | q | q | q | q
        · rw [q]; exact hzl
        · rw [q]; exact Heap.lt_size hTI
        · rw [q]; exact Heap.lt_size hTO
        · rw [q]; obtain ⟨_, e1, _⟩ := h1; exact Heap.lt_size e1
        · rw [q]; obtain ⟨_, e2, _⟩ := h2; exact Heap.lt_size e2
      rw [upd_ne (Nat.ne_of_lt hlt)]
      exact (hf c hcm).1
  done := by
    intro X hP hw hK hc i pins s σ H E I hf st hg
    subst hP hw hK
    obtain ⟨hz, hTI, ⟨x0, y0, hTO⟩, h1, h2⟩ := st
    obtain ⟨xs, ys, hqx, hqy, hend1, hend2⟩ := hg
    obtain ⟨its, rv, p, _⟩ := I.tuple hqx
    obtain ⟨its2, rv2, p2, _⟩ := I.list hqy
    have l1 := rv.length
    have l2 := rv2.length
    exact wpAny_pyNext_zipD2_end (i := i) D (Draws.tuple (A := X.A.in1) (I.ok.hd hc) i1 a h1a its.toArray) (Draws.list (A := X.A.in1) (I.ok.hd hc) i2 b h2b its2.toArray) hz hTI hTO ⟨h1, p⟩ ⟨h2, p2.isList⟩ (by simp; omega) (by simp; omega) (.inl (by simp; omega)) fun h' tk hk =>
      ⟨rfl, I.turnedL (t' := tk) (ch := [z, TI, TO, i1, i2]) (fun c o hb q => hk c o (fun q' => hb (by simp [q'])) (fun q' => hb (by simp [q'])) (fun q' => hb (by simp [q'])) (fun q' => hb (by simp [q'])) q) hf⟩
  self := fun A i s Q E st h => wpAny_pyIter_zip st.1 h
theorem nin2 {c x y : Nat} (h1 : c ≠ x) (h2 : c ≠ y) : c ∉ ([x, y] : List Addr) := fun h => by
  rcases List.mem_cons.mp h with q | q
  · exact h1 q
  · exact h2 (List.mem_singleton.mp q)
theorem zsep (N a b : Nat) (h1 : a < N) (h2 : b < N) : ZipSep2 (N + 4) (N + 2) (N + 3) N (N + 1) [N, a] [N + 1, b] :=
  { TIz := show (N + 2 : Nat) ≠ N + 4 by omega, TOz := show (N + 3 : Nat) ≠ N + 4 by omega, TITO := show (N + 2 : Nat) ≠ N + 3 by omega,
    TIi1 := show (N + 2 : Nat) ≠ N by omega, mem1 := List.mem_cons_self .., zf1 := nin2 (by omega) (by omega), Tf1 := nin2 (by omega) (by omega),
    TIi2 := show (N + 2 : Nat) ≠ N + 1 by omega, mem2 := List.mem_cons_self .., zf2 := nin2 (by omega) (by omega), Tf2 := nin2 (by omega) (by omega),
    sep1_2 := nin2 (by omega) (by omega), sep2_1 := nin2 (by omega) (by omega) }
def iZipX (K : PySem.W.Frag) (ta : TA) : TI := fun σ H R => ta σ H fun vs H1 => ∃ a b xs ys, vs = [.ref a, .ref b] ∧ SqT K H1 a xs ∧ SqL K H1 b ys ∧ R (ItzX K a b) H1
theorem pi_zipX {X : Cx} {e e2 : Expr} {ta : TA} {p pos tpos : Pos} {elts : List Expr} {kk : Nat} (hg : Gl X "zip") (hm : X.mg "zip" = none) (ha : PA X [e, e2] ta)
    (hs : starEach [e, e2] X.env = (false, eval e X.env) :: starEach [e2] X.env := by rfl) (hpl : (backTo pos (starEach [e2] X.env)).any (·.1) = false := by rfl) :
    PI X (.Tuple elts kk tpos) (.Call (.Name "zip" p) [e, e2] [] pos) (iZipX X.K ta) := by
  refine ⟨fun pins s σ H R I h => ?_⟩
  refine Call_ (ld_blt I hg hm PyProof.Rows.boot_zip (PyProof.Rows.callWith_type1 (thn (ha.run pos pins s σ H _ I h) fun us s1 ⟨vs, H1, I1, r1, q1⟩ => ?_) hs hpl))
  obtain ⟨a, b, xs, ys, ex, hqx, hqy, q⟩ := q1
  subst ex
  cases r1 with
  | cons r rr =>
    cases rr with
    | cons r' rr =>
      cases rr
      cases r
      cases r'
      have fresh5 : ∀ c, c ∈ [s1.heap.objs.size + 4, s1.heap.objs.size + 2, s1.heap.objs.size + 3, s1.heap.objs.size, s1.heap.objs.size + 1] → FpOk X pins H1 c := fun c hcm => by
        have e' : c = s1.heap.objs.size + 4 ∨ c = s1.heap.objs.size + 2 ∨ c = s1.heap.objs.size + 3 ∨ c = s1.heap.objs.size ∨ c = s1.heap.objs.size + 1 := by simpa using hcm
        have hle : s1.heap.objs.size ≤ c := by
          rcases e' with z | z | z | z | z
          · rw [z]; exact Nat.le_add_right _ _
          · rw [z]; exact Nat.le_add_right _ _
          · rw [z]; exact Nat.le_add_right _ _
          · rw [z]; exact Nat.le_refl _
          · rw [z]; exact Nat.le_add_right _ _
        exact I1.fpOk hle (I1.hok.fresh hle)
      obtain ⟨its, rv, p1, _⟩ := I1.tuple hqx
      obtain ⟨its2, rv2, p2, _⟩ := I1.list hqy
      obtain ⟨o1, ho1, _⟩ := id p1
      have la := Heap.lt_size ho1
      have lb := p2.lt
      refine zip_begins2 (begins_tuple a its.toArray) (begins_list b its2.toArray) (show s1.heap.IsTuple a its.toArray from p1) p2.isList fun h' hz hTI hTO h1 h2 hsz hk => wpAny_pyIter_zip hz ?_
      have I2 : Inv X pins σ H1 { s1 with heap := h' } := I1.kept (t' := s1.toks) hk
      refine ⟨s1.heap.objs.size + 4, [s1.heap.objs.size + 4, s1.heap.objs.size + 2, s1.heap.objs.size + 3, s1.heap.objs.size, s1.heap.objs.size + 1], _, _, H1, rfl, I2, turn_zipX (a := a) (b := b) (TI := s1.heap.objs.size + 2) (TO := s1.heap.objs.size + 3) (i1 := s1.heap.objs.size) (i2 := s1.heap.objs.size + 1) (zsep _ a b la lb) (Nat.ne_of_lt la) (Nat.ne_of_lt (Nat.lt_succ_of_lt lb)), ⟨hz, hTI, ⟨_, _, hTO⟩, ⟨_, h1, rfl, rfl⟩, ⟨_, h2, rfl, rfl⟩⟩, fresh5, q⟩
theorem walk_zipXE {K : PySem.W.Frag} {H : Hp} {a b : Addr} {xs ys : List V} (hn : xs.length = ys.length) (hx : SqT K H a xs) (hy : SqL K H b ys) : Walk (ItzX K a b) xs.length (fun H' => Ex H H') (YPair (fun i => xs[i]?) (fun i => ys[i]?)) := by
  refine ⟨fun i _ hi e => ?_, fun _ e => ⟨xs, ys, Evl.ex_t e hx, Evl.ex_l e hy, rfl, by omega⟩, fun i H' v H'' _ e y => ?_⟩
  · have h2 : i < ys.length := by omega
    exact ⟨xs, ys, xs[i], ys[i], Evl.ex_t e hx, Evl.ex_l e hy, by simp [hi], by simp [h2]⟩
  · obtain ⟨T, x, z, h1, h2, h3, h4, h5⟩ := y
    exact ⟨T, x, z, h1, h2, h3, h4 xs (Evl.ex_t e hx), h5 ys (Evl.ex_l e hy)⟩
end K74
namespace K74
open PySem PySem.Spec PyProof.Rows L2
/-! ### rows: new ones, their methods -/
theorem RowIn.ex {H H' : Hp} {w s b : V} {ws : List Int} {v : List Rat} {wall : Bool} (h : RowIn H w s b ws v wall) (e : Ex H H') : RowIn H' w s b ws v wall := by
  obtain ⟨aw, as, xs, h1, h2, h3, h4, h5, h6⟩ := h
  exact ⟨aw, as, xs, h1, h2.ex e, h3, h4.ex e, h5.ex e, h6⟩
/-- the answer is a row -/
def RetRow (C : Addr) (ws : List Int) (v : List Rat) (wall : Bool) (H : Hp) (Q : VK) : Prop := ∀ x H', Ex H H' → RowAt C H' x ws v wall → Q x H'
theorem row_new {C : Addr} {w s b : V} {ws : List Int} {v : List Rat} {wall : Bool} {H : Hp} {Q : VK} {E : XK} (hin : RowIn H w s b ws v wall) (k : RetRow C ws v wall H Q) :
    ∀ x dx, H x = none → H dx = none → dx ≠ x → spRowInit C (.ref x :: ([w, s, b] ++ [])) (upd (upd H dx (.own x)) x (.ins C dx [])) (fun v H2 => v = .non ∧ Q (.ref x) H2) E := by
  intro x dx hx hdx hne
  have e1 : Ex H (upd H dx (.own x)) := Evl.Ex.new hdx
  have hx1 : (upd H dx (.own x)) x = none := by rw [upd_ne (Ne.symm hne)]; exact hx
  have e2 : Ex H (upd (upd H dx (.own x)) x (.ins C dx [])) := e1.trans (Evl.Ex.new hx1)
  refine ⟨_, _, _, _, rfl, x, dx, ws, v, wall, rfl, upd_same, hin.ex e2, fun H' fs ea hf hr => ⟨rfl, k _ _ ?_ ⟨x, dx, fs, rfl, hf, hr⟩⟩⟩
  intro b o hb
  refine ea b o (fun z => ?_) (e2 _ _ hb)
  rw [z, hx] at hb
  cases hb
theorem Bd.neg' {m : Nat} {q : Rat} (h : Bd m q) : Bd m (0 - q) := by
  have : (0 : Rat) - q = -q := by grind
  rw [this]
  exact h.neg
abbrev s_Row_len : Stmt := inClass (topS 36) 1
theorem sc_Row_len : FnScope ["self"] ["self"] (defScope s_Row_len) := ⟨rfl, rfl, rfl, by decide +kernel, rfl, by decide +kernel, by decide +kernel⟩
def spRowLen (C : Addr) : Sp := sp1 fun x H Q => ∃ ws v wall, RowAt C H x ws v wall ∧ RetV (.int (ws.length : Int)) H Q
theorem ok_Row_len {c : Cn} {C : Addr} (T : Tx c.mg) (RC : RwC c C) (D : Dm c C "__len__" "Row.__len__" s_Row_len ["self"]) : Mn c C CX0 1 "__len__" ["self"] (spRowLen C) := by
  have sc := sc_Row_len
  refine D.ok sc len1 (fun f cdv A outer s H vs Q E hr h => ?_)
  refine ⟨_, (pss_one (ps_ret (pe_callB call_len_seq (by rfl) T.len PySem.boot_len (pa_cons (pe_fld (pv 0) rfl) pa_nil)))), ?_⟩
  obtain ⟨_, rfl, ws, v, wall, ⟨a, dx, fs, rfl, ha, hf⟩, k⟩ := h
  obtain ⟨aw, w1, w2⟩ := hf.w
  refine ⟨_, rfl, a, C, dx, _, _, rfl, ha, RC.cl, RC.w, w1, aw, _, rfl, .inr (SqT.of w2), ?_⟩
  have := k _ Ex.rfl
  rw [List.length_map]
  exact this
/-- the speeds that Row may get -/
def SpIn (H : Hp) (s : V) (n : Nat) (v : List Rat) : Prop := ∃ (as : Addr) (xs : List V), s = .ref as ∧ Sx H as xs ∧ NKs H (v.map qK) xs ∧ v.length = n ∧ ∃ m, m ≤ 20 ∧ ∀ q ∈ v, Bd m q
theorem SpIn.ex {H H' : Hp} {s : V} {n : Nat} {v : List Rat} (h : SpIn H s n v) (e : Ex H H') : SpIn H' s n v := by
  obtain ⟨as, xs, h1, h2, h3, h4⟩ := h
  exact ⟨as, xs, h1, h2.ex e, h3.ex e, h4⟩
abbrev s_Row_with_speeds : Stmt := inClass (topS 36) 3
theorem sc_Row_with_speeds : FnScope ["self", "speeds"] ["self", "speeds"] (defScope s_Row_with_speeds) := ⟨rfl, rfl, rfl, by decide +kernel, rfl, by decide +kernel, by decide +kernel⟩
def spWith (C : Addr) : Sp := sp2 fun x s H Q => ∃ ws v0 v wall, RowAt C H x ws v0 wall ∧ Wk ws wall ∧ SpIn H s ws.length v ∧ RetRow C ws v wall H Q
theorem ok_Row_with_speeds {c : Cn} {C : Addr} (RC : RwC c C) (D : Dm c C "with_speeds" "Row.with_speeds" s_Row_with_speeds ["self", "speeds"]) (g_Row : Nn c C 5 "Row" ["self", "weights", "speeds", "wall"] (spRowInit C)) :
    Mn c C CX0 7 "with_speeds" ["self", "speeds"] (spWith C) := by
  have sc := sc_Row_with_speeds
  refine D.ok sc len2 (fun f cdv A outer s H vs Q E hr h => ?_)
  refine ⟨_, (pss_one (ps_ret (pe_nn g_Row (hr.mono (by decide)) rfl (pa_cons (pe_fld (pv 0) rfl) (pa_cons (pv 1) (pa_cons (pe_fld (pv 0) rfl) pa_nil)))))), ?_⟩
  obtain ⟨_, _, rfl, ws, v0, v, wall, ⟨a, dx, fs, rfl, ha, hf⟩, W, ⟨as, xs, rfl, hs, hv, hl, hb⟩, k⟩ := h
  obtain ⟨aw, w1, w2⟩ := hf.w
  refine ⟨_, rfl, a, C, dx, _, _, rfl, ha, RC.cl, RC.w, w1, _, rfl, _, rfl, a, C, dx, _, _, rfl, ha, RC.cl, RC.b, hf.b, ?_⟩
  exact row_new ⟨aw, as, xs, rfl, .inr w2, rfl, hs, hv, rfl, W, hl, hb⟩ k
abbrev s_Row_turned : Stmt := inClass (topS 36) 4
theorem sc_Row_turned : FnScope ["self", "speed"] ["self"] (defScope s_Row_turned) := ⟨rfl, rfl, rfl, by decide +kernel, rfl, by decide +kernel, by decide +kernel⟩
def spTurned (C : Addr) : Sp := sp1 fun x H Q => ∃ ws v wall, RowAt C H x ws v wall ∧ Wk ws wall ∧ v.length = ws.length ∧ (∃ m, m ≤ 20 ∧ ∀ q ∈ v, Bd m q) ∧ RetRow C ws (v.map fun q => 0 - q) wall H Q
theorem ok_Row_turned {c : Cn} {C : Addr} (RC : RwC c C) (D : Dm c C "turned" "Row.turned" s_Row_turned ["self"]) (g_Row : Nn c C 5 "Row" ["self", "weights", "speeds", "wall"] (spRowInit C)) (g_minus : Kn c CX0 4 "minus" ["one", "other"] spMinus) :
    Mn c C CX0 7 "turned" ["self"] (spTurned C) := by
  have sc := sc_Row_turned
  refine D.ok sc len1 (fun f cdv A outer s H vs Q E hr h => ?_)
  refine ⟨_, (pss_one (ps_ret (pe_nn g_Row (hr.mono (by decide)) rfl (pa_cons (pe_fld (pv 0) rfl) (pa_cons (pe_lc (own := [("speed", 1)]) (g := gName 1) (tt := tYes) rfl sc.nd (pi_sq (pe_fld (pv 0) rfl)) (blkOk_by (by kernel_rfl)) (fun _ _ _ _ _ => (pg_name (i := 1) sc.nd rfl (.inl rfl))) (fun _ _ _ _ _ => pts_nil) (fun _ _ _ _ _ => (pe_kn g_minus (hr.mono (by decide)) rfl (pa_cons pe_int (pa_cons (pv 1) pa_nil))))) (pa_cons (pe_fld (pv 0) rfl) pa_nil)))))), ?_⟩
  obtain ⟨_, rfl, ws, v, wall, ⟨a, dx, fs, rfl, ha, hf⟩, W, hl, ⟨m, hm, hb⟩, k⟩ := h
  obtain ⟨aw, w1, w2⟩ := hf.w
  obtain ⟨as, xs, s1, s2, s3⟩ := hf.s
  have hxl : xs.length = v.length := by rw [s3.len, List.length_map]
  have hn := W.n
  refine ⟨_, rfl, a, C, dx, _, _, rfl, ha, RC.cl, RC.w, w1, ?_⟩
  refine ⟨_, rfl, a, C, dx, _, _, rfl, ha, RC.cl, RC.s, s1, iSq_go (.t s2) fun J w => ?_⟩
  refine lc_name (Qd := fun D H' => _) w grow_at (v.map fun q => qK (0 - q)) (by rw [List.length_map, hxl]) (by omega) (by intro _; rfl) (fun i x kk H1 H' hk e1 e2 y Q' q => ?_) (fun D ys H' hD e hx hys => ?_)
  · obtain ⟨rfl, hx⟩ := y
    rw [List.getElem?_map] at hk
    cases hvi : v[i]? with
    | none => rw [hvi] at hk; cases hk
    | some r =>
      rw [hvi] at hk
      cases hk
      obtain ⟨x', hx', nx⟩ := NKs.get (i := i) (k := qK r) s3 (by rw [List.getElem?_map, hvi]; rfl)
      rw [hx] at hx'
      cases hx'
      have br := hb r (List.mem_of_getElem? hvi)
      exact ⟨_, rfl, _, _, rfl, 0, r, isR_int 0, isR_q (nx.ex e1) (br.sm (by omega)), (Bd.zero 0).sm (by omega), br.sm (by omega), fun v2 H2 e3 hv2 => q _ _ e3 hv2⟩
  · refine ⟨_, rfl, a, C, dx, _, _, rfl, e _ _ ha, RC.cl, RC.b, hf.b, ?_⟩
    refine row_new ⟨aw, D, ys, rfl, .inr (e _ _ w2), rfl, .inl hx, (by rw [List.map_map]; exact hys), rfl, W, by rw [List.length_map]; exact hl, m, hm, fun q hq => ?_⟩ fun x H2 e2 hr => k _ _ (e.trans e2) hr
    obtain ⟨r, hr, rfl⟩ := List.mem_map.mp hq
    exact (hb r hr).neg'
/-! ### checks -/
abbrev s_check_narrow : Stmt := topS 37
theorem sc_check_narrow : FnScope ["row"] ["row"] (defScope s_check_narrow) := ⟨rfl, rfl, rfl, by decide +kernel, rfl, by decide +kernel, by decide +kernel⟩
def spNarrow (C : Addr) : Sp := sp1 fun x H Q => ∃ ws v wall, RowAt C H x ws v wall ∧ Wk ws wall ∧ RetV .non H Q
theorem ok_check_narrow {c : Cn} {C : Addr} (RC : RwC c C) (D : Dn c "check_narrow" s_check_narrow ["row"]) : Kn c CX0 1 "check_narrow" ["row"] (spNarrow C) := by
  have sc := sc_check_narrow
  refine D.ok sc len1 (fun f cdv A outer s H vs Q E hr h => ?_)
  refine ⟨_, (pss_one (ps_if (pt_cmpR op_gt (pe_fld (pv 0) rfl) pe_int (nomark _)) (pss_one ps_never)
    pss_nil)), ?_⟩
  obtain ⟨_, rfl, ws, v, wall, ⟨a, dx, fs, rfl, ha, hf⟩, W, k⟩ := h
  have hg := W.g
  refine ⟨_, rfl, a, C, dx, _, _, rfl, ha, RC.cl, RC.g, hf.g, _, _, rfl, rfl, _, rfl, ite_f (decide_eq_false (by omega)) ?_⟩
  exact k _ Ex.rfl
theorem inV_ints (p : Int) (ps : List Int) (h : p ∈ ps) : inV (.int p) (ps.map V.int) = true := by
  unfold inV
  rw [List.any_eq_true]
  exact ⟨.int p, List.mem_map_of_mem h, by simp [eqV]⟩
theorem flat_ints (ps : List Int) : (ps.map V.int).all flatV = true := by
  rw [List.all_eq_true]
  intro x hx
  obtain ⟨i, _, rfl⟩ := List.mem_map.mp hx
  rfl
abbrev s_check_pair : Stmt := topS 26
theorem sc_check_pair : FnScope ["row", "pair"] ["row", "pair"] (defScope s_check_pair) := ⟨rfl, rfl, rfl, by decide +kernel, rfl, by decide +kernel, by decide +kernel⟩
def spPair (C : Addr) : Sp := sp2 fun x p H Q => ∃ ws v wall pi, RowAt C H x ws v wall ∧ p = .int pi ∧ pi ∈ pairsOf ws.length wall ∧ RetV .non H Q
theorem ok_check_pair {c : Cn} {C : Addr} (RC : RwC c C) (D : Dn c "check_pair" s_check_pair ["row", "pair"]) (g_is_whole : Kn c CX0 1 "is_whole" ["thing"] spWhole) : Kn c CX0 2 "check_pair" ["row", "pair"] (spPair C) := by
  have sc := sc_check_pair
  refine D.ok sc len2 (fun f cdv A outer s H vs Q E hr h => ?_)
  refine ⟨_, (pss_one (ps_if (PW.pt (pw_or (pt_not (pt_val (pe_kn g_is_whole (hr.mono (by decide)) rfl (pa_cons (pv 1) pa_nil)))) (pw_or1 (pt_cmpR op_notIn_seq (pv 1) (pe_fld (pv 0) rfl) (by rfl))))) (pss_one ps_never)
    pss_nil)), ?_⟩
  obtain ⟨_, _, rfl, ws, v, wall, pi, ⟨a, dx, fs, rfl, ha, hf⟩, rfl, hp, k⟩ := h
  obtain ⟨ap, p1, p2⟩ := hf.p
  refine ⟨_, rfl, _, rfl, pi, rfl, fun H1 e1 => ⟨_, rfl, ite_f rfl ?_⟩⟩
  refine ⟨_, rfl, _, rfl, a, C, dx, _, _, rfl, e1 _ _ ha, RC.cl, RC.p, p1, ap, _, rfl, .inr (SqT.of (e1 _ _ p2)), rfl, flat_ints _, _, rfl, ?_⟩
  refine ite_f (by show (!inV _ _) = false; rw [inV_ints _ _ hp]; rfl) (k _ e1)
abbrev s_check_word : Stmt := topS 27
theorem sc_check_word : FnScope ["row", "word", "pair"] ["row", "word"] (defScope s_check_word) := ⟨rfl, rfl, rfl, by decide +kernel, rfl, by decide +kernel, by decide +kernel⟩
/-- a word that check_word lets pass -/
def WdIn (H : Hp) (x : V) (ps : List Int) (word : List Int) : Prop := ∃ a, x = .ref a ∧ Sx H a (word.map V.int) ∧ word.length ≤ 800 ∧ ∀ p ∈ word, p ∈ ps
theorem WdIn.ex {H H' : Hp} {x : V} {ps word : List Int} (h : WdIn H x ps word) (e : Ex H H') : WdIn H' x ps word := by
  obtain ⟨a, h1, h2, h3⟩ := h
  exact ⟨a, h1, h2.ex e, h3⟩
/-- the answer is a tuple of these -/
def RetI (ns : List Int) (H : Hp) (Q : VK) : Prop := ∀ l H', Ex H H' → H' l = some (.tup (ns.map V.int)) → Q (.ref l) H'
def spWord (C : Addr) : Sp := sp2 fun x w H Q => ∃ ws v wall word, RowAt C H x ws v wall ∧ WdIn H w (pairsOf ws.length wall) word ∧ RetI word H Q
theorem ok_check_word {c : Cn} {C : Addr} (T : Tx c.mg) (M : Tm c.mg) (D : Dn c "check_word" s_check_word ["row", "word"]) (g_check_pair : Kn c CX0 2 "check_pair" ["row", "pair"] (spPair C)) : Kn c CX0 3 "check_word" ["row", "word"] (spWord C) := by
  have sc := sc_check_word
  refine D.ok sc len2 (fun f cdv A outer s H vs Q E hr h => ?_)
  refine ⟨_, (pss_cons (ps_if (PW.pt (pw_or (pt_not (pt_val (pe_callB call_isiT (by rfl) T.isinstance (by decide +kernel) (pa_cons (pv 1) (pa_cons (pe_tup (pa_cons (ty_list T) (pa_cons (ty_tuple T) pa_nil))) pa_nil))))) (pw_or1 (pt_cmpR op_gt (pe_callB call_len_seq (by rfl) T.len PySem.boot_len (pa_cons (pv 1) pa_nil)) (pe_most M.word) (nomark _))))) (pss_one ps_never)
    pss_nil)
  (pss_cons (ps_for PassesOwn.never rfl (pi_sq (pv 1)) (pg_name (i := 2) sc.nd rfl (.inl rfl))
    (pss_one (ps_expr (pe_kn g_check_pair (hr.mono (by decide)) rfl (pa_cons (pv 0) (pa_cons (pv 2) pa_nil))))))
  (pss_one (ps_ret (pe_callTy call_tupX (by rfl) T.tuple (by decide +kernel) (pa_cons (pv 1) pa_nil)))))), ?_⟩
  obtain ⟨x, _, rfl, ws, v, wall, word, hrow, ⟨aw, rfl, hs, hl, hp⟩, k⟩ := h
  refine ⟨_, rfl, (by show 2 ≤ sizeLine; decide), fun t1 ht1 => ?_⟩
  have e1 := Evl.Ex.new (o := .tup [V.ty "list", V.ty "tuple"]) ht1
  obtain ⟨ty, htx, hk⟩ := isi_lt (K := c.K) (hs.ex e1)
  refine ⟨_, _, _, _, _, true, rfl, upd_same, cls_lt, htx, hk, _, rfl, ite_f rfl ?_⟩
  refine ⟨_, rfl, aw, _, rfl, (hs.ex e1).sq, _, _, rfl, rfl, _, rfl, ?_⟩
  refine ite_f (decide_eq_false (by rw [List.length_map]; omega)) ?_
  generalize upd H t1 (.tup [V.ty "list", V.ty "tuple"]) = H1 at *
  refine ⟨_, rfl, iSq_go (hs.ex e1).sq fun J w => ?_⟩
  refine for_it w (fun i σ' H' => Ex H1 H' ∧ ∃ y, σ' = [some x, some (.ref aw), y]) ⟨Ex.rfl, _, rfl⟩ (fun i σ' H' _ p => p.1) (fun i z σ' H' H'' hi p y => ?_) (fun σ' H' p => ?_)
  · obtain ⟨e3, y2, rfl⟩ := p
    obtain ⟨rfl, hz⟩ := y
    rw [List.getElem?_map] at hz
    cases hwi : word[i]? with
    | none => rw [hwi] at hz; cases hz
    | some pi =>
      rw [hwi] at hz
      cases hz
      exact ⟨_, rfl, _, rfl, _, _, rfl, ws, v, wall, pi, (hrow.ex e1).ex e3, rfl, hp _ (List.mem_of_getElem? hwi), fun H4 e4 => ⟨e3.trans e4, _, rfl⟩⟩
  · obtain ⟨e3, y2, rfl⟩ := p
    exact ⟨_, rfl, aw, _, rfl, (hs.ex e1).ex e3, fun l H4 e4 h4 => k l H4 ((e1.trans e3).trans e4) h4⟩
end K74
namespace K74
open PySem PySem.Spec PyProof.Rows L2
/-! ### clashes keep length and size -/
theorem clashR_len (ws : List Int) (v : List Rat) (p : Int) : (clashR ws v p).length = v.length := by
  unfold clashR
  split
  · rw [List.length_set]
  · simp only [List.length_set]
theorem afterR_len (ws : List Int) : ∀ (w : List Int) (v : List Rat), (afterR ws v w).length = v.length
  | [], _ => rfl
  | p :: w, v => by
    show (afterR ws (clashR ws v p) w).length = _
    rw [afterR_len ws w, clashR_len]
theorem clashR_bd {ws : List Int} {v : List Rat} {p : Int} {m : Nat} (hl : v.length = ws.length) (hw : ∀ x ∈ ws, 1 ≤ x ∧ x ≤ 9) (hp : PrOk ws.length p) (hb : ∀ q ∈ v, Bd m q) : ∀ q ∈ clashR ws v p, Bd (m + 1) q := by
  intro q hq
  rcases hp with ⟨rfl, hn⟩ | ⟨i, rfl, hi⟩
  · have ec : clashR ws v (-1) = v.set 0 (-(v.getD 0 0)) := if_pos rfl
    rw [ec] at hq
    rcases List.mem_or_eq_of_mem_set hq with h | h
    · exact (hb q h).mono (by omega)
    · rw [h]
      exact ((hb _ (mem_getD (by omega) 0)).neg).mono (by omega)
  · unfold clashR at hq
    rw [if_neg (by omega)] at hq
    simp only [Int.toNat_natCast] at hq
    have wa := hw _ (mem_getD (show i < ws.length by omega) 1)
    have wb := hw _ (mem_getD hi 1)
    have bx := hb _ (mem_getD (show i < v.length by omega) 0)
    have by' := hb _ (mem_getD (show i + 1 < v.length by omega) 0)
    rcases List.mem_or_eq_of_mem_set hq with h | h
    · rcases List.mem_or_eq_of_mem_set h with h | h
      · exact (hb q h).mono (by omega)
      · rw [h]
        exact bx.clash1 by' wa wb
    · rw [h]
      exact bx.clash2 by' wa wb
/-- what is known of a row's numbers -/
structure Rw (ws : List Int) (v : List Rat) (wall : Bool) (m : Nat) : Prop where
  W : Wk ws wall
  l : v.length = ws.length
  b : ∀ q ∈ v, Bd m q
theorem Rw.clash {ws : List Int} {v : List Rat} {wall : Bool} {m : Nat} {p : Int} (h : Rw ws v wall m) (hp : p ∈ pairsOf ws.length wall) : Rw ws (clashR ws v p) wall (m + 1) :=
  ⟨h.W, by rw [clashR_len]; exact h.l, clashR_bd h.l h.W.w (pairs_ok h.W.pos hp) h.b⟩
theorem Rw.after {ws : List Int} {wall : Bool} : ∀ {w : List Int} {v : List Rat} {m : Nat}, Rw ws v wall m → (∀ p ∈ w, p ∈ pairsOf ws.length wall) → Rw ws (afterR ws v w) wall (m + w.length)
  | [], _, _, h, _ => h
  | p :: w, v, m, h, hp => by
    have := Rw.after (w := w) (h.clash (hp p (by simp))) fun q hq => hp q (by simp [hq])
    rw [show m + (p :: w).length = m + 1 + w.length from by simp; omega]
    exact this
theorem Rw.sm {ws : List Int} {v : List Rat} {wall : Bool} {m : Nat} (h : Rw ws v wall m) (hm : m ≤ 100) : ∀ q ∈ v, Sm q := fun q hq => (h.b q hq).sm hm
theorem Rw.mono {ws : List Int} {v : List Rat} {wall : Bool} {m n : Nat} (h : Rw ws v wall m) (hm : m ≤ n) : Rw ws v wall n := ⟨h.W, h.l, fun q hq => (h.b q hq).mono hm⟩
/-! ### after_clash -/
abbrev s_after_clash : Stmt := topS 28
theorem sc_after_clash : FnScope ["row", "pair"] ["row", "pair"] (defScope s_after_clash) := ⟨rfl, rfl, rfl, by decide +kernel, rfl, by decide +kernel, by decide +kernel⟩
def spAfterClash (C : Addr) : Sp := sp2 fun x p H Q => ∃ ws v wall m pi, RowAt C H x ws v wall ∧ Rw ws v wall m ∧ m + 1 ≤ 20 ∧ p = .int pi ∧ pi ∈ pairsOf ws.length wall ∧ RetRow C ws (clashR ws v pi) wall H Q
theorem ok_after_clash {c : Cn} {C : Addr} (RC : RwC c C) (D : Dn c "after_clash" s_after_clash ["row", "pair"]) (g_check_pair : Kn c CX0 2 "check_pair" ["row", "pair"] (spPair C)) (g_clashed : Kn c CX0 5 "clashed" ["weights", "rates", "pair"] (spClashed c.K))
    (g_with_speeds : Mn c C CX0 7 "with_speeds" ["self", "speeds"] (spWith C)) : Kn c CX0 8 "after_clash" ["row", "pair"] (spAfterClash C) := by
  have sc := sc_after_clash
  refine D.ok sc len2 (fun f cdv A outer s H vs Q E hr h => ?_)
  refine ⟨_, (pss_cons (ps_expr (pe_kn g_check_pair (hr.mono (by decide)) rfl (pa_cons (pv 0) (pa_cons (pv 1) pa_nil))))
    (pss_one (ps_ret (pe_mn (pv 0) RC.cl g_with_speeds (hr.mono (by decide)) (pa_cons (pe_kn g_clashed (hr.mono (by decide)) rfl (pa_cons (pe_fld (pv 0) rfl) (pa_cons (pe_fld (pv 0) rfl) (pa_cons (pv 1) pa_nil)))) pa_nil))))), ?_⟩
  obtain ⟨x, _, rfl, ws, v, wall, m, pi, hrow, R, hm, rfl, hp, k⟩ := h
  refine ⟨_, rfl, _, rfl, _, _, rfl, ws, v, wall, pi, hrow, rfl, hp, fun H1 e1 => ?_⟩
  have hrow1 := hrow.ex e1
  obtain ⟨a, dx, fs, rfl, ha, hf⟩ := id hrow1
  obtain ⟨aw, w1, w2⟩ := hf.w
  obtain ⟨as, xs, s1, s2, s3⟩ := hf.s
  refine ⟨_, rfl, a, dx, fs, rfl, ha, hf.n1, ?_⟩
  refine ⟨_, rfl, a, C, dx, _, _, rfl, ha, RC.cl, RC.w, w1, _, rfl, a, C, dx, _, _, rfl, ha, RC.cl, RC.s, s1, _, rfl, ?_⟩
  refine ⟨_, _, _, rfl, aw, as, ws, xs, v, pi, rfl, w2, rfl, .t s2, s3, rfl, R.l, R.W.w, pairs_ok R.W.pos hp, R.sm (by omega), fun p ys H2 e2 hy hys => ?_⟩
  have R2 := R.clash hp
  exact ⟨_, _, rfl, ws, v, _, wall, hrow1.ex e2, R.W, ⟨p, ys, rfl, .inl hy, hys, R2.l, m + 1, hm, R2.b⟩, fun x3 H3 e3 h3 => k x3 H3 ((e1.trans e2).trans e3) h3⟩
/-! ### after_word -/
abbrev s_after_word : Stmt := topS 29
theorem sc_after_word : FnScope ["row", "word", "rates", "pair"] ["row", "word"] (defScope s_after_word) := ⟨rfl, rfl, rfl, by decide +kernel, rfl, by decide +kernel, by decide +kernel⟩
def spAfterWord (C : Addr) : Sp := sp2 fun x w H Q => ∃ ws v wall m word, RowAt C H x ws v wall ∧ Rw ws v wall m ∧ m + word.length ≤ 20 ∧ WdIn H w (pairsOf ws.length wall) word ∧ RetRow C ws (afterR ws v word) wall H Q
theorem take_snoc {α : Type} {l : List α} {i : Nat} {x : α} (h : l[i]? = some x) : l.take (i + 1) = l.take i ++ [x] := by rw [List.take_add_one, h]; rfl
theorem afterR_snoc (ws : List Int) (v : List Rat) (w : List Int) (p : Int) : afterR ws v (w ++ [p]) = clashR ws (afterR ws v w) p := by
  unfold afterR
  rw [List.foldl_append]
  rfl
theorem ok_after_word {c : Cn} {C : Addr} (RC : RwC c C) (D : Dn c "after_word" s_after_word ["row", "word"]) (g_check_word : Kn c CX0 3 "check_word" ["row", "word"] (spWord C)) (g_clashed : Kn c CX0 5 "clashed" ["weights", "rates", "pair"] (spClashed c.K))
    (g_with_speeds : Mn c C CX0 7 "with_speeds" ["self", "speeds"] (spWith C)) : Kn c CX0 8 "after_word" ["row", "word"] (spAfterWord C) := by
  have sc := sc_after_word
  refine D.ok sc len2 (fun f cdv A outer s H vs Q E hr h => ?_)
  refine ⟨_, (pss_cons (ps_set (i := 2) sc.nd rfl (.inl rfl) (pe_fld (pv 0) rfl))
  (pss_cons (ps_for PassesOwn.never rfl (pi_sq (pe_kn g_check_word (hr.mono (by decide)) rfl (pa_cons (pv 0) (pa_cons (pv 1) pa_nil)))) (pg_name (i := 3) sc.nd rfl (.inl rfl))
    (pss_one (ps_set (i := 2) sc.nd rfl (.inl rfl) (pe_kn g_clashed (hr.mono (by decide)) rfl (pa_cons (pe_fld (pv 0) rfl) (pa_cons (pv 2) (pa_cons (pv 3) pa_nil)))))))
  (pss_one (ps_ret (pe_mn (pv 0) RC.cl g_with_speeds (hr.mono (by decide)) (pa_cons (pv 2) pa_nil)))))), ?_⟩
  obtain ⟨x, w, rfl, ws, v, wall, m, word, hrow, R, hm, hw, k⟩ := h
  obtain ⟨a, dx, fs, rfl, ha, hf⟩ := id hrow
  obtain ⟨aw, w1, w2⟩ := hf.w
  obtain ⟨as, xs, s1, s2, s3⟩ := hf.s
  refine ⟨_, rfl, a, C, dx, _, _, rfl, ha, RC.cl, RC.s, s1, ?_⟩
  refine ⟨_, rfl, _, rfl, _, _, rfl, ws, v, wall, word, hrow, hw, fun l H1 e1 hl => iSq_go (.t hl) fun J wk => ?_⟩
  obtain ⟨_, _, _, _, hpw⟩ := hw
  refine for_it wk (fun i σ' H' => ∃ (ar : Addr) (ys : List V) (y : Option V), σ' = [some (.ref a), some w, some (.ref ar), y] ∧ Ex H1 H' ∧ Sx H' ar ys ∧ NKs H' ((afterR ws v (word.take i)).map qK) ys) ⟨as, xs, none, rfl, Ex.rfl, .inr (e1 _ _ s2), s3.ex e1⟩
    (fun i σ' H' _ p => by obtain ⟨_, _, _, _, p, _⟩ := p; exact p) (fun i z σ' H' H'' hi p y => ?_) (fun σ' H' p => ?_)
  · obtain ⟨ar, ys, y3, rfl, e, hS, hN⟩ := p
    obtain ⟨rfl, hz⟩ := y
    rw [List.getElem?_map] at hz
    cases hwi : word[i]? with
    | none => rw [hwi] at hz; cases hz
    | some pi =>
      rw [hwi] at hz
      cases hz
      have hpi := hpw pi (List.mem_of_getElem? hwi)
      have E := e1.trans e
      have hi' : i < word.length := by rw [List.length_map] at hi; exact hi
      have Ri := R.after (w := word.take i) fun q hq => hpw q (List.mem_of_mem_take hq)
      have htl : (word.take i).length = i := by rw [List.length_take]; omega
      refine ⟨_, rfl, a, C, dx, _, _, rfl, E _ _ ha, RC.cl, RC.w, w1, _, rfl, _, rfl, ?_⟩
      refine ⟨_, _, _, rfl, aw, ar, ws, ys, _, pi, rfl, E _ _ w2, rfl, hS.sq, hN, rfl, Ri.l, R.W.w, pairs_ok R.W.pos hpi, Ri.sm (by omega), fun p zs H2 e2 hz hzs => ?_⟩
      refine ⟨p, zs, _, rfl, e.trans e2, .inl hz, ?_⟩
      rw [take_snoc hwi, afterR_snoc]
      exact hzs
  · obtain ⟨ar, ys, y3, rfl, e, hS, hN⟩ := p
    have E := e1.trans e
    rw [List.length_map, List.take_length] at hN
    have Re := R.after hpw
    refine ⟨_, rfl, a, dx, fs, rfl, E _ _ ha, hf.n1, _, rfl, ?_⟩
    exact ⟨_, _, rfl, ws, v, _, wall, hrow.ex E, R.W, ⟨ar, ys, rfl, hS, hN, Re.l, _, hm, Re.b⟩, fun x3 H3 e3 h3 => k x3 H3 (E.trans e3) h3⟩
/-! ### coming_pairs -/
abbrev s_coming_pairs : Stmt := topS 30
theorem sc_coming_pairs : FnScope ["row", "pair"] ["row"] (defScope s_coming_pairs) := ⟨rfl, rfl, rfl, by decide +kernel, rfl, by decide +kernel, by decide +kernel⟩
def spComing (C : Addr) : Sp := sp1 fun x H Q => ∃ ws v wall m, RowAt C H x ws v wall ∧ Rw ws v wall m ∧ m ≤ 20 ∧ RetI (comingR ws.length wall v) H Q
def numP (p : Int → Bool) : NestedKey → Bool
  | .num i => p i
  | _ => false
theorem numP_filter (p : Int → Bool) (l : List Int) : (l.map NestedKey.num).filter (numP p) = (l.filter p).map .num := by
  induction l with
  | nil => rfl
  | cons a l ih =>
    rw [List.map_cons, List.filter_cons, List.filter_cons]
    by_cases h : p a = true
    · rw [if_pos h, if_pos (show numP p (.num a) = true from h), ih]; rfl
    · rw [if_neg h, if_neg (show ¬ numP p (.num a) = true from h), ih]
theorem num_pos' {q : Rat} : 0 < q.num ↔ 0 < q := by
  rw [Rat.lt_iff]
  simp
theorem num_pos_iff (q : Rat) : decide ((0 : Int) < q.num) = decide (0 < q) := by rw [decide_eq_decide]; exact num_pos'
theorem num_le_iff (q : Rat) : (q.num ≤ 0) ↔ (q ≤ 0) := by
  have h : 0 < q.num ↔ 0 < q := num_pos'
  constructor
  · intro h1
    exact Rat.not_lt.mp fun z => by have := h.mpr z; omega
  · intro h1
    have : ¬ 0 < q.num := fun z => Rat.not_lt.mpr h1 (h.mp z)
    omega
theorem ok_coming_pairs {c : Cn} {C : Addr} (T : Tx c.mg) (RC : RwC c C) (D : Dn c "coming_pairs" s_coming_pairs ["row"]) (g_closing_of : Kn c CX0 5 "closing_of" ["rates", "pair"] (spClosing c.K)) : Kn c CX0 6 "coming_pairs" ["row"] (spComing C) := by
  have sc := sc_coming_pairs
  refine D.ok sc len1 (fun f cdv A outer s H vs Q E hr h => ?_)
  refine ⟨_, (pss_one (ps_ret (pe_callTy call_tupX (by rfl) T.tuple (by decide +kernel) (pa_cons (pe_lc (own := [("pair", 1)]) (g := gName 1) (tt := tTest (tOp _ (tOp (rIxT c.K) (tCall _ _ _ (tCons (tFld c.K _ _) _)) _) _)) rfl sc.nd (pi_sq (pe_fld (pv 0) rfl)) (blkOk_by (by kernel_rfl)) (fun _ _ _ _ _ => (pg_name (i := 1) sc.nd rfl (.inl rfl))) (fun _ _ _ _ _ => (pts_one (pt_cmpR op_gt (pe_ix ix_tup (pe_kn g_closing_of (hr.mono (by decide)) rfl (pa_cons (pe_fld (pv 0) rfl) (pa_cons (pv 1) pa_nil))) pe_int (fun _ _ => rfl)) pe_int (nomark _)))) (fun _ _ _ _ _ => (pv 1))) pa_nil)))), ?_⟩
  obtain ⟨_, rfl, ws, v, wall, m, ⟨a, dx, fs, rfl, ha, hf⟩, R, hm, k⟩ := h
  obtain ⟨ap, p1, p2⟩ := hf.p
  obtain ⟨as, xs, s1, s2, s3⟩ := hf.s
  have hg := R.W.g
  refine ⟨_, rfl, a, C, dx, _, _, rfl, ha, RC.cl, RC.p, p1, iSq_go (.t p2) fun J w => ?_⟩
  refine lc_if (Qd := fun D H' => _) (ks := (pairsOf ws.length wall).map .num) (NKs.ofInts _) w (numP fun p => decide (0 < closeR v p)) (by rw [List.length_map]; omega) (by intro _; rfl) (by intro _; rfl) (fun i x kk H1 hk hx nx e1 Q' q => ?_) (fun D ys H' hD e hx hys => ?_)
  · rw [List.getElem?_map] at hk
    cases hpi : (pairsOf ws.length wall)[i]? with
    | none => rw [hpi] at hk; cases hk
    | some pi =>
      rw [hpi] at hk
      cases hk
      cases nx.num_inv
      have hp := List.mem_of_getElem? hpi
      refine ⟨_, rfl, a, C, dx, _, _, rfl, e1 _ _ ha, RC.cl, RC.s, s1, _, rfl, ?_⟩
      refine ⟨_, _, rfl, as, xs, v, pi, rfl, .t (e1 _ _ s2), s3.ex e1, rfl, by rw [R.l]; exact pairs_ok R.W.pos hp, R.sm (by omega), fun u H2 e2 hu => ?_⟩
      obtain ⟨au, rfl, hau⟩ := qK_inv hu
      refine ⟨au, _, _, _, rfl, rfl, SqT.of hau, rfl, _, _, rfl, rfl, _, rfl, ?_⟩
      have := q H2 e2
      rw [show numP (fun p => decide (0 < closeR v p)) (.num pi) = decide (0 < closeR v pi) from rfl, ← num_pos_iff] at this
      exact this
  · rw [numP_filter] at hys
    rw [hys.ints] at hx
    exact ⟨D, _, rfl, .inl hx, fun l H4 e4 h4 => k l H4 (e.trans e4) h4⟩
end K74
namespace K74
open PySem PySem.Spec PyProof.Rows L2
/-! ### rules whose reading names K -/
section
variable {X : Cx} {tg l e : Expr} {ta tl : TE} {f : Str} {pos : Pos}
def rLenS (K : PySem.W.Frag) : List V → Hp → VK → Prop := fun xs H Q => ∃ p ys, xs = [.ref p] ∧ Sq K H p ys ∧ Q (.int ys.length) H
theorem ixT (K : PySem.W.Frag) (h : X.K = K := by rfl) : IxR X (rIxT K) := h ▸ ix_tup
theorem ixS (K : PySem.W.Frag) (h : X.K = K := by rfl) : IxR X (rIxSq K) := h ▸ ix_sq
theorem lenS (K : PySem.W.Frag) (h : X.K = K := by rfl) : CallR X (.builtin "len") (rLenS K) := h ▸ call_len_seq
theorem fldK (K : PySem.W.Frag) (he : PE X e ta) (hb : attributeBase e f X.env (eval e X.env) = eval e X.env := by rfl) (h : X.K = K := by rfl) : PE X (.Attribute e f pos) (tFld K ta f) := h ▸ pe_fld he hb
theorem piS (K : PySem.W.Frag) (hl : PE X l tl) (h : X.K = K := by rfl) : PI X tg l (iSq K tl) := h ▸ pi_sq hl
end
/-! ### data: keys, the size, == -/
def rowK (r : List Rat) : NestedKey := .tup (r.map qK)
def matK (M : List (List Rat)) : NestedKey := .tup (M.map rowK)
theorem num_inj {i j : Int} (h : NestedKey.num i = NestedKey.num j) : i = j := by injection h
theorem qK_inj {p q : Rat} (h : qK p = qK q) : p = q := by
  unfold qK at h
  injection h with h
  injection h with h1 h2
  injection h2 with h2 _
  injection h1 with h1
  injection h2 with h2
  exact Rat.ext h1 (by omega)
theorem map_inj {α β : Type} {f : α → β} (hf : ∀ a b, f a = f b → a = b) : ∀ {l m : List α}, l.map f = m.map f → l = m
  | [], [], _ => rfl
  | [], _ :: _, h => by simp at h
  | _ :: _, [], h => by simp at h
  | a :: l, b :: m, h => by
    rw [List.map_cons, List.map_cons] at h
    injection h with h1 h2
    rw [hf _ _ h1, map_inj hf h2]
theorem tup_inj {ks ls : List NestedKey} (h : NestedKey.tup ks = NestedKey.tup ls) : ks = ls := by injection h
theorem rowK_inj {r s : List Rat} (h : rowK r = rowK s) : r = s := map_inj (fun _ _ => qK_inj) (tup_inj h)
theorem matK_inj {M N : List (List Rat)} (h : matK M = matK N) : M = N := map_inj (fun _ _ => rowK_inj) (tup_inj h)
theorem depthAll_le {n : Nat} : ∀ {ks : List NestedKey}, (∀ k ∈ ks, k.depth ≤ n) → NestedKey.depthAll ks ≤ n
  | [], _ => Nat.zero_le _
  | k :: ks, h => by
    have h1 := h k (by simp)
    have h2 := depthAll_le (ks := ks) fun k' hk => h k' (by simp [hk])
    simp only [NestedKey.depthAll]
    omega
theorem depth_tup {n : Nat} {ks : List NestedKey} (h : ∀ k ∈ ks, k.depth ≤ n) : (NestedKey.tup ks).depth ≤ n + 1 := by
  simp only [NestedKey.depth]
  have := depthAll_le h
  omega
theorem depth_qK (q : Rat) : (qK q).depth ≤ 1 := depth_tup fun k hk => by
  rcases List.mem_cons.mp hk with e | e
  · rw [e]; simp [NestedKey.depth]
  · rw [List.mem_singleton.mp e]; simp [NestedKey.depth]
theorem depth_rowK (r : List Rat) : (rowK r).depth ≤ 2 := depth_tup fun k hk => by
  obtain ⟨q, _, rfl⟩ := List.mem_map.mp hk
  exact depth_qK q
theorem depth_matK (M : List (List Rat)) : (matK M).depth ≤ 3 := depth_tup fun k hk => by
  obtain ⟨q, _, rfl⟩ := List.mem_map.mp hk
  exact depth_rowK q
theorem depth_ints (l : List Int) : (NestedKey.tup (l.map .num)).depth ≤ 1 := depth_tup fun k hk => by
  obtain ⟨q, _, rfl⟩ := List.mem_map.mp hk
  simp [NestedKey.depth]
mutual
theorem NK.dp {K : PySem.W.Frag} {H : Hp} : ∀ (k : NestedKey) (v : V), NK H k v → Dp K H v k.data
  | .none, _, h => by cases h; simp only [NestedKey.data]; exact .non
  | .num i, _, h => by cases h; simp only [NestedKey.data]; exact .int i
  | .text _, _, h => by cases h
  | .tup ks, _, h => by
    cases h with
    | tup h1 h2 => simp only [NestedKey.data]; exact .tup (SqT.of h1) (NKs.dp ks _ h2)
theorem NKs.dp {K : PySem.W.Frag} {H : Hp} : ∀ (ks : List NestedKey) (vs : List V), NKs H ks vs → DpAll K H vs (NestedKey.datas ks)
  | [], _, h => by cases h; simp only [NestedKey.datas]; exact .nil
  | k :: ks, _, h => by
    cases h with
    | cons h1 h2 => simp only [NestedKey.datas]; exact .cons (NK.dp k _ h1) (NKs.dp ks _ h2)
end
mutual
theorem NK.lay {H : Hp} : ∀ (k : NestedKey) (v : V), NK H k v → k.data.canLay0 = true
  | .none, _, h => by simp only [NestedKey.data, PyData.canLay0]
  | .num i, _, h => by simp only [NestedKey.data, PyData.canLay0]
  | .text _, _, h => by cases h
  | .tup ks, _, h => by
    cases h with
    | tup h1 h2 => simp only [NestedKey.data, PyData.canLay0]; exact NKs.lay ks _ h2
theorem NKs.lay {H : Hp} : ∀ (ks : List NestedKey) (vs : List V), NKs H ks vs → PyData.canLayAll0 (NestedKey.datas ks) = true
  | [], _, h => by simp only [NestedKey.datas, PyData.canLayAll0]
  | k :: ks, _, h => by
    cases h with
    | cons h1 h2 => simp only [NestedKey.datas, PyData.canLayAll0]; rw [NK.lay k _ h1, NKs.lay ks _ h2]; rfl
end
mutual
theorem data_depth : ∀ k : NestedKey, k.data.depth = k.depth
  | .none => by simp only [NestedKey.data, PyData.depth, NestedKey.depth]
  | .num i => by simp only [NestedKey.data, PyData.depth, NestedKey.depth]
  | .text _ => by simp only [NestedKey.data, PyData.depth, NestedKey.depth]
  | .tup ks => by simp only [NestedKey.data, PyData.depth, NestedKey.depth]; rw [datas_depth ks]
theorem datas_depth : ∀ ks : List NestedKey, PyData.depthAll (NestedKey.datas ks) = NestedKey.depthAll ks
  | [] => by simp only [NestedKey.datas, PyData.depthAll, NestedKey.depthAll]
  | k :: ks => by simp only [NestedKey.datas, PyData.depthAll, NestedKey.depthAll]; rw [data_depth k, datas_depth ks]
end
mutual
theorem data_eqv : ∀ k l : NestedKey, PyData.eqv k.data l.data = NestedKey.beq k l
  | .none, l => by cases l <;> simp [NestedKey.data, PyData.eqv, NestedKey.beq]
  | .num i, l => by
    cases l <;> simp only [NestedKey.data, PyData.eqv, NestedKey.beq]
    rw [Bool.eq_iff_iff]
    simp
  | .text x, l => by
    cases l <;> simp only [NestedKey.data, PyData.eqv, NestedKey.beq]
    rw [Bool.eq_iff_iff]
    simp
  | .tup ks, .tup ls => by simp only [NestedKey.data, PyData.eqv, NestedKey.beq]; exact datas_eqv ks ls
  | .tup ks, .none => by simp [NestedKey.data, PyData.eqv, NestedKey.beq]
  | .tup ks, .num _ => by simp [NestedKey.data, PyData.eqv, NestedKey.beq]
  | .tup ks, .text _ => by simp [NestedKey.data, PyData.eqv, NestedKey.beq]
theorem datas_eqv : ∀ ks ls : List NestedKey, PyData.eqvAll (NestedKey.datas ks) (NestedKey.datas ls) = NestedKey.beqAll ks ls
  | [], [] => by simp [NestedKey.datas, PyData.eqvAll, NestedKey.beqAll]
  | [], _ :: _ => by simp [NestedKey.datas, PyData.eqvAll, NestedKey.beqAll]
  | _ :: _, [] => by simp [NestedKey.datas, PyData.eqvAll, NestedKey.beqAll]
  | k :: ks, l :: ls => by simp only [NestedKey.datas, PyData.eqvAll, NestedKey.beqAll]; rw [data_eqv k l, datas_eqv ks ls]
end
theorem NK.shaped {H : Hp} {k : NestedKey} {v : V} (h : NK H k v) (hd : k.depth ≤ 60) : SeqAt.shaped k.data = true := by
  show (k.data.canLay0 && decide (k.data.depth ≤ 64)) = true
  rw [NK.lay _ _ h, data_depth, decide_eq_true (by omega)]
  rfl
section
variable {X : Cx}
/-- == of data -/
def rEqN : R2 := fun x y H Q => ∃ k l, NK H k x ∧ NK H l y ∧ k.depth ≤ 60 ∧ l.depth ≤ 60 ∧ Q (.bl (decide (k = l))) H
theorem op_eqN (hu : X.A.units + 64 < cLine) : OpR X (compareOp .Eq) rEqN := by
  intro pins s σ H x y v u Q I rx ry h
  obtain ⟨k, l, hk, hl, dk, dl, q⟩ := h
  refine op_eqD hu pins s σ H x y v u Q I rx ry ⟨k.data, l.data, NK.dp k _ hk, NK.dp l _ hl, hk.shaped dk, hl.shaped dl, ?_⟩
  rw [data_eqv, ← NestedKey.decide_eq]
  exact q
def rNeN : R2 := fun x y H Q => ∃ k l, NK H k x ∧ NK H l y ∧ k.depth ≤ 60 ∧ l.depth ≤ 60 ∧ Q (.bl (!decide (k = l))) H
theorem op_neN (hu : X.A.units + 64 < cLine) : OpR X (compareOp .NotEq) rNeN := by
  intro pins s σ H x y v u Q I rx ry h
  obtain ⟨k, l, hk, hl, dk, dl, q⟩ := h
  refine op_neD hu pins s σ H x y v u Q I rx ry ⟨k.data, l.data, NK.dp k _ hk, NK.dp l _ hl, hk.shaped dk, hl.shaped dl, ?_⟩
  rw [data_eqv, ← NestedKey.decide_eq]
  exact q
end
/-! ### lists of data in lists or tuples -/
/-- lines: each a list or a tuple of ratios -/
def LnIn (H : Hp) (M : List (List Rat)) (xs : List V) : Prop := xs.length = M.length ∧ ∀ (i : Nat) v r, xs[i]? = some v → M[i]? = some r → ∃ e ys, v = .ref e ∧ Sx H e ys ∧ NKs H (r.map qK) ys
theorem LnIn.ex {H H' : Hp} {M : List (List Rat)} {xs : List V} (h : LnIn H M xs) (e : Ex H H') : LnIn H' M xs := ⟨h.1, fun i v r h1 h2 => by
  obtain ⟨a, ys, e1, e2, e3⟩ := h.2 i v r h1 h2
  exact ⟨a, ys, e1, e2.ex e, e3.ex e⟩⟩
theorem ln_nk {H : Hp} {M : List (List Rat)} {xs : List V} (h : NKs H (M.map rowK) xs) : LnIn H M xs := by
  refine ⟨by rw [h.len, List.length_map], fun i v r h1 h2 => ?_⟩
  obtain ⟨k, hk, nk⟩ := h.got h1
  rw [List.getElem?_map, h2] at hk
  cases hk
  obtain ⟨a, ys, e1, e2, e3⟩ := nk.tup_inv
  exact ⟨a, ys, e1, .inr e2, e3⟩
end K74
namespace K74
open PySem PySem.Spec PyProof.Rows L2
/-! ### first_not_coming -/
abbrev s_first_not_coming : Stmt := topS 31
theorem sc_first_not_coming : FnScope ["row", "word", "rates", "at", "pair"] ["row", "word"] (defScope s_first_not_coming) := ⟨rfl, rfl, rfl, by decide +kernel, rfl, by decide +kernel, by decide +kernel⟩
def optV : Option Nat → V
  | none => .non
  | some k => .int (k : Int)
def spFirstNot (C : Addr) : Sp := sp2 fun x w H Q => ∃ ws v wall m word, RowAt C H x ws v wall ∧ Rw ws v wall m ∧ m + word.length ≤ 20 ∧ WdIn H w (pairsOf ws.length wall) word ∧ RetV (optV (firstNot ws v word 0)) H Q
theorem drop_at {α : Type} {l : List α} {i : Nat} {x : α} (h : l[i]? = some x) : l.drop i = x :: l.drop (i + 1) := by
  obtain ⟨hi, e⟩ := List.getElem?_eq_some_iff.mp h
  rw [List.drop_eq_getElem_cons hi, e]
theorem ok_first_not_coming {c : Cn} {C : Addr} (T : Tx c.mg) (RC : RwC c C) (D : Dn c "first_not_coming" s_first_not_coming ["row", "word"]) (g_check_word : Kn c CX0 3 "check_word" ["row", "word"] (spWord C)) (g_clashed : Kn c CX0 5 "clashed" ["weights", "rates", "pair"] (spClashed c.K))
    (g_closing_of : Kn c CX0 5 "closing_of" ["rates", "pair"] (spClosing c.K)) : Kn c CX0 6 "first_not_coming" ["row", "word"] (spFirstNot C) := by
  have sc := sc_first_not_coming
  refine D.ok sc len2 (fun f cdv A outer s H vs Q E hr h => ?_)
  refine ⟨_, (pss_cons (ps_set (i := 2) sc.nd rfl (.inl rfl) (pe_fld (pv 0) rfl))
  (pss_cons (ps_for PassesOwn.never rfl (pi_enumT (by rfl) T.enumerate (pa_cons (pe_kn g_check_word (hr.mono (by decide)) rfl (pa_cons (pv 0) (pa_cons (pv 1) pa_nil))) pa_nil)) (pg_tup rfl (pgs_cons (pg_name (i := 3) sc.nd rfl (.inl rfl)) (pgs_cons (pg_name (i := 4) sc.nd rfl (.inl rfl)) pgs_nil)))
    (pss_cons (ps_if (pt_cmpR op_le (pe_ix ix_tup (pe_kn g_closing_of (hr.mono (by decide)) rfl (pa_cons (pv 2) (pa_cons (pv 4) pa_nil))) pe_int (fun _ _ => rfl)) pe_int (nomark _)) (pss_one (ps_ret (pv 3)))
      pss_nil)
    (pss_one (ps_set (i := 2) sc.nd rfl (.inl rfl) (pe_kn g_clashed (hr.mono (by decide)) rfl (pa_cons (pe_fld (pv 0) rfl) (pa_cons (pv 2) (pa_cons (pv 4) pa_nil))))))))
  (pss_one (ps_ret pe_non)))), ?_⟩
  obtain ⟨x, w, rfl, ws, v, wall, m, word, hrow, R, hm, hw, k⟩ := h
  obtain ⟨a, dx, fs, rfl, ha, hf⟩ := id hrow
  obtain ⟨aw, w1, w2⟩ := hf.w
  obtain ⟨as, xs, s1, s2, s3⟩ := hf.s
  refine ⟨_, rfl, a, C, dx, _, _, rfl, ha, RC.cl, RC.s, s1, ?_⟩
  refine ⟨_, rfl, _, rfl, _, _, rfl, ws, v, wall, word, hrow, hw, fun l H1 e1 hl => ⟨l, _, rfl, SqT.of hl, ?_⟩⟩
  obtain ⟨_, _, _, _, hpw⟩ := hw
  refine for_it (walk_enumTE (SqT.of hl)) (fun i σ' H' => ∃ (ar : Addr) (ys : List V) (y3 y4 : Option V), σ' = [some (.ref a), some w, some (.ref ar), y3, y4] ∧ Ex H1 H' ∧ Sx H' ar ys ∧ NKs H' ((afterR ws v (word.take i)).map qK) ys ∧ firstNot ws (afterR ws v (word.take i)) (word.drop i) i = firstNot ws v word 0) ⟨as, xs, none, none, rfl, Ex.rfl, .inr (e1 _ _ s2), s3.ex e1, rfl⟩
    (fun i σ' H' _ p => by obtain ⟨_, _, _, _, _, p, _⟩ := p; exact p) (fun i z σ' H' H'' hi p y => ?_) (fun σ' H' p => ?_)
  · obtain ⟨ar, ys, y3, y4, rfl, e, hS, hN, hfn⟩ := p
    obtain ⟨Tp, x1, x2, rfl, hT, rfl, h1, h2⟩ := y
    cases h1
    replace h2 : (word.map V.int)[i]? = some x2 := h2
    rw [List.getElem?_map] at h2
    cases hwi : word[i]? with
    | none => rw [hwi] at h2; cases h2
    | some pi =>
      rw [hwi] at h2
      cases h2
      have hpi := hpw pi (List.mem_of_getElem? hwi)
      have eT := e.trans (Evl.Ex.new (o := .tup [V.int (i : Nat), V.int pi]) hT)
      have E := e1.trans eT
      have hi' : i < word.length := by rw [List.length_map] at hi; exact hi
      have Ri := R.after (w := word.take i) fun q hq => hpw q (List.mem_of_mem_take hq)
      have htl : (word.take i).length = i := by rw [List.length_take]; omega
      have hN' := hN.ex (Evl.Ex.new (o := .tup [V.int (i : Nat), V.int pi]) hT)
      have hS' := hS.ex (Evl.Ex.new (o := .tup [V.int (i : Nat), V.int pi]) hT)
      have hok : PrOk ws.length pi := pairs_ok R.W.pos hpi
      rw [drop_at hwi] at hfn
      refine ⟨Tp, _, rfl, SqT.of upd_same, rfl, _, _, rfl, _, _, rfl, rfl, ?_⟩
      refine ⟨_, rfl, _, rfl, _, _, rfl, ar, ys, _, pi, rfl, hS'.sq, hN', rfl, by rw [Ri.l]; exact hok, Ri.sm (by omega), fun u H2 e2 hu => ?_⟩
      obtain ⟨au, rfl, hau⟩ := qK_inv hu
      refine ⟨au, _, _, _, rfl, rfl, SqT.of hau, rfl, _, _, rfl, rfl, _, rfl, ?_⟩
      by_cases hc : closeR (afterR ws v (word.take i)) pi ≤ 0
      · refine ite_t (decide_eq_true ((num_le_iff _).mpr hc)) ⟨_, rfl, ?_⟩
        have k2 := k _ (E.trans e2)
        rw [← hfn, firstNot, if_pos hc] at k2
        exact k2
      · refine ite_f (decide_eq_false fun z => hc ((num_le_iff _).mp z)) ?_
        rw [firstNot, if_neg hc] at hfn
        refine ⟨_, rfl, a, C, dx, _, _, rfl, e2 _ _ (E _ _ ha), RC.cl, RC.w, w1, _, rfl, _, rfl, ?_⟩
        refine ⟨_, _, _, rfl, aw, ar, ws, ys, _, pi, rfl, e2 _ _ (E _ _ w2), rfl, (hS'.ex e2).sq, hN'.ex e2, rfl, Ri.l, R.W.w, hok, Ri.sm (by omega), fun p zs H3 e3 hz hzs => ?_⟩
        have es : afterR ws v (word.take (i + 1)) = clashR ws (afterR ws v (word.take i)) pi := by rw [take_snoc hwi, afterR_snoc]
        refine ⟨p, zs, _, _, rfl, (eT.trans e2).trans e3, .inl hz, ?_, ?_⟩
        · rw [es]
          exact hzs
        · rw [es]
          exact hfn
  · obtain ⟨ar, ys, y3, y4, rfl, e, hS, hN, hfn⟩ := p
    rw [List.length_map, List.drop_length, firstNot] at hfn
    have k2 := k _ (e1.trans e)
    rw [← hfn] at k2
    exact k2
/-! ### dotted -/
abbrev s_dotted : Stmt := topS 40
theorem sc_dotted : FnScope ["one", "other", "total", "left", "right"] ["one", "other"] (defScope s_dotted) := ⟨rfl, rfl, rfl, by decide +kernel, rfl, by decide +kernel, by decide +kernel⟩
def spDot : Sp := sp2 fun x y H Q => ∃ (pa pb : Addr) (xs ys : List V) (r s : List Rat) (m n : Nat), x = .ref pa ∧ H pa = some (.tup xs) ∧ NKs H (r.map qK) xs ∧ y = .ref pb ∧ H pb = some (.lst ys) ∧ NKs H (s.map qK) ys ∧ r.length = s.length ∧ m + n + r.length ≤ 100 ∧
  (∀ q ∈ r, Bd m q) ∧ (∀ q ∈ s, Bd n q) ∧ Ret (qK (dotR r s)) H Q
theorem zip_at {r s : List Rat} {i : Nat} (hl : r.length = s.length) (hi : i < r.length) : (List.zipWith (fun x y => x * y) r s)[i]? = some (r.getD i 0 * s.getD i 0) := by
  rw [List.getElem?_zipWith, getD_some hi 0, getD_some (show i < s.length by omega) 0]
theorem ok_dotted {c : Cn} (T : Tx c.mg) (D : Dn c "dotted" s_dotted ["one", "other"]) (g_plus : Kn c CX0 4 "plus" ["one", "other"] spPlus) (g_times : Kn c CX0 4 "times" ["one", "other"] spTimes) : Kn c CX0 5 "dotted" ["one", "other"] spDot := by
  have sc := sc_dotted
  refine D.ok sc len2 (fun f cdv A outer s H vs Q E hr h => ?_)
  refine ⟨_, (pss_cons (ps_set (i := 2) sc.nd rfl (.inl rfl) (pe_tup (pa_cons pe_int (pa_cons pe_int pa_nil))))
  (pss_cons (ps_for PassesOwn.never rfl (pi_zipX rfl T.zip (pa_cons (pv 0) (pa_cons (pv 1) pa_nil))) (pg_tup rfl (pgs_cons (pg_name (i := 3) sc.nd rfl (.inl rfl)) (pgs_cons (pg_name (i := 4) sc.nd rfl (.inl rfl)) pgs_nil)))
    (pss_one (ps_set (i := 2) sc.nd rfl (.inl rfl) (pe_kn g_plus (hr.mono (by decide)) rfl (pa_cons (pv 2) (pa_cons (pe_kn g_times (hr.mono (by decide)) rfl (pa_cons (pv 3) (pa_cons (pv 4) pa_nil))) pa_nil))))))
  (pss_one (ps_ret (pv 2))))), ?_⟩
  obtain ⟨_, _, rfl, pa, pb, xs, ys, r, s', m, n, rfl, ha, hx, rfl, hb, hy, hl, hmn, br, bs, k⟩ := h
  have hxl : xs.length = r.length := by rw [hx.len, List.length_map]
  have hyl : ys.length = s'.length := by rw [hy.len, List.length_map]
  refine ⟨(by show 2 ≤ sizeLine; decide), fun t0 ht0 => ?_⟩
  have e0 := Evl.Ex.new (o := .tup [V.int 0, V.int 1]) ht0
  have n0 : NK (upd H t0 (.tup [V.int 0, V.int 1])) (qK 0) (.ref t0) := qK_mk upd_same
  generalize upd H t0 (.tup [V.int 0, V.int 1]) = H1 at *
  refine ⟨_, rfl, _, rfl, pa, pb, xs, ys, rfl, SqT.of (e0 _ _ ha), SqL.of (e0 _ _ hb), ?_⟩
  refine for_it (walk_zipXE (H := H1) (by omega) (SqT.of (e0 _ _ ha)) (SqL.of (e0 _ _ hb))) (fun i σ' H' => ∃ (u : V) (y3 y4 : Option V) (p : Rat), σ' = [some (.ref pa), some (.ref pb), some u, y3, y4] ∧ Ex H1 H' ∧ NK H' (qK p) u ∧ Bd (m + n + i) p ∧ p = ((List.zipWith (fun x y => x * y) r s').take i).foldl (· + ·) 0)
    ⟨_, none, none, 0, rfl, Ex.rfl, n0, Bd.zero _, rfl⟩ (fun i σ' H' _ p => by obtain ⟨_, _, _, _, _, p, _⟩ := p; exact p) (fun i z σ' H' H'' hi pv y => ?_) (fun σ' H' pv => ?_)
  · obtain ⟨u, y3, y4, p, rfl, e, np, bp, ep⟩ := pv
    obtain ⟨Tp, x1, x2, rfl, hT, rfl, h1, h2⟩ := y
    have hi' : i < r.length := by omega
    have E := e0.trans e
    obtain ⟨x1', hx1, nx1⟩ := q_at (hx.ex E) (i := i) hi'
    obtain ⟨x2', hx2, nx2⟩ := q_at (hy.ex E) (i := i) (by omega)
    replace h1 : xs[i]? = some x1 := h1
    replace h2 : ys[i]? = some x2 := h2
    rw [h1] at hx1
    rw [h2] at hx2
    cases hx1
    cases hx2
    have eN := Evl.Ex.new (o := .tup [x1, x2]) hT
    have bx := br _ (mem_getD hi' 0)
    have by' := bs _ (mem_getD (show i < s'.length by omega) 0)
    refine ⟨Tp, _, rfl, SqT.of upd_same, rfl, _, _, rfl, _, _, rfl, rfl, ?_⟩
    refine ⟨_, rfl, _, rfl, _, rfl, _, _, rfl, _, _, isR_q (nx1.ex eN) (bx.sm (by omega)), isR_q (nx2.ex eN) (by'.sm (by omega)), bx.sm (by omega), by'.sm (by omega), fun r1 H2 g1 nr1 => ?_⟩
    have bxy := bx.mul by'
    refine ⟨_, _, rfl, _, _, isR_q (np.ex (eN.trans g1)) (bp.sm (by omega)), isR_q nr1 (bxy.sm (by omega)), bp.sm (by omega), bxy.sm (by omega), fun r2 H3 g2 nr2 => ?_⟩
    refine ⟨r2, _, _, _, rfl, ((e.trans eN).trans g1).trans g2, nr2, bp.add (bxy.mono (by omega)), ?_⟩
    rw [take_snoc (zip_at hl hi'), List.foldl_append, ← ep]
    rfl
  · obtain ⟨u, y3, y4, p, rfl, e, np, bp, ep⟩ := pv
    refine ⟨_, rfl, k _ _ (e0.trans e) ?_⟩
    rw [List.take_of_length_le (by rw [List.length_zipWith]; omega)] at ep
    rw [ep] at np
    exact np
/-! ### check_entries -/
abbrev s_check_entries : Stmt := topS 41
theorem sc_check_entries : FnScope ["entries", "many", "entry"] ["entries", "many"] (defScope s_check_entries) := ⟨rfl, rfl, rfl, by decide +kernel, rfl, by decide +kernel, by decide +kernel⟩
def spEntries : Sp := sp2 fun x y H Q => ∃ (a : Addr) (ys : List V) (r : List Rat), x = .ref a ∧ Sx H a ys ∧ NKs H (r.map qK) ys ∧ y = .int (r.length : Int) ∧ r.length ≤ 4 ∧ (∀ q ∈ r, Sm q) ∧ Ret (rowK r) H Q
theorem ok_check_entries {c : Cn} (T : Tx c.mg) (D : Dn c "check_entries" s_check_entries ["entries", "many"]) (g_is_ratio : Kn c CX0 2 "is_ratio" ["thing"] spIsRatio) (g_ratio_of : Kn c CX0 3 "ratio_of" ["thing"] spRatio) : Kn c CX0 4 "check_entries" ["entries", "many"] spEntries := by
  have sc := sc_check_entries
  refine D.ok sc len2 (fun f cdv A outer s H vs Q E hr h => ?_)
  refine ⟨_, (pss_cons (ps_if (PW.pt (pw_or (pt_not (pt_val (pe_callB call_isiT (by rfl) T.isinstance (by decide +kernel) (pa_cons (pv 0) (pa_cons (pe_tup (pa_cons (ty_list T) (pa_cons (ty_tuple T) pa_nil))) pa_nil))))) (pw_or1 (pt_cmpR op_ne (pe_callB call_len_seq (by rfl) T.len PySem.boot_len (pa_cons (pv 0) pa_nil)) (pv 1) (nomark _))))) (pss_one ps_never)
    pss_nil)
  (pss_cons (ps_for PassesOwn.never rfl (pi_sq (pv 0)) (pg_name (i := 2) sc.nd rfl (.inl rfl))
    (pss_one (ps_if (pt_not (pt_val (pe_kn g_is_ratio (hr.mono (by decide)) rfl (pa_cons (pv 2) pa_nil)))) (pss_one ps_never)
      pss_nil)))
  (pss_one (ps_ret (pe_callTy call_tupX (by rfl) T.tuple (by decide +kernel) (pa_cons (pe_lc (own := [("entry", 2)]) (g := gName 2) (tt := tYes) rfl sc.nd (pi_sq (pv 0)) (blkOk_by (by kernel_rfl)) (fun _ _ _ _ _ => (pg_name (i := 2) sc.nd rfl (.inl rfl))) (fun _ _ _ _ _ => pts_nil) (fun _ _ _ _ _ => (pe_kn g_ratio_of (hr.mono (by decide)) rfl (pa_cons (pv 2) pa_nil)))) pa_nil)))))), ?_⟩
  obtain ⟨_, _, rfl, a, ys, r, rfl, hs, hv, rfl, hl, hsm, k⟩ := h
  have hyl : ys.length = r.length := by rw [hv.len, List.length_map]
  refine ⟨_, rfl, (by show 2 ≤ sizeLine; decide), fun t1 ht1 => ?_⟩
  have e1 := Evl.Ex.new (o := .tup [V.ty "list", V.ty "tuple"]) ht1
  obtain ⟨ty, htx, hk⟩ := isi_lt (K := c.K) (hs.ex e1)
  refine ⟨_, _, _, _, _, true, rfl, upd_same, cls_lt, htx, hk, _, rfl, ite_f rfl ?_⟩
  refine ⟨_, rfl, a, _, rfl, (hs.ex e1).sq, _, rfl, rfl, _, rfl, ?_⟩
  refine ite_f (by rw [hyl]; simp) ?_
  generalize upd H t1 (.tup [V.ty "list", V.ty "tuple"]) = H1 at *
  refine ⟨_, rfl, iSq_go (hs.ex e1).sq fun J w => ?_⟩
  refine for_it w (fun i σ' H' => Ex H1 H' ∧ ∃ y, σ' = [some (.ref a), some (.int (r.length : Int)), y]) ⟨Ex.rfl, _, rfl⟩ (fun i σ' H' _ p => p.1) (fun i z σ' H' H'' hi p y => ?_) (fun σ' H' p => ?_)
  · obtain ⟨e3, y2, rfl⟩ := p
    obtain ⟨rfl, hz⟩ := y
    have hi' : i < r.length := by omega
    obtain ⟨x, hx, nx⟩ := q_at ((hv.ex e1).ex e3) hi'
    rw [hz] at hx
    cases hx
    exact ⟨_, rfl, _, rfl, _, isR_q nx (hsm _ (mem_getD hi' 0)), fun H4 e4 => ⟨_, rfl, ite_f rfl ⟨e3.trans e4, _, rfl⟩⟩⟩
  · obtain ⟨e3, y2, rfl⟩ := p
    have E := e1.trans e3
    refine ⟨_, rfl, iSq_go (hs.ex E).sq fun J2 w2 => ?_⟩
    refine lc_name (Qd := fun D H' => _) w2 grow_at (r.map qK) (by rw [List.length_map, hyl]) (by omega) (by intro _; rfl) (fun i x kk H2 H3 hk2 g1 g2 y Q' q => ?_) (fun D zs H4 hD e hx hzs => ?_)
    · obtain ⟨rfl, hx⟩ := y
      obtain ⟨x', hx', nx⟩ := NKs.get hv hk2
      rw [hx] at hx'
      cases hx'
      rw [List.getElem?_map] at hk2
      cases hri : r[i]? with
      | none => rw [hri] at hk2; cases hk2
      | some q0 =>
        rw [hri] at hk2
        cases hk2
        exact ⟨_, rfl, _, rfl, q0, isR_q ((nx.ex E).ex g1) (hsm _ (List.mem_of_getElem? hri)), q⟩
    · exact ⟨D, zs, rfl, .inl hx, fun l H5 e5 h5 => k _ _ ((E.trans e).trans e5) (.tup h5 (hzs.ex e5))⟩
end K74
namespace K74
open PySem PySem.Spec PyProof.Rows L2
/-- the answer is a new list of this data -/
def RetLF (ks : List NestedKey) (H : Hp) (Q : VK) : Prop := ∀ p xs H', H p = none → Ex H H' → H' p = some (.lst xs) → NKs H' ks xs → Q (.ref p) H'
/-! ### rest_rows -/
theorem qK_one {H : Hp} {a : Addr} (h : H a = some (.tup [.int 1, .int 1])) : NK H (qK 1) (.ref a) := qK_mk h
theorem qK_zero {H : Hp} {a : Addr} (h : H a = some (.tup [.int 0, .int 1])) : NK H (qK 0) (.ref a) := qK_mk h
abbrev s_rest_rows : Stmt := topS 43
theorem sc_rest_rows : FnScope ["many", "j", "k"] ["many"] (defScope s_rest_rows) := ⟨rfl, rfl, rfl, by decide +kernel, rfl, by decide +kernel, by decide +kernel⟩
def spRest : Sp := sp1 fun x H Q => ∃ n : Nat, x = .int (n : Int) ∧ n ≤ 4 ∧ RetLF ((restR n).map rowK) H Q
theorem range_at {α : Type} {f : Nat → α} {n i : Nat} {y : α} (h : ((List.range n).map f)[i]? = some y) : i < n ∧ y = f i := by
  rw [List.getElem?_map] at h
  cases hr : (List.range n)[i]? with
  | none => rw [hr] at h; cases h
  | some j =>
    rw [hr] at h
    obtain ⟨hi, e⟩ := List.getElem?_eq_some_iff.mp hr
    rw [List.getElem_range] at e
    rw [List.length_range] at hi
    subst e
    exact ⟨hi, (Option.some.inj h).symm⟩
theorem ok_rest_rows {c : Cn} (T : Tx c.mg) (D : Dn c "rest_rows" s_rest_rows ["many"]) : Kn c CX0 1 "rest_rows" ["many"] spRest := by
  have sc := sc_rest_rows
  refine D.ok sc len1 (fun f cdv A outer s H vs Q E hr h => ?_)
  refine ⟨_, (pss_one (ps_ret (pe_lc (own := [("k", 2)]) (g := gName 2) (tt := tYes) rfl sc.nd (pi_range1 rfl T.range (pa_cons (pv 0) pa_nil)) (blkOk_by (by kernel_rfl)) (fun _ _ _ _ _ => (pg_name (i := 2) sc.nd rfl (.inr rfl))) (fun _ _ _ _ _ => pts_nil) (fun _ _ _ _ _ => (pe_callTy call_tupX (by rfl) T.tuple (by decide +kernel) (pa_cons (pe_lc (own := [("j", 1)]) (g := gName 1) (tt := tYes) rfl sc.nd (pi_range1 rfl T.range (pa_cons (pv 0) pa_nil)) (blkOk_by (by kernel_rfl)) (fun _ _ _ _ _ => (pg_name (i := 1) sc.nd rfl (.inl rfl))) (fun _ _ _ _ _ => pts_nil) (fun _ _ _ _ _ => (pe_ifExp (pt_cmpR op_eq (pv 1) (pv 2) (nomark _)) (pe_tup (pa_cons pe_int (pa_cons pe_int pa_nil))) (pe_tup (pa_cons pe_int (pa_cons pe_int pa_nil)))))) pa_nil)))))), ?_⟩
  obtain ⟨_, rfl, n, rfl, hn, k⟩ := h
  refine ⟨_, rfl, (n : Int), rfl, by omega, by omega, ?_⟩
  refine lc_name (Qd := fun D H' => _) (walk_rangeE (H := H)) grow_fn ((restR n).map rowK) (by rw [List.length_map]; unfold restR; rw [List.length_map, List.length_range]; omega) (by omega) (by intro _; rfl) (fun i x kk H1 H' hk e1 e2 y Q' q => ?_) (fun D xs H' hD e hx hxs => ?_)
  · obtain ⟨rfl, rfl⟩ := y
    unfold restR at hk
    rw [List.map_map] at hk
    obtain ⟨hi, rfl⟩ := range_at hk
    refine ⟨_, rfl, (n : Int), rfl, by omega, by omega, ?_⟩
    refine lc_name (Qd := fun D H' => _) (walk_rangeE (H := H')) grow_fn (((List.range n).map fun j => (if j = i then 1 else 0 : Rat)).map qK) (by rw [List.length_map, List.length_map, List.length_range]; omega) (by omega) (by intro _; rfl) (fun j x kk H2 H3 hk2 e3 e4 y Q2 q2 => ?_) (fun D xs H4 hD e3 hx hxs => ?_)
    · obtain ⟨rfl, rfl⟩ := y
      rw [List.map_map] at hk2
      obtain ⟨hj, rfl⟩ := range_at hk2
      refine ⟨_, rfl, _, rfl, rfl, _, rfl, ?_⟩
      by_cases hji : j = i
      · refine ite_t (decide_eq_true (by rw [hji])) ⟨(by show 2 ≤ sizeLine; decide), fun t ht => q2 _ _ (Evl.Ex.new ht) ?_⟩
        show NK _ (qK (if j = i then 1 else 0)) _
        rw [if_pos hji]
        exact qK_one upd_same
      · refine ite_f (decide_eq_false (fun z => hji (by injection z with z; omega))) ⟨(by show 2 ≤ sizeLine; decide), fun t ht => q2 _ _ (Evl.Ex.new ht) ?_⟩
        show NK _ (qK (if j = i then 1 else 0)) _
        rw [if_neg hji]
        exact qK_zero upd_same
    · exact ⟨D, xs, rfl, .inl hx, fun l H5 e5 h5 => q _ _ (e3.trans e5) (.tup h5 (hxs.ex e5))⟩
  · exact k D xs H' hD e hx hxs
/-! ### lines_behind -/
abbrev s_lines_behind : Stmt := topS 45
theorem sc_lines_behind : FnScope ["weights", "lines", "pair", "fresh", "top", "bottom", "left", "right", "one", "other", "both", "x", "y"] ["weights", "lines", "pair"] (defScope s_lines_behind) := ⟨rfl, rfl, rfl, by decide +kernel, rfl, by decide +kernel, by decide +kernel⟩
def spBehind : Sp := sp3 fun w l p H Q => ∃ (aw al : Addr) (ws : List Int) (xs : List V) (M : List (List Rat)) (pi : Int), w = .ref aw ∧ H aw = some (.tup (ws.map V.int)) ∧ l = .ref al ∧ H al = some (.lst xs) ∧ NKs H (M.map rowK) xs ∧ p = .int pi ∧
  M.length = ws.length ∧ (∀ r ∈ M, r.length = ws.length) ∧ ws.length ≤ 4 ∧ (∀ x ∈ ws, 1 ≤ x ∧ x ≤ 9) ∧ PrOk ws.length pi ∧ (∀ r ∈ M, ∀ q ∈ r, Sm q) ∧ RetLF ((behindR ws M pi).map rowK) H Q
theorem row_at {H : Hp} {M : List (List Rat)} {xs : List V} (hv : NKs H (M.map rowK) xs) {i : Nat} (h : i < M.length) : ∃ a ys, xs[i]? = some (.ref a) ∧ H a = some (.tup ys) ∧ NKs H ((M.getD i []).map qK) ys := by
  obtain ⟨x, hx, nx⟩ := NKs.get (k := rowK (M.getD i [])) hv (by rw [List.getElem?_map, getD_some h []]; rfl)
  obtain ⟨a, ys, rfl, h1, h2⟩ := nx.tup_inv
  exact ⟨a, ys, hx, h1, h2⟩
theorem zipW_at {α β γ : Type} {f : α → β → γ} {r : List α} {s : List β} {i : Nat} {y : γ} (h : (List.zipWith f r s)[i]? = some y) : ∃ a b, r[i]? = some a ∧ s[i]? = some b ∧ y = f a b := by
  rw [List.getElem?_zipWith] at h
  cases h1 : r[i]? with
  | none => rw [h1] at h; cases h
  | some a =>
    cases h2 : s[i]? with
    | none => rw [h1, h2] at h; cases h
    | some b =>
      rw [h1, h2] at h
      exact ⟨a, b, rfl, rfl, (Option.some.inj h).symm⟩
theorem zip_pairsE {K : PySem.W.Frag} {H : Hp} {a b : Addr} {xs ys : List V} {n : Nat} (hx : H a = some (.tup xs)) (hy : H b = some (.tup ys)) (h1 : xs.length = n) (h2 : ys.length = n) : Walk (RZ.ItzT K a b) n (fun H' => Ex H H') (YPair (fun i => xs[i]?) (fun i => ys[i]?)) := walk_zipTE (by omega) (SqT.of hx) (SqT.of hy)
theorem ok_lines_behind {c : Cn} (T : Tx c.mg) (D : Dn c "lines_behind" s_lines_behind ["weights", "lines", "pair"]) (g_mixed_ratio : Kn c CX0 4 "mixed_ratio" ["one", "first", "other", "second", "divisor"] spMixed) : Kn c CX0 5 "lines_behind" ["weights", "lines", "pair"] spBehind := by
  have sc := sc_lines_behind
  refine D.ok sc len3 (fun f cdv A outer s H vs Q E hr h => ?_)
  refine ⟨_, (pss_cons (ps_set (i := 3) sc.nd rfl (.inl rfl) (pe_callTy call_list_of (by rfl) T.list (by decide +kernel) (pa_cons (pv 1) pa_nil)))
  (pss_cons (ps_if (pt_cmpR op_eq (pv 2) (pe_un un_neg pe_int) (nomark _)) (pss_cons (ps_asg (pe_callTy call_tupX (by rfl) T.tuple (by decide +kernel) (pa_cons (pe_lc (own := [("top", 4), ("bottom", 5)]) (g := gTup c.K 2 (gCons (gName 4) (gCons (gName 5) gNil))) (tt := tYes) rfl sc.nd (pi_sq (pe_ix ix_sq (pv 1) pe_int (fun _ _ => rfl))) (blkOk_by (by kernel_rfl)) (fun _ _ _ _ _ => (pg_tup rfl (pgs_cons (pg_name (i := 4) sc.nd rfl (.inl rfl)) (pgs_cons (pg_name (i := 5) sc.nd rfl (.inl rfl)) pgs_nil)))) (fun _ _ _ _ _ => pts_nil) (fun _ _ _ _ _ => (pe_tup (pa_cons (pe_un un_neg (pv 4)) (pa_cons (pv 5) pa_nil))))) pa_nil)) (pg_sub (pv 3) pe_int set_list))
    (pss_one (ps_ret (pv 3))))
    pss_nil)
  (pss_cons (ps_asg (pe_tup (pa_cons (pe_ix ix_tup (pv 0) (pv 2) (fun _ _ => rfl)) (pa_cons (pe_ix ix_tup (pv 0) (pe_op op_add (pv 2) pe_int) (fun _ _ => rfl)) pa_nil))) (pg_tup rfl (pgs_cons (pg_name (i := 6) sc.nd rfl (.inr rfl)) (pgs_cons (pg_name (i := 7) sc.nd rfl (.inr rfl)) pgs_nil))))
  (pss_cons (ps_par (i := 8) (j := 9) rfl sc.nd rfl rfl (by decide) rfl rfl (pa_cons (pe_ix ix_sq (pv 1) (pv 2) (fun _ _ => rfl)) (pa_cons (pe_ix ix_sq (pv 1) (pe_op op_add (pv 2) pe_int) (fun _ _ => rfl)) pa_nil)) (by rfl))
  (pss_cons (ps_set (i := 10) sc.nd rfl (.inr rfl) (pe_op op_add (pv 6) (pv 7)))
  (pss_cons (ps_asg (pe_callTy call_tupX (by rfl) T.tuple (by decide +kernel) (pa_cons (pe_lc (own := [("x", 11), ("y", 12)]) (g := gTup c.K 2 (gCons (gName 11) (gCons (gName 12) gNil))) (tt := tYes) rfl sc.nd (RZ.pi_zipA rfl T.zip (pa_cons (pv 8) (pa_cons (pv 9) pa_nil))) (blkOk_by (by kernel_rfl)) (fun _ _ _ _ _ => (pg_tup rfl (pgs_cons (pg_name (i := 11) sc.nd rfl (.inl rfl)) (pgs_cons (pg_name (i := 12) sc.nd rfl (.inl rfl)) pgs_nil)))) (fun _ _ _ _ _ => pts_nil) (fun _ _ _ _ _ => (pe_kn g_mixed_ratio (hr.mono (by decide)) rfl (pa_cons (pe_op op_sub (pv 6) (pv 7)) (pa_cons (pv 11) (pa_cons (pe_op op_mulW pe_int (pv 7)) (pa_cons (pv 12) (pa_cons (pv 10) pa_nil)))))))) pa_nil)) (pg_sub (pv 3) (pv 2) set_list))
  (pss_cons (ps_asg (pe_callTy call_tupX (by rfl) T.tuple (by decide +kernel) (pa_cons (pe_lc (own := [("x", 11), ("y", 12)]) (g := gTup c.K 2 (gCons (gName 11) (gCons (gName 12) gNil))) (tt := tYes) rfl sc.nd (RZ.pi_zipA rfl T.zip (pa_cons (pv 8) (pa_cons (pv 9) pa_nil))) (blkOk_by (by kernel_rfl)) (fun _ _ _ _ _ => (pg_tup rfl (pgs_cons (pg_name (i := 11) sc.nd rfl (.inl rfl)) (pgs_cons (pg_name (i := 12) sc.nd rfl (.inl rfl)) pgs_nil)))) (fun _ _ _ _ _ => pts_nil) (fun _ _ _ _ _ => (pe_kn g_mixed_ratio (hr.mono (by decide)) rfl (pa_cons (pe_op op_mulW pe_int (pv 6)) (pa_cons (pv 11) (pa_cons (pe_op op_sub (pv 7) (pv 6)) (pa_cons (pv 12) (pa_cons (pv 10) pa_nil)))))))) pa_nil)) (pg_sub (pv 3) (pe_op op_add (pv 2) pe_int) set_list))
  (pss_one (ps_ret (pv 3)))))))))), ?_⟩
  obtain ⟨_, _, _, rfl, aw, al, ws, xs, M, pi, rfl, haw, rfl, hal, hv, rfl, hlen, hsq, h4, hws, hp, hsm, k⟩ := h
  have hxl : xs.length = M.length := by rw [hv.len, List.length_map]
  refine ⟨_, rfl, al, xs, rfl, .inl (SqL.of hal), fun l hl => ?_⟩
  have e1 : Ex H (upd H l (.lst xs)) := Evl.Ex.new hl
  refine ⟨_, rfl, 1, rfl, rfl, _, rfl, ?_⟩
  rcases hp with ⟨rfl, hn⟩ | ⟨i, rfl, hi⟩
  · refine ite_t (decide_eq_true rfl) ?_
    obtain ⟨a0, ys, hx0, ha0, hy0⟩ := row_at (hv.ex e1) (i := 0) (by omega)
    have h0 : atI xs 0 = some (.ref a0) := atI_nat (j := 0) hx0
    have hyl : ys.length = (M.getD 0 []).length := by rw [hy0.len, List.length_map]
    have hr0 := hsq _ (mem_getD (show 0 < M.length by omega) [])
    refine ⟨_, rfl, al, xs, 0, _, rfl, rfl, .l (e1 _ _ hal), h0, iSq_go (.t ha0) fun J w => ?_⟩
    refine lc_rel (Qd := fun D H' => _) w grow_at (fun _ i v H => ∀ kk, ((M.getD 0 []).map fun x => qK (-x))[i]? = some kk → NK H kk v) (fun D i v => ⟨fun H H' e h kk hkk => (h kk hkk).ex e, fun H acc ys hD h kk hkk => NK.lupd hD _ _ (h kk hkk)⟩) (by omega) (fun D acc j x H1 H2 hj e2 hD y B hB => ?_) (fun D zs H4 hD e2 hx hzl hrel => ?_)
    · obtain ⟨rfl, hx⟩ := y
      obtain ⟨x', hx', nx⟩ := q_at (hy0.ex e2) (i := j) (by omega)
      rw [hx] at hx'
      cases hx'
      obtain ⟨ax, rfl, hax⟩ := qK_inv nx
      refine ⟨ax, _, rfl, SqT.of hax, rfl, _, _, rfl, _, _, rfl, rfl, hB _ _ Ex.rfl rfl fun Q' q => ?_⟩
      refine ⟨_, rfl, _, rfl, _, rfl, (by show 2 ≤ sizeLine; decide), fun t ht => q _ _ (Evl.Ex.new ht) fun kk hkk => ?_⟩
      rw [List.getElem?_map, getD_some (show j < (M.getD 0 []).length by omega) 0] at hkk
      cases hkk
      exact neg_q upd_same
    · have hzs : NKs H4 (((M.getD 0 []).map fun x => -x).map qK) zs := by
        rw [List.map_map]
        exact NKs.of_get (by rw [List.length_map]; omega) fun j kk v h1 h2 => hrel j v h2 kk h1
      refine ⟨D, zs, rfl, .inl hx, fun t H5 e5 h5 => ?_⟩
      have E5 := (e1.trans e2).trans e5
      have hl5 : H5 l = some (.lst xs) := e5 _ _ (e2 _ _ upd_same)
      refine ⟨_, rfl, l, xs, 0, 0, rfl, rfl, hl5, ixN_at (j := 0) rfl (by omega), _, rfl, ?_⟩
      refine k l (xs.set 0 (.ref t)) _ hl (Evl.Ex.mut E5 hl) upd_same ?_
      have ec : behindR ws M (-1) = M.set 0 ((M.getD 0 []).map fun x => -x) := if_pos rfl
      rw [ec, List.map_set]
      exact NKs.lupd (acc := xs) hl5 _ _ (NKs.set (.tup h5 (hzs.ex e5)) 0 (hv.ex E5))
  · refine ite_f (small_neg (by omega)) ?_
    have h0 : i < ws.length := by omega
    obtain ⟨wa1, wa2⟩ := hws _ (mem_getD h0 1)
    obtain ⟨wb1, wb2⟩ := hws _ (mem_getD hi 1)
    have e0 : ((i : Int) + 1) = ((i + 1 : Nat) : Int) := by omega
    obtain ⟨a1, ys1, hx1, ha1, hy1⟩ := row_at hv (i := i) (by omega)
    obtain ⟨a2, ys2, hx2, ha2, hy2⟩ := row_at hv (i := i + 1) (by omega)
    have hl1 := hsq _ (mem_getD (show i < M.length by omega) [])
    have hl2 := hsq _ (mem_getD (show i + 1 < M.length by omega) [])
    have sm1 := hsm _ (mem_getD (show i < M.length by omega) [])
    have sm2 := hsm _ (mem_getD (show i + 1 < M.length by omega) [])
    have yl1 : ys1.length = ws.length := by rw [hy1.len, List.length_map, hl1]
    have yl2 : ys2.length = ws.length := by rw [hy2.len, List.length_map, hl2]
    generalize ea : ws.getD i 1 = wa at *
    generalize eb : ws.getD (i + 1) 1 = wb at *
    generalize exx : M.getD i [] = vx at *
    generalize eyy : M.getD (i + 1) [] = vy at *
    have items : ∀ (a b z : Int), Ti a → Ti b → Ti z → 0 < z → ∀ (H2 : Hp), Ex H H2 → ∀ (j : Nat) x y kk, ((List.zipWith (mixR a b z) vx vy).map qK)[j]? = some kk → ys1[j]? = some x → ys2[j]? = some y → ∀ Q' : VK, (∀ v H4, Ex H2 H4 → NK H4 kk v → Q' v H4) →
        spMixed [.int a, x, .int b, y, .int z] H2 Q' E0 := by
      intro a b z ta tb tz hz H2 e2 j x y kk hk hx hy Q' q
      rw [List.getElem?_map] at hk
      cases hzj : (List.zipWith (mixR a b z) vx vy)[j]? with
      | none => rw [hzj] at hk; cases hk
      | some m0 =>
        rw [hzj] at hk
        cases hk
        obtain ⟨p, q0, hp, hq, rfl⟩ := zipW_at hzj
        obtain ⟨x', hx', nx⟩ := NKs.get (i := j) (k := qK p) hy1 (by rw [List.getElem?_map, hp]; rfl)
        obtain ⟨y', hy', ny⟩ := NKs.get (i := j) (k := qK q0) hy2 (by rw [List.getElem?_map, hq]; rfl)
        rw [hx] at hx'
        rw [hy] at hy'
        cases hx'
        cases hy'
        exact ⟨_, _, _, _, _, rfl, a, p, b, q0, z, rfl, nx.ex e2, rfl, ny.ex e2, rfl, ta, tb, tz, hz, sm1 _ (List.mem_of_getElem? hp), sm2 _ (List.mem_of_getElem? hq), q⟩
    refine ⟨_, rfl, _, rfl, aw, _, _, _, rfl, rfl, SqT.of (e1 _ _ haw), atI_nat (ints_at h0 1), _, rfl, _, rfl, _, _, rfl, rfl, aw, _, _, _, rfl, rfl, SqT.of (e1 _ _ haw), at_of e0 (ints_at hi 1), (by show 2 ≤ sizeLine; decide), fun t ht => ?_⟩
    have e1' := e1.trans (Evl.Ex.new (o := .tup [V.int (ws.getD i 1), V.int (ws.getD (i + 1) 1)]) ht)
    have hl0 : (upd (upd H l (.lst xs)) t (.tup [V.int (ws.getD i 1), V.int (ws.getD (i + 1) 1)])) l = some (.lst xs) := (Evl.Ex.new ht) _ _ upd_same
    have ht0 : (upd (upd H l (.lst xs)) t (.tup [V.int (ws.getD i 1), V.int (ws.getD (i + 1) 1)])) t = some (.tup [V.int (ws.getD i 1), V.int (ws.getD (i + 1) 1)]) := upd_same
    refine ⟨t, _, rfl, SqT.of ht0, rfl, _, _, rfl, _, _, rfl, rfl, ?_⟩
    rw [ea, eb]
    rw [ea, eb] at hl0 e1'
    generalize upd (upd H l (.lst xs)) t (.tup [V.int wa, V.int wb]) = H1 at *
    refine ⟨_, rfl, _, rfl, al, _, _, _, rfl, rfl, .l (e1' _ _ hal), atI_nat hx1, _, rfl, _, rfl, _, _, rfl, rfl, al, _, _, _, rfl, rfl, .l (e1' _ _ hal), at_of e0 hx2, _, _, rfl, ?_⟩
    refine ⟨_, rfl, _, rfl, _, _, rfl, rfl, ?_⟩
    -- fresh[pair]
    refine ⟨_, rfl, _, rfl, a1, a2, ys1, ys2, rfl, .inr ⟨SqT.of (e1' _ _ ha1), SqT.of (e1' _ _ ha2), ?_⟩⟩
    refine lc_pair (Qd := fun D H' => _) (zip_pairsE (e1' _ _ ha1) (e1' _ _ ha2) yl1 yl2) ((List.zipWith (mixR (wa - wb) (2 * wb) (wa + wb)) vx vy).map qK) (by rw [List.length_map, List.length_zipWith]; omega) (by omega) (by intro _ _; rfl) (fun j x y kk H2 hk e2 g1 g2 Q' q => ?_) (fun D zs H2 hD e2 hx hzs => ?_)
    · exact ⟨_, rfl, _, rfl, _, _, rfl, rfl, _, rfl, _, rfl, _, _, rfl, rfl, wide_mul (a := 10) (b := 10) (by decide) (by omega) (by decide) (by decide) (by decide), _, rfl, _, rfl, items (wa - wb) (2 * wb) (wa + wb) (ti_of (by omega) (by omega)) (ti_of (by omega) (by omega)) (ti_of (by omega) (by omega)) (by omega) H2 (e1'.trans e2) j x y kk hk g1 g2 Q' q⟩
    · refine ⟨D, zs, rfl, .inl hx, fun u H3 e3 hu => ?_⟩
      have E3 := (e1'.trans e2).trans e3
      have hL3 : H3 l = some (.lst xs) := e3 _ _ (e2 _ _ hl0)
      have nu : NK H3 (rowK (List.zipWith (mixR (wa - wb) (2 * wb) (wa + wb)) vx vy)) (.ref u) := .tup hu (hzs.ex e3)
      refine ⟨_, rfl, _, rfl, l, xs, i, i, rfl, rfl, hL3, ixN_nat (by omega), ?_⟩
      have E4 : Ex H (upd H3 l (.lst (xs.set i (.ref u)))) := Evl.Ex.mut E3 hl
      have nu4 := NK.lupd (ys := xs.set i (.ref u)) hL3 _ _ nu
      have hL4 : (upd H3 l (.lst (xs.set i (.ref u)))) l = some (.lst (xs.set i (.ref u))) := upd_same
      generalize upd H3 l (.lst (xs.set i (.ref u))) = H4 at *
      -- fresh[pair + 1]
      refine ⟨_, rfl, _, rfl, a1, a2, ys1, ys2, rfl, .inr ⟨SqT.of (E4 _ _ ha1), SqT.of (E4 _ _ ha2), ?_⟩⟩
      refine lc_pair (Qd := fun D H' => _) (zip_pairsE (E4 _ _ ha1) (E4 _ _ ha2) yl1 yl2) ((List.zipWith (mixR (2 * wa) (wb - wa) (wa + wb)) vx vy).map qK) (by rw [List.length_map, List.length_zipWith]; omega) (by omega) (by intro _ _; rfl) (fun j x y kk H5 hk e5 g1 g2 Q' q => ?_) (fun D2 zs2 H5 hD2 e5 hx2' hzs2 => ?_)
      · exact ⟨_, rfl, _, _, rfl, rfl, wide_mul (a := 10) (b := 10) (by decide) (by omega) (by decide) (by decide) (by decide), _, rfl, _, rfl, _, rfl, _, _, rfl, rfl, _, rfl, _, rfl, items (2 * wa) (wb - wa) (wa + wb) (ti_of (by omega) (by omega)) (ti_of (by omega) (by omega)) (ti_of (by omega) (by omega)) (by omega) H5 (E4.trans e5) j x y kk hk g1 g2 Q' q⟩
      · refine ⟨D2, zs2, rfl, .inl hx2', fun u2 H6 e6 hu2 => ?_⟩
        have E6 := (E4.trans e5).trans e6
        have hL6 : H6 l = some (.lst (xs.set i (.ref u))) := e6 _ _ (e5 _ _ hL4)
        have nu2 : NK H6 (rowK (List.zipWith (mixR (2 * wa) (wb - wa) (wa + wb)) vx vy)) (.ref u2) := .tup hu2 (hzs2.ex e6)
        refine ⟨_, rfl, _, rfl, _, _, rfl, rfl, l, xs.set i (.ref u), _, i + 1, rfl, rfl, hL6, ixN_at e0 (by rw [List.length_set]; omega), _, rfl, ?_⟩
        refine k l ((xs.set i (.ref u)).set (i + 1) (.ref u2)) _ hl (Evl.Ex.mut E6 hl) upd_same ?_
        have ec : behindR ws M (i : Int) = (M.set i (List.zipWith (mixR (wa - wb) (2 * wb) (wa + wb)) vx vy)).set (i + 1) (List.zipWith (mixR (2 * wa) (wb - wa) (wa + wb)) vx vy) := by
          unfold behindR
          rw [if_neg (by omega)]
          simp only [Int.toNat_natCast, ea, eb, exx, eyy]
        rw [ec, List.map_set, List.map_set]
        exact NKs.lupd hL6 _ _ (NKs.set nu2 _ (NKs.set ((nu4.ex e5).ex e6) _ (hv.ex E6)))
end K74
namespace K74
open PySem PySem.Spec PyProof.Rows L2
/-! ### tables -/
structure TbC (c : Cn) (C : Addr) : Prop where
  cl : Cls c.K C
  r : NoAttr c.K C "rows"
  ha : PySem.W.findIn c.K (.ref C) "__class__" = some (some (.builtin "object.__class__"))
  hn : PySem.W.specialIn c.K (.builtin "object.__class__") "__get__" = some (some (.builtin "getset_descriptor.__get__"))
  htk : PySem.W.takesIn c.K (.builtin "object.__class__") = some true
  hm : PySem.W.mroIn c.K C (.type "object") = some true
  sf : PySem.W.selfFirst c.K C = true
  g : c.mg "Table" = some (.ref C)
theorem TbC.ty {c : Cn} {C : Addr} (T : TbC c C) {H : Hp} {a dx : Addr} {fs : List (Str × V)} (h : H a = some (.ins C dx fs)) : TyX c.K H (.ref a) (.ref C) := .base (.ins h T.cl T.ha T.hn T.htk T.hm)
theorem kit_own {K : PySem.W.Frag} {C : Addr} : PySem.W.kitOne K (.ref C) (.ref C) = some true := by
  unfold PySem.W.kitOne
  rw [if_pos (by simp)]
/-- a table of n lines of n, sizes below m -/
structure Sqr (n m : Nat) (M : List (List Rat)) : Prop where
  l : M.length = n
  r : ∀ x ∈ M, x.length = n
  n1 : 1 ≤ n
  n4 : n ≤ 4
  b : ∀ x ∈ M, ∀ q ∈ x, Bd m q
def TbAt (C : Addr) (H : Hp) (x : V) (M : List (List Rat)) : Prop := ∃ a dx fs t, x = .ref a ∧ H a = some (.ins C dx fs) ∧ fs.lookup ("rows" : Str) = some (.ref t) ∧ NK H (matK M) (.ref t)
theorem TbAt.ex {C : Addr} {H H' : Hp} {x : V} {M : List (List Rat)} (h : TbAt C H x M) (e : Ex H H') : TbAt C H' x M := by
  obtain ⟨a, dx, fs, t, h1, h2, h3, h4⟩ := h
  exact ⟨a, dx, fs, t, h1, e _ _ h2, h3, h4.ex e⟩
def RetTb (C : Addr) (M : List (List Rat)) (H : Hp) (Q : VK) : Prop := ∀ x H', Ex H H' → TbAt C H' x M → Q x H'
abbrev s_Table_init : Stmt := inClass (topS 42) 0
theorem sc_Table_init : FnScope ["self", "rows", "entries"] ["self", "rows"] (defScope s_Table_init) := ⟨rfl, rfl, rfl, by decide +kernel, rfl, by decide +kernel, by decide +kernel⟩
def spTbInit (C : Addr) : Sp := sp2 fun x r H Q => ∃ a dx l xs M n m, x = .ref a ∧ H a = some (.ins C dx []) ∧ r = .ref l ∧ Sx H l xs ∧ LnIn H M xs ∧ Sqr n m M ∧ m ≤ 100 ∧ ∀ H' fs t, ExA a H H' → H' a = some (.ins C dx fs) → fs.lookup ("rows" : Str) = some (.ref t) → NK H' (matK M) (.ref t) → Q .non H'
/-- a class's __init__ of the text, without defaults -/
structure DiC (c : Cn) (C : Addr) (x qual : Str) (st : Stmt) (ps : List Str) : Prop where
  ex : ∃ f fd, Fun c.K "__init__" qual st f fd ∧ Mk c.K C f ∧ c.mg x = some (.ref C) ∧ Binds c.K fd ps []
theorem DiC.ok {c : Cn} {C : Addr} {x qual : Str} {st : Stmt} {N ps : List Str} {k : Nat} {sp : Sp} (D : DiC c C x qual st ps) (S : FnScope N ps (defScope st)) (len : ∀ vs H Q E, sp vs H Q E → vs.length = ps.length)
    (hbody : ∀ (f : Addr) (cdv : Value) (A : Around) (outer : List Env) (s : Shared) (H : Hp) (vs : List V) (Q : VK) (E : XK), Room k (A.deeper (envOfC qual (defScope st) s.heap.objs.size f cdv)) → sp vs H Q E →
      ∃ t, PSs (cxOf CX0 c.P c.w c.K c.mg c.base N qual (defScope st) f cdv A outer s H E).nox (defBody st) t ∧ t { nx := fun _ H' => Q .non H', rt := Q } (start N vs) H) : Nn c C (k + 1) x ps sp := by
  obtain ⟨f, fd, F, hM, hm, hb⟩ := D.ex
  exact ⟨⟨f, fd, F.ok S len (hbody f), hM, hm, hb⟩⟩
theorem NK.exa {a C dx : Addr} {fs : List (Str × V)} {H H' : Hp} (e : ExA a H H') (ha : H a = some (.ins C dx fs)) {k : NestedKey} {v : V} (h : NK H k v) : NK H' k v := NK.tx (e.tex ha) _ _ h
theorem ok_table {c : Cn} {C : Addr} (T : Tx c.mg) (M : Tm c.mg) (TC : TbC c C) (D : DiC c C "Table" "Table.__init__" s_Table_init ["self", "rows"]) (g_check_entries : Kn c CX0 4 "check_entries" ["entries", "many"] spEntries) : Nn c C 5 "Table" ["self", "rows"] (spTbInit C) := by
  have sc := sc_Table_init
  refine D.ok sc len2 (fun f cdv A outer s H vs Q E hr h => ?_)
  refine ⟨_, (pss_cons (ps_if (PW.pt (pw_or (pt_not (pt_val (pe_callB call_isiT (by rfl) T.isinstance (by decide +kernel) (pa_cons (pv 1) (pa_cons (pe_tup (pa_cons (ty_list T) (pa_cons (ty_tuple T) pa_nil))) pa_nil))))) (pw_or1 (pt_not (pt_chain op_le op_le pe_int (pe_callB call_len_seq (by rfl) T.len PySem.boot_len (pa_cons (pv 1) pa_nil)) (pe_most M.lines)))))) (pss_one ps_never)
    pss_nil)
  (pss_one (ps_fld (pv 0) (pe_callTy call_tupX (by rfl) T.tuple (by decide +kernel) (pa_cons (pe_lc (own := [("entries", 2)]) (g := gName 2) (tt := tYes) rfl sc.nd (pi_sq (pv 1)) (blkOk_by (by kernel_rfl)) (fun _ _ _ _ _ => (pg_name (i := 2) sc.nd rfl (.inl rfl))) (fun _ _ _ _ _ => pts_nil) (fun _ _ _ _ _ => (pe_kn g_check_entries (hr.mono (by decide)) rfl (pa_cons (pv 2) (pa_cons (pe_callB (lenS c.K) (by rfl) T.len PySem.boot_len (pa_cons (pv 1) pa_nil)) pa_nil))))) pa_nil)) rfl))), ?_⟩
  obtain ⟨_, _, rfl, a, dx, l, xs, N, n, m, rfl, ha, rfl, hs, hln, S, hm, k⟩ := h
  have hxl : xs.length = n := by rw [hln.1, S.l]
  have n1 := S.n1
  have n4 := S.n4
  refine ⟨_, rfl, (by show 2 ≤ sizeLine; decide), fun t1 ht1 => ?_⟩
  have e1 := Evl.Ex.new (o := .tup [V.ty "list", V.ty "tuple"]) ht1
  obtain ⟨ty, htx, hk⟩ := isi_lt (K := c.K) (hs.ex e1)
  refine ⟨_, _, _, _, _, true, rfl, upd_same, cls_lt, htx, hk, _, rfl, ite_f rfl ?_⟩
  refine ⟨_, rfl, l, _, rfl, (hs.ex e1).sq, _, _, rfl, rfl, _, rfl, ?_⟩
  have l1 : decide (1 ≤ (xs.length : Int)) = true := decide_eq_true (by omega)
  refine ite_t l1 ⟨_, _, rfl, rfl, _, rfl, ?_⟩
  have l2 : decide ((xs.length : Int) ≤ 40) = true := decide_eq_true (by omega)
  refine ite_f (by show (!decide _) = false; rw [l2]; rfl) ?_
  generalize upd H t1 (.tup [V.ty "list", V.ty "tuple"]) = H1 at *
  refine ⟨_, rfl, iSq_go (hs.ex e1).sq fun J w => ?_⟩
  refine lc_name (Qd := fun D H' => _) w grow_at (N.map rowK) (by rw [List.length_map, hln.1]) (by omega) (by intro _; rfl) (fun i x kk H2 H3 hk2 g1 g2 y Q' q => ?_) (fun D ys H2 hD e2 hx hys => ?_)
  · obtain ⟨rfl, hx⟩ := y
    rw [List.getElem?_map] at hk2
    cases hri : N[i]? with
    | none => rw [hri] at hk2; cases hk2
    | some r =>
      rw [hri] at hk2
      cases hk2
      have E := e1.trans g1
      obtain ⟨ae, ys, rfl, h1, h2⟩ := (hln.ex E).2 i x r hx hri
      have hrn := S.r r (List.mem_of_getElem? hri)
      refine ⟨_, rfl, _, rfl, l, _, rfl, (hs.ex E).sq, _, _, rfl, ae, ys, r, rfl, h1, h2, ?_, by omega, fun q' hq' => (S.b r (List.mem_of_getElem? hri) q' hq').sm hm, q⟩
      rw [hxl, hrn]
  · refine ⟨D, ys, rfl, .inl hx, fun t H3 e3 h3 => ?_⟩
    have E3 := (e1.trans e2).trans e3
    refine ⟨_, rfl, a, C, dx, _, rfl, E3 _ _ ha, TC.cl, TC.r, (by show 0 < 1000; decide), ?_⟩
    exact k _ _ t ((ExA.of E3).trans ExA.upd) upd_same (by kernel_rfl) (NK.exa ExA.upd (E3 _ _ ha) (.tup h3 (hys.ex e3)))
theorem tb_new {C : Addr} {r : V} {l : Addr} {xs : List V} {M : List (List Rat)} {n m : Nat} {H : Hp} {Q : VK} {E : XK} (hr : r = .ref l) (hs : Sx H l xs) (hl : LnIn H M xs) (S : Sqr n m M) (hm : m ≤ 100) (k : RetTb C M H Q) :
    ∀ x dx, H x = none → H dx = none → dx ≠ x → spTbInit C (.ref x :: ([r] ++ [])) (upd (upd H dx (.own x)) x (.ins C dx [])) (fun v H2 => v = .non ∧ Q (.ref x) H2) E := by
  intro x dx hx hdx hne
  have e1 : Ex H (upd H dx (.own x)) := Evl.Ex.new hdx
  have hx1 : (upd H dx (.own x)) x = none := by rw [upd_ne (Ne.symm hne)]; exact hx
  have e2 : Ex H (upd (upd H dx (.own x)) x (.ins C dx [])) := e1.trans (Evl.Ex.new hx1)
  refine ⟨_, _, rfl, x, dx, l, xs, M, n, m, rfl, upd_same, hr, hs.ex e2, hl.ex e2, S, hm, fun H' fs t ea hf hlk hn => ⟨rfl, k _ _ ?_ ⟨x, dx, fs, t, rfl, hf, hlk, hn⟩⟩⟩
  intro b o hb
  refine ea b o (fun z => ?_) (e2 _ _ hb)
  rw [z, hx] at hb
  cases hb
/-! ### == and * -/
abbrev s_Table_eq : Stmt := inClass (topS 42) 2
theorem sc_Table_eq : FnScope ["self", "other"] ["self", "other"] (defScope s_Table_eq) := ⟨rfl, rfl, rfl, by decide +kernel, rfl, by decide +kernel, by decide +kernel⟩
def spTbEq (C : Addr) : Sp := sp2 fun x y H Q => ∃ M N, TbAt C H x M ∧ TbAt C H y N ∧ RetV (.bl (decide (M = N))) H Q
theorem ok_Table_eq {c : Cn} {C : Addr} (T : Tx c.mg) (TC : TbC c C) (D : Dm c C "__eq__" "Table.__eq__" s_Table_eq ["self", "other"]) : Mn c C CX0 1 "__eq__" ["self", "other"] (spTbEq C) := by
  have sc := sc_Table_eq
  refine D.ok sc len2 (fun f cdv A outer s H vs Q E hr h => ?_)
  refine ⟨_, (pss_one (ps_ret (pe_and (pe_callB call_isi (by rfl) T.isinstance (by decide +kernel) (pa_cons (pv 1) (pa_cons (pe_glob (v := .ref C) rfl TC.g rfl) pa_nil))) (pe_one (pe_cmpR (op_eqN hr.units) (pe_fld (pv 0) rfl) (pe_fld (pv 1) rfl) (nomark _)))))), ?_⟩
  obtain ⟨_, _, rfl, M, N, ⟨a, dx, fs, t, rfl, ha, hl, hn⟩, ⟨a', dx', fs', t', rfl, ha', hl', hn'⟩, k⟩ := h
  refine ⟨_, rfl, _, _, _, _, true, rfl, .own C, TC.ty ha', kit_own, _, rfl, ite_t rfl ?_⟩
  refine ⟨_, rfl, a, C, dx, _, _, rfl, ha, TC.cl, TC.r, hl, _, rfl, a', C, dx', _, _, rfl, ha', TC.cl, TC.r, hl', matK M, matK N, hn, hn', Nat.le_trans (depth_matK M) (by decide), Nat.le_trans (depth_matK N) (by decide), ?_⟩
  have k2 := k H Ex.rfl
  have e : decide (matK M = matK N) = decide (M = N) := by
    rw [decide_eq_decide]
    exact ⟨matK_inj, fun h => by rw [h]⟩
  rw [← e] at k2
  exact k2
theorem mulR_sqr {n m m' : Nat} {A B : List (List Rat)} (hA : Sqr n m A) (hB : Sqr n m' B) : Sqr n (m + m' + n) (mulR A B) := by
  refine ⟨by unfold mulR; rw [List.length_map, hB.l], fun x hx => ?_, hA.n1, hA.n4, fun x hx q hq => ?_⟩
  · obtain ⟨e, _, rfl⟩ := List.mem_map.mp hx
    rw [List.length_map, List.length_range, hA.l]
  · obtain ⟨e, he, rfl⟩ := List.mem_map.mp hx
    obtain ⟨j, hj, rfl⟩ := List.mem_map.mp hq
    rw [List.mem_range, hA.l] at hj
    have main : ∀ (l : List Rat) (k : Nat) (s : Rat), Bd (m + m' + k) s → (∀ q ∈ l, Bd (m + m') q) → Bd (m + m' + k + l.length) (l.foldl (· + ·) s) := by
      intro l
      induction l with
      | nil => intro k s h _; exact h
      | cons a l ih =>
        intro k s h hl
        have := ih (k + 1) (s + a) ((h.add ((hl a (by simp)).mono (by omega)))) fun q hq => hl q (by simp [hq])
        rw [show m + m' + k + (a :: l).length = m + m' + (k + 1) + l.length from by simp; omega]
        exact this
    have hle : e.length = n := hB.r e he
    unfold dotR
    refine (main _ 0 0 (Bd.zero _) fun q hq => ?_).mono ?_
    · obtain ⟨i, hi⟩ := List.getElem?_of_mem hq
      obtain ⟨x, y, hx, hy, rfl⟩ := zipW_at hi
      rw [List.getElem?_map] at hy
      cases hr : A[i]? with
      | none => rw [hr] at hy; cases hy
      | some r =>
        rw [hr] at hy
        cases hy
        have rl := hA.r r (List.mem_of_getElem? hr)
        have bx := hB.b e he x (List.mem_of_getElem? hx)
        have by' := hA.b r (List.mem_of_getElem? hr) _ (mem_getD (show j < r.length by omega) 0)
        exact (bx.mul by').mono (by omega)
    · rw [List.length_zipWith]
      omega
end K74
namespace K74
open PySem PySem.Spec PyProof.Rows L2
/-! ### lists of lists -/
def LlIn (H : Hp) (M : List (List Rat)) (xs : List V) : Prop := xs.length = M.length ∧ ∀ (i : Nat) v r, xs[i]? = some v → M[i]? = some r → ∃ e ys, v = .ref e ∧ H e = some (.lst ys) ∧ NKs H (r.map qK) ys
theorem LlIn.ex {H H' : Hp} {M : List (List Rat)} {xs : List V} (h : LlIn H M xs) (e : Ex H H') : LlIn H' M xs := ⟨h.1, fun i v r h1 h2 => by
  obtain ⟨a, ys, e1, e2, e3⟩ := h.2 i v r h1 h2
  exact ⟨a, ys, e1, e _ _ e2, e3.ex e⟩⟩
theorem LlIn.ln {H : Hp} {M : List (List Rat)} {xs : List V} (h : LlIn H M xs) : LnIn H M xs := ⟨h.1, fun i v r h1 h2 => by
  obtain ⟨a, ys, e1, e2, e3⟩ := h.2 i v r h1 h2
  exact ⟨a, ys, e1, .inl e2, e3⟩⟩
/-- items that are lists of ratios; the target a name -/
theorem lc_lists {J : It} {n : Nat} {H1 : Hp} {Y : Nat → Hp → V → Hp → Prop} (w : Walk J n (fun H' => Ex H1 H') Y) (gy : Grow Y) {j : Nat} {te : TE} {vs : List Nat} {σ : L2.St} {Qd : Addr → Hp → Prop}
    (M : List (List Rat)) (hk : M.length = n) (hn : n ≤ 10000) (hw : ∀ x, wipe ((wipe σ vs).set j (some x)) vs = wipe σ vs)
    (hs : ∀ i x r H H', M[i]? = some r → Ex H1 H → Ex H1 H' → Y i H x H' → ∀ Q' : VK, (∀ D ys H4, H' D = none → Ex H' H4 → H4 D = some (.lst ys) → NKs H4 (r.map qK) ys → Q' (.ref D) H4) → te ((wipe σ vs).set j (some x)) H' Q')
    (k : ∀ D xs H', H1 D = none → Ex H1 H' → H' D = some (.lst xs) → LlIn H' M xs → Qd D H') :
    ∀ D, H1 D = none → ∃ W : Nat → Nat → Hp → Prop, (∃ m, W 0 m (upd H1 D (.lst []))) ∧ ∀ i m H, W i m H →
      (J.stop i H ∧ Qd D H) ∨ (J.go i H ∧ ∃ Nx : Hp → Prop, (∀ H', Nx H' → ∃ m', m' < m ∧ W (i + 1) m' H') ∧ ∀ x H', J.yld i H x H' → gName j x (wipe σ vs) H' fun σ2 H2 => wipe σ2 vs = wipe σ vs ∧ tYes σ2 H2 fun b H3 =>
        if b = true then te σ2 H3 fun y H4 => ∃ acc, H4 D = some (.lst acc) ∧ acc.length < sizeLine ∧ Nx (upd H4 D (.lst (acc ++ [y]))) else Nx H3) := by
  refine lc_rel w gy (fun D i v H => ∃ l ys, v = .ref l ∧ l ≠ D ∧ H l = some (.lst ys) ∧ ∀ r, M[i]? = some r → NKs H (r.map qK) ys) (fun D i v => ⟨fun H H' e h => ?_, fun H acc ys hD h => ?_⟩) hn (fun D acc i x H H' hi e1 hD y B hB => ?_) (fun D xs H' hD e hx hl hr => ?_)
  · obtain ⟨l, zs, e1, e2, e3, e4⟩ := h
    exact ⟨l, zs, e1, e2, e _ _ e3, fun r hr => (e4 r hr).ex e⟩
  · obtain ⟨l, zs, e1, e2, e3, e4⟩ := h
    exact ⟨l, zs, e1, e2, by rw [upd_ne e2]; exact e3, fun r hr => NKs.lupd hD _ _ (e4 r hr)⟩
  · have hki : M[i]? = some M[i] := List.getElem?_eq_getElem (by omega)
    have e2 := gy _ _ _ _ y
    refine hB _ _ Ex.rfl (hw x) fun Q' q => hs i x _ H H' hki e1 (e1.trans e2) y Q' fun l ys H4 hl e4 h4 hys => q _ H4 e4 ⟨l, ys, rfl, fun z => ?_, h4, fun r hr => ?_⟩
    · rw [z, e2 _ _ hD] at hl
      cases hl
    · rw [hki] at hr
      cases hr
      exact hys
  · refine k D xs H' hD e hx ⟨by omega, fun i v r h1 h2 => ?_⟩
    obtain ⟨l, ys, e1, _, e3, e4⟩ := hr i v h1
    exact ⟨l, ys, e1, e3, e4 r h2⟩
abbrev s_Table_mul : Stmt := inClass (topS 42) 3
theorem sc_Table_mul : FnScope ["self", "other", "columns", "entries", "j", "column"] ["self", "other"] (defScope s_Table_mul) := ⟨rfl, rfl, rfl, by decide +kernel, rfl, by decide +kernel, by decide +kernel⟩
def spTbMul (C : Addr) : Sp := sp2 fun x y H Q => ∃ A B n m m', TbAt C H x A ∧ TbAt C H y B ∧ Sqr n m A ∧ Sqr n m' B ∧ m + m' + n ≤ 100 ∧ RetTb C (mulR A B) H Q
theorem ok_Table_mul {c : Cn} {C : Addr} (T : Tx c.mg) (TC : TbC c C) (D : Dm c C "__mul__" "Table.__mul__" s_Table_mul ["self", "other"]) (g_dotted : Kn c CX0 5 "dotted" ["one", "other"] spDot) (g_Table : Nn c C 5 "Table" ["self", "rows"] (spTbInit C)) : Mn c C CX0 7 "__mul__" ["self", "other"] (spTbMul C) := by
  have sc := sc_Table_mul
  refine D.ok sc len2 (fun f cdv A outer s H vs Q E hr h => ?_)
  refine ⟨_, (pss_cons (ps_if (pt_not (pt_val (pe_callB call_isi (by rfl) T.isinstance (by decide +kernel) (pa_cons (pv 1) (pa_cons (pe_glob (v := .ref C) rfl TC.g rfl) pa_nil))))) (pss_one ps_never)
    pss_nil)
  (pss_cons (ps_if (pt_cmpR op_ne (pe_callB call_len_seq (by rfl) T.len PySem.boot_len (pa_cons (pe_fld (pv 1) rfl) pa_nil)) (pe_callB call_len_seq (by rfl) T.len PySem.boot_len (pa_cons (pe_fld (pv 0) rfl) pa_nil)) (nomark _)) (pss_one ps_never)
    pss_nil)
  (pss_cons (ps_set (i := 2) sc.nd rfl (.inr rfl) (pe_lc (own := [("j", 4)]) (g := gName 4) (tt := tYes) rfl sc.nd (pi_range1 rfl T.range (pa_cons (pe_callB call_len_seq (by rfl) T.len PySem.boot_len (pa_cons (pe_fld (pv 0) rfl) pa_nil)) pa_nil)) (blkOk_by (by kernel_rfl)) (fun _ _ _ _ _ => (pg_name (i := 4) sc.nd rfl (.inr rfl))) (fun _ _ _ _ _ => pts_nil) (fun _ _ _ _ _ => (pe_lc (own := [("entries", 3)]) (g := gName 3) (tt := tYes) rfl sc.nd (piS c.K (fldK c.K (pv 0))) (blkOk_by (by kernel_rfl)) (fun _ _ _ _ _ => (pg_name (i := 3) sc.nd rfl (.inl rfl))) (fun _ _ _ _ _ => pts_nil) (fun _ _ _ _ _ => (pe_ix (ixS c.K) (pv 3) (pv 4) (fun _ _ => rfl)))))))
  (pss_one (ps_ret (pe_nn g_Table (hr.mono (by decide)) rfl (pa_cons (pe_lc (own := [("entries", 3)]) (g := gName 3) (tt := tYes) rfl sc.nd (pi_sq (pe_fld (pv 1) rfl)) (blkOk_by (by kernel_rfl)) (fun _ _ _ _ _ => (pg_name (i := 3) sc.nd rfl (.inr rfl))) (fun _ _ _ _ _ => pts_nil) (fun _ _ _ _ _ => (pe_lc (own := [("column", 5)]) (g := gName 5) (tt := tYes) rfl sc.nd (piS c.K (pv 2)) (blkOk_by (by kernel_rfl)) (fun _ _ _ _ _ => (pg_name (i := 5) sc.nd rfl (.inl rfl))) (fun _ _ _ _ _ => pts_nil) (fun _ _ _ _ _ => (pe_kn g_dotted (hr.mono (by decide)) rfl (pa_cons (pv 3) (pa_cons (pv 5) pa_nil))))))) pa_nil))))))), ?_⟩
  obtain ⟨_, _, rfl, M, N, n, m, m', ⟨a, dx, fs, t, rfl, ha, hl, hn⟩, ⟨a', dx', fs', t', rfl, ha', hl', hn'⟩, SA, SB, hm, k⟩ := h
  obtain ⟨_, xs, ex, ht, hx⟩ := hn.tup_inv
  cases ex
  obtain ⟨_, ys, ex, ht', hy⟩ := hn'.tup_inv
  cases ex
  have n1 := SA.n1
  have n4 := SA.n4
  have hxl : xs.length = n := by rw [hx.len, List.length_map, SA.l]
  have hyl : ys.length = n := by rw [hy.len, List.length_map, SB.l]
  have hlm : M.length = n := SA.l
  refine ⟨_, rfl, _, _, _, _, true, rfl, .own C, TC.ty ha', kit_own, _, rfl, ite_f rfl ?_⟩
  refine ⟨_, rfl, a', C, dx', _, _, rfl, ha', TC.cl, TC.r, hl', t', _, rfl, .inr (SqT.of ht'), _, rfl, a, C, dx, _, _, rfl, ha, TC.cl, TC.r, hl, t, _, rfl, .inr (SqT.of ht), rfl, _, rfl, ?_⟩
  refine ite_f (by rw [hxl, hyl]; simp) ?_
  refine ⟨_, rfl, a, C, dx, _, _, rfl, ha, TC.cl, TC.r, hl, t, _, rfl, .inr (SqT.of ht), _, rfl, by omega, by omega, ?_⟩
  refine lc_lists (Qd := fun D H' => _) (walk_rangeE (H := H)) grow_fn ((List.range n).map fun j => M.map fun r => r.getD j 0) (by rw [List.length_map, List.length_range]; omega) (by omega) (by intro _; rfl) (fun i x r H1 H2 hk e1 e2 y Q' q => ?_) (fun D zs H1 hD e1 hD1 hzs => ?_)
  · obtain ⟨rfl, rfl⟩ := y
    obtain ⟨hi, rfl⟩ := range_at hk
    refine ⟨_, rfl, a, C, dx, _, _, rfl, e2 _ _ ha, TC.cl, TC.r, hl, iSq_go (.t (e2 _ _ ht)) fun J w => ?_⟩
    refine lc_name (Qd := fun D H' => _) w grow_at ((M.map fun r => r.getD i 0).map qK) (by rw [List.length_map, List.length_map]; omega) (by omega) (by intro _; rfl) (fun p x kk H3 H4 hk2 e3 e4 y Q2 q2 => ?_) (fun D2 us H3 hD2 e3 h3 hus => q D2 us H3 hD2 e3 h3 hus)
    · obtain ⟨rfl, hxx⟩ := y
      rw [List.map_map, List.getElem?_map] at hk2
      cases hri : M[p]? with
      | none => rw [hri] at hk2; cases hk2
      | some r =>
        rw [hri] at hk2
        cases hk2
        have rn := SA.r r (List.mem_of_getElem? hri)
        obtain ⟨x', hx', nx⟩ := NKs.get (i := p) (k := rowK r) (hx.ex (e2.trans e3)) (by rw [List.getElem?_map, hri]; rfl)
        rw [hxx] at hx'
        cases hx'
        obtain ⟨ar, rs, rfl, har, hrs⟩ := nx.tup_inv
        obtain ⟨v, hv, nv⟩ := q_at hrs (i := i) (by omega)
        refine ⟨_, rfl, _, rfl, ar, rs, _, v, rfl, rfl, .t har, at_of (by omega) hv, q2 _ _ Ex.rfl nv⟩
  · refine ⟨_, rfl, a', C, dx', _, _, rfl, e1 _ _ ha', TC.cl, TC.r, hl', iSq_go (.t (e1 _ _ ht')) fun J w => ?_⟩
    refine lc_lists (Qd := fun D H' => _) w grow_at (mulR M N) (by unfold mulR; rw [List.length_map, SB.l, hyl]) (by omega) (by intro _; rfl) (fun i x r H2 H3 hk e2 e3 y Q' q => ?_) (fun D2 us H2 hD2 e2 hD3 hus => ?_)
    · obtain ⟨rfl, hxx⟩ := y
      unfold mulR at hk
      rw [List.getElem?_map] at hk
      cases hri : N[i]? with
      | none => rw [hri] at hk; cases hk
      | some e =>
        rw [hri] at hk
        cases hk
        have en := SB.r e (List.mem_of_getElem? hri)
        obtain ⟨x', hx', nx⟩ := NKs.get (i := i) (k := rowK e) (hy.ex (e1.trans e2)) (by rw [List.getElem?_map, hri]; rfl)
        rw [hxx] at hx'
        cases hx'
        obtain ⟨ar, rs, rfl, har, hrs⟩ := nx.tup_inv
        refine ⟨_, rfl, iSq_go (.l (e2 _ _ hD1)) fun J3 w3 => ?_⟩
        refine lc_name (Qd := fun D H' => _) w3 grow_at (((List.range M.length).map fun j => dotR e (M.map fun r => r.getD j 0)).map qK) (by rw [List.length_map, List.length_map, List.length_range, hzs.1, List.length_map, List.length_range]; omega) (by rw [hzs.1, List.length_map, List.length_range]; omega) (by intro _; rfl) (fun p x kk H3 H4 hk2 e3 e4 y Q2 q2 => ?_) (fun D2 us H3 hD2 e3 h3 hus => q D2 us H3 hD2 e3 h3 hus)
        · obtain ⟨rfl, hxx2⟩ := y
          rw [List.map_map] at hk2
          obtain ⟨hp, rfl⟩ := range_at hk2
          obtain ⟨al, as, rfl, hal, has⟩ := (hzs.ex (e2.trans e3)).2 p x _ hxx2 (by rw [List.getElem?_map, List.getElem?_range (by omega)]; rfl)
          refine ⟨_, rfl, _, rfl, _, _, rfl, ar, al, rs, as, e, _, m', m, rfl, e3 _ _ har, hrs.ex e3, rfl, hal, has, by rw [List.length_map]; omega, by omega, SB.b e (List.mem_of_getElem? hri), fun q' hq' => ?_, fun v H5 e5 h5 => q2 v H5 e5 h5⟩
          obtain ⟨r, hr', rfl⟩ := List.mem_map.mp hq'
          exact SA.b r hr' _ (mem_getD (by rw [SA.r r hr']; omega) 0)
    · exact tb_new rfl (.inl hD3) hus.ln (mulR_sqr SA SB) hm fun x H3 e3 h3 => k x H3 ((e1.trans e2).trans e3) h3
end K74
namespace K74
open PySem PySem.Spec PyProof.Rows L2
/-! ### sizes of tables of words -/
theorem restR_sqr {n : Nat} (h1 : 1 ≤ n) (h4 : n ≤ 4) : Sqr n 0 (restR n) := by
  refine ⟨by unfold restR; rw [List.length_map, List.length_range], fun x hx => ?_, h1, h4, fun x hx q hq => ?_⟩
  · obtain ⟨k, _, rfl⟩ := List.mem_map.mp hx
    rw [List.length_map, List.length_range]
  · obtain ⟨k, _, rfl⟩ := List.mem_map.mp hx
    obtain ⟨j, _, rfl⟩ := List.mem_map.mp hq
    split
    · exact Bd.one 0
    · exact Bd.zero 0
theorem behindR_sqr {ws : List Int} {M : List (List Rat)} {p : Int} {m : Nat} (hw : ∀ x ∈ ws, 1 ≤ x ∧ x ≤ 9) (hp : PrOk ws.length p) (S : Sqr ws.length m M) : Sqr ws.length (m + 1) (behindR ws M p) := by
  have hl := S.l
  rcases hp with ⟨rfl, hn⟩ | ⟨i, rfl, hi⟩
  · have ec : behindR ws M (-1) = M.set 0 ((M.getD 0 []).map fun x => -x) := if_pos rfl
    rw [ec]
    have h0 := mem_getD (show 0 < M.length by omega) []
    refine ⟨by rw [List.length_set]; exact hl, fun x hx => ?_, S.n1, S.n4, fun x hx q hq => ?_⟩
    · rcases List.mem_or_eq_of_mem_set hx with h | h
      · exact S.r x h
      · rw [h, List.length_map]; exact S.r _ h0
    · rcases List.mem_or_eq_of_mem_set hx with h | h
      · exact (S.b x h q hq).mono (by omega)
      · rw [h] at hq
        obtain ⟨y, hy, rfl⟩ := List.mem_map.mp hq
        exact ((S.b _ h0 y hy).neg).mono (by omega)
  · have ec : behindR ws M (i : Int) = (M.set i (List.zipWith (mixR (ws.getD i 1 - ws.getD (i + 1) 1) (2 * ws.getD (i + 1) 1) (ws.getD i 1 + ws.getD (i + 1) 1)) (M.getD i []) (M.getD (i + 1) []))).set (i + 1)
        (List.zipWith (mixR (2 * ws.getD i 1) (ws.getD (i + 1) 1 - ws.getD i 1) (ws.getD i 1 + ws.getD (i + 1) 1)) (M.getD i []) (M.getD (i + 1) [])) := by
      unfold behindR
      rw [if_neg (by omega)]
      simp only [Int.toNat_natCast]
    rw [ec]
    have wa := hw _ (mem_getD (show i < ws.length by omega) 1)
    have wb := hw _ (mem_getD hi 1)
    have h1 := mem_getD (show i < M.length by omega) []
    have h2 := mem_getD (show i + 1 < M.length by omega) []
    have hr1 := S.r _ h1
    have hr2 := S.r _ h2
    refine ⟨by rw [List.length_set, List.length_set]; exact hl, fun x hx => ?_, S.n1, S.n4, fun x hx q hq => ?_⟩
    · rcases List.mem_or_eq_of_mem_set hx with h | h
      · rcases List.mem_or_eq_of_mem_set h with h | h
        · exact S.r x h
        · rw [h, List.length_zipWith]; omega
      · rw [h, List.length_zipWith]; omega
    · rcases List.mem_or_eq_of_mem_set hx with h | h
      · rcases List.mem_or_eq_of_mem_set h with h | h
        · exact (S.b x h q hq).mono (by omega)
        · rw [h] at hq
          obtain ⟨j, hj⟩ := List.getElem?_of_mem hq
          obtain ⟨a, b, ha, hb, rfl⟩ := zipW_at hj
          exact (S.b _ h1 a (List.mem_of_getElem? ha)).clash1 (S.b _ h2 b (List.mem_of_getElem? hb)) wa wb
      · rw [h] at hq
        obtain ⟨j, hj⟩ := List.getElem?_of_mem hq
        obtain ⟨a, b, ha, hb, rfl⟩ := zipW_at hj
        exact (S.b _ h1 a (List.mem_of_getElem? ha)).clash2 (S.b _ h2 b (List.mem_of_getElem? hb)) wa wb
theorem foldBehind_sqr {ws : List Int} (hw : ∀ x ∈ ws, 1 ≤ x ∧ x ≤ 9) : ∀ {w : List Int} {M : List (List Rat)} {m : Nat}, (∀ p ∈ w, PrOk ws.length p) → Sqr ws.length m M → Sqr ws.length (m + w.length) (w.foldl (behindR ws) M)
  | [], _, _, _, S => S
  | p :: w, M, m, hp, S => by
    have := foldBehind_sqr hw (w := w) (fun q hq => hp q (by simp [hq])) (behindR_sqr hw (hp p (by simp)) S)
    rw [show m + (p :: w).length = m + 1 + w.length from by simp; omega]
    exact this
theorem Sqr.mono {n m m' : Nat} {M : List (List Rat)} (S : Sqr n m M) (h : m ≤ m') : Sqr n m' M := ⟨S.l, S.r, S.n1, S.n4, fun x hx q hq => (S.b x hx q hq).mono h⟩
theorem tableR_sqr {ws : List Int} {wall : Bool} {w : List Int} (W : Wk ws wall) (hp : ∀ p ∈ w, p ∈ pairsOf ws.length wall) : Sqr ws.length w.length (tableR ws w) :=
  (foldBehind_sqr W.w (fun p h => pairs_ok W.pos (hp p h)) (restR_sqr W.pos W.n)).mono (by omega)
/-! ### rest_table, table_of -/
abbrev s_rest_table : Stmt := topS 44
theorem sc_rest_table : FnScope ["row"] ["row"] (defScope s_rest_table) := ⟨rfl, rfl, rfl, by decide +kernel, rfl, by decide +kernel, by decide +kernel⟩
def spRestTb (C CT : Addr) : Sp := sp1 fun x H Q => ∃ ws v wall, RowAt C H x ws v wall ∧ Wk ws wall ∧ RetTb CT (restR ws.length) H Q
section
variable {c : Cn} {C CT : Addr}
theorem ok_rest_table (T : Tx c.mg) (D : Dn c "rest_table" s_rest_table ["row"]) (g_len : Mn c C CX0 1 "__len__" ["self"] (spRowLen C)) (g_rest_rows : Kn c CX0 1 "rest_rows" ["many"] spRest) (g_Table : Nn c CT 5 "Table" ["self", "rows"] (spTbInit CT)) : Kn c CX0 7 "rest_table" ["row"] (spRestTb C CT) := by
  have sc := sc_rest_table
  refine D.ok sc len1 (fun f cdv A outer s H vs Q E hr h => ?_)
  refine ⟨_, (pss_one (ps_ret (pe_nn g_Table (hr.mono (by decide)) rfl (pa_cons (pe_kn g_rest_rows (hr.mono (by decide)) rfl (pa_cons (pe_callB (call_lenOwn g_len (hr.mono (by decide))) (by rfl) T.len PySem.boot_len (pa_cons (pv 0) pa_nil)) pa_nil)) pa_nil)))), ?_⟩
  obtain ⟨_, rfl, ws, v, wall, hrow, W, k⟩ := h
  obtain ⟨a, dx, fs, rfl, ha, hf⟩ := id hrow
  have n4 := W.n
  refine ⟨_, rfl, a, dx, fs, rfl, ha, _, rfl, ws, v, wall, hrow, fun H1 e1 => ⟨_, rfl, by omega, by omega, ?_⟩⟩
  refine ⟨_, rfl, ws.length, rfl, n4, fun l xs H2 _ e2 hl hx => ?_⟩
  exact tb_new rfl (.inl hl) (ln_nk hx) (restR_sqr W.pos n4) (by omega) fun x H3 e3 h3 => k x H3 ((e1.trans e2).trans e3) h3
abbrev s_table_of : Stmt := topS 46
theorem sc_table_of : FnScope ["row", "word", "lines", "pair"] ["row", "word"] (defScope s_table_of) := ⟨rfl, rfl, rfl, by decide +kernel, rfl, by decide +kernel, by decide +kernel⟩
def spTableOf (C CT : Addr) : Sp := sp2 fun x w H Q => ∃ ws v wall word, RowAt C H x ws v wall ∧ Wk ws wall ∧ word.length ≤ 20 ∧ WdIn H w (pairsOf ws.length wall) word ∧ RetTb CT (tableR ws word) H Q
theorem ok_table_of (T : Tx c.mg) (RC : RwC c C) (D : Dn c "table_of" s_table_of ["row", "word"]) (g_len : Mn c C CX0 1 "__len__" ["self"] (spRowLen C)) (g_rest_rows : Kn c CX0 1 "rest_rows" ["many"] spRest) (g_check_word : Kn c CX0 3 "check_word" ["row", "word"] (spWord C))
    (g_lines_behind : Kn c CX0 5 "lines_behind" ["weights", "lines", "pair"] spBehind) (g_Table : Nn c CT 5 "Table" ["self", "rows"] (spTbInit CT)) : Kn c CX0 7 "table_of" ["row", "word"] (spTableOf C CT) := by
  have sc := sc_table_of
  refine D.ok sc len2 (fun f cdv A outer s H vs Q E hr h => ?_)
  refine ⟨_, (pss_cons (ps_set (i := 2) sc.nd rfl (.inl rfl) (pe_kn g_rest_rows (hr.mono (by decide)) rfl (pa_cons (pe_callB (call_lenOwn g_len (hr.mono (by decide))) (by rfl) T.len PySem.boot_len (pa_cons (pv 0) pa_nil)) pa_nil)))
  (pss_cons (ps_for PassesOwn.never rfl (pi_sq (pe_kn g_check_word (hr.mono (by decide)) rfl (pa_cons (pv 0) (pa_cons (pv 1) pa_nil)))) (pg_name (i := 3) sc.nd rfl (.inl rfl))
    (pss_one (ps_set (i := 2) sc.nd rfl (.inl rfl) (pe_kn g_lines_behind (hr.mono (by decide)) rfl (pa_cons (pe_fld (pv 0) rfl) (pa_cons (pv 2) (pa_cons (pv 3) pa_nil)))))))
  (pss_one (ps_ret (pe_nn g_Table (hr.mono (by decide)) rfl (pa_cons (pv 2) pa_nil)))))), ?_⟩
  obtain ⟨_, w, rfl, ws, v, wall, word, hrow, W, hwl, hw, k⟩ := h
  obtain ⟨a, dx, fs, rfl, ha, hf⟩ := id hrow
  obtain ⟨aw, w1, w2⟩ := hf.w
  have n4 := W.n
  refine ⟨_, rfl, a, dx, fs, rfl, ha, _, rfl, ws, v, wall, hrow, fun H1 e1 => ⟨_, rfl, by omega, by omega, ?_⟩⟩
  refine ⟨_, rfl, ws.length, rfl, n4, fun l xs H2 _ e2 hl hx => ?_⟩
  have E2 := e1.trans e2
  refine ⟨_, rfl, _, rfl, _, _, rfl, ws, v, wall, word, hrow.ex E2, hw.ex E2, fun lw H3 e3 hlw => iSq_go (.t hlw) fun J wk => ?_⟩
  obtain ⟨_, _, _, _, hpw⟩ := hw
  have E3 := E2.trans e3
  refine for_it wk (fun i σ' H' => ∃ (ar : Addr) (ys : List V) (y : Option V), σ' = [some (.ref a), some w, some (.ref ar), y] ∧ Ex H3 H' ∧ H' ar = some (.lst ys) ∧ NKs H' ((tableR ws (word.take i)).map rowK) ys) ⟨l, xs, none, rfl, Ex.rfl, e3 _ _ hl, hx.ex e3⟩
    (fun i σ' H' _ p => by obtain ⟨_, _, _, _, p, _⟩ := p; exact p) (fun i z σ' H' H'' hi p y => ?_) (fun σ' H' p => ?_)
  · obtain ⟨ar, ys, y3, rfl, e, hS, hN⟩ := p
    obtain ⟨rfl, hz⟩ := y
    rw [List.getElem?_map] at hz
    cases hwi : word[i]? with
    | none => rw [hwi] at hz; cases hz
    | some pi =>
      rw [hwi] at hz
      cases hz
      have hpi := hpw pi (List.mem_of_getElem? hwi)
      have E := E3.trans e
      have S := tableR_sqr W (w := word.take i) fun q hq => hpw q (List.mem_of_mem_take hq)
      have htl : (word.take i).length ≤ 20 := by rw [List.length_take]; omega
      refine ⟨_, rfl, a, C, dx, _, _, rfl, E _ _ ha, RC.cl, RC.w, w1, _, rfl, _, rfl, ?_⟩
      refine ⟨_, _, _, rfl, aw, ar, ws, ys, _, pi, rfl, E _ _ w2, rfl, hS, hN, rfl, S.l, S.r, n4, W.w, pairs_ok W.pos hpi, fun r hr' q hq => (S.b r hr' q hq).sm (by omega), fun p zs H4 _ e4 hz hzs => ?_⟩
      refine ⟨p, zs, _, rfl, e.trans e4, hz, ?_⟩
      have es : tableR ws (word.take (i + 1)) = behindR ws (tableR ws (word.take i)) pi := by
        unfold tableR
        rw [take_snoc hwi, List.foldl_append]
        rfl
      rw [es]
      exact hzs
  · obtain ⟨ar, ys, y3, rfl, e, hS, hN⟩ := p
    rw [List.length_map, List.take_length] at hN
    refine ⟨_, rfl, ?_⟩
    exact tb_new rfl (.inl hS) (ln_nk hN) (tableR_sqr W hpw) (by omega) fun x H4 e4 h4 => k x H4 ((E3.trans e).trans e4) h4
end
/-! ### carried -/
abbrev s_carried : Stmt := topS 50
theorem sc_carried : FnScope ["row", "word", "balls", "is_turned", "_", "pair"] ["row", "word"] (defScope s_carried) := ⟨rfl, rfl, rfl, by decide +kernel, rfl, by decide +kernel, by decide +kernel⟩
def spCarried (C : Addr) : Sp := sp2 fun x w H Q => ∃ (ws : List Int) (v : List Rat) (wall : Bool) (aw : Addr) (word : List Int), RowAt C H x ws v wall ∧ Wk ws wall ∧ w = .ref aw ∧ H aw = some (.tup (word.map V.int)) ∧ (∀ p ∈ word, p ∈ pairsOf ws.length wall) ∧
  ∀ t l1 l2 H', Ex H H' → H' t = some (.tup [.ref l1, .ref l2]) → H' l1 = some (.lst ((carriedR ws.length word).1.map V.int)) → H' l2 = some (.lst ((carriedR ws.length word).2.map V.bl)) → Q (.ref t) H'
theorem carriedR_snoc (n : Nat) (w : List Int) (p : Int) : carriedR n (w ++ [p]) = (fun (s : List Int × List Bool) => if p = -1 then (s.1, s.2.set 0 (!(s.2.getD 0 false)))
    else ((s.1.set p.toNat (s.1.getD (p.toNat + 1) 0)).set (p.toNat + 1) (s.1.getD p.toNat 0), (s.2.set p.toNat (s.2.getD (p.toNat + 1) false)).set (p.toNat + 1) (s.2.getD p.toNat false))) (carriedR n w) := by
  unfold carriedR
  rw [List.foldl_append]
  rfl
theorem carriedR_len (n : Nat) (w : List Int) : (carriedR n w).1.length = n ∧ (carriedR n w).2.length = n := by
  unfold carriedR
  generalize h0 : (((List.range n).map (fun (i : Nat) => (i : Int)), List.replicate n false) : List Int × List Bool) = s0
  have : s0.1.length = n ∧ s0.2.length = n := by rw [← h0]; simp
  clear h0
  induction w generalizing s0 with
  | nil => exact this
  | cons p w ih =>
    rw [List.foldl_cons]
    refine ih _ ?_
    split
    · exact ⟨this.1, by simpa using this.2⟩
    · exact ⟨by simpa using this.1, by simpa using this.2⟩
theorem bls_at {bs : List Bool} {i : Nat} (h : i < bs.length) : (bs.map V.bl)[i]? = some (.bl (bs.getD i false)) := by rw [List.getElem?_map, getD_some h false]; rfl
theorem ints_at0 {ws : List Int} {i : Nat} (h : i < ws.length) : (ws.map V.int)[i]? = some (.int (ws.getD i 0)) := ints_at h 0
section
variable {c : Cn} {C : Addr}
theorem ok_carried (T : Tx c.mg) (D : Dn c "carried" s_carried ["row", "word"]) (g_len : Mn c C CX0 1 "__len__" ["self"] (spRowLen C)) : Kn c CX0 3 "carried" ["row", "word"] (spCarried C) := by
  have sc := sc_carried
  refine D.ok sc len2 (fun f cdv A outer s H vs Q E hr h => ?_)
  refine ⟨_, (pss_cons (ps_set (i := 2) sc.nd rfl (.inl rfl) (pe_listRg rfl (by rfl) T.list (prg_1 (by rfl) T.range (pe_callB (call_lenOwn g_len (hr.mono (by decide))) (by rfl) T.len PySem.boot_len (pa_cons (pv 0) pa_nil)))))
  (pss_cons (ps_setLc (i := 3) (own := [("_", 4)]) (g := gName 4) (tt := tYes) rfl sc.nd rfl rfl (sw_true rfl rfl rfl (by decide +kernel)) (pi_sq (pv 2)) (blkOk_by (by kernel_rfl)) (fun _ _ _ _ _ => (pg_name (i := 4) sc.nd rfl (.inl rfl))) (fun _ _ _ _ _ => pts_nil) (fun _ _ _ _ _ => pe_bl))
  (pss_cons (ps_for PassesOwn.never rfl (pi_sq (pv 1)) (pg_name (i := 5) sc.nd rfl (.inl rfl))
    (pss_cons (ps_if (pt_cmpR op_eq (pv 5) (pe_un un_neg pe_int) (nomark _)) (pss_cons (ps_asg (pe_not (pe_ix ix_sq (pv 3) pe_int (fun _ _ => rfl))) (pg_sub (pv 3) pe_int set_list))
      (pss_one ps_continue))
      pss_nil)
    (pss_cons (ps_asg (pe_tup (pa_cons (pe_ix ix_sq (pv 2) (pe_op op_add (pv 5) pe_int) (fun _ _ => rfl)) (pa_cons (pe_ix ix_sq (pv 2) (pv 5) (fun _ _ => rfl)) pa_nil))) (pg_tup rfl (pgs_cons (pg_sub (pv 2) (pv 5) set_list) (pgs_cons (pg_sub (pv 2) (pe_op op_add (pv 5) pe_int) set_list) pgs_nil))))
    (pss_one (ps_asg (pe_tup (pa_cons (pe_ix ix_sq (pv 3) (pe_op op_add (pv 5) pe_int) (fun _ _ => rfl)) (pa_cons (pe_ix ix_sq (pv 3) (pv 5) (fun _ _ => rfl)) pa_nil))) (pg_tup rfl (pgs_cons (pg_sub (pv 3) (pv 5) set_list) (pgs_cons (pg_sub (pv 3) (pe_op op_add (pv 5) pe_int) set_list) pgs_nil))))))))
  (pss_one (ps_ret (pe_tup (pa_cons (pv 2) (pa_cons (pv 3) pa_nil)))))))), ?_⟩
  obtain ⟨_, _, rfl, ws, v, wall, aw, word, hrow, W, rfl, haw, hpw, k⟩ := h
  obtain ⟨a, dx, fs, rfl, ha, hf⟩ := id hrow
  have n4 := W.n
  have npos := W.pos
  refine ⟨_, rfl, a, dx, fs, rfl, ha, _, rfl, ws, v, wall, hrow, fun H1 e1 => ⟨_, rfl, by omega, by omega, ?_⟩⟩
  refine ⟨_, rfl, RgOk.of_le (by omega) (by omega) (by omega) (by omega), fun l1 hl1 => ?_⟩
  have er : rgV 0 (ws.length : Int) = ((List.range ws.length).map (fun (i : Nat) => (i : Int))).map V.int := by
    unfold rgV
    rw [List.map_map, show ((ws.length : Int) - 0).toNat = ws.length from by omega]
    refine List.map_congr_left fun i _ => ?_
    show V.int (0 + (i : Int)) = V.int (i : Int)
    rw [Int.zero_add]
  rw [er]
  have e2 := e1.trans (Evl.Ex.new (o := .lst (((List.range ws.length).map (fun (i : Nat) => (i : Int))).map V.int)) hl1)
  have h2 : (upd H1 l1 (.lst (((List.range ws.length).map (fun (i : Nat) => (i : Int))).map V.int))) l1 = some (.lst (((List.range ws.length).map (fun (i : Nat) => (i : Int))).map V.int)) := upd_same
  generalize upd H1 l1 (.lst (((List.range ws.length).map (fun (i : Nat) => (i : Int))).map V.int)) = H2 at *
  refine ⟨_, rfl, iSq_go (.l h2) fun J w => ?_⟩
  refine lc_rel (Qd := fun D H' => _) w grow_at (fun _ _ v _ => v = .bl false) (fun _ _ _ => ⟨fun _ _ _ h => h, fun _ _ _ _ h => h⟩) (by rw [List.length_map, List.length_map, List.length_range]; omega) (fun D acc i x H3 H4 hi e3 hD y B hB => ?_) (fun l2 zs H3 hl2 e3 h3 hzl hrel => ?_)
  · obtain ⟨rfl, hx⟩ := y
    exact hB _ _ Ex.rfl rfl fun Q' q => q _ _ Ex.rfl rfl
  have hz : zs = (List.replicate ws.length false).map V.bl := by
    refine List.ext_getElem? fun i => ?_
    rw [List.length_map, List.length_map, List.length_range] at hzl
    by_cases hi : i < ws.length
    · have h1 : zs[i]? = some zs[i] := List.getElem?_eq_getElem (by omega)
      have hm : (List.map V.bl (List.replicate ws.length false))[i]? = some (V.bl false) := by
        rw [List.map_replicate, List.getElem?_replicate, if_pos hi]
      rw [h1, hrel i _ h1, hm]
    · rw [List.getElem?_eq_none (by omega), List.getElem?_eq_none (by simp; omega)]
  subst hz
  have hne : l1 ≠ l2 := fun z => by rw [← z, h2] at hl2; cases hl2
  have E3 := e2.trans e3
  refine ⟨_, rfl, aw, _, rfl, .inr ⟨SqT.of (E3 _ _ haw), ?_⟩⟩
  have Hl1 : H l1 = none := by
    cases hh : H l1 with
    | none => rfl
    | some o => rw [e1 _ _ hh] at hl1; cases hl1
  have Hl2 : H l2 = none := by
    cases hh : H l2 with
    | none => rfl
    | some o => rw [e2 _ _ hh] at hl2; cases hl2
  have E30 := E3
  refine for_it (walk_tupE (H := H) (SqT.of haw)) (fun i σ' H' => ∃ (y4 y5 : Option V), σ' = [some (.ref a), some (.ref aw), some (.ref l1), some (.ref l2), y4, y5] ∧ Ex H H' ∧ H' l1 = some (.lst ((carriedR ws.length (word.take i)).1.map V.int)) ∧ H' l2 = some (.lst ((carriedR ws.length (word.take i)).2.map V.bl)))
    ⟨none, none, rfl, E3, e3 _ _ h2, h3⟩ (fun i σ' H' _ p => by obtain ⟨_, _, _, p, _⟩ := p; exact p) (fun i z σ' H' H'' hi p y => ?_) (fun σ' H' p => ?_)
  · obtain ⟨y4, y5, rfl, e, hb, ht⟩ := p
    obtain ⟨rfl, hz⟩ := y
    rw [List.getElem?_map] at hz
    cases hwi : word[i]? with
    | none => rw [hwi] at hz; cases hz
    | some pi =>
      rw [hwi] at hz
      cases hz
      have hpi := hpw pi (List.mem_of_getElem? hwi)
      obtain ⟨bl, tl⟩ := carriedR_len ws.length (word.take i)
      have hsn := carriedR_snoc ws.length (word.take i) pi
      rw [← take_snoc hwi] at hsn
      generalize hbt : carriedR ws.length (word.take i) = bt at *
      obtain ⟨bs, ts⟩ := bt
      replace hb : H'' l1 = some (.lst (bs.map V.int)) := hb
      replace ht : H'' l2 = some (.lst (ts.map V.bl)) := ht
      replace bl : bs.length = ws.length := bl
      replace tl : ts.length = ws.length := tl
      refine ⟨_, rfl, 1, rfl, rfl, _, rfl, ?_⟩
      rcases pairs_ok npos hpi with ⟨rfl, hn⟩ | ⟨j, rfl, hj⟩
      · have hs1 : carriedR ws.length (word.take (i + 1)) = (bs, ts.set 0 (!(ts.getD 0 false))) := hsn.trans (if_pos rfl)
        refine ite_t (decide_eq_true rfl) ?_
        have h0 : atI (ts.map V.bl) 0 = some (.bl (ts.getD 0 false)) := atI_nat (j := 0) (bls_at (by omega))
        refine ⟨_, rfl, l2, _, 0, _, rfl, rfl, .l ht, h0, _, rfl, _, rfl, l2, _, 0, 0, rfl, rfl, ht, ixN_at (j := 0) rfl (by rw [List.length_map]; omega), ?_⟩
        refine ⟨_, _, rfl, Evl.Ex.mut e Hl2, ?_, ?_⟩
        · rw [hs1, upd_ne hne]
          exact hb
        · rw [hs1, upd_same, List.map_set]
      · refine ite_f (small_neg (by omega)) ?_
        have hs2 : carriedR ws.length (word.take (i + 1)) = ((bs.set j (bs.getD (j + 1) 0)).set (j + 1) (bs.getD j 0), (ts.set j (ts.getD (j + 1) false)).set (j + 1) (ts.getD j false)) := hsn.trans (if_neg (by omega))
        have ej : (j : Int) + 1 = ((j + 1 : Nat) : Int) := by omega
        refine ⟨_, rfl, _, rfl, _, _, rfl, rfl, l1, _, _, _, rfl, rfl, .l hb, at_of (j := j + 1) ej (ints_at0 (by omega)), _, rfl, _, rfl, l1, _, _, _, rfl, rfl, .l hb, at_of (j := j) rfl (ints_at0 (by omega)), (by show 2 ≤ sizeLine; decide), fun t1 ht1 => ?_⟩
        have g1 := Evl.Ex.new (o := .tup [V.int (bs.getD (j + 1) 0), V.int (bs.getD j 0)]) ht1
        have hb1 := g1 _ _ hb
        have n2 : l2 ≠ l1 := fun z => hne z.symm
        have ml : (bs.map V.int).length = ws.length := by rw [List.length_map]; exact bl
        have ml2 : (ts.map V.bl).length = ws.length := by rw [List.length_map]; exact tl
        have ht1b := g1 _ _ ht
        have q1 := e.trans g1
        have ht11 : (upd H'' t1 (.tup [V.int (bs.getD (j + 1) 0), V.int (bs.getD j 0)])) t1 = some (.tup [V.int (bs.getD (j + 1) 0), V.int (bs.getD j 0)]) := upd_same
        generalize upd H'' t1 (.tup [V.int (bs.getD (j + 1) 0), V.int (bs.getD j 0)]) = G1 at *
        refine ⟨t1, _, rfl, SqT.of ht11, rfl, _, _, rfl, _, rfl, _, rfl, l1, _, (j : Int), j, rfl, rfl, hb1, ixN_at (j := j) rfl (by omega), ?_⟩
        refine ⟨_, _, rfl, _, rfl, _, rfl, _, _, rfl, rfl, l1, _, (j : Int) + 1, j + 1, rfl, rfl, upd_same, ixN_at (j := j + 1) ej (by rw [List.length_set]; omega), rfl, ?_⟩
        have q2 := Evl.Ex.mut (Evl.Ex.mut q1 Hl1 (o := .lst ((bs.map V.int).set j (V.int (bs.getD (j + 1) 0))))) Hl1 (o := .lst (((bs.map V.int).set j (V.int (bs.getD (j + 1) 0))).set (j + 1) (V.int (bs.getD j 0))))
        have hb2 : (upd (upd G1 l1 (.lst ((bs.map V.int).set j (V.int (bs.getD (j + 1) 0))))) l1 (.lst (((bs.map V.int).set j (V.int (bs.getD (j + 1) 0))).set (j + 1) (V.int (bs.getD j 0))))) l1 = some (.lst (((bs.map V.int).set j (V.int (bs.getD (j + 1) 0))).set (j + 1) (V.int (bs.getD j 0)))) := upd_same
        have ht2 : (upd (upd G1 l1 (.lst ((bs.map V.int).set j (V.int (bs.getD (j + 1) 0))))) l1 (.lst (((bs.map V.int).set j (V.int (bs.getD (j + 1) 0))).set (j + 1) (V.int (bs.getD j 0))))) l2 = some (.lst (ts.map V.bl)) := by
          rw [upd_ne n2, upd_ne n2]
          exact ht1b
        generalize upd (upd G1 l1 (.lst ((bs.map V.int).set j (V.int (bs.getD (j + 1) 0))))) l1 (.lst (((bs.map V.int).set j (V.int (bs.getD (j + 1) 0))).set (j + 1) (V.int (bs.getD j 0)))) = G2 at *
        refine ⟨_, rfl, _, rfl, _, _, rfl, rfl, l2, _, _, _, rfl, rfl, .l ht2, at_of (j := j + 1) ej (bls_at (by omega)), _, rfl, _, rfl, l2, _, _, _, rfl, rfl, .l ht2, at_of (j := j) rfl (bls_at (by omega)), (by show 2 ≤ sizeLine; decide), fun t2 hn2 => ?_⟩
        have g3 := Evl.Ex.new (o := .tup [V.bl (ts.getD (j + 1) false), V.bl (ts.getD j false)]) hn2
        have hb3 := g3 _ _ hb2
        have ht3 := g3 _ _ ht2
        have q3 := q2.trans g3
        have ht31 : (upd G2 t2 (.tup [V.bl (ts.getD (j + 1) false), V.bl (ts.getD j false)])) t2 = some (.tup [V.bl (ts.getD (j + 1) false), V.bl (ts.getD j false)]) := upd_same
        generalize upd G2 t2 (.tup [V.bl (ts.getD (j + 1) false), V.bl (ts.getD j false)]) = G3 at *
        refine ⟨t2, _, rfl, SqT.of ht31, rfl, _, _, rfl, _, rfl, _, rfl, l2, _, (j : Int), j, rfl, rfl, ht3, ixN_at (j := j) rfl (by omega), ?_⟩
        refine ⟨_, _, rfl, _, rfl, _, rfl, _, _, rfl, rfl, l2, _, (j : Int) + 1, j + 1, rfl, rfl, upd_same, ixN_at (j := j + 1) ej (by rw [List.length_set]; omega), rfl, ?_⟩
        refine ⟨_, _, rfl, Evl.Ex.mut (Evl.Ex.mut q3 Hl2) Hl2, ?_, ?_⟩
        · rw [hs2, upd_ne hne, upd_ne hne, List.map_set, List.map_set]
          exact hb3
        · rw [hs2, upd_same, List.map_set, List.map_set]
  · obtain ⟨y4, y5, rfl, e, hb, ht⟩ := p
    rw [List.length_map, List.take_length] at hb ht
    refine ⟨_, rfl, _, rfl, (by show 2 ≤ sizeLine; decide), fun t ht0 => ?_⟩
    exact k t l1 l2 _ (e.trans (Evl.Ex.new ht0)) upd_same ((Evl.Ex.new ht0) _ _ hb) ((Evl.Ex.new ht0) _ _ ht)
end
end K74
namespace K74
open PySem PySem.Spec PyProof.Rows L2
/-! ### like_times -/
def cntF : List Bool → Nat
  | [] => 0
  | b :: r => (if b = true then 0 else 1) + cntF r
theorem cntF_set : ∀ {l : List Bool} {j : Nat}, j < l.length → l.getD j false = false → cntF (l.set j true) + 1 = cntF l
  | [], _, h, _ => by simp at h
  | b :: r, 0, _, h => by
    simp at h
    subst h
    simp [cntF]
    omega
  | b :: r, j + 1, h, e => by
    have := cntF_set (l := r) (j := j) (by simpa using h) (by simpa using e)
    simp only [List.set_cons_succ, cntF]
    omega
theorem cntF_le : ∀ (l : List Bool), cntF l ≤ l.length
  | [] => Nat.le_refl _
  | b :: r => by
    have := cntF_le r
    simp only [cntF, List.length_cons]
    split <;> omega
theorem carriedR_rng (n : Nat) (w : List Int) (hn : 1 ≤ n) : ∀ b ∈ (carriedR n w).1, 0 ≤ b ∧ b < (n : Int) := by
  unfold carriedR
  generalize h0 : (((List.range n).map (fun (i : Nat) => (i : Int)), List.replicate n false) : List Int × List Bool) = s0
  have : s0.1.length = n ∧ ∀ b ∈ s0.1, 0 ≤ b ∧ b < (n : Int) := by
    rw [← h0]
    refine ⟨by simp, fun b hb => ?_⟩
    obtain ⟨i, hi, rfl⟩ := List.mem_map.mp hb
    rw [List.mem_range] at hi
    omega
  clear h0
  induction w generalizing s0 with
  | nil => exact this.2
  | cons p w ih =>
    rw [List.foldl_cons]
    refine ih _ ?_
    split
    · exact this
    · have gd : ∀ j, 0 ≤ s0.1.getD j 0 ∧ s0.1.getD j 0 < (n : Int) := fun j => by
        by_cases hj : j < s0.1.length
        · exact this.2 _ (mem_getD hj 0)
        · rw [List.getD_eq_getElem?_getD, List.getElem?_eq_none (by omega)]
          exact ⟨by decide, by show (0 : Int) < (n : Int); omega⟩
      refine ⟨by simpa using this.1, fun b hb => ?_⟩
      rcases List.mem_or_eq_of_mem_set hb with h | h
      · rcases List.mem_or_eq_of_mem_set h with h | h
        · exact this.2 b h
        · rw [h]; exact gd _
      · rw [h]; exact gd _
def stepL (bt : List Int × List Bool) (n : Nat) (s : List Bool × Nat) (start : Nat) : List Bool × Nat :=
  let r := roundR bt.1 bt.2 (n + 1) s.1 (start : Int) 0 0
  (r.1, if 0 < r.2.1 then Nat.lcm s.2 (if r.2.2 / 2 * 2 = r.2.2 then r.2.1 else 2 * r.2.1) else s.2)
theorem likeR_eq (n : Nat) (w : List Int) : likeR n w = ((List.range n).foldl (stepL (carriedR n w) n) (List.replicate n false, 1)).2 := rfl
abbrev s_like_times : Stmt := topS 51
theorem sc_like_times : FnScope ["row", "word", "balls", "is_turned", "found", "seen", "_", "start", "length", "turns", "ball"] ["row", "word"] (defScope s_like_times) := ⟨rfl, rfl, rfl, by decide +kernel, rfl, by decide +kernel, by decide +kernel⟩
def spLike (C : Addr) : Sp := sp2 fun x w H Q => ∃ (ws : List Int) (v : List Rat) (wall : Bool) (aw : Addr) (word : List Int), RowAt C H x ws v wall ∧ Wk ws wall ∧ w = .ref aw ∧ H aw = some (.tup (word.map V.int)) ∧ (∀ p ∈ word, p ∈ pairsOf ws.length wall) ∧ RetV (.int (likeR ws.length word : Int)) H Q
section
variable {c : Cn} {C : Addr}
theorem ok_like_times (T : Tx c.mg) (D : Dn c "like_times" s_like_times ["row", "word"]) (g_carried : Kn c CX0 3 "carried" ["row", "word"] (spCarried C)) : Kn c CX0 4 "like_times" ["row", "word"] (spLike C) := by
  have sc := sc_like_times
  refine D.ok sc len2 (fun f cdv A outer s H vs Q E hr h => ?_)
  refine ⟨_, (pss_cons (ps_asg (pe_kn g_carried (hr.mono (by decide)) rfl (pa_cons (pv 0) (pa_cons (pv 1) pa_nil))) (pg_tup rfl (pgs_cons (pg_name (i := 2) sc.nd rfl (.inl rfl)) (pgs_cons (pg_name (i := 3) sc.nd rfl (.inl rfl)) pgs_nil))))
  (pss_cons (ps_set (i := 4) sc.nd rfl (.inl rfl) pe_int)
  (pss_cons (ps_setLc (i := 5) (own := [("_", 6)]) (g := gName 6) (tt := tYes) rfl sc.nd rfl rfl (sw_true rfl rfl rfl (by decide +kernel)) (pi_sq (pv 2)) (blkOk_by (by kernel_rfl)) (fun _ _ _ _ _ => (pg_name (i := 6) sc.nd rfl (.inl rfl))) (fun _ _ _ _ _ => pts_nil) (fun _ _ _ _ _ => pe_bl))
  (pss_cons (ps_for PassesOwn.never rfl (pi_range1 rfl T.range (pa_cons (pe_callB call_len_seq (by rfl) T.len PySem.boot_len (pa_cons (pv 2) pa_nil)) pa_nil)) (pg_name (i := 7) sc.nd rfl (.inl rfl))
    (pss_cons (ps_set (i := 8) sc.nd rfl (.inl rfl) pe_int)
    (pss_cons (ps_set (i := 9) sc.nd rfl (.inl rfl) pe_int)
    (pss_cons (ps_set (i := 10) sc.nd rfl (.inl rfl) (pv 7))
    (pss_cons (ps_while PassesOwn.never (pt_not (pt_val (pe_ix ix_sq (pv 5) (pv 10) (fun _ _ => rfl))))
      (pss_cons (ps_asg pe_bl (pg_sub (pv 5) (pv 10) set_list))
      (pss_cons (ps_aug (i := 8) sc.nd rfl (.inl rfl) pe_int ip_add)
      (pss_cons (ps_aug (i := 9) sc.nd rfl (.inl rfl) (pe_ifExp (pt_val (pe_ix ix_sq (pv 3) (pv 10) (fun _ _ => rfl))) pe_int pe_int) ip_add)
      (pss_one (ps_set (i := 10) sc.nd rfl (.inl rfl) (pe_ix ix_sq (pv 2) (pv 10) (fun _ _ => rfl))))))))
    (pss_one (ps_if (pt_cmpR op_gt (pv 8) pe_int (nomark _)) (pss_one (ps_set (i := 4) sc.nd rfl (.inl rfl) (pe_callBfun cr_lcm rfl T.lcm (pa_cons (pv 4) (pa_cons (pe_ifExp (pt_cmpR op_eq (pe_op op_mulW (pe_op op_fdivW (pv 9) pe_int) pe_int) (pv 9) (nomark _)) (pv 8) (pe_op op_mulW pe_int (pv 8))) pa_nil)))))
      pss_nil)))))))
  (pss_one (ps_ret (pv 4))))))), ?_⟩
  obtain ⟨x, _, rfl, ws, v, wall, aw, word, hrow, W, rfl, haw, hpw, k⟩ := h
  have n4 := W.n
  have npos := W.pos
  obtain ⟨bl, tl⟩ := carriedR_len ws.length word
  have brng := carriedR_rng ws.length word npos
  rw [likeR_eq] at k
  refine ⟨_, rfl, _, rfl, _, _, rfl, ws, v, wall, aw, word, hrow, W, rfl, haw, hpw, fun t l1 l2 H1 e1 ht hb1 hb2 => ?_⟩
  generalize carriedR ws.length word = bt at *
  obtain ⟨bs, ts⟩ := bt
  replace hb1 : H1 l1 = some (.lst (bs.map V.int)) := hb1
  replace hb2 : H1 l2 = some (.lst (ts.map V.bl)) := hb2
  replace bl : bs.length = ws.length := bl
  replace tl : ts.length = ws.length := tl
  replace brng : ∀ b ∈ bs, 0 ≤ b ∧ b < (ws.length : Int) := brng
  generalize ws.length = n at *
  refine ⟨t, _, rfl, SqT.of ht, rfl, _, _, rfl, _, _, rfl, rfl, ?_⟩
  refine ⟨_, rfl, iSq_go (.l hb1) fun J w => ?_⟩
  refine lc_rel (Qd := fun D H' => _) w grow_at (fun _ _ v _ => v = .bl false) (fun _ _ _ => ⟨fun _ _ _ h => h, fun _ _ _ _ h => h⟩) (by rw [List.length_map]; omega) (fun D acc i x H3 H4 hi e3 hD y B hB => ?_) (fun ls zs H3 hls e3 h3 hzl hrel => ?_)
  · obtain ⟨rfl, hx⟩ := y
    exact hB _ _ Ex.rfl rfl fun Q' q => q _ _ Ex.rfl rfl
  have hz : zs = (List.replicate n false).map V.bl := by
    refine List.ext_getElem? fun i => ?_
    rw [List.length_map] at hzl
    by_cases hi : i < n
    · have h1 : zs[i]? = some zs[i] := List.getElem?_eq_getElem (by omega)
      have hm : (List.map V.bl (List.replicate n false))[i]? = some (V.bl false) := by
        rw [List.map_replicate, List.getElem?_replicate, if_pos hi]
      rw [h1, hrel i _ h1, hm]
    · rw [List.getElem?_eq_none (by omega), List.getElem?_eq_none (by simp; omega)]
  subst hz
  refine ⟨_, rfl, l1, _, rfl, .inl (SqL.of (e3 _ _ hb1)), _, rfl, by rw [List.length_map]; omega, by rw [List.length_map]; omega, ?_⟩
  rw [List.length_map]
  refine for_it (walk_rangeE (H := H1)) (fun i σ' H' => ∃ (y6 y7 y8 y9 y10 : Option V) (seen : List Bool) (found : Nat), σ' = [some x, some (.ref aw), some (.ref l1), some (.ref l2), some (.int (found : Int)), some (.ref ls), y6, y7, y8, y9, y10] ∧ Ex H1 H' ∧ H' ls = some (.lst (seen.map V.bl)) ∧ seen.length = n ∧ found ≤ 8 ^ i ∧ 1 ≤ found ∧ (List.range i).foldl (stepL (bs, ts) n) (List.replicate n false, 1) = (seen, found))
    ⟨none, none, none, none, none, List.replicate n false, 1, rfl, e3, h3, by simp, by decide, by decide, rfl⟩ (fun i σ' H' _ p => by obtain ⟨_, _, _, _, _, _, _, _, p, _⟩ := p; exact p) (fun i z σ' H' H'' hi p y => ?_) (fun σ' H' p => ?_)
  · obtain ⟨y6, y7, y8, y9, y10, seen, found, rfl, e, hs, hsl, hf1, hf2, hfold⟩ := p
    obtain ⟨rfl, rfl⟩ := y
    have hi' : i < n := by omega
    refine ⟨_, rfl, ?_⟩
    -- the while
    generalize hR : roundR bs ts (n + 1) seen (i : Int) 0 0 = R
    refine ⟨fun f σ2 H2 => ∃ (y6 : Option V) (sn : List Bool) (ln tn : Nat) (ball : Nat) (lv tv bv : Int), σ2 = [some x, some (.ref aw), some (.ref l1), some (.ref l2), some (.int (found : Int)), some (.ref ls), y6, some (.int (0 + (i : Int))), some (.int lv), some (.int tv), some (.int bv)] ∧ lv = (ln : Int) ∧ tv = (tn : Int) ∧ bv = (ball : Int) ∧ Ex H1 H2 ∧ H2 ls = some (.lst (sn.map V.bl)) ∧ sn.length = n ∧ roundR bs ts f sn (ball : Int) ln tn = R ∧ cntF sn < f ∧ ball < n ∧ ln + cntF sn ≤ n ∧ tn ≤ ln,
      ⟨n + 1, y6, seen, 0, 0, i, _, _, _, rfl, rfl, rfl, by omega, e, hs, hsl, hR, by have := cntF_le seen; omega, hi', by have := cntF_le seen; omega, Nat.le_refl _⟩, ?_⟩
    rintro f σ2 H2 ⟨y6, sn, ln, tn, ball, lv, tv, bv, rfl, elv, etv, ebv, e2, hs2, hl2, hround, hcf, hball, hlc, htn⟩
    obtain ⟨f, rfl⟩ : ∃ f', f = f' + 1 := ⟨f - 1, by omega⟩
    have hat : atI (sn.map V.bl) bv = some (.bl (sn.getD ball false)) := at_of ebv (bls_at (by omega))
    refine ⟨_, rfl, _, rfl, ls, _, _, _, rfl, rfl, .l hs2, hat, _, rfl, ?_⟩
    rw [roundR, Int.toNat_natCast] at hround
    by_cases hsb : sn.getD ball false = true
    · rw [if_pos hsb] at hround
      refine ite_f (by rw [hsb]; rfl) ?_
      refine ⟨_, rfl, _, _, rfl, rfl, _, rfl, ?_⟩
      have hstep : (List.range (i + 1)).foldl (stepL (bs, ts) n) (List.replicate n false, 1) = (sn, if 0 < ln then Nat.lcm found (if tn / 2 * 2 = tn then ln else 2 * ln) else found) := by
        rw [List.range_succ, List.foldl_append, hfold]
        show stepL (bs, ts) n (seen, found) i = _
        unfold stepL
        simp only [hR, ← hround]
      by_cases hln : 0 < ln
      · rw [if_pos hln] at hstep
        refine ite_t (decide_eq_true (by omega)) ?_
        have htl : tn ≤ 4 := by omega
        have hb8 : found < 2 ^ 60 := Nat.lt_of_le_of_lt (Nat.le_trans hf1 (Nat.pow_le_pow_right (by decide) (show i ≤ 4 by omega))) (by decide)
        have fin : ∀ g : Nat, 1 ≤ g → g ≤ 8 → Nat.lcm found g ≤ 8 ^ (i + 1) ∧ 1 ≤ Nat.lcm found g := by
          intro g g1 g8
          have hle : Nat.lcm found g ≤ found * g := Nat.le_of_dvd (Nat.mul_pos hf2 g1) (Nat.lcm_dvd_mul found g)
          have hpos : 0 < Nat.lcm found g := Nat.lcm_pos hf2 g1
          refine ⟨?_, hpos⟩
          rw [Nat.pow_succ]
          exact Nat.le_trans hle (Nat.mul_le_mul hf1 g8)
        refine ⟨_, rfl, _, rfl, _, _, rfl, rfl, wide_div (b := 10) (by decide) (by decide) (by decide) (by decide), _, _, rfl, rfl, wide_mul (a := 20) (b := 10) (by omega) (by decide) (by decide) (by decide) (by decide), _, rfl, rfl, _, rfl, ?_⟩
        subst elv etv ebv
        by_cases ht : tn / 2 * 2 = tn
        · rw [if_pos ht] at hstep
          obtain ⟨g1, g2⟩ := fin ln hln (by omega)
          refine ite_t (decide_eq_true (by show V.int ((tn : Int) / 2 * 2) = V.int (tn : Int); rw [show (tn : Int) / 2 * 2 = (tn : Int) by omega])) ⟨_, rfl, (found : Int), (ln : Int), rfl, by omega, by omega, ?_⟩
          exact ⟨y6, _, _, _, _, sn, Nat.lcm found ln, rfl, e2, hs2, hl2, g1, g2, hstep⟩
        · rw [if_neg ht] at hstep
          obtain ⟨g1, g2⟩ := fin (2 * ln) (by omega) (by omega)
          refine ite_f (decide_eq_false fun z => ht (by injection z with z; omega)) ⟨_, rfl, _, _, rfl, rfl, wide_mul (a := 10) (b := 10) (by decide) (by omega) (by decide) (by decide) (by decide), (found : Int), 2 * (ln : Int), rfl, by omega, by omega, ?_⟩
          exact ⟨y6, _, _, _, _, sn, Nat.lcm found (2 * ln), rfl, e2, hs2, hl2, g1, g2, hstep⟩
      · rw [if_neg hln] at hstep
        refine ite_f (decide_eq_false (by omega)) ?_
        exact ⟨y6, _, _, _, _, sn, found, rfl, e2, hs2, hl2, Nat.le_trans hf1 (Nat.pow_le_pow_right (by decide) (by omega)), hf2, hstep⟩
    · have hsf : sn.getD ball false = false := by simpa using hsb
      rw [if_neg hsb] at hround
      refine ite_t (by rw [hsf]; rfl) ?_
      have hls : H1 ls = none := hls
      have hc := cntF_set (l := sn) (j := ball) (by omega) hsf
      refine ⟨_, fun σ' H' p => ⟨f, Nat.lt_succ_self _, p⟩, ?_⟩
      refine ⟨_, rfl, _, rfl, ls, _, bv, ball, rfl, rfl, hs2, ixN_at ebv (by rw [List.length_map]; omega), ?_⟩
      have eM : Ex H1 (upd H2 ls (.lst ((sn.map V.bl).set ball (V.bl true)))) := Evl.Ex.mut e2 hls
      have hM : (upd H2 ls (.lst ((sn.map V.bl).set ball (V.bl true)))) ls = some (.lst ((sn.set ball true).map V.bl)) := by rw [upd_same, List.map_set]
      generalize upd H2 ls (.lst ((sn.map V.bl).set ball (V.bl true))) = H4 at *
      refine ⟨_, rfl, _, _, rfl, rfl, ?_⟩
      have hb0 := brng _ (mem_getD (show ball < bs.length by omega) 0)
      obtain ⟨nb, hnb⟩ : ∃ nb : Nat, bs.getD ball 0 = (nb : Int) := ⟨(bs.getD ball 0).toNat, by omega⟩
      rw [hnb] at hround hb0
      have hat2 : atI (ts.map V.bl) bv = some (.bl (ts.getD ball false)) := at_of ebv (bls_at (by omega))
      have hat3 : atI (bs.map V.int) bv = some (.int (nb : Int)) := by rw [← hnb]; exact at_of ebv (ints_at0 (by omega))
      refine ⟨_, rfl, _, rfl, _, rfl, l2, _, _, _, rfl, rfl, .l (eM _ _ hb2), hat2, _, rfl, ?_⟩
      by_cases htb : ts.getD ball false = true
      · rw [htb, if_pos rfl] at hround
        refine ite_t htb ⟨_, _, rfl, rfl, ?_⟩
        refine ⟨_, rfl, _, rfl, l1, _, _, _, rfl, rfl, .l (eM _ _ hb1), hat3, ?_⟩
        exact ⟨y6, sn.set ball true, ln + 1, tn + 1, nb, lv + 1, tv + 1, (nb : Int), rfl, by omega, by omega, rfl, eM, hM, by simpa using hl2, hround, by omega, by omega, by omega, by omega⟩
      · rw [if_neg htb] at hround
        refine ite_f (by simpa using htb) ⟨_, _, rfl, rfl, ?_⟩
        refine ⟨_, rfl, _, rfl, l1, _, _, _, rfl, rfl, .l (eM _ _ hb1), hat3, ?_⟩
        exact ⟨y6, sn.set ball true, ln + 1, tn, nb, lv + 1, tv + 0, (nb : Int), rfl, by omega, by omega, rfl, eM, hM, by simpa using hl2, hround, by omega, by omega, by omega, by omega⟩
  · obtain ⟨y6, y7, y8, y9, y10, seen, found, rfl, e, hs, hsl, hf1, hf2, hfold⟩ := p
    rw [Int.toNat_natCast, bl] at hfold
    rw [hfold] at k
    exact ⟨_, rfl, k _ (e1.trans e)⟩
end
end K74
namespace K74
open PySem PySem.Spec PyProof.Rows L2
/-! ### returns_after -/
abbrev s_returns_after : Stmt := topS 52
theorem sc_returns_after : FnScope ["row", "word", "told", "once", "rest", "often", "count"] ["row", "word"] (defScope s_returns_after) := ⟨rfl, rfl, rfl, by decide +kernel, rfl, by decide +kernel, by decide +kernel⟩
def spReturns (C : Addr) : Sp := sp2 fun x w H Q => ∃ ws v wall word, RowAt C H x ws v wall ∧ Wk ws wall ∧ word.length ≤ 2 ∧ WdIn H w (pairsOf ws.length wall) word ∧ RetV (optV (returnsR ws word)) H Q
section
variable {c : Cn} {C CT : Addr}
theorem ok_returns_after (T : Tx c.mg) (M : Tm c.mg) (RC : RwC c C) (TC : TbC c CT) (D : Dn c "returns_after" s_returns_after ["row", "word"]) (g_check_narrow : Kn c CX0 1 "check_narrow" ["row"] (spNarrow C)) (g_check_word : Kn c CX0 3 "check_word" ["row", "word"] (spWord C))
    (g_like_times : Kn c CX0 4 "like_times" ["row", "word"] (spLike C)) (g_table_of : Kn c CX0 7 "table_of" ["row", "word"] (spTableOf C CT)) (g_rest_table : Kn c CX0 7 "rest_table" ["row"] (spRestTb C CT)) (g_eq : Mn c CT CX0 1 "__eq__" ["self", "other"] (spTbEq CT)) (g_mul : Mn c CT CX0 7 "__mul__" ["self", "other"] (spTbMul CT)) :
    Kn c CX0 8 "returns_after" ["row", "word"] (spReturns C) := by
  have sc := sc_returns_after
  refine D.ok sc len2 (fun f cdv A outer s H vs Q E hr h => ?_)
  refine ⟨_, (pss_cons (ps_if (pt_not (pt_val (pe_fld (pv 0) rfl))) (pss_one (ps_expr (pe_kn g_check_narrow (hr.mono (by decide)) rfl (pa_cons (pv 0) pa_nil))))
    pss_nil)
  (pss_cons (ps_set (i := 2) sc.nd rfl (.inl rfl) (pe_kn g_check_word (hr.mono (by decide)) rfl (pa_cons (pv 0) (pa_cons (pv 1) pa_nil))))
  (pss_cons (ps_if (pt_val (pe_fld (pv 0) rfl)) (pss_one (ps_ret (pe_kn g_like_times (hr.mono (by decide)) rfl (pa_cons (pv 0) (pa_cons (pv 2) pa_nil)))))
    pss_nil)
  (pss_cons (ps_set (i := 3) sc.nd rfl (.inl rfl) (pe_kn g_table_of (hr.mono (by decide)) rfl (pa_cons (pv 0) (pa_cons (pv 2) pa_nil))))
  (pss_cons (ps_set (i := 4) sc.nd rfl (.inl rfl) (pe_kn g_rest_table (hr.mono (by decide)) rfl (pa_cons (pv 0) pa_nil)))
  (pss_cons (ps_set (i := 5) sc.nd rfl (.inl rfl) (pv 3))
  (pss_cons (ps_for PassesOwn.never rfl (pi_range2 rfl T.range (pa_cons pe_int (pa_cons (pe_op op_add (pe_most M.times) pe_int) pa_nil))) (pg_name (i := 6) sc.nd rfl (.inl rfl))
    (pss_cons (ps_if (pt_cmpR (op_eqOwn g_eq (hr.mono (by decide))) (pv 5) (pv 4) (nomark _)) (pss_one (ps_ret (pv 6)))
      pss_nil)
    (pss_one (ps_set (i := 5) sc.nd rfl (.inl rfl) (pe_op (op_mulOwn TC.sf g_mul (hr.mono (by decide))) (pv 5) (pv 3))))))
  (pss_one (ps_ret pe_non))))))))), ?_⟩
  obtain ⟨_, w, rfl, ws, v, wall, word, hrow, W, hwl, hw, k⟩ := h
  obtain ⟨a, dx, fs, rfl, ha, hf⟩ := id hrow
  have n4 := W.n
  -- all but the first statement, on a heap that grew
  suffices rest : ∀ H1, Ex H H1 → (tSeq _ _ : TS) { nx := fun _ H' => Q .non H', rt := Q } [some (.ref a), some w, none, none, none, none, none] H1 by
    refine ⟨_, rfl, a, C, dx, _, _, rfl, ha, RC.cl, RC.l, hf.l, _, rfl, ?_⟩
    cases hlike : isLike ws with
    | true => exact ite_f rfl (rest H Ex.rfl)
    | false => exact ite_t rfl ⟨_, rfl, _, rfl, ws, v, wall, hrow, W, fun H1 e1 => rest H1 e1⟩
  intro H1 e1
  refine ⟨_, rfl, _, rfl, _, _, rfl, ws, v, wall, word, hrow.ex e1, hw.ex e1, fun l H2 e2 hl => ?_⟩
  obtain ⟨_, _, _, _, hpw⟩ := hw
  have E2 := e1.trans e2
  refine ⟨_, rfl, a, C, dx, _, _, rfl, E2 _ _ ha, RC.cl, RC.l, hf.l, _, rfl, ?_⟩
  unfold returnsR at k
  by_cases hlike : isLike ws = true
  · rw [if_pos hlike] at k
    refine ite_t hlike ⟨_, rfl, _, rfl, _, _, rfl, ws, v, wall, l, word, hrow.ex E2, W, rfl, hl, hpw, fun H3 e3 => k H3 (E2.trans e3)⟩
  · rw [if_neg hlike] at k
    refine ite_f (by simpa using hlike) ?_
    refine ⟨_, rfl, _, rfl, _, _, rfl, ws, v, wall, word, hrow.ex E2, W, by omega, ⟨l, rfl, .inr hl, by omega, hpw⟩, fun once H3 e3 h3 => ?_⟩
    have E3 := E2.trans e3
    refine ⟨_, rfl, _, rfl, ws, v, wall, hrow.ex E3, W, fun rst H4 e4 h4 => ?_⟩
    have E4 := E3.trans e4
    refine ⟨_, rfl, _, _, rfl, rfl, 1, 7, rfl, by decide, ?_⟩
    have S1 := (tableR_sqr W hpw).mono hwl
    refine for_it (walk_rangeE (H := H4) (lo := 1) (n := 6)) (fun i σ' H' => ∃ (oft : V) (Mt : List (List Rat)) (y6 : Option V), σ' = [some (.ref a), some w, some (.ref l), some once, some rst, some oft, y6] ∧ Ex H4 H' ∧ TbAt CT H' oft Mt ∧ Sqr ws.length (2 + 6 * i) Mt ∧ timesR (tableR ws word) (restR ws.length) (6 - i) (1 + i) Mt = timesR (tableR ws word) (restR ws.length) 6 1 (tableR ws word))
      ⟨once, _, none, rfl, Ex.rfl, h3.ex e4, S1, rfl⟩ (fun i σ' H' _ p => by obtain ⟨_, _, _, _, p, _⟩ := p; exact p) (fun i z σ' H' H'' hi p y => ?_) (fun σ' H' p => ?_)
    · obtain ⟨oft, Mt, y6, rfl, e, hT, S, htm⟩ := p
      obtain ⟨rfl, rfl⟩ := y
      have hR := h4.ex e
      have hO := (h3.ex e4).ex e
      obtain ⟨a1, d1, f1, t1, rfl, g1, l1, n1⟩ := id hT
      obtain ⟨a2, d2, f2, t2, rfl, g2, l2, n2⟩ := id hR
      obtain ⟨a3, d3, f3, t3, rfl, g3, l3, n3⟩ := id hO
      refine ⟨_, rfl, _, rfl, a1, d1, f1, a2, d2, f2, rfl, rfl, g1, g2, _, _, rfl, Mt, _, hT, hR, fun H5 e5 => ⟨_, rfl, ?_⟩⟩
      rw [show 6 - i = (6 - (i + 1)) + 1 from by omega, timesR] at htm
      by_cases hM : Mt = restR ws.length
      · rw [if_pos hM] at htm
        refine ite_t (decide_eq_true hM) ⟨_, rfl, ?_⟩
        rw [← htm] at k
        have k2 := k _ ((E4.trans e).trans e5)
        have ei : (V.int (1 + (i : Int)) : V) = optV (some (1 + i)) := by
          show V.int _ = V.int _
          congr 1
        show Q (V.int (1 + (i : Int))) H5
        rw [ei]
        exact k2
      · rw [if_neg hM] at htm
        refine ite_f (decide_eq_false hM) ?_
        refine ⟨_, rfl, _, rfl, a1, d1, f1, a3, d3, f3, rfl, rfl, e5 _ _ g1, e5 _ _ g3, _, _, rfl, Mt, _, ws.length, 2 + 6 * i, 2, hT.ex e5, hO.ex e5, S, S1, by omega, fun x6 H6 e6 h6 => ?_⟩
        exact ⟨x6, _, _, rfl, (e.trans e5).trans e6, h6, (mulR_sqr S S1).mono (by omega), htm⟩
    · obtain ⟨oft, Mt, y6, rfl, e, hT, S, htm⟩ := p
      rw [← htm] at k
      exact k _ (E4.trans e)
end
end K74
namespace K74
open PySem PySem.Spec PyProof.Rows L2
/-! ### dicts whose keys are data -/
section
variable {X : Cx} {pins : List (Addr × Obj)} {σ : L2.St} {H : Hp} {s : Shared}
mutual
theorem NK.is (I : Inv X pins σ H s) : ∀ (k : NestedKey) (v : V) (u : Value), NK H k v → RelV v u → NestedIs s.heap k u
  | .none, _, u, h, r => by
    cases h
    cases (show u = Value.none from r)
    exact .none
  | .num i, _, u, h, r => by
    cases h
    obtain ⟨t, e⟩ := (show ∃ t, u = Value.int i t from r)
    subst e
    exact .int _ _
  | .text _, _, _, h, _ => by cases h
  | .tup ks, _, u, h, r => by
    cases h with
    | @tup a xs _ h1 h2 =>
      cases (show u = Value.ref a from r)
      obtain ⟨its, rv, ⟨o, ho, hc, n, hd⟩, _⟩ := I.tuple (SqT.of (K := X.K) h1)
      exact .tup ho hc hd (by simpa using NKs.is I ks xs its h2 rv)
theorem NKs.is (I : Inv X pins σ H s) : ∀ (ks : List NestedKey) (vs : List V) (us : List Value), NKs H ks vs → Vals vs us → NestedAll s.heap ks us
  | [], _, _, h, r => by cases h; cases r; exact .nil
  | k :: ks, _, _, h, r => by
    cases h with
    | cons h1 h2 =>
      cases r with
      | cons r1 r2 => exact .cons (NK.is I k _ _ h1 r1) (NKs.is I ks _ _ h2 r2)
end
end
/-- a key: a tuple, of few levels -/
def TupK (k : NestedKey) : Prop := (∃ l, k = .tup l) ∧ k.depth ≤ 8
def drO (d : Addr) (es : Array DictEntry) (ep : Nat) : HO := .ext fun h => h.DictRaw d es ep
theorem drO_ok {P : Program} {w : World} {H : Hp} {h : Heap} {d : Addr} {es : Array DictEntry} {ep : Nat} (x : h.DictRaw d es ep) : ObjOk P w H h d (drO d es ep) := by
  obtain ⟨o, ho, r⟩ := id x
  exact ⟨x, ⟨o, ho⟩, fun h1 h2 y k => y.at k⟩
abbrev Trip := NestedKey × Addr × Value
def KvRel (p : NestedKey × V) (q : Trip) : Prop := p.1 = q.1 ∧ RelV p.2 q.2.2
/-- at d a dict of these keys and values -/
def KdAt (P : Program) (w : World) (H : Hp) (d : Addr) (kvs : List (NestedKey × V)) : Prop :=
  (d == sysModules) = false ∧ kvs.length ≤ 1000 ∧ ∃ (xs : List Trip) (es : Array DictEntry) (ep : Nat), H d = some (drO d es ep) ∧ es.toList = xs.map (entryOfKey (nestedKind P w)) ∧ (xs.map (·.1)).Nodup ∧ (∀ x ∈ xs, NK H x.1 (.ref x.2.1) ∧ x.1.depth ≤ 8) ∧ Paired KvRel kvs xs
theorem KdAt.ex {P : Program} {w : World} {H H' : Hp} {d : Addr} {kvs : List (NestedKey × V)} (h : KdAt P w H d kvs) (e : Ex H H') : KdAt P w H' d kvs := by
  obtain ⟨h1, h2, xs, es, ep, h3, h4, h5, h6, h7⟩ := h
  exact ⟨h1, h2, xs, es, ep, e _ _ h3, h4, h5, fun x hx => ⟨(h6 x hx).1.ex e, (h6 x hx).2⟩, h7⟩
theorem NK.dupd {H : Hp} {d : Addr} {es : Array DictEntry} {ep : Nat} {o : HO} {k : NestedKey} {v : V} (hd : H d = some (drO d es ep)) (h : NK H k v) : NK (upd H d o) k v :=
  NK.tx (fun b xs hb => by rw [upd_ne (ne_of hb hd (by intro z; cases z))]; exact hb) _ _ h
theorem kv_keys : ∀ {kvs : List (NestedKey × V)} {xs : List Trip}, Paired KvRel kvs xs → xs.map (·.1) = kvs.map (·.1)
  | _, _, .nil => rfl
  | _, _, .cons h t => by rw [List.map_cons, List.map_cons, h.1, kv_keys t]
theorem kv_snoc {k : NestedKey} {v : V} {a : Addr} {u : Value} (r : RelV v u) : ∀ {kvs : List (NestedKey × V)} {xs : List Trip}, Paired KvRel kvs xs → Paired KvRel (kvs ++ [(k, v)]) (xs ++ [(k, a, u)])
  | _, _, .nil => .cons ⟨rfl, r⟩ .nil
  | _, _, .cons h t => .cons h (kv_snoc r t)
theorem atKey_none {xs : List Trip} {k : NestedKey} : atKey xs k = none ↔ k ∉ xs.map (·.1) := by
  unfold atKey
  rw [Option.map_eq_none_iff, List.find?_eq_none]
  constructor
  · intro h hm
    obtain ⟨x, hx, e⟩ := List.mem_map.mp hm
    exact h x hx (decide_eq_true e)
  · intro h x hx e
    exact h (List.mem_map.mpr ⟨x, hx, of_decide_eq_true e⟩)
theorem atKey_isSome (xs : List Trip) (k : NestedKey) : (atKey xs k).isSome = decide (k ∈ xs.map (·.1)) := by
  by_cases h : k ∈ xs.map (·.1)
  · rw [decide_eq_true h]
    cases e : atKey xs k with
    | none => exact absurd h (atKey_none.mp e)
    | some _ => rfl
  · rw [decide_eq_false h, atKey_none.mpr h]
    rfl
section
variable {X : Cx} {pins : List (Addr × Obj)} {σ : L2.St} {H : Hp} {s : Shared}
theorem kd_of (I : Inv X pins σ H s) {d : Addr} {kvs : List (NestedKey × V)} {xs : List Trip} {es : Array DictEntry} {ep : Nat} (h3 : H d = some (drO d es ep)) (h4 : es.toList = xs.map (entryOfKey (nestedKind X.prog X.w))) (h5 : (xs.map (·.1)).Nodup)
    (h6 : ∀ x ∈ xs, NK H x.1 (.ref x.2.1) ∧ x.1.depth ≤ 8) : s.heap.DictOfH (nestedKind X.prog X.w) d xs := by
  obtain ⟨⟨o, ho, hc, hd⟩, _, _⟩ := (show ObjOk X.prog X.w H s.heap d (drO d es ep) from I.hok d _ h3)
  exact ⟨o, es, ep, ho, hc, hd, h4, fun x hx => ⟨NK.is I _ _ _ (h6 x hx).1 rfl, (h6 x hx).2⟩, h5⟩
theorem key_is (I : Inv X pins σ H s) {k : NestedKey} {x : V} {u : Value} (hk : TupK k) (h : NK H k x) (r : RelV x u) : ∃ a, x = .ref a ∧ u = .ref a ∧ (nestedKind X.prog X.w).is s.heap k a := by
  obtain ⟨⟨l, rfl⟩, hd⟩ := hk
  obtain ⟨a, xs, rfl, h1, h2⟩ := h.tup_inv
  cases (show u = Value.ref a from r)
  exact ⟨a, rfl, rfl, NK.is I _ _ _ h rfl, hd⟩
/-- after a new key was stored -/
theorem kd_put (I : Inv X pins σ H s) {d a : Addr} {k : NestedKey} {v : V} {u : Value} {kvs : List (NestedKey × V)} {xs : List Trip} {es : Array DictEntry} {ep : Nat} {h' : Heap} {tk : Nat} (hs0 : (d == sysModules) = false) (hl : kvs.length < 1000) (h3 : H d = some (drO d es ep)) (h5 : (xs.map (·.1)).Nodup)
    (h6 : ∀ x ∈ xs, NK H x.1 (.ref x.2.1) ∧ x.1.depth ≤ 8) (h7 : Paired KvRel kvs xs) (hk : NK H k (.ref a)) (hd : k.depth ≤ 8) (hv : RelV v u) (hn : k ∉ kvs.map (·.1)) (hm : h'.DictOfH (nestedKind X.prog X.w) d (storedH xs k a u)) (hb : Heap.SameBut d s.heap h') :
    ∃ es' ep', Inv X pins σ (upd H d (drO d es' ep')) { s with heap := h', toks := tk } ∧ KdAt X.prog X.w (upd H d (drO d es' ep')) d (kvs ++ [(k, v)]) := by
  have hn' : k ∉ xs.map (·.1) := by rw [kv_keys h7]; exact hn
  rw [storedH_new (atKey_none.mpr hn')] at hm
  obtain ⟨o, es', ep', ho, hc, hd', he, hi, hnd⟩ := hm
  refine ⟨es', ep', d_write I (by rw [h3]; exact True.intro) hb ⟨o, ho⟩ (drO_ok ⟨o, ho, hc, hd'⟩), hs0, by rw [List.length_append]; exact hl, _, es', ep', upd_same, he, hnd, fun x hx => ?_, kv_snoc hv h7⟩
  rcases List.mem_append.mp hx with q | q
  · exact ⟨(h6 x q).1.dupd h3, (h6 x q).2⟩
  · rw [List.mem_singleton.mp q]
    exact ⟨hk.dupd h3, hd⟩
end
section
variable {X : Cx}
def rInN (neg : Bool) (P : Program) (w : World) : R2 := fun x y H Q => ∃ k d kvs, TupK k ∧ NK H k x ∧ y = .ref d ∧ KdAt P w H d kvs ∧ Q (.bl (if neg = true then !decide (k ∈ kvs.map (·.1)) else decide (k ∈ kvs.map (·.1)))) H
theorem op_inN (P : Program) (w : World) (hu : X.A.units + 64 < cLine) (hP : X.prog = P := by rfl) (hw : X.w = w := by rfl) : OpR X (compareOp .In) (rInN false P w) := by
  subst hP hw
  intro pins s σ H x y v u Q I rx ry h
  obtain ⟨k, d, kvs, hk, hx, rfl, ⟨g1, g2, xs, es, ep, g3, g4, g5, g6, g7⟩, q⟩ := h
  cases (show u = Value.ref d from ry)
  obtain ⟨a, rfl, rfl, ka⟩ := key_is I hk hx rx
  refine wpAny_in_heap (knd := nestedKind X.prog X.w) (show X.A.units + 1 + 8 < cLine by omega) ka g1 (kd_of (kvs := kvs) I g3 g4 g5 g6) ?_
  refine ⟨.bl _, H, I.tok _, rfl, ?_⟩
  rw [atKey_isSome, kv_keys g7]
  exact q
theorem op_notInN (P : Program) (w : World) (hu : X.A.units + 64 < cLine) (hP : X.prog = P := by rfl) (hw : X.w = w := by rfl) : OpR X (compareOp .NotIn) (rInN true P w) := by
  subst hP hw
  intro pins s σ H x y v u Q I rx ry h
  obtain ⟨k, d, kvs, hk, hx, rfl, ⟨g1, g2, xs, es, ep, g3, g4, g5, g6, g7⟩, q⟩ := h
  cases (show u = Value.ref d from ry)
  obtain ⟨a, rfl, rfl, ka⟩ := key_is I hk hx rx
  refine notIn_keyed (knd := nestedKind X.prog X.w) (show X.A.units + 1 + 8 < cLine by omega) ka g1 ⟨xs, kd_of (kvs := kvs) I g3 g4 g5 g6, rfl⟩ ?_
  refine ⟨.bl _, H, I.tok _, rfl, ?_⟩
  rw [valueAt_pairsH, Option.isSome_map, atKey_isSome, kv_keys g7]
  exact q
/-- d[k] = v, a key that is not there -/
def rSetN (P : Program) (w : World) : TSet := fun o i v H Q => ∃ k d kvs, TupK k ∧ NK H k i ∧ o = .ref d ∧ KdAt P w H d kvs ∧ kvs.length < 1000 ∧ k ∉ kvs.map (·.1) ∧ ∀ es ep, KdAt P w (upd H d (drO d es ep)) d (kvs ++ [(k, v)]) → Q (upd H d (drO d es ep))
theorem set_N (P : Program) (w : World) (hu : X.A.units + 64 < cLine) (hP : X.prog = P := by rfl) (hw : X.w = w := by rfl) : PSet X (rSetN P w) := by
  subst hP hw
  intro pins s σ H o i v ov iv u Q I ro ri rv h
  obtain ⟨k, d, kvs, hk, hx, rfl, ⟨g1, g2, xs, es, ep, g3, g4, g5, g6, g7⟩, hl, hn, q⟩ := h
  cases (show ov = Value.ref d from ro)
  obtain ⟨a, rfl, rfl, ka⟩ := key_is I hk hx ri
  have hxl : xs.length ≤ sizeLine := by
    have e : xs.length = kvs.length := by rw [← List.length_map (f := fun x : Trip => x.1), kv_keys g7, List.length_map]
    rw [e, sizeLine_eq]
    omega
  refine wpAny_setItem_heap (hsz := hxl) (knd := nestedKind X.prog X.w) (show X.A.units + 1 + 8 < cLine by omega) ka (kd_of (kvs := kvs) I g3 g4 g5 g6) fun h' hm hb => ?_
  obtain ⟨es', ep', I', hd'⟩ := kd_put (tk := s.toks + (nestedKind X.prog X.w).draws k) I g1 hl g3 g5 g6 g7 hx hk.2 rv hn hm hb
  exact ⟨_, I', q es' ep' hd'⟩
end
end K74
namespace K74
open PySem PySem.Spec PyProof.Rows L2
/-! ### a dict display -/
abbrev TPr := L2.St → Hp → (List (V × V) → Hp → Prop) → Prop
def VvRel (p : V × V) (q : Value × Value) : Prop := RelV p.1 q.1 ∧ RelV p.2 q.2
structure PPr (X : Cx) (prs : List (Sem Value × Sem Value)) (t : TPr) : Prop where
  run : ∀ (pins : List (Addr × Obj)) (s : Shared) (σ : L2.St) (H : Hp) (Q : List (V × V) → Hp → Prop), Inv X pins σ H s → t σ H Q → wpAny (model X.prog X.w) X.A (evalPairs prs) (fun vs s' => ∃ ps H', Inv X pins σ H' s' ∧ Paired VvRel ps vs ∧ Q ps H') X.xe s
def tPnil : TPr := fun _ H Q => Q [] H
def tPcons (tk tv : TE) (t : TPr) : TPr := fun σ H Q => tk σ H fun x H1 => tv σ H1 fun y H2 => t σ H2 fun r H3 => Q ((x, y) :: r) H3
section
variable {X : Cx}
theorem ppr_nil : PPr X [] tPnil := ⟨fun _ _ _ H _ I h => wpAny_pure ⟨[], H, I, .nil, h⟩⟩
theorem ppr_cons {k v : Expr} {pos : Pos} {prs : List (Sem Value × Sem Value)} {tk tv : TE} {t : TPr} (hk : PE X k tk) (hv : PE X v tv) (h : PPr X prs t) :
    PPr X ((eval k X.env, do let x ← eval v X.env; standAt pos; pure x) :: prs) (tPcons tk tv t) := by
  refine ⟨fun pins s σ H Q I h0 => ?_⟩
  unfold evalPairs
  refine wpAny_bind (thn (hk.run pins s σ H _ I h0) fun kv s1 ⟨x, H1, I1, r1, q1⟩ => ?_)
  refine wpAny_bind (wpAny_holding (wpAny_bind (thn (hv.run pins s1 σ H1 _ I1 q1) fun vv s2 ⟨y, H2, I2, r2, q2⟩ => ?_)))
  refine wpAny_bind (wpAny_standAt (wpAny_pure ?_))
  refine wpAny_bind (wpAny_holding (thn (h.run pins s2 σ H2 _ I2 q2) fun vs s3 ⟨ps, H3, I3, r3, q3⟩ => ?_))
  exact wpAny_pure ⟨(x, y) :: ps, H3, I3, .cons ⟨r1, r2⟩ r3, q3⟩
theorem carry {pins : List (Addr × Obj)} {σ : L2.St} {H : Hp} {s : Shared} (I : Inv X pins σ H s) : ∀ {ks : List NestedKey} {ps : List (V × V)} {vs : List (Value × Value)}, NKs H ks (ps.map Prod.fst) → (∀ k ∈ ks, TupK k) → Paired VvRel ps vs →
    ∃ xs : List Trip, CarriesH (nestedKind X.prog X.w) s.heap vs xs ∧ xs.map (·.1) = ks ∧ (∀ x ∈ xs, NK H x.1 (.ref x.2.1) ∧ x.1.depth ≤ 8) ∧ Paired KvRel (ks.zip (ps.map Prod.snd)) xs
  | [], [], [], h, _, .nil => by
    exact ⟨[], trivial, rfl, fun x hx => (by cases hx), .nil⟩
  | k :: ks, p :: ps, q :: vs, h, hk, .cons r t => by
    rw [List.map_cons] at h
    cases h with
    | cons h1 h2 =>
      obtain ⟨xs, c1, c2, c3, c4⟩ := carry I h2 (fun k' hk' => hk k' (by simp [hk'])) t
      obtain ⟨a, e1, e2, ka⟩ := key_is I (hk k (by simp)) h1 r.1
      obtain ⟨p1, p2⟩ := p
      obtain ⟨q1, q2⟩ := q
      replace e1 : p1 = .ref a := e1
      replace e2 : q1 = .ref a := e2
      subst e1 e2
      refine ⟨(k, a, q2) :: xs, ⟨rfl, rfl, ka, c1⟩, by rw [List.map_cons, c2], fun x hx => ?_, .cons ⟨rfl, r.2⟩ c4⟩
      rcases List.mem_cons.mp hx with z | z
      · rw [z]; exact ⟨h1, (hk k (by simp)).2⟩
      · exact c3 x z
  | [], _ :: _, _ :: _, h, _, .cons r t => by cases h
  | k :: ks, [], [], h, _, .nil => by cases h
theorem stored_all : ∀ (ps acc : List Trip), ((acc ++ ps).map (·.1)).Nodup → storedAllH acc ps = acc ++ ps
  | [], acc, _ => by rw [List.append_nil]; rfl
  | p :: ps, acc, h => by
    have hn : p.1 ∉ acc.map (·.1) := by
      rw [List.map_append, List.map_cons] at h
      intro hm
      exact (List.nodup_append.mp h).2.2 _ hm _ (by simp) rfl
    show storedAllH (storedH acc p.1 p.2.1 p.2.2) ps = _
    rw [storedH_new (atKey_none.mpr hn), stored_all ps _ (by simpa using h)]
    simp
/-- {k: v, ..}: the keys' data, all different -/
def tDisp (P : Program) (w : World) (t : TPr) : TE := fun σ H Q => ∀ d, H d = none → t σ (upd H d (drO d #[] 0)) fun ps H1 => H1 d = some (drO d #[] 0) ∧ ∃ ks, NKs H1 ks (ps.map Prod.fst) ∧ (∀ k ∈ ks, TupK k) ∧ ks.Nodup ∧ ks.length ≤ 1000 ∧
  ∀ es ep, KdAt P w (upd H1 d (drO d es ep)) d (ks.zip (ps.map Prod.snd)) → Q (.ref d) (upd H1 d (drO d es ep))
theorem pe_disp (P : Program) (w : World) {keys : List (Option Expr)} {values : List Expr} {pos : Pos} {prs : List (Sem Value × Sem Value)} {t : TPr} (hu : X.A.units + 64 < cLine) (hp : PPr X prs t)
    (hshape : (evalEachOpt keys X.env).zip ((evalEach values X.env).map fun v => do let x ← v; standAt pos; pure x) = prs.map fun p => (some p.1, p.2)) (h0 : prs ≠ []) (hlen : prs.length ≤ 15) (hP : X.prog = P := by rfl) (hw : X.w = w := by rfl) :
    PE X (.Dict keys values pos) (tDisp P w t) := by
  subst hP hw
  refine ⟨fun pins s σ H Q I h => ?_⟩
  rw [arm_eval_Dict, hshape, dictDisplay_pairs prs h0 (by omega)]
  have hn : H s.heap.objs.size = none := I.hok.fresh (Nat.le_refl _)
  have raw0 : (s.heap.push { cls := .type "dict", data := .dict #[] }).DictRaw s.heap.objs.size #[] 0 := ⟨_, Heap.get?_push_size _ rfl, ⟨rfl, rfl, rfl⟩, rfl⟩
  have I1 : Inv X pins σ (upd H s.heap.objs.size (drO s.heap.objs.size #[] 0)) { s with heap := s.heap.push { cls := .type "dict", data := .dict #[] } } :=
    I.laid (t' := s.toks) (fun b o e => Heap.get?_push_of_some _ e) (Nat.le_refl _) (drO_ok raw0)
  have hsys : (s.heap.objs.size == sysModules) = false := beq_eq_false_iff_ne.mpr (Ne.symm (Nat.ne_of_lt I.big))
  refine wpAny_bind (wpAny_standAt (wpAny_bind (wpAny_subDictH (knd := nestedKind X.prog X.w) (Q := fun d s' => wpAny (model X.prog X.w) X.A (pure (Value.ref d)) (EP X pins σ Q) X.xe s') (show X.A.units + 8 < cLine by omega) hlen ?_)))
  refine wpAny_mono (hp.run pins _ σ _ _ I1 (h _ hn)) (fun vs s1 h1 => ?_) fun _ _ e => e
  obtain ⟨ps, H1, I2, rv, hd, ks, hks, htk, hnd, hkl, q⟩ := h1
  obtain ⟨xs, c1, c2, c3, c4⟩ := carry I2 hks htk rv
  obtain ⟨raw, _, _⟩ := (show ObjOk X.prog X.w H1 s1.heap s.heap.objs.size (drO s.heap.objs.size #[] 0) from I2.hok _ _ hd)
  obtain ⟨o, ho, hc, hdt⟩ := raw
  refine ⟨xs, c1, ⟨o, #[], 0, ho, hc, hdt, rfl, fun x hx => (by cases hx), List.nodup_nil⟩, fun h' tk hm hb => ?_⟩
  have hxs : (([] ++ xs : List Trip).map (·.1)).Nodup := by rw [List.nil_append, c2]; exact hnd
  rw [stored_all xs [] hxs, List.nil_append] at hm
  obtain ⟨o', es', ep', ho', hc', hd', he, hi, hnd'⟩ := hm
  have I3 : Inv X pins σ (upd H1 s.heap.objs.size (drO s.heap.objs.size es' ep')) { s1 with heap := h', toks := tk } := d_write I2 (by rw [hd]; exact True.intro) hb ⟨o', ho'⟩ (drO_ok ⟨o', ho', hc', hd'⟩)
  have hlen2 : (ks.zip (ps.map Prod.snd)).length ≤ 1000 := by
    rw [List.length_zip]
    omega
  exact wpAny_pure ⟨.ref s.heap.objs.size, _, I3, rfl, q es' ep' ⟨hsys, hlen2, xs, es', ep', upd_same, he, hnd', fun x hx => ⟨(c3 x hx).1.dupd hd, (c3 x hx).2⟩, c4⟩⟩
end
end K74
namespace K74
open PySem PySem.Spec PyProof.Rows L2 PySem.W
/-! ### d.get(k, x) -/
def valN (kvs : List (NestedKey × V)) (k : NestedKey) : Option V := (kvs.find? fun p => decide (p.1 = k)).map (·.2)
theorem valN_rel {k : NestedKey} {y : V} {uy : Value} (ry : RelV y uy) : ∀ {kvs : List (NestedKey × V)} {xs : List Trip}, Paired KvRel kvs xs → RelV ((valN kvs k).getD y) ((valueAt (pairsH xs) k).getD uy)
  | _, _, .nil => ry
  | p :: kvs, q :: xs, .cons h t => by
    have ih := valN_rel (k := k) ry t
    rw [valueAt_pairsH] at ih ⊢
    unfold valN at ih ⊢
    unfold atKey at ih ⊢
    rw [List.find?_cons, List.find?_cons]
    by_cases e : p.1 = k
    · rw [decide_eq_true e, decide_eq_true (h.1.symm.trans e)]
      exact h.2
    · rw [decide_eq_false e, decide_eq_false (fun z => e (h.1.trans z))]
      exact ih
section
variable {X : Cx} {o e1 e2 : Expr} {to t1 t2 : TE} {apos cpos : Pos}
def tGetN (P : Program) (w : World) (to : TE) (t : TA) : TE := fun σ H Q => to σ H fun x H1 => ∃ d kvs, x = .ref d ∧ KdAt P w H1 d kvs ∧ t σ H1 fun xs H2 => ∃ k i y, xs = [i, y] ∧ TupK k ∧ NK H2 k i ∧ KdAt P w H2 d kvs ∧ Q ((valN kvs k).getD y) H2
theorem pe_getN (P : Program) (w : World) {es : List Expr} {e : Expr} {t : TA} (hu : X.A.units + 64 < cLine) (ho : PE X o to) (ha : PA X (e :: es) t)
    (hP : X.prog = P := by rfl) (hw : X.w = w := by rfl)
    (hbase : attributeBase o "get" X.env (eval o X.env) = eval o X.env := by rfl)
    (hfew : ((backTo cpos (starEach (e :: es) X.env)).all (fun x => !x.1) && (backToKw cpos (keywordEach [] X.env)).all (fun x => x.1.isSome)
      && decide ((e :: es).length + ([] : List Keyword).length + (if ([] : List Keyword).isEmpty then 0 else 1) < 30)) = true := by rfl)
    (hline : (apos.endLine == cpos.line) = true := by rfl) (hs : starEach (e :: es) X.env = (false, eval e X.env) :: starEach es X.env := by rfl) (hplain : (backTo cpos (starEach es X.env)).any (·.1) = false := by rfl) :
    PE X (.Call (.Attribute o "get" apos) (e :: es) [] cpos) (tGetN P w to t) := by
  subst hP hw
  refine ⟨fun pins s σ H Q I h => ?_⟩
  refine wpAny_Call_method_late hbase hfew hline rfl (thn (ho.run pins s σ H _ I h) fun v s1 ⟨x, H1, I1, r1, d, kvs, ex, kd1, q1⟩ => ?_)
  subst ex
  cases (show v = Value.ref d from r1)
  obtain ⟨g1, g2, xs, es', ep, g3, g4, g5, g6, g7⟩ := kd1
  have hm1 := kd_of (kvs := kvs) I1 g3 g4 g5 g6
  refine ⟨"dict", "dict.get", PySem.F.plainAttrs_dict, PySem.F.slot_dict_get, PySem.F.type_dict_get, hm1.typeIs, fun a ea => ?_, ?_⟩
  · cases ea
    obtain ⟨ob, _, _, hob, hc, _⟩ := id hm1
    exact ⟨ob, hob, hc.2.1⟩
  have hA := ha.run cpos pins s1 σ H1 _ I1 q1
  rw [hs] at hA ⊢
  refine Calls.callWith_builtin (by show (false || (backTo cpos (starEach es X.env)).any (·.1)) = false; rw [hplain] <;> rfl) (Calls.evalArgs_plain ?_)
  refine thn hA fun us s2 ⟨vs, H2, I2, r2, k, i, y, ev, hk, hi, ⟨f1, f2, ys, fs, fp, f3, f4, f5, f6, f7⟩, q⟩ => ?_
  subst ev
  obtain ⟨ui, uy, rfl, ri, ry⟩ := Vals.two r2
  obtain ⟨a, rfl, rfl, ka⟩ := key_is I2 hk hi ri
  refine getOr_keyed (knd := nestedKind X.prog X.w) (show X.A.units + 1 + 8 < cLine by omega) ka f1 ⟨ys, kd_of (kvs := kvs) I2 f3 f4 f5 f6, rfl⟩ ?_
  exact ⟨_, H2, I2.tok _, valN_rel ry f7, q⟩
end
/-! ### sorted(d), the keys tuples of ints -/
section
variable {prog : Program} {w : World} {A : Around} {E : Value → Shared → Prop} {s : Shared} {d : Addr} {es : Array DictEntry} {ep : Nat}
theorem src_raw (lo : (d == sysModules) = false) : KdlSrc prog w "dict" d d es.size (fun i v => ∃ hi : i < es.size, v = es[i].key) (fun h => h.DictRaw d es ep) where
  type := fun _ hm => hm.typeIs
  there := fun _ hm => by obtain ⟨o, ho, _⟩ := hm; exact ⟨Heap.lt_size ho, Heap.lt_size ho⟩
  keep := fun _ _ hm hk => hm.at fun o e => hk d (.inl rfl) o e
  notList := by decide
  notTuple := by decide
  hint := fun _ _ _ _ hm hq => kdl_hint_dict hm.typeIs hq
  iter := fun _ s hh hm => ⟨_, _, (fun _ _ hq => wpAny_pyIter_dict_raw lo hm hq), Walks.rawKeys hh _ d (Nat.ne_of_lt (by obtain ⟨o, ho, _⟩ := hm; exact Heap.lt_size ho)) es ep, ⟨⟨_, Heap.get?_push_size _ rfl, rfl, rfl⟩, hm.at fun o e => Heap.get?_push_of_some _ e⟩⟩
theorem collectN {R : List Value → Shared → Prop} (hh : A.handled = none) (hd : (d == sysModules) = false) (hm : s.heap.DictRaw d es ep) (hn : es.size ≤ sizeLine)
    (h : ∀ (h' : Heap) (tk : Nat), (∀ b o, s.heap.get? b = some o → h'.get? b = some o) → s.heap.objs.size < h'.objs.size → R (es.toList.map (·.key)) { s with heap := h', toks := tk }) :
    wpAny (model prog w) A (collect (.ref d)) R E s := by
  have hdl : d < s.heap.objs.size := by obtain ⟨o, ho, _⟩ := id hm; exact Heap.lt_size ho
  unfold collect
  refine wpAny_bind (wpAny_runValue (codeAny_builtin entry_proto_collect' ?_))
  rw [Around.under_plainId PySem.F.plain_proto_collect _]
  show wpAny _ A.in1 (newList [] >>= fun l => again (.builtin "list.__iadd__" ⟨[l, .ref d], []⟩)) _ _ s
  refine wpAny_bind (wpAny_newObj_type ?_)
  refine wpAny_pure ⟨plainId_quiet PySem.F.plain_list_iadd _, codeAny_builtin entry_list_iadd' ?_⟩
  rw [Around.under_plainId PySem.F.plain_list_iadd _]
  have hS₁ : (s.heap.push { cls := .type "list", data := .seq ([] : List Value).toArray }).get? s.heap.objs.size = some { cls := .type "list", data := .seq #[] } := Heap.get?_push_size _ rfl
  show wpAny _ A.in1 (Builtin.List.listExtendWith (.ref s.heap.objs.size) (.ref d) (.ref s.heap.objs.size)) _ _ _
  have key := kdl_extend (prog := prog) (w := w) (A := A) (s := { s with heap := s.heap.push { cls := .type "list", data := .seq ([] : List Value).toArray } })
    (R := fun (q : Result) (s' : Shared) => ∃ (h' : Heap) (tk : Nat) (acc' : Array Value) (c' : Nat), q = .ok (.ret (.ref s.heap.objs.size)) ∧ s' = { s with heap := h', toks := tk } ∧
      (∀ b o, s.heap.get? b = some o → h'.get? b = some o) ∧ h'.get? s.heap.objs.size = some { cls := .type "list", dict := none, data := .seq acc' c', slots := #[] } ∧ ItemsOf (fun i v => ∃ hi : i < es.size, v = es[i].key) acc' es.size)
    (src_raw (es := es) (ep := ep) hd) hh (hm.at fun o e => Heap.get?_push_of_some _ e) s.heap.objs.size (Nat.ne_of_gt hdl) (Nat.ne_of_gt hdl) (.ref s.heap.objs.size) 0 hS₁
    (fun h' tk acc' c' hk hS' hacc => ⟨h', tk, acc', c', rfl, rfl, fun b o e => hk b o (Nat.ne_of_lt (Heap.lt_size e)) (Heap.get?_push_of_some _ e), hS', hacc⟩) hn
  have fin : ∀ (acc' : Array Value), ItemsOf (fun i v => ∃ hi : i < es.size, v = es[i].key) acc' es.size → acc'.toList = es.toList.map (·.key) := fun acc' ha => by
    refine List.ext_getElem? fun i => ?_
    rw [List.getElem?_map, Array.getElem?_toList, Array.getElem?_toList]
    by_cases hi : i < es.size
    · have e1 : acc'[i]? = some (acc'[i]'(by rw [ha.1]; exact hi)) := Array.getElem?_eq_getElem _
      obtain ⟨_, e2⟩ := ha.2 i _ e1
      rw [e1, e2, Array.getElem?_eq_getElem hi]
      rfl
    · rw [Array.getElem?_eq_none (by rw [ha.1]; omega), Array.getElem?_eq_none (by omega)]
      rfl
  refine wpAny_mono key (fun fin' s' x => ?_) fun e s' x => ?_
  · cases fin' with
    | done f =>
      obtain ⟨h', tk, acc', c', e, rfl, hk, hS', ha⟩ := x
      cases e
      show wpAny _ A (load s.heap.objs.size >>= _) _ _ _
      refine wpAny_bind (wpAny_load hS' ?_)
      refine wpAny_pure ?_
      show R acc'.toList _
      rw [fin acc' ha]
      exact h h' tk hk (Heap.lt_size hS')
    | again c₁ =>
      refine ⟨x.1, codeAny_mono x.2 fun q s₂ y => ?_⟩
      obtain ⟨h', tk, acc', c', rfl, rfl, hk, hS', ha⟩ := y
      show wpAny _ A (load s.heap.objs.size >>= _) _ _ _
      refine wpAny_bind (wpAny_load hS' ?_)
      refine wpAny_pure ?_
      show R acc'.toList _
      rw [fin acc' ha]
      exact h h' tk hk (Heap.lt_size hS')
  · obtain ⟨_, _, _, _, e', _⟩ := x
    cases e'
end
theorem perm_map {α β : Type} {f : α → β} : ∀ {xs : List α} {out : List β}, out.Perm (xs.map f) → ∃ ys : List α, out = ys.map f ∧ ys.Perm xs := by
  intro xs out h
  generalize hm : xs.map f = m at h
  induction h generalizing xs with
  | nil =>
    have : xs = [] := List.map_eq_nil_iff.mp hm
    subst this
    exact ⟨[], rfl, List.Perm.refl _⟩
  | cons a p ih =>
    cases xs with
    | nil => cases hm
    | cons x xs =>
      rw [List.map_cons] at hm
      injection hm with h1 h2
      obtain ⟨ys, e, q⟩ := ih h2
      exact ⟨x :: ys, by rw [List.map_cons, e, h1], q.cons x⟩
  | swap a b l =>
    cases xs with
    | nil => cases hm
    | cons x xs =>
      cases xs with
      | nil => cases hm
      | cons y xs =>
        rw [List.map_cons, List.map_cons] at hm
        injection hm with h1 h2
        injection h2 with h2 h3
        exact ⟨y :: x :: xs, by rw [List.map_cons, List.map_cons, h1, h2, h3], List.Perm.swap _ _ _⟩
  | trans p1 p2 ih1 ih2 =>
    obtain ⟨ys, e, q⟩ := ih2 hm
    obtain ⟨zs, e', q'⟩ := ih1 (xs := ys) e.symm
    exact ⟨zs, e', q'.trans q⟩
section
variable {X : Cx}
/-- sorted(d), the keys tuples of n ints, none below 0 -/
def rSortN (P : Program) (w : World) : List V → Hp → VK → Prop := fun vs H Q => ∃ (d : Addr) (kvs : List (NestedKey × V)) (ks : List (List Int)) (n : Nat) (B : Int), vs = [.ref d] ∧ KdAt P w H d kvs ∧ kvs.map (·.1) = ks.map (fun l => NestedKey.tup (l.map .num)) ∧ kvs.length < 64 ∧ 1 ≤ n ∧
  (∀ l ∈ ks, l.length = n ∧ TS.Bd B l) ∧ ∀ p ys (ls : List (List Int)) H', Ex H H' → H' p = some (.lst ys) → ls.Perm ks → NKs H' (ls.map fun l => NestedKey.tup (l.map .num)) ys → Q (.ref p) H'
theorem cr_sortN (P : Program) (w : World) (hc : X.calm = true) (hP : X.prog = P := by rfl) (hw : X.w = w := by rfl) : CallR X (.builtin "sorted") (rSortN P w) := by
  subst hP hw
  intro pins s σ H vs us Q I r h
  obtain ⟨d, kvs, ks, n, B, rfl, ⟨g1, g2, xs, es, ep, g3, g4, g5, g6, g7⟩, hks, h64, hn, hB, q⟩ := h
  rw [Vals.ref1 r]
  have hm := kd_of (kvs := kvs) I g3 g4 g5 g6
  obtain ⟨raw, _, _⟩ := (show ObjOk X.prog X.w H s.heap d (drO d es ep) from I.hok d _ g3)
  have hxk : xs.map (·.1) = ks.map (fun l => NestedKey.tup (l.map .num)) := (kv_keys g7).trans hks
  have hxl : xs.length = kvs.length := by rw [← List.length_map (f := fun x : Trip => x.1), kv_keys g7, List.length_map]
  have hes : es.size = xs.length := by rw [← Array.length_toList, g4, List.length_map]
  have hkeys : es.toList.map (·.key) = xs.map fun x => Value.ref x.2.1 := by
    rw [g4, List.map_map]
    rfl
  -- every entry: a tuple of n ints
  have ent : ∀ x ∈ xs, ∃ l, l ∈ ks ∧ x.1 = .tup (l.map .num) ∧ TS.TupInts s.heap (.ref x.2.1) l := fun x hx => by
    have hm : x.1 ∈ ks.map (fun l => NestedKey.tup (l.map .num)) := by rw [← hxk]; exact List.mem_map_of_mem hx
    obtain ⟨l, hl, e⟩ := List.mem_map.mp hm
    refine ⟨l, hl, e.symm, ?_⟩
    have nk := (g6 x hx).1
    rw [← e] at nk
    obtain ⟨a, vs, ea, h1, h2⟩ := nk.tup_inv
    cases ea
    rw [h2.ints] at h1
    obtain ⟨its, rv, pt, _⟩ := I.tuple (SqT.of (K := X.K) h1)
    exact ⟨_, its.toArray, rfl, pt, by simpa using rv.ints⟩
  refine Calls.call_function_entry kind_sorted plain_sorted entry_sorted (args_sorted1 _) ?_
  unfold Builtin.«sorted»
  refine wpAny_bind (m := checkCount "sorted" 1 1 _) (wpAny_pure ?_)
  refine wpAny_bind (collectN (A := X.A.in1) (I.ok.hd hc) g1 raw (by rw [sizeLine_eq]; omega) fun h1 tk1 k1 hlt1 => ?_)
  rw [hkeys]
  generalize hvs : (xs.map fun x => Value.ref x.2.1) = vs
  have hvl : vs.length < 64 := by rw [← hvs, List.length_map]; omega
  refine wpAny_bind (wpAny_newList ?_ (by rw [sizeLine_eq]; omega))
  have hoL : (h1.push (seqObj "list" vs.toArray 0)).get? h1.objs.size = some (seqObj "list" vs.toArray 0) := Heap.get?_push_size _ rfl
  have x : TS.TupsOk (h1.push (seqObj "list" vs.toArray 0)) n B vs := fun v hv => by
    rw [← hvs] at hv
    obtain ⟨y, hy, rfl⟩ := List.mem_map.mp hv
    obtain ⟨l, hl, _, ht⟩ := ent y hy
    exact ⟨l, ht.keeps fun b o e _ => Heap.get?_push_of_some _ (k1 b o e), (hB l hl).1, (hB l hl).2⟩
  refine wpAny_bind (wpAny_holding (TS.call_sort_tups (s := { s with heap := h1.push (seqObj "list" vs.toArray 0), toks := tk1 }) hoL hvl hn x fun out a1 a2 => ?_))
  obtain ⟨c, hcc⟩ := sortedHeap_at (vs := vs) (out := out) hoL
  rw [← hvs] at a1
  obtain ⟨ys, e1, e2⟩ := perm_map a1
  have hle : s.heap.objs.size ≤ h1.objs.size := Nat.le_of_lt hlt1
  have keep : ∀ b o, s.heap.get? b = some o → (sortedHeap (h1.push (seqObj "list" vs.toArray 0)) h1.objs.size vs out).get? b = some o := fun b o e => by
    have hq := k1 b o e
    have hlt := Heap.lt_size hq
    rw [sortedHeap_old (Nat.ne_of_lt hlt) (by rw [size_push']; exact Nat.lt_succ_of_lt hlt)]
    exact Heap.get?_push_of_some _ hq
  have hys : ∀ y ∈ ys, y ∈ xs := fun y hy => e2.mem_iff.mp hy
  obtain ⟨ls, hls, hlp⟩ : ∃ ls : List (List Int), ys.map (·.1) = ls.map (fun l => NestedKey.tup (l.map .num)) ∧ ls.Perm ks := by
    have p := e2.map (fun x : Trip => x.1)
    rw [hxk] at p
    exact perm_map p
  have hn1 : H h1.objs.size = none := I.hok.fresh hle
  have vals : Vals (ys.map fun y => V.ref y.2.1) out.toList := by
    rw [e1]
    clear e1 e2 hys hls
    induction ys with
    | nil => exact .nil
    | cons y ys ih => exact .cons rfl ih
  have I2 : Inv X pins σ (upd H h1.objs.size (.lst (ys.map fun y => V.ref y.2.1))) { s with heap := sortedHeap (h1.push (seqObj "list" vs.toArray 0)) h1.objs.size vs out, toks := tk1 } := by
    refine I.laid (t' := tk1) keep hle (show ObjOk X.prog X.w _ _ _ (.lst _) from ⟨?_, out.toList, c, vals, by simpa using hcc⟩)
    rw [List.length_map, e2.length_eq, sizeLine_eq]
    omega
  refine wpAny_pure ⟨_, rfl, .ref h1.objs.size, _, I2, rfl, q _ _ ls _ (Evl.Ex.new hn1) upd_same hlp ?_⟩
  rw [← hls]
  have e3 := Evl.Ex.new (H := H) (o := .lst (ys.map fun y => V.ref y.2.1)) hn1
  have all : ∀ zs : List Trip, (∀ y ∈ zs, y ∈ xs) → NKs (upd H h1.objs.size (.lst (ys.map fun y => V.ref y.2.1))) (zs.map (·.1)) (zs.map fun y => V.ref y.2.1) := by
    intro zs
    induction zs with
    | nil => intro _; exact .nil
    | cons z zs ih => intro hz; exact .cons ((g6 z (hz z (by simp))).1.ex e3) (ih fun y hy => hz y (by simp [hy]))
  exact all ys hys
end
end K74
namespace K74
open PySem PySem.Spec PyProof.Rows L2
/-! ### a dict comprehension whose keys are data -/
section
variable {X : Cx} {pins : List (Addr × Obj)} {σ : L2.St} {H : Hp} {s : Shared}
theorem dictSetN {E : Value → Shared → Prop} {D : Addr} {kvs : List (NestedKey × V)} {k : NestedKey} {y v : V} {u r : Value} {Q : Unit → Shared → Prop} (I : Inv X pins σ H s) (hu : X.A.units + 64 < cLine) (hk : TupK k) (hx : NK H k y) (hD : KdAt X.prog X.w H D kvs) (hl : kvs.length < 1000) (hn : k ∉ kvs.map (·.1))
    (ry : RelV y u) (rv : RelV v r) (h : ∀ s' es ep, Inv X pins σ (upd H D (drO D es ep)) s' → KdAt X.prog X.w (upd H D (drO D es ep)) D (kvs ++ [(k, v)]) → Q () s') : wpAny (model X.prog X.w) X.A (dictSet D u r) Q E s := by
  obtain ⟨g1, g2, xs, es, ep, g3, g4, g5, g6, g7⟩ := hD
  obtain ⟨a, rfl, rfl, ka⟩ := key_is I hk hx ry
  have hxl : xs.length ≤ sizeLine := by
    have e : xs.length = kvs.length := by rw [← List.length_map (f := fun x : Trip => x.1), kv_keys g7, List.length_map]
    rw [e, sizeLine_eq]
    omega
  refine wpAny_dictSet_heap (hsz := hxl) (knd := nestedKind X.prog X.w) (show X.A.units + 8 < cLine by omega) ka (kd_of (kvs := kvs) I g3 g4 g5 g6) fun h' hm hb => ?_
  obtain ⟨es', ep', I', hd'⟩ := kd_put (tk := s.toks + (nestedKind X.prog X.w).draws k) I g1 hl g3 g5 g6 g7 hx hk.2 rv hn hm hb
  exact h _ es' ep' I' hd'
end
def tDcN (P : Program) (w : World) (wi : TI) (g : TG) (tt : TT) (tk tv : TE) (vs : List Nat) : TE := fun σ H Q => wi σ H fun J H1 => ∀ D, H1 D = none → KdAt P w (upd H1 D (drO D #[] 0)) D [] → ∃ W : Nat → Nat → Hp → Prop, (∃ m, W 0 m (upd H1 D (drO D #[] 0))) ∧ ∀ i m H, W i m H →
  (J.stop i H ∧ Q (.ref D) H) ∨ (J.go i H ∧ ∃ Nx : Hp → Prop, (∀ H', Nx H' → ∃ m', m' < m ∧ W (i + 1) m' H') ∧ ∀ x H', J.yld i H x H' → g x (wipe σ vs) H' fun σ2 H2 => wipe σ2 vs = wipe σ vs ∧ tt σ2 H2 fun b H3 =>
    if b = true then tk σ2 H3 fun y H4 => tv σ2 H4 fun z H5 => ∃ kvs k, TupK k ∧ NK H5 k y ∧ KdAt P w H5 D kvs ∧ kvs.length < 1000 ∧ k ∉ kvs.map (·.1) ∧ ∀ es ep, KdAt P w (upd H5 D (drO D es ep)) D (kvs ++ [(k, z)]) → Nx (upd H5 D (drO D es ep)) else Nx H3)
section
variable {X : Cx}
theorem dcN_run {pins : List (Addr × Obj)} {s : Shared} {σ : L2.St} {H : Hp} {Q : VK} {kx vx tg iter : Expr} {ifs : List Expr} {scope : Scope} {own : List (Str × Nat)} {pos pos' : Pos} {wi : TI} {g : TG} {tt : TT} {tk tv : TE} {use : Option (Value → Sem Unit)} {Qf : Value → Shared → Prop}
    (hu : X.A.units + 64 < cLine) (hc : X.calm = true) (hN : X.N.Nodup) (I : Inv X pins σ H s) (hi : PI X tg iter wi) (ok : BlkOk X.N X.env.scope scope own)
    (hg : ∀ (s : Shared) (H : Hp) (C : Addr) (cl : List (Str × Addr)) (fp : List Addr), PG (X.blk s H scope (compEnvC scope cl C X.env) fp) tg g) (ht : ∀ (s : Shared) (H : Hp) (C : Addr) (cl : List (Str × Addr)) (fp : List Addr), PTs (X.blk s H scope (compEnvC scope cl C X.env) fp) ifs tt)
    (hk : ∀ (s : Shared) (H : Hp) (C : Addr) (cl : List (Str × Addr)) (fp : List Addr), PE (X.blk s H scope (compEnvC scope cl C X.env) fp) kx tk)
    (he : ∀ (s : Shared) (H : Hp) (C : Addr) (cl : List (Str × Addr)) (fp : List Addr), PE (X.blk s H scope (compEnvC scope cl C X.env) fp) vx tv) (hs : ∀ x, foldedSetIterable iter X.env x = pure x)
    (h : tDcN X.prog X.w wi g tt tk tv (own.map (·.2)) σ H Q)
    (hRR : ∀ D C s' m H', Inv X pins σ H' s' → Q (.ref D) H' → s'.heap.Ns C m → FpOk X pins H' C → compPost (model X.prog X.w) X.A X.xe use Qf (.ref D) C (.ok .next) s') :
    wpAny (model X.prog X.w) X.A (comprehension (.DictComp kx vx [⟨tg, iter, ifs, 0⟩] scope pos) scope X.env pos' newDict false (eval iter X.env) use) Qf X.xe s := by
  have hfree : ∀ y ∈ scope.names, y.2 = .free → ∃ c, X.env.cells.lookup y.1 = some c := fun y hy e => by
    rcases ok.free y hy e with k | k
    · exact I.ok.has _ (.inl k)
    · exact I.ok.has _ (.inr k)
  refine wpAny_comprehension_free (use := use) rfl hs (closure_ok hfree) ok.kind (fun y hy e => by rw [ok.uniq y hy, e])
    (thn (hi.run pins s σ H _ I h) fun xv s1 hx => thn hx fun itv s2 h2 => ?_)
  obtain ⟨it, fp, tn, J, H2, e, I2, T, st2, f2, q⟩ := h2
  subst e
  refine wpAny_newObj_type (newEnv_comp ?_)
  generalize hD : s2.heap.objs.size = D
  have hDn : H2 D = none := I2.hok.fresh (Nat.le_of_eq hD)
  have raw0 : (s2.heap.push { cls := .type "dict", data := .dict #[] }).DictRaw D #[] 0 := by
    rw [← hD]
    exact ⟨_, Heap.get?_push_size _ rfl, ⟨rfl, rfl, rfl⟩, rfl⟩
  have hsys : (D == sysModules) = false := by
    rw [← hD]
    exact beq_eq_false_iff_ne.mpr (Ne.symm (Nat.ne_of_lt I2.big))
  obtain ⟨W, ⟨m0, w0⟩, turn⟩ := q D hDn ⟨hsys, Nat.zero_le _, [], #[], 0, upd_same, rfl, List.nodup_nil, fun x hx => (by cases hx), .nil⟩
  generalize hs3 : ({ s2 with heap := s2.heap.push { cls := .type "dict", data := .dict #[] } } : Shared) = s3
  have I3 : Inv X pins σ (upd H2 D (drO D #[] 0)) s3 := by
    rw [← hs3]
    exact I2.laid (t' := s2.toks) (fun b o e => Heap.get?_push_of_some _ e) (Nat.le_of_eq hD) (drO_ok raw0)
  have h3 : s3.heap = s2.heap.push { cls := .type "dict", data := .dict #[] } := by rw [← hs3]
  have sz : ∀ b ∈ fp, b < s2.heap.objs.size := fun b hb => by
    obtain ⟨o, e, _⟩ := T.obj _ _ st2 b hb
    exact Heap.lt_size e
  have f3 : ∀ b ∈ fp, FpOk X pins (upd H2 D (drO D #[] 0)) b ∧ b < s3.heap.objs.size := fun b hb => by
    have hlt := sz b hb
    refine ⟨⟨?_, (f2 b hb).2⟩, by rw [h3, Heap.size_push]; exact Nat.lt_succ_of_lt hlt⟩
    rw [upd_ne (by rw [← hD]; exact Nat.ne_of_lt hlt)]
    exact (f2 b hb).1
  have st3 : tn 0 s3.heap := T.keep _ _ _ st2 fun b _ o e => by rw [h3]; exact Heap.get?_push_of_some _ e
  have I4 := block_start I3 ok hN f3
  have pg := hg s3 (upd H2 D (drO D #[] 0)) s3.heap.objs.size (cellsFrom (s3.heap.objs.size + 1) scope.names (cloFrom X.env.cells scope.names [])) fp
  have pt := ht s3 (upd H2 D (drO D #[] 0)) s3.heap.objs.size (cellsFrom (s3.heap.objs.size + 1) scope.names (cloFrom X.env.cells scope.names [])) fp
  have pk := hk s3 (upd H2 D (drO D #[] 0)) s3.heap.objs.size (cellsFrom (s3.heap.objs.size + 1) scope.names (cloFrom X.env.cells scope.names [])) fp
  have pe := he s3 (upd H2 D (drO D #[] 0)) s3.heap.objs.size (cellsFrom (s3.heap.objs.size + 1) scope.names (cloFrom X.env.cells scope.names [])) fp
  show codeAny _ _ (.compStart (.DictComp kx vx [⟨tg, iter, ifs, 0⟩] scope pos) 0 (.ref it) (.ref D) (compEnvC scope (cellsFrom (s3.heap.objs.size + 1) scope.names (cloFrom X.env.cells scope.names [])) s3.heap.objs.size X.env)) (compPost (model X.prog X.w) X.A X.xe use Qf (.ref D) s3.heap.objs.size) { s3 with heap := pushCells (s3.heap.push { cls := .type "dict", data := .dict #[] }) scope.names }
  have nfp : ∀ b ∈ fp, (upd H2 D (drO D #[] 0)) b = none := fun b hb => (f3 b hb).1.1
  generalize hce : compEnvC scope (cellsFrom (s3.heap.objs.size + 1) scope.names (cloFrom X.env.cells scope.names [])) s3.heap.objs.size X.env = ce at I4 pg pt pk pe ⊢
  have cL : ce.locals = s3.heap.objs.size := by subst hce; rfl
  generalize hH3 : upd H2 D (drO D #[] 0) = H3 at I3 I4 pg pt pk pe w0 nfp f3
  generalize hs4 : ({ s3 with heap := pushCells (s3.heap.push { cls := .type "dict", data := .dict #[] }) scope.names } : Shared) = s4 at I4 ⊢
  have st4 : tn 0 s4.heap := T.keep _ _ _ st3 fun b _ o e => by rw [← hs4]; exact pushCells_keeps _ _ _ _ (Heap.get?_push_of_some _ e)
  have stat : ∀ {σ' : L2.St} {H' : Hp} {s' : Shared}, Inv (X.blk s3 H3 scope ce fp) [] σ' H' s' → (∀ b ∈ fp, H' b = none) → ∀ b ∈ fp, FpOk (X.blk s3 H3 scope ce fp) [] H' b := fun {σ' H' s'} I' hn b hb =>
    ⟨hn b hb, (I'.ok.exf b hb).1, I'.ok.exfs b hb, .inl hb, fun x c e => (I'.ok.exf b hb).2 x c e, fun p hp => absurd (show p ∈ ([] : List (Addr × Obj)) ++ [] from hp) (by simp)⟩
  have loop : codeAny (model X.prog X.w) X.A (.compLoop (.DictComp kx vx [⟨tg, iter, ifs, 0⟩] scope pos) 0 (.ref it) (.ref D) ce) (compPost (model X.prog X.w) X.A X.xe use Qf (.ref D) s3.heap.objs.size) s4 := by
    refine compLoop_anyD (fun n s' => ∃ i H', Inv (X.blk s3 H3 scope ce fp) [] (wipe σ (own.map (·.2))) H' s' ∧ tn i s'.heap ∧ (∀ b ∈ fp, H' b = none) ∧ W i n H') ?_ m0 ⟨0, H3, I4, st4, nfp, w0⟩
    rintro n s5 ⟨i, H5, I5, st5, n5, w5⟩
    rcases turn i n H5 w5 with ⟨stop, qq⟩ | ⟨go, Nx, hNx, step⟩
    · have td := T.done (X.blk s3 H3 scope ce fp) rfl rfl rfl hc i [] s5 _ H5 (fun _ _ => False) I5 (stat I5 n5) st5 stop
      refine thnF td fun r s6 ⟨hr, I6⟩ => ?_
      subst hr
      have I7 : Inv X pins σ H5 s6 := I3.call' (ch := fp) I6.os I6.base I6.hok I6.bare fun b hb => ⟨(f3 b hb).1.2.2.2.1, (f3 b hb).1.2.1, (f3 b hb).1.2.2.2.2.1, (f3 b hb).1.2.2.2.2.2⟩
      have nC : H5 s3.heap.objs.size = none := by
        have z : H5 ce.locals = none := I6.free
        rw [cL] at z
        exact z
      obtain ⟨m, hn, _⟩ := I6.loc
      have hn : s6.heap.Ns ce.locals m := hn
      rw [cL] at hn
      exact hRR D s3.heap.objs.size s6 m H5 I7 qq hn (I3.fpOk (Nat.le_refl _) nC)
    · have ti := T.item (X.blk s3 H3 scope ce fp) rfl rfl rfl hc i [] s5 _ H5 (fun _ _ => False) I5 (stat I5 n5) st5 go
      refine thnF ti fun r s6 ⟨u, hr, h6⟩ => ?_
      subst hr
      refine thnF h6 fun _ s7 ⟨x, H7, I7, r7, y7, st7, n7⟩ => ?_
      have I7' := I7.pinned (stat I7 n7) (T.obj _ _ st7)
      refine thnF (pg.run _ s7 _ H7 x u _ I7' r7 (step x H7 y7)) fun _ s8 ⟨σ8, H8, I8, hw8, q8⟩ => ?_
      refine thnF (pt.run _ s8 σ8 H8 _ I8 q8) fun b s9 ⟨H9, I9, q9⟩ => ?_
      have fin : ∀ {s' : Shared} {H' : Hp}, Inv (X.blk s3 H3 scope ce fp) ([] ++ pinsAt fp s7.heap) σ8 H' s' → Nx H' → ∃ m, m < n ∧ ∃ i H', Inv (X.blk s3 H3 scope ce fp) [] (wipe σ (own.map (·.2))) H' s' ∧ tn i s'.heap ∧ (∀ b ∈ fp, H' b = none) ∧ W i m H' := fun {s' H'} I' nx => by
        obtain ⟨m', hm, w'⟩ := hNx H' nx
        have pin' : ∀ b ∈ fp, ∀ o, s7.heap.get? b = some o → s'.heap.get? b = some o ∧ H' b = none := fun b hb o e =>
          let z := I'.pin (b, o) (List.mem_append_right _ (List.mem_append_right _ (mem_pinsAt hb e)))
          ⟨z.1, z.2.1⟩
        have hl : (wipe σ (own.map (·.2))).length = σ8.length := by rw [← hw8, wipe_length]
        refine ⟨m', hm, i + 1, H', (I'.unpinned (pins := [])).weak hl (fun j v e => ?_), T.keep _ _ _ st7 fun b hb o e => (pin' b hb o e).1, fun b hb => ?_, w'⟩
        · rw [← hw8] at e
          exact (wipe_some e).1
        · obtain ⟨o, e, _⟩ := T.obj _ _ st7 b hb
          exact (pin' b hb o e).2
      cases b with
      | false =>
        simp only [Bool.false_eq_true, if_false] at q9 ⊢
        exact fin I9 q9
      | true =>
        simp only [if_true] at q9 ⊢
        refine thnF (pk.run _ s9 σ8 H9 _ I9 q9) fun z s10 ⟨yk, H10, I10, r10, q10⟩ => ?_
        refine thnF (pe.run _ s10 σ8 H10 _ I10 q10) fun z2 s11 ⟨yv, H11, I11, r11, kvs, k, hk1, hk2, hkd, hkl, hkn, nx⟩ => ?_
        exact dictSetN (X := X.blk s3 H3 scope ce fp) I11 hu hk1 hk2 hkd hkl hkn r10 r11 fun s12 es ep I12 kd12 => fin I12 (nx es ep kd12)
  exact codeAny_compStart_dict loop (T.self X.A 0 _ _ _ st4 loop)
theorem pe_dcN (P : Program) (w : World) {kx vx tg iter : Expr} {ifs : List Expr} {scope : Scope} {own : List (Str × Nat)} {pos : Pos} {wi : TI} {g : TG} {tt : TT} {tk tv : TE} (hu : X.A.units + 64 < cLine) (hc : X.calm = true) (hN : X.N.Nodup) (hi : PI X tg iter wi) (ok : BlkOk X.N X.env.scope scope own)
    (hg : ∀ (s : Shared) (H : Hp) (C : Addr) (cl : List (Str × Addr)) (fp : List Addr), PG (X.blk s H scope (compEnvC scope cl C X.env) fp) tg g) (ht : ∀ (s : Shared) (H : Hp) (C : Addr) (cl : List (Str × Addr)) (fp : List Addr), PTs (X.blk s H scope (compEnvC scope cl C X.env) fp) ifs tt)
    (hk : ∀ (s : Shared) (H : Hp) (C : Addr) (cl : List (Str × Addr)) (fp : List Addr), PE (X.blk s H scope (compEnvC scope cl C X.env) fp) kx tk)
    (he : ∀ (s : Shared) (H : Hp) (C : Addr) (cl : List (Str × Addr)) (fp : List Addr), PE (X.blk s H scope (compEnvC scope cl C X.env) fp) vx tv) (hs : ∀ x, foldedSetIterable iter X.env x = pure x := by intro _; rfl) (hP : X.prog = P := by rfl) (hw : X.w = w := by rfl) :
    PE X (.DictComp kx vx [⟨tg, iter, ifs, 0⟩] scope pos) (tDcN P w wi g tt tk tv (own.map (·.2))) := by
  subst hP hw
  refine ⟨fun pins s σ H Q I h => ?_⟩
  rw [arm_eval_DictComp]
  refine dcN_run hu hc hN I hi ok hg ht hk he hs h fun D C s' m H' I' q hn f => ⟨m, hn, fun h'' sb => ?_⟩
  obtain ⟨f0, f1, f2, f3, f4, f5⟩ := f
  exact ⟨.ref D, H', I'.turned (t' := s'.toks) (fun b o hb e => (sb.2 b hb).trans e) f0 f1 f3 f4 f5, rfl, q⟩
/-- name = {..} on one line, the name a local -/
theorem ps_setDcN (P : Program) (w : World) {i : Nat} {y : Str} {py : Pos} {kx vx tg iter : Expr} {ifs : List Expr} {scope : Scope} {own : List (Str × Nat)} {pos spos : Pos} {wi : TI} {g : TG} {tt : TT} {tk tv : TE} (hu : X.A.units + 64 < cLine) (hc : X.calm = true) (hN : X.N.Nodup) (hy : X.N[i]? = some y) (hyl : X.env.scope.names.lookup y = some .local)
    (hsw : swapsWith (.DictComp kx vx [⟨tg, iter, ifs, 0⟩] scope pos) (some (.Name y py)) spos.line X.env = pure true) (hi : PI X tg iter wi) (ok : BlkOk X.N X.env.scope scope own)
    (hg : ∀ (s : Shared) (H : Hp) (C : Addr) (cl : List (Str × Addr)) (fp : List Addr), PG (X.blk s H scope (compEnvC scope cl C X.env) fp) tg g) (ht : ∀ (s : Shared) (H : Hp) (C : Addr) (cl : List (Str × Addr)) (fp : List Addr), PTs (X.blk s H scope (compEnvC scope cl C X.env) fp) ifs tt)
    (hk : ∀ (s : Shared) (H : Hp) (C : Addr) (cl : List (Str × Addr)) (fp : List Addr), PE (X.blk s H scope (compEnvC scope cl C X.env) fp) kx tk)
    (he : ∀ (s : Shared) (H : Hp) (C : Addr) (cl : List (Str × Addr)) (fp : List Addr), PE (X.blk s H scope (compEnvC scope cl C X.env) fp) vx tv) (hs : ∀ x, foldedSetIterable iter X.env x = pure x := by intro _; rfl) (hP : X.prog = P := by rfl) (hw : X.w = w := by rfl) :
    PS X (.Assign [.Name y py] (.DictComp kx vx [⟨tg, iter, ifs, 0⟩] scope pos) spos) (tAsg (tDcN P w wi g tt tk tv (own.map (·.2))) (gName i)) := by
  subst hP hw
  refine ⟨fun pins s σ H D I h => ?_⟩
  rw [exec_Assign_Name_used _ _ _ _ hsw]
  refine wpAny_bind (wpAny_standAt (wpAny_bind ?_))
  show wpAny _ X.A (do let _ ← comprehension (.DictComp kx vx [⟨tg, iter, ifs, 0⟩] scope pos) scope X.env (firstIterPos [⟨tg, iter, ifs, 0⟩] pos) newDict false (eval iter X.env) (some (assign (.Name y py) X.env))) _ _ s
  have h : tDcN X.prog X.w wi g tt tk tv (own.map (·.2)) σ H (fun x H1 => gName i x σ H1 D.nx) := h
  refine wpAny_bind (thn (dcN_run (Qf := fun _ s' => SP X pins D .next s') hu hc hN I hi ok hg ht hk he hs h fun L C s' m H' I' q hn f => ?_) fun _ s' hq => wpAny_pure (wpAny_pure hq))
  show wpAny _ _ (assign (.Name y py) X.env (.ref L)) _ _ _
  refine wpAny_assign_Name (store_ok2 (v := V.ref L) I' hN hy (.inl hyl) rfl (fun s2 I2 ⟨a, sb, ha⟩ => ?_) (.inr hyl))
  obtain ⟨f0, f1, f2, f3, f4, f5⟩ := f
  have haC : C ≠ a := by
    rcases ha with z | z
    · rw [z]; exact f1
    · exact fun e => f4 y a z e.symm
  refine ⟨m, hn.sameBut sb haC, fun h3 sb3 => ?_⟩
  exact ⟨_, H', I2.turned (t' := s2.toks) (fun b o hb e => (sb3.2 b hb).trans e) f0 f1 f3 f4 f5, q⟩
theorem sw_trueD {kx vx : Expr} {gs : List Comprehension} {scope : Scope} {pos py : Pos} {y : Str} {l : Nat} {env : Env} (hk : env.scope.kind = .function) (hy : env.scope.names.lookup y = some .local) (hl : (py.line == pos.line) = true)
    (ha : (scope.names.any fun (n, k) => n == y && (k == .local || k == .cell)) = false) : swapsWith (.DictComp kx vx gs scope pos) (some (.Name y py)) l env = pure true := by
  have ky : env.kindOf y = some .local := hy
  have hb : env.blockKind = .function := by unfold Env.blockKind; rw [hk]; rfl
  unfold swapsWith
  simp only [hb, ky, ha, Expr.pos, hl]
  rfl
end
/-! ### what lasts while lists and such dicts change -/
theorem KdAt.lupd {P : Program} {w : World} {H : Hp} {d l : Addr} {kvs : List (NestedKey × V)} {acc ys : List V} (h : KdAt P w H d kvs) (hl : H l = some (.lst acc)) : KdAt P w (upd H l (.lst ys)) d kvs := by
  obtain ⟨h1, h2, xs, es, ep, h3, h4, h5, h6, h7⟩ := h
  exact ⟨h1, h2, xs, es, ep, by rw [upd_ne (ne_of h3 hl (by intro z; cases z))]; exact h3, h4, h5, fun x hx => ⟨NK.lupd hl _ _ (h6 x hx).1, (h6 x hx).2⟩, h7⟩
theorem NKs.dupd {H : Hp} {d : Addr} {es : Array DictEntry} {ep : Nat} {o : HO} (hd : H d = some (drO d es ep)) : ∀ {ks : List NestedKey} {vs : List V}, NKs H ks vs → NKs (upd H d o) ks vs
  | [], _, h => by cases h; exact .nil
  | k :: ks, _, h => by
    cases h with
    | cons h1 h2 => exact .cons (h1.dupd hd) (NKs.dupd hd h2)
end K74
namespace K74
open PySem PySem.Spec PyProof.Rows L2
/-! ### all_tables -/
def tupI (w : List Int) : NestedKey := .tup (w.map .num)
theorem tupI_inv {H : Hp} {w : List Int} {v : V} (h : NK H (tupI w) v) : ∃ a, v = .ref a ∧ H a = some (.tup (w.map V.int)) := by
  obtain ⟨a, xs, rfl, h1, h2⟩ := h.tup_inv
  rw [h2.ints] at h1
  exact ⟨a, rfl, h1⟩
theorem tupI_mk {H : Hp} {w : List Int} {a : Addr} (h : H a = some (.tup (w.map V.int))) : NK H (tupI w) (.ref a) := .tup h (NKs.ofInts w)
theorem tupK_mat (M : List (List Rat)) : TupK (matK M) := ⟨⟨_, rfl⟩, Nat.le_trans (depth_matK M) (by decide)⟩
theorem mem_mats (st : Fnd) (M : List (List Rat)) : (matK M ∈ (st.map fun x => (matK x.2, V.bl true)).map (·.1)) ↔ M ∈ st.map (·.2) := by
  rw [List.map_map]
  constructor
  · intro h
    obtain ⟨x, hx, e⟩ := List.mem_map.mp h
    exact List.mem_map.mpr ⟨x, hx, matK_inj e⟩
  · intro h
    obtain ⟨x, hx, e⟩ := List.mem_map.mp h
    exact List.mem_map.mpr ⟨x, hx, by rw [← e]; rfl⟩
/-- what stands while the tables are sought -/
structure Bf (c : Cn) (H0 : Hp) (lw lf kd : Addr) (st : Fnd) (H : Hp) : Prop where
  e : Ex H0 H
  w : ∃ wvs, H lw = some (.lst wvs) ∧ NKs H (st.map fun x => tupI x.1) wvs
  f : ∃ fvs, H lf = some (.lst fvs) ∧ fvs.length = st.length ∧ ∀ (i : Nat) v x, fvs[i]? = some v → st[i]? = some x → ∃ l ys, v = .ref l ∧ l ≠ lw ∧ l ≠ lf ∧ H l = some (.lst ys) ∧ NKs H (x.2.map rowK) ys
  k : KdAt c.P c.w H kd (st.map fun x => (matK x.2, V.bl true))
theorem Bf.ex {c : Cn} {H0 H H' : Hp} {lw lf kd : Addr} {st : Fnd} (h : Bf c H0 lw lf kd st H) (e : Ex H H') : Bf c H0 lw lf kd st H' := by
  obtain ⟨h1, ⟨wvs, h2, h3⟩, ⟨fvs, h4, h5, h6⟩, h7⟩ := h
  refine ⟨h1.trans e, ⟨wvs, e _ _ h2, h3.ex e⟩, ⟨fvs, e _ _ h4, h5, fun i v x g1 g2 => ?_⟩, h7.ex e⟩
  obtain ⟨l, ys, k1, k2, k3, k4, k5⟩ := h6 i v x g1 g2
  exact ⟨l, ys, k1, k2, k3, e _ _ k4, k5.ex e⟩
/-- sizes of what is found -/
def BfOk (ws : List Int) (st : Fnd) : Prop := st.length ≤ 48 ∧ ∀ (i : Nat) x, st[i]? = some x → x.1.length ≤ i ∧ Sqr ws.length x.1.length x.2
abbrev s_all_tables : Stmt := topS 53
theorem sc_all_tables : FnScope ["row", "words", "found", "known", "at", "pair", "lines"] ["row"] (defScope s_all_tables) := ⟨rfl, rfl, rfl, by decide +kernel, rfl, by decide +kernel, by decide +kernel⟩
def RetA (o : Option Fnd) (H : Hp) (Q : VK) : Prop := match o with
  | none => RetV .non H Q
  | some st => Ret (.tup (st.map fun x => tupI x.1)) H Q
def spAll (C : Addr) : Sp := sp1 fun x H Q => ∃ ws v wall, RowAt C H x ws v wall ∧ Wk ws wall ∧ RetA (allR ws wall) H Q
section
variable {c : Cn} {C : Addr}
theorem ok_all_tables (T : Tx c.mg) (M : Tm c.mg) (RC : RwC c C) (D : Dn c "all_tables" s_all_tables ["row"]) (g_check_narrow : Kn c CX0 1 "check_narrow" ["row"] (spNarrow C)) (g_len : Mn c C CX0 1 "__len__" ["self"] (spRowLen C)) (g_rest_rows : Kn c CX0 1 "rest_rows" ["many"] spRest)
    (g_lines_behind : Kn c CX0 5 "lines_behind" ["weights", "lines", "pair"] spBehind) : Kn c CX0 6 "all_tables" ["row"] (spAll C) := by
  have sc := sc_all_tables
  refine D.ok sc len1 (fun f cdv A outer s H vs Q E hr h => ?_)
  have hu := hr.units
  refine ⟨_, (pss_cons (ps_expr (pe_kn g_check_narrow (hr.mono (by decide)) rfl (pa_cons (pv 0) pa_nil)))
  (pss_cons (ps_set (i := 1) sc.nd rfl (.inl rfl) (pe_lst (pa_cons (pe_tup pa_nil) pa_nil)))
  (pss_cons (ps_set (i := 2) sc.nd rfl (.inl rfl) (pe_lst (pa_cons (pe_kn g_rest_rows (hr.mono (by decide)) rfl (pa_cons (pe_callB (call_lenOwn g_len (hr.mono (by decide))) (by rfl) T.len PySem.boot_len (pa_cons (pv 0) pa_nil)) pa_nil)) pa_nil)))
  (pss_cons (ps_set (i := 3) sc.nd rfl (.inl rfl) (pe_disp c.P c.w hu (ppr_cons (pe_callTy call_tupX (by rfl) T.tuple (by decide +kernel) (pa_cons (pe_ix ix_sq (pv 2) pe_int (fun _ _ => rfl)) pa_nil)) pe_bl ppr_nil) rfl (by simp) (by simp)))
  (pss_cons (ps_set (i := 4) sc.nd rfl (.inl rfl) pe_int)
  (pss_cons (ps_while PassesOwn.never (pt_cmpR op_lt (pv 4) (pe_callB call_len_seq (by rfl) T.len PySem.boot_len (pa_cons (pv 1) pa_nil)) (nomark _))
    (pss_cons (ps_for PassesOwn.never rfl (pi_sq (pe_fld (pv 0) rfl)) (pg_name (i := 5) sc.nd rfl (.inl rfl))
      (pss_cons (ps_set (i := 6) sc.nd rfl (.inl rfl) (pe_kn g_lines_behind (hr.mono (by decide)) rfl (pa_cons (pe_fld (pv 0) rfl) (pa_cons (pe_ix ix_sq (pv 2) (pv 4) (fun _ _ => rfl)) (pa_cons (pv 5) pa_nil)))))
      (pss_cons (ps_if (pt_cmpR (op_inN c.P c.w hu) (pe_callTy call_tupX (by rfl) T.tuple (by decide +kernel) (pa_cons (pv 6) pa_nil)) (pv 3) (by rfl)) (pss_one ps_continue)
        pss_nil)
      (pss_cons (ps_if (pt_cmpR op_eq (pe_callB call_len_seq (by rfl) T.len PySem.boot_len (pa_cons (pv 1) pa_nil)) (pe_most M.tables) (nomark _)) (pss_one (ps_ret pe_non))
        pss_nil)
      (pss_cons (ps_asg pe_bl (pg_sub (pv 3) (pe_callTy call_tupX (by rfl) T.tuple (by decide +kernel) (pa_cons (pv 6) pa_nil)) (set_N c.P c.w hu)))
      (pss_cons (ps_expr (pe_bm PySem.F.plainAttrs_list PySem.F.slot_list_append PySem.F.type_list_append mt_append (pv 2) (pa_cons (pv 6) pa_nil)))
      (pss_one (ps_expr (pe_bm PySem.F.plainAttrs_list PySem.F.slot_list_append PySem.F.type_list_append mt_append (pv 1) (pa_cons (pe_op op_catA (pe_ix ix_sq (pv 1) (pv 4) (fun _ _ => rfl)) (pe_tup (pa_cons (pv 5) pa_nil))) pa_nil))))))))))
    (pss_one (ps_aug (i := 4) sc.nd rfl (.inl rfl) pe_int ip_add))))
  (pss_one (ps_ret (pe_callTy call_tupX (by rfl) T.tuple (by decide +kernel) (pa_cons (pv 1) pa_nil)))))))))), ?_⟩
  obtain ⟨_, rfl, ws, v, wall, hrow, W, k⟩ := h
  obtain ⟨a, dx, fs, rfl, ha, hf⟩ := id hrow
  obtain ⟨aw, w1, w2⟩ := hf.w
  obtain ⟨ap, p1, p2⟩ := hf.p
  have n4 := W.n
  have hg := W.g
  refine ⟨_, rfl, _, rfl, ws, v, wall, hrow, W, fun H1 e1 => ?_⟩
  refine ⟨Nat.zero_le _, fun t0 ht0 => ⟨(by show 1 ≤ sizeLine; decide), fun lw hlw => ?_⟩⟩
  have e2 := e1.trans (Evl.Ex.new (o := .tup []) ht0)
  have n0 : NK (upd H1 t0 (.tup [])) (tupI []) (.ref t0) := .tup upd_same .nil
  generalize upd H1 t0 (.tup []) = H2 at *
  have e3 := e2.trans (Evl.Ex.new (o := .lst [V.ref t0]) hlw)
  have n3 := n0.ex (Evl.Ex.new (o := .lst [V.ref t0]) hlw)
  have hw3 : (upd H2 lw (.lst [V.ref t0])) lw = some (.lst [V.ref t0]) := upd_same
  have hlw0 : H lw = none := by
    cases hh : H lw with
    | none => rfl
    | some o => rw [e2 _ _ hh] at hlw; cases hlw
  generalize upd H2 lw (.lst [V.ref t0]) = H3 at *
  refine ⟨_, rfl, a, dx, fs, rfl, e3 _ _ ha, _, rfl, ws, v, wall, hrow.ex e3, fun H4 e4 => ⟨_, rfl, by omega, by omega, ?_⟩⟩
  refine ⟨_, rfl, ws.length, rfl, n4, fun l0 ys0 H5 hl0 e5 h5 hys0 => ⟨(by show 1 ≤ sizeLine; decide), fun lf hlf => ?_⟩⟩
  have e35 := e4.trans e5
  have E5 := e3.trans e35
  have hw5 := e35 _ _ hw3
  have hne0 : l0 ≠ lw := fun z => by rw [z, e4 _ _ hw3] at hl0; cases hl0
  have hne1 : l0 ≠ lf := fun z => by rw [z, hlf] at h5; cases h5
  have hne2 : lw ≠ lf := fun z => by rw [z, hlf] at hw5; cases hw5
  have hlf0 : H lf = none := by
    cases hh : H lf with
    | none => rfl
    | some o => rw [E5 _ _ hh] at hlf; cases hlf
  have e6 := Evl.Ex.new (H := H5) (o := .lst [V.ref l0]) hlf
  have hf6 : (upd H5 lf (.lst [V.ref l0])) lf = some (.lst [V.ref l0]) := upd_same
  have h6 := e6 _ _ h5
  have hys6 := hys0.ex e6
  have hw6 := e6 _ _ hw5
  have n6 := (n3.ex e35).ex e6
  have E6 := E5.trans e6
  generalize upd H5 lf (.lst [V.ref l0]) = H6 at *
  -- the dict
  refine fun kd hkd => ?_
  have hkd0 : H kd = none := by
    cases hh : H kd with
    | none => rfl
    | some o => rw [E6 _ _ hh] at hkd; cases hkd
  have e7 := Evl.Ex.new (o := drO kd #[] 0) hkd
  have hk7 : (upd H6 kd (drO kd #[] 0)) kd = some (drO kd #[] 0) := upd_same
  have E7 := E6.trans e7
  refine ⟨_, rfl, lf, [V.ref l0], 0, _, rfl, rfl, .l (e7 _ _ hf6), rfl, l0, ys0, rfl, .inl (e7 _ _ h6), fun t8 H8 e8 h8 => ?_⟩
  have m8 : NK H8 (matK (restR ws.length)) (.ref t8) := .tup h8 ((hys6.ex e7).ex e8)
  refine ⟨e8 _ _ hk7, [matK (restR ws.length)], .cons m8 .nil, fun k hk => by rw [List.mem_singleton.mp hk]; exact tupK_mat _, by simp, by simp, fun es ep kd9 => ?_⟩
  have E9 : Ex H (upd H8 kd (drO kd es ep)) := Evl.Ex.mut (E7.trans e8) hkd0
  have hd8 : H8 kd = some (drO kd #[] 0) := e8 _ _ hk7
  have B0 : Bf c H lw lf kd [([], restR ws.length)] (upd H8 kd (drO kd es ep)) := by
    have e78 := e7.trans e8
    have nk : ∀ {b : Addr} {xs : List V}, H8 b = some (.lst xs) → (upd H8 kd (drO kd es ep)) b = some (.lst xs) := fun hb => by
      rw [upd_ne (ne_of hb hd8 (by intro z; cases z))]
      exact hb
    refine ⟨E9, ⟨_, nk (e78 _ _ hw6), .cons ((n6.ex e78).dupd hd8) .nil⟩, ⟨_, nk (e78 _ _ hf6), rfl, fun i v x g1 g2 => ?_⟩, kd9⟩
    cases i with
    | zero =>
      cases g1
      cases g2
      exact ⟨l0, ys0, rfl, hne0, hne1, nk (e78 _ _ h6), NKs.dupd hd8 (hys6.ex e78)⟩
    | succ i => cases g1
  have S0 : Sqr ws.length 0 (restR ws.length) := restR_sqr W.pos n4
  generalize upd H8 kd (drO kd es ep) = H9 at *
  -- the loop
  refine ⟨fun m σ' H' => ∃ (at' : Nat) (ati : Int) (st : Fnd) (y5 y6 : Option V), m = 49 - at' ∧ at' ≤ st.length ∧ BfOk ws st ∧ ati = (at' : Int) ∧ σ' = [some (.ref a), some (.ref lw), some (.ref lf), some (.ref kd), some (.int ati), y5, y6] ∧ Bf c H lw lf kd st H' ∧ bfsAll ws (pairsOf ws.length wall) (49 - at') at' st = allR ws wall,
    ⟨49, 0, 0, [([], restR ws.length)], none, none, rfl, by simp, ⟨by simp, fun i x hx => ?_⟩, rfl, rfl, B0, rfl⟩, ?_⟩
  · cases i with
    | zero => cases hx; exact ⟨Nat.le_refl _, S0⟩
    | succ i => cases hx
  rintro m σ' H' ⟨at', ati, st, y5, y6, rfl, hat, hok, rfl, rfl, B, hall⟩
  obtain ⟨wvs, hw, nw⟩ := B.w
  have hwl : wvs.length = st.length := by rw [nw.len, List.length_map]
  refine ⟨_, rfl, _, rfl, lw, wvs, rfl, .inl (SqL.of hw), _, _, rfl, rfl, _, rfl, ?_⟩
  by_cases hlt : at' < st.length
  · refine ite_t (decide_eq_true (by omega)) ?_
    have hst48 := hok.1
    have hx : st[at']? = some st[at'] := List.getElem?_eq_getElem hlt
    generalize st[at'] = x at hx
    rw [show 49 - at' = (48 - at') + 1 from by omega, bfsAll, hx] at hall
    replace hall : (match bfsOne ws x.1 x.2 (pairsOf ws.length wall) st with | none => none | some st' => bfsAll ws (pairsOf ws.length wall) (48 - at') (at' + 1) st') = allR ws wall := hall
    refine ⟨fun σ2 H2 => ∃ (at2 : Nat) (ati : Int) (st : Fnd) (y5 y6 : Option V), 48 - at' = 49 - at2 ∧ at2 ≤ st.length ∧ BfOk ws st ∧ ati = (at2 : Int) ∧ σ2 = [some (.ref a), some (.ref lw), some (.ref lf), some (.ref kd), some (.int ati), y5, y6] ∧ Bf c H lw lf kd st H2 ∧ bfsAll ws (pairsOf ws.length wall) (49 - at2) at2 st = allR ws wall, fun σ2 H2 p => ⟨48 - at', by omega, p⟩, ?_⟩
    refine ⟨_, rfl, a, C, dx, _, _, rfl, B.e _ _ ha, RC.cl, RC.p, p1, ap, _, rfl, .inr ⟨SqT.of (B.e _ _ p2), ?_⟩⟩
    refine for_it (walk_tupE (H := H) (SqT.of p2)) (fun i σ2 H2 => ∃ (st2 : Fnd) (y5 y6 : Option V), σ2 = [some (.ref a), some (.ref lw), some (.ref lf), some (.ref kd), some (.int (at' : Int)), y5, y6] ∧ Bf c H lw lf kd st2 H2 ∧ st2[at']? = some x ∧ BfOk ws st2 ∧ bfsOne ws x.1 x.2 ((pairsOf ws.length wall).drop i) st2 = bfsOne ws x.1 x.2 (pairsOf ws.length wall) st)
      ⟨st, y5, y6, rfl, B, hx, hok, rfl⟩ (fun i σ2 H2 _ p => by obtain ⟨_, _, _, _, p, _⟩ := p; exact p.e) (fun i z σ2 H2 H2' hi p y => ?_) (fun σ2 H2 p => ?_)
    · obtain ⟨st2, y5, y6, rfl, B2, hx2, hok2, hone⟩ := p
      obtain ⟨rfl, hz⟩ := y
      rw [List.getElem?_map] at hz
      cases hpi : (pairsOf ws.length wall)[i]? with
      | none => rw [hpi] at hz; cases hz
      | some pi =>
        rw [hpi] at hz
        cases hz
        have hp := pairs_ok W.pos (List.mem_of_getElem? hpi)
        rw [drop_at hpi, bfsOne] at hone
        obtain ⟨hxl, hxS⟩ := hok2.2 at' x hx2
        have hlt2 : at' < st2.length := by
          rcases Nat.lt_or_ge at' st2.length with z | z
          · exact z
          · rw [List.getElem?_eq_none z] at hx2; cases hx2
        have h48 := hok2.1
        obtain ⟨wv2, hw2, nw2⟩ := B2.w
        obtain ⟨fvs, hfv, hfl, hfi⟩ := B2.f
        have hfa : fvs[at']? = some fvs[at'] := List.getElem?_eq_getElem (by omega)
        obtain ⟨l, ys, hv, _, _, hl, hys⟩ := hfi at' _ x hfa hx2
        rw [hv] at hfa
        have hE2 := B2.e
        refine ⟨_, rfl, a, C, dx, _, _, rfl, hE2 _ _ ha, RC.cl, RC.w, w1, _, rfl, _, rfl, lf, fvs, _, _, rfl, rfl, .l hfv, atI_nat hfa, _, rfl, ?_⟩
        refine ⟨_, _, _, rfl, aw, l, ws, ys, x.2, pi, rfl, hE2 _ _ w2, rfl, hl, hys, rfl, hxS.l, hxS.r, n4, W.w, hp, fun r hr' q hq => (hxS.b r hr' q hq).sm (by omega), fun ln zs H3 hln e3' hz hzs => ?_⟩
        have hSb : Sqr ws.length (x.1.length + 1) (behindR ws x.2 pi) := behindR_sqr W.w hp hxS
        have hnw : ln ≠ lw := fun z => by rw [z, hw2] at hln; cases hln
        have hnf : ln ≠ lf := fun z => by rw [z, hfv] at hln; cases hln
        have B3 := B2.ex e3'
        refine ⟨_, rfl, ln, zs, rfl, .inl hz, fun t4 H4 e4' h4 => ?_⟩
        have B4 := B3.ex e4'
        have m4 : NK H4 (matK (behindR ws x.2 pi)) (.ref t4) := .tup h4 (hzs.ex e4')
        refine ⟨_, rfl, matK (behindR ws x.2 pi), kd, _, tupK_mat _, m4, rfl, B4.k, _, rfl, ?_⟩
        by_cases hin : behindR ws x.2 pi ∈ st2.map (·.2)
        · rw [if_pos hin] at hone
          exact ite_t (decide_eq_true ((mem_mats _ _).mpr hin)) ⟨st2, _, _, rfl, B4, hx2, hok2, hone⟩
        · rw [if_neg hin] at hone
          refine ite_f (decide_eq_false fun z => hin ((mem_mats _ _).mp z)) ?_
          obtain ⟨wv4, hw4, nw4⟩ := B4.w
          have hwl4 : wv4.length = st2.length := by rw [nw4.len, List.length_map]
          refine ⟨_, rfl, lw, wv4, rfl, .inl (SqL.of hw4), rfl, _, rfl, ?_⟩
          by_cases h48' : st2.length = 48
          · rw [if_pos h48'] at hone
            refine ite_t (decide_eq_true (by rw [hwl4, h48']; rfl)) ?_
            rw [← hone] at hall
            replace hall : none = allR ws wall := hall
            rw [← hall] at k
            exact k _ B4.e
          · rw [if_neg h48'] at hone
            refine ite_f (decide_eq_false fun z => h48' (by injection z with z; omega)) ?_
            -- known
            refine ⟨_, rfl, _, rfl, ln, zs, rfl, .inl (e4' _ _ hz), fun t5 H5 e5' h5' => ?_⟩
            have B5 := B4.ex e5'
            have m5 : NK H5 (matK (behindR ws x.2 pi)) (.ref t5) := .tup h5' ((hzs.ex e4').ex e5')
            refine ⟨matK (behindR ws x.2 pi), kd, _, tupK_mat _, m5, rfl, B5.k, by rw [List.length_map]; omega, fun z => hin ((mem_mats _ _).mp z), fun es5 ep5 kd6 => ?_⟩
            obtain ⟨wv5, hw5', nw5⟩ := B5.w
            obtain ⟨fv5, hf5, hfl5, hfi5⟩ := B5.f
            have hz5 := e5' _ _ (e4' _ _ hz)
            have hzs5 := (hzs.ex e4').ex e5'
            have hE5 := B5.e
            obtain ⟨_, _, _, es0, ep0, hd5, _⟩ := B5.k
            have nk : ∀ {b : Addr} {xs : List V}, H5 b = some (.lst xs) → (upd H5 kd (drO kd es5 ep5)) b = some (.lst xs) := fun hb => by
              rw [upd_ne (ne_of hb hd5 (by intro z; cases z))]
              exact hb
            have hw6' := nk hw5'
            have hf6' := nk hf5
            have hz6 := nk hz5
            have hzs6 := NKs.dupd (o := drO kd es5 ep5) hd5 hzs5
            have nw6 := NKs.dupd (o := drO kd es5 ep5) hd5 nw5
            have E6' : Ex H (upd H5 kd (drO kd es5 ep5)) := Evl.Ex.mut hE5 hkd0
            have hfi6 : ∀ (i : Nat) v y, fv5[i]? = some v → st2[i]? = some y → ∃ l ys, v = .ref l ∧ l ≠ lw ∧ l ≠ lf ∧ (upd H5 kd (drO kd es5 ep5)) l = some (.lst ys) ∧ NKs (upd H5 kd (drO kd es5 ep5)) (y.2.map rowK) ys := fun i v y g1 g2 => by
              obtain ⟨l, ys, k1, k2, k3, k4, k5⟩ := hfi5 i v y g1 g2
              exact ⟨l, ys, k1, k2, k3, nk k4, NKs.dupd hd5 k5⟩
            clear nk hfi5 hd5 hw5' hf5 hz5 hzs5 nw5
            generalize upd H5 kd (drO kd es5 ep5) = H6' at *
            -- found
            refine ⟨_, rfl, .inl ⟨rfl, fv5, SqL.of hf6'⟩, _, rfl, lf, fv5, _, rfl, rfl, hf6', line_of (by omega), ?_⟩
            have E7' : Ex H (upd H6' lf (.lst (fv5 ++ [.ref ln]))) := Evl.Ex.mut E6' hlf0
            have hw7 : (upd H6' lf (.lst (fv5 ++ [.ref ln]))) lw = some (.lst wv5) := by rw [upd_ne hne2]; exact hw6'
            have hf7 : (upd H6' lf (.lst (fv5 ++ [.ref ln]))) lf = some (.lst (fv5 ++ [.ref ln])) := upd_same
            have nw7 := NKs.lupd (ys := fv5 ++ [.ref ln]) hf6' _ _ nw6
            have hz7 : (upd H6' lf (.lst (fv5 ++ [.ref ln]))) ln = some (.lst zs) := by rw [upd_ne hnf]; exact hz6
            have hzs7 := NKs.lupd (ys := fv5 ++ [.ref ln]) hf6' _ _ hzs6
            have kd7 := kd6.lupd (ys := fv5 ++ [.ref ln]) hf6'
            have hfi7 : ∀ (i : Nat) v y, (fv5 ++ [V.ref ln])[i]? = some v → (st2 ++ [(x.1 ++ [pi], behindR ws x.2 pi)])[i]? = some y → ∃ l ys, v = .ref l ∧ l ≠ lw ∧ l ≠ lf ∧ (upd H6' lf (.lst (fv5 ++ [.ref ln]))) l = some (.lst ys) ∧ NKs (upd H6' lf (.lst (fv5 ++ [.ref ln]))) (y.2.map rowK) ys := fun i v y g1 g2 => by
              by_cases hi2 : i < st2.length
              · rw [List.getElem?_append_left (by omega)] at g1 g2
                obtain ⟨l, ys, k1, k2, k3, k4, k5⟩ := hfi6 i v y g1 g2
                exact ⟨l, ys, k1, k2, k3, by rw [upd_ne k3]; exact k4, NKs.lupd hf6' _ _ k5⟩
              · rw [List.getElem?_append_right (by omega)] at g1 g2
                rw [show i - fv5.length = i - st2.length from by omega] at g1
                cases hj : i - st2.length with
                | zero =>
                  rw [hj] at g1 g2
                  cases g1
                  cases g2
                  exact ⟨ln, zs, rfl, hnw, hnf, hz7, hzs7⟩
                | succ j => rw [hj] at g1; cases g1
            clear hfi6 hw6' hf6' nw6 hz6 hzs6 kd6
            generalize upd H6' lf (.lst (fv5 ++ [.ref ln])) = H7 at *
            -- words
            obtain ⟨wx, hwx, nwx⟩ := NKs.get (i := at') (k := tupI x.1) nw7 (by rw [List.getElem?_map, hx2]; rfl)
            obtain ⟨awx, rfl, hawx⟩ := tupI_inv nwx
            have hwl7 : wv5.length = st2.length := by rw [nw7.len, List.length_map]
            have fin : ∀ (H8 : Hp) (v8 : V), Ex H7 H8 → NK H8 (tupI (x.1 ++ [pi])) v8 → rAppend (.ref lw) [v8] H8 fun _ H9 => ∃ (st2' : Fnd) (y5 y6 : Option V), ([some (.ref a), some (.ref lw), some (.ref lf), some (.ref kd), some (.int (at' : Int)), some (V.int pi), some (V.ref ln)] : L2.St) = [some (.ref a), some (.ref lw), some (.ref lf), some (.ref kd), some (.int (at' : Int)), y5, y6] ∧ Bf c H lw lf kd st2' H9 ∧ st2'[at']? = some x ∧ BfOk ws st2' ∧ bfsOne ws x.1 x.2 ((pairsOf ws.length wall).drop (i + 1)) st2' = bfsOne ws x.1 x.2 (pairsOf ws.length wall) st := by
              intro H8 v8 e8' n8
              have hw8 := e8' _ _ hw7
              refine ⟨lw, wv5, v8, rfl, rfl, hw8, line_of (by omega), st2 ++ [(x.1 ++ [pi], behindR ws x.2 pi)], _, _, rfl, ⟨Evl.Ex.mut (E7'.trans e8') hlw0, ⟨wv5 ++ [v8], upd_same, ?_⟩, ⟨fv5 ++ [.ref ln], by rw [upd_ne (Ne.symm hne2)]; exact e8' _ _ hf7, by rw [List.length_append, List.length_append, hfl5]; rfl, fun i v y g1 g2 => ?_⟩, ?_⟩, ?_, ⟨?_, fun i y g => ?_⟩, hone⟩
              · rw [List.map_append]
                exact NKs.lupd hw8 _ _ ((nw7.ex e8').snoc n8)
              · obtain ⟨l, ys, k1, k2, k3, k4, k5⟩ := hfi7 i v y g1 g2
                exact ⟨l, ys, k1, k2, k3, by rw [upd_ne k2]; exact e8' _ _ k4, NKs.lupd hw8 _ _ (k5.ex e8')⟩
              · rw [List.map_append]
                exact (kd7.ex e8').lupd hw8
              · rw [List.getElem?_append_left hlt2]
                exact hx2
              · rw [List.length_append]
                show st2.length + 1 ≤ 48
                omega
              · by_cases hi2 : i < st2.length
                · rw [List.getElem?_append_left hi2] at g
                  exact hok2.2 i y g
                · rw [List.getElem?_append_right (by omega)] at g
                  cases hj : i - st2.length with
                  | zero =>
                    rw [hj] at g
                    cases g
                    refine ⟨?_, ?_⟩
                    · rw [List.length_append]
                      show x.1.length + 1 ≤ i
                      omega
                    · rw [List.length_append]
                      exact hSb
                  | succ j => rw [hj] at g; cases g
            refine ⟨_, rfl, .inl ⟨rfl, wv5, SqL.of hw7⟩, _, rfl, _, rfl, lw, wv5, _, _, rfl, rfl, .l hw7, atI_nat hwx, _, rfl, (by show 1 ≤ sizeLine; decide), fun t8 ht8 => ?_⟩
            have e8' := Evl.Ex.new (H := H7) (o := .tup [V.int pi]) ht8
            have h8' : (upd H7 t8 (.tup [V.int pi])) t8 = some (.tup [V.int pi]) := upd_same
            refine ⟨awx, t8, x.1.map V.int, [V.int pi], rfl, rfl, SqT.of (e8' _ _ hawx), SqT.of h8', by rw [List.length_map, sizeLine_eq]; show x.1.length + 1 ≤ _; omega, fun hnil => ?_, fun _ hnil => (by cases hnil), fun _ _ t9 ht9 => ?_⟩
            · have : x.1 = [] := List.map_eq_nil_iff.mp hnil
              exact fin _ _ e8' (by rw [this]; exact tupI_mk h8')
            · have e9 := e8'.trans (Evl.Ex.new (o := .tup (x.1.map V.int ++ [V.int pi])) ht9)
              refine fin _ _ e9 (tupI_mk ?_)
              rw [List.map_append]
              exact upd_same
    · obtain ⟨st2, y5, y6, rfl, B2, hx2, hok2, hone⟩ := p
      have hlt2 : at' < st2.length := by
        rcases Nat.lt_or_ge at' st2.length with z | z
        · exact z
        · rw [List.getElem?_eq_none z] at hx2; cases hx2
      rw [List.length_map, List.drop_length, bfsOne] at hone
      rw [← hone] at hall
      replace hall : bfsAll ws (pairsOf ws.length wall) (48 - at') (at' + 1) st2 = allR ws wall := hall
      refine ⟨_, rfl, _, _, rfl, rfl, ?_⟩
      exact ⟨at' + 1, (at' : Int) + 1, st2, _, _, by omega, by omega, hok2, by omega, rfl, B2, by rw [show 49 - (at' + 1) = 48 - at' from by omega]; exact hall⟩
  · refine ite_f (decide_eq_false (by omega)) ?_
    refine ⟨_, rfl, lw, wvs, rfl, .inl hw, fun l H2 e2' h2' => ?_⟩
    have hst48 := hok.1
    have e0 : st[at']? = none := List.getElem?_eq_none (by omega)
    rw [show 49 - at' = (48 - at') + 1 from by omega, bfsAll, e0] at hall
    replace hall : some st = allR ws wall := hall
    rw [← hall] at k
    exact k _ _ (B.e.trans e2') (.tup h2' (nw.ex e2'))
end
end K74
namespace K74
open PySem PySem.Spec PyProof.Rows L2
/-! ### closings_of -/
abbrev s_closings_of : Stmt := topS 55
theorem sc_closings_of : FnScope ["row", "made", "couple"] ["row"] (defScope s_closings_of) := ⟨rfl, rfl, rfl, by decide +kernel, rfl, by decide +kernel, by decide +kernel⟩
def spClosings (C : Addr) : Sp := sp1 fun x H Q => ∃ ws v wall m, RowAt C H x ws v wall ∧ Rw ws v wall m ∧ m ≤ 20 ∧ Ret (rowK (closingsR ws.length wall v)) H Q
theorem zero_sub (q : Rat) : (0 : Rat) - q = -q := by grind
section
variable {c : Cn} {C : Addr}
theorem ok_closings_of (T : Tx c.mg) (RC : RwC c C) (D : Dn c "closings_of" s_closings_of ["row"]) (g_minus : Kn c CX0 4 "minus" ["one", "other"] spMinus) : Kn c CX0 5 "closings_of" ["row"] (spClosings C) := by
  have sc := sc_closings_of
  refine D.ok sc len1 (fun f cdv A outer s H vs Q E hr h => ?_)
  refine ⟨_, (pss_cons (ps_set (i := 1) sc.nd rfl (.inl rfl) (pe_lst pa_nil))
  (pss_cons (ps_for PassesOwn.never rfl (pi_sq (pe_fld (pv 0) rfl)) (pg_name (i := 2) sc.nd rfl (.inl rfl))
    (pss_one (ps_if (pt_cmpR op_lt (pv 2) pe_int (nomark _)) (pss_one (ps_expr (pe_bm PySem.F.plainAttrs_list PySem.F.slot_list_append PySem.F.type_list_append mt_append (pv 1) (pa_cons (pe_kn g_minus (hr.mono (by decide)) rfl (pa_cons pe_int (pa_cons (pe_ix ix_sq (pe_fld (pv 0) rfl) pe_int (fun _ _ => rfl)) pa_nil))) pa_nil))))
      (pss_one (ps_expr (pe_bm PySem.F.plainAttrs_list PySem.F.slot_list_append PySem.F.type_list_append mt_append (pv 1) (pa_cons (pe_kn g_minus (hr.mono (by decide)) rfl (pa_cons (pe_ix ix_sq (pe_fld (pv 0) rfl) (pv 2) (fun _ _ => rfl)) (pa_cons (pe_ix ix_sq (pe_fld (pv 0) rfl) (pe_op op_add (pv 2) pe_int) (fun _ _ => rfl)) pa_nil))) pa_nil)))))))
  (pss_one (ps_ret (pe_callTy call_tupX (by rfl) T.tuple (by decide +kernel) (pa_cons (pv 1) pa_nil)))))), ?_⟩
  obtain ⟨_, rfl, ws, v, wall, m, ⟨a, dx, fs, rfl, ha, hf⟩, R, hm, k⟩ := h
  obtain ⟨ap, p1, p2⟩ := hf.p
  obtain ⟨as, xs, s1, s2, s3⟩ := hf.s
  have hg := R.W.g
  have hsm := R.sm (show m ≤ 100 by omega)
  refine ⟨Nat.zero_le _, fun l hl => ?_⟩
  have e1 := Evl.Ex.new (o := .lst []) hl
  refine ⟨_, rfl, a, C, dx, _, _, rfl, e1 _ _ ha, RC.cl, RC.p, p1, ap, _, rfl, .inr ⟨SqT.of (e1 _ _ p2), ?_⟩⟩
  refine for_it (walk_tupE (H := H) (SqT.of p2)) (fun i σ' H' => ∃ (acc : List V) (y2 : Option V), σ' = [some (.ref a), some (.ref l), y2] ∧ Ex H H' ∧ H' l = some (.lst acc) ∧ NKs H' ((((pairsOf ws.length wall).take i).map (closeR v)).map qK) acc) ⟨[], none, rfl, e1, upd_same, .nil⟩
    (fun i σ' H' _ p => by obtain ⟨_, _, _, p, _⟩ := p; exact p) (fun i z σ' H' H'' hi p y => ?_) (fun σ' H' p => ?_)
  · obtain ⟨acc, y2, rfl, e, hacc, hN⟩ := p
    obtain ⟨rfl, hz⟩ := y
    rw [List.getElem?_map] at hz
    cases hpi : (pairsOf ws.length wall)[i]? with
    | none => rw [hpi] at hz; cases hz
    | some pi =>
      rw [hpi] at hz
      cases hz
      have hp := pairs_ok R.W.pos (List.mem_of_getElem? hpi)
      have fin : ∀ (u : V) (H3 : Hp), Ex H'' H3 → NK H3 (qK (closeR v pi)) u → rAppend (.ref l) [u] H3 fun _ H9 => ∃ (acc : List V) (y2 : Option V), ([some (.ref a), some (.ref l), some (.int pi)] : L2.St) = [some (.ref a), some (.ref l), y2] ∧ Ex H H9 ∧ H9 l = some (.lst acc) ∧ NKs H9 ((((pairsOf ws.length wall).take (i + 1)).map (closeR v)).map qK) acc := by
        intro u H3 e3 hu
        have ha3 := e3 _ _ hacc
        refine ⟨l, acc, u, rfl, rfl, ha3, line_of ?_, acc ++ [u], _, rfl, Evl.Ex.mut (e.trans e3) hl, upd_same, ?_⟩
        · have := hN.len
          rw [List.length_map, List.length_map, List.length_take] at this
          omega
        · rw [take_snoc hpi, List.map_append, List.map_append]
          exact NKs.lupd ha3 _ _ ((hN.ex e3).snoc hu)
      refine ⟨_, rfl, _, _, rfl, rfl, _, rfl, ?_⟩
      rcases hp with ⟨rfl, hn⟩ | ⟨j, rfl, hj⟩
      · refine ite_t (decide_eq_true (by decide)) ?_
        obtain ⟨x, hx, nx⟩ := q_at (s3.ex e) (i := 0) (by rw [R.l]; omega)
        have sx := hsm _ (mem_getD (show 0 < v.length by rw [R.l]; omega) 0)
        have ec : closeR v (-1) = -(v.getD 0 0) := if_pos rfl
        refine ⟨_, rfl, .inl ⟨rfl, acc, SqL.of hacc⟩, _, rfl, a, C, dx, _, _, rfl, e _ _ ha, RC.cl, RC.s, s1, as, _, 0, _, rfl, rfl, .t (e _ _ s2), atI_nat (j := 0) hx, _, _, rfl, 0, _, isR_int 0, isR_q nx sx, (Bd.zero 0).sm (by omega), sx, fun u H3 e3 hu => fin u H3 e3 ?_⟩
        rw [zero_sub] at hu
        rw [ec]
        exact hu
      · refine ite_f (decide_eq_false (by omega)) ?_
        have e0 : ((j : Int) + 1) = ((j + 1 : Nat) : Int) := by omega
        obtain ⟨x, hx, nx⟩ := q_at (s3.ex e) (i := j) (by rw [R.l]; omega)
        obtain ⟨y, hy, ny⟩ := q_at (s3.ex e) (i := j + 1) (by rw [R.l]; omega)
        have sx := hsm _ (mem_getD (show j < v.length by rw [R.l]; omega) 0)
        have sy := hsm _ (mem_getD (show j + 1 < v.length by rw [R.l]; omega) 0)
        have ec : closeR v (j : Int) = v.getD j 0 - v.getD (j + 1) 0 := by
          unfold closeR
          rw [if_neg (by omega), Int.toNat_natCast]
        refine ⟨_, rfl, .inl ⟨rfl, acc, SqL.of hacc⟩, _, rfl, a, C, dx, _, _, rfl, e _ _ ha, RC.cl, RC.s, s1, _, rfl, as, _, _, _, rfl, rfl, .t (e _ _ s2), atI_nat hx, _, rfl, a, C, dx, _, _, rfl, e _ _ ha, RC.cl, RC.s, s1, _, rfl, _, _, rfl, rfl, as, _, _, _, rfl, rfl, .t (e _ _ s2), at_of e0 hy, _, _, rfl, _, _, isR_q nx sx, isR_q ny sy, sx, sy, fun u H3 e3 hu => fin u H3 e3 ?_⟩
        rw [ec]
        exact hu
  · obtain ⟨acc, y2, rfl, e, hacc, hN⟩ := p
    rw [List.length_map, List.take_length] at hN
    exact ⟨_, rfl, l, acc, rfl, .inl hacc, fun t H3 e3 h3 => k _ _ (e.trans e3) (.tup h3 (hN.ex e3))⟩
/-! ### closing_gain -/
abbrev s_closing_gain : Stmt := topS 56
theorem sc_closing_gain : FnScope ["row", "clashing", "near", "left", "right"] ["row", "clashing", "near"] (defScope s_closing_gain) := ⟨rfl, rfl, rfl, by decide +kernel, rfl, by decide +kernel, by decide +kernel⟩
def spGain (C : Addr) : Sp := sp3 fun x p q H Q => ∃ ws v wall pi qi, RowAt C H x ws v wall ∧ Wk ws wall ∧ p = .int pi ∧ q = .int qi ∧ PrOk ws.length pi ∧ Ret (qK (gainR ws pi qi)) H Q
theorem two_K {H : Hp} {a : Addr} (h : H a = some (.tup [.int 2, .int 1])) : NK H (qK 2) (.ref a) := qK_mk h
theorem three_K {H : Hp} {a : Addr} (h : H a = some (.tup [.int 3, .int 1])) : NK H (qK 3) (.ref a) := qK_mk h
theorem gainR_bd {ws : List Int} {p q : Int} (hw : ∀ x ∈ ws, 1 ≤ x ∧ x ≤ 9) (hp : PrOk ws.length p) : Bd 1 (gainR ws p q) := by
  unfold gainR
  rcases hp with ⟨rfl, _⟩ | ⟨i, rfl, hi⟩
  · rw [if_pos (by decide)]
    exact Bd.int (i := 2) (by decide) (by decide) (by decide)
  · rw [if_neg (by omega)]
    simp only [Int.toNat_natCast]
    have wa := hw _ (mem_getD (show i < ws.length by omega) 1)
    have wb := hw _ (mem_getD hi 1)
    generalize ws.getD i 1 = a at *
    generalize ws.getD (i + 1) 1 = b at *
    have key : ∀ z : Int, 0 ≤ z → z ≤ a + b → Bd 1 (mkRat (2 * z) (a + b).toNat) := by
      intro z h0 h1
      have ed : (((a + b).toNat : Nat) : Rat) = ((a + b : Int) : Rat) := by
        have : (((a + b).toNat : Nat) : Rat) = ((((a + b).toNat : Nat) : Int) : Rat) := rfl
        rw [this, Int.toNat_of_nonneg (by omega)]
      have hpos : (0 : Rat) < ((a + b : Int) : Rat) := by
        have : ((0 : Int) : Rat) < ((a + b : Int) : Rat) := Rat.intCast_lt_intCast.mpr (by omega)
        exact this
      have e : mkRat (2 * z) (a + b).toNat = ((2 * z : Int) : Rat) * ((a + b : Int) : Rat)⁻¹ := by
        rw [Rat.mkRat_eq_div, ed, Rat.div_def]
      rw [e]
      refine ⟨Frac.imul _ (Frac.inv (by omega) (by omega)), ?_, ?_⟩
      · have h2 : (0 : Rat) ≤ ((2 * z : Int) : Rat) := by
          have : ((0 : Int) : Rat) ≤ ((2 * z : Int) : Rat) := Rat.intCast_le_intCast.mpr (by omega)
          exact this
        have h3 : (0 : Rat) ≤ ((a + b : Int) : Rat)⁻¹ := Rat.le_of_lt (Rat.inv_pos.mpr hpos)
        have h4 := Rat.mul_nonneg h2 h3
        have := p16_pos 1
        grind
      · have h2 : ((2 * z : Int) : Rat) ≤ 16 * ((a + b : Int) : Rat) := by
          have : ((2 * z : Int) : Rat) ≤ ((16 * (a + b) : Int) : Rat) := Rat.intCast_le_intCast.mpr (by omega)
          rw [Rat.intCast_mul 16] at this
          exact this
        have h3 : (0 : Rat) ≤ ((a + b : Int) : Rat)⁻¹ := Rat.le_of_lt (Rat.inv_pos.mpr hpos)
        have h4 := Rat.mul_le_mul_of_nonneg_right h2 h3
        have h5 : ((a + b : Int) : Rat) * ((a + b : Int) : Rat)⁻¹ = 1 := Rat.mul_inv_cancel _ (by grind)
        have h6 : (16 : Rat) ^ 1 = 16 := by rw [Rat.pow_one]
        rw [h6]
        grind
    split
    · exact key a (by omega) (by omega)
    · exact key b (by omega) (by omega)
theorem ok_closing_gain (RC : RwC c C) (D : Dn c "closing_gain" s_closing_gain ["row", "clashing", "near"]) (g_ratio_of : Kn c CX0 3 "ratio_of" ["thing"] spRatio) : Kn c CX0 4 "closing_gain" ["row", "clashing", "near"] (spGain C) := by
  have sc := sc_closing_gain
  refine D.ok sc len3 (fun f cdv A outer s H vs Q E hr h => ?_)
  refine ⟨_, (pss_cons (ps_if (pt_cmpR op_lt (pv 1) pe_int (nomark _)) (pss_one (ps_ret (pe_tup (pa_cons pe_int (pa_cons pe_int pa_nil)))))
    pss_nil)
  (pss_cons (ps_set (i := 3) sc.nd rfl (.inl rfl) (pe_ix ix_sq (pe_fld (pv 0) rfl) (pv 1) (fun _ _ => rfl)))
  (pss_cons (ps_set (i := 4) sc.nd rfl (.inl rfl) (pe_ix ix_sq (pe_fld (pv 0) rfl) (pe_op op_add (pv 1) pe_int) (fun _ _ => rfl)))
  (pss_one (ps_ret (pe_kn g_ratio_of (hr.mono (by decide)) rfl (pa_cons (pe_tup (pa_cons (pe_op op_mulW pe_int (pe_ifExp (pt_cmpR op_gt (pv 2) (pv 1) (nomark _)) (pv 3) (pv 4))) (pa_cons (pe_op op_add (pv 3) (pv 4)) pa_nil))) pa_nil))))))), ?_⟩
  obtain ⟨_, _, _, rfl, ws, v, wall, pi, qi, ⟨a, dx, fs, rfl, ha, hf⟩, W, rfl, rfl, hp, k⟩ := h
  obtain ⟨aw, w1, w2⟩ := hf.w
  refine ⟨_, rfl, _, _, rfl, rfl, _, rfl, ?_⟩
  unfold gainR at k
  rcases hp with ⟨rfl, hn⟩ | ⟨j, rfl, hj⟩
  · rw [if_pos (by decide)] at k
    refine ite_t (decide_eq_true (by decide)) ⟨(by show 2 ≤ sizeLine; decide), fun t ht => ?_⟩
    exact k _ _ (Evl.Ex.new ht) (two_K upd_same)
  · rw [if_neg (by omega)] at k
    simp only [Int.toNat_natCast] at k
    refine ite_f (decide_eq_false (by omega)) ?_
    have e0 : ((j : Int) + 1) = ((j + 1 : Nat) : Int) := by omega
    have wa := W.w _ (mem_getD (show j < ws.length by omega) 1)
    have wb := W.w _ (mem_getD hj 1)
    have h1 := ints_at (ws := ws) (i := j) (by omega) 1
    have h2 := ints_at (ws := ws) (i := j + 1) hj 1
    generalize ws.getD j 1 = x at *
    generalize ws.getD (j + 1) 1 = y at *
    refine ⟨_, rfl, a, C, dx, _, _, rfl, ha, RC.cl, RC.w, w1, _, rfl, aw, _, _, _, rfl, rfl, .t w2, atI_nat h1, ?_⟩
    refine ⟨_, rfl, a, C, dx, _, _, rfl, ha, RC.cl, RC.w, w1, _, rfl, _, _, rfl, rfl, aw, _, _, _, rfl, rfl, .t w2, at_of e0 h2, ?_⟩
    have fin : ∀ z : Int, 1 ≤ z → z ≤ 9 → Ret (qK (mkRat (2 * z) (x + y).toNat)) H Q → ∀ t, H t = none → spRatio [.ref t] (upd H t (.tup [.int (2 * z), .int (x + y)])) Q E0 := fun z hz1 hz2 kz t ht =>
      ⟨_, rfl, _, .inr ⟨t, _, _, rfl, upd_same, by omega, rfl, Nat.lt_of_lt_of_le (show (2 * z).natAbs < 2 ^ 10 by omega) (Nat.pow_le_pow_right (by decide) (by decide)), Nat.lt_of_lt_of_le (show (x + y).natAbs < 2 ^ 10 by omega) (Nat.pow_le_pow_right (by decide) (by decide))⟩, fun u H2 e2 hu => kz u H2 ((Evl.Ex.new ht).trans e2) hu⟩
    refine ⟨_, rfl, _, rfl, _, _, rfl, rfl, _, rfl, ?_⟩
    by_cases hqp : qi > (j : Int)
    · rw [if_pos hqp] at k
      refine ite_t (decide_eq_true hqp) ⟨_, rfl, _, _, rfl, rfl, wide_mul (a := 10) (b := 10) (by decide) (by omega) (by decide) (by decide) (by decide), _, rfl, _, rfl, _, _, rfl, rfl, (by show 2 ≤ sizeLine; decide), fin x wa.1 wa.2 k⟩
    · rw [if_neg hqp] at k
      refine ite_f (decide_eq_false hqp) ⟨_, rfl, _, _, rfl, rfl, wide_mul (a := 10) (b := 10) (by decide) (by omega) (by decide) (by decide) (by decide), _, rfl, _, rfl, _, _, rfl, rfl, (by show 2 ≤ sizeLine; decide), fin y wb.1 wb.2 k⟩
end
end K74
namespace K74
open PySem PySem.Spec PyProof.Rows L2
/-! ### orders_of -/
theorem walk_zipTG {K : PySem.W.Frag} {G : Hp → Prop} {a b : Addr} {xs ys : List V} {n : Nat} (hn : n = min xs.length ys.length) (hx : ∀ H, G H → SqT K H a xs) (hy : ∀ H, G H → SqT K H b ys) : Walk (RZ.ItzT K a b) n G (YPair (fun i => xs[i]?) (fun i => ys[i]?)) := by
  subst hn
  refine ⟨fun i H hi e => ?_, fun H e => ⟨xs, ys, hx H e, hy H e, by omega⟩, fun i H' v H'' _ e y => ?_⟩
  · have h1 : i < xs.length := by omega
    have h2 : i < ys.length := by omega
    exact ⟨xs, ys, xs[i], ys[i], hx H e, hy H e, by simp [h1], by simp [h2]⟩
  · obtain ⟨T, x, z, h1, h2, h3, h4, h5⟩ := y
    exact ⟨T, x, z, h1, h2, h3, h4 xs (hx H' e), h5 ys (hy H' e)⟩
theorem cut1 {xs : List V} (h : 1 ≤ xs.length) : ¬ (HT.sIx xs.length 0 (some 1) = 0 ∧ HT.sIx xs.length xs.length none = xs.length) ∧ cutV xs (some 1) none = xs.drop 1 := by
  have e1 : HT.sIx xs.length 0 (some 1) = 1 := by
    have := HT.sIx_nat xs.length 0 1
    rw [show ((1 : Nat) : Int) = 1 from rfl] at this
    rw [this]
    omega
  refine ⟨fun z => by rw [e1] at z; omega, ?_⟩
  unfold cutV
  rw [e1, HT.sIx_none]
  exact List.take_of_length_le (by rw [List.length_drop]; omega)
def optK : Option Int → NestedKey
  | none => .none
  | some i => .num i
def optI : Option Int → V
  | none => .non
  | some i => .int i
theorem optK_inv {H : Hp} {o : Option Int} {v : V} (h : NK H (optK o) v) : v = optI o := by
  cases o with
  | none => exact h.none_inv
  | some i => exact h.num_inv
theorem optKs_inv {H : Hp} : ∀ {os : List (Option Int)} {vs : List V}, NKs H (os.map optK) vs → vs = os.map optI
  | [], _, h => by cases h; rfl
  | o :: os, _, h => by
    cases h with
    | cons h1 h2 => rw [optK_inv h1, optKs_inv h2]; rfl
abbrev s_orders_of : Stmt := topS 58
theorem sc_orders_of : FnScope ["row", "found", "near", "far", "share"] ["row"] (defScope s_orders_of) := ⟨rfl, rfl, rfl, by decide +kernel, rfl, by decide +kernel, by decide +kernel⟩
def spOrders (C : Addr) : Sp := sp1 fun x H Q => ∃ ws v wall, RowAt C H x ws v wall ∧ Wk ws wall ∧ ∀ t H', Ex H H' → H' t = some (.tup ((ordersR ws wall).map optI)) → Q (.ref t) H'
theorem qK_tupK (q : Rat) : TupK (qK q) := ⟨⟨_, rfl⟩, Nat.le_trans (depth_qK q) (by decide)⟩
theorem pairs_pos {ws : List Int} {wall : Bool} (W : Wk ws wall) : 1 ≤ (pairsOf ws.length wall).length := by
  have := W.lo
  unfold pairsOf firstOf
  rw [List.length_map, List.length_range]
  cases wall with
  | true => simp at this ⊢; omega
  | false => simp at this ⊢; omega
theorem ordersR_at {ws : List Int} {wall : Bool} {i : Nat} {p q : Int} (h1 : (pairsOf ws.length wall)[i]? = some p) (h2 : ((pairsOf ws.length wall).drop 1)[i]? = some q) : (ordersR ws wall)[i]? = some (orderR (gainR ws p q * gainR ws q p)) := by
  unfold ordersR
  rw [List.getElem?_zipWith, h1, h2]
section
variable {c : Cn} {C : Addr}
theorem ok_orders_of (T : Tx c.mg) (RC : RwC c C) (D : Dn c "orders_of" s_orders_of ["row"]) (g_times : Kn c CX0 4 "times" ["one", "other"] spTimes) (g_closing_gain : Kn c CX0 4 "closing_gain" ["row", "clashing", "near"] (spGain C)) : Kn c CX0 5 "orders_of" ["row"] (spOrders C) := by
  have sc := sc_orders_of
  refine D.ok sc len1 (fun f cdv A outer s H vs Q E hr h => ?_)
  have hu := hr.units
  refine ⟨_, (pss_cons (ps_set (i := 1) sc.nd rfl (.inl rfl) (pe_lst pa_nil))
  (pss_cons (ps_for PassesOwn.never rfl (RZ.pi_zipA rfl T.zip (pa_cons (pe_fld (pv 0) rfl) (pa_cons (pe_slice sl_tup (pe_fld (pv 0) rfl) (po_some pe_int) po_none) pa_nil))) (pg_tup rfl (pgs_cons (pg_name (i := 2) sc.nd rfl (.inl rfl)) (pgs_cons (pg_name (i := 3) sc.nd rfl (.inl rfl)) pgs_nil)))
    (pss_cons (ps_set (i := 4) sc.nd rfl (.inl rfl) (pe_kn g_times (hr.mono (by decide)) rfl (pa_cons (pe_kn g_closing_gain (hr.mono (by decide)) rfl (pa_cons (pv 0) (pa_cons (pv 2) (pa_cons (pv 3) pa_nil)))) (pa_cons (pe_kn g_closing_gain (hr.mono (by decide)) rfl (pa_cons (pv 0) (pa_cons (pv 3) (pa_cons (pv 2) pa_nil)))) pa_nil))))
    (pss_one (ps_expr (pe_bm PySem.F.plainAttrs_list PySem.F.slot_list_append PySem.F.type_list_append mt_append (pv 1) (pa_cons (pe_getN c.P c.w hu (pe_disp c.P c.w hu (ppr_cons (pe_tup (x1 := 0) (pa_cons pe_int (pa_cons pe_int pa_nil))) pe_int (ppr_cons (pe_tup (x1 := 0) (pa_cons pe_int (pa_cons pe_int pa_nil))) pe_int (ppr_cons (pe_tup (x1 := 0) (pa_cons pe_int (pa_cons pe_int pa_nil))) pe_int ppr_nil))) rfl (by simp) (by simp)) (pa_cons (pv 4) (pa_cons pe_non pa_nil))) pa_nil))))))
  (pss_one (ps_ret (pe_callTy call_tupX (by rfl) T.tuple (by decide +kernel) (pa_cons (pv 1) pa_nil)))))), ?_⟩
  obtain ⟨_, rfl, ws, v, wall, hrow, W, k⟩ := h
  obtain ⟨a, dx, fs, rfl, ha, hf⟩ := id hrow
  obtain ⟨ap, p1, p2⟩ := hf.p
  have hg := W.g
  have hp1 := pairs_pos W
  refine ⟨Nat.zero_le _, fun l hl => ?_⟩
  have e1 := Evl.Ex.new (o := .lst []) hl
  have hl1 : (upd H l (.lst [])) l = some (.lst []) := upd_same
  obtain ⟨c1, c2⟩ := cut1 (xs := (pairsOf ws.length wall).map V.int) (by rw [List.length_map]; exact hp1)
  refine ⟨_, rfl, a, C, dx, _, _, rfl, e1 _ _ ha, RC.cl, RC.p, p1, _, rfl, a, C, dx, _, _, rfl, e1 _ _ ha, RC.cl, RC.p, p1, 1, rfl, ap, _, rfl, SqT.of (e1 _ _ p2), c1, fun t ht => ?_⟩
  rw [c2, ← List.map_drop]
  have e2 := Evl.Ex.new (H := upd H l (.lst [])) (o := .tup (((pairsOf ws.length wall).drop 1).map V.int)) ht
  have ht2 : (upd (upd H l (.lst [])) t (.tup (((pairsOf ws.length wall).drop 1).map V.int))) t = some (.tup (((pairsOf ws.length wall).drop 1).map V.int)) := upd_same
  have hl2 := e2 _ _ hl1
  have E2 := e1.trans e2
  generalize upd (upd H l (.lst [])) t (.tup (((pairsOf ws.length wall).drop 1).map V.int)) = H2 at *
  refine ⟨ap, t, _, _, rfl, .inr ⟨SqT.of (E2 _ _ p2), SqT.of ht2, ?_⟩⟩
  refine for_it (walk_zipTG (n := (ordersR ws wall).length) (G := fun H' => H' ap = some (.tup ((pairsOf ws.length wall).map V.int)) ∧ H' t = some (.tup (((pairsOf ws.length wall).drop 1).map V.int))) (by unfold ordersR; rw [List.length_zipWith, List.length_map, List.length_map]) (fun H' g => SqT.of g.1) (fun H' g => SqT.of g.2))
    (fun i σ' H' => ∃ (acc : List V) (y2 y3 y4 : Option V), σ' = [some (.ref a), some (.ref l), y2, y3, y4] ∧ Ex H H' ∧ H' l = some (.lst acc) ∧ H' t = some (.tup (((pairsOf ws.length wall).drop 1).map V.int)) ∧ acc = ((ordersR ws wall).take i).map optI)
    ⟨[], none, none, none, rfl, E2, hl2, ht2, rfl⟩ (fun i σ' H' _ p => by obtain ⟨_, _, _, _, _, e, _, ht, _⟩ := p; exact ⟨e _ _ p2, ht⟩) (fun i z σ' H' H'' hi p y => ?_) (fun σ' H' p => ?_)
  · obtain ⟨acc, y2, y3, y4, rfl, e, hacc, htt, ea⟩ := p
    obtain ⟨Tp, x1, x2, rfl, hT, rfl, h1, h2⟩ := y
    replace h1 : ((pairsOf ws.length wall).map V.int)[i]? = some x1 := h1
    replace h2 : (((pairsOf ws.length wall).drop 1).map V.int)[i]? = some x2 := h2
    rw [List.getElem?_map] at h1 h2
    cases hp : (pairsOf ws.length wall)[i]? with
    | none => rw [hp] at h1; cases h1
    | some pi =>
      cases hq : ((pairsOf ws.length wall).drop 1)[i]? with
      | none => rw [hq] at h2; cases h2
      | some qi =>
        rw [hp] at h1
        rw [hq] at h2
        cases h1
        cases h2
        have okp := pairs_ok W.pos (List.mem_of_getElem? hp)
        have okq := pairs_ok W.pos (List.mem_of_mem_drop (List.mem_of_getElem? hq))
        have eT := Evl.Ex.new (o := .tup [V.int pi, V.int qi]) hT
        have E := e.trans eT
        have bp := gainR_bd (q := qi) W.w okp
        have bq := gainR_bd (q := pi) W.w okq
        refine ⟨Tp, _, rfl, SqT.of upd_same, rfl, _, _, rfl, _, _, rfl, rfl, ?_⟩
        refine ⟨_, rfl, _, rfl, _, rfl, _, _, _, rfl, ws, v, wall, pi, qi, hrow.ex E, W, rfl, rfl, okp, fun u1 H3 e3 hu1 => ?_⟩
        refine ⟨_, rfl, _, rfl, _, rfl, _, _, _, rfl, ws, v, wall, qi, pi, (hrow.ex E).ex e3, W, rfl, rfl, okq, fun u2 H4 e4 hu2 => ?_⟩
        refine ⟨_, _, rfl, _, _, isR_q (hu1.ex e4) (bp.sm (by omega)), isR_q hu2 (bq.sm (by omega)), bp.sm (by omega), bq.sm (by omega), fun u3 H5 e5 hu3 => ?_⟩
        have e35 := (eT.trans e3).trans (e4.trans e5)
        have hacc5 := e35 _ _ hacc
        have htt5 := e35 _ _ htt
        have E5 := e.trans e35
        refine ⟨_, rfl, .inl ⟨rfl, acc, SqL.of hacc5⟩, ?_⟩
        intro d hd
        have f1 := Evl.Ex.new (H := H5) (o := drO d #[] 0) hd
        refine ⟨(by show 2 ≤ sizeLine; decide), fun t1 ht1 => ?_⟩
        have f2 := Evl.Ex.new (o := .tup [V.int 1, V.int 1]) ht1
        have n1 := qK_one (H := upd (upd H5 d (drO d #[] 0)) t1 (.tup [V.int 1, V.int 1])) (a := t1) upd_same
        refine ⟨(by show 2 ≤ sizeLine; decide), fun t2 ht2 => ?_⟩
        have f3 := Evl.Ex.new (o := .tup [V.int 2, V.int 1]) ht2
        have n2 := two_K (H := upd (upd (upd H5 d (drO d #[] 0)) t1 (.tup [V.int 1, V.int 1])) t2 (.tup [V.int 2, V.int 1])) (a := t2) upd_same
        refine ⟨(by show 2 ≤ sizeLine; decide), fun t3 ht3 => ?_⟩
        have f4 := Evl.Ex.new (o := .tup [V.int 3, V.int 1]) ht3
        have n3 := three_K (H := upd (upd (upd (upd H5 d (drO d #[] 0)) t1 (.tup [V.int 1, V.int 1])) t2 (.tup [V.int 2, V.int 1])) t3 (.tup [V.int 3, V.int 1])) (a := t3) upd_same
        have F := f2.trans (f3.trans f4)
        have hd6 := F _ _ (upd_same (H := H5) (a := d) (o := drO d #[] 0))
        have E6 := E5.trans (f1.trans F)
        have hacc6 := (f1.trans F) _ _ hacc5
        have htt6 := (f1.trans F) _ _ htt5
        have hu6 := hu3.ex (f1.trans F)
        have N1 := n1.ex (f3.trans f4)
        have N2 := n2.ex f4
        generalize upd (upd (upd (upd H5 d (drO d #[] 0)) t1 (.tup [V.int 1, V.int 1])) t2 (.tup [V.int 2, V.int 1])) t3 (.tup [V.int 3, V.int 1]) = H6 at *
        refine ⟨hd6, [qK 1, qK 2, qK 3], .cons N1 (.cons N2 (.cons n3 .nil)), fun k hk => ?_, ?_, by simp, fun es ep kd => ?_⟩
        · simp only [List.mem_cons, List.not_mem_nil, or_false] at hk
          rcases hk with rfl | rfl | rfl <;> exact qK_tupK _
        · have d12 : qK 1 ≠ qK 2 := fun z => absurd (qK_inj z) (by decide)
          have d13 : qK 1 ≠ qK 3 := fun z => absurd (qK_inj z) (by decide)
          have d23 : qK 2 ≠ qK 3 := fun z => absurd (qK_inj z) (by decide)
          simp [d12, d13, d23]
        have hnd : H d = none := by
          cases hh : H d with
          | none => rfl
          | some o => rw [E5 _ _ hh] at hd; cases hd
        have E7 : Ex H (upd H6 d (drO d es ep)) := Evl.Ex.mut E6 hnd
        have nk : ∀ {b : Addr} {xs : List V}, H6 b = some (.lst xs) → (upd H6 d (drO d es ep)) b = some (.lst xs) := fun hb => by
          rw [upd_ne (ne_of hb hd6 (by intro z; cases z))]
          exact hb
        have nt : (upd H6 d (drO d es ep)) t = some (.tup (((pairsOf ws.length wall).drop 1).map V.int)) := by
          rw [upd_ne (ne_of htt6 hd6 (by intro z; cases z))]
          exact htt6
        have hacc7 := nk hacc6
        refine ⟨d, _, rfl, kd, _, rfl, qK (gainR ws pi qi * gainR ws qi pi), u3, .non, rfl, qK_tupK _, hu6.dupd hd6, kd, ?_⟩
        have hval : (valN (([qK 1, qK 2, qK 3] : List NestedKey).zip ([V.int 3, V.int 4, V.int 6] : List V)) (qK (gainR ws pi qi * gainR ws qi pi))).getD .non = optI (orderR (gainR ws pi qi * gainR ws qi pi)) := by
          generalize gainR ws pi qi * gainR ws qi pi = s
          unfold valN orderR
          have dq : ∀ r : Rat, decide (qK r = qK s) = decide (s = r) := fun r => by
            rw [decide_eq_decide]
            exact ⟨fun h => (qK_inj h).symm, fun h => by rw [h]⟩
          show (Option.map (·.2) (List.find? _ [(qK 1, V.int 3), (qK 2, V.int 4), (qK 3, V.int 6)])).getD .non = _
          rw [List.find?_cons, List.find?_cons, List.find?_cons]
          simp only [dq]
          by_cases h1 : s = 1
          · rw [decide_eq_true h1, if_pos h1]; rfl
          · rw [decide_eq_false h1, if_neg h1]
            by_cases h2 : s = 2
            · rw [decide_eq_true h2, if_pos h2]; rfl
            · rw [decide_eq_false h2, if_neg h2]
              by_cases h3 : s = 3
              · rw [decide_eq_true h3, if_pos h3]; rfl
              · rw [decide_eq_false h3, if_neg h3]; rfl
        refine ⟨l, acc, _, rfl, rfl, hacc7, line_of ?_, acc ++ [optI (orderR (gainR ws pi qi * gainR ws qi pi))], _, _, _, rfl, Evl.Ex.mut E7 hl, ?_, ?_, ?_⟩
        · rw [ea, List.length_map, List.length_take]
          unfold ordersR
          rw [List.length_zipWith]
          omega
        · rw [← hval]
          exact upd_same
        · rw [upd_ne (ne_of nt hacc7 (by intro z; cases z))]
          exact nt
        · rw [ea, take_snoc (ordersR_at hp hq), List.map_append]
          rfl
  · obtain ⟨acc, y2, y3, y4, rfl, e, hacc, htt, ea⟩ := p
    rw [List.take_length] at ea
    subst ea
    exact ⟨_, rfl, l, _, rfl, .inl hacc, fun t2 H3 e3 h3 => k t2 H3 (e.trans e3) h3⟩
/-! ### is_closed -/
abbrev s_is_closed : Stmt := topS 59
theorem sc_is_closed : FnScope ["row"] ["row"] (defScope s_is_closed) := ⟨rfl, rfl, rfl, by decide +kernel, rfl, by decide +kernel, by decide +kernel⟩
def spClosed (C : Addr) : Sp := sp1 fun x H Q => ∃ ws v wall, RowAt C H x ws v wall ∧ Wk ws wall ∧ RetV (.bl (!decide (none ∈ ordersR ws wall))) H Q
theorem inV_opt (os : List (Option Int)) : inV .non (os.map optI) = decide (none ∈ os) := by
  unfold inV
  rw [Bool.eq_iff_iff, List.any_eq_true, decide_eq_true_iff]
  constructor
  · rintro ⟨y, hy, e⟩
    obtain ⟨o, ho, rfl⟩ := List.mem_map.mp hy
    cases o with
    | none => exact ho
    | some i => simp [optI, eqV] at e
  · intro h
    exact ⟨.non, List.mem_map.mpr ⟨none, h, rfl⟩, rfl⟩
theorem flat_opt (os : List (Option Int)) : (os.map optI).all flatV = true := by
  rw [List.all_eq_true]
  intro x hx
  obtain ⟨o, _, rfl⟩ := List.mem_map.mp hx
  cases o <;> rfl
theorem ok_is_closed (D : Dn c "is_closed" s_is_closed ["row"]) (g_orders_of : Kn c CX0 5 "orders_of" ["row"] (spOrders C)) : Kn c CX0 6 "is_closed" ["row"] (spClosed C) := by
  have sc := sc_is_closed
  refine D.ok sc len1 (fun f cdv A outer s H vs Q E hr h => ?_)
  refine ⟨_, (pss_one (ps_ret (pe_cmpR op_notIn_seq pe_non (pe_kn g_orders_of (hr.mono (by decide)) rfl (pa_cons (pv 0) pa_nil)) (by rfl)))), ?_⟩
  obtain ⟨_, rfl, ws, v, wall, hrow, W, k⟩ := h
  refine ⟨_, rfl, _, rfl, ws, v, wall, hrow, W, fun t H1 e1 h1 => ?_⟩
  refine ⟨t, _, rfl, .inr (SqT.of h1), rfl, flat_opt _, ?_⟩
  rw [inV_opt]
  exact k _ e1
end
end K74
namespace K74
open PySem PySem.Spec PyProof.Rows L2
/-! ### lowest_row -/
def lcmR (qs : List Rat) : Nat := qs.foldl (fun w q => Nat.lcm w q.den) 1
def topsR (qs : List Rat) : List Int := qs.map fun q => q.num * ((lcmR qs : Int) / (q.den : Int))
def gcdR (ts : List Int) : Nat := ts.foldl (fun c t => Nat.gcd c t.natAbs) 0
theorem lowestR_eq (qs : List Rat) : lowestR qs = if gcdR (topsR qs) = 0 then topsR qs else (topsR qs).map fun t => t / (gcdR (topsR qs) : Int) := rfl
theorem lcm_dvd_LL {m : Nat} : ∀ {qs : List Rat} {w : Nat}, w ∣ LL ^ m → (∀ q ∈ qs, Frac m q) → qs.foldl (fun w q => Nat.lcm w q.den) w ∣ LL ^ m
  | [], _, h, _ => h
  | q :: qs, w, h, hq => lcm_dvd_LL (qs := qs) (w := Nat.lcm w q.den) (Nat.lcm_dvd h (hq q (by simp)).den) fun r hr => hq r (by simp [hr])
theorem lcm_pos' : ∀ {qs : List Rat} {w : Nat}, 0 < w → 0 < qs.foldl (fun w q => Nat.lcm w q.den) w
  | [], _, h => h
  | q :: qs, w, h => lcm_pos' (qs := qs) (w := Nat.lcm w q.den) (Nat.lcm_pos h q.den_pos)
theorem LL_lt : LL ^ 1 < 2 ^ 24 := by decide
/-- ratios that lowest_row gets -/
def LwIn (H : Hp) (xs : List V) (qs : List Rat) : Prop := xs.length = qs.length ∧ ∀ (i : Nat) v q, xs[i]? = some v → qs[i]? = some q → IsR H v q
theorem LwIn.ex {H H' : Hp} {xs : List V} {qs : List Rat} (h : LwIn H xs qs) (e : Ex H H') : LwIn H' xs qs := ⟨h.1, fun i v q h1 h2 => (h.2 i v q h1 h2).ex e⟩
def Lw (q : Rat) : Prop := Frac 1 q ∧ q.num.natAbs < 2 ^ 40
abbrev s_lowest_row : Stmt := topS 20
theorem sc_lowest_row : FnScope ["numbers", "known", "number", "whole", "tops", "common", "top"] ["numbers"] (defScope s_lowest_row) := ⟨rfl, rfl, rfl, by decide +kernel, rfl, by decide +kernel, by decide +kernel⟩
def spLowest : Sp := sp1 fun x H Q => ∃ (a : Addr) (xs : List V) (qs : List Rat), x = .ref a ∧ Sx H a xs ∧ LwIn H xs qs ∧ qs.length ≤ 4 ∧ (∀ q ∈ qs, Lw q) ∧ ∀ t H', Ex H H' → H' t = some (.tup ((lowestR qs).map V.int)) → Q (.ref t) H'
theorem tops_lt {qs : List Rat} (h : ∀ q ∈ qs, Lw q) {q : Rat} (hq : q ∈ qs) : ((lcmR qs : Int) / (q.den : Int)).natAbs < 2 ^ 24 := by
  have h1 : lcmR qs ≤ LL ^ 1 := Nat.le_of_dvd (by decide) (lcm_dvd_LL (m := 1) (Nat.one_dvd _) fun q hq => (h q hq).1)
  have h2 := LL_lt
  rw [show (lcmR qs : Int) / (q.den : Int) = ((lcmR qs / q.den : Nat) : Int) from (Int.natCast_ediv _ _).symm, Int.natAbs_natCast]
  exact Nat.lt_of_le_of_lt (Nat.div_le_self _ _) (by omega)
theorem gcd_lt {B : Nat} : ∀ {ts : List Int} {w : Nat}, w < B → (∀ t ∈ ts, t.natAbs < B) → ts.foldl (fun c t => Nat.gcd c t.natAbs) w < B
  | [], _, h, _ => h
  | t :: ts, w, h, ht => by
    refine gcd_lt (ts := ts) (w := Nat.gcd w t.natAbs) ?_ fun u hu => ht u (by simp [hu])
    rcases Nat.eq_zero_or_pos w with e | e
    · rw [e, Nat.gcd_zero_left]
      exact ht t (by simp)
    · exact Nat.lt_of_le_of_lt (Nat.gcd_le_left _ e) h
theorem gcdR_lt {qs : List Rat} (h : ∀ q ∈ qs, Lw q) : gcdR (topsR qs) < 2 ^ 64 := by
  refine gcd_lt (by decide) fun t ht => ?_
  obtain ⟨q, hq, rfl⟩ := List.mem_map.mp ht
  have := wide_lt (a := 40) (b := 24) (h q hq).2 (tops_lt h hq)
  exact this
section
variable {c : Cn}
theorem ok_lowest_row (T : Tx c.mg) (D : Dn c "lowest_row" s_lowest_row ["numbers"]) (g_ratio_of : Kn c CX0 3 "ratio_of" ["thing"] spRatio) : Kn c CX0 4 "lowest_row" ["numbers"] spLowest := by
  have sc := sc_lowest_row
  refine D.ok sc len1 (fun f cdv A outer s H vs Q E hr h => ?_)
  refine ⟨_, (pss_cons (ps_setLc (i := 1) (own := [("number", 2)]) (g := gName 2) (tt := tYes) rfl sc.nd rfl rfl (sw_true rfl rfl rfl (by decide +kernel)) (pi_sq (pv 0)) (blkOk_by (by kernel_rfl)) (fun _ _ _ _ _ => (pg_name (i := 2) sc.nd rfl (.inl rfl))) (fun _ _ _ _ _ => pts_nil) (fun _ _ _ _ _ => (pe_kn g_ratio_of (hr.mono (by decide)) rfl (pa_cons (pv 2) pa_nil))))
  (pss_cons (ps_set (i := 3) sc.nd rfl (.inr rfl) pe_int)
  (pss_cons (ps_for PassesOwn.never rfl (pi_sq (pv 1)) (pg_name (i := 2) sc.nd rfl (.inl rfl))
    (pss_one (ps_set (i := 3) sc.nd rfl (.inr rfl) (pe_callBfun cr_lcm rfl T.lcm (pa_cons (pv 3) (pa_cons (pe_ix ix_tup (pv 2) pe_int (fun _ _ => rfl)) pa_nil))))))
  (pss_cons (ps_setLc (i := 4) (own := [("number", 2)]) (g := gName 2) (tt := tYes) rfl sc.nd rfl rfl (sw_true rfl rfl rfl (by decide +kernel)) (pi_sq (pv 1)) (blkOk_by (by kernel_rfl)) (fun _ _ _ _ _ => (pg_name (i := 2) sc.nd rfl (.inl rfl))) (fun _ _ _ _ _ => pts_nil) (fun _ _ _ _ _ => (pe_op op_mulW (pe_ix (ixT c.K) (pv 2) pe_int (fun _ _ => rfl)) (pe_op op_fdivW (pv 3) (pe_ix (ixT c.K) (pv 2) pe_int (fun _ _ => rfl))))))
  (pss_cons (ps_set (i := 5) sc.nd rfl (.inr rfl) pe_int)
  (pss_cons (ps_for PassesOwn.never rfl (pi_sq (pv 4)) (pg_name (i := 6) sc.nd rfl (.inl rfl))
    (pss_one (ps_set (i := 5) sc.nd rfl (.inr rfl) (pe_callBfun cr_gcd rfl T.gcd (pa_cons (pv 5) (pa_cons (pv 6) pa_nil))))))
  (pss_cons (ps_if (pt_cmpR op_eq (pv 5) pe_int (nomark _)) (pss_one (ps_ret (pe_callTy call_tupX (by rfl) T.tuple (by decide +kernel) (pa_cons (pv 4) pa_nil))))
    pss_nil)
  (pss_one (ps_ret (pe_callTy call_tupX (by rfl) T.tuple (by decide +kernel) (pa_cons (pe_lc (own := [("top", 6)]) (g := gName 6) (tt := tYes) rfl sc.nd (pi_sq (pv 4)) (blkOk_by (by kernel_rfl)) (fun _ _ _ _ _ => (pg_name (i := 6) sc.nd rfl (.inl rfl))) (fun _ _ _ _ _ => pts_nil) (fun _ _ _ _ _ => (pe_op op_fdivW (pv 6) (pv 5)))) pa_nil))))))))))), ?_⟩
  obtain ⟨_, rfl, a, xs, qs, rfl, hs, hin, h4, hlw, k⟩ := h
  have hxl := hin.1
  refine ⟨_, rfl, iSq_go hs.sq fun J w => ?_⟩
  refine lc_name (Qd := fun D H' => _) w grow_at (qs.map qK) (by rw [List.length_map, hxl]) (by omega) (by intro _; rfl) (fun i x kk H2 H3 hk2 g1 g2 y Q' q => ?_) (fun ln zs H1 hln e1 h1 hzs => ?_)
  · obtain ⟨rfl, hx⟩ := y
    rw [List.getElem?_map] at hk2
    cases hqi : qs[i]? with
    | none => rw [hqi] at hk2; cases hk2
    | some q0 =>
      rw [hqi] at hk2
      cases hk2
      exact ⟨_, rfl, _, rfl, q0, (hin.2 i x q0 hx hqi).ex g1, q⟩
  have hzl : zs.length = qs.length := by rw [hzs.len, List.length_map]
  have hdv := lcm_dvd_LL (m := 1) (qs := qs) (w := 1) (Nat.one_dvd _) fun q hq => (hlw q hq).1
  refine ⟨_, rfl, iSq_go (.l h1) fun J2 w2 => ?_⟩
  refine for_it w2 (fun i σ' H' => ∃ (y2 : Option V) (wh : Nat), σ' = [some (.ref a), some (.ref ln), y2, some (.int (wh : Int)), none, none, none] ∧ Ex H1 H' ∧ wh = (qs.take i).foldl (fun w q => Nat.lcm w q.den) 1) ⟨none, 1, rfl, Ex.rfl, rfl⟩ (fun i σ' H' _ p => by obtain ⟨_, _, _, p, _⟩ := p; exact p) (fun i z σ' H' H'' hi p y => ?_) (fun σ' H2 p => ?_)
  · obtain ⟨y2, wh, rfl, e, hwh⟩ := p
    obtain ⟨rfl, hz⟩ := y
    have hi' : i < qs.length := by omega
    obtain ⟨x, hx, nx⟩ := q_at (hzs.ex e) hi'
    rw [hz] at hx
    cases hx
    obtain ⟨ax, rfl, hax⟩ := qK_inv nx
    have hq := mem_getD hi' 0
    have d1 : (qs.getD i 0).den ≤ LL ^ 1 := Nat.le_of_dvd (by decide) ((hlw _ hq).1).den
    have d2 : wh ≤ LL ^ 1 := by
      rw [hwh]
      exact Nat.le_of_dvd (by decide) (lcm_dvd_LL (m := 1) (Nat.one_dvd _) fun q hq => (hlw q (List.mem_of_mem_take hq)).1)
    have hL := LL_lt
    refine ⟨_, rfl, _, rfl, ax, _, _, _, rfl, rfl, SqT.of hax, rfl, _, _, rfl, by omega, by omega, ?_⟩
    refine ⟨_, Nat.lcm wh (qs.getD i 0).den, rfl, e, ?_⟩
    rw [take_snoc (getD_some hi' 0), List.foldl_append, ← hwh]
    rfl
  · obtain ⟨y2, wh, rfl, e2, hwh⟩ := p
    rw [List.take_of_length_le (by omega)] at hwh
    have hw2 : wh = lcmR qs := hwh
    subst hw2
    have hLp : 0 < lcmR qs := lcm_pos' (by decide)
    refine ⟨_, rfl, iSq_go (.l (e2 _ _ h1)) fun J3 w3 => ?_⟩
    refine lc_name (Qd := fun D H' => _) w3 grow_at ((topsR qs).map .num) (by rw [List.length_map]; unfold topsR; rw [List.length_map, hzl]) (by omega) (by intro _; rfl) (fun i x kk H3 H4 hk2 g1 g2 y Q' q => ?_) (fun lt ts H3 hlt e3 h3 hts => ?_)
    · obtain ⟨rfl, hx⟩ := y
      have hi' : i < qs.length := by
        rcases Nat.lt_or_ge i zs.length with z | z
        · omega
        · rw [List.getElem?_eq_none z] at hx; cases hx
      obtain ⟨x', hx', nx⟩ := q_at (hzs.ex (e2.trans g1)) hi'
      rw [hx] at hx'
      cases hx'
      obtain ⟨ax, rfl, hax⟩ := qK_inv nx
      have hq := mem_getD hi' 0
      unfold topsR at hk2
      rw [List.getElem?_map, List.getElem?_map, getD_some hi' 0] at hk2
      cases hk2
      have dp := (qs.getD i 0).den_pos
      have d1 : (qs.getD i 0).den ≤ LL ^ 1 := Nat.le_of_dvd (by decide) ((hlw _ hq).1).den
      have hL := LL_lt
      refine ⟨_, rfl, ax, _, _, _, rfl, rfl, SqT.of hax, rfl, _, rfl, _, rfl, ax, _, _, _, rfl, rfl, SqT.of hax, rfl, _, _, rfl, rfl, wide_div (b := 24) (by omega) (by rw [Int.natAbs_natCast]; omega) (by decide) (by decide), _, _, rfl, rfl, wide_mul (a := 40) (b := 24) (hlw _ hq).2 (tops_lt hlw hq) (by decide) (by decide) (by decide), q _ _ Ex.rfl (.num _)⟩
    have hti := hts.ints
    subst hti
    have htl : (topsR qs).length = qs.length := by unfold topsR; rw [List.length_map]
    refine ⟨_, rfl, iSq_go (.l h3) fun J4 w4 => ?_⟩
    refine for_it w4 (fun i σ' H' => ∃ (y6 : Option V) (cm : Nat), σ' = [some (.ref a), some (.ref ln), y2, some (.int (lcmR qs : Int)), some (.ref lt), some (.int (cm : Int)), y6] ∧ Ex H3 H' ∧ cm = ((topsR qs).take i).foldl (fun c t => Nat.gcd c t.natAbs) 0) ⟨none, 0, rfl, Ex.rfl, rfl⟩ (fun i σ' H' _ p => by obtain ⟨_, _, _, p, _⟩ := p; exact p) (fun i z σ' H' H'' hi p y => ?_) (fun σ' H4 p => ?_)
    · obtain ⟨y6, cm, rfl, e, hcm⟩ := p
      obtain ⟨rfl, hz⟩ := y
      rw [List.length_map] at hi
      rw [ints_at0 hi] at hz
      cases hz
      refine ⟨_, rfl, _, rfl, _, _, rfl, ?_⟩
      refine ⟨_, Nat.gcd cm ((topsR qs).getD i 0).natAbs, rfl, e, ?_⟩
      rw [take_snoc (getD_some hi 0), List.foldl_append, ← hcm]
      rfl
    · obtain ⟨y6, cm, rfl, e4, hcm⟩ := p
      rw [List.take_of_length_le (by rw [List.length_map]; omega)] at hcm
      have hc2 : cm = gcdR (topsR qs) := hcm
      subst hc2
      rw [lowestR_eq] at k
      have E4 := ((e1.trans e2).trans e3).trans e4
      refine ⟨_, rfl, rfl, _, rfl, ?_⟩
      by_cases h0 : gcdR (topsR qs) = 0
      · rw [if_pos h0] at k
        refine ite_t (decide_eq_true (by rw [h0]; rfl)) ⟨_, rfl, lt, _, rfl, .inl (e4 _ _ h3), fun t H5 e5 h5 => k t H5 (E4.trans e5) h5⟩
      · rw [if_neg h0] at k
        refine ite_f (decide_eq_false fun z => h0 (by injection z with z; omega)) ?_
        refine ⟨_, rfl, iSq_go (.l (e4 _ _ h3)) fun J5 w5 => ?_⟩
        refine lc_name (Qd := fun D H' => _) w5 grow_at (((topsR qs).map fun t => t / (gcdR (topsR qs) : Int)).map .num) (by rw [List.length_map, List.length_map, List.length_map]) (by rw [List.length_map]; omega) (by intro _; rfl) (fun i x kk H5 H6 hk2 g1 g2 y Q' q => ?_) (fun lr rs H5 hlr e5 h5 hrs => ?_)
        · obtain ⟨rfl, hx⟩ := y
          have hi' : i < (topsR qs).length := by
            rcases Nat.lt_or_ge i (topsR qs).length with z | z
            · exact z
            · rw [List.getElem?_eq_none (by rw [List.length_map]; omega)] at hx; cases hx
          rw [ints_at0 hi'] at hx
          cases hx
          rw [List.getElem?_map, List.getElem?_map, getD_some hi' 0] at hk2
          cases hk2
          refine ⟨_, rfl, _, rfl, _, _, rfl, rfl, wide_div (b := 70) (by omega) ?_ (by decide) (by decide), q _ _ Ex.rfl (.num _)⟩
          rw [Int.natAbs_natCast]
          exact Nat.lt_trans (gcdR_lt hlw) (by decide)
        · have hri := hrs.ints
          subst hri
          exact ⟨lr, _, rfl, .inl h5, fun t H6 e6 h6 => k t H6 ((E4.trans e5).trans e6) h6⟩
/-! ### root_behind -/
abbrev s_root_behind : Stmt := topS 61
theorem sc_root_behind : FnScope ["row", "root", "at", "made", "share", "near"] ["row", "root", "at"] (defScope s_root_behind) := ⟨rfl, rfl, rfl, by decide +kernel, rfl, by decide +kernel, by decide +kernel⟩
/-- a root of few small numbers -/
def RtOk (n : Nat) (root : List Int) : Prop := root.length = n ∧ ∀ x ∈ root, x.natAbs ≤ 1000
def spRootB (C : Addr) : Sp := sp3 fun x r i H Q => ∃ (ws : List Int) (v : List Rat) (wall : Bool) (root : List Int) (ar : Addr) (j : Nat), RowAt C H x ws v wall ∧ Wk ws wall ∧ r = .ref ar ∧ H ar = some (.tup (root.map V.int)) ∧ RtOk (pairsOf ws.length wall).length root ∧ i = .int (j : Int) ∧ j < root.length ∧
  ∀ t H', Ex H H' → H' t = some (.tup ((rootB ws (pairsOf ws.length wall) root j).map V.int)) → Q (.ref t) H'
variable {C : Addr}
theorem small_int {i : Int} (h : i.natAbs ≤ 1000) : Frac 1 (i : Rat) ∧ -(1000 : Rat) ≤ (i : Rat) ∧ (i : Rat) ≤ 1000 := by
  refine ⟨Frac.int 1 i, ?_, ?_⟩
  · have : ((-1000 : Int) : Rat) ≤ (i : Rat) := Rat.intCast_le_intCast.mpr (by omega)
    exact this
  · have : (i : Rat) ≤ ((1000 : Int) : Rat) := Rat.intCast_le_intCast.mpr (by omega)
    exact this
theorem num_le {B : Nat} {q : Rat} (h1 : -(B : Rat) ≤ q) (h2 : q ≤ (B : Rat)) : q.num.natAbs ≤ B * q.den := by
  have k1 := (Rat.le_iff _ _).mp h2
  have k2 := (Rat.le_iff _ _).mp h1
  rw [Rat.num_natCast, Rat.den_natCast] at k1
  rw [Rat.neg_num, Rat.neg_den, Rat.num_natCast, Rat.den_natCast] at k2
  have e : ((B * q.den : Nat) : Int) = (B : Int) * (q.den : Int) := by push_cast; rfl
  have k3 : q.num ≤ ((B * q.den : Nat) : Int) := by rw [e]; simpa using k1
  have k4 : -((B * q.den : Nat) : Int) ≤ q.num := by rw [e, ← Int.neg_mul]; simpa using k2
  omega
theorem lw_of {q : Rat} (hf : Frac 1 q) (h1 : -(65536 : Rat) ≤ q) (h2 : q ≤ 65536) : Lw q := by
  refine ⟨hf, ?_⟩
  have hd : q.den ≤ LL ^ 1 := Nat.le_of_dvd (by decide) hf.den
  have hn := num_le (B := 65536) (q := q) h1 h2
  have hL : LL ^ 1 = 12252240 := by decide
  omega
theorem bd_small {q : Rat} (hf : Frac 1 q) (h1 : -(65536 : Rat) ≤ q) (h2 : q ≤ 65536) : Bd 4 q := ⟨hf.mono (by omega), by rw [show (16 : Rat) ^ 4 = 65536 from by decide]; exact h1, by rw [show (16 : Rat) ^ 4 = 65536 from by decide]; exact h2⟩
def stepS (ws ps root : List Int) (j : Nat) (sh : Rat) (near : Int) : Rat := if 0 ≤ near ∧ near < (root.length : Int) then sh + gainR ws (ps.getD j 0) (ps.getD near.toNat 0) * ((root.getD near.toNat 0 : Int) : Rat) else sh
theorem shareR_eq (ws ps root : List Int) (j : Nat) : shareR ws ps root j = stepS ws ps root j (stepS ws ps root j ((-1 : Rat) * ((root.getD j 0 : Int) : Rat)) ((j : Int) - 1)) ((j : Int) + 1) := by
  unfold shareR stepS
  have e1 : (0 ≤ (j : Int) - 1 ∧ (j : Int) - 1 < (root.length : Int)) ↔ (1 ≤ j ∧ j - 1 < root.length) := by omega
  have e2 : (0 ≤ (j : Int) + 1 ∧ (j : Int) + 1 < (root.length : Int)) ↔ (j + 1 < root.length) := by omega
  have e3 : ((j : Int) + 1).toNat = j + 1 := by omega
  have e4 : ((j : Int) - 1).toNat = j - 1 := by omega
  simp only [e1, e2, e3, e4]
theorem ok_root_behind (T : Tx c.mg) (RC : RwC c C) (D : Dn c "root_behind" s_root_behind ["row", "root", "at"]) (g_times : Kn c CX0 4 "times" ["one", "other"] spTimes) (g_plus : Kn c CX0 4 "plus" ["one", "other"] spPlus) (g_closing_gain : Kn c CX0 4 "closing_gain" ["row", "clashing", "near"] (spGain C))
    (g_lowest_row : Kn c CX0 4 "lowest_row" ["numbers"] spLowest) : Kn c CX0 5 "root_behind" ["row", "root", "at"] (spRootB C) := by
  have sc := sc_root_behind
  refine D.ok sc len3 (fun f cdv A outer s H vs Q E hr h => ?_)
  refine ⟨_, (pss_cons (ps_set (i := 3) sc.nd rfl (.inl rfl) (pe_callTy call_list_of (by rfl) T.list (by decide +kernel) (pa_cons (pv 1) pa_nil)))
  (pss_cons (ps_set (i := 4) sc.nd rfl (.inl rfl) (pe_kn g_times (hr.mono (by decide)) rfl (pa_cons (pe_un un_neg pe_int) (pa_cons (pe_ix ix_sq (pv 1) (pv 2) (fun _ _ => rfl)) pa_nil))))
  (pss_cons (ps_for PassesOwn.never rfl (pi_sq (pe_tup (pa_cons (pe_op op_sub (pv 2) pe_int) (pa_cons (pe_op op_add (pv 2) pe_int) pa_nil)))) (pg_name (i := 5) sc.nd rfl (.inl rfl))
    (pss_one (ps_if (pt_chain op_le op_lt pe_int (pv 5) (pe_callB call_len_seq (by rfl) T.len PySem.boot_len (pa_cons (pv 1) pa_nil))) (pss_one (ps_set (i := 4) sc.nd rfl (.inl rfl) (pe_kn g_plus (hr.mono (by decide)) rfl (pa_cons (pv 4) (pa_cons (pe_kn g_times (hr.mono (by decide)) rfl (pa_cons (pe_kn g_closing_gain (hr.mono (by decide)) rfl (pa_cons (pv 0) (pa_cons (pe_ix ix_sq (pe_fld (pv 0) rfl) (pv 2) (fun _ _ => rfl)) (pa_cons (pe_ix ix_sq (pe_fld (pv 0) rfl) (pv 5) (fun _ _ => rfl)) pa_nil)))) (pa_cons (pe_ix ix_sq (pv 1) (pv 5) (fun _ _ => rfl)) pa_nil))) pa_nil)))))
      pss_nil)))
  (pss_cons (ps_asg (pv 4) (pg_sub (pv 3) (pv 2) set_list))
  (pss_one (ps_ret (pe_kn g_lowest_row (hr.mono (by decide)) rfl (pa_cons (pv 3) pa_nil)))))))), ?_⟩
  obtain ⟨_, _, _, rfl, ws, v, wall, root, ar, j, hrow, W, rfl, har, hok, rfl, hj, k⟩ := h
  obtain ⟨a, dx, fs, rfl, ha, hf⟩ := id hrow
  obtain ⟨ap, p1, p2⟩ := hf.p
  have hg := W.g
  obtain ⟨hrl, hrs⟩ := hok
  generalize hps : pairsOf ws.length wall = ps at *
  have hpo : ∀ i, i < ps.length → PrOk ws.length (ps.getD i 0) := fun i hi => pairs_ok (wall := wall) W.pos (by rw [hps]; exact mem_getD hi 0)
  have rs : ∀ i, i < root.length → Frac 1 ((root.getD i 0 : Int) : Rat) ∧ -(1000 : Rat) ≤ ((root.getD i 0 : Int) : Rat) ∧ ((root.getD i 0 : Int) : Rat) ≤ 1000 := fun i hi => small_int (hrs _ (mem_getD hi 0))
  refine ⟨_, rfl, ar, _, rfl, .inr (SqT.of har), fun l hl => ?_⟩
  have e1 := Evl.Ex.new (o := .lst (root.map V.int)) hl
  have hl1 : (upd H l (.lst (root.map V.int))) l = some (.lst (root.map V.int)) := upd_same
  generalize upd H l (.lst (root.map V.int)) = H1 at *
  obtain ⟨r1, r2, r3⟩ := rs j hj
  have bj : Bd 4 ((root.getD j 0 : Int) : Rat) := bd_small r1 (by grind) (by grind)
  refine ⟨1, rfl, _, rfl, _, rfl, ar, _, _, _, rfl, rfl, .t (e1 _ _ har), atI_nat (ints_at0 hj), _, _, rfl, _, _, isR_int _, isR_int _, (Bd.int (m := 1) (i := -1) (by decide) (by decide) (by decide)).sm (by omega), bj.sm (by omega), fun u0 H2 e2 hu0 => ?_⟩
  replace hu0 : NK H2 (qK ((-1 : Rat) * ((root.getD j 0 : Int) : Rat))) u0 := hu0
  refine ⟨_, rfl, _, _, rfl, rfl, _, rfl, _, _, rfl, rfl, (by show 2 ≤ sizeLine; decide), fun t ht => ?_⟩
  have e3 := Evl.Ex.new (H := H2) (o := .tup [V.int ((j : Int) - 1), V.int ((j : Int) + 1)]) ht
  have ht3 : (upd H2 t (.tup [V.int ((j : Int) - 1), V.int ((j : Int) + 1)])) t = some (.tup [V.int ((j : Int) - 1), V.int ((j : Int) + 1)]) := upd_same
  have hu3 := hu0.ex e3
  have E3 := (e1.trans e2).trans e3
  have hl3 := (e2.trans e3) _ _ hl1
  generalize upd H2 t (.tup [V.int ((j : Int) - 1), V.int ((j : Int) + 1)]) = H3 at *
  refine iSq_go (.t ht3) fun J w => ?_
  refine for_it w (fun i σ' H' => ∃ (u : V) (y5 : Option V) (sh : Rat), σ' = [some (.ref a), some (.ref ar), some (.int (j : Int)), some (.ref l), some u, y5] ∧ Ex H3 H' ∧ NK H' (qK sh) u ∧ Frac 1 sh ∧ -(1000 + 16000 * (i : Rat)) ≤ sh ∧ sh ≤ 1000 + 16000 * (i : Rat) ∧ sh = (([(j : Int) - 1, (j : Int) + 1] : List Int).take i).foldl (stepS ws ps root j) ((-1 : Rat) * ((root.getD j 0 : Int) : Rat)))
    ⟨u0, none, _, rfl, Ex.rfl, hu3, Frac.imul (-1) r1, by grind, by grind, rfl⟩ (fun i σ' H' _ p => by obtain ⟨_, _, _, _, p, _⟩ := p; exact p) (fun i z σ' H' H'' hi p y => ?_) (fun σ' H4 p => ?_)
  · obtain ⟨u, y5, sh, rfl, e, hu, f1, b1, b2, hsh⟩ := p
    obtain ⟨rfl, hz⟩ := y
    have hi2 : i < 2 := hi
    have hnear : ∃ near : Int, z = .int near ∧ ([(j : Int) - 1, (j : Int) + 1] : List Int)[i]? = some near := by
      cases i with
      | zero => cases hz; exact ⟨_, rfl, rfl⟩
      | succ i =>
        cases i with
        | zero => cases hz; exact ⟨_, rfl, rfl⟩
        | succ i => omega
    obtain ⟨near, rfl, hn⟩ := hnear
    have E := E3.trans e
    have hi0 : (0 : Rat) ≤ (i : Rat) := by
      have : ((0 : Nat) : Rat) ≤ ((i : Nat) : Rat) := Rat.natCast_le_natCast.mpr (Nat.zero_le _)
      exact this
    have hi1 : (i : Rat) ≤ 1 := by
      have : ((i : Nat) : Rat) ≤ ((1 : Nat) : Rat) := Rat.natCast_le_natCast.mpr (by omega)
      exact this
    have hsucc : ((i + 1 : Nat) : Rat) = (i : Rat) + 1 := by push_cast; rfl
    have hstep : ∀ sh', sh' = stepS ws ps root j sh near → sh' = (([(j : Int) - 1, (j : Int) + 1] : List Int).take (i + 1)).foldl (stepS ws ps root j) ((-1 : Rat) * ((root.getD j 0 : Int) : Rat)) := fun sh' e' => by
      rw [take_snoc hn, List.foldl_append, ← hsh, e']
      rfl
    refine ⟨_, rfl, _, _, rfl, rfl, _, rfl, ?_⟩
    by_cases hc0 : 0 ≤ near
    · refine ite_t (decide_eq_true hc0) ⟨_, rfl, ar, _, rfl, .inr (SqT.of (E _ _ har)), _, _, rfl, rfl, _, rfl, ?_⟩
      by_cases hc1 : near < (root.length : Int)
      · refine ite_t (decide_eq_true (by rw [List.length_map]; exact hc1)) ?_
        obtain ⟨nr, hnr⟩ : ∃ nr : Nat, near = (nr : Int) := ⟨near.toNat, by omega⟩
        subst hnr
        have hnl : nr < root.length := by omega
        obtain ⟨q1, q2, q3⟩ := rs nr hnl
        have bg := gainR_bd (q := ps.getD nr 0) W.w (hpo j (by omega))
        have bn : Bd 4 ((root.getD nr 0 : Int) : Rat) := bd_small q1 (by grind) (by grind)
        have bs : Bd 4 sh := bd_small f1 (by grind) (by grind)
        have g16 : (16 : Rat) ^ 1 = 16 := by rw [Rat.pow_one]
        have gb1 := bg.2.1
        have gb2 := bg.2.2
        rw [g16] at gb1 gb2
        obtain ⟨m1, m2⟩ := abs_mul (M := 16) (N := 1000) gb1 gb2 q2 q3
        have fg : Frac 1 (gainR ws (ps.getD j 0) (ps.getD nr 0) * ((root.getD nr 0 : Int) : Rat)) := by
          rw [Rat.mul_comm]
          exact Frac.imul _ bg.1
        refine ⟨_, rfl, _, rfl, _, rfl, a, C, dx, _, _, rfl, E _ _ ha, RC.cl, RC.p, p1, _, rfl, ap, _, _, _, rfl, rfl, .t (E _ _ p2), atI_nat (ints_at0 (by omega)), _, rfl, a, C, dx, _, _, rfl, E _ _ ha, RC.cl, RC.p, p1, _, rfl, ap, _, _, _, rfl, rfl, .t (E _ _ p2), atI_nat (ints_at0 (by omega)), _, _, _, rfl, ws, v, wall, _, _, hrow.ex E, W, rfl, rfl, hpo j (by omega), fun u1 H5 e5 hu1 => ?_⟩
        refine ⟨_, rfl, _, rfl, ar, _, _, _, rfl, rfl, .t ((E.trans e5) _ _ har), atI_nat (ints_at0 hnl), _, _, rfl, _, _, isR_q hu1 (bg.sm (by omega)), isR_int _, bg.sm (by omega), bn.sm (by omega), fun u2 H6 e6 hu2 => ?_⟩
        have bm : Bd 4 (gainR ws (ps.getD j 0) (ps.getD nr 0) * ((root.getD nr 0 : Int) : Rat)) := bd_small fg (by grind) (by grind)
        refine ⟨_, _, rfl, _, _, isR_q (hu.ex (e5.trans e6)) (bs.sm (by omega)), isR_q hu2 (bm.sm (by omega)), bs.sm (by omega), bm.sm (by omega), fun u3 H7 e7 hu3 => ?_⟩
        refine ⟨u3, _, _, rfl, ((e.trans e5).trans e6).trans e7, hu3, f1.add fg, ?_, ?_, hstep _ ?_⟩
        · rw [hsucc]; grind
        · rw [hsucc]; grind
        · unfold stepS
          rw [if_pos ⟨hc0, hc1⟩, Int.toNat_natCast]
      · refine ite_f (decide_eq_false (by rw [List.length_map]; exact hc1)) ?_
        refine ⟨u, _, sh, rfl, e, hu, f1, ?_, ?_, hstep _ ?_⟩
        · rw [hsucc]; grind
        · rw [hsucc]; grind
        · unfold stepS
          rw [if_neg (fun z => hc1 z.2)]
    · refine ite_f (decide_eq_false hc0) ⟨_, rfl, ite_f rfl ?_⟩
      refine ⟨u, _, sh, rfl, e, hu, f1, ?_, ?_, hstep _ ?_⟩
      · rw [hsucc]; grind
      · rw [hsucc]; grind
      · unfold stepS
        rw [if_neg (fun z => hc0 z.1)]
  · obtain ⟨u, y5, sh, rfl, e, hu, f1, b1, b2, hsh⟩ := p
    have hsh2 : sh = shareR ws ps root j := by
      rw [shareR_eq, hsh]
      rfl
    have E := E3.trans e
    have hl4 := e _ _ hl3
    have b3 : ((2 : Nat) : Rat) = 2 := rfl
    replace b1 : -(1000 + 16000 * ((2 : Nat) : Rat)) ≤ sh := b1
    replace b2 : sh ≤ 1000 + 16000 * ((2 : Nat) : Rat) := b2
    rw [b3] at b1 b2
    have lw := lw_of f1 (by grind) (by grind)
    have bs : Bd 4 sh := bd_small f1 (by grind) (by grind)
    refine ⟨_, rfl, _, rfl, _, rfl, l, _, _, j, rfl, rfl, hl4, ixN_nat (by rw [List.length_map]; exact hj), ?_⟩
    have hu4 := NK.lupd (ys := (root.map V.int).set j u) hl4 _ _ hu
    have E4 : Ex H (upd H4 l (.lst ((root.map V.int).set j u))) := Evl.Ex.mut E hl
    refine ⟨_, rfl, _, rfl, l, _, (root.map fun (x : Int) => (x : Rat)).set j (shareR ws ps root j), rfl, .inl upd_same, ⟨by simp, fun i x q h1 h2 => ?_⟩, by rw [List.length_set, List.length_map]; omega, fun q hq => ?_, fun t2 H5 e5 h5 => k t2 H5 (E4.trans e5) h5⟩
    · rw [List.getElem?_set] at h1 h2
      by_cases hij : j = i
      · rw [if_pos hij, if_pos (by rw [List.length_map]; omega)] at h1 h2
        cases h1
        cases h2
        rw [← hsh2]
        exact isR_q hu4 (bs.sm (by omega))
      · rw [if_neg hij] at h1 h2
        rw [List.getElem?_map] at h1 h2
        cases hri : root[i]? with
        | none => rw [hri] at h1; cases h1
        | some r =>
          rw [hri] at h1 h2
          cases h1
          cases h2
          exact isR_int r
    · rcases List.mem_or_eq_of_mem_set hq with z | z
      · obtain ⟨r, hr, rfl⟩ := List.mem_map.mp z
        have := small_int (hrs r hr)
        exact lw_of this.1 (by grind) (by grind)
      · rw [z, ← hsh2]
        exact lw
end
end K74
namespace K74
open PySem PySem.Spec PyProof.Rows L2
/-! ### NotClosed -/
abbrev s_Nc_init : Stmt := inClass (topS 10) 0
theorem sc_Nc_init : FnScope ["self", "index"] ["self", "index"] (defScope s_Nc_init) := ⟨rfl, rfl, rfl, by decide +kernel, rfl, by decide +kernel, by decide +kernel⟩
structure NcC (c : Cn) (CN : Addr) : Prop where
  o : OexC c.K CN
  x : XfC c.K CN
  g : c.mg "NotClosed" = some (.ref CN)
  no : PySem.W.findIn c.K (.ref CN) "index" = some none
  te : PySem.W.exmOne c.K (.ref CN) (.ref CN) = some true
  i : ∃ fI fd, PySem.W.findIn c.K (.ref CN) "__init__" = some (some (.ref fI)) ∧ PySem.W.typeIn c.K (.ref fI) = some (.type "function") ∧ Fun c.K "__init__" "NotClosed.__init__" s_Nc_init fI fd ∧ Binds c.K fd ["self", "index"] []
def spNcInit (CN : Addr) : Sp := fun vs H Q _ => ∃ (a : Addr) (y : V), vs = [.ref a, y] ∧ H a = some (exo a CN none) ∧ ∀ dx, H dx = none → dx ≠ a → Q .non (upd (upd H dx (exd dx [("index", y)])) a (exo a CN (some dx)))
theorem lenNc (CN : Addr) : ∀ vs H Q E, spNcInit CN vs H Q E → vs.length = 2 := fun _ _ _ _ h => by obtain ⟨a, y, rfl, _⟩ := h; rfl
theorem ok_Nc_init {c : Cn} {CN fI : Addr} {fd : FuncData} (N : NcC c CN) (F : Fun c.K "__init__" "NotClosed.__init__" s_Nc_init fI fd) : FnOk c.P c.w c.K c.mg c.base CX0 1 fI fd ["self", "index"] (spNcInit CN) := by
  have sc := sc_Nc_init
  refine F.ok sc (lenNc CN) (fun cdv A outer s H vs Q E hr h => ?_)
  refine ⟨_, (pss_one (ps_ost (pv 0) (pv 1))), ?_⟩
  obtain ⟨a, y, rfl, ha, k⟩ := h
  exact ⟨_, rfl, _, rfl, a, CN, rfl, N.o, N.no, .inl ⟨ha, fun dx hd hne => k dx hd hne⟩⟩
/-- raise NotClosed(e) -/
theorem nc_made {CN : Addr} {y : V} {H : Hp} {Q : XK} (k : ∀ d H', Ex H H' → H' d = some (.xd [("index", y)]) → Q (.ref CN) (some d) H') :
    ∀ a, H a = none → spNcInit CN (.ref a :: ([y] ++ [])) (upd H a (exo a CN none)) (fun v H2 => v = .non ∧ ∃ (d : Addr) (fs : List (Str × V)), H2 a = some (exo a CN (some d)) ∧ H2 d = some (exd d fs) ∧ H d = none ∧ Q (.ref CN) (some d) (upd (del H2 a) d (.xd fs))) (fun _ _ _ => False) := by
  intro a ha
  refine ⟨a, y, rfl, upd_same, fun dx hdx hne => ⟨rfl, dx, [("index", y)], upd_same, by rw [upd_ne hne]; exact upd_same, ?_, ?_⟩⟩
  · rw [upd_ne hne] at hdx
    exact hdx
  · rw [upd_ne hne] at hdx
    refine k dx _ (fun b o hb => ?_) upd_same
    have h1 : b ≠ a := fun z => by rw [z, ha] at hb; cases hb
    have h2 : b ≠ dx := fun z => by rw [z, hdx] at hb; cases hb
    rw [upd_ne h2, del_ne h1, upd_ne h1, upd_ne h2, upd_ne h1]
    exact hb
/-! ### check_closed -/
def idxN : List (Option Int) → Nat → Option Nat
  | [], _ => none
  | none :: _, k => some k
  | some _ :: r, k => idxN r (k + 1)
theorem idxN_none {os : List (Option Int)} (h : none ∉ os) : ∀ k, idxN os k = none := by
  induction os with
  | nil => intro k; rfl
  | cons o os ih =>
    intro k
    cases o with
    | none => exact absurd (by simp) h
    | some i => exact ih (fun z => h (by simp [z])) (k + 1)
abbrev s_check_closed : Stmt := topS 60
theorem sc_check_closed : FnScope ["row", "place", "order"] ["row"] (defScope s_check_closed) := ⟨rfl, rfl, rfl, by decide +kernel, rfl, by decide +kernel, by decide +kernel⟩
/-- what leaves, of a row that isn't closed -/
def OutNc (CN : Addr) (os : List (Option Int)) (H : Hp) (E : XK) : Prop := ∀ i, idxN os 0 = some i → ∀ d H', Ex H H' → H' d = some (.xd [("index", .int (i : Int))]) → E (.ref CN) (some d) H'
def spCheckC (C CN : Addr) : Sp := fun vs H Q E => ∃ x ws v wall, vs = [x] ∧ RowAt C H x ws v wall ∧ Wk ws wall ∧ (none ∉ ordersR ws wall → RetV .non H Q) ∧ OutNc CN (ordersR ws wall) H E
theorem lenCc (C CN : Addr) : ∀ vs H Q E, spCheckC C CN vs H Q E → vs.length = 1 := fun _ _ _ _ h => by obtain ⟨_, _, _, _, rfl, _⟩ := h; rfl
theorem ok_check_closed {c : Cn} {C CN : Addr} (T : Tx c.mg) (N : NcC c CN) (D : Dn c "check_closed" s_check_closed ["row"]) (g_orders_of : Kn c CX0 5 "orders_of" ["row"] (spOrders C)) : Kn c (L2.CX c.P c.w) 6 "check_closed" ["row"] (spCheckC C CN) := by
  have sc := sc_check_closed
  obtain ⟨f, fd, F, hm, hb⟩ := D.ex
  obtain ⟨fI, fdI, iC, tI, FI, bI⟩ := N.i
  refine ⟨⟨f, fd, F.okX sc (lenCc C CN) (fun cdv A outer s H vs Q E hr h => ?_), hm, F.kp, hb⟩⟩
  refine ⟨_, (pss_one (ps_for (passes_of rfl) rfl (pi_enumT (by rfl) T.enumerate (pa_cons (pe_kn g_orders_of (hr.mono (by decide)) rfl (pa_cons (pv 0) pa_nil)) pa_nil)) (pg_tup rfl (pgs_cons (pg_name (i := 1) sc.nd rfl (.inl rfl)) (pgs_cons (pg_name (i := 2) sc.nd rfl (.inl rfl)) pgs_nil)))
    (pss_one (ps_if (pt_cmpR op_isN (pv 2) pe_non (nomark _)) (pss_one (ps_raise rfl (takes_of rfl rfl rfl rfl) (pmk_oex N.o iC tI (ok_Nc_init N FI) (hr.mono (by decide)) bI .nil pass0 rfl N.g (pa_cons (pv 1) pa_nil))))
      pss_nil)))), ?_⟩
  obtain ⟨x, ws, v, wall, rfl, hrow, W, k, kE⟩ := h
  refine ⟨_, rfl, _, rfl, ws, v, wall, hrow, W, fun t H1 e1 ht => ⟨t, _, rfl, SqT.of ht, ?_⟩⟩
  refine for_it (walk_enumTE (SqT.of ht)) (fun i σ' H' => ∃ (y1 y2 : Option V), σ' = [some x, y1, y2] ∧ Ex H1 H' ∧ idxN ((ordersR ws wall).drop i) i = idxN (ordersR ws wall) 0 ∧ ∀ o ∈ (ordersR ws wall).take i, o ≠ none) ⟨none, none, rfl, Ex.rfl, rfl, fun o ho => (by cases ho)⟩
    (fun i σ' H' _ p => by obtain ⟨_, _, _, p, _⟩ := p; exact p) (fun i z σ' H' H'' hi p y => ?_) (fun σ' H' p => ?_)
  · obtain ⟨y1, y2, rfl, e, hidx, hnn⟩ := p
    obtain ⟨Tp, x1, x2, rfl, hT, rfl, h1, h2⟩ := y
    cases h1
    replace h2 : ((ordersR ws wall).map optI)[i]? = some x2 := h2
    rw [List.getElem?_map] at h2
    cases ho : (ordersR ws wall)[i]? with
    | none => rw [ho] at h2; cases h2
    | some o =>
      rw [ho] at h2
      cases h2
      have eT := e.trans (Evl.Ex.new (o := .tup [V.int (i : Nat), optI o]) hT)
      rw [drop_at ho] at hidx
      refine ⟨Tp, _, rfl, SqT.of upd_same, rfl, _, _, rfl, _, _, rfl, rfl, ?_⟩
      refine ⟨_, rfl, rfl, _, rfl, ?_⟩
      cases o with
      | none =>
        refine ite_t (decide_eq_true rfl) ?_
        refine ⟨_, rfl, (by show 1 ≤ 1000; decide), nc_made fun d H3 e3 hd => kE i hidx.symm d H3 ((e1.trans eT).trans e3) hd⟩
      | some n =>
        refine ite_f (decide_eq_false (by intro z; cases z)) ?_
        refine ⟨_, _, rfl, eT, hidx, fun o' ho' => ?_⟩
        rw [take_snoc ho] at ho'
        rcases List.mem_append.mp ho' with z | z
        · exact hnn o' z
        · rw [List.mem_singleton.mp z]; simp
  · obtain ⟨y1, y2, rfl, e, hidx, hnn⟩ := p
    rw [List.length_map, List.take_length] at hnn
    exact k (fun z => hnn none z rfl) _ (e1.trans e)
end K74
namespace K74
open PySem PySem.Spec PyProof.Rows L2
section
variable {X : Cx} {k : Nat} {x : Str} {ps : List Str} {sp : Sp} {p pos : Pos} {e : Expr} {es : List Expr} {t : TA}
/-- a def that may raise, called where it doesn't -/
theorem pe_kx (G : Kn ⟨X.prog, X.w, X.K, X.mg, X.base⟩ (L2.CX X.prog X.w) k x ps sp) (hr : Room k X.A) (hg : Gl X x)
    (ha : PA X (e :: es) t) (hdb : (x == ("__debug__" : Str)) = false := by decide) (he : starEach (e :: es) X.env = (false, eval e X.env) :: starEach es X.env := by rfl) (hpl : (backTo pos (starEach es X.env)).any (·.1) = false := by rfl) :
    PE X (.Call (.Name x p) (e :: es) [] pos) (tCall sp [] E0 t) := by
  obtain ⟨f, fd, F, hm, hk, hb⟩ := G.ex
  exact pe_call F hr hg hm hk hb .nil passL ha hdb he hpl
/-- a list of data != [] -/
def rNeL : R2 := fun x y H Q => ∃ p q ks xs, x = .ref p ∧ H p = some (.lst xs) ∧ NKs H ks xs ∧ (∀ k ∈ ks, k.depth ≤ 50) ∧ y = .ref q ∧ H q = some (.lst []) ∧ Q (.bl (!decide (ks = []))) H
theorem op_neL (hu : X.A.units + 64 < cLine) : OpR X (compareOp .NotEq) rNeL := by
  intro pins s σ H x y v u Q I rx ry h
  obtain ⟨p, q, ks, xs, rfl, hp, hk, hd, rfl, hq, k⟩ := h
  refine op_neD hu pins s σ H _ _ v u Q I rx ry ⟨.list (NestedKey.datas ks), .list [], .lst (SqL.of hp) (NKs.dp ks _ hk), .lst (SqL.of hq) .nil, ?_, by decide +kernel, ?_⟩
  · show (PyData.canLay0 (.list (NestedKey.datas ks)) && decide (PyData.depth (.list (NestedKey.datas ks)) ≤ 64)) = true
    have h1 : PyData.canLay0 (.list (NestedKey.datas ks)) = true := by simp only [PyData.canLay0]; exact NKs.lay ks _ hk
    have h2 : PyData.depth (.list (NestedKey.datas ks)) ≤ 64 := by
      simp only [PyData.depth]
      rw [datas_depth]
      have := depthAll_le hd
      omega
    rw [h1, decide_eq_true h2]
    rfl
  · have e : PyData.eqv (.list (NestedKey.datas ks)) (.list []) = decide (ks = []) := by
      cases ks with
      | nil => simp [PyData.eqv, PyData.eqvAll, NestedKey.datas]
      | cons a r => simp [PyData.eqv, PyData.eqvAll, NestedKey.datas]
    rw [e]
    exact k
end
/-! ### what the mirror of roots_of keeps -/
theorem rootOne_sub {ws ps root : List Int} : ∀ {is : List Nat} {s : List (List Int) × List (List Int)}, ∀ r ∈ s.1, r ∈ (rootOne ws ps root is s).1
  | [], _, r, h => h
  | i :: is, s, r, h => by
    rw [rootOne]
    split
    · exact rootOne_sub (is := is) r (by simp [h])
    · exact rootOne_sub (is := is) r h
theorem rootFold_sub {ws ps : List Int} : ∀ {fresh : List (List Int)} {s : List (List Int) × List (List Int)}, ∀ r ∈ s.1, r ∈ (fresh.foldl (fun s r => rootOne ws ps r (List.range ps.length) s) s).1
  | [], _, r, h => h
  | f :: fs, s, r, h => rootFold_sub (fresh := fs) r (rootOne_sub r h)
theorem rootAll_sub {ws ps : List Int} : ∀ {f : Nat} {found fresh rs : List (List Int)}, rootAll ws ps f found fresh = some rs → ∀ r ∈ found, r ∈ rs
  | 0, _, _, _, h, _, _ => by cases h
  | f + 1, found, fresh, rs, h, r, hr => by
    rw [rootAll] at h
    by_cases e : fresh = []
    · rw [if_pos e] at h
      cases h
      exact hr
    · rw [if_neg e] at h
      exact rootAll_sub h r (rootFold_sub r hr)
theorem lowestR_len (qs : List Rat) : (lowestR qs).length = qs.length := by
  rw [lowestR_eq]
  split <;> simp [topsR]
theorem rootB_len (ws ps root : List Int) (i : Nat) : (rootB ws ps root i).length = root.length := by
  unfold rootB
  rw [lowestR_len, List.length_set, List.length_map]
theorem unit_nodup {m : Nat} (h : m ≤ 3) : (unitR m).Nodup := by
  rcases (by omega : m = 0 ∨ m = 1 ∨ m = 2 ∨ m = 3) with rfl | rfl | rfl | rfl <;> decide
theorem nodup_len {α : Type} [DecidableEq α] : ∀ {l m : List α}, l.Nodup → (∀ x ∈ l, x ∈ m) → l.length ≤ m.length
  | [], _, _, _ => Nat.zero_le _
  | a :: l, m, h, hs => by
    rw [List.nodup_cons] at h
    have ha : a ∈ m := hs a (by simp)
    have := nodup_len (l := l) (m := m.erase a) h.2 fun x hx => (List.mem_erase_of_ne (fun (z : x = a) => h.1 (by rw [← z]; exact hx))).mpr (hs x (by simp [hx]))
    rw [List.length_erase_of_mem ha] at this
    have hp := List.length_pos_of_mem ha
    rw [List.length_cons]
    omega
abbrev s_roots_of : Stmt := topS 62
theorem sc_roots_of : FnScope ["row", "many", "fresh", "place", "at", "found", "root", "later", "behind"] ["row"] (defScope s_roots_of) := ⟨rfl, rfl, rfl, by decide +kernel, rfl, by decide +kernel, by decide +kernel⟩
def rootKs (rs : List (List Int)) : List (NestedKey × V) := rs.map fun r => (tupI r, V.bl true)
theorem tupI_inj {a b : List Int} (h : tupI a = tupI b) : a = b := map_inj (fun _ _ => num_inj) (tup_inj h)
theorem mem_rootKs (rs : List (List Int)) (r : List Int) : (tupI r ∈ (rootKs rs).map (·.1)) ↔ r ∈ rs := by
  unfold rootKs
  rw [List.map_map]
  constructor
  · intro h
    obtain ⟨x, hx, e⟩ := List.mem_map.mp h
    rw [← tupI_inj e]
    exact hx
  · intro h
    exact List.mem_map.mpr ⟨r, h, rfl⟩
theorem tupI_tupK (r : List Int) : TupK (tupI r) := ⟨⟨_, rfl⟩, Nat.le_trans (depth_ints r) (by decide)⟩
/-- what is known of a row's roots -/
structure RtsOk (ws : List Int) (wall : Bool) (rs : List (List Int)) : Prop where
  cl : none ∉ ordersR ws wall
  eq : rootsR ws wall = some rs
  ok : ∀ r ∈ rs, r.length = (pairsOf ws.length wall).length ∧ ∀ x ∈ r, 0 ≤ x ∧ x < 1000
  few : rs.length < 64
theorem rootKs_nodup {P : Program} {w : World} {H : Hp} {d : Addr} {rs : List (List Int)} (h : KdAt P w H d (rootKs rs)) : rs.Nodup := by
  obtain ⟨_, _, xs, es, ep, _, _, h5, _, h7⟩ := h
  rw [kv_keys h7] at h5
  unfold rootKs at h5
  rw [List.map_map] at h5
  refine List.Pairwise.imp (fun {x y} hne z => hne (by rw [z])) (List.pairwise_map.mp h5)
def spRoots (C : Addr) : Sp := sp1 fun x H Q => ∃ ws v wall rs, RowAt C H x ws v wall ∧ Wk ws wall ∧ RtsOk ws wall rs ∧ ∀ t ys (ls : List (List Int)) H', Ex H H' → ls.Perm rs → H' t = some (.tup ys) → NKs H' (ls.map tupI) ys → Q (.ref t) H'
section
variable {c : Cn} {C CN : Addr}
theorem ok_roots_of (T : Tx c.mg) (RC : RwC c C) (D : Dn c "roots_of" s_roots_of ["row"]) (g_check_closed : Kn c (L2.CX c.P c.w) 6 "check_closed" ["row"] (spCheckC C CN)) (g_root_behind : Kn c CX0 5 "root_behind" ["row", "root", "at"] (spRootB C)) : Kn c CX0 7 "roots_of" ["row"] (spRoots C) := by
  have sc := sc_roots_of
  refine D.ok sc len1 (fun f cdv A outer s H vs Q E hr h => ?_)
  have hu := hr.units
  refine ⟨_, (pss_cons (ps_expr (pe_kx g_check_closed (hr.mono (by decide)) rfl (pa_cons (pv 0) pa_nil)))
  (pss_cons (ps_set (i := 1) sc.nd rfl (.inr rfl) (pe_fld (pv 0) rfl))
  (pss_cons (ps_setLc (i := 2) (own := [("at", 4)]) (g := gName 4) (tt := tYes) rfl sc.nd rfl rfl (sw_true rfl rfl rfl (by decide +kernel)) (pi_range1 rfl T.range (pa_cons (pv 1) pa_nil)) (blkOk_by (by kernel_rfl)) (fun _ _ _ _ _ => (pg_name (i := 4) sc.nd rfl (.inr rfl))) (fun _ _ _ _ _ => pts_nil) (fun _ _ _ _ _ => (pe_callTy call_tupX (by rfl) T.tuple (by decide +kernel) (pa_cons (pe_lc (own := [("place", 3)]) (g := gName 3) (tt := tYes) rfl sc.nd (pi_range1 rfl T.range (pa_cons (pv 1) pa_nil)) (blkOk_by (by kernel_rfl)) (fun _ _ _ _ _ => (pg_name (i := 3) sc.nd rfl (.inl rfl))) (fun _ _ _ _ _ => pts_nil) (fun _ _ _ _ _ => (pe_ifExp (pt_cmpR op_eq (pv 3) (pv 4) (nomark _)) pe_int pe_int))) pa_nil))))
  (pss_cons (ps_setDcN c.P c.w (i := 5) (own := [("root", 6)]) (g := gName 6) (tt := tYes) hu rfl sc.nd rfl rfl (sw_trueD rfl rfl rfl (by decide +kernel)) (pi_sq (pv 2)) (blkOk_by (by kernel_rfl)) (fun _ _ _ _ _ => (pg_name (i := 6) sc.nd rfl (.inl rfl))) (fun _ _ _ _ _ => pts_nil) (fun _ _ _ _ _ => (pv 6)) (fun _ _ _ _ _ => pe_bl))
  (pss_cons (ps_while PassesOwn.never (pt_cmpR (op_neL hu) (pv 2) (pe_lst pa_nil) (nomark _))
    (pss_cons (ps_set (i := 7) sc.nd rfl (.inl rfl) (pe_lst pa_nil))
    (pss_cons (ps_for PassesOwn.never rfl (pi_sq (pv 2)) (pg_name (i := 6) sc.nd rfl (.inl rfl))
      (pss_one (ps_for PassesOwn.never rfl (pi_range1 rfl T.range (pa_cons (pv 1) pa_nil)) (pg_name (i := 4) sc.nd rfl (.inl rfl))
        (pss_cons (ps_set (i := 8) sc.nd rfl (.inl rfl) (pe_kn g_root_behind (hr.mono (by decide)) rfl (pa_cons (pv 0) (pa_cons (pv 6) (pa_cons (pv 4) pa_nil)))))
        (pss_one (ps_if (PW.pt (pw_and (pt_cmpR op_ge (pe_callB (cr_minT rfl) (by rfl) T.min (by decide +kernel) (pa_cons (pv 8) pa_nil)) pe_int (nomark _)) (pw_and1 (pt_cmpR (op_notInN c.P c.w hu) (pv 8) (pv 5) (by rfl))))) (pss_cons (ps_asg pe_bl (pg_sub (pv 5) (pv 8) (set_N c.P c.w hu)))
          (pss_one (ps_expr (pe_bm PySem.F.plainAttrs_list PySem.F.slot_list_append PySem.F.type_list_append mt_append (pv 7) (pa_cons (pv 8) pa_nil)))))
          pss_nil))))))
    (pss_one (ps_set (i := 2) sc.nd rfl (.inl rfl) (pe_callTy call_list_of (by rfl) T.list (by decide +kernel) (pa_cons (pv 7) pa_nil)))))))
  (pss_one (ps_ret (pe_callTy call_tupX (by rfl) T.tuple (by decide +kernel) (pa_cons (pe_callB (cr_sortN c.P c.w rfl) (by rfl) T.sorted (by decide +kernel) (pa_cons (pv 5) pa_nil)) pa_nil))))))))), ?_⟩
  obtain ⟨_, rfl, ws, v, wall, rs, hrow, W, RO, k⟩ := h
  obtain ⟨a, dx, fs, rfl, ha, hf⟩ := id hrow
  have hg := W.g
  have hp1 := pairs_pos W
  have hgc := hf.g
  have hreq : rootAll ws (pairsOf ws.length wall) 12 (unitR (pairsOf ws.length wall).length) (unitR (pairsOf ws.length wall).length) = some rs := RO.eq
  have rok := RO.ok
  have few := RO.few
  generalize hps : pairsOf ws.length wall = ps at *
  refine ⟨_, rfl, _, ws, v, wall, rfl, hrow, W, fun _ => fun H1 e1 => ?_, fun i hi => absurd (idxN_none RO.cl 0) (by rw [hi]; simp)⟩
  refine ⟨_, rfl, a, C, dx, _, _, rfl, e1 _ _ ha, RC.cl, RC.g, hgc, ?_⟩
  -- fresh
  refine ⟨_, rfl, (ps.length : Int), rfl, by omega, by omega, ?_⟩
  refine lc_name (Qd := fun D H' => _) (walk_rangeE (H := H1)) grow_fn ((unitR ps.length).map tupI) (by rw [List.length_map]; unfold unitR; rw [List.length_map, List.length_range]; omega) (by omega) (by intro _; rfl) (fun i x kk H2 H3 hk g1 g2 y Q' q => ?_) (fun lf xf H2 hlf e2 hf2 hxf => ?_)
  · obtain ⟨rfl, rfl⟩ := y
    unfold unitR at hk
    rw [List.map_map] at hk
    obtain ⟨hi, rfl⟩ := range_at hk
    refine ⟨_, rfl, (ps.length : Int), rfl, by omega, by omega, ?_⟩
    refine lc_name (Qd := fun D H' => _) (walk_rangeE (H := H3)) grow_fn (((List.range ps.length).map fun j => (if j = i then 1 else 0 : Int)).map .num) (by rw [List.length_map, List.length_map, List.length_range]; omega) (by omega) (by intro _; rfl) (fun j x kk H4 H5 hk2 e3 e4 y Q2 q2 => ?_) (fun D xs H4 hD e3 hx hxs => ?_)
    · obtain ⟨rfl, rfl⟩ := y
      rw [List.map_map] at hk2
      obtain ⟨hj, rfl⟩ := range_at hk2
      refine ⟨_, rfl, _, rfl, rfl, _, rfl, ?_⟩
      by_cases hji : j = i
      · refine ite_t (decide_eq_true (by rw [hji])) (q2 _ _ Ex.rfl ?_)
        show NK _ (.num (if j = i then 1 else 0)) _
        rw [if_pos hji]
        exact .num 1
      · refine ite_f (decide_eq_false (fun z => hji (by injection z with z; omega))) (q2 _ _ Ex.rfl ?_)
        show NK _ (.num (if j = i then 1 else 0)) _
        rw [if_neg hji]
        exact .num 0
    · exact ⟨D, xs, rfl, .inl hx, fun l H5 e5 h5 => q _ _ (e3.trans e5) (.tup h5 (hxs.ex e5))⟩
  have E2 := e1.trans e2
  generalize hun : unitR ps.length = un at *
  have hnd : un.Nodup := by rw [← hun]; exact unit_nodup (by omega)
  have hul : un.length = ps.length := by rw [← hun]; unfold unitR; rw [List.length_map, List.length_range]
  have hxl : xf.length = un.length := by rw [hxf.len, List.length_map]
  -- found
  refine ⟨_, rfl, iSq_go (.l hf2) fun J w => ?_⟩
  intro kd hkd kd0
  have hkd0 : H kd = none := by
    cases hh : H kd with
    | none => rfl
    | some o => rw [E2 _ _ hh] at hkd; cases hkd
  refine ⟨fun i m H' => m = un.length - i ∧ i ≤ un.length ∧ Ex H2 H' ∧ KdAt c.P c.w H' kd (rootKs (un.take i)), ⟨un.length, rfl, Nat.zero_le _, Evl.Ex.new hkd, kd0⟩, ?_⟩
  rintro i m H3 ⟨rfl, hi, e3, hkd3⟩
  by_cases hlt : i < un.length
  · refine .inr ⟨w.goes i H3 (by omega) e3, fun H' => i + 1 ≤ un.length ∧ Ex H2 H' ∧ KdAt c.P c.w H' kd (rootKs (un.take (i + 1))), fun H' p => ⟨un.length - (i + 1), by omega, rfl, p⟩, fun x H' y => ?_⟩
    obtain ⟨rfl, hx⟩ := w.yields i _ x H' (by omega) e3 y
    obtain ⟨x', hx', nx⟩ := NKs.get (i := i) (k := tupI un[i]) (hxf.ex e3) (by rw [List.getElem?_map, List.getElem?_eq_getElem hlt]; rfl)
    rw [hx] at hx'
    cases hx'
    have hui : un[i]? = some un[i] := List.getElem?_eq_getElem hlt
    refine ⟨rfl, _, rfl, _, tupI un[i], tupI_tupK _, nx, hkd3, ?_, fun z => ?_, fun es ep kd4 => ⟨by omega, Evl.Ex.mut e3 hkd, ?_⟩⟩
    · unfold rootKs
      rw [List.length_map, List.length_take]
      omega
    · have hm := (mem_rootKs _ _).mp z
      obtain ⟨j, hj, ej⟩ := List.mem_take_iff_getElem.mp hm
      have := (List.getElem_inj (xs := un) (h₀ := by omega) (h₁ := hlt) hnd).mp ej
      omega
    · unfold rootKs
      rw [take_snoc hui, List.map_append]
      exact kd4
  refine .inl ⟨?_, ?_⟩
  · have hie : i = xf.length := by omega
    rw [hie]
    exact w.stops H3 e3
  have hie : i = un.length := by omega
  rw [hie, List.take_length] at hkd3
  have E3 := E2.trans e3
  -- the loop
  refine ⟨fun f σ' H' => ∃ (found fresh : List (List Int)) (lfr : Addr) (xsf : List V) (y3 y4 y6 y7 y8 : Option V), σ' = [some (.ref a), some (.int (ps.length : Int)), some (.ref lfr), y3, y4, some (.ref kd), y6, y7, y8] ∧ Ex H H' ∧ KdAt c.P c.w H' kd (rootKs found) ∧ H' lfr = some (.lst xsf) ∧ NKs H' (fresh.map tupI) xsf ∧ (∀ r ∈ fresh, r ∈ found) ∧ rootAll ws ps f found fresh = some rs,
    ⟨12, un, un, lf, xf, _, _, _, _, _, rfl, E3, hkd3, e3 _ _ hf2, hxf.ex e3, fun r hr => hr, hreq⟩, ?_⟩
  rintro f σ' H' ⟨found, fresh, lfr, xsf, y3, y4, y6, y7, y8, rfl, e, kdf, hlf', hxs', hsub, hall⟩
  cases f with
  | zero => cases hall
  | succ f =>
  rw [rootAll] at hall
  refine ⟨_, rfl, Nat.zero_le _, fun lq hlq => ?_⟩
  have eq := Evl.Ex.new (H := H') (o := .lst []) hlq
  have hq : (upd H' lq (.lst [])) lq = some (.lst []) := upd_same
  have kdf' := kdf.ex eq
  have hlf'' := eq _ _ hlf'
  have hxs'' := hxs'.ex eq
  have e' := e.trans eq
  clear kdf hlf' hxs' e
  generalize upd H' lq (.lst []) = H5 at *
  refine ⟨lfr, lq, fresh.map tupI, xsf, rfl, hlf'', hxs'', fun k hk => ?_, rfl, hq, _, rfl, ?_⟩
  · obtain ⟨r, _, rfl⟩ := List.mem_map.mp hk
    exact Nat.le_trans (depth_ints r) (by decide)
  by_cases hfe : fresh = []
  · rw [if_pos hfe] at hall
    have hfr : found = rs := Option.some.inj hall
    subst hfr
    refine ite_f (by rw [hfe]; rfl) ?_
    refine ⟨_, rfl, kd, rootKs found, found, ps.length, 1000, rfl, kdf', ?_, ?_, by omega, fun l hl => ⟨(rok l hl).1, fun x hx => (rok l hl).2 x hx⟩, fun p ys ls H6 e6 hp hperm hN => ?_⟩
    · unfold rootKs
      rw [List.map_map]
      rfl
    · unfold rootKs
      rw [List.length_map]
      omega
    exact ⟨p, ys, rfl, .inl hp, fun t H7 e7 h7 => k t ys ls H7 ((e'.trans e6).trans e7) hperm h7 (hN.ex e7)⟩
  · rw [if_neg hfe] at hall
    refine ite_t (by rw [decide_eq_false (fun z => hfe (List.map_eq_nil_iff.mp z))]; rfl) ?_
    have hSub : ∀ {is : List Nat} {root : List Int} {fr : List (List Int)} {fnd lat : List (List Int)}, fr.foldl (fun s r => rootOne ws ps r (List.range ps.length) s) (rootOne ws ps root is (fnd, lat)) = rootLvl ws ps found fresh → ∀ r ∈ fnd, r ∈ rs := fun {is root fr fnd lat} he r hr => by
      refine rootAll_sub hall r ?_
      rw [← he]
      exact rootFold_sub r (rootOne_sub r hr)
    refine ⟨fun σ2 H2 => ∃ (found fresh : List (List Int)) (lfr : Addr) (xsf : List V) (y3 y4 y6 y7 y8 : Option V), σ2 = [some (.ref a), some (.int (ps.length : Int)), some (.ref lfr), y3, y4, some (.ref kd), y6, y7, y8] ∧ Ex H H2 ∧ KdAt c.P c.w H2 kd (rootKs found) ∧ H2 lfr = some (.lst xsf) ∧ NKs H2 (fresh.map tupI) xsf ∧ (∀ r ∈ fresh, r ∈ found) ∧ rootAll ws ps f found fresh = some rs, fun σ2 H2 p => ⟨f, Nat.lt_succ_self _, p⟩, ?_⟩
    refine ⟨Nat.zero_le _, fun lt hlt => ?_⟩
    have e6 := Evl.Ex.new (H := H5) (o := .lst []) hlt
    have hlt0 : H lt = none := by
      cases hh : H lt with
      | none => rfl
      | some o => rw [e' _ _ hh] at hlt; cases hlt
    have hne : lfr ≠ lt := fun z => by rw [z, hlt] at hlf''; cases hlf''
    have h6 : (upd H5 lt (.lst [])) lt = some (.lst []) := upd_same
    have kd6 := kdf'.ex e6
    have hlf6 := e6 _ _ hlf''
    have hxs6 := hxs''.ex e6
    have E6 := e'.trans e6
    generalize upd H5 lt (.lst []) = H6 at *
    refine ⟨_, rfl, lfr, _, rfl, .inl ⟨SqL.of hlf6, ?_⟩⟩
    refine for_it (walk_list.mono (G' := fun H' => H' lfr = some (.lst xsf)) (fun H' g => SqL.of g) (fun _ _ _ _ _ _ y => y)) (fun i σ2 H2 => ∃ (fnd lat : List (List Int)) (lxs : List V) (y3 y4 y6 y8 : Option V), σ2 = [some (.ref a), some (.int (ps.length : Int)), some (.ref lfr), y3, y4, some (.ref kd), y6, some (.ref lt), y8] ∧ Ex H H2 ∧ H2 lfr = some (.lst xsf) ∧ NKs H2 (fresh.map tupI) xsf ∧ KdAt c.P c.w H2 kd (rootKs fnd) ∧ H2 lt = some (.lst lxs) ∧ NKs H2 (lat.map tupI) lxs ∧ (∀ r ∈ lat, r ∈ fnd) ∧ lat.length ≤ fnd.length ∧ (fresh.drop i).foldl (fun s r => rootOne ws ps r (List.range ps.length) s) (fnd, lat) = rootLvl ws ps found fresh)
      ⟨found, [], [], _, _, _, _, rfl, E6, hlf6, hxs6, kd6, h6, .nil, fun r hr => (by cases hr), Nat.zero_le _, rfl⟩ (fun i σ2 H2 _ p => by obtain ⟨_, _, _, _, _, _, _, _, _, p, _⟩ := p; exact p) (fun i z σ2 H2 H2' hi p y => ?_) (fun σ2 H2 p => ?_)
    · obtain ⟨fnd, lat, lxs, y3, y4, y6, y8, rfl, e7, hl7, hx7, kd7, hlt7, hlx7, hsub7, hll7, heq7⟩ := p
      obtain ⟨rfl, hz⟩ := y
      have hi' : i < fresh.length := by
        have := hx7.len
        rw [List.length_map] at this
        omega
      have hri : fresh[i]? = some fresh[i] := List.getElem?_eq_getElem hi'
      generalize hrr : fresh[i] = root at hri
      obtain ⟨x', hx', nx⟩ := NKs.get (i := i) (k := tupI root) hx7 (by rw [List.getElem?_map, hri]; rfl)
      rw [hz] at hx'
      cases hx'
      obtain ⟨ar, rfl, har⟩ := tupI_inv nx
      rw [drop_at hri, List.foldl_cons] at heq7
      have hroot : root ∈ rs := rootAll_sub hall root (by
        unfold rootLvl
        exact rootFold_sub _ (hsub _ (List.mem_of_getElem? hri)))
      have hrl := (rok root hroot).1
      refine ⟨_, rfl, (ps.length : Int), rfl, by omega, by omega, ?_⟩
      refine for_it (walk_rangeE (H := H)) (fun j σ3 H3 => ∃ (fnd lat : List (List Int)) (lxs : List V) (y3 y4 y8 : Option V), σ3 = [some (.ref a), some (.int (ps.length : Int)), some (.ref lfr), y3, y4, some (.ref kd), some (.ref ar), some (.ref lt), y8] ∧ Ex H H3 ∧ H3 lfr = some (.lst xsf) ∧ NKs H3 (fresh.map tupI) xsf ∧ H3 ar = some (.tup (root.map V.int)) ∧ KdAt c.P c.w H3 kd (rootKs fnd) ∧ H3 lt = some (.lst lxs) ∧ NKs H3 (lat.map tupI) lxs ∧ (∀ r ∈ lat, r ∈ fnd) ∧ lat.length ≤ fnd.length ∧ (fresh.drop (i + 1)).foldl (fun s r => rootOne ws ps r (List.range ps.length) s) (rootOne ws ps root ((List.range ps.length).drop j) (fnd, lat)) = rootLvl ws ps found fresh)
        ⟨fnd, lat, lxs, _, _, _, rfl, e7, hl7, hx7, har, kd7, hlt7, hlx7, hsub7, hll7, heq7⟩ (fun j σ3 H3 _ p => by obtain ⟨_, _, _, _, _, _, _, p, _⟩ := p; exact p) (fun j z σ3 H3 H3' hj p y => ?_) (fun σ3 H3 p => ?_)
      · obtain ⟨fnd, lat, lxs, y3, y4, y8, rfl, e8, hl8, hx8, har8, kd8, hlt8, hlx8, hsub8, hll8, heq8⟩ := p
        obtain ⟨rfl, rfl⟩ := y
        have hj' : j < ps.length := by omega
        have hrj : (List.range ps.length)[j]? = some j := List.getElem?_range hj'
        have hsubrs := hSub heq8
        have hfl : fnd.length ≤ 1000 := by
          have := kd8.2.1
          unfold rootKs at this
          rw [List.length_map] at this
          exact this
        rw [drop_at hrj, rootOne] at heq8
        have ej : (V.int (0 + (j : Int)) : V) = .int (j : Int) := by rw [Int.zero_add]
        refine ⟨_, rfl, _, rfl, _, rfl, _, _, _, rfl, ws, v, wall, root, ar, j, hrow.ex e8, W, rfl, har8, ⟨by rw [hps]; exact hrl, fun x hx => by have := (rok root hroot).2 x hx; omega⟩, ej, by omega, fun t H9 e9 ht9 => ?_⟩
        rw [hps] at ht9
        generalize hb : rootB ws ps root j = b at *
        have hbl : b.length = root.length := by rw [← hb, rootB_len]
        have E9 := e8.trans e9
        have nb : NK H9 (tupI b) (.ref t) := tupI_mk ht9
        refine ⟨_, rfl, t, b, rfl, SqT.of ht9, by omega, fun m hm1 hm2 => ⟨_, _, rfl, rfl, _, rfl, ?_⟩⟩
        by_cases hpos : 0 ≤ m
        · have hall0 : (b.all fun x => decide (0 ≤ x)) = true := List.all_eq_true.mpr fun x hx => decide_eq_true (by have := hm2 x hx; omega)
          refine ite_t (decide_eq_true hpos) ⟨_, rfl, _, rfl, tupI b, kd, rootKs fnd, tupI_tupK b, nb, rfl, kd8.ex e9, _, rfl, ?_⟩
          by_cases hin : b ∈ fnd
          · refine ite_f (by show (!decide _) = false; rw [decide_eq_true ((mem_rootKs _ _).mpr hin)]; rfl) ?_
            rw [if_neg (by rw [decide_eq_true (show b ∈ (fnd, lat).1 from hin)]; simp)] at heq8
            exact ⟨fnd, lat, lxs, _, _, _, rfl, E9, e9 _ _ hl8, hx8.ex e9, e9 _ _ har8, kd8.ex e9, e9 _ _ hlt8, hlx8.ex e9, hsub8, hll8, heq8⟩
          · refine ite_t (by show (!decide _) = true; rw [decide_eq_false (fun z => hin ((mem_rootKs _ _).mp z))]; rfl) ?_
            rw [if_pos (by rw [hall0, decide_eq_false (show b ∉ (fnd, lat).1 from hin)]; rfl)] at heq8
            have hfl2 : fnd.length < 1000 := by
              have := nodup_len (rootKs_nodup kd8) hsubrs
              omega
            refine ⟨_, rfl, _, rfl, tupI b, kd, rootKs fnd, tupI_tupK b, nb, rfl, kd8.ex e9, by unfold rootKs; rw [List.length_map]; exact hfl2, fun z => hin ((mem_rootKs _ _).mp z), fun es ep kd10 => ?_⟩
            obtain ⟨_, _, _, es0, ep0, hd9, _⟩ := kd8.ex e9
            have nk : ∀ {q : Addr} {xs : List V}, H9 q = some (.lst xs) → (upd H9 kd (drO kd es ep)) q = some (.lst xs) := fun hb => by
              rw [upd_ne (ne_of hb hd9 (by intro z; cases z))]
              exact hb
            have nt : ∀ {q : Addr} {xs : List V}, H9 q = some (.tup xs) → (upd H9 kd (drO kd es ep)) q = some (.tup xs) := fun hb => by
              rw [upd_ne (ne_of hb hd9 (by intro z; cases z))]
              exact hb
            have E10 : Ex H (upd H9 kd (drO kd es ep)) := Evl.Ex.mut E9 hkd0
            have hlt10 := nk (e9 _ _ hlt8)
            have hl10 := nk (e9 _ _ hl8)
            have hx10 := NKs.dupd (o := drO kd es ep) hd9 (hx8.ex e9)
            have hlx10 := NKs.dupd (o := drO kd es ep) hd9 (hlx8.ex e9)
            have nb10 := nb.dupd (o := drO kd es ep) hd9
            have har10 := nt (e9 _ _ har8)
            clear nk nt hd9
            generalize upd H9 kd (drO kd es ep) = H10 at *
            have hlen : lxs.length = lat.length := by rw [hlx10.len, List.length_map]
            refine ⟨_, rfl, .inl ⟨rfl, lxs, SqL.of hlt10⟩, _, rfl, lt, lxs, _, rfl, rfl, hlt10, line_of (by omega), ?_⟩
            refine ⟨fnd ++ [b], lat ++ [b], lxs ++ [.ref t], _, _, _, rfl, Evl.Ex.mut E10 hlt0, by rw [upd_ne hne]; exact hl10, NKs.lupd hlt10 _ _ hx10, ?_, ?_, upd_same, ?_, ?_, ?_, heq8⟩
            · rw [upd_ne (ne_of har10 hlt10 (by intro z; cases z))]
              exact har10
            · have : rootKs (fnd ++ [b]) = rootKs fnd ++ [(tupI b, V.bl true)] := by unfold rootKs; rw [List.map_append]; rfl
              rw [this]
              exact kd10.lupd hlt10
            · rw [List.map_append]
              exact NKs.lupd hlt10 _ _ (hlx10.snoc nb10)
            · intro r hr
              rcases List.mem_append.mp hr with q | q
              · exact List.mem_append_left _ (hsub8 r q)
              · exact List.mem_append_right _ q
            · rw [List.length_append, List.length_append]
              exact Nat.add_le_add_right hll8 _
        · have hall0 : (b.all fun x => decide (0 ≤ x)) = false := by
            rw [Bool.eq_false_iff]
            intro h
            have := of_decide_eq_true (List.all_eq_true.mp h m hm1)
            exact hpos this
          rw [if_neg (by rw [hall0]; simp)] at heq8
          refine ite_f (decide_eq_false hpos) ?_
          exact ⟨fnd, lat, lxs, _, _, _, rfl, E9, e9 _ _ hl8, hx8.ex e9, e9 _ _ har8, kd8.ex e9, e9 _ _ hlt8, hlx8.ex e9, hsub8, hll8, heq8⟩
      · obtain ⟨fnd, lat, lxs, y3, y4, y8, rfl, e8, hl8, hx8, har8, kd8, hlt8, hlx8, hsub8, hll8, heq8⟩ := p
        rw [Int.toNat_natCast, List.drop_of_length_le (by rw [List.length_range]; exact Nat.le_refl _), rootOne] at heq8
        exact ⟨fnd, lat, lxs, _, _, _, _, rfl, e8, hl8, hx8, kd8, hlt8, hlx8, hsub8, hll8, heq8⟩
    · obtain ⟨fnd, lat, lxs, y3, y4, y6, y8, rfl, e7, hl7, hx7, kd7, hlt7, hlx7, hsub7, hll7, heq7⟩ := p
      have hfl : fresh.length ≤ xsf.length := by
        have := hx7.len
        rw [List.length_map] at this
        omega
      rw [List.drop_of_length_le hfl, List.foldl_nil] at heq7
      rw [← heq7] at hall
      refine ⟨_, rfl, lt, lxs, rfl, .inl (SqL.of hlt7), fun l2 hl2 => ?_⟩
      have e8 := Evl.Ex.new (H := H2) (o := .lst lxs) hl2
      exact ⟨fnd, lat, l2, lxs, _, _, _, _, _, rfl, e7.trans e8, kd7.ex e8, upd_same, hlx7.ex e8, hsub7, hall⟩
end
end K74
namespace K74
open PySem PySem.Spec PyProof.Rows L2
/-! ### root_value -/
abbrev s_root_value : Stmt := topS 63
theorem sc_root_value : FnScope ["root", "numbers", "total", "share", "number"] ["root", "numbers"] (defScope s_root_value) := ⟨rfl, rfl, rfl, by decide +kernel, rfl, by decide +kernel, by decide +kernel⟩
def spRootV : Sp := sp2 fun x y H Q => ∃ (ar an : Addr) (root : List Int) (cs : List Rat) (xs : List V) (m : Nat), x = .ref ar ∧ H ar = some (.tup (root.map V.int)) ∧ y = .ref an ∧ H an = some (.tup xs) ∧ NKs H (cs.map qK) xs ∧ root.length = cs.length ∧ root.length ≤ 4 ∧ (∀ x ∈ root, x.natAbs ≤ 1000) ∧ m ≤ 30 ∧ (∀ q ∈ cs, Bd m q) ∧ Ret (qK (valueR root cs)) H Q
theorem bd_root {i : Int} (h : i.natAbs ≤ 1000) : Bd 4 (i : Rat) := by
  obtain ⟨h1, h2, h3⟩ := small_int h
  exact bd_small h1 (by grind) (by grind)
theorem valZ_at {root : List Int} {cs : List Rat} {i : Nat} (hl : root.length = cs.length) (hi : i < root.length) : (List.zipWith (fun (r : Int) (x : Rat) => (r : Rat) * x) root cs)[i]? = some (((root.getD i 0 : Int) : Rat) * cs.getD i 0) := by
  rw [List.getElem?_zipWith, getD_some hi 0, getD_some (show i < cs.length by omega) 0]
theorem valueR_bd {root : List Int} {cs : List Rat} {m : Nat} (hl : root.length = cs.length) (h4 : root.length ≤ 4) (hr : ∀ x ∈ root, x.natAbs ≤ 1000) (hc : ∀ q ∈ cs, Bd m q) (i : Nat) : Bd (4 + m + i) (((List.zipWith (fun (r : Int) (x : Rat) => (r : Rat) * x) root cs).take i).foldl (· + ·) 0) := by
  induction i with
  | zero => exact Bd.zero _
  | succ i ih =>
    by_cases hi : i < root.length
    · rw [take_snoc (valZ_at hl hi), List.foldl_append]
      exact ih.add (((bd_root (hr _ (mem_getD hi 0))).mul (hc _ (mem_getD (show i < cs.length by omega) 0))).mono (by omega))
    · rw [List.take_of_length_le (by rw [List.length_zipWith]; omega)]
      rw [List.take_of_length_le (by rw [List.length_zipWith]; omega)] at ih
      exact ih.mono (by omega)
section
variable {c : Cn} {C CN : Addr}
theorem ok_root_value (T : Tx c.mg) (D : Dn c "root_value" s_root_value ["root", "numbers"]) (g_plus : Kn c CX0 4 "plus" ["one", "other"] spPlus) (g_times : Kn c CX0 4 "times" ["one", "other"] spTimes) : Kn c CX0 5 "root_value" ["root", "numbers"] spRootV := by
  have sc := sc_root_value
  refine D.ok sc len2 (fun f cdv A outer s H vs Q E hr h => ?_)
  refine ⟨_, (pss_cons (ps_set (i := 2) sc.nd rfl (.inl rfl) (pe_tup (pa_cons pe_int (pa_cons pe_int pa_nil))))
  (pss_cons (ps_for PassesOwn.never rfl (RZ.pi_zipA rfl T.zip (pa_cons (pv 0) (pa_cons (pv 1) pa_nil))) (pg_tup rfl (pgs_cons (pg_name (i := 3) sc.nd rfl (.inl rfl)) (pgs_cons (pg_name (i := 4) sc.nd rfl (.inl rfl)) pgs_nil)))
    (pss_one (ps_set (i := 2) sc.nd rfl (.inl rfl) (pe_kn g_plus (hr.mono (by decide)) rfl (pa_cons (pv 2) (pa_cons (pe_kn g_times (hr.mono (by decide)) rfl (pa_cons (pv 3) (pa_cons (pv 4) pa_nil))) pa_nil))))))
  (pss_one (ps_ret (pv 2))))), ?_⟩
  obtain ⟨_, _, rfl, ar, an, root, cs, xs, m, rfl, har, rfl, han, hx, hl, h4, hr1, hm, bc, k⟩ := h
  have hxl : xs.length = cs.length := by rw [hx.len, List.length_map]
  refine ⟨(by show 2 ≤ sizeLine; decide), fun t0 ht0 => ?_⟩
  have e0 := Evl.Ex.new (o := .tup [V.int 0, V.int 1]) ht0
  have n0 : NK (upd H t0 (.tup [V.int 0, V.int 1])) (qK 0) (.ref t0) := qK_mk upd_same
  generalize upd H t0 (.tup [V.int 0, V.int 1]) = H1 at *
  refine ⟨_, rfl, _, rfl, ar, an, _, xs, rfl, .inr ⟨SqT.of (e0 _ _ har), SqT.of (e0 _ _ han), ?_⟩⟩
  refine for_it (walk_zipTE (H := H1) (n := root.length) (by rw [List.length_map]; omega) (SqT.of (e0 _ _ har)) (SqT.of (e0 _ _ han))) (fun i σ' H' => ∃ (u : V) (y3 y4 : Option V), σ' = [some (.ref ar), some (.ref an), some u, y3, y4] ∧ Ex H1 H' ∧ NK H' (qK (((List.zipWith (fun (r : Int) (x : Rat) => (r : Rat) * x) root cs).take i).foldl (· + ·) 0)) u)
    ⟨_, none, none, rfl, Ex.rfl, n0⟩ (fun i σ' H' _ p => by obtain ⟨_, _, _, _, p, _⟩ := p; exact p) (fun i z σ' H' H'' hi pv y => ?_) (fun σ' H' pv => ?_)
  · obtain ⟨u, y3, y4, rfl, e, np⟩ := pv
    obtain ⟨Tp, x1, x2, rfl, hT, rfl, h1, h2⟩ := y
    have E := e0.trans e
    replace h1 : (root.map V.int)[i]? = some x1 := h1
    rw [ints_at0 hi] at h1
    cases h1
    obtain ⟨x2', hx2, nx2⟩ := q_at (hx.ex E) (i := i) (by omega)
    replace h2 : xs[i]? = some x2 := h2
    rw [h2] at hx2
    cases hx2
    have eN := Evl.Ex.new (o := .tup [V.int (root.getD i 0), x2]) hT
    have bx := bd_root (hr1 _ (mem_getD hi 0))
    have by' := bc _ (mem_getD (show i < cs.length by omega) 0)
    have bp := valueR_bd hl h4 hr1 bc i
    have bp' := valueR_bd hl h4 hr1 bc (i + 1)
    refine ⟨Tp, _, rfl, SqT.of upd_same, rfl, _, _, rfl, _, _, rfl, rfl, ?_⟩
    refine ⟨_, rfl, _, rfl, _, rfl, _, _, rfl, _, _, isR_int _, isR_q (nx2.ex eN) (by'.sm (by omega)), bx.sm (by omega), by'.sm (by omega), fun r1 H2 g1 nr1 => ?_⟩
    have bxy := bx.mul by'
    refine ⟨_, _, rfl, _, _, isR_q (np.ex (eN.trans g1)) (bp.sm (by omega)), isR_q nr1 (bxy.sm (by omega)), bp.sm (by omega), bxy.sm (by omega), fun r2 H3 g2 nr2 => ?_⟩
    refine ⟨r2, _, _, rfl, ((e.trans eN).trans g1).trans g2, ?_⟩
    rw [take_snoc (valZ_at hl hi), List.foldl_append]
    exact nr2
  · obtain ⟨u, y3, y4, rfl, e, np⟩ := pv
    rw [List.take_of_length_le (by rw [List.length_zipWith]; omega)] at np
    exact ⟨_, rfl, k _ _ (e0.trans e) np⟩
/-! ### clashing_roots, closed_count -/
theorem closingsR_bd {ws : List Int} {v : List Rat} {wall : Bool} {m : Nat} (R : Rw ws v wall m) : ∀ q ∈ closingsR ws.length wall v, Bd (m + 1) q := by
  intro q hq
  obtain ⟨p, hp, rfl⟩ := List.mem_map.mp hq
  have hl := R.l
  rcases pairs_ok R.W.pos hp with ⟨rfl, hn⟩ | ⟨j, rfl, hj⟩
  · have ec : closeR v (-1) = -(v.getD 0 0) := if_pos rfl
    rw [ec]
    exact ((R.b _ (mem_getD (show 0 < v.length by omega) 0)).neg).mono (by omega)
  · have ec : closeR v (j : Int) = v.getD j 0 - v.getD (j + 1) 0 := by
      unfold closeR
      rw [if_neg (by omega), Int.toNat_natCast]
    rw [ec]
    exact (R.b _ (mem_getD (show j < v.length by omega) 0)).sub (R.b _ (mem_getD (show j + 1 < v.length by omega) 0))
def posR (n : Nat) (wall : Bool) (v : List Rat) (r : List Int) : Bool := decide (0 < valueR r (closingsR n wall v))
def countR (n : Nat) (wall : Bool) (v : List Rat) (rs : List (List Int)) : Nat := (rs.filter (posR n wall v)).length
def numI : NestedKey → Int
  | .num i => i
  | _ => 0
def tupP (f : List Int → Bool) : NestedKey → Bool
  | .tup ks => f (ks.map numI)
  | _ => false
theorem tupP_tupI (f : List Int → Bool) (r : List Int) : tupP f (tupI r) = f r := by
  show f ((r.map .num).map numI) = f r
  rw [List.map_map]
  congr 1
  induction r with
  | nil => rfl
  | cons a r ih => rw [List.map_cons, ih]; rfl
theorem tupP_filter (f : List Int → Bool) (l : List (List Int)) : ((l.map tupI).filter (tupP f)) = (l.filter f).map tupI := by
  induction l with
  | nil => rfl
  | cons a l ih =>
    rw [List.map_cons, List.filter_cons, List.filter_cons, tupP_tupI]
    split
    · rw [ih]; rfl
    · exact ih
abbrev s_clashing_roots : Stmt := topS 64
theorem sc_clashing_roots : FnScope ["row", "closings", "root"] ["row"] (defScope s_clashing_roots) := ⟨rfl, rfl, rfl, by decide +kernel, rfl, by decide +kernel, by decide +kernel⟩
def spClashRoots (C : Addr) : Sp := sp1 fun x H Q => ∃ ws v wall m rs, RowAt C H x ws v wall ∧ Rw ws v wall m ∧ m ≤ 20 ∧ RtsOk ws wall rs ∧ ∀ p xs H', Ex H H' → H' p = some (.lst xs) → xs.length = countR ws.length wall v rs → Q (.ref p) H'
theorem ok_clashing_roots (T : Tx c.mg) (D : Dn c "clashing_roots" s_clashing_roots ["row"]) (g_closings_of : Kn c CX0 5 "closings_of" ["row"] (spClosings C)) (g_roots_of : Kn c CX0 7 "roots_of" ["row"] (spRoots C)) (g_root_value : Kn c CX0 5 "root_value" ["root", "numbers"] spRootV) (g_compare : Kn c CX0 4 "compare" ["one", "other"] spCompare) :
    Kn c CX0 8 "clashing_roots" ["row"] (spClashRoots C) := by
  have sc := sc_clashing_roots
  refine D.ok sc len1 (fun f cdv A outer s H vs Q E hr h => ?_)
  refine ⟨_, (pss_cons (ps_set (i := 1) sc.nd rfl (.inr rfl) (pe_kn g_closings_of (hr.mono (by decide)) rfl (pa_cons (pv 0) pa_nil)))
  (pss_one (ps_ret (pe_lc (own := [("root", 2)]) (g := gName 2) rfl sc.nd (pi_sq (pe_kn g_roots_of (hr.mono (by decide)) rfl (pa_cons (pv 0) pa_nil))) (blkOk_by (by kernel_rfl)) (fun _ _ _ _ _ => (pg_name (i := 2) sc.nd rfl (.inl rfl))) (fun _ _ _ _ _ => (pts_one (pt_cmpR op_gt (pe_kn g_compare (hr.mono (by decide)) rfl (pa_cons (pe_kn g_root_value (hr.mono (by decide)) rfl (pa_cons (pv 2) (pa_cons (pv 1) pa_nil))) (pa_cons pe_int pa_nil))) pe_int (nomark _)))) (fun _ _ _ _ _ => (pv 2)))))), ?_⟩
  obtain ⟨x, rfl, ws, v, wall, m, rs, hrow, R, hm, RO, k⟩ := h
  have hg := R.W.g
  refine ⟨_, rfl, _, rfl, ws, v, wall, m, hrow, R, hm, fun u H1 e1 hu => ?_⟩
  obtain ⟨an, xs, rfl, han, hxs⟩ := hu.tup_inv
  have bc := closingsR_bd R
  have hcl : (closingsR ws.length wall v).length = (pairsOf ws.length wall).length := by unfold closingsR; rw [List.length_map]
  refine ⟨_, rfl, _, rfl, ws, v, wall, rs, hrow.ex e1, R.W, RO, fun t ys ls H2 e2 hperm ht hys => iSq_go (.t ht) fun J w => ?_⟩
  have few := RO.few
  have hll := hperm.length_eq
  refine lc_if (Qd := fun D H' => _) (ks := ls.map tupI) hys w (tupP (posR ws.length wall v)) (by rw [List.length_map]; omega) (by intro _; rfl) (by intro _; rfl) (fun i x kk H3 hk hx nx e3 Q' q => ?_) (fun D zs H3 hD e3 hx hzs => ?_)
  · rw [List.getElem?_map] at hk
    cases hri : ls[i]? with
    | none => rw [hri] at hk; cases hk
    | some r =>
      rw [hri] at hk
      cases hk
      obtain ⟨ar, rfl, har⟩ := tupI_inv nx
      obtain ⟨rl, rb⟩ := RO.ok r (hperm.mem_iff.mp (List.mem_of_getElem? hri))
      have hrs : ∀ x ∈ r, x.natAbs ≤ 1000 := fun x hx => by have := rb x hx; omega
      have bv := valueR_bd (root := r) (cs := closingsR ws.length wall v) (m := m + 1) (by omega) (by omega) hrs bc r.length
      rw [List.take_of_length_le (by rw [List.length_zipWith]; omega)] at bv
      refine ⟨_, rfl, _, rfl, _, _, rfl, ar, an, r, closingsR ws.length wall v, xs, m + 1, rfl, har, rfl, (e2.trans e3) _ _ han, hxs.ex (e2.trans e3), by omega, by omega, hrs, by omega, bc, fun u2 H4 e4 hu2 => ?_⟩
      replace bv : Bd (4 + (m + 1) + r.length) (valueR r (closingsR ws.length wall v)) := bv
      refine ⟨_, _, rfl, _, 0, isR_q hu2 (bv.sm (by omega)), isR_int 0, bv.sm (by omega), (Bd.zero 0).sm (by omega), fun H5 e5 => ⟨_, _, rfl, rfl, _, rfl, ?_⟩⟩
      have q2 := q H5 (e4.trans e5)
      rw [tupP_tupI] at q2
      have ed : decide ((0 : Int) < (if valueR r (closingsR ws.length wall v) < 0 then -1 else if 0 < valueR r (closingsR ws.length wall v) then 1 else 0)) = posR ws.length wall v r := by
        unfold posR
        rw [decide_eq_decide]
        by_cases h1 : valueR r (closingsR ws.length wall v) < 0
        · rw [if_pos h1]
          exact ⟨fun z => by omega, fun z => by grind⟩
        · rw [if_neg h1]
          by_cases h2 : 0 < valueR r (closingsR ws.length wall v)
          · rw [if_pos h2]
            exact ⟨fun _ => h2, fun _ => by decide⟩
          · rw [if_neg h2]
            exact ⟨fun z => absurd z (by decide), fun z => absurd z h2⟩
      rw [← ed] at q2
      exact q2
  · refine k D zs H3 ((e1.trans e2).trans e3) hx ?_
    rw [hzs.len, tupP_filter, List.length_map]
    exact (hperm.filter _).length_eq
abbrev s_closed_count : Stmt := topS 65
theorem sc_closed_count : FnScope ["row"] ["row"] (defScope s_closed_count) := ⟨rfl, rfl, rfl, by decide +kernel, rfl, by decide +kernel, by decide +kernel⟩
def spCount (C : Addr) : Sp := sp1 fun x H Q => ∃ ws v wall m rs, RowAt C H x ws v wall ∧ Rw ws v wall m ∧ m ≤ 20 ∧ RtsOk ws wall rs ∧ RetV (.int (countR ws.length wall v rs : Int)) H Q
theorem ok_closed_count (T : Tx c.mg) (D : Dn c "closed_count" s_closed_count ["row"]) (g_clashing_roots : Kn c CX0 8 "clashing_roots" ["row"] (spClashRoots C)) : Kn c CX0 9 "closed_count" ["row"] (spCount C) := by
  have sc := sc_closed_count
  refine D.ok sc len1 (fun f cdv A outer s H vs Q E hr h => ?_)
  refine ⟨_, (pss_one (ps_ret (pe_callB call_len_seq (by rfl) T.len PySem.boot_len (pa_cons (pe_kn g_clashing_roots (hr.mono (by decide)) rfl (pa_cons (pv 0) pa_nil)) pa_nil)))), ?_⟩
  obtain ⟨x, rfl, ws, v, wall, m, rs, hrow, R, hm, RO, k⟩ := h
  refine ⟨_, rfl, _, rfl, ws, v, wall, m, rs, hrow, R, hm, RO, fun p xs H1 e1 hp hl => ⟨p, xs, rfl, .inl (SqL.of hp), ?_⟩⟩
  rw [hl]
  exact k _ e1
end
/-! ### closed_end -/
def endR (ws : List Int) (wall : Bool) : Nat → List Rat → Option (List Rat)
  | 0, _ => none
  | f + 1, v => match comingR ws.length wall v with
    | [] => some v
    | p :: _ => endR ws wall f (clashR ws v p)
section
variable {X : Cx} {k : Nat} {x : Str} {ps : List Str} {sp : Sp} {p pos : Pos} {e : Expr} {es : List Expr} {t : TA} {E : XK}
/-- a def that may raise, called in one that lets it out -/
theorem pe_kp (G : Kn ⟨X.prog, X.w, X.K, X.mg, X.base⟩ (L2.CX X.prog X.w) k x ps sp) (tk : Takes X (fun cls d _ H => E cls d H)) (hr : Room k X.A) (hg : Gl X x)
    (ha : PA X (e :: es) t) (hdb : (x == ("__debug__" : Str)) = false := by decide) (he : starEach (e :: es) X.env = (false, eval e X.env) :: starEach es X.env := by rfl) (hpl : (backTo pos (starEach es X.env)).any (·.1) = false := by rfl) :
    PE X (.Call (.Name x p) (e :: es) [] pos) (tCall sp [] E t) := by
  obtain ⟨f, fd, F, hm, hk, hb⟩ := G.ex
  exact pe_call F hr hg hm hk hb .nil (passes_call tk fun _ _ _ _ h => h) ha hdb he hpl
end
abbrev s_closed_end : Stmt := topS 66
theorem sc_closed_end : FnScope ["row", "left", "coming"] ["row"] (defScope s_closed_end) := ⟨rfl, rfl, rfl, by decide +kernel, rfl, by decide +kernel, by decide +kernel⟩
def spEnd (C CN : Addr) : Sp := fun vs H Q E => ∃ x ws v wall m, vs = [x] ∧ RowAt C H x ws v wall ∧ Rw ws v wall m ∧ (none ∉ ordersR ws wall → ∃ f e, m + f ≤ 21 ∧ endR ws wall f v = some e ∧ Ret (rowK e) H Q) ∧ OutNc CN (ordersR ws wall) H E
theorem lenEnd (C CN : Addr) : ∀ vs H Q E, spEnd C CN vs H Q E → vs.length = 1 := fun _ _ _ _ h => by obtain ⟨_, _, _, _, _, rfl, _⟩ := h; rfl
theorem ok_closed_end {c : Cn} {C CN : Addr} (T : Tx c.mg) (RC : RwC c C) (D : Dn c "closed_end" s_closed_end ["row"]) (g_check_closed : Kn c (L2.CX c.P c.w) 6 "check_closed" ["row"] (spCheckC C CN)) (g_coming_pairs : Kn c CX0 6 "coming_pairs" ["row"] (spComing C)) (g_after_clash : Kn c CX0 8 "after_clash" ["row", "pair"] (spAfterClash C)) :
    Kn c (L2.CX c.P c.w) 9 "closed_end" ["row"] (spEnd C CN) := by
  have sc := sc_closed_end
  obtain ⟨f, fd, F, hm, hb⟩ := D.ex
  refine ⟨⟨f, fd, F.okX sc (lenEnd C CN) (fun cdv A outer s H vs Q E hr h => ?_), hm, F.kp, hb⟩⟩
  refine ⟨_, (pss_cons (ps_expr (pe_kp g_check_closed (takes_of rfl rfl rfl rfl) (hr.mono (by decide)) rfl (pa_cons (pv 0) pa_nil)))
  (pss_cons (ps_set (i := 1) sc.nd rfl (.inl rfl) (pv 0))
  (pss_cons (ps_set (i := 2) sc.nd rfl (.inl rfl) (pe_kn g_coming_pairs (hr.mono (by decide)) rfl (pa_cons (pv 1) pa_nil)))
  (pss_cons (ps_while (passes_of rfl) (pt_cmpR op_gt (pe_callB call_len_seq (by rfl) T.len PySem.boot_len (pa_cons (pv 2) pa_nil)) pe_int (nomark _))
    (pss_cons (ps_set (i := 1) sc.nd rfl (.inl rfl) (pe_kn g_after_clash (hr.mono (by decide)) rfl (pa_cons (pv 1) (pa_cons (pe_ix ix_sq (pv 2) pe_int (fun _ _ => rfl)) pa_nil))))
    (pss_one (ps_set (i := 2) sc.nd rfl (.inl rfl) (pe_kn g_coming_pairs (hr.mono (by decide)) rfl (pa_cons (pv 1) pa_nil))))))
  (pss_one (ps_ret (pe_fld (pv 1) rfl))))))), ?_⟩
  obtain ⟨x, ws, v, wall, m, rfl, hrow, R, k, kE⟩ := h
  refine ⟨_, rfl, x, ws, v, wall, rfl, hrow, R.W, fun hcl => fun H1 e1 => ?_, kE⟩
  obtain ⟨n, e, hmn, hend, kk⟩ := k hcl
  cases n with
  | zero => cases hend
  | succ n =>
  refine ⟨_, rfl, _, rfl, _, rfl, ws, v, wall, m, hrow.ex e1, R, by omega, fun t H2 e2 ht => ?_⟩
  refine ⟨fun f σ' H' => ∃ (left : V) (tc : Addr) (v' : List Rat) (m' : Nat), σ' = [some x, some left, some (.ref tc)] ∧ Ex H H' ∧ RowAt C H' left ws v' wall ∧ Rw ws v' wall m' ∧ m' + f ≤ 21 ∧ endR ws wall f v' = some e ∧ H' tc = some (.tup ((comingR ws.length wall v').map V.int)), ⟨n + 1, x, t, v, m, rfl, e1.trans e2, (hrow.ex e1).ex e2, R, hmn, hend, ht⟩, ?_⟩
  rintro f σ' H' ⟨left, tc, v', m', rfl, e3, hrow', R', hmf, hend', htc⟩
  cases f with
  | zero => cases hend'
  | succ f =>
  rw [endR] at hend'
  refine ⟨_, rfl, tc, _, rfl, .inr (SqT.of htc), _, _, rfl, rfl, _, rfl, ?_⟩
  cases hcm : comingR ws.length wall v' with
  | nil =>
    rw [hcm] at hend'
    cases hend'
    refine ite_f (by rw [decide_eq_false_iff_not]; simp) ?_
    obtain ⟨a, dx, fs, rfl, ha, hf⟩ := hrow'
    obtain ⟨as, xs, s1, s2, s3⟩ := hf.s
    exact ⟨_, rfl, a, C, dx, _, _, rfl, ha, RC.cl, RC.s, s1, kk _ _ e3 (.tup s2 s3)⟩
  | cons p r =>
    rw [hcm] at hend' htc
    replace hend' : endR ws wall f (clashR ws v' p) = some e := hend'
    have hf1 : 1 ≤ f := by
      cases f with
      | zero => cases hend'
      | succ f => omega
    have hpm : p ∈ pairsOf ws.length wall := by
      have : p ∈ comingR ws.length wall v' := by rw [hcm]; simp
      unfold comingR at this
      exact (List.mem_filter.mp this).1
    refine ite_t (decide_eq_true (by rw [List.length_map, List.length_cons]; omega)) ?_
    refine ⟨fun σ2 H2 => ∃ (left : V) (tc : Addr) (v' : List Rat) (m' : Nat), σ2 = [some x, some left, some (.ref tc)] ∧ Ex H H2 ∧ RowAt C H2 left ws v' wall ∧ Rw ws v' wall m' ∧ m' + f ≤ 21 ∧ endR ws wall f v' = some e ∧ H2 tc = some (.tup ((comingR ws.length wall v').map V.int)), fun σ2 H2 p => ⟨f, Nat.lt_succ_self _, p⟩, ?_⟩
    refine ⟨_, rfl, _, rfl, tc, _, 0, _, rfl, rfl, .t htc, atI_nat (j := 0) rfl, _, _, rfl, ws, v', wall, m', p, hrow', R', by omega, rfl, hpm, fun left' H4 e4 hr4 => ?_⟩
    have R4 := R'.clash hpm
    refine ⟨_, rfl, _, rfl, ws, _, wall, m' + 1, hr4, R4, by omega, fun t5 H5 e5 ht5 => ?_⟩
    exact ⟨left', t5, _, m' + 1, rfl, (e3.trans e4).trans e5, hr4.ex e5, R4, by omega, hend', ht5⟩
end K74
namespace K74
open PySem PySem.Spec PyProof.Rows L2
/-! ### the law's draws -/
theorem modr (a : Int) {m : Int} (h : 0 < m) : 0 ≤ a % m ∧ a % m < m := ⟨Int.emod_nonneg a (by omega), Int.emod_lt_of_pos a h⟩
abbrev s_law_mix : Stmt := topS 68
theorem sc_law_mix : FnScope ["_law_number", "_law_turn", "_law_once", "_law_twice"] ["_law_number", "_law_turn"] (defScope s_law_mix) := ⟨rfl, rfl, rfl, by decide +kernel, rfl, by decide +kernel, by decide +kernel⟩
def spMix : Sp := sp2 fun x y H Q => ∃ n t : Int, x = .int n ∧ y = .int t ∧ n.natAbs < 2 ^ 40 ∧ t.natAbs < 2 ^ 20 ∧ ∀ r, Q (.int r) H
section
variable {c : Cn}
theorem ok_law_mix (T : Tx c.mg) (D : Dn c "_law_mix" s_law_mix ["_law_number", "_law_turn"]) : Kn c CX0 1 "_law_mix" ["_law_number", "_law_turn"] spMix := by
  have sc := sc_law_mix
  refine D.ok sc len2 (fun f cdv A outer s H vs Q E hr h => ?_)
  refine ⟨_, (pss_cons (ps_set (i := 2) sc.nd rfl (.inl rfl) (pe_op op_mod (pe_callTy call_int1 (by rfl) T.int (by decide +kernel) (pa_cons (pe_op op_add (pe_op op_add (pe_op op_mulW (pv 0) pe_int) (pe_op op_mulW (pv 1) pe_int)) pe_int) pa_nil)) pe_int))
  (pss_cons (ps_set (i := 3) sc.nd rfl (.inl rfl) (pe_op op_mod (pe_callTy call_int1 (by rfl) T.int (by decide +kernel) (pa_cons (pe_op op_add (pe_op op_add (pe_op op_mulW (pv 2) (pv 2)) (pe_op op_mulW (pe_op op_fdivW (pv 2) pe_int) pe_int)) (pe_op op_mulW (pv 1) pe_int)) pa_nil)) pe_int))
  (pss_one (ps_ret (pe_op op_fdivW (pe_op op_mod (pe_callTy call_int1 (by rfl) T.int (by decide +kernel) (pa_cons (pe_op op_add (pe_op op_fdivW (pe_op op_mulW (pv 3) (pv 3)) pe_int) (pv 2)) pa_nil)) pe_int) pe_int))))), ?_⟩
  obtain ⟨_, _, rfl, n, t, rfl, rfl, hn, ht, k⟩ := h
  obtain ⟨o1, o2⟩ := modr (n * 48271 + t * 16807 + 11) (m := 2147483647) (by decide)
  refine ⟨_, rfl, _, _, rfl, rfl, wide_mul (a := 40) (b := 20) hn (by decide) (by decide) (by decide) (by decide), _, rfl, _, _, rfl, rfl, wide_mul (a := 20) (b := 20) ht (by decide) (by decide) (by decide) (by decide), _, _, rfl, rfl, _, _, rfl, rfl, .inl ⟨_, rfl, _, _, rfl, rfl, by show (0:Int) < 2147483647; decide, ?_⟩⟩
  generalize (n * 48271 + t * 16807 + 11) % 2147483647 = once at *
  refine ⟨_, rfl, _, rfl, _, _, rfl, rfl, wide_mul (a := 40) (b := 40) (by omega) (by omega) (by decide) (by decide) (by decide), _, rfl, _, _, rfl, rfl, wide_div (b := 20) (by decide) (by decide) (by decide) (by decide), _, _, rfl, rfl, wide_mul (a := 40) (b := 20) (by omega) (by decide) (by decide) (by decide) (by decide), _, _, rfl, rfl, _, rfl, _, _, rfl, rfl, wide_mul (a := 20) (b := 20) ht (by decide) (by decide) (by decide) (by decide), _, _, rfl, rfl, .inl ⟨_, rfl, _, _, rfl, rfl, by show (0:Int) < 2147483399; decide, ?_⟩⟩
  obtain ⟨p1, p2⟩ := modr (once * once + once / 127 * 40692 + t * 69621) (m := 2147483399) (by decide)
  generalize (once * once + once / 127 * 40692 + t * 69621) % 2147483399 = twice at *
  exact ⟨_, rfl, _, rfl, _, _, rfl, rfl, wide_mul (a := 40) (b := 40) (by omega) (by omega) (by decide) (by decide) (by decide), _, _, rfl, rfl, wide_div (b := 20) (by decide) (by decide) (by decide) (by decide), _, rfl, _, _, rfl, rfl, .inl ⟨_, rfl, _, _, rfl, rfl, by show (0:Int) < 2147483563; decide, _, _, rfl, rfl, wide_div (b := 20) (by decide) (by decide) (by decide) (by decide), k _⟩⟩
/-! ### the hand of draws: a list that only draws change; told by an invariant -/
def hObj (lc : Addr) (b d e : Int) (t1 t2 t3 : Tok) (n : Nat) : Obj := { cls := .type "list", data := .seq #[.ref lc, .int b t1, .int d t2, .int e t3] n }
def HandO (a lc : Addr) (L : Nat) : HO := .ext fun h => ∃ b d e t1 t2 t3 n, h.get? a = some (hObj lc b d e t1 t2 t3 n) ∧ 0 ≤ b ∧ b ≤ (L : Int) ∧ 0 ≤ e ∧ e < 2147483648
/-- at a the hand, its cells at lc -/
def HandAt (H : Hp) (x : V) : Prop := ∃ (a lc : Addr) (cells : List Int), x = .ref a ∧ H a = some (HandO a lc cells.length) ∧ H lc = some (.lst (cells.map V.int)) ∧ cells.length ≤ 64
theorem HandAt.ex {H H' : Hp} {x : V} (h : HandAt H x) (e : Ex H H') : HandAt H' x := by
  obtain ⟨a, lc, cells, h1, h2, h3, h4⟩ := h
  exact ⟨a, lc, cells, h1, e _ _ h2, e _ _ h3, h4⟩
/-- the hand as a plain list -/
def hLst (lc : Addr) (b d e : Int) : HO := .lst [.ref lc, .int b, .int d, .int e]
def spDraw0 : Sp := sp2 fun x y H Q => ∃ (a lc : Addr) (cells : List Int) (b d e many : Int), x = .ref a ∧ H a = some (hLst lc b d e) ∧ H lc = some (.lst (cells.map V.int)) ∧ cells.length ≤ 64 ∧ 0 ≤ b ∧ b ≤ (cells.length : Int) ∧ 0 ≤ e ∧ e < 2147483648 ∧ y = .int many ∧ 0 < many ∧ many ≤ 1000 ∧
  ∀ r b' d' e' H', ExA a H H' → H' a = some (hLst lc b' d' e') → 0 ≤ b' → b' ≤ (cells.length : Int) → 0 ≤ e' → e' < 2147483648 → 0 ≤ r → r < many → Q (.int r) H'
abbrev s_law_draw : Stmt := topS 70
theorem sc_law_draw : FnScope ["_law_hand_here", "_law_many", "_law_cell", "_law_rest"] ["_law_hand_here", "_law_many"] (defScope s_law_draw) := ⟨rfl, rfl, rfl, by decide +kernel, rfl, by decide +kernel, by decide +kernel⟩
theorem ok_law_draw0 (T : Tx c.mg) (D : Dn c "_law_draw" s_law_draw ["_law_hand_here", "_law_many"]) (g__law_mix : Kn c CX0 1 "_law_mix" ["_law_number", "_law_turn"] spMix) : Kn c CX0 2 "_law_draw" ["_law_hand_here", "_law_many"] spDraw0 := by
  have sc := sc_law_draw
  refine D.ok sc len2 (fun f cdv A outer s H vs Q E hr h => ?_)
  refine ⟨_, (pss_cons (ps_if (PW.pt (pw_and (pt_cmpR op_eq (pe_ix ix_sq (pv 0) pe_int (fun _ _ => rfl)) pe_int (nomark _)) (pw_and1 (pt_cmpR op_lt (pe_ix ix_sq (pv 0) pe_int (fun _ _ => rfl)) (pe_callB call_len_seq (by rfl) T.len PySem.boot_len (pa_cons (pe_ix ix_sq (pv 0) pe_int (fun _ _ => rfl)) pa_nil)) (nomark _))))) (pss_cons (ps_set (i := 2) sc.nd rfl (.inl rfl) (pe_ix ix_sq (pe_ix ix_sq (pv 0) pe_int (fun _ _ => rfl)) (pe_ix ix_sq (pv 0) pe_int (fun _ _ => rfl)) (fun _ _ => rfl)))
    (pss_cons (ps_asg (pe_op op_add (pe_ix ix_sq (pv 0) pe_int (fun _ _ => rfl)) pe_int) (pg_sub (pv 0) pe_int set_list))
    (pss_cons (ps_if (pt_cmpR op_lt (pv 2) (pe_op op_pow pe_int pe_int) (nomark _)) (pss_one (ps_ret (pe_op op_mod (pe_callTy call_int1 (by rfl) T.int (by decide +kernel) (pa_cons (pe_kn g__law_mix (hr.mono (by decide)) rfl (pa_cons (pe_op op_mod (pe_callTy call_int1 (by rfl) T.int (by decide +kernel) (pa_cons (pv 2) pa_nil)) pe_int) (pa_cons (pe_ix ix_sq (pv 0) pe_int (fun _ _ => rfl)) pa_nil))) pa_nil)) (pv 1))))
      pss_nil)
    (pss_one (ps_asg (pv 2) (pg_sub (pv 0) pe_int set_list))))))
    pss_nil)
  (pss_cons (ps_if (pt_cmpR op_gt (pe_ix ix_sq (pv 0) pe_int (fun _ _ => rfl)) pe_int (nomark _)) (pss_cons (ps_set (i := 3) sc.nd rfl (.inl rfl) (pe_ix ix_sq (pv 0) pe_int (fun _ _ => rfl)))
    (pss_cons (ps_asg (pe_op op_fdivW (pv 3) (pv 1)) (pg_sub (pv 0) pe_int set_list))
    (pss_one (ps_ret (pe_op op_mod (pe_callTy call_int1 (by rfl) T.int (by decide +kernel) (pa_cons (pv 3) pa_nil)) (pv 1))))))
    pss_nil)
  (pss_cons (ps_asg (pe_op op_mod (pe_callTy call_int1 (by rfl) T.int (by decide +kernel) (pa_cons (pe_op op_add (pe_ix ix_sq (pv 0) pe_int (fun _ _ => rfl)) pe_int) pa_nil)) pe_int) (pg_sub (pv 0) pe_int set_list))
  (pss_one (ps_ret (pe_op op_mod (pe_callTy call_int1 (by rfl) T.int (by decide +kernel) (pa_cons (pe_kn g__law_mix (hr.mono (by decide)) rfl (pa_cons (pe_ix ix_sq (pv 0) pe_int (fun _ _ => rfl)) (pa_cons (pe_ix ix_sq (pv 0) pe_int (fun _ _ => rfl)) pa_nil))) pa_nil)) (pv 1))))))), ?_⟩
  obtain ⟨_, _, rfl, a, lc, cells, b, d, e, many, rfl, ha, hlc, h64, hb0, hb1, he0, he1, rfl, hm0, hm1, k⟩ := h
  have hne : lc ≠ a := fun z => by
    rw [z, ha] at hlc
    injection hlc with z2
    unfold hLst at z2
    injection z2 with z3
    cases cells with
    | nil => cases z3
    | cons x r => rw [List.map_cons] at z3; injection z3 with z4 _; cases z4
  -- the end of the body, the hand as it is there
  suffices rest : ∀ (H2 : Hp) (b2 d2 : Int) (y2 : Option V), ExA a H H2 → H2 a = some (hLst lc b2 d2 e) → 0 ≤ b2 → b2 ≤ (cells.length : Int) → (tSeq _ (tSeq _ _) : TS) { nx := fun _ H' => Q .non H', rt := Q } [some (.ref a), some (.int many), y2, none] H2 by
    refine ⟨_, rfl, a, _, _, _, rfl, rfl, .l ha, at_of (j := 2) rfl rfl, rfl, _, rfl, ?_⟩
    by_cases hd : d = 0
    · refine ite_t (decide_eq_true (by rw [hd])) ⟨_, rfl, a, _, _, _, rfl, rfl, .l ha, at_of (j := 1) rfl rfl, _, rfl, a, _, _, _, rfl, rfl, .l ha, at_of (j := 0) rfl rfl, lc, _, rfl, Sq.l hlc, _, _, rfl, rfl, _, rfl, ?_⟩
      by_cases hb : b < (cells.length : Int)
      · refine ite_t (decide_eq_true (by rw [List.length_map]; exact hb)) ?_
        have hbl : b.toNat < cells.length := by omega
        refine ⟨_, rfl, a, _, _, _, rfl, rfl, .l ha, at_of (j := 0) rfl rfl, _, rfl, a, _, _, _, rfl, rfl, .l ha, at_of (j := 1) rfl rfl, lc, _, _, _, rfl, rfl, .l hlc, at_of (j := b.toNat) (by omega) (by rw [List.getElem?_map, List.getElem?_eq_getElem hbl]; rfl), ?_⟩
        generalize cells[b.toNat] = cell
        refine ⟨_, rfl, a, _, _, _, rfl, rfl, .l ha, at_of (j := 1) rfl rfl, _, _, rfl, rfl, _, rfl, a, _, 1, 1, rfl, rfl, ha, rfl, ?_⟩
        have ha2 : upd H a (hLst lc (b + 1) d e) a = some (hLst lc (b + 1) d e) := upd_same
        have hE : ExA a H (upd H a (hLst lc (b + 1) d e)) := ExA.upd
        refine ⟨_, rfl, _, _, rfl, rfl, ⟨by decide, by decide, by decide⟩, _, _, rfl, rfl, _, rfl, ?_⟩
        by_cases hc : cell < 1000000000000000000
        · refine ite_t (decide_eq_true hc) ?_
          obtain ⟨m1, m2⟩ := modr cell (m := 2147483647) (by decide)
          refine ⟨_, rfl, .inl ⟨_, rfl, _, _, rfl, rfl, by show (0:Int) < 2147483647; decide, _, rfl, a, _, _, _, rfl, rfl, .l ha2, at_of (j := 1) rfl rfl, _, _, rfl, _, _, rfl, rfl, by omega, by omega, fun r => .inl ⟨_, rfl, _, rfl, _, _, rfl, rfl, hm0, ?_⟩⟩⟩
          obtain ⟨r1, r2⟩ := modr r hm0
          exact k _ _ _ _ _ hE ha2 (by omega) (by omega) he0 he1 r1 r2
        · refine ite_f (decide_eq_false hc) ⟨_, rfl, _, rfl, a, _, 2, 2, rfl, rfl, ha2, rfl, ?_⟩
          exact rest _ (b + 1) cell _ (hE.trans ExA.upd) upd_same (by omega) (by omega)
      · exact ite_f (decide_eq_false (by rw [List.length_map]; exact hb)) (rest H b d none ExA.refl ha hb0 hb1)
    · exact ite_f (decide_eq_false (fun z => hd (by injection z))) (ite_f rfl <| rest H b d none ExA.refl ha hb0 hb1)
  intro H2 b2 d2 y2 E2 ha hb0 hb1
  refine ⟨_, rfl, a, _, _, _, rfl, rfl, .l ha, at_of (j := 2) rfl rfl, _, _, rfl, rfl, _, rfl, ?_⟩
  by_cases hd : d2 > 0
  · refine ite_t (decide_eq_true hd) ⟨_, rfl, a, _, _, _, rfl, rfl, .l ha, at_of (j := 2) rfl rfl, _, rfl, _, rfl, _, _, rfl, rfl, wide_div (b := 20) hm0 (by omega) (by decide) (by decide), _, rfl, a, _, 2, 2, rfl, rfl, ha, rfl, _, rfl, .inl ⟨_, rfl, _, rfl, _, _, rfl, rfl, hm0, ?_⟩⟩
    obtain ⟨r1, r2⟩ := modr d2 hm0
    exact k _ _ _ _ _ (E2.trans ExA.upd) upd_same hb0 hb1 he0 he1 r1 r2
  · refine ite_f (decide_eq_false hd) ⟨_, rfl, a, _, _, _, rfl, rfl, .l ha, at_of (j := 3) rfl rfl, _, _, rfl, rfl, .inl ⟨_, rfl, _, _, rfl, rfl, by show (0:Int) < 2147483629; decide, _, rfl, a, _, 3, 3, rfl, rfl, ha, rfl, ?_⟩⟩
    obtain ⟨m1, m2⟩ := modr (e + 1) (m := 2147483629) (by decide)
    have ha3 : upd H2 a (hLst lc b2 d2 ((e + 1) % 2147483629)) a = some (hLst lc b2 d2 ((e + 1) % 2147483629)) := upd_same
    refine ⟨_, rfl, a, _, _, _, rfl, rfl, .l ha3, at_of (j := 3) rfl rfl, _, rfl, a, _, _, _, rfl, rfl, .l ha3, at_of (j := 1) rfl rfl, _, _, rfl, _, _, rfl, rfl, by omega, by omega, fun r => .inl ⟨_, rfl, _, rfl, _, _, rfl, rfl, hm0, ?_⟩⟩
    obtain ⟨r1, r2⟩ := modr r hm0
    exact k _ _ _ _ _ (E2.trans ExA.upd) ha3 hb0 hb1 m1 (by omega) r1 r2
end
end K74
namespace K74
open PySem PySem.Spec PyProof.Rows L2
/-! ### the hand seen by an invariant -/
section
variable {P : Program} {w : World} {H : Hp} {h : Heap} {fs : List Addr} {a lc : Addr} {L : Nat}
theorem hand_its {b d e : Int} {its : List Value} (r : Vals [.ref lc, .int b, .int d, .int e] its) : ∃ t1 t2 t3, its = [.ref lc, .int b t1, .int d t2, .int e t3] := by
  cases r with
  | cons r0 r => cases r with
    | cons r1 r => cases r with
      | cons r2 r => cases r with
        | cons r3 r =>
          cases r
          cases r0
          obtain ⟨t1, rfl⟩ := r1
          obtain ⟨t2, rfl⟩ := r2
          obtain ⟨t3, rfl⟩ := r3
          exact ⟨t1, t2, t3, rfl⟩
theorem hand_see {b d e : Int} (ok : HOk P w H h) (ha : H a = some (hLst lc b d e)) (hb0 : 0 ≤ b) (hb1 : b ≤ (L : Int)) (he0 : 0 ≤ e) (he1 : e < 2147483648) :
    HOk P w (upd H a (HandO a lc L)) h ∧ Un fs [] H (upd H a (HandO a lc L)) h h := by
  obtain ⟨z, its, n, r, ho⟩ := ok a _ ha
  obtain ⟨t1, t2, t3, rfl⟩ := hand_its r
  have mu : Mut (H a) := by rw [ha]; trivial
  refine ⟨ok.write mu (.inl rfl) (fun _ _ _ q => q) ⟨_, ho⟩ ⟨⟨b, d, e, t1, t2, t3, n, ho, hb0, hb1, he0, he1⟩, ⟨_, ho⟩, ?_⟩, Un.write mu (.inl rfl) (fun _ _ _ q => q) ⟨_, ho⟩⟩
  rintro h1 h2 ⟨b, d, e, t1, t2, t3, n, q, r⟩ k
  exact ⟨b, d, e, t1, t2, t3, n, k _ q, r⟩
theorem hand_open (ok : HOk P w H h) (ha : H a = some (HandO a lc L)) :
    ∃ b d e, HOk P w (upd H a (hLst lc b d e)) h ∧ Un fs [] H (upd H a (hLst lc b d e)) h h ∧ 0 ≤ b ∧ b ≤ (L : Int) ∧ 0 ≤ e ∧ e < 2147483648 := by
  obtain ⟨⟨b, d, e, t1, t2, t3, n, ho, q⟩, _, _⟩ := ok a _ ha
  have mu : Mut (H a) := by rw [ha]; trivial
  refine ⟨b, d, e, ok.write mu (.inl rfl) (fun _ _ _ q => q) ⟨_, ho⟩ ⟨by show 4 ≤ sizeLine; decide, [.ref lc, .int b t1, .int d t2, .int e t3], n, .cons rfl (.cons ⟨_, rfl⟩ (.cons ⟨_, rfl⟩ (.cons ⟨_, rfl⟩ .nil))), ho⟩, Un.write mu (.inl rfl) (fun _ _ _ q => q) ⟨_, ho⟩, q⟩
end
def spDraw : Sp := sp2 fun x y H Q => HandAt H x ∧ ∃ many : Int, y = .int many ∧ 0 < many ∧ many ≤ 1000 ∧ ∀ (r : Int) (H' : Hp), Ex H H' → 0 ≤ r → r < many → Q (.int r) H'
theorem FnOk.hand {P : Program} {w : World} {K : PySem.W.Frag} {mg : Str → Option Value} {base : Heap} {k : Nat} {f : Addr} {fd : FuncData} {ps : List Str} (F : FnOk P w K mg base CX0 k f fd ps spDraw0) (hps : ps.length = 2) : FnOk P w K mg base CX0 k f fd ps spDraw := by
  refine ⟨fun vs H Q E h => by obtain ⟨x, y, rfl, _⟩ := h; rw [hps]; rfl, fun A outer s H args us vs Q E hr he hb hv hs => ?_⟩
  obtain ⟨x, y, rfl, ⟨a, lc, cells, rfl, ha, hlc, h64⟩, many, rfl, m0, m1, k⟩ := hs
  obtain ⟨b, d, e, ok1, u1, b0, b1, e0, e1⟩ := hand_open (fs := frs outer) he.hok ha
  have hlne : lc ≠ a := ne_of hlc ha (by intro z; cases z)
  have nn : ∀ c, H c = none → upd H a (hLst lc b d e) c = none := fun c q => by
    rw [upd_ne (fun z => by rw [z, ha] at q; cases q)]
    exact q
  have he1' : Env0 P w K mg base A outer s (upd H a (hLst lc b d e)) := ⟨he.frames, he.mod, fun c o q => ⟨(he.bs c o q).1, nn c (he.bs c o q).2⟩, he.bsz, he.funs, fun c q => nn c (he.frf c q), ok1, he.bare⟩
  refine codeAny_mono (F.run A outer s (upd H a (hLst lc b d e)) args us _ (fun v H' => ∃ r b' d' e', v = .int r ∧ ExA a (upd H a (hLst lc b d e)) H' ∧ H' a = some (hLst lc b' d' e') ∧ 0 ≤ b' ∧ b' ≤ (cells.length : Int) ∧ 0 ≤ e' ∧ e' < 2147483648 ∧ 0 ≤ r ∧ r < many) E hr he1' hb hv
    ⟨_, _, rfl, a, lc, cells, b, d, e, many, rfl, upd_same, by rw [upd_ne hlne]; exact hlc, h64, b0, b1, e0, e1, rfl, m0, m1, fun r b' d' e' H' g1 g2 g3 g4 g5 g6 g7 g8 => ⟨r, b', d', e', rfl, g1, g2, g3, g4, g5, g6, g7, g8⟩⟩) (fun res s' g => ?_)
  cases res with
  | error x => exact g
  | ok o =>
    cases o with
    | ret u =>
      obtain ⟨v, H', g1, g2, g3, g4, g5, r, b', d', e', rfl, q1, q2, q3, q4, q5, q6, q7, q8⟩ := g
      obtain ⟨ok3, u3⟩ := hand_see (fs := frs outer) (L := cells.length) g4 q2 q3 q4 q5 q6
      refine ⟨.int r, upd H' a (HandO a lc cells.length), g1, g2, (u1.trans g3).trans u3, ok3, g5, k r _ (fun c o q => ?_) q7 q8⟩
      by_cases hc : c = a
      · rw [hc] at q ⊢
        rw [upd_same, ← ha]
        exact q
      · rw [upd_ne hc]
        refine q1 c o hc ?_
        rw [upd_ne hc]
        exact q
    | _ => exact g
variable {c : Cn}
theorem ok_law_draw (T : Tx c.mg) (D : Dn c "_law_draw" s_law_draw ["_law_hand_here", "_law_many"]) (g__law_mix : Kn c CX0 1 "_law_mix" ["_law_number", "_law_turn"] spMix) : Kn c CX0 2 "_law_draw" ["_law_hand_here", "_law_many"] spDraw := by
  obtain ⟨f, fd, F, h⟩ := (ok_law_draw0 T D g__law_mix).ex
  exact ⟨⟨f, fd, FnOk.hand F rfl, h⟩⟩
/-! ### the hand made -/
abbrev s_law_hand : Stmt := topS 69
theorem sc_law_hand : FnScope ["_law_script", "_law_total", "_law_k", "_law_cell"] ["_law_script"] (defScope s_law_hand) := ⟨rfl, rfl, rfl, by decide +kernel, rfl, by decide +kernel, by decide +kernel⟩
def spHand0 (K : PySem.W.Frag) : Sp := sp1 fun x H Q => ∃ (a : Addr) (cells : List Int), x = .ref a ∧ SqL K H a (cells.map V.int) ∧ cells.length ≤ 64 ∧
  ∀ (p lc : Addr) (e : Int) (H' : Hp) (cells' : List Int), Ex H H' → H p = none → H' p = some (hLst lc 0 0 e) → H' lc = some (.lst (cells'.map V.int)) → cells'.length = cells.length → 0 ≤ e → e < 2147483648 → Q (.ref p) H'
def spHand (K : PySem.W.Frag) : Sp := sp1 fun x H Q => ∃ (a : Addr) (cells : List Int), x = .ref a ∧ SqL K H a (cells.map V.int) ∧ cells.length ≤ 64 ∧ ∀ y H', Ex H H' → HandAt H' y → Q y H'
theorem FnOk.handMade {P : Program} {w : World} {K : PySem.W.Frag} {mg : Str → Option Value} {base : Heap} {k : Nat} {f : Addr} {fd : FuncData} {ps : List Str} (F : FnOk P w K mg base CX0 k f fd ps (spHand0 K)) (hps : ps.length = 1) : FnOk P w K mg base CX0 k f fd ps (spHand K) := by
  refine ⟨fun vs H Q E h => by obtain ⟨x, rfl, _⟩ := h; rw [hps]; rfl, fun A outer s H args us vs Q E hr he hb hv hs => ?_⟩
  obtain ⟨x, rfl, a, cells, rfl, ha, h64, k⟩ := hs
  refine codeAny_mono (F.run A outer s H args us _ (fun v H' => ∃ (p lc : Addr) (e : Int) (cells' : List Int), v = .ref p ∧ Ex H H' ∧ H p = none ∧ H' p = some (hLst lc 0 0 e) ∧ H' lc = some (.lst (cells'.map V.int)) ∧ cells'.length = cells.length ∧ 0 ≤ e ∧ e < 2147483648) E hr he hb hv
    ⟨_, rfl, a, cells, rfl, ha, h64, fun p lc e H' cells' g1 g2 g3 g4 g5 g6 g7 => ⟨p, lc, e, cells', rfl, g1, g2, g3, g4, g5, g6, g7⟩⟩) (fun res s' g => ?_)
  cases res with
  | error x => exact g
  | ok o =>
    cases o with
    | ret u =>
      obtain ⟨v, H', g1, g2, g3, g4, g5, p, lc, e, cells', rfl, q1, q2, q3, q4, q5, q6, q7⟩ := g
      obtain ⟨ok3, u3⟩ := hand_see (fs := frs outer) (L := cells'.length) g4 q3 (by decide) (by omega) q6 q7
      refine ⟨.ref p, upd H' p (HandO p lc cells'.length), g1, g2, g3.trans u3, ok3, g5, k _ _ (fun c o q => ?_) ⟨p, lc, cells', rfl, upd_same, ?_, by omega⟩⟩
      · rw [upd_ne (fun z => by rw [z, q2] at q; cases q)]
        exact q1 c o q
      · rw [upd_ne (ne_of q4 q3 (by intro z; unfold hLst at z; injection z with z2; cases cells' with | nil => cases z2 | cons x r => rw [List.map_cons] at z2; injection z2 with z3 _; cases z3))]
        exact q4
    | _ => exact g
def absI (i : Int) : Int := if i < 0 then -i else i
theorem wide_op {i : Int} (j : Int) (h1 : -(2 ^ 64) < i) (h2 : i < 2 ^ 64) : CMul j i := .inr ⟨h1, h2⟩
theorem ok_law_hand0 (T : Tx c.mg) (D : Dn c "_law_hand" s_law_hand ["_law_script"]) : Kn c CX0 1 "_law_hand" ["_law_script"] (spHand0 c.K) := by
  have sc := sc_law_hand
  refine D.ok sc len1 (fun f cdv A outer s H vs Q E hr h => ?_)
  refine ⟨_, (pss_cons (ps_set (i := 1) sc.nd rfl (.inl rfl) pe_int)
  (pss_cons (ps_for PassesOwn.never rfl (pi_enum (by rfl) T.enumerate (pa_cons (pv 0) pa_nil)) (pg_tup rfl (pgs_cons (pg_name (i := 2) sc.nd rfl (.inl rfl)) (pgs_cons (pg_name (i := 3) sc.nd rfl (.inl rfl)) pgs_nil)))
    (pss_one (ps_set (i := 1) sc.nd rfl (.inl rfl) (pe_op op_mod (pe_callTy call_int1 (by rfl) T.int (by decide +kernel) (pa_cons (pe_op op_add (pe_op op_mul (pv 1) pe_int) (pe_op op_mul (pe_callTy call_int1 (by rfl) T.int (by decide +kernel) (pa_cons (pv 3) pa_nil)) (pe_op op_add (pv 2) pe_int))) pa_nil)) pe_int))))
  (pss_one (ps_ret (pe_lst (pa_cons (pe_lc (own := [("_law_cell", 3)]) (g := gName 3) (tt := tYes) rfl sc.nd (pi_sq (pv 0)) (blkOk_by (by kernel_rfl)) (fun _ _ _ _ _ => (pg_name (i := 3) sc.nd rfl (.inl rfl))) (fun _ _ _ _ _ => pts_nil) (fun _ _ _ _ _ => (pe_callB call_abs (by rfl) T.abs (by decide +kernel) (pa_cons (pe_callTy call_int1 (by rfl) T.int (by decide +kernel) (pa_cons (pv 3) pa_nil)) pa_nil)))) (pa_cons pe_int (pa_cons pe_int (pa_cons (pv 1) pa_nil))))))))), ?_⟩
  obtain ⟨_, rfl, a, cells, rfl, ha, h64, k⟩ := h
  refine ⟨_, rfl, a, _, rfl, ha, ?_⟩
  refine for_it (walk_enumLE (H := H) ha) (fun i σ' H' => ∃ (t : Int) (y2 y3 : Option V), σ' = [some (.ref a), some (.int t), y2, y3] ∧ Ex H H' ∧ 0 ≤ t ∧ t < 2147483648)
    ⟨0, _, _, rfl, Ex.rfl, by decide, by decide⟩ (fun i σ' H' _ p => by obtain ⟨_, _, _, _, p, _⟩ := p; exact p) (fun i z σ' H' H'' hi p y => ?_) (fun σ' H' p => ?_)
  · obtain ⟨t, y2, y3, rfl, e, t0, t1⟩ := p
    obtain ⟨tp, xi, xc, rfl, htp, rfl, h1, h2⟩ := y
    cases h1
    replace h2 : (cells.map V.int)[i]? = some xc := h2
    rw [List.length_map] at hi
    rw [List.getElem?_map, List.getElem?_eq_getElem hi] at h2
    cases h2
    obtain ⟨m1, m2⟩ := modr (t * 31 + cells[i] * ((i : Int) + 7)) (m := 2147483629) (by decide)
    refine ⟨tp, _, rfl, SqT.of upd_same, rfl, _, _, rfl, _, _, rfl, rfl, _, rfl, _, _, rfl, rfl, .inr ⟨by decide, by decide⟩, _, rfl, .inl ⟨_, rfl, _, rfl, _, _, rfl, rfl, _, _, rfl, rfl, .inr ⟨by omega, by omega⟩, _, _, rfl, rfl, .inl ⟨_, rfl, _, _, rfl, rfl, by show (0:Int) < 2147483629; decide, ?_⟩⟩⟩
    exact ⟨_, _, _, rfl, e.trans (Evl.Ex.new htp), m1, by omega⟩
  · obtain ⟨t, y2, y3, rfl, e, t0, t1⟩ := p
    refine ⟨_, rfl, iSq_go (.inl (Evl.ex_l e ha)) fun J w => ?_⟩
    refine lc_name (Qd := fun D H' => _) w grow_at ((cells.map absI).map .num) (by rw [List.length_map, List.length_map, List.length_map]) (by rw [List.length_map]; omega) (by intro _; rfl) (fun i x kk H2 H3 hk g1 g2 y Q' q => ?_) (fun lc xs H2 hlc e2 hx hxs => ?_)
    · obtain ⟨rfl, hx⟩ := y
      rw [List.getElem?_map, List.getElem?_map] at hk
      rw [List.getElem?_map] at hx
      cases hci : cells[i]? with
      | none => rw [hci] at hx; cases hx
      | some ci =>
        rw [hci] at hx hk
        cases hx
        cases hk
        exact ⟨_, rfl, .inl ⟨_, rfl, _, rfl, q _ _ Ex.rfl (.num _)⟩⟩
    · have hxi := hxs.ints
      rw [hxi] at hx
      refine ⟨_, rfl, (by show 4 ≤ sizeLine; decide), fun p hp => ?_⟩
      have hpH : H p = none := by
        cases hh : H p with
        | none => rfl
        | some o => rw [e2 _ _ (e _ _ hh)] at hp; cases hp
      exact k p lc t _ (cells.map absI) ((e.trans e2).trans (Evl.Ex.new hp)) hpH upd_same (by rw [upd_ne (ne_of_none hx hp)]; exact hx) (by rw [List.length_map]) t0 t1
theorem ok_law_hand (T : Tx c.mg) (D : Dn c "_law_hand" s_law_hand ["_law_script"]) : Kn c CX0 1 "_law_hand" ["_law_script"] (spHand c.K) := by
  obtain ⟨f, fd, F, h⟩ := (ok_law_hand0 T D).ex
  exact ⟨⟨f, fd, FnOk.handMade F rfl, h⟩⟩
end K74
namespace K74
open PySem PySem.Spec PyProof.Rows L2
/-! ### l.remove(x), the items data -/
def rRemN : V → List V → Hp → VK → Prop := fun x vs H Q => ∃ (l : Addr) (xs : List V) (ks : List NestedKey) (y : V) (k : NestedKey), x = .ref l ∧ vs = [y] ∧ H l = some (.lst xs) ∧ NKs H ks xs ∧ NK H k y ∧ k ∈ ks ∧ k.depth ≤ 60 ∧
  ∀ j, ks[j]? = some k → Q .non (upd H l (.lst (xs.eraseIdx j)))
theorem datas_at : ∀ (ks : List NestedKey) (j : Nat), (NestedKey.datas ks)[j]? = (ks[j]?).map NestedKey.data
  | [], _ => by simp [NestedKey.datas]
  | _ :: _, 0 => by simp [NestedKey.datas]
  | _ :: ks, j + 1 => by simp only [NestedKey.datas, List.getElem?_cons_succ]; exact datas_at ks j
theorem first_key : ∀ (ks : List NestedKey) (k : NestedKey), k ∈ ks → ∃ j, ks[j]? = some k ∧ ∀ (m : Nat) (z : NestedKey), m < j → ks[m]? = some z → z ≠ k
  | [], _, h => absurd h (by simp)
  | a :: r, k, h => by
    by_cases e : a = k
    · exact ⟨0, by rw [e]; rfl, fun m _ hm => absurd hm (Nat.not_lt_zero _)⟩
    · obtain ⟨j, h1, h2⟩ := first_key r k (by
        rcases List.mem_cons.mp h with z | z
        · exact absurd z.symm e
        · exact z)
      refine ⟨j + 1, h1, fun m z hm hz => ?_⟩
      cases m with
      | zero => cases hz; exact e
      | succ m => exact h2 m z (Nat.lt_of_succ_lt_succ hm) hz
theorem vals_erase : ∀ {xs : List V} {us : List Value} (i : Nat), Vals xs us → Vals (xs.eraseIdx i) (us.eraseIdx i) := fun i h => Vals.eraseIdx i h
section
variable {X : Cx}
theorem mt_removeN (hu : X.A.units + 65 < cLine) : MtM X "list.remove" rRemN := by
  intro pins s σ H x vs v us Q I rx rv h
  obtain ⟨l, xs, ks, y, k, rfl, rfl, hl, hks, hk, hm, hd, q⟩ := h
  cases rx
  obtain ⟨u, rfl, ru⟩ := rv.one
  obtain ⟨z, its, n, r, hln, ho⟩ := I.lstM hl
  obtain ⟨bs, r1⟩ := Dp.reads I k.data y u (NK.dp k _ hk) ru
  obtain ⟨as, h4⟩ := Dp.readsAll I (NestedKey.datas ks) _ its (NKs.dp ks _ hks) r
  have hxs : PyData.canLayAll0 (NestedKey.datas ks) = true := NKs.lay ks _ hks
  have hroom : X.A.units + 1 + min (PyData.depthAll (NestedKey.datas ks)) k.data.depth < cLine := by
    have h1 : min (PyData.depthAll (NestedKey.datas ks)) k.data.depth ≤ k.data.depth := Nat.min_le_right _ _
    rw [data_depth] at h1 ⊢
    omega
  have hmap : its.map (SeqAt.readOf s.heap) = NestedKey.datas ks := SeqAt.readsAll_map _ its as hxs h4
  obtain ⟨j, hj1, hj2⟩ := first_key ks k hm
  have hdl : (NestedKey.datas ks).length = its.length := by rw [← hmap, List.length_map]
  have hjd : (NestedKey.datas ks)[j]? = some k.data := by rw [datas_at, hj1]; rfl
  have hjl : j < its.length := by
    obtain ⟨w, _⟩ := List.getElem?_eq_some_iff.mp hjd
    omega
  have at_ : ∀ (m : Nat) (hm : m < its.toArray.size) (z' : PyData), (NestedKey.datas ks)[m]? = some z' → SeqAt.readOf s.heap its.toArray[m] = z' := by
    intro m hm z' hz'
    have hml : m < its.length := by simpa using hm
    rw [← hmap, List.getElem?_map, List.getElem?_eq_getElem hml] at hz'
    have e1 : SeqAt.readOf s.heap its[m] = z' := Option.some.inj (show some (SeqAt.readOf s.heap its[m]) = some z' from hz')
    simpa using e1
  have beq_k : ∀ z : NestedKey, PyData.eqv z.data k.data = decide (z = k) := fun z => by rw [data_eqv, ← NestedKey.decide_eq]
  refine call_meets PySem.F.slot_list_remove ⟨_, ho, rfl⟩ PySem.F.entry_list_remove (PySem.F.args_list_remove_2 _ _)
    (SeqAt.list_removeAt l its.toArray n none #[] u (fun w => PyData.eqv (SeqAt.readOf s.heap w) k.data) j (by simpa using hjl) ?_ (fun m hm hmj => ?_) (by rw [List.size_toArray]; omega)) ⟨ho, SeqAt.items_eqAt (vs := its.toArray) (show ReadsAll s.heap its.toArray.toList (NestedKey.datas ks) as from h4) r1 hxs (NK.lay k _ hk) hroom, ?_⟩
  · show PyData.eqv (SeqAt.readOf s.heap its.toArray[j]) k.data = true
    rw [at_ j (by simpa using hjl) _ hjd, beq_k]
    exact decide_eq_true rfl
  · show PyData.eqv (SeqAt.readOf s.heap its.toArray[m]) k.data = false
    have hml : m < its.length := by simpa using hm
    cases hz : ks[m]? with
    | none =>
      have hk2 : (NestedKey.datas ks)[m]? = none := by rw [datas_at, hz]; rfl
      have := List.getElem?_eq_none_iff.mp hk2
      omega
    | some zz =>
      rw [at_ m hm zz.data (by rw [datas_at, hz]; rfl), beq_k]
      exact decide_eq_false (hj2 m zz hmj hz)
  · refine ⟨.non, _, I.lset (its' := its.eraseIdx j) hl ho ?_ (r.eraseIdx j) ?_, rfl, q j hj1⟩
    · show its.toArray.eraseIdxIfInBounds j = (its.eraseIdx j).toArray
      rw [List.eraseIdxIfInBounds_toArray]
    · have := List.length_eraseIdx_le xs j
      omega
end
/-! ### a speed -/
section
variable {c : Cn}
abbrev s_law_low : Stmt := topS 71
theorem sc_law_low : FnScope ["_law_top", "_law_bottom", "_law_one", "_law_other"] ["_law_top", "_law_bottom"] (defScope s_law_low) := ⟨rfl, rfl, rfl, by decide +kernel, rfl, by decide +kernel, by decide +kernel⟩
def spLLow : Sp := sp2 fun x y H Q => ∃ t d : Int, x = .int t ∧ y = .int d ∧ t.natAbs < 2 ^ 20 ∧ 0 < d ∧ d < 2 ^ 20 ∧ Ret (qK (mkRat t d.toNat)) H Q
theorem abs_val (i : Int) : (if i < 0 then -i else i) = (i.natAbs : Int) := by
  by_cases h : i < 0
  · rw [if_pos h]; omega
  · rw [if_neg h]; omega
theorem ok_law_low (T : Tx c.mg) (D : Dn c "_law_low" s_law_low ["_law_top", "_law_bottom"]) : Kn c CX0 1 "_law_low" ["_law_top", "_law_bottom"] spLLow := by
  have sc := sc_law_low
  refine D.ok sc len2 (fun f cdv A outer s H vs Q E hr h => ?_)
  refine ⟨_, (pss_cons (ps_set (i := 2) sc.nd rfl (.inl rfl) (pe_callB call_abs (by rfl) T.abs (by decide +kernel) (pa_cons (pv 0) pa_nil)))
  (pss_cons (ps_set (i := 3) sc.nd rfl (.inl rfl) (pe_callB call_abs (by rfl) T.abs (by decide +kernel) (pa_cons (pv 1) pa_nil)))
  (pss_cons (ps_while PassesOwn.never (pt_truth (pv 3) (fun _ => rfl))
    (pss_one (ps_par (i := 2) (j := 3) rfl sc.nd rfl rfl (by decide) rfl rfl (pa_cons (pv 3) (pa_cons (pe_op op_mod (pe_callTy call_int1 (by rfl) T.int (by decide +kernel) (pa_cons (pv 2) pa_nil)) (pv 3)) pa_nil)) (by rfl))))
  (pss_cons (ps_if (pt_cmpR op_lt (pv 1) pe_int (nomark _)) (pss_one (ps_set (i := 2) sc.nd rfl (.inl rfl) (pe_un un_neg (pv 2))))
    pss_nil)
  (pss_one (ps_ret (pe_tup (pa_cons (pe_op op_fdivW (pv 0) (pv 2)) (pa_cons (pe_op op_fdivW (pv 1) (pv 2)) pa_nil))))))))), ?_⟩
  obtain ⟨_, _, rfl, t, d, rfl, rfl, ht, hd, hd2, k⟩ := h
  refine ⟨_, rfl, t, rfl, _, rfl, d, rfl, ?_⟩
  refine ⟨fun m σ' H' => ∃ (a : Nat) (b : Nat), m = b ∧ σ' = [some (.int t), some (.int d), some (.int (a : Int)), some (.int (b : Int))] ∧ H' = H ∧ Nat.gcd a b = Nat.gcd t.natAbs d.natAbs, ⟨d.natAbs, t.natAbs, d.natAbs, rfl, by rw [abs_val, abs_val]; rfl, rfl, rfl⟩, ?_⟩
  rintro m σ' H' ⟨a, b, hmb, rfl, rfl, hg⟩
  refine ⟨_, rfl, _, rfl, ?_⟩
  by_cases hb : b = 0
  · subst hb
    refine ite_f rfl ?_
    rw [Nat.gcd_zero_right] at hg
    subst hg
    refine ⟨_, rfl, d, 0, rfl, rfl, _, rfl, ite_f (decide_eq_false (by omega)) ?_⟩
    refine ⟨_, rfl, _, rfl, _, _, rfl, rfl, gcd_div t d hd ?_ _, _, rfl, _, rfl, _, _, rfl, rfl, gcd_div t d hd ?_ _, (by show 2 ≤ sizeLine; decide), fun p hp => ?_⟩
    · exact Nat.lt_trans (show d.natAbs < 2 ^ 20 from by omega) (Nat.pow_lt_pow_right (by decide) (by decide))
    · exact Nat.lt_trans (show d.natAbs < 2 ^ 20 from by omega) (Nat.pow_lt_pow_right (by decide) (by decide))
    refine k _ _ (Evl.Ex.new hp) (qK_mk (upd_same.trans ?_))
    show some (HO.tup [V.int (t / _), V.int (d / _)]) = _
    rw [low_num t d hd, low_den t d hd]
  · refine ite_t (by show ((b : Int) != 0) = true; rw [bne_iff_ne]; omega) ?_
    refine ⟨fun σ2 H2 => ∃ (a2 b2 : Nat), b2 < b ∧ σ2 = [some (.int t), some (.int d), some (.int (a2 : Int)), some (.int (b2 : Int))] ∧ H2 = H' ∧ Nat.gcd a2 b2 = Nat.gcd t.natAbs d.natAbs, fun σ2 H2 p => by obtain ⟨a2, b2, h1, h2, h3, h4⟩ := p; exact ⟨b2, by rw [hmb]; exact h1, a2, b2, rfl, h2, h3, h4⟩, ?_⟩
    refine ⟨_, rfl, _, rfl, .inl ⟨_, rfl, _, rfl, _, _, rfl, rfl, by show (0 : Int) < (b : Int); omega, ?_⟩⟩
    refine ⟨_, _, rfl, b, a % b, Nat.mod_lt _ (by omega), ?_, rfl, ?_⟩
    · rw [Int.natCast_emod]
      rfl
    · rw [← hg, Nat.gcd_comm b, ← Nat.gcd_rec, Nat.gcd_comm]
/-! ### less -/
abbrev s_law_less : Stmt := topS 72
theorem sc_law_less : FnScope ["_law_a", "_law_b"] ["_law_a", "_law_b"] (defScope s_law_less) := ⟨rfl, rfl, rfl, by decide +kernel, rfl, by decide +kernel, by decide +kernel⟩
def spLess : Sp := sp2 fun x y H Q => ∃ p q : Rat, NK H (qK p) x ∧ NK H (qK q) y ∧ Sm p ∧ Sm q ∧ ∀ (b : Bool) H', Ex H H' → Q (.bl b) H'
theorem ok_law_less (D : Dn c "_law_less" s_law_less ["_law_a", "_law_b"]) : Kn c CX0 1 "_law_less" ["_law_a", "_law_b"] spLess := by
  have sc := sc_law_less
  refine D.ok sc len2 (fun f cdv A outer s H vs Q E hr h => ?_)
  refine ⟨_, (pss_one (ps_ret (pe_cmpR op_lt (pe_op op_mulW (pe_ix ix_sq (pv 0) pe_int (fun _ _ => rfl)) (pe_ix ix_sq (pv 1) pe_int (fun _ _ => rfl))) (pe_op op_mulW (pe_ix ix_sq (pv 1) pe_int (fun _ _ => rfl)) (pe_ix ix_sq (pv 0) pe_int (fun _ _ => rfl))) (nomark _)))), ?_⟩
  obtain ⟨_, _, rfl, p, q, hx, hy, sp, sq, k⟩ := h
  obtain ⟨a, rfl, ha⟩ := qK_inv hx
  obtain ⟨b, rfl, hb⟩ := qK_inv hy
  have dp : ((p.den : Nat) : Int).natAbs < 2 ^ 4000 := by rw [Int.natAbs_natCast]; exact sp.2
  have dq : ((q.den : Nat) : Int).natAbs < 2 ^ 4000 := by rw [Int.natAbs_natCast]; exact sq.2
  exact ⟨_, rfl, a, _, _, _, rfl, rfl, .t ha, at_of (j := 0) rfl rfl, _, rfl, b, _, _, _, rfl, rfl, .t hb, at_of (j := 1) rfl rfl, _, _, rfl, rfl, wide_mul (a := 4000) (b := 4000) sp.1 dq (by decide) (by decide) (by decide), _, rfl, b, _, _, _, rfl, rfl, .t hb, at_of (j := 0) rfl rfl, _, rfl, a, _, _, _, rfl, rfl, .t ha, at_of (j := 1) rfl rfl, _, _, rfl, rfl, wide_mul (a := 4000) (b := 4000) sq.1 dp (by decide) (by decide) (by decide), _, _, rfl, rfl, k _ _ Ex.rfl⟩
/-! ### speed -/
def bdb (m : Nat) (q : Rat) : Bool := decide ((q * (LL : Rat) ^ m).den = 1) && decide (-((16 : Rat) ^ m) ≤ q) && decide (q ≤ (16 : Rat) ^ m)
theorem bdb_ok {m : Nat} {q : Rat} (h : bdb m q = true) : Bd m q := by
  unfold bdb at h
  rw [Bool.and_eq_true, Bool.and_eq_true, decide_eq_true_iff, decide_eq_true_iff, decide_eq_true_iff] at h
  obtain ⟨⟨h1, h2⟩, h3⟩ := h
  refine ⟨⟨(q * (LL : Rat) ^ m).num, ?_⟩, h2, h3⟩
  exact Rat.ext rfl h1
theorem spd_bd : ∀ (i : Fin 41) (d : Fin 3), bdb 2 (mkRat ((i.val : Int) - 20) (d.val + 1)) = true := by decide +kernel
theorem spd_ok {t d : Int} (h1 : -20 ≤ t) (h2 : t ≤ 20) (h3 : 1 ≤ d) (h4 : d ≤ 3) : Bd 2 (mkRat t d.toNat) := by
  have h := bdb_ok (spd_bd ⟨(t + 20).toNat, by omega⟩ ⟨(d - 1).toNat, by omega⟩)
  have e1 : (((t + 20).toNat : Nat) : Int) - 20 = t := by omega
  have e2 : (d - 1).toNat + 1 = d.toNat := by omega
  rw [show ((⟨(t + 20).toNat, by omega⟩ : Fin 41).val : Int) - 20 = t from e1, show (⟨(d - 1).toNat, by omega⟩ : Fin 3).val + 1 = d.toNat from e2] at h
  exact h
abbrev s_law_speed : Stmt := topS 73
theorem sc_law_speed : FnScope ["_law_hand_here", "_law_wide", "_law_far", "_law_top", "_law_bottom"] ["_law_hand_here", "_law_wide"] (defScope s_law_speed) := ⟨rfl, rfl, rfl, by decide +kernel, rfl, by decide +kernel, by decide +kernel⟩
def spSpeed : Sp := sp2 fun x y H Q => HandAt H x ∧ ∃ wide : Bool, y = .bl wide ∧ ∀ (q : Rat) (z : V) (H' : Hp), Ex H H' → NK H' (qK q) z → Bd 2 q → Q z H'
theorem ok_law_speed (D : Dn c "_law_speed" s_law_speed ["_law_hand_here", "_law_wide"]) (g__law_draw : Kn c CX0 2 "_law_draw" ["_law_hand_here", "_law_many"] spDraw) (g__law_low : Kn c CX0 1 "_law_low" ["_law_top", "_law_bottom"] spLLow) : Kn c CX0 3 "_law_speed" ["_law_hand_here", "_law_wide"] spSpeed := by
  have sc := sc_law_speed
  refine D.ok sc len2 (fun f cdv A outer s H vs Q E hr h => ?_)
  refine ⟨_, (pss_cons (ps_set (i := 2) sc.nd rfl (.inl rfl) (pe_ifExp (pt_val (pv 1)) pe_int pe_int))
  (pss_cons (ps_set (i := 3) sc.nd rfl (.inl rfl) (pe_op op_sub (pe_kn g__law_draw (hr.mono (by decide)) rfl (pa_cons (pv 0) (pa_cons (pe_op op_add (pe_op op_mulW pe_int (pv 2)) pe_int) pa_nil))) (pv 2)))
  (pss_cons (ps_set (i := 4) sc.nd rfl (.inl rfl) pe_int)
  (pss_cons (ps_if (pt_cmpR op_eq (pe_kn g__law_draw (hr.mono (by decide)) rfl (pa_cons (pv 0) (pa_cons pe_int pa_nil))) pe_int (nomark _)) (pss_one (ps_set (i := 4) sc.nd rfl (.inl rfl) (pe_op op_add pe_int (pe_kn g__law_draw (hr.mono (by decide)) rfl (pa_cons (pv 0) (pa_cons pe_int pa_nil))))))
    pss_nil)
  (pss_one (ps_ret (pe_kn g__law_low (hr.mono (by decide)) rfl (pa_cons (pv 3) (pa_cons (pv 4) pa_nil))))))))), ?_⟩
  obtain ⟨x, _, rfl, hx, wide, rfl, k⟩ := h
  refine ⟨_, rfl, wide, rfl, ?_⟩
  obtain ⟨far, hf1, hf2, go⟩ : ∃ far : Int, 3 ≤ far ∧ far ≤ 20 ∧ ∀ B : V → Prop, B (.int far) → if wide = true then B (.int 20) else B (.int 3) := by
    cases wide with
    | true => exact ⟨20, by decide, by decide, fun B h => ite_t rfl h⟩
    | false => exact ⟨3, by decide, by decide, fun B h => ite_f rfl h⟩
  refine go (fun z => (tSeq _ _ : TS) { nx := fun _ H' => Q .non H', rt := Q } [some x, some (.bl wide), some z, none, none] H) ?_
  refine ⟨_, rfl, _, rfl, _, _, rfl, rfl, wide_mul (a := 20) (b := 20) (by decide) (by omega) (by decide) (by decide) (by decide), _, _, rfl, rfl, _, _, rfl, hx, _, rfl, by omega, by omega, fun r H1 e1 r0 r1 => ?_⟩
  refine ⟨_, rfl, _, _, rfl, rfl, ?_⟩
  refine ⟨_, rfl, _, _, rfl, hx.ex e1, _, rfl, by decide, by decide, fun r2 H2 e2 g0 g1 => ?_⟩
  have E2 := e1.trans e2
  suffices fin : ∀ (d : Int) (H3 : Hp), Ex H H3 → 1 ≤ d → d ≤ 3 → (tRet (tCall spLLow [] E0 (tCons (tVar 3) (tCons (tVar 4) tNil))) : TS) { nx := fun _ H' => Q .non H', rt := Q } [some x, some (.bl wide), some (.int far), some (.int (r - far)), some (.int d)] H3 by
    refine ⟨rfl, _, rfl, ?_⟩
    by_cases hr2 : r2 = 0
    · refine ite_t (decide_eq_true (by rw [hr2])) ⟨_, rfl, _, _, rfl, hx.ex E2, _, rfl, by decide, by decide, fun r3 H3 e3 p0 p1 => ⟨_, _, rfl, rfl, fin (2 + r3) H3 (E2.trans e3) (by omega) (by omega)⟩⟩
    · exact ite_f (decide_eq_false (fun z => hr2 (by injection z))) (fin 1 H2 E2 (by decide) (by decide))
  intro d H3 e3 d1 d3
  exact ⟨_, rfl, _, rfl, _, _, rfl, r - far, d, rfl, rfl, by omega, by omega, by omega, fun v H4 e4 h4 => k _ v H4 (e3.trans e4) h4 (spd_ok (by omega) (by omega) d1 d3)⟩
end
end K74
namespace K74
open PySem PySem.Spec PyProof.Rows L2
/-! ### falling -/
theorem _root_.L2.Room.u65 {k : Nat} {A : Around} (r : Room k A) : A.units + 65 < cLine := by have := r.un; omega
section
variable {c : Cn}
abbrev s_law_falling : Stmt := topS 74
theorem sc_law_falling : FnScope ["_law_speeds", "_law_left", "_law_made", "_law_k", "_law_best", "_law_speed_here"] ["_law_speeds"] (defScope s_law_falling) := ⟨rfl, rfl, rfl, by decide +kernel, rfl, by decide +kernel, by decide +kernel⟩
def SpL (H : Hp) (l : Addr) (vs : List Rat) : Prop := ∃ xs, H l = some (.lst xs) ∧ NKs H (vs.map qK) xs
theorem SpL.ex {H H' : Hp} {l : Addr} {vs : List Rat} (h : SpL H l vs) (e : Ex H H') : SpL H' l vs := by
  obtain ⟨xs, h1, h2⟩ := h
  exact ⟨xs, e _ _ h1, h2.ex e⟩
def spFalling : Sp := sp1 fun x H Q => ∃ (l : Addr) (vs : List Rat), x = .ref l ∧ SpL H l vs ∧ (∀ q ∈ vs, Sm q) ∧ vs.length ≤ 100 ∧
  ∀ (l2 : Addr) (vs2 : List Rat) (H' : Hp), Ex H H' → SpL H' l2 vs2 → (∀ q ∈ vs2, q ∈ vs) → vs2.length = vs.length → Q (.ref l2) H'
theorem map_erase {α β : Type} (f : α → β) : ∀ (l : List α) (j : Nat), (l.map f).eraseIdx j = (l.eraseIdx j).map f
  | [], _ => rfl
  | _ :: _, 0 => rfl
  | a :: r, j + 1 => by
    show f a :: (r.map f).eraseIdx j = f a :: (r.eraseIdx j).map f
    rw [map_erase f r j]
theorem NKs.erase {H : Hp} : ∀ {ks : List NestedKey} {vs : List V} (j : Nat), NKs H ks vs → NKs H (ks.eraseIdx j) (vs.eraseIdx j)
  | _, _, _, .nil => .nil
  | _, _, 0, .cons _ t => t
  | _, _, j + 1, .cons h t => .cons h (NKs.erase j t)
theorem mem_erase {α : Type} {l : List α} {j : Nat} {x : α} (h : x ∈ l.eraseIdx j) : x ∈ l := (List.eraseIdx_sublist l j).mem h
theorem ok_law_falling (T : Tx c.mg) (D : Dn c "_law_falling" s_law_falling ["_law_speeds"]) (g__law_less : Kn c CX0 1 "_law_less" ["_law_a", "_law_b"] spLess) : Kn c CX0 2 "_law_falling" ["_law_speeds"] spFalling := by
  have sc := sc_law_falling
  refine D.ok sc len1 (fun f cdv A outer s H vs Q E hr h => ?_)
  have hu := hr.u65
  refine ⟨_, (pss_cons (ps_set (i := 1) sc.nd rfl (.inl rfl) (pe_callTy call_list_of (by rfl) T.list (by decide +kernel) (pa_cons (pv 0) pa_nil)))
  (pss_cons (ps_set (i := 2) sc.nd rfl (.inl rfl) (pe_lst pa_nil))
  (pss_cons (ps_for PassesOwn.never rfl (pi_range1 rfl T.range (pa_cons (pe_callB call_len_seq (by rfl) T.len PySem.boot_len (pa_cons (pv 0) pa_nil)) pa_nil)) (pg_name (i := 3) sc.nd rfl (.inl rfl))
    (pss_cons (ps_set (i := 4) sc.nd rfl (.inl rfl) (pe_ix ix_sq (pv 1) pe_int (fun _ _ => rfl)))
    (pss_cons (ps_for PassesOwn.never rfl (pi_sq (pv 1)) (pg_name (i := 5) sc.nd rfl (.inl rfl))
      (pss_one (ps_if (pt_val (pe_kn g__law_less (hr.mono (by decide)) rfl (pa_cons (pv 4) (pa_cons (pv 5) pa_nil)))) (pss_one (ps_set (i := 4) sc.nd rfl (.inl rfl) (pv 5)))
        pss_nil)))
    (pss_cons (ps_expr (pe_bm PySem.F.plainAttrs_list PySem.F.slot_list_remove PySem.F.type_list_remove (mt_removeN hu) (pv 1) (pa_cons (pv 4) pa_nil)))
    (pss_one (ps_expr (pe_bm PySem.F.plainAttrs_list PySem.F.slot_list_append PySem.F.type_list_append mt_append (pv 2) (pa_cons (pv 4) pa_nil))))))))
  (pss_one (ps_ret (pv 2)))))), ?_⟩
  obtain ⟨_, rfl, l, v, rfl, ⟨xs, hl, hxs⟩, hsm, hlen, k⟩ := h
  have hxl : xs.length = v.length := by rw [hxs.len, List.length_map]
  refine ⟨_, rfl, l, xs, rfl, .inl (SqL.of hl), fun ll hll => ?_⟩
  have e1 := Evl.Ex.new (o := .lst xs) hll
  refine ⟨Nat.zero_le _, fun lm hlm => ?_⟩
  have e2 := Evl.Ex.new (o := .lst []) hlm
  have hmH : H lm = none := by
    cases hh : H lm with
    | none => rfl
    | some o => rw [e1 _ _ hh] at hlm; cases hlm
  have hlml : lm ≠ ll := fun z => by rw [z, upd_same] at hlm; cases hlm
  have E2 := e1.trans e2
  refine ⟨_, rfl, l, xs, rfl, .inl (SqL.of (E2 _ _ hl)), xs.length, rfl, by omega, by omega, ?_⟩
  have hl0 : (upd (upd H ll (.lst xs)) lm (.lst [])) ll = some (.lst xs) := by rw [upd_ne hlml.symm, upd_same]
  generalize hH0 : upd (upd H ll (.lst xs)) lm (.lst []) = H0 at *
  refine for_it (walk_rangeE (H := H)) (fun i σ' H' => i ≤ xs.length ∧ ∃ (lv mv : List Rat) (ys : List V) (zs : List V) (y3 y4 y5 : Option V), σ' = [some (.ref l), some (.ref ll), some (.ref lm), y3, y4, y5] ∧ Ex H H' ∧ H' ll = some (.lst ys) ∧ NKs H' (lv.map qK) ys ∧ H' lm = some (.lst zs) ∧ NKs H' (mv.map qK) zs ∧ mv.length = i ∧ lv.length + i = xs.length ∧ (∀ q ∈ lv, q ∈ v) ∧ ∀ q ∈ mv, q ∈ v)
    ⟨Nat.zero_le _, v, [], xs, [], none, none, none, rfl, E2, hl0, hxs.ex E2, by rw [← hH0]; exact upd_same, .nil, rfl, by omega, fun q h => h, fun q h => by cases h⟩ (fun i σ' H' _ p => by obtain ⟨_, _, _, _, _, _, _, _, _, p, _⟩ := p; exact p) (fun i z σ' H' H'' hi p y => ?_) (fun σ' H' p => ?_)
  · obtain ⟨hi2, lv, mv, ys, zs, y3, y4, y5, rfl, e, hll', hys, hlm', hzs, hmv, hlv, hv1, hv2⟩ := p
    obtain ⟨rfl, rfl⟩ := y
    have hyl : ys.length = lv.length := by rw [hys.len, List.length_map]
    have h0 : 0 < lv.length := by omega
    obtain ⟨y0, hy0, nk0⟩ := NKs.get (i := 0) hys (by rw [List.getElem?_map, List.getElem?_eq_getElem h0]; rfl)
    refine ⟨_, rfl, ll, _, _, _, rfl, rfl, .l hll', at_of (j := 0) rfl hy0, ?_⟩
    refine ⟨_, rfl, iSq_go (.inl (SqL.of hll')) fun J w => ?_⟩
    refine for_it w (fun j σ2 H2 => ∃ (q : Rat) (z : V) (y5 : Option V), σ2 = [some (.ref l), some (.ref ll), some (.ref lm), some (.int (0 + (i : Int))), some z, y5] ∧ Ex H'' H2 ∧ q ∈ lv ∧ NK H2 (qK q) z)
      ⟨lv[0], y0, y5, rfl, Ex.rfl, List.getElem_mem h0, nk0⟩ (fun j σ2 H2 _ p => by obtain ⟨_, _, _, _, p, _⟩ := p; exact p) (fun j z σ2 H2 H3 hj p y => ?_) (fun σ2 H2 p => ?_)
    · obtain ⟨q, z1, y5, rfl, e3, hq, nq⟩ := p
      obtain ⟨rfl, hz⟩ := y
      obtain ⟨k2, hk2, nk2⟩ := (hys.ex e3).got hz
      rw [List.getElem?_map] at hk2
      cases hlj : lv[j]? with
      | none => rw [hlj] at hk2; cases hk2
      | some q2 =>
        rw [hlj] at hk2
        cases hk2
        have hq2 : q2 ∈ lv := List.mem_of_getElem? hlj
        refine ⟨_, rfl, _, rfl, _, _, rfl, q, q2, nq, nk2, hsm _ (hv1 _ hq), hsm _ (hv1 _ hq2), fun b H4 e4 => ⟨_, rfl, ?_⟩⟩
        cases b with
        | true => exact ite_t rfl ⟨_, rfl, q2, z, _, rfl, e3.trans e4, hq2, nk2.ex e4⟩
        | false => exact ite_f rfl ⟨q, z1, _, rfl, e3.trans e4, hq, nq.ex e4⟩
    · obtain ⟨q, z1, y5, rfl, e3, hq, nq⟩ := p
      have hll2 := e3 _ _ hll'
      have hlm2 := e3 _ _ hlm'
      have hys2 := hys.ex e3
      have hzs2 := hzs.ex e3
      have hne : lm ≠ ll := hlml
      refine ⟨_, rfl, .inl ⟨rfl, ys, SqL.of hll2⟩, _, rfl, ll, ys, lv.map qK, z1, qK q, rfl, rfl, hll2, hys2, nq, List.mem_map.mpr ⟨q, hq, rfl⟩, Nat.le_trans (depth_qK q) (by decide), fun j hj => ?_⟩
      have hlm3 : upd H2 ll (.lst (ys.eraseIdx j)) lm = some (.lst zs) := by rw [upd_ne hne]; exact hlm2
      have hjl : j < lv.length := by
        obtain ⟨w, _⟩ := List.getElem?_eq_some_iff.mp hj
        rw [List.length_map] at w
        exact w
      refine ⟨_, rfl, .inl ⟨rfl, zs, SqL.of hlm3⟩, _, rfl, lm, zs, z1, rfl, rfl, hlm3, line_of (by rw [hzs2.len, List.length_map]; omega), ?_⟩
      have E3 : Ex H H2 := e.trans e3
      have E4 : Ex H (upd H2 ll (.lst (ys.eraseIdx j))) := Evl.Ex.mut E3 hll
      have nk4 : ∀ {ks vs}, NKs H2 ks vs → NKs (upd (upd H2 ll (.lst (ys.eraseIdx j))) lm (.lst (zs ++ [z1]))) ks vs := fun h => NKs.lupd hlm3 _ _ (NKs.lupd hll2 _ _ h)
      refine ⟨by omega, lv.eraseIdx j, mv ++ [q], ys.eraseIdx j, zs ++ [z1], _, _, _, rfl, Evl.Ex.mut E4 hmH, by rw [upd_ne hne.symm]; exact upd_same, ?_, upd_same, ?_, by rw [List.length_append, hmv]; rfl, ?_, fun q' h' => hv1 q' (mem_erase h'), fun q' h' => ?_⟩
      · rw [← map_erase]
        exact nk4 (hys2.erase j)
      · rw [List.map_append]
        exact nk4 (hzs2.snoc nq)
      · rw [List.length_eraseIdx_of_lt hjl]
        omega
      · rcases List.mem_append.mp h' with z | z
        · exact hv2 q' z
        · rw [List.mem_singleton.mp z]
          exact hv1 q hq
  · obtain ⟨hi2, lv, mv, ys, zs, y3, y4, y5, rfl, e, hll', hys, hlm', hzs, hmv, hlv, hv1, hv2⟩ := p
    exact ⟨_, rfl, k lm mv H' e ⟨zs, hlm', hzs⟩ hv2 (by omega)⟩
end
end K74
namespace K74
open PySem PySem.Spec PyProof.Rows L2
/-! ### comprehensions of drawn items -/
structure Sticky (P : Hp → V → Prop) : Prop where
  ex : ∀ H H' v, Ex H H' → P H v → P H' v
  lu : ∀ H D acc ys v, H D = some (.lst acc) → P H v → P (upd H D (.lst ys)) v
theorem lc_prop {J : It} {n : Nat} {H1 : Hp} {Y : Nat → Hp → V → Hp → Prop} (w : Walk J n (fun H' => Ex H1 H') Y) (gy : Grow Y) {j : Nat} {te : TE} {vs : List Nat} {σ : L2.St} {Qd : Addr → Hp → Prop}
    {P : Hp → V → Prop} (st : Sticky P) (hn : n ≤ 10000) (hw : ∀ x, wipe ((wipe σ vs).set j (some x)) vs = wipe σ vs)
    (hs : ∀ i x H H', i < n → Ex H1 H → Ex H1 H' → Y i H x H' → ∀ Q' : VK, (∀ v H4, Ex H' H4 → P H4 v → Q' v H4) → te ((wipe σ vs).set j (some x)) H' Q')
    (k : ∀ D xs H', H1 D = none → Ex H1 H' → H' D = some (.lst xs) → xs.length = n → (∀ v ∈ xs, P H' v) → Qd D H') :
    ∀ D, H1 D = none → ∃ W : Nat → Nat → Hp → Prop, (∃ m, W 0 m (upd H1 D (.lst []))) ∧ ∀ i m H, W i m H →
      (J.stop i H ∧ Qd D H) ∨ (J.go i H ∧ ∃ Nx : Hp → Prop, (∀ H', Nx H' → ∃ m', m' < m ∧ W (i + 1) m' H') ∧ ∀ x H', J.yld i H x H' → gName j x (wipe σ vs) H' fun σ2 H2 => wipe σ2 vs = wipe σ vs ∧ tYes σ2 H2 fun b H3 =>
        if b = true then te σ2 H3 fun y H4 => ∃ acc, H4 D = some (.lst acc) ∧ acc.length < sizeLine ∧ Nx (upd H4 D (.lst (acc ++ [y]))) else Nx H3) := by
  refine lc_rel w gy (fun _ _ v H => P H v) (fun D i v => ⟨fun H H' e h => st.ex H H' v e h, fun H acc ys hD h => st.lu H D acc ys v hD h⟩) hn (fun D acc i x H H' hi e1 hD y B hB => ?_) (fun D xs H' hD e hx hl hr => ?_)
  · exact hB _ _ Ex.rfl (hw x) fun Q' q => hs i x H H' hi e1 (e1.trans (gy _ _ _ _ y)) y Q' q
  · refine k D xs H' hD e hx hl fun v hv => ?_
    obtain ⟨i, hi, e2⟩ := List.mem_iff_getElem.mp hv
    exact hr i v (by rw [List.getElem?_eq_getElem hi, e2])
def PSpd (H : Hp) (v : V) : Prop := ∃ q, NK H (qK q) v ∧ Bd 2 q
theorem PSpd.st : Sticky PSpd := ⟨fun _ _ _ e ⟨q, h, b⟩ => ⟨q, h.ex e, b⟩, fun _ _ _ _ _ hD ⟨q, h, b⟩ => ⟨q, NK.lupd hD _ _ h, b⟩⟩
def PNum (lo hi : Int) (_ : Hp) (v : V) : Prop := ∃ i : Int, v = .int i ∧ lo ≤ i ∧ i ≤ hi
theorem PNum.st {lo hi : Int} : Sticky (PNum lo hi) := ⟨fun _ _ _ _ h => h, fun _ _ _ _ _ _ h => h⟩
theorem spd_all {H : Hp} : ∀ {xs : List V}, (∀ v ∈ xs, PSpd H v) → ∃ qs : List Rat, NKs H (qs.map qK) xs ∧ ∀ q ∈ qs, Bd 2 q
  | [], _ => ⟨[], .nil, fun q h => by cases h⟩
  | x :: r, h => by
    obtain ⟨q, h1, h2⟩ := h x List.mem_cons_self
    obtain ⟨qs, h3, h4⟩ := spd_all (xs := r) fun v hv => h v (List.mem_cons_of_mem _ hv)
    exact ⟨q :: qs, .cons h1 h3, fun z hz => by
      rcases List.mem_cons.mp hz with e | e
      · rw [e]; exact h2
      · exact h4 z e⟩
theorem num_all {lo hi : Int} {H : Hp} : ∀ {xs : List V}, (∀ v ∈ xs, PNum lo hi H v) → ∃ ns : List Int, xs = ns.map V.int ∧ ∀ n ∈ ns, lo ≤ n ∧ n ≤ hi
  | [], _ => ⟨[], rfl, fun q h => by cases h⟩
  | x :: r, h => by
    obtain ⟨q, h1, h2⟩ := h x List.mem_cons_self
    obtain ⟨qs, h3, h4⟩ := num_all (xs := r) fun v hv => h v (List.mem_cons_of_mem _ hv)
    exact ⟨q :: qs, by rw [h1, h3]; rfl, fun z hz => by
      rcases List.mem_cons.mp hz with e | e
      · rw [e]; exact h2
      · exact h4 z e⟩
section
variable {c : Cn}
/-! ### balls -/
abbrev s_law_balls : Stmt := topS 75
theorem sc_law_balls : FnScope ["_law_hand_here", "_law_many", "_law_shut", "_law_heavy", "_law_wide", "_law_weights", "_law_k", "_law_speeds"] ["_law_hand_here", "_law_many", "_law_shut"] (defScope s_law_balls) := ⟨rfl, rfl, rfl, by decide +kernel, rfl, by decide +kernel, by decide +kernel⟩
def RetBalls (n : Nat) (shut : Bool) (H : Hp) (Q : VK) : Prop := ∀ (t a l : Addr) (ws : List Int) (H' : Hp), Ex H H' → H' t = some (.tup [.ref a, .ref l, .bl shut]) → H' a = some (.lst (ws.map V.int)) → ws.length = n → (∀ w ∈ ws, 1 ≤ w ∧ w ≤ 9) → Q (.ref t) H'
def spBalls : Sp := sp3 fun x y z H Q => HandAt H x ∧ ∃ (n : Nat) (shut : Bool), y = .int (n : Int) ∧ z = .bl shut ∧ n ≤ 10 ∧ RetBalls n shut H Q
theorem ok_law_balls (T : Tx c.mg) (D : Dn c "_law_balls" s_law_balls ["_law_hand_here", "_law_many", "_law_shut"]) (g__law_draw : Kn c CX0 2 "_law_draw" ["_law_hand_here", "_law_many"] spDraw) (g__law_speed : Kn c CX0 3 "_law_speed" ["_law_hand_here", "_law_wide"] spSpeed) (g__law_falling : Kn c CX0 2 "_law_falling" ["_law_speeds"] spFalling) :
    Kn c CX0 4 "_law_balls" ["_law_hand_here", "_law_many", "_law_shut"] spBalls := by
  have sc := sc_law_balls
  refine D.ok sc len3 (fun f cdv A outer s H vs Q E hr h => ?_)
  refine ⟨_, (pss_cons (ps_set (i := 3) sc.nd rfl (.inr rfl) (pe_ifExp (pt_cmpR op_eq (pe_kn g__law_draw (hr.mono (by decide)) rfl (pa_cons (pv 0) (pa_cons pe_int pa_nil))) pe_int (nomark _)) pe_int pe_int))
  (pss_cons (ps_set (i := 4) sc.nd rfl (.inr rfl) (pe_cmpR op_eq (pe_kn g__law_draw (hr.mono (by decide)) rfl (pa_cons (pv 0) (pa_cons pe_int pa_nil))) pe_int (nomark _)))
  (pss_cons (ps_setLc (i := 5) (own := [("_law_k", 6)]) (g := gName 6) (tt := tYes) rfl sc.nd rfl rfl (sw_true rfl rfl rfl (by decide +kernel)) (pi_range1 rfl T.range (pa_cons (pv 1) pa_nil)) (blkOk_by (by kernel_rfl)) (fun _ _ _ _ _ => (pg_name (i := 6) sc.nd rfl (.inl rfl))) (fun _ _ _ _ _ => pts_nil) (fun _ _ _ _ _ => (pe_op op_add pe_int (pe_kn g__law_draw (hr.mono (by decide)) rfl (pa_cons (pv 0) (pa_cons (pv 3) pa_nil))))))
  (pss_cons (ps_setLc (i := 7) (own := [("_law_k", 6)]) (g := gName 6) (tt := tYes) rfl sc.nd rfl rfl (sw_true rfl rfl rfl (by decide +kernel)) (pi_range1 rfl T.range (pa_cons (pv 1) pa_nil)) (blkOk_by (by kernel_rfl)) (fun _ _ _ _ _ => (pg_name (i := 6) sc.nd rfl (.inl rfl))) (fun _ _ _ _ _ => pts_nil) (fun _ _ _ _ _ => (pe_kn g__law_speed (hr.mono (by decide)) rfl (pa_cons (pv 0) (pa_cons (pv 4) pa_nil)))))
  (pss_cons (ps_if (pt_cmpR op_eq (pe_kn g__law_draw (hr.mono (by decide)) rfl (pa_cons (pv 0) (pa_cons pe_int pa_nil))) pe_int (nomark _)) (pss_one (ps_set (i := 7) sc.nd rfl (.inl rfl) (pe_kn g__law_falling (hr.mono (by decide)) rfl (pa_cons (pv 7) pa_nil))))
    pss_nil)
  (pss_one (ps_ret (pe_tup (pa_cons (pv 5) (pa_cons (pv 7) (pa_cons (pv 2) pa_nil))))))))))), ?_⟩
  obtain ⟨x, _, _, rfl, hx, n, shut, rfl, rfl, hn, k⟩ := h
  refine ⟨_, rfl, _, _, rfl, hx, _, rfl, by decide, by decide, fun r1 H1 e1 _ _ => ⟨rfl, ?_⟩⟩
  obtain ⟨heavy, hh1, hh2, go⟩ : ∃ heavy : Int, 3 ≤ heavy ∧ heavy ≤ 9 ∧ ∀ B : V → Prop, B (.int heavy) → if decide (V.int r1 = V.int 0) = true then B (.int 9) else B (.int 3) := by
    by_cases hr1 : r1 = 0
    · exact ⟨9, by decide, by decide, fun B h => ite_t (decide_eq_true (by rw [hr1])) h⟩
    · exact ⟨3, by decide, by decide, fun B h => ite_f (decide_eq_false (fun z => hr1 (by injection z))) h⟩
  refine ⟨_, rfl, go (fun z => (tSeq _ _ : TS) { nx := fun _ H' => Q .non H', rt := Q } [some x, some (.int (n : Int)), some (.bl shut), some z, none, none, none, none] H1) ?_⟩
  refine ⟨_, rfl, _, _, rfl, hx.ex e1, _, rfl, by decide, by decide, fun r2 H2 e2 _ _ => ⟨rfl, ?_⟩⟩
  have E2 := e1.trans e2
  refine ⟨_, rfl, n, rfl, by omega, by omega, ?_⟩
  refine lc_prop (Qd := fun D H' => _) (walk_rangeE (H := H2)) grow_fn (P := PNum 1 9) PNum.st (by omega) (by intro _; rfl) (fun i z H3 H4 hi g1 g2 y Q' q => ?_) (fun la xs H3 hla e3 hxa hxl hxp => ?_)
  · obtain ⟨rfl, rfl⟩ := y
    exact ⟨_, rfl, _, rfl, _, _, rfl, hx.ex (E2.trans g2), heavy, rfl, by omega, by omega, fun r H5 e5 r0 r1 => ⟨_, _, rfl, rfl, q _ _ e5 ⟨_, rfl, by omega, by omega⟩⟩⟩
  have E3 := E2.trans e3
  obtain ⟨ws, rfl, hws⟩ := num_all hxp
  refine ⟨_, rfl, n, rfl, by omega, by omega, ?_⟩
  refine lc_prop (Qd := fun D H' => _) (walk_rangeE (H := H3)) grow_fn (P := PSpd) PSpd.st (by omega) (by intro _; rfl) (fun i z H4 H5 hi g1 g2 y Q' q => ?_) (fun lb ys H4 hlb e4 hyb hyl hyp => ?_)
  · obtain ⟨rfl, rfl⟩ := y
    exact ⟨_, rfl, _, rfl, _, _, rfl, hx.ex (E3.trans g2), _, rfl, fun qq vv H6 e6 h6 b6 => q _ _ e6 ⟨qq, h6, b6⟩⟩
  have E4 := E3.trans e4
  obtain ⟨qs, hqs, hbd⟩ := spd_all hyp
  refine ⟨_, rfl, _, _, rfl, hx.ex E4, _, rfl, by decide, by decide, fun r3 H5 e5 _ _ => ⟨rfl, _, rfl, ?_⟩⟩
  have E5 := E4.trans e5
  have hwl : ws.length = n := by rw [List.length_map] at hxl; omega
  have ha5 : H5 la = some (.lst (ws.map V.int)) := e5 _ _ (e4 _ _ hxa)
  by_cases hr3 : r3 = 0
  · refine ite_t (decide_eq_true (by rw [hr3])) ⟨_, rfl, _, rfl, lb, qs, rfl, ⟨ys, e5 _ _ hyb, hqs.ex e5⟩, fun q hq => (hbd q hq).sm (by decide), ?_, fun l2 vs2 H6 e6 _ _ _ => ⟨_, rfl, _, rfl, _, rfl, (by show 3 ≤ sizeLine; decide), fun t ht => ?_⟩⟩
    · rw [← List.length_map (f := qK), ← hqs.len, hyl]; omega
    · have e7 := Evl.Ex.new (o := .tup [V.ref la, V.ref l2, V.bl shut]) ht
      exact k t la l2 ws _ ((E5.trans e6).trans e7) upd_same (e7 _ _ (e6 _ _ ha5)) hwl hws
  · refine ite_f (decide_eq_false (fun z => hr3 (by injection z))) ⟨_, rfl, _, rfl, _, rfl, (by show 3 ≤ sizeLine; decide), fun t ht => ?_⟩
    have e7 := Evl.Ex.new (o := .tup [V.ref la, V.ref lb, V.bl shut]) ht
    exact k t la lb ws _ (E5.trans e7) upd_same (e7 _ _ ha5) hwl hws
/-! ### any balls, pick -/
def caseOk (ws : List Int) (shut : Bool) : Bool := ws.all (fun w => decide (1 ≤ w) && decide (w ≤ 9)) && (match shut with | false => decide (2 ≤ ws.length) && decide (ws.length ≤ 4) | true => decide (1 ≤ ws.length) && decide (ws.length ≤ 3))
theorem caseOk_of {ws : List Int} {shut : Bool} (h : ∀ w ∈ ws, 1 ≤ w ∧ w ≤ 9) (h1 : shut = false → 2 ≤ ws.length ∧ ws.length ≤ 4) (h2 : shut = true → 1 ≤ ws.length ∧ ws.length ≤ 3) : caseOk ws shut = true := by
  unfold caseOk
  rw [Bool.and_eq_true]
  refine ⟨List.all_eq_true.mpr fun w hw => ?_, ?_⟩
  · rw [Bool.and_eq_true, decide_eq_true_iff, decide_eq_true_iff]
    exact h w hw
  · cases shut with
    | false => obtain ⟨a, b⟩ := h1 rfl; simp [a, b]
    | true => obtain ⟨a, b⟩ := h2 rfl; simp [a, b]
abbrev s_law_any_balls : Stmt := topS 76
theorem sc_law_any_balls : FnScope ["_law_hand_here", "_law_kind"] ["_law_hand_here"] (defScope s_law_any_balls) := ⟨rfl, rfl, rfl, by decide +kernel, rfl, by decide +kernel, by decide +kernel⟩
def spAnyBalls : Sp := sp1 fun x H Q => HandAt H x ∧ ∀ (t a l : Addr) (shut : Bool) (ws : List Int) (H' : Hp), Ex H H' → H' t = some (.tup [.ref a, .ref l, .bl shut]) → H' a = some (.lst (ws.map V.int)) → caseOk ws shut = true → Q (.ref t) H'
theorem ok_law_any_balls (D : Dn c "_law_any_balls" s_law_any_balls ["_law_hand_here"]) (g__law_draw : Kn c CX0 2 "_law_draw" ["_law_hand_here", "_law_many"] spDraw) (g__law_balls : Kn c CX0 4 "_law_balls" ["_law_hand_here", "_law_many", "_law_shut"] spBalls) :
    Kn c CX0 5 "_law_any_balls" ["_law_hand_here"] spAnyBalls := by
  have sc := sc_law_any_balls
  refine D.ok sc len1 (fun f cdv A outer s H vs Q E hr h => ?_)
  refine ⟨_, (pss_cons (ps_set (i := 1) sc.nd rfl (.inl rfl) (pe_kn g__law_draw (hr.mono (by decide)) rfl (pa_cons (pv 0) (pa_cons pe_int pa_nil))))
  (pss_cons (ps_if (pt_cmpR op_eq (pv 1) pe_int (nomark _)) (pss_one (ps_ret (pe_kn g__law_balls (hr.mono (by decide)) rfl (pa_cons (pv 0) (pa_cons pe_int (pa_cons pe_bl pa_nil))))))
    pss_nil)
  (pss_cons (ps_if (pt_cmpR op_eq (pv 1) pe_int (nomark _)) (pss_one (ps_ret (pe_kn g__law_balls (hr.mono (by decide)) rfl (pa_cons (pv 0) (pa_cons pe_int (pa_cons pe_bl pa_nil))))))
    pss_nil)
  (pss_cons (ps_if (pt_cmpR op_eq (pv 1) pe_int (nomark _)) (pss_one (ps_ret (pe_kn g__law_balls (hr.mono (by decide)) rfl (pa_cons (pv 0) (pa_cons pe_int (pa_cons pe_bl pa_nil))))))
    pss_nil)
  (pss_one (ps_ret (pe_kn g__law_balls (hr.mono (by decide)) rfl (pa_cons (pv 0) (pa_cons pe_int (pa_cons pe_bl pa_nil)))))))))), ?_⟩
  obtain ⟨x, rfl, hx, k⟩ := h
  have fin : ∀ (H1 : Hp) (n : Nat) (shut : Bool), Ex H H1 → (shut = false → 2 ≤ n ∧ n ≤ 4) → (shut = true → 1 ≤ n ∧ n ≤ 3) → RetBalls n shut H1 Q := fun H1 n shut e1 a1 a2 t a l ws H' e2 h1 h2 h3 h4 =>
    k t a l shut ws H' (e1.trans e2) h1 h2 (caseOk_of h4 (by rw [h3]; exact a1) (by rw [h3]; exact a2))
  refine ⟨_, rfl, _, _, rfl, hx, _, rfl, by decide, by decide, fun r H1 e1 _ _ => ⟨_, rfl, rfl, _, rfl, ?_⟩⟩
  have hx1 := hx.ex e1
  by_cases h7 : r = 7
  · exact ite_t (decide_eq_true (by rw [h7])) ⟨_, rfl, _, _, _, rfl, hx1, 4, false, rfl, rfl, by decide, fin H1 4 false e1 (fun _ => by decide) (fun z => by cases z)⟩
  refine ite_f (decide_eq_false (fun z => h7 (by injection z))) ⟨_, rfl, rfl, _, rfl, ?_⟩
  by_cases h6 : r = 6
  · exact ite_t (decide_eq_true (by rw [h6])) ⟨_, rfl, _, _, _, rfl, hx1, 3, true, rfl, rfl, by decide, fin H1 3 true e1 (fun z => by cases z) (fun _ => by decide)⟩
  refine ite_f (decide_eq_false (fun z => h6 (by injection z))) ⟨_, rfl, rfl, _, rfl, ?_⟩
  by_cases h5 : r = 5
  · exact ite_t (decide_eq_true (by rw [h5])) ⟨_, rfl, _, _, _, rfl, hx1, 2, true, rfl, rfl, by decide, fin H1 2 true e1 (fun z => by cases z) (fun _ => by decide)⟩
  exact ite_f (decide_eq_false (fun z => h5 (by injection z))) ⟨_, rfl, _, _, _, rfl, hx1, 3, false, rfl, rfl, by decide, fin H1 3 false e1 (fun _ => by decide) (fun z => by cases z)⟩
abbrev s_law_pick : Stmt := topS 77
theorem sc_law_pick : FnScope ["_law_hand_here", "_law_some"] ["_law_hand_here", "_law_some"] (defScope s_law_pick) := ⟨rfl, rfl, rfl, by decide +kernel, rfl, by decide +kernel, by decide +kernel⟩
def spPick : Sp := sp2 fun x y H Q => HandAt H x ∧ ∃ (a : Addr) (xs : List V), y = .ref a ∧ Sx H a xs ∧ 0 < xs.length ∧ xs.length ≤ 1000 ∧ ∀ (i : Nat) (v : V) (H' : Hp), Ex H H' → xs[i]? = some v → Q v H'
theorem ok_law_pick (T : Tx c.mg) (D : Dn c "_law_pick" s_law_pick ["_law_hand_here", "_law_some"]) (g__law_draw : Kn c CX0 2 "_law_draw" ["_law_hand_here", "_law_many"] spDraw) : Kn c CX0 3 "_law_pick" ["_law_hand_here", "_law_some"] spPick := by
  have sc := sc_law_pick
  refine D.ok sc len2 (fun f cdv A outer s H vs Q E hr h => ?_)
  refine ⟨_, (pss_one (ps_ret (pe_ix ix_sq (pv 1) (pe_kn g__law_draw (hr.mono (by decide)) rfl (pa_cons (pv 0) (pa_cons (pe_callB call_len_seq (by rfl) T.len PySem.boot_len (pa_cons (pv 1) pa_nil)) pa_nil))) (fun _ _ => rfl)))), ?_⟩
  obtain ⟨x, _, rfl, hx, a, xs, rfl, hs, h0, h1, k⟩ := h
  refine ⟨_, rfl, _, rfl, _, rfl, a, _, rfl, hs.sq, _, _, rfl, hx, _, rfl, by omega, by omega, fun r H1 e1 r0 r1 => ?_⟩
  have hr : r.toNat < xs.length := by omega
  exact ⟨a, _, _, _, rfl, rfl, (hs.ex e1).sq, at_of (j := r.toNat) (by omega) (List.getElem?_eq_getElem hr), k _ _ _ e1 (List.getElem?_eq_getElem hr)⟩
end
end K74
namespace K74
open PySem PySem.Spec PyProof.Rows L2
/-! ### the special cases, the case -/
def SpI (H : Hp) (v : V) : Prop := ∃ (t tw : Addr) (shut : Bool) (cp o : V) (ws : List Int), v = .ref t ∧ H t = some (.tup [.ref tw, .bl shut, cp, o]) ∧ H tw = some (.tup (ws.map V.int)) ∧ caseOk ws shut = true
theorem SpI.ex {H H' : Hp} {v : V} (h : SpI H v) (e : Ex H H') : SpI H' v := by
  obtain ⟨t, tw, shut, cp, o, ws, h1, h2, h3, h4⟩ := h
  exact ⟨t, tw, shut, cp, o, ws, h1, e _ _ h2, e _ _ h3, h4⟩
/-- a value made without a change of the heap -/
def Plain1 (te : TE) : Prop := ∀ σ H Q, (∀ v, Q v H) → te σ H Q
theorem Plain1.c {v : V} : Plain1 (tC v) := fun _ _ _ q => q v
theorem sp_item {tw : TA} {sh : TE} {c1 c2 o : TE} {σ : L2.St} {H : Hp} {Q : VK} {ws : List Int} {shut : Bool} (hw : ∀ H Q, Q (ws.map V.int) H → tw σ H Q) (hs : ∀ H Q, Q (.bl shut) H → sh σ H Q) (h1 : Plain1 c1) (h2 : Plain1 c2) (ho : Plain1 o) (hl : ws.length ≤ 10) (ok : caseOk ws shut = true)
    (q : ∀ v H', Ex H H' → SpI H' v → Q v H') : tTup (tCons (tTup tw) (tCons sh (tCons (tTup (tCons c1 (tCons c2 tNil))) (tCons o tNil)))) σ H Q := by
  have hsz := sizeLine_eq
  refine hw _ _ ⟨by rw [List.length_map]; omega, fun a ha => hs _ _ (h1 _ _ _ fun v1 => h2 _ _ _ fun v2 => ⟨by show 2 ≤ sizeLine; omega, fun b hb => ho _ _ _ fun v3 => ⟨by show 4 ≤ sizeLine; omega, fun t ht => ?_⟩⟩)⟩
  have ea := Evl.Ex.new (o := .tup (ws.map V.int)) ha
  have eb := Evl.Ex.new (o := .tup [v1, v2]) hb
  have et := Evl.Ex.new (o := .tup [V.ref a, V.bl shut, V.ref b, v3]) ht
  exact q _ _ ((ea.trans eb).trans et) ⟨t, a, shut, .ref b, v3, ws, rfl, upd_same, et _ _ (eb _ _ upd_same), ok⟩
theorem sp_cons {tw : TA} {sh : TE} {c1 c2 o : TE} {rest : TA} {σ : L2.St} {H : Hp} {Q : List V → Hp → Prop} {ws : List Int} {shut : Bool} (hw : ∀ H Q, Q (ws.map V.int) H → tw σ H Q) (hs : ∀ H Q, Q (.bl shut) H → sh σ H Q) (h1 : Plain1 c1) (h2 : Plain1 c2) (ho : Plain1 o) (hl : ws.length ≤ 10) (ok : caseOk ws shut = true)
    (q : ∀ v H', Ex H H' → SpI H' v → rest σ H' fun xs H2 => Q (v :: xs) H2) : tCons (tTup (tCons (tTup tw) (tCons sh (tCons (tTup (tCons c1 (tCons c2 tNil))) (tCons o tNil))))) rest σ H Q := sp_item hw hs h1 h2 ho hl ok q
theorem tcons_of {te : TE} {tr : TA} {σ : L2.St} {H : Hp} {Q : List V → Hp → Prop} (h : te σ H fun x H1 => tr σ H1 fun xs H2 => Q (x :: xs) H2) : tCons te tr σ H Q := h
theorem tlst_of {t : TA} {σ : L2.St} {H : Hp} {Q : VK} (h : t σ H fun xs H1 => xs.length ≤ sizeLine ∧ ∀ p, H1 p = none → Q (.ref p) (upd H1 p (.lst xs))) : tLst t σ H Q := h
section
variable {c : Cn}
abbrev s_law_special : Stmt := topS 78
theorem sc_law_special : FnScope ["_law_hand_here"] ["_law_hand_here"] (defScope s_law_special) := ⟨rfl, rfl, rfl, by decide +kernel, rfl, by decide +kernel, by decide +kernel⟩
def spSpecial : Sp := sp1 fun x H Q => HandAt H x ∧ ∀ (v : V) (H' : Hp), Ex H H' → SpI H' v → Q v H'
theorem ok_law_special (D : Dn c "_law_special" s_law_special ["_law_hand_here"]) (g__law_pick : Kn c CX0 3 "_law_pick" ["_law_hand_here", "_law_some"] spPick) : Kn c CX0 4 "_law_special" ["_law_hand_here"] spSpecial := by
  have sc := sc_law_special
  refine D.ok sc len1 (fun f cdv A outer s H vs Q E hr h => ?_)
  refine ⟨_, (pss_one (ps_ret (pe_kn g__law_pick (hr.mono (by decide)) rfl (pa_cons (pv 0) (pa_cons (pe_lst (pa_cons (pe_tup (pa_cons (pe_tup (pa_cons pe_int (pa_cons pe_int (pa_cons pe_int pa_nil)))) (pa_cons pe_bl (pa_cons (pe_tup (pa_cons pe_int (pa_cons pe_int pa_nil))) (pa_cons pe_int pa_nil))))) (pa_cons (pe_tup (pa_cons (pe_tup (pa_cons pe_int (pa_cons pe_int (pa_cons pe_int pa_nil)))) (pa_cons pe_bl (pa_cons (pe_tup (pa_cons pe_int (pa_cons pe_int pa_nil))) (pa_cons pe_int pa_nil))))) (pa_cons (pe_tup (pa_cons (pe_tup (pa_cons pe_int (pa_cons pe_int (pa_cons pe_int pa_nil)))) (pa_cons pe_bl (pa_cons (pe_tup (pa_cons pe_int (pa_cons pe_int pa_nil))) (pa_cons pe_int pa_nil))))) (pa_cons (pe_tup (pa_cons (pe_tup (pa_cons pe_int (pa_cons pe_int (pa_cons pe_int (pa_cons pe_int pa_nil))))) (pa_cons pe_bl (pa_cons (pe_tup (pa_cons pe_int (pa_cons pe_int pa_nil))) (pa_cons pe_int pa_nil))))) (pa_cons (pe_tup (pa_cons (pe_tup (pa_cons pe_int (pa_cons pe_int (pa_cons pe_int (pa_cons pe_int pa_nil))))) (pa_cons pe_bl (pa_cons (pe_tup (pa_cons pe_int (pa_cons pe_int pa_nil))) (pa_cons pe_int pa_nil))))) (pa_cons (pe_tup (pa_cons (pe_tup (pa_cons pe_int (pa_cons pe_int pa_nil))) (pa_cons pe_bl (pa_cons (pe_tup (pa_cons (pe_un un_neg pe_int) (pa_cons pe_int pa_nil))) (pa_cons pe_int pa_nil))))) (pa_cons (pe_tup (pa_cons (pe_tup (pa_cons pe_int (pa_cons pe_int pa_nil))) (pa_cons pe_bl (pa_cons (pe_tup (pa_cons pe_int (pa_cons (pe_un un_neg pe_int) pa_nil))) (pa_cons pe_int pa_nil))))) (pa_cons (pe_tup (pa_cons (pe_tup (pa_cons pe_int (pa_cons pe_int pa_nil))) (pa_cons pe_bl (pa_cons (pe_tup (pa_cons (pe_un un_neg pe_int) (pa_cons pe_int pa_nil))) (pa_cons pe_int pa_nil))))) (pa_cons (pe_tup (pa_cons (pe_tup (pa_cons pe_int (pa_cons pe_int (pa_cons pe_int pa_nil)))) (pa_cons pe_bl (pa_cons (pe_tup (pa_cons pe_int (pa_cons pe_int pa_nil))) (pa_cons pe_int pa_nil))))) pa_nil)))))))))) pa_nil))))), ?_⟩
  obtain ⟨x, rfl, hx, k⟩ := h
  refine ⟨_, rfl, ?_⟩
  show (tCons (tLst (tCons _ (tCons _ _))) tNil : TA) _ _ _
  refine tcons_of (tlst_of ?_)
  refine sp_cons (ws := [1, 1, 1]) (shut := false) ?_ ?_ ?_ ?_ ?_ ?_ ?_ ?_
  · exact fun _ _ q => q
  · exact fun _ _ q => q
  · exact Plain1.c
  · exact Plain1.c
  · exact Plain1.c
  · decide
  · decide
  intro v1 H1 e1 s1
  refine sp_cons (ws := [2, 1, 3]) (shut := false) ?_ ?_ ?_ ?_ ?_ ?_ ?_ ?_
  · exact fun _ _ q => q
  · exact fun _ _ q => q
  · exact Plain1.c
  · exact Plain1.c
  · exact Plain1.c
  · decide
  · decide
  intro v2 H2 e2 s2
  refine sp_cons (ws := [5, 1, 9]) (shut := false) ?_ ?_ ?_ ?_ ?_ ?_ ?_ ?_
  · exact fun _ _ q => q
  · exact fun _ _ q => q
  · exact Plain1.c
  · exact Plain1.c
  · exact Plain1.c
  · decide
  · decide
  intro v3 H3 e3 s3
  refine sp_cons (ws := [2, 2, 2, 2]) (shut := false) ?_ ?_ ?_ ?_ ?_ ?_ ?_ ?_
  · exact fun _ _ q => q
  · exact fun _ _ q => q
  · exact Plain1.c
  · exact Plain1.c
  · exact Plain1.c
  · decide
  · decide
  intro v4 H4 e4 s4
  refine sp_cons (ws := [6, 2, 1, 3]) (shut := false) ?_ ?_ ?_ ?_ ?_ ?_ ?_ ?_
  · exact fun _ _ q => q
  · exact fun _ _ q => q
  · exact Plain1.c
  · exact Plain1.c
  · exact Plain1.c
  · decide
  · decide
  intro v5 H5 e5 s5
  refine sp_cons (ws := [1, 1]) (shut := true) ?_ ?_ ?_ ?_ ?_ ?_ ?_ ?_
  · exact fun _ _ q => q
  · exact fun _ _ q => q
  · exact (fun _ _ _ q => ⟨_, rfl, q _⟩)
  · exact Plain1.c
  · exact Plain1.c
  · decide
  · decide
  intro v6 H6 e6 s6
  refine sp_cons (ws := [1, 3]) (shut := true) ?_ ?_ ?_ ?_ ?_ ?_ ?_ ?_
  · exact fun _ _ q => q
  · exact fun _ _ q => q
  · exact Plain1.c
  · exact (fun _ _ _ q => ⟨_, rfl, q _⟩)
  · exact Plain1.c
  · decide
  · decide
  intro v7 H7 e7 s7
  refine sp_cons (ws := [3, 1]) (shut := true) ?_ ?_ ?_ ?_ ?_ ?_ ?_ ?_
  · exact fun _ _ q => q
  · exact fun _ _ q => q
  · exact (fun _ _ _ q => ⟨_, rfl, q _⟩)
  · exact Plain1.c
  · exact Plain1.c
  · decide
  · decide
  intro v8 H8 e8 s8
  refine sp_cons (ws := [3, 3, 3]) (shut := true) ?_ ?_ ?_ ?_ ?_ ?_ ?_ ?_
  · exact fun _ _ q => q
  · exact fun _ _ q => q
  · exact Plain1.c
  · exact Plain1.c
  · exact Plain1.c
  · decide
  · decide
  intro v9 H9 e9 s9
  refine ⟨(by show 9 ≤ sizeLine; decide), fun L hL => ?_⟩
  have eL := Evl.Ex.new (o := .lst [v1, v2, v3, v4, v5, v6, v7, v8, v9]) hL
  have E9 := ((((((((e1.trans e2).trans e3).trans e4).trans e5).trans e6).trans e7).trans e8).trans e9).trans eL
  refine ⟨_, _, rfl, hx.ex E9, L, _, rfl, .inl upd_same, by show 0 < 9; decide, by show 9 ≤ 1000; decide, fun i v H' e h => k v H' (E9.trans e) ?_⟩
  have all : ∀ z ∈ [v1, v2, v3, v4, v5, v6, v7, v8, v9], SpI (upd H9 L (.lst [v1, v2, v3, v4, v5, v6, v7, v8, v9])) z := by
    intro z hz
    refine SpI.ex ?_ eL
    have f8 := e9
    have f7 := e8.trans f8
    have f6 := e7.trans f7
    have f5 := e6.trans f6
    have f4 := e5.trans f5
    have f3 := e4.trans f4
    have f2 := e3.trans f3
    have f1 := e2.trans f2
    simp only [List.mem_cons, List.not_mem_nil, or_false] at hz
    rcases hz with h | h | h | h | h | h | h | h | h
    · rw [h]; exact s1.ex f1
    · rw [h]; exact s2.ex f2
    · rw [h]; exact s3.ex f3
    · rw [h]; exact s4.ex f4
    · rw [h]; exact s5.ex f5
    · rw [h]; exact s6.ex f6
    · rw [h]; exact s7.ex f7
    · rw [h]; exact s8.ex f8
    · rw [h]; exact s9
  exact (all v (List.mem_of_getElem? h)).ex e
end
end K74
namespace K74
open PySem PySem.Spec PyProof.Rows L2
/-! ### the case -/
def pairOk (n : Nat) (shut : Bool) : Bool := match shut with | false => decide (2 ≤ n) && decide (n ≤ 4) | true => decide (1 ≤ n) && decide (n ≤ 3)
def SpP (H : Hp) (v : V) : Prop := ∃ (t : Addr) (n : Nat) (shut : Bool), v = .ref t ∧ H t = some (.tup [.int (n : Int), .bl shut]) ∧ pairOk n shut = true
theorem SpP.ex {H H' : Hp} {v : V} (h : SpP H v) (e : Ex H H') : SpP H' v := by
  obtain ⟨t, n, shut, h1, h2, h3⟩ := h
  exact ⟨t, n, shut, h1, e _ _ h2, h3⟩
theorem pr_cons {n1 sh : TE} {rest : TA} {σ : L2.St} {H : Hp} {Q : List V → Hp → Prop} {n : Nat} {shut : Bool} (hw : ∀ H Q, Q (.int (n : Int)) H → n1 σ H Q) (hs : ∀ H Q, Q (.bl shut) H → sh σ H Q) (ok : pairOk n shut = true)
    (q : ∀ v H', Ex H H' → SpP H' v → rest σ H' fun xs H2 => Q (v :: xs) H2) : tCons (tTup (tCons n1 (tCons sh tNil))) rest σ H Q := by
  have hsz := sizeLine_eq
  refine hw _ _ (hs _ _ ⟨by show 2 ≤ sizeLine; omega, fun t ht => q _ _ (Evl.Ex.new ht) ⟨t, n, shut, rfl, upd_same, ok⟩⟩)
section
variable {c : Cn}
abbrev s_law_case : Stmt := topS 79
theorem sc_law_case : FnScope ["_law_hand_here", "_law_way", "_law_balls_here", "_law_many", "_law_shut", "_law_weights", "_law_couple", "_law_often"] ["_law_hand_here"] (defScope s_law_case) := ⟨rfl, rfl, rfl, by decide +kernel, rfl, by decide +kernel, by decide +kernel⟩
def spCase : Sp := sp1 fun x H Q => HandAt H x ∧ ∀ (p a : Addr) (shut : Bool) (ws : List Int) (H' : Hp), Ex H H' → H' p = some (.lst [.ref a, .bl shut]) → H' a = some (.lst (ws.map V.int)) → caseOk ws shut = true → Q (.ref p) H'
theorem ok_law_case (T : Tx c.mg) (D : Dn c "_law_case" s_law_case ["_law_hand_here"]) (g__law_draw : Kn c CX0 2 "_law_draw" ["_law_hand_here", "_law_many"] spDraw) (g__law_any_balls : Kn c CX0 5 "_law_any_balls" ["_law_hand_here"] spAnyBalls) (g__law_pick : Kn c CX0 3 "_law_pick" ["_law_hand_here", "_law_some"] spPick) (g__law_special : Kn c CX0 4 "_law_special" ["_law_hand_here"] spSpecial) :
    Kn c CX0 6 "_law_case" ["_law_hand_here"] spCase := by
  have sc := sc_law_case
  refine D.ok sc len1 (fun f cdv A outer s H vs Q E hr h => ?_)
  refine ⟨_, (pss_cons (ps_set (i := 1) sc.nd rfl (.inl rfl) (pe_kn g__law_draw (hr.mono (by decide)) rfl (pa_cons (pv 0) (pa_cons pe_int pa_nil))))
    (pss_cons (ps_if (pt_cmpR op_eq (pv 1) pe_int (nomark _)) (pss_cons (ps_set (i := 2) sc.nd rfl (.inl rfl) (pe_kn g__law_any_balls (hr.mono (by decide)) rfl (pa_cons (pv 0) pa_nil)))
      (pss_one (ps_ret (pe_lst (pa_cons (pe_callTy call_list_of (by rfl) T.list (by decide +kernel) (pa_cons (pe_ix ix_sq (pv 2) pe_int (fun _ _ => rfl)) pa_nil)) (pa_cons (pe_ix ix_sq (pv 2) pe_int (fun _ _ => rfl)) pa_nil))))))
      pss_nil)
    (pss_cons (ps_if (pt_cmpR op_eq (pv 1) pe_int (nomark _)) (pss_cons (ps_asg (pe_kn g__law_pick (hr.mono (by decide)) rfl (pa_cons (pv 0) (pa_cons (pe_lst (pa_cons (pe_tup (pa_cons pe_int (pa_cons pe_bl pa_nil))) (pa_cons (pe_tup (pa_cons pe_int (pa_cons pe_bl pa_nil))) (pa_cons (pe_tup (pa_cons pe_int (pa_cons pe_bl pa_nil))) (pa_cons (pe_tup (pa_cons pe_int (pa_cons pe_bl pa_nil))) (pa_cons (pe_tup (pa_cons pe_int (pa_cons pe_bl pa_nil))) (pa_cons (pe_tup (pa_cons pe_int (pa_cons pe_bl pa_nil))) pa_nil))))))) pa_nil))) (pg_tup rfl (pgs_cons (pg_name (i := 3) sc.nd rfl (.inl rfl)) (pgs_cons (pg_name (i := 4) sc.nd rfl (.inl rfl)) pgs_nil))))
      (pss_one (ps_ret (pe_lst (pa_cons (pe_op op_rep (pe_lst (pa_cons (pe_op op_add pe_int (pe_kn g__law_draw (hr.mono (by decide)) rfl (pa_cons (pv 0) (pa_cons pe_int pa_nil)))) pa_nil)) (pv 3)) (pa_cons (pv 4) pa_nil))))))
      pss_nil)
    (pss_cons (ps_asg (pe_kn g__law_special (hr.mono (by decide)) rfl (pa_cons (pv 0) pa_nil)) (pg_tup rfl (pgs_cons (pg_name (i := 5) sc.nd rfl (.inl rfl)) (pgs_cons (pg_name (i := 4) sc.nd rfl (.inl rfl)) (pgs_cons (pg_name (i := 6) sc.nd rfl (.inl rfl)) (pgs_cons (pg_name (i := 7) sc.nd rfl (.inl rfl)) pgs_nil))))))
    (pss_one (ps_ret (pe_lst (pa_cons (pe_callTy call_list_of (by rfl) T.list (by decide +kernel) (pa_cons (pv 5) pa_nil)) (pa_cons (pv 4) pa_nil))))))))), ?_⟩
  obtain ⟨x, rfl, hx, k⟩ := h
  refine ⟨_, rfl, _, _, rfl, hx, _, rfl, by decide, by decide, fun way H1 e1 _ _ => ⟨_, rfl, rfl, _, rfl, ?_⟩⟩
  have hx1 := hx.ex e1
  by_cases h0 : way = 0
  · refine ite_t (decide_eq_true (by rw [h0])) ⟨_, rfl, _, rfl, hx1, fun t a l shut ws H2 e2 ht ha ok => ?_⟩
    have E2 := e1.trans e2
    refine ⟨_, rfl, t, _, _, _, rfl, rfl, .t ht, at_of (j := 0) rfl rfl, a, _, rfl, .inl (SqL.of ha), fun p hp => ?_⟩
    have e3 := Evl.Ex.new (o := .lst (ws.map V.int)) hp
    refine ⟨_, rfl, t, _, _, _, rfl, rfl, .t (e3 _ _ ht), at_of (j := 2) rfl rfl, (by show 2 ≤ sizeLine; decide), fun p2 hp2 => ?_⟩
    have e4 := Evl.Ex.new (o := .lst [V.ref p, V.bl shut]) hp2
    exact k p2 p shut ws _ ((E2.trans e3).trans e4) upd_same (e4 _ _ upd_same) ok
  refine ite_f (decide_eq_false (fun z => h0 (by injection z))) ⟨_, rfl, rfl, _, rfl, ?_⟩
  by_cases h1 : way = 1
  · refine ite_t (decide_eq_true (by rw [h1])) ?_
    refine ⟨_, rfl, ?_⟩
    show (tCons (tLst (tCons _ (tCons _ _))) tNil : TA) _ _ _
    refine tcons_of (tlst_of ?_)
    refine pr_cons (n := 3) (shut := false) ?_ ?_ (by decide) ?_
    · exact fun _ _ q => q
    · exact fun _ _ q => q
    intro v1 G1 f1 s1
    refine pr_cons (n := 2) (shut := true) ?_ ?_ (by decide) ?_
    · exact fun _ _ q => q
    · exact fun _ _ q => q
    intro v2 G2 f2 s2
    refine pr_cons (n := 4) (shut := false) ?_ ?_ (by decide) ?_
    · exact fun _ _ q => q
    · exact fun _ _ q => q
    intro v3 G3 f3 s3
    refine pr_cons (n := 3) (shut := true) ?_ ?_ (by decide) ?_
    · exact fun _ _ q => q
    · exact fun _ _ q => q
    intro v4 G4 f4 s4
    refine pr_cons (n := 2) (shut := false) ?_ ?_ (by decide) ?_
    · exact fun _ _ q => q
    · exact fun _ _ q => q
    intro v5 G5 f5 s5
    refine pr_cons (n := 1) (shut := true) ?_ ?_ (by decide) ?_
    · exact fun _ _ q => q
    · exact fun _ _ q => q
    intro v6 G6 f6 s6
    refine ⟨(by show 6 ≤ sizeLine; decide), fun L hL => ?_⟩
    have eL := Evl.Ex.new (o := .lst [v1, v2, v3, v4, v5, v6]) hL
    have E6 := ((((((e1.trans f1).trans f2).trans f3).trans f4).trans f5).trans f6).trans eL
    refine ⟨_, _, rfl, hx.ex E6, L, _, rfl, .inl upd_same, by show 0 < 6; decide, by show 6 ≤ 1000; decide, fun i v H' e h => ?_⟩
    have all : ∀ z ∈ [v1, v2, v3, v4, v5, v6], SpP (upd G6 L (.lst [v1, v2, v3, v4, v5, v6])) z := by
      intro z hz
      refine SpP.ex ?_ eL
      have g5 := f6
      have g4 := f5.trans g5
      have g3 := f4.trans g4
      have g2 := f3.trans g3
      have g1 := f2.trans g2
      simp only [List.mem_cons, List.not_mem_nil, or_false] at hz
      rcases hz with h | h | h | h | h | h
      · rw [h]; exact s1.ex g1
      · rw [h]; exact s2.ex g2
      · rw [h]; exact s3.ex g3
      · rw [h]; exact s4.ex g4
      · rw [h]; exact s5.ex g5
      · rw [h]; exact s6
    obtain ⟨t, n, shut, rfl, ht, ok⟩ := (all v (List.mem_of_getElem? h)).ex e
    have E7 := E6.trans e
    refine ⟨t, _, rfl, SqT.of ht, rfl, _, _, rfl, _, _, rfl, rfl, ?_⟩
    refine ⟨_, rfl, _, _, rfl, hx.ex E7, _, rfl, by decide, by decide, fun r H8 e8 r0 r1 => ⟨_, _, rfl, rfl, (by show 1 ≤ sizeLine; decide), fun p hp => ?_⟩⟩
    have e9 := Evl.Ex.new (o := .lst [V.int (1 + r)]) hp
    have hn : n ≤ 4 := by
      unfold pairOk at ok
      cases shut <;> simp at ok <;> omega
    have hsz := sizeLine_eq
    refine ⟨_, rfl, p, _, _, rfl, rfl, upd_same, by omega, by omega, by show 1 * _ ≤ sizeLine; omega, fun p3 hp3 => ?_⟩
    have e10 := Evl.Ex.new (o := .lst (List.replicate (n : Int).toNat [V.int (1 + r)]).flatten) hp3
    refine ⟨_, rfl, (by show 2 ≤ sizeLine; decide), fun p2 hp2 => ?_⟩
    have e11 := Evl.Ex.new (o := .lst [V.ref p3, V.bl shut]) hp2
    have hrep : ∀ m : Nat, (List.replicate m [V.int (1 + r)]).flatten = (List.replicate m (1 + r)).map V.int := by
      intro m
      induction m with
      | zero => rfl
      | succ m ih => rw [List.replicate_succ, List.replicate_succ, List.flatten_cons, ih]; rfl
    refine k p2 p3 shut (List.replicate n (1 + r)) _ ((((E7.trans e8).trans e9).trans e10).trans e11) upd_same (e11 _ _ (upd_same.trans ?_)) ?_
    · rw [hrep, Int.toNat_natCast]
    · refine caseOk_of (fun w hw => ?_) (fun z => ?_) (fun z => ?_)
      · have := List.eq_of_mem_replicate hw
        omega
      · subst z
        rw [List.length_replicate]
        simpa [pairOk] using ok
      · subst z
        rw [List.length_replicate]
        simpa [pairOk] using ok
  · refine ite_f (decide_eq_false (fun z => h1 (by injection z))) ?_
    refine ⟨_, rfl, _, rfl, hx1, fun v H2 e2 hv => ?_⟩
    obtain ⟨t, tw, shut, cp, o, ws, rfl, ht, htw, ok⟩ := hv
    have E2 := e1.trans e2
    refine ⟨t, _, rfl, SqT.of ht, rfl, _, _, rfl, _, _, rfl, _, _, rfl, _, _, rfl, rfl, ?_⟩
    refine ⟨_, rfl, tw, _, rfl, .inr (SqT.of htw), fun p hp => ?_⟩
    have e3 := Evl.Ex.new (o := .lst (ws.map V.int)) hp
    refine ⟨_, rfl, (by show 2 ≤ sizeLine; decide), fun p2 hp2 => ?_⟩
    have e4 := Evl.Ex.new (o := .lst [V.ref p, V.bl shut]) hp2
    exact k p2 p shut ws _ ((E2.trans e3).trans e4) upd_same (e4 _ _ upd_same) ok
end
end K74
namespace K74
open PySem PySem.Spec PyProof.Rows L2
/-! ### by hand -/
def handT (ws : List Int) (shut : Bool) (i : Nat) : Int × Int :=
  if shut = true ∧ i = 0 then (4 * ws.getD 1 0, ws.getD 0 0 + ws.getD 1 0)
  else let k := if shut = true then i - 1 else i
    (4 * ws.getD k 0 * ws.getD (k + 2) 0, (ws.getD k 0 + ws.getD (k + 1) 0) * (ws.getD (k + 1) 0 + ws.getD (k + 2) 0))
def handO (z : Int × Int) : Option Int := if z.1 = 1 * z.2 then some 3 else if z.1 = 2 * z.2 then some 4 else if z.1 = 3 * z.2 then some 6 else none
def handR (ws : List Int) (shut : Bool) (i : Nat) : Option Int := handO (handT ws shut i)
section
variable {c : Cn}
abbrev s_law_by_hand : Stmt := topS 80
theorem sc_law_by_hand : FnScope ["_law_weights", "_law_shut", "_law_at", "_law_top", "_law_bottom", "_law_k", "_law_ratio", "_law_often"] ["_law_weights", "_law_shut", "_law_at"] (defScope s_law_by_hand) := ⟨rfl, rfl, rfl, by decide +kernel, rfl, by decide +kernel, by decide +kernel⟩
def spByHand : Sp := sp3 fun x y z H Q => ∃ (a : Addr) (ws : List Int) (shut : Bool) (i : Nat), x = .ref a ∧ H a = some (.lst (ws.map V.int)) ∧ y = .bl shut ∧ z = .int (i : Int) ∧ (∀ w ∈ ws, 1 ≤ w ∧ w ≤ 9) ∧ (if shut = true then i + 1 < ws.length else i + 2 < ws.length) ∧ RetV (optI (handR ws shut i)) H Q
theorem ok_law_by_hand (D : Dn c "_law_by_hand" s_law_by_hand ["_law_weights", "_law_shut", "_law_at"]) : Kn c CX0 1 "_law_by_hand" ["_law_weights", "_law_shut", "_law_at"] spByHand := by
  have sc := sc_law_by_hand
  refine D.ok sc len3 (fun f cdv A outer s H vs Q E hr h => ?_)
  refine ⟨_, (pss_cons (ps_if (PW.pt (pw_and (pt_val (pv 1)) (pw_and1 (pt_cmpR op_eq (pv 2) pe_int (nomark _))))) (pss_one (ps_par (i := 3) (j := 4) rfl sc.nd rfl rfl (by decide) rfl rfl (pa_cons (pe_op op_mulW pe_int (pe_ix ix_sq (pv 0) pe_int (fun _ _ => rfl))) (pa_cons (pe_op op_add (pe_ix ix_sq (pv 0) pe_int (fun _ _ => rfl)) (pe_ix ix_sq (pv 0) pe_int (fun _ _ => rfl))) pa_nil)) (by rfl)))
    (pss_cons (ps_set (i := 5) sc.nd rfl (.inl rfl) (pe_ifExp (pt_val (pv 1)) (pe_op op_sub (pv 2) pe_int) (pv 2)))
    (pss_cons (ps_set (i := 3) sc.nd rfl (.inl rfl) (pe_op op_mulW (pe_op op_mulW pe_int (pe_ix ix_sq (pv 0) (pv 5) (fun _ _ => rfl))) (pe_ix ix_sq (pv 0) (pe_op op_add (pv 5) pe_int) (fun _ _ => rfl))))
    (pss_one (ps_set (i := 4) sc.nd rfl (.inl rfl) (pe_op op_mulW (pe_op op_add (pe_ix ix_sq (pv 0) (pv 5) (fun _ _ => rfl)) (pe_ix ix_sq (pv 0) (pe_op op_add (pv 5) pe_int) (fun _ _ => rfl))) (pe_op op_add (pe_ix ix_sq (pv 0) (pe_op op_add (pv 5) pe_int) (fun _ _ => rfl)) (pe_ix ix_sq (pv 0) (pe_op op_add (pv 5) pe_int) (fun _ _ => rfl)))))))))
  (pss_cons (ps_for PassesOwn.never rfl (pi_sq (pe_lst (pa_cons (pe_tup (pa_cons pe_int (pa_cons pe_int pa_nil))) (pa_cons (pe_tup (pa_cons pe_int (pa_cons pe_int pa_nil))) (pa_cons (pe_tup (pa_cons pe_int (pa_cons pe_int pa_nil))) pa_nil))))) (pg_tup rfl (pgs_cons (pg_name (i := 6) sc.nd rfl (.inl rfl)) (pgs_cons (pg_name (i := 7) sc.nd rfl (.inl rfl)) pgs_nil)))
    (pss_one (ps_if (pt_cmpR op_eq (pv 3) (pe_op op_mulW (pv 6) (pv 4)) (nomark _)) (pss_one (ps_ret (pv 7)))
      pss_nil)))
  (pss_one (ps_ret pe_non)))), ?_⟩
  obtain ⟨_, _, _, rfl, a, ws, shut, i, rfl, ha, rfl, rfl, hw, hi, k⟩ := h
  have wb : ∀ j, j < ws.length → 1 ≤ ws.getD j 0 ∧ ws.getD j 0 ≤ 9 := fun j hj => hw _ (mem_getD hj 0)
  suffices rest : ∀ (top bot : Int) (y5 : Option V), handT ws shut i = (top, bot) → bot.natAbs < 2 ^ 20 → (tSeq _ _ : TS) { nx := fun _ H' => Q .non H', rt := Q } [some (.ref a), some (.bl shut), some (.int (i : Int)), some (.int top), some (.int bot), y5, none, none] H by
    refine ⟨_, rfl, shut, rfl, ?_⟩
    suffices els : ∀ (kk : Nat), kk + 2 < ws.length → handT ws shut i = (4 * ws.getD kk 0 * ws.getD (kk + 2) 0, (ws.getD kk 0 + ws.getD (kk + 1) 0) * (ws.getD (kk + 1) 0 + ws.getD (kk + 2) 0)) → (tSeq _ _ : TS) { nx := (tSeq _ _ : TS) { nx := fun _ H' => Q .non H', rt := Q }, rt := Q } [some (.ref a), some (.bl shut), some (.int (i : Int)), none, none, some (.int (kk : Int)), none, none] H by
      cases shut with
      | false =>
        rw [if_neg (by decide)] at hi
        refine ite_f rfl (ite_f rfl ⟨_, rfl, false, rfl, ite_f rfl ⟨_, rfl, els i hi ?_⟩⟩)
        unfold handT
        rw [if_neg (by simp), if_neg (by decide)]
      | true =>
        rw [if_pos rfl] at hi
        refine ite_t rfl ⟨_, rfl, rfl, _, rfl, ?_⟩
        cases i with
        | zero =>
          obtain ⟨a0, a1⟩ := wb 0 (by omega)
          obtain ⟨b0, b1⟩ := wb 1 (by omega)
          refine ite_t (decide_eq_true rfl) ⟨_, rfl, a, _, _, _, rfl, rfl, .l ha, at_of (j := 1) rfl (ints_at0 (by omega)), _, _, rfl, rfl, wide_mul (a := 20) (b := 20) (by decide) (by omega) (by decide) (by decide) (by decide), _, rfl, a, _, _, _, rfl, rfl, .l ha, at_of (j := 0) rfl (ints_at0 (by omega)), _, rfl, a, _, _, _, rfl, rfl, .l ha, at_of (j := 1) rfl (ints_at0 (by omega)), _, _, rfl, rfl, _, _, rfl, rest _ _ _ rfl (by omega)⟩
        | succ i =>
          refine ite_f (decide_eq_false (fun z => by injection z with z; omega)) ⟨_, rfl, true, rfl, ite_t rfl ⟨_, rfl, _, _, rfl, rfl, ?_⟩⟩
          have ek : ((i + 1 : Nat) : Int) - 1 = (i : Int) := by omega
          have h := els i (by omega) (by unfold handT; rw [if_neg (by simp), if_pos rfl]; rfl)
          rw [← ek] at h
          exact h
    intro kk hk hT
    obtain ⟨a0, a1⟩ := wb kk (by omega)
    obtain ⟨b0, b1⟩ := wb (kk + 1) (by omega)
    obtain ⟨c0, c1⟩ := wb (kk + 2) (by omega)
    have i0 := ints_at0 (ws := ws) (i := kk) (by omega)
    have i1 := ints_at0 (ws := ws) (i := kk + 1) (by omega)
    have i2 := ints_at0 (ws := ws) (i := kk + 2) (by omega)
    generalize ws.getD kk 0 = x0 at *
    generalize ws.getD (kk + 1) 0 = x1 at *
    generalize ws.getD (kk + 2) 0 = x2 at *
    refine ⟨_, rfl, _, rfl, a, _, _, _, rfl, rfl, .l ha, at_of (j := kk) rfl i0, _, _, rfl, rfl, wide_mul (a := 20) (b := 20) (by decide) (by omega) (by decide) (by decide) (by decide), _, rfl, _, rfl, _, _, rfl, rfl, a, _, _, _, rfl, rfl, .l ha, at_of (j := kk + 2) (by omega) i2, _, _, rfl, rfl, wide_mul (a := 20) (b := 20) (by omega) (by omega) (by decide) (by decide) (by decide), ?_⟩
    refine ⟨_, rfl, _, rfl, a, _, _, _, rfl, rfl, .l ha, at_of (j := kk) rfl i0, _, rfl, _, rfl, _, _, rfl, rfl, a, _, _, _, rfl, rfl, .l ha, at_of (j := kk + 1) (by omega) i1, _, _, rfl, rfl, _, rfl, _, rfl, _, _, rfl, rfl, a, _, _, _, rfl, rfl, .l ha, at_of (j := kk + 1) (by omega) i1, _, rfl, _, rfl, _, _, rfl, rfl, a, _, _, _, rfl, rfl, .l ha, at_of (j := kk + 2) (by omega) i2, _, _, rfl, rfl, _, _, rfl, rfl, wide_mul (a := 20) (b := 20) (by omega) (by omega) (by decide) (by decide) (by decide), rest _ _ _ hT ?_⟩
    refine Nat.lt_of_lt_of_le (wide_lt (a := 6) (b := 6) (by omega) (by omega)) (by decide)
  intro top bot y5 hT hb
  have hR : handR ws shut i = handO (top, bot) := by unfold handR; rw [hT]
  rw [hR] at k
  refine ⟨(by show 2 ≤ sizeLine; decide), fun p1 h1 => ⟨(by show 2 ≤ sizeLine; decide), fun p2 h2 => ⟨(by show 2 ≤ sizeLine; decide), fun p3 h3 => ⟨(by show 3 ≤ sizeLine; decide), fun L hL => ?_⟩⟩⟩⟩
  have e1 := Evl.Ex.new (o := .tup [V.int 1, V.int 3]) h1
  have e2 := Evl.Ex.new (o := .tup [V.int 2, V.int 4]) h2
  have e3 := Evl.Ex.new (o := .tup [V.int 3, V.int 6]) h3
  have e4 := Evl.Ex.new (o := .lst [V.ref p1, V.ref p2, V.ref p3]) hL
  have g3 := e4 _ _ (upd_same (o := .tup [V.int 3, V.int 6]))
  have g2 := e4 _ _ (e3 _ _ (upd_same (o := .tup [V.int 2, V.int 4])))
  have g1 := e4 _ _ (e3 _ _ (e2 _ _ (upd_same (o := .tup [V.int 1, V.int 3]))))
  have gL : (upd (upd (upd (upd H p1 (.tup [V.int 1, V.int 3])) p2 (.tup [V.int 2, V.int 4])) p3 (.tup [V.int 3, V.int 6])) L (.lst [V.ref p1, V.ref p2, V.ref p3])) L = some (.lst [V.ref p1, V.ref p2, V.ref p3]) := upd_same
  have E4 := ((e1.trans e2).trans e3).trans e4
  generalize upd (upd (upd (upd H p1 (.tup [V.int 1, V.int 3])) p2 (.tup [V.int 2, V.int 4])) p3 (.tup [V.int 3, V.int 6])) L (.lst [V.ref p1, V.ref p2, V.ref p3]) = H1 at *
  refine iSq_go (.inl (SqL.of gL)) fun J w => ?_
  refine for_it w (fun j σ' H' => ∃ y6 y7 : Option V, σ' = [some (.ref a), some (.bl shut), some (.int (i : Int)), some (.int top), some (.int bot), y5, y6, y7] ∧ Ex H1 H' ∧ ∀ m : Nat, m < j → top ≠ ((m : Int) + 1) * bot)
    ⟨none, none, rfl, Ex.rfl, fun m hm => absurd hm (Nat.not_lt_zero _)⟩ (fun j σ2 H2 _ p => by obtain ⟨_, _, _, p, _⟩ := p; exact p) (fun j z σ2 H2 H3 hj p y => ?_) (fun σ2 H2 p => ?_)
  · obtain ⟨y6, y7, rfl, e, hno⟩ := p
    obtain ⟨rfl, hz⟩ := y
    obtain ⟨p, rfl, hp⟩ : ∃ p, z = .ref p ∧ H1 p = some (.tup [V.int ((j : Int) + 1), optI (some (if j = 0 then 3 else if j = 1 then 4 else 6))]) := by
      match j, hj, hz with
      | 0, _, hz => cases hz; exact ⟨p1, rfl, g1⟩
      | 1, _, hz => cases hz; exact ⟨p2, rfl, g2⟩
      | 2, _, hz => cases hz; exact ⟨p3, rfl, g3⟩
      | j + 3, hj, _ => exact absurd hj (by show ¬ (j + 3 < 3); omega)
    refine ⟨p, _, rfl, SqT.of (e _ _ hp), rfl, _, _, rfl, _, _, rfl, rfl, ?_⟩
    have hj3 : j < 3 := hj
    refine ⟨_, rfl, _, rfl, _, rfl, _, _, rfl, rfl, wide_mul (a := 20) (b := 20) (by omega) hb (by decide) (by decide) (by decide), rfl, _, rfl, ?_⟩
    by_cases ht : top = ((j : Int) + 1) * bot
    · refine ite_t (decide_eq_true (by show V.int top = V.int _; rw [ht])) ⟨_, rfl, ?_⟩
      have hh : handO (top, bot) = some (if j = 0 then 3 else if j = 1 then 4 else 6) := by
        unfold handO
        match j, hj3, ht, hno with
        | 0, _, ht, _ => exact if_pos (by show top = 1 * bot; rw [ht]; rfl)
        | 1, _, ht, hno => exact (if_neg (fun z => hno 0 (by decide) z)).trans (if_pos ht)
        | 2, _, ht, hno => exact (if_neg (fun z => hno 0 (by decide) z)).trans ((if_neg (fun z => hno 1 (by decide) z)).trans (if_pos ht))
        | j + 3, hj, _, _ => omega
      rw [hh] at k
      exact k _ (E4.trans e)
    · refine ite_f (decide_eq_false (fun z => ht (by injection z))) ⟨_, _, rfl, e, fun m hm => ?_⟩
      by_cases hmj : m = j
      · rw [hmj]; exact ht
      · exact hno m (by omega)
  · obtain ⟨y6, y7, rfl, e, hno⟩ := p
    have hh : handO (top, bot) = none := by
      unfold handO
      exact (if_neg (fun z => hno 0 (by show 0 < 3; decide) z)).trans ((if_neg (fun z => hno 1 (by show 1 < 3; decide) z)).trans (if_neg (fun z => hno 2 (by show 2 < 3; decide) z)))
    rw [hh] at k
    exact k _ (E4.trans e)
end
end K74
namespace K74
open PySem PySem.Spec PyProof.Rows L2
/-! ### not closed -/
section
variable {c : Cn} {C CN : Addr}
abbrev s_law_not_closed : Stmt := topS 81
theorem sc_law_not_closed : FnScope ["_law_row", "e"] ["_law_row"] (defScope s_law_not_closed) := ⟨rfl, rfl, rfl, by decide +kernel, rfl, by decide +kernel, by decide +kernel⟩
def spNotClosed (C : Addr) : Sp := sp1 fun x H Q => ∃ ws v wall m, RowAt C H x ws v wall ∧ Rw ws v wall m ∧ (none ∉ ordersR ws wall → (∃ f e, m + f ≤ 21 ∧ endR ws wall f v = some e) ∧ RetV .non H Q) ∧ ∀ i, idxN (ordersR ws wall) 0 = some i → RetV (.int (i : Int)) H Q
theorem ok_law_not_closed (N : NcC c CN) (D : Dn c "_law_not_closed" s_law_not_closed ["_law_row"]) (g_closed_end : Kn c (L2.CX c.P c.w) 9 "closed_end" ["row"] (spEnd C CN)) : Kn c CX0 10 "_law_not_closed" ["_law_row"] (spNotClosed C) := by
  have sc := sc_law_not_closed
  obtain ⟨fE, fdE, F, hm, hk, hb⟩ := g_closed_end.ex
  refine D.ok sc len1 (fun f cdv A outer s H vs Q E hr h => ?_)
  refine ⟨_, (pss_cons (ps_try_as (i := 1) (tb := fun W => _) (ts := fun a cls d => _) (Wout := fun _ _ _ _ => False) rfl rfl sc.nd rfl rfl ⟨rfl, by decide, .inl N.g⟩ takes0
      (fun W pn xe tk _ => pss_one (ps_expr (pe_callS F (hr.mono (by decide)) rfl hm hk hb (fun σ => passAt tk σ) (pa_cons (pv 0) pa_nil))))
      (fun a oe cls d pn hz hf => pss_one (ps_ret (pe_xf N.x N.no hz hf (pv 1)))))
  (pss_one (ps_ret pe_non))), ?_⟩
  obtain ⟨x, rfl, ws, v, wall, m, hrow, R, k1, k2⟩ := h
  refine ⟨_, rfl, x, ws, v, wall, m, rfl, hrow, R, fun hcl => ?_, fun i hi d H' e hd => ⟨true, N.te, fun _ a ha => ?_, fun q => Bool.noConfusion q⟩⟩
  · obtain ⟨⟨f, e, hf, he⟩, kn⟩ := k1 hcl
    exact ⟨f, e, hf, he, fun v' H' e1 _ => kn H' e1⟩
  · exact ⟨_, rfl, rfl, rfl, d, _, _, rfl, hd, rfl, k2 i hi _ e⟩
end
end K74
namespace K74
/-! what a closed row must keep -/
structure CF (ws : List Int) (v : List Rat) (wall : Bool) (words : List (List Int)) (rs : List (List Int)) (e : List Rat) (J : Nat → List Rat → Prop) : Prop where
  ro : RtsOk ws wall rs
  few : rs.length ≤ 12
  last : ∃ w, words.getLast? = some w ∧ w.length = rs.length
  first : ∃ w, words[0]? = some w ∧ w.length = 0
  ok : ∀ w ∈ words, w.length ≤ 12 ∧ ∀ p ∈ w, p ∈ pairsOf ws.length wall
  many : words.length ≤ 100
  turn : countR ws.length wall (v.map fun q => 0 - q) rs ≤ rs.length
  cnt : countR ws.length wall v rs ≤ rs.length
  endd : endR ws wall (countR ws.length wall v rs + 1) v = some e
  found : ∃ w r, words.filter (fun w => decide (afterR ws v w = e)) = w :: r ∧ w.length = countR ws.length wall v rs ∧ firstNot ws v w 0 = none
  j0 : J 0 v
  je : ∀ j v', J j v' → comingR ws.length wall v' = [] → v' = e ∧ j = countR ws.length wall v rs
  js : ∀ j v' p, J j v' → p ∈ comingR ws.length wall v' → J (j + 1) (clashR ws v' p) ∧ j + 1 ≤ countR ws.length wall v rs
end K74
namespace K74
/-! ## the plain law: clashes as reflections -/
def DR (ws : List Int) (p : Int) (k : Nat) : Rat :=
  if p = -1 then (if k = 0 then -2 else 0)
  else if k = p.toNat then 2 * (ws.getD (p.toNat + 1) 1 : Rat) / ((ws.getD p.toNat 1 : Rat) + (ws.getD (p.toNat + 1) 1 : Rat))
  else if k = p.toNat + 1 then -(2 * (ws.getD p.toNat 1 : Rat) / ((ws.getD p.toNat 1 : Rat) + (ws.getD (p.toNat + 1) 1 : Rat))) else 0
def clF (f : Nat → Rat) (q : Int) : Rat := if q = -1 then -(f 0) else f q.toNat - f (q.toNat + 1)
theorem closeR_clF (v : List Rat) (q : Int) : closeR v q = clF (fun k => v.getD k 0) q := rfl
theorem getD_set0 {α : Type} {l : List α} {i k : Nat} {x d : α} (h : i < l.length) : (l.set i x).getD k d = if k = i then x else l.getD k d := by
  rw [List.getD_eq_getElem?_getD, List.getD_eq_getElem?_getD, List.getElem?_set]
  by_cases e : i = k
  · subst e
    rw [if_pos rfl, if_pos h, if_pos rfl]; rfl
  · rw [if_neg e, if_neg (fun z => e z.symm)]
theorem clash_at {ws : List Int} {v : List Rat} {p : Int} (hw : ∀ x ∈ ws, 1 ≤ x ∧ x ≤ 9) (hl : v.length = ws.length) (hp : PrOk ws.length p) (k : Nat) :
    (clashR ws v p).getD k 0 = v.getD k 0 - closeR v p * DR ws p k := by
  rcases hp with ⟨rfl, hn⟩ | ⟨i, rfl, hi⟩
  · unfold clashR closeR DR
    rw [if_pos rfl, if_pos rfl, if_pos rfl, getD_set0 (by omega)]
    by_cases e : k = 0
    · rw [if_pos e, if_pos e, e]; grind
    · rw [if_neg e, if_neg e]; grind
  · unfold clashR closeR DR
    have hne : ¬((i : Int) = -1) := by omega
    simp only [if_neg hne, Int.toNat_natCast]
    rw [getD_set0 (by rw [List.length_set]; omega), getD_set0 (by omega)]
    have ha := hw _ (mem_getD (show i < ws.length by omega) 1)
    have hb := hw _ (mem_getD hi 1)
    generalize ws.getD i 1 = a at *
    generalize ws.getD (i + 1) 1 = b at *
    have hab : (a : Rat) + (b : Rat) ≠ 0 := by
      have : (0 : Rat) < ((a + b : Int) : Rat) := Rat.intCast_pos.mpr (by omega)
      rw [Rat.intCast_add] at this
      grind
    unfold mixR
    simp only [Rat.intCast_sub, Rat.intCast_mul, Rat.intCast_add]
    by_cases e : k = i + 1
    · subst e
      rw [if_pos rfl, if_neg (by omega), if_pos rfl]
      generalize v.getD i 0 = x
      generalize v.getD (i + 1) 0 = y
      have h2 : ((2 : Int) : Rat) = 2 := rfl
      rw [h2]
      grind
    · by_cases e2 : k = i
      · subst e2
        rw [if_neg e, if_pos rfl, if_pos rfl]
        generalize v.getD k 0 = x
        generalize v.getD (k + 1) 0 = y
        have h2 : ((2 : Int) : Rat) = 2 := rfl
        rw [h2]
        grind
      · rw [if_neg e, if_neg e2, if_neg e2, if_neg e]
        grind
/-- how a clash at p changes the closing at q -/
def AR (ws : List Int) (p q : Int) : Rat := clF (DR ws p) q
theorem close_clash {ws : List Int} {v : List Rat} {p : Int} (hw : ∀ x ∈ ws, 1 ≤ x ∧ x ≤ 9) (hl : v.length = ws.length) (hp : PrOk ws.length p) (q : Int) :
    closeR (clashR ws v p) q = closeR v q - closeR v p * AR ws p q := by
  rw [closeR_clF (clashR ws v p), closeR_clF v q]
  unfold clF AR clF
  simp only [clash_at hw hl hp]
  split <;> grind
theorem AR_self {ws : List Int} {p : Int} (hw : ∀ x ∈ ws, 1 ≤ x ∧ x ≤ 9) (hp : PrOk ws.length p) : AR ws p p = 2 := by
  rcases hp with ⟨rfl, hn⟩ | ⟨i, rfl, hi⟩
  · unfold AR clF DR
    rw [if_pos rfl, if_pos rfl, if_pos rfl]; decide
  · unfold AR clF DR
    have hne : ¬((i : Int) = -1) := by omega
    simp only [if_neg hne, Int.toNat_natCast, if_true]
    rw [if_neg (by omega)]
    have ha := hw _ (mem_getD (show i < ws.length by omega) 1)
    have hb := hw _ (mem_getD hi 1)
    generalize ws.getD i 1 = a at *
    generalize ws.getD (i + 1) 1 = b at *
    have hab : (a : Rat) + (b : Rat) ≠ 0 := by
      have : (0 : Rat) < ((a + b : Int) : Rat) := Rat.intCast_pos.mpr (by omega)
      rw [Rat.intCast_add] at this
      grind
    grind
theorem gain_val {ws : List Int} {i : Nat} (hw : ∀ x ∈ ws, 1 ≤ x ∧ x ≤ 9) (hi : i + 1 < ws.length) (q : Int) :
    gainR ws (i : Int) q = 2 * ((if q > (i : Int) then ws.getD i 1 else ws.getD (i + 1) 1 : Int) : Rat) / ((ws.getD i 1 : Rat) + (ws.getD (i + 1) 1 : Rat)) := by
  unfold gainR
  rw [if_neg (by omega), Int.toNat_natCast]
  have ha := hw _ (mem_getD (show i < ws.length by omega) 1)
  have hb := hw _ (mem_getD hi 1)
  simp only
  generalize ws.getD i 1 = a at *
  generalize ws.getD (i + 1) 1 = b at *
  rw [Rat.mkRat_eq_div]
  have e : (((a + b).toNat : Nat) : Rat) = (a : Rat) + (b : Rat) := by
    rw [← Rat.intCast_add]
    have : ((((a + b).toNat : Nat) : Int) : Rat) = ((a + b : Int) : Rat) := by
      congr 1
      omega
    exact this
  rw [e, Rat.intCast_mul]
  rfl
/-- neighbours -/
theorem AR_up {ws : List Int} {p : Int} (hw : ∀ x ∈ ws, 1 ≤ x ∧ x ≤ 9) (hp : PrOk ws.length p) (hq : PrOk ws.length (p + 1)) : AR ws p (p + 1) = -gainR ws p (p + 1) := by
  rcases hp with ⟨rfl, hn⟩ | ⟨i, rfl, hi⟩
  · have e0 : AR ws (-1) (-1 + 1) = (-2 : Rat) - 0 := rfl
    have e1 : gainR ws (-1) (-1 + 1) = 2 := rfl
    rw [e0, e1]
    grind
  · rw [gain_val hw hi, if_pos (by omega)]
    unfold AR clF DR
    have hne : ¬((i : Int) = -1) := by omega
    have hne2 : ¬((i : Int) + 1 = -1) := by omega
    have e1 : ((i : Int) + 1).toNat = i + 1 := by omega
    simp only [if_neg hne, if_neg hne2, e1, Int.toNat_natCast]
    rw [if_neg (by omega), if_pos trivial, if_neg (by omega), if_neg (by omega)]
    grind
theorem AR_down {ws : List Int} {p : Int} (hw : ∀ x ∈ ws, 1 ≤ x ∧ x ≤ 9) (hp : PrOk ws.length p) (hq : PrOk ws.length (p + 1)) : AR ws (p + 1) p = -gainR ws (p + 1) p := by
  have h2 : ∃ i : Nat, p + 1 = (i : Int) ∧ i + 1 < ws.length := by
    rcases hq with ⟨e, hn⟩ | h
    · rcases hp with ⟨rfl, _⟩ | ⟨j, rfl, _⟩ <;> omega
    · exact h
  obtain ⟨i, e, hi⟩ := h2
  have ep : p = (i : Int) - 1 := by omega
  subst ep
  rw [show (i : Int) - 1 + 1 = (i : Int) by omega, gain_val hw hi, if_neg (by omega)]
  unfold AR clF DR
  have hne : ¬((i : Int) = -1) := by omega
  simp only [if_neg hne, Int.toNat_natCast]
  by_cases e0 : (i : Int) - 1 = -1
  · have : i = 0 := by omega
    subst this
    rw [if_pos (by decide), if_pos rfl]
  · rw [if_neg e0]
    have e1 : ((i : Int) - 1).toNat = i - 1 := by omega
    rw [e1, if_neg (by omega), if_neg (by omega), if_pos (by omega)]
    grind
theorem AR_far {ws : List Int} {p q : Int} (hp : PrOk ws.length p) (hq : PrOk ws.length q) (h1 : q ≠ p) (h2 : q ≠ p + 1) (h3 : p ≠ q + 1) : AR ws p q = 0 := by
  rcases hp with ⟨rfl, hn⟩ | ⟨i, rfl, hi⟩
  · rcases hq with ⟨rfl, _⟩ | ⟨j, rfl, hj⟩
    · omega
    · unfold AR clF DR
      rw [if_neg (by omega), if_pos rfl, if_pos rfl, Int.toNat_natCast, if_neg (by omega), if_neg (by omega)]; grind
  · have hne : ¬((i : Int) = -1) := by omega
    rcases hq with ⟨rfl, _⟩ | ⟨j, rfl, hj⟩
    · unfold AR clF DR
      simp only [if_neg hne, Int.toNat_natCast]
      rw [if_pos trivial, if_neg (by omega), if_neg (by omega)]; grind
    · have hne2 : ¬((j : Int) = -1) := by omega
      unfold AR clF DR
      simp only [if_neg hne, if_neg hne2, Int.toNat_natCast]
      rw [if_neg (by omega), if_neg (by omega), if_neg (by omega), if_neg (by omega)]; grind
theorem vec_ext {v w : List Rat} (hl : v.length = w.length) (h : ∀ k, v.getD k 0 = w.getD k 0) : v = w := by
  refine List.ext_getElem hl fun k h1 h2 => ?_
  have := h k
  rw [List.getD_eq_getElem?_getD, List.getD_eq_getElem?_getD, List.getElem?_eq_getElem h1, List.getElem?_eq_getElem h2] at this
  exact this
/-- a clash taken back -/
theorem clash_twice {ws : List Int} {v : List Rat} {p : Int} (hw : ∀ x ∈ ws, 1 ≤ x ∧ x ≤ 9) (hl : v.length = ws.length) (hp : PrOk ws.length p) : clashR ws (clashR ws v p) p = v := by
  have hl2 : (clashR ws v p).length = ws.length := by rw [clashR_len, hl]
  refine vec_ext (by rw [clashR_len, clashR_len]) fun k => ?_
  rw [clash_at hw hl2 hp, clash_at hw hl hp, close_clash hw hl hp, AR_self hw hp]
  grind
theorem clash_fix {ws : List Int} {v : List Rat} {p : Int} (hw : ∀ x ∈ ws, 1 ≤ x ∧ x ≤ 9) (hl : v.length = ws.length) (hp : PrOk ws.length p) (h : closeR v p = 0) : clashR ws v p = v := by
  refine vec_ext (clashR_len _ _ _) fun k => ?_
  rw [clash_at hw hl hp, h]
  grind
theorem after_back {ws : List Int} (hw : ∀ x ∈ ws, 1 ≤ x ∧ x ≤ 9) : ∀ {w : List Int} {v : List Rat}, v.length = ws.length → (∀ p ∈ w, PrOk ws.length p) → afterR ws (afterR ws v w) w.reverse = v
  | [], v, _, _ => rfl
  | p :: w, v, hl, hp => by
    have hl2 : (clashR ws v p).length = ws.length := by rw [clashR_len, hl]
    have e1 : afterR ws v (p :: w) = afterR ws (clashR ws v p) w := rfl
    have e2 : (p :: w).reverse = w.reverse ++ [p] := by simp
    rw [e1, e2, afterR_snoc, after_back hw hl2 (fun q hq => hp q (List.mem_cons_of_mem _ hq)), clash_twice hw hl (hp p List.mem_cons_self)]
theorem after_app (ws : List Int) (v : List Rat) (u w : List Int) : afterR ws v (u ++ w) = afterR ws (afterR ws v u) w := by
  unfold afterR
  rw [List.foldl_append]
/-! ### tables, column by column -/
def colR (T : List (List Rat)) (j : Nat) : List Rat := T.map fun r => r.getD j 0
theorem zipMix_at {a b z : Int} {x y : List Rat} {j : Nat} (hl : x.length = y.length) : (List.zipWith (mixR a b z) x y).getD j 0 = mixR a b z (x.getD j 0) (y.getD j 0) := by
  rw [List.getD_eq_getElem?_getD, List.getD_eq_getElem?_getD, List.getD_eq_getElem?_getD, List.getElem?_zipWith]
  rcases Nat.lt_or_ge j x.length with h | h
  · rw [List.getElem?_eq_getElem h, List.getElem?_eq_getElem (by omega)]; rfl
  · rw [List.getElem?_eq_none h]
    show (0 : Rat) = _
    rw [List.getElem?_eq_none (by omega)]
    unfold mixR
    show (0 : Rat) = ((a : Rat) * 0 + (b : Rat) * 0) / (z : Rat)
    grind
theorem map_getD {T : List (List Rat)} {j i : Nat} (h : i < T.length) : (colR T j).getD i 0 = (T.getD i []).getD j 0 := by
  unfold colR
  rw [List.getD_eq_getElem?_getD, List.getElem?_map, getD_some h []]; rfl
/-- a table of n rows of n entries -/
structure Sq0 (n : Nat) (T : List (List Rat)) : Prop where
  l : T.length = n
  r : ∀ x ∈ T, x.length = n
theorem behind_col {ws : List Int} {T : List (List Rat)} {p : Int} (hT : Sq0 ws.length T) (hp : PrOk ws.length p) (j : Nat) : colR (behindR ws T p) j = clashR ws (colR T j) p := by
  have hl := hT.l
  rcases hp with ⟨rfl, hn⟩ | ⟨i, rfl, hi⟩
  · unfold behindR clashR
    rw [if_pos rfl, if_pos rfl, map_getD (by omega)]
    unfold colR
    rw [List.map_set]
    congr 1
    generalize T.getD 0 [] = x
    rw [List.getD_eq_getElem?_getD, List.getD_eq_getElem?_getD, List.getElem?_map]
    cases x[j]? <;> simp
  · unfold behindR clashR
    have hne : ¬((i : Int) = -1) := by omega
    simp only [if_neg hne, Int.toNat_natCast]
    rw [map_getD (by omega), map_getD (by omega)]
    have h1 := hT.r _ (mem_getD (show i < T.length by omega) [])
    have h2 := hT.r _ (mem_getD (show i + 1 < T.length by omega) [])
    unfold colR
    rw [List.map_set, List.map_set, zipMix_at (by omega), zipMix_at (by omega)]
theorem behind_sq {ws : List Int} {T : List (List Rat)} {p : Int} (hT : Sq0 ws.length T) (hp : PrOk ws.length p) : Sq0 ws.length (behindR ws T p) := by
  have hl := hT.l
  rcases hp with ⟨rfl, hn⟩ | ⟨i, rfl, hi⟩
  · unfold behindR
    rw [if_pos rfl]
    refine ⟨by rw [List.length_set, hl], fun x hx => ?_⟩
    rcases List.mem_or_eq_of_mem_set hx with h | h
    · exact hT.r x h
    · rw [h, List.length_map]
      exact hT.r _ (mem_getD (by omega) [])
  · unfold behindR
    have hne : ¬((i : Int) = -1) := by omega
    simp only [if_neg hne, Int.toNat_natCast]
    have h1 := hT.r _ (mem_getD (show i < T.length by omega) [])
    have h2 := hT.r _ (mem_getD (show i + 1 < T.length by omega) [])
    refine ⟨by rw [List.length_set, List.length_set, hl], fun x hx => ?_⟩
    rcases List.mem_or_eq_of_mem_set hx with h | h
    · rcases List.mem_or_eq_of_mem_set h with h | h
      · exact hT.r x h
      · rw [h, List.length_zipWith]; omega
    · rw [h, List.length_zipWith]; omega
def eR (n j : Nat) : List Rat := (List.range n).map fun k => if j = k then 1 else 0
theorem rest_sq (n : Nat) : Sq0 n (restR n) := by
  refine ⟨by unfold restR; simp, fun x hx => ?_⟩
  obtain ⟨k, _, rfl⟩ := List.mem_map.mp hx
  simp
theorem rest_col {n j : Nat} (hj : j < n) : colR (restR n) j = eR n j := by
  unfold colR restR eR
  rw [List.map_map]
  refine List.map_congr_left fun k hk => ?_
  show ((List.range n).map fun j => if j = k then (1 : Rat) else 0).getD j 0 = _
  rw [List.getD_eq_getElem?_getD, List.getElem?_map, List.getElem?_range hj]; rfl
theorem tab_ext {n : Nat} {S T : List (List Rat)} (hS : Sq0 n S) (hT : Sq0 n T) (h : ∀ j, j < n → colR S j = colR T j) : S = T := by
  refine List.ext_getElem (by rw [hS.l, hT.l]) fun i h1 h2 => ?_
  have l1 := hS.r _ (List.getElem_mem h1)
  have l2 := hT.r _ (List.getElem_mem h2)
  refine List.ext_getElem (by rw [l1, l2]) fun j h3 h4 => ?_
  have e := congrArg (fun l => l.getD i 0) (h j (by omega))
  rw [map_getD h1, map_getD h2] at e
  rw [List.getD_eq_getElem?_getD, List.getD_eq_getElem?_getD (l := T.getD i []), List.getD_eq_getElem?_getD, List.getD_eq_getElem?_getD, List.getElem?_eq_getElem h1, List.getElem?_eq_getElem h2] at e
  simp only [Option.getD_some] at e
  rw [List.getElem?_eq_getElem h3, List.getElem?_eq_getElem h4] at e
  exact e
theorem fold_sq {ws : List Int} : ∀ {w : List Int} {T : List (List Rat)}, Sq0 ws.length T → (∀ p ∈ w, PrOk ws.length p) → Sq0 ws.length (w.foldl (behindR ws) T)
  | [], _, h, _ => h
  | p :: w, T, h, hp => fold_sq (w := w) (behind_sq h (hp p List.mem_cons_self)) fun q hq => hp q (List.mem_cons_of_mem _ hq)
theorem fold_col {ws : List Int} (j : Nat) : ∀ {w : List Int} {T : List (List Rat)}, Sq0 ws.length T → (∀ p ∈ w, PrOk ws.length p) → colR (w.foldl (behindR ws) T) j = afterR ws (colR T j) w
  | [], _, _, _ => rfl
  | p :: w, T, h, hp => by
    show colR (w.foldl (behindR ws) (behindR ws T p)) j = afterR ws (clashR ws (colR T j) p) w
    rw [fold_col j (w := w) (behind_sq h (hp p List.mem_cons_self)) fun q hq => hp q (List.mem_cons_of_mem _ hq), behind_col h (hp p List.mem_cons_self)]
theorem table_sq {ws : List Int} {w : List Int} (hp : ∀ p ∈ w, PrOk ws.length p) : Sq0 ws.length (tableR ws w) := fold_sq (rest_sq _) hp
theorem table_col {ws : List Int} {w : List Int} {j : Nat} (hj : j < ws.length) (hp : ∀ p ∈ w, PrOk ws.length p) : colR (tableR ws w) j = afterR ws (eR ws.length j) w := by
  unfold tableR
  rw [fold_col j (rest_sq _) hp, rest_col hj]
/-! ### a vector is what its parts make -/
theorem dot_nil (x : List Rat) : dotR [] x = 0 := by simp [dotR]
theorem fold_add (l : List Rat) (a : Rat) : l.foldl (· + ·) a = a + l.foldl (· + ·) 0 := by
  induction l generalizing a with
  | nil => show a = a + 0; grind
  | cons b l ih =>
    rw [List.foldl_cons, List.foldl_cons, ih, ih (0 + b)]
    grind
theorem dot_cons (a b : Rat) (x y : List Rat) : dotR (a :: x) (b :: y) = a * b + dotR x y := by
  unfold dotR
  rw [List.zipWith_cons_cons, List.foldl_cons, fold_add]
  grind
theorem dot_mix (a b z : Int) : ∀ (x y u : List Rat), x.length = y.length → x.length = u.length → dotR (List.zipWith (mixR a b z) x y) u = mixR a b z (dotR x u) (dotR y u)
  | [], [], [], _, _ => by simp only [List.zipWith_nil_left, dot_nil]; unfold mixR; grind
  | p :: x, q :: y, c :: u, h1, h2 => by
    rw [List.zipWith_cons_cons, dot_cons, dot_cons, dot_cons, dot_mix a b z x y u (by simpa using h1) (by simpa using h2)]
    unfold mixR
    grind
theorem dot_neg : ∀ (x u : List Rat), x.length = u.length → dotR (x.map fun y => -y) u = -(dotR x u)
  | [], [], _ => by simp only [List.map_nil, dot_nil]; grind
  | p :: x, c :: u, h => by
    rw [List.map_cons, dot_cons, dot_cons, dot_neg x u (by simpa using h)]
    grind
def mapD (T : List (List Rat)) (u : List Rat) : List Rat := T.map fun r => dotR r u
theorem mapD_at {T : List (List Rat)} {u : List Rat} {i : Nat} (h : i < T.length) : (mapD T u).getD i 0 = dotR (T.getD i []) u := by
  unfold mapD
  rw [List.getD_eq_getElem?_getD, List.getElem?_map, getD_some h []]; rfl
theorem behind_dot {ws : List Int} {T : List (List Rat)} {p : Int} {u : List Rat} (hT : Sq0 ws.length T) (hu : u.length = ws.length) (hp : PrOk ws.length p) : mapD (behindR ws T p) u = clashR ws (mapD T u) p := by
  have hl := hT.l
  rcases hp with ⟨rfl, hn⟩ | ⟨i, rfl, hi⟩
  · unfold behindR clashR
    rw [if_pos rfl, if_pos rfl, mapD_at (by omega)]
    unfold mapD
    rw [List.map_set, dot_neg _ _ (by rw [hT.r _ (mem_getD (by omega) []), hu])]
  · unfold behindR clashR
    have hne : ¬((i : Int) = -1) := by omega
    simp only [if_neg hne, Int.toNat_natCast]
    rw [mapD_at (by omega), mapD_at (by omega)]
    have h1 := hT.r _ (mem_getD (show i < T.length by omega) [])
    have h2 := hT.r _ (mem_getD (show i + 1 < T.length by omega) [])
    unfold mapD
    rw [List.map_set, List.map_set, dot_mix _ _ _ _ _ _ (by omega) (by omega), dot_mix _ _ _ _ _ _ (by omega) (by omega)]
theorem fold_dot {ws : List Int} {u : List Rat} (hu : u.length = ws.length) : ∀ {w : List Int} {T : List (List Rat)}, Sq0 ws.length T → (∀ p ∈ w, PrOk ws.length p) → mapD (w.foldl (behindR ws) T) u = afterR ws (mapD T u) w
  | [], _, _, _ => rfl
  | p :: w, T, h, hp => by
    show mapD (w.foldl (behindR ws) (behindR ws T p)) u = afterR ws (clashR ws (mapD T u) p) w
    rw [fold_dot hu (w := w) (behind_sq h (hp p List.mem_cons_self)) fun q hq => hp q (List.mem_cons_of_mem _ hq), behind_dot h hu (hp p List.mem_cons_self)]
theorem dot_e : ∀ (n k : Nat) (u : List Rat) (s : Nat), u.length = n → dotR ((List.range' s n).map fun j => if j = s + k then (1 : Rat) else 0) u = u.getD k 0
  | 0, k, u, s, h => by
    cases u with
    | nil => simp [dotR]
    | cons a u => simp at h
  | n + 1, k, u, s, h => by
    cases u with
    | nil => simp at h
    | cons a u =>
      rw [List.range'_succ, List.map_cons, dot_cons]
      cases k with
      | zero =>
        have e : ((List.range' (s + 1) n).map fun j => if j = s + 0 then (1 : Rat) else 0) = (List.range' (s + 1) n).map fun _ => 0 := List.map_congr_left fun j hj => by
          rw [List.mem_range'] at hj
          obtain ⟨i, _, rfl⟩ := hj
          rw [if_neg (by omega)]
        have z : ∀ (l : List Nat) (u : List Rat), dotR (l.map fun _ => (0 : Rat)) u = 0 := by
          intro l
          induction l with
          | nil => intro u; exact dot_nil u
          | cons b l ih =>
            intro u
            cases u with
            | nil => simp [dotR]
            | cons c u => rw [List.map_cons, dot_cons, ih]; grind
        rw [e, z, if_pos (by omega)]
        simp
        grind
      | succ k =>
        have e : ((List.range' (s + 1) n).map fun j => if j = s + (k + 1) then (1 : Rat) else 0) = (List.range' (s + 1) n).map fun j => if j = s + 1 + k then (1 : Rat) else 0 := List.map_congr_left fun j hj => by
          rw [show s + (k + 1) = s + 1 + k by omega]
        rw [e, dot_e n k u (s + 1) (by simpa using h), if_neg (by omega)]
        simp
        grind
theorem rest_dot {n : Nat} {u : List Rat} (hu : u.length = n) : mapD (restR n) u = u := by
  refine vec_ext (by unfold mapD restR; simp [hu]) fun k => ?_
  rcases Nat.lt_or_ge k n with h | h
  · rw [mapD_at (by rw [(rest_sq n).l]; exact h)]
    have e : (restR n).getD k [] = (List.range' 0 n).map fun j => if j = 0 + k then (1 : Rat) else 0 := by
      unfold restR
      rw [List.getD_eq_getElem?_getD, List.getElem?_map, List.getElem?_range h, List.range_eq_range', Nat.zero_add]; rfl
    rw [e, dot_e n k u 0 hu]
  · rw [List.getD_eq_getElem?_getD, List.getElem?_eq_none (by unfold mapD; rw [List.length_map, (rest_sq n).l]; exact h), List.getD_eq_getElem?_getD, List.getElem?_eq_none (by omega)]
/-- what a word does to any speeds stands in its table -/
theorem table_dot {ws : List Int} {w : List Int} {u : List Rat} (hu : u.length = ws.length) (hp : ∀ p ∈ w, PrOk ws.length p) : mapD (tableR ws w) u = afterR ws u w := by
  unfold tableR
  rw [fold_dot hu (rest_sq _) hp, rest_dot hu]
/-- word after word: the product of tables, as the program makes it -/
theorem mul_col {n : Nat} {A B : List (List Rat)} (hA : A.length = n) {j : Nat} (hj : j < n) : colR (mulR A B) j = mapD B (colR A j) := by
  unfold mulR mapD
  unfold colR
  rw [List.map_map]
  refine List.map_congr_left fun e he => ?_
  show ((List.range A.length).map fun j => dotR e (A.map fun r => r.getD j 0)).getD j 0 = _
  rw [List.getD_eq_getElem?_getD, List.getElem?_map, List.getElem?_range (by omega)]; rfl
theorem mul_sq {n : Nat} {A B : List (List Rat)} (hA : A.length = n) (hB : B.length = n) : Sq0 n (mulR A B) := by
  refine ⟨by unfold mulR; rw [List.length_map, hB], fun x hx => ?_⟩
  obtain ⟨e, _, rfl⟩ := List.mem_map.mp hx
  rw [List.length_map, List.length_range, hA]
/-- as vectors move, so do tables -/
theorem table_eq_of {ws : List Int} {u w : List Int} (hu : ∀ p ∈ u, PrOk ws.length p) (hw : ∀ p ∈ w, PrOk ws.length p) (h : ∀ v : List Rat, v.length = ws.length → afterR ws v u = afterR ws v w) : tableR ws u = tableR ws w :=
  tab_ext (table_sq hu) (table_sq hw) fun j hj => by rw [table_col hj hu, table_col hj hw, h _ (by unfold eR; simp)]
theorem after_of_table {ws : List Int} {u w : List Int} (hu : ∀ p ∈ u, PrOk ws.length p) (hw : ∀ p ∈ w, PrOk ws.length p) (h : tableR ws u = tableR ws w) {v : List Rat} (hv : v.length = ws.length) : afterR ws v u = afterR ws v w := by
  rw [← table_dot hv hu, ← table_dot hv hw, h]
end K74
namespace K74
/-! ## the word of two neighbouring pairs, again and again -/
def uR (s : Rat) : Nat → Rat × Rat
  | 0 => (0, -1)
  | k + 1 => ((s - 2) * (uR s k).1 - (uR s k).2, (uR s k).1)
theorem cop_mul {a b n : Nat} (h1 : Nat.Coprime a n) (h2 : Nat.Coprime b n) : Nat.Coprime (a * b) n := Nat.Coprime.mul_left h1 h2
/-- numerators: u(k+1) = N k / n ^ k, N coprime to n -/
def nmR (t n : Int) : Nat → Int × Int
  | 0 => (1, 0)
  | k + 1 => (t * (nmR t n k).1 - n * n * (nmR t n k).2, (nmR t n k).1)
theorem nm_cop {t : Int} {n : Nat} (h : Nat.Coprime t.natAbs n) : ∀ k, Nat.Coprime (nmR t n k).1.natAbs n
  | 0 => Nat.coprime_one_left n
  | k + 1 => by
    have ih := nm_cop h k
    have h2 : Nat.Coprime (t * (nmR t n k).1).natAbs n := by rw [Int.natAbs_mul]; exact cop_mul h ih
    show Nat.Coprime (t * (nmR t n k).1 - (n : Int) * n * (nmR t n k).2).natAbs n
    generalize t * (nmR t n k).1 = x at *
    generalize (nmR t n k).2 = y at *
    have hg : Nat.gcd x.natAbs n = 1 := h2
    show Nat.gcd (x - (n : Int) * n * y).natAbs n = 1
    suffices h3 : Nat.gcd (x - (n : Int) * n * y).natAbs n ∣ x.natAbs by
      have h4 := Nat.dvd_gcd h3 (Nat.gcd_dvd_right (x - (n : Int) * n * y).natAbs n)
      rw [hg] at h4
      exact Nat.dvd_one.mp h4
    have d1 : ((Nat.gcd (x - (n : Int) * n * y).natAbs n : Nat) : Int) ∣ x - (n : Int) * n * y := Int.ofNat_dvd_left.mpr (Nat.gcd_dvd_left _ _)
    have d2 : ((Nat.gcd (x - (n : Int) * n * y).natAbs n : Nat) : Int) ∣ (n : Int) := Int.natCast_dvd_natCast.mpr (Nat.gcd_dvd_right _ _)
    have d3 : ((Nat.gcd (x - (n : Int) * n * y).natAbs n : Nat) : Int) ∣ (n : Int) * n * y := Int.dvd_mul_of_dvd_left (Int.dvd_mul_of_dvd_left d2)
    have d4 := Int.dvd_add d1 d3
    rw [Int.sub_add_cancel] at d4
    exact Int.ofNat_dvd_left.mp d4
theorem u_val {s : Rat} {t : Int} {n : Nat} (hn : n ≠ 0) (hs : (s - 2) * (n : Rat) = (t : Rat)) : ∀ k, (uR s (k + 1)).1 * (n : Rat) ^ k = ((nmR t n k).1 : Rat) ∧ (uR s (k + 1)).2 * (n : Rat) ^ k * (n : Rat) = ((n : Rat) * n) * ((nmR t n k).2 : Rat)
  | 0 => by
    refine ⟨?_, ?_⟩
    · show ((s - 2) * 0 - -1) * (n : Rat) ^ 0 = ((1 : Int) : Rat)
      rw [Rat.pow_zero]
      have : ((1 : Int) : Rat) = 1 := rfl
      rw [this]
      grind
    · show (0 : Rat) * (n : Rat) ^ 0 * (n : Rat) = (n : Rat) * n * ((0 : Int) : Rat)
      have : ((0 : Int) : Rat) = 0 := rfl
      rw [this]
      grind
  | k + 1 => by
    obtain ⟨h1, h2⟩ := u_val hn hs k
    have e1 : (uR s (k + 1 + 1)).1 = (s - 2) * (uR s (k + 1)).1 - (uR s (k + 1)).2 := rfl
    have e2 : (uR s (k + 1 + 1)).2 = (uR s (k + 1)).1 := rfl
    have e3 : (nmR t n (k + 1)).1 = t * (nmR t n k).1 - n * n * (nmR t n k).2 := rfl
    have e4 : (nmR t n (k + 1)).2 = (nmR t n k).1 := rfl
    have ep : (n : Rat) ^ (k + 1) = (n : Rat) ^ k * n := Rat.pow_succ _ _
    rw [e1, e2, e3, e4, ep]
    simp only [Rat.intCast_sub, Rat.intCast_mul]
    have en : ((n : Int) : Rat) = (n : Rat) := rfl
    rw [en]
    generalize (uR s (k + 1)).1 = a at *
    generalize (uR s (k + 1)).2 = b at *
    generalize (((nmR t n k).1 : Int) : Rat) = c at *
    generalize (((nmR t n k).2 : Int) : Rat) = d at *
    generalize (n : Rat) ^ k = m at *
    generalize (n : Rat) = z at *
    generalize ((t : Int) : Rat) = tt at *
    refine ⟨?_, ?_⟩
    · have : ((s - 2) * a - b) * (m * z) = ((s - 2) * z) * (a * m) - b * m * z := by grind
      rw [this, hs, h1, h2]
    · have : a * (m * z) * z = z * z * (a * m) := by grind
      rw [this, h1]
theorem num_den (s : Rat) : s * (s.den : Rat) = (s.num : Rat) := by
  have h : (s.num : Rat) / (s.den : Rat) = s := by rw [← Rat.mkRat_eq_div, Rat.mkRat_self]
  have hd : (s.den : Rat) ≠ 0 := by
    have : (0 : Rat) < ((s.den : Int) : Rat) := Rat.intCast_pos.mpr (Int.natCast_pos.mpr s.den_pos)
    have e : (((s.den : Nat) : Int) : Rat) = (s.den : Rat) := rfl
    rw [e] at this
    grind
  generalize (s.num : Rat) = a at *
  generalize (s.den : Rat) = b at *
  rw [← h]
  grind
theorem u_num {s : Rat} : ∀ k, (uR s (k + 1)).1 * (s.den : Rat) ^ k = ((nmR (s.num - 2 * s.den) s.den k).1 : Rat) := by
  intro k
  refine (u_val (t := s.num - 2 * s.den) (n := s.den) s.den_nz ?_ k).1
  rw [Rat.intCast_sub, Rat.intCast_mul]
  have h : s * (s.den : Rat) = (s.num : Rat) := num_den s
  have h2 : ((2 : Int) : Rat) = 2 := rfl
  have h3 : (((s.den : Nat) : Int) : Rat) = (s.den : Rat) := rfl
  rw [h2, h3, ← h]
  grind
theorem u_inj {s : Rat} (hs : s.den ≠ 1) : ∀ {i j : Nat}, i < j → (uR s i).1 ≠ (uR s j).1 := by
  intro i j hij e
  have hn0 : s.den ≠ 0 := s.den_nz
  have hc : Nat.Coprime (s.num - 2 * s.den).natAbs s.den := by
    have hr : Nat.gcd s.num.natAbs s.den = 1 := s.reduced
    show Nat.gcd (s.num - 2 * s.den).natAbs s.den = 1
    suffices h3 : Nat.gcd (s.num - 2 * s.den).natAbs s.den ∣ s.num.natAbs by
      have h4 := Nat.dvd_gcd h3 (Nat.gcd_dvd_right (s.num - 2 * s.den).natAbs s.den)
      rw [hr] at h4
      exact Nat.dvd_one.mp h4
    have d1 : ((Nat.gcd (s.num - 2 * s.den).natAbs s.den : Nat) : Int) ∣ s.num - 2 * s.den := Int.ofNat_dvd_left.mpr (Nat.gcd_dvd_left _ _)
    have d2 : ((Nat.gcd (s.num - 2 * s.den).natAbs s.den : Nat) : Int) ∣ (s.den : Int) := Int.natCast_dvd_natCast.mpr (Nat.gcd_dvd_right _ _)
    have d4 := Int.dvd_add d1 (Int.dvd_mul_of_dvd_right (b := 2) d2)
    rw [Int.sub_add_cancel] at d4
    exact Int.ofNat_dvd_left.mp d4
  obtain ⟨j', rfl⟩ : ∃ j', j = j' + 1 := ⟨j - 1, by omega⟩
  have hj := u_num (s := s) j'
  have cj := nm_cop hc j'
  rw [← e] at hj
  -- the denominator of u(i) is less
  have key : ∀ z : Int, (z : Rat) * (s.den : Rat) = ((nmR (s.num - 2 * s.den) s.den j').1 : Rat) → False := by
    intro z hz
    have h3 : (((z * (s.den : Int) : Int)) : Rat) = ((nmR (s.num - 2 * s.den) s.den j').1 : Rat) := by rw [Rat.intCast_mul]; exact hz
    have h4 := Rat.intCast_inj.mp h3
    rw [← h4] at cj
    have : Nat.gcd (z * (s.den : Int)).natAbs s.den = 1 := cj
    rw [Int.natAbs_mul, Int.natAbs_natCast, Nat.gcd_mul_left_left] at this
    exact hs this
  have hpow : ∀ (m : Nat), (((s.den : Int) ^ m : Int) : Rat) = (s.den : Rat) ^ m := fun m => by rw [Rat.intCast_pow]; rfl
  cases i with
  | zero =>
    have e0 : (uR s 0).1 = 0 := rfl
    rw [e0] at hj
    refine key 0 ?_
    rw [← hj]
    have : ((0 : Int) : Rat) = 0 := rfl
    rw [this]
    grind
  | succ i' =>
    have hi := u_num (s := s) i'
    obtain ⟨d, rfl⟩ : ∃ d, j' = i' + (d + 1) := ⟨j' - i' - 1, by omega⟩
    refine key ((nmR (s.num - 2 * s.den) s.den i').1 * (s.den : Int) ^ d) ?_
    rw [Rat.intCast_mul, hpow, ← hi, ← hj, rpow_add, Rat.pow_succ]
    grind
theorem u_three {k : Nat} : k < 3 → (uR 1 k).1 = 0 ∧ (uR 1 k).2 = -1 → k = 0 := by
  intro h
  have : k = 0 ∨ k = 1 ∨ k = 2 := by omega
  rcases this with rfl | rfl | rfl <;> decide +kernel
theorem u_four {k : Nat} : k < 4 → (uR 2 k).1 = 0 ∧ (uR 2 k).2 = -1 → k = 0 := by
  intro h
  have : k = 0 ∨ k = 1 ∨ k = 2 ∨ k = 3 := by omega
  rcases this with rfl | rfl | rfl | rfl <;> decide +kernel
theorem u_six {k : Nat} : k < 6 → (uR 3 k).1 = 0 ∧ (uR 3 k).2 = -1 → k = 0 := by
  intro h
  have : k = 0 ∨ k = 1 ∨ k = 2 ∨ k = 3 ∨ k = 4 ∨ k = 5 := by omega
  rcases this with rfl | rfl | rfl | rfl | rfl | rfl <;> decide +kernel
/-- a round: first P, then Q -/
def rndR (ws : List Int) (P Q : Int) (v : List Rat) : List Rat := clashR ws (clashR ws v P) Q
def itR (ws : List Int) (P Q : Int) : Nat → List Rat → List Rat
  | 0, v => v
  | k + 1, v => rndR ws P Q (itR ws P Q k v)
theorem it_len (ws : List Int) (P Q : Int) : ∀ (k : Nat) (v : List Rat), (itR ws P Q k v).length = v.length
  | 0, _ => rfl
  | k + 1, v => by
    show (clashR ws (clashR ws (itR ws P Q k v) P) Q).length = v.length
    rw [clashR_len, clashR_len, it_len ws P Q k v]
theorem it_word (ws : List Int) (P Q : Int) : ∀ (k : Nat) (v : List Rat), itR ws P Q (k + 1) v = afterR ws (itR ws P Q k v) [P, Q] := fun _ _ => rfl
/-- two pairs, their gains g (P on Q) and h (Q on P) -/
structure Two (ws : List Int) (P Q : Int) (g h : Rat) : Prop where
  w : ∀ x ∈ ws, 1 ≤ x ∧ x ≤ 9
  p : PrOk ws.length P
  q : PrOk ws.length Q
  pq : AR ws P Q = -g
  qp : AR ws Q P = -h
variable {ws : List Int} {P Q : Int} {g h : Rat}
theorem Two.rnd (T : Two ws P Q g h) {v : List Rat} (hl : v.length = ws.length) :
    closeR (rndR ws P Q v) P = -(closeR v P) + h * (closeR v Q + g * closeR v P) ∧ closeR (rndR ws P Q v) Q = -(closeR v Q + g * closeR v P) ∧
    ∀ k, (rndR ws P Q v).getD k 0 = v.getD k 0 - closeR v P * DR ws P k - (closeR v Q + g * closeR v P) * DR ws Q k := by
  have hl2 : (clashR ws v P).length = ws.length := by rw [clashR_len, hl]
  have e1 := close_clash T.w hl T.p P
  have e2 := close_clash T.w hl T.p Q
  rw [AR_self T.w T.p] at e1
  rw [T.pq] at e2
  unfold rndR
  refine ⟨?_, ?_, fun k => ?_⟩
  · rw [close_clash T.w hl2 T.q P, T.qp, e1, e2]; grind
  · rw [close_clash T.w hl2 T.q Q, AR_self T.w T.q, e2]; grind
  · rw [clash_at T.w hl2 T.q k, clash_at T.w hl T.p k, e2]; grind
theorem Two.it (T : Two ws P Q g h) {v : List Rat} (hl : v.length = ws.length) : ∀ k, closeR (itR ws P Q k v) P = (uR (g * h) k).1 * ((g * h - 1) * closeR v P + h * closeR v Q) - (uR (g * h) k).2 * closeR v P ∧
    closeR (itR ws P Q k v) Q = (uR (g * h) k).1 * (-(g * closeR v P) - closeR v Q) - (uR (g * h) k).2 * closeR v Q
  | 0 => by
    have e : uR (g * h) 0 = (0, -1) := rfl
    rw [e]
    show closeR v P = _ ∧ closeR v Q = _
    constructor <;> grind
  | k + 1 => by
    obtain ⟨h1, h2⟩ := T.it hl k
    obtain ⟨r1, r2, _⟩ := T.rnd (v := itR ws P Q k v) (by rw [it_len, hl])
    have e1 : (uR (g * h) (k + 1)).1 = (g * h - 2) * (uR (g * h) k).1 - (uR (g * h) k).2 := rfl
    have e2 : (uR (g * h) (k + 1)).2 = (uR (g * h) k).1 := rfl
    show closeR (rndR ws P Q (itR ws P Q k v)) P = _ ∧ closeR (rndR ws P Q (itR ws P Q k v)) Q = _
    rw [r1, r2, h1, h2, e1, e2]
    generalize (uR (g * h) k).1 = a
    generalize (uR (g * h) k).2 = b
    constructor <;> grind
/-- the speeds come back -/
theorem Two.back (T : Two ws P Q g h) {n : Nat} (hn : (g * h = 1 ∧ n = 3) ∨ (g * h = 2 ∧ n = 4) ∨ (g * h = 3 ∧ n = 6)) {v : List Rat} (hl : v.length = ws.length) : itR ws P Q n v = v := by
  refine vec_ext (it_len _ _ _ _ _) fun k => ?_
  have st : ∀ j, (itR ws P Q (j + 1) v).getD k 0 = (itR ws P Q j v).getD k 0 - closeR (itR ws P Q j v) P * DR ws P k - (closeR (itR ws P Q j v) Q + g * closeR (itR ws P Q j v) P) * DR ws Q k :=
    fun j => (T.rnd (v := itR ws P Q j v) (by rw [it_len, hl])).2.2 k
  have c := T.it hl
  generalize DR ws P k = d1 at *
  generalize DR ws Q k = d2 at *
  have e0 : itR ws P Q 0 v = v := rfl
  have s0 := st 0
  have s1 := st 1
  have s2 := st 2
  rw [(c 0).1, (c 0).2] at s0
  rw [(c 1).1, (c 1).2] at s1
  rw [(c 2).1, (c 2).2] at s2
  rw [e0] at s0
  generalize closeR v P = x at *
  generalize closeR v Q = y at *
  rcases hn with ⟨hs, rfl⟩ | ⟨hs, rfl⟩ | ⟨hs, rfl⟩
  · rw [s2, s1, s0, hs]
    simp only [uR]
    grind
  · rw [st 3, (c 3).1, (c 3).2, s2, s1, s0, hs]
    simp only [uR]
    grind
  · rw [st 5, (c 5).1, (c 5).2, st 4, (c 4).1, (c 4).2, st 3, (c 3).1, (c 3).2, s2, s1, s0, hs]
    simp only [uR]
    grind
theorem rcan {p q r : Rat} (hr : r ≠ 0) (h : r * p = r * q) : p = q := by
  have h1 : r⁻¹ * (r * p) = r⁻¹ * (r * q) := by rw [h]
  have h2 := Rat.inv_mul_cancel r hr
  grind
theorem rmul_ne {p q : Rat} (hp : p ≠ 0) (hq : q ≠ 0) : p * q ≠ 0 := fun h => hq (rcan hp (by rw [h, Rat.mul_zero]))
/-- they come back only so -/
theorem Two.only (T : Two ws P Q g h) (hg : g ≠ 0) (hh : h ≠ 0) {v : List Rat} (hl : v.length = ws.length) (hv : (closeR v P = 0 ∧ closeR v Q ≠ 0) ∨ (closeR v Q = 0 ∧ closeR v P ≠ 0)) {i j : Nat} (e : itR ws P Q i v = itR ws P Q j v) :
    (uR (g * h) i).1 = (uR (g * h) j).1 ∧ (uR (g * h) i).2 = (uR (g * h) j).2 := by
  have a := T.it hl i
  have b := T.it hl j
  rw [e] at a
  have k1 := a.1.symm.trans b.1
  have k2 := a.2.symm.trans b.2
  generalize closeR v P = x at *
  generalize closeR v Q = y at *
  generalize (uR (g * h) i).1 = a1 at *
  generalize (uR (g * h) j).1 = b1 at *
  generalize (uR (g * h) i).2 = a2 at *
  generalize (uR (g * h) j).2 = b2 at *
  rcases hv with ⟨hx0, hy⟩ | ⟨hy0, hx⟩
  · subst hx0
    have f1 : a1 = b1 := rcan (r := h * y) (rmul_ne hh hy) (by grind)
    subst f1
    exact ⟨rfl, rcan (r := y) hy (by grind)⟩
  · subst hy0
    have f1 : a1 = b1 := rcan (r := g * x) (rmul_ne hg hx) (by grind)
    subst f1
    exact ⟨rfl, rcan (r := x) hx (by grind)⟩
end K74
namespace K74
/-! ## returns_after: neighbouring pairs -/
theorem tab_it {ws : List Int} {P Q : Int} (hP : PrOk ws.length P) (hQ : PrOk ws.length Q) : ∀ (k : Nat) (T : List (List Rat)), Sq0 ws.length T → (∀ j, j < ws.length → colR T j = itR ws P Q (k + 1) (eR ws.length j)) → ∀ j, j < ws.length → colR (mulR T (tableR ws [P, Q])) j = itR ws P Q (k + 2) (eR ws.length j) := by
  intro k T hT h j hj
  have hp : ∀ p ∈ [P, Q], PrOk ws.length p := by
    intro p hp
    rcases List.mem_cons.mp hp with rfl | hp
    · exact hP
    · rw [List.mem_singleton.mp hp]; exact hQ
  rw [mul_col hT.l hj, table_dot (by rw [h j hj, it_len]; unfold eR; simp) hp, h j hj]
  rfl
theorem times_go {ws : List Int} {P Q : Int} (hP : PrOk ws.length P) (hQ : PrOk ws.length Q) {n : Option Nat} : ∀ (f k : Nat) (T : List (List Rat)), 1 ≤ k → Sq0 ws.length T → (∀ j, j < ws.length → colR T j = itR ws P Q k (eR ws.length j)) →
    (∀ i, k ≤ i → (∀ j, j < ws.length → itR ws P Q i (eR ws.length j) = eR ws.length j) → (∃ m, n = some m ∧ m ≤ i)) → (∀ m, n = some m → k ≤ m ∧ m < k + f ∧ ∀ j, j < ws.length → itR ws P Q m (eR ws.length j) = eR ws.length j) →
    timesR (tableR ws [P, Q]) (restR ws.length) f k T = n
  | 0, k, T, hk, hT, hc, hno, hyes => by
    cases n with
    | none => rfl
    | some m =>
      obtain ⟨h1, h2, _⟩ := hyes m rfl
      omega
  | f + 1, k, T, hk, hT, hc, hno, hyes => by
    unfold timesR
    have hrs := rest_sq ws.length
    by_cases e : T = restR ws.length
    · rw [if_pos e]
      obtain ⟨m, hm, hmk⟩ := hno k (Nat.le_refl k) fun j hj => by rw [← hc j hj, e, rest_col hj]
      obtain ⟨h1, _, _⟩ := hyes m hm
      rw [hm]
      congr 1
      omega
    · rw [if_neg e]
      obtain ⟨k', rfl⟩ : ∃ k', k = k' + 1 := ⟨k - 1, by omega⟩
      have hp : ∀ p ∈ [P, Q], PrOk ws.length p := by
        intro p hp
        rcases List.mem_cons.mp hp with rfl | hp
        · exact hP
        · rw [List.mem_singleton.mp hp]; exact hQ
      refine times_go hP hQ f (k' + 1 + 1) _ (by omega) (mul_sq hT.l (table_sq hp).l) (tab_it hP hQ k' T hT hc) (fun i hi h => hno i (by omega) h) (fun m hm => ?_)
      obtain ⟨h1, h2, h3⟩ := hyes m hm
      refine ⟨?_, by omega, h3⟩
      rcases Nat.lt_or_ge (k' + 1) m with z | z
      · omega
      · have hmk : m = k' + 1 := by omega
        subst hmk
        refine absurd (tab_ext hT hrs fun j hj => ?_) e
        rw [hc j hj, h3 j hj, rest_col hj]
/-- s below 4 and whole: 1, 2 or 3 -/
theorem order_cases {s : Rat} (h0 : 0 < s) (h4 : s < 4) : (s = 1 ∧ orderR s = some 3) ∨ (s = 2 ∧ orderR s = some 4) ∨ (s = 3 ∧ orderR s = some 6) ∨ (s.den ≠ 1 ∧ orderR s = none) := by
  by_cases hd : s.den = 1
  · have hs : s = ((s.num : Int) : Rat) := by
      have h : s * (s.den : Rat) = (s.num : Rat) := num_den s
      rw [hd] at h
      have : ((1 : Nat) : Rat) = 1 := rfl
      rw [this] at h
      grind
    generalize s.num = z at hs
    subst hs
    have a1 : 0 < z := Rat.intCast_pos.mp h0
    have a2 : z < 4 := Rat.intCast_lt_intCast.mp h4
    have : z = 1 ∨ z = 2 ∨ z = 3 := by omega
    rcases this with rfl | rfl | rfl
    · exact .inl ⟨rfl, by decide +kernel⟩
    · exact .inr (.inl ⟨rfl, by decide +kernel⟩)
    · exact .inr (.inr (.inl ⟨rfl, by decide +kernel⟩))
  · refine .inr (.inr (.inr ⟨hd, ?_⟩))
    unfold orderR
    rw [if_neg (fun z => hd (by rw [z]; rfl)), if_neg (fun z => hd (by rw [z]; rfl)), if_neg (fun z => hd (by rw [z]; rfl))]
def toNatO (o : Option Int) : Option Nat := o.map Int.toNat
/-- the order by tables -/
theorem Two.times {ws : List Int} {P Q : Int} {g h : Rat} (T : Two ws P Q g h) (hg : g ≠ 0) (hh : h ≠ 0) (h0 : 0 < g * h) (h4 : g * h < 4) {j : Nat} (hj : j < ws.length)
    (hv : (closeR (eR ws.length j) P = 0 ∧ closeR (eR ws.length j) Q ≠ 0) ∨ (closeR (eR ws.length j) Q = 0 ∧ closeR (eR ws.length j) P ≠ 0)) :
    timesR (tableR ws [P, Q]) (restR ws.length) 6 1 (tableR ws [P, Q]) = toNatO (orderR (g * h)) := by
  have hp : ∀ p ∈ [P, Q], PrOk ws.length p := by
    intro p hp
    rcases List.mem_cons.mp hp with rfl | hp
    · exact T.p
    · rw [List.mem_singleton.mp hp]; exact T.q
  have hl : (eR ws.length j).length = ws.length := by unfold eR; simp
  refine times_go T.p T.q 6 1 _ (by omega) (table_sq hp) (fun j hj => by rw [table_col hj hp]; rfl) (fun i hi hret => ?_) (fun m hm => ?_)
  · have u := T.only hg hh hl hv (i := i) (j := 0) (hret j hj)
    have u0 : uR (g * h) 0 = (0, -1) := rfl
    rw [u0] at u
    rcases order_cases h0 h4 with ⟨e, eo⟩ | ⟨e, eo⟩ | ⟨e, eo⟩ | ⟨e, eo⟩
    · rw [e] at u
      rw [eo]
      refine ⟨3, rfl, ?_⟩
      rcases Nat.lt_or_ge i 3 with z | z
      · have := u_three z u; omega
      · exact z
    · rw [e] at u
      rw [eo]
      refine ⟨4, rfl, ?_⟩
      rcases Nat.lt_or_ge i 4 with z | z
      · have := u_four z u; omega
      · exact z
    · rw [e] at u
      rw [eo]
      refine ⟨6, rfl, ?_⟩
      rcases Nat.lt_or_ge i 6 with z | z
      · have := u_six z u; omega
      · exact z
    · exact absurd u.1.symm (u_inj e (i := 0) (j := i) (by omega))
  · have bk : ∀ n, (g * h = 1 ∧ n = 3) ∨ (g * h = 2 ∧ n = 4) ∨ (g * h = 3 ∧ n = 6) → ∀ j, j < ws.length → itR ws P Q n (eR ws.length j) = eR ws.length j := fun n hn j _ => T.back hn (by unfold eR; simp)
    rcases order_cases h0 h4 with ⟨e, eo⟩ | ⟨e, eo⟩ | ⟨e, eo⟩ | ⟨e, eo⟩
    · rw [eo] at hm
      cases hm
      exact ⟨by decide, by decide, bk 3 (.inl ⟨e, rfl⟩)⟩
    · rw [eo] at hm
      cases hm
      exact ⟨by decide, by decide, bk 4 (.inr (.inl ⟨e, rfl⟩))⟩
    · rw [eo] at hm
      cases hm
      exact ⟨by decide, by decide, bk 6 (.inr (.inr ⟨e, rfl⟩))⟩
    · rw [eo] at hm
      cases hm
/-! ### two neighbouring pairs of a row -/
def sR (ws : List Int) (p : Int) : Rat := gainR ws p (p + 1) * gainR ws (p + 1) p
theorem up_i {n : Nat} {p : Int} (hp : PrOk n p) (hq : PrOk n (p + 1)) : ∃ i : Nat, p + 1 = (i : Int) ∧ i + 1 < n ∧ (p = -1 ∨ ∃ k : Nat, p = (k : Int) ∧ i = k + 1) := by
  rcases hq with ⟨e, hn⟩ | ⟨i, e, hi⟩
  · rcases hp with ⟨rfl, _⟩ | ⟨j, rfl, _⟩ <;> omega
  · refine ⟨i, e, hi, ?_⟩
    rcases hp with ⟨rfl, _⟩ | ⟨j, rfl, _⟩
    · exact .inl rfl
    · exact .inr ⟨j, rfl, by omega⟩
theorem frac_pos {a b : Int} (ha : 1 ≤ a) (hb : 1 ≤ b) : (0 : Rat) < 2 * (a : Rat) / ((a : Rat) + (b : Rat)) ∧ 2 * (a : Rat) / ((a : Rat) + (b : Rat)) < 2 := by
  have h1 : (0 : Rat) < (a : Rat) := Rat.intCast_pos.mpr (by omega)
  have h2 : (0 : Rat) < (b : Rat) := Rat.intCast_pos.mpr (by omega)
  have h3 : (0 : Rat) < (a : Rat) + (b : Rat) := by grind
  rw [Rat.div_def]
  have hi : 0 < ((a : Rat) + (b : Rat))⁻¹ := Rat.inv_pos.mpr h3
  have hc : ((a : Rat) + (b : Rat)) * ((a : Rat) + (b : Rat))⁻¹ = 1 := Rat.mul_inv_cancel _ (by grind)
  generalize ((a : Rat) + (b : Rat))⁻¹ = i at *
  refine ⟨Rat.mul_pos (by grind) hi, ?_⟩
  have : 0 < (b : Rat) * i := Rat.mul_pos h2 hi
  grind
theorem gain_pos {ws : List Int} {p q : Int} (hw : ∀ x ∈ ws, 1 ≤ x ∧ x ≤ 9) (hp : PrOk ws.length p) : 0 < gainR ws p q ∧ gainR ws p q ≤ 2 ∧ (p ≠ -1 → gainR ws p q < 2) := by
  rcases hp with ⟨rfl, hn⟩ | ⟨i, rfl, hi⟩
  · unfold gainR
    rw [if_pos (by decide)]
    exact ⟨by decide, by decide, fun z => absurd rfl z⟩
  · rw [gain_val hw hi]
    have ha := hw _ (mem_getD (show i < ws.length by omega) 1)
    have hb := hw _ (mem_getD hi 1)
    generalize ws.getD i 1 = a at *
    generalize ws.getD (i + 1) 1 = b at *
    split
    · have := frac_pos ha.1 hb.1
      exact ⟨this.1, by grind, fun _ => this.2⟩
    · have := frac_pos hb.1 ha.1
      have e : (b : Rat) + (a : Rat) = (a : Rat) + (b : Rat) := by grind
      rw [e] at this
      exact ⟨this.1, by grind, fun _ => this.2⟩
theorem s_range {ws : List Int} {p : Int} (hw : ∀ x ∈ ws, 1 ≤ x ∧ x ≤ 9) (hp : PrOk ws.length p) (hq : PrOk ws.length (p + 1)) : 0 < sR ws p ∧ sR ws p < 4 := by
  obtain ⟨a1, a2, _⟩ := gain_pos (q := p + 1) hw hp
  obtain ⟨b1, b2, b3⟩ := gain_pos (q := p) hw hq
  have hne : p + 1 ≠ -1 := by
    rcases hp with ⟨rfl, _⟩ | ⟨j, rfl, _⟩ <;> omega
  have b4 := b3 hne
  unfold sR
  refine ⟨Rat.mul_pos a1 b1, ?_⟩
  generalize gainR ws p (p + 1) = g at *
  generalize gainR ws (p + 1) p = h at *
  have : 0 < g * (2 - h) := Rat.mul_pos a1 (by grind)
  grind
theorem two_up {ws : List Int} {p : Int} (hw : ∀ x ∈ ws, 1 ≤ x ∧ x ≤ 9) (hp : PrOk ws.length p) (hq : PrOk ws.length (p + 1)) : Two ws p (p + 1) (gainR ws p (p + 1)) (gainR ws (p + 1) p) := ⟨hw, hp, hq, AR_up hw hp hq, AR_down hw hp hq⟩
theorem two_down {ws : List Int} {p : Int} (hw : ∀ x ∈ ws, 1 ≤ x ∧ x ≤ 9) (hp : PrOk ws.length p) (hq : PrOk ws.length (p + 1)) : Two ws (p + 1) p (gainR ws (p + 1) p) (gainR ws p (p + 1)) := ⟨hw, hq, hp, AR_down hw hp hq, AR_up hw hp hq⟩
theorem e_at {n j k : Nat} (hk : k < n) : (eR n j).getD k 0 = if j = k then 1 else 0 := by
  unfold eR
  rw [List.getD_eq_getElem?_getD, List.getElem?_map, List.getElem?_range hk]; rfl
/-- a start at which one pair comes to nothing, the other does not -/
theorem start {n : Nat} {p : Int} (hp : PrOk n p) (hq : PrOk n (p + 1)) : ∃ j, j < n ∧ closeR (eR n j) p = 0 ∧ closeR (eR n j) (p + 1) ≠ 0 := by
  obtain ⟨i, e, hi, h⟩ := up_i hp hq
  refine ⟨i + 1, hi, ?_, ?_⟩
  · rcases h with rfl | ⟨k, rfl, rfl⟩
    · have : i = 0 := by omega
      subst this
      unfold closeR
      rw [if_pos rfl, e_at (by omega), if_neg (by omega)]; decide +kernel
    · unfold closeR
      rw [if_neg (by omega), Int.toNat_natCast, e_at (by omega), e_at (by omega), if_neg (by omega), if_neg (by omega)]; decide +kernel
  · rw [e]
    unfold closeR
    rw [if_neg (by omega), Int.toNat_natCast, e_at (by omega), e_at (by omega), if_neg (by omega), if_pos rfl]; decide +kernel
theorem times_up {ws : List Int} {p : Int} (hw : ∀ x ∈ ws, 1 ≤ x ∧ x ≤ 9) (hp : PrOk ws.length p) (hq : PrOk ws.length (p + 1)) : timesR (tableR ws [p, p + 1]) (restR ws.length) 6 1 (tableR ws [p, p + 1]) = toNatO (orderR (sR ws p)) := by
  obtain ⟨j, hj, h1, h2⟩ := start hp hq
  have g1 := (gain_pos (q := p + 1) hw hp).1
  have g2 := (gain_pos (q := p) hw hq).1
  have r := s_range hw hp hq
  exact (two_up hw hp hq).times (by grind) (by grind) r.1 r.2 hj (.inl ⟨h1, h2⟩)
theorem times_down {ws : List Int} {p : Int} (hw : ∀ x ∈ ws, 1 ≤ x ∧ x ≤ 9) (hp : PrOk ws.length p) (hq : PrOk ws.length (p + 1)) : timesR (tableR ws [p + 1, p]) (restR ws.length) 6 1 (tableR ws [p + 1, p]) = toNatO (orderR (sR ws p)) := by
  obtain ⟨j, hj, h1, h2⟩ := start hp hq
  have g1 := (gain_pos (q := p + 1) hw hp).1
  have g2 := (gain_pos (q := p) hw hq).1
  have r := s_range hw hp hq
  have e : sR ws p = gainR ws (p + 1) p * gainR ws p (p + 1) := by unfold sR; exact Rat.mul_comm _ _
  rw [e] at r ⊢
  exact (two_down hw hp hq).times (by grind) (by grind) r.1 r.2 hj (.inr ⟨h1, h2⟩)
/-- like rows -/
theorem like_eq {ws : List Int} (h : isLike ws = true) {i : Nat} (hi : i < ws.length) : ws.getD i 1 = ws.getD 0 0 := by
  unfold isLike at h
  rw [List.all_eq_true] at h
  exact of_decide_eq_true (h _ (mem_getD hi 1))
theorem like_gain {ws : List Int} (hw : ∀ x ∈ ws, 1 ≤ x ∧ x ≤ 9) (h : isLike ws = true) {i : Nat} (hi : i + 1 < ws.length) (q : Int) : gainR ws (i : Int) q = 1 := by
  rw [gain_val hw hi]
  have ha := hw _ (mem_getD (show i < ws.length by omega) 1)
  rw [like_eq h (i := i) (by omega)] at ha ⊢
  rw [like_eq h hi]
  generalize ws.getD 0 0 = a at *
  rw [ite_self]
  have h1 : (0 : Rat) < (a : Rat) := Rat.intCast_pos.mpr (by omega)
  grind
theorem returns_like : (∀ n : Fin 5, ∀ wall : Bool, (pairsOf n.val wall).length ≤ 3 → ∀ p ∈ pairsOf n.val wall, p + 1 ∈ pairsOf n.val wall → likeR n.val [p, p + 1] = (if p = -1 then 4 else 3) ∧ likeR n.val [p + 1, p] = if p = -1 then 4 else 3) := by decide +kernel
/-- returns_after, both ways round -/
theorem returns_ok {ws : List Int} {wall : Bool} {p : Int} (W : Wk ws wall) (hp : p ∈ pairsOf ws.length wall) (hq : p + 1 ∈ pairsOf ws.length wall) : returnsR ws [p, p + 1] = toNatO (orderR (sR ws p)) ∧ returnsR ws [p + 1, p] = toNatO (orderR (sR ws p)) := by
  have ok1 := pairs_ok W.pos hp
  have ok2 := pairs_ok W.pos hq
  unfold returnsR
  cases hL : isLike ws with
  | false => exact ⟨times_up W.w ok1 ok2, times_down W.w ok1 ok2⟩
  | true =>
    have hn := W.n
    have hr := returns_like ⟨ws.length, by omega⟩ wall W.g p hp hq
    rw [if_pos rfl, if_pos rfl, hr.1, hr.2]
    have e : toNatO (orderR (sR ws p)) = some (if p = -1 then 4 else 3) := by
      obtain ⟨i, e, hi, h⟩ := up_i ok1 ok2
      unfold sR
      rcases h with rfl | ⟨k, rfl, rfl⟩
      · rw [e, like_gain W.w hL hi]
        have : gainR ws (-1) (i : Int) = 2 := by unfold gainR; rw [if_pos (by decide)]
        rw [this, if_pos rfl]
        decide +kernel
      · rw [e, like_gain W.w hL hi, like_gain W.w hL (by omega), if_neg (by omega)]
        decide +kernel
    rw [e]
    exact ⟨rfl, rfl⟩
end K74
namespace K74
/-! ## orders by hand, and how many tables -/
theorem getD_any {l : List Int} {i : Nat} (h : i < l.length) (d e : Int) : l.getD i d = l.getD i e := by
  rw [List.getD_eq_getElem?_getD, List.getD_eq_getElem?_getD, List.getElem?_eq_getElem h]; rfl
theorem ite_iff {a b : Prop} [Decidable a] [Decidable b] {α : Type} {x y z w : α} (h : a ↔ b) (e : x = z) (f : y = w) : (if a then x else y) = if b then z else w := by
  subst e f
  by_cases ha : a
  · rw [if_pos ha, if_pos (h.mp ha)]
  · rw [if_neg ha, if_neg (fun z => ha (h.mpr z))]
theorem order_frac {s : Rat} {t b : Int} (hb : 0 < b) (h : s * (b : Rat) = (t : Rat)) : orderR s = handO (t, b) := by
  have hb2 : (b : Rat) ≠ 0 := by
    have : (0 : Rat) < (b : Rat) := Rat.intCast_pos.mpr hb
    grind
  have key : ∀ k : Int, s = (k : Rat) ↔ t = k * b := by
    intro k
    constructor
    · intro e
      rw [e, ← Rat.intCast_mul] at h
      exact (Rat.intCast_inj.mp h).symm
    · intro e
      rw [e, Rat.intCast_mul] at h
      exact rcan hb2 (by rw [Rat.mul_comm, h, Rat.mul_comm])
  unfold orderR handO
  exact ite_iff (key 1) rfl (ite_iff (key 2) rfl (ite_iff (key 3) rfl rfl))
theorem pairs_at {n : Nat} {wall : Bool} {i : Nat} (h : i < (pairsOf n wall).length) : (pairsOf n wall)[i]? = some (firstOf wall + (i : Int)) := by
  unfold pairsOf at h ⊢
  rw [List.length_map, List.length_range] at h
  rw [List.getElem?_map, List.getElem?_range h]; rfl
theorem pairs_mem {n : Nat} {wall : Bool} {i : Nat} (h : i < (pairsOf n wall).length) : firstOf wall + (i : Int) ∈ pairsOf n wall := List.mem_of_getElem? (pairs_at h)
theorem pairs_len (n : Nat) (wall : Bool) : ((pairsOf n wall).length : Int) = max 0 ((n : Int) - 1 - firstOf wall) := by
  unfold pairsOf
  rw [List.length_map, List.length_range]
  omega
/-- the order of the pairs at i and i + 1, by hand -/
theorem hand_s {ws : List Int} {wall : Bool} {i : Nat} (W : Wk ws wall) (h : i + 1 < (pairsOf ws.length wall).length) : orderR (sR ws (firstOf wall + (i : Int))) = handR ws wall i := by
  have hl := pairs_len ws.length wall
  unfold handR handT
  cases wall with
  | false =>
    have e0 : firstOf false + (i : Int) = (i : Int) := by unfold firstOf; simp
    have hi : i + 2 < ws.length := by
      unfold firstOf at hl
      simp at hl
      omega
    rw [e0, if_neg (by simp), if_neg (by decide)]
    have ha := W.w _ (mem_getD (show i < ws.length by omega) 0)
    have hb := W.w _ (mem_getD (show i + 1 < ws.length by omega) 0)
    have hc := W.w _ (mem_getD hi 0)
    have e1 : (i : Int) + 1 = ((i + 1 : Nat) : Int) := by omega
    unfold sR
    rw [e1, gain_val W.w (by omega), gain_val W.w hi, if_pos (by omega), if_neg (by omega), getD_any (show i < ws.length by omega) 1 0, getD_any (show i + 1 < ws.length by omega) 1 0, getD_any (show i + 1 + 1 < ws.length by omega) 1 0]
    show _ = handO (4 * ws.getD i 0 * ws.getD (i + 1 + 1) 0, (ws.getD i 0 + ws.getD (i + 1) 0) * (ws.getD (i + 1) 0 + ws.getD (i + 1 + 1) 0))
    generalize ws.getD i 0 = a at *
    generalize ws.getD (i + 1) 0 = b at *
    have hc2 : 1 ≤ ws.getD (i + 1 + 1) 0 := hc.1
    generalize ws.getD (i + 1 + 1) 0 = c at *
    have p1 : (0 : Rat) < (a : Rat) + (b : Rat) := by rw [← Rat.intCast_add]; exact Rat.intCast_pos.mpr (by omega)
    have p2 : (0 : Rat) < (b : Rat) + (c : Rat) := by rw [← Rat.intCast_add]; exact Rat.intCast_pos.mpr (by omega)
    refine order_frac (Int.mul_pos (by omega) (by omega)) ?_
    simp only [Rat.intCast_mul, Rat.intCast_add]
    have e4 : ((4 : Int) : Rat) = 4 := rfl
    rw [e4]
    have n1 : (a : Rat) + (b : Rat) ≠ 0 := by grind
    have n2 : (b : Rat) + (c : Rat) ≠ 0 := by grind
    grind
  | true =>
    have hi : i + 1 < ws.length := by
      unfold firstOf at hl
      simp at hl
      omega
    cases i with
    | zero =>
      rw [if_pos ⟨rfl, rfl⟩]
      have ha := W.w _ (mem_getD (show 0 < ws.length by omega) 0)
      have hb := W.w _ (mem_getD (show 1 < ws.length by omega) 0)
      have e0 : firstOf true + ((0 : Nat) : Int) = -1 := by decide
      rw [e0]
      unfold sR
      have e1 : (-1 : Int) + 1 = ((0 : Nat) : Int) := by decide
      rw [e1, gain_val W.w (by omega), if_neg (by decide), getD_any (show 0 < ws.length by omega) 1 0, getD_any (show 0 + 1 < ws.length by omega) 1 0]
      have : gainR ws (-1) ((0 : Nat) : Int) = 2 := by unfold gainR; rw [if_pos (by decide)]
      rw [this]
      show _ = handO (4 * ws.getD (0 + 1) 0, ws.getD 0 0 + ws.getD (0 + 1) 0)
      have hb2 : 1 ≤ ws.getD (0 + 1) 0 := hb.1
      generalize ws.getD 0 0 = a at *
      generalize ws.getD (0 + 1) 0 = b at *
      have p1 : (0 : Rat) < (a : Rat) + (b : Rat) := by rw [← Rat.intCast_add]; exact Rat.intCast_pos.mpr (by omega)
      refine order_frac (by omega) ?_
      simp only [Rat.intCast_mul, Rat.intCast_add]
      have e4 : ((4 : Int) : Rat) = 4 := rfl
      rw [e4]
      have n1 : (a : Rat) + (b : Rat) ≠ 0 := by grind
      grind
    | succ k =>
      have e0 : firstOf true + ((k + 1 : Nat) : Int) = (k : Int) := by unfold firstOf; rw [if_pos rfl]; omega
      rw [e0, if_neg (by simp), if_pos rfl]
      have ha := W.w _ (mem_getD (show k < ws.length by omega) 0)
      have hb := W.w _ (mem_getD (show k + 1 < ws.length by omega) 0)
      have hc := W.w _ (mem_getD (show k + 1 + 1 < ws.length by omega) 0)
      have e1 : (k : Int) + 1 = ((k + 1 : Nat) : Int) := by omega
      unfold sR
      rw [e1, gain_val W.w (by omega), gain_val W.w hi, if_pos (by omega), if_neg (by omega), getD_any (show k < ws.length by omega) 1 0, getD_any (show k + 1 < ws.length by omega) 1 0, getD_any (show k + 1 + 1 < ws.length by omega) 1 0]
      show _ = handO (4 * ws.getD k 0 * ws.getD (k + 1 + 1) 0, (ws.getD k 0 + ws.getD (k + 1) 0) * (ws.getD (k + 1) 0 + ws.getD (k + 1 + 1) 0))
      generalize ws.getD k 0 = a at *
      generalize ws.getD (k + 1) 0 = b at *
      generalize ws.getD (k + 1 + 1) 0 = c at *
      have p1 : (0 : Rat) < (a : Rat) + (b : Rat) := by rw [← Rat.intCast_add]; exact Rat.intCast_pos.mpr (by omega)
      have p2 : (0 : Rat) < (b : Rat) + (c : Rat) := by rw [← Rat.intCast_add]; exact Rat.intCast_pos.mpr (by omega)
      refine order_frac (Int.mul_pos (by omega) (by omega)) ?_
      simp only [Rat.intCast_mul, Rat.intCast_add]
      have e4 : ((4 : Int) : Rat) = 4 := rfl
      rw [e4]
      have n1 : (a : Rat) + (b : Rat) ≠ 0 := by grind
      have n2 : (b : Rat) + (c : Rat) ≠ 0 := by grind
      grind
def dueR (ws : List Int) (wall : Bool) : List (Option Int) := (List.range ((pairsOf ws.length wall).length - 1)).map (handR ws wall)
theorem orders_due {ws : List Int} {wall : Bool} (W : Wk ws wall) : ordersR ws wall = dueR ws wall := by
  refine List.ext_getElem? fun i => ?_
  unfold ordersR dueR
  simp only [List.getElem?_zipWith, List.getElem?_map, List.getElem?_drop]
  rcases Nat.lt_or_ge (i + 1) (pairsOf ws.length wall).length with h | h
  · rw [pairs_at (show i < (pairsOf ws.length wall).length by omega), pairs_at (show 1 + i < (pairsOf ws.length wall).length by omega), List.getElem?_range (by omega)]
    show some (orderR (gainR ws (firstOf wall + (i : Int)) (firstOf wall + ((1 + i : Nat) : Int)) * gainR ws (firstOf wall + ((1 + i : Nat) : Int)) (firstOf wall + (i : Int)))) = some (handR ws wall i)
    rw [← hand_s W h]
    have e : firstOf wall + ((1 + i : Nat) : Int) = firstOf wall + (i : Int) + 1 := by omega
    rw [e]
    rfl
  · rw [List.getElem?_eq_none (show (pairsOf ws.length wall).length ≤ 1 + i by omega), List.getElem?_eq_none (l := List.range _) (by rw [List.length_range]; omega)]
    cases (pairsOf ws.length wall)[i]? <;> rfl
/-- what the law asks of the repeated words -/
theorem word_due {ws : List Int} {wall : Bool} {i : Nat} (W : Wk ws wall) (h : i + 1 < (pairsOf ws.length wall).length) {p : Int} (hp : p = firstOf wall + (i : Int)) :
    returnsR ws [p, p + 1] = toNatO (handR ws wall i) ∧ returnsR ws [p + 1, p] = toNatO (handR ws wall i) := by
  subst hp
  rw [← hand_s W h]
  refine returns_ok W (pairs_mem (by omega)) ?_
  have := pairs_mem (n := ws.length) (wall := wall) (i := i + 1) h
  have e : firstOf wall + ((i + 1 : Nat) : Int) = firstOf wall + (i : Int) + 1 := by omega
  rw [e] at this
  exact this
theorem hand_opt (ws : List Int) (wall : Bool) (i : Nat) : optV (toNatO (handR ws wall i)) = optI (handR ws wall i) := by
  unfold handR handO
  split
  · rfl
  · split
    · rfl
    · split <;> rfl
/-! ### all tables -/
theorem nodup_le {α : Type} [DecidableEq α] : ∀ {l m : List α}, l.Nodup → (∀ x ∈ l, x ∈ m) → l.length ≤ m.length
  | [], _, _, _ => Nat.zero_le _
  | a :: l, m, h, hm => by
    have ha := hm a List.mem_cons_self
    have hn := List.nodup_cons.mp h
    have ih := nodup_le (l := l) (m := m.erase a) hn.2 fun x hx => (List.mem_erase_of_ne (fun e => hn.1 (by rw [← e]; exact hx))).mpr (hm x (List.mem_cons_of_mem _ hx))
    rw [List.length_erase_of_mem ha] at ih
    have : 0 < m.length := List.length_pos_of_mem ha
    simp only [List.length_cons]
    omega
theorem bfsOne_keep {ws w : List Int} {T : List (List Rat)} : ∀ {ps : List Int} {st st' : Fnd}, bfsOne ws w T ps st = some st' → st.length ≤ 48 → st'.length ≤ 48 ∧ (∃ r, st' = st ++ r) ∧ ∀ p ∈ ps, behindR ws T p ∈ st'.map (·.2)
  | [], st, st', h, hl => by
    cases h
    exact ⟨hl, ⟨[], by simp⟩, fun p hp => by cases hp⟩
  | p :: ps, st, st', h, hl => by
    rw [bfsOne] at h
    by_cases hm : behindR ws T p ∈ st.map (·.2)
    · simp only [if_pos hm] at h
      obtain ⟨a, ⟨r, b⟩, c⟩ := bfsOne_keep h hl
      refine ⟨a, ⟨r, b⟩, fun q hq => ?_⟩
      rcases List.mem_cons.mp hq with rfl | hq
      · rw [b, List.map_append]
        exact List.mem_append_left _ hm
      · exact c q hq
    · simp only [if_neg hm] at h
      by_cases h48 : st.length = 48
      · rw [if_pos h48] at h; cases h
      · rw [if_neg h48] at h
        obtain ⟨a, ⟨r, b⟩, c⟩ := bfsOne_keep h (by rw [List.length_append]; simp only [List.length_cons, List.length_nil]; omega)
        refine ⟨a, ⟨[(w ++ [p], behindR ws T p)] ++ r, by rw [b, List.append_assoc]⟩, fun q hq => ?_⟩
        rcases List.mem_cons.mp hq with rfl | hq
        · rw [b, List.map_append, List.map_append]
          exact List.mem_append_left _ (List.mem_append_right _ (by simp))
        · exact c q hq
theorem bfsAll_keep {ws ps : List Int} : ∀ {f k : Nat} {st st' : Fnd}, bfsAll ws ps f k st = some st' → st.length ≤ 48 → f + k = 49 → (∀ i, i < k → ∀ x, st[i]? = some x → ∀ p ∈ ps, behindR ws x.2 p ∈ st.map (·.2)) →
    st'.length ≤ 48 ∧ (∃ r, st' = st ++ r) ∧ ∀ x ∈ st', ∀ p ∈ ps, behindR ws x.2 p ∈ st'.map (·.2)
  | 0, k, st, st', h, hl, hk, hd => by
    rw [bfsAll] at h
    cases h
    refine ⟨hl, ⟨[], by simp⟩, fun x hx => ?_⟩
    obtain ⟨i, hi, e⟩ := List.mem_iff_getElem.mp hx
    exact hd i (by omega) x (by rw [List.getElem?_eq_getElem hi, e])
  | f + 1, k, st, st', h, hl, hk, hd => by
    rw [bfsAll] at h
    cases hx : st[k]? with
    | none =>
      rw [hx] at h
      cases h
      refine ⟨hl, ⟨[], by simp⟩, fun x hx2 => ?_⟩
      obtain ⟨i, hi, e⟩ := List.mem_iff_getElem.mp hx2
      have : st.length ≤ k := List.getElem?_eq_none_iff.mp hx
      exact hd i (by omega) x (by rw [List.getElem?_eq_getElem hi, e])
    | some x =>
      rw [hx] at h
      simp only at h
      cases ho : bfsOne ws x.1 x.2 ps st with
      | none => rw [ho] at h; cases h
      | some st2 =>
        rw [ho] at h
        simp only at h
        obtain ⟨a, ⟨r, b⟩, c⟩ := bfsOne_keep ho hl
        obtain ⟨a2, ⟨r2, b2⟩, c2⟩ := bfsAll_keep h a (by omega) fun i hi y hy p hp => by
          rcases Nat.lt_or_ge i k with z | z
          · have hy2 : st[i]? = some y := by
              have hik : i < st.length := by
                have := (List.getElem?_eq_some_iff.mp hx).1
                omega
              rw [b, List.getElem?_append_left hik] at hy
              exact hy
            have := hd i z y hy2 p hp
            rw [b, List.map_append]
            exact List.mem_append_left _ this
          · have e : i = k := by omega
            subst e
            have hik := (List.getElem?_eq_some_iff.mp hx).1
            rw [b, List.getElem?_append_left hik, hx] at hy
            cases hy
            exact c p hp
        exact ⟨a2, ⟨r ++ r2, by rw [b2, b, List.append_assoc]⟩, c2⟩
theorem allR_keep {ws : List Int} {wall : Bool} {st : Fnd} (h : allR ws wall = some st) : st.length ≤ 48 ∧ restR ws.length ∈ st.map (·.2) ∧ ∀ x ∈ st, ∀ p ∈ pairsOf ws.length wall, behindR ws x.2 p ∈ st.map (·.2) := by
  obtain ⟨a, ⟨r, b⟩, c⟩ := bfsAll_keep h (by simp) rfl fun i hi => by omega
  exact ⟨a, by rw [b]; simp, c⟩
theorem table_snoc (ws w : List Int) (p : Int) : tableR ws (w ++ [p]) = behindR ws (tableR ws w) p := by
  unfold tableR
  rw [List.foldl_append]
  rfl
theorem allR_words {ws : List Int} {wall : Bool} {st : Fnd} (h : allR ws wall = some st) : ∀ (k : Nat) (w : List Int), w.length = k → (∀ p ∈ w, p ∈ pairsOf ws.length wall) → tableR ws w ∈ st.map (·.2) := by
  obtain ⟨_, b, c⟩ := allR_keep h
  intro k
  induction k with
  | zero =>
    intro w hw _
    rw [List.length_eq_zero_iff.mp hw]
    exact b
  | succ k ih =>
    intro w hw hp
    have hne : w ≠ [] := fun z => by rw [z] at hw; cases hw
    have e := List.dropLast_concat_getLast hne
    rw [← e, table_snoc]
    have m := ih w.dropLast (by rw [List.length_dropLast]; omega) fun p hp2 => hp p ((List.dropLast_sublist _).subset hp2)
    obtain ⟨x, hx, ex⟩ := List.mem_map.mp m
    rw [← ex]
    exact c x hx _ (hp _ (List.getLast_mem hne))
def wkR (p : Int) : Nat → List Int
  | 0 => []
  | k + 1 => wkR p k ++ [p, p + 1]
theorem wk_it (ws : List Int) (p : Int) (v : List Rat) : ∀ k, afterR ws v (wkR p k) = itR ws p (p + 1) k v
  | 0 => rfl
  | k + 1 => by
    show afterR ws v (wkR p k ++ [p, p + 1]) = _
    rw [after_app, wk_it ws p v k]
    rfl
theorem wk_mem {p : Int} : ∀ {k : Nat} {q : Int}, q ∈ wkR p k → q = p ∨ q = p + 1
  | 0, q, h => by cases h
  | k + 1, q, h => by
    rcases List.mem_append.mp h with h | h
    · exact wk_mem h
    · simpa using h
/-- a pair of pairs without an order: more than 48 tables -/
theorem all_none {ws : List Int} {wall : Bool} (W : Wk ws wall) (h : none ∈ ordersR ws wall) : allR ws wall = none := by
  cases hA : allR ws wall with
  | none => rfl
  | some st =>
    exfalso
    rw [orders_due W] at h
    obtain ⟨i, hi, e⟩ := List.mem_map.mp h
    rw [List.mem_range] at hi
    have hi2 : i + 1 < (pairsOf ws.length wall).length := by omega
    rw [← hand_s W hi2] at e
    have hp := pairs_mem (n := ws.length) (wall := wall) (i := i) (by omega)
    have hq := pairs_mem (n := ws.length) (wall := wall) (i := i + 1) hi2
    have e1 : firstOf wall + ((i + 1 : Nat) : Int) = firstOf wall + (i : Int) + 1 := by omega
    rw [e1] at hq
    generalize firstOf wall + (i : Int) = p at *
    have ok1 := pairs_ok W.pos hp
    have ok2 := pairs_ok W.pos hq
    have hr := s_range W.w ok1 ok2
    have hd : (sR ws p).den ≠ 1 := by
      rcases order_cases hr.1 hr.2 with ⟨_, eo⟩ | ⟨_, eo⟩ | ⟨_, eo⟩ | ⟨hd, _⟩
      · rw [eo] at e; cases e
      · rw [eo] at e; cases e
      · rw [eo] at e; cases e
      · exact hd
    obtain ⟨j, hj, h1, h2⟩ := start ok1 ok2
    have g1 := (gain_pos (q := p + 1) W.w ok1).1
    have g2 := (gain_pos (q := p) W.w ok2).1
    have hwk : ∀ k, ∀ q ∈ wkR p k, q ∈ pairsOf ws.length wall := fun k q hq2 => by
      rcases wk_mem hq2 with rfl | rfl
      · exact hp
      · exact hq
    have hwo : ∀ k, ∀ q ∈ wkR p k, PrOk ws.length q := fun k q hq2 => pairs_ok W.pos (hwk k q hq2)
    have hlen : ((List.range 49).map fun k => tableR ws (wkR p k)).length ≤ (st.map (·.2)).length := by
      refine nodup_le ?_ fun x hx => ?_
      · refine List.pairwise_map.mpr (List.Pairwise.imp (R := fun a b => a < b) (fun {a b} hab he => ?_) List.pairwise_lt_range)
        have hv := after_of_table (hwo a) (hwo b) he (v := eR ws.length j) (by unfold eR; simp)
        rw [wk_it, wk_it] at hv
        have := ((two_up W.w ok1 ok2).only (by grind) (by grind) (by unfold eR; simp) (.inl ⟨h1, h2⟩) hv).1
        exact u_inj hd hab this
      · obtain ⟨k, _, rfl⟩ := List.mem_map.mp hx
        exact allR_words hA _ _ rfl (hwk k)
    have := (allR_keep hA).1
    rw [List.length_map, List.length_map, List.length_range] at hlen
    omega
end K74
namespace K74
/-! ## closed rows: roots and counts -/
def reflQ (ws ps : List Int) (r : List Rat) (i : Nat) : List Rat :=
  r.set i (let s1 := if 1 ≤ i ∧ i - 1 < r.length then (-1 : Rat) * r.getD i 0 + gainR ws (ps.getD i 0) (ps.getD (i - 1) 0) * r.getD (i - 1) 0 else (-1 : Rat) * r.getD i 0
    if i + 1 < r.length then s1 + gainR ws (ps.getD i 0) (ps.getD (i + 1) 0) * r.getD (i + 1) 0 else s1)
def castL (r : List Int) : List Rat := r.map fun (x : Int) => (x : Rat)
theorem castL_at (r : List Int) (i : Nat) : (castL r).getD i 0 = ((r.getD i 0 : Int) : Rat) := by
  unfold castL
  rw [List.getD_eq_getElem?_getD, List.getD_eq_getElem?_getD, List.getElem?_map]
  cases r[i]? <;> rfl
theorem reflQ_cast (ws ps r : List Int) (i : Nat) : reflQ ws ps (castL r) i = (castL r).set i (shareR ws ps r i) := by
  unfold reflQ shareR
  have hl : (castL r).length = r.length := by unfold castL; rw [List.length_map]
  simp only [castL_at, hl]
theorem value_dot (r : List Int) (cs : List Rat) : valueR r cs = dotR (castL r) cs := by
  unfold valueR dotR castL
  rw [List.zipWith_map_left]
theorem dot_smul (c : Rat) : ∀ (r cs : List Rat), dotR (r.map fun x => c * x) cs = c * dotR r cs
  | [], cs => by rw [List.map_nil, dot_nil]; grind
  | a :: r, [] => by simp [dotR]
  | a :: r, b :: cs => by rw [List.map_cons, dot_cons, dot_cons, dot_smul c r cs]; grind
/-- the row's pairs, one by one -/
theorem pairs_shape {ws : List Int} {wall : Bool} {f : Int} (W : Wk ws wall) (hf : f = firstOf wall) : (pairsOf ws.length wall = [f] ∧ PrOk ws.length f) ∨ (pairsOf ws.length wall = [f, f + 1] ∧ PrOk ws.length f ∧ PrOk ws.length (f + 1)) ∨ (pairsOf ws.length wall = [f, f + 1, f + 2] ∧ PrOk ws.length f ∧ PrOk ws.length (f + 1) ∧ PrOk ws.length (f + 2)) := by
  have hok : ∀ p ∈ pairsOf ws.length wall, PrOk ws.length p := fun p hp => pairs_ok W.pos hp
  have hl := pairs_len ws.length wall
  have hg := W.g
  have hlo := W.lo
  have h1 : 1 ≤ (pairsOf ws.length wall).length := by
    unfold firstOf at hl
    cases wall <;> simp at hl hlo <;> omega
  have e : pairsOf ws.length wall = (List.range (pairsOf ws.length wall).length).map fun (i : Nat) => f + (i : Int) := by
    conv => lhs; unfold pairsOf
    unfold pairsOf
    rw [List.length_map, List.length_range, hf]
  generalize (pairsOf ws.length wall).length = m at *
  have : m = 1 ∨ m = 2 ∨ m = 3 := by omega
  rcases this with rfl | rfl | rfl
  · have e2 : pairsOf ws.length wall = [f] := by rw [e]; simp [List.range, List.range.loop]
    exact .inl ⟨e2, hok _ (by rw [e2]; simp)⟩
  · have e2 : pairsOf ws.length wall = [f, f + 1] := by rw [e]; simp [List.range, List.range.loop]
    exact .inr (.inl ⟨e2, hok _ (by rw [e2]; simp), hok _ (by rw [e2]; simp)⟩)
  · have e2 : pairsOf ws.length wall = [f, f + 1, f + 2] := by rw [e]; simp [List.range, List.range.loop]
    exact .inr (.inr ⟨e2, hok _ (by rw [e2]; simp), hok _ (by rw [e2]; simp), hok _ (by rw [e2]; simp)⟩)
theorem dot1 (a x : Rat) : dotR [a] [x] = a * x := by rw [dot_cons, dot_nil]; grind
theorem dot2 (a b x y : Rat) : dotR [a, b] [x, y] = a * x + b * y := by rw [dot_cons, dot1]
theorem dot3 (a b c x y z : Rat) : dotR [a, b, c] [x, y, z] = a * x + b * y + c * z := by rw [dot_cons, dot2]; grind
/-- a clash, seen by a root -/
theorem dot_clash {ws : List Int} {wall : Bool} {v r : List Rat} {i : Nat} {p : Int} (W : Wk ws wall) (hl : v.length = ws.length) (hr : r.length = (pairsOf ws.length wall).length) (hp : (pairsOf ws.length wall)[i]? = some p) :
    dotR r (closingsR ws.length wall (clashR ws v p)) = dotR (reflQ ws (pairsOf ws.length wall) r i) (closingsR ws.length wall v) := by
  have hw := W.w
  have cc : ∀ p q, PrOk ws.length p → closeR (clashR ws v p) q = closeR v q - closeR v p * AR ws p q := fun p q h => close_clash hw hl h q
  unfold closingsR
  obtain ⟨f, hf⟩ : ∃ f, f = firstOf wall := ⟨_, rfl⟩
  rcases pairs_shape W hf with ⟨e, o1⟩ | ⟨e, o1, o2⟩ | ⟨e, o1, o2, o3⟩
  · rw [e] at hr hp ⊢
    match r, hr with
    | [a], _ =>
    match i, hp with
    | 0, hp =>
      injection hp with hp
      subst hp
      show dotR [a] [closeR (clashR ws v f) f] = dotR (reflQ ws [f] [a] 0) [closeR v f]
      have er : reflQ ws [f] [a] 0 = [-a] := by simp [reflQ]; grind
      rw [er, dot1, dot1, cc _ _ o1, AR_self hw o1]
      grind
  · rw [e] at hr hp ⊢
    have a12 := AR_up hw o1 o2
    have a21 := AR_down hw o1 o2
    match r, hr with
    | [a, b], _ =>
    match i, hp with
    | 0, hp =>
      injection hp with hp
      subst hp
      show dotR [a, b] [closeR (clashR ws v f) f, closeR (clashR ws v f) (f + 1)] = dotR (reflQ ws [f, f + 1] [a, b] 0) [closeR v f, closeR v (f + 1)]
      have er : reflQ ws [f, f + 1] [a, b] 0 = [(-1) * a + gainR ws f (f + 1) * b, b] := by simp [reflQ]
      rw [er, dot2, dot2, cc _ _ o1, cc _ _ o1, AR_self hw o1, a12]
      grind
    | 1, hp =>
      injection hp with hp
      subst hp
      show dotR [a, b] [closeR (clashR ws v (f + 1)) f, closeR (clashR ws v (f + 1)) (f + 1)] = dotR (reflQ ws [f, f + 1] [a, b] 1) [closeR v f, closeR v (f + 1)]
      have er : reflQ ws [f, f + 1] [a, b] 1 = [a, (-1) * b + gainR ws (f + 1) f * a] := by simp [reflQ]
      rw [er, dot2, dot2, cc _ _ o2, cc _ _ o2, AR_self hw o2, a21]
      grind
  · rw [e] at hr hp ⊢
    have a12 := AR_up hw o1 o2
    have a21 := AR_down hw o1 o2
    have e12 : f + 1 + 1 = f + 2 := by omega
    have a23 := AR_up hw o2 (by rw [e12]; exact o3)
    have a32 := AR_down hw o2 (by rw [e12]; exact o3)
    rw [e12] at a23 a32
    have a13 := AR_far (ws := ws) o1 o3 (by omega) (by omega) (by omega)
    have a31 := AR_far (ws := ws) o3 o1 (by omega) (by omega) (by omega)
    match r, hr with
    | [a, b, c], _ =>
    match i, hp with
    | 0, hp =>
      injection hp with hp
      subst hp
      show dotR [a, b, c] [closeR (clashR ws v f) f, closeR (clashR ws v f) (f + 1), closeR (clashR ws v f) (f + 2)] = dotR (reflQ ws [f, f + 1, f + 2] [a, b, c] 0) [closeR v f, closeR v (f + 1), closeR v (f + 2)]
      have er : reflQ ws [f, f + 1, f + 2] [a, b, c] 0 = [(-1) * a + gainR ws f (f + 1) * b, b, c] := by simp [reflQ]
      rw [er, dot3, dot3, cc _ _ o1, cc _ _ o1, cc _ _ o1, AR_self hw o1, a12, a13]
      grind
    | 1, hp =>
      injection hp with hp
      subst hp
      show dotR [a, b, c] [closeR (clashR ws v (f + 1)) f, closeR (clashR ws v (f + 1)) (f + 1), closeR (clashR ws v (f + 1)) (f + 2)] = dotR (reflQ ws [f, f + 1, f + 2] [a, b, c] 1) [closeR v f, closeR v (f + 1), closeR v (f + 2)]
      have er : reflQ ws [f, f + 1, f + 2] [a, b, c] 1 = [a, (-1) * b + gainR ws (f + 1) f * a + gainR ws (f + 1) (f + 2) * c, c] := by simp [reflQ]
      rw [er, dot3, dot3, cc _ _ o2, cc _ _ o2, cc _ _ o2, AR_self hw o2, a21, a23]
      grind
    | 2, hp =>
      injection hp with hp
      subst hp
      show dotR [a, b, c] [closeR (clashR ws v (f + 2)) f, closeR (clashR ws v (f + 2)) (f + 1), closeR (clashR ws v (f + 2)) (f + 2)] = dotR (reflQ ws [f, f + 1, f + 2] [a, b, c] 2) [closeR v f, closeR v (f + 1), closeR v (f + 2)]
      have er : reflQ ws [f, f + 1, f + 2] [a, b, c] 2 = [a, b, (-1) * c + gainR ws (f + 2) (f + 1) * b] := by simp [reflQ]
      rw [er, dot3, dot3, cc _ _ o3, cc _ _ o3, cc _ _ o3, AR_self hw o3, a31, a32]
      grind
/-- one pair alone -/
def unitI (m i : Nat) : List Int := (List.range m).map fun j => if j = i then 1 else 0
theorem dot_unit {cs : List Rat} {m i : Nat} (hc : cs.length = m) : dotR (castL (unitI m i)) cs = cs.getD i 0 := by
  have e : castL (unitI m i) = (List.range' 0 m).map fun j => if j = 0 + i then (1 : Rat) else 0 := by
    unfold castL unitI
    rw [List.map_map, List.range_eq_range', Nat.zero_add]
    refine List.map_congr_left fun j _ => ?_
    show (((if j = i then 1 else 0 : Int)) : Rat) = _
    split <;> rfl
  rw [e, dot_e m i cs 0 hc]
theorem closings_at {n : Nat} {wall : Bool} {v : List Rat} {i : Nat} {p : Int} (h : (pairsOf n wall)[i]? = some p) : (closingsR n wall v).getD i 0 = closeR v p := by
  unfold closingsR
  rw [List.getD_eq_getElem?_getD, List.getElem?_map, h]; rfl
/-! ### the check of one closed row -/
def mulOk (b : List Int) (q : List Rat) : Bool :=
  let c := q.foldl (· + ·) 0 / ((b.foldl (· + ·) 0 : Int) : Rat)
  decide (0 < c) && decide (q = (castL b).map fun x => c * x)
def rootCk (ws ps : List Int) (rs : List (List Int)) (i : Nat) : Bool :=
  let u := unitI ps.length i
  decide (u ∈ rs) && ((rs.erase u).map fun r => rootB ws ps r i).isPerm (rs.erase u) && (rs.erase u).all fun r => mulOk (rootB ws ps r i) (reflQ ws ps (castL r) i)
def rhoR (ws ps : List Int) (f : Int) (w : List Int) (r : List Rat) : List Rat := w.foldl (fun r p => reflQ ws ps r (p - f).toNat) r
def redOk (ws ps : List Int) (f : Int) : List Int → Bool
  | [] => true
  | p :: w => (rhoR ws ps f (p :: w) (castL (unitI ps.length (p - f).toNat))).all (fun x => decide (x ≤ 0)) && redOk ws ps f w
def lenOk : List (List Int) → Bool
  | [] => true
  | w :: r => (r.all fun y => decide (w.length ≤ y.length)) && lenOk r
def stCk (ws ps : List Int) (f : Int) (st : Fnd) (m : Nat) : Bool :=
  lenOk (st.map (·.1)) && decide ((st.map (·.1))[0]? = some []) && (match (st.map (·.1)).getLast? with | some w => decide (w.length = m) | none => false) &&
  st.all (fun x => decide (x.1.length ≤ 12) && x.1.all (fun p => decide (p ∈ ps)) && decide (x.2 = tableR ws x.1) && redOk ws ps f x.1 &&
    ps.all fun p => st.any fun y => decide (y.1.length ≤ x.1.length + 1) && decide (y.2 = behindR ws x.2 p))
def rsCk (ws ps : List Int) (rs : List (List Int)) : Bool :=
  decide (rs.length ≤ 12) && rs.all (fun r => decide (r.length = ps.length) && r.all fun x => decide (0 ≤ x) && decide (x < 1000)) && (List.range ps.length).all fun i => rootCk ws ps rs i
def ckR (ws : List Int) (wall : Bool) : Bool :=
  match allR ws wall, rootsR ws wall with
  | some st, some rs => rsCk ws (pairsOf ws.length wall) rs && stCk ws (pairsOf ws.length wall) (firstOf wall) st rs.length
  | _, _ => false
end K74
namespace K74
/-! ## closed rows: counts, the end, the words that lead to it -/
theorem rsum_sign {c x : Rat} (hc : 0 < c) : decide (0 < c * x) = decide (0 < x) := by
  rw [decide_eq_decide]
  constructor
  · intro h
    rcases Rat.le_total (a := x) (b := 0) with z | z
    · exfalso
      have : 0 ≤ c * (-x) := Rat.mul_nonneg (Rat.le_of_lt hc) (by grind)
      grind
    · by_cases e : x = 0
      · subst e
        exfalso
        grind
      · grind
  · intro h
    exact Rat.mul_pos hc h
theorem dot_nonneg : ∀ {r cs : List Rat}, (∀ x ∈ r, x ≤ 0) → (∀ y ∈ cs, y ≤ 0) → 0 ≤ dotR r cs
  | [], cs, _, _ => by rw [dot_nil]; exact Rat.le_refl
  | a :: r, [], _, _ => by simp [dotR]
  | a :: r, b :: cs, h1, h2 => by
    rw [dot_cons]
    have ih := dot_nonneg (r := r) (cs := cs) (fun x hx => h1 x (List.mem_cons_of_mem _ hx)) fun y hy => h2 y (List.mem_cons_of_mem _ hy)
    have ha := h1 a List.mem_cons_self
    have hb := h2 b List.mem_cons_self
    have : 0 ≤ (-a) * (-b) := Rat.mul_nonneg (by grind) (by grind)
    grind
theorem dot_nonpos : ∀ {r cs : List Rat}, (∀ x ∈ r, 0 ≤ x) → (∀ y ∈ cs, y ≤ 0) → dotR r cs ≤ 0
  | [], cs, _, _ => by rw [dot_nil]; exact Rat.le_refl
  | a :: r, [], _, _ => by simp [dotR]
  | a :: r, b :: cs, h1, h2 => by
    rw [dot_cons]
    have ih := dot_nonpos (r := r) (cs := cs) (fun x hx => h1 x (List.mem_cons_of_mem _ hx)) fun y hy => h2 y (List.mem_cons_of_mem _ hy)
    have ha := h1 a List.mem_cons_self
    have hb := h2 b List.mem_cons_self
    have : 0 ≤ a * (-b) := Rat.mul_nonneg (by grind) (by grind)
    grind
structure Rt (ws : List Int) (wall : Bool) (rs : List (List Int)) : Prop where
  few : rs.length ≤ 12
  shape : ∀ r ∈ rs, r.length = (pairsOf ws.length wall).length ∧ ∀ x ∈ r, 0 ≤ x ∧ x < 1000
  ck : ∀ i, i < (pairsOf ws.length wall).length → rootCk ws (pairsOf ws.length wall) rs i = true
theorem Rt.of {ws : List Int} {wall : Bool} {rs : List (List Int)} (h : rsCk ws (pairsOf ws.length wall) rs = true) : Rt ws wall rs := by
  unfold rsCk at h
  simp only [Bool.and_eq_true, List.all_eq_true, decide_eq_true_eq] at h
  exact ⟨h.1.1, fun r hr => ⟨(h.1.2 r hr).1, fun x hx => (h.1.2 r hr).2 x hx⟩, fun i hi => h.2 i (List.mem_range.mpr hi)⟩
variable {ws : List Int} {wall : Bool} {rs : List (List Int)} {v : List Rat} {p : Int} {i : Nat}
theorem closings_len (n : Nat) (wall : Bool) (v : List Rat) : (closingsR n wall v).length = (pairsOf n wall).length := by unfold closingsR; rw [List.length_map]
theorem Rt.split (R : Rt ws wall rs) (W : Wk ws wall) (hl : v.length = ws.length) (hp : (pairsOf ws.length wall)[i]? = some p) : ∃ K : Nat,
    countR ws.length wall v rs = K + (if 0 < closeR v p then 1 else 0) ∧ countR ws.length wall (clashR ws v p) rs = K + (if closeR v p < 0 then 1 else 0) := by
  have hi := (List.getElem?_eq_some_iff.mp hp).1
  have hpm := List.mem_of_getElem? hp
  have ok := pairs_ok W.pos hpm
  have ck := R.ck i hi
  unfold rootCk at ck
  simp only [Bool.and_eq_true, List.all_eq_true, decide_eq_true_eq] at ck
  obtain ⟨⟨hu, hperm⟩, hmul⟩ := ck
  have hperm := List.isPerm_iff.mp hperm
  generalize hE : rs.erase (unitI (pairsOf ws.length wall).length i) = E at *
  have pe := List.perm_cons_erase hu
  rw [hE] at pe
  have val : ∀ v' : List Rat, posR ws.length wall v' (unitI (pairsOf ws.length wall).length i) = decide (0 < closeR v' p) := fun v' => by
    unfold posR
    rw [value_dot, dot_unit (closings_len _ _ _), closings_at hp]
  refine ⟨E.countP (posR ws.length wall v), ?_, ?_⟩
  · unfold countR
    rw [← List.countP_eq_length_filter, pe.countP_eq, List.countP_cons, val v]
    congr 1
    simp only [decide_eq_true_eq]
  · unfold countR
    rw [← List.countP_eq_length_filter, pe.countP_eq, List.countP_cons, val (clashR ws v p), close_clash W.w hl ok, AR_self W.w ok]
    have e1 : E.countP (posR ws.length wall (clashR ws v p)) = (E.map fun r => rootB ws (pairsOf ws.length wall) r i).countP (posR ws.length wall v) := by
      rw [List.countP_map]
      refine List.countP_congr fun r hr => ?_
      have hrs : r ∈ rs := List.mem_of_mem_erase (by rw [hE]; exact hr)
      have hm := hmul r hr
      unfold mulOk at hm
      simp only [Bool.and_eq_true, decide_eq_true_eq] at hm
      show posR ws.length wall (clashR ws v p) r = true ↔ posR ws.length wall v (rootB ws (pairsOf ws.length wall) r i) = true
      unfold posR
      rw [value_dot, value_dot, dot_clash W hl (by unfold castL; rw [List.length_map]; exact (R.shape r hrs).1) hp, hm.2, dot_smul, rsum_sign hm.1]
    rw [e1, hperm.countP_eq]
    congr 1
    simp only [decide_eq_true_eq]
    have : (0 < closeR v p - closeR v p * 2) ↔ closeR v p < 0 := by constructor <;> intro h <;> grind
    simp only [this]
theorem pair_ix (h : p ∈ pairsOf ws.length wall) : (pairsOf ws.length wall)[(p - firstOf wall).toNat]? = some p := by
  obtain ⟨j, hj, e⟩ := List.mem_iff_getElem.mp h
  have h2 := pairs_at hj
  rw [List.getElem?_eq_getElem hj, e] at h2
  have e2 : p = firstOf wall + (j : Int) := by injection h2
  have e3 : (p - firstOf wall).toNat = j := by omega
  rw [e3, List.getElem?_eq_getElem hj, e]
theorem Rt.down (R : Rt ws wall rs) (W : Wk ws wall) (hl : v.length = ws.length) (hp : p ∈ pairsOf ws.length wall) (h : 0 < closeR v p) : countR ws.length wall (clashR ws v p) rs + 1 = countR ws.length wall v rs := by
  obtain ⟨K, h1, h2⟩ := R.split W hl (pair_ix hp)
  rw [if_pos h] at h1
  rw [if_neg (by grind)] at h2
  omega
theorem Rt.flat (R : Rt ws wall rs) (W : Wk ws wall) (hl : v.length = ws.length) (hp : p ∈ pairsOf ws.length wall) (h : closeR v p ≤ 0) : countR ws.length wall v rs ≤ countR ws.length wall (clashR ws v p) rs := by
  obtain ⟨K, h1, h2⟩ := R.split W hl (pair_ix hp)
  rw [if_neg (by grind)] at h1
  omega
theorem Rt.step (R : Rt ws wall rs) (W : Wk ws wall) (hl : v.length = ws.length) (hp : p ∈ pairsOf ws.length wall) : countR ws.length wall v rs ≤ countR ws.length wall (clashR ws v p) rs + 1 := by
  obtain ⟨K, h1, h2⟩ := R.split W hl (pair_ix hp)
  split at h1 <;> omega
/-- nobody comes -/
def Still (ws : List Int) (wall : Bool) (v : List Rat) : Prop := ∀ p ∈ pairsOf ws.length wall, closeR v p ≤ 0
theorem still_iff : comingR ws.length wall v = [] ↔ Still ws wall v := by
  unfold comingR Still
  rw [List.filter_eq_nil_iff]
  constructor
  · intro h p hp
    have := h p hp
    simp only [decide_eq_true_eq] at this
    exact Rat.not_lt.mp this
  · intro h p hp
    simp only [decide_eq_true_eq]
    exact Rat.not_lt.mpr (h p hp)
theorem Still.cs (h : Still ws wall v) : ∀ y ∈ closingsR ws.length wall v, y ≤ 0 := by
  intro y hy
  obtain ⟨p, hp, rfl⟩ := List.mem_map.mp hy
  exact h p hp
theorem Rt.zero (R : Rt ws wall rs) (h : Still ws wall v) : countR ws.length wall v rs = 0 := by
  unfold countR
  rw [List.length_eq_zero_iff, List.filter_eq_nil_iff]
  intro r hr
  unfold posR
  simp only [decide_eq_true_eq]
  refine Rat.not_lt.mpr ?_
  rw [value_dot]
  refine dot_nonpos (fun x hx => ?_) h.cs
  obtain ⟨z, hz, rfl⟩ := List.mem_map.mp hx
  exact Rat.intCast_nonneg.mpr ((R.shape r hr).2 z hz).1
theorem Rt.word (R : Rt ws wall rs) (W : Wk ws wall) : ∀ {w : List Int} {v : List Rat}, v.length = ws.length → (∀ p ∈ w, p ∈ pairsOf ws.length wall) → countR ws.length wall v rs ≤ w.length + countR ws.length wall (afterR ws v w) rs
  | [], v, _, _ => by show _ ≤ 0 + countR ws.length wall v rs; omega
  | p :: w, v, hl, hp => by
    have h1 := R.step W hl (hp p List.mem_cons_self)
    have h2 := R.word W (w := w) (v := clashR ws v p) (by rw [clashR_len, hl]) fun q hq => hp q (List.mem_cons_of_mem _ hq)
    show _ ≤ (w.length + 1) + countR ws.length wall (afterR ws (clashR ws v p) w) rs
    omega
theorem Rt.first (R : Rt ws wall rs) (W : Wk ws wall) : ∀ {w : List Int} {v : List Rat} (k : Nat), v.length = ws.length → (∀ p ∈ w, p ∈ pairsOf ws.length wall) → countR ws.length wall v rs = w.length + countR ws.length wall (afterR ws v w) rs → firstNot ws v w k = none
  | [], _, _, _, _, _ => rfl
  | p :: w, v, k, hl, hp, h => by
    have hpm := hp p List.mem_cons_self
    have hl2 : (clashR ws v p).length = ws.length := by rw [clashR_len, hl]
    have hp2 : ∀ q ∈ w, q ∈ pairsOf ws.length wall := fun q hq => hp q (List.mem_cons_of_mem _ hq)
    have h2 := R.word W (w := w) hl2 hp2
    have h1 := R.step W hl hpm
    have h : countR ws.length wall v rs = (w.length + 1) + countR ws.length wall (afterR ws (clashR ws v p) w) rs := h
    unfold firstNot
    by_cases hc : closeR v p ≤ 0
    · have := R.flat W hl hpm hc
      omega
    · rw [if_neg hc]
      have h3 := R.down W hl hpm (Rat.not_le.mp hc)
      exact R.first W (k + 1) hl2 hp2 (by omega)
theorem Rt.end_ex (R : Rt ws wall rs) (W : Wk ws wall) : ∀ (k : Nat) (v : List Rat), v.length = ws.length → countR ws.length wall v rs = k → ∃ e u, endR ws wall (k + 1) v = some e ∧ e = afterR ws v u ∧ (∀ p ∈ u, p ∈ pairsOf ws.length wall) ∧ u.length = k ∧ Still ws wall e := by
  intro k
  induction k with
  | zero =>
    intro v hl hk
    unfold endR
    cases hc : comingR ws.length wall v with
    | nil => exact ⟨v, [], rfl, rfl, (fun p hp => by cases hp), rfl, still_iff.mp hc⟩
    | cons p r =>
      exfalso
      have hm : p ∈ comingR ws.length wall v := by rw [hc]; simp
      unfold comingR at hm
      rw [List.mem_filter, decide_eq_true_eq] at hm
      have := R.down W hl hm.1 hm.2
      omega
  | succ k ih =>
    intro v hl hk
    unfold endR
    cases hc : comingR ws.length wall v with
    | nil =>
      exfalso
      have := R.zero (still_iff.mp hc)
      omega
    | cons p r =>
      have hm : p ∈ comingR ws.length wall v := by rw [hc]; simp
      unfold comingR at hm
      rw [List.mem_filter, decide_eq_true_eq] at hm
      have hd := R.down W hl hm.1 hm.2
      obtain ⟨e, u, h1, h2, h3, h4, h5⟩ := ih (clashR ws v p) (by rw [clashR_len, hl]) (by omega)
      refine ⟨e, p :: u, h1, h2, fun q hq => ?_, by rw [List.length_cons, h4], h5⟩
      rcases List.mem_cons.mp hq with rfl | hq
      · exact hm.1
      · exact h3 q hq
/-! ### the end is one -/
theorem refl_len (ws ps : List Int) (r : List Rat) (i : Nat) : (reflQ ws ps r i).length = r.length := by unfold reflQ; rw [List.length_set]
theorem rho_dot (W : Wk ws wall) : ∀ {w : List Int} {r v : List Rat}, v.length = ws.length → r.length = (pairsOf ws.length wall).length → (∀ p ∈ w, p ∈ pairsOf ws.length wall) →
    dotR (rhoR ws (pairsOf ws.length wall) (firstOf wall) w r) (closingsR ws.length wall (afterR ws v w)) = dotR r (closingsR ws.length wall v)
  | [], _, _, _, _, _ => rfl
  | p :: w, r, v, hl, hr, hp => by
    have hpm := hp p List.mem_cons_self
    have hl2 : (clashR ws v p).length = ws.length := by rw [clashR_len, hl]
    show dotR (rhoR ws (pairsOf ws.length wall) (firstOf wall) w (reflQ ws (pairsOf ws.length wall) r (p - firstOf wall).toNat)) (closingsR ws.length wall (afterR ws (clashR ws v p) w)) = _
    rw [rho_dot W (w := w) hl2 (by rw [refl_len, hr]) fun q hq => hp q (List.mem_cons_of_mem _ hq), ← dot_clash W hl2 hr (pair_ix hpm), clash_twice W.w hl (pairs_ok W.pos hpm)]
theorem uniq (W : Wk ws wall) : ∀ {w : List Int} {v : List Rat}, redOk ws (pairsOf ws.length wall) (firstOf wall) w = true → v.length = ws.length → (∀ p ∈ w, p ∈ pairsOf ws.length wall) → Still ws wall v → Still ws wall (afterR ws v w) → afterR ws v w = v
  | [], _, _, _, _, _, _ => rfl
  | p :: w, v, hr, hl, hp, h1, h2 => by
    have hpm := hp p List.mem_cons_self
    unfold redOk at hr
    rw [Bool.and_eq_true, List.all_eq_true] at hr
    have hneg : ∀ x ∈ rhoR ws (pairsOf ws.length wall) (firstOf wall) (p :: w) (castL (unitI (pairsOf ws.length wall).length (p - firstOf wall).toNat)), x ≤ 0 := fun x hx => of_decide_eq_true (hr.1 x hx)
    have hd := dot_nonneg hneg h2.cs
    rw [rho_dot W hl (by unfold castL unitI; simp) hp, dot_unit (closings_len _ _ _), closings_at (pair_ix hpm)] at hd
    have h0 : closeR v p = 0 := by have := h1 p hpm; grind
    have hf : clashR ws v p = v := clash_fix W.w hl (pairs_ok W.pos hpm) h0
    have e : afterR ws v (p :: w) = afterR ws v w := by
      show afterR ws (clashR ws v p) w = _
      rw [hf]
    rw [e] at h2 ⊢
    exact uniq W hr.2 hl (fun q hq => hp q (List.mem_cons_of_mem _ hq)) h1 h2
/-! ### the words -/
structure St (ws : List Int) (wall : Bool) (st : Fnd) (m : Nat) : Prop where
  all : allR ws wall = some st
  len : lenOk (st.map (·.1)) = true
  first : (st.map (·.1))[0]? = some []
  last : ∃ w, (st.map (·.1)).getLast? = some w ∧ w.length = m
  short : ∀ x ∈ st, x.1.length ≤ 12 ∧ ∀ p ∈ x.1, p ∈ pairsOf ws.length wall
  tab : ∀ x ∈ st, x.2 = tableR ws x.1
  red : ∀ x ∈ st, redOk ws (pairsOf ws.length wall) (firstOf wall) x.1 = true
  next : ∀ x ∈ st, ∀ p ∈ pairsOf ws.length wall, ∃ y ∈ st, y.1.length ≤ x.1.length + 1 ∧ y.2 = behindR ws x.2 p
theorem St.of {st : Fnd} {m : Nat} (ha : allR ws wall = some st) (h : stCk ws (pairsOf ws.length wall) (firstOf wall) st m = true) : St ws wall st m := by
  unfold stCk at h
  simp only [Bool.and_eq_true, List.all_eq_true, List.any_eq_true, decide_eq_true_eq] at h
  obtain ⟨⟨⟨h1, h2⟩, h3⟩, h4⟩ := h
  refine ⟨ha, h1, h2, ?_, fun x hx => ⟨(h4 x hx).1.1.1.1, (h4 x hx).1.1.1.2⟩, fun x hx => (h4 x hx).1.1.2, fun x hx => (h4 x hx).1.2, fun x hx p hp => ?_⟩
  · cases hg : (st.map (·.1)).getLast? with
    | none => rw [hg] at h3; cases h3
    | some w => rw [hg] at h3; exact ⟨w, rfl, of_decide_eq_true h3⟩
  · obtain ⟨y, hy, h5, h6⟩ := (h4 x hx).2 p hp
    exact ⟨y, hy, h5, h6⟩
theorem St.word {st : Fnd} {m : Nat} (S : St ws wall st m) : ∀ (k : Nat) (u : List Int), u.length = k → (∀ p ∈ u, p ∈ pairsOf ws.length wall) → ∃ x ∈ st, x.2 = tableR ws u ∧ x.1.length ≤ k := by
  intro k
  induction k with
  | zero =>
    intro u hu _
    rw [List.length_eq_zero_iff.mp hu]
    have h := S.first
    rw [List.getElem?_map] at h
    cases hx : st[0]? with
    | none => rw [hx] at h; cases h
    | some x =>
      rw [hx] at h
      have e : x.1 = [] := by injection h
      have hm := List.mem_of_getElem? hx
      exact ⟨x, hm, by rw [S.tab x hm, e], by rw [e]; exact Nat.le_refl 0⟩
  | succ k ih =>
    intro u hu hp
    have hne : u ≠ [] := fun z => by rw [z] at hu; cases hu
    have e := List.dropLast_concat_getLast hne
    obtain ⟨x, hx, hx2, hx3⟩ := ih u.dropLast (by rw [List.length_dropLast]; omega) fun p hp2 => hp p ((List.dropLast_sublist _).subset hp2)
    obtain ⟨y, hy, h1, h2⟩ := S.next x hx _ (hp _ (List.getLast_mem hne))
    refine ⟨y, hy, ?_, by omega⟩
    rw [h2, hx2, ← table_snoc, e]
theorem head_least {P : List Int → Bool} : ∀ {l r : List (List Int)} {w : List Int}, lenOk l = true → l.filter P = w :: r → ∀ y ∈ l, P y = true → w.length ≤ y.length
  | [], _, _, _, h, _, _, _ => by cases h
  | a :: l, r, w, hl, h, y, hy, hP => by
    unfold lenOk at hl
    rw [Bool.and_eq_true, List.all_eq_true] at hl
    rw [List.filter_cons] at h
    by_cases ha : P a = true
    · rw [if_pos ha] at h
      have e : a = w := by injection h
      subst e
      rcases List.mem_cons.mp hy with rfl | hy
      · exact Nat.le_refl _
      · exact of_decide_eq_true (hl.1 y hy)
    · rw [if_neg ha] at h
      rcases List.mem_cons.mp hy with rfl | hy
      · exact absurd hP ha
      · exact head_least hl.2 h y hy hP
/-- everything that the law asks of a closed row -/
theorem cf_ok {st : Fnd} (W : Wk ws wall) (hcl : none ∉ ordersR ws wall) (hrs : rootsR ws wall = some rs) (R : Rt ws wall rs) (S : St ws wall st rs.length) (hl : v.length = ws.length) :
    ∃ e J, CF ws v wall (st.map (·.1)) rs e J := by
  obtain ⟨e, u, h1, h2, h3, h4, h5⟩ := R.end_ex W _ v hl rfl
  have okl : ∀ {w : List Int}, (∀ p ∈ w, p ∈ pairsOf ws.length wall) → ∀ p ∈ w, PrOk ws.length p := fun h p hp => pairs_ok W.pos (h p hp)
  have he0 := R.zero h5
  have hel : e.length = ws.length := by rw [h2, afterR_len, hl]
  -- a still state reached from v is the end
  have one : ∀ (u' : List Int), (∀ p ∈ u', p ∈ pairsOf ws.length wall) → Still ws wall (afterR ws v u') → afterR ws v u' = e := by
    intro u' hu' hs
    have hl' : (afterR ws v u').length = ws.length := by rw [afterR_len, hl]
    have hw : ∀ p ∈ u'.reverse ++ u, p ∈ pairsOf ws.length wall := fun p hp => by
      rcases List.mem_append.mp hp with hp | hp
      · exact hu' p (List.mem_reverse.mp hp)
      · exact h3 p hp
    obtain ⟨x, hx, ht, _⟩ := S.word _ (u'.reverse ++ u) rfl hw
    have hx1 := (S.short x hx).2
    have ee : e = afterR ws (afterR ws v u') x.1 := by
      rw [after_of_table (okl hx1) (okl hw) (by rw [← S.tab x hx, ht]) hl', after_app, after_back W.w hl (okl hu'), h2]
    have := uniq W (S.red x hx) hl' hx1 hs (by rw [← ee]; exact h5)
    rw [ee, this]
  obtain ⟨x, hx, ht, hxl⟩ := S.word _ u rfl h3
  have hx1 := (S.short x hx).2
  have hxe : afterR ws v x.1 = e := by rw [after_of_table (okl hx1) (okl h3) (by rw [← S.tab x hx, ht]) hl, h2]
  have hfe : ∃ w r, (st.map (·.1)).filter (fun w => decide (afterR ws v w = e)) = w :: r := by
    cases hf : (st.map (·.1)).filter (fun w => decide (afterR ws v w = e)) with
    | nil => exact absurd (decide_eq_true hxe) ((List.filter_eq_nil_iff.mp hf) x.1 (List.mem_map.mpr ⟨x, hx, rfl⟩))
    | cons w r => exact ⟨w, r, rfl⟩
  obtain ⟨w, r, hf⟩ := hfe
  have hwm : w ∈ (st.map (·.1)).filter (fun w => decide (afterR ws v w = e)) := by rw [hf]; simp
  rw [List.mem_filter, decide_eq_true_eq] at hwm
  obtain ⟨hwm, hwe⟩ := hwm
  obtain ⟨y, hy, rfl⟩ := List.mem_map.mp hwm
  have hy1 := (S.short y hy).2
  have l1 := head_least S.len hf x.1 (List.mem_map.mpr ⟨x, hx, rfl⟩) (decide_eq_true hxe)
  have l2 := R.word W (w := y.1) hl hy1
  rw [hwe, he0] at l2
  refine ⟨e, fun j v' => ∃ u', (∀ p ∈ u', p ∈ pairsOf ws.length wall) ∧ v' = afterR ws v u' ∧ countR ws.length wall v' rs + j = countR ws.length wall v rs,
    ⟨hcl, hrs, R.shape, Nat.lt_of_le_of_lt R.few (by decide)⟩, R.few, S.last, ⟨[], S.first, rfl⟩, fun w hw => ?_, ?_, List.length_filter_le _ _, List.length_filter_le _ _, h1, ⟨y.1, r, hf, by omega, ?_⟩, ⟨[], (fun p hp => by cases hp), rfl, rfl⟩, fun j v' hj hc => ?_, fun j v' p hj hp => ?_⟩
  · obtain ⟨z, hz, rfl⟩ := List.mem_map.mp hw
    exact S.short z hz
  · rw [List.length_map]
    exact Nat.le_trans (allR_keep S.all).1 (by decide)
  · exact R.first W 0 hl hy1 (by rw [hwe, he0]; omega)
  · obtain ⟨u', hu', rfl, hk⟩ := hj
    have hs := still_iff.mp hc
    have := one u' hu' hs
    rw [this] at hk
    exact ⟨this, by omega⟩
  · obtain ⟨u', hu', rfl, hk⟩ := hj
    unfold comingR at hp
    rw [List.mem_filter, decide_eq_true_eq] at hp
    have hd := R.down W (v := afterR ws v u') (by rw [afterR_len, hl]) hp.1 hp.2
    refine ⟨⟨u' ++ [p], fun q hq => ?_, by rw [afterR_snoc], by omega⟩, by omega⟩
    rcases List.mem_append.mp hq with hq | hq
    · exact hu' q hq
    · rw [List.mem_singleton.mp hq]; exact hp.1
theorem ck_open (W : Wk ws wall) (hcl : none ∉ ordersR ws wall) (h : ckR ws wall = true) (hl : v.length = ws.length) : ∃ st rs e J, allR ws wall = some st ∧ CF ws v wall (st.map (·.1)) rs e J := by
  unfold ckR at h
  cases ha : allR ws wall with
  | none => rw [ha] at h; cases h
  | some st =>
    cases hr : rootsR ws wall with
    | none => rw [ha, hr] at h; cases h
    | some rs =>
      rw [ha, hr] at h
      simp only [Bool.and_eq_true] at h
      obtain ⟨e, J, F⟩ := cf_ok W hcl hr (Rt.of h.1) (St.of ha h.2) hl
      exact ⟨st, rs, e, J, rfl, F⟩
end K74
namespace K74
/-! ## all weights up to 9 -/
def sweepR (wall : Bool) : Nat → List Int → Bool
  | 0, l => decide (none ∈ dueR l wall) || ckR l wall
  | k + 1, l => (List.range 9).all fun (a : Nat) => sweepR wall k (l ++ [(a : Int) + 1])
theorem sweep_ok {wall : Bool} : ∀ {k : Nat} {l : List Int}, sweepR wall k l = true → ∀ m : List Int, m.length = k → (∀ x ∈ m, 1 ≤ x ∧ x ≤ 9) → none ∉ dueR (l ++ m) wall → ckR (l ++ m) wall = true
  | 0, l, h, m, hm, _, hn => by
    rw [List.length_eq_zero_iff.mp hm, List.append_nil] at hn ⊢
    unfold sweepR at h
    rw [Bool.or_eq_true, decide_eq_true_eq] at h
    rcases h with h | h
    · exact absurd h hn
    · exact h
  | k + 1, l, h, m, hm, hx, hn => by
    cases m with
    | nil => cases hm
    | cons a m =>
      have ha := hx a List.mem_cons_self
      unfold sweepR at h
      rw [List.all_eq_true] at h
      have h2 := h (a - 1).toNat (List.mem_range.mpr (by omega))
      have e : (((a - 1).toNat : Nat) : Int) + 1 = a := by omega
      rw [e] at h2
      have e2 : l ++ a :: m = (l ++ [a]) ++ m := by simp
      rw [e2] at hn ⊢
      exact sweep_ok h2 m (by simpa using hm) (fun x hx2 => hx x (List.mem_cons_of_mem _ hx2)) hn
theorem sw_f2 : sweepR false 2 [] = true := by decide +kernel
theorem sw_f3 : sweepR false 3 [] = true := by decide +kernel
theorem sw_t1 : sweepR true 1 [] = true := by decide +kernel
theorem sw_t2 : sweepR true 2 [] = true := by decide +kernel
end K74
namespace K74
theorem sw_f41 : sweepR false 3 [1] = true := by decide +kernel
theorem sw_f42 : sweepR false 3 [2] = true := by decide +kernel
theorem sw_f43 : sweepR false 3 [3] = true := by decide +kernel
theorem sw_f44 : sweepR false 3 [4] = true := by decide +kernel
theorem sw_f45 : sweepR false 3 [5] = true := by decide +kernel
theorem sw_f46 : sweepR false 3 [6] = true := by decide +kernel
theorem sw_f47 : sweepR false 3 [7] = true := by decide +kernel
theorem sw_f48 : sweepR false 3 [8] = true := by decide +kernel
theorem sw_f49 : sweepR false 3 [9] = true := by decide +kernel
theorem sw_t11 : sweepR true 2 [1] = true := by decide +kernel
theorem sw_t12 : sweepR true 2 [2] = true := by decide +kernel
theorem sw_t13 : sweepR true 2 [3] = true := by decide +kernel
theorem sw_t14 : sweepR true 2 [4] = true := by decide +kernel
theorem sw_t15 : sweepR true 2 [5] = true := by decide +kernel
theorem sw_t16 : sweepR true 2 [6] = true := by decide +kernel
theorem sw_t17 : sweepR true 2 [7] = true := by decide +kernel
theorem sw_t18 : sweepR true 2 [8] = true := by decide +kernel
theorem sw_t19 : sweepR true 2 [9] = true := by decide +kernel
theorem ck_all {ws : List Int} {wall : Bool} (h : caseOk ws wall = true) (hn : none ∉ dueR ws wall) : ckR ws wall = true := by
  have hx : ∀ x ∈ ws, 1 ≤ x ∧ x ≤ 9 := by
    unfold caseOk at h
    simp only [Bool.and_eq_true, List.all_eq_true, decide_eq_true_eq] at h
    exact fun x hx => h.1 x hx
  have go : ∀ k, sweepR wall k [] = true → ws.length = k → ckR ws wall = true := fun k hk hl => sweep_ok hk ws hl hx hn
  unfold caseOk at h
  cases wall with
  | false =>
    simp only [Bool.and_eq_true, decide_eq_true_eq] at h
    have : ws.length = 2 ∨ ws.length = 3 ∨ ws.length = 4 := by omega
    rcases this with e | e | e
    · exact go 2 sw_f2 e
    · exact go 3 sw_f3 e
    · cases ws with
      | nil => cases e
      | cons a m =>
        have ha := hx a List.mem_cons_self
        have hm : m.length = 3 := by simpa using e
        have hx2 : ∀ x ∈ m, 1 ≤ x ∧ x ≤ 9 := fun x h => hx x (List.mem_cons_of_mem _ h)
        have g2 : sweepR false 3 [a] = true → ckR (a :: m) false = true := fun h => sweep_ok h m hm hx2 hn
        have : a = 1 ∨ a = 2 ∨ a = 3 ∨ a = 4 ∨ a = 5 ∨ a = 6 ∨ a = 7 ∨ a = 8 ∨ a = 9 := by omega
        rcases this with rfl | rfl | rfl | rfl | rfl | rfl | rfl | rfl | rfl
        · exact g2 sw_f41
        · exact g2 sw_f42
        · exact g2 sw_f43
        · exact g2 sw_f44
        · exact g2 sw_f45
        · exact g2 sw_f46
        · exact g2 sw_f47
        · exact g2 sw_f48
        · exact g2 sw_f49
  | true =>
    simp only [Bool.and_eq_true, decide_eq_true_eq] at h
    have : ws.length = 1 ∨ ws.length = 2 ∨ ws.length = 3 := by omega
    rcases this with e | e | e
    · exact go 1 sw_t1 e
    · exact go 2 sw_t2 e
    · cases ws with
      | nil => cases e
      | cons a m =>
        have ha := hx a List.mem_cons_self
        have hm : m.length = 2 := by simpa using e
        have hx2 : ∀ x ∈ m, 1 ≤ x ∧ x ≤ 9 := fun x h => hx x (List.mem_cons_of_mem _ h)
        have g2 : sweepR true 2 [a] = true → ckR (a :: m) true = true := fun h => sweep_ok h m hm hx2 hn
        have : a = 1 ∨ a = 2 ∨ a = 3 ∨ a = 4 ∨ a = 5 ∨ a = 6 ∨ a = 7 ∨ a = 8 ∨ a = 9 := by omega
        rcases this with rfl | rfl | rfl | rfl | rfl | rfl | rfl | rfl | rfl
        · exact g2 sw_t11
        · exact g2 sw_t12
        · exact g2 sw_t13
        · exact g2 sw_t14
        · exact g2 sw_t15
        · exact g2 sw_t16
        · exact g2 sw_t17
        · exact g2 sw_t18
        · exact g2 sw_t19
theorem wk_of {ws : List Int} {wall : Bool} (h : caseOk ws wall = true) : Wk ws wall := by
  have hl := pairs_len ws.length wall
  unfold caseOk at h
  simp only [Bool.and_eq_true, List.all_eq_true, decide_eq_true_eq] at h
  obtain ⟨hx, h⟩ := h
  unfold firstOf at hl
  cases wall with
  | false =>
    simp only [Bool.and_eq_true, decide_eq_true_eq] at h
    simp at hl
    exact ⟨fun x hm => hx x hm, by omega, by simp; omega, by omega⟩
  | true =>
    simp only [Bool.and_eq_true, decide_eq_true_eq] at h
    simp at hl
    exact ⟨fun x hm => hx x hm, by omega, by simp; omega, by omega⟩
end K74
namespace K74
open PySem PySem.Spec PyProof.Rows L2
/-! ### the closed rows' checks -/
theorem at_last {xs : List V} {v : V} (h : xs.getLast? = some v) : atI xs (-1) = some v := by
  have hne : xs ≠ [] := fun z => by rw [z] at h; cases h
  have hl : 0 < xs.length := List.length_pos_iff.mpr hne
  unfold atI ixN
  rw [if_neg (by decide), if_pos (by omega)]
  show xs[(-1 + (xs.length : Int)).toNat]? = some v
  rw [← h, List.getLast?_eq_getElem?]
  congr 1
  omega
/-- a list of data == [] -/
def rEqL : R2 := fun x y H Q => ∃ p q ks xs, x = .ref p ∧ H p = some (.lst xs) ∧ NKs H ks xs ∧ (∀ k ∈ ks, k.depth ≤ 50) ∧ y = .ref q ∧ H q = some (.lst []) ∧ Q (.bl (decide (ks = []))) H
section
variable {X : Cx}
theorem op_eqLst (hu : X.A.units + 64 < cLine) : OpR X (compareOp .Eq) rEqL := by
  intro pins s σ H x y v u Q I rx ry h
  obtain ⟨p, q, ks, xs, rfl, hp, hk, hd, rfl, hq, k⟩ := h
  refine op_eqD hu pins s σ H _ _ v u Q I rx ry ⟨.list (NestedKey.datas ks), .list [], .lst (SqL.of hp) (NKs.dp ks _ hk), .lst (SqL.of hq) .nil, ?_, by decide +kernel, ?_⟩
  · show (PyData.canLay0 (.list (NestedKey.datas ks)) && decide (PyData.depth (.list (NestedKey.datas ks)) ≤ 64)) = true
    have h1 : PyData.canLay0 (.list (NestedKey.datas ks)) = true := by simp only [PyData.canLay0]; exact NKs.lay ks _ hk
    have h2 : PyData.depth (.list (NestedKey.datas ks)) ≤ 64 := by
      simp only [PyData.depth]
      rw [datas_depth]
      have := depthAll_le hd
      omega
    rw [h1, decide_eq_true h2]
    rfl
  · have e : PyData.eqv (.list (NestedKey.datas ks)) (.list []) = decide (ks = []) := by
      cases ks with
      | nil => simp [NestedKey.datas, PyData.eqv, PyData.eqvAll]
      | cons a r => simp [NestedKey.datas, PyData.eqv, PyData.eqvAll]
    rw [e]
    exact k
end
section
variable {c : Cn} {C CN : Addr}
abbrev s_law_closed_right : Stmt := topS 82
theorem sc_law_closed_right : FnScope ["_law_hand_here", "_law_row", "_law_words", "_law_roots", "_law_ends", "_law_found", "_law_word", "_law_current", "_law_turn", "_law_coming"] ["_law_hand_here", "_law_row", "_law_words"] (defScope s_law_closed_right) := ⟨rfl, rfl, rfl, by decide +kernel, rfl, by decide +kernel, by decide +kernel⟩
def spRight (C : Addr) : Sp := sp3 fun h x y H Q => HandAt H h ∧ ∃ ws v wall words rs e J, RowAt C H x ws v wall ∧ Rw ws v wall 2 ∧ NK H (.tup (words.map tupI)) y ∧ CF ws v wall words rs e J ∧ RetV (.bl true) H Q
theorem ok_law_closed_right (T : Tx c.mg) (RC : RwC c C) (D : Dn c "_law_closed_right" s_law_closed_right ["_law_hand_here", "_law_row", "_law_words"]) (g_roots_of : Kn c CX0 7 "roots_of" ["row"] (spRoots C)) (g_turned : Mn c C CX0 7 "turned" ["self"] (spTurned C)) (g_closed_count : Kn c CX0 9 "closed_count" ["row"] (spCount C))
    (g_closed_end : Kn c (L2.CX c.P c.w) 9 "closed_end" ["row"] (spEnd C CN)) (g_after_word : Kn c CX0 8 "after_word" ["row", "word"] (spAfterWord C)) (g_first_not_coming : Kn c CX0 6 "first_not_coming" ["row", "word"] (spFirstNot C)) (g_coming_pairs : Kn c CX0 6 "coming_pairs" ["row"] (spComing C)) (g_after_clash : Kn c CX0 8 "after_clash" ["row", "pair"] (spAfterClash C))
    (g__law_pick : Kn c CX0 3 "_law_pick" ["_law_hand_here", "_law_some"] spPick) : Kn c CX0 10 "_law_closed_right" ["_law_hand_here", "_law_row", "_law_words"] (spRight C) := by
  have sc := sc_law_closed_right
  refine D.ok sc len3 (fun f cdv A outer s H vs Q E hr h => ?_)
  have hu := hr.units
  refine ⟨_, (pss_cons (ps_set (i := 3) sc.nd rfl (.inl rfl) (pe_kn g_roots_of (hr.mono (by decide)) rfl (pa_cons (pv 1) pa_nil)))
  (pss_cons (ps_if (PW.pt (pw_or (pt_cmpR op_ne (pe_callB call_len_seq (by rfl) T.len PySem.boot_len (pa_cons (pe_ix ix_sq (pv 2) (pe_un un_neg pe_int) (fun _ _ => rfl)) pa_nil)) (pe_callB call_len_seq (by rfl) T.len PySem.boot_len (pa_cons (pv 3) pa_nil)) (nomark _)) (pw_or (pt_cmpR op_ne (pe_callB call_len_seq (by rfl) T.len PySem.boot_len (pa_cons (pe_ix ix_sq (pv 2) pe_int (fun _ _ => rfl)) pa_nil)) pe_int (nomark _)) (pw_or1 (pt_cmpR op_gt (pe_kn g_closed_count (hr.mono (by decide)) rfl (pa_cons (pe_mn0 (pv 1) RC.cl g_turned (hr.mono (by decide))) pa_nil)) (pe_callB call_len_seq (by rfl) T.len PySem.boot_len (pa_cons (pv 3) pa_nil)) (nomark _)))))) (pss_one (ps_ret pe_bl))
    pss_nil)
  (pss_cons (ps_set (i := 4) sc.nd rfl (.inr rfl) (pe_kx g_closed_end (hr.mono (by decide)) rfl (pa_cons (pv 1) pa_nil)))
  (pss_cons (ps_setLc (i := 5) (own := [("_law_word", 6)]) (g := gName 6) rfl sc.nd rfl rfl (sw_true rfl rfl rfl (by decide +kernel)) (pi_sq (pv 2)) (blkOk_by (by kernel_rfl)) (fun _ _ _ _ _ => (pg_name (i := 6) sc.nd rfl (.inl rfl))) (fun _ _ _ _ _ => (pts_one (pt_cmpR (op_eqN hu) (fldK c.K (pe_kn g_after_word (hr.mono (by decide)) rfl (pa_cons (pv 1) (pa_cons (pv 6) pa_nil))) rfl) (pv 4) (nomark _)))) (fun _ _ _ _ _ => (pv 6)))
  (pss_cons (ps_if (PW.pt (pw_or (pt_cmpR (op_eqLst hu) (pv 5) (pe_lst pa_nil) (nomark _)) (pw_or (pt_cmpR op_ne (pe_callB call_len_seq (by rfl) T.len PySem.boot_len (pa_cons (pe_ix ix_sq (pv 5) pe_int (fun _ _ => rfl)) pa_nil)) (pe_kn g_closed_count (hr.mono (by decide)) rfl (pa_cons (pv 1) pa_nil)) (nomark _)) (pw_or1 (pt_cmpR op_notN (pe_kn g_first_not_coming (hr.mono (by decide)) rfl (pa_cons (pv 1) (pa_cons (pe_ix ix_sq (pv 5) pe_int (fun _ _ => rfl)) pa_nil))) pe_non (nomark _)))))) (pss_one (ps_ret pe_bl))
    pss_nil)
  (pss_cons (ps_set (i := 7) sc.nd rfl (.inl rfl) (pv 1))
  (pss_cons (ps_for PassesOwn.never rfl (pi_range1 rfl T.range (pa_cons (pe_op op_add (pe_callB call_len_seq (by rfl) T.len PySem.boot_len (pa_cons (pv 3) pa_nil)) pe_int) pa_nil)) (pg_name (i := 8) sc.nd rfl (.inl rfl))
    (pss_cons (ps_set (i := 9) sc.nd rfl (.inl rfl) (pe_kn g_coming_pairs (hr.mono (by decide)) rfl (pa_cons (pv 7) pa_nil)))
    (pss_cons (ps_if (pt_cmpR (op_eqN hu) (pv 9) (pe_tup pa_nil) (nomark _)) (pss_one (ps_ret (pe_and (pe_cmpR (op_eqN hu) (pe_fld (pv 7) rfl) (pv 4) (nomark _)) (pe_one (pe_cmpR op_eq (pv 8) (pe_kn g_closed_count (hr.mono (by decide)) rfl (pa_cons (pv 1) pa_nil)) (nomark _))))))
      pss_nil)
    (pss_one (ps_set (i := 7) sc.nd rfl (.inl rfl) (pe_kn g_after_clash (hr.mono (by decide)) rfl (pa_cons (pv 7) (pa_cons (pe_kn g__law_pick (hr.mono (by decide)) rfl (pa_cons (pv 0) (pa_cons (pv 9) pa_nil))) pa_nil))))))))
  (pss_one (ps_ret pe_bl))))))))), ?_⟩
  obtain ⟨hd, x, y, rfl, hx, ws, v, wall, words, rs, e, J, hrow, R, hy, F, k⟩ := h
  obtain ⟨ay, ys, rfl, hay, hys⟩ := hy.tup_inv
  have hyl : ys.length = words.length := by rw [hys.len, List.length_map]
  have hcl := F.ro.cl
  have few := F.few
  have hcnt := F.cnt
  have hmany := F.many
  -- roots
  refine ⟨_, rfl, _, rfl, ws, v, wall, rs, hrow, R.W, F.ro, fun tr yr ls H1 e1 hperm htr hyr => ?_⟩
  have hll := hperm.length_eq
  have hyrl : yr.length = rs.length := by rw [hyr.len, List.length_map, hll]
  obtain ⟨wl, hwl, hwll⟩ := F.last
  obtain ⟨wf, hwf, hwfl⟩ := F.first
  have hlast : ∃ al, ys.getLast? = some (.ref al) ∧ H al = some (.tup (wl.map V.int)) := by
    rw [List.getLast?_eq_getElem?] at hwl ⊢
    obtain ⟨z, hz, nz⟩ := NKs.get hys (i := words.length - 1) (k := tupI wl) (by rw [List.getElem?_map, hwl]; rfl)
    obtain ⟨al, rfl, hal⟩ := tupI_inv nz
    exact ⟨al, by rw [hyl]; exact hz, hal⟩
  obtain ⟨al, hal1, hal2⟩ := hlast
  obtain ⟨z0, hz0, nz0⟩ := NKs.get hys (i := 0) (k := tupI wf) (by rw [List.getElem?_map, hwf]; rfl)
  obtain ⟨a0, rfl, ha0⟩ := tupI_inv nz0
  refine ⟨_, rfl, _, rfl, ay, _, _, _, rfl, rfl, .t (e1 _ _ hay), at_last hal1, al, _, rfl, .inr (SqT.of (e1 _ _ hal2)), _, rfl, tr, _, rfl, .inr (SqT.of htr), rfl, _, rfl, ?_⟩
  refine ite_f (by rw [List.length_map, hyrl, hwll]; simp) ?_
  refine ⟨_, rfl, ay, _, _, _, rfl, rfl, .t (e1 _ _ hay), at_of (j := 0) rfl hz0, a0, _, rfl, .inr (SqT.of (e1 _ _ ha0)), rfl, _, rfl, ?_⟩
  refine ite_f (by rw [List.length_map, hwfl]; simp) ?_
  have hrow1 := hrow.ex e1
  obtain ⟨a, dx, fs, rfl, ha, hf⟩ := id hrow1
  refine ⟨_, rfl, a, dx, fs, rfl, ha, hf.n2, ?_⟩
  refine ⟨_, rfl, ws, v, wall, hrow1, R.W, R.l, ⟨2, by decide, R.b⟩, fun xt H2 e2 hxt => ?_⟩
  have Rt : Rw ws (v.map fun q => 0 - q) wall 2 := ⟨R.W, by rw [List.length_map]; exact R.l, fun q hq => by
    obtain ⟨q0, h0, rfl⟩ := List.mem_map.mp hq
    exact (R.b q0 h0).neg'⟩
  refine ⟨_, rfl, ws, _, wall, 2, rs, hxt, Rt, by decide, F.ro, fun H3 e3 => ?_⟩
  have E3 := (e1.trans e2).trans e3
  refine ⟨_, rfl, tr, _, rfl, .inr (SqT.of ((e2.trans e3) _ _ htr)), _, _, rfl, rfl, _, rfl, ite_f (decide_eq_false (by have := F.turn; omega)) ?_⟩
  -- the ends
  have hrow3 := hrow.ex E3
  refine ⟨_, rfl, _, ws, v, wall, 2, rfl, hrow3, R, fun _ => ⟨_, e, by omega, F.endd, fun ve H4 e4 hve => ?_⟩, fun i hi => absurd (idxN_none hcl 0) (by rw [hi]; simp)⟩
  have E4 := E3.trans e4
  obtain ⟨ae, es, rfl, hae, hes⟩ := hve.tup_inv
  refine ⟨_, rfl, iSq_go (.t (E4 _ _ hay)) fun J1 w1 => ?_⟩
  have hrow4 := hrow.ex E4
  refine lc_if (Qd := fun D H' => _) (ks := words.map tupI) (hys.ex E4) w1 (tupP fun w => decide (afterR ws v w = e)) (by rw [List.length_map]; omega) (by intro _; rfl) (by intro _; rfl) (fun i x kk H5 hk hx nx e5 Q' q => ?_) (fun D zs H5 hD e5 hzs nzs => ?_)
  · rw [List.getElem?_map] at hk
    cases hwi : words[i]? with
    | none => rw [hwi] at hk; cases hk
    | some w =>
      rw [hwi] at hk
      cases hk
      obtain ⟨aw, rfl, haw⟩ := tupI_inv nx
      obtain ⟨wl1, wp⟩ := F.ok w (List.mem_of_getElem? hwi)
      refine ⟨_, rfl, _, rfl, _, _, rfl, ws, v, wall, 2, w, hrow4.ex e5, R, by omega, ⟨aw, rfl, .inr haw, by omega, wp⟩, fun xr H6 e6 hxr => ?_⟩
      obtain ⟨ax, dx6, fs6, rfl, hax, hf6⟩ := hxr
      obtain ⟨sp6, ss6, k1, k2, k3⟩ := hf6.s
      refine ⟨ax, C, dx6, _, _, rfl, hax, RC.cl, RC.s, k1, _, rfl, rowK (afterR ws v w), rowK e, .tup k2 k3, .tup ((e5.trans e6) _ _ hae) (hes.ex (e5.trans e6)), Nat.le_trans (depth_rowK _) (by decide), Nat.le_trans (depth_rowK _) (by decide), ?_⟩
      have q2 := q H6 e6
      rw [tupP_tupI] at q2
      have ed : decide (rowK (afterR ws v w) = rowK e) = decide (afterR ws v w = e) := by rw [decide_eq_decide]; exact ⟨rowK_inj, fun h => by rw [h]⟩
      rw [ed]
      exact ⟨_, rfl, q2⟩
  · obtain ⟨fw, fr, hfound, hfl, hfn⟩ := F.found
    rw [tupP_filter, hfound] at nzs
    have E5 := E4.trans e5
    have hfm : fw ∈ words := by
      have : fw ∈ words.filter (fun w => decide (afterR ws v w = e)) := by rw [hfound]; simp
      exact (List.mem_filter.mp this).1
    obtain ⟨fw1, fw2⟩ := F.ok fw hfm
    refine ⟨_, rfl, Nat.zero_le _, fun lt hlt => ?_⟩
    have e6 := Evl.Ex.new (H := H5) (o := .lst []) hlt
    generalize hH6 : upd H5 lt (.lst []) = H6 at e6
    have hlt6 : H6 lt = some (.lst []) := by rw [← hH6]; exact upd_same
    obtain ⟨z0, hz0, nz0⟩ := NKs.get (nzs.ex e6) (i := 0) (k := tupI fw) rfl
    obtain ⟨aw, rfl, haw⟩ := tupI_inv nz0
    have hz6 := e6 _ _ hzs
    have E6 := E5.trans e6
    refine ⟨D, lt, _, zs, rfl, hz6, nzs.ex e6, fun k hk => ?_, rfl, hlt6, _, rfl, ite_f (by simp) ?_⟩
    · obtain ⟨w, _, rfl⟩ := List.mem_map.mp hk
      exact Nat.le_trans (depth_ints w) (by decide)
    refine ⟨_, rfl, D, _, _, _, rfl, rfl, .l hz6, at_of (j := 0) rfl hz0, aw, _, rfl, .inr (SqT.of haw), _, rfl, _, rfl, ws, v, wall, 2, rs, hrow.ex E6, R, by decide, F.ro, fun H7 e7 => ?_⟩
    refine ⟨rfl, _, rfl, ite_f (by rw [List.length_map, hfl]; simp) ?_⟩
    have E7 := E6.trans e7
    refine ⟨_, rfl, _, rfl, D, _, _, _, rfl, rfl, .l (e7 _ _ hz6), at_of (j := 0) rfl hz0, _, _, rfl, ws, v, wall, 2, fw, hrow.ex E7, R, by omega, ⟨aw, rfl, .inr (e7 _ _ haw), by omega, fw2⟩, fun H8 e8 => ?_⟩
    rw [hfn]
    have E8 := E7.trans e8
    refine ⟨rfl, _, rfl, ite_f rfl ?_⟩
    -- whoever clashes first
    have htr8 : H8 tr = some (.tup yr) := ((((((e2.trans e3).trans e4).trans e5).trans e6).trans e7).trans e8) _ _ htr
    have hae8 : H8 ae = some (.tup es) := (((e5.trans e6).trans e7).trans e8) _ _ hae
    have hrow8 := hrow.ex E8
    refine ⟨_, rfl, _, rfl, tr, _, rfl, .inr (SqT.of htr8), _, _, rfl, rfl, (yr.length : Int) + 1, rfl, by omega, by omega, ?_⟩
    refine for_it (walk_rangeE (H := H8)) (fun j σ' H' => ∃ (cur : V) (v' : List Rat) (y6 y8 y9 : Option V), σ' = [some hd, some (.ref a), some (.ref ay), some (.ref tr), some (.ref ae), some (.ref D), y6, some cur, y8, y9] ∧ Ex H8 H' ∧ RowAt C H' cur ws v' wall ∧ Rw ws v' wall (2 + j) ∧ J j v' ∧ j ≤ countR ws.length wall v rs)
      ⟨.ref a, v, _, _, _, rfl, Ex.rfl, hrow8, R, F.j0, Nat.zero_le _⟩ (fun j σ' H' _ p => by obtain ⟨_, _, _, _, _, _, p, _⟩ := p; exact p) (fun j z σ' H' H'' hj p y => ?_) (fun σ' H' p => ?_)
    · obtain ⟨cur, v', y6, y8, y9, rfl, e9, hrow9, R9, hJ, hjc⟩ := p
      obtain ⟨rfl, rfl⟩ := y
      refine ⟨_, rfl, _, rfl, ws, v', wall, 2 + j, hrow9, R9, by omega, fun t H10 e10 ht => ?_⟩
      refine ⟨_, rfl, Nat.zero_le _, fun t0 ht0 => ?_⟩
      have e11 := Evl.Ex.new (H := H10) (o := .tup []) ht0
      generalize hH11 : upd H10 t0 (.tup []) = H11 at e11
      have ht011 : H11 t0 = some (.tup []) := by rw [← hH11]; exact upd_same
      have E11 := (e9.trans e10).trans e11
      refine ⟨tupI (comingR ws.length wall v'), .tup [], tupI_mk (e11 _ _ ht), .tup ht011 .nil, Nat.le_trans (depth_ints _) (by decide), Nat.le_trans (depth_ints []) (by decide), _, rfl, ?_⟩
      cases hc : comingR ws.length wall v' with
      | nil =>
        obtain ⟨rfl, hjn⟩ := F.je j v' hJ hc
        refine ite_t (decide_eq_true rfl) ?_
        obtain ⟨ax, dx9, fs9, rfl, hax, hf9⟩ := hrow9
        obtain ⟨sp9, ss9, k1, k2, k3⟩ := hf9.s
        refine ⟨_, rfl, ax, C, dx9, _, _, rfl, (e10.trans e11) _ _ hax, RC.cl, RC.s, k1, _, rfl, rowK v', rowK v', .tup ((e10.trans e11) _ _ k2) (k3.ex (e10.trans e11)), .tup (E11 _ _ hae8) (hes.ex (((((e5.trans e6).trans e7).trans e8)).trans E11)), Nat.le_trans (depth_rowK _) (by decide), Nat.le_trans (depth_rowK _) (by decide), _, rfl, ite_t (decide_eq_true rfl) ?_⟩
        refine ⟨_, rfl, _, rfl, _, rfl, ws, v, wall, 2, rs, hrow8.ex E11, R, by decide, F.ro, fun H12 e12 => ⟨rfl, ?_⟩⟩
        have hk := k H12 (E8.trans (E11.trans e12))
        rw [decide_eq_true (show (V.int (0 + (j : Int)) : V) = .int (countR ws.length wall v rs : Int) by rw [hjn, Int.zero_add])]
        exact hk
      | cons p r =>
        refine ite_f (decide_eq_false (fun z => by injection z with z; cases z)) ?_
        have hcl2 : 0 < (comingR ws.length wall v').length := by rw [hc]; simp
        have hcw : (comingR ws.length wall v').length ≤ 3 := Nat.le_trans (List.length_filter_le _ _) R.W.g
        refine ⟨_, rfl, _, rfl, _, rfl, _, _, rfl, hx.ex (E8.trans E11), t, _, rfl, .inr (e11 _ _ ht), by rw [List.length_map]; exact hcl2, by rw [List.length_map]; omega, fun i vp H12 e12 hi => ?_⟩
        rw [List.getElem?_map] at hi
        cases hq : (comingR ws.length wall v')[i]? with
        | none => rw [hq] at hi; cases hi
        | some q =>
          rw [hq] at hi
          cases hi
          have hqm := List.mem_of_getElem? hq
          have hq2 : q ∈ pairsOf ws.length wall := (List.mem_filter.mp hqm).1
          obtain ⟨js1, js2⟩ := F.js j v' q hJ hqm
          refine ⟨_, _, rfl, ws, v', wall, 2 + j, q, hrow9.ex ((e10.trans e11).trans e12), R9, by omega, rfl, hq2, fun left H13 e13 hr13 => ?_⟩
          exact ⟨left, clashR ws v' q, _, _, _, rfl, (E11.trans e12).trans e13, hr13, R9.clash hq2, js1, js2⟩
    · exfalso
      obtain ⟨_, _, _, _, _, _, _, _, _, _, hjc⟩ := p
      omega
end
end K74
namespace K74
open PySem PySem.Spec PyProof.Rows L2
/-! ### the law -/
/-- a list of data != another -/
def rNeLL : R2 := fun x y H Q => ∃ p q ks ls xs ys, x = .ref p ∧ H p = some (.lst xs) ∧ NKs H ks xs ∧ y = .ref q ∧ H q = some (.lst ys) ∧ NKs H ls ys ∧ (∀ k ∈ ks, k.depth ≤ 50) ∧ (∀ k ∈ ls, k.depth ≤ 50) ∧ Q (.bl (!decide (ks = ls))) H
section
variable {X : Cx}
theorem list_shaped {H : Hp} {ks : List NestedKey} {xs : List V} (hk : NKs H ks xs) (hd : ∀ k ∈ ks, k.depth ≤ 50) : SeqAt.shaped (.list (NestedKey.datas ks)) = true := by
  show (PyData.canLay0 (.list (NestedKey.datas ks)) && decide (PyData.depth (.list (NestedKey.datas ks)) ≤ 64)) = true
  have h1 : PyData.canLay0 (.list (NestedKey.datas ks)) = true := by simp only [PyData.canLay0]; exact NKs.lay ks _ hk
  have h2 : PyData.depth (.list (NestedKey.datas ks)) ≤ 64 := by
    simp only [PyData.depth]
    rw [datas_depth]
    have := depthAll_le hd
    omega
  rw [h1, decide_eq_true h2]
  rfl
theorem op_neLL (hu : X.A.units + 64 < cLine) : OpR X (compareOp .NotEq) rNeLL := by
  intro pins s σ H x y v u Q I rx ry h
  obtain ⟨p, q, ks, ls, xs, ys, rfl, hp, hk, rfl, hq, hl, dk, dl, k⟩ := h
  refine op_neD hu pins s σ H _ _ v u Q I rx ry ⟨.list (NestedKey.datas ks), .list (NestedKey.datas ls), .lst (SqL.of hp) (NKs.dp ks _ hk), .lst (SqL.of hq) (NKs.dp ls _ hl), list_shaped hk dk, list_shaped hl dl, ?_⟩
  have e : PyData.eqv (.list (NestedKey.datas ks)) (.list (NestedKey.datas ls)) = decide (ks = ls) := by
    have h1 := data_eqv (.tup ks) (.tup ls)
    have h2 : PyData.eqv (.list (NestedKey.datas ks)) (.list (NestedKey.datas ls)) = PyData.eqv (NestedKey.tup ks).data (NestedKey.tup ls).data := by
      simp only [NestedKey.data, PyData.eqv]
    rw [h2, h1, ← NestedKey.decide_eq, decide_eq_decide]
    exact ⟨tup_inj, fun h => by rw [h]⟩
  rw [e]
  exact k
end
theorem optK_mk {H : Hp} (o : Option Int) : NK H (optK o) (optI o) := by
  cases o with
  | none => exact .none
  | some i => exact .num i
theorem optKs_mk {H : Hp} : ∀ (os : List (Option Int)), NKs H (os.map optK) (os.map optI)
  | [] => .nil
  | o :: os => .cons (optK_mk o) (optKs_mk os)
theorem optK_depth (os : List (Option Int)) : ∀ k ∈ os.map optK, k.depth ≤ 50 := by
  intro k hk
  obtain ⟨o, _, rfl⟩ := List.mem_map.mp hk
  cases o with
  | none => decide
  | some i => exact Nat.le_trans (Nat.le_of_eq (rfl : (NestedKey.num i).depth = 0)) (Nat.zero_le _)
theorem idxN_go : ∀ {os : List (Option Int)} {k i : Nat}, idxN os k = some i → ∃ j, i = k + j ∧ os[j]? = some none ∧ ∀ m, m < j → os[m]? ≠ some none
  | [], _, _, h => by cases h
  | none :: r, k, i, h => by
    cases h
    exact ⟨0, rfl, rfl, fun m hm => by omega⟩
  | some n :: r, k, i, h => by
    obtain ⟨j, h1, h2, h3⟩ := idxN_go (os := r) (k := k + 1) h
    refine ⟨j + 1, by omega, h2, fun m hm => ?_⟩
    cases m with
    | zero => intro z; cases z
    | succ m => exact h3 m (by omega)
theorem idxN_spec {os : List (Option Int)} {i : Nat} (h : idxN os 0 = some i) : os[i]? = some none ∧ ∀ m, m < i → os[m]? ≠ some none := by
  obtain ⟨j, h1, h2, h3⟩ := idxN_go h
  have : i = j := by omega
  subst this
  exact ⟨h2, h3⟩
section
variable {c : Cn} {C CN : Addr}
abbrev s_law : Stmt := topS 83
theorem sc_law : FnScope ["_law_script", "_law_hand_here", "_law_weights", "_law_shut", "_law_many", "_law_speeds", "_law_k", "_law_row", "_law_orders", "_law_due", "_law_at", "_law_pair", "_law_words"] ["_law_script"] (defScope s_law) := ⟨rfl, rfl, rfl, by decide +kernel, rfl, by decide +kernel, by decide +kernel⟩
def spLaw (K : PySem.W.Frag) : Sp := sp1 fun x H Q => ∃ (a : Addr) (cells : List Int), x = .ref a ∧ SqL K H a (cells.map V.int) ∧ cells.length ≤ 64 ∧ RetV (.bl true) H Q
theorem ok_law {f : Addr} {fd : FuncData} (T : Tx c.mg) (RC : RwC c C) (F : Fun c.K "law" "law" s_law f fd) (g__law_hand : Kn c CX0 1 "_law_hand" ["_law_script"] (spHand c.K)) (g__law_case : Kn c CX0 6 "_law_case" ["_law_hand_here"] spCase) (g__law_speed : Kn c CX0 3 "_law_speed" ["_law_hand_here", "_law_wide"] spSpeed)
    (g__law_draw : Kn c CX0 2 "_law_draw" ["_law_hand_here", "_law_many"] spDraw) (g__law_falling : Kn c CX0 2 "_law_falling" ["_law_speeds"] spFalling) (g_Row : Nn c C 5 "Row" ["self", "weights", "speeds", "wall"] (spRowInit C)) (g_orders_of : Kn c CX0 5 "orders_of" ["row"] (spOrders C))
    (g__law_by_hand : Kn c CX0 1 "_law_by_hand" ["_law_weights", "_law_shut", "_law_at"] spByHand) (g_returns_after : Kn c CX0 8 "returns_after" ["row", "word"] (spReturns C)) (g_all_tables : Kn c CX0 6 "all_tables" ["row"] (spAll C)) (g_is_closed : Kn c CX0 6 "is_closed" ["row"] (spClosed C))
    (g__law_not_closed : Kn c CX0 10 "_law_not_closed" ["_law_row"] (spNotClosed C)) (g__law_closed_right : Kn c CX0 10 "_law_closed_right" ["_law_hand_here", "_law_row", "_law_words"] (spRight C)) : FnOk c.P c.w c.K c.mg c.base CX0 11 f fd ["_law_script"] (spLaw c.K) := by
  have sc := sc_law
  refine F.ok sc len1 (fun cdv A outer s H vs Q E hr h => ?_)
  have hu := hr.units
  refine ⟨_, (pss_cons (ps_set (i := 1) sc.nd rfl (.inr rfl) (pe_kn g__law_hand (hr.mono (by decide)) rfl (pa_cons (pv 0) pa_nil)))
  (pss_cons (ps_asg (pe_kn g__law_case (hr.mono (by decide)) rfl (pa_cons (pv 1) pa_nil)) (pg_lst rfl (pgs_cons (pg_name (i := 2) sc.nd rfl (.inr rfl)) (pgs_cons (pg_name (i := 3) sc.nd rfl (.inr rfl)) pgs_nil))))
  (pss_cons (ps_set (i := 4) sc.nd rfl (.inl rfl) (pe_callB call_len_seq (by rfl) T.len PySem.boot_len (pa_cons (pv 2) pa_nil)))
  (pss_cons (ps_setLc (i := 5) (own := [("_law_k", 6)]) (g := gName 6) (tt := tYes) rfl sc.nd rfl rfl (sw_true rfl rfl rfl (by decide +kernel)) (pi_range1 rfl T.range (pa_cons (pv 4) pa_nil)) (blkOk_by (by kernel_rfl)) (fun _ _ _ _ _ => (pg_name (i := 6) sc.nd rfl (.inl rfl))) (fun _ _ _ _ _ => pts_nil) (fun _ _ _ _ _ => (pe_kn g__law_speed (hr.mono (by decide)) rfl (pa_cons (pv 1) (pa_cons pe_bl pa_nil)))))
  (pss_cons (ps_if (pt_cmpR op_eq (pe_kn g__law_draw (hr.mono (by decide)) rfl (pa_cons (pv 1) (pa_cons pe_int pa_nil))) pe_int (nomark _)) (pss_one (ps_set (i := 5) sc.nd rfl (.inl rfl) (pe_kn g__law_falling (hr.mono (by decide)) rfl (pa_cons (pv 5) pa_nil))))
    pss_nil)
  (pss_cons (ps_set (i := 7) sc.nd rfl (.inl rfl) (pe_nn g_Row (hr.mono (by decide)) rfl (pa_cons (pv 2) (pa_cons (pv 5) (pa_cons (pv 3) pa_nil)))))
  (pss_cons (ps_set (i := 8) sc.nd rfl (.inl rfl) (pe_kn g_orders_of (hr.mono (by decide)) rfl (pa_cons (pv 7) pa_nil)))
  (pss_cons (ps_setLc (i := 9) (own := [("_law_at", 10)]) (g := gName 10) (tt := tYes) rfl sc.nd rfl rfl (sw_true rfl rfl rfl (by decide +kernel)) (pi_range1 rfl T.range (pa_cons (pe_op op_sub (pe_callB call_len_seq (by rfl) T.len PySem.boot_len (pa_cons (pe_fld (pv 7) rfl) pa_nil)) pe_int) pa_nil)) (blkOk_by (by kernel_rfl)) (fun _ _ _ _ _ => (pg_name (i := 10) sc.nd rfl (.inl rfl))) (fun _ _ _ _ _ => pts_nil) (fun _ _ _ _ _ => (pe_kn g__law_by_hand (hr.mono (by decide)) rfl (pa_cons (pv 2) (pa_cons (pv 3) (pa_cons (pv 10) pa_nil))))))
  (pss_cons (ps_if (PW.pt (pw_or (pt_not (pt_val (pe_callB call_isi (by rfl) T.isinstance (by decide +kernel) (pa_cons (pv 8) (pa_cons (ty_tuple T) pa_nil))))) (pw_or1 (pt_cmpR (op_neLL hu) (pe_callTy call_list_of (by rfl) T.list (by decide +kernel) (pa_cons (pv 8) pa_nil)) (pv 9) (nomark _))))) (pss_one (ps_ret pe_bl))
    pss_nil)
  (pss_cons (ps_for PassesOwn.never rfl (pi_range1 rfl T.range (pa_cons (pe_callB call_len_seq (by rfl) T.len PySem.boot_len (pa_cons (pv 9) pa_nil)) pa_nil)) (pg_name (i := 10) sc.nd rfl (.inl rfl))
    (pss_cons (ps_set (i := 11) sc.nd rfl (.inl rfl) (pe_ix ix_sq (pe_fld (pv 7) rfl) (pv 10) (fun _ _ => rfl)))
    (pss_one (ps_if (PW.pt (pw_or (pt_cmpR op_ne (pe_kn g_returns_after (hr.mono (by decide)) rfl (pa_cons (pv 7) (pa_cons (pe_tup (pa_cons (pv 11) (pa_cons (pe_op op_add (pv 11) pe_int) pa_nil))) pa_nil))) (pe_ix ix_sq (pv 9) (pv 10) (fun _ _ => rfl)) (nomark _)) (pw_or1 (pt_cmpR op_ne (pe_kn g_returns_after (hr.mono (by decide)) rfl (pa_cons (pv 7) (pa_cons (pe_lst (pa_cons (pe_op op_add (pv 11) pe_int) (pa_cons (pv 11) pa_nil))) pa_nil))) (pe_ix ix_sq (pv 9) (pv 10) (fun _ _ => rfl)) (nomark _))))) (pss_one (ps_ret pe_bl))
      pss_nil))))
  (pss_cons (ps_set (i := 12) sc.nd rfl (.inl rfl) (pe_kn g_all_tables (hr.mono (by decide)) rfl (pa_cons (pv 7) pa_nil)))
  (pss_cons (ps_if (PW.pt (pw_or (pt_cmpR op_ne (pe_cmpR op_isN (pv 12) pe_non (nomark _)) (pe_cmpR op_in_seq pe_non (pv 9) (by rfl)) (nomark _)) (pw_or1 (pt_cmpR op_ne (pe_kn g_is_closed (hr.mono (by decide)) rfl (pa_cons (pv 7) pa_nil)) (pe_cmpR op_notIn_seq pe_non (pv 9) (by rfl)) (nomark _))))) (pss_one (ps_ret pe_bl))
    pss_nil)
  (pss_cons (ps_if (pt_cmpR op_isN (pv 12) pe_non (nomark _)) (pss_one (ps_ret (pe_cmpR op_eq (pe_kn g__law_not_closed (hr.mono (by decide)) rfl (pa_cons (pv 7) pa_nil)) (pe_bm PySem.F.plainAttrs_list PySem.F.slot_list_index PySem.F.type_list_index mt_index (pv 9) (pa_cons pe_non pa_nil)) (nomark _))))
    pss_nil)
  (pss_one (ps_ret (pe_and (pe_cmpR op_isN (pe_kn g__law_not_closed (hr.mono (by decide)) rfl (pa_cons (pv 7) pa_nil)) pe_non (nomark _)) (pe_one (pe_kn g__law_closed_right (hr.mono (by decide)) rfl (pa_cons (pv 1) (pa_cons (pv 7) (pa_cons (pv 12) pa_nil))))))))))))))))))))), ?_⟩
  obtain ⟨_, rfl, a, cells, rfl, ha, hcl, k⟩ := h
  refine ⟨_, rfl, _, rfl, a, cells, rfl, ha, hcl, fun hd H1 e1 hh => ?_⟩
  refine ⟨_, rfl, _, rfl, hh, fun p aw shut ws H2 e2 hp haw hok => ?_⟩
  have W := wk_of hok
  have hn4 := W.n
  have E2 := e1.trans e2
  refine ⟨p, _, rfl, SqL.of hp, rfl, _, _, rfl, _, _, rfl, rfl, ?_⟩
  refine ⟨_, rfl, aw, _, rfl, .inl (SqL.of haw), ?_⟩
  have hwl : (ws.map V.int).length = ws.length := List.length_map _
  refine ⟨_, rfl, ((ws.map V.int).length : Int), rfl, by omega, by omega, ?_⟩
  refine lc_prop (Qd := fun D H' => _) (walk_rangeE (H := H2)) grow_fn (P := PSpd) PSpd.st (by omega) (by intro _; rfl) (fun i z H3 H4 hi g1 g2 y Q' q => ?_) (fun lb ys H3 hlb e3 hyb hyl hyp => ?_)
  · obtain ⟨rfl, rfl⟩ := y
    exact ⟨_, rfl, _, _, rfl, hh.ex (e2.trans g2), _, rfl, fun qq vv H6 e6 h6 b6 => q _ _ e6 ⟨qq, h6, b6⟩⟩
  have E3 := E2.trans e3
  obtain ⟨qs, hqs, hbd⟩ := spd_all hyp
  have hql : qs.length = ws.length := by rw [← List.length_map (f := qK), ← hqs.len, hyl]; omega
  refine ⟨_, rfl, _, _, rfl, (hh.ex e2).ex e3, _, rfl, by decide, by decide, fun r1 H4 e4 _ _ => ⟨rfl, _, rfl, ?_⟩⟩
  have E4 := E3.trans e4
  suffices rest : ∀ (lv : Addr) (v : List Rat) (H5 : Hp) (y6 : Option V), Ex H4 H5 → SpL H5 lv v → v.length = ws.length → (∀ q ∈ v, Bd 2 q) → (tSeq _ _ : TS) { nx := fun _ H' => Q .non H', rt := Q } [some (.ref a), some hd, some (.ref aw), some (.bl shut), some (.int ((ws.map V.int).length : Int)), some (.ref lv), y6, none, none, none, none, none, none] H5 by
    by_cases hr1 : r1 = 0
    · refine ite_t (decide_eq_true (by rw [hr1])) ⟨_, rfl, _, rfl, lb, qs, rfl, ⟨ys, e4 _ _ hyb, hqs.ex e4⟩, fun q hq => (hbd q hq).sm (by decide), by omega, fun l2 vs2 H6 e6 h6 hm6 hl6 => ?_⟩
      exact rest l2 vs2 H6 _ e6 h6 (by omega) fun q hq => hbd q (hm6 q hq)
    · exact ite_f (decide_eq_false (fun z => hr1 (by injection z))) (rest lb qs H4 _ Ex.rfl ⟨ys, e4 _ _ hyb, hqs.ex e4⟩ hql hbd)
  intro lv v H5 y6 e5 hv hvl hvb
  have E5 := E4.trans e5
  obtain ⟨vs, hlv, hvs⟩ := hv
  have haw5 : H5 aw = some (.lst (ws.map V.int)) := ((e3.trans e4).trans e5) _ _ haw
  have Rv : Rw ws v shut 2 := ⟨W, hvl, hvb⟩
  refine ⟨_, rfl, _, rfl, _, rfl, ?_⟩
  intro xr dr hxr hdr hne
  have e51 : Ex H5 (upd H5 dr (.own xr)) := Evl.Ex.new hdr
  have hx1 : (upd H5 dr (.own xr)) xr = none := by rw [upd_ne (Ne.symm hne)]; exact hxr
  have e52 : Ex H5 (upd (upd H5 dr (.own xr)) xr (.ins C dr [])) := e51.trans (Evl.Ex.new hx1)
  have hin : RowIn H5 (.ref aw) (.ref lv) (.bl shut) ws v shut := ⟨aw, lv, vs, rfl, .inl haw5, rfl, .inl hlv, hvs, rfl, W, hvl, 2, by decide, hvb⟩
  refine ⟨_, _, _, _, rfl, xr, dr, ws, v, shut, rfl, upd_same, hin.ex e52, fun H6 fsr ea hfr hrr => ⟨rfl, ?_⟩⟩
  have hrow : RowAt C H6 (.ref xr) ws v shut := ⟨xr, dr, fsr, rfl, hfr, hrr⟩
  have e6 : Ex H5 H6 := by
    intro b o hb
    refine ea b o (fun z => ?_) (e52 _ _ hb)
    rw [z, hxr] at hb
    cases hb
  have haw6 := e6 _ _ haw5
  refine ⟨_, rfl, _, rfl, ws, v, shut, hrow, W, fun to H7 e7 hto => ?_⟩
  rw [orders_due W] at hto
  have E7 := (E5.trans e6).trans e7
  have hrow7 := hrow.ex e7
  have haw7 := e7 _ _ haw6
  obtain ⟨ax, dx, fs, exr, hax, hf⟩ := id hrow7
  cases exr
  obtain ⟨ap, hp1, hp2⟩ := hf.p
  have hpl1 := pairs_pos W
  have hpl3 := W.g
  refine ⟨_, rfl, xr, C, dx, _, _, rfl, hax, RC.cl, RC.p, hp1, ap, _, rfl, .inr (SqT.of hp2), _, _, rfl, rfl, (((pairsOf ws.length shut).map V.int).length : Int) - 1, rfl, by rw [List.length_map]; omega, by rw [List.length_map]; omega, ?_⟩
  have hdl : (dueR ws shut).length = (pairsOf ws.length shut).length - 1 := by unfold dueR; rw [List.length_map, List.length_range]
  refine lc_name (Qd := fun D H' => _) (walk_rangeE (H := H7)) grow_fn ((dueR ws shut).map optK) (by rw [List.length_map, hdl, List.length_map]; omega) (by rw [List.length_map]; omega) (by intro _; rfl) (fun i z kk H8 H9 hk g1 g2 y Q' q => ?_) (fun ld zs H8 hld e8 hz8 hzs => ?_)
  · obtain ⟨rfl, rfl⟩ := y
    rw [List.getElem?_map] at hk
    cases hdi : (dueR ws shut)[i]? with
    | none => rw [hdi] at hk; cases hk
    | some o =>
      rw [hdi] at hk
      cases hk
      have hi : i < (dueR ws shut).length := (List.getElem?_eq_some_iff.mp hdi).1
      have ho : o = handR ws shut i := by
        unfold dueR at hdi
        rw [List.getElem?_map, List.getElem?_range (by omega)] at hdi
        injection hdi with hdi
        exact hdi.symm
      refine ⟨_, rfl, _, rfl, _, rfl, _, _, _, rfl, aw, ws, shut, i, rfl, g2 _ _ haw7, rfl, (by show (V.int (0 + (i : Int)) : V) = V.int (i : Int); rw [Int.zero_add]), W.w, ?_, fun H10 e10 => q _ _ e10 (by rw [ho]; exact optK_mk _)⟩
      have hpl := pairs_len ws.length shut
      unfold firstOf at hpl
      cases shut with
      | false => rw [if_neg (by decide)]; simp at hpl; omega
      | true => rw [if_pos rfl]; simp at hpl; omega
  have ezs := optKs_inv hzs
  subst ezs
  have hto8 := e8 _ _ hto
  refine ⟨_, rfl, _, _, _, _, true, rfl, .ty "tuple", .base (.tup hto8), kit_tup_tuple, _, rfl, ite_f rfl ?_⟩
  refine ⟨_, rfl, to, _, rfl, .inr (SqT.of hto8), fun lo hlo => ?_⟩
  have e9 := Evl.Ex.new (H := H8) (o := .lst ((dueR ws shut).map optI)) hlo
  generalize hH9 : upd H8 lo (.lst ((dueR ws shut).map optI)) = H9 at e9
  have hlo9 : H9 lo = some (.lst ((dueR ws shut).map optI)) := by rw [← hH9]; exact upd_same
  have hld9 := e9 _ _ hz8
  refine ⟨_, rfl, lo, ld, _, _, _, _, rfl, hlo9, optKs_mk _, rfl, hld9, optKs_mk _, optK_depth _, optK_depth _, _, rfl, ite_f (by simp) ?_⟩
  have E9 := (E7.trans e8).trans e9
  have hrow9 := (hrow7.ex e8).ex e9
  have hax9 := (e8.trans e9) _ _ hax
  have hp9 := (e8.trans e9) _ _ hp2
  refine ⟨_, rfl, ld, _, rfl, .inl (SqL.of hld9), (((dueR ws shut).map optI).length : Int), rfl, by omega, by rw [List.length_map]; omega, ?_⟩
  refine for_it (walk_rangeE (H := H9)) (fun j σ' H' => ∃ (y6 y10 y11 : Option V), σ' = [some (.ref a), some hd, some (.ref aw), some (.bl shut), some (.int ((ws.map V.int).length : Int)), some (.ref lv), y6, some (.ref xr), some (.ref to), some (.ref ld), y10, y11, none] ∧ Ex H9 H')
    ⟨_, _, _, rfl, Ex.rfl⟩ (fun j σ' H' _ p => by obtain ⟨_, _, _, _, p⟩ := p; exact p) (fun i z σ' H' H'' hi p y => ?_) (fun σ' H' p => ?_)
  · obtain ⟨y6, y10, y11, rfl, e10⟩ := p
    obtain ⟨rfl, rfl⟩ := y
    rw [List.length_map] at hi
    have hi2 : i < (dueR ws shut).length := by omega
    have hi3 : i + 1 < (pairsOf ws.length shut).length := by omega
    have hpi := pairs_at (n := ws.length) (wall := shut) (i := i) (by omega)
    obtain ⟨q, hq⟩ : ∃ q : Int, q = firstOf shut + (i : Int) := ⟨_, rfl⟩
    rw [← hq] at hpi
    have hdi : (dueR ws shut)[i]? = some (handR ws shut i) := by
      unfold dueR
      rw [List.getElem?_map, List.getElem?_range (by omega)]; rfl
    have hz : (0 : Int) + (i : Int) = (i : Int) := Int.zero_add _
    obtain ⟨w1, w2⟩ := word_due W hi3 hq
    have m1 : q ∈ pairsOf ws.length shut := List.mem_of_getElem? hpi
    have m2 : q + 1 ∈ pairsOf ws.length shut := by
      have := pairs_mem (n := ws.length) (wall := shut) (i := i + 1) hi3
      have e : firstOf shut + ((i + 1 : Nat) : Int) = q + 1 := by omega
      rw [e] at this
      exact this
    refine ⟨_, rfl, xr, C, dx, _, _, rfl, e10 _ _ hax9, RC.cl, RC.p, hp1, _, rfl, ap, _, _, _, rfl, rfl, .t (e10 _ _ hp9), at_of (j := i) hz (by rw [List.getElem?_map, hpi]; rfl), ?_⟩
    have hs : ∀ o : Option Int, scal (optI o) (optI o) = true := fun o => by cases o <;> rfl
    have hrow10 := hrow9.ex e10
    have hld10 := e10 _ _ hld9
    refine ⟨_, rfl, _, rfl, _, rfl, _, _, rfl, rfl, (by show 2 ≤ sizeLine; decide), fun tw htw => ?_⟩
    have e11 := Evl.Ex.new (H := H'') (o := .tup [V.int q, V.int (q + 1)]) htw
    refine ⟨_, _, rfl, ws, v, shut, [q, q + 1], hrow10.ex e11, W, by simp, ⟨tw, rfl, .inr upd_same, by simp, fun p hp => ?_⟩, fun H12 e12 => ?_⟩
    · rcases List.mem_cons.mp hp with rfl | hp
      · exact m1
      · rw [List.mem_singleton.mp hp]; exact m2
    rw [w1, hand_opt]
    have E12 := e11.trans e12
    refine ⟨_, rfl, _, rfl, ld, _, _, _, rfl, rfl, .l (E12 _ _ hld10), at_of (j := i) hz (by rw [List.getElem?_map, hdi]; rfl), hs _, _, rfl, ite_f (by simp) ?_⟩
    refine ⟨_, rfl, _, rfl, _, _, rfl, rfl, _, rfl, (by show 2 ≤ sizeLine; decide), fun tw2 htw2 => ?_⟩
    have e13 := Evl.Ex.new (H := H12) (o := .lst [V.int (q + 1), V.int q]) htw2
    refine ⟨_, _, rfl, ws, v, shut, [q + 1, q], (hrow10.ex E12).ex e13, W, by simp, ⟨tw2, rfl, .inl upd_same, by simp, fun p hp => ?_⟩, fun H14 e14 => ?_⟩
    · rcases List.mem_cons.mp hp with rfl | hp
      · exact m2
      · rw [List.mem_singleton.mp hp]; exact m1
    rw [w2, hand_opt]
    have E14 := (E12.trans e13).trans e14
    refine ⟨_, rfl, _, rfl, ld, _, _, _, rfl, rfl, .l (E14 _ _ hld10), at_of (j := i) hz (by rw [List.getElem?_map, hdi]; rfl), hs _, _, rfl, ite_f (by simp) ?_⟩
    exact ⟨_, _, _, rfl, e10.trans E14⟩
  · obtain ⟨y6, y10, y11, rfl, e10⟩ := p
    have hrow10 := hrow9.ex e10
    have hld10 := e10 _ _ hld9
    have E10 := E9.trans e10
    have hh10 := (hh.ex e2).ex ((((e3.trans e4).trans e5).trans e6).trans (((e7.trans e8).trans e9).trans e10))
    by_cases hcl : none ∈ dueR ws shut
    · have hA := all_none W (by rw [orders_due W]; exact hcl)
      refine ⟨_, rfl, _, rfl, ws, v, shut, hrow10, W, ?_⟩
      rw [hA]
      intro H11 e11
      have hld11 := e11 _ _ hld10
      refine ⟨_, rfl, rfl, _, rfl, ld, _, rfl, .inl (SqL.of hld11), rfl, flat_opt _, ?_⟩
      rw [inV_opt, decide_eq_true hcl]
      refine ⟨rfl, _, rfl, ite_f rfl ?_⟩
      refine ⟨_, rfl, _, rfl, ws, v, shut, hrow10.ex e11, W, fun H12 e12 => ?_⟩
      rw [orders_due W, decide_eq_true hcl]
      refine ⟨_, rfl, ld, _, rfl, .inl (SqL.of (e12 _ _ hld11)), rfl, flat_opt _, ?_⟩
      rw [inV_opt, decide_eq_true hcl]
      refine ⟨rfl, _, rfl, ite_f rfl ?_⟩
      refine ⟨_, rfl, rfl, _, rfl, ite_t rfl ?_⟩
      refine ⟨_, rfl, _, rfl, ws, v, shut, 2, (hrow10.ex e11).ex e12, Rv, fun h => absurd (by rw [orders_due W]; exact hcl) h, fun i hi H13 e13 => ?_⟩
      rw [orders_due W] at hi
      obtain ⟨hi1, hi2⟩ := idxN_spec hi
      refine ⟨_, rfl, .inl ⟨rfl, _, SqL.of ((e12.trans e13) _ _ hld11)⟩, ld, _, .non, i, .non, rfl, rfl, SqL.of ((e12.trans e13) _ _ hld11), rfl, flat_opt _, by rw [List.getElem?_map, hi1]; rfl, rfl, fun m z' hm hz' => ?_, rfl, ?_⟩
      · rw [List.getElem?_map] at hz'
        cases ho : (dueR ws shut)[m]? with
        | none => rw [ho] at hz'; cases hz'
        | some o =>
          rw [ho] at hz'
          cases hz'
          cases o with
          | none => exact absurd ho (hi2 m hm)
          | some n => rfl
      · rw [decide_eq_true rfl]
        exact k _ (E10.trans ((e11.trans e12).trans e13))
    · obtain ⟨st, rs, en, J, hA, F⟩ := ck_open W (by rw [orders_due W]; exact hcl) (ck_all hok hcl) hvl
      refine ⟨_, rfl, _, rfl, ws, v, shut, hrow10, W, ?_⟩
      rw [hA]
      intro tv H11 e11 htv
      obtain ⟨at_, ts, rfl, hat, hts⟩ := htv.tup_inv
      have hld11 := e11 _ _ hld10
      have hcn := F.cnt
      have hfw := F.few
      refine ⟨_, rfl, rfl, _, rfl, ld, _, rfl, .inl (SqL.of hld11), rfl, flat_opt _, ?_⟩
      rw [inV_opt, decide_eq_false hcl]
      refine ⟨rfl, _, rfl, ite_f rfl ?_⟩
      refine ⟨_, rfl, _, rfl, ws, v, shut, hrow10.ex e11, W, fun H12 e12 => ?_⟩
      rw [orders_due W, decide_eq_false hcl]
      refine ⟨_, rfl, ld, _, rfl, .inl (SqL.of (e12 _ _ hld11)), rfl, flat_opt _, ?_⟩
      rw [inV_opt, decide_eq_false hcl]
      refine ⟨rfl, _, rfl, ite_f rfl ?_⟩
      refine ⟨_, rfl, rfl, _, rfl, ite_f rfl ?_⟩
      refine ⟨_, rfl, _, rfl, ws, v, shut, 2, (hrow10.ex e11).ex e12, Rv, fun _ => ⟨⟨_, en, by omega, F.endd⟩, fun H13 e13 => ?_⟩, fun i hi => absurd (idxN_none F.ro.cl 0) (by rw [hi]; simp)⟩
      refine ⟨rfl, _, rfl, ite_t rfl ?_⟩
      have E13 := (e11.trans e12).trans e13
      refine ⟨_, rfl, _, rfl, _, rfl, _, _, _, rfl, hh10.ex E13, ws, v, shut, st.map (·.1), rs, en, J, hrow10.ex E13, Rv, ?_, F, fun H14 e14 => k _ ((E10.trans E13).trans e14)⟩
      rw [List.map_map]
      exact .tup ((e12.trans e13) _ _ hat) (hts.ex (e12.trans e13))
end
end K74
namespace K74
open PySem PySem.Spec PyProof.Rows L2
/-! ### all together -/
theorem all_law {c : Cn} {C CT CN f : Addr} {fd : FuncData} (T : Tx c.mg) (M : Tm c.mg) (RC : RwC c C) (TC : TbC c CT) (N : NcC c CN)
    (D_is_whole : Dn c "is_whole" s_is_whole ["thing"])
    (D_is_ratio : Dn c "is_ratio" s_is_ratio ["thing"])
    (D_lowest_terms : Dn c "lowest_terms" s_lowest_terms ["top", "bottom"])
    (D_ratio_of : Dn c "ratio_of" s_ratio_of ["thing"])
    (D_plus : Dn c "plus" s_plus ["one", "other"])
    (D_minus : Dn c "minus" s_minus ["one", "other"])
    (D_times : Dn c "times" s_times ["one", "other"])
    (D_compare : Dn c "compare" s_compare ["one", "other"])
    (D_mixed_ratio : Dn c "mixed_ratio" s_mixed_ratio ["one", "first", "other", "second", "divisor"])
    (D_clashed : Dn c "clashed" s_clashed ["weights", "rates", "pair"])
    (D_closing_of : Dn c "closing_of" s_closing_of ["rates", "pair"])
    (D_check_balls : Dn c "check_balls" s_check_balls ["weights", "speeds", "wall"])
    (D_row : DiRow c C)
    (D_Row_len : Dm c C "__len__" "Row.__len__" s_Row_len ["self"])
    (D_Row_with_speeds : Dm c C "with_speeds" "Row.with_speeds" s_Row_with_speeds ["self", "speeds"])
    (D_Row_turned : Dm c C "turned" "Row.turned" s_Row_turned ["self"])
    (D_check_narrow : Dn c "check_narrow" s_check_narrow ["row"])
    (D_check_pair : Dn c "check_pair" s_check_pair ["row", "pair"])
    (D_check_word : Dn c "check_word" s_check_word ["row", "word"])
    (D_after_clash : Dn c "after_clash" s_after_clash ["row", "pair"])
    (D_after_word : Dn c "after_word" s_after_word ["row", "word"])
    (D_coming_pairs : Dn c "coming_pairs" s_coming_pairs ["row"])
    (D_first_not_coming : Dn c "first_not_coming" s_first_not_coming ["row", "word"])
    (D_dotted : Dn c "dotted" s_dotted ["one", "other"])
    (D_check_entries : Dn c "check_entries" s_check_entries ["entries", "many"])
    (D_rest_rows : Dn c "rest_rows" s_rest_rows ["many"])
    (D_lines_behind : Dn c "lines_behind" s_lines_behind ["weights", "lines", "pair"])
    (D_table : DiC c CT "Table" "Table.__init__" s_Table_init ["self", "rows"])
    (D_Table_eq : Dm c CT "__eq__" "Table.__eq__" s_Table_eq ["self", "other"])
    (D_Table_mul : Dm c CT "__mul__" "Table.__mul__" s_Table_mul ["self", "other"])
    (D_rest_table : Dn c "rest_table" s_rest_table ["row"])
    (D_table_of : Dn c "table_of" s_table_of ["row", "word"])
    (D_carried : Dn c "carried" s_carried ["row", "word"])
    (D_like_times : Dn c "like_times" s_like_times ["row", "word"])
    (D_returns_after : Dn c "returns_after" s_returns_after ["row", "word"])
    (D_all_tables : Dn c "all_tables" s_all_tables ["row"])
    (D_closings_of : Dn c "closings_of" s_closings_of ["row"])
    (D_closing_gain : Dn c "closing_gain" s_closing_gain ["row", "clashing", "near"])
    (D_orders_of : Dn c "orders_of" s_orders_of ["row"])
    (D_is_closed : Dn c "is_closed" s_is_closed ["row"])
    (D_lowest_row : Dn c "lowest_row" s_lowest_row ["numbers"])
    (D_root_behind : Dn c "root_behind" s_root_behind ["row", "root", "at"])
    (D_check_closed : Dn c "check_closed" s_check_closed ["row"])
    (D_roots_of : Dn c "roots_of" s_roots_of ["row"])
    (D_root_value : Dn c "root_value" s_root_value ["root", "numbers"])
    (D_clashing_roots : Dn c "clashing_roots" s_clashing_roots ["row"])
    (D_closed_count : Dn c "closed_count" s_closed_count ["row"])
    (D_closed_end : Dn c "closed_end" s_closed_end ["row"])
    (D_law_mix : Dn c "_law_mix" s_law_mix ["_law_number", "_law_turn"])
    (D_law_draw : Dn c "_law_draw" s_law_draw ["_law_hand_here", "_law_many"])
    (D_law_hand : Dn c "_law_hand" s_law_hand ["_law_script"])
    (D_law_low : Dn c "_law_low" s_law_low ["_law_top", "_law_bottom"])
    (D_law_less : Dn c "_law_less" s_law_less ["_law_a", "_law_b"])
    (D_law_speed : Dn c "_law_speed" s_law_speed ["_law_hand_here", "_law_wide"])
    (D_law_falling : Dn c "_law_falling" s_law_falling ["_law_speeds"])
    (D_law_balls : Dn c "_law_balls" s_law_balls ["_law_hand_here", "_law_many", "_law_shut"])
    (D_law_any_balls : Dn c "_law_any_balls" s_law_any_balls ["_law_hand_here"])
    (D_law_pick : Dn c "_law_pick" s_law_pick ["_law_hand_here", "_law_some"])
    (D_law_special : Dn c "_law_special" s_law_special ["_law_hand_here"])
    (D_law_case : Dn c "_law_case" s_law_case ["_law_hand_here"])
    (D_law_by_hand : Dn c "_law_by_hand" s_law_by_hand ["_law_weights", "_law_shut", "_law_at"])
    (D_law_not_closed : Dn c "_law_not_closed" s_law_not_closed ["_law_row"])
    (D_law_closed_right : Dn c "_law_closed_right" s_law_closed_right ["_law_hand_here", "_law_row", "_law_words"])
    (F : Fun c.K "law" "law" s_law f fd) : FnOk c.P c.w c.K c.mg c.base CX0 11 f fd ["_law_script"] (spLaw c.K) := by
  have g_is_whole := ok_is_whole T D_is_whole
  have g_is_ratio := ok_is_ratio T D_is_ratio g_is_whole
  have g_lowest_terms := ok_lowest_terms T D_lowest_terms
  have g_ratio_of := ok_ratio_of T D_ratio_of g_is_ratio g_lowest_terms
  have g_plus := ok_plus D_plus g_ratio_of g_lowest_terms
  have g_minus := ok_minus D_minus g_ratio_of g_lowest_terms
  have g_times := ok_times D_times g_ratio_of g_lowest_terms
  have g_compare := ok_compare D_compare g_ratio_of
  have g_mixed_ratio := ok_mixed_ratio D_mixed_ratio g_ratio_of
  have g_clashed := ok_clashed T D_clashed g_mixed_ratio
  have g_closing_of := ok_closing_of D_closing_of g_minus
  have g_check_balls := ok_check_balls T M D_check_balls g_is_whole g_is_ratio
  have g_Row := ok_row T RC D_row g_check_balls g_ratio_of g_plus g_times
  have g_len := ok_Row_len T RC D_Row_len
  have g_with_speeds := ok_Row_with_speeds RC D_Row_with_speeds g_Row
  have g_turned := ok_Row_turned RC D_Row_turned g_Row g_minus
  have g_check_narrow := ok_check_narrow RC D_check_narrow
  have g_check_pair := ok_check_pair RC D_check_pair g_is_whole
  have g_check_word := ok_check_word T M D_check_word g_check_pair
  have g_after_clash := ok_after_clash RC D_after_clash g_check_pair g_clashed g_with_speeds
  have g_after_word := ok_after_word RC D_after_word g_check_word g_clashed g_with_speeds
  have g_coming_pairs := ok_coming_pairs T RC D_coming_pairs g_closing_of
  have g_first_not_coming := ok_first_not_coming T RC D_first_not_coming g_check_word g_clashed g_closing_of
  have g_dotted := ok_dotted T D_dotted g_plus g_times
  have g_check_entries := ok_check_entries T D_check_entries g_is_ratio g_ratio_of
  have g_rest_rows := ok_rest_rows T D_rest_rows
  have g_lines_behind := ok_lines_behind T D_lines_behind g_mixed_ratio
  have g_Table := ok_table T M TC D_table g_check_entries
  have g_eq := ok_Table_eq T TC D_Table_eq
  have g_mul := ok_Table_mul T TC D_Table_mul g_dotted g_Table
  have g_rest_table := ok_rest_table T D_rest_table g_len g_rest_rows g_Table
  have g_table_of := ok_table_of T RC D_table_of g_len g_rest_rows g_check_word g_lines_behind g_Table
  have g_carried := ok_carried T D_carried g_len
  have g_like_times := ok_like_times T D_like_times g_carried
  have g_returns_after := ok_returns_after T M RC TC D_returns_after g_check_narrow g_check_word g_like_times g_table_of g_rest_table g_eq g_mul
  have g_all_tables := ok_all_tables T M RC D_all_tables g_check_narrow g_len g_rest_rows g_lines_behind
  have g_closings_of := ok_closings_of T RC D_closings_of g_minus
  have g_closing_gain := ok_closing_gain RC D_closing_gain g_ratio_of
  have g_orders_of := ok_orders_of T RC D_orders_of g_times g_closing_gain
  have g_is_closed := ok_is_closed D_is_closed g_orders_of
  have g_lowest_row := ok_lowest_row T D_lowest_row g_ratio_of
  have g_root_behind := ok_root_behind T RC D_root_behind g_times g_plus g_closing_gain g_lowest_row
  have g_check_closed := ok_check_closed T N D_check_closed g_orders_of
  have g_roots_of := ok_roots_of T RC D_roots_of g_check_closed g_root_behind
  have g_root_value := ok_root_value T D_root_value g_plus g_times
  have g_clashing_roots := ok_clashing_roots T D_clashing_roots g_closings_of g_roots_of g_root_value g_compare
  have g_closed_count := ok_closed_count T D_closed_count g_clashing_roots
  have g_closed_end := ok_closed_end T RC D_closed_end g_check_closed g_coming_pairs g_after_clash
  have g__law_mix := ok_law_mix T D_law_mix
  have g__law_draw := ok_law_draw T D_law_draw g__law_mix
  have g__law_hand := ok_law_hand T D_law_hand
  have g__law_low := ok_law_low T D_law_low
  have g__law_less := ok_law_less D_law_less
  have g__law_speed := ok_law_speed D_law_speed g__law_draw g__law_low
  have g__law_falling := ok_law_falling T D_law_falling g__law_less
  have g__law_balls := ok_law_balls T D_law_balls g__law_draw g__law_speed g__law_falling
  have g__law_any_balls := ok_law_any_balls D_law_any_balls g__law_draw g__law_balls
  have g__law_pick := ok_law_pick T D_law_pick g__law_draw
  have g__law_special := ok_law_special D_law_special g__law_pick
  have g__law_case := ok_law_case T D_law_case g__law_draw g__law_any_balls g__law_pick g__law_special
  have g__law_by_hand := ok_law_by_hand D_law_by_hand
  have g__law_not_closed := ok_law_not_closed N D_law_not_closed g_closed_end
  have g__law_closed_right := ok_law_closed_right T RC D_law_closed_right g_roots_of g_turned g_closed_count g_closed_end g_after_word g_first_not_coming g_coming_pairs g_after_clash g__law_pick
  exact ok_law T RC F g__law_hand g__law_case g__law_speed g__law_draw g__law_falling g_Row g_orders_of g__law_by_hand g_returns_after g_all_tables g_is_closed g__law_not_closed g__law_closed_right
end K74
namespace K74
open PySem PySem.Spec PyProof.Rows L2
/-! ### what the top has written -/
def DnE (K : PySem.W.Frag) (mg : Str → Option Value) (x : Str) (st : Stmt) (ps : List Str) : Prop := ∃ f fd, Fun K x x st f fd ∧ mg x = some (.ref f) ∧ Binds K fd ps []
def DmE (K : PySem.W.Frag) (C : Addr) (m qual : Str) (st : Stmt) (ps : List Str) : Prop := ∃ f fd, Fun K m qual st f fd ∧ Meth K C m f ∧ Binds K fd ps []
def DcE (K : PySem.W.Frag) (mg : Str → Option Value) (C : Addr) (x qual : Str) (st : Stmt) (ps : List Str) : Prop := ∃ f fd, Fun K "__init__" qual st f fd ∧ Mk K C f ∧ mg x = some (.ref C) ∧ Binds K fd ps []
section
variable {K : PySem.W.Frag} {h : Heap} {mg : Str → Option Value} {C f : Addr} {oc kV dc pm cd ct : Value} {od an : Option Addr} {sl : Array (Option Value)}
theorem mk_is_whole (X : K.In h) (G : h.Ns mainGlobals mg) (a : PySem.W.nsIn K mainGlobals "is_whole" = some (some (.ref f))) (l : K.lookup f = some ⟨oc, od, .func (PySem.W.fnOf "is_whole" "is_whole" (defArgs s_is_whole) (defBody s_is_whole) (defScope s_is_whole) .none kV dc pm an cd ct), sl⟩) (e : PySem.W.codeIn K cd "is_whole" = true) (k : PySem.W.keepIn K (.ref f) = true) : DnE K mg "is_whole" s_is_whole ["thing"] :=
  ⟨f, _, fun_mk l e k, PySem.W.mg_of X G a, (fun_mk (st := s_is_whole) l e k).binds (ps := ["thing"]) fun _ _ _ _ _ _ us hl => match us, hl with | [_], _ => rfl⟩
theorem mk_is_ratio (X : K.In h) (G : h.Ns mainGlobals mg) (a : PySem.W.nsIn K mainGlobals "is_ratio" = some (some (.ref f))) (l : K.lookup f = some ⟨oc, od, .func (PySem.W.fnOf "is_ratio" "is_ratio" (defArgs s_is_ratio) (defBody s_is_ratio) (defScope s_is_ratio) .none kV dc pm an cd ct), sl⟩) (e : PySem.W.codeIn K cd "is_ratio" = true) (k : PySem.W.keepIn K (.ref f) = true) : DnE K mg "is_ratio" s_is_ratio ["thing"] :=
  ⟨f, _, fun_mk l e k, PySem.W.mg_of X G a, (fun_mk (st := s_is_ratio) l e k).binds (ps := ["thing"]) fun _ _ _ _ _ _ us hl => match us, hl with | [_], _ => rfl⟩
theorem mk_lowest_terms (X : K.In h) (G : h.Ns mainGlobals mg) (a : PySem.W.nsIn K mainGlobals "lowest_terms" = some (some (.ref f))) (l : K.lookup f = some ⟨oc, od, .func (PySem.W.fnOf "lowest_terms" "lowest_terms" (defArgs s_lowest_terms) (defBody s_lowest_terms) (defScope s_lowest_terms) .none kV dc pm an cd ct), sl⟩) (e : PySem.W.codeIn K cd "lowest_terms" = true) (k : PySem.W.keepIn K (.ref f) = true) : DnE K mg "lowest_terms" s_lowest_terms ["top", "bottom"] :=
  ⟨f, _, fun_mk l e k, PySem.W.mg_of X G a, (fun_mk (st := s_lowest_terms) l e k).binds (ps := ["top", "bottom"]) fun _ _ _ _ _ _ us hl => match us, hl with | [_, _], _ => rfl⟩
theorem mk_ratio_of (X : K.In h) (G : h.Ns mainGlobals mg) (a : PySem.W.nsIn K mainGlobals "ratio_of" = some (some (.ref f))) (l : K.lookup f = some ⟨oc, od, .func (PySem.W.fnOf "ratio_of" "ratio_of" (defArgs s_ratio_of) (defBody s_ratio_of) (defScope s_ratio_of) .none kV dc pm an cd ct), sl⟩) (e : PySem.W.codeIn K cd "ratio_of" = true) (k : PySem.W.keepIn K (.ref f) = true) : DnE K mg "ratio_of" s_ratio_of ["thing"] :=
  ⟨f, _, fun_mk l e k, PySem.W.mg_of X G a, (fun_mk (st := s_ratio_of) l e k).binds (ps := ["thing"]) fun _ _ _ _ _ _ us hl => match us, hl with | [_], _ => rfl⟩
theorem mk_plus (X : K.In h) (G : h.Ns mainGlobals mg) (a : PySem.W.nsIn K mainGlobals "plus" = some (some (.ref f))) (l : K.lookup f = some ⟨oc, od, .func (PySem.W.fnOf "plus" "plus" (defArgs s_plus) (defBody s_plus) (defScope s_plus) .none kV dc pm an cd ct), sl⟩) (e : PySem.W.codeIn K cd "plus" = true) (k : PySem.W.keepIn K (.ref f) = true) : DnE K mg "plus" s_plus ["one", "other"] :=
  ⟨f, _, fun_mk l e k, PySem.W.mg_of X G a, (fun_mk (st := s_plus) l e k).binds (ps := ["one", "other"]) fun _ _ _ _ _ _ us hl => match us, hl with | [_, _], _ => rfl⟩
theorem mk_minus (X : K.In h) (G : h.Ns mainGlobals mg) (a : PySem.W.nsIn K mainGlobals "minus" = some (some (.ref f))) (l : K.lookup f = some ⟨oc, od, .func (PySem.W.fnOf "minus" "minus" (defArgs s_minus) (defBody s_minus) (defScope s_minus) .none kV dc pm an cd ct), sl⟩) (e : PySem.W.codeIn K cd "minus" = true) (k : PySem.W.keepIn K (.ref f) = true) : DnE K mg "minus" s_minus ["one", "other"] :=
  ⟨f, _, fun_mk l e k, PySem.W.mg_of X G a, (fun_mk (st := s_minus) l e k).binds (ps := ["one", "other"]) fun _ _ _ _ _ _ us hl => match us, hl with | [_, _], _ => rfl⟩
theorem mk_times (X : K.In h) (G : h.Ns mainGlobals mg) (a : PySem.W.nsIn K mainGlobals "times" = some (some (.ref f))) (l : K.lookup f = some ⟨oc, od, .func (PySem.W.fnOf "times" "times" (defArgs s_times) (defBody s_times) (defScope s_times) .none kV dc pm an cd ct), sl⟩) (e : PySem.W.codeIn K cd "times" = true) (k : PySem.W.keepIn K (.ref f) = true) : DnE K mg "times" s_times ["one", "other"] :=
  ⟨f, _, fun_mk l e k, PySem.W.mg_of X G a, (fun_mk (st := s_times) l e k).binds (ps := ["one", "other"]) fun _ _ _ _ _ _ us hl => match us, hl with | [_, _], _ => rfl⟩
theorem mk_compare (X : K.In h) (G : h.Ns mainGlobals mg) (a : PySem.W.nsIn K mainGlobals "compare" = some (some (.ref f))) (l : K.lookup f = some ⟨oc, od, .func (PySem.W.fnOf "compare" "compare" (defArgs s_compare) (defBody s_compare) (defScope s_compare) .none kV dc pm an cd ct), sl⟩) (e : PySem.W.codeIn K cd "compare" = true) (k : PySem.W.keepIn K (.ref f) = true) : DnE K mg "compare" s_compare ["one", "other"] :=
  ⟨f, _, fun_mk l e k, PySem.W.mg_of X G a, (fun_mk (st := s_compare) l e k).binds (ps := ["one", "other"]) fun _ _ _ _ _ _ us hl => match us, hl with | [_, _], _ => rfl⟩
theorem mk_mixed_ratio (X : K.In h) (G : h.Ns mainGlobals mg) (a : PySem.W.nsIn K mainGlobals "mixed_ratio" = some (some (.ref f))) (l : K.lookup f = some ⟨oc, od, .func (PySem.W.fnOf "mixed_ratio" "mixed_ratio" (defArgs s_mixed_ratio) (defBody s_mixed_ratio) (defScope s_mixed_ratio) .none kV dc pm an cd ct), sl⟩) (e : PySem.W.codeIn K cd "mixed_ratio" = true) (k : PySem.W.keepIn K (.ref f) = true) : DnE K mg "mixed_ratio" s_mixed_ratio ["one", "first", "other", "second", "divisor"] :=
  ⟨f, _, fun_mk l e k, PySem.W.mg_of X G a, (fun_mk (st := s_mixed_ratio) l e k).binds (ps := ["one", "first", "other", "second", "divisor"]) fun _ _ _ _ _ _ us hl => match us, hl with | [_, _, _, _, _], _ => rfl⟩
theorem mk_clashed (X : K.In h) (G : h.Ns mainGlobals mg) (a : PySem.W.nsIn K mainGlobals "clashed" = some (some (.ref f))) (l : K.lookup f = some ⟨oc, od, .func (PySem.W.fnOf "clashed" "clashed" (defArgs s_clashed) (defBody s_clashed) (defScope s_clashed) .none kV dc pm an cd ct), sl⟩) (e : PySem.W.codeIn K cd "clashed" = true) (k : PySem.W.keepIn K (.ref f) = true) : DnE K mg "clashed" s_clashed ["weights", "rates", "pair"] :=
  ⟨f, _, fun_mk l e k, PySem.W.mg_of X G a, (fun_mk (st := s_clashed) l e k).binds (ps := ["weights", "rates", "pair"]) fun _ _ _ _ _ _ us hl => match us, hl with | [_, _, _], _ => rfl⟩
theorem mk_closing_of (X : K.In h) (G : h.Ns mainGlobals mg) (a : PySem.W.nsIn K mainGlobals "closing_of" = some (some (.ref f))) (l : K.lookup f = some ⟨oc, od, .func (PySem.W.fnOf "closing_of" "closing_of" (defArgs s_closing_of) (defBody s_closing_of) (defScope s_closing_of) .none kV dc pm an cd ct), sl⟩) (e : PySem.W.codeIn K cd "closing_of" = true) (k : PySem.W.keepIn K (.ref f) = true) : DnE K mg "closing_of" s_closing_of ["rates", "pair"] :=
  ⟨f, _, fun_mk l e k, PySem.W.mg_of X G a, (fun_mk (st := s_closing_of) l e k).binds (ps := ["rates", "pair"]) fun _ _ _ _ _ _ us hl => match us, hl with | [_, _], _ => rfl⟩
theorem mk_check_balls (X : K.In h) (G : h.Ns mainGlobals mg) (a : PySem.W.nsIn K mainGlobals "check_balls" = some (some (.ref f))) (l : K.lookup f = some ⟨oc, od, .func (PySem.W.fnOf "check_balls" "check_balls" (defArgs s_check_balls) (defBody s_check_balls) (defScope s_check_balls) .none kV dc pm an cd ct), sl⟩) (e : PySem.W.codeIn K cd "check_balls" = true) (k : PySem.W.keepIn K (.ref f) = true) : DnE K mg "check_balls" s_check_balls ["weights", "speeds", "wall"] :=
  ⟨f, _, fun_mk l e k, PySem.W.mg_of X G a, (fun_mk (st := s_check_balls) l e k).binds (ps := ["weights", "speeds", "wall"]) fun _ _ _ _ _ _ us hl => match us, hl with | [_, _, _], _ => rfl⟩
def DrE (K : PySem.W.Frag) (mg : Str → Option Value) (C : Addr) : Prop := ∃ f fd, FunD K "__init__" "Row.__init__" (defArgs s_Row_init) (defBody s_Row_init) (defScope s_Row_init) [.bl false] [] f fd ∧ Mk K C f ∧ mg "Row" = some (.ref C) ∧ Binds K fd ["self", "weights", "speeds", "wall"] []
theorem mk_row {Td : Addr} {ocT : Value} {odT : Option Addr} {slT : Array (Option Value)} {nT : Nat} (X : K.In h) (G : h.Ns mainGlobals mg) (aC : PySem.W.nsIn K mainGlobals "Row" = some (some (.ref C))) (mk : PySem.W.makesIn K C = true) (a : PySem.W.findIn K (.ref C) "__init__" = some (some (.ref f))) (i : PySem.W.isFn K (.ref f) = true) (kC : PySem.W.keepIn K (.ref C) = true)
    (l : K.lookup f = some ⟨oc, od, .func (PySem.W.fnOf "__init__" "Row.__init__" (defArgs s_Row_init) (defBody s_Row_init) (defScope s_Row_init) (.ref Td) kV dc pm an cd ct), sl⟩) (lT : K.lookup Td = some ⟨ocT, odT, .seq (Array.mk [Value.bool false]) nT, slT⟩) (e : PySem.W.codeIn K cd "Row.__init__" = true) (k : PySem.W.keepIn K (.ref f) = true) : DrE K mg C := by
  have F : FunD K "__init__" "Row.__init__" (defArgs s_Row_init) (defBody s_Row_init) (defScope s_Row_init) [.bl false] [] f (PySem.W.fnOf "__init__" "Row.__init__" (defArgs s_Row_init) (defBody s_Row_init) (defScope s_Row_init) (.ref Td) kV dc pm an cd ct) :=
    ⟨⟨oc, od, .ref Td, kV, dc, pm, an, cd, ct, sl, rfl, l, e, .inr ⟨by simp, Td, _, [Value.bool false], nT, rfl, lT, rfl, .cons rfl .nil⟩, .inl rfl⟩, k⟩
  obtain ⟨ds, hv, hb⟩ := F.binds1 (ps := ["self", "weights", "speeds", "wall"]) 4 1 (by simp) rfl (fun T kV doc pm an cdv ct us its hu hi => match us, its, hu, hi with | [_, _, _, _], [_], _, _ => ⟨_, rfl, rfl⟩)
  have hv2 : Vals [] ds := hv
  cases hv2
  exact ⟨f, _, F, ⟨mk, a, i, kC⟩, PySem.W.mg_of X G aC, hb⟩
theorem mk_Row_len (a : PySem.W.findIn K (.ref C) "__len__" = some (some (.ref f))) (i : PySem.W.isFn K (.ref f) = true) (l : K.lookup f = some ⟨oc, od, .func (PySem.W.fnOf "__len__" "Row.__len__" (defArgs s_Row_len) (defBody s_Row_len) (defScope s_Row_len) .none kV dc pm an cd ct), sl⟩) (e : PySem.W.codeIn K cd "Row.__len__" = true) (k : PySem.W.keepIn K (.ref f) = true) : DmE K C "__len__" "Row.__len__" s_Row_len ["self"] :=
  ⟨f, _, fun_mk l e k, ⟨a, i, k⟩, (fun_mk (st := s_Row_len) l e k).binds (ps := ["self"]) fun _ _ _ _ _ _ us hl => match us, hl with | [_], _ => rfl⟩
theorem mk_Row_with_speeds (a : PySem.W.findIn K (.ref C) "with_speeds" = some (some (.ref f))) (i : PySem.W.isFn K (.ref f) = true) (l : K.lookup f = some ⟨oc, od, .func (PySem.W.fnOf "with_speeds" "Row.with_speeds" (defArgs s_Row_with_speeds) (defBody s_Row_with_speeds) (defScope s_Row_with_speeds) .none kV dc pm an cd ct), sl⟩) (e : PySem.W.codeIn K cd "Row.with_speeds" = true) (k : PySem.W.keepIn K (.ref f) = true) : DmE K C "with_speeds" "Row.with_speeds" s_Row_with_speeds ["self", "speeds"] :=
  ⟨f, _, fun_mk l e k, ⟨a, i, k⟩, (fun_mk (st := s_Row_with_speeds) l e k).binds (ps := ["self", "speeds"]) fun _ _ _ _ _ _ us hl => match us, hl with | [_, _], _ => rfl⟩
theorem mk_Row_turned (a : PySem.W.findIn K (.ref C) "turned" = some (some (.ref f))) (i : PySem.W.isFn K (.ref f) = true) (l : K.lookup f = some ⟨oc, od, .func (PySem.W.fnOf "turned" "Row.turned" (defArgs s_Row_turned) (defBody s_Row_turned) (defScope s_Row_turned) .none kV dc pm an cd ct), sl⟩) (e : PySem.W.codeIn K cd "Row.turned" = true) (k : PySem.W.keepIn K (.ref f) = true) : DmE K C "turned" "Row.turned" s_Row_turned ["self"] :=
  ⟨f, _, fun_mk l e k, ⟨a, i, k⟩, (fun_mk (st := s_Row_turned) l e k).binds (ps := ["self"]) fun _ _ _ _ _ _ us hl => match us, hl with | [_], _ => rfl⟩
theorem mk_check_narrow (X : K.In h) (G : h.Ns mainGlobals mg) (a : PySem.W.nsIn K mainGlobals "check_narrow" = some (some (.ref f))) (l : K.lookup f = some ⟨oc, od, .func (PySem.W.fnOf "check_narrow" "check_narrow" (defArgs s_check_narrow) (defBody s_check_narrow) (defScope s_check_narrow) .none kV dc pm an cd ct), sl⟩) (e : PySem.W.codeIn K cd "check_narrow" = true) (k : PySem.W.keepIn K (.ref f) = true) : DnE K mg "check_narrow" s_check_narrow ["row"] :=
  ⟨f, _, fun_mk l e k, PySem.W.mg_of X G a, (fun_mk (st := s_check_narrow) l e k).binds (ps := ["row"]) fun _ _ _ _ _ _ us hl => match us, hl with | [_], _ => rfl⟩
theorem mk_check_pair (X : K.In h) (G : h.Ns mainGlobals mg) (a : PySem.W.nsIn K mainGlobals "check_pair" = some (some (.ref f))) (l : K.lookup f = some ⟨oc, od, .func (PySem.W.fnOf "check_pair" "check_pair" (defArgs s_check_pair) (defBody s_check_pair) (defScope s_check_pair) .none kV dc pm an cd ct), sl⟩) (e : PySem.W.codeIn K cd "check_pair" = true) (k : PySem.W.keepIn K (.ref f) = true) : DnE K mg "check_pair" s_check_pair ["row", "pair"] :=
  ⟨f, _, fun_mk l e k, PySem.W.mg_of X G a, (fun_mk (st := s_check_pair) l e k).binds (ps := ["row", "pair"]) fun _ _ _ _ _ _ us hl => match us, hl with | [_, _], _ => rfl⟩
theorem mk_check_word (X : K.In h) (G : h.Ns mainGlobals mg) (a : PySem.W.nsIn K mainGlobals "check_word" = some (some (.ref f))) (l : K.lookup f = some ⟨oc, od, .func (PySem.W.fnOf "check_word" "check_word" (defArgs s_check_word) (defBody s_check_word) (defScope s_check_word) .none kV dc pm an cd ct), sl⟩) (e : PySem.W.codeIn K cd "check_word" = true) (k : PySem.W.keepIn K (.ref f) = true) : DnE K mg "check_word" s_check_word ["row", "word"] :=
  ⟨f, _, fun_mk l e k, PySem.W.mg_of X G a, (fun_mk (st := s_check_word) l e k).binds (ps := ["row", "word"]) fun _ _ _ _ _ _ us hl => match us, hl with | [_, _], _ => rfl⟩
theorem mk_after_clash (X : K.In h) (G : h.Ns mainGlobals mg) (a : PySem.W.nsIn K mainGlobals "after_clash" = some (some (.ref f))) (l : K.lookup f = some ⟨oc, od, .func (PySem.W.fnOf "after_clash" "after_clash" (defArgs s_after_clash) (defBody s_after_clash) (defScope s_after_clash) .none kV dc pm an cd ct), sl⟩) (e : PySem.W.codeIn K cd "after_clash" = true) (k : PySem.W.keepIn K (.ref f) = true) : DnE K mg "after_clash" s_after_clash ["row", "pair"] :=
  ⟨f, _, fun_mk l e k, PySem.W.mg_of X G a, (fun_mk (st := s_after_clash) l e k).binds (ps := ["row", "pair"]) fun _ _ _ _ _ _ us hl => match us, hl with | [_, _], _ => rfl⟩
theorem mk_after_word (X : K.In h) (G : h.Ns mainGlobals mg) (a : PySem.W.nsIn K mainGlobals "after_word" = some (some (.ref f))) (l : K.lookup f = some ⟨oc, od, .func (PySem.W.fnOf "after_word" "after_word" (defArgs s_after_word) (defBody s_after_word) (defScope s_after_word) .none kV dc pm an cd ct), sl⟩) (e : PySem.W.codeIn K cd "after_word" = true) (k : PySem.W.keepIn K (.ref f) = true) : DnE K mg "after_word" s_after_word ["row", "word"] :=
  ⟨f, _, fun_mk l e k, PySem.W.mg_of X G a, (fun_mk (st := s_after_word) l e k).binds (ps := ["row", "word"]) fun _ _ _ _ _ _ us hl => match us, hl with | [_, _], _ => rfl⟩
theorem mk_coming_pairs (X : K.In h) (G : h.Ns mainGlobals mg) (a : PySem.W.nsIn K mainGlobals "coming_pairs" = some (some (.ref f))) (l : K.lookup f = some ⟨oc, od, .func (PySem.W.fnOf "coming_pairs" "coming_pairs" (defArgs s_coming_pairs) (defBody s_coming_pairs) (defScope s_coming_pairs) .none kV dc pm an cd ct), sl⟩) (e : PySem.W.codeIn K cd "coming_pairs" = true) (k : PySem.W.keepIn K (.ref f) = true) : DnE K mg "coming_pairs" s_coming_pairs ["row"] :=
  ⟨f, _, fun_mk l e k, PySem.W.mg_of X G a, (fun_mk (st := s_coming_pairs) l e k).binds (ps := ["row"]) fun _ _ _ _ _ _ us hl => match us, hl with | [_], _ => rfl⟩
theorem mk_first_not_coming (X : K.In h) (G : h.Ns mainGlobals mg) (a : PySem.W.nsIn K mainGlobals "first_not_coming" = some (some (.ref f))) (l : K.lookup f = some ⟨oc, od, .func (PySem.W.fnOf "first_not_coming" "first_not_coming" (defArgs s_first_not_coming) (defBody s_first_not_coming) (defScope s_first_not_coming) .none kV dc pm an cd ct), sl⟩) (e : PySem.W.codeIn K cd "first_not_coming" = true) (k : PySem.W.keepIn K (.ref f) = true) : DnE K mg "first_not_coming" s_first_not_coming ["row", "word"] :=
  ⟨f, _, fun_mk l e k, PySem.W.mg_of X G a, (fun_mk (st := s_first_not_coming) l e k).binds (ps := ["row", "word"]) fun _ _ _ _ _ _ us hl => match us, hl with | [_, _], _ => rfl⟩
theorem mk_dotted (X : K.In h) (G : h.Ns mainGlobals mg) (a : PySem.W.nsIn K mainGlobals "dotted" = some (some (.ref f))) (l : K.lookup f = some ⟨oc, od, .func (PySem.W.fnOf "dotted" "dotted" (defArgs s_dotted) (defBody s_dotted) (defScope s_dotted) .none kV dc pm an cd ct), sl⟩) (e : PySem.W.codeIn K cd "dotted" = true) (k : PySem.W.keepIn K (.ref f) = true) : DnE K mg "dotted" s_dotted ["one", "other"] :=
  ⟨f, _, fun_mk l e k, PySem.W.mg_of X G a, (fun_mk (st := s_dotted) l e k).binds (ps := ["one", "other"]) fun _ _ _ _ _ _ us hl => match us, hl with | [_, _], _ => rfl⟩
theorem mk_check_entries (X : K.In h) (G : h.Ns mainGlobals mg) (a : PySem.W.nsIn K mainGlobals "check_entries" = some (some (.ref f))) (l : K.lookup f = some ⟨oc, od, .func (PySem.W.fnOf "check_entries" "check_entries" (defArgs s_check_entries) (defBody s_check_entries) (defScope s_check_entries) .none kV dc pm an cd ct), sl⟩) (e : PySem.W.codeIn K cd "check_entries" = true) (k : PySem.W.keepIn K (.ref f) = true) : DnE K mg "check_entries" s_check_entries ["entries", "many"] :=
  ⟨f, _, fun_mk l e k, PySem.W.mg_of X G a, (fun_mk (st := s_check_entries) l e k).binds (ps := ["entries", "many"]) fun _ _ _ _ _ _ us hl => match us, hl with | [_, _], _ => rfl⟩
theorem mk_rest_rows (X : K.In h) (G : h.Ns mainGlobals mg) (a : PySem.W.nsIn K mainGlobals "rest_rows" = some (some (.ref f))) (l : K.lookup f = some ⟨oc, od, .func (PySem.W.fnOf "rest_rows" "rest_rows" (defArgs s_rest_rows) (defBody s_rest_rows) (defScope s_rest_rows) .none kV dc pm an cd ct), sl⟩) (e : PySem.W.codeIn K cd "rest_rows" = true) (k : PySem.W.keepIn K (.ref f) = true) : DnE K mg "rest_rows" s_rest_rows ["many"] :=
  ⟨f, _, fun_mk l e k, PySem.W.mg_of X G a, (fun_mk (st := s_rest_rows) l e k).binds (ps := ["many"]) fun _ _ _ _ _ _ us hl => match us, hl with | [_], _ => rfl⟩
theorem mk_lines_behind (X : K.In h) (G : h.Ns mainGlobals mg) (a : PySem.W.nsIn K mainGlobals "lines_behind" = some (some (.ref f))) (l : K.lookup f = some ⟨oc, od, .func (PySem.W.fnOf "lines_behind" "lines_behind" (defArgs s_lines_behind) (defBody s_lines_behind) (defScope s_lines_behind) .none kV dc pm an cd ct), sl⟩) (e : PySem.W.codeIn K cd "lines_behind" = true) (k : PySem.W.keepIn K (.ref f) = true) : DnE K mg "lines_behind" s_lines_behind ["weights", "lines", "pair"] :=
  ⟨f, _, fun_mk l e k, PySem.W.mg_of X G a, (fun_mk (st := s_lines_behind) l e k).binds (ps := ["weights", "lines", "pair"]) fun _ _ _ _ _ _ us hl => match us, hl with | [_, _, _], _ => rfl⟩
theorem mk_table (X : K.In h) (G : h.Ns mainGlobals mg) (aC : PySem.W.nsIn K mainGlobals "Table" = some (some (.ref C))) (mk : PySem.W.makesIn K C = true) (a : PySem.W.findIn K (.ref C) "__init__" = some (some (.ref f))) (i : PySem.W.isFn K (.ref f) = true) (kC : PySem.W.keepIn K (.ref C) = true)
    (l : K.lookup f = some ⟨oc, od, .func (PySem.W.fnOf "__init__" "Table.__init__" (defArgs s_Table_init) (defBody s_Table_init) (defScope s_Table_init) .none kV dc pm an cd ct), sl⟩) (e : PySem.W.codeIn K cd "Table.__init__" = true) (k : PySem.W.keepIn K (.ref f) = true) : DcE K mg C "Table" "Table.__init__" s_Table_init ["self", "rows"] :=
  ⟨f, _, fun_mk l e k, ⟨mk, a, i, kC⟩, PySem.W.mg_of X G aC, (fun_mk (st := s_Table_init) l e k).binds (ps := ["self", "rows"]) fun _ _ _ _ _ _ us hl => match us, hl with | [_, _], _ => rfl⟩
theorem mk_Table_eq (a : PySem.W.findIn K (.ref C) "__eq__" = some (some (.ref f))) (i : PySem.W.isFn K (.ref f) = true) (l : K.lookup f = some ⟨oc, od, .func (PySem.W.fnOf "__eq__" "Table.__eq__" (defArgs s_Table_eq) (defBody s_Table_eq) (defScope s_Table_eq) .none kV dc pm an cd ct), sl⟩) (e : PySem.W.codeIn K cd "Table.__eq__" = true) (k : PySem.W.keepIn K (.ref f) = true) : DmE K C "__eq__" "Table.__eq__" s_Table_eq ["self", "other"] :=
  ⟨f, _, fun_mk l e k, ⟨a, i, k⟩, (fun_mk (st := s_Table_eq) l e k).binds (ps := ["self", "other"]) fun _ _ _ _ _ _ us hl => match us, hl with | [_, _], _ => rfl⟩
theorem mk_Table_mul (a : PySem.W.findIn K (.ref C) "__mul__" = some (some (.ref f))) (i : PySem.W.isFn K (.ref f) = true) (l : K.lookup f = some ⟨oc, od, .func (PySem.W.fnOf "__mul__" "Table.__mul__" (defArgs s_Table_mul) (defBody s_Table_mul) (defScope s_Table_mul) .none kV dc pm an cd ct), sl⟩) (e : PySem.W.codeIn K cd "Table.__mul__" = true) (k : PySem.W.keepIn K (.ref f) = true) : DmE K C "__mul__" "Table.__mul__" s_Table_mul ["self", "other"] :=
  ⟨f, _, fun_mk l e k, ⟨a, i, k⟩, (fun_mk (st := s_Table_mul) l e k).binds (ps := ["self", "other"]) fun _ _ _ _ _ _ us hl => match us, hl with | [_, _], _ => rfl⟩
theorem mk_rest_table (X : K.In h) (G : h.Ns mainGlobals mg) (a : PySem.W.nsIn K mainGlobals "rest_table" = some (some (.ref f))) (l : K.lookup f = some ⟨oc, od, .func (PySem.W.fnOf "rest_table" "rest_table" (defArgs s_rest_table) (defBody s_rest_table) (defScope s_rest_table) .none kV dc pm an cd ct), sl⟩) (e : PySem.W.codeIn K cd "rest_table" = true) (k : PySem.W.keepIn K (.ref f) = true) : DnE K mg "rest_table" s_rest_table ["row"] :=
  ⟨f, _, fun_mk l e k, PySem.W.mg_of X G a, (fun_mk (st := s_rest_table) l e k).binds (ps := ["row"]) fun _ _ _ _ _ _ us hl => match us, hl with | [_], _ => rfl⟩
theorem mk_table_of (X : K.In h) (G : h.Ns mainGlobals mg) (a : PySem.W.nsIn K mainGlobals "table_of" = some (some (.ref f))) (l : K.lookup f = some ⟨oc, od, .func (PySem.W.fnOf "table_of" "table_of" (defArgs s_table_of) (defBody s_table_of) (defScope s_table_of) .none kV dc pm an cd ct), sl⟩) (e : PySem.W.codeIn K cd "table_of" = true) (k : PySem.W.keepIn K (.ref f) = true) : DnE K mg "table_of" s_table_of ["row", "word"] :=
  ⟨f, _, fun_mk l e k, PySem.W.mg_of X G a, (fun_mk (st := s_table_of) l e k).binds (ps := ["row", "word"]) fun _ _ _ _ _ _ us hl => match us, hl with | [_, _], _ => rfl⟩
theorem mk_carried (X : K.In h) (G : h.Ns mainGlobals mg) (a : PySem.W.nsIn K mainGlobals "carried" = some (some (.ref f))) (l : K.lookup f = some ⟨oc, od, .func (PySem.W.fnOf "carried" "carried" (defArgs s_carried) (defBody s_carried) (defScope s_carried) .none kV dc pm an cd ct), sl⟩) (e : PySem.W.codeIn K cd "carried" = true) (k : PySem.W.keepIn K (.ref f) = true) : DnE K mg "carried" s_carried ["row", "word"] :=
  ⟨f, _, fun_mk l e k, PySem.W.mg_of X G a, (fun_mk (st := s_carried) l e k).binds (ps := ["row", "word"]) fun _ _ _ _ _ _ us hl => match us, hl with | [_, _], _ => rfl⟩
theorem mk_like_times (X : K.In h) (G : h.Ns mainGlobals mg) (a : PySem.W.nsIn K mainGlobals "like_times" = some (some (.ref f))) (l : K.lookup f = some ⟨oc, od, .func (PySem.W.fnOf "like_times" "like_times" (defArgs s_like_times) (defBody s_like_times) (defScope s_like_times) .none kV dc pm an cd ct), sl⟩) (e : PySem.W.codeIn K cd "like_times" = true) (k : PySem.W.keepIn K (.ref f) = true) : DnE K mg "like_times" s_like_times ["row", "word"] :=
  ⟨f, _, fun_mk l e k, PySem.W.mg_of X G a, (fun_mk (st := s_like_times) l e k).binds (ps := ["row", "word"]) fun _ _ _ _ _ _ us hl => match us, hl with | [_, _], _ => rfl⟩
theorem mk_returns_after (X : K.In h) (G : h.Ns mainGlobals mg) (a : PySem.W.nsIn K mainGlobals "returns_after" = some (some (.ref f))) (l : K.lookup f = some ⟨oc, od, .func (PySem.W.fnOf "returns_after" "returns_after" (defArgs s_returns_after) (defBody s_returns_after) (defScope s_returns_after) .none kV dc pm an cd ct), sl⟩) (e : PySem.W.codeIn K cd "returns_after" = true) (k : PySem.W.keepIn K (.ref f) = true) : DnE K mg "returns_after" s_returns_after ["row", "word"] :=
  ⟨f, _, fun_mk l e k, PySem.W.mg_of X G a, (fun_mk (st := s_returns_after) l e k).binds (ps := ["row", "word"]) fun _ _ _ _ _ _ us hl => match us, hl with | [_, _], _ => rfl⟩
theorem mk_all_tables (X : K.In h) (G : h.Ns mainGlobals mg) (a : PySem.W.nsIn K mainGlobals "all_tables" = some (some (.ref f))) (l : K.lookup f = some ⟨oc, od, .func (PySem.W.fnOf "all_tables" "all_tables" (defArgs s_all_tables) (defBody s_all_tables) (defScope s_all_tables) .none kV dc pm an cd ct), sl⟩) (e : PySem.W.codeIn K cd "all_tables" = true) (k : PySem.W.keepIn K (.ref f) = true) : DnE K mg "all_tables" s_all_tables ["row"] :=
  ⟨f, _, fun_mk l e k, PySem.W.mg_of X G a, (fun_mk (st := s_all_tables) l e k).binds (ps := ["row"]) fun _ _ _ _ _ _ us hl => match us, hl with | [_], _ => rfl⟩
theorem mk_closings_of (X : K.In h) (G : h.Ns mainGlobals mg) (a : PySem.W.nsIn K mainGlobals "closings_of" = some (some (.ref f))) (l : K.lookup f = some ⟨oc, od, .func (PySem.W.fnOf "closings_of" "closings_of" (defArgs s_closings_of) (defBody s_closings_of) (defScope s_closings_of) .none kV dc pm an cd ct), sl⟩) (e : PySem.W.codeIn K cd "closings_of" = true) (k : PySem.W.keepIn K (.ref f) = true) : DnE K mg "closings_of" s_closings_of ["row"] :=
  ⟨f, _, fun_mk l e k, PySem.W.mg_of X G a, (fun_mk (st := s_closings_of) l e k).binds (ps := ["row"]) fun _ _ _ _ _ _ us hl => match us, hl with | [_], _ => rfl⟩
theorem mk_closing_gain (X : K.In h) (G : h.Ns mainGlobals mg) (a : PySem.W.nsIn K mainGlobals "closing_gain" = some (some (.ref f))) (l : K.lookup f = some ⟨oc, od, .func (PySem.W.fnOf "closing_gain" "closing_gain" (defArgs s_closing_gain) (defBody s_closing_gain) (defScope s_closing_gain) .none kV dc pm an cd ct), sl⟩) (e : PySem.W.codeIn K cd "closing_gain" = true) (k : PySem.W.keepIn K (.ref f) = true) : DnE K mg "closing_gain" s_closing_gain ["row", "clashing", "near"] :=
  ⟨f, _, fun_mk l e k, PySem.W.mg_of X G a, (fun_mk (st := s_closing_gain) l e k).binds (ps := ["row", "clashing", "near"]) fun _ _ _ _ _ _ us hl => match us, hl with | [_, _, _], _ => rfl⟩
theorem mk_orders_of (X : K.In h) (G : h.Ns mainGlobals mg) (a : PySem.W.nsIn K mainGlobals "orders_of" = some (some (.ref f))) (l : K.lookup f = some ⟨oc, od, .func (PySem.W.fnOf "orders_of" "orders_of" (defArgs s_orders_of) (defBody s_orders_of) (defScope s_orders_of) .none kV dc pm an cd ct), sl⟩) (e : PySem.W.codeIn K cd "orders_of" = true) (k : PySem.W.keepIn K (.ref f) = true) : DnE K mg "orders_of" s_orders_of ["row"] :=
  ⟨f, _, fun_mk l e k, PySem.W.mg_of X G a, (fun_mk (st := s_orders_of) l e k).binds (ps := ["row"]) fun _ _ _ _ _ _ us hl => match us, hl with | [_], _ => rfl⟩
theorem mk_is_closed (X : K.In h) (G : h.Ns mainGlobals mg) (a : PySem.W.nsIn K mainGlobals "is_closed" = some (some (.ref f))) (l : K.lookup f = some ⟨oc, od, .func (PySem.W.fnOf "is_closed" "is_closed" (defArgs s_is_closed) (defBody s_is_closed) (defScope s_is_closed) .none kV dc pm an cd ct), sl⟩) (e : PySem.W.codeIn K cd "is_closed" = true) (k : PySem.W.keepIn K (.ref f) = true) : DnE K mg "is_closed" s_is_closed ["row"] :=
  ⟨f, _, fun_mk l e k, PySem.W.mg_of X G a, (fun_mk (st := s_is_closed) l e k).binds (ps := ["row"]) fun _ _ _ _ _ _ us hl => match us, hl with | [_], _ => rfl⟩
theorem mk_lowest_row (X : K.In h) (G : h.Ns mainGlobals mg) (a : PySem.W.nsIn K mainGlobals "lowest_row" = some (some (.ref f))) (l : K.lookup f = some ⟨oc, od, .func (PySem.W.fnOf "lowest_row" "lowest_row" (defArgs s_lowest_row) (defBody s_lowest_row) (defScope s_lowest_row) .none kV dc pm an cd ct), sl⟩) (e : PySem.W.codeIn K cd "lowest_row" = true) (k : PySem.W.keepIn K (.ref f) = true) : DnE K mg "lowest_row" s_lowest_row ["numbers"] :=
  ⟨f, _, fun_mk l e k, PySem.W.mg_of X G a, (fun_mk (st := s_lowest_row) l e k).binds (ps := ["numbers"]) fun _ _ _ _ _ _ us hl => match us, hl with | [_], _ => rfl⟩
theorem mk_root_behind (X : K.In h) (G : h.Ns mainGlobals mg) (a : PySem.W.nsIn K mainGlobals "root_behind" = some (some (.ref f))) (l : K.lookup f = some ⟨oc, od, .func (PySem.W.fnOf "root_behind" "root_behind" (defArgs s_root_behind) (defBody s_root_behind) (defScope s_root_behind) .none kV dc pm an cd ct), sl⟩) (e : PySem.W.codeIn K cd "root_behind" = true) (k : PySem.W.keepIn K (.ref f) = true) : DnE K mg "root_behind" s_root_behind ["row", "root", "at"] :=
  ⟨f, _, fun_mk l e k, PySem.W.mg_of X G a, (fun_mk (st := s_root_behind) l e k).binds (ps := ["row", "root", "at"]) fun _ _ _ _ _ _ us hl => match us, hl with | [_, _, _], _ => rfl⟩
theorem mk_check_closed (X : K.In h) (G : h.Ns mainGlobals mg) (a : PySem.W.nsIn K mainGlobals "check_closed" = some (some (.ref f))) (l : K.lookup f = some ⟨oc, od, .func (PySem.W.fnOf "check_closed" "check_closed" (defArgs s_check_closed) (defBody s_check_closed) (defScope s_check_closed) .none kV dc pm an cd ct), sl⟩) (e : PySem.W.codeIn K cd "check_closed" = true) (k : PySem.W.keepIn K (.ref f) = true) : DnE K mg "check_closed" s_check_closed ["row"] :=
  ⟨f, _, fun_mk l e k, PySem.W.mg_of X G a, (fun_mk (st := s_check_closed) l e k).binds (ps := ["row"]) fun _ _ _ _ _ _ us hl => match us, hl with | [_], _ => rfl⟩
theorem mk_roots_of (X : K.In h) (G : h.Ns mainGlobals mg) (a : PySem.W.nsIn K mainGlobals "roots_of" = some (some (.ref f))) (l : K.lookup f = some ⟨oc, od, .func (PySem.W.fnOf "roots_of" "roots_of" (defArgs s_roots_of) (defBody s_roots_of) (defScope s_roots_of) .none kV dc pm an cd ct), sl⟩) (e : PySem.W.codeIn K cd "roots_of" = true) (k : PySem.W.keepIn K (.ref f) = true) : DnE K mg "roots_of" s_roots_of ["row"] :=
  ⟨f, _, fun_mk l e k, PySem.W.mg_of X G a, (fun_mk (st := s_roots_of) l e k).binds (ps := ["row"]) fun _ _ _ _ _ _ us hl => match us, hl with | [_], _ => rfl⟩
theorem mk_root_value (X : K.In h) (G : h.Ns mainGlobals mg) (a : PySem.W.nsIn K mainGlobals "root_value" = some (some (.ref f))) (l : K.lookup f = some ⟨oc, od, .func (PySem.W.fnOf "root_value" "root_value" (defArgs s_root_value) (defBody s_root_value) (defScope s_root_value) .none kV dc pm an cd ct), sl⟩) (e : PySem.W.codeIn K cd "root_value" = true) (k : PySem.W.keepIn K (.ref f) = true) : DnE K mg "root_value" s_root_value ["root", "numbers"] :=
  ⟨f, _, fun_mk l e k, PySem.W.mg_of X G a, (fun_mk (st := s_root_value) l e k).binds (ps := ["root", "numbers"]) fun _ _ _ _ _ _ us hl => match us, hl with | [_, _], _ => rfl⟩
theorem mk_clashing_roots (X : K.In h) (G : h.Ns mainGlobals mg) (a : PySem.W.nsIn K mainGlobals "clashing_roots" = some (some (.ref f))) (l : K.lookup f = some ⟨oc, od, .func (PySem.W.fnOf "clashing_roots" "clashing_roots" (defArgs s_clashing_roots) (defBody s_clashing_roots) (defScope s_clashing_roots) .none kV dc pm an cd ct), sl⟩) (e : PySem.W.codeIn K cd "clashing_roots" = true) (k : PySem.W.keepIn K (.ref f) = true) : DnE K mg "clashing_roots" s_clashing_roots ["row"] :=
  ⟨f, _, fun_mk l e k, PySem.W.mg_of X G a, (fun_mk (st := s_clashing_roots) l e k).binds (ps := ["row"]) fun _ _ _ _ _ _ us hl => match us, hl with | [_], _ => rfl⟩
theorem mk_closed_count (X : K.In h) (G : h.Ns mainGlobals mg) (a : PySem.W.nsIn K mainGlobals "closed_count" = some (some (.ref f))) (l : K.lookup f = some ⟨oc, od, .func (PySem.W.fnOf "closed_count" "closed_count" (defArgs s_closed_count) (defBody s_closed_count) (defScope s_closed_count) .none kV dc pm an cd ct), sl⟩) (e : PySem.W.codeIn K cd "closed_count" = true) (k : PySem.W.keepIn K (.ref f) = true) : DnE K mg "closed_count" s_closed_count ["row"] :=
  ⟨f, _, fun_mk l e k, PySem.W.mg_of X G a, (fun_mk (st := s_closed_count) l e k).binds (ps := ["row"]) fun _ _ _ _ _ _ us hl => match us, hl with | [_], _ => rfl⟩
theorem mk_closed_end (X : K.In h) (G : h.Ns mainGlobals mg) (a : PySem.W.nsIn K mainGlobals "closed_end" = some (some (.ref f))) (l : K.lookup f = some ⟨oc, od, .func (PySem.W.fnOf "closed_end" "closed_end" (defArgs s_closed_end) (defBody s_closed_end) (defScope s_closed_end) .none kV dc pm an cd ct), sl⟩) (e : PySem.W.codeIn K cd "closed_end" = true) (k : PySem.W.keepIn K (.ref f) = true) : DnE K mg "closed_end" s_closed_end ["row"] :=
  ⟨f, _, fun_mk l e k, PySem.W.mg_of X G a, (fun_mk (st := s_closed_end) l e k).binds (ps := ["row"]) fun _ _ _ _ _ _ us hl => match us, hl with | [_], _ => rfl⟩
theorem mk_law_mix (X : K.In h) (G : h.Ns mainGlobals mg) (a : PySem.W.nsIn K mainGlobals "_law_mix" = some (some (.ref f))) (l : K.lookup f = some ⟨oc, od, .func (PySem.W.fnOf "_law_mix" "_law_mix" (defArgs s_law_mix) (defBody s_law_mix) (defScope s_law_mix) .none kV dc pm an cd ct), sl⟩) (e : PySem.W.codeIn K cd "_law_mix" = true) (k : PySem.W.keepIn K (.ref f) = true) : DnE K mg "_law_mix" s_law_mix ["_law_number", "_law_turn"] :=
  ⟨f, _, fun_mk l e k, PySem.W.mg_of X G a, (fun_mk (st := s_law_mix) l e k).binds (ps := ["_law_number", "_law_turn"]) fun _ _ _ _ _ _ us hl => match us, hl with | [_, _], _ => rfl⟩
theorem mk_law_draw (X : K.In h) (G : h.Ns mainGlobals mg) (a : PySem.W.nsIn K mainGlobals "_law_draw" = some (some (.ref f))) (l : K.lookup f = some ⟨oc, od, .func (PySem.W.fnOf "_law_draw" "_law_draw" (defArgs s_law_draw) (defBody s_law_draw) (defScope s_law_draw) .none kV dc pm an cd ct), sl⟩) (e : PySem.W.codeIn K cd "_law_draw" = true) (k : PySem.W.keepIn K (.ref f) = true) : DnE K mg "_law_draw" s_law_draw ["_law_hand_here", "_law_many"] :=
  ⟨f, _, fun_mk l e k, PySem.W.mg_of X G a, (fun_mk (st := s_law_draw) l e k).binds (ps := ["_law_hand_here", "_law_many"]) fun _ _ _ _ _ _ us hl => match us, hl with | [_, _], _ => rfl⟩
theorem mk_law_hand (X : K.In h) (G : h.Ns mainGlobals mg) (a : PySem.W.nsIn K mainGlobals "_law_hand" = some (some (.ref f))) (l : K.lookup f = some ⟨oc, od, .func (PySem.W.fnOf "_law_hand" "_law_hand" (defArgs s_law_hand) (defBody s_law_hand) (defScope s_law_hand) .none kV dc pm an cd ct), sl⟩) (e : PySem.W.codeIn K cd "_law_hand" = true) (k : PySem.W.keepIn K (.ref f) = true) : DnE K mg "_law_hand" s_law_hand ["_law_script"] :=
  ⟨f, _, fun_mk l e k, PySem.W.mg_of X G a, (fun_mk (st := s_law_hand) l e k).binds (ps := ["_law_script"]) fun _ _ _ _ _ _ us hl => match us, hl with | [_], _ => rfl⟩
theorem mk_law_low (X : K.In h) (G : h.Ns mainGlobals mg) (a : PySem.W.nsIn K mainGlobals "_law_low" = some (some (.ref f))) (l : K.lookup f = some ⟨oc, od, .func (PySem.W.fnOf "_law_low" "_law_low" (defArgs s_law_low) (defBody s_law_low) (defScope s_law_low) .none kV dc pm an cd ct), sl⟩) (e : PySem.W.codeIn K cd "_law_low" = true) (k : PySem.W.keepIn K (.ref f) = true) : DnE K mg "_law_low" s_law_low ["_law_top", "_law_bottom"] :=
  ⟨f, _, fun_mk l e k, PySem.W.mg_of X G a, (fun_mk (st := s_law_low) l e k).binds (ps := ["_law_top", "_law_bottom"]) fun _ _ _ _ _ _ us hl => match us, hl with | [_, _], _ => rfl⟩
theorem mk_law_less (X : K.In h) (G : h.Ns mainGlobals mg) (a : PySem.W.nsIn K mainGlobals "_law_less" = some (some (.ref f))) (l : K.lookup f = some ⟨oc, od, .func (PySem.W.fnOf "_law_less" "_law_less" (defArgs s_law_less) (defBody s_law_less) (defScope s_law_less) .none kV dc pm an cd ct), sl⟩) (e : PySem.W.codeIn K cd "_law_less" = true) (k : PySem.W.keepIn K (.ref f) = true) : DnE K mg "_law_less" s_law_less ["_law_a", "_law_b"] :=
  ⟨f, _, fun_mk l e k, PySem.W.mg_of X G a, (fun_mk (st := s_law_less) l e k).binds (ps := ["_law_a", "_law_b"]) fun _ _ _ _ _ _ us hl => match us, hl with | [_, _], _ => rfl⟩
theorem mk_law_speed (X : K.In h) (G : h.Ns mainGlobals mg) (a : PySem.W.nsIn K mainGlobals "_law_speed" = some (some (.ref f))) (l : K.lookup f = some ⟨oc, od, .func (PySem.W.fnOf "_law_speed" "_law_speed" (defArgs s_law_speed) (defBody s_law_speed) (defScope s_law_speed) .none kV dc pm an cd ct), sl⟩) (e : PySem.W.codeIn K cd "_law_speed" = true) (k : PySem.W.keepIn K (.ref f) = true) : DnE K mg "_law_speed" s_law_speed ["_law_hand_here", "_law_wide"] :=
  ⟨f, _, fun_mk l e k, PySem.W.mg_of X G a, (fun_mk (st := s_law_speed) l e k).binds (ps := ["_law_hand_here", "_law_wide"]) fun _ _ _ _ _ _ us hl => match us, hl with | [_, _], _ => rfl⟩
theorem mk_law_falling (X : K.In h) (G : h.Ns mainGlobals mg) (a : PySem.W.nsIn K mainGlobals "_law_falling" = some (some (.ref f))) (l : K.lookup f = some ⟨oc, od, .func (PySem.W.fnOf "_law_falling" "_law_falling" (defArgs s_law_falling) (defBody s_law_falling) (defScope s_law_falling) .none kV dc pm an cd ct), sl⟩) (e : PySem.W.codeIn K cd "_law_falling" = true) (k : PySem.W.keepIn K (.ref f) = true) : DnE K mg "_law_falling" s_law_falling ["_law_speeds"] :=
  ⟨f, _, fun_mk l e k, PySem.W.mg_of X G a, (fun_mk (st := s_law_falling) l e k).binds (ps := ["_law_speeds"]) fun _ _ _ _ _ _ us hl => match us, hl with | [_], _ => rfl⟩
theorem mk_law_balls (X : K.In h) (G : h.Ns mainGlobals mg) (a : PySem.W.nsIn K mainGlobals "_law_balls" = some (some (.ref f))) (l : K.lookup f = some ⟨oc, od, .func (PySem.W.fnOf "_law_balls" "_law_balls" (defArgs s_law_balls) (defBody s_law_balls) (defScope s_law_balls) .none kV dc pm an cd ct), sl⟩) (e : PySem.W.codeIn K cd "_law_balls" = true) (k : PySem.W.keepIn K (.ref f) = true) : DnE K mg "_law_balls" s_law_balls ["_law_hand_here", "_law_many", "_law_shut"] :=
  ⟨f, _, fun_mk l e k, PySem.W.mg_of X G a, (fun_mk (st := s_law_balls) l e k).binds (ps := ["_law_hand_here", "_law_many", "_law_shut"]) fun _ _ _ _ _ _ us hl => match us, hl with | [_, _, _], _ => rfl⟩
theorem mk_law_any_balls (X : K.In h) (G : h.Ns mainGlobals mg) (a : PySem.W.nsIn K mainGlobals "_law_any_balls" = some (some (.ref f))) (l : K.lookup f = some ⟨oc, od, .func (PySem.W.fnOf "_law_any_balls" "_law_any_balls" (defArgs s_law_any_balls) (defBody s_law_any_balls) (defScope s_law_any_balls) .none kV dc pm an cd ct), sl⟩) (e : PySem.W.codeIn K cd "_law_any_balls" = true) (k : PySem.W.keepIn K (.ref f) = true) : DnE K mg "_law_any_balls" s_law_any_balls ["_law_hand_here"] :=
  ⟨f, _, fun_mk l e k, PySem.W.mg_of X G a, (fun_mk (st := s_law_any_balls) l e k).binds (ps := ["_law_hand_here"]) fun _ _ _ _ _ _ us hl => match us, hl with | [_], _ => rfl⟩
theorem mk_law_pick (X : K.In h) (G : h.Ns mainGlobals mg) (a : PySem.W.nsIn K mainGlobals "_law_pick" = some (some (.ref f))) (l : K.lookup f = some ⟨oc, od, .func (PySem.W.fnOf "_law_pick" "_law_pick" (defArgs s_law_pick) (defBody s_law_pick) (defScope s_law_pick) .none kV dc pm an cd ct), sl⟩) (e : PySem.W.codeIn K cd "_law_pick" = true) (k : PySem.W.keepIn K (.ref f) = true) : DnE K mg "_law_pick" s_law_pick ["_law_hand_here", "_law_some"] :=
  ⟨f, _, fun_mk l e k, PySem.W.mg_of X G a, (fun_mk (st := s_law_pick) l e k).binds (ps := ["_law_hand_here", "_law_some"]) fun _ _ _ _ _ _ us hl => match us, hl with | [_, _], _ => rfl⟩
theorem mk_law_special (X : K.In h) (G : h.Ns mainGlobals mg) (a : PySem.W.nsIn K mainGlobals "_law_special" = some (some (.ref f))) (l : K.lookup f = some ⟨oc, od, .func (PySem.W.fnOf "_law_special" "_law_special" (defArgs s_law_special) (defBody s_law_special) (defScope s_law_special) .none kV dc pm an cd ct), sl⟩) (e : PySem.W.codeIn K cd "_law_special" = true) (k : PySem.W.keepIn K (.ref f) = true) : DnE K mg "_law_special" s_law_special ["_law_hand_here"] :=
  ⟨f, _, fun_mk l e k, PySem.W.mg_of X G a, (fun_mk (st := s_law_special) l e k).binds (ps := ["_law_hand_here"]) fun _ _ _ _ _ _ us hl => match us, hl with | [_], _ => rfl⟩
theorem mk_law_case (X : K.In h) (G : h.Ns mainGlobals mg) (a : PySem.W.nsIn K mainGlobals "_law_case" = some (some (.ref f))) (l : K.lookup f = some ⟨oc, od, .func (PySem.W.fnOf "_law_case" "_law_case" (defArgs s_law_case) (defBody s_law_case) (defScope s_law_case) .none kV dc pm an cd ct), sl⟩) (e : PySem.W.codeIn K cd "_law_case" = true) (k : PySem.W.keepIn K (.ref f) = true) : DnE K mg "_law_case" s_law_case ["_law_hand_here"] :=
  ⟨f, _, fun_mk l e k, PySem.W.mg_of X G a, (fun_mk (st := s_law_case) l e k).binds (ps := ["_law_hand_here"]) fun _ _ _ _ _ _ us hl => match us, hl with | [_], _ => rfl⟩
theorem mk_law_by_hand (X : K.In h) (G : h.Ns mainGlobals mg) (a : PySem.W.nsIn K mainGlobals "_law_by_hand" = some (some (.ref f))) (l : K.lookup f = some ⟨oc, od, .func (PySem.W.fnOf "_law_by_hand" "_law_by_hand" (defArgs s_law_by_hand) (defBody s_law_by_hand) (defScope s_law_by_hand) .none kV dc pm an cd ct), sl⟩) (e : PySem.W.codeIn K cd "_law_by_hand" = true) (k : PySem.W.keepIn K (.ref f) = true) : DnE K mg "_law_by_hand" s_law_by_hand ["_law_weights", "_law_shut", "_law_at"] :=
  ⟨f, _, fun_mk l e k, PySem.W.mg_of X G a, (fun_mk (st := s_law_by_hand) l e k).binds (ps := ["_law_weights", "_law_shut", "_law_at"]) fun _ _ _ _ _ _ us hl => match us, hl with | [_, _, _], _ => rfl⟩
theorem mk_law_not_closed (X : K.In h) (G : h.Ns mainGlobals mg) (a : PySem.W.nsIn K mainGlobals "_law_not_closed" = some (some (.ref f))) (l : K.lookup f = some ⟨oc, od, .func (PySem.W.fnOf "_law_not_closed" "_law_not_closed" (defArgs s_law_not_closed) (defBody s_law_not_closed) (defScope s_law_not_closed) .none kV dc pm an cd ct), sl⟩) (e : PySem.W.codeIn K cd "_law_not_closed" = true) (k : PySem.W.keepIn K (.ref f) = true) : DnE K mg "_law_not_closed" s_law_not_closed ["_law_row"] :=
  ⟨f, _, fun_mk l e k, PySem.W.mg_of X G a, (fun_mk (st := s_law_not_closed) l e k).binds (ps := ["_law_row"]) fun _ _ _ _ _ _ us hl => match us, hl with | [_], _ => rfl⟩
theorem mk_law_closed_right (X : K.In h) (G : h.Ns mainGlobals mg) (a : PySem.W.nsIn K mainGlobals "_law_closed_right" = some (some (.ref f))) (l : K.lookup f = some ⟨oc, od, .func (PySem.W.fnOf "_law_closed_right" "_law_closed_right" (defArgs s_law_closed_right) (defBody s_law_closed_right) (defScope s_law_closed_right) .none kV dc pm an cd ct), sl⟩) (e : PySem.W.codeIn K cd "_law_closed_right" = true) (k : PySem.W.keepIn K (.ref f) = true) : DnE K mg "_law_closed_right" s_law_closed_right ["_law_hand_here", "_law_row", "_law_words"] :=
  ⟨f, _, fun_mk l e k, PySem.W.mg_of X G a, (fun_mk (st := s_law_closed_right) l e k).binds (ps := ["_law_hand_here", "_law_row", "_law_words"]) fun _ _ _ _ _ _ us hl => match us, hl with | [_, _, _], _ => rfl⟩
/-- an error of the class at S is what except S names -/
theorem exm_self {S : Addr} (h1 : PySem.W.subIn K (.ref S) (.type "BaseException") = some true) (h2 : PySem.W.isClsIn K S = true) (h3 : PySem.W.typeIn K (.ref S) = some (.type "type")) (h4 : PySem.W.subIn K (.ref S) (.ref S) = some true) :
    PySem.W.exmOne K (.ref S) (.ref S) = some true := by
  have e1 : (PySem.W.subIn K (.ref S) (.type "BaseException") == some true) = true := by rw [h1] <;> rfl
  have e2 : ((PySem.W.clsIn K S).isSome && PySem.W.typeIn K (.ref S) == some (.type "type")) = true := by
    have h2' : (PySem.W.clsIn K S).isSome = true := h2
    rw [h2', h3] <;> rfl
  show (if (PySem.W.subIn K (.ref S) (.type "BaseException") == some true) = true then (if ((PySem.W.clsIn K S).isSome && PySem.W.typeIn K (.ref S) == some (.type "type")) = true then PySem.W.subIn K (.ref S) (.ref S) else none) else none) = some true
  rw [if_pos e1, if_pos e2]
  exact h4
structure NcE (K : PySem.W.Frag) (mg : Str → Option Value) (CN : Addr) : Prop where
  o : OexC K CN
  x : XfC K CN
  g : mg "NotClosed" = some (.ref CN)
  no : PySem.W.findIn K (.ref CN) "index" = some none
  te : PySem.W.exmOne K (.ref CN) (.ref CN) = some true
  i : ∃ fI fd, PySem.W.findIn K (.ref CN) "__init__" = some (some (.ref fI)) ∧ PySem.W.typeIn K (.ref fI) = some (.type "function") ∧ Fun K "__init__" "NotClosed.__init__" s_Nc_init fI fd ∧ Binds K fd ["self", "index"] []
theorem mk_nc {CN fI N : Addr} {nm q : Str} {bs bm : List Value} {sn : List Str} {sub : List Value} {ab : Bool} {col : Option Bool} {dd : Option Addr} {m0 m1 m2 m3 m5 : Option Value} (X : K.In h) (G : h.Ns mainGlobals mg) (aC : PySem.W.nsIn K mainGlobals "NotClosed" = some (some (.ref CN)))
    (xL : K.lookup CN = some (excClassObj nm q CN N bs bm true sn sub ab col dd m0 m1 m2 m3 m5 "ValueError.__new__")) (rv : PySem.HandSPX.refsVE bm = true) (sa : PySem.W.findIn K (.ref CN) "__setattr__" = some (some (.builtin "object.__setattr__"))) (ga : PySem.W.findIn K (.ref CN) "__getattribute__" = some (some (.builtin "BaseException.__getattribute__"))) (gg : PySem.W.findIn K (.ref CN) "__getattr__" = some none)
    (nb : PySem.W.findIn K (.ref CN) "index" = some none) (eC : PySem.W.subIn K (.ref CN) (.type "BaseException") = some true) (tC : PySem.W.typeIn K (.ref CN) = some (.type "type")) (kC : PySem.W.keepIn K (.ref CN) = true) (hC : PySem.W.hasDictIn K CN = true) (iC : PySem.W.isClsIn K CN = true) (sC : PySem.W.subIn K (.ref CN) (.ref CN) = some true)
    (a : PySem.W.findIn K (.ref CN) "__init__" = some (some (.ref fI))) (t : PySem.W.typeIn K (.ref fI) = some (.type "function")) (l : K.lookup fI = some ⟨oc, od, .func (PySem.W.fnOf "__init__" "NotClosed.__init__" (defArgs s_Nc_init) (defBody s_Nc_init) (defScope s_Nc_init) .none kV dc pm an cd ct), sl⟩) (e : PySem.W.codeIn K cd "NotClosed.__init__" = true) (k : PySem.W.keepIn K (.ref fI) = true) : NcE K mg CN :=
  ⟨⟨⟨nm, q, N, bs, bm, sn, sub, ab, col, dd, m0, m1, m2, m3, m5, xL, rv⟩, sa, eC, tC, kC⟩, ⟨ga, gg, eC, hC⟩, PySem.W.mg_of X G aC, nb, exm_self eC iC tC sC, fI, _, a, t, fun_mk l e k, (fun_mk (st := s_Nc_init) l e k).binds (ps := ["self", "index"]) fun _ _ _ _ _ _ us hl => match us, hl with | [_, _], _ => rfl⟩
theorem mk_tx (X : K.In h) (G : h.Ns mainGlobals mg) (n0 : PySem.W.nsIn K mainGlobals "len" = some none) (n1 : PySem.W.nsIn K mainGlobals "abs" = some none) (n2 : PySem.W.nsIn K mainGlobals "isinstance" = some none) (n3 : PySem.W.nsIn K mainGlobals "tuple" = some none) (n4 : PySem.W.nsIn K mainGlobals "list" = some none) (n5 : PySem.W.nsIn K mainGlobals "int" = some none) (n6 : PySem.W.nsIn K mainGlobals "bool" = some none) (n7 : PySem.W.nsIn K mainGlobals "range" = some none) (n8 : PySem.W.nsIn K mainGlobals "zip" = some none) (n9 : PySem.W.nsIn K mainGlobals "enumerate" = some none) (n10 : PySem.W.nsIn K mainGlobals "min" = some none) (n11 : PySem.W.nsIn K mainGlobals "max" = some none) (n12 : PySem.W.nsIn K mainGlobals "sorted" = some none) (n13 : PySem.W.nsIn K mainGlobals "gcd" = some (some (.builtin "math.gcd"))) (n14 : PySem.W.nsIn K mainGlobals "lcm" = some (some (.builtin "math.lcm"))) : Tx mg :=
  ⟨PySem.W.mg_none_of X G n0, PySem.W.mg_none_of X G n1, PySem.W.mg_none_of X G n2, PySem.W.mg_none_of X G n3, PySem.W.mg_none_of X G n4, PySem.W.mg_none_of X G n5, PySem.W.mg_none_of X G n6, PySem.W.mg_none_of X G n7, PySem.W.mg_none_of X G n8, PySem.W.mg_none_of X G n9, PySem.W.mg_none_of X G n10, PySem.W.mg_none_of X G n11, PySem.W.mg_none_of X G n12, PySem.W.mg_of X G n13, PySem.W.mg_of X G n14⟩
theorem mk_tm {t0 t1 t2 t3 t4 t5 : Tok} (X : K.In h) (G : h.Ns mainGlobals mg) (n0 : PySem.W.nsIn K mainGlobals "MOST_WORD" = some (some (.int 800 t0))) (n1 : PySem.W.nsIn K mainGlobals "MOST_BALLS" = some (some (.int 40 t1))) (n2 : PySem.W.nsIn K mainGlobals "MOST_WEIGHT" = some (some (.int 9 t2))) (n3 : PySem.W.nsIn K mainGlobals "MOST_LINES" = some (some (.int 40 t3))) (n4 : PySem.W.nsIn K mainGlobals "MOST_TIMES" = some (some (.int 6 t4))) (n5 : PySem.W.nsIn K mainGlobals "MOST_TABLES" = some (some (.int 48 t5))) : Tm mg :=
  ⟨⟨_, PySem.W.mg_of X G n0⟩, ⟨_, PySem.W.mg_of X G n1⟩, ⟨_, PySem.W.mg_of X G n2⟩, ⟨_, PySem.W.mg_of X G n3⟩, ⟨_, PySem.W.mg_of X G n4⟩, ⟨_, PySem.W.mg_of X G n5⟩⟩
structure RwE (K : PySem.W.Frag) (C : Addr) : Prop where
  cl : Cls K C
  a0 : NoAttr K C "weights"
  a1 : NoAttr K C "speeds"
  a2 : NoAttr K C "wall"
  a3 : NoAttr K C "pairs"
  a4 : NoAttr K C "gap_count"
  a5 : NoAttr K C "is_like"
  a6 : NoAttr K C "first_sum"
  a7 : NoAttr K C "second_sum"
theorem mk_rw (pg : PySem.W.plainGet K C Str.empty = true) (hd : PySem.W.hasDictIn K C = true) (po : PySem.W.plainOver K C = true) (sa : PySem.W.findIn K (.ref C) "__setattr__" = some (some (.builtin "object.__setattr__"))) (n0 : PySem.W.findIn K (.ref C) "weights" = some none) (n1 : PySem.W.findIn K (.ref C) "speeds" = some none) (n2 : PySem.W.findIn K (.ref C) "wall" = some none) (n3 : PySem.W.findIn K (.ref C) "pairs" = some none) (n4 : PySem.W.findIn K (.ref C) "gap_count" = some none) (n5 : PySem.W.findIn K (.ref C) "is_like" = some none) (n6 : PySem.W.findIn K (.ref C) "first_sum" = some none) (n7 : PySem.W.findIn K (.ref C) "second_sum" = some none) : RwE K C := ⟨⟨pg, hd, po, sa⟩, n0, n1, n2, n3, n4, n5, n6, n7⟩
structure TbE (K : PySem.W.Frag) (mg : Str → Option Value) (C : Addr) : Prop where
  cl : Cls K C
  r : NoAttr K C "rows"
  ha : PySem.W.findIn K (.ref C) "__class__" = some (some (.builtin "object.__class__"))
  hn : PySem.W.specialIn K (.builtin "object.__class__") "__get__" = some (some (.builtin "getset_descriptor.__get__"))
  htk : PySem.W.takesIn K (.builtin "object.__class__") = some true
  hm : PySem.W.mroIn K C (.type "object") = some true
  sf : PySem.W.selfFirst K C = true
  g : mg "Table" = some (.ref C)
theorem mk_tb (X : K.In h) (G : h.Ns mainGlobals mg) (aC : PySem.W.nsIn K mainGlobals "Table" = some (some (.ref C))) (pg : PySem.W.plainGet K C Str.empty = true) (hd : PySem.W.hasDictIn K C = true) (po : PySem.W.plainOver K C = true) (sa : PySem.W.findIn K (.ref C) "__setattr__" = some (some (.builtin "object.__setattr__"))) (r : PySem.W.findIn K (.ref C) "rows" = some none)
    (ha : PySem.W.findIn K (.ref C) "__class__" = some (some (.builtin "object.__class__"))) (hn : PySem.W.specialIn K (.builtin "object.__class__") "__get__" = some (some (.builtin "getset_descriptor.__get__"))) (htk : PySem.W.takesIn K (.builtin "object.__class__") = some true) (hm : PySem.W.mroIn K C (.type "object") = some true) (sf : PySem.W.selfFirst K C = true) : TbE K mg C :=
  ⟨⟨pg, hd, po, sa⟩, r, ha, hn, htk, hm, sf, PySem.W.mg_of X G aC⟩
end
theorem end_mk {P : Program} {w : World} {K : PySem.W.Frag} {h : Heap} {mg : Str → Option Value} {C CT CN f fa : Addr} {oc kV dc pm cd ct : Value} {od an : Option Addr} {sl : Array (Option Value)} (X : K.In h) (G : h.Ns mainGlobals mg) (hfa : mg "law" = some (.ref fa))
    (aR : PySem.W.nsIn K mainGlobals "Row" = some (some (.ref C))) (aT : PySem.W.nsIn K mainGlobals "Table" = some (some (.ref CT))) (aN : PySem.W.nsIn K mainGlobals "NotClosed" = some (some (.ref CN)))
    (a : PySem.W.nsIn K mainGlobals "law" = some (some (.ref f))) (l : K.lookup f = some ⟨oc, od, .func (PySem.W.fnOf "law" "law" (defArgs s_law) (defBody s_law) (defScope s_law) .none kV dc pm an cd ct), sl⟩) (e : PySem.W.codeIn K cd "law" = true) (k : PySem.W.keepIn K (.ref f) = true)
    (T : Tx mg) (M : Tm mg) (RC : RwE K C) (TC : TbE K mg CT) (N : NcE K mg CN)
    (d_is_whole : DnE K mg "is_whole" s_is_whole ["thing"])
    (d_is_ratio : DnE K mg "is_ratio" s_is_ratio ["thing"])
    (d_lowest_terms : DnE K mg "lowest_terms" s_lowest_terms ["top", "bottom"])
    (d_ratio_of : DnE K mg "ratio_of" s_ratio_of ["thing"])
    (d_plus : DnE K mg "plus" s_plus ["one", "other"])
    (d_minus : DnE K mg "minus" s_minus ["one", "other"])
    (d_times : DnE K mg "times" s_times ["one", "other"])
    (d_compare : DnE K mg "compare" s_compare ["one", "other"])
    (d_mixed_ratio : DnE K mg "mixed_ratio" s_mixed_ratio ["one", "first", "other", "second", "divisor"])
    (d_clashed : DnE K mg "clashed" s_clashed ["weights", "rates", "pair"])
    (d_closing_of : DnE K mg "closing_of" s_closing_of ["rates", "pair"])
    (d_check_balls : DnE K mg "check_balls" s_check_balls ["weights", "speeds", "wall"])
    (d_row : DrE K mg C)
    (d_Row_len : DmE K C "__len__" "Row.__len__" s_Row_len ["self"])
    (d_Row_with_speeds : DmE K C "with_speeds" "Row.with_speeds" s_Row_with_speeds ["self", "speeds"])
    (d_Row_turned : DmE K C "turned" "Row.turned" s_Row_turned ["self"])
    (d_check_narrow : DnE K mg "check_narrow" s_check_narrow ["row"])
    (d_check_pair : DnE K mg "check_pair" s_check_pair ["row", "pair"])
    (d_check_word : DnE K mg "check_word" s_check_word ["row", "word"])
    (d_after_clash : DnE K mg "after_clash" s_after_clash ["row", "pair"])
    (d_after_word : DnE K mg "after_word" s_after_word ["row", "word"])
    (d_coming_pairs : DnE K mg "coming_pairs" s_coming_pairs ["row"])
    (d_first_not_coming : DnE K mg "first_not_coming" s_first_not_coming ["row", "word"])
    (d_dotted : DnE K mg "dotted" s_dotted ["one", "other"])
    (d_check_entries : DnE K mg "check_entries" s_check_entries ["entries", "many"])
    (d_rest_rows : DnE K mg "rest_rows" s_rest_rows ["many"])
    (d_lines_behind : DnE K mg "lines_behind" s_lines_behind ["weights", "lines", "pair"])
    (d_table : DcE K mg CT "Table" "Table.__init__" s_Table_init ["self", "rows"])
    (d_Table_eq : DmE K CT "__eq__" "Table.__eq__" s_Table_eq ["self", "other"])
    (d_Table_mul : DmE K CT "__mul__" "Table.__mul__" s_Table_mul ["self", "other"])
    (d_rest_table : DnE K mg "rest_table" s_rest_table ["row"])
    (d_table_of : DnE K mg "table_of" s_table_of ["row", "word"])
    (d_carried : DnE K mg "carried" s_carried ["row", "word"])
    (d_like_times : DnE K mg "like_times" s_like_times ["row", "word"])
    (d_returns_after : DnE K mg "returns_after" s_returns_after ["row", "word"])
    (d_all_tables : DnE K mg "all_tables" s_all_tables ["row"])
    (d_closings_of : DnE K mg "closings_of" s_closings_of ["row"])
    (d_closing_gain : DnE K mg "closing_gain" s_closing_gain ["row", "clashing", "near"])
    (d_orders_of : DnE K mg "orders_of" s_orders_of ["row"])
    (d_is_closed : DnE K mg "is_closed" s_is_closed ["row"])
    (d_lowest_row : DnE K mg "lowest_row" s_lowest_row ["numbers"])
    (d_root_behind : DnE K mg "root_behind" s_root_behind ["row", "root", "at"])
    (d_check_closed : DnE K mg "check_closed" s_check_closed ["row"])
    (d_roots_of : DnE K mg "roots_of" s_roots_of ["row"])
    (d_root_value : DnE K mg "root_value" s_root_value ["root", "numbers"])
    (d_clashing_roots : DnE K mg "clashing_roots" s_clashing_roots ["row"])
    (d_closed_count : DnE K mg "closed_count" s_closed_count ["row"])
    (d_closed_end : DnE K mg "closed_end" s_closed_end ["row"])
    (d_law_mix : DnE K mg "_law_mix" s_law_mix ["_law_number", "_law_turn"])
    (d_law_draw : DnE K mg "_law_draw" s_law_draw ["_law_hand_here", "_law_many"])
    (d_law_hand : DnE K mg "_law_hand" s_law_hand ["_law_script"])
    (d_law_low : DnE K mg "_law_low" s_law_low ["_law_top", "_law_bottom"])
    (d_law_less : DnE K mg "_law_less" s_law_less ["_law_a", "_law_b"])
    (d_law_speed : DnE K mg "_law_speed" s_law_speed ["_law_hand_here", "_law_wide"])
    (d_law_falling : DnE K mg "_law_falling" s_law_falling ["_law_speeds"])
    (d_law_balls : DnE K mg "_law_balls" s_law_balls ["_law_hand_here", "_law_many", "_law_shut"])
    (d_law_any_balls : DnE K mg "_law_any_balls" s_law_any_balls ["_law_hand_here"])
    (d_law_pick : DnE K mg "_law_pick" s_law_pick ["_law_hand_here", "_law_some"])
    (d_law_special : DnE K mg "_law_special" s_law_special ["_law_hand_here"])
    (d_law_case : DnE K mg "_law_case" s_law_case ["_law_hand_here"])
    (d_law_by_hand : DnE K mg "_law_by_hand" s_law_by_hand ["_law_weights", "_law_shut", "_law_at"])
    (d_law_not_closed : DnE K mg "_law_not_closed" s_law_not_closed ["_law_row"])
    (d_law_closed_right : DnE K mg "_law_closed_right" s_law_closed_right ["_law_hand_here", "_law_row", "_law_words"])
    : ∃ fd : FuncData, (∀ (s : Shared) (v : Value), BindsTo s fd ⟨[v], []⟩ [("_law_script", v)]) ∧ ∀ base : Heap, K.In base → base.Ns mainGlobals mg → FnOk P w K mg base CX0 11 fa fd ["_law_script"] (spLaw K) := by
  have e0 := hfa.symm.trans (PySem.W.mg_of X G a)
  cases e0
  refine ⟨PySem.W.fnOf "law" "law" (defArgs s_law) (defBody s_law) (defScope s_law) .none kV dc pm an cd ct, fun s v => .of_eq rfl, fun base _ _ => ?_⟩
  exact all_law (c := ⟨P, w, K, mg, base⟩) (C := C) (CT := CT) (CN := CN) T M ⟨RC.cl, RC.a0, RC.a1, RC.a2, RC.a3, RC.a4, RC.a5, RC.a6, RC.a7⟩ ⟨TC.cl, TC.r, TC.ha, TC.hn, TC.htk, TC.hm, TC.sf, TC.g⟩ ⟨N.o, N.x, N.g, N.no, N.te, N.i⟩
    ⟨d_is_whole⟩ ⟨d_is_ratio⟩ ⟨d_lowest_terms⟩ ⟨d_ratio_of⟩ ⟨d_plus⟩ ⟨d_minus⟩ ⟨d_times⟩ ⟨d_compare⟩ ⟨d_mixed_ratio⟩ ⟨d_clashed⟩ ⟨d_closing_of⟩ ⟨d_check_balls⟩ ⟨d_row⟩ ⟨d_Row_len⟩ ⟨d_Row_with_speeds⟩ ⟨d_Row_turned⟩ ⟨d_check_narrow⟩ ⟨d_check_pair⟩ ⟨d_check_word⟩ ⟨d_after_clash⟩ ⟨d_after_word⟩ ⟨d_coming_pairs⟩ ⟨d_first_not_coming⟩ ⟨d_dotted⟩ ⟨d_check_entries⟩ ⟨d_rest_rows⟩ ⟨d_lines_behind⟩ ⟨d_table⟩ ⟨d_Table_eq⟩ ⟨d_Table_mul⟩ ⟨d_rest_table⟩ ⟨d_table_of⟩ ⟨d_carried⟩ ⟨d_like_times⟩ ⟨d_returns_after⟩ ⟨d_all_tables⟩ ⟨d_closings_of⟩ ⟨d_closing_gain⟩ ⟨d_orders_of⟩ ⟨d_is_closed⟩ ⟨d_lowest_row⟩ ⟨d_root_behind⟩ ⟨d_check_closed⟩ ⟨d_roots_of⟩ ⟨d_root_value⟩ ⟨d_clashing_roots⟩ ⟨d_closed_count⟩ ⟨d_closed_end⟩ ⟨d_law_mix⟩ ⟨d_law_draw⟩ ⟨d_law_hand⟩ ⟨d_law_low⟩ ⟨d_law_less⟩ ⟨d_law_speed⟩ ⟨d_law_falling⟩ ⟨d_law_balls⟩ ⟨d_law_any_balls⟩ ⟨d_law_pick⟩ ⟨d_law_special⟩ ⟨d_law_case⟩ ⟨d_law_by_hand⟩ ⟨d_law_not_closed⟩ ⟨d_law_closed_right⟩ (fun_mk (st := s_law) l e k)
theorem walk {l : PySem.W.OpenLaw} {q : Program} {loose : List Str} {XP : (Str → Option Value) → Heap → Prop} {YP : World → Heap → Prop} {d : DefRec} {K : Params → PySem.W.Frag} (hn : l.most = some 63) (hdf : d.params.defaults = [])
    (hY : ∀ (w : World) (h : Heap), YP w h → (K w.params).In h)
    (F : ∀ (w : World) (mg : Str → Option Value) (fa : Addr) (h : Heap), (K w.params).In h → h.Ns mainGlobals mg → mg d.name = some (.ref fa) →
      ∃ fd : FuncData, (∀ (s : Shared) (u : Value), BindsTo s fd ⟨[u], []⟩ [("_law_script", u)]) ∧ ∀ base : Heap, (K w.params).In base → base.Ns mainGlobals mg → FnOk l.prog w (K w.params) mg base CX0 11 fa fd ["_law_script"] (spLaw (K w.params))) :
    PySem.W.WalkO q loose XP YP l.row.toRowW d [] (fun f vs => PySem.call f vs) :=
  L2.walk_of (n := 63) (k := 11) (x := "_law_script") (CX := fun _ => CX0) (sp := fun w => spLaw (K w.params)) hn (by decide) hdf ⟨rfl, by decide, by decide⟩ hY F (fun _ _ a ns hl _ hS => ⟨_, rfl, a, ns, rfl, hS, by omega, fun _ _ => rfl⟩) fun _ _ _ _ _ z => z
end K74
open PySem PySem.W PyProof.Rows in
set_option maxRecDepth 100000 in
set_option maxHeartbeats 0 in
theorem PySem.Challenge.cw_untoldgaps_k74_whole_closed_rows_have_fe_holds : PySem.Challenge.rw_untoldgaps_k74_whole_closed_rows_have_fe.Holds := by
  w_on; o_law; k_head; (case hw => w_witness2)
  k_fill
  refine K74.walk (l := PySem.Challenge.rw_untoldgaps_k74_whole_closed_rows_have_fe) rfl rfl (fun w h Y => PySem.W.kIn_of Y) ?F
  case F =>
    intro w mg fa h KX G hmg
    refine' K74.end_mk KX G hmg ?z9_aR ?z9_aT ?z9_aN ?z9_a ?z9_l ?z9_e ?z9_k ?z9_T ?z9_M ?z9_RC ?z9_TC ?z9_N ?z9_d_is_whole ?z9_d_is_ratio ?z9_d_lowest_terms ?z9_d_ratio_of ?z9_d_plus ?z9_d_minus ?z9_d_times ?z9_d_compare ?z9_d_mixed_ratio ?z9_d_clashed ?z9_d_closing_of ?z9_d_check_balls ?z9_d_row ?z9_d_Row_len ?z9_d_Row_with_speeds ?z9_d_Row_turned ?z9_d_check_narrow ?z9_d_check_pair ?z9_d_check_word ?z9_d_after_clash ?z9_d_after_word ?z9_d_coming_pairs ?z9_d_first_not_coming ?z9_d_dotted ?z9_d_check_entries ?z9_d_rest_rows ?z9_d_lines_behind ?z9_d_table ?z9_d_Table_eq ?z9_d_Table_mul ?z9_d_rest_table ?z9_d_table_of ?z9_d_carried ?z9_d_like_times ?z9_d_returns_after ?z9_d_all_tables ?z9_d_closings_of ?z9_d_closing_gain ?z9_d_orders_of ?z9_d_is_closed ?z9_d_lowest_row ?z9_d_root_behind ?z9_d_check_closed ?z9_d_roots_of ?z9_d_root_value ?z9_d_clashing_roots ?z9_d_closed_count ?z9_d_closed_end ?z9_d_law_mix ?z9_d_law_draw ?z9_d_law_hand ?z9_d_law_low ?z9_d_law_less ?z9_d_law_speed ?z9_d_law_falling ?z9_d_law_balls ?z9_d_law_any_balls ?z9_d_law_pick ?z9_d_law_special ?z9_d_law_case ?z9_d_law_by_hand ?z9_d_law_not_closed ?z9_d_law_closed_right
    (case z9_aR => k_is)
    (case z9_aT => k_is)
    (case z9_aN => k_is)
    (case z9_a => k_is)
    (case z9_l => k_is)
    (case z9_e => k_is)
    (case z9_k => k_is)
    (case z9_T =>
      refine' K74.mk_tx KX G ?y9_T_n0 ?y9_T_n1 ?y9_T_n2 ?y9_T_n3 ?y9_T_n4 ?y9_T_n5 ?y9_T_n6 ?y9_T_n7 ?y9_T_n8 ?y9_T_n9 ?y9_T_n10 ?y9_T_n11 ?y9_T_n12 ?y9_T_n13 ?y9_T_n14
      (case y9_T_n0 => k_is)
      (case y9_T_n1 => k_is)
      (case y9_T_n2 => k_is)
      (case y9_T_n3 => k_is)
      (case y9_T_n4 => k_is)
      (case y9_T_n5 => k_is)
      (case y9_T_n6 => k_is)
      (case y9_T_n7 => k_is)
      (case y9_T_n8 => k_is)
      (case y9_T_n9 => k_is)
      (case y9_T_n10 => k_is)
      (case y9_T_n11 => k_is)
      (case y9_T_n12 => k_is)
      (case y9_T_n13 => k_is)
      (case y9_T_n14 => k_is))
    (case z9_M =>
      refine' K74.mk_tm KX G ?y9_M_n0 ?y9_M_n1 ?y9_M_n2 ?y9_M_n3 ?y9_M_n4 ?y9_M_n5
      (case y9_M_n0 => k_is)
      (case y9_M_n1 => k_is)
      (case y9_M_n2 => k_is)
      (case y9_M_n3 => k_is)
      (case y9_M_n4 => k_is)
      (case y9_M_n5 => k_is))
    (case z9_RC =>
      refine' K74.mk_rw ?y9_RC_pg ?y9_RC_hd ?y9_RC_po ?y9_RC_sa ?y9_RC_n0 ?y9_RC_n1 ?y9_RC_n2 ?y9_RC_n3 ?y9_RC_n4 ?y9_RC_n5 ?y9_RC_n6 ?y9_RC_n7
      (case y9_RC_pg => k_is)
      (case y9_RC_hd => k_is)
      (case y9_RC_po => k_is)
      (case y9_RC_sa => k_is)
      (case y9_RC_n0 => k_is)
      (case y9_RC_n1 => k_is)
      (case y9_RC_n2 => k_is)
      (case y9_RC_n3 => k_is)
      (case y9_RC_n4 => k_is)
      (case y9_RC_n5 => k_is)
      (case y9_RC_n6 => k_is)
      (case y9_RC_n7 => k_is))
    (case z9_TC =>
      refine' K74.mk_tb KX G ?y9_TC_aC ?y9_TC_pg ?y9_TC_hd ?y9_TC_po ?y9_TC_sa ?y9_TC_r ?y9_TC_ha ?y9_TC_hn ?y9_TC_htk ?y9_TC_hm ?y9_TC_sf
      (case y9_TC_aC => k_is)
      (case y9_TC_pg => k_is)
      (case y9_TC_hd => k_is)
      (case y9_TC_po => k_is)
      (case y9_TC_sa => k_is)
      (case y9_TC_r => k_is)
      (case y9_TC_ha => k_is)
      (case y9_TC_hn => k_is)
      (case y9_TC_htk => k_is)
      (case y9_TC_hm => k_is)
      (case y9_TC_sf => k_is))
    (case z9_N =>
      refine' K74.mk_nc KX G ?y9_N_aC ?y9_N_xL ?y9_N_rv ?y9_N_sa ?y9_N_ga ?y9_N_gg ?y9_N_nb ?y9_N_eC ?y9_N_tC ?y9_N_kC ?y9_N_hC ?y9_N_iC ?y9_N_sC ?y9_N_a ?y9_N_t ?y9_N_l ?y9_N_e ?y9_N_k
      (case y9_N_aC => k_is)
      (case y9_N_xL => k_is)
      (case y9_N_rv => decide +kernel)
      (case y9_N_sa => k_is)
      (case y9_N_ga => k_is)
      (case y9_N_gg => k_is)
      (case y9_N_nb => k_is)
      (case y9_N_eC => k_is)
      (case y9_N_tC => k_is)
      (case y9_N_kC => k_is)
      (case y9_N_hC => k_is)
      (case y9_N_iC => k_is)
      (case y9_N_sC => first | rfl | k_is)
      (case y9_N_a => k_is)
      (case y9_N_t => k_is)
      (case y9_N_l => k_is)
      (case y9_N_e => k_is)
      (case y9_N_k => k_is))
    (case z9_d_is_whole =>
      refine' K74.mk_is_whole KX G ?y9_d_is_whole_a ?y9_d_is_whole_l ?y9_d_is_whole_e ?y9_d_is_whole_k
      (case y9_d_is_whole_a => k_is)
      (case y9_d_is_whole_l => k_is)
      (case y9_d_is_whole_e => k_is)
      (case y9_d_is_whole_k => k_is))
    (case z9_d_is_ratio =>
      refine' K74.mk_is_ratio KX G ?y9_d_is_ratio_a ?y9_d_is_ratio_l ?y9_d_is_ratio_e ?y9_d_is_ratio_k
      (case y9_d_is_ratio_a => k_is)
      (case y9_d_is_ratio_l => k_is)
      (case y9_d_is_ratio_e => k_is)
      (case y9_d_is_ratio_k => k_is))
    (case z9_d_lowest_terms =>
      refine' K74.mk_lowest_terms KX G ?y9_d_lowest_terms_a ?y9_d_lowest_terms_l ?y9_d_lowest_terms_e ?y9_d_lowest_terms_k
      (case y9_d_lowest_terms_a => k_is)
      (case y9_d_lowest_terms_l => k_is)
      (case y9_d_lowest_terms_e => k_is)
      (case y9_d_lowest_terms_k => k_is))
    (case z9_d_ratio_of =>
      refine' K74.mk_ratio_of KX G ?y9_d_ratio_of_a ?y9_d_ratio_of_l ?y9_d_ratio_of_e ?y9_d_ratio_of_k
      (case y9_d_ratio_of_a => k_is)
      (case y9_d_ratio_of_l => k_is)
      (case y9_d_ratio_of_e => k_is)
      (case y9_d_ratio_of_k => k_is))
    (case z9_d_plus =>
      refine' K74.mk_plus KX G ?y9_d_plus_a ?y9_d_plus_l ?y9_d_plus_e ?y9_d_plus_k
      (case y9_d_plus_a => k_is)
      (case y9_d_plus_l => k_is)
      (case y9_d_plus_e => k_is)
      (case y9_d_plus_k => k_is))
    (case z9_d_minus =>
      refine' K74.mk_minus KX G ?y9_d_minus_a ?y9_d_minus_l ?y9_d_minus_e ?y9_d_minus_k
      (case y9_d_minus_a => k_is)
      (case y9_d_minus_l => k_is)
      (case y9_d_minus_e => k_is)
      (case y9_d_minus_k => k_is))
    (case z9_d_times =>
      refine' K74.mk_times KX G ?y9_d_times_a ?y9_d_times_l ?y9_d_times_e ?y9_d_times_k
      (case y9_d_times_a => k_is)
      (case y9_d_times_l => k_is)
      (case y9_d_times_e => k_is)
      (case y9_d_times_k => k_is))
    (case z9_d_compare =>
      refine' K74.mk_compare KX G ?y9_d_compare_a ?y9_d_compare_l ?y9_d_compare_e ?y9_d_compare_k
      (case y9_d_compare_a => k_is)
      (case y9_d_compare_l => k_is)
      (case y9_d_compare_e => k_is)
      (case y9_d_compare_k => k_is))
    (case z9_d_mixed_ratio =>
      refine' K74.mk_mixed_ratio KX G ?y9_d_mixed_ratio_a ?y9_d_mixed_ratio_l ?y9_d_mixed_ratio_e ?y9_d_mixed_ratio_k
      (case y9_d_mixed_ratio_a => k_is)
      (case y9_d_mixed_ratio_l => k_is)
      (case y9_d_mixed_ratio_e => k_is)
      (case y9_d_mixed_ratio_k => k_is))
    (case z9_d_clashed =>
      refine' K74.mk_clashed KX G ?y9_d_clashed_a ?y9_d_clashed_l ?y9_d_clashed_e ?y9_d_clashed_k
      (case y9_d_clashed_a => k_is)
      (case y9_d_clashed_l => k_is)
      (case y9_d_clashed_e => k_is)
      (case y9_d_clashed_k => k_is))
    (case z9_d_closing_of =>
      refine' K74.mk_closing_of KX G ?y9_d_closing_of_a ?y9_d_closing_of_l ?y9_d_closing_of_e ?y9_d_closing_of_k
      (case y9_d_closing_of_a => k_is)
      (case y9_d_closing_of_l => k_is)
      (case y9_d_closing_of_e => k_is)
      (case y9_d_closing_of_k => k_is))
    (case z9_d_check_balls =>
      refine' K74.mk_check_balls KX G ?y9_d_check_balls_a ?y9_d_check_balls_l ?y9_d_check_balls_e ?y9_d_check_balls_k
      (case y9_d_check_balls_a => k_is)
      (case y9_d_check_balls_l => k_is)
      (case y9_d_check_balls_e => k_is)
      (case y9_d_check_balls_k => k_is))
    (case z9_d_row =>
      refine' K74.mk_row KX G ?y9_d_row_aC ?y9_d_row_mk ?y9_d_row_a ?y9_d_row_i ?y9_d_row_kC ?y9_d_row_l ?y9_d_row_lT ?y9_d_row_e ?y9_d_row_k
      (case y9_d_row_aC => k_is)
      (case y9_d_row_mk => k_is)
      (case y9_d_row_a => k_is)
      (case y9_d_row_i => k_is)
      (case y9_d_row_kC => k_is)
      (case y9_d_row_l => k_is)
      (case y9_d_row_lT => k_is)
      (case y9_d_row_e => k_is)
      (case y9_d_row_k => k_is))
    (case z9_d_Row_len =>
      refine' K74.mk_Row_len ?y9_d_Row_len_a ?y9_d_Row_len_i ?y9_d_Row_len_l ?y9_d_Row_len_e ?y9_d_Row_len_k
      (case y9_d_Row_len_a => k_is)
      (case y9_d_Row_len_i => k_is)
      (case y9_d_Row_len_l => k_is)
      (case y9_d_Row_len_e => k_is)
      (case y9_d_Row_len_k => k_is))
    (case z9_d_Row_with_speeds =>
      refine' K74.mk_Row_with_speeds ?y9_d_Row_with_speeds_a ?y9_d_Row_with_speeds_i ?y9_d_Row_with_speeds_l ?y9_d_Row_with_speeds_e ?y9_d_Row_with_speeds_k
      (case y9_d_Row_with_speeds_a => k_is)
      (case y9_d_Row_with_speeds_i => k_is)
      (case y9_d_Row_with_speeds_l => k_is)
      (case y9_d_Row_with_speeds_e => k_is)
      (case y9_d_Row_with_speeds_k => k_is))
    (case z9_d_Row_turned =>
      refine' K74.mk_Row_turned ?y9_d_Row_turned_a ?y9_d_Row_turned_i ?y9_d_Row_turned_l ?y9_d_Row_turned_e ?y9_d_Row_turned_k
      (case y9_d_Row_turned_a => k_is)
      (case y9_d_Row_turned_i => k_is)
      (case y9_d_Row_turned_l => k_is)
      (case y9_d_Row_turned_e => k_is)
      (case y9_d_Row_turned_k => k_is))
    (case z9_d_check_narrow =>
      refine' K74.mk_check_narrow KX G ?y9_d_check_narrow_a ?y9_d_check_narrow_l ?y9_d_check_narrow_e ?y9_d_check_narrow_k
      (case y9_d_check_narrow_a => k_is)
      (case y9_d_check_narrow_l => k_is)
      (case y9_d_check_narrow_e => k_is)
      (case y9_d_check_narrow_k => k_is))
    (case z9_d_check_pair =>
      refine' K74.mk_check_pair KX G ?y9_d_check_pair_a ?y9_d_check_pair_l ?y9_d_check_pair_e ?y9_d_check_pair_k
      (case y9_d_check_pair_a => k_is)
      (case y9_d_check_pair_l => k_is)
      (case y9_d_check_pair_e => k_is)
      (case y9_d_check_pair_k => k_is))
    (case z9_d_check_word =>
      refine' K74.mk_check_word KX G ?y9_d_check_word_a ?y9_d_check_word_l ?y9_d_check_word_e ?y9_d_check_word_k
      (case y9_d_check_word_a => k_is)
      (case y9_d_check_word_l => k_is)
      (case y9_d_check_word_e => k_is)
      (case y9_d_check_word_k => k_is))
    (case z9_d_after_clash =>
      refine' K74.mk_after_clash KX G ?y9_d_after_clash_a ?y9_d_after_clash_l ?y9_d_after_clash_e ?y9_d_after_clash_k
      (case y9_d_after_clash_a => k_is)
      (case y9_d_after_clash_l => k_is)
      (case y9_d_after_clash_e => k_is)
      (case y9_d_after_clash_k => k_is))
    (case z9_d_after_word =>
      refine' K74.mk_after_word KX G ?y9_d_after_word_a ?y9_d_after_word_l ?y9_d_after_word_e ?y9_d_after_word_k
      (case y9_d_after_word_a => k_is)
      (case y9_d_after_word_l => k_is)
      (case y9_d_after_word_e => k_is)
      (case y9_d_after_word_k => k_is))
    (case z9_d_coming_pairs =>
      refine' K74.mk_coming_pairs KX G ?y9_d_coming_pairs_a ?y9_d_coming_pairs_l ?y9_d_coming_pairs_e ?y9_d_coming_pairs_k
      (case y9_d_coming_pairs_a => k_is)
      (case y9_d_coming_pairs_l => k_is)
      (case y9_d_coming_pairs_e => k_is)
      (case y9_d_coming_pairs_k => k_is))
    (case z9_d_first_not_coming =>
      refine' K74.mk_first_not_coming KX G ?y9_d_first_not_coming_a ?y9_d_first_not_coming_l ?y9_d_first_not_coming_e ?y9_d_first_not_coming_k
      (case y9_d_first_not_coming_a => k_is)
      (case y9_d_first_not_coming_l => k_is)
      (case y9_d_first_not_coming_e => k_is)
      (case y9_d_first_not_coming_k => k_is))
    (case z9_d_dotted =>
      refine' K74.mk_dotted KX G ?y9_d_dotted_a ?y9_d_dotted_l ?y9_d_dotted_e ?y9_d_dotted_k
      (case y9_d_dotted_a => k_is)
      (case y9_d_dotted_l => k_is)
      (case y9_d_dotted_e => k_is)
      (case y9_d_dotted_k => k_is))
    (case z9_d_check_entries =>
      refine' K74.mk_check_entries KX G ?y9_d_check_entries_a ?y9_d_check_entries_l ?y9_d_check_entries_e ?y9_d_check_entries_k
      (case y9_d_check_entries_a => k_is)
      (case y9_d_check_entries_l => k_is)
      (case y9_d_check_entries_e => k_is)
      (case y9_d_check_entries_k => k_is))
    (case z9_d_rest_rows =>
      refine' K74.mk_rest_rows KX G ?y9_d_rest_rows_a ?y9_d_rest_rows_l ?y9_d_rest_rows_e ?y9_d_rest_rows_k
      (case y9_d_rest_rows_a => k_is)
      (case y9_d_rest_rows_l => k_is)
      (case y9_d_rest_rows_e => k_is)
      (case y9_d_rest_rows_k => k_is))
    (case z9_d_lines_behind =>
      refine' K74.mk_lines_behind KX G ?y9_d_lines_behind_a ?y9_d_lines_behind_l ?y9_d_lines_behind_e ?y9_d_lines_behind_k
      (case y9_d_lines_behind_a => k_is)
      (case y9_d_lines_behind_l => k_is)
      (case y9_d_lines_behind_e => k_is)
      (case y9_d_lines_behind_k => k_is))
    (case z9_d_table =>
      refine' K74.mk_table KX G ?y9_d_table_aC ?y9_d_table_mk ?y9_d_table_a ?y9_d_table_i ?y9_d_table_kC ?y9_d_table_l ?y9_d_table_e ?y9_d_table_k
      (case y9_d_table_aC => k_is)
      (case y9_d_table_mk => k_is)
      (case y9_d_table_a => k_is)
      (case y9_d_table_i => k_is)
      (case y9_d_table_kC => k_is)
      (case y9_d_table_l => k_is)
      (case y9_d_table_e => k_is)
      (case y9_d_table_k => k_is))
    (case z9_d_Table_eq =>
      refine' K74.mk_Table_eq ?y9_d_Table_eq_a ?y9_d_Table_eq_i ?y9_d_Table_eq_l ?y9_d_Table_eq_e ?y9_d_Table_eq_k
      (case y9_d_Table_eq_a => k_is)
      (case y9_d_Table_eq_i => k_is)
      (case y9_d_Table_eq_l => k_is)
      (case y9_d_Table_eq_e => k_is)
      (case y9_d_Table_eq_k => k_is))
    (case z9_d_Table_mul =>
      refine' K74.mk_Table_mul ?y9_d_Table_mul_a ?y9_d_Table_mul_i ?y9_d_Table_mul_l ?y9_d_Table_mul_e ?y9_d_Table_mul_k
      (case y9_d_Table_mul_a => k_is)
      (case y9_d_Table_mul_i => k_is)
      (case y9_d_Table_mul_l => k_is)
      (case y9_d_Table_mul_e => k_is)
      (case y9_d_Table_mul_k => k_is))
    (case z9_d_rest_table =>
      refine' K74.mk_rest_table KX G ?y9_d_rest_table_a ?y9_d_rest_table_l ?y9_d_rest_table_e ?y9_d_rest_table_k
      (case y9_d_rest_table_a => k_is)
      (case y9_d_rest_table_l => k_is)
      (case y9_d_rest_table_e => k_is)
      (case y9_d_rest_table_k => k_is))
    (case z9_d_table_of =>
      refine' K74.mk_table_of KX G ?y9_d_table_of_a ?y9_d_table_of_l ?y9_d_table_of_e ?y9_d_table_of_k
      (case y9_d_table_of_a => k_is)
      (case y9_d_table_of_l => k_is)
      (case y9_d_table_of_e => k_is)
      (case y9_d_table_of_k => k_is))
    (case z9_d_carried =>
      refine' K74.mk_carried KX G ?y9_d_carried_a ?y9_d_carried_l ?y9_d_carried_e ?y9_d_carried_k
      (case y9_d_carried_a => k_is)
      (case y9_d_carried_l => k_is)
      (case y9_d_carried_e => k_is)
      (case y9_d_carried_k => k_is))
    (case z9_d_like_times =>
      refine' K74.mk_like_times KX G ?y9_d_like_times_a ?y9_d_like_times_l ?y9_d_like_times_e ?y9_d_like_times_k
      (case y9_d_like_times_a => k_is)
      (case y9_d_like_times_l => k_is)
      (case y9_d_like_times_e => k_is)
      (case y9_d_like_times_k => k_is))
    (case z9_d_returns_after =>
      refine' K74.mk_returns_after KX G ?y9_d_returns_after_a ?y9_d_returns_after_l ?y9_d_returns_after_e ?y9_d_returns_after_k
      (case y9_d_returns_after_a => k_is)
      (case y9_d_returns_after_l => k_is)
      (case y9_d_returns_after_e => k_is)
      (case y9_d_returns_after_k => k_is))
    (case z9_d_all_tables =>
      refine' K74.mk_all_tables KX G ?y9_d_all_tables_a ?y9_d_all_tables_l ?y9_d_all_tables_e ?y9_d_all_tables_k
      (case y9_d_all_tables_a => k_is)
      (case y9_d_all_tables_l => k_is)
      (case y9_d_all_tables_e => k_is)
      (case y9_d_all_tables_k => k_is))
    (case z9_d_closings_of =>
      refine' K74.mk_closings_of KX G ?y9_d_closings_of_a ?y9_d_closings_of_l ?y9_d_closings_of_e ?y9_d_closings_of_k
      (case y9_d_closings_of_a => k_is)
      (case y9_d_closings_of_l => k_is)
      (case y9_d_closings_of_e => k_is)
      (case y9_d_closings_of_k => k_is))
    (case z9_d_closing_gain =>
      refine' K74.mk_closing_gain KX G ?y9_d_closing_gain_a ?y9_d_closing_gain_l ?y9_d_closing_gain_e ?y9_d_closing_gain_k
      (case y9_d_closing_gain_a => k_is)
      (case y9_d_closing_gain_l => k_is)
      (case y9_d_closing_gain_e => k_is)
      (case y9_d_closing_gain_k => k_is))
    (case z9_d_orders_of =>
      refine' K74.mk_orders_of KX G ?y9_d_orders_of_a ?y9_d_orders_of_l ?y9_d_orders_of_e ?y9_d_orders_of_k
      (case y9_d_orders_of_a => k_is)
      (case y9_d_orders_of_l => k_is)
      (case y9_d_orders_of_e => k_is)
      (case y9_d_orders_of_k => k_is))
    (case z9_d_is_closed =>
      refine' K74.mk_is_closed KX G ?y9_d_is_closed_a ?y9_d_is_closed_l ?y9_d_is_closed_e ?y9_d_is_closed_k
      (case y9_d_is_closed_a => k_is)
      (case y9_d_is_closed_l => k_is)
      (case y9_d_is_closed_e => k_is)
      (case y9_d_is_closed_k => k_is))
    (case z9_d_lowest_row =>
      refine' K74.mk_lowest_row KX G ?y9_d_lowest_row_a ?y9_d_lowest_row_l ?y9_d_lowest_row_e ?y9_d_lowest_row_k
      (case y9_d_lowest_row_a => k_is)
      (case y9_d_lowest_row_l => k_is)
      (case y9_d_lowest_row_e => k_is)
      (case y9_d_lowest_row_k => k_is))
    (case z9_d_root_behind =>
      refine' K74.mk_root_behind KX G ?y9_d_root_behind_a ?y9_d_root_behind_l ?y9_d_root_behind_e ?y9_d_root_behind_k
      (case y9_d_root_behind_a => k_is)
      (case y9_d_root_behind_l => k_is)
      (case y9_d_root_behind_e => k_is)
      (case y9_d_root_behind_k => k_is))
    (case z9_d_check_closed =>
      refine' K74.mk_check_closed KX G ?y9_d_check_closed_a ?y9_d_check_closed_l ?y9_d_check_closed_e ?y9_d_check_closed_k
      (case y9_d_check_closed_a => k_is)
      (case y9_d_check_closed_l => k_is)
      (case y9_d_check_closed_e => k_is)
      (case y9_d_check_closed_k => k_is))
    (case z9_d_roots_of =>
      refine' K74.mk_roots_of KX G ?y9_d_roots_of_a ?y9_d_roots_of_l ?y9_d_roots_of_e ?y9_d_roots_of_k
      (case y9_d_roots_of_a => k_is)
      (case y9_d_roots_of_l => k_is)
      (case y9_d_roots_of_e => k_is)
      (case y9_d_roots_of_k => k_is))
    (case z9_d_root_value =>
      refine' K74.mk_root_value KX G ?y9_d_root_value_a ?y9_d_root_value_l ?y9_d_root_value_e ?y9_d_root_value_k
      (case y9_d_root_value_a => k_is)
      (case y9_d_root_value_l => k_is)
      (case y9_d_root_value_e => k_is)
      (case y9_d_root_value_k => k_is))
    (case z9_d_clashing_roots =>
      refine' K74.mk_clashing_roots KX G ?y9_d_clashing_roots_a ?y9_d_clashing_roots_l ?y9_d_clashing_roots_e ?y9_d_clashing_roots_k
      (case y9_d_clashing_roots_a => k_is)
      (case y9_d_clashing_roots_l => k_is)
      (case y9_d_clashing_roots_e => k_is)
      (case y9_d_clashing_roots_k => k_is))
    (case z9_d_closed_count =>
      refine' K74.mk_closed_count KX G ?y9_d_closed_count_a ?y9_d_closed_count_l ?y9_d_closed_count_e ?y9_d_closed_count_k
      (case y9_d_closed_count_a => k_is)
      (case y9_d_closed_count_l => k_is)
      (case y9_d_closed_count_e => k_is)
      (case y9_d_closed_count_k => k_is))
    (case z9_d_closed_end =>
      refine' K74.mk_closed_end KX G ?y9_d_closed_end_a ?y9_d_closed_end_l ?y9_d_closed_end_e ?y9_d_closed_end_k
      (case y9_d_closed_end_a => k_is)
      (case y9_d_closed_end_l => k_is)
      (case y9_d_closed_end_e => k_is)
      (case y9_d_closed_end_k => k_is))
    (case z9_d_law_mix =>
      refine' K74.mk_law_mix KX G ?y9_d_law_mix_a ?y9_d_law_mix_l ?y9_d_law_mix_e ?y9_d_law_mix_k
      (case y9_d_law_mix_a => k_is)
      (case y9_d_law_mix_l => k_is)
      (case y9_d_law_mix_e => k_is)
      (case y9_d_law_mix_k => k_is))
    (case z9_d_law_draw =>
      refine' K74.mk_law_draw KX G ?y9_d_law_draw_a ?y9_d_law_draw_l ?y9_d_law_draw_e ?y9_d_law_draw_k
      (case y9_d_law_draw_a => k_is)
      (case y9_d_law_draw_l => k_is)
      (case y9_d_law_draw_e => k_is)
      (case y9_d_law_draw_k => k_is))
    (case z9_d_law_hand =>
      refine' K74.mk_law_hand KX G ?y9_d_law_hand_a ?y9_d_law_hand_l ?y9_d_law_hand_e ?y9_d_law_hand_k
      (case y9_d_law_hand_a => k_is)
      (case y9_d_law_hand_l => k_is)
      (case y9_d_law_hand_e => k_is)
      (case y9_d_law_hand_k => k_is))
    (case z9_d_law_low =>
      refine' K74.mk_law_low KX G ?y9_d_law_low_a ?y9_d_law_low_l ?y9_d_law_low_e ?y9_d_law_low_k
      (case y9_d_law_low_a => k_is)
      (case y9_d_law_low_l => k_is)
      (case y9_d_law_low_e => k_is)
      (case y9_d_law_low_k => k_is))
    (case z9_d_law_less =>
      refine' K74.mk_law_less KX G ?y9_d_law_less_a ?y9_d_law_less_l ?y9_d_law_less_e ?y9_d_law_less_k
      (case y9_d_law_less_a => k_is)
      (case y9_d_law_less_l => k_is)
      (case y9_d_law_less_e => k_is)
      (case y9_d_law_less_k => k_is))
    (case z9_d_law_speed =>
      refine' K74.mk_law_speed KX G ?y9_d_law_speed_a ?y9_d_law_speed_l ?y9_d_law_speed_e ?y9_d_law_speed_k
      (case y9_d_law_speed_a => k_is)
      (case y9_d_law_speed_l => k_is)
      (case y9_d_law_speed_e => k_is)
      (case y9_d_law_speed_k => k_is))
    (case z9_d_law_falling =>
      refine' K74.mk_law_falling KX G ?y9_d_law_falling_a ?y9_d_law_falling_l ?y9_d_law_falling_e ?y9_d_law_falling_k
      (case y9_d_law_falling_a => k_is)
      (case y9_d_law_falling_l => k_is)
      (case y9_d_law_falling_e => k_is)
      (case y9_d_law_falling_k => k_is))
    (case z9_d_law_balls =>
      refine' K74.mk_law_balls KX G ?y9_d_law_balls_a ?y9_d_law_balls_l ?y9_d_law_balls_e ?y9_d_law_balls_k
      (case y9_d_law_balls_a => k_is)
      (case y9_d_law_balls_l => k_is)
      (case y9_d_law_balls_e => k_is)
      (case y9_d_law_balls_k => k_is))
    (case z9_d_law_any_balls =>
      refine' K74.mk_law_any_balls KX G ?y9_d_law_any_balls_a ?y9_d_law_any_balls_l ?y9_d_law_any_balls_e ?y9_d_law_any_balls_k
      (case y9_d_law_any_balls_a => k_is)
      (case y9_d_law_any_balls_l => k_is)
      (case y9_d_law_any_balls_e => k_is)
      (case y9_d_law_any_balls_k => k_is))
    (case z9_d_law_pick =>
      refine' K74.mk_law_pick KX G ?y9_d_law_pick_a ?y9_d_law_pick_l ?y9_d_law_pick_e ?y9_d_law_pick_k
      (case y9_d_law_pick_a => k_is)
      (case y9_d_law_pick_l => k_is)
      (case y9_d_law_pick_e => k_is)
      (case y9_d_law_pick_k => k_is))
    (case z9_d_law_special =>
      refine' K74.mk_law_special KX G ?y9_d_law_special_a ?y9_d_law_special_l ?y9_d_law_special_e ?y9_d_law_special_k
      (case y9_d_law_special_a => k_is)
      (case y9_d_law_special_l => k_is)
      (case y9_d_law_special_e => k_is)
      (case y9_d_law_special_k => k_is))
    (case z9_d_law_case =>
      refine' K74.mk_law_case KX G ?y9_d_law_case_a ?y9_d_law_case_l ?y9_d_law_case_e ?y9_d_law_case_k
      (case y9_d_law_case_a => k_is)
      (case y9_d_law_case_l => k_is)
      (case y9_d_law_case_e => k_is)
      (case y9_d_law_case_k => k_is))
    (case z9_d_law_by_hand =>
      refine' K74.mk_law_by_hand KX G ?y9_d_law_by_hand_a ?y9_d_law_by_hand_l ?y9_d_law_by_hand_e ?y9_d_law_by_hand_k
      (case y9_d_law_by_hand_a => k_is)
      (case y9_d_law_by_hand_l => k_is)
      (case y9_d_law_by_hand_e => k_is)
      (case y9_d_law_by_hand_k => k_is))
    (case z9_d_law_not_closed =>
      refine' K74.mk_law_not_closed KX G ?y9_d_law_not_closed_a ?y9_d_law_not_closed_l ?y9_d_law_not_closed_e ?y9_d_law_not_closed_k
      (case y9_d_law_not_closed_a => k_is)
      (case y9_d_law_not_closed_l => k_is)
      (case y9_d_law_not_closed_e => k_is)
      (case y9_d_law_not_closed_k => k_is))
    (case z9_d_law_closed_right =>
      refine' K74.mk_law_closed_right KX G ?y9_d_law_closed_right_a ?y9_d_law_closed_right_l ?y9_d_law_closed_right_e ?y9_d_law_closed_right_k
      (case y9_d_law_closed_right_a => k_is)
      (case y9_d_law_closed_right_l => k_is)
      (case y9_d_law_closed_right_e => k_is)
      (case y9_d_law_closed_right_k => k_is))

import PyProof.Rows.All
import Wide.All
import OpenK.AllK
import Wide.FinOn
import HandS.ForMost
import HandS.WideBits
import HandS.Defaults
import HandS.IsInst
import HandS.Style
import HandS.FStr
import HandS.OwnEq
import HandS.Property
import HandS.TupAny
import HandS.Flow
import KE.KCallOwn
import PyProof.ReprRoads
import PyProof.InstNe
import PySem.Challenge.RW_pressworlds_k64_whole_moves_alike_commut
set_option Elab.async false
set_option linter.all false
set_option maxRecDepth 100000
set_option maxHeartbeats 4000000
/-! The text by places. -/
namespace Mv
open PySem PySem.Spec PyProof.Rows L2
def topS (i : Nat) : Stmt := PySem.Challenge.pw_pressworlds_k64_whole_moves_alike_commut.main.body.getD i (.Pass ⟨0, 0, 0, 0⟩)
abbrev sIsInt : Stmt := topS 7
abbrev sShared : Stmt := topS 9
abbrev sComb : Stmt := topS 10
abbrev sWhole : Stmt := topS 12
abbrev sInit : Stmt := inClass (topS 13) 0
abbrev sEast : Stmt := inClass (topS 13) 2
abbrev sNorth : Stmt := inClass (topS 13) 3
abbrev sArea : Stmt := inClass (topS 13) 4
abbrev sStr : Stmt := inClass (topS 13) 5
abbrev sEq : Stmt := inClass (topS 13) 6
abbrev sCMove : Stmt := topS 15
abbrev sCMoves : Stmt := topS 16
abbrev sTriple : Stmt := topS 17
abbrev sGap : Stmt := topS 18
abbrev sMade : Stmt := topS 19
abbrev sLink : Stmt := topS 20
abbrev sRoot : Stmt := topS 21
abbrev sIsAl : Stmt := topS 22
abbrev sAl : Stmt := topS 23
abbrev sCom : Stmt := topS 24
abbrev sMRoot : Stmt := topS 25
abbrev sReel : Stmt := topS 27
abbrev sWind : Stmt := topS 28
abbrev sOneOf : Stmt := topS 29
abbrev sTrip : Stmt := topS 30
abbrev sPut : Stmt := topS 31
abbrev sOff : Stmt := topS 32
abbrev sPower : Stmt := topS 33
abbrev sMove : Stmt := topS 34
abbrev sThree : Stmt := topS 35
abbrev sBtw : Stmt := topS 36
abbrev sAreAl : Stmt := topS 37
abbrev sAlR : Stmt := topS 38
abbrev sHasR : Stmt := topS 39
abbrev sRootsR : Stmt := topS 40
abbrev sRight : Stmt := topS 41
abbrev sLaw : Stmt := topS 42
abbrev nIsInt : List Str := ["value"]
theorem scIsInt : FnScope nIsInt ["value"] (defScope sIsInt) := ⟨rfl, rfl, rfl, by decide +kernel, rfl, by decide +kernel, by decide +kernel⟩
abbrev nShared : List Str := ["number", "step"]
theorem scShared : FnScope nShared ["number", "step"] (defScope sShared) := ⟨rfl, rfl, rfl, by decide +kernel, rfl, by decide +kernel, by decide +kernel⟩
abbrev nComb : List Str := ["one", "other", "left", "right", "by"]
theorem scComb : FnScope nComb ["one", "other"] (defScope sComb) := ⟨rfl, rfl, rfl, by decide +kernel, rfl, by decide +kernel, by decide +kernel⟩
abbrev nWhole : List Str := ["value"]
theorem scWhole : FnScope nWhole ["value"] (defScope sWhole) := ⟨rfl, rfl, rfl, by decide +kernel, rfl, by decide +kernel, by decide +kernel⟩
abbrev nInit : List Str := ["self", "east", "north", "area"]
theorem scInit : FnScope nInit ["self", "east", "north", "area"] (defScope sInit) := ⟨rfl, rfl, rfl, by decide +kernel, rfl, by decide +kernel, by decide +kernel⟩
abbrev nEast : List Str := ["self"]
theorem scEast : FnScope nEast ["self"] (defScope sEast) := ⟨rfl, rfl, rfl, by decide +kernel, rfl, by decide +kernel, by decide +kernel⟩
abbrev nNorth : List Str := ["self"]
theorem scNorth : FnScope nNorth ["self"] (defScope sNorth) := ⟨rfl, rfl, rfl, by decide +kernel, rfl, by decide +kernel, by decide +kernel⟩
abbrev nArea : List Str := ["self"]
theorem scArea : FnScope nArea ["self"] (defScope sArea) := ⟨rfl, rfl, rfl, by decide +kernel, rfl, by decide +kernel, by decide +kernel⟩
abbrev nStr : List Str := ["self"]
theorem scStr : FnScope nStr ["self"] (defScope sStr) := ⟨rfl, rfl, rfl, by decide +kernel, rfl, by decide +kernel, by decide +kernel⟩
abbrev nEq : List Str := ["self", "other"]
theorem scEq : FnScope nEq ["self", "other"] (defScope sEq) := ⟨rfl, rfl, rfl, by decide +kernel, rfl, by decide +kernel, by decide +kernel⟩
abbrev nCMove : List Str := ["value"]
theorem scCMove : FnScope nCMove ["value"] (defScope sCMove) := ⟨rfl, rfl, rfl, by decide +kernel, rfl, by decide +kernel, by decide +kernel⟩
abbrev nCMoves : List Str := ["one", "other"]
theorem scCMoves : FnScope nCMoves ["one", "other"] (defScope sCMoves) := ⟨rfl, rfl, rfl, by decide +kernel, rfl, by decide +kernel, by decide +kernel⟩
abbrev nTriple : List Str := ["one"]
theorem scTriple : FnScope nTriple ["one"] (defScope sTriple) := ⟨rfl, rfl, rfl, by decide +kernel, rfl, by decide +kernel, by decide +kernel⟩
abbrev nGap : List Str := ["one", "other"]
theorem scGap : FnScope nGap ["one", "other"] (defScope sGap) := ⟨rfl, rfl, rfl, by decide +kernel, rfl, by decide +kernel, by decide +kernel⟩
abbrev nMade : List Str := ["numbers"]
theorem scMade : FnScope nMade ["numbers"] (defScope sMade) := ⟨rfl, rfl, rfl, by decide +kernel, rfl, by decide +kernel, by decide +kernel⟩
abbrev nLink : List Str := ["one", "other", "x", "y", "gap", "by", "left", "right", "many"]
theorem scLink : FnScope nLink ["one", "other"] (defScope sLink) := ⟨rfl, rfl, rfl, by decide +kernel, rfl, by decide +kernel, by decide +kernel⟩
abbrev nRoot : List Str := ["one", "degree", "x", "y", "left"]
theorem scRoot : FnScope nRoot ["one", "degree"] (defScope sRoot) := ⟨rfl, rfl, rfl, by decide +kernel, rfl, by decide +kernel, by decide +kernel⟩
abbrev nIsAl : List Str := ["one", "other"]
theorem scIsAl : FnScope nIsAl ["one", "other"] (defScope sIsAl) := ⟨rfl, rfl, rfl, by decide +kernel, rfl, by decide +kernel, by decide +kernel⟩
abbrev nAl : List Str := ["one", "other", "found"]
theorem scAl : FnScope nAl ["one", "other"] (defScope sAl) := ⟨rfl, rfl, rfl, by decide +kernel, rfl, by decide +kernel, by decide +kernel⟩
abbrev nCom : List Str := ["one", "other"]
theorem scCom : FnScope nCom ["one", "other"] (defScope sCom) := ⟨rfl, rfl, rfl, by decide +kernel, rfl, by decide +kernel, by decide +kernel⟩
abbrev nMRoot : List Str := ["one", "degree", "found"]
theorem scMRoot : FnScope nMRoot ["one", "degree"] (defScope sMRoot) := ⟨rfl, rfl, rfl, by decide +kernel, rfl, by decide +kernel, by decide +kernel⟩
abbrev nReel : List Str := ["_law_script", "_law_turn", "_law_own", "_law_mixed", "_law_entry"]
theorem scReel : FnScope nReel ["_law_script", "_law_turn"] (defScope sReel) := ⟨rfl, rfl, rfl, by decide +kernel, rfl, by decide +kernel, by decide +kernel⟩
abbrev nWind : List Str := ["_law_reel_here", "_law_many", "_law_figure"]
theorem scWind : FnScope nWind ["_law_reel_here", "_law_many"] (defScope sWind) := ⟨rfl, rfl, rfl, by decide +kernel, rfl, by decide +kernel, by decide +kernel⟩
abbrev nOneOf : List Str := ["_law_reel_here", "_law_menu"]
theorem scOneOf : FnScope nOneOf ["_law_reel_here", "_law_menu"] (defScope sOneOf) := ⟨rfl, rfl, rfl, by decide +kernel, rfl, by decide +kernel, by decide +kernel⟩
abbrev nTrip : List Str := ["_law_reel_here", "_law_size", "_law_spot"]
theorem scTrip : FnScope nTrip ["_law_reel_here", "_law_size"] (defScope sTrip) := ⟨rfl, rfl, rfl, by decide +kernel, rfl, by decide +kernel, by decide +kernel⟩
abbrev nPut : List Str := ["_law_left", "_law_right_here"]
theorem scPut : FnScope nPut ["_law_left", "_law_right_here"] (defScope sPut) := ⟨rfl, rfl, rfl, by decide +kernel, rfl, by decide +kernel, by decide +kernel⟩
abbrev nOff : List Str := ["_law_trip_here"]
theorem scOff : FnScope nOff ["_law_trip_here"] (defScope sOff) := ⟨rfl, rfl, rfl, by decide +kernel, rfl, by decide +kernel, by decide +kernel⟩
abbrev nPower : List Str := ["_law_trip_here", "_law_count", "_law_here", "_law_found", "_law_left", "_law_turn", "_law_figure"]
theorem scPower : FnScope nPower ["_law_trip_here", "_law_count"] (defScope sPower) := ⟨rfl, rfl, rfl, by decide +kernel, rfl, by decide +kernel, by decide +kernel⟩
abbrev nMove : List Str := ["_law_trip_here"]
theorem scMove : FnScope nMove ["_law_trip_here"] (defScope sMove) := ⟨rfl, rfl, rfl, by decide +kernel, rfl, by decide +kernel, by decide +kernel⟩
abbrev nThree : List Str := ["_law_made"]
theorem scThree : FnScope nThree ["_law_made"] (defScope sThree) := ⟨rfl, rfl, rfl, by decide +kernel, rfl, by decide +kernel, by decide +kernel⟩
abbrev nBtw : List Str := ["_law_by", "_law_trip_here"]
theorem scBtw : FnScope nBtw ["_law_by", "_law_trip_here"] (defScope sBtw) := ⟨rfl, rfl, rfl, by decide +kernel, rfl, by decide +kernel, by decide +kernel⟩
abbrev nAreAl : List Str := ["_law_first", "_law_last", "_law_x", "_law_y"]
theorem scAreAl : FnScope nAreAl ["_law_first", "_law_last"] (defScope sAreAl) := ⟨rfl, rfl, rfl, by decide +kernel, rfl, by decide +kernel, by decide +kernel⟩
abbrev nAlR : List Str := ["_law_first", "_law_last", "_law_due", "_law_made", "_law_mate", "_law_ways", "_law_shown", "_law_begin", "_law_goal", "_law_told"]
theorem scAlR : FnScope nAlR ["_law_first", "_law_last", "_law_due"] (defScope sAlR) := ⟨rfl, rfl, rfl, by decide +kernel, rfl, by decide +kernel, by decide +kernel⟩
abbrev nHasR : List Str := ["_law_trip_here", "_law_level", "_law_x", "_law_y", "_law_s"]
theorem scHasR : FnScope nHasR ["_law_trip_here", "_law_level"] (defScope sHasR) := ⟨rfl, rfl, rfl, by decide +kernel, rfl, by decide +kernel, by decide +kernel⟩
abbrev nRootsR : List Str := ["_law_reel_here", "_law_level", "_law_trip_here", "_law_told", "_law_due", "_law_part", "_law_many", "_law_whole", "_law_each", "_law_number"]
theorem scRootsR : FnScope nRootsR ["_law_reel_here"] (defScope sRootsR) := ⟨rfl, rfl, rfl, by decide +kernel, rfl, by decide +kernel, by decide +kernel⟩
abbrev nRight : List Str := ["_law_reel_here", "_law_turn", "_law_first", "_law_by", "_law_some", "_law_last", "_law_great", "_law_side", "_law_number"]
theorem scRight : FnScope nRight ["_law_reel_here"] (defScope sRight) := ⟨rfl, rfl, rfl, by decide +kernel, rfl, by decide +kernel, by decide +kernel⟩
abbrev nLaw : List Str := ["_law_script", "_law_turn"]
theorem scLaw : FnScope nLaw ["_law_script"] (defScope sLaw) := ⟨rfl, rfl, rfl, by decide +kernel, rfl, by decide +kernel, by decide +kernel⟩
end Mv
/-! The mathematics of moves: no program in sight. -/
namespace Mv
/-- the three numbers of a move -/
structure T3 where
  x : Int
  y : Int
  s : Int
  deriving DecidableEq
def put (l r : T3) : T3 := ⟨l.x + r.x, l.y + r.y, l.s + r.s + l.x * r.y⟩
def off (t : T3) : T3 := ⟨0 - t.x, 0 - t.y, t.x * t.y - t.s⟩
def btw (c t : T3) : T3 := put (put c t) (off c)
theorem btw_eq (c t : T3) : btw c t = ⟨t.x, t.y, t.s + c.x * t.y - t.x * c.y⟩ := by
  simp only [btw, put, off, T3.mk.injEq]
  refine ⟨by omega, by omega, ?_⟩
  grind
/-! ### sizes -/
def Sz (n : Nat) (i : Int) : Prop := i.natAbs < 2 ^ n
theorem Sz.mono {m n : Nat} {i : Int} (h : Sz m i) (k : m ≤ n) : Sz n i := Nat.lt_of_lt_of_le h (Nat.pow_le_pow_right (by decide) k)
theorem Sz.add {m n : Nat} {i j : Int} (h : Sz m i) (k : Sz n j) : Sz (max m n + 1) (i + j) := by
  have a := Sz.mono h (Nat.le_max_left m n)
  have b := Sz.mono k (Nat.le_max_right m n)
  unfold Sz at *
  rw [Nat.pow_succ]
  have := Int.natAbs_add_le i j
  omega
theorem Sz.sub {m n : Nat} {i j : Int} (h : Sz m i) (k : Sz n j) : Sz (max m n + 1) (i - j) := by
  have a := Sz.mono h (Nat.le_max_left m n)
  have b := Sz.mono k (Nat.le_max_right m n)
  unfold Sz at *
  rw [Nat.pow_succ]
  have := Int.natAbs_sub_le i j
  omega
theorem Sz.mul {m n : Nat} {i j : Int} (h : Sz m i) (k : Sz n j) : Sz (m + n) (i * j) := by
  unfold Sz at *
  rw [Int.natAbs_mul, Nat.pow_add]
  exact Nat.mul_lt_mul'' h k
theorem Sz.of_le {n : Nat} {i : Int} {b : Int} (h1 : -b ≤ i) (h2 : i ≤ b) (h : b.natAbs < 2 ^ n) : Sz n i := by
  unfold Sz
  omega
theorem Sz.div {n : Nat} {i j : Int} (h : Sz n i) (k : 0 < j) : Sz n (i / j) := by
  unfold Sz at *
  have := Int.natAbs_ediv_le_natAbs i j
  omega
/-- the size of a move -/
structure Sz3 (n : Nat) (t : T3) : Prop where
  x : Sz n t.x
  y : Sz n t.y
  s : Sz n t.s
theorem Sz3.mono {m n : Nat} {t : T3} (h : Sz3 m t) (k : m ≤ n) : Sz3 n t := ⟨h.x.mono k, h.y.mono k, h.s.mono k⟩
theorem Sz3.put {m n : Nat} {l r : T3} (h : Sz3 m l) (k : Sz3 n r) : Sz3 (m + n + 2) (put l r) :=
  ⟨(h.x.add k.x).mono (by omega), (h.y.add k.y).mono (by omega), ((h.s.add k.s).add (h.x.mul k.y)).mono (by omega)⟩
theorem Sz3.off {m : Nat} {t : T3} (h : Sz3 m t) : Sz3 (m + m + 1) (off t) :=
  ⟨((show Sz 0 0 by unfold Sz; decide).sub h.x).mono (by omega), ((show Sz 0 0 by unfold Sz; decide).sub h.y).mono (by omega), ((h.x.mul h.y).sub h.s).mono (by omega)⟩
/-! ### a move done often -/
def tri (n : Int) : Int := n * (n - 1) / 2
theorem tri_two (n : Int) : n * (n - 1) = 2 * tri n := by
  unfold tri
  have h : n % 2 = 0 ∨ n % 2 = 1 := by omega
  have e : (n * (n - 1)) % 2 = 0 := by
    rw [Int.mul_emod, Int.sub_emod]
    rcases h with h | h <;> rw [h] <;> rfl
  omega
theorem tri_add (n m : Int) : tri (n + m) = tri n + tri m + n * m := by
  have h1 := tri_two n
  have h2 := tri_two m
  have h3 := tri_two (n + m)
  have h4 : (n + m) * (n + m - 1) = n * (n - 1) + m * (m - 1) + 2 * (n * m) := by grind
  omega
def pw (t : T3) (n : Int) : T3 := ⟨n * t.x, n * t.y, n * t.s + tri n * t.x * t.y⟩
theorem pw_zero (t : T3) : pw t 0 = ⟨0, 0, 0⟩ := by
  simp [pw, tri]
theorem pw_one (t : T3) : pw t 1 = t := by
  simp [pw, tri]
theorem pw_add (t : T3) (n m : Int) : put (pw t n) (pw t m) = pw t (n + m) := by
  simp only [put, pw, T3.mk.injEq]
  refine ⟨by grind, by grind, ?_⟩
  rw [tri_add]
  grind
theorem Sz.tri {m : Nat} {n : Int} (h : Sz m n) : Sz (m + m + 1) (tri n) := by
  have a : Sz (m + (max m 1 + 1)) (n * (n - 1)) := h.mul (h.sub (show Sz 1 1 by unfold Sz; decide))
  have b := (a.div (show (0 : Int) < 2 by decide))
  unfold Mv.tri
  by_cases hm : m = 0
  · subst hm
    have : n = 0 := by
      unfold Sz at h
      omega
    subst this
    unfold Sz
    decide
  · exact b.mono (by omega)
theorem Sz3.pw {m k : Nat} {t : T3} {n : Int} (h : Sz3 m t) (hn : Sz k n) : Sz3 (k + k + m + m + 3) (pw t n) :=
  ⟨(hn.mul h.x).mono (by omega), (hn.mul h.y).mono (by omega), ((hn.mul h.s).add ((hn.tri.mul h.x).mul h.y)).mono (by omega)⟩
end Mv
/-! The mathematics of moves, further: the greatest common divisor as it is reckoned, likeness, roots. -/
namespace Mv
/-! ### the reckoning of a common divisor -/
/-- one row: a remainder and its two counts -/
abbrev Row3 := T3
/-- e is 1 or -1; the counts have opposite signs; they and the remainders are bounded -/
structure Half (N M : Int) (r0 r1 u v : Int) : Prop where
  ex : ∃ e A B : Int, (e = 1 ∨ e = -1) ∧ 0 ≤ A ∧ 0 ≤ B ∧ A ≤ M ∧ B ≤ M ∧ u = e * A ∧ v = -e * B ∧ A * r1 + B * r0 = N
theorem Half.step {N M r0 r1 u v : Int} (h : Half N M r0 r1 u v) (h0 : 0 ≤ r0) (h1 : 0 < r1) (hN : N ≤ M) : Half N M r1 (r0 - r0 / r1 * r1) v (u - r0 / r1 * v) := by
  obtain ⟨e, A, B, he, hA, hB, hAM, hBM, hu, hv, hs⟩ := h
  have hq : 0 ≤ r0 / r1 := Int.ediv_nonneg h0 (Int.le_of_lt h1)
  have hq2 : r0 / r1 * r1 ≤ r0 := Int.ediv_mul_le r0 (by omega)
  generalize r0 / r1 = q at *
  have hqB : 0 ≤ q * B := Int.mul_nonneg hq hB
  have k : (A + q * B) * r1 ≤ N := by
    have a1 : (A + q * B) * r1 = A * r1 + B * (q * r1) := by grind
    have a2 : B * (q * r1) ≤ B * r0 := Int.mul_le_mul_of_nonneg_left hq2 hB
    omega
  have k2 : A + q * B ≤ (A + q * B) * r1 := by
    have a3 : (A + q * B) * 1 ≤ (A + q * B) * r1 := Int.mul_le_mul_of_nonneg_left (by omega) (by omega)
    omega
  refine ⟨-e, B, A + q * B, by omega, hB, by omega, hBM, by omega, by rw [hv], ?_, by grind⟩
  rw [hu, hv]
  grind
theorem Half.bound {N M r0 r1 u v : Int} (h : Half N M r0 r1 u v) : (-M ≤ u ∧ u ≤ M) ∧ (-M ≤ v ∧ v ≤ M) := by
  obtain ⟨e, A, B, he, hA, hB, hAM, hBM, hu, hv, hs⟩ := h
  rcases he with rfl | rfl
  · refine ⟨⟨by omega, by omega⟩, ⟨by omega, by omega⟩⟩
  · refine ⟨⟨by omega, by omega⟩, ⟨by omega, by omega⟩⟩
/-- what the loop keeps: l the left row, r the right one -/
structure Cm (a b M : Int) (l r : T3) : Prop where
  l0 : 0 ≤ l.x
  r0 : 0 ≤ r.x
  le : l.y * a + l.s * b = l.x
  re : r.y * a + r.s * b = r.x
  g : Int.gcd l.x r.x = Int.gcd a b
  lM : l.x ≤ M
  rM : r.x ≤ M
  hy : Half b M l.x r.x l.y r.y
  hs : Half a M l.x r.x l.s r.s
theorem Cm.start {a b M : Int} (ha : 0 ≤ a) (hb : 0 ≤ b) (h1 : 1 ≤ M) (haM : a ≤ M) (hbM : b ≤ M) : Cm a b M ⟨a, 1, 0⟩ ⟨b, 0, 1⟩ :=
  ⟨ha, hb, by simp, by simp, rfl, haM, hbM, ⟨1, 1, 0, .inl rfl, by omega, by omega, h1, by omega, rfl, rfl, by simp⟩, ⟨-1, 0, 1, .inr rfl, by omega, by omega, by omega, h1, rfl, rfl, by simp⟩⟩
def nextR (l r : T3) : T3 := ⟨l.x - l.x / r.x * r.x, l.y - l.x / r.x * r.y, l.s - l.x / r.x * r.s⟩
theorem nextR_x (l r : T3) : (nextR l r).x = l.x % r.x := by
  have := Int.emod_def l.x r.x
  have e : r.x * (l.x / r.x) = l.x / r.x * r.x := Int.mul_comm _ _
  show l.x - l.x / r.x * r.x = _
  omega
theorem gcd_mod {x y : Int} (hx : 0 ≤ x) (hy : 0 ≤ y) : Int.gcd y (x % y) = Int.gcd x y := by
  obtain ⟨m, rfl⟩ := Int.eq_ofNat_of_zero_le hx
  obtain ⟨n, rfl⟩ := Int.eq_ofNat_of_zero_le hy
  show Nat.gcd n (m % n) = Nat.gcd m n
  rw [Nat.gcd_comm n, ← Nat.gcd_rec, Nat.gcd_comm]
theorem Cm.step {a b M : Int} {l r : T3} (h : Cm a b M l r) (hp : 0 < r.x) (ha : a ≤ M) (hb : b ≤ M) : Cm a b M r (nextR l r) := by
  have e := nextR_x l r
  have m0 := Int.emod_nonneg l.x (show r.x ≠ 0 by omega)
  have m1 := Int.emod_lt_of_pos l.x hp
  refine ⟨h.r0, by rw [e]; exact m0, h.re, ?_, ?_, h.rM, by rw [e]; have := h.rM; omega, h.hy.step h.l0 hp hb, h.hs.step h.l0 hp ha⟩
  · have h1 := h.le
    have h2 := h.re
    show (l.y - l.x / r.x * r.y) * a + (l.s - l.x / r.x * r.s) * b = l.x - l.x / r.x * r.x
    have h3 : (l.y - l.x / r.x * r.y) * a + (l.s - l.x / r.x * r.s) * b = (l.y * a + l.s * b) - l.x / r.x * (r.y * a + r.s * b) := by grind
    rw [h3, h1, h2]
  · rw [e, ← h.g]
    exact gcd_mod h.l0 h.r0
theorem Cm.fall {a b M : Int} {l r : T3} (h : Cm a b M l r) (hp : 0 < r.x) : (nextR l r).x.toNat < r.x.toNat := by
  rw [nextR_x]
  have m0 := Int.emod_nonneg l.x (show r.x ≠ 0 by omega)
  have m1 := Int.emod_lt_of_pos l.x hp
  omega
theorem Cm.last {a b M : Int} {l r : T3} (h : Cm a b M l r) (hp : ¬ 0 < r.x) : l.x = (Int.gcd a b : Int) ∧ l.y * a + l.s * b = (Int.gcd a b : Int) := by
  have h0 : r.x = 0 := by
    have := h.r0
    omega
  have g := h.g
  rw [h0, Int.gcd_zero_right] at g
  have e : l.x = (Int.gcd a b : Int) := by
    have := h.l0
    omega
  exact ⟨e, by rw [h.le]; exact e⟩
end Mv
namespace Mv
def ab (i : Int) : Int := if i < 0 then -i else i
theorem ab_nn (i : Int) : 0 ≤ ab i := by unfold ab; split <;> omega
theorem ab_nat (i : Int) : ab i = (i.natAbs : Int) := by unfold ab; split <;> omega
theorem Sz.ab {n : Nat} {i : Int} (h : Sz n i) : Sz n (ab i) := by
  unfold Sz at *
  rw [ab_nat]
  exact h
/-- a number is shared by a step -/
def shB (n k : Int) : Bool := if k = 0 then decide (n = 0) else decide (n % k = 0)
/-- the common divisor of the steps -/
def gd (x y : Int) : Int := (Int.gcd (ab y) (ab x) : Int)
theorem gd_nn (x y : Int) : 0 ≤ gd x y := Int.natCast_nonneg _
theorem dvd_ab {k i : Int} : k ∣ ab i ↔ k ∣ i := by
  unfold ab
  split
  · exact Int.dvd_neg
  · exact Iff.rfl
theorem gd_x (x y : Int) : gd x y ∣ x := dvd_ab.mp (Int.gcd_dvd_right (ab y) (ab x))
theorem gd_y (x y : Int) : gd x y ∣ y := dvd_ab.mp (Int.gcd_dvd_left (ab y) (ab x))
theorem shB_of_dvd {n k : Int} (h : k ∣ n) : shB n k = true := by
  unfold shB
  split
  · rename_i e
    rw [e] at h
    exact decide_eq_true (Int.zero_dvd.mp h)
  · exact decide_eq_true (Int.emod_eq_zero_of_dvd h)
theorem dvd_of_shB {n k : Int} (h : shB n k = true) : k ∣ n := by
  unfold shB at h
  split at h
  · rename_i e
    rw [e, of_decide_eq_true h]
    exact Int.dvd_refl 0
  · exact Int.dvd_of_emod_eq_zero (of_decide_eq_true h)
/-- whether two moves are alike -/
def alB (t u : T3) : Bool := decide (t.x = u.x) && (decide (t.y = u.y) && shB (u.s - t.s) (gd t.x t.y))
theorem alB_of {t u : T3} (c : T3) (h : btw c t = u) : alB t u = true := by
  subst h
  rw [btw_eq]
  unfold alB
  rw [decide_eq_true rfl, decide_eq_true rfl, Bool.true_and, Bool.true_and]
  refine shB_of_dvd ?_
  have e : (T3.mk t.x t.y (t.s + c.x * t.y - t.x * c.y)).s - t.s = c.x * t.y - t.x * c.y := by
    show t.s + c.x * t.y - t.x * c.y - t.s = _
    omega
  rw [e]
  exact Int.dvd_sub (Int.dvd_mul_of_dvd_right (gd_y _ _)) (Int.dvd_mul_of_dvd_left (gd_x _ _))
/-- what puts the one in the place of the other -/
def lk (t : T3) (gap g l r : Int) : T3 :=
  ⟨if 0 < t.y then (if 0 < g then gap / g else 0) * l else 0 - (if 0 < g then gap / g else 0) * l,
   if 0 < t.x then 0 - (if 0 < g then gap / g else 0) * r else (if 0 < g then gap / g else 0) * r, 0⟩
theorem lk_btw {t u : T3} {l r : Int} (h : alB t u = true) (e : l * ab t.y + r * ab t.x = gd t.x t.y) : btw (lk t (u.s - t.s) (gd t.x t.y) l r) t = u := by
  unfold alB at h
  rw [Bool.and_eq_true, Bool.and_eq_true] at h
  obtain ⟨h1, h2, h3⟩ := h
  have e1 := of_decide_eq_true h1
  have e2 := of_decide_eq_true h2
  have g0 := gd_nn t.x t.y
  have key : (if 0 < gd t.x t.y then (u.s - t.s) / gd t.x t.y else 0) * gd t.x t.y = u.s - t.s := by
    have d := dvd_of_shB h3
    split
    · exact Int.ediv_mul_cancel d
    · rename_i k
      have z : gd t.x t.y = 0 := by omega
      rw [z] at d
      rw [Int.zero_dvd.mp d, Int.zero_mul]
  unfold lk
  generalize (if 0 < gd t.x t.y then (u.s - t.s) / gd t.x t.y else 0) = m at *
  rw [← e] at key
  rw [btw_eq]
  obtain ⟨tx, ty, ts⟩ := t
  obtain ⟨ux, uy, us⟩ := u
  simp only [T3.mk.injEq] at *
  refine ⟨e1, e2, ?_⟩
  unfold ab at key
  by_cases hy : 0 < ty
  · rw [if_neg (show ¬ ty < 0 by omega)] at key
    rw [if_pos hy]
    by_cases hx : 0 < tx
    · rw [if_neg (show ¬ tx < 0 by omega)] at key
      rw [if_pos hx]
      grind
    · rw [if_neg hx]
      by_cases hx2 : tx < 0
      · rw [if_pos hx2] at key
        grind
      · have z : tx = 0 := by omega
        subst z
        rw [if_neg hx2] at key
        grind
  · rw [if_neg hy]
    have key2 : m * (l * -ty + r * (if tx < 0 then -tx else tx)) = us - ts := by
      by_cases hy2 : ty < 0
      · rw [if_pos hy2] at key
        exact key
      · have z : ty = 0 := by omega
        subst z
        rw [if_neg hy2] at key
        simpa using key
    by_cases hx : 0 < tx
    · rw [if_neg (show ¬ tx < 0 by omega)] at key2
      rw [if_pos hx]
      grind
    · rw [if_neg hx]
      by_cases hx2 : tx < 0
      · rw [if_pos hx2] at key2
        grind
      · have z : tx = 0 := by omega
        subst z
        rw [if_neg hx2] at key2
        grind
/-! ### few steps are enough for small moves -/
def seekB (a b d : Int) : Bool := (List.range 17).any fun u => if a = 0 then decide (((u : Int) - 8) * b = d) else
  decide ((((u : Int) - 8) * b - d) % a = 0) && (decide (-20 ≤ (((u : Int) - 8) * b - d) / a) && decide ((((u : Int) - 8) * b - d) / a ≤ 20))
theorem seek_all : ((List.range 9).all fun i => (List.range 9).all fun j => (List.range 17).all fun k => !shB ((k : Int) - 8) (gd ((i : Int) - 4) ((j : Int) - 4)) || seekB ((i : Int) - 4) ((j : Int) - 4) ((k : Int) - 8)) = true := by decide +kernel
theorem seek_of {a b d : Int} (h : seekB a b d = true) : ∃ x y : Int, (-8 ≤ x ∧ x ≤ 8) ∧ (-20 ≤ y ∧ y ≤ 20) ∧ x * b - a * y = d := by
  obtain ⟨u, hu, h⟩ := List.any_eq_true.mp h
  have hu := List.mem_range.mp hu
  by_cases ha : a = 0
  · rw [if_pos ha] at h
    refine ⟨(u : Int) - 8, 0, by omega, by omega, ?_⟩
    rw [Int.mul_zero, Int.sub_zero]
    exact of_decide_eq_true h
  · rw [if_neg ha, Bool.and_eq_true, Bool.and_eq_true] at h
    obtain ⟨h1, h2, h3⟩ := h
    have e := Int.mul_ediv_cancel' (Int.dvd_of_emod_eq_zero (of_decide_eq_true h1))
    exact ⟨(u : Int) - 8, _, by omega, ⟨of_decide_eq_true h2, of_decide_eq_true h3⟩, by rw [e]; omega⟩
theorem idx {i lo : Int} {n : Nat} (h1 : lo ≤ i) (h2 : i < lo + n) : (i - lo).toNat ∈ List.range n ∧ (((i - lo).toNat : Nat) : Int) = i - lo := by
  refine ⟨List.mem_range.mpr (by omega), by omega⟩
theorem few {t u : T3} (hx : -4 ≤ t.x ∧ t.x ≤ 4) (hy : -4 ≤ t.y ∧ t.y ≤ 4) (hd : -8 ≤ u.s - t.s ∧ u.s - t.s ≤ 8) (h : alB t u = true) :
    ∃ x y : Int, (-8 ≤ x ∧ x ≤ 8) ∧ (-20 ≤ y ∧ y ≤ 20) ∧ btw ⟨x, y, 0⟩ t = u := by
  unfold alB at h
  rw [Bool.and_eq_true, Bool.and_eq_true] at h
  obtain ⟨h1, h2, h3⟩ := h
  have e1 := of_decide_eq_true h1
  have e2 := of_decide_eq_true h2
  obtain ⟨m1, q1⟩ := idx (i := t.x) (lo := -4) (n := 9) hx.1 (by omega)
  obtain ⟨m2, q2⟩ := idx (i := t.y) (lo := -4) (n := 9) hy.1 (by omega)
  obtain ⟨m3, q3⟩ := idx (i := u.s - t.s) (lo := -8) (n := 17) hd.1 (by omega)
  have k := List.all_eq_true.mp (List.all_eq_true.mp (List.all_eq_true.mp seek_all _ m1) _ m2) _ m3
  rw [q1, q2, q3] at k
  have a1 : t.x - -4 - 4 = t.x := by omega
  have a2 : t.y - -4 - 4 = t.y := by omega
  have a3 : u.s - t.s - -8 - 8 = u.s - t.s := by omega
  rw [a1, a2, a3, h3] at k
  obtain ⟨x, y, b1, b2, e⟩ := seek_of (by simpa using k)
  refine ⟨x, y, b1, b2, ?_⟩
  rw [btw_eq]
  obtain ⟨ux, uy, us⟩ := u
  simp only [T3.mk.injEq] at *
  exact ⟨e1, e2, by omega⟩
/-! ### roots -/
def rtL (t : T3) (d : Int) : Int := t.s - tri d * (t.x / d) * (t.y / d)
def rtB (t : T3) (d : Int) : Bool := decide (t.x % d = 0) && (decide (t.y % d = 0) && decide (rtL t d % d = 0))
def rt (t : T3) (d : Int) : T3 := ⟨t.x / d, t.y / d, rtL t d / d⟩
theorem rt_pw {t : T3} {d : Int} (h : rtB t d = true) : pw (rt t d) d = t := by
  unfold rtB at h
  rw [Bool.and_eq_true, Bool.and_eq_true] at h
  obtain ⟨h1, h2, h3⟩ := h
  have e1 := Int.mul_ediv_cancel' (Int.dvd_of_emod_eq_zero (of_decide_eq_true h1))
  have e2 := Int.mul_ediv_cancel' (Int.dvd_of_emod_eq_zero (of_decide_eq_true h2))
  have e3 := Int.mul_ediv_cancel' (Int.dvd_of_emod_eq_zero (of_decide_eq_true h3))
  unfold pw rt
  obtain ⟨tx, ty, ts⟩ := t
  simp only [T3.mk.injEq] at *
  refine ⟨e1, e2, ?_⟩
  rw [e3]
  unfold rtL
  dsimp only
  omega
theorem rt_of {r : T3} {d : Int} (hd : 0 < d) : rtB (pw r d) d = true ∧ rt (pw r d) d = r := by
  have e1 : d * r.x / d = r.x := Int.mul_ediv_cancel_left _ (by omega)
  have e2 : d * r.y / d = r.y := Int.mul_ediv_cancel_left _ (by omega)
  have e3 : rtL (pw r d) d = d * r.s := by
    unfold rtL pw
    dsimp only
    rw [e1, e2]
    omega
  refine ⟨?_, ?_⟩
  · unfold rtB
    rw [e3]
    show (decide (d * r.x % d = 0) && (decide (d * r.y % d = 0) && decide (d * r.s % d = 0))) = true
    rw [Int.mul_emod_right, Int.mul_emod_right, Int.mul_emod_right]
    rfl
  · unfold rt
    rw [e3]
    show (⟨d * r.x / d, d * r.y / d, d * r.s / d⟩ : T3) = r
    rw [e1, e2, Int.mul_ediv_cancel_left _ (show d ≠ 0 by omega)]
/-- a root plus one area is none -/
theorem rt_more {r : T3} {d : Int} (hd : 1 < d) : rtB ⟨(pw r d).x, (pw r d).y, (pw r d).s + 1⟩ d = false := by
  have e1 : d * r.x / d = r.x := Int.mul_ediv_cancel_left _ (by omega)
  have e2 : d * r.y / d = r.y := Int.mul_ediv_cancel_left _ (by omega)
  have e3 : rtL ⟨(pw r d).x, (pw r d).y, (pw r d).s + 1⟩ d = 1 + d * r.s := by
    unfold rtL pw
    dsimp only
    rw [e1, e2]
    omega
  unfold rtB
  rw [e3, Int.add_mul_emod_self_left, Int.emod_eq_of_lt (by omega) hd]
  simp
/-- a small move's roots are small -/
theorem rt_small {t : T3} {d : Int} (h1 : 1 ≤ d) (h5 : d ≤ 5) (hx : -(4 * d) ≤ t.x ∧ t.x ≤ 4 * d) (hy : -(4 * d) ≤ t.y ∧ t.y ≤ 4 * d) (hs : -(10 * d) ≤ t.s ∧ t.s ≤ 10 * d) (h : rtB t d = true) :
    (-4 ≤ (rt t d).x ∧ (rt t d).x ≤ 4) ∧ (-4 ≤ (rt t d).y ∧ (rt t d).y ≤ 4) ∧ (-60 ≤ (rt t d).s ∧ (rt t d).s ≤ 60) := by
  have e := rt_pw h
  generalize rt t d = r at *
  obtain ⟨x, y, s⟩ := r
  subst e
  simp only [pw] at hx hy hs ⊢
  have bx : -4 ≤ x ∧ x ≤ 4 := by
    rcases (show d = 1 ∨ d = 2 ∨ d = 3 ∨ d = 4 ∨ d = 5 by omega) with rfl | rfl | rfl | rfl | rfl <;> omega
  have bb : -4 ≤ y ∧ y ≤ 4 := by
    rcases (show d = 1 ∨ d = 2 ∨ d = 3 ∨ d = 4 ∨ d = 5 by omega) with rfl | rfl | rfl | rfl | rfl <;> omega
  refine ⟨bx, bb, ?_⟩
  have bxy : -16 ≤ x * y ∧ x * y ≤ 16 := by
    rcases (show x = -4 ∨ x = -3 ∨ x = -2 ∨ x = -1 ∨ x = 0 ∨ x = 1 ∨ x = 2 ∨ x = 3 ∨ x = 4 by omega) with rfl | rfl | rfl | rfl | rfl | rfl | rfl | rfl | rfl <;> omega
  rw [Int.mul_assoc] at hs
  generalize x * y = z at *
  rcases (show d = 1 ∨ d = 2 ∨ d = 3 ∨ d = 4 ∨ d = 5 by omega) with rfl | rfl | rfl | rfl | rfl
  · have q : tri 1 = 0 := by decide
    rw [q] at hs
    omega
  · have q : tri 2 = 1 := by decide
    rw [q] at hs
    omega
  · have q : tri 3 = 3 := by decide
    rw [q] at hs
    omega
  · have q : tri 4 = 6 := by decide
    rw [q] at hs
    omega
  · have q : tri 5 = 10 := by decide
    rw [q] at hs
    omega
theorem pw_small {r : T3} {d : Int} (h1 : 1 ≤ d) (h5 : d ≤ 5) (hx : -2 ≤ r.x ∧ r.x ≤ 2) (hy : -2 ≤ r.y ∧ r.y ≤ 2) (hs : -2 ≤ r.s ∧ r.s ≤ 2) :
    (-(4 * d) ≤ (pw r d).x ∧ (pw r d).x ≤ 4 * d) ∧ (-(4 * d) ≤ (pw r d).y ∧ (pw r d).y ≤ 4 * d) ∧ (-(10 * d) ≤ (pw r d).s ∧ (pw r d).s ≤ 10 * d) := by
  obtain ⟨x, y, s⟩ := r
  simp only [pw] at *
  have bxy : -4 ≤ x * y ∧ x * y ≤ 4 := by
    rcases (show x = -2 ∨ x = -1 ∨ x = 0 ∨ x = 1 ∨ x = 2 by omega) with rfl | rfl | rfl | rfl | rfl <;> omega
  rw [Int.mul_assoc]
  generalize x * y = z at *
  rcases (show d = 1 ∨ d = 2 ∨ d = 3 ∨ d = 4 ∨ d = 5 by omega) with rfl | rfl | rfl | rfl | rfl
  · have q : tri 1 = 0 := by decide
    rw [q]
    omega
  · have q : tri 2 = 1 := by decide
    rw [q]
    omega
  · have q : tri 3 = 3 := by decide
    rw [q]
    omega
  · have q : tri 4 = 6 := by decide
    rw [q]
    omega
  · have q : tri 5 = 10 := by decide
    rw [q]
    omega
/-- one area more is alike to no great move -/
theorem great_not {a b s k : Int} (hk : 1 < k) : alB ⟨a * k, b * k, s⟩ ⟨a * k, b * k, s + 1⟩ = false := by
  unfold alB
  have e : s + 1 - s = 1 := by omega
  show (decide (a * k = a * k) && (decide (b * k = b * k) && shB (s + 1 - s) (gd (a * k) (b * k)))) = false
  rw [decide_eq_true rfl, decide_eq_true rfl, Bool.true_and, Bool.true_and, e]
  cases q : shB 1 (gd (a * k) (b * k)) with
  | false => rfl
  | true =>
    exfalso
    have d := dvd_of_shB q
    have d2 : k ∣ gd (a * k) (b * k) := Int.dvd_coe_gcd (dvd_ab.mpr (Int.dvd_mul_left b k)) (dvd_ab.mpr (Int.dvd_mul_left a k))
    have d3 := Int.dvd_trans d2 d
    have := Int.le_of_dvd (by decide) d3
    omega
end Mv
/-! Rules of our own over the layer: a def by its name, keywords alone, str and != of an own instance, repr of data. -/
namespace Mv
open PySem PySem.Spec PyProof.Rows L2
/-! ### small words -/
theorem PE_to {X : Cx} {e : Expr} {t u : TE} (h : PE X e t) (k : ∀ σ H Q, u σ H Q → t σ H Q) : PE X e u := ⟨fun pins s σ H Q I q => h.run pins s σ H Q I (k σ H Q q)⟩
theorem same_new {H : Hp} {p : Addr} {o : HO} (h : H p = none) : Same H (upd H p o) := fun b u e => (upd_ne (ne_of_none e h)).trans e
theorem Same.new {H H1 : Hp} {p : Addr} {o : HO} (e : Same H H1) (h : H1 p = none) : Same H (upd H1 p o) := e.trans (same_new h)
theorem same_t {K : PySem.W.Frag} {H H' : Hp} {a : Addr} {xs : List V} (e : Same H H') (h : SqT K H a xs) : SqT K H' a xs := by
  rcases h with (h | ⟨o, h⟩) | h
  · exact .inl (.inl (e _ _ h))
  · exact .inl (.inr ⟨o, e _ _ h⟩)
  · exact .inr h

/-! ### a def of the text, by its name -/
/-- the def named x of the module, made by the statement st -/
structure Def (K : PySem.W.Frag) (mg : Str → Option Value) (x : Str) (st : Stmt) (ps : List Str) : Prop where
  ex : ∃ f fd, Fun K x x st f fd ∧ mg x = some (.ref f) ∧ Binds K fd ps []
/-- it keeps a promise -/
structure Cal (P : Program) (w : World) (K : PySem.W.Frag) (mg : Str → Option Value) (base : Heap) (x : Str) (k : Nat) (ps : List Str) (sp : Sp) : Prop where
  ex : ∃ f fd, FnOk P w K mg base CX0 k f fd ps sp ∧ mg x = some (.ref f) ∧ PySem.W.keepIn K (.ref f) = true ∧ Binds K fd ps []
section
variable {P : Program} {w : World} {K : PySem.W.Frag} {mg : Str → Option Value} {base : Heap} {x : Str} {st : Stmt} {N ps : List Str} {k : Nat} {sp : Sp}
theorem Def.cal (D : Def K mg x st ps) (S : FnScope N ps (defScope st)) (len : ∀ vs H Q E, sp vs H Q E → vs.length = ps.length)
    (hbody : ∀ (f : Addr) (cdv : Value) (A : Around) (outer : List Env) (s : Shared) (H : Hp) (vs : List V) (Q : VK) (E : XK), Room k (A.deeper (envOfC x (defScope st) s.heap.objs.size f cdv)) → sp vs H Q E →
      ∃ t, PSs (cxOf CX0 P w K mg base N x (defScope st) f cdv A outer s H E).nox (defBody st) t ∧ t { nx := fun _ H' => Q .non H', rt := Q } (start N vs) H) : Cal P w K mg base x (k + 1) ps sp := by
  obtain ⟨f, fd, F, g, b⟩ := D.ex
  exact ⟨f, fd, F.ok S len (hbody f), g, F.kp, b⟩
end
section
variable {X : Cx} {x : Str} {k : Nat} {ps : List Str} {sp : Sp} {p pos : Pos} {e : Expr} {es : List Expr} {t : TA}
/-- x(e, ..) -/
theorem pe_fn (C : Cal X.prog X.w X.K X.mg X.base x k ps sp) (hr : Room k X.A) (ha : PA X (e :: es) t) (hg : Gl X x := by rfl) (hdb : (x == ("__debug__" : Str)) = false := by decide)
    (he : starEach (e :: es) X.env = (false, eval e X.env) :: starEach es X.env := by rfl) (hpl : (backTo pos (starEach es X.env)).any (·.1) = false := by rfl) : PE X (.Call (.Name x p) (e :: es) [] pos) (tCall sp [] E0 t) := by
  obtain ⟨f, fd, F, m, kp, b⟩ := C.ex
  exact pe_call F hr hg m kp b .nil pass0 ha hdb he hpl
end

/-! ### keywords alone -/
section
variable {X : Cx} {k : Nat} {f : Addr} {fd : FuncData} {ps ks : List Str} {sp : Sp} {x : Str} {p pos : Pos} {kws : List Keyword} {tk : TA} {g : List Value → List Value → List Value} {gV : List V → List V → List V}
theorem pe_kws (F : FnOk X.prog X.w X.K X.mg X.base CX0 k f fd ps sp) (hr : Room k X.A) (hm : X.mg x = some (.ref f)) (kp : PySem.W.keepIn X.K (.ref f) = true) (hb : KBn X.K fd ps 0 ks g gV) (hkw : PK X kws tk) (hg : Gl X x)
    (h1 : (backToKw pos (keywordEach kws X.env)).all (·.1.isSome) = true) (h2 : (backToKw pos (keywordEach kws X.env)).filterMap (·.1) = ks) (hdb : (x == ("__debug__" : Str)) = false)
    (h3 : ((backTo pos (starEach [] X.env)).any (·.1) || (backToKw pos (keywordEach kws X.env)).any (·.1.isNone)) = false) : PE X (.Call (.Name x p) [] kws pos) (tCallN 0 ks.length sp gV E0 tNil tk) :=
  ⟨fun pins s σ H Q I q => wpAny_Call_Name_kw (ld_glob I hg hm (PySem.W.callWith_KW0 (h₀ := X.base) I.ok.mod.kin kp h1 (thn (hkw.run pos pins s σ H _ I q) fun ws s2 ⟨zs, H2, I2, rz, l1, l2, q2⟩ => ⟨I2.kIn, by
    rw [h2]
    exact run_fnN (us := []) (vs := []) F hr hb pass0 I2 .nil rz rfl l2 q2⟩) h3) hdb)⟩
end
/-- two values, the other way round -/
def flip2 {α : Type} : List α → List α
  | [a, b] => [b, a]
  | l => l
theorem flip_rel : ∀ {zs : List V} {ws : List Value}, Vals zs ws → Vals (flip2 zs) (flip2 ws)
  | _, _, .nil => .nil
  | _, _, .cons r .nil => .cons r .nil
  | _, _, .cons r (.cons q .nil) => .cons q (.cons r .nil)
  | _, _, .cons r (.cons q (.cons r2 s)) => .cons r (.cons q (.cons r2 s))
/-- a def with two parameters, told by their names, the second one first -/
structure KDef (K : PySem.W.Frag) (mg : Str → Option Value) (x : Str) (st : Stmt) (a b : Str) : Prop where
  def_ : Def K mg x st [a, b]
  kb : ∀ f fd, Fun K x x st f fd → KBn K fd [a, b] 0 [b, a] (fun _ ws => flip2 ws) (fun _ zs => flip2 zs)
theorem kb_of {K : PySem.W.Frag} {x : Str} {st : Stmt} {a b : Str} (h : ∀ (kV doc pm : Value) (an : Option Addr) (cdv ct u v : Value), bindArgs (PySem.W.fnOf x x (defArgs st) (defBody st) (defScope st) .none kV doc pm an cdv ct) ⟨[], [(b, u), (a, v)]⟩ = pure [(a, v), (b, u)]) :
    ∀ f fd, Fun K x x st f fd → KBn K fd [a, b] 0 [b, a] (fun _ ws => flip2 ws) (fun _ zs => flip2 zs) := by
  intro f fd F
  obtain ⟨oc, od, kV, doc, pm, an, cdv, ct, osl, rfl, _, _⟩ := F.ex
  refine ⟨fun s us ws _ l1 l2 => ?_, fun _ r => flip_rel r⟩
  match us, l1, ws, l2 with
  | [], _, [u, v], _ => exact .of_eq (h kV doc pm an cdv ct u v)
/-- a def's promise, called either way -/
structure Kal (P : Program) (w : World) (K : PySem.W.Frag) (mg : Str → Option Value) (base : Heap) (x : Str) (k : Nat) (a b : Str) (sp : Sp) : Prop where
  ex : ∃ f fd, FnOk P w K mg base CX0 k f fd [a, b] sp ∧ mg x = some (.ref f) ∧ PySem.W.keepIn K (.ref f) = true ∧ Binds K fd [a, b] [] ∧ KBn K fd [a, b] 0 [b, a] (fun _ ws => flip2 ws) (fun _ zs => flip2 zs)
theorem Kal.cal {P : Program} {w : World} {K : PySem.W.Frag} {mg : Str → Option Value} {base : Heap} {x : Str} {k : Nat} {a b : Str} {sp : Sp} (C : Kal P w K mg base x k a b sp) : Cal P w K mg base x k [a, b] sp :=
  let ⟨f, fd, h1, h2, h3, h4, _⟩ := C.ex
  ⟨f, fd, h1, h2, h3, h4⟩
theorem KDef.kal {P : Program} {w : World} {K : PySem.W.Frag} {mg : Str → Option Value} {base : Heap} {x : Str} {st : Stmt} {a b : Str} {N : List Str} {k : Nat} {sp : Sp} (D : KDef K mg x st a b) (S : FnScope N [a, b] (defScope st)) (len : ∀ vs H Q E, sp vs H Q E → vs.length = 2)
    (hbody : ∀ (f : Addr) (cdv : Value) (A : Around) (outer : List Env) (s : Shared) (H : Hp) (vs : List V) (Q : VK) (E : XK), Room k (A.deeper (envOfC x (defScope st) s.heap.objs.size f cdv)) → sp vs H Q E →
      ∃ t, PSs (cxOf CX0 P w K mg base N x (defScope st) f cdv A outer s H E).nox (defBody st) t ∧ t { nx := fun _ H' => Q .non H', rt := Q } (start N vs) H) : Kal P w K mg base x (k + 1) a b sp := by
  obtain ⟨f, fd, F, g, bb⟩ := D.def_.ex
  exact ⟨f, fd, F.ok S len (hbody f), g, F.kp, bb, D.kb f fd F⟩
section
variable {X : Cx} {k : Nat} {sp : Sp} {x a b : Str} {p pos kp1 kp2 : Pos} {e1 e2 : Expr} {t1 t2 : TE}
/-- x(b = e1, a = e2): e1 is reckoned first -/
def tFlip (sp : Sp) (t1 t2 : TE) : TE := tCallN 0 2 sp (fun _ zs => flip2 zs) E0 tNil (tCons t1 (tCons t2 tNil))
theorem pe_flip (C : Kal X.prog X.w X.K X.mg X.base x k a b sp) (hr : Room k X.A) (h1 : PE X e1 t1) (h2 : PE X e2 t2) (hg : Gl X x := by rfl)
    (q1 : (backToKw pos (keywordEach [⟨some b, e1, kp1⟩, ⟨some a, e2, kp2⟩] X.env)).all (·.1.isSome) = true := by rfl) (q2 : (backToKw pos (keywordEach [⟨some b, e1, kp1⟩, ⟨some a, e2, kp2⟩] X.env)).filterMap (·.1) = [b, a] := by rfl) (hdb : (x == ("__debug__" : Str)) = false := by decide)
    (q3 : ((backTo pos (starEach [] X.env)).any (·.1) || (backToKw pos (keywordEach [⟨some b, e1, kp1⟩, ⟨some a, e2, kp2⟩] X.env)).any (·.1.isNone)) = false := by rfl) :
    PE X (.Call (.Name x p) [] [⟨some b, e1, kp1⟩, ⟨some a, e2, kp2⟩] pos) (tFlip sp t1 t2) := by
  obtain ⟨f, fd, F, m, kp, _, kb⟩ := C.ex
  exact pe_kws F hr m kp kb (pk_cons h1 (pk_cons h2 pk_nil)) hg q1 q2 hdb q3
end

/-! ### an own instance: its text, == and != -/
theorem valsR1 (a : Addr) : Vals [V.ref a] [Value.ref a] := .cons (show RelV (.ref a) (.ref a) from rfl) .nil
theorem valsR2 (a b : Addr) : Vals [V.ref a, V.ref b] [Value.ref a, Value.ref b] := .cons (show RelV (.ref a) (.ref a) from rfl) (valsR1 b)
section
variable {X : Cx} {k : Nat} {C f : Addr} {fd : FuncData} {ps : List Str} {sp : Sp}
/-- a def run from within a built-in, at A -/
theorem run_at {A : Around} {pins : List (Addr × Obj)} {s : Shared} {σ : L2.St} {H : Hp} {us : List Value} {vs : List V} {Q : VK} (F : FnOk X.prog X.w X.K X.mg X.base CX0 k f fd ps sp) (hr : Room k A) (ha : A.frames = X.A.frames) (hb : Binds X.K fd ps [])
    (I : Inv X pins σ H s) (r : Vals vs us) (h : sp vs H Q E0) : wpAny (model X.prog X.w) A (call (.ref f) us) (EP X pins σ Q) X.xe s := by
  have hl : us.length = ps.length := r.length.symm.trans (F.len _ _ _ _ h)
  have e := I.env0
  have e2 : Env0 X.prog X.w X.K X.mg X.base A X.stack s H := ⟨ha.trans e.frames, e.mod, e.bs, e.bsz, e.funs, e.frf, e.hok, e.bare⟩
  have b := hb s us I.kIn (by rw [List.append_nil]; exact hl)
  rw [List.append_nil] at b
  refine wpAny_call (codeAny_mono (F.run A X.stack s H ⟨us, []⟩ us vs Q E0 hr e2 b r h) fun z s' q => ?_)
  match z, q with
  | .ok (.ret u), q => exact I.after q
  | .ok .next, q => exact q.elim
  | .ok .brk, q => exact q.elim
  | .ok .cont, q => exact q.elim
  | .error _, q => exact q.elim
/-- str(o): the own __str__ -/
def rStrO (C : Addr) (sp : Sp) : List V → Hp → VK → Prop := fun xs H Q => ∃ a dx fs, xs = [.ref a] ∧ H a = some (.ins C dx fs) ∧ sp [.ref a] H (fun v H' => ∃ z, v = .str z ∧ Q (.str z) H') E0
theorem call_strO (F : FnOk X.prog X.w X.K X.mg X.base CX0 k f fd ps sp) (hb : Binds X.K fd ps []) (hs : PySem.W.findIn X.K (.ref C) "__str__" = some (some (.ref f))) (hf : PySem.W.isFn X.K (.ref f) = true) (hr : Room (k + 2) X.A) : CallR X (.type "str") (rStrO C sp) := by
  intro pins s σ H xs us Q I r h
  obtain ⟨a, dx, fs, rfl, ha, q⟩ := h
  obtain ⟨u, rfl, rfl⟩ := vals1 r
  obtain ⟨mA, O, _⟩ := ins_get I.hok ha
  obtain ⟨od, J, _⟩ := O.look
  have hr2 : Room k X.A.in1.in1 := Room.in1 (k := k) (Room.in1 (k := k + 1) hr)
  refine PySem.W.kso_call hr2.units0 I.kIn J hs hf (thn (run_at F hr2 rfl hb I (valsR1 a) q) fun v s' z => ?_)
  obtain ⟨y, H', I', rv, w, rfl, qw⟩ := z
  obtain ⟨t, rfl⟩ := rv
  exact ⟨.str w, H', I', ⟨t, rfl⟩, qw⟩
/-- a == b by the own __eq__ -/
def rEqO (C : Addr) (sp : Sp) : R2 := fun x y H Q => ∃ a b dx dy fs gs, x = .ref a ∧ y = .ref b ∧ H a = some (.ins C dx fs) ∧ H b = some (.ins C dy gs) ∧ sp [.ref a, .ref b] H (fun v H' => ∃ k, v = .bl k ∧ Q (.bl k) H') E0
theorem op_eqO (F : FnOk X.prog X.w X.K X.mg X.base CX0 k f fd ps sp) (hb : Binds X.K fd ps []) (hs : PySem.W.findIn X.K (.ref C) "__eq__" = some (some (.ref f))) (hf : PySem.W.isFn X.K (.ref f) = true) (hr : Room k X.A) : OpR X (compareOp .Eq) (rEqO C sp) := by
  intro pins s σ H x y v u Q I rx ry h
  obtain ⟨a, b, dx, dy, fs, gs, rfl, rfl, ha, hb2, q⟩ := h
  cases rx
  cases ry
  obtain ⟨_, O, _⟩ := ins_get I.hok ha
  obtain ⟨_, O2, _⟩ := ins_get I.hok hb2
  obtain ⟨od, J, _⟩ := O.look
  obtain ⟨od2, J2, _⟩ := O2.look
  obtain ⟨m, hF⟩ := I.fr
  show wpAny (model X.prog X.w) X.A (richCompare .Eq (.ref a) (.ref b)) (EP X pins σ Q) X.xe s
  refine PySem.W.cmp_K (op := .Eq) (tb := .ref C) hr.units0 hF I.ok.mod.kin J J2.type (by simp [PySem.W.notFirst]) hs hf (thn (run_at F hr rfl hb I (valsR2 a b) q) fun z s' e => ?_)
  obtain ⟨y, H', I', rv, k, rfl, qw⟩ := e
  cases rv
  exact ⟨.bl k, H', I', rfl, qw⟩
/-- object's != asks == -/
theorem obj_ne {prog : Program} {w : World} {A : Around} {E : Value → Shared → Prop} {s : Shared} {K : PySem.W.Frag} {x y C f : Addr} {ox : Obj} {od : Option Obj} {Q : Fin → Shared → Prop} (hu : A.units < cLine) (Z : K.In s.heap) (J : PySem.W.InstAt s.heap x ox C od)
    (hs : PySem.W.findIn K (.ref C) "__eq__" = some (some (.ref f))) (hf : PySem.W.isFn K (.ref f) = true) (h : wpAny (model prog w) A (call (.ref f) [.ref x, .ref y]) (fun v s' => ∃ b, v = .bool b ∧ Q (.done (.ret (.bool (!b)))) s') E s) :
    wpAny (model prog w) A (Builtin.«object.__ne__» ⟨[.ref x, .ref y], []⟩) Q E s := by
  unfold Builtin.«object.__ne__»
  refine wpAny_bind (m := PySem.slotArgs "__ne__" 1 _) (wpAny_pure ?_)
  refine wpAny_bind (m := cRoomFor _ _) (wpAny_cRoomFor hu ?_)
  refine wpAny_bind (m := callSpecialIfBound? (.ref x) (Str.ofString "__eq__") _) (PySem.W.ifBound_K Z J hs hf (wpAny_mono h (fun r s' q => ?_) fun _ _ z => z))
  obtain ⟨b, rfl, q⟩ := q
  exact wpAny_bind (wpAny_truthy_bool (wpAny_pure q))
/-- .. bound and called as a slot of the class -/
theorem try_ne {prog : Program} {w : World} {A : Around} {E : Value → Shared → Prop} {s : Shared} {K : PySem.W.Frag} {x y C f : Addr} {ox : Obj} {od : Option Obj} {Q : Option Value → Shared → Prop} (hu : A.in1.units < cLine) (Z : K.In s.heap) (J : PySem.W.InstAt s.heap x ox C od)
    (hn : PySem.W.findIn K (.ref C) "__ne__" = some (some (.builtin "object.__ne__"))) (ho : PySem.W.mroIn K C (.type "object") = some true) (hs : PySem.W.findIn K (.ref C) "__eq__" = some (some (.ref f))) (hf : PySem.W.isFn K (.ref f) = true)
    (h : wpAny (model prog w) A.in1 (call (.ref f) [.ref x, .ref y]) (fun v s' => ∃ b, v = .bool b ∧ Q (some (.bool (!b))) s') E s) : wpAny (model prog w) A (tryCompare (.ref x) "__ne__" (.ref y)) Q E s := by
  have key : wpAny (model prog w) A (call (.builtin "object.__ne__") [.ref x, .ref y]) (fun v s' => ∃ b, v = .bool b ∧ Q (some (.bool b)) s') E s := by
    refine wpAny_call (codeAny_call_builtin PySem.F.cmp_object.ne.plain PySem.F.cmpEntry_ne (PySem.W.check_slot PySem.F.cmpKind_ne PySem.F.cmpSplit_ne (J.type.andThen (PySem.W.looks_mroIn Z ho)) (PySem.F.cmpArgs_ne _ _) ?_))
    refine obj_ne hu Z J hs hf (wpAny_mono h (fun v s' q => ?_) fun _ _ z => z)
    obtain ⟨b, rfl, q⟩ := q
    exact ⟨b, rfl, _, rfl, q⟩
  have key2 : wpAny (model prog w) A (call (.builtin "object.__ne__") ([.ref x] ++ [.ref y]) >>= fun v => pure (some v)) (fun r s' => ∃ b, r = some (.bool b) ∧ Q (some (.bool b)) s') E s :=
    wpAny_bind (wpAny_mono key (fun v s' q => let ⟨b, e, q⟩ := q; wpAny_pure ⟨b, by rw [e], q⟩) fun _ _ z => z)
  unfold tryCompare
  refine wpAny_bind (m := callSpecialIfBound? (.ref x) (Str.ofString "__ne__") _) (wpAny_mono (Q := fun r s' => ∃ b, r = some (.bool b) ∧ Q (some (.bool b)) s') ?_ (fun r s' q => ?_) fun _ _ z => z)
  · simp only [callSpecialIfBound?, bindSpecialIfBound?]
    refine wpAny_holding (wpAny_bind (wpAny_bind (wpAny_bind (J.type.here ((PySem.W.looks_findIn Z hn).here ?_)))))
    refine wpAny_bind (wpAny_askSetting (wpAny_ite ?_))
    rw [PySem.F.cmp_object.ne.bind]
    split
    · exact wpAny_bind (wpAny_pure (wpAny_pure key2))
    · exact wpAny_tryCatch (wpAny_bind (wpAny_pure (wpAny_pure key2)))
  · obtain ⟨b, rfl, q⟩ := q
    exact wpAny_pure q
/-- a != b by the own __eq__, no own __ne__ -/
def rNeO (C : Addr) (sp : Sp) : R2 := fun x y H Q => ∃ a b dx dy fs gs, x = .ref a ∧ y = .ref b ∧ H a = some (.ins C dx fs) ∧ H b = some (.ins C dy gs) ∧ sp [.ref a, .ref b] H (fun v H' => ∃ k, v = .bl k ∧ Q (.bl (!k)) H') E0
theorem op_neO (F : FnOk X.prog X.w X.K X.mg X.base CX0 k f fd ps sp) (hb : Binds X.K fd ps []) (hn : PySem.W.findIn X.K (.ref C) "__ne__" = some (some (.builtin "object.__ne__"))) (ho : PySem.W.mroIn X.K C (.type "object") = some true)
    (hs : PySem.W.findIn X.K (.ref C) "__eq__" = some (some (.ref f))) (hf : PySem.W.isFn X.K (.ref f) = true) (hr : Room (k + 1) X.A) : OpR X (compareOp .NotEq) (rNeO C sp) := by
  intro pins s σ H x y v u Q I rx ry h
  obtain ⟨a, b, dx, dy, fs, gs, rfl, rfl, ha, hb2, q⟩ := h
  cases rx
  cases ry
  obtain ⟨_, O, _⟩ := ins_get I.hok ha
  obtain ⟨_, O2, _⟩ := ins_get I.hok hb2
  obtain ⟨od, J, _⟩ := O.look
  obtain ⟨od2, J2, _⟩ := O2.look
  have hr1 : Room k X.A.in1 := hr.in1
  have main : wpAny (model X.prog X.w) X.A (tryCompare (.ref a) "__ne__" (.ref b)) (fun r s' => ∃ v, r = some v ∧ EP X pins σ Q v s') X.xe s := by
    refine try_ne hr1.units0 I.kIn J hn ho hs hf (thn (run_at F hr1 rfl hb I (valsR2 a b) q) fun z s' e => ?_)
    obtain ⟨y, H', I', rv, k, rfl, qw⟩ := e
    cases rv
    exact ⟨k, rfl, _, rfl, .bl (!k), H', I', rfl, qw⟩
  show wpAny (model X.prog X.w) X.A (richCompare .NotEq (.ref a) (.ref b)) (EP X pins σ Q) X.xe s
  unfold richCompare
  simp only [oneThing_ref]
  refine wpAny_holding (wpAny_bind (wpAny_cRoomFor hr.units0 ?_))
  refine wpAny_bind (J.type.here (wpAny_bind (J2.type.here ?_)))
  rw [if_neg (by simp)]
  refine wpAny_bind (wpAny_pure ?_)
  rw [if_neg (by simp)]
  refine wpAny_bind (thn main fun r s' e => ?_)
  obtain ⟨v, rfl, e⟩ := e
  exact wpAny_pure e
end

/-! ### repr of data, where nothing is being shown -/
section
variable {X : Cx}
def rRepr (K : PySem.W.Frag) : List V → Hp → VK → Prop := fun xs H Q => ∃ a d, xs = [.ref a] ∧ Dp K H (.ref a) d ∧ d.showable = true ∧ d.hasDict = false ∧ d.depth ≤ 60 ∧ d.shown.length ≤ sizeLine ∧ Q (.str d.shown) H
theorem call_repr (hg : X.A.guards = some []) (hu : X.A.units + 64 < cLine) : CallR X (.builtin "repr") (rRepr X.K) := by
  intro pins s σ H xs us Q I r h
  obtain ⟨a, d, rfl, hd, hs, hn, hp, hz, q⟩ := h
  obtain ⟨u, rfl, rfl⟩ := vals1 r
  obtain ⟨as, R⟩ := Dp.reads I d _ _ hd rfl
  exact repr_of_reads' R hs (fun z => by rw [hn] at z; cases z) hg (by omega) (fun _ _ e => e) (fun h' u tk hk => ⟨.str d.shown, H, I.kept (t' := tk) hk, ⟨u, rfl⟩, q⟩) hz
end
end Mv
/-! Defs whose promise is asked only where no repr is under way (a list's repr looks at what is being shown), and the law's own call. -/
namespace Mv
open PySem PySem.Spec PyProof.Rows L2
section
variable {P : Program} {w : World} {K : PySem.W.Frag} {mg : Str → Option Value} {base : Heap} {x : Str} {st : Stmt} {N ps : List Str} {k : Nat} {sp : Sp} {f : Addr} {fd : FuncData}
/-- one call of a def at one place, by its body there -/
theorem one_call {A : Around} {outer : List Env} {s : Shared} {H : Hp} {args : Args} {us : List Value} {vs : List V} {Q : VK} {E : XK} (F : Fun K x x st f fd) (S : FnScope N ps (defScope st)) (hl : vs.length = ps.length) (hr : Room (k + 1) A) (e0 : Env0 P w K mg base A outer s H)
    (hb : BindsTo s fd args (ps.zip us)) (r : Vals vs us)
    (body : ∀ cdv : Value, ∃ t, PSs (cxOf CX0 P w K mg base N x (defScope st) f cdv A outer s H E).nox (defBody st) t ∧ t { nx := fun _ H' => Q .non H', rt := Q } (start N vs) H) : codeAny (model P w) A (.call (.ref f) args) (CR CX0 outer P w H s Q E) s := by
  obtain ⟨oc, od, kV, doc, pm, an, cdv, ct, osl, rfl, lk, hcd⟩ := F.ex
  obtain ⟨t, ht, q⟩ := body cdv
  have lift : ∀ {b : Addr} {o : Obj}, base.get? b = some o → s.heap.get? b = some o := fun z => (e0.bs _ _ z).1
  have inK : K.In s.heap := e0.mod.kin.keeps fun _ _ z => lift z
  have kinds : ∀ y ∈ ps.zip us, (defScope st).names.lookup y.1 = some .local ∨ ((defScope st).names.lookup y.1 = some .cell ∧ ((cellsFrom (s.heap.objs.size + 1) (defScope st).names []).lookup y.1).isSome = true) := by
    intro y hy
    cases S.par y.1 (List.of_mem_zip (a := y.1) (b := y.2) hy).1 with
    | inl z => exact .inl z
    | inr z => exact .inr ⟨z, PySem.W.cellsFrom_some _ _ _ (.inl z)⟩
  refine codeAny_call_function hr.depth (inK _ _ lk) rfl S.co S.gen rfl (PySem.W.codeRec_of inK hcd) (hb _ _ _ _ (wpAny_newFunctionEnv_cells S.kind kinds fun env he s1 ic => ?_))
  subst he
  refine ⟨(e0.mod.nolimit.keeps fun _ _ z => lift z).keeps ic.toInCall.keep, codeAny_func (wpAny_mono (ht.nox.run [] s1 (start N vs) H _ (inv_start S hr.hd e0 hl r ic) q) (fun fl s' z => ?_) fun _ _ z => z)⟩
  match fl, z with
  | .ret _, ⟨v, σ', H', J, rv, qv⟩ => exact ⟨v, H', J.os, J.bare, J.base, J.hok, rv, qv⟩
  | .next, ⟨σ', H', J, qv⟩ => exact ⟨.non, H', J.os, J.bare, J.base, J.hok, rfl, qv⟩
  | .brk, ⟨_, _, _, z⟩ => exact z.elim
  | .cont, ⟨_, _, _, z⟩ => exact z.elim
/-- the promise, asked where nothing is being shown -/
structure FnG (P : Program) (w : World) (K : PySem.W.Frag) (mg : Str → Option Value) (base : Heap) (k : Nat) (f : Addr) (fd : FuncData) (ps : List Str) (sp : Sp) : Prop where
  len : ∀ vs H Q E, sp vs H Q E → vs.length = ps.length
  run : ∀ (A : Around) (outer : List Env) (s : Shared) (H : Hp) (args : Args) (us : List Value) (vs : List V) (Q : VK) (E : XK), A.guards = some [] → Room k A → Env0 P w K mg base A outer s H → BindsTo s fd args (ps.zip us) → Vals vs us → sp vs H Q E →
    codeAny (model P w) A (.call (.ref f) args) (CR CX0 outer P w H s Q E) s
structure Gal (P : Program) (w : World) (K : PySem.W.Frag) (mg : Str → Option Value) (base : Heap) (x : Str) (k : Nat) (ps : List Str) (sp : Sp) : Prop where
  ex : ∃ f fd, FnG P w K mg base k f fd ps sp ∧ mg x = some (.ref f) ∧ PySem.W.keepIn K (.ref f) = true ∧ Binds K fd ps []
theorem Fun.okG (F : Fun K x x st f fd) (S : FnScope N ps (defScope st)) (len : ∀ vs H Q E, sp vs H Q E → vs.length = ps.length)
    (hbody : ∀ (f : Addr) (cdv : Value) (A : Around) (outer : List Env) (s : Shared) (H : Hp) (vs : List V) (Q : VK) (E : XK), A.guards = some [] → Room k (A.deeper (envOfC x (defScope st) s.heap.objs.size f cdv)) → sp vs H Q E →
      ∃ t, PSs (cxOf CX0 P w K mg base N x (defScope st) f cdv A outer s H E).nox (defBody st) t ∧ t { nx := fun _ H' => Q .non H', rt := Q } (start N vs) H) : FnG P w K mg base (k + 1) f fd ps sp :=
  ⟨len, fun A outer s H args us vs Q E hg hr e0 hb r q => one_call F S (len _ _ _ _ q) hr e0 hb r fun cdv => hbody f cdv A outer s H vs Q E hg (hr.deeper _) q⟩
theorem Def.gal (D : Def K mg x st ps) (S : FnScope N ps (defScope st)) (len : ∀ vs H Q E, sp vs H Q E → vs.length = ps.length)
    (hbody : ∀ (f : Addr) (cdv : Value) (A : Around) (outer : List Env) (s : Shared) (H : Hp) (vs : List V) (Q : VK) (E : XK), A.guards = some [] → Room k (A.deeper (envOfC x (defScope st) s.heap.objs.size f cdv)) → sp vs H Q E →
      ∃ t, PSs (cxOf CX0 P w K mg base N x (defScope st) f cdv A outer s H E).nox (defBody st) t ∧ t { nx := fun _ H' => Q .non H', rt := Q } (start N vs) H) : Gal P w K mg base x (k + 1) ps sp := by
  obtain ⟨f, fd, F, g, b⟩ := D.ex
  exact ⟨f, fd, Fun.okG F S len hbody, g, F.kp, b⟩
end
section
variable {X : Cx} {x : Str} {k : Nat} {ps : List Str} {sp : Sp} {p pos : Pos} {e : Expr} {es : List Expr} {t : TA}
/-- x(e, ..), where nothing is being shown -/
theorem pe_fnG (C : Gal X.prog X.w X.K X.mg X.base x k ps sp) (hgs : X.A.guards = some []) (hr : Room k X.A) (ha : PA X (e :: es) t) (hg : Gl X x := by rfl) (hdb : (x == ("__debug__" : Str)) = false := by decide)
    (he : starEach (e :: es) X.env = (false, eval e X.env) :: starEach es X.env := by rfl) (hpl : (backTo pos (starEach es X.env)).any (·.1) = false := by rfl) : PE X (.Call (.Name x p) (e :: es) [] pos) (tCall sp [] E0 t) := by
  obtain ⟨f, fd, F, m, kp, b⟩ := C.ex
  have at_call : ∀ (us : List Value) (s1 : Shared) (vs : List V) (H1 : Hp) (pins : List (Addr × Obj)) (σ : L2.St) (Q : VK), Inv X pins σ H1 s1 → Vals vs us → sp (vs ++ []) H1 Q E0 → wpAny (model X.prog X.w) X.A (call (.ref f) us) (EP X pins σ Q) X.xe s1 := by
    intro us s1 vs H1 pins σ Q I r q
    rw [List.append_nil] at q
    have bb := b s1 us I.kIn (by rw [List.append_nil, ← r.length]; exact F.len _ _ _ _ q)
    rw [List.append_nil] at bb
    refine wpAny_call (codeAny_mono (F.run X.A X.stack s1 H1 ⟨us, []⟩ us vs Q E0 hgs hr I.env0 bb r q) fun z s' c => ?_)
    match z, c with
    | .ok (.ret _), c => exact I.after c
    | .ok .next, c => exact c.elim
    | .ok .brk, c => exact c.elim
    | .ok .cont, c => exact c.elim
    | .error _, c => exact c.elim
  exact ⟨fun pins s σ H Q I h => wpAny_Call_Name_kw (ld_glob I hg m (PySem.W.callWith_K (h₀ := X.base) I.ok.mod.kin kp (thn (ha.run pos pins s σ H _ I h) fun us s1 ⟨vs, H1, I1, r, q⟩ => ⟨I1.kIn, at_call us s1 vs H1 pins σ Q I1 r q⟩) he hpl) hdb)⟩
end
/-! ### the law's call -/
section
variable {P : Program} {w : World} {K : PySem.W.Frag} {mg mb : Str → Option Value} {k : Nat} {fa a : Addr} {fd : FuncData} {x : Str} {sp : Sp} {s₁ : Shared} {vs : List Value} {ns : List Int}
/-- where the script is told by H -/
structure Told (P : Program) (w : World) (K : PySem.W.Frag) (h : Heap) (a : Addr) (ns : List Int) (H : Hp) : Prop where
  one : ∀ b, H b = none ∨ (b = a ∧ K.lookup b = none ∧ ∃ o xs, H b = some (.frz o (.lst xs)))
  sq : SqL K H a (ns.map V.int)
  ok : HOk P w H h
theorem told_of (KX : K.In s₁.heap) (ha : s₁.heap.get? a = some { cls := .type "list", data := .seq vs.toArray }) (hi : IntsAre vs ns) (hl : ns.length ≤ sizeLine) : ∃ H, Told P w K s₁.heap a ns H := by
  have r := vals_ints hi
  cases q : K.lookup a with
  | some o =>
    obtain rfl : o = { cls := .type "list", data := .seq vs.toArray } := Option.some.inj ((KX a o q).symm.trans ha)
    exact ⟨fun _ => none, ⟨fun _ => .inl rfl, .inr ⟨_, vs.toArray, _, q, rfl, rfl, rfl, by rw [List.size_toArray, hi.length]; exact hl, by simpa using r⟩, fun b u z => by simp at z⟩⟩
  | none =>
    let o : Obj := { cls := .type "list", data := .seq vs.toArray }
    refine ⟨fun b => if b = a then some (.frz o (.lst (ns.map V.int))) else none, ⟨fun b => ?_, .inl (.inr ⟨o, if_pos rfl⟩), fun b u z => ?_⟩⟩
    · by_cases e : b = a
      · subst e
        exact .inr ⟨rfl, q, o, _, if_pos rfl⟩
      · exact .inl (if_neg e)
    · by_cases e : b = a
      · subst e
        obtain rfl := Option.some.inj ((if_pos rfl).symm.trans z)
        exact ⟨ha, by rw [List.length_map]; exact hl, vs, _, r, ha⟩
      · exact absurd ((if_neg e).symm.trans z) (by simp)
theorem law_run (KX : K.In s₁.heap) (hns : s₁.heap.Ns mainGlobals mg) (hb : s₁.heap.Ns builtinsNs mb) (hbb : ∀ x : Str, x ≠ "__name__" → mb x = bootBuiltins x) (hlim : s₁.heap.NoLimit) (hg : s₁.gens = #[])
    (ha : s₁.heap.get? a = some { cls := .type "list", data := .seq vs.toArray }) (hi : IntsAre vs ns) (hl : ns.length ≤ sizeLine) (hr : Room k callerA)
    (F : ∀ base : Heap, K.In base → base.Ns mainGlobals mg → FnG P w K mg base k fa fd [x] sp) (hbind : ∀ (s : Shared) (u : Value), BindsTo s fd ⟨[u], []⟩ [(x, u)])
    (hsp : ∀ H : Hp, SqL K H a (ns.map V.int) → sp [.ref a] H (fun v _ => v = .bl true) E0) :
    codeAny (model P w) callerA (.call (.ref fa) ⟨[.ref a], []⟩) (fun r s' => r = .ok (.ret (.bool true)) ∧ OldK s₁.heap s'.heap ∧ s'.os = s₁.os ∧ AllBare s'.gens) s₁ := by
  obtain ⟨H, T⟩ := told_of (P := P) (w := w) KX ha hi hl
  -- what is not the script's object is seen below it
  have low : ∀ {b : Addr} {o : Obj}, s₁.heap.get? b = some o → (b = a → K.lookup b ≠ none ∨ o ≠ { cls := .type "list", data := .seq vs.toArray }) → (hidT s₁.heap H).get? b = some o := fun {b o} e d => hidT_get e (by
    rcases T.one b with z | ⟨z, zk, _⟩
    · exact z
    · rcases d z with y | y
      · exact absurd zk y
      · subst z
        exact absurd (Option.some.inj (e.symm.trans ha)) y)
  have lowN : ∀ {b : Addr} {m : Str → Option Value}, s₁.heap.Ns b m → (hidT s₁.heap H).Ns b m := fun ⟨o, es, ep, e, d, z⟩ => ⟨o, es, ep, low e fun _ => .inr (fun y => by subst y; cases d), d, z⟩
  have lowK : K.In (hidT s₁.heap H) := fun b o e => low (KX b o e) fun _ => .inl (by rw [e]; simp)
  have env : Env0 P w K mg (hidT s₁.heap H) callerA [] s₁ H := {
    frames := rfl
    mod := ⟨lowK, lowN hns, ⟨mb, lowN hb, hbb⟩, let ⟨mc, h1, h2⟩ := hlim; ⟨mc, lowN h1, h2⟩⟩
    bs := fun _ _ e => of_hidT e
    bsz := Nat.le_of_eq (hidT_size _ _)
    funs := trivial
    frf := fun b z => absurd (show b ∈ ([] : List Addr) from z) (by simp)
    hok := T.ok
    bare := .of_eq hg }
  refine codeAny_mono ((F _ lowK (lowN hns)).run callerA [] s₁ H ⟨[.ref a], []⟩ [.ref a] [.ref a] _ _ rfl hr env (hbind s₁ (.ref a)) (valsR1 a) (hsp H T.sq)) fun r s' c => ?_
  match r, c with
  | .error _, c => exact c.elim
  | .ok .next, c => exact c.elim
  | .ok .brk, c => exact c.elim
  | .ok .cont, c => exact c.elim
  | .ok (.ret u), ⟨v, H', os, bare, un, ok2, rv, qv⟩ =>
    subst qv
    obtain rfl : u = Value.bool true := rv
    refine ⟨rfl, OldK.of_keep fun b o e => ?_, os, bare⟩
    rcases T.one b with z | ⟨_, _, ob, xs, z⟩
    · exact un.keep b o e z (fun y => absurd (show b ∈ ([] : List Addr) from y) (by simp)) (by simp)
    · have e1 : s₁.heap.get? b = some ob := (T.ok b _ z).1
      have e2 : s'.heap.get? b = some ob := (ok2 b _ (un.frzs b ob _ z)).1
      rw [e2, ← e1]
      exact e
end
/-- the goal that the head leaves -/
theorem walk_G {l : PySem.W.OpenLaw} {n k : Nat} {q : Program} {loose : List Str} {XP : (Str → Option Value) → Heap → Prop} {YP : World → Heap → Prop} {d : DefRec} {K : Params → PySem.W.Frag} {sp : PySem.W.Frag → Sp} {x : Str}
    (hn : l.most = some n) (hn2 : n ≤ sizeLine) (hdf : d.params.defaults = []) (hr : Room k callerA) (hY : ∀ (w : World) (h : Heap), YP w h → (K w.params).In h)
    (F : ∀ (w : World) (mg : Str → Option Value) (fa : Addr) (h : Heap), (K w.params).In h → h.Ns mainGlobals mg → mg d.name = some (.ref fa) →
      ∃ fd : FuncData, (∀ (s : Shared) (u : Value), BindsTo s fd ⟨[u], []⟩ [(x, u)]) ∧ ∀ base : Heap, (K w.params).In base → base.Ns mainGlobals mg → FnG l.prog w (K w.params) mg base k fa fd [x] (sp (K w.params)))
    (hsp : ∀ (K : PySem.W.Frag) (H : Hp) (a : Addr) (ns : List Int), ns.length ≤ n → SqL K H a (ns.map V.int) → sp K [.ref a] H (fun v _ => v = .bl true) E0) : PySem.W.WalkO q loose XP YP l.row.toRowW d [] (fun f vs => PySem.call f vs) :=
  Att.attach_call hn hdf fun w s₀ s₁ mg mb fa o pm cd doc a vs ns G Y ho hd hcd hmg hobj hints hlen hg => by
    obtain ⟨fd, hb, hF⟩ := F w mg fa _ (hY w _ Y) G.T.g hmg
    exact law_run (hY w _ Y) G.T.g G.T.b G.T.builtins G.T.nolimit hg hobj hints (Nat.le_trans hlen hn2) hr hF hb fun H hS => hsp _ H a ns hlen hS
end Mv
/-! What stands in the heap; the facts of the text; readings of our own for the forms that come often. -/
namespace Mv
open PySem PySem.Spec PyProof.Rows L2
/-! ### what stands in the heap -/
abbrev tpV (t : T3) : List V := [.int t.x, .int t.y, .int t.s]
/-- v is a tuple of the numbers t -/
def It (H : Hp) (v : V) (t : T3) : Prop := ∃ p, v = .ref p ∧ H p = some (.tup (tpV t))
abbrev mf (t : T3) : List (Str × V) := [("own_east", .int t.x), ("own_north", .int t.y), ("own_area", .int t.s)]
/-- v is a move with the numbers t -/
def Ob (C : Addr) (H : Hp) (v : V) (t : T3) : Prop := ∃ p dx, v = .ref p ∧ H p = some (.ins C dx (mf t))
theorem It.up {H H' : Hp} {v : V} {t : T3} (h : It H v t) (e : Same H H') : It H' v t := let ⟨p, hv, hp⟩ := h; ⟨p, hv, e _ _ hp⟩
theorem Ob.up {C : Addr} {H H' : Hp} {v : V} {t : T3} (h : Ob C H v t) (e : Same H H') : Ob C H' v t := let ⟨p, dx, hv, hp⟩ := h; ⟨p, dx, hv, e _ _ hp⟩
def get3 (n : Nat) (t : T3) : Int := match n with
  | 0 => t.x
  | 1 => t.y
  | _ => t.s
/-! ### promises by the number of the parameters -/
def sp1 (f : V → Hp → VK → Prop) : Sp := fun vs H Q _ => ∃ u, vs = [u] ∧ f u H Q
def sp2 (f : V → V → Hp → VK → Prop) : Sp := fun vs H Q _ => ∃ u v, vs = [u, v] ∧ f u v H Q
def sp3 (f : V → V → V → Hp → VK → Prop) : Sp := fun vs H Q _ => ∃ u v w, vs = [u, v, w] ∧ f u v w H Q
def sp4 (f : V → V → V → V → Hp → VK → Prop) : Sp := fun vs H Q _ => ∃ u v w z, vs = [u, v, w, z] ∧ f u v w z H Q
theorem sp1_len {f : V → Hp → VK → Prop} : ∀ vs H Q E, sp1 f vs H Q E → vs.length = 1 := fun _ _ _ _ ⟨_, e, _⟩ => by rw [e]; rfl
theorem sp2_len {f : V → V → Hp → VK → Prop} : ∀ vs H Q E, sp2 f vs H Q E → vs.length = 2 := fun _ _ _ _ ⟨_, _, e, _⟩ => by rw [e]; rfl
theorem sp3_len {f : V → V → V → Hp → VK → Prop} : ∀ vs H Q E, sp3 f vs H Q E → vs.length = 3 := fun _ _ _ _ ⟨_, _, _, e, _⟩ => by rw [e]; rfl
theorem sp4_len {f : V → V → V → V → Hp → VK → Prop} : ∀ vs H Q E, sp4 f vs H Q E → vs.length = 4 := fun _ _ _ _ ⟨_, _, _, _, e, _⟩ => by rw [e]; rfl
/-- what the module's text leaves behind -/
structure Txt (K : PySem.W.Frag) (mg : Str → Option Value) (C : Addr) : Prop where
  z_isinstance : mg "isinstance" = none
  z_int : mg "int" = none
  z_bool : mg "bool" = none
  z_str : mg "str" = none
  z_len : mg "len" = none
  z_abs : mg "abs" = none
  z_tuple : mg "tuple" = none
  z_range : mg "range" = none
  z_divmod : mg "divmod" = none
  z_repr : mg "repr" = none
  z_all : mg "all" = none
  dIsInt : Def K mg "is_integer" sIsInt ["value"]
  dShared : Def K mg "is_shared" sShared ["number", "step"]
  dComb : Def K mg "combined" sComb ["one", "other"]
  dWhole : Def K mg "check_whole" sWhole ["value"]
  dCMove : Def K mg "check_move" sCMove ["value"]
  dCMoves : Def K mg "check_moves" sCMoves ["one", "other"]
  dTriple : Def K mg "triple" sTriple ["one"]
  dGap : Def K mg "gap_of" sGap ["one", "other"]
  dMade : Def K mg "made_move" sMade ["numbers"]
  dLink : Def K mg "link_of_moves" sLink ["one", "other"]
  dRoot : Def K mg "root_of_move" sRoot ["one", "degree"]
  dIsAl : KDef K mg "is_move_alike" sIsAl "one" "other"
  dAl : KDef K mg "move_alike" sAl "one" "other"
  dCom : KDef K mg "do_moves_commute" sCom "one" "other"
  dMRoot : KDef K mg "move_root" sMRoot "one" "degree"
  dReel : Def K mg "_law_reel" sReel ["_law_script", "_law_turn"]
  dWind : Def K mg "_law_wind" sWind ["_law_reel_here", "_law_many"]
  dOneOf : Def K mg "_law_one_of" sOneOf ["_law_reel_here", "_law_menu"]
  dTrip : Def K mg "_law_trip" sTrip ["_law_reel_here", "_law_size"]
  dPut : Def K mg "_law_put" sPut ["_law_left", "_law_right_here"]
  dOff : Def K mg "_law_off" sOff ["_law_trip_here"]
  dPower : Def K mg "_law_power" sPower ["_law_trip_here", "_law_count"]
  dMove : Def K mg "_law_move" sMove ["_law_trip_here"]
  dThree : Def K mg "_law_three" sThree ["_law_made"]
  dBtw : Def K mg "_law_between" sBtw ["_law_by", "_law_trip_here"]
  dAreAl : Def K mg "_law_are_alike" sAreAl ["_law_first", "_law_last"]
  dAlR : Def K mg "_law_alike_right" sAlR ["_law_first", "_law_last", "_law_due"]
  dHasR : Def K mg "_law_has_root" sHasR ["_law_trip_here", "_law_level"]
  dRootsR : Def K mg "_law_roots_right" sRootsR ["_law_reel_here"]
  dRight : Def K mg "_law_right" sRight ["_law_reel_here"]
  cl : Cls K C
  mgC : mg "Move" = some (.ref C)
  n1 : NoAttr K C "own_east"
  n2 : NoAttr K C "own_north"
  n3 : NoAttr K C "own_area"
  c1 : PySem.W.findIn K (.ref C) "__class__" = some (some (.builtin "object.__class__"))
  c2 : PySem.W.specialIn K (.builtin "object.__class__") "__get__" = some (some (.builtin "getset_descriptor.__get__"))
  c3 : PySem.W.takesIn K (.builtin "object.__class__") = some true
  c4 : PySem.W.mroIn K C (.type "object") = some true
  ne : PySem.W.findIn K (.ref C) "__ne__" = some (some (.builtin "object.__ne__"))
  init : ∃ f fd, Fun K "__init__" "Move.__init__" sInit f fd ∧ Mk K C f ∧ Binds K fd ["self", "east", "north", "area"] []
  east : ∃ p f fd, PropOf K C "east" p f ∧ Fun K "east" "Move.east" sEast f fd ∧ Binds K fd ["self"] []
  north : ∃ p f fd, PropOf K C "north" p f ∧ Fun K "north" "Move.north" sNorth f fd ∧ Binds K fd ["self"] []
  area : ∃ p f fd, PropOf K C "area" p f ∧ Fun K "area" "Move.area" sArea f fd ∧ Binds K fd ["self"] []
  str_ : ∃ f fd, Fun K "__str__" "Move.__str__" sStr f fd ∧ Binds K fd ["self"] [] ∧ PySem.W.findIn K (.ref C) "__str__" = some (some (.ref f)) ∧ PySem.W.isFn K (.ref f) = true
  eq_ : ∃ f fd, Fun K "__eq__" "Move.__eq__" sEq f fd ∧ Binds K fd ["self", "other"] [] ∧ PySem.W.findIn K (.ref C) "__eq__" = some (some (.ref f)) ∧ PySem.W.isFn K (.ref f) = true
/-! ### readings of our own -/
theorem IxR_to {X : Cx} {r u : R2} (h : IxR X r) (k : ∀ x y H Q, u x y H Q → r x y H Q) : IxR X u := fun value slice pins s σ H x y v w Q I rx ry q => h value slice pins s σ H x y v w Q I rx ry (k _ _ _ _ q)
theorem OpR_to {X : Cx} {f : Value → Value → Sem Value} {r u : R2} (h : OpR X f r) (k : ∀ x y H Q, u x y H Q → r x y H Q) : OpR X f u := fun pins s σ H x y v w Q I rx ry q => h pins s σ H x y v w Q I rx ry (k _ _ _ _ q)
theorem CallR_to {X : Cx} {f : Value} {r u : List V → Hp → VK → Prop} (h : CallR X f r) (k : ∀ xs H Q, u xs H Q → r xs H Q) : CallR X f u := fun pins s σ H xs us Q I r q => h pins s σ H xs us Q I r (k _ _ _ q)
/-- e[0], e[1], e[2] of a tuple of three numbers -/
def rG (n : Int) (g : T3 → Int) : R2 := fun x y H Q => y = .int n ∧ ∃ t, It H x t ∧ Q (.int (g t)) H
section
variable {X : Cx}
theorem ix_g0 : IxR X (rG 0 T3.x) := IxR_to ix_tup fun _ _ _ _ ⟨e, t, ⟨p, hv, hp⟩, q⟩ => ⟨p, _, 0, _, hv, e, SqT.of hp, rfl, q⟩
theorem ix_g1 : IxR X (rG 1 T3.y) := IxR_to ix_tup fun _ _ _ _ ⟨e, t, ⟨p, hv, hp⟩, q⟩ => ⟨p, _, 1, _, hv, e, SqT.of hp, rfl, q⟩
theorem ix_g2 : IxR X (rG 2 T3.s) := IxR_to ix_tup fun _ _ _ _ ⟨e, t, ⟨p, hv, hp⟩, q⟩ => ⟨p, _, 2, _, hv, e, SqT.of hp, rfl, q⟩
/-- e[:2] of such a tuple -/
def rCut : V → Option Int → Option Int → Hp → VK → Prop := fun x lo hi H Q => lo = none ∧ hi = some 2 ∧ ∃ t, It H x t ∧ ∀ p H2, Same H H2 → H2 p = some (.tup [.int t.x, .int t.y]) → Q (.ref p) H2
theorem sl_cut : SlR X rCut := by
  intro pins s σ H x v vl vu lo hi sl Q I rx hs pl pu h
  obtain ⟨rfl, rfl, t, ⟨p, hv, hp⟩, q⟩ := h
  exact sl_tup pins s σ H x v vl vu none (some 2) sl Q I rx hs pl pu ⟨p, _, hv, SqT.of hp, (by show ¬ (HT.sIx 3 0 none = 0 ∧ HT.sIx 3 3 (some 2) = 3); decide), fun p2 n => q p2 _ (same_new n) upd_same⟩
/-- == and != of tuples of two, of three numbers -/
theorem dp2 {K : PySem.W.Frag} {H : Hp} {p : Addr} {a b : Int} (h : H p = some (.tup [.int a, .int b])) : Dp K H (.ref p) (.tuple [.int a, .int b]) := .tup (SqT.of h) (.cons (.int a) (.cons (.int b) .nil))
theorem dp3 {K : PySem.W.Frag} {H : Hp} {v : V} {t : T3} (h : It H v t) : Dp K H v (.tuple [.int t.x, .int t.y, .int t.s]) := by
  obtain ⟨p, rfl, hp⟩ := h
  exact .tup (SqT.of hp) (.cons (.int _) (.cons (.int _) (.cons (.int _) .nil)))
theorem eqv2 {a b c d : Int} : PyData.eqv (.tuple [.int a, .int b]) (.tuple [.int c, .int d]) = (decide (a = c) && decide (b = d)) := by
  simp only [PyData.eqv, PyData.eqvAll, Bool.and_true, Bool.beq_eq_decide_eq]
theorem eqv3 {t u : T3} : PyData.eqv (.tuple [.int t.x, .int t.y, .int t.s]) (.tuple [.int u.x, .int u.y, .int u.s]) = decide (t = u) := by
  obtain ⟨a, b, c⟩ := t
  obtain ⟨d, e, f⟩ := u
  simp only [PyData.eqv, PyData.eqvAll, Bool.and_true, Bool.beq_eq_decide_eq, T3.mk.injEq, Bool.decide_and]
def rNe2 : R2 := fun x y H Q => ∃ p q a b c d, x = .ref p ∧ y = .ref q ∧ H p = some (.tup [.int a, .int b]) ∧ H q = some (.tup [.int c, .int d]) ∧ Q (.bl (!(decide (a = c) && decide (b = d)))) H
theorem op_ne2 (hu : X.A.units + 64 < cLine) : OpR X (compareOp .NotEq) rNe2 := OpR_to (op_neD hu) fun x y H Q ⟨p, q, a, b, c, d, e1, e2, h1, h2, k⟩ => ⟨_, _, e1 ▸ dp2 h1, e2 ▸ dp2 h2, rfl, rfl, by rw [eqv2]; exact k⟩
def rEq3 : R2 := fun x y H Q => ∃ t u, It H x t ∧ It H y u ∧ Q (.bl (decide (t = u))) H
theorem op_eq3 (hu : X.A.units + 64 < cLine) : OpR X (compareOp .Eq) rEq3 := OpR_to (op_eqD hu) fun x y H Q ⟨t, u, h1, h2, k⟩ => ⟨_, _, dp3 h1, dp3 h2, rfl, rfl, by rw [eqv3]; exact k⟩
def rNe3 : R2 := fun x y H Q => ∃ t u, It H x t ∧ It H y u ∧ Q (.bl (!decide (t = u))) H
theorem op_ne3 (hu : X.A.units + 64 < cLine) : OpR X (compareOp .NotEq) rNe3 := OpR_to (op_neD hu) fun x y H Q ⟨t, u, h1, h2, k⟩ => ⟨_, _, dp3 h1, dp3 h2, rfl, rfl, by rw [eqv3]; exact k⟩
/-- a product of numbers whose sizes are told -/
def rMu : R2 := fun x y H Q => ∃ i j m n, x = .int i ∧ y = .int j ∧ Sz m i ∧ Sz n j ∧ m + n ≤ 900000 ∧ Q (.int (i * j)) H
theorem op_mu : OpR X (binaryOp .Mult) rMu := OpR_to op_mulW fun _ _ _ _ ⟨i, j, m, n, e1, e2, h1, h2, hz, q⟩ => ⟨i, j, e1, e2, wide_mul (Sz.mono h1 (Nat.le_succ m)) (Sz.mono h2 (Nat.le_succ n)) (Nat.succ_pos m) (Nat.succ_pos n) (by omega), q⟩
/-- a quotient by a divisor whose size is told -/
def rDv : R2 := fun x y H Q => ∃ i j, x = .int i ∧ y = .int j ∧ 0 < j ∧ Sz 8000 j ∧ Q (.int (i / j)) H
theorem op_dv : OpR X (binaryOp .FloorDiv) rDv := OpR_to op_fdivW fun _ _ _ _ ⟨i, j, e1, e2, h0, h1, q⟩ => ⟨i, j, e1, e2, wide_div h0 h1 (by decide) (by decide), q⟩
/-- a new tuple of three numbers -/
theorem it_new {H : Hp} {p : Addr} (t : T3) (h : H p = none) : Same H (upd H p (.tup (tpV t))) ∧ It (upd H p (.tup (tpV t))) (.ref p) t := ⟨same_new h, p, rfl, upd_same⟩
end
/-! ### a move made, its parts -/
section
variable {X : Cx} {C : Addr} {e : Expr} {es : List Expr} {te : TE} {ta : TA} {pos p2 : Pos} {k : Nat}
/-- what __init__ promises -/
def spInit (C : Addr) : Sp := sp4 fun u a b c H Q => ∃ p dx t, u = .ref p ∧ a = .int t.x ∧ b = .int t.y ∧ c = .int t.s ∧ H p = some (.ins C dx []) ∧ ∀ H', (∀ q o, q ≠ p → H q = some o → H' q = some o) → H' p = some (.ins C dx (mf t)) → Q .non H'
/-- Move(a, b, c) -/
def tMk (C : Addr) (t : TA) : TE := fun σ H Q => t σ H fun vs H1 => ∃ m : T3, vs = tpV m ∧ ∀ v H2, Same H1 H2 → Ob C H2 v m → Q v H2
theorem pe_mk {f : Addr} {fd : FuncData} {ps : List Str} {p : Pos} (M : Mk X.K C f) (F : FnOk X.prog X.w X.K X.mg X.base CX0 k f fd ps (spInit C)) (hb : Binds X.K fd ps []) (hm : X.mg "Move" = some (.ref C)) (hr : Room (k + 1) X.A) (ha : PA X (e :: es) ta) (hg : Gl X "Move" := by rfl)
    (he : starEach (e :: es) X.env = (false, eval e X.env) :: starEach es X.env := by rfl) (hpl : (backTo pos (starEach es X.env)).any (·.1) = false := by rfl) : PE X (.Call (.Name "Move" p) (e :: es) [] pos) (tMk C ta) :=
  ⟨fun pins s σ H Q I h => wpAny_Call_Name_kw (ld_glob I hg hm (PySem.W.callWith_K (h₀ := X.base) I.ok.mod.kin M.kp (thn (ha.run pos pins s σ H _ I h) fun us s1 ⟨vs, H1, I1, r, m, ev, q⟩ => ⟨I1.kIn,
    run_make M F hr hb .nil pass0 I1 r fun x dx nx nd ne => by
      subst ev
      refine ⟨.ref x, .int m.x, .int m.y, .int m.s, rfl, x, dx, m, rfl, rfl, rfl, rfl, upd_same, fun H' hk hx => ⟨rfl, q _ _ (fun b o z => ?_) ⟨x, dx, rfl, hx⟩⟩⟩
      have nb : b ≠ x := ne_of_none z nx
      exact hk b o nb (by rw [upd_ne nb, upd_ne (ne_of_none z nd)]; exact z)⟩) he hpl) (by decide))⟩
/-- e.east, e.north, e.area -/
def tPr (C : Addr) (g : T3 → Int) (te : TE) : TE := fun σ H Q => te σ H fun x H1 => ∃ t, Ob C H1 x t ∧ Q (.int (g t)) H1
/-- what such a property promises -/
def spPr (C : Addr) (g : T3 → Int) : Sp := sp1 fun u H Q => ∃ t, Ob C H u t ∧ Q (.int (g t)) H
theorem pe_pr {g : T3 → Int} {x : Str} {p f : Addr} {fd : FuncData} {ps : List Str} (he : PE X e te) (c : Cls X.K C) (hp : PropOf X.K C x p f) (F : FnOk X.prog X.w X.K X.mg X.base CX0 k f fd ps (spPr C g)) (hb : Binds X.K fd ps []) (hr : Room (k + 1) X.A)
    (hab : attributeBase e x X.env (eval e X.env) = eval e X.env) : PE X (.Attribute e x pos) (tPr C g te) :=
  ⟨fun pins s σ H Q I h => attr_of hab (thn (he.run pins s σ H _ I h) fun u s1 ⟨v, H1, I1, rv, t, o, q⟩ => by
    obtain ⟨a, dx, ev, ha⟩ := id o
    subst ev
    obtain rfl : u = Value.ref a := rv
    exact getprop_ok I1 ha c hp F hr hb .nil pass0 ⟨_, rfl, t, o, q⟩)⟩
end
/-! ### isinstance -/
section
variable {X : Cx} {mg : Str → Option Value} {C : Addr}
/-- isinstance(i, int), isinstance(i, bool) of a number; isinstance(o, Move) of a move -/
def rIs (K : PySem.W.Frag) (C : Addr) : List V → Hp → VK → Prop := fun xs H Q => (∃ i, xs = [.int i, .ty "int"] ∧ Q (.bl true) H) ∨ (∃ i, xs = [.int i, .ty "bool"] ∧ Q (.bl false) H) ∨ ∃ v t, xs = [v, .ref C] ∧ Ob C H v t ∧ Q (.bl true) H
theorem call_is (T : Txt X.K mg C) : CallR X (.builtin "isinstance") (rIs X.K C) := CallR_to call_isi fun xs H Q h => by
  rcases h with ⟨i, e, q⟩ | ⟨i, e, q⟩ | ⟨v, t, e, ⟨a, dx, ev, ha⟩, q⟩
  · exact ⟨_, _, _, _, true, e, .ty _, .base (.int i), kit_ty (by decide +kernel), q⟩
  · exact ⟨_, _, _, _, false, e, .ty _, .base (.int i), kit_ty (by decide +kernel), q⟩
  · subst ev
    exact ⟨_, _, _, _, true, e, .own C, .base (.ins ha T.cl T.c1 T.c2 T.c3 T.c4), by unfold PySem.W.kitOne; rw [if_pos (by simp)], q⟩
end
end Mv
/-! The defs, one promise each: the small ones, the reckoning of a common divisor, the class. -/
namespace Mv
open PySem PySem.Spec PyProof.Rows L2
section
variable {P : Program} {w : World} {K : PySem.W.Frag} {mg : Str → Option Value} {base : Heap} {C : Addr}
/-! ### is_integer, is_shared, check_whole -/
def spIsInt : Sp := sp1 fun u H Q => ∃ i, u = .int i ∧ Q (.bl true) H
theorem c_IsInt (T : Txt K mg C) : Cal P w K mg base "is_integer" 1 ["value"] spIsInt := by
  refine T.dIsInt.cal scIsInt sp1_len fun f cdv A outer s H vs Q E hr h => ?_
  obtain ⟨_, rfl, i, rfl, q⟩ := h
  refine ⟨_, pss_one (ps_ret (pe_and (pe_callB (call_is T) rfl T.z_isinstance (by decide +kernel) (pa_cons (pv 0) (pa_cons (pe_bltn (v := .ty "int") (by rfl) T.z_int (by decide +kernel) rfl) pa_nil)))
    (pe_one (pe_not (pe_callB (call_is T) rfl T.z_isinstance (by decide +kernel) (pa_cons (pv 0) (pa_cons (pe_bltn (v := .ty "bool") (by rfl) T.z_bool (by decide +kernel) rfl) pa_nil))))))), ?_⟩
  exact ⟨_, rfl, .inl ⟨i, rfl, true, rfl, iteT ⟨_, rfl, .inr (.inl ⟨i, rfl, false, rfl, q⟩)⟩⟩⟩
def spShared : Sp := sp2 fun u v H Q => ∃ i j, u = .int i ∧ v = .int j ∧ 0 ≤ j ∧ Q (.bl (shB i j)) H
theorem dec_i {i j : Int} : decide (V.int i = V.int j) = decide (i = j) := by rw [dec_int, Bool.beq_eq_decide_eq]
theorem c_Shared (T : Txt K mg C) : Cal P w K mg base "is_shared" 1 ["number", "step"] spShared := by
  refine T.dShared.cal scShared sp2_len fun f cdv A outer s H vs Q E hr h => ?_
  obtain ⟨_, _, rfl, i, j, rfl, rfl, hj, q⟩ := h
  refine ⟨_, pss_one (ps_ret (pe_ifExp (pt_cmpR op_eq (pv 1) pe_int (nomark _)) (pe_cmpR op_eq (pv 0) pe_int (nomark _)) (pe_cmpR op_eq (pe_op op_mod (pv 0) (pv 1)) pe_int (nomark _)))), ?_⟩
  unfold shB at q
  refine ⟨_, rfl, rfl, _, rfl, ?_⟩
  rw [dec_i]
  refine ite2 (fun z => ?_) (fun z => ?_)
  · have z := of_decide_eq_true z
    rw [if_pos z] at q
    refine ⟨_, rfl, rfl, ?_⟩
    rw [dec_i]
    exact q
  · have z : ¬ j = 0 := fun e => z (decide_eq_true e)
    rw [if_neg z] at q
    refine ⟨_, rfl, _, rfl, _, _, rfl, rfl, (show (0 : Int) < j by omega), rfl, ?_⟩
    rw [dec_i]
    exact q
def spWhole : Sp := sp1 fun u H Q => ∃ i, u = .int i ∧ Q .non H
theorem c_Whole (T : Txt K mg C) : Cal P w K mg base "check_whole" 2 ["value"] spWhole := by
  have c1 : Cal P w K mg base "is_integer" 1 ["value"] spIsInt := c_IsInt T
  refine T.dWhole.cal scWhole sp1_len fun f cdv A outer s H vs Q E hr h => ?_
  obtain ⟨_, rfl, i, rfl, q⟩ := h
  refine ⟨_, pss_one (ps_if (pt_not (pt_val (pe_fn c1 hr (pa_cons (pv 0) pa_nil)))) (pss_one ps_never) pss_nil), ?_⟩
  exact ⟨_, rfl, _, rfl, i, rfl, true, rfl, iteF q⟩
/-! ### combined -/
def spComb : Sp := sp2 fun u v H Q => ∃ a b n, u = .int a ∧ v = .int b ∧ 0 ≤ a ∧ 0 ≤ b ∧ n ≤ 1000 ∧ Sz n a ∧ Sz n b ∧
  ∀ v H' t, Same H H' → It H' v t → t.x = (Int.gcd a b : Int) → t.y * a + t.s * b = (Int.gcd a b : Int) → Sz (n + 1) t.y → Sz (n + 1) t.s → Q v H'
theorem sz_le {n : Nat} {i : Int} (h1 : -((2 ^ n : Nat) : Int) ≤ i) (h2 : i ≤ ((2 ^ n : Nat) : Int)) : Sz (n + 1) i := by
  unfold Sz
  rw [Nat.pow_succ]
  have := Nat.two_pow_pos n
  omega
theorem c_Comb (T : Txt K mg C) : Cal P w K mg base "combined" 1 ["one", "other"] spComb := by
  refine T.dComb.cal scComb sp2_len fun f cdv A outer s H vs Q E hr h => ?_
  obtain ⟨_, _, rfl, a, b, n, rfl, rfl, ha, hb, hn, sa, sb, q⟩ := h
  refine ⟨_, pss_cons (ps_par (i := 2) (j := 3) (by rfl) scComb.nd rfl rfl (by decide) rfl rfl (pa_cons (pe_tup (pa_cons (pv 0) (pa_cons pe_int (pa_cons pe_int pa_nil)))) (pa_cons (pe_tup (pa_cons (pv 1) (pa_cons pe_int (pa_cons pe_int pa_nil)))) pa_nil)) (by rfl))
    (pss_cons (ps_while PassesOwn.never (pt_cmpR op_gt (pe_ix ix_g0 (pv 3) pe_int (fun _ _ => rfl)) pe_int (nomark _))
      (pss_cons (ps_set (i := 4) scComb.nd rfl (.inl rfl) (pe_op op_dv (pe_ix ix_g0 (pv 2) pe_int (fun _ _ => rfl)) (pe_ix ix_g0 (pv 3) pe_int (fun _ _ => rfl))))
      (pss_one (ps_par (i := 2) (j := 3) (by rfl) scComb.nd rfl rfl (by decide) rfl rfl (pa_cons (pv 3) (pa_cons (pe_tup
        (pa_cons (pe_op op_sub (pe_ix ix_g0 (pv 2) pe_int (fun _ _ => rfl)) (pe_op op_mu (pv 4) (pe_ix ix_g0 (pv 3) pe_int (fun _ _ => rfl))))
        (pa_cons (pe_op op_sub (pe_ix ix_g1 (pv 2) pe_int (fun _ _ => rfl)) (pe_op op_mu (pv 4) (pe_ix ix_g1 (pv 3) pe_int (fun _ _ => rfl))))
        (pa_cons (pe_op op_sub (pe_ix ix_g2 (pv 2) pe_int (fun _ _ => rfl)) (pe_op op_mu (pv 4) (pe_ix ix_g2 (pv 3) pe_int (fun _ _ => rfl)))) pa_nil)))) pa_nil)) (by rfl)))))
    (pss_one (ps_ret (pv 2)))), ?_⟩
  have aM : a ≤ ((2 ^ n : Nat) : Int) := by
    unfold Sz at sa
    omega
  have bM : b ≤ ((2 ^ n : Nat) : Int) := by
    unfold Sz at sb
    omega
  have oneM : 1 ≤ ((2 ^ n : Nat) : Int) := by
    have := Nat.two_pow_pos n
    omega
  refine ⟨_, rfl, (by show 3 ≤ sizeLine; decide), fun p hp => ⟨_, rfl, (by show 3 ≤ sizeLine; decide), fun p2 hp2 => ⟨_, _, rfl, ?_⟩⟩⟩
  have e1 : Same H (upd H p (.tup (tpV ⟨a, 1, 0⟩))) := same_new hp
  have e2 : Same (upd H p (.tup (tpV ⟨a, 1, 0⟩))) (upd (upd H p (.tup (tpV ⟨a, 1, 0⟩))) p2 (.tup (tpV ⟨b, 0, 1⟩))) := same_new hp2
  refine while_by (fun σ' H' => ∃ u v l r z, σ' = [some (.int a), some (.int b), some u, some v, z] ∧ It H' u l ∧ It H' v r ∧ Cm a b ((2 ^ n : Nat) : Int) l r ∧ Same H H')
    (fun σ' H' => match σ' with
      | [_, _, _, some (.ref v), _] => (match H' v with
        | some (.tup (.int x :: _)) => x.toNat
        | _ => 0)
      | _ => 0) ⟨_, _, _, _, _, rfl, ⟨p, rfl, e2 _ _ upd_same⟩, ⟨p2, rfl, upd_same⟩, Cm.start ha hb oneM aM bM, e1.trans e2⟩ (fun σ' H' W => ?_) (fun σ' H' R R' k z => ?_)
  · obtain ⟨u, v, l, r, z, rfl, hu, hv, hc, hs⟩ := W
    refine ⟨_, rfl, rfl, r, hv, _, _, rfl, rfl, _, rfl, ?_⟩
    refine ite2 (fun hp => ?_) (fun hp => ?_)
    · have hp : 0 < r.x := of_decide_eq_true hp
      have lS : Sz (n + 1) l.x := sz_le (by have := hc.l0; omega) hc.lM
      have rS : Sz (n + 1) r.x := sz_le (by have := hc.r0; omega) hc.rM
      have qS : Sz (n + 1) (l.x / r.x) := lS.div hp
      have yS : Sz (n + 1) r.y := sz_le hc.hy.bound.2.1 hc.hy.bound.2.2
      have sS : Sz (n + 1) r.s := sz_le hc.hs.bound.2.1 hc.hs.bound.2.2
      refine ⟨_, rfl, rfl, l, hu, _, rfl, rfl, r, hv, _, _, rfl, rfl, hp, rS.mono (by omega), ?_⟩
      refine ⟨_, rfl, _, rfl, rfl, l, hu, _, rfl, _, rfl, rfl, r, hv, _, _, n + 1, n + 1, rfl, rfl, qS, rS, (by omega), _, _, rfl, rfl, ?_⟩
      refine ⟨_, rfl, rfl, l, hu, _, rfl, _, rfl, rfl, r, hv, _, _, n + 1, n + 1, rfl, rfl, qS, yS, (by omega), _, _, rfl, rfl, ?_⟩
      refine ⟨_, rfl, rfl, l, hu, _, rfl, _, rfl, rfl, r, hv, _, _, n + 1, n + 1, rfl, rfl, qS, sS, (by omega), _, _, rfl, rfl, ?_⟩
      refine ⟨(by show 3 ≤ sizeLine; decide), fun p3 hp3 => ⟨_, _, rfl, ?_⟩⟩
      have e3 : Same H' (upd H' p3 (.tup (tpV (nextR l r)))) := same_new hp3
      refine ⟨⟨_, _, r, nextR l r, _, rfl, hv.up e3, ⟨p3, rfl, upd_same⟩, hc.step hp aM bM, hs.trans e3⟩, ?_⟩
      obtain ⟨pv, rfl, hpv⟩ := hv
      show (match upd H' p3 (.tup (tpV (nextR l r))) p3 with
        | some (.tup (.int x :: _)) => x.toNat
        | _ => 0) < (match H' pv with
        | some (.tup (.int x :: _)) => x.toNat
        | _ => 0)
      rw [upd_same, hpv]
      exact hc.fall hp
    · have hp : ¬ 0 < r.x := fun z => hp (decide_eq_true z)
      obtain ⟨g1, g2⟩ := hc.last hp
      exact ⟨_, rfl, q _ _ l hs hu g1 g2 (sz_le hc.hy.bound.1.1 hc.hy.bound.1.2) (sz_le hc.hs.bound.1.1 hc.hs.bound.1.2)⟩
  · obtain ⟨v, h1, h2, t, h3, i, j, h4, h5, b2, h6, h7⟩ := z
    exact ⟨v, h1, h2, t, h3, i, j, h4, h5, b2, h6, k _ _ h7⟩
end
end Mv
/-! The class: __init__, its properties, its text, ==; what asks for moves. -/
namespace Mv
open PySem PySem.Spec PyProof.Rows L2
section
variable {P : Program} {w : World} {K : PySem.W.Frag} {mg : Str → Option Value} {base : Heap} {C : Addr}
/-! ### __init__ -/
theorem k12 : ¬ (("own_east" : Str) = "own_north") := by decide +kernel
theorem k13 : ¬ (("own_east" : Str) = "own_area") := by decide +kernel
theorem k23 : ¬ (("own_north" : Str) = "own_area") := by decide +kernel
theorem put_all (t : T3) : putF "own_area" (.int t.s) (putF "own_north" (.int t.y) (putF "own_east" (.int t.x) [])) = mf t := by
  show putF "own_area" (.int t.s) (if ("own_east" : Str) = "own_north" then _ else (("own_east" : Str), V.int t.x) :: putF "own_north" (.int t.y) []) = mf t
  rw [if_neg k12]
  show (if ("own_east" : Str) = "own_area" then _ else (("own_east" : Str), V.int t.x) :: (if ("own_north" : Str) = "own_area" then _ else (("own_north" : Str), V.int t.y) :: putF "own_area" (.int t.s) [])) = mf t
  rw [if_neg k13, if_neg k23]
  rfl
theorem put_len (f : Str) (v : V) (fs : List (Str × V)) (h : fs.length < 10) : (putF f v fs).length < 11 := by
  have := length_putF f v fs
  omega
theorem c_Init {f : Addr} {fd : FuncData} (T : Txt K mg C) (F : Fun K "__init__" "Move.__init__" sInit f fd) : FnOk P w K mg base CX0 3 f fd ["self", "east", "north", "area"] (spInit C) := by
  have c1 : Cal P w K mg base "check_whole" 2 ["value"] spWhole := c_Whole T
  refine F.ok scInit sp4_len fun cdv A outer s H vs Q E hr h => ?_
  obtain ⟨_, _, _, _, rfl, p, dx, t, rfl, rfl, rfl, rfl, hp, q⟩ := h
  refine ⟨_, pss_cons (ps_expr (pe_fn c1 hr (pa_cons (pv 1) pa_nil))) (pss_cons (ps_expr (pe_fn c1 hr (pa_cons (pv 2) pa_nil))) (pss_cons (ps_expr (pe_fn c1 hr (pa_cons (pv 3) pa_nil)))
    (pss_cons (ps_fld (pv 0) (pv 1) rfl) (pss_cons (ps_fld (pv 0) (pv 2) rfl) (pss_one (ps_fld (pv 0) (pv 3) rfl)))))), ?_⟩
  refine ⟨_, rfl, _, rfl, _, rfl, _, rfl, _, rfl, _, rfl, _, rfl, _, rfl, _, rfl, ?_⟩
  refine ⟨_, rfl, _, rfl, p, C, dx, [], rfl, hp, T.cl, T.n1, (by decide), ?_⟩
  refine ⟨_, rfl, _, rfl, p, C, dx, _, rfl, upd_same, T.cl, T.n2, (by have := put_len "own_east" (.int t.x) [] (by decide); omega), ?_⟩
  refine ⟨_, rfl, _, rfl, p, C, dx, _, rfl, upd_same, T.cl, T.n3, (by have := length_putF "own_east" (.int t.x) []; have := length_putF "own_north" (.int t.y) (putF "own_east" (.int t.x) []); simp only [List.length_nil] at *; omega), ?_⟩
  refine q _ (fun b o nb z => ?_) ?_
  · rw [upd_ne nb, upd_ne nb, upd_ne nb]
    exact z
  · rw [upd_same, put_all]
/-! ### its properties -/
theorem lk1 (t : T3) : (mf t).lookup ("own_east" : Str) = some (V.int t.x) := by rfl
theorem lk2 (t : T3) : (mf t).lookup ("own_north" : Str) = some (V.int t.y) := by
  have e : (("own_north" : Str) == "own_east") = false := by decide +kernel
  simp [List.lookup, e]
theorem lk3 (t : T3) : (mf t).lookup ("own_area" : Str) = some (V.int t.s) := by
  have e : (("own_area" : Str) == "own_east") = false := by decide +kernel
  have e2 : (("own_area" : Str) == "own_north") = false := by decide +kernel
  simp [List.lookup, e, e2]
theorem c_East {f : Addr} {fd : FuncData} (T : Txt K mg C) (F : Fun K "east" "Move.east" sEast f fd) : FnOk P w K mg base CX0 1 f fd ["self"] (spPr C T3.x) := by
  refine F.ok scEast sp1_len fun cdv A outer s H vs Q E hr h => ?_
  obtain ⟨_, rfl, t, ⟨p, dx, rfl, hp⟩, q⟩ := h
  exact ⟨_, pss_one (ps_ret (pe_fld (pv 0) rfl)), _, rfl, p, C, dx, _, _, rfl, hp, T.cl, T.n1, lk1 t, q⟩
theorem c_North {f : Addr} {fd : FuncData} (T : Txt K mg C) (F : Fun K "north" "Move.north" sNorth f fd) : FnOk P w K mg base CX0 1 f fd ["self"] (spPr C T3.y) := by
  refine F.ok scNorth sp1_len fun cdv A outer s H vs Q E hr h => ?_
  obtain ⟨_, rfl, t, ⟨p, dx, rfl, hp⟩, q⟩ := h
  exact ⟨_, pss_one (ps_ret (pe_fld (pv 0) rfl)), _, rfl, p, C, dx, _, _, rfl, hp, T.cl, T.n2, lk2 t, q⟩
theorem c_Area {f : Addr} {fd : FuncData} (T : Txt K mg C) (F : Fun K "area" "Move.area" sArea f fd) : FnOk P w K mg base CX0 1 f fd ["self"] (spPr C T3.s) := by
  refine F.ok scArea sp1_len fun cdv A outer s H vs Q E hr h => ?_
  obtain ⟨_, rfl, t, ⟨p, dx, rfl, hp⟩, q⟩ := h
  exact ⟨_, pss_one (ps_ret (pe_fld (pv 0) rfl)), _, rfl, p, C, dx, _, _, rfl, hp, T.cl, T.n3, lk3 t, q⟩
section
variable {X : Cx} {e : Expr} {te : TE} {pos : Pos}
theorem pe_east (T : Txt X.K X.mg C) (he : PE X e te) (hr : Room 2 X.A) (hab : attributeBase e "east" X.env (eval e X.env) = eval e X.env) : PE X (.Attribute e "east" pos) (tPr C T3.x te) := by
  obtain ⟨p, f, fd, hp, F, b⟩ := T.east
  exact pe_pr he T.cl hp (c_East T F) b hr hab
theorem pe_north (T : Txt X.K X.mg C) (he : PE X e te) (hr : Room 2 X.A) (hab : attributeBase e "north" X.env (eval e X.env) = eval e X.env) : PE X (.Attribute e "north" pos) (tPr C T3.y te) := by
  obtain ⟨p, f, fd, hp, F, b⟩ := T.north
  exact pe_pr he T.cl hp (c_North T F) b hr hab
theorem pe_area (T : Txt X.K X.mg C) (he : PE X e te) (hr : Room 2 X.A) (hab : attributeBase e "area" X.env (eval e X.env) = eval e X.env) : PE X (.Attribute e "area" pos) (tPr C T3.s te) := by
  obtain ⟨p, f, fd, hp, F, b⟩ := T.area
  exact pe_pr he T.cl hp (c_Area T F) b hr hab
/-- Move(a, b, c) -/
theorem pe_move {es : List Expr} {ta : TA} {p : Pos} (T : Txt X.K X.mg C) (hr : Room 4 X.A) (ha : PA X (e :: es) ta) (hg : Gl X "Move" := by rfl)
    (he : starEach (e :: es) X.env = (false, eval e X.env) :: starEach es X.env := by rfl) (hpl : (backTo pos (starEach es X.env)).any (·.1) = false := by rfl) : PE X (.Call (.Name "Move" p) (e :: es) [] pos) (tMk C ta) := by
  obtain ⟨f, fd, F, M, b⟩ := T.init
  exact pe_mk M (c_Init T F) b T.mgC hr ha hg he hpl
end
/-! ### its text -/
def mtx (t : T3) : Str := Str.empty ++ "areas " ++ toString t.x ++ " " ++ toString t.y ++ " " ++ toString t.s
/-- sizes that a text bears -/
def Sh (t : T3) : Prop := t.x.natAbs.log2 < 1920 ∧ t.y.natAbs.log2 < 1920 ∧ t.s.natAbs.log2 < 1920
theorem Sh.of {n : Nat} {t : T3} (h : Sz3 n t) (k : n ≤ 1900) : Sh t := by
  have l : ∀ {i : Int}, Sz n i → i.natAbs.log2 < 1920 := fun {i} z => by
    by_cases e : i.natAbs = 0
    · rw [e]
      simp
    · exact (Nat.log2_lt e).mpr (Nat.lt_of_lt_of_le z (Nat.pow_le_pow_right (by decide) (by omega)))
  exact ⟨l h.x, l h.y, l h.s⟩
def spStr (C : Addr) : Sp := sp1 fun u H Q => ∃ t, Ob C H u t ∧ Sh t ∧ Q (.str (mtx t)) H
theorem fits {a b : Str} {n m : Nat} (h : a.length ≤ n) (k : b.length ≤ m) : (a ++ b).length ≤ n + m := by
  rw [PySem.Str.length_append]
  omega
theorem c_Str {f : Addr} {fd : FuncData} (T : Txt K mg C) (F : Fun K "__str__" "Move.__str__" sStr f fd) : FnOk P w K mg base CX0 1 f fd ["self"] (spStr C) := by
  refine F.ok scStr sp1_len fun cdv A outer s H vs Q E hr h => ?_
  obtain ⟨_, rfl, t, ⟨p, dx, rfl, hp⟩, ⟨h1, h2, h3⟩, q⟩ := h
  have big : 100000 ≤ sizeLine := by decide
  have l1 := PyProof.Rows.int_text_len_1921 h1
  have l2 := PyProof.Rows.int_text_len_1921 h2
  have l3 := PyProof.Rows.int_text_len_1921 h3
  have a0 : (Str.empty ++ "areas " : Str).length ≤ 6 := by decide +kernel
  have sp0 : (" " : Str).length ≤ 1 := by decide +kernel
  have a1 := fits a0 l1
  have a2 := fits a1 sp0
  have a3 := fits a2 l2
  have a4 := fits a3 sp0
  have a5 := fits a4 l3
  refine ⟨_, pss_one (ps_ret (pe_joined (PJ.cons pe_str (PJ.cons (pe_fmt (pe_fld (pv 0) rfl)) (PJ.cons pe_str (PJ.cons (pe_fmt (pe_fld (pv 0) rfl)) (PJ.cons pe_str (PJ.cons (pe_fmt (pe_fld (pv 0) rfl)) PJ.nil)))))))), ?_⟩
  refine ⟨_, rfl, Nat.le_trans a0 (by omega), _, rfl, p, C, dx, _, _, rfl, hp, T.cl, T.n1, lk1 t, .inr ⟨t.x, rfl, h1, _, rfl, Nat.le_trans a1 (by omega), ?_⟩⟩
  refine ⟨_, rfl, Nat.le_trans a2 (by omega), _, rfl, p, C, dx, _, _, rfl, hp, T.cl, T.n2, lk2 t, .inr ⟨t.y, rfl, h2, _, rfl, Nat.le_trans a3 (by omega), ?_⟩⟩
  refine ⟨_, rfl, Nat.le_trans a4 (by omega), _, rfl, p, C, dx, _, _, rfl, hp, T.cl, T.n3, lk3 t, .inr ⟨t.s, rfl, h3, _, rfl, Nat.le_trans a5 (by omega), ?_⟩⟩
  exact q
/-! ### == -/
def spEqM (C : Addr) : Sp := sp2 fun u v H Q => ∃ t, Ob C H u t ∧ Ob C H v t ∧ Sh t ∧ Q (.bl true) H
theorem c_Eq {f : Addr} {fd : FuncData} (T : Txt K mg C) (F : Fun K "__eq__" "Move.__eq__" sEq f fd) : FnOk P w K mg base CX0 4 f fd ["self", "other"] (spEqM C) := by
  obtain ⟨fs, fds, FS, bs, hs, hf⟩ := T.str_
  have GS : FnOk P w K mg base CX0 1 fs fds ["self"] (spStr C) := c_Str T FS
  refine F.ok scEq sp2_len fun cdv A outer s H vs Q E hr h => ?_
  obtain ⟨_, _, rfl, t, o1, o2, hz, q⟩ := h
  refine ⟨_, pss_one (ps_ret (pe_and (pe_callB (call_is T) rfl T.z_isinstance (by decide +kernel) (pa_cons (pv 1) (pa_cons (pe_glob (v := .ref C) rfl T.mgC rfl) pa_nil)))
    (pe_one (pe_cmpR op_eq (pe_callTy (call_strO GS bs hs hf (hr.mono (by decide))) rfl T.z_str (by decide +kernel) (pa_cons (pv 0) pa_nil)) (pe_callTy (call_strO GS bs hs hf (hr.mono (by decide))) rfl T.z_str (by decide +kernel) (pa_cons (pv 1) pa_nil)) (nomark _))))), ?_⟩
  obtain ⟨p, dx, rfl, hp⟩ := id o1
  obtain ⟨p2, dx2, rfl, hp2⟩ := id o2
  refine ⟨_, rfl, .inr (.inr ⟨_, t, rfl, o2, true, rfl, iteT ?_⟩)⟩
  refine ⟨_, rfl, p, dx, _, rfl, hp, _, rfl, t, o1, hz, _, rfl, _, rfl, p2, dx2, _, rfl, hp2, _, rfl, t, o2, hz, _, rfl, rfl, ?_⟩
  rw [decide_eq_true rfl]
  exact q
end
end Mv
/-! Moves asked: likeness, roots, commuting. -/
namespace Mv
open PySem PySem.Spec PyProof.Rows L2
section
variable {P : Program} {w : World} {K : PySem.W.Frag} {mg : Str → Option Value} {base : Heap} {C : Addr}
/-! ### check_move, check_moves, triple, made_move -/
def spCM (C : Addr) : Sp := sp1 fun u H Q => ∃ t, Ob C H u t ∧ Q .non H
theorem c_CMove (T : Txt K mg C) : Cal P w K mg base "check_move" 1 ["value"] (spCM C) := by
  refine T.dCMove.cal scCMove sp1_len fun f cdv A outer s H vs Q E hr h => ?_
  obtain ⟨_, rfl, t, o, q⟩ := h
  refine ⟨_, pss_one (ps_if (pt_not (pt_val (pe_callB (call_is T) rfl T.z_isinstance (by decide +kernel) (pa_cons (pv 0) (pa_cons (pe_glob (v := .ref C) rfl T.mgC rfl) pa_nil))))) (pss_one ps_never) pss_nil), ?_⟩
  exact ⟨_, rfl, .inr (.inr ⟨_, t, rfl, o, true, rfl, iteF q⟩)⟩
def spCMs (C : Addr) : Sp := sp2 fun u v H Q => ∃ t r, Ob C H u t ∧ Ob C H v r ∧ Q .non H
theorem c_CMoves (T : Txt K mg C) : Cal P w K mg base "check_moves" 2 ["one", "other"] (spCMs C) := by
  have c1 : Cal P w K mg base "check_move" 1 ["value"] (spCM C) := c_CMove T
  refine T.dCMoves.cal scCMoves sp2_len fun f cdv A outer s H vs Q E hr h => ?_
  obtain ⟨_, _, rfl, t, r, o1, o2, q⟩ := h
  refine ⟨_, pss_cons (ps_expr (pe_fn c1 hr (pa_cons (pv 0) pa_nil))) (pss_one (ps_expr (pe_fn c1 hr (pa_cons (pv 1) pa_nil)))), ?_⟩
  exact ⟨_, rfl, _, rfl, t, o1, _, rfl, _, rfl, r, o2, q⟩
def spTriple (C : Addr) : Sp := sp1 fun u H Q => ∃ t, Ob C H u t ∧ ∀ v H', Same H H' → It H' v t → Q v H'
theorem c_Triple (T : Txt K mg C) : Cal P w K mg base "triple" 3 ["one"] (spTriple C) := by
  refine T.dTriple.cal scTriple sp1_len fun f cdv A outer s H vs Q E hr h => ?_
  obtain ⟨_, rfl, t, o, q⟩ := h
  refine ⟨_, pss_one (ps_ret (pe_tup (pa_cons (pe_east T (pv 0) hr rfl) (pa_cons (pe_north T (pv 0) hr rfl) (pa_cons (pe_area T (pv 0) hr rfl) pa_nil))))), ?_⟩
  exact ⟨_, rfl, t, o, _, rfl, t, o, _, rfl, t, o, (by show 3 ≤ sizeLine; decide), fun p hp => q _ _ (same_new hp) ⟨p, rfl, upd_same⟩⟩
def spMade (C : Addr) : Sp := sp1 fun u H Q => ∃ t, It H u t ∧ ∀ v H', Same H H' → Ob C H' v t → Q v H'
theorem c_Made (T : Txt K mg C) : Cal P w K mg base "made_move" 5 ["numbers"] (spMade C) := by
  refine T.dMade.cal scMade sp1_len fun f cdv A outer s H vs Q E hr h => ?_
  obtain ⟨_, rfl, t, o, q⟩ := h
  refine ⟨_, pss_one (ps_ret (pe_move T hr (pa_cons (pe_ix ix_g0 (pv 0) pe_int (fun _ _ => rfl)) (pa_cons (pe_ix ix_g1 (pv 0) pe_int (fun _ _ => rfl)) (pa_cons (pe_ix ix_g2 (pv 0) pe_int (fun _ _ => rfl)) pa_nil))))), ?_⟩
  exact ⟨_, rfl, rfl, t, o, _, rfl, rfl, t, o, _, rfl, rfl, t, o, t, rfl, fun v H2 e ob => q v H2 e ob⟩
/-! ### gap_of -/
def spGap : Sp := sp2 fun u v H Q => ∃ t r, It H u t ∧ It H v r ∧ Sz3 2000 t ∧ Sz3 2000 r ∧ Q (.int (t.x * r.y - r.x * t.y)) H
theorem c_Gap (T : Txt K mg C) : Cal P w K mg base "gap_of" 1 ["one", "other"] spGap := by
  refine T.dGap.cal scGap sp2_len fun f cdv A outer s H vs Q E hr h => ?_
  obtain ⟨_, _, rfl, t, r, o1, o2, h1, h2, q⟩ := h
  refine ⟨_, pss_one (ps_ret (pe_op op_sub (pe_op op_mu (pe_ix ix_g0 (pv 0) pe_int (fun _ _ => rfl)) (pe_ix ix_g1 (pv 1) pe_int (fun _ _ => rfl))) (pe_op op_mu (pe_ix ix_g0 (pv 1) pe_int (fun _ _ => rfl)) (pe_ix ix_g1 (pv 0) pe_int (fun _ _ => rfl))))), ?_⟩
  exact ⟨_, rfl, rfl, t, o1, _, rfl, rfl, r, o2, _, _, 2000, 2000, rfl, rfl, h1.x, h2.y, (by decide), _, rfl, rfl, r, o2, _, rfl, rfl, t, o1, _, _, 2000, 2000, rfl, rfl, h2.x, h1.y, (by decide), _, _, rfl, rfl, q⟩
/-! ### link_of_moves -/
theorem gd_sz {n : Nat} {x y : Int} (h1 : Sz n x) (h2 : Sz n y) : Sz (n + 1) (gd x y) := by
  have a1 := h1.ab
  have a2 := h2.ab
  have b1 := ab_nn x
  unfold Sz gd at *
  rw [Nat.pow_succ]
  by_cases z0 : ab x = 0
  · rw [z0, Int.gcd_zero_right]
    omega
  · have le : (Int.gcd (ab y) (ab x) : Int) ≤ ab x := Int.le_of_dvd (by omega) (Int.gcd_dvd_right (ab y) (ab x))
    omega
theorem Sz.zero {n : Nat} : Sz n 0 := Nat.two_pow_pos n
theorem if_val {t : TT} {ta tb : TE} {σ : L2.St} {H : Hp} {Q : VK} {c : Bool} {v : V} (ht : ∀ R : Bool → Hp → Prop, R c H → t σ H R) (h1 : c = true → ∀ R : VK, R v H → ta σ H R) (h2 : c = false → ∀ R : VK, R v H → tb σ H R) (q : Q v H) : tIf t ta tb σ H Q := by
  refine ht _ ?_
  cases c with
  | true => exact iteT (h1 rfl Q q)
  | false => exact iteF (h2 rfl Q q)
def spLink : Sp := sp2 fun u v H Q => ∃ t r, It H u t ∧ It H v r ∧ Sz3 900 t ∧ Sz3 900 r ∧ (alB t r = false → ∀ H', Same H H' → Q .non H') ∧ (alB t r = true → ∀ v H' c, Same H H' → It H' v c → btw c t = r → Sz3 3000 c → Q v H')
theorem c_Link (T : Txt K mg C) : Cal P w K mg base "link_of_moves" 2 ["one", "other"] spLink := by
  have c1 : Cal P w K mg base "combined" 1 ["one", "other"] spComb := c_Comb T
  have c2 : Cal P w K mg base "is_shared" 1 ["number", "step"] spShared := c_Shared T
  refine T.dLink.cal scLink sp2_len fun f cdv A outer s H vs Q E hr h => ?_
  obtain ⟨_, _, rfl, t, r, o1, o2, h1, h2, q0, q1⟩ := h
  refine ⟨_, pss_cons (ps_if (pt_cmpR (op_ne2 hr.units) (pe_slice sl_cut (pv 0) po_none (po_some pe_int)) (pe_slice sl_cut (pv 1) po_none (po_some pe_int)) (nomark _)) (pss_one (ps_ret pe_non)) pss_nil)
    (pss_cons (ps_par3 (i := 2) (j := 3) (l := 4) (by rfl) scLink.nd rfl rfl rfl (by decide) (by decide) (by decide) rfl rfl rfl
      (pa_cons (pe_ix ix_g0 (pv 0) pe_int (fun _ _ => rfl)) (pa_cons (pe_ix ix_g1 (pv 0) pe_int (fun _ _ => rfl)) (pa_cons (pe_op op_sub (pe_ix ix_g2 (pv 1) pe_int (fun _ _ => rfl)) (pe_ix ix_g2 (pv 0) pe_int (fun _ _ => rfl))) pa_nil))) (by rfl))
    (pss_cons (ps_asg (pe_fn c1 hr (pa_cons (pe_callB call_abs rfl T.z_abs (by decide +kernel) (pa_cons (pv 3) pa_nil)) (pa_cons (pe_callB call_abs rfl T.z_abs (by decide +kernel) (pa_cons (pv 2) pa_nil)) pa_nil)))
      (pg_tup (by rfl) (pgs_cons (pg_name (i := 5) scLink.nd rfl (.inl rfl)) (pgs_cons (pg_name (i := 6) scLink.nd rfl (.inl rfl)) (pgs_cons (pg_name (i := 7) scLink.nd rfl (.inl rfl)) pgs_nil)))))
    (pss_cons (ps_if (pt_not (pt_val (pe_fn c2 hr (pa_cons (pv 4) (pa_cons (pv 5) pa_nil))))) (pss_one (ps_ret pe_non)) pss_nil)
    (pss_cons (ps_set (i := 8) scLink.nd rfl (.inl rfl) (pe_ifExp (pt_cmpR op_gt (pv 5) pe_int (nomark _)) (pe_op op_dv (pv 4) (pv 5)) pe_int))
    (pss_one (ps_ret (pe_tup (pa_cons (pe_ifExp (pt_cmpR op_gt (pv 3) pe_int (nomark _)) (pe_op op_mu (pv 8) (pv 6)) (pe_op op_sub pe_int (pe_op op_mu (pv 8) (pv 6))))
      (pa_cons (pe_ifExp (pt_cmpR op_gt (pv 2) pe_int (nomark _)) (pe_op op_sub pe_int (pe_op op_mu (pv 8) (pv 7))) (pe_op op_mu (pv 8) (pv 7))) (pa_cons pe_int pa_nil)))))))))), ?_⟩
  refine ⟨_, rfl, 2, rfl, rfl, rfl, t, o1, fun p H1 e1 hp => ⟨_, rfl, 2, rfl, rfl, rfl, r, o2.up e1, fun p2 H2 e2 hp2 => ⟨p, p2, _, _, _, _, rfl, rfl, e2 _ _ hp, hp2, _, rfl, ?_⟩⟩⟩
  have e12 := e1.trans e2
  refine ite2 (fun z => ?_) (fun z => ?_)
  · refine q0 ?_ _ e12
    have z : (decide (t.x = r.x) && decide (t.y = r.y)) = false := by
      cases y : (decide (t.x = r.x) && decide (t.y = r.y)) with
      | false => rfl
      | true =>
        rw [y] at z
        cases z
    unfold alB
    rw [← Bool.and_assoc, z, Bool.false_and]
  · have z : (decide (t.x = r.x) && decide (t.y = r.y)) = true := by simpa using z
    have al : alB t r = shB (r.s - t.s) (gd t.x t.y) := by
      unfold alB
      rw [← Bool.and_assoc, z, Bool.true_and]
    refine ⟨_, rfl, rfl, t, o1.up e12, _, rfl, rfl, t, o1.up e12, _, rfl, rfl, r, o2.up e12, _, rfl, rfl, t, o1.up e12, _, _, rfl, rfl, _, _, _, rfl, ?_⟩
    refine ⟨_, rfl, t.y, rfl, _, rfl, t.x, rfl, _, _, rfl, ab t.y, ab t.x, 900, rfl, rfl, ab_nn _, ab_nn _, (by decide), h1.y.ab, h1.x.ab, fun v H3 m e3 hm g1 g2 s1 s2 => ?_⟩
    obtain ⟨pm, rfl, hpm⟩ := id hm
    have mx : m.x = gd t.x t.y := g1
    have me : m.y * ab t.y + m.s * ab t.x = gd t.x t.y := g2
    refine ⟨pm, _, rfl, SqT.of hpm, rfl, _, _, rfl, _, _, rfl, _, _, rfl, rfl, ?_⟩
    have e13 := e12.trans e3
    refine ⟨_, rfl, _, rfl, _, _, rfl, _, _, rfl, rfl, (by rw [mx]; exact gd_nn _ _), _, rfl, ?_⟩
    rw [mx]
    refine ite2 (fun y => ?_) (fun y => ?_)
    · refine q0 ?_ _ e13
      rw [al]
      simpa using y
    · have y : alB t r = true := by
        rw [al]
        simpa using y
      have gS : Sz 901 (gd t.x t.y) := gd_sz h1.x h1.y
      have gapS : Sz 901 (r.s - t.s) := (h2.s.sub h1.s).mono (by decide)
      dsimp only [tNext, tSeq, tAsg]
      refine if_val (v := .int (if 0 < gd t.x t.y then (r.s - t.s) / gd t.x t.y else 0)) (c := decide (0 < gd t.x t.y)) (fun R k => ⟨_, rfl, _, _, rfl, rfl, _, rfl, k⟩) (fun c R k => ?_) (fun c R k => ?_) ?_
      · have c := of_decide_eq_true c
        rw [if_pos c] at k
        exact ⟨_, rfl, _, rfl, _, _, rfl, rfl, c, gS.mono (by decide), k⟩
      · rw [if_neg (of_decide_eq_false c)] at k
        exact k
      have manyS : Sz 901 (if 0 < gd t.x t.y then (r.s - t.s) / gd t.x t.y else 0) := by
        split
        · exact gapS.div (by assumption)
        · exact Sz.zero
      have key := lk_btw y me
      unfold lk at key
      generalize (if 0 < gd t.x t.y then (r.s - t.s) / gd t.x t.y else 0) = many at *
      dsimp only [gName, tRet, tTup, tCons]
      refine if_val (v := .int (if 0 < t.y then many * m.y else 0 - many * m.y)) (c := decide (0 < t.y)) (fun R k => ⟨_, rfl, _, _, rfl, rfl, _, rfl, k⟩) (fun c R k => ?_) (fun c R k => ?_) ?_
      · rw [if_pos (of_decide_eq_true c)] at k
        exact ⟨_, rfl, _, rfl, _, _, 901, 901, rfl, rfl, manyS, s1, (by decide), k⟩
      · rw [if_neg (of_decide_eq_false c)] at k
        exact ⟨_, rfl, _, rfl, _, _, 901, 901, rfl, rfl, manyS, s1, (by decide), _, _, rfl, rfl, k⟩
      try dsimp only [tCons]
      refine if_val (v := .int (if 0 < t.x then 0 - many * m.s else many * m.s)) (c := decide (0 < t.x)) (fun R k => ⟨_, rfl, _, _, rfl, rfl, _, rfl, k⟩) (fun c R k => ?_) (fun c R k => ?_) ?_
      · rw [if_pos (of_decide_eq_true c)] at k
        exact ⟨_, rfl, _, rfl, _, _, 901, 901, rfl, rfl, manyS, s2, (by decide), _, _, rfl, rfl, k⟩
      · rw [if_neg (of_decide_eq_false c)] at k
        exact ⟨_, rfl, _, rfl, _, _, 901, 901, rfl, rfl, manyS, s2, (by decide), k⟩
      have p1 : Sz 1802 (many * m.y) := manyS.mul s1
      have p2 : Sz 1802 (many * m.s) := manyS.mul s2
      have z0 : Sz 0 0 := by
        unfold Sz
        decide
      refine ⟨(by show 3 ≤ sizeLine; decide), fun p hp => q1 y _ _ _ (e13.trans (same_new hp)) ⟨p, rfl, upd_same⟩ key ⟨?_, ?_, ?_⟩⟩
      · show Sz 3000 (if 0 < t.y then many * m.y else 0 - many * m.y)
        split
        · exact p1.mono (by decide)
        · exact (z0.sub p1).mono (by decide)
      · show Sz 3000 (if 0 < t.x then 0 - many * m.s else many * m.s)
        split
        · exact (z0.sub p2).mono (by decide)
        · exact p2.mono (by decide)
      · exact z0.mono (by decide)
end
end Mv
/-! Roots; what the package hands out. -/
namespace Mv
open PySem PySem.Spec PyProof.Rows L2
section
variable {P : Program} {w : World} {K : PySem.W.Frag} {mg : Str → Option Value} {base : Heap} {C : Addr}
/-! ### root_of_move -/
def spRoot : Sp := sp2 fun u v H Q => ∃ t d, It H u t ∧ v = .int d ∧ 0 < d ∧ Sz 600 d ∧ Sz3 600 t ∧ (rtB t d = false → ∀ H', Same H H' → Q .non H') ∧ (rtB t d = true → ∀ v H', Same H H' → It H' v (rt t d) → Q v H')
theorem bl_ne {i j : Int} : (!decide (V.int i = V.int j)) = !decide (i = j) := by rw [dec_i]
theorem or_val {t u : TT} {σ : L2.St} {H : Hp} {Q : Bool → Hp → Prop} {b c : Bool} (ht : ∀ R : Bool → Hp → Prop, R b H → t σ H R) (hu : ∀ R : Bool → Hp → Prop, R c H → u σ H R) (q : Q (b || c) H) : tOr t u σ H Q := by
  refine ht _ ?_
  cases b with
  | true => exact iteT q
  | false => exact iteF (hu Q q)
theorem c_Root (T : Txt K mg C) : Cal P w K mg base "root_of_move" 1 ["one", "degree"] spRoot := by
  refine T.dRoot.cal scRoot sp2_len fun f cdv A outer s H vs Q E hr h => ?_
  obtain ⟨_, _, rfl, t, d, o1, rfl, hd, sd, h1, q0, q1⟩ := h
  refine ⟨_, pss_cons (ps_if (PW.pt (pw_or (pt_cmpR op_ne (pe_op op_mod (pe_ix ix_g0 (pv 0) pe_int (fun _ _ => rfl)) (pv 1)) pe_int (nomark _)) (pw_or1 (pt_cmpR op_ne (pe_op op_mod (pe_ix ix_g1 (pv 0) pe_int (fun _ _ => rfl)) (pv 1)) pe_int (nomark _))))) (pss_one (ps_ret pe_non)) pss_nil)
    (pss_cons (ps_par (i := 2) (j := 3) (by rfl) scRoot.nd rfl rfl (by decide) rfl rfl (pa_cons (pe_op op_dv (pe_ix ix_g0 (pv 0) pe_int (fun _ _ => rfl)) (pv 1)) (pa_cons (pe_op op_dv (pe_ix ix_g1 (pv 0) pe_int (fun _ _ => rfl)) (pv 1)) pa_nil)) (by rfl))
    (pss_cons (ps_set (i := 4) scRoot.nd rfl (.inl rfl) (pe_op op_sub (pe_ix ix_g2 (pv 0) pe_int (fun _ _ => rfl)) (pe_op op_mu (pe_op op_mu (pe_op op_dv (pe_op op_mu (pv 1) (pe_op op_sub (pv 1) pe_int)) pe_int) (pv 2)) (pv 3))))
    (pss_one (ps_ret (pe_ifExp (pt_cmpR op_eq (pe_op op_mod (pv 4) (pv 1)) pe_int (nomark _)) (pe_tup (pa_cons (pv 2) (pa_cons (pv 3) (pa_cons (pe_op op_dv (pv 4) (pv 1)) pa_nil)))) pe_non))))), ?_⟩
  dsimp only [tSeq, tIfS]
  refine or_val (b := !decide (t.x % d = 0)) (c := !decide (t.y % d = 0)) (fun R k => ?_) (fun R k => ?_) ?_
  · refine ⟨_, rfl, rfl, t, o1, _, rfl, _, _, rfl, rfl, hd, rfl, _, rfl, ?_⟩
    rw [bl_ne]
    exact k
  · refine ⟨_, rfl, rfl, t, o1, _, rfl, _, _, rfl, rfl, hd, rfl, _, rfl, ?_⟩
    rw [bl_ne]
    exact k
  refine ite2 (fun z => ?_) (fun z => ?_)
  · refine q0 ?_ _ (Same.refl _)
    unfold rtB
    rw [← Bool.and_assoc]
    cases a : decide (t.x % d = 0) with
    | false => rfl
    | true =>
      cases b : decide (t.y % d = 0) with
      | false => rfl
      | true =>
        rw [a, b] at z
        cases z
  · have key : rtB t d = decide (rtL t d % d = 0) := by
      unfold rtB
      cases a : decide (t.x % d = 0) with
      | false =>
        rw [a] at z
        exact absurd rfl z
      | true =>
        cases b : decide (t.y % d = 0) with
        | false =>
          rw [a, b] at z
          exact absurd rfl z
        | true => rfl
    have d8 : Sz 8000 d := sd.mono (by decide)
    refine ⟨_, rfl, rfl, t, o1, _, rfl, _, _, rfl, rfl, hd, d8, _, rfl, rfl, t, o1, _, rfl, _, _, rfl, rfl, hd, d8, _, _, rfl, ?_⟩
    have one : Sz 1 1 := by
      unfold Sz
      decide
    have d1 : Sz 602 (d - 1) := (sd.sub one).mono (by decide)
    have tr : Sz 1202 (tri d) := (sd.mul d1).div (by decide)
    have qx : Sz 600 (t.x / d) := h1.x.div hd
    have qy : Sz 600 (t.y / d) := h1.y.div hd
    refine ⟨_, rfl, rfl, t, o1, _, rfl, _, rfl, _, _, rfl, rfl, _, _, 600, 602, rfl, rfl, sd, d1, (by decide), _, _, rfl, rfl, (by decide), (Sz.mono (m := 2) (by unfold Sz; decide) (by decide)), _, rfl, _, _, 1202, 600, rfl, rfl, tr, qx, (by decide), _, rfl, _, _, 1802, 600, rfl, rfl, tr.mul qx, qy, (by decide), _, _, rfl, rfl, ?_⟩
    refine ⟨_, rfl, _, rfl, _, _, rfl, rfl, hd, rfl, _, rfl, ?_⟩
    rw [dec_i]
    refine ite2 (fun y => ?_) (fun y => ?_)
    · have y2 : rtB t d = true := key.trans y
      exact ⟨_, rfl, _, rfl, _, rfl, _, rfl, _, _, rfl, rfl, hd, d8, (by show 3 ≤ sizeLine; decide), fun p hp => q1 y2 _ _ (same_new hp) ⟨p, rfl, upd_same⟩⟩
    · refine q0 (key.trans ?_) _ (Same.refl _)
      cases a : decide (rtL t d % d = 0) with
      | false => rfl
      | true => exact absurd a y
/-! ### is_move_alike, move_alike, do_moves_commute, move_root -/
theorem notnon {p : Addr} : (!decide (V.ref p = V.non)) = true := by
  rw [decide_eq_false (fun z => nomatch z)]
  rfl
def spIsAl (C : Addr) : Sp := sp2 fun u v H Q => ∃ t r, Ob C H u t ∧ Ob C H v r ∧ Sz3 900 t ∧ Sz3 900 r ∧ ∀ H', Same H H' → Q (.bl (alB t r)) H'
theorem c_IsAl (T : Txt K mg C) : Kal P w K mg base "is_move_alike" 4 "one" "other" (spIsAl C) := by
  have c1 : Cal P w K mg base "check_moves" 2 ["one", "other"] (spCMs C) := c_CMoves T
  have c2 : Cal P w K mg base "link_of_moves" 2 ["one", "other"] spLink := c_Link T
  have c3 : Cal P w K mg base "triple" 3 ["one"] (spTriple C) := c_Triple T
  refine T.dIsAl.kal scIsAl sp2_len fun f cdv A outer s H vs Q E hr h => ?_
  obtain ⟨_, _, rfl, t, r, o1, o2, h1, h2, q⟩ := h
  refine ⟨_, pss_cons (ps_expr (pe_fn c1 (hr.mono (by decide)) (pa_cons (pv 0) (pa_cons (pv 1) pa_nil)))) (pss_one (ps_ret (pe_cmpR op_notN (pe_fn c2 (hr.mono (by decide)) (pa_cons (pe_fn c3 hr (pa_cons (pv 0) pa_nil)) (pa_cons (pe_fn c3 hr (pa_cons (pv 1) pa_nil)) pa_nil))) pe_non (nomark _)))), ?_⟩
  refine ⟨_, rfl, _, rfl, _, _, rfl, t, r, o1, o2, ?_⟩
  refine ⟨_, rfl, _, rfl, t, o1, fun a H1 e1 i1 => ⟨_, rfl, _, rfl, r, o2.up e1, fun b H2 e2 i2 => ⟨_, _, rfl, t, r, i1.up e2, i2, h1, h2, fun y H3 e3 => ⟨rfl, ?_⟩, fun y v H3 c e3 ic _ _ => ⟨rfl, ?_⟩⟩⟩⟩
  · have z := q _ ((e1.trans e2).trans e3)
    rw [y] at z
    exact z
  · have z := q _ ((e1.trans e2).trans e3)
    rw [y] at z
    obtain ⟨p, rfl, _⟩ := ic
    rw [notnon]
    exact z
def spAl (C : Addr) : Sp := sp2 fun u v H Q => ∃ t r, Ob C H u t ∧ Ob C H v r ∧ Sz3 900 t ∧ Sz3 900 r ∧ (alB t r = false → ∀ H', Same H H' → Q .non H') ∧ (alB t r = true → ∀ v H' c, Same H H' → Ob C H' v c → btw c t = r → Sz3 3000 c → Q v H')
theorem c_Al (T : Txt K mg C) : Kal P w K mg base "move_alike" 6 "one" "other" (spAl C) := by
  have c1 : Cal P w K mg base "check_moves" 2 ["one", "other"] (spCMs C) := c_CMoves T
  have c2 : Cal P w K mg base "link_of_moves" 2 ["one", "other"] spLink := c_Link T
  have c3 : Cal P w K mg base "triple" 3 ["one"] (spTriple C) := c_Triple T
  have c4 : Cal P w K mg base "made_move" 5 ["numbers"] (spMade C) := c_Made T
  refine T.dAl.kal scAl sp2_len fun f cdv A outer s H vs Q E hr h => ?_
  obtain ⟨_, _, rfl, t, r, o1, o2, h1, h2, q0, q1⟩ := h
  refine ⟨_, pss_cons (ps_expr (pe_fn c1 (hr.mono (by decide)) (pa_cons (pv 0) (pa_cons (pv 1) pa_nil))))
    (pss_cons (ps_set (i := 2) scAl.nd rfl (.inl rfl) (pe_fn c2 (hr.mono (by decide)) (pa_cons (pe_fn c3 (hr.mono (by decide)) (pa_cons (pv 0) pa_nil)) (pa_cons (pe_fn c3 (hr.mono (by decide)) (pa_cons (pv 1) pa_nil)) pa_nil))))
    (pss_one (ps_ret (pe_ifExp (pt_cmpR op_isN (pv 2) pe_non (nomark _)) pe_non (pe_fn c4 hr (pa_cons (pv 2) pa_nil)))))), ?_⟩
  refine ⟨_, rfl, _, rfl, _, _, rfl, t, r, o1, o2, ?_⟩
  refine ⟨_, rfl, _, rfl, t, o1, fun a H1 e1 i1 => ⟨_, rfl, _, rfl, r, o2.up e1, fun b H2 e2 i2 => ⟨_, _, rfl, t, r, i1.up e2, i2, h1, h2, fun y H3 e3 => ?_, fun y v H3 c e3 ic hb hz => ?_⟩⟩⟩
  · exact ⟨_, rfl, rfl, _, rfl, iteT (q0 y _ ((e1.trans e2).trans e3))⟩
  · obtain ⟨p, rfl, hp⟩ := id ic
    exact ⟨_, rfl, rfl, _, rfl, iteF ⟨_, rfl, _, rfl, c, ic, fun v H4 e4 ob => q1 y v H4 c (((e1.trans e2).trans e3).trans e4) ob hb hz⟩⟩
def spCom (C : Addr) : Sp := sp2 fun u v H Q => ∃ t r, Ob C H u t ∧ Ob C H v r ∧ Sz3 900 t ∧ Sz3 900 r ∧ ∀ H', Same H H' → Q (.bl (decide (t.x * r.y - r.x * t.y = 0))) H'
theorem c_Com (T : Txt K mg C) : Kal P w K mg base "do_moves_commute" 4 "one" "other" (spCom C) := by
  have c1 : Cal P w K mg base "check_moves" 2 ["one", "other"] (spCMs C) := c_CMoves T
  have c2 : Cal P w K mg base "gap_of" 1 ["one", "other"] spGap := c_Gap T
  have c3 : Cal P w K mg base "triple" 3 ["one"] (spTriple C) := c_Triple T
  refine T.dCom.kal scCom sp2_len fun f cdv A outer s H vs Q E hr h => ?_
  obtain ⟨_, _, rfl, t, r, o1, o2, h1, h2, q⟩ := h
  refine ⟨_, pss_cons (ps_expr (pe_fn c1 (hr.mono (by decide)) (pa_cons (pv 0) (pa_cons (pv 1) pa_nil)))) (pss_one (ps_ret (pe_cmpR op_eq (pe_fn c2 (hr.mono (by decide)) (pa_cons (pe_fn c3 hr (pa_cons (pv 0) pa_nil)) (pa_cons (pe_fn c3 hr (pa_cons (pv 1) pa_nil)) pa_nil))) pe_int (nomark _)))), ?_⟩
  refine ⟨_, rfl, _, rfl, _, _, rfl, t, r, o1, o2, ?_⟩
  refine ⟨_, rfl, _, rfl, t, o1, fun a H1 e1 i1 => ⟨_, rfl, _, rfl, r, o2.up e1, fun b H2 e2 i2 => ⟨_, _, rfl, t, r, i1.up e2, i2, h1.mono (by decide), h2.mono (by decide), rfl, ?_⟩⟩⟩
  rw [dec_i]
  exact q _ (e1.trans e2)
def spMRoot (C : Addr) : Sp := sp2 fun u v H Q => ∃ t d, Ob C H u t ∧ v = .int d ∧ 0 < d ∧ Sz 600 d ∧ Sz3 600 t ∧ (rtB t d = false → ∀ H', Same H H' → Q .non H') ∧ (rtB t d = true → ∀ v H', Same H H' → Ob C H' v (rt t d) → Q v H')
theorem c_MRoot (T : Txt K mg C) : Kal P w K mg base "move_root" 6 "one" "degree" (spMRoot C) := by
  have c1 : Cal P w K mg base "check_move" 1 ["value"] (spCM C) := c_CMove T
  have c2 : Cal P w K mg base "root_of_move" 1 ["one", "degree"] spRoot := c_Root T
  have c3 : Cal P w K mg base "triple" 3 ["one"] (spTriple C) := c_Triple T
  have c4 : Cal P w K mg base "made_move" 5 ["numbers"] (spMade C) := c_Made T
  have c5 : Cal P w K mg base "is_integer" 1 ["value"] spIsInt := c_IsInt T
  refine T.dMRoot.kal scMRoot sp2_len fun f cdv A outer s H vs Q E hr h => ?_
  obtain ⟨_, _, rfl, t, d, o1, rfl, hd, sd, h1, q0, q1⟩ := h
  refine ⟨_, pss_cons (ps_expr (pe_fn c1 (hr.mono (by decide)) (pa_cons (pv 0) pa_nil)))
    (pss_cons (ps_if (PW.pt (pw_or (pt_not (pt_val (pe_fn c5 (hr.mono (by decide)) (pa_cons (pv 1) pa_nil)))) (pw_or1 (pt_cmpR op_lt (pv 1) pe_int (nomark _))))) (pss_one ps_never) pss_nil)
    (pss_cons (ps_set (i := 2) scMRoot.nd rfl (.inl rfl) (pe_fn c2 (hr.mono (by decide)) (pa_cons (pe_fn c3 (hr.mono (by decide)) (pa_cons (pv 0) pa_nil)) (pa_cons (pv 1) pa_nil))))
    (pss_one (ps_ret (pe_ifExp (pt_cmpR op_isN (pv 2) pe_non (nomark _)) pe_non (pe_fn c4 hr (pa_cons (pv 2) pa_nil))))))), ?_⟩
  refine ⟨_, rfl, _, rfl, t, o1, ?_⟩
  refine ⟨_, rfl, _, rfl, d, rfl, true, rfl, iteF ⟨_, rfl, _, _, rfl, rfl, _, rfl, ?_⟩⟩
  rw [decide_eq_false (show ¬ d < 1 by omega)]
  refine iteF ?_
  refine ⟨_, rfl, _, rfl, t, o1, fun a H1 e1 i1 => ⟨_, rfl, _, _, rfl, t, d, i1, rfl, hd, sd, h1, fun y H3 e3 => ?_, fun y v H3 e3 ic => ?_⟩⟩
  · exact ⟨_, rfl, rfl, _, rfl, iteT (q0 y _ (e1.trans e3))⟩
  · obtain ⟨p, rfl, hp⟩ := id ic
    exact ⟨_, rfl, rfl, _, rfl, iteF ⟨_, rfl, _, rfl, _, ic, fun v H4 e4 ob => q1 y v H4 ((e1.trans e3).trans e4) ob⟩⟩
end
end Mv
/-! The law's own helpers: numbers put behind one another, done often; the reel of draws. -/
namespace Mv
open PySem PySem.Spec PyProof.Rows L2
section
variable {P : Program} {w : World} {K : PySem.W.Frag} {mg : Str → Option Value} {base : Heap} {C : Addr}
/-! ### put, off, between -/
def spPut : Sp := sp2 fun u v H Q => ∃ t r, It H u t ∧ It H v r ∧ Sz3 40000 t ∧ Sz3 40000 r ∧ ∀ v H', Same H H' → It H' v (put t r) → Q v H'
theorem c_Put (T : Txt K mg C) : Cal P w K mg base "_law_put" 1 ["_law_left", "_law_right_here"] spPut := by
  refine T.dPut.cal scPut sp2_len fun f cdv A outer s H vs Q E hr h => ?_
  obtain ⟨_, _, rfl, t, r, o1, o2, h1, h2, q⟩ := h
  refine ⟨_, pss_one (ps_ret (pe_tup (pa_cons (pe_op op_add (pe_ix ix_g0 (pv 0) pe_int (fun _ _ => rfl)) (pe_ix ix_g0 (pv 1) pe_int (fun _ _ => rfl)))
    (pa_cons (pe_op op_add (pe_ix ix_g1 (pv 0) pe_int (fun _ _ => rfl)) (pe_ix ix_g1 (pv 1) pe_int (fun _ _ => rfl)))
    (pa_cons (pe_op op_add (pe_op op_add (pe_ix ix_g2 (pv 0) pe_int (fun _ _ => rfl)) (pe_ix ix_g2 (pv 1) pe_int (fun _ _ => rfl))) (pe_op op_mu (pe_ix ix_g0 (pv 0) pe_int (fun _ _ => rfl)) (pe_ix ix_g1 (pv 1) pe_int (fun _ _ => rfl)))) pa_nil))))), ?_⟩
  refine ⟨_, rfl, rfl, t, o1, _, rfl, rfl, r, o2, _, _, rfl, rfl, _, rfl, rfl, t, o1, _, rfl, rfl, r, o2, _, _, rfl, rfl, ?_⟩
  refine ⟨_, rfl, rfl, t, o1, _, rfl, rfl, r, o2, _, _, rfl, rfl, _, rfl, rfl, t, o1, _, rfl, rfl, r, o2, _, _, 40000, 40000, rfl, rfl, h1.x, h2.y, (by decide), _, _, rfl, rfl, ?_⟩
  exact ⟨(by show 3 ≤ sizeLine; decide), fun p hp => q _ _ (same_new hp) ⟨p, rfl, upd_same⟩⟩
def spOff : Sp := sp1 fun u H Q => ∃ t, It H u t ∧ Sz3 40000 t ∧ ∀ v H', Same H H' → It H' v (off t) → Q v H'
theorem c_Off (T : Txt K mg C) : Cal P w K mg base "_law_off" 1 ["_law_trip_here"] spOff := by
  refine T.dOff.cal scOff sp1_len fun f cdv A outer s H vs Q E hr h => ?_
  obtain ⟨_, rfl, t, o1, h1, q⟩ := h
  refine ⟨_, pss_one (ps_ret (pe_tup (pa_cons (pe_op op_sub pe_int (pe_ix ix_g0 (pv 0) pe_int (fun _ _ => rfl))) (pa_cons (pe_op op_sub pe_int (pe_ix ix_g1 (pv 0) pe_int (fun _ _ => rfl)))
    (pa_cons (pe_op op_sub (pe_op op_mu (pe_ix ix_g0 (pv 0) pe_int (fun _ _ => rfl)) (pe_ix ix_g1 (pv 0) pe_int (fun _ _ => rfl))) (pe_ix ix_g2 (pv 0) pe_int (fun _ _ => rfl))) pa_nil))))), ?_⟩
  refine ⟨_, rfl, rfl, t, o1, _, _, rfl, rfl, _, rfl, rfl, t, o1, _, _, rfl, rfl, ?_⟩
  refine ⟨_, rfl, rfl, t, o1, _, rfl, rfl, t, o1, _, _, 40000, 40000, rfl, rfl, h1.x, h1.y, (by decide), _, rfl, rfl, t, o1, _, _, rfl, rfl, ?_⟩
  exact ⟨(by show 3 ≤ sizeLine; decide), fun p hp => q _ _ (same_new hp) ⟨p, rfl, upd_same⟩⟩
def spBtw : Sp := sp2 fun u v H Q => ∃ c t, It H u c ∧ It H v t ∧ Sz3 9000 c ∧ Sz3 9000 t ∧ ∀ v H', Same H H' → It H' v (btw c t) → Q v H'
theorem c_Btw (T : Txt K mg C) : Cal P w K mg base "_law_between" 2 ["_law_by", "_law_trip_here"] spBtw := by
  have c1 : Cal P w K mg base "_law_put" 1 ["_law_left", "_law_right_here"] spPut := c_Put T
  have c2 : Cal P w K mg base "_law_off" 1 ["_law_trip_here"] spOff := c_Off T
  refine T.dBtw.cal scBtw sp2_len fun f cdv A outer s H vs Q E hr h => ?_
  obtain ⟨_, _, rfl, c, t, o1, o2, h1, h2, q⟩ := h
  refine ⟨_, pss_one (ps_ret (pe_fn c1 hr (pa_cons (pe_fn c1 hr (pa_cons (pv 0) (pa_cons (pv 1) pa_nil))) (pa_cons (pe_fn c2 hr (pa_cons (pv 0) pa_nil)) pa_nil)))), ?_⟩
  refine ⟨_, rfl, _, rfl, _, _, rfl, c, t, o1, o2, h1.mono (by decide), h2.mono (by decide), fun a H1 e1 i1 => ?_⟩
  refine ⟨_, rfl, _, rfl, c, o1.up e1, h1.mono (by decide), fun b H2 e2 i2 => ?_⟩
  exact ⟨_, _, rfl, _, _, i1.up e2, i2, (h1.put h2).mono (by decide), h1.off.mono (by decide), fun v H3 e3 i3 => q v H3 ((e1.trans e2).trans e3) i3⟩
/-! ### done often -/
theorem if_post {t : TT} {ta tb : TE} {σ : L2.St} {H : Hp} {Q : VK} {c : Bool} (PV : V → Hp → Prop) (ht : ∀ R : Bool → Hp → Prop, R c H → t σ H R) (h1 : c = true → ∀ R : VK, (∀ v H', PV v H' → R v H') → ta σ H R)
    (h2 : c = false → ∀ R : VK, (∀ v H', PV v H' → R v H') → tb σ H R) (q : ∀ v H', PV v H' → Q v H') : tIf t ta tb σ H Q := by
  refine ht _ ?_
  cases c with
  | true => exact iteT (h1 rfl Q q)
  | false => exact iteF (h2 rfl Q q)
def spPower : Sp := sp2 fun u v H Q => ∃ t n, It H u t ∧ v = .int n ∧ 0 ≤ n ∧ n < 2 ^ 70 ∧ Sz3 100 t ∧ ∀ v H', Same H H' → It H' v (pw t n) → Q v H'
theorem two_le {i j : Nat} (h : i ≤ j) : (2 : Int) ^ i ≤ 2 ^ j := by
  have := Nat.pow_le_pow_right (n := 2) (by decide) h
  have e1 : (((2 : Nat) ^ i : Nat) : Int) = 2 ^ i := by simp
  have e2 : (((2 : Nat) ^ j : Nat) : Int) = 2 ^ j := by simp
  omega
theorem two_pos (i : Nat) : (0 : Int) < 2 ^ i := by
  have := Nat.two_pow_pos i
  have e1 : (((2 : Nat) ^ i : Nat) : Int) = 2 ^ i := by simp
  omega
theorem sz_two {n : Int} {i : Nat} (h0 : 0 ≤ n) (h : n ≤ 2 ^ i) : Sz (i + 1) n := by
  have e1 : (((2 : Nat) ^ i : Nat) : Int) = 2 ^ i := by simp
  exact sz_le (by omega) (by omega)
/-- one more figure -/
theorem half_step {n : Int} (i : Nat) (h0 : 0 ≤ n) : n / 2 ^ i / 2 = n / 2 ^ (i + 1) ∧ n % 2 ^ (i + 1) = n % 2 ^ i + (n / 2 ^ i % 2) * 2 ^ i := by
  have hp := two_pos i
  have e : (2 : Int) ^ (i + 1) = 2 ^ i * 2 := Int.pow_succ 2 i
  have dd : n / 2 ^ i / 2 = n / (2 ^ i * 2) := Int.ediv_ediv_of_nonneg (by omega)
  refine ⟨by rw [e, dd], ?_⟩
  rw [e]
  have a1 := Int.emod_def n (2 ^ i * 2)
  have a2 := Int.emod_def n (2 ^ i)
  have a3 := Int.emod_def (n / 2 ^ i) 2
  rw [a1, a2, a3, ← dd]
  grind
/-- a small divisor is C's own -/
theorem small_div {i j : Int} (h0 : 0 < j) (h : j ≤ 1000) : CDivP i j := by
  have l : j.natAbs.log2 < 10 := (Nat.log2_lt (by omega)).mpr (by omega)
  have k : ¬ (if j == 0 then 0 else j.natAbs.log2 / 30 + 1) > 300 := by
    split <;> omega
  refine ⟨h0, ?_⟩
  show (decide ((if j == 0 then 0 else j.natAbs.log2 / 30 + 1) > 300) && decide ((if i == 0 then 0 else i.natAbs.log2 / 30 + 1) > (if j == 0 then 0 else j.natAbs.log2 / 30 + 1) + 150)) = false
  rw [decide_eq_false k, Bool.false_and]
theorem c_Power (T : Txt K mg C) : Cal P w K mg base "_law_power" 2 ["_law_trip_here", "_law_count"] spPower := by
  have c1 : Cal P w K mg base "_law_put" 1 ["_law_left", "_law_right_here"] spPut := c_Put T
  have c2 : Cal P w K mg base "_law_off" 1 ["_law_trip_here"] spOff := c_Off T
  refine T.dPower.cal scPower sp2_len fun f cdv A outer s H vs Q E hr h => ?_
  obtain ⟨tv, _, rfl, t, n, o1, rfl, hn, hn2, h1, q⟩ := h
  refine ⟨_, pss_cons (ps_par3 (i := 2) (j := 3) (l := 4) (by rfl) scPower.nd rfl rfl rfl (by decide) (by decide) (by decide) rfl rfl rfl
      (pa_cons (pe_ifExp (pt_cmpR op_ge (pv 1) pe_int (nomark _)) (pv 0) (pe_fn c2 hr (pa_cons (pv 0) pa_nil))) (pa_cons (pe_tup (pa_cons pe_int (pa_cons pe_int (pa_cons pe_int pa_nil)))) (pa_cons (pe_callB call_abs rfl T.z_abs (by decide +kernel) (pa_cons (pv 1) pa_nil)) pa_nil))) (by rfl))
    (pss_cons (ps_for PassesOwn.never rfl (pi_range1 rfl T.z_range (pa_cons pe_int pa_nil)) (pg_name (i := 5) scPower.nd rfl (.inl rfl))
      (pss_cons (ps_if (pt_cmpR op_eq (pv 4) pe_int (nomark _)) (pss_one ps_break) pss_nil)
      (pss_cons (ps_asg (pe_callB call_divmodW rfl T.z_divmod (by decide +kernel) (pa_cons (pv 4) (pa_cons pe_int pa_nil))) (pg_tup (by rfl) (pgs_cons (pg_name (i := 4) scPower.nd rfl (.inl rfl)) (pgs_cons (pg_name (i := 6) scPower.nd rfl (.inl rfl)) pgs_nil))))
      (pss_cons (ps_set (i := 3) scPower.nd rfl (.inl rfl) (pe_ifExp (pt_cmpR op_eq (pv 6) pe_int (nomark _)) (pe_fn c1 hr (pa_cons (pv 3) (pa_cons (pv 2) pa_nil))) (pv 3)))
      (pss_one (ps_set (i := 2) scPower.nd rfl (.inl rfl) (pe_fn c1 hr (pa_cons (pv 2) (pa_cons (pv 2) pa_nil)))))))))
    (pss_one (ps_ret (pv 3)))), ?_⟩
  refine ⟨_, rfl, _, _, rfl, rfl, _, rfl, ?_⟩
  rw [decide_eq_true hn]
  refine iteT ⟨_, rfl, (by show 3 ≤ sizeLine; decide), fun p0 hp0 => ⟨_, rfl, n, rfl, _, _, _, rfl, ?_⟩⟩
  rw [if_neg (show ¬ n < 0 by omega)]
  have e0 : Same H (upd H p0 (.tup (tpV ⟨0, 0, 0⟩))) := same_new hp0
  refine ⟨900, rfl, (by decide), (by decide), for_range (lo := 0) (n := 900) (fun i σ' H' => i ≤ 70 ∧ ∃ u v z5 z6, σ' = [some tv, some (.int n), some u, some v, some (.int (n / 2 ^ i)), z5, z6] ∧ It H' u (pw t (2 ^ i)) ∧ It H' v (pw t (n % 2 ^ i)) ∧ Same H H') ?_ ?_ ?_⟩
  · refine ⟨by decide, tv, .ref p0, none, none, ?_, ?_, ?_, e0⟩
    · have e : n / 2 ^ 0 = n := by simp
      rw [e]
      rfl
    · have e : pw t (2 ^ 0) = t := by
        simp [pw_one]
      rw [e]
      exact o1.up e0
    · have e : pw t (n % 2 ^ 0) = ⟨0, 0, 0⟩ := by
        rw [show n % 2 ^ 0 = 0 by simp [Int.emod_one]]
        exact pw_zero t
      rw [e]
      exact ⟨p0, rfl, upd_same⟩
  · rintro i σ' H' hi ⟨hi70, u, v, z5, z6, rfl, iu, iv, eS⟩
    have hp := two_pos i
    have q0 : 0 ≤ n / 2 ^ i := Int.ediv_nonneg hn (Int.le_of_lt hp)
    refine ⟨_, rfl, rfl, _, rfl, ?_⟩
    rw [dec_i]
    refine ite2 (fun z => ?_) (fun z => ?_)
    · have z : n / 2 ^ i = 0 := of_decide_eq_true z
      have lt : n < 2 ^ i := (by
        have d1 := Int.emod_def n (2 ^ i)
        have d2 := Int.emod_lt_of_pos n hp
        rw [z, Int.mul_zero] at d1
        omega)
      rw [Int.emod_eq_of_lt hn lt] at iv
      exact ⟨_, rfl, q v H' eS iv⟩
    · have z : ¬ n / 2 ^ i = 0 := fun y => z (decide_eq_true y)
      have hi69 : i < 70 := by
        by_cases y : i < 70
        · exact y
        · exfalso
          have e : i = 70 := by omega
          rw [e] at z
          exact z (Int.ediv_eq_zero_of_lt hn hn2)
      obtain ⟨st1, st2⟩ := half_step i hn
      have s2 : Sz 70 ((2 : Int) ^ i) := (sz_two (Int.le_of_lt hp) (Int.le_refl _)).mono (by omega)
      have m0 : 0 ≤ n % 2 ^ i := Int.emod_nonneg n (by omega)
      have m1 : n % 2 ^ i < 2 ^ i := Int.emod_lt_of_pos n hp
      have s3 : Sz 70 (n % 2 ^ i) := (sz_two m0 (Int.le_of_lt m1)).mono (by omega)
      refine ⟨_, rfl, _, _, rfl, small_div (by decide) (by decide), fun pd hpd => ?_⟩
      have eD : Same H' (upd H' pd (.tup [.int (n / 2 ^ i / 2), .int (n / 2 ^ i % 2)])) := same_new hpd
      refine ⟨pd, _, rfl, SqT.of upd_same, rfl, _, _, rfl, _, _, rfl, rfl, ?_⟩
      dsimp only [tSeq, tAsg]
      have pu : Sz3 (70 + 70 + 100 + 100 + 3) (pw t (2 ^ i)) := h1.pw s2
      have pvz : Sz3 (70 + 70 + 100 + 100 + 3) (pw t (n % 2 ^ i)) := h1.pw s3
      refine if_post (fun v2 H2 => Same H' H2 ∧ It H2 v2 (pw t (n % 2 ^ (i + 1)))) (c := decide (n / 2 ^ i % 2 = 1)) (fun R k => ⟨_, rfl, rfl, _, rfl, by rw [dec_i]; exact k⟩) (fun y R k => ?_) (fun y R k => ?_) (fun v2 H2 ⟨e2, i2⟩ => ?_)
      · have y : n / 2 ^ i % 2 = 1 := of_decide_eq_true y
        rw [y, Int.one_mul] at st2
        refine ⟨_, rfl, _, rfl, _, _, rfl, _, _, iv.up eD, iu.up eD, pvz.mono (by decide), pu.mono (by decide), fun a H3 e3 i3 => ?_⟩
        rw [pw_add, ← st2] at i3
        exact k _ _ ⟨eD.trans e3, i3⟩
      · have y2 : n / 2 ^ i % 2 = 0 := by
          have y1 : ¬ n / 2 ^ i % 2 = 1 := of_decide_eq_false y
          omega
        rw [y2, Int.zero_mul, Int.add_zero] at st2
        refine ⟨_, rfl, k _ _ ⟨eD, ?_⟩⟩
        rw [st2]
        exact iv.up eD
      · refine ⟨_, rfl, _, rfl, _, _, rfl, _, _, iu.up e2, iu.up e2, pu.mono (by decide), pu.mono (by decide), fun a H3 e3 i3 => ?_⟩
        rw [pw_add] at i3
        have ee : (2 : Int) ^ i + 2 ^ i = 2 ^ (i + 1) := by
          rw [Int.pow_succ]
          omega
        rw [ee] at i3
        exact ⟨by omega, a, v2, _, _, by rw [← st1]; rfl, i3, i2.up e3, (eS.trans e2).trans e3⟩
  · rintro σ' H' ⟨h70, _⟩
    exact absurd h70 (by decide)
end
end Mv
/-! The law's draws. -/
namespace Mv
open PySem PySem.Spec PyProof.Rows L2
section
variable {P : Program} {w : World} {K : PySem.W.Frag} {mg : Str → Option Value} {base : Heap} {C : Addr}
/-! ### _law_move, _law_three -/
theorem c_Move (T : Txt K mg C) : Cal P w K mg base "_law_move" 5 ["_law_trip_here"] (spMade C) := by
  refine T.dMove.cal scMove sp1_len fun f cdv A outer s H vs Q E hr h => ?_
  obtain ⟨_, rfl, t, o, q⟩ := h
  refine ⟨_, pss_one (ps_ret (pe_move T hr (pa_cons (pe_ix ix_g0 (pv 0) pe_int (fun _ _ => rfl)) (pa_cons (pe_ix ix_g1 (pv 0) pe_int (fun _ _ => rfl)) (pa_cons (pe_ix ix_g2 (pv 0) pe_int (fun _ _ => rfl)) pa_nil))))), ?_⟩
  exact ⟨_, rfl, rfl, t, o, _, rfl, rfl, t, o, _, rfl, rfl, t, o, t, rfl, fun v H2 e ob => q v H2 e ob⟩
theorem c_Three (T : Txt K mg C) : Cal P w K mg base "_law_three" 3 ["_law_made"] (spTriple C) := by
  refine T.dThree.cal scThree sp1_len fun f cdv A outer s H vs Q E hr h => ?_
  obtain ⟨_, rfl, t, o, q⟩ := h
  refine ⟨_, pss_one (ps_ret (pe_tup (pa_cons (pe_east T (pv 0) hr rfl) (pa_cons (pe_north T (pv 0) hr rfl) (pa_cons (pe_area T (pv 0) hr rfl) pa_nil))))), ?_⟩
  exact ⟨_, rfl, t, o, _, rfl, t, o, _, rfl, t, o, (by show 3 ≤ sizeLine; decide), fun p hp => q _ _ (same_new hp) ⟨p, rfl, upd_same⟩⟩
/-! ### the reel -/
/-- the reel at a, at most k figures drawn by mixing -/
def Reel (H : Hp) (a : Addr) (k : Nat) : Prop := ∃ n m c : Int, H a = some (.lst [.int n, .int m, .int c]) ∧ 0 ≤ n ∧ 0 ≤ m ∧ m < 2147480009 ∧ 0 ≤ c ∧ c ≤ k
/-- all but the object at a stands -/
def But (a : Addr) (H H' : Hp) : Prop := ∀ b o, b ≠ a → H b = some o → H' b = some o
theorem But.refl (a : Addr) (H : Hp) : But a H H := fun _ _ _ e => e
theorem But.trans {a : Addr} {H H1 H2 : Hp} (e : But a H H1) (f : But a H1 H2) : But a H H2 := fun b o n h => f b o n (e b o n h)
theorem But.of {a : Addr} {H H' : Hp} (e : Same H H') : But a H H' := fun b o _ h => e b o h
theorem But.same {a : Addr} {H H1 H2 : Hp} (e : But a H H1) (f : Same H1 H2) : But a H H2 := fun b o n h => f b o (e b o n h)
theorem But.upd {a : Addr} {H : Hp} {o : HO} : But a H (upd H a o) := fun b u n h => by rw [upd_ne n]; exact h
theorem Reel.up {H H' : Hp} {a : Addr} {k : Nat} (h : Reel H a k) (e : Same H H') : Reel H' a k := let ⟨n, m, c, h1, r⟩ := h; ⟨n, m, c, e _ _ h1, r⟩
theorem Reel.mono {H : Hp} {a : Addr} {j k : Nat} (h : Reel H a j) (l : j ≤ k) : Reel H a k := let ⟨n, m, c, h1, h2, h3, h4, h5, h6⟩ := h; ⟨n, m, c, h1, h2, h3, h4, h5, by omega⟩
theorem Reel.lst {H : Hp} {a : Addr} {k : Nat} (h : Reel H a k) : ∃ xs, H a = some (.lst xs) := let ⟨_, _, _, h1, _⟩ := h; ⟨_, h1⟩
/-- a tuple, a move stands through draws -/
theorem It.but {H H' : Hp} {a : Addr} {k : Nat} {v : V} {t : T3} (h : It H v t) (r : Reel H a k) (e : But a H H') : It H' v t := by
  obtain ⟨p, hv, hp⟩ := h
  obtain ⟨xs, hx⟩ := r.lst
  exact ⟨p, hv, e _ _ (ne_of hp hx (fun z => nomatch z)) hp⟩
theorem Ob.but {H H' : Hp} {a : Addr} {k : Nat} {v : V} {t : T3} (h : Ob C H v t) (r : Reel H a k) (e : But a H H') : Ob C H' v t := by
  obtain ⟨p, dx, hv, hp⟩ := h
  obtain ⟨xs, hx⟩ := r.lst
  exact ⟨p, dx, hv, e _ _ (ne_of hp hx (fun z => nomatch z)) hp⟩
def spWind : Sp := sp2 fun u v H Q => ∃ a k many, u = .ref a ∧ v = .int many ∧ Reel H a k ∧ k ≤ 1000 ∧ 0 < many ∧ many ≤ 1000 ∧ ∀ H' f, But a H H' → Reel H' a (k + 1) → 0 ≤ f → f < many → Q (.int f) H'
theorem c_Wind (T : Txt K mg C) : Cal P w K mg base "_law_wind" 1 ["_law_reel_here", "_law_many"] spWind := by
  refine T.dWind.cal scWind sp2_len fun f cdv A outer s H vs Q E hr h => ?_
  obtain ⟨_, _, rfl, a, k, many, rfl, rfl, ⟨n, m, c, ha, hn, hm, hm2, hc, hck⟩, hk, h0, h1, q⟩ := h
  refine ⟨_, pss_cons (ps_if (pt_cmpR op_gt (pe_ix ix_list (pv 0) pe_int (fun _ _ => rfl)) pe_int (nomark _))
      (pss_cons (ps_asg (pe_callB call_divmodW rfl T.z_divmod (by decide +kernel) (pa_cons (pe_ix ix_list (pv 0) pe_int (fun _ _ => rfl)) (pa_cons (pv 1) pa_nil)))
        (pg_tup (by rfl) (pgs_cons (pg_sub (pv 0) pe_int set_list) (pgs_cons (pg_name (i := 2) scWind.nd rfl (.inl rfl)) pgs_nil))))
      (pss_one (ps_ret (pv 2)))) pss_nil)
    (pss_cons (ps_asg (pe_op op_add (pe_ix ix_list (pv 0) pe_int (fun _ _ => rfl)) pe_int) (pg_sub (pv 0) pe_int set_list))
    (pss_cons (ps_asg (pe_op op_mod (pe_callTy call_int1 rfl T.z_int (by decide +kernel) (pa_cons (pe_op op_add (pe_op op_add (pe_op op_mul (pe_ix ix_list (pv 0) pe_int (fun _ _ => rfl)) pe_int)
        (pe_op op_mul (pe_op op_mul (pe_ix ix_list (pv 0) pe_int (fun _ _ => rfl)) (pe_ix ix_list (pv 0) pe_int (fun _ _ => rfl))) pe_int)) pe_int) pa_nil)) pe_int) (pg_sub (pv 0) pe_int set_list))
    (pss_one (ps_ret (pe_op op_mod (pe_callTy call_int1 rfl T.z_int (by decide +kernel) (pa_cons (pe_op op_fdiv (pe_ix ix_list (pv 0) pe_int (fun _ _ => rfl)) pe_int) pa_nil)) (pv 1)))))), ?_⟩
  refine ⟨_, rfl, a, _, 0, _, rfl, rfl, SqL.of ha, rfl, _, _, rfl, rfl, _, rfl, ?_⟩
  refine ite2 (fun z => ?_) (fun z => ?_)
  · have z : 0 < n := of_decide_eq_true z
    refine ⟨_, rfl, a, _, 0, _, rfl, rfl, SqL.of ha, rfl, _, rfl, _, _, rfl, small_div h0 h1, fun p hp => ?_⟩
    have np : a ≠ p := ne_of_none ha hp
    refine ⟨p, _, rfl, SqT.of upd_same, rfl, _, _, rfl, ?_⟩
    refine ⟨_, rfl, a, _, 0, 0, rfl, rfl, (upd_ne np).trans ha, rfl, _, _, rfl, rfl, ?_⟩
    refine ⟨_, rfl, q _ _ ?_ ⟨n / many, m, c, upd_same, Int.ediv_nonneg hn (by omega), hm, hm2, hc, by omega⟩ (Int.emod_nonneg n (by omega)) (Int.emod_lt_of_pos n h0)⟩
    exact (But.of (same_new hp)).trans But.upd
  · refine ⟨_, rfl, a, _, 2, _, rfl, rfl, SqL.of ha, rfl, _, _, rfl, rfl, ?_⟩
    refine ⟨_, rfl, a, _, 2, 2, rfl, rfl, ha, rfl, ?_⟩
    have L1 : upd H a (.lst ([V.int n, V.int m, V.int c].set 2 (.int (c + 1)))) a = some (.lst [.int n, .int m, .int (c + 1)]) := upd_same
    refine ⟨_, rfl, a, _, 1, _, rfl, rfl, SqL.of L1, rfl, _, _, rfl, rfl, .inl ⟨by omega, by omega⟩, ?_⟩
    refine ⟨_, rfl, a, _, 2, _, rfl, rfl, SqL.of L1, rfl, _, rfl, a, _, 2, _, rfl, rfl, SqL.of L1, rfl, _, _, rfl, rfl, .inl ⟨by omega, by omega⟩, _, _, rfl, rfl, .inr ⟨by decide, by decide⟩, _, _, rfl, rfl, _, _, rfl, rfl, ?_⟩
    refine .inl ⟨_, rfl, _, _, rfl, rfl, (show (0 : Int) < 2147480009 by decide), ?_⟩
    have b0 : 0 ≤ (m * 48017 + (c + 1) * (c + 1) * 1009 + 77) % 2147480009 := Int.emod_nonneg _ (by decide)
    have b1 : (m * 48017 + (c + 1) * (c + 1) * 1009 + 77) % 2147480009 < 2147480009 := Int.emod_lt_of_pos _ (by decide)
    refine ⟨_, rfl, a, _, 1, 1, rfl, rfl, L1, rfl, ?_⟩
    have L2 : upd (upd H a (.lst ([V.int n, V.int m, V.int c].set 2 (.int (c + 1))))) a (.lst ([V.int n, V.int m, V.int (c + 1)].set 1 (.int ((m * 48017 + (c + 1) * (c + 1) * 1009 + 77) % 2147480009)))) a = some (.lst [.int n, .int ((m * 48017 + (c + 1) * (c + 1) * 1009 + 77) % 2147480009), .int (c + 1)]) := upd_same
    refine ⟨_, rfl, a, _, 1, _, rfl, rfl, SqL.of L2, rfl, _, _, rfl, rfl, ⟨by decide, by decide⟩, .inl ⟨_, rfl, _, rfl, _, _, rfl, rfl, h0, ?_⟩⟩
    refine q _ _ (But.trans But.upd But.upd) ⟨n, _, c + 1, L2, hn, b0, b1, by omega, by omega⟩ (Int.emod_nonneg _ (by omega)) (Int.emod_lt_of_pos _ h0)
def spOneOf : Sp := sp2 fun u v H Q => ∃ a k p xs, u = .ref a ∧ v = .ref p ∧ p ≠ a ∧ H p = some (.lst xs) ∧ Reel H a k ∧ k ≤ 1000 ∧ 0 < xs.length ∧ xs.length ≤ 1000 ∧ ∀ H' x, But a H H' → Reel H' a (k + 1) → x ∈ xs → Q x H'
theorem c_OneOf (T : Txt K mg C) : Cal P w K mg base "_law_one_of" 2 ["_law_reel_here", "_law_menu"] spOneOf := by
  have c1 : Cal P w K mg base "_law_wind" 1 ["_law_reel_here", "_law_many"] spWind := c_Wind T
  refine T.dOneOf.cal scOneOf sp2_len fun f cdv A outer s H vs Q E hr h => ?_
  obtain ⟨_, _, rfl, a, k, p, xs, rfl, rfl, hne, hp, r, hk, h0, h1, q⟩ := h
  refine ⟨_, pss_one (ps_ret (pe_ix ix_list (pv 1) (pe_fn c1 hr (pa_cons (pv 0) (pa_cons (pe_callB call_len_seq rfl T.z_len (by decide +kernel) (pa_cons (pv 1) pa_nil)) pa_nil))) (fun _ _ => rfl))), ?_⟩
  refine ⟨_, rfl, _, rfl, _, rfl, p, xs, rfl, .inl (SqL.of hp), _, _, rfl, a, k, _, rfl, rfl, r, hk, by omega, by omega, fun H' i e r2 i0 i1 => ?_⟩
  obtain ⟨j, rfl⟩ := Int.eq_ofNat_of_zero_le i0
  have hi : j < xs.length := by omega
  exact ⟨p, xs, j, xs[j], rfl, rfl, SqL.of (e _ _ hne hp), atI_nat (List.getElem?_eq_getElem hi), q H' _ e r2 (List.getElem_mem hi)⟩
/-- a trip within a size -/
def In3 (n : Int) (t : T3) : Prop := (-n ≤ t.x ∧ t.x ≤ n) ∧ (-n ≤ t.y ∧ t.y ≤ n) ∧ (-n ≤ t.s ∧ t.s ≤ n)
def spTrip : Sp := sp2 fun u v H Q => ∃ a k n, u = .ref a ∧ v = .int n ∧ 0 ≤ n ∧ n ≤ 100 ∧ Reel H a k ∧ k ≤ 900 ∧ ∀ v H' t, But a H H' → Reel H' a (k + 3) → It H' v t → In3 n t → Q v H'
theorem c_Trip (T : Txt K mg C) : Cal P w K mg base "_law_trip" 2 ["_law_reel_here", "_law_size"] spTrip := by
  have c1 : Cal P w K mg base "_law_wind" 1 ["_law_reel_here", "_law_many"] spWind := c_Wind T
  refine T.dTrip.cal scTrip sp2_len fun f cdv A outer s H vs Q E hr h => ?_
  obtain ⟨_, _, rfl, a, k, n, rfl, rfl, n0, n1, r, hk, q⟩ := h
  refine ⟨_, pss_one (ps_ret (pe_callTy call_tuple_of rfl T.z_tuple (by decide +kernel) (pa_cons (pe_lc (own := [("_law_spot", 2)]) (g := gName 2) (tt := tYes) (by rfl) scTrip.nd (pi_range1 rfl T.z_range (pa_cons pe_int pa_nil)) (blkOk_by (N := nTrip) (sc := defScope sTrip) (by decide +kernel))
    (fun _ _ _ _ _ => pg_name (i := 2) scTrip.nd rfl (.inl rfl)) (fun _ _ _ _ _ => pts_nil)
    (fun _ _ _ _ _ => pe_op op_sub (pe_fn c1 hr (pa_cons (pv 0) (pa_cons (pe_op op_add (pe_op op_mul pe_int (pv 1)) pe_int) pa_nil))) (pv 1))) pa_nil))), ?_⟩
  refine ⟨3, rfl, (by decide), (by decide), fun D hD => ?_⟩
  have nD : a ≠ D := let ⟨_, ha⟩ := r.lst; ne_of_none ha hD
  refine lc_range (lo := 0) (n := 3) (fun i H' => Reel H' a (k + i) ∧ (∀ b o, b ≠ a → H b = some o → H' b = some o) ∧ ∃ ms : List Int, ms.length = i ∧ H' D = some (.lst (ms.map V.int)) ∧ ∀ z ∈ ms, -n ≤ z ∧ z ≤ n) ?_ ?_ ?_
  · exact ⟨r.up (same_new hD), fun b o _ e => same_new hD _ _ e, [], rfl, upd_same, fun z hz => nomatch hz⟩
  · rintro i H' hi ⟨r', e', ms, hl, hms, hb⟩
    refine ⟨rfl, _, rfl, _, rfl, _, _, rfl, rfl, .inl ⟨by decide, by decide⟩, _, _, rfl, rfl, _, _, rfl, a, k + i, _, rfl, rfl, r', by omega, by omega, by omega, fun H2 fg e2 r2 f0 f1 => ?_⟩
    refine ⟨_, rfl, _, _, rfl, rfl, ms.map V.int, e2 _ _ (Ne.symm nD) hms, ?_, ?_⟩
    · rw [List.length_map, hl]
      exact Nat.lt_of_lt_of_le hi (by decide)
    · have st : ∀ b o, b ≠ D → H2 b = some o → upd H2 D (.lst (ms.map V.int ++ [V.int (fg - n)])) b = some o := fun b o nb z => (upd_ne nb).trans z
      refine ⟨?_, fun b o nb z => st _ _ (ne_of_none z hD) (e2 _ _ nb (e' _ _ nb z)), ms ++ [fg - n], by rw [List.length_append, hl]; rfl, ?_, fun z hz => ?_⟩
      · obtain ⟨x1, x2, x3, y1, y⟩ := r2
        exact ⟨x1, x2, x3, st _ _ nD y1, y⟩
      · rw [List.map_append]
        exact upd_same
      · rcases List.mem_append.mp hz with hz | hz
        · exact hb z hz
        · obtain rfl := List.mem_singleton.mp hz
          omega
  · rintro H' ⟨r', e', ms, hl, hms, hb⟩
    match ms, hl, hms, hb with
    | [x, y, z], _, hms, hb =>
      refine ⟨D, _, rfl, .inl ⟨SqL.of hms, fun l hl => q _ _ ⟨x, y, z⟩ (fun b o nb e => same_new hl _ _ (e' b o nb e)) (r'.up (same_new hl)) ⟨l, rfl, upd_same⟩ ⟨hb x (by simp), hb y (by simp), hb z (by simp)⟩⟩⟩
/-! ### where the draws come from -/
def spReel (K : PySem.W.Frag) : Sp := sp2 fun u v H Q => ∃ (a : Addr) (ns : List Int) (n : Int), u = .ref a ∧ v = .int n ∧ SqL K H a (ns.map V.int) ∧ ns.length ≤ 63 ∧ 0 ≤ n ∧ n ≤ 10 ∧ ∀ p H', H p = none → Same H H' → Reel H' p 1 → Q (.ref p) H'
theorem c_Reel (T : Txt K mg C) : Cal P w K mg base "_law_reel" 1 ["_law_script", "_law_turn"] (spReel K) := by
  refine T.dReel.cal scReel sp2_len fun f cdv A outer s H vs Q E hr h => ?_
  obtain ⟨_, _, rfl, a, ns, n, rfl, rfl, hS, hl, n0, n1, q⟩ := h
  refine ⟨_, pss_cons (ps_set (i := 2) scReel.nd rfl (.inl rfl) (pe_ifExp (pt_cmpR op_lt (pv 1) (pe_callB call_len_seq rfl T.z_len (by decide +kernel) (pa_cons (pv 0) pa_nil)) (nomark _)) (pe_ix ix_list (pv 0) (pv 1) (fun _ _ => rfl)) (pe_op op_add (pe_op op_mul pe_int (pv 1)) pe_int)))
    (pss_cons (ps_set (i := 3) scReel.nd rfl (.inl rfl) (pe_op op_add pe_int (pe_op op_mul pe_int (pv 1))))
    (pss_cons (ps_for PassesOwn.never rfl (pi_list (pe_op op_cat (pe_slice sl_list (pv 0) po_none (po_some pe_int)) (pe_lst (pa_cons (pv 2) pa_nil)))) (pg_name (i := 4) scReel.nd rfl (.inl rfl))
      (pss_one (ps_set (i := 3) scReel.nd rfl (.inl rfl) (pe_op op_mod (pe_callTy call_int1 rfl T.z_int (by decide +kernel) (pa_cons (pe_op op_add (pe_op op_mul (pv 3) pe_int) (pe_op op_mod (pe_callTy call_int1 rfl T.z_int (by decide +kernel) (pa_cons (pv 4) pa_nil)) pe_int)) pa_nil)) pe_int))))
    (pss_one (ps_ret (pe_lst (pa_cons (pe_ifExp (PW.pt (pw_or (pt_cmpR op_lt (pv 2) pe_int (nomark _)) (pw_or1 (pt_cmpR op_ge (pv 2) (pe_op op_pow pe_int pe_int) (nomark _)))))
      (pe_callB call_abs rfl T.z_abs (by decide +kernel) (pa_cons (pv 2) pa_nil)) pe_int) (pa_cons (pv 3) (pa_cons pe_int pa_nil)))))))), ?_⟩
  dsimp only [tSeq, tAsg]
  refine if_post (fun v H' => H = H' ∧ ∃ z, v = .int z) (c := decide (n < (ns.length : Int))) (fun R k => ⟨_, rfl, _, rfl, a, _, rfl, .inl hS, _, _, rfl, rfl, _, rfl, by rw [List.length_map]; exact k⟩) (fun y R k => ?_) (fun y R k => ?_) ?_
  · have y := of_decide_eq_true y
    obtain ⟨j, rfl⟩ := Int.eq_ofNat_of_zero_le n0
    have hj : j < ns.length := by omega
    exact ⟨_, rfl, _, rfl, a, _, j, .int ns[j], rfl, rfl, hS, atI_nat (by rw [List.getElem?_map, List.getElem?_eq_getElem hj]; rfl), k _ _ ⟨rfl, _, rfl⟩⟩
  · exact ⟨_, rfl, _, _, rfl, rfl, .inl ⟨by decide, by decide⟩, _, _, rfl, rfl, k _ _ ⟨rfl, _, rfl⟩⟩
  rintro _ _ ⟨rfl, own, rfl⟩
  refine ⟨_, rfl, _, _, rfl, rfl, .inl ⟨by decide, by decide⟩, _, _, rfl, rfl, ?_⟩
  refine ⟨_, rfl, 5, rfl, a, _, rfl, hS, fun p1 hp1 => ?_⟩
  refine ⟨_, rfl, (by show 1 ≤ sizeLine; decide), fun p2 hp2 => ?_⟩
  have e1 : Same H (upd H p1 (.lst (cutV (ns.map V.int) none (some 5)))) := same_new hp1
  have e2 : Same (upd H p1 (.lst (cutV (ns.map V.int) none (some 5)))) (upd (upd H p1 (.lst (cutV (ns.map V.int) none (some 5)))) p2 (.lst [.int own])) := same_new hp2
  have lc := cutV_length (ns.map V.int) none (some 5)
  rw [List.length_map] at lc
  have big : 1000 ≤ sizeLine := by decide
  refine ⟨p1, p2, _, _, rfl, rfl, e2 _ _ upd_same, upd_same, by simp only [List.length_cons, List.length_nil]; omega, fun p3 hp3 => ?_⟩
  generalize hHH : upd (upd H p1 (.lst (cutV (ns.map V.int) none (some 5)))) p2 (.lst [.int own]) = HH at *
  have e12 : Same H HH := e1.trans e2
  have allI : ∀ x ∈ cutV (ns.map V.int) none (some 5) ++ [V.int own], ∃ z, x = V.int z := by
    intro x hx
    rcases List.mem_append.mp hx with hx | hx
    · obtain ⟨z, _, rfl⟩ := List.mem_map.mp (List.mem_of_mem_drop (List.mem_of_mem_take hx))
      exact ⟨z, rfl⟩
    · exact ⟨own, List.mem_singleton.mp hx⟩
  have e3 : Same HH (upd HH p3 (.lst (cutV (ns.map V.int) none (some 5) ++ [.int own]))) := same_new hp3
  refine ⟨p3, rfl, ⟨_, SqL.of upd_same⟩, for_list (K := K) (a := p3) (xs := cutV (ns.map V.int) none (some 5) ++ [.int own]) (fun i σ' H' => ∃ mx z, σ' = [some (.ref a), some (.int n), some (.int own), some (.int mx), z] ∧ 0 ≤ mx ∧ mx < 2147480009 ∧ H' = upd HH p3 (.lst (cutV (ns.map V.int) none (some 5) ++ [.int own])))
    ⟨_, _, rfl, by omega, by omega, rfl⟩ (fun i σ' H' _ ⟨_, _, _, _, _, e⟩ => by rw [e]; exact SqL.of upd_same) ?_ ?_⟩
  · rintro i x σ' H' hx ⟨mx, z, rfl, m0, m1, rfl⟩
    obtain ⟨y, rfl⟩ := allI x (List.mem_of_getElem? hx)
    refine ⟨_, rfl, _, _, rfl, rfl, .inl ⟨by omega, by omega⟩, _, rfl, .inl ⟨_, rfl, _, _, rfl, rfl, (show (0 : Int) < 2147480009 by decide), _, _, rfl, rfl, .inl ⟨_, rfl, _, _, rfl, rfl, (show (0 : Int) < 2147480009 by decide), ?_⟩⟩⟩
    exact ⟨_, _, rfl, Int.emod_nonneg _ (by decide), Int.emod_lt_of_pos _ (by decide), rfl⟩
  · rintro σ' H' ⟨mx, z, rfl, m0, m1, rfl⟩
    dsimp only [tRet, tLst, tCons]
    refine if_post (fun v H' => H' = upd HH p3 (.lst (cutV (ns.map V.int) none (some 5) ++ [.int own])) ∧ ∃ z, v = .int z ∧ 0 ≤ z) (c := decide (own < 0) || decide (10 ^ 16 ≤ own)) (fun R k => ?_) (fun y R k => ?_) (fun y R k => ?_) ?_
    · exact or_val (fun R k => ⟨_, rfl, _, _, rfl, rfl, _, rfl, k⟩) (fun R k => ⟨_, rfl, _, _, rfl, rfl, ⟨by decide, by decide, by decide⟩, _, _, rfl, rfl, _, rfl, k⟩) k
    · exact ⟨_, rfl, _, rfl, k _ _ ⟨rfl, _, rfl, ab_nn own⟩⟩
    · exact k _ _ ⟨rfl, _, rfl, Int.le_refl 0⟩
    rintro _ _ ⟨rfl, z2, rfl, hz2⟩
    refine ⟨_, rfl, (by show 3 ≤ sizeLine; decide), fun p4 hp4 => ?_⟩
    exact q p4 _ ((e12.trans e3).free hp4) ((e12.trans e3).trans (same_new hp4)) ⟨z2, mx, 1, upd_same, hz2, m0, m1, by decide, by decide⟩
end
end Mv
/-! The law's own look for likeness and for roots, among few. -/
namespace Mv
open PySem PySem.Spec PyProof.Rows L2
/-! ### a list of numbers beside the empty one -/
theorem lay_ints : ∀ ms : List Int, PyData.canLayAll0 (ms.map PyData.int) = true
  | [] => rfl
  | m :: ms => by
    show (PyData.canLay0 (.int m) && PyData.canLayAll0 (ms.map PyData.int)) = true
    rw [lay_ints ms]
    rfl
theorem deep_ints : ∀ ms : List Int, PyData.depthAll (ms.map PyData.int) ≤ 1
  | [] => by decide
  | m :: ms => by
    have := deep_ints ms
    simp only [List.map_cons, PyData.depthAll, PyData.depth]
    omega
theorem shaped_ints (ms : List Int) : SeqAt.shaped (.list (ms.map PyData.int)) = true := by
  unfold SeqAt.shaped
  rw [show PyData.canLay0 (.list (ms.map PyData.int)) = PyData.canLayAll0 (ms.map PyData.int) by simp only [PyData.canLay0], lay_ints, Bool.true_and]
  have := deep_ints ms
  refine decide_eq_true ?_
  simp only [PyData.depth]
  omega
section
variable {X : Cx} {K : PySem.W.Frag} {H : Hp}
theorem dp_ints : ∀ ms : List Int, DpAll K H (ms.map V.int) (ms.map PyData.int)
  | [] => .nil
  | m :: ms => .cons (.int m) (dp_ints ms)
theorem eqv_nil (ms : List Int) : PyData.eqv (.list (ms.map PyData.int)) (.list []) = ms.isEmpty := by
  cases ms <;> simp [PyData.eqv, PyData.eqvAll]
def rNeNil : R2 := fun x y H Q => ∃ (p q : Addr) (ms : List Int), x = .ref p ∧ y = .ref q ∧ H p = some (.lst (ms.map V.int)) ∧ H q = some (.lst []) ∧ Q (.bl (!ms.isEmpty)) H
theorem op_neNil (hu : X.A.units + 64 < cLine) : OpR X (compareOp .NotEq) rNeNil := OpR_to (op_neD hu) fun x y H Q ⟨p, q, ms, e1, e2, h1, h2, k⟩ => by
  subst e1 e2
  exact ⟨.list (ms.map PyData.int), .list [], .lst (SqL.of h1) (dp_ints ms), .lst (SqL.of h2) .nil, shaped_ints ms, rfl, by rw [eqv_nil]; exact k⟩
theorem and_val {t u : TT} {σ : L2.St} {Q : Bool → Hp → Prop} {b c : Bool} (ht : ∀ R : Bool → Hp → Prop, R b H → t σ H R) (hu : ∀ R : Bool → Hp → Prop, R c H → u σ H R) (q : Q (b && c) H) : tAnd t u σ H Q := by
  refine ht _ ?_
  cases b with
  | true => exact iteT (hu Q q)
  | false => exact iteF q
end
section
variable {P : Program} {w : World} {K : PySem.W.Frag} {mg : Str → Option Value} {base : Heap} {C : Addr}
/-! ### _law_are_alike -/
def spAreAl : Sp := sp2 fun u v H Q => ∃ t r, It H u t ∧ It H v r ∧ Sz3 9000 t ∧ (-4 ≤ t.x ∧ t.x ≤ 4) ∧ (-4 ≤ t.y ∧ t.y ≤ 4) ∧ (-8 ≤ r.s - t.s ∧ r.s - t.s ≤ 8) ∧ ∀ H', Same H H' → Q (.bl (alB t r)) H'
theorem sz_small {i : Int} (h1 : -1000 ≤ i) (h2 : i ≤ 1000) : Sz 10 i := by
  unfold Sz
  omega
theorem c_AreAl (T : Txt K mg C) : Cal P w K mg base "_law_are_alike" 3 ["_law_first", "_law_last"] spAreAl := by
  have c1 : Cal P w K mg base "_law_between" 2 ["_law_by", "_law_trip_here"] spBtw := c_Btw T
  refine T.dAreAl.cal scAreAl sp2_len fun f cdv A outer s H vs Q E hr h => ?_
  obtain ⟨fv, lv, rfl, t, r, o1, o2, h1, bx, by_, bs, q⟩ := h
  refine ⟨_, pss_cons (ps_if (pt_cmpR (op_ne2 hr.units) (pe_slice sl_cut (pv 0) po_none (po_some pe_int)) (pe_slice sl_cut (pv 1) po_none (po_some pe_int)) (nomark _)) (pss_one (ps_ret pe_bl)) pss_nil)
    (pss_cons (ps_for PassesOwn.never rfl (pi_range2 (by rfl) T.z_range (pa_cons (pe_un un_neg pe_int) (pa_cons pe_int pa_nil))) (pg_name (i := 2) scAreAl.nd rfl (.inr rfl))
      (pss_one (ps_if (pt_cmpR (op_neNil hr.units) (pe_lc (own := [("_law_y", 3)]) (g := gName 3) (by rfl) scAreAl.nd (pi_range2 (by rfl) T.z_range (pa_cons (pe_un un_neg pe_int) (pa_cons pe_int pa_nil))) (blkOk_by (N := nAreAl) (sc := defScope sAreAl) (by decide +kernel))
          (fun _ _ _ _ _ => pg_name (i := 3) scAreAl.nd rfl (.inl rfl))
          (fun _ _ _ _ _ => pts_one (pt_cmpR (op_eq3 hr.units) (pe_fn c1 hr (pa_cons (pe_tup (pa_cons (pv 2) (pa_cons (pv 3) (pa_cons pe_int pa_nil)))) (pa_cons (pv 0) pa_nil))) (pv 1) (nomark _)))
          (fun _ _ _ _ _ => pv 3)) (pe_lst pa_nil) (nomark _)) (pss_one (ps_ret pe_bl)) pss_nil)))
    (pss_one (ps_ret pe_bl))), ?_⟩
  refine ⟨_, rfl, 2, rfl, rfl, rfl, t, o1, fun p H1 e1 hp => ⟨_, rfl, 2, rfl, rfl, rfl, r, o2.up e1, fun p2 H2 e2 hp2 => ⟨p, p2, _, _, _, _, rfl, rfl, e2 _ _ hp, hp2, _, rfl, ?_⟩⟩⟩
  have e12 := e1.trans e2
  refine ite2 (fun z => ?_) (fun z => ?_)
  · have al : alB t r = false := by
      unfold alB
      rw [← Bool.and_assoc]
      cases y : (decide (t.x = r.x) && decide (t.y = r.y)) with
      | false => rfl
      | true =>
        rw [y] at z
        cases z
    have k := q _ e12
    rw [al] at k
    exact k
  · refine ⟨8, rfl, -8, 9, rfl, ⟨by decide, by decide, by decide, by decide⟩, for_range (lo := -8) (n := 17) (fun i σ' H' => ∃ zx zy, σ' = [some fv, some lv, zx, zy] ∧ Same H H' ∧ ∀ j : Nat, j < i → ∀ y : Int, -20 ≤ y → y ≤ 20 → btw ⟨-8 + (j : Int), y, 0⟩ t ≠ r) ?_ ?_ ?_⟩
    · exact ⟨_, _, rfl, e12, fun j hj => absurd hj (Nat.not_lt_zero j)⟩
    · rintro i σ' H' hi ⟨zx, zy, rfl, eS, none_⟩
      refine ⟨20, rfl, -20, 21, rfl, ⟨by decide, by decide, by decide, by decide⟩, fun D hD => ?_⟩
      refine lc_range (lo := -20) (n := 41) (fun i2 H2 => Same H' H2 ∧ ∃ ms : List Int, ms.length ≤ i2 ∧ H2 D = some (.lst (ms.map V.int)) ∧ (ms = [] → ∀ j : Nat, j < i2 → btw ⟨-8 + (i : Int), -20 + (j : Int), 0⟩ t ≠ r) ∧ (ms ≠ [] → ∃ y : Int, btw ⟨-8 + (i : Int), y, 0⟩ t = r)) ?_ ?_ ?_
      · exact ⟨same_new hD, [], Nat.le_refl _, upd_same, fun _ j hj => absurd hj (Nat.not_lt_zero j), fun z => absurd rfl z⟩
      · rintro i2 H2 hi2 ⟨e2', ms, hl, hms, n1, n2⟩
        refine ⟨rfl, _, rfl, _, rfl, (by show 3 ≤ sizeLine; decide), fun p3 hp3 => ?_⟩
        have e3 : Same H2 (upd H2 p3 (.tup (tpV ⟨-8 + (i : Int), -20 + (i2 : Int), 0⟩))) := same_new hp3
        refine ⟨_, rfl, _, _, rfl, ⟨-8 + (i : Int), -20 + (i2 : Int), 0⟩, t, ⟨p3, rfl, upd_same⟩, ((o1.up eS).up e2').up e3, ?_, h1, fun v H4 e4 i4 => ?_⟩
        · exact ⟨(sz_small (by show -1000 ≤ -8 + (i : Int); omega) (by show -8 + (i : Int) ≤ 1000; omega)).mono (by decide), (sz_small (by show -1000 ≤ -20 + (i2 : Int); omega) (by show -20 + (i2 : Int) ≤ 1000; omega)).mono (by decide), Sz.zero⟩
        refine ⟨_, rfl, _, r, i4, (((o2.up eS).up e2').up e3).up e4, _, rfl, ?_⟩
        have eD : H4 D = some (.lst (ms.map V.int)) := e4 _ _ (e3 _ _ hms)
        have eS4 : Same H' H4 := (e2'.trans e3).trans e4
        refine ite2 (fun y => ?_) (fun y => ?_)
        · have y := of_decide_eq_true y
          refine ⟨_, rfl, ms.map V.int, eD, ?_, fun b o z => ?_, ms ++ [-20 + (i2 : Int)], ?_, ?_, fun z => ?_, fun _ => ⟨_, y⟩⟩
          · rw [List.length_map]
            exact Nat.lt_of_lt_of_le (Nat.lt_of_le_of_lt hl hi2) (by decide)
          · rw [upd_ne (ne_of_none z hD)]
            exact eS4 _ _ z
          · rw [List.length_append]
            show ms.length + 1 ≤ i2 + 1
            omega
          · rw [List.map_append]
            exact upd_same
          · exact absurd z (by simp)
        · have y : ¬ btw ⟨-8 + (i : Int), -20 + (i2 : Int), 0⟩ t = r := fun z => y (decide_eq_true z)
          refine ⟨eS4, ms, by omega, eD, fun z j hj => ?_, n2⟩
          by_cases e : j = i2
          · rw [e]
            exact y
          · exact n1 z j (by omega)
      · rintro H2 ⟨e2', ms, hl, hms, n1, n2⟩
        refine ⟨Nat.zero_le _, fun p4 hp4 => ⟨D, p4, ms, rfl, rfl, (same_new hp4) _ _ hms, upd_same, _, rfl, ?_⟩⟩
        have e4 : Same H' (upd H2 p4 (.lst [])) := e2'.trans (same_new hp4)
        refine ite2 (fun y => ?_) (fun y => ?_)
        · have ne : ms ≠ [] := fun z => by
            rw [z] at y
            cases y
          obtain ⟨yy, hy⟩ := n2 ne
          have k := q _ (eS.trans e4)
          rw [alB_of _ hy] at k
          exact k
        · have ne : ms = [] := by
            cases ms with
            | nil => rfl
            | cons a b => exact absurd rfl y
          refine ⟨_, _, rfl, eS.trans e4, fun j hj yy y0 y1 => ?_⟩
          by_cases e : j = i
          · subst e
            have k := n1 ne (yy + 20).toNat (by omega)
            have e2 : -20 + (((yy + 20).toNat : Nat) : Int) = yy := by omega
            rw [e2] at k
            exact k
          · exact none_ j (by omega) yy y0 y1
    · rintro σ' H' ⟨zx, zy, rfl, eS, none_⟩
      have k := q _ eS
      cases al : alB t r with
      | false =>
        rw [al] at k
        exact k
      | true =>
        exfalso
        obtain ⟨x, y, b1, b2, e⟩ := few bx by_ bs al
        refine none_ (x + 8).toNat (by omega) y b2.1 b2.2 ?_
        have e2 : -8 + (((x + 8).toNat : Nat) : Int) = x := by omega
        rw [e2]
        exact e
end
end Mv
/-! The law's own look for roots. -/
namespace Mv
open PySem PySem.Spec PyProof.Rows L2
section
variable {P : Program} {w : World} {K : PySem.W.Frag} {mg : Str → Option Value} {base : Heap} {C : Addr}
/-! ### _law_has_root -/
/-- the numbers within which a small move's roots are looked for -/
structure Lo (t : T3) (d : Int) : Prop where
  d1 : 1 ≤ d
  d5 : d ≤ 5
  x : -(4 * d) ≤ t.x ∧ t.x ≤ 4 * d
  y : -(4 * d) ≤ t.y ∧ t.y ≤ 4 * d
  s : -(10 * d) ≤ t.s ∧ t.s ≤ 10 * d
def spHasR : Sp := sp2 fun u v H Q => ∃ t d, It H u t ∧ v = .int d ∧ Lo t d ∧ ∀ H', Same H H' → Q (.bl (rtB t d)) H'
/-- a root lies within the look -/
theorem root_in {t : T3} {d : Int} (l : Lo t d) (h : rtB t d = true) : ∃ x y s : Int, (-4 ≤ x ∧ x ≤ 4) ∧ (-4 ≤ y ∧ y ≤ 4) ∧ (-60 ≤ s ∧ s ≤ 60) ∧ x * d = t.x ∧ y * d = t.y ∧ pw ⟨x, y, s⟩ d = t := by
  obtain ⟨bx, bb, bs⟩ := rt_small l.d1 l.d5 l.x l.y l.s h
  have e := rt_pw h
  refine ⟨_, _, _, bx, bb, bs, ?_, ?_, e⟩
  · rw [Int.mul_comm]
    exact congrArg T3.x e
  · rw [Int.mul_comm]
    exact congrArg T3.y e
theorem root_at {t : T3} {d x y s : Int} (l : Lo t d) (h : pw ⟨x, y, s⟩ d = t) : rtB t d = true := by
  rw [← h]
  exact (rt_of (by have := l.d1; omega)).1
theorem c_HasR (T : Txt K mg C) : Cal P w K mg base "_law_has_root" 3 ["_law_trip_here", "_law_level"] spHasR := by
  have c1 : Cal P w K mg base "_law_power" 2 ["_law_trip_here", "_law_count"] spPower := c_Power T
  refine T.dHasR.cal scHasR sp2_len fun f cdv A outer s H vs Q E hr h => ?_
  obtain ⟨tv, _, rfl, t, d, o1, rfl, l, q⟩ := h
  have dP : 0 < d := by have := l.d1; omega
  have d5 := l.d5
  refine ⟨_, pss_cons (ps_for PassesOwn.never rfl (pi_range2 (by rfl) T.z_range (pa_cons (pe_un un_neg pe_int) (pa_cons pe_int pa_nil))) (pg_name (i := 2) scHasR.nd rfl (.inr rfl))
      (pss_one (ps_for PassesOwn.never rfl (pi_range2 (by rfl) T.z_range (pa_cons (pe_un un_neg pe_int) (pa_cons pe_int pa_nil))) (pg_name (i := 3) scHasR.nd rfl (.inr rfl))
        (pss_one (ps_if (PW.pt (pw_and (pt_cmpR op_eq (pe_op op_mul (pv 2) (pv 1)) (pe_ix ix_g0 (pv 0) pe_int (fun _ _ => rfl)) (nomark _)) (pw_and1 (pt_cmpR op_eq (pe_op op_mul (pv 3) (pv 1)) (pe_ix ix_g1 (pv 0) pe_int (fun _ _ => rfl)) (nomark _)))))
          (pss_one (ps_ret (pe_cmpR (op_neNil hr.units) (pe_lc (own := [("_law_s", 4)]) (g := gName 4) (by rfl) scHasR.nd (pi_range2 (by rfl) T.z_range (pa_cons (pe_un un_neg pe_int) (pa_cons pe_int pa_nil))) (blkOk_by (N := nHasR) (sc := defScope sHasR) (by decide +kernel))
            (fun _ _ _ _ _ => pg_name (i := 4) scHasR.nd rfl (.inl rfl))
            (fun _ _ _ _ _ => pts_one (pt_cmpR (op_eq3 hr.units) (pe_fn c1 hr (pa_cons (pe_tup (pa_cons (pv 2) (pa_cons (pv 3) (pa_cons (pv 4) pa_nil)))) (pa_cons (pv 1) pa_nil))) (pv 0) (nomark _)))
            (fun _ _ _ _ _ => pv 4)) (pe_lst pa_nil) (nomark _)))) pss_nil)))))
    (pss_one (ps_ret pe_bl)), ?_⟩
  refine ⟨4, rfl, -4, 5, rfl, ⟨by decide, by decide, by decide, by decide⟩, for_range (lo := -4) (n := 9) (fun i σ' H' => ∃ zx zy zs, σ' = [some tv, some (.int d), zx, zy, zs] ∧ Same H H' ∧ ∀ j : Nat, j < i → ∀ y : Int, -4 ≤ y → y ≤ 4 → ¬ ((-4 + (j : Int)) * d = t.x ∧ y * d = t.y)) ?_ ?_ ?_⟩
  · exact ⟨_, _, _, rfl, Same.refl _, fun j hj => absurd hj (Nat.not_lt_zero j)⟩
  · rintro i σ' H' hi ⟨zx, zy, zs, rfl, eS, none_⟩
    refine ⟨4, rfl, -4, 5, rfl, ⟨by decide, by decide, by decide, by decide⟩, for_range (lo := -4) (n := 9) (fun i2 σ' H2 => ∃ zy zs, σ' = [some tv, some (.int d), some (.int (-4 + (i : Int))), zy, zs] ∧ Same H H2 ∧ ∀ j : Nat, j < i2 → ¬ ((-4 + (i : Int)) * d = t.x ∧ (-4 + (j : Int)) * d = t.y)) ?_ ?_ ?_⟩
    · exact ⟨_, _, rfl, eS, fun j hj => absurd hj (Nat.not_lt_zero j)⟩
    · rintro i2 σ' H2 hi2 ⟨zy, zs, rfl, e2, none2⟩
      dsimp only [tIfS]
      refine and_val (b := decide ((-4 + (i : Int)) * d = t.x)) (c := decide ((-4 + (i2 : Int)) * d = t.y)) (fun R k => ?_) (fun R k => ?_) ?_
      · refine ⟨_, rfl, _, rfl, _, _, rfl, rfl, .inr ⟨by omega, by omega⟩, _, rfl, rfl, t, o1.up e2, rfl, _, rfl, ?_⟩
        rw [dec_i]
        exact k
      · refine ⟨_, rfl, _, rfl, _, _, rfl, rfl, .inr ⟨by omega, by omega⟩, _, rfl, rfl, t, o1.up e2, rfl, _, rfl, ?_⟩
        rw [dec_i]
        exact k
      refine ite2 (fun z => ?_) (fun z => ?_)
      · obtain ⟨zx, zy⟩ := Bool.and_eq_true_iff.mp z
        have zx := of_decide_eq_true zx
        have zy := of_decide_eq_true zy
        refine ⟨60, rfl, -60, 61, rfl, ⟨by decide, by decide, by decide, by decide⟩, fun D hD => ?_⟩
        refine lc_range (lo := -60) (n := 121) (fun i3 H3 => Same H2 H3 ∧ ∃ ms : List Int, ms.length ≤ i3 ∧ H3 D = some (.lst (ms.map V.int)) ∧ (ms = [] → ∀ j : Nat, j < i3 → pw ⟨-4 + (i : Int), -4 + (i2 : Int), -60 + (j : Int)⟩ d ≠ t) ∧ (ms ≠ [] → ∃ y : Int, pw ⟨-4 + (i : Int), -4 + (i2 : Int), y⟩ d = t)) ?_ ?_ ?_
        · exact ⟨same_new hD, [], Nat.le_refl _, upd_same, fun _ j hj => absurd hj (Nat.not_lt_zero j), fun z => absurd rfl z⟩
        · rintro i3 H3 hi3 ⟨e3, ms, hl, hms, n1, n2⟩
          refine ⟨rfl, _, rfl, _, rfl, _, rfl, (by show 3 ≤ sizeLine; decide), fun p3 hp3 => ?_⟩
          have e4 : Same H3 (upd H3 p3 (.tup (tpV ⟨-4 + (i : Int), -4 + (i2 : Int), -60 + (i3 : Int)⟩))) := same_new hp3
          refine ⟨_, rfl, _, _, rfl, ⟨-4 + (i : Int), -4 + (i2 : Int), -60 + (i3 : Int)⟩, d, ⟨p3, rfl, upd_same⟩, rfl, by omega, by omega, ?_, fun v H5 e5 i5 => ?_⟩
          · exact ⟨(sz_small (by show -1000 ≤ -4 + (i : Int); omega) (by show -4 + (i : Int) ≤ 1000; omega)).mono (by decide), (sz_small (by show -1000 ≤ -4 + (i2 : Int); omega) (by show -4 + (i2 : Int) ≤ 1000; omega)).mono (by decide), (sz_small (by show -1000 ≤ -60 + (i3 : Int); omega) (by show -60 + (i3 : Int) ≤ 1000; omega)).mono (by decide)⟩
          refine ⟨_, rfl, _, t, i5, (((o1.up e2).up e3).up e4).up e5, _, rfl, ?_⟩
          have eD : H5 D = some (.lst (ms.map V.int)) := e5 _ _ (e4 _ _ hms)
          have eS5 : Same H2 H5 := (e3.trans e4).trans e5
          refine ite2 (fun y => ?_) (fun y => ?_)
          · have y := of_decide_eq_true y
            refine ⟨_, rfl, ms.map V.int, eD, ?_, fun b o z => ?_, ms ++ [-60 + (i3 : Int)], ?_, ?_, fun z => ?_, fun _ => ⟨_, y⟩⟩
            · rw [List.length_map]
              exact Nat.lt_of_lt_of_le (Nat.lt_of_le_of_lt hl hi3) (by decide)
            · rw [upd_ne (ne_of_none z hD)]
              exact eS5 _ _ z
            · rw [List.length_append]
              show ms.length + 1 ≤ i3 + 1
              omega
            · rw [List.map_append]
              exact upd_same
            · exact absurd z (by simp)
          · have y : ¬ pw ⟨-4 + (i : Int), -4 + (i2 : Int), -60 + (i3 : Int)⟩ d = t := fun z => y (decide_eq_true z)
            refine ⟨eS5, ms, by omega, eD, fun z j hj => ?_, n2⟩
            by_cases e : j = i3
            · rw [e]
              exact y
            · exact n1 z j (by omega)
        · rintro H3 ⟨e3, ms, hl, hms, n1, n2⟩
          refine ⟨Nat.zero_le _, fun p4 hp4 => ⟨D, p4, ms, rfl, rfl, (same_new hp4) _ _ hms, upd_same, ?_⟩⟩
          have k := q _ ((e2.trans e3).trans (same_new (o := .lst []) hp4))
          have due : rtB t d = !ms.isEmpty := by
            cases ms with
            | cons a b =>
              obtain ⟨y, hy⟩ := n2 (by simp)
              exact root_at l hy
            | nil =>
              cases al : rtB t d with
              | false => rfl
              | true =>
                exfalso
                obtain ⟨x, y, s, b1, b2, b3, ex, ey, e⟩ := root_in l al
                have x1 : x = -4 + (i : Int) := Int.eq_of_mul_eq_mul_right (by omega) (ex.trans zx.symm)
                have y1 : y = -4 + (i2 : Int) := Int.eq_of_mul_eq_mul_right (by omega) (ey.trans zy.symm)
                refine n1 rfl (s + 60).toNat (by omega) ?_
                have s1 : -60 + (((s + 60).toNat : Nat) : Int) = s := by omega
                rw [s1, ← x1, ← y1]
                exact e
          rw [due] at k
          exact k
      · refine ⟨_, _, rfl, e2, fun j hj k => ?_⟩
        by_cases e : j = i2
        · subst e
          exact z (by rw [decide_eq_true k.1, decide_eq_true k.2]; rfl)
        · exact none2 j (by omega) k
    · rintro σ' H2 ⟨zy, zs, rfl, e2, none2⟩
      refine ⟨_, _, _, rfl, e2, fun j hj y y0 y1 k => ?_⟩
      by_cases e : j = i
      · subst e
        refine none2 (y + 4).toNat (by omega) ?_
        have s1 : -4 + (((y + 4).toNat : Nat) : Int) = y := by omega
        rw [s1]
        exact k
      · exact none_ j (by omega) y y0 y1 k
  · rintro σ' H' ⟨zx, zy, zs, rfl, eS, none_⟩
    have k := q _ eS
    cases al : rtB t d with
    | false =>
      rw [al] at k
      exact k
    | true =>
      exfalso
      obtain ⟨x, y, s, b1, b2, b3, ex, ey, e⟩ := root_in l al
      refine none_ (x + 4).toNat (by omega) y b2.1 b2.2 ?_
      have s1 : -4 + (((x + 4).toNat : Nat) : Int) = x := by omega
      rw [s1]
      exact ⟨ex, ey⟩
end
end Mv
/-! Whether two moves are told to be alike rightly. -/
namespace Mv
open PySem PySem.Spec PyProof.Rows L2
/-! ### plain facts -/
theorem shB_neg (n k : Int) : shB (-n) k = shB n k := by
  cases a : shB n k with
  | true => exact shB_of_dvd (Int.dvd_neg.mpr (dvd_of_shB a))
  | false =>
    cases b : shB (-n) k with
    | false => rfl
    | true =>
      have d := Int.dvd_neg.mp (dvd_of_shB b)
      rw [shB_of_dvd d] at a
      cases a
theorem alB_flip (t u : T3) : alB u t = alB t u := by
  unfold alB
  by_cases hx : t.x = u.x
  · by_cases hy : t.y = u.y
    · have e : t.s - u.s = -(u.s - t.s) := by omega
      rw [hx, hy, e, shB_neg]
    · have n1 : decide (t.y = u.y) = false := decide_eq_false hy
      have n2 : decide (u.y = t.y) = false := decide_eq_false fun z => hy z.symm
      rw [n1, n2, Bool.false_and, Bool.false_and, Bool.and_false, Bool.and_false]
  · have n1 : decide (t.x = u.x) = false := decide_eq_false hx
    have n2 : decide (u.x = t.x) = false := decide_eq_false fun z => hx z.symm
    rw [n1, n2, Bool.false_and, Bool.false_and]
theorem com_flip (t u : T3) : decide (u.x * t.y - t.x * u.y = 0) = decide (t.x * u.y - u.x * t.y = 0) := by
  by_cases h : t.x * u.y - u.x * t.y = 0
  · rw [decide_eq_true h, decide_eq_true (by omega)]
  · rw [decide_eq_false h, decide_eq_false (by omega)]
theorem com_put (t u : T3) : decide (put t u = put u t) = decide (t.x * u.y - u.x * t.y = 0) := by
  by_cases h : t.x * u.y - u.x * t.y = 0
  · rw [decide_eq_true h, decide_eq_true]
    simp only [put, T3.mk.injEq]
    refine ⟨by omega, by omega, by omega⟩
  · rw [decide_eq_false h, decide_eq_false]
    intro z
    simp only [put, T3.mk.injEq] at z
    exact h (by omega)
/-! ### the text of two truth values -/
def shw (a b : Bool) : Str := PyData.shown (.list [.bool a, .bool b])
def rRepr2 : List V → Hp → VK → Prop := fun xs H Q => ∃ p a b, xs = [.ref p] ∧ H p = some (.lst [.bl a, .bl b]) ∧ Q (.str (shw a b)) H
theorem call_repr2 {X : Cx} (hg : X.A.guards = some []) (hu : X.A.units + 64 < cLine) : CallR X (.builtin "repr") rRepr2 := CallR_to (call_repr hg hu) fun xs H Q ⟨p, a, b, e, hp, q⟩ =>
  ⟨p, .list [.bool a, .bool b], e, .lst (SqL.of hp) (.cons (.bl a) (.cons (.bl b) .nil)), rfl, rfl, by cases a <;> cases b <;> decide, by cases a <;> cases b <;> decide +kernel, q⟩
section
variable {P : Program} {w : World} {K : PySem.W.Frag} {mg : Str → Option Value} {base : Heap} {C : Addr}
/-- what move_alike hands out -/
def SV (C : Addr) (H : Hp) (v : V) (t r : T3) : Prop := (alB t r = false ∧ v = .non) ∨ (alB t r = true ∧ ∃ c, Ob C H v c ∧ btw c t = r ∧ Sz3 3000 c)
theorem SV.up {H H' : Hp} {v : V} {t r : T3} (h : SV C H v t r) (e : Same H H') : SV C H' v t r := by
  rcases h with h | ⟨h3, c, h4, h5⟩
  · exact .inl h
  · exact .inr ⟨h3, c, h4.up e, h5⟩
theorem Kal.imp {x : Str} {k : Nat} {a b : Str} {sp sp' : Sp} (c : Kal P w K mg base x k a b sp) (h : ∀ vs H Q E, sp' vs H Q E → sp vs H Q E) : Kal P w K mg base x k a b sp' := by
  obtain ⟨f, fd, F, r⟩ := c.ex
  exact ⟨f, fd, F.imp h, r⟩
def spAlS (C : Addr) : Sp := sp2 fun u v H Q => ∃ t r, Ob C H u t ∧ Ob C H v r ∧ Sz3 900 t ∧ Sz3 900 r ∧ ∀ v H', Same H H' → SV C H' v t r → Q v H'
theorem c_AlS (T : Txt K mg C) : Kal P w K mg base "move_alike" 6 "one" "other" (spAlS C) := (c_Al T).imp fun vs H Q E ⟨u, v, e, t, r, o1, o2, h1, h2, q⟩ =>
  ⟨u, v, e, t, r, o1, o2, h1, h2, fun y H' z => q _ H' z (.inl ⟨y, rfl⟩), fun y v H' c z o b g => q v H' z (.inr ⟨y, c, o, b, g⟩)⟩
/-- one of the ways: what is shown, from where, to where -/
def Way (C : Addr) (H : Hp) (x : V) (t r : T3) : Prop := ∃ p sv bv gv, x = .ref p ∧ H p = some (.tup [sv, bv, gv]) ∧ It H bv t ∧ It H gv r ∧ SV C H sv t r
theorem Way.up {H H' : Hp} {x : V} {t r : T3} (h : Way C H x t r) (e : Same H H') : Way C H' x t r := by
  obtain ⟨p, sv, bv, gv, hx, hp, h1, h2, h3⟩ := h
  exact ⟨p, sv, bv, gv, hx, e _ _ hp, h1.up e, h2.up e, h3.up e⟩
def spAlR : Sp := sp3 fun u v b H Q => ∃ t r, It H u t ∧ It H v r ∧ b = .bl (alB t r) ∧ Sz3 800 t ∧ Sz3 800 r ∧ ∀ H', Same H H' → Q (.bl true) H'
theorem c_AlR (T : Txt K mg C) : Gal P w K mg base "_law_alike_right" 7 ["_law_first", "_law_last", "_law_due"] spAlR := by
  have cM : Cal P w K mg base "_law_move" 5 ["_law_trip_here"] (spMade C) := c_Move T
  have cI : Kal P w K mg base "is_move_alike" 4 "one" "other" (spIsAl C) := c_IsAl T
  have cA : Kal P w K mg base "move_alike" 6 "one" "other" (spAlS C) := c_AlS T
  have cC : Kal P w K mg base "do_moves_commute" 4 "one" "other" (spCom C) := c_Com T
  have cB : Cal P w K mg base "_law_between" 2 ["_law_by", "_law_trip_here"] spBtw := c_Btw T
  have c3 : Cal P w K mg base "_law_three" 3 ["_law_made"] (spTriple C) := c_Three T
  have cP : Cal P w K mg base "_law_put" 1 ["_law_left", "_law_right_here"] spPut := c_Put T
  refine T.dAlR.gal scAlR sp3_len fun f cdv A outer s H vs Q E hg hr h => ?_
  obtain ⟨u, v, _, rfl, t, r, o1, o2, rfl, h1, h2, q⟩ := h
  refine ⟨_, pss_cons (ps_par (i := 3) (j := 4) (by rfl) scAlR.nd rfl rfl (by decide) rfl rfl (pa_cons (pe_fn cM (hr.mono (by decide)) (pa_cons (pv 0) pa_nil)) (pa_cons (pe_fn cM (hr.mono (by decide)) (pa_cons (pv 1) pa_nil)) pa_nil)) (by rfl))
    (pss_cons (ps_if (pt_cmpR op_ne
        (pe_callB (call_repr2 hg hr.units) rfl T.z_repr (by decide +kernel) (pa_cons (pe_lst (pa_cons (pe_fn cI.cal (hr.mono (by decide)) (pa_cons (pv 3) (pa_cons (pv 4) pa_nil))) (pa_cons (pe_flip cI (hr.mono (by decide)) (pv 3) (pv 4)) pa_nil))) pa_nil))
        (pe_callB (call_repr2 hg hr.units) rfl T.z_repr (by decide +kernel) (pa_cons (pe_lst (pa_cons (pv 2) (pa_cons (pv 2) pa_nil))) pa_nil)) (nomark _)) (pss_one (ps_ret pe_bl)) pss_nil)
    (pss_cons (ps_set (i := 5) scAlR.nd rfl (.inl rfl) (pe_lst (pa_cons (pe_tup (pa_cons (pe_fn cA.cal (hr.mono (by decide)) (pa_cons (pv 3) (pa_cons (pv 4) pa_nil))) (pa_cons (pv 0) (pa_cons (pv 1) pa_nil))))
        (pa_cons (pe_tup (pa_cons (pe_flip cA (hr.mono (by decide)) (pv 3) (pv 4)) (pa_cons (pv 1) (pa_cons (pv 0) pa_nil)))) pa_nil))))
    (pss_cons (ps_for PassesOwn.never rfl (pi_list (pv 5)) (pg_tup (by rfl) (pgs_cons (pg_name (i := 6) scAlR.nd rfl (.inl rfl)) (pgs_cons (pg_name (i := 7) scAlR.nd rfl (.inl rfl)) (pgs_cons (pg_name (i := 8) scAlR.nd rfl (.inl rfl)) pgs_nil))))
      (pss_cons (ps_if (pt_cmpR op_ne (pe_cmpR op_notN (pv 6) pe_non (nomark _)) (pv 2) (nomark _)) (pss_one (ps_ret pe_bl)) pss_nil)
      (pss_one (ps_if (PW.pt (pw_and (pt_val (pv 2)) (pw_and1 (pt_cmpR (op_ne3 hr.units) (pe_fn cB (hr.mono (by decide)) (pa_cons (pe_fn c3 (hr.mono (by decide)) (pa_cons (pv 6) pa_nil)) (pa_cons (pv 7) pa_nil))) (pv 8) (nomark _))))) (pss_one (ps_ret pe_bl)) pss_nil))))
    (pss_cons (ps_set (i := 9) scAlR.nd rfl (.inl rfl) (pe_lst (pa_cons (pe_fn cC.cal (hr.mono (by decide)) (pa_cons (pv 3) (pa_cons (pv 4) pa_nil))) (pa_cons (pe_flip cC (hr.mono (by decide)) (pv 3) (pv 4)) pa_nil))))
    (pss_one (ps_ret (pe_cmpR op_eq (pe_callB (call_repr2 hg hr.units) rfl T.z_repr (by decide +kernel) (pa_cons (pv 9) pa_nil))
      (pe_callB (call_repr2 hg hr.units) rfl T.z_repr (by decide +kernel) (pa_cons (pe_op op_rep (pe_lst (pa_cons (pe_cmpR (op_eq3 hr.units) (pe_fn cP (hr.mono (by decide)) (pa_cons (pv 0) (pa_cons (pv 1) pa_nil))) (pe_fn cP (hr.mono (by decide)) (pa_cons (pv 1) (pa_cons (pv 0) pa_nil))) (nomark _)) pa_nil)) pe_int) pa_nil)) (nomark _)))))))), ?_⟩
  have g1 : Sz3 900 t := h1.mono (by decide)
  have g2 : Sz3 900 r := h2.mono (by decide)
  refine ⟨_, rfl, _, rfl, t, o1, fun m1 H1 e1 b1 => ⟨_, rfl, _, rfl, r, o2.up e1, fun m2 H2 e2 b2 => ⟨_, _, rfl, ?_⟩⟩⟩
  have b1 := b1.up e2
  have e2 := e1.trans e2
  -- is_move_alike, both ways
  refine ⟨_, rfl, _, rfl, _, _, rfl, t, r, b1, b2, g1, g2, fun H3 e3 => ?_⟩
  refine ⟨_, rfl, _, rfl, rfl, rfl, _, _, rfl, r, t, b2.up e3, b1.up e3, g2, g1, fun H4 e4 => ?_⟩
  rw [alB_flip t r]
  refine ⟨(by show 2 ≤ sizeLine; decide), fun p5 hp5 => ⟨p5, _, _, rfl, upd_same, ?_⟩⟩
  have e5 := ((e2.trans e3).trans e4).trans (same_new (o := .lst [.bl (alB t r), .bl (alB t r)]) hp5)
  have s5 := (e3.trans e4).trans (same_new (o := .lst [.bl (alB t r), .bl (alB t r)]) hp5)
  generalize upd H4 p5 (.lst [.bl (alB t r), .bl (alB t r)]) = H5 at *
  refine ⟨_, rfl, _, rfl, (by show 2 ≤ sizeLine; decide), fun p6 hp6 => ⟨p6, _, _, rfl, upd_same, rfl, _, rfl, ?_⟩⟩
  have e6 := e5.trans (same_new (o := .lst [.bl (alB t r), .bl (alB t r)]) hp6)
  have s6 := s5.trans (same_new (o := .lst [.bl (alB t r), .bl (alB t r)]) hp6)
  generalize upd H5 p6 (.lst [.bl (alB t r), .bl (alB t r)]) = H6 at *
  rw [decide_eq_true rfl]
  refine iteF ?_
  -- move_alike, both ways
  refine ⟨_, rfl, _, rfl, _, _, rfl, t, r, b1.up s6, b2.up s6, g1, g2, fun v1 H7 e7 w1 => ⟨_, rfl, _, rfl, (by show 3 ≤ sizeLine; decide), fun p8 hp8 => ?_⟩⟩
  have e8 := e7.trans (same_new (o := .tup [v1, u, v]) hp8)
  have y1 : Way C (upd H7 p8 (.tup [v1, u, v])) (.ref p8) t r := ⟨p8, v1, u, v, rfl, upd_same, o1.up (e6.trans e8), o2.up (e6.trans e8), w1.up (same_new hp8)⟩
  generalize upd H7 p8 (.tup [v1, u, v]) = H8 at *
  refine ⟨_, rfl, _, rfl, rfl, rfl, _, _, rfl, r, t, b2.up (s6.trans e8), b1.up (s6.trans e8), g2, g1, fun v2 H9 e9 w2 => ⟨_, rfl, _, rfl, (by show 3 ≤ sizeLine; decide), fun pA hpA => ?_⟩⟩
  have eA := (e8.trans e9).trans (same_new (o := .tup [v2, v, u]) hpA)
  have y1 := y1.up (e9.trans (same_new (o := .tup [v2, v, u]) hpA))
  have y2 : Way C (upd H9 pA (.tup [v2, v, u])) (.ref pA) r t := ⟨pA, v2, v, u, rfl, upd_same, o2.up (e6.trans eA), o1.up (e6.trans eA), w2.up (same_new hpA)⟩
  generalize upd H9 pA (.tup [v2, v, u]) = HA at *
  refine ⟨(by show 2 ≤ sizeLine; decide), fun pB hpB => ?_⟩
  have eB := (e6.trans eA).trans (same_new (o := .lst [.ref p8, .ref pA]) hpB)
  have sB := (s6.trans eA).trans (same_new (o := .lst [.ref p8, .ref pA]) hpB)
  have y1 := y1.up (same_new (o := .lst [.ref p8, .ref pA]) hpB)
  have y2 := y2.up (same_new (o := .lst [.ref p8, .ref pA]) hpB)
  have lB : upd HA pB (.lst [.ref p8, .ref pA]) pB = some (.lst [.ref p8, .ref pA]) := upd_same
  generalize upd HA pB (.lst [.ref p8, .ref pA]) = HB at *
  refine ⟨_, rfl, pB, rfl, ⟨_, SqL.of lB⟩, for_list (K := K) (a := pB) (xs := [.ref p8, .ref pA]) (fun i σ' H' => ∃ z6 z7 z8 z9, σ' = [some u, some v, some (.bl (alB t r)), some m1, some m2, some (.ref pB), z6, z7, z8, z9] ∧ Same HB H')
    ⟨_, _, _, _, rfl, Same.refl _⟩ (fun i σ' H' _ ⟨_, _, _, _, _, e⟩ => SqL.of (e _ _ lB)) ?_ ?_⟩
  · rintro i x σ' H' hx ⟨z6, z7, z8, z9, rfl, eC⟩
    have way : ∃ t' r', Way C H' x t' r' ∧ alB t' r' = alB t r ∧ Sz3 9000 t' := by
      match i, hx with
      | 0, hx =>
        obtain rfl := Option.some.inj hx
        exact ⟨t, r, y1.up eC, rfl, h1.mono (by decide)⟩
      | 1, hx =>
        obtain rfl := Option.some.inj hx
        exact ⟨r, t, y2.up eC, alB_flip t r, h2.mono (by decide)⟩
      | i + 2, hx => simp at hx
    obtain ⟨t', r', ⟨p, sv, bv, gv, rfl, hp, ib, ig, hsv⟩, al, g3⟩ := way
    refine ⟨p, _, rfl, SqT.of hp, rfl, _, _, rfl, _, _, rfl, _, _, rfl, rfl, ?_⟩
    refine ⟨_, rfl, rfl, _, rfl, rfl, _, rfl, ?_⟩
    rcases hsv with ⟨k1, rfl⟩ | ⟨k1, c, ob, k2, k3⟩
    · rw [← al, k1]
      refine iteF ⟨_, rfl, false, rfl, iteF (iteF ?_)⟩
      exact ⟨_, _, _, _, by rw [← k1, al]; rfl, eC⟩
    · rw [← al, k1]
      obtain ⟨pc, dxc, rfl, hpc⟩ := id ob
      rw [notnon, decide_eq_true rfl]
      refine iteF ⟨_, rfl, true, rfl, iteT ⟨_, rfl, _, rfl, c, ob, fun tv H2 e2' i2 => ⟨_, rfl, _, _, rfl, c, t', i2, ib.up e2', k3.mono (by decide), g3, fun bt H3 e3' i3 => ⟨_, rfl, _, r', i3, (ig.up e2').up e3', _, rfl, ?_⟩⟩⟩⟩
      rw [k2, decide_eq_true rfl]
      refine iteF ⟨_, _, _, _, by rw [← k1, al]; rfl, (eC.trans e2').trans e3'⟩
  · rintro σ' H' ⟨z6, z7, z8, z9, rfl, eC⟩
    have sC := sB.trans eC
    have eD := eB.trans eC
    refine ⟨_, rfl, _, rfl, _, _, rfl, t, r, b1.up sC, b2.up sC, g1, g2, fun H3 e3' => ?_⟩
    refine ⟨_, rfl, _, rfl, rfl, rfl, _, _, rfl, r, t, (b2.up sC).up e3', (b1.up sC).up e3', g2, g1, fun H4 e4' => ?_⟩
    rw [com_flip t r]
    refine ⟨(by show 2 ≤ sizeLine; decide), fun pE hpE => ?_⟩
    have eE := ((eD.trans e3').trans e4').trans (same_new (o := .lst [.bl (decide (t.x * r.y - r.x * t.y = 0)), .bl (decide (t.x * r.y - r.x * t.y = 0))]) hpE)
    have lE : upd H4 pE (.lst [.bl (decide (t.x * r.y - r.x * t.y = 0)), .bl (decide (t.x * r.y - r.x * t.y = 0))]) pE = some (.lst [.bl (decide (t.x * r.y - r.x * t.y = 0)), .bl (decide (t.x * r.y - r.x * t.y = 0))]) := upd_same
    generalize upd H4 pE (.lst [.bl (decide (t.x * r.y - r.x * t.y = 0)), .bl (decide (t.x * r.y - r.x * t.y = 0))]) = HE at *
    refine ⟨_, rfl, pE, _, _, rfl, lE, ?_⟩
    refine ⟨_, rfl, _, rfl, _, _, rfl, t, r, o1.up eE, o2.up eE, h1.mono (by decide), h2.mono (by decide), fun a1 H5' f5 i5 => ?_⟩
    refine ⟨_, rfl, _, rfl, _, _, rfl, r, t, o2.up (eE.trans f5), o1.up (eE.trans f5), h2.mono (by decide), h1.mono (by decide), fun a2 H6' f6 i6 => ⟨_, _, i5.up f6, i6, ?_⟩⟩
    rw [com_put]
    refine ⟨(by show 1 ≤ sizeLine; decide), fun pF hpF => ⟨pF, 2, _, rfl, rfl, upd_same, by decide, by decide, (by show 2 ≤ sizeLine; decide), fun pG hpG => ⟨pG, _, _, rfl, upd_same, rfl, ?_⟩⟩⟩
    rw [decide_eq_true rfl]
    exact q _ (((eE.trans f5).trans f6).trans ((same_new hpF).trans (same_new hpG)))
end
end Mv
/-! Whether roots are told rightly. -/
namespace Mv
open PySem PySem.Spec PyProof.Rows L2
section
variable {X : Cx}
/-- (a, b) + (c,) -/
def rCat1 : R2 := fun x y H Q => ∃ (p q : Addr) (a b c : Int), x = .ref p ∧ y = .ref q ∧ H p = some (.tup [.int a, .int b]) ∧ H q = some (.tup [.int c]) ∧ ∀ v H', Same H H' → It H' v ⟨a, b, c⟩ → Q v H'
theorem op_cat1 : OpR X (binaryOp .Add) rCat1 := OpR_to op_catT fun x y H Q ⟨p, q, a, b, c, e1, e2, h1, h2, k⟩ =>
  ⟨p, q, _, _, e1, e2, SqT.of h1, SqT.of h2, by simp, by show 3 ≤ sizeLine; decide, fun z => (by cases z), fun _ r hr => k _ _ (same_new hr) ⟨r, rfl, upd_same⟩⟩
/-- != of lists of two truth values -/
def rNeB2 : R2 := fun x y H Q => ∃ (p q : Addr) (a b c d : Bool), x = .ref p ∧ y = .ref q ∧ H p = some (.lst [.bl a, .bl b]) ∧ H q = some (.lst [.bl c, .bl d]) ∧ Q (.bl (!((a == c) && (b == d)))) H
theorem op_neB2 (hu : X.A.units + 64 < cLine) : OpR X (compareOp .NotEq) rNeB2 := OpR_to (op_neD hu) fun x y H Q ⟨p, q, a, b, c, d, e1, e2, h1, h2, k⟩ => by
  subst e1 e2
  refine ⟨.list [.bool a, .bool b], .list [.bool c, .bool d], .lst (SqL.of h1) (.cons (.bl a) (.cons (.bl b) .nil)), .lst (SqL.of h2) (.cons (.bl c) (.cons (.bl d) .nil)), rfl, rfl, ?_⟩
  simp only [PyData.eqv, PyData.eqvAll, Bool.and_true]
  exact k
/-- != of lists of two tuples of three numbers -/
def rNeT2 : R2 := fun x y H Q => ∃ (p q : Addr) (a b c d : V) (ta tb tc td : T3), x = .ref p ∧ y = .ref q ∧ H p = some (.lst [a, b]) ∧ H q = some (.lst [c, d]) ∧ It H a ta ∧ It H b tb ∧ It H c tc ∧ It H d td ∧ Q (.bl (!(decide (ta = tc) && decide (tb = td)))) H
theorem op_neT2 (hu : X.A.units + 64 < cLine) : OpR X (compareOp .NotEq) rNeT2 := OpR_to (op_neD hu) fun x y H Q ⟨p, q, a, b, c, d, ta, tb, tc, td, e1, e2, h1, h2, i1, i2, i3, i4, k⟩ => by
  subst e1 e2
  refine ⟨_, _, .lst (SqL.of h1) (.cons (dp3 i1) (.cons (dp3 i2) .nil)), .lst (SqL.of h2) (.cons (dp3 i3) (.cons (dp3 i4) .nil)), rfl, rfl, ?_⟩
  rw [show PyData.eqv (.list [.tuple [.int ta.x, .int ta.y, .int ta.s], .tuple [.int tb.x, .int tb.y, .int tb.s]]) (.list [.tuple [.int tc.x, .int tc.y, .int tc.s], .tuple [.int td.x, .int td.y, .int td.s]]) = (decide (ta = tc) && decide (tb = td)) by
    rw [← eqv3, ← eqv3]
    simp only [PyData.eqv, PyData.eqvAll, Bool.and_true]]
  exact k
end
/-- an if that leaves the slots as they are -/
theorem ifs_post {t : TT} {u v : TS} {D : Ends} {σ : L2.St} {H : Hp} {c : Bool} (PV : Hp → Prop) (ht : ∀ R : Bool → Hp → Prop, R c H → t σ H R) (h1 : c = true → ∀ N : L2.St → Hp → Prop, (∀ H', PV H' → N σ H') → u { D with nx := N } σ H)
    (h2 : c = false → ∀ N : L2.St → Hp → Prop, (∀ H', PV H' → N σ H') → v { D with nx := N } σ H) (q : ∀ H', PV H' → D.nx σ H') : tIfS t u v D σ H := by
  refine ht _ ?_
  cases c with
  | true => exact iteT (h1 rfl D.nx q)
  | false => exact iteF (h2 rfl D.nx q)
/-! ### a list made of a tuple's numbers, one by one -/
def map3 (f : Int → Int) (t : T3) : T3 := ⟨f t.x, f t.y, f t.s⟩
def Mp (f : Int → Int) (t : T3) (D : Addr) (H1 : Hp) (i : Nat) (H' : Hp) : Prop := Same H1 H' ∧ H' D = some (.lst ((tpV (map3 f t)).take i))
theorem Mp.turn {f : Int → Int} {t : T3} {D : Addr} {H1 H' : Hp} {i : Nat} {x : V} (hD : H1 D = none) (hx : (tpV t)[i]? = some x) (p : Mp f t D H1 i H') :
    ∃ z, (z = t.x ∨ z = t.y ∨ z = t.s) ∧ x = .int z ∧ H' D = some (.lst ((tpV (map3 f t)).take i)) ∧ ((tpV (map3 f t)).take i).length < sizeLine ∧ Mp f t D H1 (i + 1) (upd H' D (.lst ((tpV (map3 f t)).take i ++ [.int (f z)]))) := by
  obtain ⟨e, h⟩ := p
  have st : ∀ xs, Same H1 (upd H' D (.lst xs)) := fun xs b o z => by
    rw [upd_ne (ne_of_none z hD)]
    exact e _ _ z
  have l : ((tpV (map3 f t)).take i).length < sizeLine := by
    rw [List.length_take]
    exact Nat.lt_of_le_of_lt (Nat.min_le_right _ _) (by show 3 < sizeLine; decide)
  match i, hx, h, l with
  | 0, hx, h, l => exact ⟨t.x, .inl rfl, (Option.some.inj hx).symm, h, l, st _, upd_same⟩
  | 1, hx, h, l => exact ⟨t.y, .inr (.inl rfl), (Option.some.inj hx).symm, h, l, st _, upd_same⟩
  | 2, hx, h, l => exact ⟨t.s, .inr (.inr rfl), (Option.some.inj hx).symm, h, l, st _, upd_same⟩
  | i + 3, hx, h, l => simp at hx
section
variable {P : Program} {w : World} {K : PySem.W.Frag} {mg : Str → Option Value} {base : Heap} {C : Addr}
/-- what move_root hands out -/
def RV (C : Addr) (H : Hp) (v : V) (t : T3) (d : Int) : Prop := (rtB t d = false ∧ v = .non) ∨ (rtB t d = true ∧ Ob C H v (rt t d))
theorem RV.up {H H' : Hp} {v : V} {t : T3} {d : Int} (h : RV C H v t d) (e : Same H H') : RV C H' v t d := by
  rcases h with h | ⟨h, o⟩
  · exact .inl h
  · exact .inr ⟨h, o.up e⟩
theorem RV.not {H : Hp} {v : V} {t : T3} {d : Int} (h : RV C H v t d) : (!decide (v = .non)) = rtB t d := by
  rcases h with ⟨h, rfl⟩ | ⟨h, p, dx, rfl, _⟩
  · rw [h, decide_eq_true rfl]
    rfl
  · rw [h, notnon]
def spMRootR (C : Addr) : Sp := sp2 fun u v H Q => ∃ t d, Ob C H u t ∧ v = .int d ∧ 0 < d ∧ Sz 600 d ∧ Sz3 600 t ∧ ∀ v H', Same H H' → RV C H' v t d → Q v H'
theorem c_MRootR (T : Txt K mg C) : Kal P w K mg base "move_root" 6 "one" "degree" (spMRootR C) := (c_MRoot T).imp fun vs H Q E ⟨u, v, e, t, d, o1, o2, h0, h1, h2, q⟩ =>
  ⟨u, v, e, t, d, o1, o2, h0, h1, h2, fun y H' z => q _ H' z (.inl ⟨y, rfl⟩), fun y v H' z o => q v H' z (.inr ⟨y, o⟩)⟩
theorem pow25 : (10 : Int) ^ (25 : Int).toNat = 10 ^ 25 := rfl
theorem Lo.of1 {t : T3} {d : Int} (h : In3 4 t) (h1 : 1 ≤ d) (h5 : d ≤ 5) : Lo t d := by
  obtain ⟨hx, hy, hs⟩ := h
  exact ⟨h1, h5, by omega, by omega, by omega⟩
theorem Lo.of2 {t : T3} {d : Int} (h : In3 2 t) (h1 : 1 ≤ d) (h5 : d ≤ 5) : Lo (pw t d) d := by
  obtain ⟨hx, hy, hs⟩ := h
  obtain ⟨a, b, c⟩ := pw_small h1 h5 hx hy hs
  exact ⟨h1, h5, a, b, c⟩
theorem Lo.sz {t : T3} {d : Int} (h : Lo t d) : Sz3 10 t := by
  have := h.d5
  have := h.d1
  have := h.x
  have := h.y
  have := h.s
  exact ⟨sz_small (by omega) (by omega), sz_small (by omega) (by omega), sz_small (by omega) (by omega)⟩
def spRootsR : Sp := sp1 fun u H Q => ∃ a k, u = .ref a ∧ Reel H a k ∧ k ≤ 800 ∧ ∀ H', But a H H' → Reel H' a (k + 12) → Q (.bl true) H'
theorem c_RootsR (T : Txt K mg C) : Cal P w K mg base "_law_roots_right" 7 ["_law_reel_here"] spRootsR := by
  have cW : Cal P w K mg base "_law_wind" 1 ["_law_reel_here", "_law_many"] spWind := c_Wind T
  have cO : Cal P w K mg base "_law_one_of" 2 ["_law_reel_here", "_law_menu"] spOneOf := c_OneOf T
  have cT : Cal P w K mg base "_law_trip" 2 ["_law_reel_here", "_law_size"] spTrip := c_Trip T
  have cP : Cal P w K mg base "_law_power" 2 ["_law_trip_here", "_law_count"] spPower := c_Power T
  have cR : Kal P w K mg base "move_root" 6 "one" "degree" (spMRootR C) := c_MRootR T
  have cM : Cal P w K mg base "_law_move" 5 ["_law_trip_here"] (spMade C) := c_Move T
  have cH : Cal P w K mg base "_law_has_root" 3 ["_law_trip_here", "_law_level"] spHasR := c_HasR T
  have c3 : Cal P w K mg base "_law_three" 3 ["_law_made"] (spTriple C) := c_Three T
  obtain ⟨fe, fde, FE, be, he, hfe⟩ := T.eq_
  have GE : FnOk P w K mg base CX0 4 fe fde ["self", "other"] (spEqM C) := c_Eq T FE
  refine T.dRootsR.cal scRootsR sp1_len fun f cdv A outer s H vs Q E hr h => ?_
  obtain ⟨_, rfl, a, k, rfl, r, hk, q⟩ := h
  refine ⟨_, pss_cons (ps_set (i := 1) scRootsR.nd rfl (.inr rfl) (pe_op op_add pe_int (pe_fn cW (hr.mono (by decide)) (pa_cons (pv 0) (pa_cons pe_int pa_nil)))))
    (pss_cons (ps_set (i := 2) scRootsR.nd rfl (.inl rfl) (pe_fn cO (hr.mono (by decide)) (pa_cons (pv 0) (pa_cons (pe_lst (pa_cons (pe_fn cT (hr.mono (by decide)) (pa_cons (pv 0) (pa_cons pe_int pa_nil)))
      (pa_cons (pe_fn cP (hr.mono (by decide)) (pa_cons (pe_fn cT (hr.mono (by decide)) (pa_cons (pv 0) (pa_cons pe_int pa_nil))) (pa_cons (pv 1) pa_nil))) pa_nil))) pa_nil))))
    (pss_cons (ps_set (i := 3) scRootsR.nd rfl (.inl rfl) (pe_lst (pa_cons (pe_fn cR.cal hr (pa_cons (pe_fn cM (hr.mono (by decide)) (pa_cons (pv 2) pa_nil)) (pa_cons (pv 1) pa_nil)))
      (pa_cons (pe_flip cR hr (pv 1) (pe_fn cM (hr.mono (by decide)) (pa_cons (pv 2) pa_nil))) pa_nil))))
    (pss_cons (ps_set (i := 4) scRootsR.nd rfl (.inl rfl) (pe_fn cH (hr.mono (by decide)) (pa_cons (pv 2) (pa_cons (pv 1) pa_nil))))
    (pss_cons (ps_if (pt_cmpR (op_neB2 hr.units) (pe_lc (own := [("_law_each", 8)]) (g := gName 8) (tt := tYes) (by rfl) scRootsR.nd (pi_list (pv 3)) (blkOk_by (N := nRootsR) (sc := defScope sRootsR) (by decide +kernel))
        (fun _ _ _ _ _ => pg_name (i := 8) scRootsR.nd rfl (.inl rfl)) (fun _ _ _ _ _ => pts_nil) (fun _ _ _ _ _ => pe_cmpR op_notN (pv 8) pe_non (nomark _))) (pe_lst (pa_cons (pv 4) (pa_cons (pv 4) pa_nil))) (nomark _)) (pss_one (ps_ret pe_bl)) pss_nil)
    (pss_cons (ps_if (pt_val (pv 4)) (pss_one (ps_if (pt_cmpR (op_neT2 hr.units) (pe_lc (own := [("_law_each", 8)]) (g := gName 8) (tt := tYes) (by rfl) scRootsR.nd (pi_list (pv 3)) (blkOk_by (N := nRootsR) (sc := defScope sRootsR) (by decide +kernel))
        (fun _ _ _ _ _ => pg_name (i := 8) scRootsR.nd rfl (.inl rfl)) (fun _ _ _ _ _ => pts_nil) (fun _ _ _ _ _ => pe_fn cP (hr.mono (by decide)) (pa_cons (pe_fn c3 (hr.mono (by decide)) (pa_cons (pv 8) pa_nil)) (pa_cons (pv 1) pa_nil)))) (pe_lst (pa_cons (pv 2) (pa_cons (pv 2) pa_nil))) (nomark _)) (pss_one (ps_ret pe_bl)) pss_nil)) pss_nil)
    (pss_cons (ps_par (i := 5) (j := 6) (by rfl) scRootsR.nd rfl rfl (by decide) rfl rfl (pa_cons (pe_callTy call_tuple_of rfl T.z_tuple (by decide +kernel) (pa_cons (pe_lc (own := [("_law_number", 9)]) (g := gName 9) (tt := tYes) (by rfl) scRootsR.nd (pi_tup (pe_fn cT (hr.mono (by decide)) (pa_cons (pv 0) (pa_cons pe_int pa_nil)))) (blkOk_by (N := nRootsR) (sc := defScope sRootsR) (by decide +kernel))
        (fun _ _ _ _ _ => pg_name (i := 9) scRootsR.nd rfl (.inl rfl)) (fun _ _ _ _ _ => pts_nil) (fun _ _ _ _ _ => pe_op op_add (pe_op op_mul (pv 9) (pe_op op_pow pe_int pe_int)) pe_int)) pa_nil))
        (pa_cons (pe_op op_add (pe_op op_pow pe_int pe_int) (pe_fn cW (hr.mono (by decide)) (pa_cons (pv 0) (pa_cons pe_int pa_nil)))) pa_nil)) (by rfl))
    (pss_cons (ps_set (i := 7) scRootsR.nd rfl (.inl rfl) (pe_fn cP (hr.mono (by decide)) (pa_cons (pv 5) (pa_cons (pv 6) pa_nil))))
    (pss_cons (ps_if (pt_cmpR (op_neO GE be T.ne T.c4 he hfe (hr.mono (by decide))) (pe_fn cR.cal hr (pa_cons (pe_fn cM (hr.mono (by decide)) (pa_cons (pv 7) pa_nil)) (pa_cons (pv 6) pa_nil))) (pe_fn cM (hr.mono (by decide)) (pa_cons (pv 5) pa_nil)) (nomark _)) (pss_one (ps_ret pe_bl)) pss_nil)
    (pss_cons (ps_if (pt_cmpR op_notN (pe_fn cR.cal hr (pa_cons (pe_fn cM (hr.mono (by decide)) (pa_cons (pe_op op_cat1 (pe_slice sl_cut (pv 7) po_none (po_some pe_int)) (pe_tup (pa_cons (pe_op op_add (pe_ix ix_g2 (pv 7) pe_int (fun _ _ => rfl)) pe_int) pa_nil))) pa_nil)) (pa_cons (pv 6) pa_nil))) pe_non (nomark _)) (pss_one (ps_ret pe_bl)) pss_nil)
    (pss_one (ps_ret (pe_cmpR (op_eqO GE be he hfe (hr.mono (by decide))) (pe_fn cR.cal hr (pa_cons (pe_move T (hr.mono (by decide)) (pa_cons pe_int (pa_cons pe_int (pa_cons pe_int pa_nil)))) (pa_cons (pv 6) pa_nil))) (pe_move T (hr.mono (by decide)) (pa_cons pe_int (pa_cons pe_int (pa_cons pe_int pa_nil)))) (nomark _))))))))))))), ?_⟩
  -- the degree
  refine ⟨_, rfl, _, _, rfl, a, k, 5, rfl, rfl, r, by omega, by decide, by decide, fun H1 g e1 r1 f0 f1 => ⟨_, _, rfl, rfl, ?_⟩⟩
  have d1 : 1 ≤ 1 + g := by omega
  have d5 : 1 + g ≤ 5 := by omega
  dsimp only
  generalize 1 + g = d at *
  -- the menu, one of it
  refine ⟨_, rfl, _, rfl, _, _, rfl, a, k + 1, 4, rfl, rfl, by decide, by decide, r1, by omega, fun v1 H2 t1 e2 r2 i1 b1 => ?_⟩
  refine ⟨_, rfl, _, _, rfl, a, k + 4, 2, rfl, rfl, by decide, by decide, r2, by omega, fun v2 H3 t2 e3 r3 i2 b2 => ?_⟩
  refine ⟨_, rfl, _, _, rfl, t2, d, i2, rfl, by omega, by omega, ?_, fun v3 H4 e4 i3 => ?_⟩
  · exact ⟨(sz_small (by have := b2.1; omega) (by have := b2.1; omega)).mono (by decide), (sz_small (by have := b2.2.1; omega) (by have := b2.2.1; omega)).mono (by decide), (sz_small (by have := b2.2.2; omega) (by have := b2.2.2; omega)).mono (by decide)⟩
  have r4 := r3.up e4
  have i1 := (i1.but r2 e3).up e4
  have b4 : But a H H4 := ((e1.trans e2).trans e3).same e4
  refine ⟨(by show 2 ≤ sizeLine; decide), fun pm hpm => ?_⟩
  have nm : pm ≠ a := fun z => by
    obtain ⟨xs, hx⟩ := r4.lst
    rw [z, hx] at hpm
    cases hpm
  refine ⟨_, _, rfl, a, k + 7, pm, _, rfl, rfl, nm, upd_same, r4.up (same_new hpm), by omega, (by show 0 < 2; decide), (by show 2 ≤ 1000; decide), fun H5 x e5 r5 hx => ?_⟩
  have rm := r4.up (same_new (o := .lst [v1, v3]) hpm)
  have ix : ∃ t, It H5 x t ∧ Lo t d := by
    rcases List.mem_cons.mp hx with rfl | hx
    · exact ⟨t1, (i1.up (same_new hpm)).but rm e5, Lo.of1 b1 d1 d5⟩
    · obtain rfl := List.mem_singleton.mp hx
      exact ⟨_, (i3.up (same_new hpm)).but rm e5, Lo.of2 b2 d1 d5⟩
  obtain ⟨t, ix, lo⟩ := ix
  have b5 : But a H H5 := (b4.same (same_new hpm)).trans e5
  have tz := lo.sz
  have dz : Sz 10 d := sz_small (by omega) (by omega)
  clear e1 e2 e3 e4 e5 i1 i2 i3 r1 r2 r3 r4 rm b4 hx
  -- told
  refine ⟨_, rfl, _, rfl, t, ix, fun m1 H6 e6 o6 => ?_⟩
  refine ⟨_, rfl, _, _, rfl, t, d, o6, rfl, by omega, dz.mono (by decide), tz.mono (by decide), fun s1 H7 e7 w7 => ?_⟩
  refine ⟨_, rfl, _, rfl, _, rfl, t, ix.up (e6.trans e7), fun m2 H8 e8 o8 => ?_⟩
  refine ⟨rfl, rfl, _, _, rfl, t, d, o8, rfl, by omega, dz.mono (by decide), tz.mono (by decide), fun s2 H9 e9 w9 => ?_⟩
  have w7 := w7.up (e8.trans e9)
  have e59 : Same H5 H9 := ((e6.trans e7).trans e8).trans e9
  refine ⟨(by show 2 ≤ sizeLine; decide), fun pt hpt => ?_⟩
  have e5A := e59.trans (same_new (o := .lst [s1, s2]) hpt)
  have w7 := w7.up (same_new (o := .lst [s1, s2]) hpt)
  have w9 := w9.up (same_new (o := .lst [s1, s2]) hpt)
  have lt : upd H9 pt (.lst [s1, s2]) pt = some (.lst [s1, s2]) := upd_same
  generalize upd H9 pt (.lst [s1, s2]) = HA at *
  clear e6 e7 e8 e9 e59 o6 o8
  -- due
  refine ⟨_, rfl, _, rfl, _, _, rfl, t, d, ix.up e5A, rfl, lo, fun HB eB => ?_⟩
  have e5B := e5A.trans eB
  have lt := eB _ _ lt
  have w7 := w7.up eB
  have w9 := w9.up eB
  clear e5A eB
  -- as many as are due
  refine ⟨_, rfl, pt, rfl, ⟨_, SqL.of lt⟩, fun D hD => ?_⟩
  refine lc_list (K := K) (a := pt) (xs := [s1, s2]) (fun i H' => Same HB H' ∧ H' D = some (.lst (List.replicate i (.bl (rtB t d))))) ⟨same_new hD, upd_same⟩ (fun i H' _ p => SqL.of (p.1 _ _ lt)) ?_ ?_
  · rintro i y H' hy ⟨eS, hl⟩
    have ny : (!decide (y = .non)) = rtB t d := by
      match i, hy with
      | 0, hy =>
        obtain rfl := Option.some.inj hy
        exact w7.not
      | 1, hy =>
        obtain rfl := Option.some.inj hy
        exact w9.not
      | i + 2, hy => simp at hy
    have hi : i < 2 := (List.getElem?_eq_some_iff.mp hy).1
    refine ⟨rfl, _, rfl, rfl, _, hl, ?_, fun b o z => ?_, ?_⟩
    · rw [List.length_replicate]
      exact Nat.lt_trans hi (by decide)
    · rw [upd_ne (ne_of_none z hD)]
      exact eS _ _ z
    · rw [ny, List.replicate_succ']
      exact upd_same
  rintro HC ⟨eC, hl⟩
  have hl2 : HC D = some (.lst [.bl (rtB t d), .bl (rtB t d)]) := hl
  refine ⟨_, rfl, _, rfl, (by show 2 ≤ sizeLine; decide), fun p2 hp2 => ⟨D, p2, _, _, _, _, rfl, rfl, (same_new hp2) _ _ hl2, upd_same, _, rfl, ?_⟩⟩
  have e5D := (e5B.trans eC).trans (same_new (o := .lst [.bl (rtB t d), .bl (rtB t d)]) hp2)
  have eBD := eC.trans (same_new (o := .lst [.bl (rtB t d), .bl (rtB t d)]) hp2)
  have lt := eBD _ _ lt
  have w7 := w7.up eBD
  have w9 := w9.up eBD
  generalize upd HC p2 (.lst [.bl (rtB t d), .bl (rtB t d)]) = HD at *
  rw [show (!((rtB t d == rtB t d) && (rtB t d == rtB t d))) = false by simp]
  refine iteF ?_
  clear e5B eC hl hl2 eBD hD hp2
  -- each of them, so often as the degree
  dsimp only [tNext, tSeq]
  refine ifs_post (fun HE => Same HD HE) (c := rtB t d) (fun R k => ⟨_, rfl, _, rfl, k⟩) (fun y N k => ?_) (fun y N k => k _ (Same.refl _)) (fun HE eE => ?_)
  · have rs := rt_small lo.d1 lo.d5 lo.x lo.y lo.s y
    have rz : Sz3 10 (rt t d) := ⟨sz_small (by omega) (by omega), sz_small (by omega) (by omega), sz_small (by omega) (by omega)⟩
    have o7 : Ob C HD s1 (rt t d) := by
      rcases w7 with ⟨z, _⟩ | ⟨_, z⟩
      · rw [y] at z
        cases z
      · exact z
    have o9 : Ob C HD s2 (rt t d) := by
      rcases w9 with ⟨z, _⟩ | ⟨_, z⟩
      · rw [y] at z
        cases z
      · exact z
    refine ⟨_, rfl, pt, rfl, ⟨_, SqL.of lt⟩, fun D hD => ?_⟩
    refine lc_list (K := K) (a := pt) (xs := [s1, s2]) (fun i H' => Same HD H' ∧ ∃ acc : List V, acc.length = i ∧ H' D = some (.lst acc) ∧ ∀ x ∈ acc, It H' x t) ⟨same_new hD, [], rfl, upd_same, fun x hx => nomatch hx⟩ (fun i H' _ p => SqL.of (p.1 _ _ lt)) ?_ ?_
    · rintro i y' H' hy ⟨eS, acc, hl, ha, hit⟩
      have oy : Ob C HD y' (rt t d) := by
        match i, hy with
        | 0, hy =>
          obtain rfl := Option.some.inj hy
          exact o7
        | 1, hy =>
          obtain rfl := Option.some.inj hy
          exact o9
        | i + 2, hy => simp at hy
      have hi : i < 2 := (List.getElem?_eq_some_iff.mp hy).1
      refine ⟨rfl, _, rfl, _, rfl, _, oy.up eS, fun v4 H4 e4 i4 => ?_⟩
      refine ⟨_, rfl, _, _, rfl, _, d, i4, rfl, by omega, by omega, rz.mono (by decide), fun v5 H5' e5' i5 => ?_⟩
      rw [rt_pw y] at i5
      have e45 := e4.trans e5'
      refine ⟨acc, e45 _ _ ha, ?_, fun b o z => ?_, acc ++ [v5], by rw [List.length_append, hl]; rfl, upd_same, fun x hx => ?_⟩
      · rw [hl]
        exact Nat.lt_trans hi (by decide)
      · rw [upd_ne (ne_of_none z hD)]
        exact (eS.trans e45) _ _ z
      · have ix5 : It H5' x t := by
          rcases List.mem_append.mp hx with hx | hx
          · exact (hit x hx).up e45
          · obtain rfl := List.mem_singleton.mp hx
            exact i5
        obtain ⟨px, hpx, hp5⟩ := ix5
        exact ⟨px, hpx, (upd_ne (ne_of hp5 (e45 _ _ ha) (fun z => nomatch z))).trans hp5⟩
    · rintro HF ⟨eF, acc, hl, ha, hit⟩
      match acc, hl, ha, hit with
      | [x1, x2], _, ha, hit =>
        refine ⟨_, rfl, _, rfl, (by show 2 ≤ sizeLine; decide), fun p5 hp5 => ?_⟩
        have n5 := same_new (o := .lst [x, x]) hp5
        have ixF := (ix.up e5D).up (eF.trans n5)
        refine ⟨D, p5, x1, x2, x, x, t, t, t, t, rfl, rfl, n5 _ _ ha, upd_same, (hit x1 (by simp)).up n5, (hit x2 (by simp)).up n5, ixF, ixF, _, rfl, ?_⟩
        rw [decide_eq_true rfl]
        exact iteF (k _ (eF.trans n5))
  -- a great one
  have e5E := e5D.trans eE
  have bE := b5.same e5E
  have rE := r5.up e5E
  clear lt w7 w9 eE e5D
  refine ⟨_, rfl, _, _, rfl, a, k + 8, 9, rfl, rfl, by decide, by decide, rE, by omega, fun vt HF t9 eF rF iF bF => ?_⟩
  obtain ⟨pp, rfl, hpp⟩ := iF
  refine ⟨pp, rfl, ⟨_, SqT.of hpp⟩, fun D hD => ?_⟩
  have ten : (10 : Int) ^ (25 : Int).toNat = 10000000000000000000000000 := by decide
  refine lc_tup (K := K) (a := pp) (xs := tpV t9) (Mp (fun z => z * 10 ^ (25 : Int).toNat + 1) t9 D HF) ⟨same_new hD, upd_same⟩ (fun i H' _ p => SqT.of (p.1 _ _ hpp)) ?_ ?_
  · intro i y H' hy p
    obtain ⟨z, hz, rfl, h3, h4, h5⟩ := p.turn hD hy
    have bz : -9 ≤ z ∧ z ≤ 9 := by
      obtain ⟨bx, bb, bs⟩ := bF
      rcases hz with rfl | rfl | rfl
      · exact bx
      · exact bb
      · exact bs
    exact ⟨rfl, _, rfl, _, _, rfl, rfl, ⟨by decide, by decide, by decide⟩, _, _, rfl, rfl, .inl ⟨by omega, by omega⟩, _, _, rfl, rfl, _, h3, h4, h5⟩
  rintro HG ⟨eG, hG⟩
  refine ⟨D, _, rfl, .inl ⟨SqL.of hG, fun pl hpl => ?_⟩⟩
  have nG := same_new (o := .tup ((tpV (map3 (fun z => z * 10 ^ (25 : Int).toNat + 1) t9)).take 3)) hpl
  have iP : It (upd HG pl (.tup ((tpV (map3 (fun z => z * 10 ^ (25 : Int).toNat + 1) t9)).take 3))) (.ref pl) (map3 (fun z => z * 10 ^ (25 : Int).toNat + 1) t9) := ⟨pl, rfl, upd_same⟩
  have eFH := eG.trans nG
  have rH := rF.up eFH
  have bH := (bE.trans eF).same eFH
  have zP : Sz3 100 (map3 (fun z => z * 10 ^ (25 : Int).toNat + 1) t9) := by
    have f : ∀ z : Int, -9 ≤ z → z ≤ 9 → Sz 100 (z * 10 ^ (25 : Int).toNat + 1) := fun z h1 h2 => by
      rw [ten]
      exact Sz.of_le (b := 100000000000000000000000000) (by omega) (by omega) (by decide)
    obtain ⟨bx, bb, bs⟩ := bF
    exact ⟨f _ bx.1 bx.2, f _ bb.1 bb.2, f _ bs.1 bs.2⟩
  generalize map3 (fun z => z * 10 ^ (25 : Int).toNat + 1) t9 = part at *
  have iP : It (upd HG pl (.tup ((tpV part).take 3))) (.ref pl) part := iP
  have eFH : Same HF (upd HG pl (.tup ((tpV part).take 3))) := eFH
  show tCons _ _ _ (upd HG pl (.tup ((tpV part).take 3))) _
  generalize upd HG pl (.tup ((tpV part).take 3)) = HH at *
  clear eG hG nG eFH hD hpl rF eF hpp
  refine ⟨_, _, rfl, rfl, ⟨by decide, by decide, by decide⟩, _, rfl, _, _, rfl, a, k + 11, 9, rfl, rfl, rH, by omega, by decide, by decide, fun HI g eI rI g0 g1 => ⟨_, _, rfl, rfl, _, _, rfl, ?_⟩⟩
  have ten2 : (10 : Int) ^ (20 : Int).toNat = 100000000000000000000 := by decide
  have n0 : 0 < 10 ^ (20 : Int).toNat + g := by rw [ten2]; omega
  have n1 : 1 < 10 ^ (20 : Int).toNat + g := by rw [ten2]; omega
  have n2 : 10 ^ (20 : Int).toNat + g < 2 ^ 70 := by
    have e : (2 : Int) ^ 70 = 1180591620717411303424 := by decide
    rw [ten2, e]
    omega
  dsimp only
  generalize 10 ^ (20 : Int).toNat + g = N at *
  have nz : Sz 71 N := sz_two (Int.le_of_lt n0) (Int.le_of_lt n2)
  have iP := iP.but rH eI
  have bI := bH.trans eI
  -- the whole
  refine ⟨_, rfl, _, rfl, _, _, rfl, part, N, iP, rfl, Int.le_of_lt n0, n2, zP, fun vw HJ eJ iJ => ?_⟩
  obtain ⟨k1, k2⟩ := rt_of (r := part) n0
  have k3 := rt_more (r := part) n1
  have wz : Sz3 400 (pw part N) := (zP.pw nz).mono (by decide)
  generalize pw part N = W at *
  refine ⟨_, rfl, _, rfl, W, iJ, fun v1' HK eK oK => ⟨_, rfl, _, _, rfl, W, N, oK, rfl, n0, nz.mono (by decide), wz.mono (by decide), fun v2' HL eL wL => ⟨_, rfl, _, rfl, part, ((iP.up eJ).up eK).up eL, fun v3' HM eM oM => ?_⟩⟩⟩
  have oL : Ob C HM v2' part := by
    rcases wL with ⟨z, _⟩ | ⟨_, z⟩
    · rw [k1] at z
      cases z
    · rw [k2] at z
      exact z.up eM
  obtain ⟨q1, dx1, rfl, hq1⟩ := id oL
  obtain ⟨q2, dx2, rfl, hq2⟩ := id oM
  refine ⟨q1, q2, dx1, dx2, _, _, rfl, rfl, hq1, hq2, _, _, rfl, part, oL, oM, Sh.of zP (by decide), true, rfl, _, rfl, iteF ?_⟩
  have eJM := (eK.trans eL).trans eM
  -- one area more
  refine ⟨_, rfl, 2, rfl, rfl, rfl, W, iJ.up eJM, fun p1 HN eN h1 => ⟨_, rfl, rfl, W, (iJ.up eJM).up eN, _, _, rfl, rfl, (by show 1 ≤ sizeLine; decide), fun p2 hp2 => ⟨p1, p2, _, _, _, rfl, rfl, (same_new hp2) _ _ h1, upd_same, fun v4' HO eO iO => ?_⟩⟩⟩
  have eMO := (eN.trans (same_new (o := .tup [.int (W.s + 1)]) hp2)).trans eO
  refine ⟨_, rfl, _, iO, fun v5' HP eP oP => ⟨_, rfl, _, _, rfl, _, N, oP, rfl, n0, nz.mono (by decide), ?_, fun v6' HQ eQ wQ => ⟨rfl, _, rfl, ?_⟩⟩⟩
  · exact ⟨wz.x.mono (by decide), wz.y.mono (by decide), (wz.s.add (show Sz 1 1 by unfold Sz; decide)).mono (by decide)⟩
  rw [wQ.not, k3]
  refine iteF ?_
  -- nothing at all
  have z1 : rtB ⟨0, 0, 0⟩ N = true ∧ rt ⟨0, 0, 0⟩ N = ⟨0, 0, 0⟩ := by
    have z := rt_of (r := ⟨0, 0, 0⟩) n0
    rw [show pw ⟨0, 0, 0⟩ N = ⟨0, 0, 0⟩ by simp [pw]] at z
    exact z
  refine ⟨⟨0, 0, 0⟩, rfl, fun v7' HR eR oR => ⟨_, rfl, _, _, rfl, _, N, oR, rfl, n0, nz.mono (by decide), ⟨Sz.zero, Sz.zero, Sz.zero⟩, fun v8' HS eS wS => ⟨⟨0, 0, 0⟩, rfl, fun v9' HT eT oT => ?_⟩⟩⟩
  have oS : Ob C HT v8' ⟨0, 0, 0⟩ := by
    rcases wS with ⟨z, _⟩ | ⟨_, z⟩
    · rw [z1.1] at z
      cases z
    · rw [z1.2] at z
      exact z.up eT
  obtain ⟨q3, dx3, rfl, hq3⟩ := id oS
  obtain ⟨q4, dx4, rfl, hq4⟩ := id oT
  have eAll := (((((((eJ.trans eJM).trans eMO).trans eP).trans eQ).trans eR).trans eS).trans eT)
  exact ⟨q3, q4, dx3, dx4, _, _, rfl, rfl, hq3, hq4, _, _, rfl, _, oS, oT, ⟨by decide, by decide, by decide⟩, true, rfl, q _ (bI.same eAll) (rI.up eAll)⟩
end
end Mv
/-! One reel's questions; the law. -/
namespace Mv
open PySem PySem.Spec PyProof.Rows L2
theorem and_no {t u : TT} {σ : L2.St} {H : Hp} {Q : Bool → Hp → Prop} {b : Bool} (PV : Hp → Prop) (ht : ∀ R : Bool → Hp → Prop, R b H → t σ H R) (h1 : b = true → ∀ R : Bool → Hp → Prop, (∀ H', PV H' → R false H') → u σ H R) (h0 : PV H) (q : ∀ H', PV H' → Q false H') : tAnd t u σ H Q := by
  refine ht _ ?_
  cases b with
  | true => exact iteT (h1 rfl Q q)
  | false => exact iteF (q H h0)
section
variable {P : Program} {w : World} {K : PySem.W.Frag} {mg : Str → Option Value} {base : Heap} {C : Addr}
theorem In3.sz {n : Int} {t : T3} (h : In3 n t) (k : n ≤ 1000) : Sz3 10 t := ⟨sz_small (by have := h.1; omega) (by have := h.1; omega), sz_small (by have := h.2.1; omega) (by have := h.2.1; omega), sz_small (by have := h.2.2; omega) (by have := h.2.2; omega)⟩
theorem Sz3.btw {m n : Nat} {c t : T3} (h : Sz3 m c) (k : Sz3 n t) : Sz3 (m + n + 2 + (m + m + 1) + 2) (btw c t) := (h.put k).put h.off
def spRight : Sp := sp1 fun u H Q => ∃ a, u = .ref a ∧ Reel H a 1 ∧ ∀ H', But a H H' → Q (.bl true) H'
theorem c_Right (T : Txt K mg C) : Gal P w K mg base "_law_right" 8 ["_law_reel_here"] spRight := by
  have cW : Cal P w K mg base "_law_wind" 1 ["_law_reel_here", "_law_many"] spWind := c_Wind T
  have cO : Cal P w K mg base "_law_one_of" 2 ["_law_reel_here", "_law_menu"] spOneOf := c_OneOf T
  have cT : Cal P w K mg base "_law_trip" 2 ["_law_reel_here", "_law_size"] spTrip := c_Trip T
  have cB : Cal P w K mg base "_law_between" 2 ["_law_by", "_law_trip_here"] spBtw := c_Btw T
  have cA : Gal P w K mg base "_law_alike_right" 7 ["_law_first", "_law_last", "_law_due"] spAlR := c_AlR T
  have cE : Cal P w K mg base "_law_are_alike" 3 ["_law_first", "_law_last"] spAreAl := c_AreAl T
  have cR : Cal P w K mg base "_law_roots_right" 7 ["_law_reel_here"] spRootsR := c_RootsR T
  refine T.dRight.gal scRight sp1_len fun f cdv A outer s H vs Q E hg hr h => ?_
  obtain ⟨_, rfl, a, rfl, r, q⟩ := h
  refine ⟨_, pss_cons (ps_for PassesOwn.never rfl (pi_range1 rfl T.z_range (pa_cons pe_int pa_nil)) (pg_name (i := 1) scRight.nd rfl (.inl rfl))
      (pss_cons (ps_par (i := 2) (j := 3) (by rfl) scRight.nd rfl rfl (by decide) rfl rfl (pa_cons (pe_fn cT (hr.mono (by decide)) (pa_cons (pv 0) (pa_cons pe_int pa_nil))) (pa_cons (pe_fn cT (hr.mono (by decide)) (pa_cons (pv 0) (pa_cons pe_int pa_nil))) pa_nil)) (by rfl))
      (pss_cons (ps_set (i := 4) scRight.nd rfl (.inl rfl) (pe_lst (pa_cons (pe_fn cB (hr.mono (by decide)) (pa_cons (pv 3) (pa_cons (pv 2) pa_nil)))
        (pa_cons (pe_op op_cat1 (pe_slice sl_cut (pv 2) po_none (po_some pe_int)) (pe_tup (pa_cons (pe_op op_sub (pe_fn cW (hr.mono (by decide)) (pa_cons (pv 0) (pa_cons pe_int pa_nil))) pe_int) pa_nil)))
        (pa_cons (pe_fn cT (hr.mono (by decide)) (pa_cons (pv 0) (pa_cons pe_int pa_nil))) (pa_cons (pv 2) pa_nil))))))
      (pss_cons (ps_set (i := 5) scRight.nd rfl (.inl rfl) (pe_fn cO (hr.mono (by decide)) (pa_cons (pv 0) (pa_cons (pv 4) pa_nil))))
      (pss_cons (ps_if (PW.pt (pw_and (pt_cmpR op_lt (pe_callB call_abs rfl T.z_abs (by decide +kernel) (pa_cons (pe_op op_sub (pe_ix ix_g2 (pv 5) pe_int (fun _ _ => rfl)) (pe_ix ix_g2 (pv 2) pe_int (fun _ _ => rfl))) pa_nil)) pe_int (nomark _))
          (pw_and1 (pt_not (pt_val (pe_fnG cA hg hr (pa_cons (pv 2) (pa_cons (pv 5) (pa_cons (pe_fn cE (hr.mono (by decide)) (pa_cons (pv 2) (pa_cons (pv 5) pa_nil))) pa_nil))))))))) (pss_one (ps_ret pe_bl)) pss_nil)
      (pss_one (ps_if (PW.pt (pw_or (pt_not (pt_val (pe_fnG cA hg hr (pa_cons (pv 2) (pa_cons (pe_ix ix_list (pv 4) pe_int (fun _ _ => rfl)) (pa_cons pe_bl pa_nil)))))) (pw_or1 (pt_not (pt_val (pe_fn cR hr (pa_cons (pv 0) pa_nil))))))) (pss_one (ps_ret pe_bl)) pss_nil)))))))
    (pss_cons (ps_par (i := 6) (j := 7) (by rfl) scRight.nd rfl rfl (by decide) rfl rfl (pa_cons (pe_fn cT (hr.mono (by decide)) (pa_cons (pv 0) (pa_cons pe_int pa_nil))) (pa_cons (pe_op op_mul (pe_op op_pow pe_int pe_int) (pe_op op_add pe_int (pe_fn cW (hr.mono (by decide)) (pa_cons (pv 0) (pa_cons pe_int pa_nil))))) pa_nil)) (by rfl))
    (pss_cons (ps_set (i := 6) scRight.nd rfl (.inl rfl) (pe_tup (pa_cons (pe_op op_mu (pe_ix ix_g0 (pv 6) pe_int (fun _ _ => rfl)) (pv 7)) (pa_cons (pe_op op_add (pe_op op_mu (pe_ix ix_g1 (pv 6) pe_int (fun _ _ => rfl)) (pv 7)) (pe_op op_mu pe_int (pv 7)))
      (pa_cons (pe_ix ix_g2 (pv 6) pe_int (fun _ _ => rfl)) pa_nil)))))
    (pss_cons (ps_set (i := 3) scRight.nd rfl (.inl rfl) (pe_callTy call_tuple_of rfl T.z_tuple (by decide +kernel) (pa_cons (pe_lc (own := [("_law_number", 8)]) (g := gName 8) (tt := tYes) (by rfl) scRight.nd (pi_tup (pe_fn cT (hr.mono (by decide)) (pa_cons (pv 0) (pa_cons pe_int pa_nil)))) (blkOk_by (N := nRight) (sc := defScope sRight) (by decide +kernel))
        (fun _ _ _ _ _ => pg_name (i := 8) scRight.nd rfl (.inl rfl)) (fun _ _ _ _ _ => pts_nil) (fun _ _ _ _ _ => pe_op op_add (pe_op op_mul (pv 8) (pe_op op_pow pe_int pe_int)) pe_int)) pa_nil)))
    (pss_cons (ps_if (pt_not (pt_val (pe_fnG cA hg hr (pa_cons (pv 6) (pa_cons (pe_fn cB (hr.mono (by decide)) (pa_cons (pv 3) (pa_cons (pv 6) pa_nil))) (pa_cons pe_bl pa_nil)))))) (pss_one (ps_ret pe_bl)) pss_nil)
    (pss_one (ps_ret (pe_fnG cA hg hr (pa_cons (pv 6) (pa_cons (pe_op op_cat1 (pe_slice sl_cut (pv 6) po_none (po_some pe_int)) (pe_tup (pa_cons (pe_op op_add (pe_ix ix_g2 (pv 6) pe_int (fun _ _ => rfl)) pe_int) pa_nil))) (pa_cons pe_bl pa_nil)))))))))), ?_⟩
  refine ⟨3, rfl, by decide, by decide, for_range (lo := 0) (n := 3) (fun i σ' H' => ∃ z1 z2 z3 z4 z5 z6 z7 z8, σ' = [some (.ref a), z1, z2, z3, z4, z5, z6, z7, z8] ∧ But a H H' ∧ Reel H' a (1 + 23 * i)) ?_ ?_ ?_⟩
  · exact ⟨_, _, _, _, _, _, _, _, rfl, But.refl a H, r⟩
  · rintro i σ' H0 hi ⟨z1, z2, z3, z4, z5, z6, z7, z8, rfl, b0, r0⟩
    have kk : 1 + 23 * i ≤ 47 := by omega
    have kn : 1 + 23 * i + 23 = 1 + 23 * (i + 1) := by omega
    generalize 1 + 23 * i = k at *
    refine ⟨_, rfl, _, _, rfl, a, k, 4, rfl, rfl, by decide, by decide, r0, by omega, fun v1 H1 t e1 r1 i1 b1 => ?_⟩
    refine ⟨_, rfl, _, _, rfl, a, k + 3, 3, rfl, rfl, by decide, by decide, r1, by omega, fun v2 H2 c e2 r2 i2 b2 => ⟨_, _, rfl, ?_⟩⟩
    have i1 := i1.but r1 e2
    have tz := b1.sz (by decide)
    have cz := b2.sz (by decide)
    have bz : Sz3 800 (btw c t) := (cz.btw tz).mono (by decide)
    refine ⟨_, rfl, _, rfl, _, _, rfl, c, t, i2, i1, cz.mono (by decide), tz.mono (by decide), fun x1 H3 e3 j1 => ?_⟩
    have i1 := i1.up e3
    have r3 := r2.up e3
    refine ⟨_, rfl, 2, rfl, rfl, rfl, t, i1, fun p1 H4 e4 h4 => ?_⟩
    have i1 := i1.up e4
    have j1 := j1.up e4
    have r4 := r3.up e4
    refine ⟨_, rfl, _, _, rfl, a, k + 6, 9, rfl, rfl, r4, by omega, by decide, by decide, fun H5 g e5 r5 g0 g1 => ⟨_, _, rfl, rfl, (by show 1 ≤ sizeLine; decide), fun p2 hp2 => ?_⟩⟩
    have h5 : H5 p1 = some (.tup [.int t.x, .int t.y]) := by
      obtain ⟨xs, hx⟩ := r4.lst
      exact e5 _ _ (ne_of h4 hx (fun z => nomatch z)) h4
    have n2 := same_new (o := .tup [.int (g - 4)]) hp2
    refine ⟨p1, p2, _, _, _, rfl, rfl, n2 _ _ h5, upd_same, fun x2 H6 e6 j2 => ?_⟩
    have e56 := n2.trans e6
    have i1 := (i1.but r4 e5).up e56
    have j1 := (j1.but r4 e5).up e56
    have r6 := r5.up e56
    refine ⟨_, rfl, _, _, rfl, a, k + 7, 4, rfl, rfl, by decide, by decide, r6, by omega, fun x3 H7 t3 e7 r7 j3 b3 => ?_⟩
    have i1 := i1.but r6 e7
    have j1 := j1.but r6 e7
    have j2 := j2.but r6 e7
    refine ⟨_, rfl, (by show 4 ≤ sizeLine; decide), fun ps hps => ?_⟩
    have nps : ps ≠ a := fun z => by
      obtain ⟨xs, hx⟩ := r7.lst
      rw [z, hx] at hps
      cases hps
    have n7 := same_new (o := .lst [x1, x2, x3, v1]) hps
    have B7 : But a H0 (upd H7 ps (.lst [x1, x2, x3, v1])) := (((((((e1.trans e2).same e3).same e4).trans e5).same e56).trans e7).same n7)
    have i1 := i1.up n7
    have j1 := j1.up n7
    have j2 := j2.up n7
    have j3 := j3.up n7
    have r7 := r7.up n7
    have l7 : upd H7 ps (.lst [x1, x2, x3, v1]) ps = some (.lst [x1, x2, x3, v1]) := upd_same
    generalize upd H7 ps (.lst [x1, x2, x3, v1]) = H8 at *
    clear e1 e2 e3 e4 e5 e56 e6 e7 n7 n2 h4 h5 hp2 hps r1 r2 r3 r4 r5 r6 i2
    refine ⟨_, rfl, _, rfl, _, _, rfl, a, k + 10, ps, _, rfl, rfl, nps, l7, r7, by omega, (by show 0 < 4; decide), (by show 4 ≤ 1000; decide), fun H9 x e9 r9 hx => ?_⟩
    have l9 := e9 _ _ nps l7
    have i9 := i1.but r7 e9
    have j9 := j1.but r7 e9
    have last : ∃ u, It H9 x u ∧ Sz3 800 u := by
      rcases List.mem_cons.mp hx with rfl | hx
      · exact ⟨_, j9, bz⟩
      rcases List.mem_cons.mp hx with rfl | hx
      · exact ⟨_, j2.but r7 e9, ⟨tz.x.mono (by decide), tz.y.mono (by decide), (sz_small (i := g - 4) (by omega) (by omega)).mono (by decide)⟩⟩
      rcases List.mem_cons.mp hx with rfl | hx
      · exact ⟨_, j3.but r7 e9, (b3.sz (by decide)).mono (by decide)⟩
      · obtain rfl := List.mem_singleton.mp hx
        exact ⟨_, i9, tz.mono (by decide)⟩
    obtain ⟨u, iu, uz⟩ := last
    have B9 := B7.trans e9
    clear hx j1 j2 j3 i1 r7 e9 B7 l7
    -- likeness among few
    dsimp only [tIfS]
    refine and_no (fun H' => Same H9 H') (b := decide (ab (u.s - t.s) < 9)) (fun R z => ⟨_, rfl, rfl, u, iu, _, rfl, rfl, t, i9, _, _, rfl, rfl, _, rfl, _, _, rfl, rfl, _, rfl, z⟩) (fun y R z => ?_) (Same.refl _) (fun HA eA => iteF ?_)
    · have y := of_decide_eq_true y
      have y1 : -8 ≤ u.s - t.s ∧ u.s - t.s ≤ 8 := by
        unfold ab at y
        split at y <;> omega
      refine ⟨_, rfl, _, rfl, _, rfl, _, rfl, _, _, rfl, t, u, i9, iu, tz.mono (by decide), b1.1, b1.2.1, y1, fun H' eE => ?_⟩
      exact ⟨_, _, _, rfl, t, u, i9.up eE, iu.up eE, rfl, tz.mono (by decide), uz, fun H'' eF => ⟨true, rfl, z _ (eE.trans eF)⟩⟩
    have iA := i9.up eA
    have lA := eA _ _ l9
    have rA := r9.up eA
    have BA := B9.same eA
    have dA : alB t (btw c t) = true := alB_of c rfl
    refine ⟨_, rfl, _, rfl, ps, _, 0, _, rfl, rfl, SqL.of lA, rfl, ?_⟩
    refine ⟨_, _, _, rfl, t, btw c t, iA, j9.up eA, by rw [dA], tz.mono (by decide), bz, fun HB eB => ⟨true, rfl, iteF ⟨_, rfl, _, rfl, a, k + 11, rfl, rA.up eB, by omega, fun HC eC rC => ⟨true, rfl, iteF ?_⟩⟩⟩⟩
    exact ⟨_, _, _, _, _, _, _, _, rfl, b0.trans ((BA.same eB).trans eC), kn ▸ rC⟩
  · rintro σ' H0 ⟨z1, z2, z3, z4, z5, z6, z7, z8, rfl, b0, r0⟩
    have r0 : Reel H0 a 70 := r0
    -- a great one
    refine ⟨_, rfl, _, _, rfl, a, 70, 9, rfl, rfl, by decide, by decide, r0, by decide, fun v1 H1 t e1 r1 i1 b1 => ?_⟩
    refine ⟨_, _, rfl, rfl, ⟨by decide, by decide, by decide⟩, _, rfl, _, _, rfl, a, 73, 9, rfl, rfl, r1, by decide, by decide, by decide, fun H2 g e2 r2 g0 g1 => ⟨_, _, rfl, rfl, _, _, rfl, rfl, .inr ⟨by omega, by omega⟩, _, _, rfl, ?_⟩⟩
    have r2 : Reel H2 a 74 := r2
    have ten : (10 : Int) ^ (25 : Int).toNat = 10000000000000000000000000 := by decide
    dsimp only
    rw [ten]
    have S1 : 1 < 10000000000000000000000000 * (1 + g) := by omega
    have S2 : 10000000000000000000000000 * (1 + g) ≤ 100000000000000000000000000 := by omega
    generalize 10000000000000000000000000 * (1 + g) = S at *
    have zS : Sz 100 S := Sz.of_le (b := 100000000000000000000000000) (by omega) (by omega) (by decide)
    have i1 := i1.but r1 e2
    have tz := b1.sz (by decide)
    have B2 := (b0.trans e1).trans e2
    clear e1 e2 r0 r1 b0
    refine ⟨_, rfl, rfl, t, i1, _, rfl, _, _, 10, 100, rfl, rfl, tz.x, zS, by decide, _, rfl, rfl, t, i1, _, rfl, _, _, 10, 100, rfl, rfl, tz.y, zS, by decide, _, rfl, _, _, 2, 100, rfl, rfl, (by show Sz 2 2; unfold Sz; decide), zS, by decide, _, _, rfl, rfl, _, rfl, rfl, t, i1, (by show 3 ≤ sizeLine; decide), fun p hp => ?_⟩
    have iG : It (upd H2 p (.tup [.int (t.x * S), .int (t.y * S + 2 * S), .int t.s])) (.ref p) ⟨t.x * S, t.y * S + 2 * S, t.s⟩ := ⟨p, rfl, upd_same⟩
    have r3 := r2.up (same_new (o := .tup [.int (t.x * S), .int (t.y * S + 2 * S), .int t.s]) hp)
    have B3 := B2.same (same_new (o := .tup [.int (t.x * S), .int (t.y * S + 2 * S), .int t.s]) hp)
    have zG : Sz3 200 ⟨t.x * S, t.y * S + 2 * S, t.s⟩ := ⟨(tz.x.mul zS).mono (by decide), ((tz.y.mul zS).add ((show Sz 2 2 by unfold Sz; decide).mul zS)).mono (by decide), tz.s.mono (by decide)⟩
    generalize upd H2 p (.tup [.int (t.x * S), .int (t.y * S + 2 * S), .int t.s]) = H3 at *
    have nG := great_not (a := t.x) (b := t.y + 2) (s := t.s) S1
    rw [Int.add_mul] at nG
    generalize t.x * S = gx at *
    generalize t.y * S + 2 * S = gy at *
    generalize t.s = gs at *
    clear i1 tz b1 r2 B2 hp
    refine ⟨_, rfl, _, _, rfl, a, 74, 5, rfl, rfl, by decide, by decide, r3, by decide, fun vt HF t9 eF rF iF bF => ?_⟩
    have iG := iG.but r3 eF
    have BF := B3.trans eF
    obtain ⟨pp, rfl, hpp⟩ := iF
    refine ⟨pp, rfl, ⟨_, SqT.of hpp⟩, fun D hD => ?_⟩
    have ten2 : (10 : Int) ^ (20 : Int).toNat = 100000000000000000000 := by decide
    refine lc_tup (K := K) (a := pp) (xs := tpV t9) (Mp (fun z => z * 10 ^ (20 : Int).toNat + 7) t9 D HF) ⟨same_new hD, upd_same⟩ (fun i H' _ p => SqT.of (p.1 _ _ hpp)) ?_ ?_
    · intro i y H' hy p
      obtain ⟨z, hz, rfl, h3, h4, h5⟩ := p.turn hD hy
      have bz : -5 ≤ z ∧ z ≤ 5 := by
        obtain ⟨bx, bb, bs⟩ := bF
        rcases hz with rfl | rfl | rfl
        · exact bx
        · exact bb
        · exact bs
      exact ⟨rfl, _, rfl, _, _, rfl, rfl, ⟨by decide, by decide, by decide⟩, _, _, rfl, rfl, .inl ⟨by omega, by omega⟩, _, _, rfl, rfl, _, h3, h4, h5⟩
    rintro HH ⟨eH, hH⟩
    refine ⟨D, _, rfl, .inl ⟨SqL.of hH, fun pl hpl => ?_⟩⟩
    have nH := same_new (o := .tup ((tpV (map3 (fun z => z * 10 ^ (20 : Int).toNat + 7) t9)).take 3)) hpl
    have iP : It (upd HH pl (.tup ((tpV (map3 (fun z => z * 10 ^ (20 : Int).toNat + 7) t9)).take 3))) (.ref pl) (map3 (fun z => z * 10 ^ (20 : Int).toNat + 7) t9) := ⟨pl, rfl, upd_same⟩
    have eFH := eH.trans nH
    have BH := BF.same eFH
    have iG := iG.up eFH
    have zP : Sz3 100 (map3 (fun z => z * 10 ^ (20 : Int).toNat + 7) t9) := by
      have f : ∀ z : Int, -5 ≤ z → z ≤ 5 → Sz 100 (z * 10 ^ (20 : Int).toNat + 7) := fun z h1 h2 => by
        rw [ten2]
        exact Sz.of_le (b := 1000000000000000000000) (by omega) (by omega) (by decide)
      obtain ⟨bx, bb, bs⟩ := bF
      exact ⟨f _ bx.1 bx.2, f _ bb.1 bb.2, f _ bs.1 bs.2⟩
    generalize map3 (fun z => z * 10 ^ (20 : Int).toNat + 7) t9 = by9 at *
    have iP : It (upd HH pl (.tup ((tpV by9).take 3))) (.ref pl) by9 := iP
    have iG : It (upd HH pl (.tup ((tpV by9).take 3))) (.ref p) ⟨gx, gy, gs⟩ := iG
    have BH : But a H (upd HH pl (.tup ((tpV by9).take 3))) := BH
    show gName 3 _ _ (upd HH pl (.tup ((tpV by9).take 3))) _
    generalize upd HH pl (.tup ((tpV by9).take 3)) = HI at *
    clear eH hH nH hD hpl hpp eFH eF rF BF B3 r3
    have bz : Sz3 800 (btw by9 ⟨gx, gy, gs⟩) := (zP.btw zG).mono (by decide)
    refine ⟨_, rfl, _, rfl, _, rfl, _, _, rfl, by9, ⟨gx, gy, gs⟩, iP, iG, zP.mono (by decide), zG.mono (by decide), fun x1 H4 e4 j1 => ?_⟩
    refine ⟨_, _, _, rfl, ⟨gx, gy, gs⟩, btw by9 ⟨gx, gy, gs⟩, iG.up e4, j1, by rw [alB_of by9 rfl], zG.mono (by decide), bz, fun H5 e5 => ⟨true, rfl, iteF ?_⟩⟩
    have B5 := (BH.same e4).same e5
    have iG := (iG.up e4).up e5
    -- one area more
    refine ⟨_, rfl, _, rfl, 2, rfl, rfl, rfl, _, iG, fun p1 H6 e6 h6 => ⟨_, rfl, rfl, _, iG.up e6, _, _, rfl, rfl, (by show 1 ≤ sizeLine; decide), fun p2 hp2 => ⟨p1, p2, _, _, _, rfl, rfl, (same_new hp2) _ _ h6, upd_same, fun v4 H7 e7 i7 => ?_⟩⟩⟩
    have e57 := (e6.trans (same_new (o := .tup [.int (gs + 1)]) hp2)).trans e7
    exact ⟨_, _, _, rfl, ⟨gx, gy, gs⟩, _, iG.up e57, i7, by rw [nG], zG.mono (by decide), ⟨zG.x.mono (by decide), zG.y.mono (by decide), (zG.s.add (show Sz 1 1 by unfold Sz; decide)).mono (by decide)⟩, fun H8 e8 => q _ ((B5.same e57).same e8)⟩
end
end Mv
/-! The law itself. -/
namespace Mv
open PySem PySem.Spec PyProof.Rows L2
theorem SqL.up {K : PySem.W.Frag} {H H' : Hp} {a : Addr} {xs : List V} (h : SqL K H a xs) (e : Same H H') : SqL K H' a xs := by
  rcases h with (h | ⟨o, h⟩) | h
  · exact .inl (.inl (e _ _ h))
  · exact .inl (.inr ⟨o, e _ _ h⟩)
  · exact .inr h
section
variable {P : Program} {w : World} {K : PySem.W.Frag} {mg : Str → Option Value} {base : Heap} {C : Addr}
def spLaw (K : PySem.W.Frag) : Sp := sp1 fun u H Q => ∃ (a : Addr) (ns : List Int), u = .ref a ∧ SqL K H a (ns.map V.int) ∧ ns.length ≤ 63 ∧ ∀ H', Q (.bl true) H'
theorem law_fn (T : Txt K mg C) {f : Addr} {fd : FuncData} (F : Fun K "law" "law" sLaw f fd) : FnG P w K mg base 9 f fd ["_law_script"] (spLaw K) := by
  have cL : Cal P w K mg base "_law_reel" 1 ["_law_script", "_law_turn"] (spReel K) := c_Reel T
  have cR : Gal P w K mg base "_law_right" 8 ["_law_reel_here"] spRight := c_Right T
  refine Fun.okG F scLaw sp1_len fun f cdv A outer s H vs Q E hg hr h => ?_
  obtain ⟨_, rfl, a, ns, rfl, hS, hl, q⟩ := h
  refine ⟨_, pss_one (ps_ret (pe_callB (cr_all rfl) rfl T.z_all (by decide +kernel) (pa_cons (pe_lc (own := [("_law_turn", 1)]) (g := gName 1) (tt := tYes) (by rfl) scLaw.nd (pi_range1 rfl T.z_range (pa_cons pe_int pa_nil)) (blkOk_by (N := nLaw) (sc := defScope sLaw) (by decide +kernel))
        (fun _ _ _ _ _ => pg_name (i := 1) scLaw.nd rfl (.inl rfl)) (fun _ _ _ _ _ => pts_nil) (fun _ _ _ _ _ => pe_fnG cR hg hr (pa_cons (pe_fn cL (hr.mono (by decide)) (pa_cons (pv 0) (pa_cons (pv 1) pa_nil))) pa_nil))) pa_nil))), ?_⟩
  refine ⟨2, rfl, by decide, by decide, fun D hD => ?_⟩
  refine lc_range (lo := 0) (n := 2) (fun i H' => Same H H' ∧ H' D = some (.lst (List.replicate i (.bl true)))) ⟨same_new hD, upd_same⟩ ?_ ?_
  · rintro i H0 hi ⟨e, hd⟩
    refine ⟨rfl, _, rfl, _, rfl, _, _, rfl, a, ns, _, rfl, rfl, SqL.up hS e, hl, by omega, by omega, fun p H1 hp e1 r1 => ⟨_, rfl, p, rfl, r1, fun H2 b2 => ?_⟩⟩
    have e2 : Same H0 H2 := fun b o z => b2 _ _ (ne_of_none z hp) (e1 _ _ z)
    refine ⟨_, e2 _ _ hd, ?_, fun b o z => ?_, ?_⟩
    · rw [List.length_replicate]
      exact Nat.lt_trans hi (by decide)
    · rw [upd_ne (ne_of_none z hD)]
      exact (e.trans e2) _ _ z
    · rw [List.replicate_succ']
      exact upd_same
  · rintro H' ⟨e, hd⟩
    exact ⟨D, [true, true], rfl, SqL.of hd, q _⟩
end
end Mv
/-! What the text's top has written. -/
namespace Mv
open PySem PySem.Spec PyProof.Rows L2
/-- its arguments are bound in order -/
def BShape (x qual : Str) (st : Stmt) (ps : List Str) : Prop := ∀ (kV doc pm : Value) (an : Option Addr) (cdv ct : Value) (us : List Value), us.length = ps.length → bindArgs (PySem.W.fnOf x qual (defArgs st) (defBody st) (defScope st) .none kV doc pm an cdv ct) ⟨us, []⟩ = pure (ps.zip us)
/-- or by keywords alone, the last first -/
def KShape (x : Str) (st : Stmt) (a b : Str) : Prop := ∀ (kV doc pm : Value) (an : Option Addr) (cdv ct u v : Value), bindArgs (PySem.W.fnOf x x (defArgs st) (defBody st) (defScope st) .none kV doc pm an cdv ct) ⟨[], [(b, u), (a, v)]⟩ = pure [(a, v), (b, u)]
section
variable {K : PySem.W.Frag} {h : Heap} {mg : Str → Option Value} {x qual : Str} {st : Stmt} {ps : List Str} {f C p : Addr} {od an : Option Addr} {osl : Array (Option Value)} {oc kV doc pm cdv ct : Value} {goal : Prop}
theorem with_def (x : Str) (st : Stmt) (ps : List Str) (X : K.In h) (G : h.Ns mainGlobals mg) (b : BShape x x st ps) (a : PySem.W.nsIn K mainGlobals x = some (some (.ref f)))
    (l : K.lookup f = some ⟨oc, od, .func (PySem.W.fnOf x x (defArgs st) (defBody st) (defScope st) .none kV doc pm an cdv ct), osl⟩) (c : PySem.W.codeIn K cdv x = true) (k : PySem.W.keepIn K (.ref f) = true) (g : Def K mg x st ps → goal) : goal :=
  g ⟨f, _, fun_mk l c k, PySem.W.mg_of X G a, (fun_mk l c k).binds b⟩
theorem with_meth (x qual : Str) (st : Stmt) (ps : List Str) (cl : Cls K C) (b : BShape x qual st ps) (a : PySem.W.findIn K (.ref C) x = some (some (.ref f))) (i : PySem.W.isFn K (.ref f) = true)
    (l : K.lookup f = some ⟨oc, od, .func (PySem.W.fnOf x qual (defArgs st) (defBody st) (defScope st) .none kV doc pm an cdv ct), osl⟩) (c : PySem.W.codeIn K cdv qual = true) (k : PySem.W.keepIn K (.ref f) = true)
    (g : (∃ f fd, Fun K x qual st f fd ∧ Binds K fd ps [] ∧ PySem.W.findIn K (.ref C) x = some (some (.ref f)) ∧ PySem.W.isFn K (.ref f) = true) → goal) : goal :=
  g ⟨f, _, fun_mk l c k, (fun_mk l c k).binds b, a, i⟩
theorem with_prop (x qual : Str) (st : Stmt) (ps : List Str) {rest : List Value} (cl : Cls K C) (b : BShape x qual st ps) (a : PySem.W.findIn K (.ref C) x = some (some (.ref p))) (g1 : PySem.W.specialIn K (.ref p) "__get__" = some (some (.builtin "property.__get__")))
    (g2 : PySem.W.takesIn K (.ref p) = some true) (g3 : PySem.W.recIn K p "property" = some (.ref f :: rest))
    (l : K.lookup f = some ⟨oc, od, .func (PySem.W.fnOf x qual (defArgs st) (defBody st) (defScope st) .none kV doc pm an cdv ct), osl⟩) (c : PySem.W.codeIn K cdv qual = true) (k : PySem.W.keepIn K (.ref f) = true)
    (g : (∃ p f fd, PropOf K C x p f ∧ Fun K x qual st f fd ∧ Binds K fd ps []) → goal) : goal :=
  g ⟨p, f, _, ⟨a, g1, g2, ⟨rest, g3⟩⟩, fun_mk l c k, (fun_mk l c k).binds b⟩
theorem with_free (x : Str) (X : K.In h) (G : h.Ns mainGlobals mg) (a : PySem.W.nsIn K mainGlobals x = some none) (g : mg x = none → goal) : goal := g (PySem.W.mg_none_of X G a)
theorem with_cls (x : Str) (X : K.In h) (G : h.Ns mainGlobals mg) (a : PySem.W.nsIn K mainGlobals x = some (some (.ref C))) (pg : PySem.W.plainGet K C Str.empty = true) (hd : PySem.W.hasDictIn K C = true) (po : PySem.W.plainOver K C = true)
    (sa : PySem.W.findIn K (.ref C) "__setattr__" = some (some (.builtin "object.__setattr__"))) (mk : PySem.W.makesIn K C = true) (kc : PySem.W.keepIn K (.ref C) = true)
    (g : mg x = some (.ref C) → Cls K C → PySem.W.makesIn K C = true → PySem.W.keepIn K (.ref C) = true → goal) : goal := g (PySem.W.mg_of X G a) ⟨pg, hd, po, sa⟩ mk kc
theorem init_of (mk : PySem.W.makesIn K C = true) (kc : PySem.W.keepIn K (.ref C) = true) (h : ∃ f fd, Fun K "__init__" qual st f fd ∧ Binds K fd ps [] ∧ PySem.W.findIn K (.ref C) "__init__" = some (some (.ref f)) ∧ PySem.W.isFn K (.ref f) = true) :
    ∃ f fd, Fun K "__init__" qual st f fd ∧ Mk K C f ∧ Binds K fd ps [] := by
  obtain ⟨f, fd, F, b, a, i⟩ := h
  exact ⟨f, fd, F, ⟨mk, a, i, kc⟩, b⟩
theorem finish {l : PySem.W.OpenLaw} {w : World} {fa : Addr} (X : K.In h) (G : h.Ns mainGlobals mg) (hfa : mg "law" = some (.ref fa)) (a : PySem.W.nsIn K mainGlobals "law" = some (some (.ref f)))
    (lk : K.lookup f = some ⟨oc, od, .func (PySem.W.fnOf "law" "law" (defArgs sLaw) (defBody sLaw) (defScope sLaw) .none kV doc pm an cdv ct), osl⟩) (c : PySem.W.codeIn K cdv "law" = true) (k : PySem.W.keepIn K (.ref f) = true) (T : Txt K mg C) :
    ∃ fd : FuncData, (∀ (s : Shared) (v : Value), BindsTo s fd ⟨[v], []⟩ [("_law_script", v)]) ∧ ∀ base : Heap, K.In base → base.Ns mainGlobals mg → FnG l.prog w K mg base 9 fa fd ["_law_script"] (spLaw K) := by
  have e := hfa.symm.trans (PySem.W.mg_of X G a)
  cases e
  exact ⟨_, fun s v => .of_eq rfl, fun base _ _ => law_fn T (fun_mk (st := sLaw) lk c k)⟩
end
theorem bdIsInt : BShape "is_integer" "is_integer" sIsInt ["value"] := fun _ _ _ _ _ _ us hl => match us, hl with | [_], _ => rfl
theorem bdShared : BShape "is_shared" "is_shared" sShared ["number", "step"] := fun _ _ _ _ _ _ us hl => match us, hl with | [_, _], _ => rfl
theorem bdComb : BShape "combined" "combined" sComb ["one", "other"] := fun _ _ _ _ _ _ us hl => match us, hl with | [_, _], _ => rfl
theorem bdWhole : BShape "check_whole" "check_whole" sWhole ["value"] := fun _ _ _ _ _ _ us hl => match us, hl with | [_], _ => rfl
theorem bdInit : BShape "__init__" "Move.__init__" sInit ["self", "east", "north", "area"] := fun _ _ _ _ _ _ us hl => match us, hl with | [_, _, _, _], _ => rfl
theorem bdEast : BShape "east" "Move.east" sEast ["self"] := fun _ _ _ _ _ _ us hl => match us, hl with | [_], _ => rfl
theorem bdNorth : BShape "north" "Move.north" sNorth ["self"] := fun _ _ _ _ _ _ us hl => match us, hl with | [_], _ => rfl
theorem bdArea : BShape "area" "Move.area" sArea ["self"] := fun _ _ _ _ _ _ us hl => match us, hl with | [_], _ => rfl
theorem bdStr : BShape "__str__" "Move.__str__" sStr ["self"] := fun _ _ _ _ _ _ us hl => match us, hl with | [_], _ => rfl
theorem bdEq : BShape "__eq__" "Move.__eq__" sEq ["self", "other"] := fun _ _ _ _ _ _ us hl => match us, hl with | [_, _], _ => rfl
theorem bdCMove : BShape "check_move" "check_move" sCMove ["value"] := fun _ _ _ _ _ _ us hl => match us, hl with | [_], _ => rfl
theorem bdCMoves : BShape "check_moves" "check_moves" sCMoves ["one", "other"] := fun _ _ _ _ _ _ us hl => match us, hl with | [_, _], _ => rfl
theorem bdTriple : BShape "triple" "triple" sTriple ["one"] := fun _ _ _ _ _ _ us hl => match us, hl with | [_], _ => rfl
theorem bdGap : BShape "gap_of" "gap_of" sGap ["one", "other"] := fun _ _ _ _ _ _ us hl => match us, hl with | [_, _], _ => rfl
theorem bdMade : BShape "made_move" "made_move" sMade ["numbers"] := fun _ _ _ _ _ _ us hl => match us, hl with | [_], _ => rfl
theorem bdLink : BShape "link_of_moves" "link_of_moves" sLink ["one", "other"] := fun _ _ _ _ _ _ us hl => match us, hl with | [_, _], _ => rfl
theorem bdRoot : BShape "root_of_move" "root_of_move" sRoot ["one", "degree"] := fun _ _ _ _ _ _ us hl => match us, hl with | [_, _], _ => rfl
theorem bdIsAl : BShape "is_move_alike" "is_move_alike" sIsAl ["one", "other"] := fun _ _ _ _ _ _ us hl => match us, hl with | [_, _], _ => rfl
theorem kdIsAl : KShape "is_move_alike" sIsAl "one" "other" := fun _ _ _ _ _ _ _ _ => rfl
theorem bdAl : BShape "move_alike" "move_alike" sAl ["one", "other"] := fun _ _ _ _ _ _ us hl => match us, hl with | [_, _], _ => rfl
theorem kdAl : KShape "move_alike" sAl "one" "other" := fun _ _ _ _ _ _ _ _ => rfl
theorem bdCom : BShape "do_moves_commute" "do_moves_commute" sCom ["one", "other"] := fun _ _ _ _ _ _ us hl => match us, hl with | [_, _], _ => rfl
theorem kdCom : KShape "do_moves_commute" sCom "one" "other" := fun _ _ _ _ _ _ _ _ => rfl
theorem bdMRoot : BShape "move_root" "move_root" sMRoot ["one", "degree"] := fun _ _ _ _ _ _ us hl => match us, hl with | [_, _], _ => rfl
theorem kdMRoot : KShape "move_root" sMRoot "one" "degree" := fun _ _ _ _ _ _ _ _ => rfl
theorem bdReel : BShape "_law_reel" "_law_reel" sReel ["_law_script", "_law_turn"] := fun _ _ _ _ _ _ us hl => match us, hl with | [_, _], _ => rfl
theorem bdWind : BShape "_law_wind" "_law_wind" sWind ["_law_reel_here", "_law_many"] := fun _ _ _ _ _ _ us hl => match us, hl with | [_, _], _ => rfl
theorem bdOneOf : BShape "_law_one_of" "_law_one_of" sOneOf ["_law_reel_here", "_law_menu"] := fun _ _ _ _ _ _ us hl => match us, hl with | [_, _], _ => rfl
theorem bdTrip : BShape "_law_trip" "_law_trip" sTrip ["_law_reel_here", "_law_size"] := fun _ _ _ _ _ _ us hl => match us, hl with | [_, _], _ => rfl
theorem bdPut : BShape "_law_put" "_law_put" sPut ["_law_left", "_law_right_here"] := fun _ _ _ _ _ _ us hl => match us, hl with | [_, _], _ => rfl
theorem bdOff : BShape "_law_off" "_law_off" sOff ["_law_trip_here"] := fun _ _ _ _ _ _ us hl => match us, hl with | [_], _ => rfl
theorem bdPower : BShape "_law_power" "_law_power" sPower ["_law_trip_here", "_law_count"] := fun _ _ _ _ _ _ us hl => match us, hl with | [_, _], _ => rfl
theorem bdMove : BShape "_law_move" "_law_move" sMove ["_law_trip_here"] := fun _ _ _ _ _ _ us hl => match us, hl with | [_], _ => rfl
theorem bdThree : BShape "_law_three" "_law_three" sThree ["_law_made"] := fun _ _ _ _ _ _ us hl => match us, hl with | [_], _ => rfl
theorem bdBtw : BShape "_law_between" "_law_between" sBtw ["_law_by", "_law_trip_here"] := fun _ _ _ _ _ _ us hl => match us, hl with | [_, _], _ => rfl
theorem bdAreAl : BShape "_law_are_alike" "_law_are_alike" sAreAl ["_law_first", "_law_last"] := fun _ _ _ _ _ _ us hl => match us, hl with | [_, _], _ => rfl
theorem bdAlR : BShape "_law_alike_right" "_law_alike_right" sAlR ["_law_first", "_law_last", "_law_due"] := fun _ _ _ _ _ _ us hl => match us, hl with | [_, _, _], _ => rfl
theorem bdHasR : BShape "_law_has_root" "_law_has_root" sHasR ["_law_trip_here", "_law_level"] := fun _ _ _ _ _ _ us hl => match us, hl with | [_, _], _ => rfl
theorem bdRootsR : BShape "_law_roots_right" "_law_roots_right" sRootsR ["_law_reel_here"] := fun _ _ _ _ _ _ us hl => match us, hl with | [_], _ => rfl
theorem bdRight : BShape "_law_right" "_law_right" sRight ["_law_reel_here"] := fun _ _ _ _ _ _ us hl => match us, hl with | [_], _ => rfl
end Mv
open PySem PySem.W PyProof.Rows in
set_option maxRecDepth 100000 in
set_option maxHeartbeats 0 in
theorem PySem.Challenge.cw_pressworlds_k64_whole_moves_alike_commut_holds : PySem.Challenge.rw_pressworlds_k64_whole_moves_alike_commut.Holds := by
  w_on; o_law; k_head; (case hw => w_witness2)
  k_fill
  refine Mv.walk_G (l := PySem.Challenge.rw_pressworlds_k64_whole_moves_alike_commut) (n := 63) (k := 9) (x := "_law_script") (sp := Mv.spLaw) rfl (by decide) rfl ⟨rfl, by decide, by decide⟩ (fun w h Y => PySem.W.kIn_of Y) ?F (fun K H a ns hl hS => ⟨_, rfl, a, ns, rfl, hS, hl, fun _ => rfl⟩)
  case F =>
    intro w mg fa h KX G hmg
    refine' Mv.with_cls "Move" KX G ?a ?pg ?hd ?po ?sa ?mk ?kc fun mgC cl mk kc => ?_
    (case a => k_is)
    (case pg => k_is)
    (case hd => k_is)
    (case po => k_is)
    (case sa => k_is)
    (case mk => k_is)
    (case kc => k_is)
    refine' Mv.with_free "isinstance" KX G ?a fun z_isinstance => ?_
    (case a => k_is)
    refine' Mv.with_free "int" KX G ?a fun z_int => ?_
    (case a => k_is)
    refine' Mv.with_free "bool" KX G ?a fun z_bool => ?_
    (case a => k_is)
    refine' Mv.with_free "str" KX G ?a fun z_str => ?_
    (case a => k_is)
    refine' Mv.with_free "len" KX G ?a fun z_len => ?_
    (case a => k_is)
    refine' Mv.with_free "abs" KX G ?a fun z_abs => ?_
    (case a => k_is)
    refine' Mv.with_free "tuple" KX G ?a fun z_tuple => ?_
    (case a => k_is)
    refine' Mv.with_free "range" KX G ?a fun z_range => ?_
    (case a => k_is)
    refine' Mv.with_free "divmod" KX G ?a fun z_divmod => ?_
    (case a => k_is)
    refine' Mv.with_free "repr" KX G ?a fun z_repr => ?_
    (case a => k_is)
    refine' Mv.with_free "all" KX G ?a fun z_all => ?_
    (case a => k_is)
    refine' Mv.with_def "is_integer" Mv.sIsInt ["value"] KX G Mv.bdIsInt ?a ?l ?c ?k fun dIsInt => ?_
    (case a => k_is)
    (case l => k_is)
    (case c => k_is)
    (case k => k_is)
    refine' Mv.with_def "is_shared" Mv.sShared ["number", "step"] KX G Mv.bdShared ?a ?l ?c ?k fun dShared => ?_
    (case a => k_is)
    (case l => k_is)
    (case c => k_is)
    (case k => k_is)
    refine' Mv.with_def "combined" Mv.sComb ["one", "other"] KX G Mv.bdComb ?a ?l ?c ?k fun dComb => ?_
    (case a => k_is)
    (case l => k_is)
    (case c => k_is)
    (case k => k_is)
    refine' Mv.with_def "check_whole" Mv.sWhole ["value"] KX G Mv.bdWhole ?a ?l ?c ?k fun dWhole => ?_
    (case a => k_is)
    (case l => k_is)
    (case c => k_is)
    (case k => k_is)
    refine' Mv.with_def "check_move" Mv.sCMove ["value"] KX G Mv.bdCMove ?a ?l ?c ?k fun dCMove => ?_
    (case a => k_is)
    (case l => k_is)
    (case c => k_is)
    (case k => k_is)
    refine' Mv.with_def "check_moves" Mv.sCMoves ["one", "other"] KX G Mv.bdCMoves ?a ?l ?c ?k fun dCMoves => ?_
    (case a => k_is)
    (case l => k_is)
    (case c => k_is)
    (case k => k_is)
    refine' Mv.with_def "triple" Mv.sTriple ["one"] KX G Mv.bdTriple ?a ?l ?c ?k fun dTriple => ?_
    (case a => k_is)
    (case l => k_is)
    (case c => k_is)
    (case k => k_is)
    refine' Mv.with_def "gap_of" Mv.sGap ["one", "other"] KX G Mv.bdGap ?a ?l ?c ?k fun dGap => ?_
    (case a => k_is)
    (case l => k_is)
    (case c => k_is)
    (case k => k_is)
    refine' Mv.with_def "made_move" Mv.sMade ["numbers"] KX G Mv.bdMade ?a ?l ?c ?k fun dMade => ?_
    (case a => k_is)
    (case l => k_is)
    (case c => k_is)
    (case k => k_is)
    refine' Mv.with_def "link_of_moves" Mv.sLink ["one", "other"] KX G Mv.bdLink ?a ?l ?c ?k fun dLink => ?_
    (case a => k_is)
    (case l => k_is)
    (case c => k_is)
    (case k => k_is)
    refine' Mv.with_def "root_of_move" Mv.sRoot ["one", "degree"] KX G Mv.bdRoot ?a ?l ?c ?k fun dRoot => ?_
    (case a => k_is)
    (case l => k_is)
    (case c => k_is)
    (case k => k_is)
    refine' Mv.with_def "is_move_alike" Mv.sIsAl ["one", "other"] KX G Mv.bdIsAl ?a ?l ?c ?k fun dIsAl => ?_
    (case a => k_is)
    (case l => k_is)
    (case c => k_is)
    (case k => k_is)
    refine' Mv.with_def "move_alike" Mv.sAl ["one", "other"] KX G Mv.bdAl ?a ?l ?c ?k fun dAl => ?_
    (case a => k_is)
    (case l => k_is)
    (case c => k_is)
    (case k => k_is)
    refine' Mv.with_def "do_moves_commute" Mv.sCom ["one", "other"] KX G Mv.bdCom ?a ?l ?c ?k fun dCom => ?_
    (case a => k_is)
    (case l => k_is)
    (case c => k_is)
    (case k => k_is)
    refine' Mv.with_def "move_root" Mv.sMRoot ["one", "degree"] KX G Mv.bdMRoot ?a ?l ?c ?k fun dMRoot => ?_
    (case a => k_is)
    (case l => k_is)
    (case c => k_is)
    (case k => k_is)
    refine' Mv.with_def "_law_reel" Mv.sReel ["_law_script", "_law_turn"] KX G Mv.bdReel ?a ?l ?c ?k fun dReel => ?_
    (case a => k_is)
    (case l => k_is)
    (case c => k_is)
    (case k => k_is)
    refine' Mv.with_def "_law_wind" Mv.sWind ["_law_reel_here", "_law_many"] KX G Mv.bdWind ?a ?l ?c ?k fun dWind => ?_
    (case a => k_is)
    (case l => k_is)
    (case c => k_is)
    (case k => k_is)
    refine' Mv.with_def "_law_one_of" Mv.sOneOf ["_law_reel_here", "_law_menu"] KX G Mv.bdOneOf ?a ?l ?c ?k fun dOneOf => ?_
    (case a => k_is)
    (case l => k_is)
    (case c => k_is)
    (case k => k_is)
    refine' Mv.with_def "_law_trip" Mv.sTrip ["_law_reel_here", "_law_size"] KX G Mv.bdTrip ?a ?l ?c ?k fun dTrip => ?_
    (case a => k_is)
    (case l => k_is)
    (case c => k_is)
    (case k => k_is)
    refine' Mv.with_def "_law_put" Mv.sPut ["_law_left", "_law_right_here"] KX G Mv.bdPut ?a ?l ?c ?k fun dPut => ?_
    (case a => k_is)
    (case l => k_is)
    (case c => k_is)
    (case k => k_is)
    refine' Mv.with_def "_law_off" Mv.sOff ["_law_trip_here"] KX G Mv.bdOff ?a ?l ?c ?k fun dOff => ?_
    (case a => k_is)
    (case l => k_is)
    (case c => k_is)
    (case k => k_is)
    refine' Mv.with_def "_law_power" Mv.sPower ["_law_trip_here", "_law_count"] KX G Mv.bdPower ?a ?l ?c ?k fun dPower => ?_
    (case a => k_is)
    (case l => k_is)
    (case c => k_is)
    (case k => k_is)
    refine' Mv.with_def "_law_move" Mv.sMove ["_law_trip_here"] KX G Mv.bdMove ?a ?l ?c ?k fun dMove => ?_
    (case a => k_is)
    (case l => k_is)
    (case c => k_is)
    (case k => k_is)
    refine' Mv.with_def "_law_three" Mv.sThree ["_law_made"] KX G Mv.bdThree ?a ?l ?c ?k fun dThree => ?_
    (case a => k_is)
    (case l => k_is)
    (case c => k_is)
    (case k => k_is)
    refine' Mv.with_def "_law_between" Mv.sBtw ["_law_by", "_law_trip_here"] KX G Mv.bdBtw ?a ?l ?c ?k fun dBtw => ?_
    (case a => k_is)
    (case l => k_is)
    (case c => k_is)
    (case k => k_is)
    refine' Mv.with_def "_law_are_alike" Mv.sAreAl ["_law_first", "_law_last"] KX G Mv.bdAreAl ?a ?l ?c ?k fun dAreAl => ?_
    (case a => k_is)
    (case l => k_is)
    (case c => k_is)
    (case k => k_is)
    refine' Mv.with_def "_law_alike_right" Mv.sAlR ["_law_first", "_law_last", "_law_due"] KX G Mv.bdAlR ?a ?l ?c ?k fun dAlR => ?_
    (case a => k_is)
    (case l => k_is)
    (case c => k_is)
    (case k => k_is)
    refine' Mv.with_def "_law_has_root" Mv.sHasR ["_law_trip_here", "_law_level"] KX G Mv.bdHasR ?a ?l ?c ?k fun dHasR => ?_
    (case a => k_is)
    (case l => k_is)
    (case c => k_is)
    (case k => k_is)
    refine' Mv.with_def "_law_roots_right" Mv.sRootsR ["_law_reel_here"] KX G Mv.bdRootsR ?a ?l ?c ?k fun dRootsR => ?_
    (case a => k_is)
    (case l => k_is)
    (case c => k_is)
    (case k => k_is)
    refine' Mv.with_def "_law_right" Mv.sRight ["_law_reel_here"] KX G Mv.bdRight ?a ?l ?c ?k fun dRight => ?_
    (case a => k_is)
    (case l => k_is)
    (case c => k_is)
    (case k => k_is)
    refine' Mv.with_meth "__init__" "Move.__init__" Mv.sInit ["self", "east", "north", "area"] cl Mv.bdInit ?a ?i ?l ?c ?k fun mInit => ?_
    (case a => k_is)
    (case i => k_is)
    (case l => k_is)
    (case c => k_is)
    (case k => k_is)
    refine' Mv.with_meth "__str__" "Move.__str__" Mv.sStr ["self"] cl Mv.bdStr ?a ?i ?l ?c ?k fun mStr => ?_
    (case a => k_is)
    (case i => k_is)
    (case l => k_is)
    (case c => k_is)
    (case k => k_is)
    refine' Mv.with_meth "__eq__" "Move.__eq__" Mv.sEq ["self", "other"] cl Mv.bdEq ?a ?i ?l ?c ?k fun mEq => ?_
    (case a => k_is)
    (case i => k_is)
    (case l => k_is)
    (case c => k_is)
    (case k => k_is)
    refine' Mv.with_prop "east" "Move.east" Mv.sEast ["self"] cl Mv.bdEast ?a ?g1 ?g2 ?g3 ?l ?c ?k fun pEast => ?_
    (case a => k_is)
    (case g1 => k_is)
    (case g2 => k_is)
    (case g3 => k_is)
    (case l => k_is)
    (case c => k_is)
    (case k => k_is)
    refine' Mv.with_prop "north" "Move.north" Mv.sNorth ["self"] cl Mv.bdNorth ?a ?g1 ?g2 ?g3 ?l ?c ?k fun pNorth => ?_
    (case a => k_is)
    (case g1 => k_is)
    (case g2 => k_is)
    (case g3 => k_is)
    (case l => k_is)
    (case c => k_is)
    (case k => k_is)
    refine' Mv.with_prop "area" "Move.area" Mv.sArea ["self"] cl Mv.bdArea ?a ?g1 ?g2 ?g3 ?l ?c ?k fun pArea => ?_
    (case a => k_is)
    (case g1 => k_is)
    (case g2 => k_is)
    (case g3 => k_is)
    (case l => k_is)
    (case c => k_is)
    (case k => k_is)
    refine' Mv.finish (l := PySem.Challenge.rw_pressworlds_k64_whole_moves_alike_commut) KX G hmg ?a ?l ?c ?k { z_isinstance := z_isinstance, z_int := z_int, z_bool := z_bool, z_str := z_str, z_len := z_len, z_abs := z_abs, z_tuple := z_tuple, z_range := z_range, z_divmod := z_divmod, z_repr := z_repr, z_all := z_all, dIsInt := dIsInt, dShared := dShared, dComb := dComb, dWhole := dWhole, dCMove := dCMove, dCMoves := dCMoves, dTriple := dTriple, dGap := dGap, dMade := dMade, dLink := dLink, dRoot := dRoot, dIsAl := ⟨dIsAl, Mv.kb_of Mv.kdIsAl⟩, dAl := ⟨dAl, Mv.kb_of Mv.kdAl⟩, dCom := ⟨dCom, Mv.kb_of Mv.kdCom⟩, dMRoot := ⟨dMRoot, Mv.kb_of Mv.kdMRoot⟩, dReel := dReel, dWind := dWind, dOneOf := dOneOf, dTrip := dTrip, dPut := dPut, dOff := dOff, dPower := dPower, dMove := dMove, dThree := dThree, dBtw := dBtw, dAreAl := dAreAl, dAlR := dAlR, dHasR := dHasR, dRootsR := dRootsR, dRight := dRight, cl := cl, mgC := mgC, n1 := ?n1, n2 := ?n2, n3 := ?n3, c1 := ?c1, c2 := ?c2, c3 := ?c3, c4 := ?c4, ne := ?ne, init := Mv.init_of mk kc mInit, east := pEast, north := pNorth, area := pArea, str_ := mStr, eq_ := mEq }
    (case a => k_is)
    (case l => k_is)
    (case c => k_is)
    (case k => k_is)
    (case n1 => unfold L2.NoAttr; k_is)
    (case n2 => unfold L2.NoAttr; k_is)
    (case n3 => unfold L2.NoAttr; k_is)
    (case c1 => k_is)
    (case c2 => k_is)
    (case c3 => k_is)
    (case c4 => k_is)
    (case ne => k_is)

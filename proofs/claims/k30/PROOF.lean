import PyProof.Rows.All
import Wide.All
import OpenK.AllK
import Wide.FinOn
import KE.KStateDown
import Lean
import HandS.Base
import HandS.Call
import HandS.List
import HandS.Comp
import HandS.Ends
import HandS.Dict
import HandS.Iter
import HandS.Exc
import HandS.TryOnly
import HandS.ExcOwn
import HandS.More
import HandS.Words
import HandS.WordsList
import HandS.WordsExc
import HandS.Defaults
import HandS.IsInst
import HandS.Wide
import HandS.WideBits
import HandS.Evl
import HandS.Head0
import HandS.Head1
import HandS.Head2
import HandS.HeadEnd
import HandS.HeadHook1
import HandS.HeadHook2
import HandS.HeadHook3
import HandS.HeadHook4
import PyProof.ExcBaseAll.LookupError
import PySem.Challenge.RW_heightsums_k30_whole_runs_of_exact_lengt
set_option Elab.async false
set_option linter.all false
set_option maxRecDepth 100000
set_option maxHeartbeats 4000000
/-! The mathematics of extents -/
namespace HS
/-- a number, or the limit -/
def cap (n : Int) : Option Int → Int
  | none => n
  | some l => min n l
structure Ext where
  width : Int
  climb : Int
  depth : Option Int
  base : Int
  limit : Option Int
/-- extent of a split -/
def extent (E : Ext) (j v : Int) : Int := E.width * cap (E.base + v) E.limit + (j - v) * cap (E.climb + v) E.depth
def first (E : Ext) (j : Int) : Int := match E.limit with
  | none => j
  | some l => min j (l - E.base)
def second (E : Ext) (j : Int) : Int := match E.depth with
  | none => j
  | some d => min j (d - E.climb)
def lowPeak (E : Ext) (j : Int) : Int := min (max ((E.width + j - E.climb) / 2) 0) (first E j)
def highPeak (E : Ext) (j : Int) : Int := min (max ((j - E.climb) / 2) (first E j)) (second E j)
def best (E : Ext) (j : Int) : Int := if extent E j (highPeak E j) ≤ extent E j (lowPeak E j) then lowPeak E j else highPeak E j
def greatest (E : Ext) (j : Int) : Int := extent E j (best E j)
/-- what the extents of a displacement and a room look like -/
structure WF (E : Ext) : Prop where
  w : 0 ≤ E.width
  b : 0 ≤ E.base
  bc : E.base ≤ E.climb
  l : ∀ l, E.limit = some l → E.base ≤ l
  d : ∀ d, E.depth = some d → E.climb ≤ d
  ld : ∀ d, E.depth = some d → ∃ l, E.limit = some l ∧ l - E.base ≤ d - E.climb
theorem first_nn {E : Ext} (W : WF E) {j : Int} (hj : 0 ≤ j) : 0 ≤ first E j := by
  unfold first
  cases e : E.limit with
  | none => exact hj
  | some l => have := W.l l e; simp only []; omega
theorem first_second {E : Ext} (W : WF E) {j : Int} : first E j ≤ second E j := by
  unfold first second
  cases e : E.depth with
  | none =>
    cases e2 : E.limit with
    | none => simp only []; omega
    | some l => simp only []; omega
  | some d =>
    obtain ⟨l, e2, h⟩ := W.ld d e
    rw [e2]; simp only []; omega
theorem second_le {E : Ext} {j : Int} : second E j ≤ j := by
  unfold second
  cases e : E.depth with
  | none => simp only []; omega
  | some d => simp only []; omega
theorem second_mono {E : Ext} {i j : Int} (h : i ≤ j) : second E i ≤ second E j := by
  unfold second
  cases e : E.depth with
  | none => simp only []; omega
  | some d => simp only []; omega
theorem cap_depth {E : Ext} {j v : Int} (h : v ≤ second E j) : cap (E.climb + v) E.depth = E.climb + v := by
  unfold second at h
  unfold cap
  cases e : E.depth with
  | none => rfl
  | some d => rw [e] at h; simp only [] at h ⊢; omega
theorem cap_limit {E : Ext} {j v : Int} (h : v ≤ first E j) : cap (E.base + v) E.limit = E.base + v := by
  unfold first at h
  unfold cap
  cases e : E.limit with
  | none => rfl
  | some d => rw [e] at h; simp only [] at h ⊢; omega
/-- beyond the first breakpoint: a limit stands, or nothing is beyond -/
theorem cap_beyond {E : Ext} {j v : Int} (h : first E j ≤ v) (hj : first E j < j) : ∃ l, E.limit = some l ∧ cap (E.base + v) E.limit = l := by
  unfold first at h hj
  unfold cap
  cases e : E.limit with
  | none => rw [e] at hj; simp only [] at hj; omega
  | some d => rw [e] at h hj; simp only [] at h hj ⊢; exact ⟨d, rfl, by omega⟩
theorem lowPeak_range {E : Ext} (W : WF E) {j : Int} (hj : 0 ≤ j) : 0 ≤ lowPeak E j ∧ lowPeak E j ≤ first E j := by
  have := first_nn W hj
  unfold lowPeak; omega
theorem highPeak_range {E : Ext} (W : WF E) {j : Int} (hj : 0 ≤ j) : first E j ≤ highPeak E j ∧ highPeak E j ≤ second E j := by
  have := first_nn W hj
  have := first_second W (j := j)
  unfold highPeak; omega
theorem best_range {E : Ext} (W : WF E) {j : Int} (hj : 0 ≤ j) : 0 ≤ best E j ∧ best E j ≤ second E j := by
  have h1 := lowPeak_range W hj
  have h2 := highPeak_range W hj
  have h3 := first_second W (j := j)
  have h4 := first_nn W hj
  unfold best
  split <;> omega
/-- (p - v) * (b - p - v) ≥ 0 at the clamped vertex -/
theorem vertex {b lo hi p v : Int} (hp : p = min (max (b / 2) lo) hi) (h1 : lo ≤ v) (h2 : v ≤ hi) : 0 ≤ (p - v) * (b - p - v) := by
  by_cases c : p ≤ v
  · by_cases c2 : p = v
    · subst c2; simp
    · have z1 : p - v ≤ 0 := by omega
      have z2 : b - p - v ≤ 0 := by omega
      exact Int.mul_nonneg_of_nonpos_of_nonpos z1 z2
  · have z1 : 0 ≤ p - v := by omega
    have z2 : 0 ≤ b - p - v := by omega
    exact Int.mul_nonneg z1 z2
theorem low_diff (W B C j p v : Int) : (W * (B + p) + (j - p) * (C + p)) - (W * (B + v) + (j - v) * (C + v)) = (p - v) * (W + j - C - p - v) := by
  grind
theorem high_diff (X C j p v : Int) : (X + (j - p) * (C + p)) - (X + (j - v) * (C + v)) = (p - v) * (j - C - p - v) := by
  grind
theorem low_top {E : Ext} (W : WF E) {j v : Int} (hj : 0 ≤ j) (h0 : 0 ≤ v) (h1 : v ≤ first E j) : extent E j v ≤ extent E j (lowPeak E j) := by
  have r := lowPeak_range W hj
  have fs := first_second W (j := j)
  unfold extent
  rw [cap_limit h1, cap_depth (Int.le_trans h1 fs), cap_limit r.2, cap_depth (Int.le_trans r.2 fs)]
  have d := low_diff E.width E.base E.climb j (lowPeak E j) v
  have k := vertex (b := E.width + j - E.climb) (lo := 0) (hi := first E j) (p := lowPeak E j) (v := v) rfl h0 h1
  rw [show E.width + j - E.climb - lowPeak E j - v = E.width + j - E.climb - lowPeak E j - v from rfl] at d
  omega
theorem high_top {E : Ext} (W : WF E) {j v : Int} (hj : 0 ≤ j) (h0 : first E j ≤ v) (h1 : v ≤ second E j) : extent E j v ≤ extent E j (highPeak E j) := by
  have r := highPeak_range W hj
  have sl := second_le (E := E) (j := j)
  by_cases c : first E j < j
  · obtain ⟨l, el, e1⟩ := cap_beyond h0 c
    obtain ⟨l2, el2, e2⟩ := cap_beyond r.1 c
    rw [el] at el2
    cases el2
    unfold extent
    rw [e1, e2, cap_depth h1, cap_depth r.2]
    have d := high_diff (E.width * l) E.climb j (highPeak E j) v
    have k := vertex (b := j - E.climb) (lo := first E j) (hi := second E j) (p := highPeak E j) (v := v) rfl h0 h1
    omega
  · have e : v = highPeak E j := by omega
    rw [e]; exact Int.le_refl _
theorem le_greatest {E : Ext} (W : WF E) {j v : Int} (hj : 0 ≤ j) (h0 : 0 ≤ v) (h1 : v ≤ second E j) : extent E j v ≤ greatest E j := by
  have k : extent E j v ≤ max (extent E j (lowPeak E j)) (extent E j (highPeak E j)) := by
    by_cases c : v ≤ first E j
    · have := low_top W hj h0 c; omega
    · have := high_top W hj (by omega) h1; omega
  unfold greatest best
  split <;> omega
theorem cap_nn {n : Int} {l : Option Int} (h : 0 ≤ n) (hl : ∀ k, l = some k → 0 ≤ k) : 0 ≤ cap n l := by
  unfold cap
  cases e : l with
  | none => exact h
  | some k => have := hl k e; simp only []; omega
theorem greatest_mono {E : Ext} (W : WF E) {i j : Int} (hi : 0 ≤ i) (h : i ≤ j) : greatest E i ≤ greatest E j := by
  have hj : 0 ≤ j := Int.le_trans hi h
  have r := best_range W hi
  have s := second_mono (E := E) h
  refine Int.le_trans ?_ (le_greatest W hj r.1 (Int.le_trans r.2 s))
  show extent E i (best E i) ≤ extent E j (best E i)
  unfold extent
  have z : 0 ≤ cap (E.climb + best E i) E.depth := cap_nn (by have := W.b; have := W.bc; omega) (fun k e => by have := W.d k e; have := W.b; have := W.bc; omega)
  have m : (i - best E i) * cap (E.climb + best E i) E.depth ≤ (j - best E i) * cap (E.climb + best E i) E.depth := Int.mul_le_mul_of_nonneg_right (by omega) z
  omega
theorem greatest_nn {E : Ext} (W : WF E) {j : Int} (hj : 0 ≤ j) : 0 ≤ greatest E j := by
  have s : 0 ≤ second E j := Int.le_trans (first_nn W hj) (first_second W)
  refine Int.le_trans ?_ (le_greatest W hj (Int.le_refl 0) s)
  unfold extent
  have z1 : 0 ≤ cap (E.base + 0) E.limit := cap_nn (by have := W.b; omega) (fun k e => by have := W.l k e; have := W.b; omega)
  have z2 : 0 ≤ cap (E.climb + 0) E.depth := cap_nn (by have := W.b; have := W.bc; omega) (fun k e => by have := W.d k e; have := W.b; have := W.bc; omega)
  have := Int.mul_nonneg W.w z1
  have := Int.mul_nonneg (show 0 ≤ j - 0 by omega) z2
  omega
/-- the extents grow without bound -/
theorem greatest_big {E : Ext} (W : WF E) {j : Int} (hj : 1 ≤ j) (hd : E.depth ≠ some 0) : j - 1 ≤ greatest E j := by
  have hj0 : 0 ≤ j := by omega
  have f0 := first_nn W hj0
  have fs := first_second W (j := j)
  by_cases c : 1 ≤ E.climb
  · refine Int.le_trans ?_ (le_greatest W hj0 (Int.le_refl 0) (by omega))
    unfold extent
    rw [cap_depth (j := j) (by omega)]
    have z1 : 0 ≤ cap (E.base + 0) E.limit := cap_nn (by have := W.b; omega) (fun k e => by have := W.l k e; have := W.b; omega)
    have := Int.mul_nonneg W.w z1
    have : (j - 0) * 1 ≤ (j - 0) * (E.climb + 0) := Int.mul_le_mul_of_nonneg_left (by omega) (by omega)
    omega
  · have hb := W.b
    have hbc := W.bc
    have h1 : 1 ≤ second E j := by
      unfold second
      cases e : E.depth with
      | none => exact hj
      | some d =>
        have := W.d d e
        have : d ≠ 0 := fun z => hd (by rw [e, z])
        simp only []
        omega
    refine Int.le_trans ?_ (le_greatest W hj0 (by decide : (0 : Int) ≤ 1) h1)
    unfold extent
    rw [cap_depth h1]
    have z1 : 0 ≤ cap (E.base + 1) E.limit := cap_nn (by omega) (fun k e => by have := W.l k e; omega)
    have := Int.mul_nonneg W.w z1
    have : (j - 1) * 1 ≤ (j - 1) * (E.climb + 1) := Int.mul_le_mul_of_nonneg_left (by omega) (by omega)
    omega
/-- the fewest pairs -/
structure Fewest (E : Ext) (t n : Int) : Prop where
  nn : 0 ≤ n
  ok : t ≤ greatest E n
  no : ∀ m, 0 ≤ m → m < n → greatest E m < t
theorem Fewest.of {E : Ext} (W : WF E) {t n : Int} (h1 : 1 ≤ n) (h2 : t ≤ greatest E n) (h3 : greatest E (n - 1) < t) : Fewest E t n :=
  ⟨by omega, h2, fun m h0 hm => Int.lt_of_le_of_lt (greatest_mono W h0 (by omega)) h3⟩
theorem Fewest.zero {E : Ext} {t : Int} (h : t ≤ greatest E 0) : Fewest E t 0 := ⟨Int.le_refl 0, h, fun m h0 hm => by omega⟩
theorem Fewest.iff {E : Ext} (W : WF E) {t n m : Int} (F : Fewest E t n) (hm : 0 ≤ m) : t ≤ greatest E m ↔ n ≤ m := by
  constructor
  · intro h
    by_cases c : n ≤ m
    · exact c
    · have := F.no m hm (by omega); omega
  · intro h
    exact Int.le_trans F.ok (greatest_mono W F.nn h)
end HS

/-! The mathematics of the builder and of merged runs -/
namespace HS
def iabs (i : Int) : Int := if i < 0 then -i else i
def depthOf : Option Int → Option Int → Option Int
  | some a, some c => some (a + c)
  | _, _ => none
def same (s x : Int) : Bool := decide (decide (0 ≤ s) = decide (0 ≤ x))
def mkE (X H : Int) (a c : Option Int) (s : Int) : Ext :=
  if same s X = true then ⟨iabs X, iabs H, depthOf a c, max H 0, c⟩ else ⟨iabs X, iabs H, depthOf a c, max (-H) 0, a⟩
/-- the room of the start; the end lies in the band, too -/
structure RoomOk (a c : Option Int) (H : Int) : Prop where
  a : ∀ k, a = some k → 0 ≤ k ∧ -k ≤ H
  c : ∀ k, c = some k → 0 ≤ k ∧ H ≤ k
theorem mkE_wf {X H : Int} {a c : Option Int} (R : RoomOk a c H) (s : Int) : WF (mkE X H a c s) := by
  have ra := R.a
  have rc := R.c
  unfold mkE
  split
  · refine ⟨?_, ?_, ?_, ?_, ?_, ?_⟩
    · show 0 ≤ iabs X; unfold iabs; split <;> omega
    · show 0 ≤ max H 0; omega
    · show max H 0 ≤ iabs H; unfold iabs; split <;> omega
    · intro l e; have e' : c = some l := e; have := rc l e'; show max H 0 ≤ l; omega
    · intro d e
      cases a with
      | none => cases e
      | some a => cases c with
        | none => cases e
        | some c =>
          have := ra a rfl; have := rc c rfl
          cases e
          show iabs H ≤ a + c; unfold iabs; split <;> omega
    · intro d e
      cases a with
      | none => cases e
      | some a => cases c with
        | none => cases e
        | some c =>
          have := ra a rfl; have := rc c rfl
          cases e
          refine ⟨c, rfl, ?_⟩
          show c - max H 0 ≤ a + c - iabs H; unfold iabs; split <;> omega
  · refine ⟨?_, ?_, ?_, ?_, ?_, ?_⟩
    · show 0 ≤ iabs X; unfold iabs; split <;> omega
    · show 0 ≤ max (-H) 0; omega
    · show max (-H) 0 ≤ iabs H; unfold iabs; split <;> omega
    · intro l e; have e' : a = some l := e; have := ra l e'; show max (-H) 0 ≤ l; omega
    · intro d e
      cases a with
      | none => cases e
      | some a => cases c with
        | none => cases e
        | some c =>
          have := ra a rfl; have := rc c rfl
          cases e
          show iabs H ≤ a + c; unfold iabs; split <;> omega
    · intro d e
      cases a with
      | none => cases e
      | some a => cases c with
        | none => cases e
        | some c =>
          have := ra a rfl; have := rc c rfl
          cases e
          refine ⟨a, rfl, ?_⟩
          show a - max (-H) 0 ≤ a + c - iabs H; unfold iabs; split <;> omega
/-! ### steps, runs -/
inductive Step where
  | E | W | U | D
  deriving DecidableEq
abbrev Run := Step × Int
abbrev Pt := Int × Int × Int
def mv (t : Pt) (r : Run) : Pt := match r.1 with
  | .E => (t.1 + r.2, t.2.1, t.2.2 + t.2.1 * r.2)
  | .W => (t.1 - r.2, t.2.1, t.2.2 - t.2.1 * r.2)
  | .U => (t.1, t.2.1 + r.2, t.2.2)
  | .D => (t.1, t.2.1 - r.2, t.2.2)
def fin (t : Pt) (rs : List Run) : Pt := rs.foldl mv t
theorem fin_snoc (t : Pt) (rs : List Run) (r : Run) : fin t (rs ++ [r]) = mv (fin t rs) r := by simp [fin, List.foldl_append]
/-- the heights behind each run lie in a set -/
def Ins (B : Int → Prop) : Pt → List Run → Prop
  | _, [] => True
  | t, r :: rs => B (mv t r).2.1 ∧ Ins B (mv t r) rs
theorem ins_snoc {B : Int → Prop} : ∀ {t : Pt} {rs : List Run} {r : Run}, Ins B t (rs ++ [r]) ↔ Ins B t rs ∧ B (fin t (rs ++ [r])).2.1
  | t, [], r => by simp [Ins, fin]
  | t, q :: rs, r => by
    have ih := ins_snoc (B := B) (t := mv t q) (rs := rs) (r := r)
    show (B (mv t q).2.1 ∧ Ins B (mv t q) (rs ++ [r])) ↔ (B (mv t q).2.1 ∧ Ins B (mv t q) rs) ∧ B (fin (mv t q) (rs ++ [r])).2.1
    rw [ih, and_assoc]
def total (rs : List Run) : Int := (rs.map (·.2)).sum
theorem total_snoc (rs : List Run) (r : Run) : total (rs ++ [r]) = total rs + r.2 := by simp [total, List.sum_append]
/-- no neighbours alike -/
def NoAdj (rs : List Run) : Prop := ∀ (i : Nat) (p q : Run), rs[i]? = some p → rs[i + 1]? = some q → p.1 ≠ q.1
/-- append_run -/
def app (M : List Run) (r : Run) : List Run :=
  if 0 < r.2 then (match M.getLast? with
    | some q => if q.1 = r.1 then M.dropLast ++ [(r.1, r.2 + q.2)] else M ++ [r]
    | none => M ++ [r]) else M
theorem mv_zero (t : Pt) {r : Run} (h : r.2 = 0) : mv t r = t := by
  obtain ⟨x, y, z⟩ := t
  obtain ⟨s, n⟩ := r
  have h' : n = 0 := h
  subst h'
  cases s <;> simp [mv]
theorem mv_twice (t : Pt) (s : Step) (n m : Int) : mv (mv t (s, m)) (s, n) = mv t (s, n + m) := by
  obtain ⟨x, y, z⟩ := t
  cases s
  · simp only [mv, Int.mul_add, Prod.mk.injEq]; refine ⟨?_, trivial, ?_⟩ <;> omega
  · simp only [mv, Int.mul_add, Prod.mk.injEq]; refine ⟨?_, trivial, ?_⟩ <;> omega
  · simp only [mv, Prod.mk.injEq]; refine ⟨trivial, ?_, trivial⟩; omega
  · simp only [mv, Prod.mk.injEq]; refine ⟨trivial, ?_, trivial⟩; omega
/-- what merged runs M are of a path P, up to the starting point -/
structure Mg (M P : List Run) : Prop where
  fin : ∀ t, fin t M = fin t P
  ins : ∀ B t, Ins B t P → Ins B t M
  adj : NoAdj M
  len : M.length ≤ P.length
  tot : total M = total P
  pos : ∀ r ∈ M, 0 ≤ r.2
theorem Mg.nil : Mg [] [] := ⟨fun _ => rfl, fun _ _ _ => trivial, fun i p q h => by simp at h, Nat.le_refl _, rfl, fun r h => by cases h⟩
theorem noAdj_snoc {M : List Run} {r : Run} (h : NoAdj M) (hl : ∀ q, M.getLast? = some q → q.1 ≠ r.1) : NoAdj (M ++ [r]) := by
  intro i p q h1 h2
  have hi : i + 1 < (M ++ [r]).length := (List.getElem?_eq_some_iff.mp h2).1
  rw [List.length_append, List.length_singleton] at hi
  by_cases c : i + 1 < M.length
  · rw [List.getElem?_append_left (by omega)] at h1 h2
    exact h i p q h1 h2
  · have e : i + 1 = M.length := by omega
    rw [List.getElem?_append_left (by omega)] at h1
    rw [e, List.getElem?_append_right (Nat.le_refl _), Nat.sub_self] at h2
    have e2 : r = q := by simpa using h2
    subst e2
    refine hl p ?_
    rw [List.getLast?_eq_getElem?]
    rw [show M.length - 1 = i by omega]
    exact h1
theorem app_ok {M P : List Run} {r : Run} (h : Mg M P) (hr : 0 ≤ r.2) : Mg (app M r) (P ++ [r]) := by
  unfold app
  by_cases c : 0 < r.2
  · rw [if_pos c]
    cases e : M.getLast? with
    | none =>
      show Mg (M ++ [r]) (P ++ [r])
      refine ⟨fun t => by rw [fin_snoc, fin_snoc, h.fin], fun B t z => ?_, noAdj_snoc h.adj (fun q hq => by rw [e] at hq; cases hq), by simp [h.len], by rw [total_snoc, total_snoc, h.tot], fun q hq => ?_⟩
      · rw [ins_snoc] at z ⊢
        exact ⟨h.ins B t z.1, by rw [fin_snoc, h.fin, ← fin_snoc]; exact z.2⟩
      · rcases List.mem_append.mp hq with hq | hq
        · exact h.pos q hq
        · rw [List.mem_singleton.mp hq]; exact hr
    | some q =>
      show Mg (if q.1 = r.1 then M.dropLast ++ [(r.1, r.2 + q.2)] else M ++ [r]) (P ++ [r])
      by_cases c2 : q.1 = r.1
      · rw [if_pos c2]
        have em : M.dropLast ++ [q] = M := by
          have hm : M ≠ [] := fun z => by rw [z] at e; simp at e
          have e2 : M.getLast hm = q := Option.some.inj ((List.getLast?_eq_some_getLast hm).symm.trans e)
          rw [← e2]
          exact List.dropLast_concat_getLast hm
        have hfin : ∀ t, HS.fin t (M.dropLast ++ [(r.1, r.2 + q.2)]) = HS.fin t (P ++ [r]) := fun t => by
          rw [fin_snoc, fin_snoc, ← h.fin, ← em, fin_snoc]
          have e3 : q = (r.1, q.2) := by rw [← c2]
          have e4 : (M.dropLast ++ [q]).dropLast = M.dropLast := by simp
          rw [e4]
          rw [← mv_twice, ← e3]
        have hq0 : 0 ≤ q.2 := h.pos q (by rw [← em]; simp)
        refine ⟨hfin, fun B t z => ?_, ?_, ?_, ?_, fun p hp => ?_⟩
        · rw [ins_snoc] at z ⊢
          refine ⟨?_, by rw [hfin]; exact z.2⟩
          have y := h.ins B t z.1
          rw [← em, ins_snoc] at y
          exact y.1
        · have ha := h.adj
          rw [← em] at ha
          intro i p p' h1 h2
          have hi : i + 1 < (M.dropLast ++ [(r.1, r.2 + q.2)]).length := (List.getElem?_eq_some_iff.mp h2).1
          rw [List.length_append, List.length_singleton] at hi
          by_cases c3 : i + 1 < M.dropLast.length
          · rw [List.getElem?_append_left (by omega)] at h1 h2
            exact ha i p p' (by rw [List.getElem?_append_left (by omega)]; exact h1) (by rw [List.getElem?_append_left (by omega)]; exact h2)
          · have e5 : i + 1 = M.dropLast.length := by omega
            rw [List.getElem?_append_left (by omega)] at h1
            rw [e5, List.getElem?_append_right (Nat.le_refl _), Nat.sub_self] at h2
            have e6 : (r.1, r.2 + q.2) = p' := by simpa using h2
            subst e6
            have := ha i p q (by rw [List.getElem?_append_left (by omega)]; exact h1) (by rw [e5, List.getElem?_append_right (Nat.le_refl _), Nat.sub_self]; rfl)
            rw [c2] at this
            exact this
        · have := h.len
          rw [← em] at this
          simp at this ⊢
          omega
        · rw [total_snoc, total_snoc, ← h.tot]
          have : total M = total M.dropLast + q.2 := by rw [← total_snoc, em]
          rw [this]; show total M.dropLast + (r.2 + q.2) = total M.dropLast + q.2 + r.2; omega
        · rcases List.mem_append.mp hp with hp | hp
          · exact h.pos p (List.dropLast_subset _ hp)
          · rw [List.mem_singleton.mp hp]; show 0 ≤ r.2 + q.2; omega
      · rw [if_neg c2]
        refine ⟨fun t => by rw [fin_snoc, fin_snoc, h.fin], fun B t z => ?_, noAdj_snoc h.adj (fun p hp => by rw [e] at hp; cases hp; exact c2), by simp [h.len], by rw [total_snoc, total_snoc, h.tot], fun p hp => ?_⟩
        · rw [ins_snoc] at z ⊢
          exact ⟨h.ins B t z.1, by rw [fin_snoc, h.fin, ← fin_snoc]; exact z.2⟩
        · rcases List.mem_append.mp hp with hp | hp
          · exact h.pos p hp
          · rw [List.mem_singleton.mp hp]; exact hr
  · rw [if_neg c]
    have e0 : r.2 = 0 := by omega
    refine ⟨fun t => by rw [fin_snoc, mv_zero _ e0, h.fin], fun B t z => ?_, h.adj, by simp; have := h.len; omega, by rw [total_snoc, e0, h.tot]; omega, h.pos⟩
    rw [ins_snoc] at z
    exact h.ins B t z.1
def merge (P : List Run) : List Run := P.foldl app []
theorem merge_aux : ∀ {P M Q : List Run}, Mg M Q → (∀ r ∈ P, 0 ≤ r.2) → Mg (P.foldl app M) (Q ++ P)
  | [], M, Q, h, _ => by simpa using h
  | r :: P, M, Q, h, hp => by
    have := merge_aux (P := P) (app_ok h (hp r (by simp))) (fun q hq => hp q (by simp [hq]))
    simpa using this
theorem merge_ok {P : List Run} (hp : ∀ r ∈ P, 0 ≤ r.2) : Mg (merge P) P := by
  have := merge_aux (P := P) Mg.nil hp
  simpa [merge] using this
end HS

/-! The builder -/
namespace HS
structure Cnt where
  e : Int
  w : Int
  u : Int
  d : Int
def cntOf (X H j v : Int) : Cnt := ⟨max X 0 + (j - v), max (-X) 0 + (j - v), max H 0 + v, max (-H) 0 + v⟩
structure Bld where
  span : Int
  rise : Int
  top : Int
  bottom : Int
  rest : Int
  eT : Int
  wB : Int
  single : Option Step
  eB : Int
  wT : Int
def spanOf (k : Cnt) (a c : Option Int) : Int := cap (max k.u k.d) (depthOf a c)
def side (k : Cnt) (S : Int) : Bool := decide (decide (0 ≤ S) = decide (k.w ≤ k.e))
def topOf (k : Cnt) (S : Int) (a c : Option Int) : Int := if side k S = true then cap k.u c else -cap k.d a + spanOf k a c
def bottomOf (k : Cnt) (S : Int) (a c : Option Int) : Int := if side k S = true then cap k.u c - spanOf k a c else -cap k.d a
def liftOf (k : Cnt) (S : Int) (a c : Option Int) : Int := S - (k.e * bottomOf k S a c - k.w * topOf k S a c)
def fullOf (lift span : Int) : Int := if 0 < span then lift / span else 0
def restOf (lift span : Int) : Int := if 0 < span then lift % span else 0
def singleOf (rest eT e : Int) : Option Step := if 0 < rest then (if eT < e then some .E else some .W) else none
def isE (s : Option Step) : Int := if s = some .E then 1 else 0
def isW (s : Option Step) : Int := if s = some .W then 1 else 0
def bldL (k : Cnt) (rise span top bottom lift : Int) : Bld where
  span := span
  rise := rise
  top := top
  bottom := bottom
  rest := restOf lift span
  eT := min k.e (fullOf lift span)
  wB := fullOf lift span - min k.e (fullOf lift span)
  single := singleOf (restOf lift span) (min k.e (fullOf lift span)) k.e
  eB := k.e - min k.e (fullOf lift span) - isE (singleOf (restOf lift span) (min k.e (fullOf lift span)) k.e)
  wT := k.w - (fullOf lift span - min k.e (fullOf lift span)) - isW (singleOf (restOf lift span) (min k.e (fullOf lift span)) k.e)
def bld (k : Cnt) (S : Int) (a c : Option Int) : Bld := bldL k (k.u - k.d) (spanOf k a c) (topOf k S a c) (bottomOf k S a c) (liftOf k S a c)
def Bld.offset (b : Bld) : Int := match b.single with
  | none => 0
  | some .E => b.rest
  | some _ => b.span - b.rest
def Bld.one (b : Bld) : List Run := match b.single with
  | none => []
  | some s => [(s, 1)]
def Bld.atBottom (b : Bld) : List Run := [(.E, b.eB), (.W, b.wB)]
def Bld.atTop (b : Bld) : List Run := [(.E, b.eT), (.W, b.wT)]
def Bld.bottomFirst (b : Bld) : List Run := [(.D, -b.bottom)] ++ b.atBottom ++ [(.U, b.offset)] ++ b.one ++ [(.U, b.span - b.offset)] ++ b.atTop ++ [(.D, b.top - b.rise)]
def Bld.topFirst (b : Bld) : List Run := [(.U, b.top)] ++ b.atTop ++ [(.D, b.span - b.offset)] ++ b.one ++ [(.D, b.offset)] ++ b.atBottom ++ [(.U, b.rise - b.bottom)]
def Bld.path (b : Bld) : List Run := if 0 ≤ b.rise then b.bottomFirst else b.topFirst
/-- what the lift's split comes to -/
structure BOk (b : Bld) (k : Cnt) (lift : Int) : Prop where
  eB : 0 ≤ b.eB
  eT : 0 ≤ b.eT
  wB : 0 ≤ b.wB
  wT : 0 ≤ b.wT
  o0 : 0 ≤ b.offset
  o1 : b.offset ≤ b.span
  cases :
    (b.single = none ∧ b.eB + b.eT = k.e ∧ b.wB + b.wT = k.w ∧ (b.eT + b.wB) * b.span = lift) ∨
    (b.single = some .E ∧ b.eB + b.eT + 1 = k.e ∧ b.wB + b.wT = k.w ∧ (b.eT + b.wB) * b.span + b.offset = lift) ∨
    (b.single = some .W ∧ b.eB + b.eT = k.e ∧ b.wB + b.wT + 1 = k.w ∧ (b.eT + b.wB) * b.span + (b.span - b.offset) = lift)
theorem bldL_ok {k : Cnt} {rise span top bottom lift : Int} (he : 0 ≤ k.e) (hw : 0 ≤ k.w) (hs : 0 ≤ span) (h0 : 0 ≤ lift) (h1 : lift ≤ (k.e + k.w) * span) : BOk (bldL k rise span top bottom lift) k lift := by
  have key : ∃ f r, fullOf lift span = f ∧ restOf lift span = r ∧ f * span + r = lift ∧ 0 ≤ r ∧ (0 < r → r < span) ∧ 0 ≤ f ∧ f ≤ k.e + k.w ∧ (0 < r → f < k.e + k.w) := by
    by_cases c : 0 < span
    · refine ⟨lift / span, lift % span, if_pos c, if_pos c, by rw [Int.mul_comm]; exact Int.mul_ediv_add_emod lift span, Int.emod_nonneg _ (by omega), fun _ => Int.emod_lt_of_pos _ c, Int.ediv_nonneg h0 hs, ?_, fun hr => ?_⟩
      · refine Int.ediv_le_of_le_mul c ?_
        exact h1
      · have e : lift / span * span + lift % span = lift := by rw [Int.mul_comm]; exact Int.mul_ediv_add_emod lift span
        refine Int.lt_of_mul_lt_mul_right (a := span) ?_ hs
        omega
    · have e : span = 0 := by omega
      subst e
      refine ⟨0, 0, if_neg c, if_neg c, by omega, Int.le_refl _, fun z => absurd z (by decide), Int.le_refl _, by omega, fun z => absurd z (by decide)⟩
  obtain ⟨f, r, ef, er, e1, r0, rs, f0, fk, fr⟩ := key
  have es : (min k.e f + (f - min k.e f)) * span + r = lift := by rw [show min k.e f + (f - min k.e f) = f by omega]; exact e1
  by_cases c : 0 < r
  · have hrs := rs c
    have hfr := fr c
    by_cases c2 : min k.e f < k.e
    · have s1 : singleOf r (min k.e f) k.e = some .E := by unfold singleOf; rw [if_pos c, if_pos c2]
      have eb : bldL k rise span top bottom lift = ⟨span, rise, top, bottom, r, min k.e f, f - min k.e f, some .E, k.e - min k.e f - 1, k.w - (f - min k.e f) - 0⟩ := by
        unfold bldL; rw [ef, er, s1]; rfl
      rw [eb]
      refine ⟨?_, ?_, ?_, ?_, ?_, ?_, Or.inr (Or.inl ⟨rfl, ?_, ?_, ?_⟩)⟩
      · show 0 ≤ k.e - min k.e f - 1; omega
      · show 0 ≤ min k.e f; omega
      · show 0 ≤ f - min k.e f; omega
      · show 0 ≤ k.w - (f - min k.e f) - 0; omega
      · show 0 ≤ r; omega
      · show r ≤ span; omega
      · show k.e - min k.e f - 1 + min k.e f + 1 = k.e; omega
      · show f - min k.e f + (k.w - (f - min k.e f) - 0) = k.w; omega
      · exact es
    · have s1 : singleOf r (min k.e f) k.e = some .W := by unfold singleOf; rw [if_pos c, if_neg c2]
      have eb : bldL k rise span top bottom lift = ⟨span, rise, top, bottom, r, min k.e f, f - min k.e f, some .W, k.e - min k.e f - 0, k.w - (f - min k.e f) - 1⟩ := by
        unfold bldL; rw [ef, er, s1]; rfl
      rw [eb]
      refine ⟨?_, ?_, ?_, ?_, ?_, ?_, Or.inr (Or.inr ⟨rfl, ?_, ?_, ?_⟩)⟩
      · show 0 ≤ k.e - min k.e f - 0; omega
      · show 0 ≤ min k.e f; omega
      · show 0 ≤ f - min k.e f; omega
      · show 0 ≤ k.w - (f - min k.e f) - 1; omega
      · show 0 ≤ span - r; omega
      · show span - r ≤ span; omega
      · show k.e - min k.e f - 0 + min k.e f = k.e; omega
      · show f - min k.e f + (k.w - (f - min k.e f) - 1) + 1 = k.w; omega
      · show (min k.e f + (f - min k.e f)) * span + (span - (span - r)) = lift; omega
  · have s1 : singleOf r (min k.e f) k.e = none := by unfold singleOf; rw [if_neg c]
    have eb : bldL k rise span top bottom lift = ⟨span, rise, top, bottom, r, min k.e f, f - min k.e f, none, k.e - min k.e f - 0, k.w - (f - min k.e f) - 0⟩ := by
      unfold bldL; rw [ef, er, s1]; rfl
    rw [eb]
    refine ⟨?_, ?_, ?_, ?_, ?_, ?_, Or.inl ⟨rfl, ?_, ?_, ?_⟩⟩
    · show 0 ≤ k.e - min k.e f - 0; omega
    · show 0 ≤ min k.e f; omega
    · show 0 ≤ f - min k.e f; omega
    · show 0 ≤ k.w - (f - min k.e f) - 0; omega
    · show (0 : Int) ≤ 0; omega
    · show 0 ≤ span; omega
    · show k.e - min k.e f - 0 + min k.e f = k.e; omega
    · show f - min k.e f + (k.w - (f - min k.e f) - 0) = k.w; omega
    · show (min k.e f + (f - min k.e f)) * span = lift; omega
/-- where the path of a builder leads, from a point -/
structure PathOk (P : List Run) (X H S steps : Int) (lo hi : Int) : Prop where
  nn : ∀ r ∈ P, 0 ≤ r.2
  len : P.length ≤ 9
  tot : total P = steps
  fin : ∀ x h s, fin (x, h, s) P = (x + X, h + H, s + h * X + S)
  ins : ∀ (B : Int → Prop) (x h s : Int), (∀ z, h + lo ≤ z → z ≤ h + hi → B z) → Ins B (x, h, s) P
theorem path_ok {b : Bld} {k : Cnt} {lift X H S : Int} (B : BOk b k lift) (hX : X = k.e - k.w) (hH : b.rise = H) (hS : S = lift + (k.e * b.bottom - k.w * b.top)) (ht : b.top = b.bottom + b.span)
    (h1 : b.bottom ≤ 0) (h2 : 0 ≤ b.top) (h3 : b.bottom ≤ b.rise) (h4 : b.rise ≤ b.top) :
    PathOk b.path X H S (k.e + k.w + (if 0 ≤ b.rise then 2 * b.span - b.rise else 2 * b.span + b.rise)) b.bottom b.top := by
  obtain ⟨span, rise, top, bottom, rest, eT, wB, single, eB, wT⟩ := b
  obtain ⟨heB, heT, hwB, hwT, ho0, ho1, hc⟩ := B
  generalize hof : Bld.offset ⟨span, rise, top, bottom, rest, eT, wB, single, eB, wT⟩ = off at *
  simp only [] at *
  subst hH ht hX hS
  by_cases c : 0 ≤ rise
  · have ep : Bld.path ⟨span, rise, bottom + span, bottom, rest, eT, wB, single, eB, wT⟩ = Bld.bottomFirst ⟨span, rise, bottom + span, bottom, rest, eT, wB, single, eB, wT⟩ := by
      unfold Bld.path; exact if_pos c
    rw [ep, if_pos c]
    unfold Bld.bottomFirst Bld.atBottom Bld.atTop Bld.one
    rw [hof]
    simp only []
    rcases hc with ⟨rfl, hE, hW, hL⟩ | ⟨rfl, hE, hW, hL⟩ | ⟨rfl, hE, hW, hL⟩
    · have e0 : off = 0 := by rw [← hof]; rfl
      subst e0
      refine ⟨?_, ?_, ?_, ?_, ?_⟩
      · intro r hr
        simp at hr
        rcases hr with rfl | rfl | rfl | rfl | rfl | rfl | rfl | rfl <;> simp only [] <;> omega
      · simp
      · simp [total]; omega
      · intro x h s
        simp only [fin, mv, List.foldl, List.nil_append, List.cons_append, Prod.mk.injEq]
        refine ⟨by omega, by omega, ?_⟩
        rw [← hL, ← hE, ← hW]; grind
      · intro B x h s hB
        simp only [Ins, mv, List.nil_append, List.cons_append]
        refine ⟨?_, ?_, ?_, ?_, ?_, ?_, ?_, ?_, trivial⟩ <;> (refine hB _ ?_ ?_ <;> omega)
    · refine ⟨?_, ?_, ?_, ?_, ?_⟩
      · intro r hr
        simp at hr
        rcases hr with rfl | rfl | rfl | rfl | rfl | rfl | rfl | rfl | rfl <;> simp only [] <;> omega
      · simp
      · simp [total]; omega
      · intro x h s
        simp only [fin, mv, List.foldl, List.nil_append, List.cons_append, Prod.mk.injEq]
        refine ⟨by omega, by omega, ?_⟩
        rw [← hL, ← hE, ← hW]; grind
      · intro B x h s hB
        simp only [Ins, mv, List.nil_append, List.cons_append]
        refine ⟨?_, ?_, ?_, ?_, ?_, ?_, ?_, ?_, ?_, trivial⟩ <;> (refine hB _ ?_ ?_ <;> omega)
    · refine ⟨?_, ?_, ?_, ?_, ?_⟩
      · intro r hr
        simp at hr
        rcases hr with rfl | rfl | rfl | rfl | rfl | rfl | rfl | rfl | rfl <;> simp only [] <;> omega
      · simp
      · simp [total]; omega
      · intro x h s
        simp only [fin, mv, List.foldl, List.nil_append, List.cons_append, Prod.mk.injEq]
        refine ⟨by omega, by omega, ?_⟩
        rw [← hL, ← hE, ← hW]; grind
      · intro B x h s hB
        simp only [Ins, mv, List.nil_append, List.cons_append]
        refine ⟨?_, ?_, ?_, ?_, ?_, ?_, ?_, ?_, ?_, trivial⟩ <;> (refine hB _ ?_ ?_ <;> omega)
  · have ep : Bld.path ⟨span, rise, bottom + span, bottom, rest, eT, wB, single, eB, wT⟩ = Bld.topFirst ⟨span, rise, bottom + span, bottom, rest, eT, wB, single, eB, wT⟩ := by
      unfold Bld.path; exact if_neg c
    rw [ep, if_neg c]
    unfold Bld.topFirst Bld.atBottom Bld.atTop Bld.one
    rw [hof]
    simp only []
    rcases hc with ⟨rfl, hE, hW, hL⟩ | ⟨rfl, hE, hW, hL⟩ | ⟨rfl, hE, hW, hL⟩
    · have e0 : off = 0 := by rw [← hof]; rfl
      subst e0
      refine ⟨?_, ?_, ?_, ?_, ?_⟩
      · intro r hr
        simp at hr
        rcases hr with rfl | rfl | rfl | rfl | rfl | rfl | rfl | rfl <;> simp only [] <;> omega
      · simp
      · simp [total]; omega
      · intro x h s
        simp only [fin, mv, List.foldl, List.nil_append, List.cons_append, Prod.mk.injEq]
        refine ⟨by omega, by omega, ?_⟩
        rw [← hL, ← hE, ← hW]; grind
      · intro B x h s hB
        simp only [Ins, mv, List.nil_append, List.cons_append]
        refine ⟨?_, ?_, ?_, ?_, ?_, ?_, ?_, ?_, trivial⟩ <;> (refine hB _ ?_ ?_ <;> omega)
    · refine ⟨?_, ?_, ?_, ?_, ?_⟩
      · intro r hr
        simp at hr
        rcases hr with rfl | rfl | rfl | rfl | rfl | rfl | rfl | rfl | rfl <;> simp only [] <;> omega
      · simp
      · simp [total]; omega
      · intro x h s
        simp only [fin, mv, List.foldl, List.nil_append, List.cons_append, Prod.mk.injEq]
        refine ⟨by omega, by omega, ?_⟩
        rw [← hL, ← hE, ← hW]; grind
      · intro B x h s hB
        simp only [Ins, mv, List.nil_append, List.cons_append]
        refine ⟨?_, ?_, ?_, ?_, ?_, ?_, ?_, ?_, ?_, trivial⟩ <;> (refine hB _ ?_ ?_ <;> omega)
    · refine ⟨?_, ?_, ?_, ?_, ?_⟩
      · intro r hr
        simp at hr
        rcases hr with rfl | rfl | rfl | rfl | rfl | rfl | rfl | rfl | rfl <;> simp only [] <;> omega
      · simp
      · simp [total]; omega
      · intro x h s
        simp only [fin, mv, List.foldl, List.nil_append, List.cons_append, Prod.mk.injEq]
        refine ⟨by omega, by omega, ?_⟩
        rw [← hL, ← hE, ← hW]; grind
      · intro B x h s hB
        simp only [Ins, mv, List.nil_append, List.cons_append]
        refine ⟨?_, ?_, ?_, ?_, ?_, ?_, ?_, ?_, ?_, trivial⟩ <;> (refine hB _ ?_ ?_ <;> omega)
end HS

/-! The builder is right where the extent is enough -/
namespace HS
theorem depth_climb {E : Ext} {j v : Int} (h : v ≤ second E j) : ∀ d, E.depth = some d → E.climb + v ≤ d := by
  intro d e
  unfold second at h
  rw [e] at h
  simp only [] at h
  omega
theorem cap_cases (n : Int) (l : Option Int) : cap n l ≤ n ∧ (∀ k, l = some k → cap n l ≤ k) ∧ (cap n l = n ∨ ∃ k, l = some k ∧ cap n l = k) := by
  cases l with
  | none => exact ⟨Int.le_refl _, (fun k e => by cases e), Or.inl rfl⟩
  | some k =>
    refine ⟨by simp only [cap]; omega, fun k' e => by cases e; simp only [cap]; omega, ?_⟩
    by_cases c : n ≤ k
    · exact Or.inl (by simp only [cap]; omega)
    · exact Or.inr ⟨k, rfl, by simp only [cap]; omega⟩
/-- the data of a split whose extent is enough -/
structure Enough (X H S j v : Int) (a c : Option Int) : Prop where
  room : RoomOk a c H
  v0 : 0 ≤ v
  vj : v ≤ j
  vd : ∀ d, depthOf a c = some d → iabs H + v ≤ d
  ok : iabs S ≤ extent (mkE X H a c S) j v
theorem Enough.of {X H S j : Int} {a c : Option Int} (R : RoomOk a c H) (hj : 0 ≤ j) (h : iabs S ≤ greatest (mkE X H a c S) j) : Enough X H S j (best (mkE X H a c S) j) a c := by
  have W := mkE_wf (X := X) R S
  have r := best_range W hj
  refine ⟨R, r.1, Int.le_trans r.2 second_le, fun d e => ?_, h⟩
  have hd : (mkE X H a c S).depth = depthOf a c := by unfold mkE; split <;> rfl
  have hc : (mkE X H a c S).climb = iabs H := by unfold mkE; split <;> rfl
  have := depth_climb r.2 d (by rw [hd]; exact e)
  rw [hc] at this
  exact this
section
variable {X H S j v : Int} {a c : Option Int}
theorem Enough.span (n : Enough X H S j v a c) : spanOf (cntOf X H j v) a c = iabs H + v := by
  unfold spanOf cntOf
  have e : max (max H 0 + v) (max (-H) 0 + v) = iabs H + v := by unfold iabs; omega
  simp only []
  rw [e]
  have hd := n.vd
  cases q : depthOf a c with
  | none => rfl
  | some d => have := hd d q; simp only [cap]; omega
theorem Enough.side (n : Enough X H S j v a c) : side (cntOf X H j v) S = same S X := by
  unfold HS.side same cntOf
  simp only []
  have e : decide (max (-X) 0 + (j - v) ≤ max X 0 + (j - v)) = decide (0 ≤ X) := by
    apply decide_eq_decide.mpr
    omega
  rw [e]
theorem depth_some {a c : Int} : depthOf (some a) (some c) = some (a + c) := rfl
theorem Enough.ends (n : Enough X H S j v a c) : topOf (cntOf X H j v) S a c = bottomOf (cntOf X H j v) S a c + spanOf (cntOf X H j v) a c ∧
    bottomOf (cntOf X H j v) S a c ≤ 0 ∧ 0 ≤ topOf (cntOf X H j v) S a c ∧ bottomOf (cntOf X H j v) S a c ≤ H ∧ H ≤ topOf (cntOf X H j v) S a c ∧
    (∀ k, a = some k → -k ≤ bottomOf (cntOf X H j v) S a c) ∧ (∀ k, c = some k → topOf (cntOf X H j v) S a c ≤ k) := by
  have es := n.span
  have ra := n.room.a
  have rc := n.room.c
  have v0 := n.v0
  have vd := n.vd
  unfold topOf bottomOf
  rw [es]
  by_cases q : HS.side (cntOf X H j v) S = true
  · rw [if_pos q, if_pos q]
    obtain ⟨h1, h2, h3⟩ := cap_cases (cntOf X H j v).u c
    generalize cap (cntOf X H j v).u c = t at *
    have eu : (cntOf X H j v).u = max H 0 + v := rfl
    rw [eu] at h1 h3
    unfold iabs at *
    rcases h3 with h3 | ⟨k, ek, h3⟩
    · refine ⟨by omega, by omega, by omega, by omega, by omega, fun k e => ?_, fun k e => ?_⟩
      · have := ra k e; omega
      · exact h2 k e
    · have hk := rc k ek
      subst ek
      refine ⟨by omega, by omega, by omega, by omega, by omega, fun l e => ?_, fun l e => ?_⟩
      · subst e
        have := vd _ depth_some
        have := ra l rfl
        omega
      · exact h2 l e
  · rw [if_neg q, if_neg q]
    obtain ⟨h1, h2, h3⟩ := cap_cases (cntOf X H j v).d a
    generalize cap (cntOf X H j v).d a = t at *
    have ed : (cntOf X H j v).d = max (-H) 0 + v := rfl
    rw [ed] at h1 h3
    unfold iabs at *
    rcases h3 with h3 | ⟨k, ek, h3⟩
    · refine ⟨by omega, by omega, by omega, by omega, by omega, fun k e => ?_, fun k e => ?_⟩
      · have := h2 k e; omega
      · have := rc k e; omega
    · have hk := ra k ek
      subst ek
      refine ⟨by omega, by omega, by omega, by omega, by omega, fun l e => ?_, fun l e => ?_⟩
      · have := h2 l e; omega
      · subst e
        have := vd _ depth_some
        have := rc l rfl
        omega
theorem Enough.lift (n : Enough X H S j v a c) : 0 ≤ liftOf (cntOf X H j v) S a c ∧ liftOf (cntOf X H j v) S a c ≤ ((cntOf X H j v).e + (cntOf X H j v).w) * spanOf (cntOf X H j v) a c := by
  obtain ⟨h1, h2, h3, _, _, _, _⟩ := n.ends
  have es := n.span
  have eo := n.ok
  have sd := n.side
  have v0 := n.v0
  have vj := n.vj
  have hd : cap (iabs H + v) (depthOf a c) = iabs H + v := by
    rw [← es]
    have hd := n.vd
    rw [es]
    cases q : depthOf a c with
    | none => rfl
    | some d => have := hd d q; simp only [cap]; omega
  unfold liftOf
  have hsp : 0 ≤ spanOf (cntOf X H j v) a c := by rw [es]; unfold iabs; omega
  have ext : extent (mkE X H a c S) j v = iabs X * (if same S X = true then topOf (cntOf X H j v) S a c else -bottomOf (cntOf X H j v) S a c) + (j - v) * spanOf (cntOf X H j v) a c := by
    unfold extent mkE topOf bottomOf
    rw [sd, es]
    split
    · simp only []
      rw [hd]
      have : (cntOf X H j v).u = max H 0 + v := rfl
      rw [this]
    · simp only []
      rw [hd]
      have : (cntOf X H j v).d = max (-H) 0 + v := rfl
      rw [this, Int.neg_neg]
  rw [ext] at eo
  have ee : (cntOf X H j v).e = max X 0 + (j - v) := rfl
  have ew : (cntOf X H j v).w = max (-X) 0 + (j - v) := rfl
  rw [ee, ew, h1]
  rw [h1] at eo h3
  generalize bottomOf (cntOf X H j v) S a c = B at *
  generalize spanOf (cntOf X H j v) a c = P at *
  have f0 : 0 ≤ (j - v) * P := Int.mul_nonneg (by omega) hsp
  generalize hF : j - v = F at *
  have hS : same S X = true ↔ (0 ≤ S ↔ 0 ≤ X) := by
    unfold same
    rw [decide_eq_true_iff, decide_eq_decide]
  by_cases hX : 0 ≤ X
  · have x1 : iabs X = X := by unfold iabs; omega
    rw [x1] at eo
    rw [show max X 0 = X by omega, show max (-X) 0 = 0 by omega]
    have m1 : 0 ≤ X * (B + P) := Int.mul_nonneg hX h3
    have m2 : 0 ≤ X * (-B) := Int.mul_nonneg hX (by omega)
    have g1 : S - ((X + F) * B - (0 + F) * (B + P)) = S + X * (-B) + F * P := by grind
    have g2 : (X + F + (0 + F)) * P = X * (B + P) + X * (-B) + 2 * (F * P) := by grind
    rw [g1, g2]
    by_cases q : same S X = true
    · rw [if_pos q] at eo
      have := (hS.mp q).mpr hX
      have : iabs S = S := by unfold iabs; omega
      omega
    · rw [if_neg q] at eo
      have : ¬ 0 ≤ S := fun z => q (hS.mpr ⟨fun _ => hX, fun _ => z⟩)
      have : iabs S = -S := by unfold iabs; omega
      omega
  · have x1 : iabs X = -X := by unfold iabs; omega
    rw [x1] at eo
    rw [show max X 0 = 0 by omega, show max (-X) 0 = -X by omega]
    have m1 : 0 ≤ -X * (B + P) := Int.mul_nonneg (by omega) h3
    have m2 : 0 ≤ -X * (-B) := Int.mul_nonneg (by omega) (by omega)
    have g1 : S - ((0 + F) * B - (-X + F) * (B + P)) = S + -X * (B + P) + F * P := by grind
    have g2 : (0 + F + (-X + F)) * P = -X * (B + P) + -X * (-B) + 2 * (F * P) := by grind
    rw [g1, g2]
    by_cases q : same S X = true
    · rw [if_pos q] at eo
      have : ¬ 0 ≤ S := fun z => hX ((hS.mp q).mp z)
      have : iabs S = -S := by unfold iabs; omega
      omega
    · rw [if_neg q] at eo
      have : 0 ≤ S := by
        by_cases z : 0 ≤ S
        · exact z
        · exact absurd (hS.mpr ⟨fun y => absurd y z, fun y => absurd y hX⟩) q
      have : iabs S = S := by unfold iabs; omega
      omega
/-- the runs of a split whose extent is enough -/
def runsOf (X H S j v : Int) (a c : Option Int) : List Run := merge (bld (cntOf X H j v) S a c).path
structure Good (M : List Run) (X H S steps : Int) (a c : Option Int) : Prop where
  len : M.length ≤ 9
  tot : total M = steps
  adj : NoAdj M
  pos : ∀ r ∈ M, 0 ≤ r.2
  fin : ∀ x h s, fin (x, h, s) M = (x + X, h + H, s + h * X + S)
  ins : ∀ (B : Int → Prop) (x h s : Int), (∀ z, (∀ k, a = some k → h - k ≤ z) → (∀ k, c = some k → z ≤ h + k) → B z) → Ins B (x, h, s) M
theorem Enough.good (n : Enough X H S j v a c) : Good (runsOf X H S j v a c) X H S (iabs X + iabs H + 2 * j) a c := by
  obtain ⟨h1, h2, h3, h4, h5, h6, h7⟩ := n.ends
  have es := n.span
  have v0 := n.v0
  have vj := n.vj
  have l := n.lift
  have ee : (cntOf X H j v).e = max X 0 + (j - v) := rfl
  have ew : (cntOf X H j v).w = max (-X) 0 + (j - v) := rfl
  have er : (cntOf X H j v).u - (cntOf X H j v).d = H := by show max H 0 + v - (max (-H) 0 + v) = H; omega
  have B : BOk (bld (cntOf X H j v) S a c) (cntOf X H j v) (liftOf (cntOf X H j v) S a c) := bldL_ok (by omega) (by omega) (by rw [es]; unfold iabs; omega) l.1 l.2
  have p := path_ok (X := X) (H := H) (S := S) B (by omega) er (by
    show S = liftOf (cntOf X H j v) S a c + ((cntOf X H j v).e * bottomOf (cntOf X H j v) S a c - (cntOf X H j v).w * topOf (cntOf X H j v) S a c)
    unfold liftOf; omega) h1 h2 h3 (by show _ ≤ (cntOf X H j v).u - (cntOf X H j v).d; rw [er]; exact h4) (by show (cntOf X H j v).u - (cntOf X H j v).d ≤ _; rw [er]; exact h5)
  have g := merge_ok p.nn
  have est : (cntOf X H j v).e + (cntOf X H j v).w + (if 0 ≤ (bld (cntOf X H j v) S a c).rise then 2 * (bld (cntOf X H j v) S a c).span - (bld (cntOf X H j v) S a c).rise else 2 * (bld (cntOf X H j v) S a c).span + (bld (cntOf X H j v) S a c).rise) = iabs X + iabs H + 2 * j := by
    have e1 : (bld (cntOf X H j v) S a c).rise = H := er
    have e2 : (bld (cntOf X H j v) S a c).span = iabs H + v := es
    rw [e1, e2, ee, ew]
    unfold iabs
    omega
  rw [est] at p
  refine ⟨Nat.le_trans g.len p.len, by unfold runsOf; rw [g.tot, p.tot], g.adj, g.pos, fun x h s => by unfold runsOf; rw [g.fin, p.fin], fun Bp x h s hB => g.ins _ _ (p.ins _ _ _ _ fun z z1 z2 => hB z (fun k e => ?_) (fun k e => ?_))⟩
  · have := h6 k e
    have z1' : h + bottomOf (cntOf X H j v) S a c ≤ z := z1
    omega
  · have := h7 k e
    have z2' : z ≤ h + topOf (cntOf X H j v) S a c := z2
    omega
end
end HS

/-! Heights along a path -/
namespace HS
theorem total_cons (r : Run) (M : List Run) : total (r :: M) = r.2 + total M := by simp [total]
theorem total_nn : ∀ {M : List Run}, (∀ r ∈ M, 0 ≤ r.2) → 0 ≤ total M
  | [], _ => by simp [total]
  | r :: M, h => by
    have h1 := total_nn (M := M) fun q hq => h q (by simp [hq])
    have h2 := h r (by simp)
    rw [total_cons]
    omega
theorem total_take : ∀ {M : List Run} {i : Nat}, (∀ r ∈ M, 0 ≤ r.2) → total (M.take i) ≤ total M
  | [], i, _ => by simp
  | r :: M, 0, h => by
    have := total_nn h
    show total [] ≤ _
    rw [show total [] = 0 from rfl]
    omega
  | r :: M, i + 1, h => by
    have h1 := total_take (M := M) (i := i) fun q hq => h q (by simp [hq])
    rw [List.take_succ_cons, total_cons, total_cons]
    omega
theorem le_total : ∀ {M : List Run} {r : Run}, (∀ r ∈ M, 0 ≤ r.2) → r ∈ M → r.2 ≤ total M
  | q :: M, r, h, hr => by
    have h0 := total_nn (M := M) fun q hq => h q (by simp [hq])
    have h1 := h q (by simp)
    rw [total_cons]
    rcases List.mem_cons.mp hr with e | e
    · subst e; omega
    · have := le_total (M := M) (r := r) (fun q hq => h q (by simp [hq])) e
      omega
theorem fin_height : ∀ {M : List Run} {t : Pt}, (∀ r ∈ M, 0 ≤ r.2) → t.2.1 - total M ≤ (fin t M).2.1 ∧ (fin t M).2.1 ≤ t.2.1 + total M
  | [], t, _ => by simp [fin, total]
  | r :: M, t, h => by
    have h1 := fin_height (M := M) (t := mv t r) fun q hq => h q (by simp [hq])
    have h2 := h r (by simp)
    have h3 : t.2.1 - r.2 ≤ (mv t r).2.1 ∧ (mv t r).2.1 ≤ t.2.1 + r.2 := by
      obtain ⟨s, n⟩ := r
      cases s <;> simp only [mv] at * <;> omega
    rw [total_cons]
    show _ ≤ (fin (mv t r) M).2.1 ∧ (fin (mv t r) M).2.1 ≤ _
    omega
theorem ins_take {B : Int → Prop} : ∀ {t : Pt} {M : List Run} (i : Nat), Ins B t M → Ins B t (M.take i)
  | t, [], i, h => by simp [Ins]
  | t, r :: M, 0, h => by simp [Ins]
  | t, r :: M, i + 1, h => by
    rw [List.take_succ_cons]
    exact ⟨h.1, ins_take i h.2⟩
end HS

namespace HK
open PySem PySem.Spec PyProof.Rows L2
/-! ### the text -/
def top (i : Nat) : Stmt := PySem.Challenge.pw_heightsums_k30_whole_runs_of_exact_lengt.main.body.getD i (.Pass ⟨0, 0, 0, 0⟩)
abbrev FnP (K : PySem.W.Frag) (x qual : Str) (st : Stmt) (dvs : List V) (kws : List (Str × V)) (f : Addr) (fd : FuncData) : Prop := FunD K x qual (defArgs st) (defBody st) (defScope st) dvs kws f fd
/-! ### calls in short -/
section
variable (P : Program) (w : World) (K : PySem.W.Frag) (mg : Str → Option Value) (base : Heap)
def Cal (k : Nat) (x : Str) (ps : List Str) (dvs : List V) (sp : Sp) : Prop := ∃ (f : Addr) (fd : FuncData) (ds : List Value), mg x = some (.ref f) ∧ PySem.W.keepIn K (.ref f) = true ∧ FnOk P w K mg base CX0 k f fd ps sp ∧ Binds K fd ps ds ∧ Vals dvs ds
def Met (k : Nat) (C : Addr) (m : Str) (ps : List Str) (sp : Sp) : Prop := ∃ (f : Addr) (fd : FuncData), Meth K C m f ∧ FnOk P w K mg base CX0 k f fd ps sp ∧ Binds K fd ps []
def Mak (k : Nat) (x : Str) (C : Addr) (ps : List Str) (sp : Sp) : Prop := ∃ (f : Addr) (fd : FuncData), mg x = some (.ref C) ∧ Mk K C f ∧ FnOk P w K mg base CX0 k f fd ps sp ∧ Binds K fd ps []
def CalN (CX : CXT) (k n : Nat) (x : Str) (ps ks : List Str) (sp : Sp) : Prop := ∃ (f : Addr) (fd : FuncData), mg x = some (.ref f) ∧ PySem.W.keepIn K (.ref f) = true ∧ FnOk P w K mg base CX k f fd ps sp ∧ KBn K fd ps n ks (fun us ws => us ++ ws) (fun vs zs => vs ++ zs)
end
section
variable {X : Cx} {k n : Nat} {x m : Str} {ps ks : List Str} {dvs : List V} {sp : Sp} {C : Addr} {p pos apos : Pos} {e o : Expr} {es : List Expr} {kws : List Keyword} {t tk : TA} {ta : TE} {E : XK} {j : Nat}
theorem pe_cal (c : Cal X.prog X.w X.K X.mg X.base k x ps dvs sp) (hr : Room j X.A) (hg : Gl X x) (ha : PA X (e :: es) t) (hj : k ≤ j := by decide) (hdb : (x == ("__debug__" : Str)) = false := by decide)
    (he : starEach (e :: es) X.env = (false, eval e X.env) :: starEach es X.env := by rfl) (hpl : (backTo pos (starEach es X.env)).any (·.1) = false := by rfl) :
    PE X (.Call (.Name x p) (e :: es) [] pos) (tCall sp dvs E0 t) := by
  obtain ⟨f, fd, ds, h1, h2, h3, h4, h5⟩ := c
  exact pe_call h3 (hr.mono hj) hg h1 h2 h4 h5 pass0 ha hdb he hpl
theorem pe_met {pl : Sem Bool} (c : Met X.prog X.w X.K X.mg X.base k C m ps sp) (cl : Cls X.K C) (hr : Room j X.A) (ho : PE X o ta) (ha : PA X (e :: es) t) (hj : k ≤ j := by decide)
    (he : starEach (e :: es) X.env = (false, eval e X.env) :: starEach es X.env := by rfl) (hpl : (backTo pos (starEach es X.env)).any (·.1) = false := by rfl)
    (ht : eval (.Call (.Attribute o m apos) (e :: es) [] pos) X.env = (do
      let ov ← eval o X.env
      standAt apos.atName
      let (f, first) ← holding [ov] (getMethod ov m pl)
      callWith pos f first (backTo pos (starEach (e :: es) X.env)) (backToKw pos (keywordEach [] X.env))) := by rfl) :
    PE X (.Call (.Attribute o m apos) (e :: es) [] pos) (tMeth C m sp [] E0 ta t) := by
  obtain ⟨f, fd, h1, h3, h4⟩ := c
  exact pe_meth (pl := pl) ho cl h1 h3 (hr.mono hj) h4 .nil pass0 ha he hpl ht
theorem pe_met0 {pl : Sem Bool} (c : Met X.prog X.w X.K X.mg X.base k C m ps sp) (cl : Cls X.K C) (hr : Room j X.A) (ho : PE X o ta) (hj : k ≤ j := by decide)
    (ht : eval (.Call (.Attribute o m apos) [] [] pos) X.env = (do
      let ov ← eval o X.env
      standAt apos.atName
      let (f, first) ← holding [ov] (getMethod ov m pl)
      callWith pos f first (backTo pos (starEach [] X.env)) (backToKw pos (keywordEach [] X.env))) := by rfl) :
    PE X (.Call (.Attribute o m apos) [] [] pos) (tMeth C m sp [] E0 ta tNil) := by
  obtain ⟨f, fd, h1, h3, h4⟩ := c
  exact pe_meth0 (pl := pl) ho cl h1 h3 (hr.mono hj) h4 .nil pass0 ht
theorem pe_mak (c : Mak X.prog X.w X.K X.mg X.base k x C ps sp) (hr : Room j X.A) (hg : Gl X x) (ha : PA X (e :: es) t) (hj : k + 1 ≤ j := by decide) (hdb : (x == ("__debug__" : Str)) = false := by decide)
    (he : starEach (e :: es) X.env = (false, eval e X.env) :: starEach es X.env := by rfl) (hpl : (backTo pos (starEach es X.env)).any (·.1) = false := by rfl) :
    PE X (.Call (.Name x p) (e :: es) [] pos) (tMake C sp [] E0 t) := by
  obtain ⟨f, fd, h1, h2, h3, h4⟩ := c
  exact pe_make h2 h3 (hr.mono hj) hg h1 h4 .nil pass0 ha hdb he hpl
theorem pe_calN {CX : CXT} (c : CalN X.prog X.w X.K X.mg X.base CX k n x ps ks sp) (hr : Room j X.A) (hg : Gl X x) (hx : Passes CX X E)
    (ha : PA X (e :: es) t) (hkw : PK X kws tk) (hj : k ≤ j := by decide) (hall : (backToKw pos (keywordEach kws X.env)).all (·.1.isSome) = true := by rfl) (hks : (backToKw pos (keywordEach kws X.env)).filterMap (·.1) = ks := by rfl)
    (hdb : (x == ("__debug__" : Str)) = false := by decide) (he : starEach (e :: es) X.env = (false, eval e X.env) :: starEach es X.env := by rfl)
    (hpl : ((backTo pos (starEach (e :: es) X.env)).any (·.1) || (backToKw pos (keywordEach kws X.env)).any (·.1.isNone)) = false := by rfl) :
    PE X (.Call (.Name x p) (e :: es) kws pos) (tCallN n ks.length sp (fun vs zs => vs ++ zs) E t tk) := by
  obtain ⟨f, fd, h1, h2, h3, h4⟩ := c
  exact pe_callN h3 (hr.mono hj) hg h1 h2 h4 hx ha hkw hall hks hdb he hpl
/-- f(e, .., k = v) within a try: what is raised is wished for at the slots -/
def tCallNS (n m : Nat) (sp : Sp) (E : L2.St → XK) (t tk : TA) : TE := fun σ H Q => t σ H fun vs H1 => tk σ H1 fun zs H2 => vs.length = n ∧ zs.length = m ∧ sp (vs ++ zs) H2 Q (E σ)
theorem pe_calNS {CX : CXT} {Es : L2.St → XK} (c : CalN X.prog X.w X.K X.mg X.base CX k n x ps ks sp) (hr : Room j X.A) (hg : Gl X x) (hx : ∀ σ, PassesAt CX X σ (Es σ))
    (ha : PA X (e :: es) t) (hkw : PK X kws tk) (hj : k ≤ j := by decide) (hall : (backToKw pos (keywordEach kws X.env)).all (·.1.isSome) = true := by rfl) (hks : (backToKw pos (keywordEach kws X.env)).filterMap (·.1) = ks := by rfl)
    (hdb : (x == ("__debug__" : Str)) = false := by decide) (he : starEach (e :: es) X.env = (false, eval e X.env) :: starEach es X.env := by rfl)
    (hpl : ((backTo pos (starEach (e :: es) X.env)).any (·.1) || (backToKw pos (keywordEach kws X.env)).any (·.1.isNone)) = false := by rfl) :
    PE X (.Call (.Name x p) (e :: es) kws pos) (tCallNS n ks.length sp Es t tk) := by
  obtain ⟨f, fd, h1, h2, F, hb⟩ := c
  refine ⟨fun pins s σ H Q I h => ?_⟩
  refine wpAny_Call_Name_kw (ld_glob I hg h1 ?_ hdb)
  refine PySem.W.callWith_KW (h₀ := X.base) I.ok.mod.kin h2 hall (thn (ha.run pos pins s σ H _ I h) fun us s1 ⟨vs, H1, I1, r, q⟩ => ?_) hpl he
  refine thn (hkw.run pos pins s1 σ H1 _ I1 q) fun ws s2 ⟨zs, H2, I2, rz, l1, l2, q2⟩ => ⟨I2.kIn, ?_⟩
  rw [hks]
  have r2 := hb.rel r rz
  refine wpAny_call (codeAny_mono (F.run X.A X.stack s2 H2 ⟨us, ks.zip ws⟩ (us ++ ws) (vs ++ zs) Q (Es σ) (hr.mono hj) I2.env0 (hb.to s2 us ws I2.kIn (r.length.symm.trans l1) (rz.length.symm.trans l2)) r2 q2) fun r s' hq => ?_)
  cases r with
  | error e => exact hx σ pins H2 s2 e s' I2 hq
  | ok fl =>
    cases fl with
    | ret u => exact I2.after hq
    | next => exact False.elim hq
    | brk => exact False.elim hq
    | cont => exact False.elim hq
/-! ### further rules -/
theorem ip_mul : PIp X .Mult (fun x y H Q => ∃ i j, x = .int i ∧ y = .int j ∧ CMulW i j ∧ Q (.int (i * j)) H) := by
  intro pins s σ H x y v u Q I r1 r2 h
  obtain ⟨i, j, e1, e2, hc, q⟩ := h
  subst e1; subst e2
  obtain ⟨t, rfl⟩ := r1
  obtain ⟨t', rfl⟩ := r2
  exact imul_int ⟨.int _, H, I.tok _, ⟨_, rfl⟩, q⟩ hc.ok
theorem call_repr_bl : CallR X (.builtin "repr") (fun xs H Q => ∃ b, xs = [.bl b] ∧ Q (.str (if b then "True" else "False")) H) := by
  intro pins s σ H xs us Q I r h
  obtain ⟨b, rfl, q⟩ := h
  obtain ⟨u, rfl, r1⟩ := vals1 r
  cases (show u = Value.bool b from r1)
  exact PySem.P.repr_of_bool ⟨.str _, H, I.tok _, ⟨_, rfl⟩, q⟩
/-- o.f as a target within a tuple -/
def gFld (K : PySem.W.Frag) (ta : TE) (f : Str) : TG := fun y σ H Q => ta σ H fun x H2 => ∃ a C dx fs, x = .ref a ∧ H2 a = some (.ins C dx fs) ∧ Cls K C ∧ NoAttr K C f ∧ fs.length < 1000 ∧ Q σ (upd H2 a (.ins C dx (putF f y fs)))
theorem pg_fld {f : Str} (ho : PE X o ta)
    (ha : ∀ v, assign (.Attribute o f pos) X.env v = (do
      let ov ← holding [v] (eval o X.env)
      standAt pos.atName
      holding [v, ov] (setAttr ov f v)
      release [v, ov] []) := by intro _; rfl) : PG X (.Attribute o f pos) (gFld X.K ta f) := by
  refine ⟨fun pins s σ H v u Q I r h => ?_⟩
  rw [ha]
  refine wpAny_bind (wpAny_holding (thn (ho.run pins s σ H _ I h) fun ov s1 ⟨x, H1, I1, r1, a, C, dx, fs, ex, ea, c, n, l, q⟩ => ?_))
  subst ex
  obtain rfl : ov = Value.ref a := r1
  refine wpAny_bind (wpAny_standAt (wpAny_bind (wpAny_holding (setattr_ok I1 ea c n l r fun s3 I3 => ?_))))
  exact wpAny_release ⟨σ, _, I3, q⟩
/-! ### keyword-only parameters, all given -/
theorem kbinds0 {K : PySem.W.Frag} {x qual : Str} {params : Arguments} {body : List Stmt} {scope : Scope} {kws : List (Str × V)} {f : Addr} {fd : FuncData} {ps : List Str} (F : FunD K x qual params body scope [] kws f fd) (n : Nat) (ks : List Str) (hk : kws ≠ [])
    (h : ∀ (D : Addr) (doc pm : Value) (an : Option Addr) (cdv ct : Value) (us ws : List Value), us.length = n → ws.length = ks.length → bindArgs (PySem.W.fnOf x qual params body scope .none (.ref D) doc pm an cdv ct) ⟨us, ks.zip ws⟩ = pure (ps.zip (us ++ ws))) :
    KBn K fd ps n ks (fun us ws => us ++ ws) (fun vs zs => vs ++ zs) := by
  obtain ⟨oc, od, dV, kV, doc, pm, an, cdv, ct, osl, rfl, lk, hcd, hD, hK⟩ := F.ex
  rcases hD with ⟨_, rfl⟩ | ⟨e, _⟩
  · rcases hK with e | ⟨D, rfl, hq⟩
    · exact absurd e hk
    · exact ⟨fun s us ws X l1 l2 => .of_eq (h D doc pm an cdv ct us ws l1 l2), fun r1 r2 => r1.append r2⟩
  · exact absurd rfl e
end
end HK

namespace HK
open PySem PySem.Spec PyProof.Rows L2
/-! ### values -/
def vo : Option Int → V
  | none => .non
  | some i => .int i
theorem vo_non (o : Option Int) : decide (vo o = .non) = o.isNone := by
  cases o with
  | none => rfl
  | some i => exact decide_eq_false fun z => nomatch z
theorem Same.new {H : Hp} {p : Addr} {o : HO} (h : H p = none) : Same H (upd H p o) := fun b u e => by
  rw [upd_ne (ne_of_none e h)]
  exact e
/-- all but the object at d stands -/
def But (d : Addr) (H H' : Hp) : Prop := ∀ b o, b ≠ d → H b = some o → H' b = some o
theorem But.refl {d : Addr} {H : Hp} : But d H H := fun _ _ _ h => h
theorem But.trans {d : Addr} {H H1 H2 : Hp} (a : But d H H1) (b : But d H1 H2) : But d H H2 := fun c o n h => b c o n (a c o n h)
theorem But.of {d : Addr} {H H1 : Hp} (a : Same H H1) : But d H H1 := fun c o _ h => a c o h
theorem But.upd {d : Addr} {H : Hp} {o : HO} : But d H (upd H d o) := fun b u n e => by rw [upd_ne n]; exact e
theorem fresh_of {H H' : Hp} {p : Addr} (e : Same H H') (h : H' p = none) : H p = none := e.free h
theorem sz3 {n : Nat} (h : n ≤ 1000) : n ≤ sizeLine := Nat.le_trans h (by decide)
/-- ints of less than 200 bits -/
def Bd (z : Int) : Prop := z.natAbs < 2 ^ 200
theorem Bd.mul {a b : Int} (ha : Bd a) (hb : Bd b) : CMulW a b := wide_mul ha hb (by decide) (by decide) (by decide)
theorem Bd.of {z : Int} (h1 : -(2 ^ 200) < z) (h2 : z < 2 ^ 200) : Bd z := by
  unfold Bd
  omega
theorem Bd.two {z : Int} (h1 : -(2 ^ 200) < z ∧ z < 2 ^ 200) : Bd z := Bd.of h1.1 h1.2
theorem div2 {i : Int} : CDivW i 2 := ⟨by decide, by decide +kernel⟩
/-- a tuple of three ints -/
def St3 (H : Hp) (a : Addr) (x h s : Int) : Prop := H a = some (.tup [.int x, .int h, .int s])
def St2 (H : Hp) (a : Addr) (x h : V) : Prop := H a = some (.tup [x, h])
theorem at0 {α : Type} {x : α} {r : List α} : atI (x :: r) 0 = some x := atI_nat (j := 0) rfl
theorem at1 {α : Type} {x y : α} {r : List α} : atI (x :: y :: r) 1 = some y := atI_nat (j := 1) rfl
theorem at2 {α : Type} {x y z : α} {r : List α} : atI (x :: y :: z :: r) 2 = some z := atI_nat (j := 2) rfl
theorem at3 {α : Type} {x y z u : α} {r : List α} : atI (x :: y :: z :: u :: r) 3 = some u := atI_nat (j := 3) rfl
theorem ifT {c : Bool} {A B : Prop} (hc : c = true) (h : A) : if c = true then A else B := by
  rw [if_pos hc]
  exact h
theorem ifF {c : Bool} {A B : Prop} (hc : c = false) (h : B) : if c = true then A else B := by
  rw [hc, if_neg Bool.false_ne_true]
  exact h
/-- a comprehension of truths over a tuple -/
theorem lc_tupT {K : PySem.W.Frag} {a : Addr} {xs : List V} {te : TE} {i : Nat} {σ : L2.St} {H1 : Hp} {D : Addr} {Qd : Hp → Prop} (hD : H1 D = none) (ha : SqT K H1 a xs) (hl : xs.length ≤ 1000) (hw : ∀ x, wipe ((wipe σ [i]).set i (some x)) [i] = wipe σ [i])
    (he : ∀ x ∈ xs, ∀ (H : Hp) (Q : VK), Q (.bl true) H → te ((wipe σ [i]).set i (some x)) H Q) (hd : ∀ H', Same H1 H' → H' D = some (.lst ((List.replicate xs.length true).map V.bl)) → Qd H') :
    ∃ W : Nat → Nat → Hp → Prop, (∃ m, W 0 m (upd H1 D (.lst []))) ∧ ∀ j m H, W j m H →
      ((Itt K a).stop j H ∧ Qd H) ∨ ((Itt K a).go j H ∧ ∃ Nx : Hp → Prop, (∀ H', Nx H' → ∃ m', m' < m ∧ W (j + 1) m' H') ∧ ∀ x H', (Itt K a).yld j H x H' → gName i x (wipe σ [i]) H' fun σ2 H2 => wipe σ2 [i] = wipe σ [i] ∧ tYes σ2 H2 fun b H3 =>
        if b = true then te σ2 H3 fun y H4 => ∃ acc, H4 D = some (.lst acc) ∧ acc.length < sizeLine ∧ Nx (upd H4 D (.lst (acc ++ [y]))) else Nx H3) := by
  refine lc_tup (K := K) (a := a) (xs := xs) (fun j H' => Same H1 H' ∧ H' D = some (.lst ((List.replicate j true).map V.bl))) ⟨Same.new hD, upd_same⟩ (fun j H' _ p => ?_) (fun j x H' hx p => ?_) fun H' p => hd H' p.1 p.2
  · rcases ha with (h | ⟨o, h⟩) | h
    · exact .inl (.inl (p.1 _ _ h))
    · exact .inl (.inr ⟨o, p.1 _ _ h⟩)
    · exact .inr h
  · have hj : j < xs.length := (List.getElem?_eq_some_iff.mp hx).1
    refine ⟨hw x, ?_⟩
    refine iteT (B := Same H1 H' ∧ H' D = some (HO.lst ((List.replicate (j + 1) true).map V.bl))) ?_
    refine he x (List.mem_of_getElem? hx) _ _ ⟨_, p.2, ?_, ?_, ?_⟩
    · rw [List.length_map, List.length_replicate]
      exact small1000 (by omega)
    · exact fun b o e => by rw [upd_ne (ne_of_none e hD)]; exact p.1 b o e
    · rw [upd_same, List.replicate_succ', List.map_append]
      rfl
/-! ### the built-ins' names -/
structure Bi (mg : Str → Option Value) : Prop where
  isinstance : mg "isinstance" = none
  int_ : mg "int" = none
  bool_ : mg "bool" = none
  tuple_ : mg "tuple" = none
  len : mg "len" = none
  all : mg "all" = none
  min : mg "min" = none
  max : mg "max" = none
  abs : mg "abs" = none
  divmod : mg "divmod" = none
  repr : mg "repr" = none
  sum : mg "sum" = none
  range : mg "range" = none
/-! ### promises -/
def spIsInt : Sp := fun vs H Q _ => ∃ i : Int, vs = [.int i] ∧ Q (.bl true) H
def spCheck : Sp := fun vs H Q _ => ∃ (i : Int) (l : V), vs = [.int i, l] ∧ (l = .non ∨ ∃ k, l = .int k ∧ k ≤ i) ∧ Q .non H
def spIsState : Sp := fun vs H Q _ => ∃ (a : Addr) (x h s : Int), vs = [.ref a] ∧ St3 H a x h s ∧ ∀ H', Same H H' → Q (.bl true) H'
def spCheckState : Sp := fun vs H Q _ => ∃ (a : Addr) (x h s : Int), vs = [.ref a] ∧ St3 H a x h s ∧ ∀ H', Same H H' → Q .non H'
def spDiff : Sp := fun vs H Q _ => ∃ (a b : Addr) (x h s x' h' s' : Int), vs = [.ref a, .ref b] ∧ St3 H a x h s ∧ St3 H b x' h' s' ∧ Bd h ∧ Bd (x' - x) ∧
  ∀ H' p, Same H H' → St3 H' p (x' - x) (h' - h) (s' - s - h * (x' - x)) → Q (.ref p) H'
section
variable {P : Program} {w : World} {K : PySem.W.Frag} {mg : Str → Option Value} {base : Heap} {f : Addr} {fd : FuncData}
abbrev s_is_integer : Stmt := top 9
abbrev N_is_integer : List Str := ["value"]
theorem sc_is_integer : FnScope N_is_integer ["value"] (defScope s_is_integer) := ⟨rfl, rfl, rfl, by decide +kernel, rfl, by decide +kernel, by decide +kernel⟩
theorem ok_is_integer (F : FnP K "is_integer" "is_integer" s_is_integer [] [] f fd) (B : Bi mg) : FnOk P w K mg base CX0 1 f fd ["value"] spIsInt := by
  refine F.ok sc_is_integer (fun vs H Q E h => ?_) (fun cdv A outer s H vs Q E hr h => ?_)
  · obtain ⟨i, rfl, _⟩ := h
    rfl
  · obtain ⟨i, rfl, k⟩ := h
    refine ⟨_, PSs.nox (pss_one (ps_ret (pe_and (pe_callB call_isi (by rfl) B.isinstance (by decide +kernel) (pa_cons (pv 0) (pa_cons (pe_bltn (v := .ty "int") (by rfl) B.int_ (by decide +kernel) rfl) pa_nil))) (pe_one (pe_not (pe_callB call_isi (by rfl) B.isinstance (by decide +kernel) (pa_cons (pv 0) (pa_cons (pe_bltn (v := .ty "bool") (by rfl) B.bool_ (by decide +kernel) rfl) pa_nil)))))))), ?_⟩
    refine ⟨_, rfl, _, _, _, _, true, rfl, .ty "int", .base (.int i), kit_ty (by decide +kernel), true, rfl, ?_⟩
    refine iteT ?_
    exact ⟨_, rfl, _, _, _, _, false, rfl, .ty "bool", .base (.int i), kit_ty (by decide +kernel), false, rfl, k⟩
abbrev s_check_integer : Stmt := top 10
abbrev N_check_integer : List Str := ["value", "least"]
theorem sc_check_integer : FnScope N_check_integer ["value", "least"] (defScope s_check_integer) := ⟨rfl, rfl, rfl, by decide +kernel, rfl, by decide +kernel, by decide +kernel⟩
theorem ok_check_integer (F : FnP K "check_integer" "check_integer" s_check_integer [.non] [] f fd) (c_is_integer : Cal P w K mg base 1 "is_integer" ["value"] [] spIsInt) : FnOk P w K mg base CX0 2 f fd ["value", "least"] spCheck := by
  refine F.ok sc_check_integer (fun vs H Q E h => ?_) (fun cdv A outer s H vs Q E hr h => ?_)
  · obtain ⟨i, l, rfl, _⟩ := h
    rfl
  · obtain ⟨i, l, rfl, hl, k⟩ := h
    refine ⟨_, PSs.nox (pss_one (ps_if (PW.pt (pw_or (pt_not (pt_val (pe_cal c_is_integer hr (by rfl) (pa_cons (pv 0) pa_nil)))) (pw_or1 (PW.pt (pw_and (pt_cmpR op_notN (pv 1) pe_non (nomark _)) (pw_and1 (pt_cmpR op_lt (pv 0) (pv 1) (nomark _))))))))
    (pss_one ps_never)
    pss_nil)), ?_⟩
    refine ⟨_, rfl, i, rfl, true, rfl, ?_⟩
    refine iteF ?_
    refine ⟨l, rfl, rfl, _, rfl, ?_⟩
    rcases hl with rfl | ⟨z, rfl, hz⟩
    · refine iteF (iteF ?_)
      exact k
    · refine iteT ?_
      refine ⟨_, rfl, _, rfl, i, z, rfl, rfl, _, rfl, ?_⟩
      rw [decide_eq_false (show ¬ i < z by omega)]
      exact iteF k
abbrev s_is_state : Stmt := top 12
abbrev N_is_state : List Str := ["value", "item"]
theorem sc_is_state : FnScope N_is_state ["value"] (defScope s_is_state) := ⟨rfl, rfl, rfl, by decide +kernel, rfl, by decide +kernel, by decide +kernel⟩
theorem ok_is_state (F : FnP K "is_state" "is_state" s_is_state [] [] f fd) (B : Bi mg) (c_is_integer : Cal P w K mg base 1 "is_integer" ["value"] [] spIsInt) : FnOk P w K mg base CX0 2 f fd ["value"] spIsState := by
  refine F.ok sc_is_state (fun vs H Q E h => ?_) (fun cdv A outer s H vs Q E hr h => ?_)
  · obtain ⟨a, x, h, s, rfl, _⟩ := h
    rfl
  · obtain ⟨a, x, h, s, rfl, ha, k⟩ := h
    have ha' : H a = some (.tup [.int x, .int h, .int s]) := ha
    refine ⟨_, PSs.nox (pss_one (ps_ret (pe_and (pe_callB call_isi (by rfl) B.isinstance (by decide +kernel) (pa_cons (pv 0) (pa_cons (pe_bltn (v := .ty "tuple") (by rfl) B.tuple_ (by decide +kernel) rfl) pa_nil))) (pe_and (pe_cmpR op_eq (pe_callB call_len_seq (by rfl) B.len (by decide +kernel) (pa_cons (pv 0) pa_nil)) pe_int (nomark _)) (pe_one (pe_callB (cr_all rfl) (by rfl) B.all (by decide +kernel) (pa_cons (pe_lc (own := [("item", 1)]) (g := (gName 1)) (tt := tYes) (by rfl) sc_is_state.nd (pi_tup (pv 0)) (blkOk_by (own := [("item", 1)]) (N := N_is_state) (sc := defScope s_is_state) (by decide +kernel)) (fun _ _ _ _ _ => pg_name (i := 1) sc_is_state.nd rfl (Or.inl rfl)) (fun _ _ _ _ _ => pts_nil) (fun _ _ _ _ _ => (pe_cal c_is_integer hr (by rfl) (pa_cons (pv 1) pa_nil)))) pa_nil))))))), ?_⟩
    refine ⟨_, rfl, _, _, _, _, true, rfl, .ty "tuple", .base (.tup ha'), kit_ty (by decide +kernel), true, rfl, ?_⟩
    refine iteT ?_
    refine ⟨_, rfl, a, _, rfl, Or.inr (SqT.of ha'), rfl, _, rfl, ?_⟩
    refine ifT (decide_eq_true rfl) ?_
    refine ⟨_, rfl, a, rfl, ⟨_, SqT.of ha'⟩, fun D hD => ?_⟩
    refine lc_tupT hD (SqT.of ha') (by simp) (fun _ => rfl) (fun y hy H' Q' q => ?_) (fun H' s1 hD' => ?_)
    · simp only [List.mem_cons, List.not_mem_nil, or_false] at hy
      rcases hy with rfl | rfl | rfl
      · exact ⟨_, rfl, _, rfl, q⟩
      · exact ⟨_, rfl, _, rfl, q⟩
      · exact ⟨_, rfl, _, rfl, q⟩
    · exact ⟨D, _, rfl, SqL.of hD', k _ s1⟩
abbrev s_check_state : Stmt := top 13
abbrev N_check_state : List Str := ["value"]
theorem sc_check_state : FnScope N_check_state ["value"] (defScope s_check_state) := ⟨rfl, rfl, rfl, by decide +kernel, rfl, by decide +kernel, by decide +kernel⟩
theorem ok_check_state (F : FnP K "check_state" "check_state" s_check_state [] [] f fd) (c_is_state : Cal P w K mg base 2 "is_state" ["value"] [] spIsState) : FnOk P w K mg base CX0 3 f fd ["value"] spCheckState := by
  refine F.ok sc_check_state (fun vs H Q E h => ?_) (fun cdv A outer s H vs Q E hr h => ?_)
  · obtain ⟨a, x, h, s, rfl, _⟩ := h
    rfl
  · obtain ⟨a, x, h, s, rfl, ha, k⟩ := h
    refine ⟨_, PSs.nox (pss_one (ps_if (pt_not (pt_val (pe_cal c_is_state hr (by rfl) (pa_cons (pv 0) pa_nil))))
    (pss_one ps_never)
    pss_nil)), ?_⟩
    exact ⟨_, rfl, a, x, h, s, rfl, ha, fun H' s1 => ⟨_, rfl, iteF (k H' s1)⟩⟩
abbrev s_difference : Stmt := top 15
abbrev N_difference : List Str := ["start", "end", "x", "h"]
theorem sc_difference : FnScope N_difference ["start", "end"] (defScope s_difference) := ⟨rfl, rfl, rfl, by decide +kernel, rfl, by decide +kernel, by decide +kernel⟩
theorem ok_difference (F : FnP K "difference" "difference" s_difference [] [] f fd) : FnOk P w K mg base CX0 1 f fd ["start", "end"] spDiff := by
  refine F.ok sc_difference (fun vs H Q E h => ?_) (fun cdv A outer s H vs Q E hr h => ?_)
  · obtain ⟨a, b, x, h, s, x', h', s', rfl, _⟩ := h
    rfl
  · obtain ⟨a, b, x, h, s, x', h', s', rfl, ha, hb, z1, z2, k⟩ := h
    have ta := SqT.of (K := K) ha
    have tb := SqT.of (K := K) hb
    refine ⟨_, PSs.nox (pss_cons (ps_par (i := 2) (j := 3) rfl sc_difference.nd rfl rfl (by decide) rfl rfl (pa_cons (pe_op op_sub (pe_ix ix_tup (pv 1) pe_int (fun _ _ => rfl)) (pe_ix ix_tup (pv 0) pe_int (fun _ _ => rfl))) (pa_cons (pe_op op_sub (pe_ix ix_tup (pv 1) pe_int (fun _ _ => rfl)) (pe_ix ix_tup (pv 0) pe_int (fun _ _ => rfl))) pa_nil)) (by rfl))
  (pss_one (ps_ret (pe_tup (pa_cons (pv 2) (pa_cons (pv 3) (pa_cons (pe_op op_sub (pe_op op_sub (pe_ix ix_tup (pv 1) pe_int (fun _ _ => rfl)) (pe_ix ix_tup (pv 0) pe_int (fun _ _ => rfl))) (pe_op op_mulW (pe_ix ix_tup (pv 0) pe_int (fun _ _ => rfl)) (pv 2))) pa_nil))))))), ?_⟩
    refine ⟨_, rfl, _, _, _, _, rfl, rfl, tb, at0, _, rfl, _, _, _, _, rfl, rfl, ta, at0, _, _, rfl, rfl, ?_⟩
    refine ⟨_, rfl, _, _, _, _, rfl, rfl, tb, at1, _, rfl, _, _, _, _, rfl, rfl, ta, at1, _, _, rfl, rfl, _, _, rfl, ?_⟩
    refine ⟨_, rfl, _, rfl, ?_⟩
    refine ⟨_, rfl, _, _, _, _, rfl, rfl, tb, at2, _, rfl, _, _, _, _, rfl, rfl, ta, at2, _, _, rfl, rfl, ?_⟩
    refine ⟨_, rfl, _, _, _, _, rfl, rfl, ta, at1, _, rfl, _, _, rfl, rfl, z1.mul z2, _, _, rfl, rfl, ?_⟩
    exact ⟨(by show 3 ≤ sizeLine; decide), fun p hp => k _ p (Same.new hp) upd_same⟩
end
end HK

namespace HK
open PySem PySem.Spec PyProof.Rows L2
/-! ### runs in the heap -/
def sS : HS.Step → Str
  | .E => "E"
  | .W => "W"
  | .U => "U"
  | .D => "D"
theorem sS_eq (a b : HS.Step) : decide (V.str (sS a) = V.str (sS b)) = decide (a = b) := by
  cases a <;> cases b <;> decide +kernel
def RunAt (H : Hp) (a : Addr) (r : HS.Run) : Prop := H a = some (.tup [.str (sS r.1), .int r.2])
def RunsAt (H : Hp) (m : Addr) (M : List HS.Run) : Prop := ∃ as : List Addr, H m = some (.lst (as.map V.ref)) ∧ Paired (RunAt H) as M
theorem RunsAt.same {H H' : Hp} {m : Addr} {M : List HS.Run} (e : Same H H') (h : RunsAt H m M) : RunsAt H' m M := by
  obtain ⟨as, h1, h2⟩ := h
  exact ⟨as, e _ _ h1, Paired.mapP h2 fun a b r => e _ _ r⟩
theorem Paired.len {α β : Type} {F : α → β → Prop} {l₁ : List α} {l₂ : List β} (h : Paired F l₁ l₂) : l₁.length = l₂.length := by
  induction h with
  | nil => rfl
  | cons _ _ ih => simp [ih]
theorem Paired.but {m : Addr} {H H' : Hp} {xs : List V} {as : List Addr} {M : List HS.Run} (hm : H m = some (.lst xs)) (b : But m H H') (h : Paired (RunAt H) as M) : Paired (RunAt H') as M :=
  Paired.mapP h fun a r q => b a _ (ne_of (show H a = some _ from q) hm (by intro z; cases z)) q
theorem Paired.snoc_inv {α β : Type} {F : α → β → Prop} : ∀ {as : List α} {M : List β} {q : β}, Paired F as (M ++ [q]) → ∃ as0 a, as = as0 ++ [a] ∧ Paired F as0 M ∧ F a q
  | _, [], q, h => by
    cases h with
    | cons r t =>
      cases t
      exact ⟨[], _, rfl, .nil, r⟩
  | _, x :: M, q, h => by
    cases h with
    | cons r t =>
      obtain ⟨as0, a, e, p, z⟩ := Paired.snoc_inv (M := M) t
      subst e
      exact ⟨_ :: as0, a, rfl, .cons r p, z⟩
theorem Paired.app {α β : Type} {F : α → β → Prop} : ∀ {l₁ l₃ : List α} {l₂ l₄ : List β}, Paired F l₁ l₂ → Paired F l₃ l₄ → Paired F (l₁ ++ l₃) (l₂ ++ l₄)
  | _, _, _, _, .nil, q => q
  | _, _, _, _, .cons r t, q => .cons r (Paired.app t q)
/-- the runs as data -/
def dRun (r : HS.Run) : PyData := .tuple [.str (sS r.1), .int r.2]
theorem sS_ok (s : HS.Step) : PyData.strOk (sS s) = true := by cases s <;> decide +kernel
theorem dRun_lay : ∀ M : List HS.Run, PyData.canLayAll0 (M.map dRun) = true
  | [] => rfl
  | r :: M => by simp [PyData.canLayAll0, PyData.canLay0, dRun, sS_ok, dRun_lay M]
theorem dRun_depth : ∀ M : List HS.Run, PyData.depthAll (M.map dRun) ≤ 1
  | [] => by simp [PyData.depthAll]
  | r :: M => by
    have := dRun_depth M
    simp [PyData.depthAll, PyData.depth, dRun]
    omega
theorem dRun_shaped (M : List HS.Run) : SeqAt.shaped (.list (M.map dRun)) = true := by
  have := dRun_depth M
  simp [SeqAt.shaped, PyData.canLay0, PyData.depth, dRun_lay]
  omega
theorem dp_runs {K : PySem.W.Frag} {H : Hp} : ∀ {as : List Addr} {M : List HS.Run}, Paired (RunAt H) as M → DpAll K H (as.map V.ref) (M.map dRun)
  | _, _, .nil => .nil
  | _, _, .cons r t => .cons (.tup (SqT.of r) (.cons (.str _) (.cons (.int _) .nil))) (dp_runs t)
theorem eqv_nil : ∀ M : List HS.Run, PyData.eqv (.list (M.map dRun)) (.list []) = M.isEmpty
  | [] => rfl
  | _ :: _ => rfl
def spAppend : Sp := fun vs H Q _ => ∃ (m : Addr) (s : HS.Step) (n : Int) (M : List HS.Run), vs = [.ref m, .str (sS s), .int n] ∧ RunsAt H m M ∧ M.length ≤ 100 ∧
  ∀ H', RunsAt H' m (HS.app M (s, n)) → But m H H' → Q .non H'
section
variable {P : Program} {w : World} {K : PySem.W.Frag} {mg : Str → Option Value} {base : Heap} {f : Addr} {fd : FuncData}
abbrev s_append_run : Stmt := top 17
abbrev N_append_run : List Str := ["merged", "step", "length"]
theorem sc_append_run : FnScope N_append_run ["merged", "step", "length"] (defScope s_append_run) := ⟨rfl, rfl, rfl, by decide +kernel, rfl, by decide +kernel, by decide +kernel⟩
theorem ok_append_run (F : FnP K "append_run" "append_run" s_append_run [] [] f fd) : FnOk P w K mg base CX0 1 f fd ["merged", "step", "length"] spAppend := by
  refine F.ok sc_append_run (fun vs H Q E h => ?_) (fun cdv A outer s H vs Q E hr h => ?_)
  · obtain ⟨m, s, n, M, rfl, _⟩ := h
    rfl
  · obtain ⟨m, s, n, M, rfl, ⟨as, hm, hp⟩, hl, k⟩ := h
    have hal : as.length = M.length := Paired.len hp
    refine ⟨_, PSs.nox (pss_one (ps_if (pt_cmpR op_gt (pv 2) pe_int (nomark _))
    (pss_cons (ps_if (PW.pt (pw_and (pt_cmpR (op_neD hr.units) (pv 0) (pe_lst pa_nil) (nomark _)) (pw_and1 (pt_cmpR op_eq (pe_ix ix_tup (pe_ix ix_list (pv 0) (pe_un un_neg pe_int) (fun _ _ => rfl)) pe_int (fun _ _ => rfl)) (pv 1) (nomark _)))))
      (pss_one (ps_aug (i := 2) sc_append_run.nd rfl (Or.inl rfl) (pe_ix ix_tup (pe_bm0 PySem.F.plainAttrs_list PySem.F.slot_list_pop PySem.F.type_list_pop mt_pop (pv 0)) pe_int (fun _ _ => rfl)) ip_add))
      pss_nil)
    (pss_one (ps_expr (pe_bm PySem.F.plainAttrs_list PySem.F.slot_list_append PySem.F.type_list_append mt_append (pv 0) (pa_cons (pe_tup (pa_cons (pv 1) (pa_cons (pv 2) pa_nil))) pa_nil)))))
    pss_nil)), ?_⟩
    refine ⟨_, rfl, n, 0, rfl, rfl, _, rfl, ?_⟩
    by_cases c : 0 < n
    · refine ifT (decide_eq_true c) ?_
      refine ⟨_, rfl, (by show 0 ≤ sizeLine; decide), fun p np => ?_⟩
      have s1 : Same H (upd H p (.lst [])) := Same.new np
      have npm : m ≠ p := ne_of_none hm np
      refine ⟨.list (M.map dRun), .list [], .lst (SqL.of (s1 _ _ hm)) (dp_runs (Paired.mapP hp fun a r q => s1 _ _ q)), .lst (SqL.of upd_same) .nil, dRun_shaped M, rfl, _, rfl, ?_⟩
      rw [eqv_nil]
      generalize hH1 : upd H p (.lst []) = H1 at s1
      have hm1 := s1 _ _ hm
      have hp1 : Paired (RunAt H1) as M := Paired.mapP hp fun a r q => s1 _ _ q
      -- the end: append to what stands
      have fin : ∀ (H2 : Hp) (bs : List Addr) (M2 : List HS.Run) (n2 : Int), H2 m = some (.lst (bs.map V.ref)) → Paired (RunAt H2) bs M2 → bs.length ≤ 100 → But m H1 H2 → HS.app M (s, n) = M2 ++ [(s, n2)] →
          ∀ t, H2 t = none → Q .non (upd (upd H2 t (.tup [.str (sS s), .int n2])) m (.lst (bs.map V.ref ++ [.ref t]))) := fun H2 bs M2 n2 h1 h2 h3 b e t nt => by
        have s2 : Same H2 (upd H2 t (.tup [.str (sS s), .int n2])) := Same.new nt
        have nmt : m ≠ t := ne_of_none h1 nt
        refine k _ ⟨bs ++ [t], ?_, ?_⟩ ?_
        · rw [upd_same, List.map_append]
          rfl
        · rw [e]
          refine Paired.app (Paired.but (s2 _ _ h1) But.upd (Paired.mapP h2 fun a r q => s2 _ _ q)) (.cons ?_ .nil)
          show upd (upd H2 t (.tup [.str (sS s), .int n2])) m _ t = _
          rw [upd_ne (Ne.symm nmt), upd_same]
        · exact (But.of s1).trans (b.trans ((But.of s2).trans But.upd))
      rcases List.eq_nil_or_concat M with e | ⟨M0, q, e⟩
      · subst e
        refine iteF (iteF ?_)
        refine ⟨_, rfl, Or.inl ⟨rfl, _, Or.inl (Or.inl hm1)⟩, _, rfl, _, rfl, (by show 2 ≤ sizeLine; decide), fun t nt => ?_⟩
        have nmt : m ≠ t := ne_of_none hm1 nt
        refine ⟨m, as.map V.ref, _, rfl, rfl, by rw [upd_ne nmt]; exact hm1, ?_, ?_⟩
        · rw [List.length_map]
          exact small1000 (by omega)
        · refine fin H1 as [] n hm1 hp1 (by omega) But.refl ?_ t nt
          show (if 0 < n then _ else _) = _
          rw [if_pos c]
          rfl
      · subst e
        rw [List.concat_eq_append] at hp1 hl hal
        obtain ⟨as0, aq, e, hp0, hq⟩ := Paired.snoc_inv hp1
        subst e
        have hm1' : H1 m = some (.lst (as0.map V.ref ++ [.ref aq])) := by rw [hm1, List.map_append]; rfl
        have hM : (M0.concat q).isEmpty = false := by rw [List.concat_eq_append]; cases M0 <;> rfl
        rw [hM]
        refine iteT ?_
        refine ⟨_, rfl, _, rfl, _, _, _, _, rfl, rfl, SqL.of hm1', atI_last _ _, _, _, _, _, rfl, rfl, SqT.of hq, at0, _, rfl, rfl, _, rfl, ?_⟩
        rw [sS_eq]
        have ha : ∀ {X Y : List HS.Run}, (if q.1 = s then (M0 ++ [q]).dropLast ++ [(s, n + q.2)] else M0 ++ [q] ++ [(s, n)]) = Y → HS.app (M0.concat q) (s, n) = Y := fun {X Y} h => by
          show (if 0 < n then _ else _) = _
          rw [if_pos c, List.concat_eq_append, List.getLast?_concat]
          exact h
        by_cases c2 : q.1 = s
        · refine ifT (decide_eq_true c2) ?_
          refine ⟨_, rfl, _, rfl, Or.inl ⟨rfl, _, Or.inl (Or.inl hm1')⟩, m, _, _, rfl, rfl, hm1', (by rw [List.length_append]; simp; rfl), ?_⟩
          have nqm : aq ≠ m := ne_of (show H1 aq = some _ from hq) hm1 (by intro z; cases z)
          have hm2 : upd H1 m (.lst (as0.map V.ref ++ [V.ref aq]).dropLast) m = some (.lst (as0.map V.ref)) := by rw [upd_same, List.dropLast_concat]
          have hq2 : upd H1 m (.lst (as0.map V.ref ++ [V.ref aq]).dropLast) aq = some (.tup [.str (sS q.1), .int q.2]) := by rw [upd_ne nqm]; exact hq
          have b2 : But m H1 (upd H1 m (.lst (as0.map V.ref ++ [V.ref aq]).dropLast)) := But.upd
          generalize upd H1 m (.lst (as0.map V.ref ++ [V.ref aq]).dropLast) = H2 at hm2 hq2 b2
          have hp2 : Paired (RunAt H2) as0 M0 := Paired.but hm1 b2 hp0
          refine ⟨_, _, _, _, rfl, rfl, SqT.of hq2, at1, _, _, rfl, rfl, ?_⟩
          refine ⟨_, rfl, Or.inl ⟨rfl, _, Or.inl (Or.inl hm2)⟩, _, rfl, _, rfl, (by show 2 ≤ sizeLine; decide), fun t nt => ?_⟩
          have nmt : m ≠ t := ne_of_none hm2 nt
          rw [List.length_append, List.length_append] at hal
          refine ⟨m, as0.map V.ref, _, rfl, rfl, by rw [upd_ne nmt]; exact hm2, ?_, ?_⟩
          · rw [List.length_map]
            exact small1000 (by rw [List.length_append] at hl; simp at hal hl; omega)
          · refine fin H2 as0 M0 (n + q.2) hm2 hp2 (by rw [List.length_append] at hl; simp at hal hl; omega) b2 ?_ t nt
            refine ha (X := M0) ?_
            rw [if_pos c2, List.dropLast_concat]
        · refine ifF (decide_eq_false c2) ?_
          refine ⟨_, rfl, Or.inl ⟨rfl, _, Or.inl (Or.inl hm1)⟩, _, rfl, _, rfl, (by show 2 ≤ sizeLine; decide), fun t nt => ?_⟩
          have nmt : m ≠ t := ne_of_none hm1 nt
          refine ⟨m, (as0 ++ [aq]).map V.ref, _, rfl, rfl, by rw [upd_ne nmt]; exact hm1, ?_, ?_⟩
          · rw [List.length_map]
            exact small1000 (by omega)
          · refine fin H1 (as0 ++ [aq]) (M0 ++ [q]) n hm1 hp1 (by omega) But.refl ?_ t nt
            refine ha (X := M0) ?_
            rw [if_neg c2]
    · refine ifF (decide_eq_false c) ?_
      refine k H ⟨as, hm, ?_⟩ But.refl
      show Paired (RunAt H) as (if 0 < n then _ else M)
      rw [if_neg c]
      exact hp
end
end HK

namespace HK
open PySem PySem.Spec PyProof.Rows L2
/-! ### bands -/
def bandFs (lo hi : Option Int) : List (Str × V) := putF "high_end" (vo hi) (putF "low_end" (vo lo) [])
theorem bandFs_low {lo hi : Option Int} : (bandFs lo hi).lookup ("low_end" : Str) = some (vo lo) := by
  unfold bandFs
  rw [lookup_putF, if_neg (by decide +kernel), lookup_putF, if_pos rfl]
theorem bandFs_high {lo hi : Option Int} : (bandFs lo hi).lookup ("high_end" : Str) = some (vo hi) := by
  unfold bandFs
  rw [lookup_putF, if_pos rfl]
theorem bandFs_no {lo hi : Option Int} {m : Str} (h1 : ¬ m = "high_end") (h2 : ¬ m = "low_end") : (bandFs lo hi).lookup m = none := by
  unfold bandFs
  rw [lookup_putF, if_neg h1, lookup_putF, if_neg h2]
  rfl
def BandAt (CB : Addr) (H : Hp) (p : Addr) (lo hi : Option Int) : Prop := ∃ dx, H p = some (.ins CB dx (bandFs lo hi))
theorem BandAt.same {CB p : Addr} {H H' : Hp} {lo hi : Option Int} (e : Same H H') (h : BandAt CB H p lo hi) : BandAt CB H' p lo hi := by
  obtain ⟨dx, h⟩ := h
  exact ⟨dx, e _ _ h⟩
def loOk (z : Int) : Option Int → Bool
  | none => true
  | some l => decide (l ≤ z)
def hiOk (z : Int) : Option Int → Bool
  | none => true
  | some u => decide (z ≤ u)
def inB (lo hi : Option Int) (z : Int) : Bool := loOk z lo && hiOk z hi
structure Tb (K : PySem.W.Frag) (mg : Str → Option Value) (CB : Addr) : Prop where
  cl : Cls K CB
  nL : NoAttr K CB "low_end"
  nH : NoAttr K CB "high_end"
  g : mg "Band" = some (.ref CB)
  ha : PySem.W.findIn K (.ref CB) "__class__" = some (some (.builtin "object.__class__"))
  hn : PySem.W.specialIn K (.builtin "object.__class__") "__get__" = some (some (.builtin "getset_descriptor.__get__"))
  ht : PySem.W.takesIn K (.builtin "object.__class__") = some true
  hm : PySem.W.mroIn K CB (.type "object") = some true
  kit : PySem.W.kitOne K (.ref CB) (.ref CB) = some true
def spBandInit (CB : Addr) : Sp := fun vs H Q _ => ∃ (p dx : Addr) (lo hi : Option Int), vs = [.ref p, vo lo, vo hi] ∧ H p = some (.ins CB dx []) ∧ (∀ l u, lo = some l → hi = some u → l ≤ u) ∧
  ∀ H', BandAt CB H' p lo hi → But p H H' → Q .non H'
def spIncludes (CB : Addr) : Sp := fun vs H Q _ => ∃ (p : Addr) (z : Int) (lo hi : Option Int), vs = [.ref p, .int z] ∧ BandAt CB H p lo hi ∧ Q (.bl (inB lo hi z)) H
def spRoom (CB : Addr) : Sp := fun vs H Q _ => ∃ (p : Addr) (z : Int) (lo hi : Option Int), vs = [.ref p, .int z] ∧ BandAt CB H p lo hi ∧ inB lo hi z = true ∧
  ∀ H' t, Same H H' → St2 H' t (vo (lo.map (z - ·))) (vo (hi.map (· - z))) → Q (.ref t) H'
def spToBand (CB : Addr) : Sp := fun vs H Q _ => ∃ (p : Addr) (lo hi : Option Int), vs = [.ref p] ∧ BandAt CB H p lo hi ∧ Q (.ref p) H
def spCheckHeight (CB : Addr) : Sp := fun vs H Q _ => ∃ (p : Addr) (z : Int) (lo hi : Option Int), vs = [.int z, .ref p] ∧ BandAt CB H p lo hi ∧ inB lo hi z = true ∧ Q .non H
def spCapped : Sp := fun vs H Q _ => ∃ (n : Int) (l : Option Int), vs = [.int n, vo l] ∧ Q (.int (HS.cap n l)) H
def spDepth : Sp := fun vs H Q _ => ∃ (r : Addr) (a c : Option Int), vs = [.ref r] ∧ St2 H r (vo a) (vo c) ∧ Q (vo (HS.depthOf a c)) H
/-- a tuple of counts -/
def Cn (H : Hp) (k : Addr) (c : HS.Cnt) : Prop := H k = some (.tup [.int c.e, .int c.w, .int c.u, .int c.d])
def spSpan : Sp := fun vs H Q _ => ∃ (k r : Addr) (n : HS.Cnt) (a c : Option Int), vs = [.ref k, .ref r] ∧ Cn H k n ∧ St2 H r (vo a) (vo c) ∧ Q (.int (HS.spanOf n a c)) H
section
variable {P : Program} {w : World} {K : PySem.W.Frag} {mg : Str → Option Value} {base : Heap} {f CB : Addr} {fd : FuncData}
abbrev s_Band_init : Stmt := inClass (top 19) 0
abbrev N_Band_init : List Str := ["self", "low", "high", "end"]
theorem sc_Band_init : FnScope N_Band_init ["self", "low", "high"] (defScope s_Band_init) := ⟨rfl, rfl, rfl, by decide +kernel, rfl, by decide +kernel, by decide +kernel⟩
theorem ok_Band_init (F : FnP K "__init__" "Band.__init__" s_Band_init [.non, .non] [] f fd) (B : Bi mg) (TB : Tb K mg CB) (c_is_integer : Cal P w K mg base 1 "is_integer" ["value"] [] spIsInt) : FnOk P w K mg base CX0 2 f fd ["self", "low", "high"] (spBandInit CB) := by
  refine F.ok sc_Band_init (fun vs H Q E h => ?_) (fun cdv A outer s H vs Q E hr h => ?_)
  · obtain ⟨p, dx, lo, hi, rfl, _⟩ := h
    rfl
  · obtain ⟨p, dx, lo, hi, rfl, hp, hle, k⟩ := h
    refine ⟨_, PSs.nox (pss_cons (ps_if (pt_not (pt_val (pe_callB (cr_all rfl) (by rfl) B.all (by decide +kernel) (pa_cons (pe_lc (own := [("end", 3)]) (g := (gName 3)) (tt := tYes) (by rfl) sc_Band_init.nd (pi_tup (pe_tup (pa_cons (pv 1) (pa_cons (pv 2) pa_nil)))) (blkOk_by (own := [("end", 3)]) (N := N_Band_init) (sc := defScope s_Band_init) (by decide +kernel)) (fun _ _ _ _ _ => pg_name (i := 3) sc_Band_init.nd rfl (Or.inl rfl)) (fun _ _ _ _ _ => pts_nil) (fun _ _ _ _ _ => (pe_or (pe_cmpR op_isN (pv 3) pe_non (nomark _)) (pe_one (pe_cal c_is_integer hr (by rfl) (pa_cons (pv 3) pa_nil)))))) pa_nil))))
    (pss_one ps_never)
    pss_nil)
  (pss_cons (ps_if (PW.pt (pw_and (pt_cmpR op_notN (pv 1) pe_non (nomark _)) (pw_and (pt_cmpR op_notN (pv 2) pe_non (nomark _)) (pw_and1 (pt_cmpR op_gt (pv 1) (pv 2) (nomark _))))))
    (pss_one ps_never)
    pss_nil)
  (pss_cons (ps_fld (pv 0) (pv 1) rfl)
  (pss_one (ps_fld (pv 0) (pv 2) rfl))))), ?_⟩
    refine ⟨_, rfl, _, rfl, (by show 2 ≤ sizeLine; decide), fun t ht => ⟨t, rfl, ⟨_, SqT.of upd_same⟩, fun D hD => ?_⟩⟩
    have s1 : Same H (upd H t (.tup [vo lo, vo hi])) := Same.new ht
    have t1 : upd H t (.tup [vo lo, vo hi]) t = some (.tup [vo lo, vo hi]) := upd_same
    generalize upd H t (.tup [vo lo, vo hi]) = H1 at s1 t1 hD
    refine lc_tupT hD (SqT.of t1) (by simp) (fun _ => rfl) (fun y hy H' Q' q => ?_) (fun H2 s2 hD' => ?_)
    · simp only [List.mem_cons, List.not_mem_nil, or_false] at hy
      have go : ∀ o : Option Int, y = vo o → ∃ c, V.bl (decide (y = .non)) = .bl c ∧ (if c = true then Q' (.bl true) H' else tCall spIsInt [] E0 (tCons (tVar 3) tNil) ((wipe (start N_Band_init [.ref p, vo lo, vo hi]) [3]).set 3 (some y)) H' Q') := fun o e => by
        subst e
        cases o with
        | none => exact ⟨_, rfl, iteT q⟩
        | some i => exact ⟨_, rfl, iteF ⟨_, rfl, i, rfl, q⟩⟩
      rcases hy with e | e
      · exact ⟨_, rfl, rfl, go lo e⟩
      · exact ⟨_, rfl, rfl, go hi e⟩
    · refine ⟨D, _, rfl, SqL.of hD', _, rfl, iteF ?_⟩
      have hp2 := s2 _ _ (s1 _ _ hp)
      have b2 : But p H H2 := But.of fun b o e => s2 _ _ (s1 _ _ e)
      -- the stores
      have fin : sFld K (tVar 0) (tVar 1) "low_end" { nx := fun σ H => sFld K (tVar 0) (tVar 2) "high_end" { nx := fun _ H' => Q .non H', rt := Q } σ H, rt := Q } (start N_Band_init [.ref p, vo lo, vo hi]) H2 := by
        refine ⟨_, rfl, _, rfl, p, CB, dx, _, rfl, hp2, TB.cl, TB.nL, (by show 0 < 1000; decide), ?_⟩
        refine ⟨_, rfl, _, rfl, p, CB, dx, _, rfl, upd_same, TB.cl, TB.nH, (by show 1 < 1000; decide), ?_⟩
        exact k _ ⟨dx, upd_same⟩ (b2.trans (But.trans But.upd But.upd))
      refine ⟨_, rfl, rfl, _, rfl, ?_⟩
      cases lo with
      | none => exact iteF (iteF fin)
      | some l =>
        refine iteT ⟨_, rfl, rfl, _, rfl, ?_⟩
        cases hi with
        | none => exact iteF (iteF fin)
        | some u =>
          refine iteT ⟨_, rfl, _, rfl, l, u, rfl, rfl, _, rfl, ?_⟩
          have := hle l u rfl rfl
          exact ifF (decide_eq_false (by omega)) fin
abbrev s_Band_includes : Stmt := inClass (top 19) 5
abbrev N_Band_includes : List Str := ["self", "height"]
theorem sc_Band_includes : FnScope N_Band_includes ["self", "height"] (defScope s_Band_includes) := ⟨rfl, rfl, rfl, by decide +kernel, rfl, by decide +kernel, by decide +kernel⟩
theorem ok_Band_includes (F : FnP K "includes" "Band.includes" s_Band_includes [] [] f fd) (TB : Tb K mg CB) : FnOk P w K mg base CX0 1 f fd ["self", "height"] (spIncludes CB) := by
  refine F.ok sc_Band_includes (fun vs H Q E h => ?_) (fun cdv A outer s H vs Q E hr h => ?_)
  · obtain ⟨p, z, lo, hi, rfl, _⟩ := h
    rfl
  · obtain ⟨p, z, lo, hi, rfl, ⟨dx, hp⟩, k⟩ := h
    refine ⟨_, PSs.nox (pss_one (ps_ret (pe_and (pe_or (pe_cmpR op_isN (pe_fld (pv 0) rfl) pe_non (nomark _)) (pe_one (pe_cmpR op_ge (pv 1) (pe_fld (pv 0) rfl) (nomark _)))) (pe_one (pe_or (pe_cmpR op_isN (pe_fld (pv 0) rfl) pe_non (nomark _)) (pe_one (pe_cmpR op_le (pv 1) (pe_fld (pv 0) rfl) (nomark _)))))))), ?_⟩
    have part2 : ∀ b : Bool, (inB lo hi z = (b && hiOk z hi)) → b = true → tOrV (tOp (fun x y H Q => y = .non ∧ Q (.bl (decide (x = .non))) H) (tFld K (tVar 0) "high_end") (tC .non)) (tOp (rI0 fun i j => .bl (decide (i ≤ j))) (tVar 1) (tFld K (tVar 0) "high_end")) (start N_Band_includes [.ref p, .int z]) H Q := fun b e hb => by
      subst hb
      refine ⟨_, rfl, p, CB, dx, _, _, rfl, hp, TB.cl, TB.nH, bandFs_high, rfl, _, rfl, ?_⟩
      rw [e] at k
      cases hi with
      | none => exact iteT k
      | some u => exact iteF ⟨_, rfl, _, rfl, p, CB, dx, _, _, rfl, hp, TB.cl, TB.nH, bandFs_high, z, u, rfl, rfl, k⟩
    refine ⟨_, rfl, p, CB, dx, _, _, rfl, hp, TB.cl, TB.nL, bandFs_low, rfl, _, rfl, ?_⟩
    cases lo with
    | none => exact iteT ⟨_, rfl, iteT (part2 true rfl rfl)⟩
    | some l =>
      refine iteF ⟨_, rfl, _, rfl, p, CB, dx, _, _, rfl, hp, TB.cl, TB.nL, bandFs_low, z, l, rfl, rfl, _, rfl, ?_⟩
      by_cases c : l ≤ z
      · exact ifT (decide_eq_true c) (part2 (decide (l ≤ z)) rfl (decide_eq_true c))
      · refine ifF (decide_eq_false c) ?_
        have e : inB (some l) hi z = false := by
          show (decide (l ≤ z) && _) = false
          rw [decide_eq_false c]
          rfl
        rw [e] at k
        exact k
abbrev s_Band_room : Stmt := inClass (top 19) 8
abbrev N_Band_room : List Str := ["self", "height", "below"]
theorem sc_Band_room : FnScope N_Band_room ["self", "height"] (defScope s_Band_room) := ⟨rfl, rfl, rfl, by decide +kernel, rfl, by decide +kernel, by decide +kernel⟩
theorem ok_Band_room (F : FnP K "room" "Band.room" s_Band_room [] [] f fd) (TB : Tb K mg CB) (c_check_integer : Cal P w K mg base 2 "check_integer" ["value", "least"] [.non] spCheck) (m_includes : Met P w K mg base 1 CB "includes" ["self", "height"] (spIncludes CB)) : FnOk P w K mg base CX0 3 f fd ["self", "height"] (spRoom CB) := by
  refine F.ok sc_Band_room (fun vs H Q E h => ?_) (fun cdv A outer s H vs Q E hr h => ?_)
  · obtain ⟨p, z, lo, hi, rfl, _⟩ := h
    rfl
  · obtain ⟨p, z, lo, hi, rfl, ⟨dx, hp⟩, hz, k⟩ := h
    refine ⟨_, PSs.nox (pss_cons (ps_expr (pe_cal c_check_integer hr (by rfl) (pa_cons (pv 1) pa_nil)))
  (pss_cons (ps_if (pt_not (pt_val (pe_met m_includes TB.cl hr (pv 0) (pa_cons (pv 1) pa_nil))))
    (pss_one ps_never)
    pss_nil)
  (pss_cons (ps_set (i := 2) sc_Band_room.nd rfl (Or.inl rfl) (pe_ifExp (pt_cmpR op_isN (pe_fld (pv 0) rfl) pe_non (nomark _)) pe_non (pe_op op_sub (pv 1) (pe_fld (pv 0) rfl))))
  (pss_one (ps_ret (pe_tup (pa_cons (pv 2) (pa_cons (pe_ifExp (pt_cmpR op_isN (pe_fld (pv 0) rfl) pe_non (nomark _)) pe_non (pe_op op_sub (pe_fld (pv 0) rfl) (pv 1))) pa_nil)))))))), ?_⟩
    refine ⟨_, rfl, z, .non, rfl, Or.inl rfl, ?_⟩
    refine ⟨_, rfl, p, dx, _, rfl, hp, bandFs_no (by decide +kernel) (by decide +kernel), _, rfl, p, z, lo, hi, rfl, ⟨dx, hp⟩, _, rfl, ifF (by rw [hz]; rfl) ?_⟩
    refine ⟨_, rfl, p, CB, dx, _, _, rfl, hp, TB.cl, TB.nL, bandFs_low, rfl, _, rfl, ?_⟩
    have fin : ∀ b : V, b = vo (lo.map (z - ·)) → tRet (tTup (tCons (tVar 2) (tCons (tIf (tTest (tOp (fun x y H Q => y = .non ∧ Q (.bl (decide (x = .non))) H) (tFld K (tVar 0) "high_end") (tC .non))) (tC .non) (tOp (rI0 fun i j => .int (i - j)) (tFld K (tVar 0) "high_end") (tVar 1))) tNil))) { nx := fun _ H' => Q .non H', rt := Q } [some (.ref p), some (.int z), some b] H := fun b e => by
      subst e
      refine ⟨_, rfl, _, rfl, p, CB, dx, _, _, rfl, hp, TB.cl, TB.nH, bandFs_high, rfl, _, rfl, ?_⟩
      cases hi with
      | none => exact iteT ⟨(by show 2 ≤ sizeLine; decide), fun t nt => k _ t (Same.new nt) upd_same⟩
      | some u => exact iteF ⟨_, rfl, p, CB, dx, _, _, rfl, hp, TB.cl, TB.nH, bandFs_high, _, rfl, u, z, rfl, rfl, (by show 2 ≤ sizeLine; decide), fun t nt => k _ t (Same.new nt) upd_same⟩
    cases lo with
    | none => exact iteT (fin .non rfl)
    | some l => exact iteF ⟨_, rfl, _, rfl, p, CB, dx, _, _, rfl, hp, TB.cl, TB.nL, bandFs_low, z, l, rfl, rfl, fin (.int (z - l)) rfl⟩
abbrev s_to_band : Stmt := top 20
abbrev N_to_band : List Str := ["value"]
theorem sc_to_band : FnScope N_to_band ["value"] (defScope s_to_band) := ⟨rfl, rfl, rfl, by decide +kernel, rfl, by decide +kernel, by decide +kernel⟩
theorem ok_to_band (F : FnP K "to_band" "to_band" s_to_band [] [] f fd) (B : Bi mg) (TB : Tb K mg CB) : FnOk P w K mg base CX0 1 f fd ["value"] (spToBand CB) := by
  refine F.ok sc_to_band (fun vs H Q E h => ?_) (fun cdv A outer s H vs Q E hr h => ?_)
  · obtain ⟨p, lo, hi, rfl, _⟩ := h
    rfl
  · obtain ⟨p, lo, hi, rfl, ⟨dx, hp⟩, k⟩ := h
    refine ⟨_, PSs.nox (pss_cons (ps_if (pt_cmpR op_isN (pv 0) pe_non (nomark _)) (pss_one ps_never) pss_nil)
      (pss_cons (ps_if (pt_not (pt_val (pe_callB call_isi (by rfl) B.isinstance (by decide +kernel) (pa_cons (pv 0) (pa_cons (pe_glob (v := .ref CB) (by rfl) TB.g rfl) pa_nil))))) (pss_one ps_never) pss_nil)
      (pss_one (ps_ret (pv 0))))), ?_⟩
    refine ⟨_, rfl, rfl, _, rfl, iteF ?_⟩
    refine ⟨_, rfl, _, _, _, _, true, rfl, .own CB, .base (.ins hp TB.cl TB.ha TB.hn TB.ht TB.hm), TB.kit, true, rfl, iteF ?_⟩
    exact ⟨_, rfl, k⟩
abbrev s_check_height : Stmt := top 21
abbrev N_check_height : List Str := ["height", "band"]
theorem sc_check_height : FnScope N_check_height ["height", "band"] (defScope s_check_height) := ⟨rfl, rfl, rfl, by decide +kernel, rfl, by decide +kernel, by decide +kernel⟩
theorem ok_check_height (F : FnP K "check_height" "check_height" s_check_height [] [] f fd) (TB : Tb K mg CB) (m_includes : Met P w K mg base 1 CB "includes" ["self", "height"] (spIncludes CB)) : FnOk P w K mg base CX0 2 f fd ["height", "band"] (spCheckHeight CB) := by
  refine F.ok sc_check_height (fun vs H Q E h => ?_) (fun cdv A outer s H vs Q E hr h => ?_)
  · obtain ⟨p, z, lo, hi, rfl, _⟩ := h
    rfl
  · obtain ⟨p, z, lo, hi, rfl, ⟨dx, hp⟩, hz, k⟩ := h
    refine ⟨_, PSs.nox (pss_one (ps_if (pt_not (pt_val (pe_met m_includes TB.cl hr (pv 1) (pa_cons (pv 0) pa_nil))))
    (pss_one ps_never)
    pss_nil)), ?_⟩
    exact ⟨_, rfl, p, dx, _, rfl, hp, bandFs_no (by decide +kernel) (by decide +kernel), _, rfl, p, z, lo, hi, rfl, ⟨dx, hp⟩, _, rfl, ifF (by rw [hz]; rfl) k⟩
/-! ### counts -/
abbrev s_capped : Stmt := top 23
abbrev N_capped : List Str := ["number", "limit"]
theorem sc_capped : FnScope N_capped ["number", "limit"] (defScope s_capped) := ⟨rfl, rfl, rfl, by decide +kernel, rfl, by decide +kernel, by decide +kernel⟩
theorem ok_capped (F : FnP K "capped" "capped" s_capped [] [] f fd) (B : Bi mg) : FnOk P w K mg base CX0 1 f fd ["number", "limit"] spCapped := by
  refine F.ok sc_capped (fun vs H Q E h => ?_) (fun cdv A outer s H vs Q E hr h => ?_)
  · obtain ⟨n, l, rfl, _⟩ := h
    rfl
  · obtain ⟨n, l, rfl, k⟩ := h
    refine ⟨_, PSs.nox (pss_one (ps_ret (pe_ifExp (pt_cmpR op_isN (pv 1) pe_non (nomark _)) (pv 0) (pe_callB (call_min2 rfl) (by rfl) B.min (by decide +kernel) (pa_cons (pv 0) (pa_cons (pv 1) pa_nil)))))), ?_⟩
    refine ⟨_, rfl, rfl, _, rfl, ?_⟩
    cases l with
    | none => exact iteT ⟨_, rfl, k⟩
    | some l =>
      refine iteF ⟨_, rfl, _, rfl, n, l, rfl, ?_⟩
      have e : (if l < n then l else n) = HS.cap n (some l) := by simp only [HS.cap]; omega
      rw [e]
      exact k
abbrev s_depth_of : Stmt := top 24
abbrev N_depth_of : List Str := ["room", "below", "above"]
theorem sc_depth_of : FnScope N_depth_of ["room"] (defScope s_depth_of) := ⟨rfl, rfl, rfl, by decide +kernel, rfl, by decide +kernel, by decide +kernel⟩
theorem ok_depth_of (F : FnP K "depth_of" "depth_of" s_depth_of [] [] f fd) : FnOk P w K mg base CX0 1 f fd ["room"] spDepth := by
  refine F.ok sc_depth_of (fun vs H Q E h => ?_) (fun cdv A outer s H vs Q E hr h => ?_)
  · obtain ⟨r, a, c, rfl, _⟩ := h
    rfl
  · obtain ⟨r, a, c, rfl, hr2, k⟩ := h
    refine ⟨_, PSs.nox (pss_cons (ps_asg (pv 0) (pg_tup rfl (pgs_cons (pg_name (i := 1) sc_depth_of.nd rfl (Or.inl rfl)) (pgs_cons (pg_name (i := 2) sc_depth_of.nd rfl (Or.inl rfl)) pgs_nil))))
  (pss_one (ps_ret (pe_ifExp (PW.pt (pw_or (pt_cmpR op_isN (pv 1) pe_non (nomark _)) (pw_or1 (pt_cmpR op_isN (pv 2) pe_non (nomark _))))) pe_non (pe_op op_add (pv 1) (pv 2)))))), ?_⟩
    refine ⟨_, rfl, r, _, rfl, SqT.of hr2, rfl, _, _, rfl, _, _, rfl, rfl, ?_⟩
    refine ⟨_, rfl, rfl, _, rfl, ?_⟩
    cases a with
    | none => exact iteT (iteT k)
    | some a =>
      refine iteF ⟨_, rfl, rfl, _, rfl, ?_⟩
      cases c with
      | none => exact iteT k
      | some c => exact iteF ⟨_, rfl, _, rfl, a, c, rfl, rfl, k⟩
abbrev s_height_span : Stmt := top 25
abbrev N_height_span : List Str := ["counts", "room"]
theorem sc_height_span : FnScope N_height_span ["counts", "room"] (defScope s_height_span) := ⟨rfl, rfl, rfl, by decide +kernel, rfl, by decide +kernel, by decide +kernel⟩
theorem ok_height_span (F : FnP K "height_span" "height_span" s_height_span [] [] f fd) (B : Bi mg) (c_capped : Cal P w K mg base 1 "capped" ["number", "limit"] [] spCapped) (c_depth_of : Cal P w K mg base 1 "depth_of" ["room"] [] spDepth) :
    FnOk P w K mg base CX0 2 f fd ["counts", "room"] spSpan := by
  refine F.ok sc_height_span (fun vs H Q E h => ?_) (fun cdv A outer s H vs Q E hr h => ?_)
  · obtain ⟨k, r, n, a, c, rfl, _⟩ := h
    rfl
  · obtain ⟨p, r, n, a, c, rfl, hp, hr2, k⟩ := h
    have tp := SqT.of (K := K) hp
    refine ⟨_, PSs.nox (pss_one (ps_ret (pe_cal c_capped hr (by rfl) (pa_cons (pe_callB (call_max2 rfl) (by rfl) B.max (by decide +kernel) (pa_cons (pe_ix ix_tup (pv 0) pe_int (fun _ _ => rfl)) (pa_cons (pe_ix ix_tup (pv 0) pe_int (fun _ _ => rfl)) pa_nil))) (pa_cons (pe_cal c_depth_of hr (by rfl) (pa_cons (pv 1) pa_nil)) pa_nil))))), ?_⟩
    refine ⟨_, rfl, _, _, _, _, rfl, rfl, tp, at2, _, rfl, _, _, _, _, rfl, rfl, tp, at3, _, _, rfl, _, rfl, r, a, c, rfl, hr2, _, HS.depthOf a c, rfl, ?_⟩
    have e : (if n.d > n.u then n.d else n.u) = max n.u n.d := by omega
    rw [e]
    exact k
end
end HK

namespace HK
open PySem PySem.Spec PyProof.Rows L2
/-! ### extents -/
def extFs (E : HS.Ext) : List (Str × V) := putF "limit" (vo E.limit) (putF "base" (.int E.base) (putF "depth" (vo E.depth) (putF "climb" (.int E.climb) (putF "width" (.int E.width) []))))
theorem ext_limit {E : HS.Ext} : (extFs E).lookup ("limit" : Str) = some (vo E.limit) := by
  unfold extFs
  rw [lookup_putF, if_pos rfl]
theorem ext_base {E : HS.Ext} : (extFs E).lookup ("base" : Str) = some (.int E.base) := by
  unfold extFs
  rw [lookup_putF, if_neg (by decide +kernel), lookup_putF, if_pos rfl]
theorem ext_depth {E : HS.Ext} : (extFs E).lookup ("depth" : Str) = some (vo E.depth) := by
  unfold extFs
  rw [lookup_putF, if_neg (by decide +kernel), lookup_putF, if_neg (by decide +kernel), lookup_putF, if_pos rfl]
theorem ext_climb {E : HS.Ext} : (extFs E).lookup ("climb" : Str) = some (.int E.climb) := by
  unfold extFs
  rw [lookup_putF, if_neg (by decide +kernel), lookup_putF, if_neg (by decide +kernel), lookup_putF, if_neg (by decide +kernel), lookup_putF, if_pos rfl]
theorem ext_width {E : HS.Ext} : (extFs E).lookup ("width" : Str) = some (.int E.width) := by
  unfold extFs
  rw [lookup_putF, if_neg (by decide +kernel), lookup_putF, if_neg (by decide +kernel), lookup_putF, if_neg (by decide +kernel), lookup_putF, if_neg (by decide +kernel), lookup_putF, if_pos rfl]
theorem ext_no {E : HS.Ext} {m : Str} (h1 : ¬ m = "limit") (h2 : ¬ m = "base") (h3 : ¬ m = "depth") (h4 : ¬ m = "climb") (h5 : ¬ m = "width") : (extFs E).lookup m = none := by
  unfold extFs
  rw [lookup_putF, if_neg h1, lookup_putF, if_neg h2, lookup_putF, if_neg h3, lookup_putF, if_neg h4, lookup_putF, if_neg h5]
  rfl
theorem ext_m1 {E : HS.Ext} : (extFs E).lookup ("extent" : Str) = none := ext_no (by decide +kernel) (by decide +kernel) (by decide +kernel) (by decide +kernel) (by decide +kernel)
theorem ext_m2 {E : HS.Ext} : (extFs E).lookup ("breakpoints" : Str) = none := ext_no (by decide +kernel) (by decide +kernel) (by decide +kernel) (by decide +kernel) (by decide +kernel)
theorem ext_m3 {E : HS.Ext} : (extFs E).lookup ("peaks" : Str) = none := ext_no (by decide +kernel) (by decide +kernel) (by decide +kernel) (by decide +kernel) (by decide +kernel)
theorem ext_m4 {E : HS.Ext} : (extFs E).lookup ("best_split" : Str) = none := ext_no (by decide +kernel) (by decide +kernel) (by decide +kernel) (by decide +kernel) (by decide +kernel)
theorem ext_m5 {E : HS.Ext} : (extFs E).lookup ("greatest" : Str) = none := ext_no (by decide +kernel) (by decide +kernel) (by decide +kernel) (by decide +kernel) (by decide +kernel)
theorem ext_m6 {E : HS.Ext} : (extFs E).lookup ("fewest_pairs" : Str) = none := ext_no (by decide +kernel) (by decide +kernel) (by decide +kernel) (by decide +kernel) (by decide +kernel)
theorem ext_len {E : HS.Ext} : (extFs E).length ≤ 5 := by
  unfold extFs
  refine Nat.le_trans (length_putF _ _ _) (Nat.succ_le_succ ?_)
  refine Nat.le_trans (length_putF _ _ _) (Nat.succ_le_succ ?_)
  refine Nat.le_trans (length_putF _ _ _) (Nat.succ_le_succ ?_)
  refine Nat.le_trans (length_putF _ _ _) (Nat.succ_le_succ ?_)
  exact Nat.le_trans (length_putF _ _ _) (Nat.succ_le_succ (Nat.zero_le _))
def ExtAt (CE : Addr) (H : Hp) (p : Addr) (E : HS.Ext) : Prop := ∃ dx, H p = some (.ins CE dx (extFs E))
theorem ExtAt.same {CE p : Addr} {H H' : Hp} {E : HS.Ext} (e : Same H H') (h : ExtAt CE H p E) : ExtAt CE H' p E := by
  obtain ⟨dx, h⟩ := h
  exact ⟨dx, e _ _ h⟩
structure Te (K : PySem.W.Frag) (CE : Addr) : Prop where
  cl : Cls K CE
  nW : NoAttr K CE "width"
  nC : NoAttr K CE "climb"
  nD : NoAttr K CE "depth"
  nB : NoAttr K CE "base"
  nL : NoAttr K CE "limit"
/-- extents of bounded numbers -/
structure EB (E : HS.Ext) : Prop where
  wf : HS.WF E
  w : E.width < 2 ^ 190
  c : E.climb < 2 ^ 190
theorem cap_bd {n : Int} {l : Option Int} (h0 : 0 ≤ n) (h1 : n < 2 ^ 191) (hl : ∀ k, l = some k → 0 ≤ k) : Bd (HS.cap n l) := by
  have a := HS.cap_nn h0 hl
  have b := (HS.cap_cases n l).1
  exact Bd.of (by omega) (by omega)
theorem EB.m1 {E : HS.Ext} (e : EB E) {v : Int} (h0 : 0 ≤ v) (h1 : v < 2 ^ 190) : CMulW E.width (HS.cap (E.base + v) E.limit) := by
  have := e.wf.w; have := e.wf.b; have := e.wf.bc; have := e.w; have := e.c
  exact Bd.mul (Bd.of (by omega) (by omega)) (cap_bd (by omega) (by omega) fun k q => by have := e.wf.l k q; omega)
theorem EB.m2 {E : HS.Ext} (e : EB E) {j v : Int} (h0 : 0 ≤ v) (h1 : v ≤ j) (h2 : j < 2 ^ 190) : CMulW (j - v) (HS.cap (E.climb + v) E.depth) := by
  have := e.wf.w; have := e.wf.b; have := e.wf.bc; have := e.w; have := e.c
  exact Bd.mul (Bd.of (by omega) (by omega)) (cap_bd (by omega) (by omega) fun k q => by have := e.wf.d k q; omega)
theorem dec_blV (a b : Bool) : decide (V.bl a = V.bl b) = decide (a = b) := by
  cases a <;> cases b <;> rfl
def spExtInit (CE : Addr) : Sp := fun vs H Q _ => ∃ (p dx r : Addr) (X h s : Int) (a c : Option Int), vs = [.ref p, .int X, .int h, .ref r, .int s] ∧ H p = some (.ins CE dx []) ∧ St2 H r (vo a) (vo c) ∧
  ∀ H', ExtAt CE H' p (HS.mkE X h a c s) → But p H H' → Q .non H'
def spExtent (CE : Addr) : Sp := fun vs H Q _ => ∃ (p : Addr) (E : HS.Ext) (j v : Int), vs = [.ref p, .int j, .int v] ∧ ExtAt CE H p E ∧ EB E ∧ 0 ≤ v ∧ v ≤ j ∧ j < 2 ^ 190 ∧ Q (.int (HS.extent E j v)) H
def spBreak (CE : Addr) : Sp := fun vs H Q _ => ∃ (p : Addr) (E : HS.Ext) (j : Int), vs = [.ref p, .int j] ∧ ExtAt CE H p E ∧ ∀ H' t, Same H H' → St2 H' t (.int (HS.first E j)) (.int (HS.second E j)) → Q (.ref t) H'
def spPeaks (CE : Addr) : Sp := fun vs H Q _ => ∃ (p : Addr) (E : HS.Ext) (j : Int), vs = [.ref p, .int j] ∧ ExtAt CE H p E ∧ ∀ H' t, Same H H' → St2 H' t (.int (HS.lowPeak E j)) (.int (HS.highPeak E j)) → Q (.ref t) H'
def spBest (CE : Addr) : Sp := fun vs H Q _ => ∃ (p : Addr) (E : HS.Ext) (j : Int), vs = [.ref p, .int j] ∧ ExtAt CE H p E ∧ EB E ∧ 0 ≤ j ∧ j < 2 ^ 190 ∧ ∀ H', Same H H' → Q (.int (HS.best E j)) H'
def spGreatest (CE : Addr) : Sp := fun vs H Q _ => ∃ (p : Addr) (E : HS.Ext) (j : Int), vs = [.ref p, .int j] ∧ ExtAt CE H p E ∧ EB E ∧ 0 ≤ j ∧ j < 2 ^ 190 ∧ ∀ H', Same H H' → Q (.int (HS.greatest E j)) H'
def spFewM (CE : Addr) : Sp := fun vs H Q _ => ∃ (p : Addr) (E : HS.Ext) (t : Int), vs = [.ref p, .int t] ∧ ExtAt CE H p E ∧ EB E ∧ E.depth ≠ some 0 ∧ t < 2 ^ 180 ∧ ∀ n H', HS.Fewest E t n → Same H H' → Q (.int n) H'
section
variable {P : Program} {w : World} {K : PySem.W.Frag} {mg : Str → Option Value} {base : Heap} {f CE : Addr} {fd : FuncData}
abbrev s_Extents_init : Stmt := inClass (top 27) 0
abbrev N_Extents_init : List Str := ["self", "x", "h", "room", "sign"]
theorem sc_Extents_init : FnScope N_Extents_init ["self", "x", "h", "room", "sign"] (defScope s_Extents_init) := ⟨rfl, rfl, rfl, by decide +kernel, rfl, by decide +kernel, by decide +kernel⟩
theorem ok_Extents_init (F : FnP K "__init__" "Extents.__init__" s_Extents_init [] [] f fd) (B : Bi mg) (TE : Te K CE) (c_depth_of : Cal P w K mg base 1 "depth_of" ["room"] [] spDepth) : FnOk P w K mg base CX0 2 f fd ["self", "x", "h", "room", "sign"] (spExtInit CE) := by
  refine F.ok sc_Extents_init (fun vs H Q E h => ?_) (fun cdv A outer s H vs Q E hr h => ?_)
  · obtain ⟨p, dx, r, X, h, s, a, c, rfl, _⟩ := h
    rfl
  · obtain ⟨p, dx, r, X, h, s, a, c, rfl, hp, hr2, k⟩ := h
    refine ⟨_, PSs.nox (pss_cons (ps_fld (pv 0) (pe_callB call_abs (by rfl) B.abs (by decide +kernel) (pa_cons (pv 1) pa_nil)) rfl)
  (pss_cons (ps_fld (pv 0) (pe_callB call_abs (by rfl) B.abs (by decide +kernel) (pa_cons (pv 2) pa_nil)) rfl)
  (pss_cons (ps_fld (pv 0) (pe_cal c_depth_of hr (by rfl) (pa_cons (pv 3) pa_nil)) rfl)
  (pss_one (ps_if (pt_cmpR op_eq (pe_cmpR op_ge (pv 4) pe_int (nomark _)) (pe_cmpR op_ge (pv 1) pe_int (nomark _)) (nomark _))
    (pss_one (ps_asg (pe_tup (pa_cons (pe_callB (call_max2 rfl) (by rfl) B.max (by decide +kernel) (pa_cons (pv 2) (pa_cons pe_int pa_nil))) (pa_cons (pe_ix ix_tup (pv 3) pe_int (fun _ _ => rfl)) pa_nil))) (pg_tup rfl (pgs_cons (pg_fld (pv 0)) (pgs_cons (pg_fld (pv 0)) pgs_nil)))))
    (pss_one (ps_asg (pe_tup (pa_cons (pe_callB (call_max2 rfl) (by rfl) B.max (by decide +kernel) (pa_cons (pe_un un_neg (pv 2)) (pa_cons pe_int pa_nil))) (pa_cons (pe_ix ix_tup (pv 3) pe_int (fun _ _ => rfl)) pa_nil))) (pg_tup rfl (pgs_cons (pg_fld (pv 0)) (pgs_cons (pg_fld (pv 0)) pgs_nil)))))))))), ?_⟩
    have nrp : r ≠ p := ne_of hr2 hp (by intro z; cases z)
    refine ⟨_, rfl, X, rfl, _, rfl, p, CE, dx, _, rfl, hp, TE.cl, TE.nW, (by show 0 < 1000; decide), ?_⟩
    refine ⟨_, rfl, h, rfl, _, rfl, p, CE, dx, _, rfl, upd_same, TE.cl, TE.nC, (by show 1 < 1000; decide), ?_⟩
    rw [upd_upd]
    have b1 : But p H (upd H p (.ins CE dx (putF "climb" (.int (if h < 0 then -h else h)) (putF "width" (.int (if X < 0 then -X else X)) [])))) := But.upd
    have h1 : upd H p (.ins CE dx (putF "climb" (.int (if h < 0 then -h else h)) (putF "width" (.int (if X < 0 then -X else X)) []))) p = _ := upd_same
    generalize upd H p (.ins CE dx (putF "climb" (.int (if h < 0 then -h else h)) (putF "width" (.int (if X < 0 then -X else X)) []))) = H1 at b1 h1
    have r1 : St2 H1 r (vo a) (vo c) := b1 _ _ nrp hr2
    refine ⟨_, rfl, r, a, c, rfl, r1, _, rfl, p, CE, dx, _, rfl, h1, TE.cl, TE.nD, (by show 2 < 1000; decide), ?_⟩
    have b2 : But p H1 (upd H1 p (.ins CE dx (putF "depth" (vo (HS.depthOf a c)) (putF "climb" (.int (if h < 0 then -h else h)) (putF "width" (.int (if X < 0 then -X else X)) []))))) := But.upd
    have h2 : upd H1 p (.ins CE dx (putF "depth" (vo (HS.depthOf a c)) (putF "climb" (.int (if h < 0 then -h else h)) (putF "width" (.int (if X < 0 then -X else X)) [])))) p = _ := upd_same
    generalize upd H1 p (.ins CE dx (putF "depth" (vo (HS.depthOf a c)) (putF "climb" (.int (if h < 0 then -h else h)) (putF "width" (.int (if X < 0 then -X else X)) [])))) = H2 at b2 h2
    have r2 : St2 H2 r (vo a) (vo c) := b2 _ _ nrp r1
    refine ⟨_, rfl, s, 0, rfl, rfl, _, rfl, X, 0, rfl, rfl, rfl, _, rfl, ?_⟩
    rw [dec_blV]
    by_cases q : HS.same s X = true
    · refine ifT q ?_
      refine ⟨_, rfl, h, 0, rfl, _, rfl, _, _, _, _, rfl, rfl, SqT.of r2, at1, (by show 2 ≤ sizeLine; decide), fun t nt => ?_⟩
      have npt : p ≠ t := ne_of_none h2 nt
      refine ⟨t, _, rfl, SqT.of upd_same, rfl, _, _, rfl, _, rfl, p, CE, dx, _, rfl, (by rw [upd_ne npt]; exact h2), TE.cl, TE.nB, (by show 3 < 1000; decide), _, _, rfl, _, rfl, p, CE, dx, _, rfl, upd_same, TE.cl, TE.nL, (by show 4 < 1000; decide), rfl, ?_⟩
      refine k _ ⟨dx, ?_⟩ (b1.trans (b2.trans ((But.of (Same.new nt)).trans (But.trans But.upd But.upd))))
      rw [upd_same]
      unfold extFs HS.mkE
      rw [if_pos q]
      have e : (if 0 > h then 0 else h) = max h 0 := by omega
      rw [e]
      rfl
    · refine ifF (Bool.eq_false_iff.mpr q) ?_
      refine ⟨_, rfl, h, rfl, -h, 0, rfl, _, rfl, _, _, _, _, rfl, rfl, SqT.of r2, at0, (by show 2 ≤ sizeLine; decide), fun t nt => ?_⟩
      have npt : p ≠ t := ne_of_none h2 nt
      refine ⟨t, _, rfl, SqT.of upd_same, rfl, _, _, rfl, _, rfl, p, CE, dx, _, rfl, (by rw [upd_ne npt]; exact h2), TE.cl, TE.nB, (by show 3 < 1000; decide), _, _, rfl, _, rfl, p, CE, dx, _, rfl, upd_same, TE.cl, TE.nL, (by show 4 < 1000; decide), rfl, ?_⟩
      refine k _ ⟨dx, ?_⟩ (b1.trans (b2.trans ((But.of (Same.new nt)).trans (But.trans But.upd But.upd))))
      rw [upd_same]
      unfold extFs HS.mkE
      rw [if_neg q]
      have e : (if 0 > -h then 0 else -h) = max (-h) 0 := by omega
      rw [e]
      rfl
abbrev s_Extents_extent : Stmt := inClass (top 27) 1
abbrev N_Extents_extent : List Str := ["self", "pairs", "split", "span"]
theorem sc_Extents_extent : FnScope N_Extents_extent ["self", "pairs", "split"] (defScope s_Extents_extent) := ⟨rfl, rfl, rfl, by decide +kernel, rfl, by decide +kernel, by decide +kernel⟩
theorem ok_extent (F : FnP K "extent" "Extents.extent" s_Extents_extent [] [] f fd) (TE : Te K CE) (c_capped : Cal P w K mg base 1 "capped" ["number", "limit"] [] spCapped) : FnOk P w K mg base CX0 2 f fd ["self", "pairs", "split"] (spExtent CE) := by
  refine F.ok sc_Extents_extent (fun vs H Q E h => ?_) (fun cdv A outer s H vs Q E hr h => ?_)
  · obtain ⟨p, E, j, v, rfl, _⟩ := h
    rfl
  · obtain ⟨p, E, j, v, rfl, ⟨dx, hp⟩, eb, v0, vj, j1, k⟩ := h
    refine ⟨_, PSs.nox (pss_cons (ps_set (i := 3) sc_Extents_extent.nd rfl (Or.inl rfl) (pe_cal c_capped hr (by rfl) (pa_cons (pe_op op_add (pe_fld (pv 0) rfl) (pv 2)) (pa_cons (pe_fld (pv 0) rfl) pa_nil))))
  (pss_one (ps_ret (pe_op op_add (pe_op op_mulW (pe_fld (pv 0) rfl) (pe_cal c_capped hr (by rfl) (pa_cons (pe_op op_add (pe_fld (pv 0) rfl) (pv 2)) (pa_cons (pe_fld (pv 0) rfl) pa_nil)))) (pe_op op_mulW (pe_op op_sub (pv 1) (pv 2)) (pv 3)))))), ?_⟩
    refine ⟨_, rfl, p, CE, dx, _, _, rfl, hp, TE.cl, TE.nC, ext_climb, _, rfl, _, _, rfl, rfl, _, rfl, p, CE, dx, _, _, rfl, hp, TE.cl, TE.nD, ext_depth, _, E.depth, rfl, ?_⟩
    refine ⟨_, rfl, p, CE, dx, _, _, rfl, hp, TE.cl, TE.nW, ext_width, _, rfl, p, CE, dx, _, _, rfl, hp, TE.cl, TE.nB, ext_base, _, rfl, _, _, rfl, rfl, _, rfl, p, CE, dx, _, _, rfl, hp, TE.cl, TE.nL, ext_limit, _, E.limit, rfl, ?_⟩
    refine ⟨_, _, rfl, rfl, eb.m1 v0 (by omega), ?_⟩
    refine ⟨_, rfl, _, rfl, _, _, rfl, rfl, _, rfl, _, _, rfl, rfl, eb.m2 v0 vj j1, ?_⟩
    exact ⟨_, _, rfl, rfl, k⟩
abbrev s_Extents_breakpoints : Stmt := inClass (top 27) 2
abbrev N_Extents_breakpoints : List Str := ["self", "pairs", "first"]
theorem sc_Extents_breakpoints : FnScope N_Extents_breakpoints ["self", "pairs"] (defScope s_Extents_breakpoints) := ⟨rfl, rfl, rfl, by decide +kernel, rfl, by decide +kernel, by decide +kernel⟩
theorem ok_breakpoints (F : FnP K "breakpoints" "Extents.breakpoints" s_Extents_breakpoints [] [] f fd) (B : Bi mg) (TE : Te K CE) : FnOk P w K mg base CX0 1 f fd ["self", "pairs"] (spBreak CE) := by
  refine F.ok sc_Extents_breakpoints (fun vs H Q E h => ?_) (fun cdv A outer s H vs Q E hr h => ?_)
  · obtain ⟨p, E, j, rfl, _⟩ := h
    rfl
  · obtain ⟨p, E, j, rfl, ⟨dx, hp⟩, k⟩ := h
    refine ⟨_, PSs.nox (pss_cons (ps_set (i := 2) sc_Extents_breakpoints.nd rfl (Or.inl rfl) (pe_ifExp (pt_cmpR op_isN (pe_fld (pv 0) rfl) pe_non (nomark _)) (pv 1) (pe_callB (call_min2 rfl) (by rfl) B.min (by decide +kernel) (pa_cons (pv 1) (pa_cons (pe_op op_sub (pe_fld (pv 0) rfl) (pe_fld (pv 0) rfl)) pa_nil)))))
  (pss_one (ps_ret (pe_tup (pa_cons (pv 2) (pa_cons (pe_ifExp (pt_cmpR op_isN (pe_fld (pv 0) rfl) pe_non (nomark _)) (pv 1) (pe_callB (call_min2 rfl) (by rfl) B.min (by decide +kernel) (pa_cons (pv 1) (pa_cons (pe_op op_sub (pe_fld (pv 0) rfl) (pe_fld (pv 0) rfl)) pa_nil)))) pa_nil)))))), ?_⟩
    have fin : ∀ x : Int, x = HS.first E j → tRet (tTup (tCons (tVar 2) (tCons (tIf (tTest (tOp (fun x y H Q => y = .non ∧ Q (.bl (decide (x = .non))) H) (tFld K (tVar 0) "depth") (tC .non))) (tVar 1) (tCB (fun xs H Q => ∃ i j, xs = [.int i, .int j] ∧ Q (.int (if j < i then j else i)) H) (tCons (tVar 1) (tCons (tOp (rI0 fun i j => .int (i - j)) (tFld K (tVar 0) "depth") (tFld K (tVar 0) "climb")) tNil)))) tNil))) { nx := fun _ H' => Q .non H', rt := Q } [some (.ref p), some (.int j), some (.int x)] H := fun x e => by
      subst e
      refine ⟨_, rfl, _, rfl, p, CE, dx, _, _, rfl, hp, TE.cl, TE.nD, ext_depth, rfl, _, rfl, ?_⟩
      cases q : E.depth with
      | none =>
        refine iteT ⟨_, rfl, (by show 2 ≤ sizeLine; decide), fun t nt => k _ t (Same.new nt) ?_⟩
        have e : HS.second E j = j := by unfold HS.second; rw [q]
        rw [e]
        exact upd_same
      | some d =>
        refine iteF ⟨_, rfl, _, rfl, p, CE, dx, _, _, rfl, hp, TE.cl, TE.nD, ext_depth.trans (by rw [q]; rfl), _, rfl, p, CE, dx, _, _, rfl, hp, TE.cl, TE.nC, ext_climb, _, _, rfl, rfl, _, _, rfl, (by show 2 ≤ sizeLine; decide), fun t nt => k _ t (Same.new nt) ?_⟩
        have e : HS.second E j = (if d - E.climb < j then d - E.climb else j) := by unfold HS.second; rw [q]; simp only []; omega
        rw [e]
        exact upd_same
    refine ⟨_, rfl, p, CE, dx, _, _, rfl, hp, TE.cl, TE.nL, ext_limit, rfl, _, rfl, ?_⟩
    cases q : E.limit with
    | none => exact iteT ⟨_, rfl, fin j (by unfold HS.first; rw [q])⟩
    | some l => exact iteF ⟨_, rfl, _, rfl, p, CE, dx, _, _, rfl, hp, TE.cl, TE.nL, ext_limit.trans (by rw [q]; rfl), _, rfl, p, CE, dx, _, _, rfl, hp, TE.cl, TE.nB, ext_base, _, _, rfl, rfl, _, _, rfl, fin _ (by unfold HS.first; rw [q]; simp only []; omega)⟩
abbrev s_Extents_peaks : Stmt := inClass (top 27) 3
abbrev N_Extents_peaks : List Str := ["self", "pairs", "first", "second", "low_peak"]
theorem sc_Extents_peaks : FnScope N_Extents_peaks ["self", "pairs"] (defScope s_Extents_peaks) := ⟨rfl, rfl, rfl, by decide +kernel, rfl, by decide +kernel, by decide +kernel⟩
theorem ok_peaks (F : FnP K "peaks" "Extents.peaks" s_Extents_peaks [] [] f fd) (B : Bi mg) (TE : Te K CE) (m_breakpoints : Met P w K mg base 1 CE "breakpoints" ["self", "pairs"] (spBreak CE)) : FnOk P w K mg base CX0 2 f fd ["self", "pairs"] (spPeaks CE) := by
  refine F.ok sc_Extents_peaks (fun vs H Q E h => ?_) (fun cdv A outer s H vs Q E hr h => ?_)
  · obtain ⟨p, E, j, rfl, _⟩ := h
    rfl
  · obtain ⟨p, E, j, rfl, ⟨dx, hp⟩, k⟩ := h
    refine ⟨_, PSs.nox (pss_cons (ps_asg (pe_met m_breakpoints TE.cl hr (pv 0) (pa_cons (pv 1) pa_nil)) (pg_tup rfl (pgs_cons (pg_name (i := 2) sc_Extents_peaks.nd rfl (Or.inl rfl)) (pgs_cons (pg_name (i := 3) sc_Extents_peaks.nd rfl (Or.inl rfl)) pgs_nil))))
  (pss_cons (ps_set (i := 4) sc_Extents_peaks.nd rfl (Or.inl rfl) (pe_callB (call_min2 rfl) (by rfl) B.min (by decide +kernel) (pa_cons (pe_callB (call_max2 rfl) (by rfl) B.max (by decide +kernel) (pa_cons (pe_op op_fdivW (pe_op op_sub (pe_op op_add (pe_fld (pv 0) rfl) (pv 1)) (pe_fld (pv 0) rfl)) pe_int) (pa_cons pe_int pa_nil))) (pa_cons (pv 2) pa_nil))))
  (pss_one (ps_ret (pe_tup (pa_cons (pv 4) (pa_cons (pe_callB (call_min2 rfl) (by rfl) B.min (by decide +kernel) (pa_cons (pe_callB (call_max2 rfl) (by rfl) B.max (by decide +kernel) (pa_cons (pe_op op_fdivW (pe_op op_sub (pv 1) (pe_fld (pv 0) rfl)) pe_int) (pa_cons (pv 2) pa_nil))) (pa_cons (pv 3) pa_nil))) pa_nil))))))), ?_⟩
    refine ⟨_, rfl, p, dx, _, rfl, hp, ext_m2, _, rfl, p, E, j, rfl, ⟨dx, hp⟩, fun H1 t s1 ht => ?_⟩
    have hp1 := s1 _ _ hp
    refine ⟨t, _, rfl, SqT.of ht, rfl, _, _, rfl, _, _, rfl, rfl, ?_⟩
    refine ⟨_, rfl, p, CE, dx, _, _, rfl, hp1, TE.cl, TE.nW, ext_width, _, rfl, _, _, rfl, rfl, _, rfl, p, CE, dx, _, _, rfl, hp1, TE.cl, TE.nC, ext_climb, _, _, rfl, rfl, _, _, rfl, rfl, div2, _, _, rfl, _, rfl, _, _, rfl, ?_⟩
    refine ⟨_, rfl, _, rfl, _, rfl, p, CE, dx, _, _, rfl, hp1, TE.cl, TE.nC, ext_climb, _, _, rfl, rfl, _, _, rfl, rfl, div2, _, rfl, _, _, rfl, _, rfl, _, _, rfl, (by show 2 ≤ sizeLine; decide), fun t2 nt => ?_⟩
    refine k _ t2 (fun b o e => Same.new nt _ _ (s1 _ _ e)) ?_
    have e1 : HS.lowPeak E j = (if HS.first E j < (if 0 > (E.width + j - E.climb) / 2 then 0 else (E.width + j - E.climb) / 2) then HS.first E j else (if 0 > (E.width + j - E.climb) / 2 then 0 else (E.width + j - E.climb) / 2)) := by
      unfold HS.lowPeak; omega
    have e2 : HS.highPeak E j = (if HS.second E j < (if HS.first E j > (j - E.climb) / 2 then HS.first E j else (j - E.climb) / 2) then HS.second E j else (if HS.first E j > (j - E.climb) / 2 then HS.first E j else (j - E.climb) / 2)) := by
      unfold HS.highPeak; omega
    rw [e1, e2]
    exact upd_same
abbrev s_Extents_best_split : Stmt := inClass (top 27) 4
abbrev N_Extents_best_split : List Str := ["self", "pairs", "first", "second"]
theorem sc_Extents_best_split : FnScope N_Extents_best_split ["self", "pairs"] (defScope s_Extents_best_split) := ⟨rfl, rfl, rfl, by decide +kernel, rfl, by decide +kernel, by decide +kernel⟩
theorem ok_best_split (F : FnP K "best_split" "Extents.best_split" s_Extents_best_split [] [] f fd) (TE : Te K CE) (m_peaks : Met P w K mg base 2 CE "peaks" ["self", "pairs"] (spPeaks CE)) (m_extent : Met P w K mg base 2 CE "extent" ["self", "pairs", "split"] (spExtent CE)) : FnOk P w K mg base CX0 3 f fd ["self", "pairs"] (spBest CE) := by
  refine F.ok sc_Extents_best_split (fun vs H Q E h => ?_) (fun cdv A outer s H vs Q E hr h => ?_)
  · obtain ⟨p, E, j, rfl, _⟩ := h
    rfl
  · obtain ⟨p, E, j, rfl, ⟨dx, hp⟩, eb, j0, j1, k⟩ := h
    refine ⟨_, PSs.nox (pss_cons (ps_asg (pe_met m_peaks TE.cl hr (pv 0) (pa_cons (pv 1) pa_nil)) (pg_tup rfl (pgs_cons (pg_name (i := 2) sc_Extents_best_split.nd rfl (Or.inl rfl)) (pgs_cons (pg_name (i := 3) sc_Extents_best_split.nd rfl (Or.inl rfl)) pgs_nil))))
  (pss_one (ps_ret (pe_ifExp (pt_cmpR op_ge (pe_met m_extent TE.cl hr (pv 0) (pa_cons (pv 1) (pa_cons (pv 2) pa_nil))) (pe_met m_extent TE.cl hr (pv 0) (pa_cons (pv 1) (pa_cons (pv 3) pa_nil))) (nomark _)) (pv 2) (pv 3))))), ?_⟩
    refine ⟨_, rfl, p, dx, _, rfl, hp, ext_m3, _, rfl, p, E, j, rfl, ⟨dx, hp⟩, fun H1 t s1 ht => ?_⟩
    have hp1 := s1 _ _ hp
    have r1 := HS.lowPeak_range eb.wf j0
    have r2 := HS.highPeak_range eb.wf j0
    have r3 := HS.first_second eb.wf (j := j)
    have r4 := HS.second_le (E := E) (j := j)
    refine ⟨t, _, rfl, SqT.of ht, rfl, _, _, rfl, _, _, rfl, rfl, ?_⟩
    refine ⟨_, rfl, p, dx, _, rfl, hp1, ext_m1, _, rfl, _, rfl, p, E, j, HS.lowPeak E j, rfl, ⟨dx, hp1⟩, eb, r1.1, by omega, j1, ?_⟩
    refine ⟨_, rfl, p, dx, _, rfl, hp1, ext_m1, _, rfl, _, rfl, p, E, j, HS.highPeak E j, rfl, ⟨dx, hp1⟩, eb, by omega, by omega, j1, _, _, rfl, rfl, _, rfl, ?_⟩
    have q := k H1 s1
    unfold HS.best at q
    by_cases c : HS.extent E j (HS.highPeak E j) ≤ HS.extent E j (HS.lowPeak E j)
    · rw [if_pos c] at q
      exact ifT (decide_eq_true c) ⟨_, rfl, q⟩
    · rw [if_neg c] at q
      exact ifF (decide_eq_false c) ⟨_, rfl, q⟩
abbrev s_Extents_greatest : Stmt := inClass (top 27) 5
abbrev N_Extents_greatest : List Str := ["self", "pairs"]
theorem sc_Extents_greatest : FnScope N_Extents_greatest ["self", "pairs"] (defScope s_Extents_greatest) := ⟨rfl, rfl, rfl, by decide +kernel, rfl, by decide +kernel, by decide +kernel⟩
theorem ok_greatest (F : FnP K "greatest" "Extents.greatest" s_Extents_greatest [] [] f fd) (TE : Te K CE) (m_best_split : Met P w K mg base 3 CE "best_split" ["self", "pairs"] (spBest CE)) (m_extent : Met P w K mg base 2 CE "extent" ["self", "pairs", "split"] (spExtent CE)) : FnOk P w K mg base CX0 4 f fd ["self", "pairs"] (spGreatest CE) := by
  refine F.ok sc_Extents_greatest (fun vs H Q E h => ?_) (fun cdv A outer s H vs Q E hr h => ?_)
  · obtain ⟨p, E, j, rfl, _⟩ := h
    rfl
  · obtain ⟨p, E, j, rfl, ⟨dx, hp⟩, eb, j0, j1, k⟩ := h
    refine ⟨_, PSs.nox (pss_one (ps_ret (pe_met m_extent TE.cl hr (pv 0) (pa_cons (pv 1) (pa_cons (pe_met m_best_split TE.cl hr (pv 0) (pa_cons (pv 1) pa_nil)) pa_nil))))), ?_⟩
    have r := HS.best_range eb.wf j0
    have r4 := HS.second_le (E := E) (j := j)
    refine ⟨_, rfl, p, dx, _, rfl, hp, ext_m1, _, rfl, _, rfl, p, dx, _, rfl, hp, ext_m4, _, rfl, p, E, j, rfl, ⟨dx, hp⟩, eb, j0, j1, fun H1 s1 => ?_⟩
    exact ⟨p, E, j, HS.best E j, rfl, ⟨dx, s1 _ _ hp⟩, eb, r.1, by omega, j1, k H1 s1⟩
end
end HK

namespace HK
open PySem PySem.Spec PyProof.Rows L2
theorem made_same {H H' : Hp} {x dx C : Addr} (nx : H x = none) (nd : H dx = none) (b : But x (upd (upd H dx (.own x)) x (.ins C dx [])) H') : Same H H' :=
  Same.made nx nd fun c o e n => b c o n e
theorem made_at {H : Hp} {x dx C : Addr} {b : Addr} {o : HO} (nx : H x = none) (nd : H dx = none) (h : H b = some o) : upd (upd H dx (.own x)) x (.ins C dx []) b = some o := by
  rw [upd_ne (ne_of_none h nx), upd_ne (ne_of_none h nd)]
  exact h
structure Geo (X h : Int) (a c : Option Int) : Prop where
  room : HS.RoomOk a c h
  bx : HS.iabs X < 2 ^ 190
  bh : HS.iabs h < 2 ^ 190
theorem mkE_width {X h s : Int} {a c : Option Int} : (HS.mkE X h a c s).width = HS.iabs X := by unfold HS.mkE; split <;> rfl
theorem mkE_climb {X h s : Int} {a c : Option Int} : (HS.mkE X h a c s).climb = HS.iabs h := by unfold HS.mkE; split <;> rfl
theorem mkE_depth {X h s : Int} {a c : Option Int} : (HS.mkE X h a c s).depth = HS.depthOf a c := by unfold HS.mkE; split <;> rfl
theorem Geo.eb {X h : Int} {a c : Option Int} (g : Geo X h a c) (s : Int) : EB (HS.mkE X h a c s) :=
  ⟨HS.mkE_wf g.room s, by rw [mkE_width]; exact g.bx, by rw [mkE_climb]; exact g.bh⟩
theorem few_le {E : HS.Ext} (W : HS.WF E) (hd : E.depth ≠ some 0) {t n : Int} (F : HS.Fewest E t n) (ht : 0 ≤ t) : n ≤ t + 1 := by
  by_cases c : n ≤ 1
  · omega
  · have h1 := F.no (n - 1) (by omega) (by omega)
    have h2 := HS.greatest_big W (j := n - 1) (by omega) hd
    omega
def spExtFor (CE : Addr) : Sp := fun vs H Q _ => ∃ (d r : Addr) (X h s : Int) (a c : Option Int), vs = [.ref d, .ref r] ∧ St3 H d X h s ∧ St2 H r (vo a) (vo c) ∧ ∀ H' p, Same H H' → ExtAt CE H' p (HS.mkE X h a c s) → Q (.ref p) H'
def spRange : Sp := fun vs H Q _ => ∃ (r : Addr) (X h j : Int) (a c : Option Int), vs = [.int X, .int h, .int j, .ref r] ∧ St2 H r (vo a) (vo c) ∧ Geo X h a c ∧ 0 ≤ j ∧ j < 2 ^ 190 ∧
  ∀ H' t, Same H H' → St2 H' t (.int (-(HS.greatest (HS.mkE X h a c (-1)) j))) (.int (HS.greatest (HS.mkE X h a c 1) j)) → Q (.ref t) H'
def spCounts : Sp := fun vs H Q _ => ∃ (d : Addr) (X h s j v : Int), vs = [.ref d, .int j, .int v] ∧ St3 H d X h s ∧ ∀ H' t, Same H H' → Cn H' t (HS.cntOf X h j v) → Q (.ref t) H'
def spFewF : Sp := fun vs H Q _ => ∃ (d r : Addr) (X h s : Int) (a c : Option Int), vs = [.ref d, .ref r] ∧ St3 H d X h s ∧ St2 H r (vo a) (vo c) ∧ Geo X h a c ∧ HS.depthOf a c ≠ some 0 ∧ HS.iabs s < 2 ^ 180 ∧
  ∀ n H', HS.Fewest (HS.mkE X h a c s) (HS.iabs s) n → Same H H' → Q (.int n) H'
def spSteps : Sp := fun vs H Q _ => ∃ (d r : Addr) (X h s : Int) (a c : Option Int), vs = [.ref d, .ref r] ∧ St3 H d X h s ∧ St2 H r (vo a) (vo c) ∧ Geo X h a c ∧ HS.depthOf a c ≠ some 0 ∧ HS.iabs s < 2 ^ 180 ∧
  ∀ n H', HS.Fewest (HS.mkE X h a c s) (HS.iabs s) n → Same H H' → Q (.int (HS.iabs X + HS.iabs h + 2 * n)) H'
section
variable {P : Program} {w : World} {K : PySem.W.Frag} {mg : Str → Option Value} {base : Heap} {f CE : Addr} {fd : FuncData}
abbrev s_Extents_fewest_pairs : Stmt := inClass (top 27) 6
abbrev N_Extents_fewest_pairs : List Str := ["self", "target", "enough", "too_few", "middle"]
theorem sc_Extents_fewest_pairs : FnScope N_Extents_fewest_pairs ["self", "target"] (defScope s_Extents_fewest_pairs) := ⟨rfl, rfl, rfl, by decide +kernel, rfl, by decide +kernel, by decide +kernel⟩
theorem ok_fewM (F : FnP K "fewest_pairs" "Extents.fewest_pairs" s_Extents_fewest_pairs [] [] f fd) (TE : Te K CE) (m_greatest : Met P w K mg base 4 CE "greatest" ["self", "pairs"] (spGreatest CE)) : FnOk P w K mg base CX0 5 f fd ["self", "target"] (spFewM CE) := by
  refine F.ok sc_Extents_fewest_pairs (fun vs H Q E h => ?_) (fun cdv A outer s H vs Q E hr h => ?_)
  · obtain ⟨p, E, t, rfl, _⟩ := h
    rfl
  · obtain ⟨p, E, t, rfl, ⟨dx, hp⟩, eb, hd, t1, k⟩ := h
    refine ⟨_, PSs.nox (pss_cons (ps_if (pt_cmpR op_ge (pe_met m_greatest TE.cl hr (pv 0) (pa_cons pe_int pa_nil)) (pv 1) (nomark _))
    (pss_one (ps_ret pe_int))
    pss_nil)
  (pss_cons (ps_if (pt_cmpR op_eq (pe_fld (pv 0) rfl) pe_int (nomark _))
    (pss_one (ps_ret pe_non))
    pss_nil)
  (pss_cons (ps_set (i := 2) sc_Extents_fewest_pairs.nd rfl (Or.inl rfl) pe_int)
  (pss_cons (ps_while PassesOwn.never (pt_cmpR op_lt (pe_met m_greatest TE.cl hr (pv 0) (pa_cons (pv 2) pa_nil)) (pv 1) (nomark _))
    (pss_one (ps_aug (i := 2) sc_Extents_fewest_pairs.nd rfl (Or.inl rfl) pe_int ip_mul)))
  (pss_cons (ps_set (i := 3) sc_Extents_fewest_pairs.nd rfl (Or.inl rfl) (pe_op op_fdivW (pv 2) pe_int))
  (pss_cons (ps_while PassesOwn.never (pt_cmpR op_gt (pe_op op_sub (pv 2) (pv 3)) pe_int (nomark _))
    (pss_cons (ps_set (i := 4) sc_Extents_fewest_pairs.nd rfl (Or.inl rfl) (pe_op op_fdivW (pe_op op_add (pv 2) (pv 3)) pe_int))
    (pss_one (ps_if (pt_cmpR op_lt (pe_met m_greatest TE.cl hr (pv 0) (pa_cons (pv 4) pa_nil)) (pv 1) (nomark _))
      (pss_one (ps_set (i := 3) sc_Extents_fewest_pairs.nd rfl (Or.inl rfl) (pv 4)))
      (pss_one (ps_set (i := 2) sc_Extents_fewest_pairs.nd rfl (Or.inl rfl) (pv 4)))))))
  (pss_one (ps_ret (pv 2))))))))), ?_⟩
    refine ⟨_, rfl, p, dx, _, rfl, hp, ext_m5, p, E, 0, rfl, ⟨dx, hp⟩, eb, by decide, by decide, fun H1 s1 => ?_⟩
    have hp1 := s1 _ _ hp
    refine ⟨_, rfl, _, _, rfl, rfl, _, rfl, ?_⟩
    by_cases c0 : t ≤ HS.greatest E 0
    · exact ifT (decide_eq_true c0) (k 0 H1 (HS.Fewest.zero c0) s1)
    · refine ifF (decide_eq_false c0) ?_
      have t0 : 0 < t := by have := HS.greatest_nn eb.wf (j := 0) (by decide); omega
      have hdd : scal (vo E.depth) (.int 0) = true ∧ decide (vo E.depth = V.int 0) = false := by
        cases q : E.depth with
        | none => exact ⟨rfl, rfl⟩
        | some d => exact ⟨rfl, decide_eq_false fun z => hd (by rw [q]; injection z with z; rw [z])⟩
      refine ⟨_, rfl, p, CE, dx, _, _, rfl, hp1, TE.cl, TE.nD, ext_depth, hdd.1, _, rfl, ifF hdd.2 ?_⟩
      -- the first loop
      refine ⟨fun m σ H2 => ∃ e : Int, σ = [some (.ref p), some (.int t), some (.int e), none, none] ∧ Same H1 H2 ∧ 1 ≤ e ∧ e ≤ 2 * t ∧ HS.greatest E (e / 2) < t ∧ m = (2 * t + 3 - e).toNat, ⟨_, 1, rfl, Same.refl _, by decide, by omega, by show HS.greatest E 0 < t; omega, rfl⟩, ?_⟩
      rintro m σ H2 ⟨e, rfl, s2, e1, e2, e3, rfl⟩
      have hp2 := s2 _ _ hp1
      refine ⟨_, rfl, p, dx, _, rfl, hp2, ext_m5, _, rfl, p, E, e, rfl, ⟨dx, hp2⟩, eb, by omega, by omega, fun H3 s3 => ?_⟩
      refine ⟨_, rfl, _, _, rfl, rfl, _, rfl, ?_⟩
      by_cases c1 : HS.greatest E e < t
      · refine ifT (decide_eq_true c1) ?_
        refine ⟨_, fun σ' H' z => z, ?_⟩
        have hb := HS.greatest_big eb.wf e1 hd
        refine ⟨_, rfl, e, 2, rfl, rfl, Bd.mul (Bd.of (by omega) (by omega)) (Bd.of (by decide) (by decide)), ?_⟩
        exact ⟨_, by omega, e * 2, rfl, fun b o q => s3 _ _ (s2 _ _ q), by omega, by omega, by rw [show e * 2 / 2 = e by omega]; exact c1, rfl⟩
      · refine ifF (decide_eq_false c1) ?_
        have s13 : Same H1 H3 := fun b o q => s3 _ _ (s2 _ _ q)
        refine ⟨_, rfl, _, _, rfl, rfl, div2, ?_⟩
        -- the second loop
        refine ⟨fun m σ H4 => ∃ (n lo : Int) (mid : Option V), σ = [some (.ref p), some (.int t), some (.int n), some (.int lo), mid] ∧ Same H1 H4 ∧ 0 ≤ lo ∧ lo < n ∧ n ≤ 2 * t ∧ t ≤ HS.greatest E n ∧ HS.greatest E lo < t ∧ m = (n - lo).toNat, ⟨_, e, e / 2, none, rfl, s13, by omega, by omega, e2, by omega, e3, rfl⟩, ?_⟩
        rintro m σ H4 ⟨n, lo, mid, rfl, s4, l0, l1, n2, g1, g2, rfl⟩
        refine ⟨_, rfl, _, rfl, _, _, rfl, rfl, _, _, rfl, rfl, _, rfl, ?_⟩
        by_cases c2 : 1 < n - lo
        · refine ifT (decide_eq_true c2) ?_
          refine ⟨_, fun σ' H' z => z, ?_⟩
          refine ⟨_, rfl, _, rfl, _, _, rfl, rfl, _, _, rfl, rfl, div2, ?_⟩
          have hp4 := s4 _ _ hp1
          refine ⟨_, rfl, p, dx, _, rfl, hp4, ext_m5, _, rfl, p, E, (n + lo) / 2, rfl, ⟨dx, hp4⟩, eb, by omega, by omega, fun H5 s5 => ?_⟩
          have s15 : Same H1 H5 := fun b o q => s5 _ _ (s4 _ _ q)
          refine ⟨_, rfl, _, _, rfl, rfl, _, rfl, ?_⟩
          by_cases c3 : HS.greatest E ((n + lo) / 2) < t
          · refine ifT (decide_eq_true c3) ?_
            exact ⟨_, rfl, _, by omega, n, (n + lo) / 2, _, rfl, s15, by omega, by omega, n2, g1, c3, rfl⟩
          · refine ifF (decide_eq_false c3) ?_
            exact ⟨_, rfl, _, by omega, (n + lo) / 2, lo, _, rfl, s15, l0, by omega, by omega, by omega, g2, rfl⟩
        · refine ifF (decide_eq_false c2) ?_
          refine ⟨_, rfl, k n H4 (HS.Fewest.of eb.wf (by omega) g1 ?_) (fun b o q => s4 _ _ (s1 _ _ q))⟩
          rw [show n - 1 = lo by omega]
          exact g2
abbrev s_extents_for : Stmt := top 28
abbrev N_extents_for : List Str := ["displacement", "room"]
theorem sc_extents_for : FnScope N_extents_for ["displacement", "room"] (defScope s_extents_for) := ⟨rfl, rfl, rfl, by decide +kernel, rfl, by decide +kernel, by decide +kernel⟩
theorem ok_extents_for (F : FnP K "extents_for" "extents_for" s_extents_for [] [] f fd) (k_Extents : Mak P w K mg base 2 "Extents" CE ["self", "x", "h", "room", "sign"] (spExtInit CE)) : FnOk P w K mg base CX0 4 f fd ["displacement", "room"] (spExtFor CE) := by
  refine F.ok sc_extents_for (fun vs H Q E h => ?_) (fun cdv A outer s H vs Q E hr h => ?_)
  · obtain ⟨d, r, X, h, s, a, c, rfl, _⟩ := h
    rfl
  · obtain ⟨d, r, X, h, s, a, c, rfl, hd, hr2, k⟩ := h
    have td := SqT.of (K := K) hd
    refine ⟨_, PSs.nox (pss_one (ps_ret (pe_mak k_Extents hr (by rfl) (pa_cons (pe_ix ix_tup (pv 0) pe_int (fun _ _ => rfl)) (pa_cons (pe_ix ix_tup (pv 0) pe_int (fun _ _ => rfl)) (pa_cons (pv 1) (pa_cons (pe_ix ix_tup (pv 0) pe_int (fun _ _ => rfl)) pa_nil))))))), ?_⟩
    refine ⟨_, rfl, _, _, _, _, rfl, rfl, td, at0, _, rfl, _, _, _, _, rfl, rfl, td, at1, _, rfl, _, rfl, _, _, _, _, rfl, rfl, td, at2, fun x dx nx ndx ne => ?_⟩
    exact ⟨x, dx, r, X, h, s, a, c, rfl, upd_same, made_at nx ndx hr2, fun H' e b => ⟨rfl, k H' x (made_same nx ndx b) e⟩⟩
abbrev s_range_with_pairs : Stmt := top 29
abbrev N_range_with_pairs : List Str := ["x", "h", "pairs", "room"]
theorem sc_range_with_pairs : FnScope N_range_with_pairs ["x", "h", "pairs", "room"] (defScope s_range_with_pairs) := ⟨rfl, rfl, rfl, by decide +kernel, rfl, by decide +kernel, by decide +kernel⟩
theorem ok_range_with_pairs (F : FnP K "range_with_pairs" "range_with_pairs" s_range_with_pairs [] [] f fd) (TE : Te K CE) (k_Extents : Mak P w K mg base 2 "Extents" CE ["self", "x", "h", "room", "sign"] (spExtInit CE)) (m_greatest : Met P w K mg base 4 CE "greatest" ["self", "pairs"] (spGreatest CE)) :
    FnOk P w K mg base CX0 5 f fd ["x", "h", "pairs", "room"] spRange := by
  refine F.ok sc_range_with_pairs (fun vs H Q E h => ?_) (fun cdv A outer s H vs Q E hr h => ?_)
  · obtain ⟨r, X, h, j, a, c, rfl, _⟩ := h
    rfl
  · obtain ⟨r, X, h, j, a, c, rfl, hr2, g, j0, j1, k⟩ := h
    refine ⟨_, PSs.nox (pss_one (ps_ret (pe_tup (pa_cons (pe_un un_neg (pe_met m_greatest TE.cl hr (pe_mak k_Extents hr (by rfl) (pa_cons (pv 0) (pa_cons (pv 1) (pa_cons (pv 3) (pa_cons (pe_un un_neg pe_int) pa_nil))))) (pa_cons (pv 2) pa_nil))) (pa_cons (pe_met m_greatest TE.cl hr (pe_mak k_Extents hr (by rfl) (pa_cons (pv 0) (pa_cons (pv 1) (pa_cons (pv 3) (pa_cons pe_int pa_nil))))) (pa_cons (pv 2) pa_nil)) pa_nil))))), ?_⟩
    refine ⟨_, rfl, _, rfl, _, rfl, 1, rfl, fun x dx nx ndx ne => ?_⟩
    refine ⟨x, dx, r, X, h, -1, a, c, rfl, upd_same, made_at nx ndx hr2, fun H1 e b => ⟨rfl, ?_⟩⟩
    have s1 := made_same nx ndx b
    obtain ⟨d1, h1⟩ := id e
    refine ⟨x, d1, _, rfl, h1, ext_m5, _, rfl, x, _, j, rfl, e, g.eb _, j0, j1, fun H2 s2 => ?_⟩
    refine ⟨_, rfl, ?_⟩
    refine ⟨_, rfl, _, rfl, _, rfl, fun y dy ny ndy ne2 => ?_⟩
    refine ⟨y, dy, r, X, h, 1, a, c, rfl, upd_same, made_at ny ndy (s2 _ _ (s1 _ _ hr2)), fun H3 e3 b3 => ⟨rfl, ?_⟩⟩
    have s3 := made_same ny ndy b3
    obtain ⟨d3, h3⟩ := id e3
    refine ⟨y, d3, _, rfl, h3, ext_m5, _, rfl, y, _, j, rfl, e3, g.eb _, j0, j1, fun H4 s4 => ?_⟩
    exact ⟨(by show 2 ≤ sizeLine; decide), fun t nt => k _ t (fun b o q => Same.new nt _ _ (s4 _ _ (s3 _ _ (s2 _ _ (s1 _ _ q))))) upd_same⟩
abbrev s_counts_of_split : Stmt := top 34
abbrev N_counts_of_split : List Str := ["displacement", "pairs", "split", "x", "h", "flat"]
theorem sc_counts_of_split : FnScope N_counts_of_split ["displacement", "pairs", "split"] (defScope s_counts_of_split) := ⟨rfl, rfl, rfl, by decide +kernel, rfl, by decide +kernel, by decide +kernel⟩
theorem ok_counts_of_split (F : FnP K "counts_of_split" "counts_of_split" s_counts_of_split [] [] f fd) (B : Bi mg) : FnOk P w K mg base CX0 1 f fd ["displacement", "pairs", "split"] spCounts := by
  refine F.ok sc_counts_of_split (fun vs H Q E h => ?_) (fun cdv A outer s H vs Q E hr h => ?_)
  · obtain ⟨d, X, h, s, j, v, rfl, _⟩ := h
    rfl
  · obtain ⟨d, X, h, s, j, v, rfl, hd, k⟩ := h
    have td := SqT.of (K := K) hd
    refine ⟨_, PSs.nox (pss_cons (ps_par (i := 3) (j := 4) rfl sc_counts_of_split.nd rfl rfl (by decide) rfl rfl (pa_cons (pe_ix ix_tup (pv 0) pe_int (fun _ _ => rfl)) (pa_cons (pe_ix ix_tup (pv 0) pe_int (fun _ _ => rfl)) pa_nil)) (by rfl))
  (pss_cons (ps_set (i := 5) sc_counts_of_split.nd rfl (Or.inl rfl) (pe_op op_sub (pv 1) (pv 2)))
  (pss_one (ps_ret (pe_tup (pa_cons (pe_op op_add (pe_callB (call_max2 rfl) (by rfl) B.max (by decide +kernel) (pa_cons (pv 3) (pa_cons pe_int pa_nil))) (pv 5)) (pa_cons (pe_op op_add (pe_callB (call_max2 rfl) (by rfl) B.max (by decide +kernel) (pa_cons (pe_un un_neg (pv 3)) (pa_cons pe_int pa_nil))) (pv 5)) (pa_cons (pe_op op_add (pe_callB (call_max2 rfl) (by rfl) B.max (by decide +kernel) (pa_cons (pv 4) (pa_cons pe_int pa_nil))) (pv 2)) (pa_cons (pe_op op_add (pe_callB (call_max2 rfl) (by rfl) B.max (by decide +kernel) (pa_cons (pe_un un_neg (pv 4)) (pa_cons pe_int pa_nil))) (pv 2)) pa_nil))))))))), ?_⟩
    refine ⟨_, rfl, _, _, _, _, rfl, rfl, td, at0, _, rfl, _, _, _, _, rfl, rfl, td, at1, _, _, rfl, ?_⟩
    refine ⟨_, rfl, _, rfl, _, _, rfl, rfl, ?_⟩
    refine ⟨_, rfl, X, 0, rfl, _, rfl, _, _, rfl, rfl, _, rfl, X, rfl, -X, 0, rfl, _, rfl, _, _, rfl, rfl, _, rfl, h, 0, rfl, _, rfl, _, _, rfl, rfl, _, rfl, h, rfl, -h, 0, rfl, _, rfl, _, _, rfl, rfl, (by show 4 ≤ sizeLine; decide), fun t nt => ?_⟩
    refine k _ t (Same.new nt) ?_
    have e1 : max X 0 = (if 0 > X then 0 else X) := by omega
    have e2 : max (-X) 0 = (if 0 > -X then 0 else -X) := by omega
    have e3 : max h 0 = (if 0 > h then 0 else h) := by omega
    have e4 : max (-h) 0 = (if 0 > -h then 0 else -h) := by omega
    unfold Cn HS.cntOf
    rw [e1, e2, e3, e4]
    exact upd_same
abbrev s_fewest_pairs : Stmt := top 35
abbrev N_fewest_pairs : List Str := ["displacement", "room"]
theorem sc_fewest_pairs : FnScope N_fewest_pairs ["displacement", "room"] (defScope s_fewest_pairs) := ⟨rfl, rfl, rfl, by decide +kernel, rfl, by decide +kernel, by decide +kernel⟩
theorem ok_fewest_pairs (F : FnP K "fewest_pairs" "fewest_pairs" s_fewest_pairs [] [] f fd) (B : Bi mg) (TE : Te K CE) (c_extents_for : Cal P w K mg base 4 "extents_for" ["displacement", "room"] [] (spExtFor CE)) (m_fewest_pairs : Met P w K mg base 5 CE "fewest_pairs" ["self", "target"] (spFewM CE)) :
    FnOk P w K mg base CX0 6 f fd ["displacement", "room"] spFewF := by
  refine F.ok sc_fewest_pairs (fun vs H Q E h => ?_) (fun cdv A outer s H vs Q E hr h => ?_)
  · obtain ⟨d, r, X, h, s, a, c, rfl, _⟩ := h
    rfl
  · obtain ⟨d, r, X, h, s, a, c, rfl, hd, hr2, g, dn, st, k⟩ := h
    refine ⟨_, PSs.nox (pss_one (ps_ret (pe_met m_fewest_pairs TE.cl hr (pe_cal c_extents_for hr (by rfl) (pa_cons (pv 0) (pa_cons (pv 1) pa_nil))) (pa_cons (pe_callB call_abs (by rfl) B.abs (by decide +kernel) (pa_cons (pe_ix ix_tup (pv 0) pe_int (fun _ _ => rfl)) pa_nil)) pa_nil)))), ?_⟩
    refine ⟨_, rfl, _, rfl, d, r, X, h, s, a, c, rfl, hd, hr2, fun H1 p s1 e => ?_⟩
    obtain ⟨dx, hp⟩ := id e
    refine ⟨p, dx, _, rfl, hp, ext_m6, _, rfl, _, _, _, _, rfl, rfl, SqT.of (s1 _ _ hd), at2, _, rfl, p, _, HS.iabs s, rfl, e, g.eb s, by rw [mkE_depth]; exact dn, st, fun n H2 fw s2 => ?_⟩
    exact k n H2 fw fun b o q => s2 _ _ (s1 _ _ q)
abbrev s_fewest_steps : Stmt := top 36
abbrev N_fewest_steps : List Str := ["displacement", "room", "pairs"]
theorem sc_fewest_steps : FnScope N_fewest_steps ["displacement", "room"] (defScope s_fewest_steps) := ⟨rfl, rfl, rfl, by decide +kernel, rfl, by decide +kernel, by decide +kernel⟩
theorem ok_fewest_steps (F : FnP K "fewest_steps" "fewest_steps" s_fewest_steps [] [] f fd) (B : Bi mg) (c_fewest_pairs : Cal P w K mg base 6 "fewest_pairs" ["displacement", "room"] [] spFewF) : FnOk P w K mg base CX0 7 f fd ["displacement", "room"] spSteps := by
  refine F.ok sc_fewest_steps (fun vs H Q E h => ?_) (fun cdv A outer s H vs Q E hr h => ?_)
  · obtain ⟨d, r, X, h, s, a, c, rfl, _⟩ := h
    rfl
  · obtain ⟨d, r, X, h, s, a, c, rfl, hd, hr2, g, dn, st, k⟩ := h
    refine ⟨_, PSs.nox (pss_cons (ps_set (i := 2) sc_fewest_steps.nd rfl (Or.inl rfl) (pe_cal c_fewest_pairs hr (by rfl) (pa_cons (pv 0) (pa_cons (pv 1) pa_nil))))
  (pss_one (ps_ret (pe_ifExp (pt_cmpR op_isN (pv 2) pe_non (nomark _)) pe_non (pe_op op_add (pe_op op_add (pe_callB call_abs (by rfl) B.abs (by decide +kernel) (pa_cons (pe_ix ix_tup (pv 0) pe_int (fun _ _ => rfl)) pa_nil)) (pe_callB call_abs (by rfl) B.abs (by decide +kernel) (pa_cons (pe_ix ix_tup (pv 0) pe_int (fun _ _ => rfl)) pa_nil))) (pe_op op_mulW pe_int (pv 2))))))), ?_⟩
    refine ⟨_, rfl, _, rfl, d, r, X, h, s, a, c, rfl, hd, hr2, g, dn, st, fun n H1 fw s1 => ?_⟩
    have td := SqT.of (K := K) (s1 _ _ hd)
    have hn := few_le (g.eb s).wf (by rw [mkE_depth]; exact dn) fw (by unfold HS.iabs; omega)
    have n0 := fw.nn
    refine ⟨_, rfl, rfl, _, rfl, iteF ?_⟩
    refine ⟨_, rfl, _, _, _, _, rfl, rfl, td, at0, X, rfl, _, rfl, _, _, _, _, rfl, rfl, td, at1, h, rfl, _, _, rfl, rfl, _, rfl, 2, n, rfl, rfl, Bd.mul (Bd.of (by decide) (by decide)) (Bd.of (by omega) (by omega)), _, _, rfl, rfl, ?_⟩
    exact k n H1 fw s1
end
end HK

namespace HK
open PySem PySem.Spec PyProof.Rows L2
theorem same_up {H H1 : Hp} {p : Addr} {o : HO} (np : H p = none) (e : upd H p o = H1) : Same H H1 := by
  rw [← e]
  exact Same.new np
theorem at_up {H H1 : Hp} {p : Addr} {o : HO} (e : upd H p o = H1) : H1 p = some o := by
  rw [← e]
  exact upd_same
theorem but_up {H H1 : Hp} {p : Addr} {o : HO} (e : upd H p o = H1) : But p H H1 := by
  rw [← e]
  exact But.upd
theorem lk_ne {f g : Str} {v : V} {fs : List (Str × V)} {x : Option V} (h : ¬ g = f) (e : fs.lookup g = x) : (putF f v fs).lookup g = x := by
  rw [lookup_putF, if_neg h]
  exact e
theorem lk_eq {f : Str} {v : V} {fs : List (Str × V)} : (putF f v fs).lookup f = some v := by
  rw [lookup_putF, if_pos rfl]
/-- the same look-ups -/
def Lk (fs gs : List (Str × V)) : Prop := ∀ m : Str, fs.lookup m = gs.lookup m
theorem Lk.put {fs gs : List (Str × V)} (h : Lk fs gs) (f : Str) (v : V) : Lk (putF f v fs) (putF f v gs) := fun m => by
  rw [lookup_putF, lookup_putF, h m]
theorem Lk.refl (fs : List (Str × V)) : Lk fs fs := fun _ => rfl
theorem Lk.trans {fs gs hs : List (Str × V)} (a : Lk fs gs) (b : Lk gs hs) : Lk fs hs := fun m => (a m).trans (b m)
theorem Lk.swap {f g : Str} (h : ¬ f = g) {u v : V} {fs : List (Str × V)} : Lk (putF f u (putF g v fs)) (putF g v (putF f u fs)) := fun m => by
  rw [lookup_putF, lookup_putF, lookup_putF, lookup_putF]
  by_cases a : m = f
  · subst a
    rw [if_pos rfl, if_neg h, if_pos rfl]
  · rw [if_neg a, if_neg a]
theorem Lk.twice {f : Str} {u v : V} {fs : List (Str × V)} : Lk (putF f u (putF f v fs)) (putF f u fs) := fun m => by
  rw [lookup_putF, lookup_putF, lookup_putF]
  by_cases a : m = f
  · rw [if_pos a, if_pos a]
  · rw [if_neg a, if_neg a, if_neg a]
/-! ### the builder -/
def sO : Option HS.Step → Str
  | none => ""
  | some s => sS s
def bldFs (b : HS.Bld) (pc : Addr) : List (Str × V) := putF "west_top" (.int b.wT) (putF "east_bottom" (.int b.eB) (putF "single" (.str (sO b.single)) (putF "west_bottom" (.int b.wB) (putF "east_top" (.int b.eT) (putF "rest" (.int b.rest) (putF "spare" (.int 0) (putF "bottom" (.int b.bottom) (putF "top" (.int b.top) (putF "rise" (.int b.rise) (putF "span" (.int b.span) (putF "counts" (.ref pc) [])))))))))))
theorem bld_west_top {b : HS.Bld} {pc : Addr} : (bldFs b pc).lookup ("west_top" : Str) = some (.int b.wT) := lk_eq
theorem bld_east_bottom {b : HS.Bld} {pc : Addr} : (bldFs b pc).lookup ("east_bottom" : Str) = some (.int b.eB) := lk_ne (by decide +kernel) (lk_eq)
theorem bld_single {b : HS.Bld} {pc : Addr} : (bldFs b pc).lookup ("single" : Str) = some (.str (sO b.single)) := lk_ne (by decide +kernel) (lk_ne (by decide +kernel) (lk_eq))
theorem bld_west_bottom {b : HS.Bld} {pc : Addr} : (bldFs b pc).lookup ("west_bottom" : Str) = some (.int b.wB) := lk_ne (by decide +kernel) (lk_ne (by decide +kernel) (lk_ne (by decide +kernel) (lk_eq)))
theorem bld_east_top {b : HS.Bld} {pc : Addr} : (bldFs b pc).lookup ("east_top" : Str) = some (.int b.eT) := lk_ne (by decide +kernel) (lk_ne (by decide +kernel) (lk_ne (by decide +kernel) (lk_ne (by decide +kernel) (lk_eq))))
theorem bld_rest {b : HS.Bld} {pc : Addr} : (bldFs b pc).lookup ("rest" : Str) = some (.int b.rest) := lk_ne (by decide +kernel) (lk_ne (by decide +kernel) (lk_ne (by decide +kernel) (lk_ne (by decide +kernel) (lk_ne (by decide +kernel) (lk_eq)))))
theorem bld_spare {b : HS.Bld} {pc : Addr} : (bldFs b pc).lookup ("spare" : Str) = some (.int 0) := lk_ne (by decide +kernel) (lk_ne (by decide +kernel) (lk_ne (by decide +kernel) (lk_ne (by decide +kernel) (lk_ne (by decide +kernel) (lk_ne (by decide +kernel) (lk_eq))))))
theorem bld_bottom {b : HS.Bld} {pc : Addr} : (bldFs b pc).lookup ("bottom" : Str) = some (.int b.bottom) := lk_ne (by decide +kernel) (lk_ne (by decide +kernel) (lk_ne (by decide +kernel) (lk_ne (by decide +kernel) (lk_ne (by decide +kernel) (lk_ne (by decide +kernel) (lk_ne (by decide +kernel) (lk_eq)))))))
theorem bld_top {b : HS.Bld} {pc : Addr} : (bldFs b pc).lookup ("top" : Str) = some (.int b.top) := lk_ne (by decide +kernel) (lk_ne (by decide +kernel) (lk_ne (by decide +kernel) (lk_ne (by decide +kernel) (lk_ne (by decide +kernel) (lk_ne (by decide +kernel) (lk_ne (by decide +kernel) (lk_ne (by decide +kernel) (lk_eq))))))))
theorem bld_rise {b : HS.Bld} {pc : Addr} : (bldFs b pc).lookup ("rise" : Str) = some (.int b.rise) := lk_ne (by decide +kernel) (lk_ne (by decide +kernel) (lk_ne (by decide +kernel) (lk_ne (by decide +kernel) (lk_ne (by decide +kernel) (lk_ne (by decide +kernel) (lk_ne (by decide +kernel) (lk_ne (by decide +kernel) (lk_ne (by decide +kernel) (lk_eq)))))))))
theorem bld_span {b : HS.Bld} {pc : Addr} : (bldFs b pc).lookup ("span" : Str) = some (.int b.span) := lk_ne (by decide +kernel) (lk_ne (by decide +kernel) (lk_ne (by decide +kernel) (lk_ne (by decide +kernel) (lk_ne (by decide +kernel) (lk_ne (by decide +kernel) (lk_ne (by decide +kernel) (lk_ne (by decide +kernel) (lk_ne (by decide +kernel) (lk_ne (by decide +kernel) (lk_eq))))))))))
theorem bld_counts {b : HS.Bld} {pc : Addr} : (bldFs b pc).lookup ("counts" : Str) = some (.ref pc) := lk_ne (by decide +kernel) (lk_ne (by decide +kernel) (lk_ne (by decide +kernel) (lk_ne (by decide +kernel) (lk_ne (by decide +kernel) (lk_ne (by decide +kernel) (lk_ne (by decide +kernel) (lk_ne (by decide +kernel) (lk_ne (by decide +kernel) (lk_ne (by decide +kernel) (lk_ne (by decide +kernel) (lk_eq)))))))))))
theorem bld_no {b : HS.Bld} {pc : Addr} {m : Str} (h0 : ¬ m = "west_top") (h1 : ¬ m = "east_bottom") (h2 : ¬ m = "single") (h3 : ¬ m = "west_bottom") (h4 : ¬ m = "east_top") (h5 : ¬ m = "rest") (h6 : ¬ m = "spare") (h7 : ¬ m = "bottom") (h8 : ¬ m = "top") (h9 : ¬ m = "rise") (h10 : ¬ m = "span") (h11 : ¬ m = "counts") : (bldFs b pc).lookup m = none := lk_ne h0 (lk_ne h1 (lk_ne h2 (lk_ne h3 (lk_ne h4 (lk_ne h5 (lk_ne h6 (lk_ne h7 (lk_ne h8 (lk_ne h9 (lk_ne h10 (lk_ne h11 (rfl))))))))))))
theorem bldm_distribute {b : HS.Bld} {pc : Addr} : (bldFs b pc).lookup ("distribute" : Str) = none := bld_no (by decide +kernel) (by decide +kernel) (by decide +kernel) (by decide +kernel) (by decide +kernel) (by decide +kernel) (by decide +kernel) (by decide +kernel) (by decide +kernel) (by decide +kernel) (by decide +kernel) (by decide +kernel)
theorem bldm_at_bottom {b : HS.Bld} {pc : Addr} : (bldFs b pc).lookup ("at_bottom" : Str) = none := bld_no (by decide +kernel) (by decide +kernel) (by decide +kernel) (by decide +kernel) (by decide +kernel) (by decide +kernel) (by decide +kernel) (by decide +kernel) (by decide +kernel) (by decide +kernel) (by decide +kernel) (by decide +kernel)
theorem bldm_at_top {b : HS.Bld} {pc : Addr} : (bldFs b pc).lookup ("at_top" : Str) = none := bld_no (by decide +kernel) (by decide +kernel) (by decide +kernel) (by decide +kernel) (by decide +kernel) (by decide +kernel) (by decide +kernel) (by decide +kernel) (by decide +kernel) (by decide +kernel) (by decide +kernel) (by decide +kernel)
theorem bldm_single_offset {b : HS.Bld} {pc : Addr} : (bldFs b pc).lookup ("single_offset" : Str) = none := bld_no (by decide +kernel) (by decide +kernel) (by decide +kernel) (by decide +kernel) (by decide +kernel) (by decide +kernel) (by decide +kernel) (by decide +kernel) (by decide +kernel) (by decide +kernel) (by decide +kernel) (by decide +kernel)
theorem bldm_single_run {b : HS.Bld} {pc : Addr} : (bldFs b pc).lookup ("single_run" : Str) = none := bld_no (by decide +kernel) (by decide +kernel) (by decide +kernel) (by decide +kernel) (by decide +kernel) (by decide +kernel) (by decide +kernel) (by decide +kernel) (by decide +kernel) (by decide +kernel) (by decide +kernel) (by decide +kernel)
theorem bldm_bottom_first {b : HS.Bld} {pc : Addr} : (bldFs b pc).lookup ("bottom_first" : Str) = none := bld_no (by decide +kernel) (by decide +kernel) (by decide +kernel) (by decide +kernel) (by decide +kernel) (by decide +kernel) (by decide +kernel) (by decide +kernel) (by decide +kernel) (by decide +kernel) (by decide +kernel) (by decide +kernel)
theorem bldm_top_first {b : HS.Bld} {pc : Addr} : (bldFs b pc).lookup ("top_first" : Str) = none := bld_no (by decide +kernel) (by decide +kernel) (by decide +kernel) (by decide +kernel) (by decide +kernel) (by decide +kernel) (by decide +kernel) (by decide +kernel) (by decide +kernel) (by decide +kernel) (by decide +kernel) (by decide +kernel)
theorem bldm_build {b : HS.Bld} {pc : Addr} : (bldFs b pc).lookup ("build" : Str) = none := bld_no (by decide +kernel) (by decide +kernel) (by decide +kernel) (by decide +kernel) (by decide +kernel) (by decide +kernel) (by decide +kernel) (by decide +kernel) (by decide +kernel) (by decide +kernel) (by decide +kernel) (by decide +kernel)
structure Tu (K : PySem.W.Frag) (CU : Addr) : Prop where
  cl : Cls K CU
  n_counts : NoAttr K CU "counts"
  n_span : NoAttr K CU "span"
  n_rise : NoAttr K CU "rise"
  n_top : NoAttr K CU "top"
  n_bottom : NoAttr K CU "bottom"
  n_spare : NoAttr K CU "spare"
  n_rest : NoAttr K CU "rest"
  n_east_top : NoAttr K CU "east_top"
  n_west_bottom : NoAttr K CU "west_bottom"
  n_single : NoAttr K CU "single"
  n_east_bottom : NoAttr K CU "east_bottom"
  n_west_top : NoAttr K CU "west_top"
def BldAt (CU : Addr) (H : Hp) (p : Addr) (b : HS.Bld) : Prop := ∃ (dx pc : Addr) (fs : List (Str × V)), H p = some (.ins CU dx fs) ∧ Lk fs (bldFs b pc)
theorem BldAt.same {CU p : Addr} {H H' : Hp} {b : HS.Bld} (e : Same H H') (h : BldAt CU H p b) : BldAt CU H' p b := by
  obtain ⟨dx, pc, fs, h, l⟩ := h
  exact ⟨dx, pc, fs, e _ _ h, l⟩
/-- what distribute stores -/
def distFs (b : HS.Bld) (fs : List (Str × V)) : List (Str × V) := putF "west_top" (.int b.wT) (putF "east_bottom" (.int b.eB) (putF "single" (.str (sO b.single)) (putF "west_bottom" (.int b.wB) (putF "east_top" (.int b.eT) (putF "rest" (.int b.rest) fs)))))
def spDist (CU : Addr) : Sp := fun vs H Q _ => ∃ (p dx pc : Addr) (lift span : Int) (k : HS.Cnt) (fs : List (Str × V)), vs = [.ref p, .int lift] ∧ H p = some (.ins CU dx fs) ∧ fs.lookup ("counts" : Str) = some (.ref pc) ∧ Cn H pc k ∧ fs.lookup ("span" : Str) = some (.int span) ∧
  Bd span ∧ fs.length ≤ 100 ∧ ∀ H' fs', H' p = some (.ins CU dx fs') → Lk fs' (distFs (HS.bldL k 0 span 0 0 lift) fs) → But p H H' → Q .non H'
structure BB (k : HS.Cnt) (S : Int) (a c : Option Int) : Prop where
  m1 : CMulW k.e (HS.bottomOf k S a c)
  m2 : CMulW k.w (HS.topOf k S a c)
  sp : Bd (HS.spanOf k a c)
  s0 : max k.u k.d - HS.spanOf k a c = 0
def spBldInit (CU : Addr) : Sp := fun vs H Q _ => ∃ (p dx pc r : Addr) (S : Int) (k : HS.Cnt) (a c : Option Int), vs = [.ref p, .ref pc, .int S, .ref r] ∧ H p = some (.ins CU dx []) ∧ Cn H pc k ∧ St2 H r (vo a) (vo c) ∧ BB k S a c ∧
  ∀ H', BldAt CU H' p (HS.bld k S a c) → But p H H' → Q .non H'
def spRuns (CU : Addr) (sel : HS.Bld → List HS.Run) : Sp := fun vs H Q _ => ∃ (p : Addr) (b : HS.Bld), vs = [.ref p] ∧ BldAt CU H p b ∧ ∀ H' l, H l = none → Same H H' → RunsAt H' l (sel b) → Q (.ref l) H'
def spOffset (CU : Addr) : Sp := fun vs H Q _ => ∃ (p : Addr) (b : HS.Bld), vs = [.ref p] ∧ BldAt CU H p b ∧ Q (.int b.offset) H
section
variable {P : Program} {w : World} {K : PySem.W.Frag} {mg : Str → Option Value} {base : Heap} {f CU : Addr} {fd : FuncData}
abbrev s_Builder_distribute : Stmt := inClass (top 31) 1
abbrev N_Builder_distribute : List Str := ["self", "lift", "east", "west", "full"]
theorem sc_Builder_distribute : FnScope N_Builder_distribute ["self", "lift"] (defScope s_Builder_distribute) := ⟨rfl, rfl, rfl, by decide +kernel, rfl, by decide +kernel, by decide +kernel⟩
theorem ok_distribute (F : FnP K "distribute" "Builder.distribute" s_Builder_distribute [] [] f fd) (B : Bi mg) (TU : Tu K CU) : FnOk P w K mg base CX0 1 f fd ["self", "lift"] (spDist CU) := by
  refine F.ok sc_Builder_distribute (fun vs H Q E h => ?_) (fun cdv A outer s H vs Q E hr h => ?_)
  · obtain ⟨p, dx, pc, lift, span, n, fs, rfl, _⟩ := h
    rfl
  · obtain ⟨p, dx, pc, lift, span, n, fs, rfl, hp, lc, hc, ls, bs, fl, k⟩ := h
    have tc := SqT.of (K := K) hc
    refine ⟨_, PSs.nox (pss_cons (ps_par (i := 2) (j := 3) rfl sc_Builder_distribute.nd rfl rfl (by decide) rfl rfl (pa_cons (pe_ix ix_tup (pe_fld (pv 0) rfl) pe_int (fun _ _ => rfl)) (pa_cons (pe_ix ix_tup (pe_fld (pv 0) rfl) pe_int (fun _ _ => rfl)) pa_nil)) (by rfl))
  (Evl.pss_cut (ps_asg (pe_ifExp (pt_cmpR op_gt (pe_fld (pv 0) rfl) pe_int (nomark _)) (pe_callB call_divmodW (by rfl) B.divmod (by decide +kernel) (pa_cons (pv 1) (pa_cons (pe_fld (pv 0) rfl) pa_nil))) (pe_tup (pa_cons pe_int (pa_cons pe_int pa_nil)))) (pg_tup rfl (pgs_cons (pg_name (i := 4) sc_Builder_distribute.nd rfl (Or.inl rfl)) (pgs_cons (pg_fld (pv 0)) pgs_nil))))
  (pss_cons (ps_fld (pv 0) (pe_callB (call_min2 rfl) (by rfl) B.min (by decide +kernel) (pa_cons (pv 2) (pa_cons (pv 4) pa_nil))) rfl)
  (pss_cons (ps_fld (pv 0) (pe_op op_sub (pv 4) (pe_fld (pv 0) rfl)) rfl)
  (pss_cons (ps_fld (pv 0) pe_str rfl)
  (Evl.pss_cut (ps_if (pt_cmpR op_gt (pe_fld (pv 0) rfl) pe_int (nomark _))
    (pss_one (ps_fld (pv 0) (pe_ifExp (pt_cmpR op_lt (pe_fld (pv 0) rfl) (pv 2) (nomark _)) pe_str pe_str) rfl))
    pss_nil)
  (pss_cons (ps_fld (pv 0) (pe_op op_sub (pe_op op_sub (pv 2) (pe_fld (pv 0) rfl)) (pe_ifExp (pt_cmpR op_eq (pe_fld (pv 0) rfl) pe_str (nomark _)) pe_int pe_int)) rfl)
  (pss_one (ps_fld (pv 0) (pe_op op_sub (pe_op op_sub (pv 3) (pe_fld (pv 0) rfl)) (pe_ifExp (pt_cmpR op_eq (pe_fld (pv 0) rfl) pe_str (nomark _)) pe_int pe_int)) rfl))))))))), ?_⟩
    refine ⟨_, rfl, p, CU, dx, _, _, rfl, hp, TU.cl, TU.n_counts, lc, _, _, _, _, rfl, rfl, tc, at0, _, rfl, p, CU, dx, _, _, rfl, hp, TU.cl, TU.n_counts, lc, _, _, _, _, rfl, rfl, tc, at1, _, _, rfl, ?_⟩
    refine ⟨fun σ H2 => σ = [some (.ref p), some (.int lift), some (.int n.e), some (.int n.w), some (.int (HS.fullOf lift span))] ∧ H2 p = some (.ins CU dx (putF "rest" (.int (HS.restOf lift span)) fs)) ∧ But p H H2, ?_, ?_⟩
    · have go : ∀ (H1 : Hp) (t : Addr), Same H H1 → St2 H1 t (.int (HS.fullOf lift span)) (.int (HS.restOf lift span)) → gTup K 2 (gCons (gName 4) (gCons (gFld K (tVar 0) "rest") gNil)) (.ref t) [some (.ref p), some (.int lift), some (.int n.e), some (.int n.w), none] H1
          (fun σ H2 => σ = [some (.ref p), some (.int lift), some (.int n.e), some (.int n.w), some (.int (HS.fullOf lift span))] ∧ H2 p = some (.ins CU dx (putF "rest" (.int (HS.restOf lift span)) fs)) ∧ But p H H2) := fun H1 t s1 ht =>
        ⟨t, _, rfl, SqT.of ht, rfl, _, _, rfl, _, _, rfl, _, rfl, p, CU, dx, _, rfl, s1 _ _ hp, TU.cl, TU.n_rest, (by omega), rfl, rfl, upd_same, (But.of s1).trans But.upd⟩
      refine ⟨_, rfl, p, CU, dx, _, _, rfl, hp, TU.cl, TU.n_span, ls, _, _, rfl, rfl, _, rfl, ?_⟩
      by_cases c : 0 < span
      · refine ifT (decide_eq_true c) ?_
        refine ⟨_, rfl, _, rfl, p, CU, dx, _, _, rfl, hp, TU.cl, TU.n_span, ls, lift, span, rfl, ⟨c, PyProof.noPylong_of_log2 (wide_div (i := 0) c bs (by decide) (by decide)).2⟩, fun t nt => go _ t (Same.new nt) ?_⟩
        unfold HS.fullOf HS.restOf
        rw [if_pos c, if_pos c]
        exact upd_same
      · refine ifF (decide_eq_false c) ?_
        refine ⟨(by show 2 ≤ sizeLine; decide), fun t nt => go _ t (Same.new nt) ?_⟩
        unfold HS.fullOf HS.restOf
        rw [if_neg c, if_neg c]
        exact upd_same
    · rintro σ H2 ⟨rfl, h2, b2⟩
      have l2 := length_putF "rest" (.int (HS.restOf lift span)) fs
      refine ⟨_, rfl, _, rfl, _, _, rfl, _, rfl, p, CU, dx, _, rfl, h2, TU.cl, TU.n_east_top, (by omega), ?_⟩
      have e3 : (if HS.fullOf lift span < n.e then HS.fullOf lift span else n.e) = min n.e (HS.fullOf lift span) := by omega
      rw [e3]
      generalize e4 : upd H2 p _ = H3
      have h3 := at_up e4
      have b3 := b2.trans (but_up e4)
      clear e4
      have l3 := length_putF "east_top" (.int (min n.e (HS.fullOf lift span))) (putF "rest" (.int (HS.restOf lift span)) fs)
      refine ⟨_, rfl, _, rfl, p, CU, dx, _, _, rfl, h3, TU.cl, TU.n_east_top, lk_eq, _, _, rfl, rfl, _, rfl, p, CU, dx, _, rfl, h3, TU.cl, TU.n_west_bottom, (by omega), ?_⟩
      generalize e5 : upd H3 p _ = H4
      have h4 := at_up e5
      dsimp only at h4
      have b4 := b3.trans (but_up e5)
      clear e5
      have l4 := length_putF "west_bottom" (.int (HS.fullOf lift span - min n.e (HS.fullOf lift span))) (putF "east_top" (.int (min n.e (HS.fullOf lift span))) (putF "rest" (.int (HS.restOf lift span)) fs))
      refine ⟨_, rfl, p, CU, dx, _, rfl, h4, TU.cl, TU.n_single, (by omega), ?_⟩
      generalize e6 : upd H4 p _ = H5
      have h5 := at_up e6
      have b5 := b4.trans (but_up e6)
      clear e6
      have l5 := length_putF "single" (.str "") (putF "west_bottom" (.int (HS.fullOf lift span - min n.e (HS.fullOf lift span))) (putF "east_top" (.int (min n.e (HS.fullOf lift span))) (putF "rest" (.int (HS.restOf lift span)) fs)))
      have sg : (HS.bldL n 0 span 0 0 lift).single = HS.singleOf (HS.restOf lift span) (min n.e (HS.fullOf lift span)) n.e := rfl
      refine ⟨fun σ H6 => σ = [some (.ref p), some (.int lift), some (.int n.e), some (.int n.w), some (.int (HS.fullOf lift span))] ∧ ∃ fs6, H6 p = some (.ins CU dx fs6) ∧ But p H H6 ∧ fs6.length ≤ 106 ∧
          Lk fs6 (putF "single" (.str (sO (HS.bldL n 0 span 0 0 lift).single)) (putF "west_bottom" (.int (HS.fullOf lift span - min n.e (HS.fullOf lift span))) (putF "east_top" (.int (min n.e (HS.fullOf lift span))) (putF "rest" (.int (HS.restOf lift span)) fs)))), ?_, ?_⟩
      · refine ⟨_, rfl, p, CU, dx, _, _, rfl, h5, TU.cl, TU.n_rest, lk_ne (by decide +kernel) (lk_ne (by decide +kernel) (lk_ne (by decide +kernel) lk_eq)), _, _, rfl, rfl, _, rfl, ?_⟩
        by_cases c : 0 < HS.restOf lift span
        · refine ifT (decide_eq_true c) ?_
          have l6 := fun v => length_putF "single" v (putF "single" (.str "") (putF "west_bottom" (.int (HS.fullOf lift span - min n.e (HS.fullOf lift span))) (putF "east_top" (.int (min n.e (HS.fullOf lift span))) (putF "rest" (.int (HS.restOf lift span)) fs))))
          refine ⟨_, rfl, p, CU, dx, _, _, rfl, h5, TU.cl, TU.n_east_top, lk_ne (by decide +kernel) (lk_ne (by decide +kernel) lk_eq), _, rfl, _, _, rfl, rfl, _, rfl, ?_⟩
          by_cases c2 : min n.e (HS.fullOf lift span) < n.e
          · refine ifT (decide_eq_true c2) ?_
            refine ⟨_, rfl, p, CU, dx, _, rfl, h5, TU.cl, TU.n_single, (by omega), rfl, _, upd_same, b5.trans But.upd, (by have := l6 (.str "E"); omega), ?_⟩
            rw [sg]
            unfold HS.singleOf
            rw [if_pos c, if_pos c2]
            exact Lk.twice
          · refine ifF (decide_eq_false c2) ?_
            refine ⟨_, rfl, p, CU, dx, _, rfl, h5, TU.cl, TU.n_single, (by omega), rfl, _, upd_same, b5.trans But.upd, (by have := l6 (.str "W"); omega), ?_⟩
            rw [sg]
            unfold HS.singleOf
            rw [if_pos c, if_neg c2]
            exact Lk.twice
        · refine ifF (decide_eq_false c) ?_
          refine ⟨rfl, _, h5, b5, (by omega), ?_⟩
          rw [sg]
          unfold HS.singleOf
          rw [if_neg c]
          exact Lk.refl _
      · rintro σ H6 ⟨rfl, fs6, h6, b6, l6, k6⟩
        have sv : ∀ (t : HS.Step) (R : Bool → Prop), R (decide ((HS.bldL n 0 span 0 0 lift).single = some t)) → R (decide (V.str (sO (HS.bldL n 0 span 0 0 lift).single) = V.str (sS t))) := fun t R r => by
          have ed : decide (V.str (sO (HS.bldL n 0 span 0 0 lift).single) = V.str (sS t)) = decide ((HS.bldL n 0 span 0 0 lift).single = some t) := by
            cases (HS.bldL n 0 span 0 0 lift).single with
            | none => cases t <;> decide +kernel
            | some u => cases u <;> cases t <;> decide +kernel
          rw [ed]
          exact r
        have k7 : ∀ {g : Str} {x : Option V}, (putF "single" (.str (sO (HS.bldL n 0 span 0 0 lift).single)) (putF "west_bottom" (.int (HS.fullOf lift span - min n.e (HS.fullOf lift span))) (putF "east_top" (.int (min n.e (HS.fullOf lift span))) (putF "rest" (.int (HS.restOf lift span)) fs)))).lookup g = x → fs6.lookup g = x := fun e => (k6 _).trans e
        -- east_bottom
        refine ⟨_, rfl, _, rfl, p, CU, dx, _, _, rfl, h6, TU.cl, TU.n_east_top, k7 (lk_ne (by decide +kernel) (lk_ne (by decide +kernel) lk_eq)), _, _, rfl, rfl, ?_⟩
        refine ⟨_, rfl, p, CU, dx, _, _, rfl, h6, TU.cl, TU.n_single, k7 lk_eq, rfl, _, rfl, ?_⟩
        have last : ∀ (y : Int), y = (HS.bldL n 0 span 0 0 lift).eB → sFld K (tVar 0) (tOp (rI0 fun i j => .int (i - j)) (tOp (rI0 fun i j => .int (i - j)) (tVar 3) (tFld K (tVar 0) "west_bottom")) (tIf (tTest (tOp rEq (tFld K (tVar 0) "single") (tC (.str "W")))) (tC (.int 1)) (tC (.int 0)))) "west_top"
            { nx := fun _ H' => Q .non H', rt := Q } [some (.ref p), some (.int lift), some (.int n.e), some (.int n.w), some (.int (HS.fullOf lift span))] (upd H6 p (.ins CU dx (putF "east_bottom" (.int y) fs6))) := fun y ey => by
          subst ey
          generalize e7 : upd H6 p _ = H7
          have h7 := at_up e7
          have b7 := b6.trans (but_up e7)
          clear e7
          have l7 := length_putF "east_bottom" (.int (HS.bldL n 0 span 0 0 lift).eB) fs6
          refine ⟨_, rfl, _, rfl, p, CU, dx, _, _, rfl, h7, TU.cl, TU.n_west_bottom, lk_ne (by decide +kernel) (k7 (lk_ne (by decide +kernel) lk_eq)), _, _, rfl, rfl, ?_⟩
          refine ⟨_, rfl, p, CU, dx, _, _, rfl, h7, TU.cl, TU.n_single, lk_ne (by decide +kernel) (k7 lk_eq), rfl, _, rfl, ?_⟩
          have fin : ∀ y2 : Int, y2 = (HS.bldL n 0 span 0 0 lift).wT → Q .non (upd H7 p (.ins CU dx (putF "west_top" (.int y2) (putF "east_bottom" (.int (HS.bldL n 0 span 0 0 lift).eB) fs6)))) := fun y2 ey2 => by
            subst ey2
            exact k _ _ upd_same (Lk.put (Lk.put k6 _ _) _ _) (b7.trans But.upd)
          have ew : (HS.bldL n 0 span 0 0 lift).wT = n.w - (HS.fullOf lift span - min n.e (HS.fullOf lift span)) - HS.isW (HS.bldL n 0 span 0 0 lift).single := rfl
          refine sv .W (fun b => if b = true then _ else _) ?_
          unfold HS.isW at ew
          by_cases c : (HS.bldL n 0 span 0 0 lift).single = some .W
          · rw [if_pos c] at ew
            refine ifT (decide_eq_true c) ⟨_, _, rfl, rfl, _, rfl, p, CU, dx, _, rfl, h7, TU.cl, TU.n_west_top, (by omega), fin _ ew.symm⟩
          · rw [if_neg c] at ew
            refine ifF (decide_eq_false c) ⟨_, _, rfl, rfl, _, rfl, p, CU, dx, _, rfl, h7, TU.cl, TU.n_west_top, (by omega), fin _ ew.symm⟩
        have ee : (HS.bldL n 0 span 0 0 lift).eB = n.e - min n.e (HS.fullOf lift span) - HS.isE (HS.bldL n 0 span 0 0 lift).single := rfl
        refine sv .E (fun b => if b = true then _ else _) ?_
        unfold HS.isE at ee
        by_cases c : (HS.bldL n 0 span 0 0 lift).single = some .E
        · rw [if_pos c] at ee
          exact ifT (decide_eq_true c) ⟨_, _, rfl, rfl, _, rfl, p, CU, dx, _, rfl, h6, TU.cl, TU.n_east_bottom, (by omega), last _ ee.symm⟩
        · rw [if_neg c] at ee
          exact ifF (decide_eq_false c) ⟨_, _, rfl, rfl, _, rfl, p, CU, dx, _, rfl, h6, TU.cl, TU.n_east_bottom, (by omega), last _ ee.symm⟩
end
end HK

namespace HK
open PySem PySem.Spec PyProof.Rows L2
theorem dist_congr {b : HS.Bld} {fs gs : List (Str × V)} (h : Lk fs gs) : Lk (distFs b fs) (distFs b gs) := Lk.put (Lk.put (Lk.put (Lk.put (Lk.put (Lk.put h _ _) _ _) _ _) _ _) _ _) _ _
/-! ### expressions that give runs -/
def EvR (te : TE) (σ : L2.St) (H : Hp) (M : List HS.Run) : Prop := ∀ H1, Same H H1 → ∀ Q : VK, (∀ H2 l, H1 l = none → Same H1 H2 → RunsAt H2 l M → Q (.ref l) H2) → te σ H1 Q
/-- a value that stays -/
def EvI (te : TE) (σ : L2.St) (H : Hp) (v : V) : Prop := ∀ H1, Same H H1 → ∀ Q : VK, Q v H1 → te σ H1 Q
section
variable {σ : L2.St} {H : Hp} {ta tb te : TE} {M N : List HS.Run}
theorem st_same {A B C : Hp} (a : Same A B) (b : Same B C) : Same A C := fun x o e => b x o (a x o e)
theorem evr_cat (ha : EvR ta σ H M) (hb : EvR tb σ H N) (hl : M.length + N.length ≤ 1000) : EvR (tOp rCat ta tb) σ H (M ++ N) := fun H1 e Q q =>
  ha H1 e _ fun H2 l _ s2 hm => hb H2 (st_same e s2) _ fun H3 l3 _ s3 hn => by
    obtain ⟨as, h1, p1⟩ := hm
    obtain ⟨bs, h2, p2⟩ := hn
    have la := Paired.len p1
    have lb := Paired.len p2
    refine ⟨l, l3, _, _, rfl, rfl, s3 _ _ h1, h2, ?_, fun t nt => ?_⟩
    · rw [List.length_map, List.length_map]
      exact sz3 (by omega)
    · refine q _ t (s2.free (s3.free nt)) (fun x o z => Same.new nt _ _ (s3 _ _ (s2 _ _ z))) ⟨as ++ bs, ?_, ?_⟩
      · rw [upd_same, List.map_append]
      · exact Paired.app (Paired.mapP p1 fun _ _ z => Same.new nt _ _ (s3 _ _ z)) (Paired.mapP p2 fun _ _ z => Same.new nt _ _ z)
/-- the left operand a list that stands -/
theorem evr_catV {i : Nat} {l : Addr} (h : σ[i]? = some (some (.ref l))) (hm : RunsAt H l M) (hb : EvR tb σ H N) (hl : M.length + N.length ≤ 1000) : EvR (tOp rCat (tVar i) tb) σ H (M ++ N) := fun H1 e Q q =>
  ⟨_, h, hb H1 e _ fun H3 l3 _ s3 hn => by
    obtain ⟨as, h1, p1⟩ := hm.same e
    obtain ⟨bs, h2, p2⟩ := hn
    have la := Paired.len p1
    have lb := Paired.len p2
    refine ⟨l, l3, _, _, rfl, rfl, s3 _ _ h1, h2, ?_, fun t nt => ?_⟩
    · rw [List.length_map, List.length_map]
      exact sz3 (by omega)
    · refine q _ t (s3.free nt) (fun x o z => Same.new nt _ _ (s3 _ _ z)) ⟨as ++ bs, ?_, ?_⟩
      · rw [upd_same, List.map_append]
      · exact Paired.app (Paired.mapP p1 fun _ _ z => Same.new nt _ _ (s3 _ _ z)) (Paired.mapP p2 fun _ _ z => Same.new nt _ _ z)⟩
theorem evr_if {c : Bool} {t : TT} (ht : ∀ H1, Same H H1 → ∀ Q : Bool → Hp → Prop, Q c H1 → t σ H1 Q) (h1 : c = true → EvR ta σ H M) (h2 : c = false → EvR tb σ H M) : EvR (tIf t ta tb) σ H M := fun H1 e Q q =>
  ht H1 e _ (by
    cases c with
    | true => exact iteT (h1 rfl H1 e Q q)
    | false => exact iteF (h2 rfl H1 e Q q))
theorem evr_nil : EvR (tLst tNil) σ H [] := fun H1 e Q q => ⟨(by show 0 ≤ sizeLine; decide), fun t nt => q _ t nt (Same.new nt) ⟨[], upd_same, .nil⟩⟩
theorem evr_one {s : HS.Step} {n : Int} (h : EvI ta σ H (.str (sS s))) (h2 : EvI te σ H (.int n)) : EvR (tLst (tCons (tTup (tCons ta (tCons te tNil))) tNil)) σ H [(s, n)] := fun H1 e Q q => by
  refine h H1 e _ (h2 H1 e _ ⟨(by show 2 ≤ sizeLine; decide), fun t nt => ?_⟩)
  refine ⟨(by show 1 ≤ sizeLine; decide), fun l nl => q _ l ((Same.new nt).free nl) (fun x o z => Same.new nl _ _ (Same.new nt _ _ z)) ⟨[t], upd_same, .cons ?_ .nil⟩⟩
  exact Same.new nl _ _ upd_same
theorem evr_two {s s' : HS.Step} {n n' : Int} {ta' te' : TE} (h : EvI ta σ H (.str (sS s))) (h2 : EvI te σ H (.int n)) (h3 : EvI ta' σ H (.str (sS s'))) (h4 : EvI te' σ H (.int n')) :
    EvR (tLst (tCons (tTup (tCons ta (tCons te tNil))) (tCons (tTup (tCons ta' (tCons te' tNil))) tNil))) σ H [(s, n), (s', n')] := fun H1 e Q q => by
  refine h H1 e _ (h2 H1 e _ ⟨(by show 2 ≤ sizeLine; decide), fun t nt => ?_⟩)
  have s1 := Same.new (o := .tup [.str (sS s), .int n]) nt
  refine h3 _ (st_same e s1) _ (h4 _ (st_same e s1) _ ⟨(by show 2 ≤ sizeLine; decide), fun t2 nt2 => ?_⟩)
  refine ⟨(by show 2 ≤ sizeLine; decide), fun l nl => q _ l (s1.free ((Same.new nt2).free nl)) (fun x o z => Same.new nl _ _ (Same.new nt2 _ _ (s1 _ _ z))) ⟨[t, t2], upd_same, .cons ?_ (.cons ?_ .nil)⟩⟩
  · exact Same.new nl _ _ (Same.new nt2 _ _ upd_same)
  · exact Same.new nl _ _ upd_same
theorem evi_c {v : V} : EvI (tC v) σ H v := fun H1 _ Q q => q
theorem evi_var {i : Nat} {v : V} (h : σ[i]? = some (some v)) : EvI (tVar i) σ H v := fun H1 _ Q q => ⟨v, h, q⟩
theorem evi_sub {i j : Int} (ha : EvI ta σ H (.int i)) (hb : EvI tb σ H (.int j)) : EvI (tOp (rI0 fun i j => .int (i - j)) ta tb) σ H (.int (i - j)) := fun H1 e Q q =>
  ha H1 e _ (hb H1 e _ ⟨i, j, rfl, rfl, q⟩)
theorem evi_neg {i : Int} (ha : EvI ta σ H (.int i)) : EvI (tUn (rU fun i => .int (-i)) ta) σ H (.int (-i)) := fun H1 e Q q =>
  ha H1 e _ ⟨i, rfl, q⟩
theorem evi_fld {K : PySem.W.Frag} {C p dx : Addr} {fs : List (Str × V)} {g : Str} {v : V} {i : Nat} (h : σ[i]? = some (some (.ref p))) (hp : H p = some (.ins C dx fs)) (cl : Cls K C) (n : NoAttr K C g) (l : fs.lookup g = some v) : EvI (tFld K (tVar i) g) σ H v := fun H1 e Q q =>
  ⟨_, h, p, C, dx, fs, v, rfl, e _ _ hp, cl, n, l, q⟩
theorem evr_met {C p dx : Addr} {fs : List (Str × V)} {g : Str} {i : Nat} {sel : HS.Bld → List HS.Run} {b : HS.Bld} (h : σ[i]? = some (some (.ref p))) (hp : H p = some (.ins C dx fs)) (l : fs.lookup g = none) (hb : BldAt C H p b) : EvR (tMeth C g (spRuns C sel) [] E0 (tVar i) tNil) σ H (sel b) := fun H1 e Q q =>
  ⟨_, h, p, dx, fs, rfl, e _ _ hp, l, p, b, rfl, hb.same e, fun H2 l2 n2 s2 r => q H2 l2 n2 s2 r⟩
end
def spBuildV : Sp := fun vs H Q _ => ∃ (pc r : Addr) (S : Int) (k : HS.Cnt) (a c : Option Int), vs = [.ref pc, .int S, .ref r] ∧ Cn H pc k ∧ St2 H r (vo a) (vo c) ∧ BB k S a c ∧
  ∀ H' l, H l = none → Same H H' → RunsAt H' l (HS.merge (HS.bld k S a c).path) → Q (.ref l) H'
theorem app_len (M : List HS.Run) (r : HS.Run) : (HS.app M r).length ≤ M.length + 1 := by
  unfold HS.app
  split
  · cases M.getLast? with
    | none => simp
    | some q =>
      simp only []
      split
      · simp
      · simp
  · omega
theorem fold_len : ∀ (P M : List HS.Run), (P.foldl HS.app M).length ≤ M.length + P.length
  | [], M => by simp
  | r :: P, M => by
    have h1 := fold_len P (HS.app M r)
    have h2 := app_len M r
    show (P.foldl HS.app (HS.app M r)).length ≤ _
    rw [List.length_cons]
    omega
theorem take_more {α : Type} {l : List α} {i : Nat} {x : α} (h : l[i]? = some x) : l.take (i + 1) = l.take i ++ [x] := by
  rw [List.take_add_one, h]
  rfl
theorem Paired.get {α β : Type} {F : α → β → Prop} : ∀ {as : List α} {M : List β} {i : Nat} {a : α}, Paired F as M → as[i]? = some a → ∃ r, M[i]? = some r ∧ F a r
  | _, _, i, a, .nil, h => by simp at h
  | _, _, 0, a, .cons r t, h => by
    simp at h
    subst h
    exact ⟨_, rfl, r⟩
  | _, _, i + 1, a, .cons r t, h => by
    obtain ⟨x, h1, h2⟩ := Paired.get (i := i) (a := a) t (by simpa using h)
    exact ⟨x, by simpa using h1, h2⟩
section
variable {P : Program} {w : World} {K : PySem.W.Frag} {mg : Str → Option Value} {base : Heap} {f CU : Addr} {fd : FuncData}
abbrev s_Builder_init : Stmt := inClass (top 31) 0
abbrev N_Builder_init : List Str := ["self", "counts", "total", "room"]
theorem sc_Builder_init : FnScope N_Builder_init ["self", "counts", "total", "room"] (defScope s_Builder_init) := ⟨rfl, rfl, rfl, by decide +kernel, rfl, by decide +kernel, by decide +kernel⟩
theorem ok_Builder_init (F : FnP K "__init__" "Builder.__init__" s_Builder_init [] [] f fd) (B : Bi mg) (TU : Tu K CU) (c_height_span : Cal P w K mg base 2 "height_span" ["counts", "room"] [] spSpan) (c_capped : Cal P w K mg base 1 "capped" ["number", "limit"] [] spCapped)
    (m_distribute : Met P w K mg base 1 CU "distribute" ["self", "lift"] (spDist CU)) : FnOk P w K mg base CX0 3 f fd ["self", "counts", "total", "room"] (spBldInit CU) := by
  refine F.ok sc_Builder_init (fun vs H Q E h => ?_) (fun cdv A outer s H vs Q E hr h => ?_)
  · obtain ⟨p, dx, pc, r, S, n, a, c, rfl, _⟩ := h
    rfl
  · obtain ⟨p, dx, pc, r, S, n, a, c, rfl, hp, hc, hr2, bb, k⟩ := h
    have ncp : pc ≠ p := ne_of hc hp (by intro z; cases z)
    have nrp : r ≠ p := ne_of hr2 hp (by intro z; cases z)
    refine ⟨_, PSs.nox (pss_cons (ps_fld (pv 0) (pv 1) rfl)
  (pss_cons (ps_fld (pv 0) (pe_cal c_height_span hr (by rfl) (pa_cons (pv 1) (pa_cons (pv 3) pa_nil))) rfl)
  (pss_cons (ps_fld (pv 0) (pe_op op_sub (pe_ix ix_tup (pv 1) pe_int (fun _ _ => rfl)) (pe_ix ix_tup (pv 1) pe_int (fun _ _ => rfl))) rfl)
  (Evl.pss_cut (ps_if (pt_cmpR op_eq (pe_cmpR op_ge (pv 2) pe_int (nomark _)) (pe_cmpR op_ge (pe_ix ix_tup (pv 1) pe_int (fun _ _ => rfl)) (pe_ix ix_tup (pv 1) pe_int (fun _ _ => rfl)) (nomark _)) (nomark _))
    (pss_cons (ps_fld (pv 0) (pe_cal c_capped hr (by rfl) (pa_cons (pe_ix ix_tup (pv 1) pe_int (fun _ _ => rfl)) (pa_cons (pe_ix ix_tup (pv 3) pe_int (fun _ _ => rfl)) pa_nil))) rfl)
    (pss_one (ps_fld (pv 0) (pe_op op_sub (pe_fld (pv 0) rfl) (pe_fld (pv 0) rfl)) rfl)))
    (pss_cons (ps_fld (pv 0) (pe_un un_neg (pe_cal c_capped hr (by rfl) (pa_cons (pe_ix ix_tup (pv 1) pe_int (fun _ _ => rfl)) (pa_cons (pe_ix ix_tup (pv 3) pe_int (fun _ _ => rfl)) pa_nil)))) rfl)
    (pss_one (ps_fld (pv 0) (pe_op op_add (pe_fld (pv 0) rfl) (pe_fld (pv 0) rfl)) rfl))))
  (pss_cons (ps_fld (pv 0) (pe_op op_sub (pe_callB (call_max2 rfl) (by rfl) B.max (by decide +kernel) (pa_cons (pe_ix ix_tup (pv 1) pe_int (fun _ _ => rfl)) (pa_cons (pe_ix ix_tup (pv 1) pe_int (fun _ _ => rfl)) pa_nil))) (pe_fld (pv 0) rfl)) rfl)
  (pss_one (ps_expr (pe_met m_distribute TU.cl hr (pv 0) (pa_cons (pe_op op_sub (pv 2) (pe_op op_sub (pe_op op_mulW (pe_ix ix_tup (pv 1) pe_int (fun _ _ => rfl)) (pe_fld (pv 0) rfl)) (pe_op op_mulW (pe_ix ix_tup (pv 1) pe_int (fun _ _ => rfl)) (pe_fld (pv 0) rfl)))) pa_nil))))))))), ?_⟩
    refine ⟨_, rfl, _, rfl, p, CU, dx, _, rfl, hp, TU.cl, TU.n_counts, (by show 0 < 1000; decide), ?_⟩
    generalize e1 : upd H p _ = H1
    have h1 := at_up e1
    have b1 := but_up e1
    clear e1
    have c1 : Cn H1 pc n := b1 _ _ ncp hc
    have r1 : St2 H1 r (vo a) (vo c) := b1 _ _ nrp hr2
    refine ⟨_, rfl, _, rfl, pc, r, n, a, c, rfl, c1, r1, _, rfl, p, CU, dx, _, rfl, h1, TU.cl, TU.n_span, (by show 1 < 1000; decide), ?_⟩
    generalize e2 : upd H1 p _ = H2
    have h2 := at_up e2
    have b2 := b1.trans (but_up e2)
    clear e2
    have t2 := SqT.of (K := K) (b2 _ _ ncp hc)
    refine ⟨_, rfl, _, _, _, _, rfl, rfl, t2, at2, _, rfl, _, _, _, _, rfl, rfl, t2, at3, _, _, rfl, rfl, _, rfl, p, CU, dx, _, rfl, h2, TU.cl, TU.n_rise, (by show 2 < 1000; decide), ?_⟩
    generalize e3 : upd H2 p _ = H3
    have h3 := at_up e3
    dsimp only at h3
    have b3 := b2.trans (but_up e3)
    clear e3
    have t3 := SqT.of (K := K) (b3 _ _ ncp hc)
    have u3 := SqT.of (K := K) (b3 _ _ nrp hr2)
    have lsp : ∀ {f : Str} {v : V}, ¬ ("span" : Str) = f → (putF f v (putF "rise" (.int (n.u - n.d)) (putF "span" (.int (HS.spanOf n a c)) (putF "counts" (.ref pc) [])))).lookup ("span" : Str) = some (.int (HS.spanOf n a c)) := fun h => lk_ne h (lk_ne (by decide +kernel) lk_eq)
    refine ⟨fun σ H5 => σ = [some (.ref p), some (.ref pc), some (.int S), some (.ref r)] ∧ ∃ fs5, H5 p = some (.ins CU dx fs5) ∧ But p H H5 ∧ fs5.length = 5 ∧
      Lk fs5 (putF "bottom" (.int (HS.bottomOf n S a c)) (putF "top" (.int (HS.topOf n S a c)) (putF "rise" (.int (n.u - n.d)) (putF "span" (.int (HS.spanOf n a c)) (putF "counts" (.ref pc) []))))), ?_, ?_⟩
    · refine ⟨_, rfl, S, 0, rfl, rfl, _, rfl, _, _, _, _, rfl, rfl, t3, at0, _, rfl, _, _, _, _, rfl, rfl, t3, at1, _, _, rfl, rfl, rfl, _, rfl, ?_⟩
      rw [dec_blV]
      by_cases q : HS.side n S = true
      · refine ifT q ?_
        refine ⟨_, rfl, _, _, _, _, rfl, rfl, t3, at2, _, rfl, _, _, _, _, rfl, rfl, u3, at1, n.u, c, rfl, _, rfl, p, CU, dx, _, rfl, h3, TU.cl, TU.n_top, (by show 3 < 1000; decide), ?_⟩
        generalize e4 : upd H3 p _ = H4
        have h4 := at_up e4
        have b4 := b3.trans (but_up e4)
        clear e4
        refine ⟨_, rfl, p, CU, dx, _, _, rfl, h4, TU.cl, TU.n_top, lk_eq, _, rfl, p, CU, dx, _, _, rfl, h4, TU.cl, TU.n_span, lsp (by decide +kernel), _, _, rfl, rfl, _, rfl, p, CU, dx, _, rfl, h4, TU.cl, TU.n_bottom, (by show 4 < 1000; decide), ?_⟩
        refine ⟨rfl, _, upd_same, b4.trans But.upd, rfl, ?_⟩
        unfold HS.bottomOf HS.topOf
        rw [if_pos q, if_pos q]
        exact Lk.refl _
      · refine ifF (Bool.eq_false_iff.mpr q) ?_
        refine ⟨_, rfl, _, _, _, _, rfl, rfl, t3, at3, _, rfl, _, _, _, _, rfl, rfl, u3, at0, n.d, a, rfl, _, rfl, _, rfl, p, CU, dx, _, rfl, h3, TU.cl, TU.n_bottom, (by show 3 < 1000; decide), ?_⟩
        generalize e4 : upd H3 p _ = H4
        have h4 := at_up e4
        have b4 := b3.trans (but_up e4)
        clear e4
        refine ⟨_, rfl, p, CU, dx, _, _, rfl, h4, TU.cl, TU.n_bottom, lk_eq, _, rfl, p, CU, dx, _, _, rfl, h4, TU.cl, TU.n_span, lsp (by decide +kernel), _, _, rfl, rfl, _, rfl, p, CU, dx, _, rfl, h4, TU.cl, TU.n_top, (by show 4 < 1000; decide), ?_⟩
        refine ⟨rfl, _, upd_same, b4.trans But.upd, rfl, ?_⟩
        unfold HS.bottomOf HS.topOf
        rw [if_neg q, if_neg q]
        exact Lk.swap (by decide +kernel)
    · rintro σ H5 ⟨rfl, fs5, h5, b5, l5, k5⟩
      have k5' : ∀ {g : Str} {x : Option V}, (putF "bottom" (.int (HS.bottomOf n S a c)) (putF "top" (.int (HS.topOf n S a c)) (putF "rise" (.int (n.u - n.d)) (putF "span" (.int (HS.spanOf n a c)) (putF "counts" (.ref pc) []))))).lookup g = x → fs5.lookup g = x := fun e => (k5 _).trans e
      have t5 := SqT.of (K := K) (b5 _ _ ncp hc)
      refine ⟨_, rfl, _, _, _, _, rfl, rfl, t5, at2, _, rfl, _, _, _, _, rfl, rfl, t5, at3, _, _, rfl, _, rfl, p, CU, dx, _, _, rfl, h5, TU.cl, TU.n_span, k5' (lk_ne (by decide +kernel) (lsp (by decide +kernel))), _, _, rfl, rfl, _, rfl, p, CU, dx, _, rfl, h5, TU.cl, TU.n_spare, (by omega), ?_⟩
      have es : (if n.d > n.u then n.d else n.u) - HS.spanOf n a c = 0 := by
        have := bb.s0
        omega
      dsimp only
      rw [es]
      generalize e6 : upd H5 p _ = H6
      have h6 := at_up e6
      have b6 := b5.trans (but_up e6)
      clear e6
      have l6 := length_putF "spare" (.int 0) fs5
      have t6 := SqT.of (K := K) (b6 _ _ ncp hc)
      have hno : fs5.lookup ("distribute" : Str) = none := k5' (lk_ne (by decide +kernel) (lk_ne (by decide +kernel) (lk_ne (by decide +kernel) (lk_ne (by decide +kernel) (lk_ne (by decide +kernel) rfl)))))
      refine ⟨_, rfl, p, dx, _, rfl, h6, lk_ne (by decide +kernel) hno, ?_⟩
      refine ⟨_, rfl, _, rfl, _, _, _, _, rfl, rfl, t6, at0, _, rfl, p, CU, dx, _, _, rfl, h6, TU.cl, TU.n_bottom, lk_ne (by decide +kernel) (k5' lk_eq), _, _, rfl, rfl, bb.m1, ?_⟩
      refine ⟨_, rfl, _, _, _, _, rfl, rfl, t6, at1, _, rfl, p, CU, dx, _, _, rfl, h6, TU.cl, TU.n_top, lk_ne (by decide +kernel) (k5' (lk_ne (by decide +kernel) lk_eq)), _, _, rfl, rfl, bb.m2, _, _, rfl, rfl, _, _, rfl, rfl, ?_⟩
      refine ⟨p, dx, pc, HS.liftOf n S a c, HS.spanOf n a c, n, _, rfl, h6, lk_ne (by decide +kernel) (k5' (lk_ne (by decide +kernel) (lk_ne (by decide +kernel) (lk_ne (by decide +kernel) (lk_ne (by decide +kernel) lk_eq))))), b6 _ _ ncp hc,
        lk_ne (by decide +kernel) (k5' (lk_ne (by decide +kernel) (lsp (by decide +kernel)))), bb.sp, (by omega), fun H7 fs7 h7 k7 b7 => ?_⟩
      refine k H7 ⟨dx, pc, fs7, h7, k7.trans ?_⟩ (b6.trans b7)
      exact dist_congr (Lk.put k5 _ _)
abbrev s_Builder_at_bottom : Stmt := inClass (top 31) 2
abbrev N_Builder_at_bottom : List Str := ["self"]
theorem sc_Builder_at_bottom : FnScope N_Builder_at_bottom ["self"] (defScope s_Builder_at_bottom) := ⟨rfl, rfl, rfl, by decide +kernel, rfl, by decide +kernel, by decide +kernel⟩
theorem ok_at_bottom (F : FnP K "at_bottom" "Builder.at_bottom" s_Builder_at_bottom [] [] f fd) (TU : Tu K CU) : FnOk P w K mg base CX0 1 f fd ["self"] (spRuns CU HS.Bld.atBottom) := by
  refine F.ok sc_Builder_at_bottom (fun vs H Q E h => ?_) (fun cdv A outer s H vs Q E hr h => ?_)
  · obtain ⟨p, b, rfl, _⟩ := h
    rfl
  · obtain ⟨p, b, rfl, ⟨dx, pc, fs, hp, lk⟩, k⟩ := h
    refine ⟨_, PSs.nox (pss_one (ps_ret (pe_op op_cat (pe_lst (pa_cons (pe_tup (pa_cons pe_str (pa_cons (pe_fld (pv 0) rfl) pa_nil))) (pa_cons (pe_tup (pa_cons pe_str (pa_cons (pe_fld (pv 0) rfl) pa_nil))) pa_nil))) (pe_op op_rep (pe_lst (pa_cons (pe_tup (pa_cons pe_str (pa_cons pe_int pa_nil))) (pa_cons (pe_tup (pa_cons pe_str (pa_cons pe_int pa_nil))) pa_nil))) (pe_fld (pv 0) rfl))))), ?_⟩
    have rep : EvR (tOp rRep (tLst (tCons (tTup (tCons (tC (.str "U")) (tCons (tC (.int 1)) tNil))) (tCons (tTup (tCons (tC (.str "D")) (tCons (tC (.int 1)) tNil))) tNil))) (tFld K (tVar 0) "spare")) [some (.ref p)] H [] := fun H1 e Q q => by
      refine evr_two (s := .U) (s' := .D) evi_c evi_c evi_c evi_c H1 e _ fun H2 l n2 s2 r => ?_
      obtain ⟨as, h1, p1⟩ := r
      refine ⟨_, rfl, p, CU, dx, _, _, rfl, s2 _ _ (e _ _ hp), TU.cl, TU.n_spare, (lk _).trans bld_spare, ?_⟩
      refine ⟨l, 0, _, rfl, rfl, h1, by decide, by decide, (by show _ * 0 ≤ sizeLine; omega), fun t nt => q _ t (s2.free nt) (fun x o z => Same.new nt _ _ (s2 _ _ z)) ⟨[], upd_same, .nil⟩⟩
    exact evr_cat (evr_two (s := .E) (s' := .W) evi_c (evi_fld (i := 0) rfl hp TU.cl TU.n_east_bottom ((lk _).trans bld_east_bottom)) evi_c (evi_fld (i := 0) rfl hp TU.cl TU.n_west_bottom ((lk _).trans bld_west_bottom))) rep (by simp) H (Same.refl H) _ fun H2 l n2 s2 r => k H2 l n2 s2 r
abbrev s_Builder_at_top : Stmt := inClass (top 31) 3
abbrev N_Builder_at_top : List Str := ["self"]
theorem sc_Builder_at_top : FnScope N_Builder_at_top ["self"] (defScope s_Builder_at_top) := ⟨rfl, rfl, rfl, by decide +kernel, rfl, by decide +kernel, by decide +kernel⟩
theorem ok_at_top (F : FnP K "at_top" "Builder.at_top" s_Builder_at_top [] [] f fd) (TU : Tu K CU) : FnOk P w K mg base CX0 1 f fd ["self"] (spRuns CU HS.Bld.atTop) := by
  refine F.ok sc_Builder_at_top (fun vs H Q E h => ?_) (fun cdv A outer s H vs Q E hr h => ?_)
  · obtain ⟨p, b, rfl, _⟩ := h
    rfl
  · obtain ⟨p, b, rfl, ⟨dx, pc, fs, hp, lk⟩, k⟩ := h
    refine ⟨_, PSs.nox (pss_one (ps_ret (pe_lst (pa_cons (pe_tup (pa_cons pe_str (pa_cons (pe_fld (pv 0) rfl) pa_nil))) (pa_cons (pe_tup (pa_cons pe_str (pa_cons (pe_fld (pv 0) rfl) pa_nil))) pa_nil))))), ?_⟩
    exact evr_two (s := .E) (s' := .W) evi_c (evi_fld (i := 0) rfl hp TU.cl TU.n_east_top ((lk _).trans bld_east_top)) evi_c (evi_fld (i := 0) rfl hp TU.cl TU.n_west_top ((lk _).trans bld_west_top)) H (Same.refl H) _ fun H2 l n2 s2 r => k H2 l n2 s2 r
abbrev s_Builder_single_offset : Stmt := inClass (top 31) 4
abbrev N_Builder_single_offset : List Str := ["self"]
theorem sc_Builder_single_offset : FnScope N_Builder_single_offset ["self"] (defScope s_Builder_single_offset) := ⟨rfl, rfl, rfl, by decide +kernel, rfl, by decide +kernel, by decide +kernel⟩
theorem ok_single_offset (F : FnP K "single_offset" "Builder.single_offset" s_Builder_single_offset [] [] f fd) (TU : Tu K CU) : FnOk P w K mg base CX0 1 f fd ["self"] (spOffset CU) := by
  refine F.ok sc_Builder_single_offset (fun vs H Q E h => ?_) (fun cdv A outer s H vs Q E hr h => ?_)
  · obtain ⟨p, b, rfl, _⟩ := h
    rfl
  · obtain ⟨p, b, rfl, ⟨dx, pc, fs, hp, lk⟩, k⟩ := h
    refine ⟨_, PSs.nox (pss_cons (ps_if (pt_cmpR op_eq (pe_fld (pv 0) rfl) pe_str (nomark _))
    (pss_one (ps_ret pe_int))
    pss_nil)
  (pss_one (ps_ret (pe_ifExp (pt_cmpR op_eq (pe_fld (pv 0) rfl) pe_str (nomark _)) (pe_fld (pv 0) rfl) (pe_op op_sub (pe_fld (pv 0) rfl) (pe_fld (pv 0) rfl)))))), ?_⟩
    refine ⟨_, rfl, p, CU, dx, _, _, rfl, hp, TU.cl, TU.n_single, (lk _).trans bld_single, rfl, _, rfl, ?_⟩
    have ek : b.offset = (match b.single with | none => 0 | some .E => b.rest | some _ => b.span - b.rest) := rfl
    cases q : b.single with
    | none =>
      rw [q] at ek
      refine ifT (decide_eq_true rfl) ?_
      show Q (.int 0) H
      rw [← show b.offset = 0 from ek]
      exact k
    | some t =>
      rw [q] at ek
      refine ifF (by cases t <;> decide +kernel) ?_
      refine ⟨_, rfl, p, CU, dx, _, _, rfl, hp, TU.cl, TU.n_single, (lk _).trans bld_single, by rw [q]; rfl, _, rfl, ?_⟩
      rw [q]
      have other : b.offset = b.span - b.rest → tOp (rI0 fun i j => .int (i - j)) (tFld K (tVar 0) "span") (tFld K (tVar 0) "rest") (start N_Builder_single_offset [.ref p]) H Q := fun e =>
        ⟨_, rfl, p, CU, dx, _, _, rfl, hp, TU.cl, TU.n_span, (lk _).trans bld_span, _, rfl, p, CU, dx, _, _, rfl, hp, TU.cl, TU.n_rest, (lk _).trans bld_rest, _, _, rfl, rfl, by show Q (.int (b.span - b.rest)) H; rw [← e]; exact k⟩
      cases t with
      | E =>
        refine ifT (by decide +kernel) ⟨_, rfl, p, CU, dx, _, _, rfl, hp, TU.cl, TU.n_rest, (lk _).trans bld_rest, ?_⟩
        rw [← show b.offset = b.rest from ek]
        exact k
      | W => exact ifF (by decide +kernel) (other ek)
      | U => exact ifF (by decide +kernel) (other ek)
      | D => exact ifF (by decide +kernel) (other ek)
abbrev s_Builder_single_run : Stmt := inClass (top 31) 5
abbrev N_Builder_single_run : List Str := ["self"]
theorem sc_Builder_single_run : FnScope N_Builder_single_run ["self"] (defScope s_Builder_single_run) := ⟨rfl, rfl, rfl, by decide +kernel, rfl, by decide +kernel, by decide +kernel⟩
theorem ok_single_run (F : FnP K "single_run" "Builder.single_run" s_Builder_single_run [] [] f fd) (TU : Tu K CU) : FnOk P w K mg base CX0 1 f fd ["self"] (spRuns CU HS.Bld.one) := by
  refine F.ok sc_Builder_single_run (fun vs H Q E h => ?_) (fun cdv A outer s H vs Q E hr h => ?_)
  · obtain ⟨p, b, rfl, _⟩ := h
    rfl
  · obtain ⟨p, b, rfl, ⟨dx, pc, fs, hp, lk⟩, k⟩ := h
    refine ⟨_, PSs.nox (pss_one (ps_ret (pe_ifExp (pt_cmpR op_eq (pe_fld (pv 0) rfl) pe_str (nomark _)) (pe_lst pa_nil) (pe_lst (pa_cons (pe_tup (pa_cons (pe_fld (pv 0) rfl) (pa_cons pe_int pa_nil))) pa_nil))))), ?_⟩
    refine ⟨_, rfl, p, CU, dx, _, _, rfl, hp, TU.cl, TU.n_single, (lk _).trans bld_single, rfl, _, rfl, ?_⟩
    have ek : b.one = (match b.single with | none => [] | some s => [(s, 1)]) := rfl
    cases q : b.single with
    | none =>
      rw [q] at ek
      refine ifT (decide_eq_true rfl) ?_
      exact evr_nil H (Same.refl H) _ fun H2 l n2 s2 r => k H2 l n2 s2 (by rw [ek]; exact r)
    | some t =>
      rw [q] at ek
      refine ifF (by cases t <;> decide +kernel) ?_
      exact evr_one (s := t) (evi_fld (i := 0) rfl hp TU.cl TU.n_single ((lk _).trans (by rw [bld_single, q]; rfl))) evi_c H (Same.refl H) _ fun H2 l n2 s2 r => k H2 l n2 s2 (by rw [ek]; exact r)
abbrev s_Builder_bottom_first : Stmt := inClass (top 31) 6
abbrev N_Builder_bottom_first : List Str := ["self", "offset", "runs"]
theorem sc_Builder_bottom_first : FnScope N_Builder_bottom_first ["self"] (defScope s_Builder_bottom_first) := ⟨rfl, rfl, rfl, by decide +kernel, rfl, by decide +kernel, by decide +kernel⟩
theorem ok_bottom_first (F : FnP K "bottom_first" "Builder.bottom_first" s_Builder_bottom_first [] [] f fd) (TU : Tu K CU) (m_single_offset : Met P w K mg base 1 CU "single_offset" ["self"] (spOffset CU)) (m_at_bottom : Met P w K mg base 1 CU "at_bottom" ["self"] (spRuns CU HS.Bld.atBottom))
    (m_single_run : Met P w K mg base 1 CU "single_run" ["self"] (spRuns CU HS.Bld.one)) (m_at_top : Met P w K mg base 1 CU "at_top" ["self"] (spRuns CU HS.Bld.atTop)) : FnOk P w K mg base CX0 2 f fd ["self"] (spRuns CU HS.Bld.bottomFirst) := by
  refine F.ok sc_Builder_bottom_first (fun vs H Q E h => ?_) (fun cdv A outer s H vs Q E hr h => ?_)
  · obtain ⟨p, b, rfl, _⟩ := h
    rfl
  · obtain ⟨p, b, rfl, hb, k⟩ := h
    obtain ⟨dx, pc, fs, hp, lk⟩ := id hb
    have l1 : b.one.length ≤ 1 := by unfold HS.Bld.one; split <;> simp
    refine ⟨_, PSs.nox (pss_cons (ps_set (i := 1) sc_Builder_bottom_first.nd rfl (Or.inl rfl) (pe_met0 m_single_offset TU.cl hr (pv 0)))
  (pss_cons (ps_set (i := 2) sc_Builder_bottom_first.nd rfl (Or.inl rfl) (pe_op op_cat (pe_op op_cat (pe_op op_cat (pe_lst (pa_cons (pe_tup (pa_cons pe_str (pa_cons (pe_un un_neg (pe_fld (pv 0) rfl)) pa_nil))) pa_nil)) (pe_met0 m_at_bottom TU.cl hr (pv 0))) (pe_lst (pa_cons (pe_tup (pa_cons pe_str (pa_cons (pv 1) pa_nil))) pa_nil))) (pe_met0 m_single_run TU.cl hr (pv 0))))
  (pss_one (ps_ret (pe_op op_cat (pe_op op_cat (pe_op op_cat (pv 2) (pe_lst (pa_cons (pe_tup (pa_cons pe_str (pa_cons (pe_op op_sub (pe_fld (pv 0) rfl) (pv 1)) pa_nil))) pa_nil))) (pe_met0 m_at_top TU.cl hr (pv 0))) (pe_lst (pa_cons (pe_tup (pa_cons pe_str (pa_cons (pe_op op_sub (pe_fld (pv 0) rfl) (pe_fld (pv 0) rfl)) pa_nil))) pa_nil))))))), ?_⟩
    refine ⟨_, rfl, p, dx, _, rfl, hp, (lk _).trans bldm_single_offset, p, b, rfl, hb, ?_⟩
    have e1 : EvR _ [some (.ref p), some (.int b.offset), none] H ([(HS.Step.D, -b.bottom)] ++ b.atBottom ++ [(HS.Step.U, b.offset)] ++ b.one) :=
      evr_cat (evr_cat (evr_cat (evr_one (s := .D) evi_c (evi_neg (evi_fld (i := 0) rfl hp TU.cl TU.n_bottom ((lk _).trans bld_bottom)))) (evr_met (i := 0) (sel := HS.Bld.atBottom) rfl hp ((lk _).trans bldm_at_bottom) hb) (by simp [HS.Bld.atBottom])) (evr_one (s := .U) evi_c (evi_var (i := 1) rfl)) (by simp [HS.Bld.atBottom])) (evr_met (i := 0) (sel := HS.Bld.one) rfl hp ((lk _).trans bldm_single_run) hb) (by simp [HS.Bld.atBottom]; omega)
    refine e1 H (Same.refl H) _ fun H1 l1' n1 s1 r1 => ?_
    have hp1 := s1 _ _ hp
    have hb1 := hb.same s1
    have e2 : EvR _ [some (.ref p), some (.int b.offset), some (.ref l1')] H1 (([(HS.Step.D, -b.bottom)] ++ b.atBottom ++ [(HS.Step.U, b.offset)] ++ b.one) ++ [(HS.Step.U, b.span - b.offset)] ++ b.atTop ++ [(HS.Step.D, b.top - b.rise)]) :=
      evr_cat (evr_cat (evr_catV (i := 2) rfl r1 (evr_one (s := .U) evi_c (evi_sub (evi_fld (i := 0) rfl hp1 TU.cl TU.n_span ((lk _).trans bld_span)) (evi_var (i := 1) rfl))) (by simp [HS.Bld.atBottom]; omega)) (evr_met (i := 0) (sel := HS.Bld.atTop) rfl hp1 ((lk _).trans bldm_at_top) hb1) (by simp [HS.Bld.atBottom, HS.Bld.atTop]; omega))
        (evr_one (s := .D) evi_c (evi_sub (evi_fld (i := 0) rfl hp1 TU.cl TU.n_top ((lk _).trans bld_top)) (evi_fld (i := 0) rfl hp1 TU.cl TU.n_rise ((lk _).trans bld_rise)))) (by simp [HS.Bld.atBottom, HS.Bld.atTop]; omega)
    exact e2 H1 (Same.refl H1) _ fun H2 l2 n2 s2 r2 => k H2 l2 (s1.free n2) (st_same s1 s2) r2
abbrev s_Builder_top_first : Stmt := inClass (top 31) 7
abbrev N_Builder_top_first : List Str := ["self", "offset", "runs"]
theorem sc_Builder_top_first : FnScope N_Builder_top_first ["self"] (defScope s_Builder_top_first) := ⟨rfl, rfl, rfl, by decide +kernel, rfl, by decide +kernel, by decide +kernel⟩
theorem ok_top_first (F : FnP K "top_first" "Builder.top_first" s_Builder_top_first [] [] f fd) (TU : Tu K CU) (m_single_offset : Met P w K mg base 1 CU "single_offset" ["self"] (spOffset CU)) (m_at_bottom : Met P w K mg base 1 CU "at_bottom" ["self"] (spRuns CU HS.Bld.atBottom))
    (m_single_run : Met P w K mg base 1 CU "single_run" ["self"] (spRuns CU HS.Bld.one)) (m_at_top : Met P w K mg base 1 CU "at_top" ["self"] (spRuns CU HS.Bld.atTop)) : FnOk P w K mg base CX0 2 f fd ["self"] (spRuns CU HS.Bld.topFirst) := by
  refine F.ok sc_Builder_top_first (fun vs H Q E h => ?_) (fun cdv A outer s H vs Q E hr h => ?_)
  · obtain ⟨p, b, rfl, _⟩ := h
    rfl
  · obtain ⟨p, b, rfl, hb, k⟩ := h
    obtain ⟨dx, pc, fs, hp, lk⟩ := id hb
    have l1 : b.one.length ≤ 1 := by unfold HS.Bld.one; split <;> simp
    refine ⟨_, PSs.nox (pss_cons (ps_set (i := 1) sc_Builder_top_first.nd rfl (Or.inl rfl) (pe_met0 m_single_offset TU.cl hr (pv 0)))
  (pss_cons (ps_set (i := 2) sc_Builder_top_first.nd rfl (Or.inl rfl) (pe_op op_cat (pe_op op_cat (pe_op op_cat (pe_lst (pa_cons (pe_tup (pa_cons pe_str (pa_cons (pe_fld (pv 0) rfl) pa_nil))) pa_nil)) (pe_met0 m_at_top TU.cl hr (pv 0))) (pe_lst (pa_cons (pe_tup (pa_cons pe_str (pa_cons (pe_op op_sub (pe_fld (pv 0) rfl) (pv 1)) pa_nil))) pa_nil))) (pe_met0 m_single_run TU.cl hr (pv 0))))
  (pss_one (ps_ret (pe_op op_cat (pe_op op_cat (pe_op op_cat (pv 2) (pe_lst (pa_cons (pe_tup (pa_cons pe_str (pa_cons (pv 1) pa_nil))) pa_nil))) (pe_met0 m_at_bottom TU.cl hr (pv 0))) (pe_lst (pa_cons (pe_tup (pa_cons pe_str (pa_cons (pe_op op_sub (pe_fld (pv 0) rfl) (pe_fld (pv 0) rfl)) pa_nil))) pa_nil))))))), ?_⟩
    refine ⟨_, rfl, p, dx, _, rfl, hp, (lk _).trans bldm_single_offset, p, b, rfl, hb, ?_⟩
    have e1 : EvR _ [some (.ref p), some (.int b.offset), none] H ([(HS.Step.U, b.top)] ++ b.atTop ++ [(HS.Step.D, b.span - b.offset)] ++ b.one) :=
      evr_cat (evr_cat (evr_cat (evr_one (s := .U) evi_c (evi_fld (i := 0) rfl hp TU.cl TU.n_top ((lk _).trans bld_top))) (evr_met (i := 0) (sel := HS.Bld.atTop) rfl hp ((lk _).trans bldm_at_top) hb) (by simp [HS.Bld.atTop])) (evr_one (s := .D) evi_c (evi_sub (evi_fld (i := 0) rfl hp TU.cl TU.n_span ((lk _).trans bld_span)) (evi_var (i := 1) rfl))) (by simp [HS.Bld.atTop])) (evr_met (i := 0) (sel := HS.Bld.one) rfl hp ((lk _).trans bldm_single_run) hb) (by simp [HS.Bld.atTop]; omega)
    refine e1 H (Same.refl H) _ fun H1 l1' n1 s1 r1 => ?_
    have hp1 := s1 _ _ hp
    have hb1 := hb.same s1
    have e2 : EvR _ [some (.ref p), some (.int b.offset), some (.ref l1')] H1 (([(HS.Step.U, b.top)] ++ b.atTop ++ [(HS.Step.D, b.span - b.offset)] ++ b.one) ++ [(HS.Step.D, b.offset)] ++ b.atBottom ++ [(HS.Step.U, b.rise - b.bottom)]) :=
      evr_cat (evr_cat (evr_catV (i := 2) rfl r1 (evr_one (s := .D) evi_c (evi_var (i := 1) rfl)) (by simp [HS.Bld.atTop]; omega)) (evr_met (i := 0) (sel := HS.Bld.atBottom) rfl hp1 ((lk _).trans bldm_at_bottom) hb1) (by simp [HS.Bld.atBottom, HS.Bld.atTop]; omega))
        (evr_one (s := .U) evi_c (evi_sub (evi_fld (i := 0) rfl hp1 TU.cl TU.n_rise ((lk _).trans bld_rise)) (evi_fld (i := 0) rfl hp1 TU.cl TU.n_bottom ((lk _).trans bld_bottom)))) (by simp [HS.Bld.atBottom, HS.Bld.atTop]; omega)
    exact e2 H1 (Same.refl H1) _ fun H2 l2 n2 s2 r2 => k H2 l2 (s1.free n2) (st_same s1 s2) r2
end
end HK

namespace HK
open PySem PySem.Spec PyProof.Rows L2
theorem bb_of {X h s j v : Int} {a c : Option Int} (n : HS.Enough X h s j v a c) (g : Geo X h a c) (j1 : j < 2 ^ 190) : BB (HS.cntOf X h j v) s a c := by
  obtain ⟨h1, h2, h3, _, _, _, _⟩ := n.ends
  have es := n.span
  have v0 := n.v0
  have vj := n.vj
  have bx := g.bx
  have bh := g.bh
  have i1 : 0 ≤ HS.iabs h := by unfold HS.iabs; omega
  have ee : (HS.cntOf X h j v).e = max X 0 + (j - v) := rfl
  have ew : (HS.cntOf X h j v).w = max (-X) 0 + (j - v) := rfl
  have hx : max X 0 ≤ HS.iabs X ∧ max (-X) 0 ≤ HS.iabs X := by unfold HS.iabs; omega
  refine ⟨?_, ?_, ?_, ?_⟩
  · exact Bd.mul (Bd.of (by omega) (by omega)) (Bd.of (by omega) (by omega))
  · exact Bd.mul (Bd.of (by omega) (by omega)) (Bd.of (by omega) (by omega))
  · exact Bd.of (by omega) (by omega)
  · rw [es]
    show max (max h 0 + v) (max (-h) 0 + v) - (HS.iabs h + v) = 0
    unfold HS.iabs
    omega
theorem room_ok {lo hi : Option Int} {h h' : Int} (i1 : inB lo hi h = true) (i2 : inB lo hi h' = true) : HS.RoomOk (lo.map (h - ·)) (hi.map (· - h)) (h' - h) := by
  obtain ⟨a1, a2⟩ := Bool.and_eq_true_iff.mp i1
  obtain ⟨b1, b2⟩ := Bool.and_eq_true_iff.mp i2
  constructor
  · intro k e
    cases lo with
    | none => cases e
    | some l =>
      have e' : h - l = k := Option.some.inj e
      have x1 : l ≤ h := of_decide_eq_true a1
      have x2 : l ≤ h' := of_decide_eq_true b1
      omega
  · intro k e
    cases hi with
    | none => cases e
    | some u =>
      have e' : u - h = k := Option.some.inj e
      have x1 : h ≤ u := of_decide_eq_true a2
      have x2 : h' ≤ u := of_decide_eq_true b2
      omega
/-- two heights in a band, bounded numbers -/
structure Sit (x h x' h' : Int) (lo hi : Option Int) : Prop where
  i1 : inB lo hi h = true
  i2 : inB lo hi h' = true
  b1 : Bd h
  bx : HS.iabs (x' - x) < 2 ^ 190
  bh : HS.iabs (h' - h) < 2 ^ 190
theorem Sit.geo {x h x' h' : Int} {lo hi : Option Int} (g : Sit x h x' h' lo hi) : Geo (x' - x) (h' - h) (lo.map (h - ·)) (hi.map (· - h)) := ⟨room_ok g.i1 g.i2, g.bx, g.bh⟩
theorem iabs_bd {z : Int} (h : HS.iabs z < 2 ^ 190) : Bd z := by
  unfold HS.iabs at h
  exact Bd.of (by omega) (by omega)
def spRunsP : Sp := fun vs H Q _ => ∃ (d r : Addr) (X h s j : Int) (a c : Option Int), vs = [.ref d, .int j, .ref r] ∧ St3 H d X h s ∧ St2 H r (vo a) (vo c) ∧ Geo X h a c ∧ 0 ≤ j ∧ j < 2 ^ 190 ∧ HS.iabs s ≤ HS.greatest (HS.mkE X h a c s) j ∧
  ∀ H' l, H l = none → Same H H' → RunsAt H' l (HS.runsOf X h s j (HS.best (HS.mkE X h a c s) j) a c) → Q (.ref l) H'
def spDR (CB : Addr) : Sp := fun vs H Q _ => ∃ (a b p : Addr) (x h s x' h' s' : Int) (lo hi : Option Int), vs = [.ref a, .ref b, .ref p] ∧ St3 H a x h s ∧ St3 H b x' h' s' ∧ BandAt CB H p lo hi ∧ Sit x h x' h' lo hi ∧
  ∀ H' t d r, Same H H' → St2 H' t (.ref d) (.ref r) → St3 H' d (x' - x) (h' - h) (s' - s - h * (x' - x)) → St2 H' r (vo (lo.map (h - ·))) (vo (hi.map (· - h))) → Q (.ref t) H'
def spDistance (CB : Addr) : Sp := fun vs H Q _ => ∃ (a b p : Addr) (x h s x' h' s' : Int) (lo hi : Option Int), vs = [.ref a, .ref b, .ref p] ∧ St3 H a x h s ∧ St3 H b x' h' s' ∧ BandAt CB H p lo hi ∧ Sit x h x' h' lo hi ∧
  HS.depthOf (lo.map (h - ·)) (hi.map (· - h)) ≠ some 0 ∧ HS.iabs (s' - s - h * (x' - x)) < 2 ^ 180 ∧
  ∀ n H', HS.Fewest (HS.mkE (x' - x) (h' - h) (lo.map (h - ·)) (hi.map (· - h)) (s' - s - h * (x' - x))) (HS.iabs (s' - s - h * (x' - x))) n → Same H H' → Q (.int (HS.iabs (x' - x) + HS.iabs (h' - h) + 2 * n)) H'
section
variable {P : Program} {w : World} {K : PySem.W.Frag} {mg : Str → Option Value} {base : Heap} {f CU CE CB : Addr} {fd : FuncData}
abbrev s_Builder_build : Stmt := inClass (top 31) 8
abbrev N_Builder_build : List Str := ["self", "merged", "step", "length"]
theorem sc_Builder_build : FnScope N_Builder_build ["self"] (defScope s_Builder_build) := ⟨rfl, rfl, rfl, by decide +kernel, rfl, by decide +kernel, by decide +kernel⟩
theorem ok_build (F : FnP K "build" "Builder.build" s_Builder_build [] [] f fd) (TU : Tu K CU) (m_bottom_first : Met P w K mg base 2 CU "bottom_first" ["self"] (spRuns CU HS.Bld.bottomFirst)) (m_top_first : Met P w K mg base 2 CU "top_first" ["self"] (spRuns CU HS.Bld.topFirst))
    (c_append_run : Cal P w K mg base 1 "append_run" ["merged", "step", "length"] [] spAppend) : FnOk P w K mg base CX0 3 f fd ["self"] (spRuns CU (fun b => HS.merge b.path)) := by
  refine F.ok sc_Builder_build (fun vs H Q E h => ?_) (fun cdv A outer s H vs Q E hr h => ?_)
  · obtain ⟨p, b, rfl, _⟩ := h
    rfl
  · obtain ⟨p, b, rfl, hb, k⟩ := h
    obtain ⟨dx, pc, fs, hp, lk⟩ := id hb
    refine ⟨_, PSs.nox (pss_cons (ps_set (i := 1) sc_Builder_build.nd rfl (Or.inl rfl) (pe_lst pa_nil))
  (pss_cons (ps_for PassesOwn.never rfl (pi_list (pe_ifExp (pt_cmpR op_ge (pe_fld (pv 0) rfl) pe_int (nomark _)) (pe_met0 m_bottom_first TU.cl hr (pv 0)) (pe_met0 m_top_first TU.cl hr (pv 0)))) (pg_tup rfl (pgs_cons (pg_name (i := 2) sc_Builder_build.nd rfl (Or.inl rfl)) (pgs_cons (pg_name (i := 3) sc_Builder_build.nd rfl (Or.inl rfl)) pgs_nil)))
    (pss_one (ps_expr (pe_cal c_append_run hr (by rfl) (pa_cons (pv 1) (pa_cons (pv 2) (pa_cons (pv 3) pa_nil)))))))
  (pss_one (ps_ret (pv 1))))), ?_⟩
    refine ⟨(by show 0 ≤ sizeLine; decide), fun m nm => ?_⟩
    generalize e1 : upd H m _ = H1
    have s1 := same_up nm e1
    have m1 := at_up e1
    clear e1
    have hp1 := s1 _ _ hp
    have hb1 := hb.same s1
    have hl : b.path.length ≤ 9 := by
      have l1 : b.one.length ≤ 1 := by unfold HS.Bld.one; split <;> simp
      unfold HS.Bld.path
      split
      · simp [HS.Bld.bottomFirst, HS.Bld.atBottom, HS.Bld.atTop]; omega
      · simp [HS.Bld.topFirst, HS.Bld.atBottom, HS.Bld.atTop]; omega
    have e : EvR (tIf (tTest (tOp (rI0 fun i j => .bl (decide (j ≤ i))) (tFld K (tVar 0) "rise") (tC (.int 0)))) (tMeth CU "bottom_first" (spRuns CU HS.Bld.bottomFirst) [] E0 (tVar 0) tNil) (tMeth CU "top_first" (spRuns CU HS.Bld.topFirst) [] E0 (tVar 0) tNil))
        [some (.ref p), some (.ref m), none, none] H1 b.path := by
      refine evr_if (c := decide (0 ≤ b.rise)) (fun H2 s2 R q => ⟨_, rfl, p, CU, dx, _, _, rfl, s2 _ _ hp1, TU.cl, TU.n_rise, (lk _).trans bld_rise, _, _, rfl, rfl, _, rfl, q⟩) (fun c => ?_) (fun c => ?_)
      · have ep : b.path = b.bottomFirst := if_pos (of_decide_eq_true c)
        rw [ep]
        exact evr_met (i := 0) (sel := HS.Bld.bottomFirst) rfl hp1 ((lk _).trans bldm_bottom_first) hb1
      · have ep : b.path = b.topFirst := if_neg (of_decide_eq_false c)
        rw [ep]
        exact evr_met (i := 0) (sel := HS.Bld.topFirst) rfl hp1 ((lk _).trans bldm_top_first) hb1
    refine e H1 (Same.refl H1) _ fun H2 l nl s2 r => ?_
    obtain ⟨as, hl2, pr⟩ := r
    have nlm : l ≠ m := fun z => by rw [z, m1] at nl; cases nl
    have m2 := s2 _ _ m1
    refine ⟨l, rfl, ⟨_, SqL.of hl2⟩, for_list (K := K) (a := l) (xs := as.map V.ref) (fun i σ H3 => ∃ u v, σ = [some (.ref p), some (.ref m), u, v] ∧ RunsAt H3 m ((b.path.take i).foldl HS.app []) ∧ But m H2 H3) ⟨none, none, rfl, ⟨[], m2, .nil⟩, But.refl⟩ ?_ ?_ ?_⟩
    · rintro i σ H3 _ ⟨u, v, rfl, _, b3⟩
      exact SqL.of (b3 _ _ nlm hl2)
    · rintro i x σ H3 hx ⟨u, v, rfl, r3, b3⟩
      rw [List.getElem?_map] at hx
      cases ea : as[i]? with
      | none =>
        rw [ea] at hx
        cases hx
      | some a =>
        rw [ea] at hx
        have ex : V.ref a = x := Option.some.inj hx
        subst ex
        obtain ⟨q, hq, ra⟩ := Paired.get pr ea
        have nam : a ≠ m := ne_of (show H2 a = some _ from ra) m2 (by intro z; cases z)
        have ra3 := b3 _ _ nam ra
        have hi : i < b.path.length := (List.getElem?_eq_some_iff.mp hq).1
        refine ⟨a, _, rfl, SqT.of ra3, rfl, _, _, rfl, _, _, rfl, rfl, ?_⟩
        refine ⟨_, rfl, _, rfl, _, rfl, m, q.1, q.2, _, rfl, r3, ?_, fun H4 r4 b4 => ?_⟩
        · have := fold_len (b.path.take i) []
          rw [List.length_take] at this
          simp at this
          omega
        · refine ⟨_, _, rfl, ?_, b3.trans b4⟩
          rw [take_more hq, List.foldl_append]
          exact r4
    · rintro σ H3 ⟨u, v, rfl, r3, b3⟩
      rw [List.length_map, Paired.len pr, List.take_length] at r3
      exact ⟨_, rfl, k H3 m nm (fun x o z => b3 _ _ (ne_of_none z nm) (s2 _ _ (s1 _ _ z))) r3⟩
abbrev s_build_valid : Stmt := top 32
abbrev N_build_valid : List Str := ["counts", "total", "room"]
theorem sc_build_valid : FnScope N_build_valid ["counts", "total", "room"] (defScope s_build_valid) := ⟨rfl, rfl, rfl, by decide +kernel, rfl, by decide +kernel, by decide +kernel⟩
theorem ok_build_valid (F : FnP K "build_valid" "build_valid" s_build_valid [] [] f fd) (TU : Tu K CU) (k_Builder : Mak P w K mg base 3 "Builder" CU ["self", "counts", "total", "room"] (spBldInit CU)) (m_build : Met P w K mg base 3 CU "build" ["self"] (spRuns CU (fun b => HS.merge b.path))) :
    FnOk P w K mg base CX0 5 f fd ["counts", "total", "room"] spBuildV := by
  refine F.ok sc_build_valid (fun vs H Q E h => ?_) (fun cdv A outer s H vs Q E hr h => ?_)
  · obtain ⟨pc, r, S, n, a, c, rfl, _⟩ := h
    rfl
  · obtain ⟨pc, r, S, n, a, c, rfl, hc, hr2, bb, k⟩ := h
    refine ⟨_, PSs.nox (pss_one (ps_ret (pe_met0 m_build TU.cl hr (pe_mak k_Builder hr (by rfl) (pa_cons (pv 0) (pa_cons (pv 1) (pa_cons (pv 2) pa_nil))))))), ?_⟩
    refine ⟨_, rfl, _, rfl, _, rfl, fun x dx nx ndx ne => ?_⟩
    refine ⟨x, dx, pc, r, S, n, a, c, rfl, upd_same, made_at nx ndx hc, made_at nx ndx hr2, bb, fun H1 e b1 => ⟨rfl, ?_⟩⟩
    have s1 := made_same nx ndx b1
    obtain ⟨d1, pc1, fs1, h1, lk⟩ := id e
    exact ⟨x, d1, fs1, rfl, h1, (lk _).trans bldm_build, x, _, rfl, e, fun H2 l n2 s2 r2 => k H2 l (s1.free n2) (st_same s1 s2) r2⟩
abbrev s_runs_with_pairs : Stmt := top 37
abbrev N_runs_with_pairs : List Str := ["displacement", "pairs", "room", "split"]
theorem sc_runs_with_pairs : FnScope N_runs_with_pairs ["displacement", "pairs", "room"] (defScope s_runs_with_pairs) := ⟨rfl, rfl, rfl, by decide +kernel, rfl, by decide +kernel, by decide +kernel⟩
theorem ok_runs_with_pairs (F : FnP K "runs_with_pairs" "runs_with_pairs" s_runs_with_pairs [] [] f fd) (TE : Te K CE) (c_extents_for : Cal P w K mg base 4 "extents_for" ["displacement", "room"] [] (spExtFor CE)) (m_best_split : Met P w K mg base 3 CE "best_split" ["self", "pairs"] (spBest CE))
    (c_counts_of_split : Cal P w K mg base 1 "counts_of_split" ["displacement", "pairs", "split"] [] spCounts) (c_build_valid : Cal P w K mg base 5 "build_valid" ["counts", "total", "room"] [] spBuildV) : FnOk P w K mg base CX0 6 f fd ["displacement", "pairs", "room"] spRunsP := by
  refine F.ok sc_runs_with_pairs (fun vs H Q E h => ?_) (fun cdv A outer s H vs Q E hr h => ?_)
  · obtain ⟨d, r, X, h, s, j, a, c, rfl, _⟩ := h
    rfl
  · obtain ⟨d, r, X, h, s, j, a, c, rfl, hd, hr2, g, j0, j1, ok, k⟩ := h
    refine ⟨_, PSs.nox (pss_cons (ps_set (i := 3) sc_runs_with_pairs.nd rfl (Or.inl rfl) (pe_met m_best_split TE.cl hr (pe_cal c_extents_for hr (by rfl) (pa_cons (pv 0) (pa_cons (pv 2) pa_nil))) (pa_cons (pv 1) pa_nil)))
  (pss_one (ps_ret (pe_cal c_build_valid hr (by rfl) (pa_cons (pe_cal c_counts_of_split hr (by rfl) (pa_cons (pv 0) (pa_cons (pv 1) (pa_cons (pv 3) pa_nil)))) (pa_cons (pe_ix ix_tup (pv 0) pe_int (fun _ _ => rfl)) (pa_cons (pv 2) pa_nil))))))), ?_⟩
    refine ⟨_, rfl, _, rfl, d, r, X, h, s, a, c, rfl, hd, hr2, fun H1 p s1 e => ?_⟩
    obtain ⟨dx, hp⟩ := id e
    refine ⟨p, dx, _, rfl, hp, ext_m4, _, rfl, p, _, j, rfl, e, g.eb s, j0, j1, fun H2 s2 => ?_⟩
    have s12 := st_same s1 s2
    refine ⟨_, rfl, _, rfl, _, rfl, d, X, h, s, j, _, rfl, s12 _ _ hd, fun H3 t s3 ht => ?_⟩
    have s13 := st_same s12 s3
    refine ⟨_, rfl, _, _, _, _, rfl, rfl, SqT.of (s13 _ _ hd), at2, _, rfl, t, r, s, _, a, c, rfl, ht, s13 _ _ hr2, bb_of (HS.Enough.of g.room j0 ok) g j1, fun H4 l n4 s4 r4 => ?_⟩
    exact k H4 l (s13.free n4) (st_same s13 s4) r4
abbrev s_displacement_and_room : Stmt := top 38
abbrev N_displacement_and_room : List Str := ["start", "end", "band", "limits", "room"]
theorem sc_displacement_and_room : FnScope N_displacement_and_room ["start", "end", "band"] (defScope s_displacement_and_room) := ⟨rfl, rfl, rfl, by decide +kernel, rfl, by decide +kernel, by decide +kernel⟩
theorem ok_displacement_and_room (F : FnP K "displacement_and_room" "displacement_and_room" s_displacement_and_room [] [] f fd) (c_check_state : Cal P w K mg base 3 "check_state" ["value"] [] spCheckState) (c_to_band : Cal P w K mg base 1 "to_band" ["value"] [] (spToBand CB)) (TB : Tb K mg CB)
    (m_room : Met P w K mg base 3 CB "room" ["self", "height"] (spRoom CB)) (c_check_height : Cal P w K mg base 2 "check_height" ["height", "band"] [] (spCheckHeight CB)) (c_difference : Cal P w K mg base 1 "difference" ["start", "end"] [] spDiff) : FnOk P w K mg base CX0 4 f fd ["start", "end", "band"] (spDR CB) := by
  refine F.ok sc_displacement_and_room (fun vs H Q E h => ?_) (fun cdv A outer s H vs Q E hr h => ?_)
  · obtain ⟨a, b, p, x, h, s, x', h', s', lo, hi, rfl, _⟩ := h
    rfl
  · obtain ⟨a, b, p, x, h, s, x', h', s', lo, hi, rfl, ha, hb, hp, g, k⟩ := h
    refine ⟨_, PSs.nox (pss_cons (ps_expr (pe_cal c_check_state hr (by rfl) (pa_cons (pv 0) pa_nil)))
  (pss_cons (ps_expr (pe_cal c_check_state hr (by rfl) (pa_cons (pv 1) pa_nil)))
  (pss_cons (ps_set (i := 3) sc_displacement_and_room.nd rfl (Or.inl rfl) (pe_cal c_to_band hr (by rfl) (pa_cons (pv 2) pa_nil)))
  (pss_cons (ps_set (i := 4) sc_displacement_and_room.nd rfl (Or.inl rfl) (pe_met m_room TB.cl hr (pv 3) (pa_cons (pe_ix ix_tup (pv 0) pe_int (fun _ _ => rfl)) pa_nil)))
  (pss_cons (ps_expr (pe_cal c_check_height hr (by rfl) (pa_cons (pe_ix ix_tup (pv 1) pe_int (fun _ _ => rfl)) (pa_cons (pv 3) pa_nil))))
  (pss_one (ps_ret (pe_tup (pa_cons (pe_cal c_difference hr (by rfl) (pa_cons (pv 0) (pa_cons (pv 1) pa_nil))) (pa_cons (pv 4) pa_nil)))))))))), ?_⟩
    refine ⟨_, rfl, a, x, h, s, rfl, ha, fun H1 s1 => ?_⟩
    refine ⟨_, rfl, b, x', h', s', rfl, s1 _ _ hb, fun H2 s2 => ?_⟩
    have s12 := st_same s1 s2
    have hp2 := hp.same s12
    obtain ⟨dx, hp2'⟩ := id hp2
    refine ⟨_, rfl, p, lo, hi, rfl, hp2, ?_⟩
    refine ⟨_, rfl, p, dx, _, rfl, hp2', bandFs_no (by decide +kernel) (by decide +kernel), _, rfl, _, _, _, _, rfl, rfl, SqT.of (s12 _ _ ha), at1, p, h, lo, hi, rfl, hp2, g.i1, fun H3 r s3 hr3 => ?_⟩
    have s13 := st_same s12 s3
    refine ⟨_, rfl, _, _, _, _, rfl, rfl, SqT.of (s13 _ _ hb), at1, _, rfl, p, h', lo, hi, rfl, hp.same s13, g.i2, ?_⟩
    refine ⟨_, rfl, _, rfl, a, b, x, h, s, x', h', s', rfl, s13 _ _ ha, s13 _ _ hb, g.b1, iabs_bd g.bx, fun H4 d s4 hd => ?_⟩
    refine ⟨_, rfl, (by show 2 ≤ sizeLine; decide), fun t nt => ?_⟩
    have s5 := Same.new (o := .tup [.ref d, .ref r]) nt
    exact k _ t d r (st_same (st_same s13 s4) s5) upd_same (s5 _ _ hd) (s5 _ _ (s4 _ _ hr3))
abbrev s_distance : Stmt := top 39
abbrev N_distance : List Str := ["start", "end", "band", "displacement", "room", "length"]
theorem sc_distance : FnScope N_distance ["start", "end", "band"] (defScope s_distance) := ⟨rfl, rfl, rfl, by decide +kernel, rfl, by decide +kernel, by decide +kernel⟩
theorem ok_distance (F : FnP K "distance" "distance" s_distance [] [("band", .non)] f fd) (c_displacement_and_room : Cal P w K mg base 4 "displacement_and_room" ["start", "end", "band"] [] (spDR CB)) (c_fewest_steps : Cal P w K mg base 7 "fewest_steps" ["displacement", "room"] [] spSteps) :
    FnOk P w K mg base CX0 8 f fd ["start", "end", "band"] (spDistance CB) := by
  refine F.ok sc_distance (fun vs H Q E h => ?_) (fun cdv A outer s H vs Q E hr h => ?_)
  · obtain ⟨a, b, p, x, h, s, x', h', s', lo, hi, rfl, _⟩ := h
    rfl
  · obtain ⟨a, b, p, x, h, s, x', h', s', lo, hi, rfl, ha, hb, hp, g, dn, sb, k⟩ := h
    refine ⟨_, PSs.nox (pss_cons (ps_asg (pe_cal c_displacement_and_room hr (by rfl) (pa_cons (pv 0) (pa_cons (pv 1) (pa_cons (pv 2) pa_nil)))) (pg_tup rfl (pgs_cons (pg_name (i := 3) sc_distance.nd rfl (Or.inl rfl)) (pgs_cons (pg_name (i := 4) sc_distance.nd rfl (Or.inl rfl)) pgs_nil))))
  (pss_cons (ps_set (i := 5) sc_distance.nd rfl (Or.inl rfl) (pe_cal c_fewest_steps hr (by rfl) (pa_cons (pv 3) (pa_cons (pv 4) pa_nil))))
  (pss_cons (ps_if (pt_cmpR op_isN (pv 5) pe_non (nomark _))
    (pss_one ps_never)
    pss_nil)
  (pss_one (ps_ret (pv 5)))))), ?_⟩
    refine ⟨_, rfl, _, rfl, _, rfl, a, b, p, x, h, s, x', h', s', lo, hi, rfl, ha, hb, hp, g, fun H1 t d r s1 ht hd hr2 => ?_⟩
    refine ⟨t, _, rfl, SqT.of ht, rfl, _, _, rfl, _, _, rfl, rfl, ?_⟩
    refine ⟨_, rfl, _, rfl, d, r, _, _, _, _, _, rfl, hd, hr2, g.geo, dn, sb, fun n H2 fw s2 => ?_⟩
    refine ⟨_, rfl, rfl, _, rfl, iteF ?_⟩
    exact ⟨_, rfl, k n H2 fw (st_same s1 s2)⟩
end
end HK

namespace HK
open PySem PySem.Spec PyProof.Rows L2
def pairsFor (X h n : Int) : Option Int := if 0 ≤ n - HS.iabs X - HS.iabs h ∧ (n - HS.iabs X - HS.iabs h) % 2 = 0 then some ((n - HS.iabs X - HS.iabs h) / 2) else none
theorem pairsFor_some {X h n j : Int} (e : pairsFor X h n = some j) : 0 ≤ j ∧ n = HS.iabs X + HS.iabs h + 2 * j := by
  unfold pairsFor at e
  split at e
  · cases e
    omega
  · cases e
/-- the two bounds of the sums -/
def lowS (X h : Int) (a c : Option Int) (j : Int) : Int := -(HS.greatest (HS.mkE X h a c (-1)) j)
def highS (X h : Int) (a c : Option Int) (j : Int) : Int := HS.greatest (HS.mkE X h a c 1) j
/-- is the sum S reachable in n steps -/
def reach (X h : Int) (a c : Option Int) (n S : Int) : Bool := match pairsFor X h n with
  | none => false
  | some j => decide (lowS X h a c j ≤ S) && decide (S ≤ highS X h a c j)
theorem mkE_sign {X h s : Int} {a c : Option Int} : HS.mkE X h a c s = HS.mkE X h a c (if 0 ≤ s then 1 else -1) := by
  have e : HS.same s X = HS.same (if 0 ≤ s then 1 else -1) X := by
    unfold HS.same
    by_cases q : 0 ≤ s
    · rw [if_pos q, decide_eq_true q, decide_eq_true (show (0 : Int) ≤ 1 by decide)]
    · rw [if_neg q, decide_eq_false q, decide_eq_false (show ¬ (0 : Int) ≤ -1 by decide)]
  unfold HS.mkE
  rw [e]
/-- within the bounds: the extent is enough -/
theorem enough_iff {X h S j : Int} {a c : Option Int} (R : HS.RoomOk a c h) (j0 : 0 ≤ j) : (lowS X h a c j ≤ S ∧ S ≤ highS X h a c j) ↔ HS.iabs S ≤ HS.greatest (HS.mkE X h a c S) j := by
  have g1 := HS.greatest_nn (HS.mkE_wf (X := X) R 1) j0
  have g2 := HS.greatest_nn (HS.mkE_wf (X := X) R (-1)) j0
  rw [mkE_sign]
  unfold lowS highS HS.iabs
  by_cases q : 0 ≤ S
  · rw [if_pos q]
    omega
  · rw [if_neg q]
    omega
def spPairs : Sp := fun vs H Q _ => ∃ X h n : Int, vs = [.int X, .int h, .int n] ∧ Q (vo (pairsFor X h n)) H
/-- what the sums' functions hand back -/
def SumsQ (x h s x' h' n : Int) (lo hi : Option Int) (H : Hp) (Q : VK) : Prop := ∀ H', Same H H' → (pairsFor (x' - x) (h' - h) n = none → Q .non H') ∧
  ∀ j t, pairsFor (x' - x) (h' - h) n = some j → St2 H' t (.int (s + h * (x' - x) + lowS (x' - x) (h' - h) (lo.map (h - ·)) (hi.map (· - h)) j)) (.int (s + h * (x' - x) + highS (x' - x) (h' - h) (lo.map (h - ·)) (hi.map (· - h)) j)) → Q (.ref t) H'
def spSW (CB : Addr) : Sp := fun vs H Q _ => ∃ (a p : Addr) (x h s x' h' n : Int) (lo hi : Option Int), vs = [.ref a, .int x', .int h', .int n, .ref p] ∧ St3 H a x h s ∧ BandAt CB H p lo hi ∧ Sit x h x' h' lo hi ∧ n < 2 ^ 190 ∧ SumsQ x h s x' h' n lo hi H Q
def spSA (CB : Addr) : Sp := fun vs H Q _ => ∃ (a p : Addr) (x h s x' h' n : Int) (lo hi : Option Int), vs = [.ref a, .int x', .int h', .int n, .ref p] ∧ St3 H a x h s ∧ BandAt CB H p lo hi ∧ Sit x h x' h' lo hi ∧ 0 ≤ n ∧ n < 2 ^ 190 ∧ SumsQ x h s x' h' n lo hi H Q
/-- the reach of an end from a start -/
def reachB (x h s x' h' s' n : Int) (lo hi : Option Int) : Bool := reach (x' - x) (h' - h) (lo.map (h - ·)) (hi.map (· - h)) n (s' - s - h * (x' - x))
def spReach (CB : Addr) : Sp := fun vs H Q _ => ∃ (a b p : Addr) (x h s x' h' s' n : Int) (lo hi : Option Int), vs = [.ref a, .ref b, .int n, .ref p] ∧ St3 H a x h s ∧ St3 H b x' h' s' ∧ BandAt CB H p lo hi ∧ Sit x h x' h' lo hi ∧ 0 ≤ n ∧ n < 2 ^ 190 ∧
  ∀ H', Same H H' → Q (.bl (reachB x h s x' h' s' n lo hi)) H'
def spRunsL (CB CX' : Addr) : Sp := fun vs H Q E => ∃ (a b p : Addr) (x h s x' h' s' n : Int) (lo hi : Option Int), vs = [.ref a, .ref b, .int n, .ref p] ∧ St3 H a x h s ∧ St3 H b x' h' s' ∧ BandAt CB H p lo hi ∧ Sit x h x' h' lo hi ∧ 0 ≤ n ∧ n < 2 ^ 190 ∧
  ∀ H', Same H H' → (reachB x h s x' h' s' n lo hi = true → ∀ l M, H l = none → RunsAt H' l M → HS.Good M (x' - x) (h' - h) (s' - s - h * (x' - x)) n (lo.map (h - ·)) (hi.map (· - h)) → Q (.ref l) H') ∧
    (reachB x h s x' h' s' n lo hi = false → E (.ref CX') none H')
/-- the class Unreachable -/
structure Tx (K : PySem.W.Frag) (mg : Str → Option Value) (CX' : Addr) : Prop where
  g : mg "Unreachable" = some (.ref CX')
  x : PySem.W.excIn K CX' [.type "LookupError", .type "Exception", .type "BaseException", .type "object"] "LookupError.__new__" = true
  k : PySem.W.keepIn K (.ref CX') = true
  b : PySem.W.subIn K (.ref CX') (.type "BaseException") = some true
  t : PySem.W.typeIn K (.ref CX') = some (.type "type")
  e : PySem.W.exmOne K (.ref CX') (.ref CX') = some true
section
variable {P : Program} {w : World} {K : PySem.W.Frag} {mg : Str → Option Value} {base : Heap} {f CU CE CB CX' : Addr} {fd : FuncData}
abbrev s_pairs_for : Stmt := top 41
abbrev N_pairs_for : List Str := ["x", "h", "length", "left"]
theorem sc_pairs_for : FnScope N_pairs_for ["x", "h", "length"] (defScope s_pairs_for) := ⟨rfl, rfl, rfl, by decide +kernel, rfl, by decide +kernel, by decide +kernel⟩
theorem ok_pairs_for (F : FnP K "pairs_for" "pairs_for" s_pairs_for [] [] f fd) (B : Bi mg) : FnOk P w K mg base CX0 1 f fd ["x", "h", "length"] spPairs := by
  refine F.ok sc_pairs_for (fun vs H Q E h => ?_) (fun cdv A outer s H vs Q E hr h => ?_)
  · obtain ⟨X, h, n, rfl, _⟩ := h
    rfl
  · obtain ⟨X, h, n, rfl, k⟩ := h
    refine ⟨_, PSs.nox (pss_cons (ps_set (i := 3) sc_pairs_for.nd rfl (Or.inl rfl) (pe_op op_sub (pe_op op_sub (pv 2) (pe_callB call_abs (by rfl) B.abs (by decide +kernel) (pa_cons (pv 0) pa_nil))) (pe_callB call_abs (by rfl) B.abs (by decide +kernel) (pa_cons (pv 1) pa_nil))))
  (pss_one (ps_ret (pe_ifExp (PW.pt (pw_and (pt_cmpR op_ge (pv 3) pe_int (nomark _)) (pw_and1 (pt_cmpR op_eq (pe_op op_mod (pv 3) pe_int) pe_int (nomark _))))) (pe_op op_fdivW (pv 3) pe_int) pe_non)))), ?_⟩
    refine ⟨_, rfl, _, rfl, X, rfl, _, _, rfl, rfl, _, rfl, h, rfl, _, _, rfl, rfl, ?_⟩
    refine ⟨_, rfl, _, _, rfl, rfl, _, rfl, ?_⟩
    have ek : pairsFor X h n = if 0 ≤ n - HS.iabs X - HS.iabs h ∧ (n - HS.iabs X - HS.iabs h) % 2 = 0 then some ((n - HS.iabs X - HS.iabs h) / 2) else none := rfl
    by_cases c : 0 ≤ n - HS.iabs X - HS.iabs h
    · refine ifT (decide_eq_true c) ?_
      refine ⟨_, rfl, _, _, rfl, rfl, (by show (0 : Int) < 2; decide), rfl, _, rfl, ?_⟩
      by_cases c2 : (n - HS.iabs X - HS.iabs h) % 2 = 0
      · rw [if_pos ⟨c, c2⟩] at ek
        refine ifT (decide_eq_true (congrArg V.int c2)) ⟨_, rfl, _, _, rfl, rfl, div2, ?_⟩
        rw [ek] at k
        exact k
      · rw [if_neg fun z => c2 z.2] at ek
        refine ifF (decide_eq_false fun z => c2 (by injection z)) ?_
        rw [ek] at k
        exact k
    · refine ifF (decide_eq_false c) (iteF ?_)
      rw [if_neg fun z => c z.1] at ek
      rw [ek] at k
      exact k
abbrev s_sums_within : Stmt := top 42
abbrev N_sums_within : List Str := ["start", "x", "h", "length", "limits", "width", "rise", "pairs", "least", "greatest", "base"]
theorem sc_sums_within : FnScope N_sums_within ["start", "x", "h", "length", "limits"] (defScope s_sums_within) := ⟨rfl, rfl, rfl, by decide +kernel, rfl, by decide +kernel, by decide +kernel⟩
theorem ok_sums_within (F : FnP K "sums_within" "sums_within" s_sums_within [] [] f fd) (TB : Tb K mg CB) (c_pairs_for : Cal P w K mg base 1 "pairs_for" ["x", "h", "length"] [] spPairs) (m_includes : Met P w K mg base 1 CB "includes" ["self", "height"] (spIncludes CB))
    (c_range_with_pairs : Cal P w K mg base 5 "range_with_pairs" ["x", "h", "pairs", "room"] [] spRange) (m_room : Met P w K mg base 3 CB "room" ["self", "height"] (spRoom CB)) : FnOk P w K mg base CX0 6 f fd ["start", "x", "h", "length", "limits"] (spSW CB) := by
  refine F.ok sc_sums_within (fun vs H Q E h => ?_) (fun cdv A outer s H vs Q E hr h => ?_)
  · obtain ⟨a, p, x, h, s, x', h', n, lo, hi, rfl, _⟩ := h
    rfl
  · obtain ⟨a, p, x, h, s, x', h', n, lo, hi, rfl, ha, hp, g, n1, k⟩ := h
    have ta := SqT.of (K := K) ha
    obtain ⟨dx, hp'⟩ := id hp
    refine ⟨_, PSs.nox (pss_cons (ps_par (i := 5) (j := 6) rfl sc_sums_within.nd rfl rfl (by decide) rfl rfl (pa_cons (pe_op op_sub (pv 1) (pe_ix ix_tup (pv 0) pe_int (fun _ _ => rfl))) (pa_cons (pe_op op_sub (pv 2) (pe_ix ix_tup (pv 0) pe_int (fun _ _ => rfl))) pa_nil)) (by rfl))
  (pss_cons (ps_set (i := 7) sc_sums_within.nd rfl (Or.inl rfl) (pe_cal c_pairs_for hr (by rfl) (pa_cons (pv 5) (pa_cons (pv 6) (pa_cons (pv 3) pa_nil)))))
  (pss_cons (ps_if (PW.pt (pw_or (pt_cmpR op_isN (pv 7) pe_non (nomark _)) (pw_or1 (pt_not (pt_val (pe_met m_includes TB.cl hr (pv 4) (pa_cons (pv 2) pa_nil)))))))
    (pss_one (ps_ret pe_non))
    pss_nil)
  (pss_cons (ps_asg (pe_cal c_range_with_pairs hr (by rfl) (pa_cons (pv 5) (pa_cons (pv 6) (pa_cons (pv 7) (pa_cons (pe_met m_room TB.cl hr (pv 4) (pa_cons (pe_ix ix_tup (pv 0) pe_int (fun _ _ => rfl)) pa_nil)) pa_nil))))) (pg_tup rfl (pgs_cons (pg_name (i := 8) sc_sums_within.nd rfl (Or.inl rfl)) (pgs_cons (pg_name (i := 9) sc_sums_within.nd rfl (Or.inl rfl)) pgs_nil))))
  (pss_cons (ps_set (i := 10) sc_sums_within.nd rfl (Or.inl rfl) (pe_op op_add (pe_ix ix_tup (pv 0) pe_int (fun _ _ => rfl)) (pe_op op_mulW (pe_ix ix_tup (pv 0) pe_int (fun _ _ => rfl)) (pv 5))))
  (pss_one (ps_ret (pe_tup (pa_cons (pe_op op_add (pv 10) (pv 8)) (pa_cons (pe_op op_add (pv 10) (pv 9)) pa_nil)))))))))), ?_⟩
    refine ⟨_, rfl, _, rfl, _, _, _, _, rfl, rfl, ta, at0, _, _, rfl, rfl, _, rfl, _, rfl, _, _, _, _, rfl, rfl, ta, at1, _, _, rfl, rfl, _, _, rfl, ?_⟩
    refine ⟨_, rfl, _, rfl, _, rfl, _, _, n, rfl, ?_⟩
    refine ⟨_, rfl, rfl, _, rfl, ?_⟩
    cases q : pairsFor (x' - x) (h' - h) n with
    | none => exact iteT (iteT ((k H (Same.refl H)).1 q))
    | some j =>
      obtain ⟨j0, ej⟩ := pairsFor_some q
      have ix : 0 ≤ HS.iabs (x' - x) := by unfold HS.iabs; omega
      have ih : 0 ≤ HS.iabs (h' - h) := by unfold HS.iabs; omega
      refine iteF ⟨_, rfl, p, dx, _, rfl, hp', bandFs_no (by decide +kernel) (by decide +kernel), _, rfl, p, h', lo, hi, rfl, hp, _, rfl, ifF (by rw [g.i2]; rfl) ?_⟩
      refine ⟨_, rfl, _, rfl, _, rfl, _, rfl, p, dx, _, rfl, hp', bandFs_no (by decide +kernel) (by decide +kernel), _, rfl, _, _, _, _, rfl, rfl, ta, at1, p, h, lo, hi, rfl, hp, g.i1, fun H1 r s1 hr1 => ?_⟩
      refine ⟨r, _, _, j, _, _, rfl, hr1, g.geo, j0, by omega, fun H2 t s2 ht => ?_⟩
      have s12 := st_same s1 s2
      have ta2 := SqT.of (K := K) (s12 _ _ ha)
      refine ⟨t, _, rfl, SqT.of ht, rfl, _, _, rfl, _, _, rfl, rfl, ?_⟩
      refine ⟨_, rfl, _, _, _, _, rfl, rfl, ta2, at2, _, rfl, _, _, _, _, rfl, rfl, ta2, at1, _, rfl, _, _, rfl, rfl, Bd.mul g.b1 (iabs_bd g.bx), _, _, rfl, rfl, ?_⟩
      refine ⟨_, rfl, _, rfl, _, _, rfl, rfl, _, rfl, _, rfl, _, _, rfl, rfl, (by show 2 ≤ sizeLine; decide), fun u nu => ?_⟩
      exact (k _ (fun b o z => Same.new nu _ _ (s12 _ _ z))).2 j u q upd_same
abbrev s_sums_after : Stmt := top 43
abbrev N_sums_after : List Str := ["start", "x", "h", "length", "band", "limits"]
theorem sc_sums_after : FnScope N_sums_after ["start", "x", "h", "length", "band"] (defScope s_sums_after) := ⟨rfl, rfl, rfl, by decide +kernel, rfl, by decide +kernel, by decide +kernel⟩
theorem ok_sums_after (F : FnP K "sums_after" "sums_after" s_sums_after [] [("band", .non)] f fd) (c_check_state : Cal P w K mg base 3 "check_state" ["value"] [] spCheckState) (c_check_integer : Cal P w K mg base 2 "check_integer" ["value", "least"] [.non] spCheck)
    (c_check_integer2 : Cal P w K mg base 2 "check_integer" ["value", "least"] [] spCheck) (c_to_band : Cal P w K mg base 1 "to_band" ["value"] [] (spToBand CB)) (c_check_height : Cal P w K mg base 2 "check_height" ["height", "band"] [] (spCheckHeight CB))
    (c_sums_within : Cal P w K mg base 6 "sums_within" ["start", "x", "h", "length", "limits"] [] (spSW CB)) : FnOk P w K mg base CX0 7 f fd ["start", "x", "h", "length", "band"] (spSA CB) := by
  refine F.ok sc_sums_after (fun vs H Q E h => ?_) (fun cdv A outer s H vs Q E hr h => ?_)
  · obtain ⟨a, p, x, h, s, x', h', n, lo, hi, rfl, _⟩ := h
    rfl
  · obtain ⟨a, p, x, h, s, x', h', n, lo, hi, rfl, ha, hp, g, n0, n1, k⟩ := h
    refine ⟨_, PSs.nox (pss_cons (ps_expr (pe_cal c_check_state hr (by rfl) (pa_cons (pv 0) pa_nil)))
  (pss_cons (ps_expr (pe_cal c_check_integer hr (by rfl) (pa_cons (pv 1) pa_nil)))
  (pss_cons (ps_expr (pe_cal c_check_integer hr (by rfl) (pa_cons (pv 2) pa_nil)))
  (pss_cons (ps_expr (pe_cal c_check_integer2 hr (by rfl) (pa_cons (pv 3) (pa_cons pe_int pa_nil))))
  (pss_cons (ps_set (i := 5) sc_sums_after.nd rfl (Or.inl rfl) (pe_cal c_to_band hr (by rfl) (pa_cons (pv 4) pa_nil)))
  (pss_cons (ps_expr (pe_cal c_check_height hr (by rfl) (pa_cons (pe_ix ix_tup (pv 0) pe_int (fun _ _ => rfl)) (pa_cons (pv 5) pa_nil))))
  (pss_one (ps_ret (pe_cal c_sums_within hr (by rfl) (pa_cons (pv 0) (pa_cons (pv 1) (pa_cons (pv 2) (pa_cons (pv 3) (pa_cons (pv 5) pa_nil)))))))))))))), ?_⟩
    refine ⟨_, rfl, a, x, h, s, rfl, ha, fun H1 s1 => ?_⟩
    refine ⟨_, rfl, x', _, rfl, Or.inl rfl, ?_⟩
    refine ⟨_, rfl, h', _, rfl, Or.inl rfl, ?_⟩
    refine ⟨_, rfl, n, _, rfl, Or.inr ⟨0, rfl, n0⟩, ?_⟩
    refine ⟨_, rfl, p, lo, hi, rfl, hp.same s1, ?_⟩
    refine ⟨_, rfl, _, _, _, _, rfl, rfl, SqT.of (s1 _ _ ha), at1, _, rfl, p, h, lo, hi, rfl, hp.same s1, g.i1, ?_⟩
    exact ⟨_, rfl, _, rfl, _, rfl, _, rfl, _, rfl, a, p, x, h, s, x', h', n, lo, hi, rfl, s1 _ _ ha, hp.same s1, g, n1, fun H2 s2 => k H2 (st_same s1 s2)⟩
abbrev s_is_reachable : Stmt := top 44
abbrev N_is_reachable : List Str := ["start", "end", "length", "band", "sums"]
theorem sc_is_reachable : FnScope N_is_reachable ["start", "end", "length", "band"] (defScope s_is_reachable) := ⟨rfl, rfl, rfl, by decide +kernel, rfl, by decide +kernel, by decide +kernel⟩
theorem ok_is_reachable (F : FnP K "is_reachable" "is_reachable" s_is_reachable [] [("band", .non)] f fd) (c_check_state : Cal P w K mg base 3 "check_state" ["value"] [] spCheckState)
    (c_sums_after : CalN P w K mg base CX0 7 4 "sums_after" ["start", "x", "h", "length", "band"] ["band"] (spSA CB)) : FnOk P w K mg base CX0 8 f fd ["start", "end", "length", "band"] (spReach CB) := by
  refine F.ok sc_is_reachable (fun vs H Q E h => ?_) (fun cdv A outer s H vs Q E hr h => ?_)
  · obtain ⟨a, b, p, x, h, s, x', h', s', n, lo, hi, rfl, _⟩ := h
    rfl
  · obtain ⟨a, b, p, x, h, s, x', h', s', n, lo, hi, rfl, ha, hb, hp, g, n0, n1, k⟩ := h
    refine ⟨_, PSs.nox (pss_cons (ps_expr (pe_cal c_check_state hr (by rfl) (pa_cons (pv 0) pa_nil)))
  (pss_cons (ps_expr (pe_cal c_check_state hr (by rfl) (pa_cons (pv 1) pa_nil)))
  (pss_cons (ps_set (i := 4) sc_is_reachable.nd rfl (Or.inl rfl) (pe_calN c_sums_after hr (by rfl) pass0 (pa_cons (pv 0) (pa_cons (pe_ix ix_tup (pv 1) pe_int (fun _ _ => rfl)) (pa_cons (pe_ix ix_tup (pv 1) pe_int (fun _ _ => rfl)) (pa_cons (pv 2) pa_nil)))) (pk_cons (pv 3) pk_nil)))
  (pss_one (ps_ret (pe_and (pe_cmpR op_notN (pv 4) pe_non (nomark _)) (pe_one (pe_chain op_le op_le (pe_ix ix_tup (pv 4) pe_int (fun _ _ => rfl)) (pe_ix ix_tup (pv 1) pe_int (fun _ _ => rfl)) (pe_ix ix_tup (pv 4) pe_int (fun _ _ => rfl)))))))))), ?_⟩
    refine ⟨_, rfl, a, x, h, s, rfl, ha, fun H1 s1 => ?_⟩
    refine ⟨_, rfl, b, x', h', s', rfl, s1 _ _ hb, fun H2 s2 => ?_⟩
    have s12 := st_same s1 s2
    have tb := SqT.of (K := K) (s12 _ _ hb)
    refine ⟨_, rfl, _, rfl, _, _, _, _, rfl, rfl, tb, at0, _, rfl, _, _, _, _, rfl, rfl, tb, at1, _, rfl, _, rfl, rfl, rfl, a, p, x, h, s, x', h', n, lo, hi, rfl, s12 _ _ ha, hp.same s12, g, n0, n1, fun H3 s3 => ⟨fun q => ?_, fun j t q ht => ?_⟩⟩
    · refine ⟨_, rfl, rfl, _, rfl, iteF ?_⟩
      have e : reachB x h s x' h' s' n lo hi = false := by unfold reachB reach; rw [q]
      have := k H3 (st_same s12 s3)
      rw [e] at this
      exact this
    · have e : reachB x h s x' h' s' n lo hi = (decide (lowS (x' - x) (h' - h) (lo.map (h - ·)) (hi.map (· - h)) j ≤ s' - s - h * (x' - x)) && decide (s' - s - h * (x' - x) ≤ highS (x' - x) (h' - h) (lo.map (h - ·)) (hi.map (· - h)) j)) := by unfold reachB reach; rw [q]
      have kk := k H3 (st_same s12 s3)
      rw [e] at kk
      have tb3 := SqT.of (K := K) ((st_same s12 s3) _ _ hb)
      have tt := SqT.of (K := K) ht
      refine ⟨_, rfl, rfl, _, rfl, iteT ?_⟩
      refine ⟨_, rfl, _, _, _, _, rfl, rfl, tt, at0, _, rfl, _, _, _, _, rfl, rfl, tb3, at2, _, _, rfl, rfl, _, rfl, ?_⟩
      generalize lowS (x' - x) (h' - h) (lo.map (h - ·)) (hi.map (· - h)) j = L at *
      generalize highS (x' - x) (h' - h) (lo.map (h - ·)) (hi.map (· - h)) j = U at *
      generalize h * (x' - x) = W at *
      by_cases c : s + W + L ≤ s'
      · rw [decide_eq_true (show L ≤ s' - s - W by omega)] at kk
        refine ifT (decide_eq_true c) ⟨_, rfl, _, _, _, _, rfl, rfl, tt, at1, _, _, rfl, rfl, ?_⟩
        have e2 : decide (s' ≤ s + W + U) = (true && decide (s' - s - W ≤ U)) := by
          rw [Bool.true_and]
          exact decide_eq_decide.mpr (by omega)
        show Q (.bl (decide (s' ≤ s + W + U))) H3
        rw [e2]
        exact kk
      · rw [decide_eq_false (show ¬ L ≤ s' - s - W by omega)] at kk
        exact ifF (decide_eq_false c) kk
abbrev s_runs_of_length : Stmt := top 45
abbrev N_runs_of_length : List Str := ["start", "end", "length", "band", "displacement", "pairs"]
theorem sc_runs_of_length : FnScope N_runs_of_length ["start", "end", "length", "band"] (defScope s_runs_of_length) := ⟨rfl, rfl, rfl, by decide +kernel, rfl, by decide +kernel, by decide +kernel⟩
theorem ok_runs_of_length (F : FnP K "runs_of_length" "runs_of_length" s_runs_of_length [] [("band", .non)] f fd) (TX : Tx K mg CX') (TB : Tb K mg CB) (c_is_reachable : CalN P w K mg base CX0 8 3 "is_reachable" ["start", "end", "length", "band"] ["band"] (spReach CB))
    (c_difference : Cal P w K mg base 1 "difference" ["start", "end"] [] spDiff) (c_pairs_for : Cal P w K mg base 1 "pairs_for" ["x", "h", "length"] [] spPairs) (c_runs_with_pairs : Cal P w K mg base 6 "runs_with_pairs" ["displacement", "pairs", "room"] [] spRunsP)
    (c_to_band : Cal P w K mg base 1 "to_band" ["value"] [] (spToBand CB)) (m_room : Met P w K mg base 3 CB "room" ["self", "height"] (spRoom CB)) : FnOk P w K mg base (L2.CX P w) 9 f fd ["start", "end", "length", "band"] (spRunsL CB CX') := by
  refine F.ok sc_runs_of_length (fun vs H Q E h => ?_) (fun cdv A outer s H vs Q E hr h => ?_)
  · obtain ⟨a, b, p, x, h, s, x', h', s', n, lo, hi, rfl, _⟩ := h
    rfl
  · obtain ⟨a, b, p, x, h, s, x', h', s', n, lo, hi, rfl, ha, hb, hp, g, n0, n1, k⟩ := h
    refine ⟨_, (pss_cons (ps_if (pt_not (pt_val (pe_calN c_is_reachable hr (by rfl) pass0 (pa_cons (pv 0) (pa_cons (pv 1) (pa_cons (pv 2) pa_nil))) (pk_cons (pv 3) pk_nil))))
      (pss_one (ps_raise rfl (takes_of rfl rfl rfl rfl) (pmk_own PySem.F.excBase_LookupError TX.x TX.g TX.k (raises_own TX.b TX.t) (by exact rfl)))) pss_nil)
      (pss_cons (ps_set (i := 4) sc_runs_of_length.nd rfl (Or.inl rfl) (pe_cal c_difference hr (by rfl) (pa_cons (pv 0) (pa_cons (pv 1) pa_nil))))
      (pss_cons (ps_set (i := 5) sc_runs_of_length.nd rfl (Or.inl rfl) (pe_cal c_pairs_for hr (by rfl) (pa_cons (pe_ix ix_tup (pv 4) pe_int (fun _ _ => rfl)) (pa_cons (pe_ix ix_tup (pv 4) pe_int (fun _ _ => rfl)) (pa_cons (pv 2) pa_nil)))))
      (pss_one (ps_ret (pe_cal c_runs_with_pairs hr (by rfl) (pa_cons (pv 4) (pa_cons (pv 5) (pa_cons (pe_met m_room TB.cl hr (pe_cal c_to_band hr (by rfl) (pa_cons (pv 3) pa_nil)) (pa_cons (pe_ix ix_tup (pv 0) pe_int (fun _ _ => rfl)) pa_nil)) pa_nil))))))))), ?_⟩
    refine ⟨_, rfl, _, rfl, _, rfl, _, rfl, rfl, rfl, a, b, p, x, h, s, x', h', s', n, lo, hi, rfl, ha, hb, hp, g, n0, n1, fun H1 s1 => ?_⟩
    refine ⟨_, rfl, ?_⟩
    cases rb : reachB x h s x' h' s' n lo hi with
    | false =>
      refine iteT ?_
      exact (k H1 s1).2 rb
    | true =>
      refine iteF ?_
      have q0 := rb
      unfold reachB reach at q0
      cases q : pairsFor (x' - x) (h' - h) n with
      | none =>
        rw [q] at q0
        cases q0
      | some j =>
        rw [q] at q0
        obtain ⟨j0, ej⟩ := pairsFor_some q
        have ix : 0 ≤ HS.iabs (x' - x) := by unfold HS.iabs; omega
        have ih : 0 ≤ HS.iabs (h' - h) := by unfold HS.iabs; omega
        obtain ⟨z1, z2⟩ := Bool.and_eq_true_iff.mp q0
        have en := (enough_iff (room_ok g.i1 g.i2) j0).mp ⟨of_decide_eq_true z1, of_decide_eq_true z2⟩
        refine ⟨_, rfl, _, rfl, a, b, x, h, s, x', h', s', rfl, s1 _ _ ha, s1 _ _ hb, g.b1, iabs_bd g.bx, fun H2 d s2 hd => ?_⟩
        have s12 := st_same s1 s2
        have td := SqT.of (K := K) hd
        refine ⟨_, rfl, _, _, _, _, rfl, rfl, td, at0, _, rfl, _, _, _, _, rfl, rfl, td, at1, _, rfl, _, _, n, rfl, ?_⟩
        rw [q]
        have hp2 := hp.same s12
        obtain ⟨dx, hp2'⟩ := id hp2
        refine ⟨_, rfl, _, rfl, _, rfl, p, lo, hi, rfl, hp2, p, dx, _, rfl, hp2', bandFs_no (by decide +kernel) (by decide +kernel), _, rfl, _, _, _, _, rfl, rfl, SqT.of (s12 _ _ ha), at1, p, h, lo, hi, rfl, hp2, g.i1, fun H3 r s3 hr3 => ?_⟩
        have s13 := st_same s12 s3
        refine ⟨d, r, _, _, _, j, _, _, rfl, s3 _ _ hd, hr3, g.geo, j0, by omega, en, fun H4 l n4 s4 r4 => ?_⟩
        have s14 := st_same s13 s4
        have gd := (HS.Enough.of (room_ok g.i1 g.i2) j0 en).good
        rw [← ej] at gd
        exact (k H4 s14).1 rb l _ (s13.free n4) r4 gd
end
end HK

namespace HK
open PySem PySem.Spec PyProof.Rows L2
/-! ### the law's draws -/
def DrawAt (H : Hp) (d : Addr) : Prop := ∃ x y : Int, H d = some (.lst [.int x, .int y])
theorem DrawAt.same {H H' : Hp} {d : Addr} (e : Same H H') (h : DrawAt H d) : DrawAt H' d := by
  obtain ⟨x, y, h⟩ := h
  exact ⟨x, y, e _ _ h⟩
/-- numbers of less than 80 bits -/
def Sm (z : Int) : Prop := -(2 ^ 80) < z ∧ z < 2 ^ 80
theorem e6 : ((10 : Int) ^ (6 : Int).toNat) = 1000000 := by decide +kernel
theorem e9 : ((10 : Int) ^ (9 : Int).toNat) = 1000000000 := by decide +kernel
theorem e12 : ((10 : Int) ^ (12 : Int).toNat) = 1000000000000 := by decide +kernel
theorem e18 : ((10 : Int) ^ (18 : Int).toNat) = 1000000000000000000 := by decide +kernel
theorem e22 : ((10 : Int) ^ (22 : Int).toNat) = 10000000000000000000000 := by decide +kernel
theorem cpow {n : Int} (h : 0 ≤ n ∧ n ≤ 1000000 := by decide) : CPow 10 n := ⟨h.1, h.2, by decide⟩
def spDraws : Sp := fun vs H Q _ => ∃ (a : Addr) (ns : List Int) (k : Int) (K : PySem.W.Frag), vs = [.ref a, .int k] ∧ SqL K H a (ns.map V.int) ∧ 0 ≤ k ∧ k < 2 ^ 60 ∧ ∀ H' d, H d = none → Same H H' → DrawAt H' d → Q (.ref d) H'
def spDraw : Sp := fun vs H Q _ => ∃ (d : Addr) (u : Int), vs = [.ref d, .int u] ∧ DrawAt H d ∧ 0 < u ∧ u.natAbs.log2 < 9000 ∧ ∀ k H', 0 ≤ k → k < u → DrawAt H' d → But d H H' → Q (.int k) H'
def spInteger : Sp := fun vs H Q _ => ∃ d : Addr, vs = [.ref d] ∧ DrawAt H d ∧ ∀ z H', Sm z → DrawAt H' d → But d H H' → Q (.int z) H'
def spState : Sp := fun vs H Q _ => ∃ d : Addr, vs = [.ref d] ∧ DrawAt H d ∧ ∀ t x h s H', Sm x → Sm h → Sm s → DrawAt H' d → But d H H' → St3 H' t x h s → Q (.ref t) H'
def spPair : Sp := fun vs H Q _ => ∃ d : Addr, vs = [.ref d] ∧ DrawAt H d ∧ ∀ (t a b : Addr) (x h s X Y T : Int) (H' : Hp), Sm h → Sm X → Sm Y → -(2 ^ 165) < T → T < 2 ^ 165 → DrawAt H' d → But d H H' → St2 H' t (.ref a) (.ref b) → St3 H' a x h s → St3 H' b (x + X) (h + Y) (s + h * X + T) → Q (.ref t) H'
/-- the ends of a band around two heights -/
structure Ends0 (h r : Int) (lo hi : Option Int) : Prop where
  lo : ∀ l, lo = some l → l ≤ h + min 0 r ∧ h + min 0 r - 2 ^ 80 ≤ l
  hi : ∀ u, hi = some u → h + max 0 r ≤ u ∧ u ≤ h + max 0 r + 2 ^ 80
def spLBand : Sp := fun vs H Q _ => ∃ (d : Addr) (h r : Int), vs = [.ref d, .int h, .int r] ∧ DrawAt H d ∧ ∀ t lo hi H', Ends0 h r lo hi → DrawAt H' d → But d H H' → St2 H' t (vo lo) (vo hi) → Q (.ref t) H'
theorem ints_lay : ∀ ns : List Int, PyData.canLayAll0 (ns.map PyData.int) = true
  | [] => rfl
  | _ :: r => by simp [PyData.canLayAll0, PyData.canLay0, ints_lay r]
theorem ints_depth : ∀ ns : List Int, PyData.depthAll (ns.map PyData.int) = 0
  | [] => rfl
  | _ :: r => by simp [PyData.depthAll, PyData.depth, ints_depth r]
theorem ints_shaped (ns : List Int) : SeqAt.shaped (.list (ns.map PyData.int)) = true := by
  simp [SeqAt.shaped, PyData.canLay0, PyData.depth, ints_lay, ints_depth]
theorem dp_ints {K : PySem.W.Frag} {H : Hp} : ∀ ns : List Int, DpAll K H (ns.map V.int) (ns.map PyData.int)
  | [] => .nil
  | _ :: r => .cons (.int _) (dp_ints r)
theorem eqv_ints : ∀ ns : List Int, PyData.eqv (.list (ns.map PyData.int)) (.list []) = ns.isEmpty
  | [] => rfl
  | _ :: _ => rfl
theorem at_int {ns : List Int} {k : Int} (h0 : 0 ≤ k) (h1 : k < ns.length) : ∃ z, atI (ns.map V.int) k = some (.int z) := by
  obtain ⟨j, ej⟩ : ∃ j : Nat, k = (j : Int) := ⟨k.toNat, by omega⟩
  have hj : j < ns.length := by omega
  refine ⟨ns[j], at_of ej ?_⟩
  rw [List.getElem?_map, List.getElem?_eq_getElem hj]
  rfl
section
variable {P : Program} {w : World} {K : PySem.W.Frag} {mg : Str → Option Value} {base : Heap} {f : Addr} {fd : FuncData}
abbrev s__law_draws : Stmt := top 47
abbrev N__law_draws : List Str := ["_law_script", "_law_k", "_law_cell", "_law_seed"]
theorem sc__law_draws : FnScope N__law_draws ["_law_script", "_law_k"] (defScope s__law_draws) := ⟨rfl, rfl, rfl, by decide +kernel, rfl, by decide +kernel, by decide +kernel⟩
def spDrawsK (K : PySem.W.Frag) : Sp := fun vs H Q _ => ∃ (a : Addr) (ns : List Int) (k : Int), vs = [.ref a, .int k] ∧ SqL K H a (ns.map V.int) ∧ 0 ≤ k ∧ k < 2 ^ 60 ∧ ∀ H' d, H d = none → Same H H' → DrawAt H' d → Q (.ref d) H'
theorem ok_law_draws (F : FnP K "_law_draws" "_law_draws" s__law_draws [] [] f fd) (B : Bi mg) : FnOk P w K mg base CX0 1 f fd ["_law_script", "_law_k"] (spDrawsK K) := by
  refine F.ok sc__law_draws (fun vs H Q E h => ?_) (fun cdv A outer s H vs Q E hr h => ?_)
  · obtain ⟨a, ns, k, rfl, _⟩ := h
    rfl
  · obtain ⟨a, ns, i, rfl, hS, i0, i1, k⟩ := h
    refine ⟨_, PSs.nox (pss_cons (ps_set (i := 2) sc__law_draws.nd rfl (Or.inl rfl) pe_int)
  (Evl.pss_cut (ps_if (pt_cmpR (op_neD hr.units) (pv 0) (pe_lst pa_nil) (nomark _))
    (pss_one (ps_set (i := 2) sc__law_draws.nd rfl (Or.inl rfl) (pe_ix ix_list (pv 0) (pe_op op_mod (pv 1) (pe_callB call_len_seq (by rfl) B.len (by decide +kernel) (pa_cons (pv 0) pa_nil))) (fun _ _ => rfl))))
    pss_nil)
  (Evl.pss_cut (ps_if (pt_cmpR op_ge (pv 1) (pe_callB call_len_seq (by rfl) B.len (by decide +kernel) (pa_cons (pv 0) pa_nil)) (nomark _))
    (pss_one (ps_set (i := 2) sc__law_draws.nd rfl (Or.inl rfl) (pe_op op_mod (pv 2) pe_int)))
    pss_nil)
  (pss_cons (ps_set (i := 3) sc__law_draws.nd rfl (Or.inl rfl) (pe_op op_mod (pe_op op_mul (pe_op op_add (pe_op op_add (pe_op op_mod (pv 2) pe_int) (pe_op op_mulW pe_int (pv 1))) pe_int) pe_int) pe_int))
  (pss_one (ps_ret (pe_lst (pa_cons (pe_op op_mul (pv 2) (pe_callTy call_int1 (by rfl) B.int_ (by decide +kernel) (pa_cons (pe_cmpR op_ge (pv 2) (pe_op op_pow pe_int pe_int) (nomark _)) pa_nil))) (pa_cons (pv 3) pa_nil))))))))), ?_⟩
    refine ⟨fun σ H1 => Same H H1 ∧ ∃ c : Int, σ = [some (.ref a), some (.int i), some (.int c), none], ?_, ?_⟩
    · refine ⟨_, rfl, (by show 0 ≤ sizeLine; decide), fun p np => ?_⟩
      generalize e1 : upd H p _ = H1
      have s1 := same_up np e1
      have h1 := at_up e1
      clear e1
      have hS1 := s1.seq hS
      refine ⟨.list (ns.map PyData.int), .list [], .lst hS1 (dp_ints ns), .lst (SqL.of h1) .nil, ints_shaped ns, rfl, _, rfl, ?_⟩
      rw [eqv_ints]
      cases ns with
      | nil => exact iteF ⟨s1, 0, rfl⟩
      | cons z r =>
        refine iteT ?_
        have hl : (0 : Int) < ((z :: r).map V.int).length := by simp
        have m1 := Int.emod_lt_of_pos i hl
        have m0 := Int.emod_nonneg i (b := (((z :: r).map V.int).length : Int)) (by omega)
        rw [List.length_map] at m1
        obtain ⟨c, hc⟩ := at_int (ns := z :: r) (k := i % (((z :: r).map V.int).length : Int)) m0 (by rw [List.length_map]; exact m1)
        exact ⟨_, rfl, _, rfl, _, rfl, a, _, rfl, Or.inl hS1, _, _, rfl, rfl, hl, _, _, _, _, rfl, rfl, hS1, hc, s1, c, rfl⟩
    · rintro σ H1 ⟨s1, c, rfl⟩
      refine ⟨fun σ H2 => H1 = H2 ∧ ∃ c : Int, σ = [some (.ref a), some (.int i), some (.int c), none], ?_, ?_⟩
      · refine ⟨_, rfl, _, rfl, a, _, rfl, Or.inl (s1.seq hS), _, _, rfl, rfl, _, rfl, ?_⟩
        refine ite2 (fun _ => ?_) (fun _ => ⟨rfl, c, rfl⟩)
        exact ⟨_, rfl, _, _, rfl, rfl, (by show (0 : Int) < 1000003; decide), rfl, _, rfl⟩
      · rintro σ H2 ⟨rfl, c, rfl⟩
        have m1 := Int.emod_lt_of_pos c (show (0 : Int) < 2147483629 by decide)
        have m0 := Int.emod_nonneg c (show (2147483629 : Int) ≠ 0 by decide)
        refine ⟨_, rfl, _, _, rfl, rfl, (by show (0 : Int) < 2147483629; decide), _, rfl, _, _, rfl, rfl, Bd.mul (Bd.of (by decide) (by decide)) (Bd.of (by omega) (by omega)), _, _, rfl, rfl, _, _, rfl, rfl, _, _, rfl, rfl, Or.inr (by decide), _, _, rfl, rfl, (by show (0 : Int) < 2147483647; decide), ?_⟩
        refine ⟨_, rfl, _, rfl, _, _, rfl, rfl, cpow, _, _, rfl, rfl, Or.inr ⟨_, rfl, ?_⟩⟩
        refine ⟨_, _, rfl, rfl, Or.inr (by split <;> decide), _, rfl, (by show 2 ≤ sizeLine; decide), fun d nd => ?_⟩
        exact k _ d (s1.free nd) (fun b o z => Same.new nd _ _ (s1 _ _ z)) ⟨_, _, upd_same⟩
abbrev s__law_draw : Stmt := top 48
abbrev N__law_draw : List Str := ["_law_draws_here", "_law_upto", "_law_digit"]
theorem sc__law_draw : FnScope N__law_draw ["_law_draws_here", "_law_upto"] (defScope s__law_draw) := ⟨rfl, rfl, rfl, by decide +kernel, rfl, by decide +kernel, by decide +kernel⟩
theorem ok_law_draw (F : FnP K "_law_draw" "_law_draw" s__law_draw [] [] f fd) : FnOk P w K mg base CX0 1 f fd ["_law_draws_here", "_law_upto"] spDraw := by
  refine F.ok sc__law_draw (fun vs H Q E h => ?_) (fun cdv A outer s H vs Q E hr h => ?_)
  · obtain ⟨d, u, rfl, _⟩ := h
    rfl
  · obtain ⟨d, u, rfl, ⟨x, y, hd⟩, u0, ul, k⟩ := h
    refine ⟨_, PSs.nox (pss_cons (ps_if (pt_cmpR op_gt (pe_ix ix_list (pv 0) pe_int (fun _ _ => rfl)) pe_int (nomark _))
    (pss_cons (ps_set (i := 2) sc__law_draw.nd rfl (Or.inl rfl) (pe_op op_mod (pe_ix ix_list (pv 0) pe_int (fun _ _ => rfl)) (pv 1)))
    (pss_cons (ps_asg (pe_op op_fdivW (pe_ix ix_list (pv 0) pe_int (fun _ _ => rfl)) (pv 1)) (pg_sub (pv 0) pe_int set_list))
    (pss_one (ps_ret (pv 2)))))
    pss_nil)
  (pss_cons (ps_asg (pe_op op_mod (pe_op op_add (pe_op op_mul (pe_ix ix_list (pv 0) pe_int (fun _ _ => rfl)) pe_int) pe_int) pe_int) (pg_sub (pv 0) pe_int set_list))
  (pss_one (ps_ret (pe_op op_mod (pe_op op_fdivW (pe_op op_mod (pe_op op_mulW (pe_ix ix_list (pv 0) pe_int (fun _ _ => rfl)) (pe_ix ix_list (pv 0) pe_int (fun _ _ => rfl))) pe_int) pe_int) (pv 1)))))), ?_⟩
    refine ⟨_, rfl, _, _, _, _, rfl, rfl, SqL.of hd, at0, _, _, rfl, rfl, _, rfl, ?_⟩
    refine ite2 (fun _ => ?_) (fun _ => ?_)
    · refine ⟨_, rfl, _, _, _, _, rfl, rfl, SqL.of hd, at0, _, rfl, _, _, rfl, rfl, u0, ?_⟩
      refine ⟨_, rfl, _, _, _, _, rfl, rfl, SqL.of hd, at0, _, rfl, _, _, rfl, rfl, ⟨u0, ul⟩, _, rfl, d, _, 0, 0, rfl, rfl, hd, rfl, ?_⟩
      exact ⟨_, rfl, k _ _ (Int.emod_nonneg _ (by omega)) (Int.emod_lt_of_pos _ u0) ⟨_, _, upd_same⟩ But.upd⟩
    · refine ⟨_, rfl, _, _, _, _, rfl, rfl, SqL.of hd, at1, _, _, rfl, rfl, Or.inr (by decide), _, _, rfl, rfl, _, _, rfl, rfl, (by show (0 : Int) < 2147483647; decide), _, rfl, d, _, 1, 1, rfl, rfl, hd, rfl, ?_⟩
      have m1 := Int.emod_lt_of_pos (y * 48271 + 11) (show (0 : Int) < 2147483647 by decide)
      have m0 := Int.emod_nonneg (y * 48271 + 11) (show (2147483647 : Int) ≠ 0 by decide)
      have hd2 : upd H d (.lst ([V.int x, V.int y].set 1 (.int ((y * 48271 + 11) % 2147483647)))) d = some (.lst [.int x, .int ((y * 48271 + 11) % 2147483647)]) := upd_same
      refine ⟨_, rfl, _, _, _, _, rfl, rfl, SqL.of hd2, at1, _, rfl, _, _, _, _, rfl, rfl, SqL.of hd2, at1, _, _, rfl, rfl, Bd.mul (Bd.of (by omega) (by omega)) (Bd.of (by omega) (by omega)), _, _, rfl, rfl, (by show (0 : Int) < 2147483629; decide), _, _, rfl, rfl, ⟨by decide, by decide +kernel⟩, _, rfl, _, _, rfl, rfl, u0, ?_⟩
      exact k _ _ (Int.emod_nonneg _ (by omega)) (Int.emod_lt_of_pos _ u0) ⟨_, _, hd2⟩ But.upd
abbrev s__law_integer : Stmt := top 49
abbrev N__law_integer : List Str := ["_law_draws_here", "_law_way"]
theorem sc__law_integer : FnScope N__law_integer ["_law_draws_here"] (defScope s__law_integer) := ⟨rfl, rfl, rfl, by decide +kernel, rfl, by decide +kernel, by decide +kernel⟩
theorem ok_law_integer (F : FnP K "_law_integer" "_law_integer" s__law_integer [] [] f fd) (c__law_draw : Cal P w K mg base 1 "_law_draw" ["_law_draws_here", "_law_upto"] [] spDraw) : FnOk P w K mg base CX0 2 f fd ["_law_draws_here"] spInteger := by
  refine F.ok sc__law_integer (fun vs H Q E h => ?_) (fun cdv A outer s H vs Q E hr h => ?_)
  · obtain ⟨d, rfl, _⟩ := h
    rfl
  · obtain ⟨d, rfl, hd, k⟩ := h
    refine ⟨_, PSs.nox (pss_cons (ps_set (i := 1) sc__law_integer.nd rfl (Or.inl rfl) (pe_cal c__law_draw hr (by rfl) (pa_cons (pv 0) (pa_cons pe_int pa_nil))))
  (pss_cons (ps_if (pt_cmpR op_lt (pv 1) pe_int (nomark _))
    (pss_one (ps_ret (pe_op op_sub (pe_cal c__law_draw hr (by rfl) (pa_cons (pv 0) (pa_cons pe_int pa_nil))) pe_int)))
    pss_nil)
  (pss_cons (ps_if (pt_cmpR op_eq (pv 1) pe_int (nomark _))
    (pss_one (ps_ret (pe_op op_sub (pe_cal c__law_draw hr (by rfl) (pa_cons (pv 0) (pa_cons pe_int pa_nil))) pe_int)))
    pss_nil)
  (pss_one (ps_ret (pe_op op_mulW (pe_op op_add (pe_op op_mulW (pe_cal c__law_draw hr (by rfl) (pa_cons (pv 0) (pa_cons (pe_op op_pow pe_int pe_int) pa_nil))) (pe_op op_pow pe_int pe_int)) (pe_cal c__law_draw hr (by rfl) (pa_cons (pv 0) (pa_cons (pe_op op_pow pe_int pe_int) pa_nil)))) (pe_ix ix_list (pe_lst (pa_cons pe_int (pa_cons (pe_un un_neg pe_int) pa_nil))) (pe_cal c__law_draw hr (by rfl) (pa_cons (pv 0) (pa_cons pe_int pa_nil))) (fun _ _ => rfl)))))))), ?_⟩
    refine ⟨_, rfl, d, 4, rfl, hd, by decide, by decide +kernel, fun w1 H1 w0 w4 d1 b1 => ?_⟩
    refine ⟨_, rfl, _, _, rfl, rfl, _, rfl, ?_⟩
    refine ite2 (fun _ => ?_) (fun _ => ?_)
    · exact ⟨_, rfl, d, 13, rfl, d1, by decide, by decide +kernel, fun z H2 z0 z1 d2 b2 => ⟨_, _, rfl, rfl, k _ H2 ⟨by omega, by omega⟩ d2 (b1.trans b2)⟩⟩
    · refine ⟨_, rfl, rfl, _, rfl, ?_⟩
      refine ite2 (fun _ => ?_) (fun _ => ?_)
      · exact ⟨_, rfl, d, 2001, rfl, d1, by decide, by decide +kernel, fun z H2 z0 z1 d2 b2 => ⟨_, _, rfl, rfl, k _ H2 ⟨by omega, by omega⟩ d2 (b1.trans b2)⟩⟩
      · refine ⟨_, rfl, _, _, rfl, rfl, cpow, d, _, rfl, d1, by rw [e6]; decide, by rw [e6]; decide +kernel, fun p H2 p0 p1 d2 b2 => ?_⟩
        rw [e6] at p1
        refine ⟨_, _, rfl, rfl, cpow, _, _, rfl, rfl, Bd.mul (Bd.of (by omega) (by omega)) (by rw [e18]; exact Bd.of (by decide) (by decide)), ?_⟩
        refine ⟨_, rfl, _, _, rfl, rfl, cpow, d, _, rfl, d2, by rw [e9]; decide, by rw [e9]; decide +kernel, fun q H3 q0 q1 d3 b3 => ?_⟩
        rw [e9] at q1
        refine ⟨_, _, rfl, rfl, ?_⟩
        refine ⟨1, rfl, (by show 2 ≤ sizeLine; decide), fun l nl => ?_⟩
        generalize e1 : upd H3 l _ = H4
        have s4 := same_up nl e1
        have h4 := at_up e1
        clear e1
        have nld : l ≠ d := fun z => by
          obtain ⟨_, _, hz⟩ := d3
          rw [← z, nl] at hz
          cases hz
        refine ⟨_, rfl, d, 2, rfl, d3.same s4, by decide, by decide +kernel, fun r H5 r0 r1 d5 b5 => ?_⟩
        have h5 := b5 _ _ nld h4
        have b15 := ((b1.trans b2).trans b3).trans ((But.of s4).trans b5)
        have big : Bd (p * (10 ^ (18 : Int).toNat) + q) := by rw [e18]; exact Bd.of (by omega) (by omega)
        by_cases c : r = 0
        · subst c
          refine ⟨l, _, 0, _, rfl, rfl, SqL.of h5, at0, _, _, rfl, rfl, Bd.mul big (Bd.of (by decide) (by decide)), ?_⟩
          exact k _ H5 (by rw [e18]; exact ⟨by omega, by omega⟩) d5 b15
        · have c1 : r = 1 := by omega
          subst c1
          refine ⟨l, _, 1, _, rfl, rfl, SqL.of h5, at1, _, _, rfl, rfl, Bd.mul big (Bd.of (by decide) (by decide)), ?_⟩
          exact k _ H5 (by rw [e18]; exact ⟨by omega, by omega⟩) d5 b15
abbrev s__law_state : Stmt := top 50
abbrev N__law_state : List Str := ["_law_draws_here"]
theorem sc__law_state : FnScope N__law_state ["_law_draws_here"] (defScope s__law_state) := ⟨rfl, rfl, rfl, by decide +kernel, rfl, by decide +kernel, by decide +kernel⟩
theorem ok_law_state (F : FnP K "_law_state" "_law_state" s__law_state [] [] f fd) (c__law_integer : Cal P w K mg base 2 "_law_integer" ["_law_draws_here"] [] spInteger) : FnOk P w K mg base CX0 3 f fd ["_law_draws_here"] spState := by
  refine F.ok sc__law_state (fun vs H Q E h => ?_) (fun cdv A outer s H vs Q E hr h => ?_)
  · obtain ⟨d, rfl, _⟩ := h
    rfl
  · obtain ⟨d, rfl, hd, k⟩ := h
    refine ⟨_, PSs.nox (pss_one (ps_ret (pe_tup (pa_cons (pe_cal c__law_integer hr (by rfl) (pa_cons (pv 0) pa_nil)) (pa_cons (pe_cal c__law_integer hr (by rfl) (pa_cons (pv 0) pa_nil)) (pa_cons (pe_cal c__law_integer hr (by rfl) (pa_cons (pv 0) pa_nil)) pa_nil)))))), ?_⟩
    refine ⟨_, rfl, d, rfl, hd, fun x H1 x1 d1 b1 => ?_⟩
    refine ⟨_, rfl, d, rfl, d1, fun h H2 h1 d2 b2 => ?_⟩
    refine ⟨_, rfl, d, rfl, d2, fun s H3 s1 d3 b3 => ?_⟩
    refine ⟨(by show 3 ≤ sizeLine; decide), fun t nt => ?_⟩
    exact k t x h s _ x1 h1 s1 (d3.same (Same.new nt)) (((b1.trans b2).trans b3).trans (But.of (Same.new nt))) upd_same
abbrev s__law_pair : Stmt := top 52
abbrev N__law_pair : List Str := ["_law_draws_here", "_law_start", "_law_x", "_law_h", "_law_way", "_law_total"]
theorem sc__law_pair : FnScope N__law_pair ["_law_draws_here"] (defScope s__law_pair) := ⟨rfl, rfl, rfl, by decide +kernel, rfl, by decide +kernel, by decide +kernel⟩
theorem ok_law_pair (F : FnP K "_law_pair" "_law_pair" s__law_pair [] [] f fd) (B : Bi mg) (c__law_state : Cal P w K mg base 3 "_law_state" ["_law_draws_here"] [] spState) (c__law_integer : Cal P w K mg base 2 "_law_integer" ["_law_draws_here"] [] spInteger)
    (c__law_draw : Cal P w K mg base 1 "_law_draw" ["_law_draws_here", "_law_upto"] [] spDraw) : FnOk P w K mg base CX0 4 f fd ["_law_draws_here"] spPair := by
  refine F.ok sc__law_pair (fun vs H Q E h => ?_) (fun cdv A outer s H vs Q E hr h => ?_)
  · obtain ⟨d, rfl, _⟩ := h
    rfl
  · obtain ⟨d, rfl, hd, k⟩ := h
    refine ⟨_, PSs.nox (pss_cons (ps_set (i := 1) sc__law_pair.nd rfl (Or.inl rfl) (pe_cal c__law_state hr (by rfl) (pa_cons (pv 0) pa_nil)))
  (pss_cons (ps_par (i := 2) (j := 3) rfl sc__law_pair.nd rfl rfl (by decide) rfl rfl (pa_cons (pe_cal c__law_integer hr (by rfl) (pa_cons (pv 0) pa_nil)) (pa_cons (pe_cal c__law_integer hr (by rfl) (pa_cons (pv 0) pa_nil)) pa_nil)) (by rfl))
  (pss_cons (ps_set (i := 4) sc__law_pair.nd rfl (Or.inl rfl) (pe_cal c__law_draw hr (by rfl) (pa_cons (pv 0) (pa_cons pe_int pa_nil))))
  (Evl.pss_cut (ps_if (pt_cmpR op_eq (pv 4) pe_int (nomark _))
    (pss_one (ps_set (i := 3) sc__law_pair.nd rfl (Or.inl rfl) pe_int))
    pss_nil)
  (Evl.pss_cut (ps_if (pt_cmpR op_eq (pv 4) pe_int (nomark _))
    (pss_one (ps_set (i := 2) sc__law_pair.nd rfl (Or.inl rfl) pe_int))
    pss_nil)
  (pss_cons (ps_set (i := 5) sc__law_pair.nd rfl (Or.inl rfl) (pe_op op_mulW (pe_cal c__law_integer hr (by rfl) (pa_cons (pv 0) pa_nil)) (pe_ix ix_list (pe_lst (pa_cons pe_int (pa_cons (pe_op op_add (pe_callB call_abs (by rfl) B.abs (by decide +kernel) (pa_cons (pv 2) pa_nil)) pe_int) (pa_cons (pe_op op_add (pe_callB call_abs (by rfl) B.abs (by decide +kernel) (pa_cons (pv 3) pa_nil)) pe_int) pa_nil)))) (pe_cal c__law_draw hr (by rfl) (pa_cons (pv 0) (pa_cons pe_int pa_nil))) (fun _ _ => rfl))))
  (pss_one (ps_ret (pe_tup (pa_cons (pv 1) (pa_cons (pe_tup (pa_cons (pe_op op_add (pe_ix ix_tup (pv 1) pe_int (fun _ _ => rfl)) (pv 2)) (pa_cons (pe_op op_add (pe_ix ix_tup (pv 1) pe_int (fun _ _ => rfl)) (pv 3)) (pa_cons (pe_op op_add (pe_op op_add (pe_ix ix_tup (pv 1) pe_int (fun _ _ => rfl)) (pe_op op_mulW (pe_ix ix_tup (pv 1) pe_int (fun _ _ => rfl)) (pv 2))) (pv 5)) pa_nil)))) pa_nil))))))))))), ?_⟩
    refine ⟨_, rfl, d, rfl, hd, fun a x h s H1 _ sh _ d1 b1 ha => ?_⟩
    have nad : ∀ {H' : Hp}, DrawAt H' d → St3 H' a x h s → a ≠ d := fun dd hh => by
      obtain ⟨_, _, hz⟩ := dd
      exact ne_of hh hz (by intro z; cases z)
    have nd := nad d1 ha
    refine ⟨_, rfl, d, rfl, d1, fun X H2 sX d2 b2 => ?_⟩
    refine ⟨_, rfl, d, rfl, d2, fun Y H3 sY d3 b3 => ⟨_, _, rfl, ?_⟩⟩
    refine ⟨_, rfl, d, 6, rfl, d3, by decide, by decide +kernel, fun wy H4 _ _ d4 b4 => ?_⟩
    have b24 := (b2.trans b3).trans b4
    have ha4 := b24 _ _ nd ha
    have b14 := b1.trans b24
    refine ⟨fun σ H5 => H4 = H5 ∧ ∃ Y : Int, Sm Y ∧ σ = [some (.ref d), some (.ref a), some (.int X), some (.int Y), some (.int wy), none], ?_, ?_⟩
    · refine ⟨_, rfl, rfl, _, rfl, ?_⟩
      exact ite2 (fun _ => ⟨rfl, 0, ⟨by decide, by decide⟩, rfl⟩) (fun _ => ⟨rfl, Y, sY, rfl⟩)
    · rintro σ H5 ⟨rfl, Y, sY, rfl⟩
      refine ⟨fun σ H5 => H4 = H5 ∧ ∃ X : Int, Sm X ∧ σ = [some (.ref d), some (.ref a), some (.int X), some (.int Y), some (.int wy), none], ?_, ?_⟩
      · refine ⟨_, rfl, rfl, _, rfl, ?_⟩
        exact ite2 (fun _ => ⟨rfl, 0, ⟨by decide, by decide⟩, rfl⟩) (fun _ => ⟨rfl, X, sX, rfl⟩)
      · rintro σ H5 ⟨rfl, X, sX, rfl⟩
        obtain ⟨sX0, sX1⟩ := sX
        obtain ⟨sY0, sY1⟩ := sY
        obtain ⟨sh0, sh1⟩ := id sh
        refine ⟨_, rfl, d, rfl, d4, fun z H5 sz d5 b5 => ?_⟩
        refine ⟨_, rfl, X, rfl, _, _, rfl, rfl, _, rfl, Y, rfl, _, _, rfl, rfl, (by show 3 ≤ sizeLine; decide), fun l nl => ?_⟩
        generalize e1 : upd H5 l _ = H6
        have s6 := same_up nl e1
        have h6 := at_up e1
        clear e1
        have nld : l ≠ d := fun z => by
          obtain ⟨_, _, hz⟩ := d5
          rw [← z, nl] at hz
          cases hz
        refine ⟨_, rfl, d, 3, rfl, d5.same s6, by decide, by decide +kernel, fun r H7 r0 r1 d7 b7 => ?_⟩
        have h7 := b7 _ _ nld h6
        have b47 := b5.trans ((But.of s6).trans b7)
        have ha7 := b47 _ _ nd ha4
        have ta := SqT.of (K := K) ha7
        -- the total
        have fin : ∀ v : Int, 0 ≤ v → v ≤ 2 ^ 80 → CMulW z v ∧ (tRet (tTup (tCons (tVar 1) (tCons (tTup (tCons (tOp (rI0 fun i j => .int (i + j)) (tOp (rIxT K) (tVar 1) (tC (.int 0))) (tVar 2)) (tCons (tOp (rI0 fun i j => .int (i + j)) (tOp (rIxT K) (tVar 1) (tC (.int 1))) (tVar 3))
            (tCons (tOp (rI0 fun i j => .int (i + j)) (tOp (rI0 fun i j => .int (i + j)) (tOp (rIxT K) (tVar 1) (tC (.int 2))) (tOp (rI CMulW fun i j => .int (i * j)) (tOp (rIxT K) (tVar 1) (tC (.int 1))) (tVar 2))) (tVar 5)) tNil)))) tNil)))) { nx := fun _ H' => Q .non H', rt := Q }
            [some (.ref d), some (.ref a), some (.int X), some (.int Y), some (.int wy), some (.int (z * v))] H7 := fun v v0 v1 => by
          obtain ⟨z0, z1⟩ := sz
          have hz : z.natAbs < 2 ^ 80 := by omega
          have hv : v.natAbs < 2 ^ 81 := by omega
          have hzv := wide_lt hz hv
          refine ⟨Bd.mul (Bd.of (by omega) (by omega)) (Bd.of (by omega) (by omega)), ?_⟩
          refine ⟨_, rfl, _, rfl, _, _, _, _, rfl, rfl, ta, at0, _, rfl, _, _, rfl, rfl, _, rfl, _, _, _, _, rfl, rfl, ta, at1, _, rfl, _, _, rfl, rfl, ?_⟩
          refine ⟨_, rfl, _, _, _, _, rfl, rfl, ta, at2, _, rfl, _, _, _, _, rfl, rfl, ta, at1, _, rfl, _, _, rfl, rfl, Bd.mul (Bd.of (by omega) (by omega)) (Bd.of (by omega) (by omega)), _, _, rfl, rfl, _, rfl, _, _, rfl, rfl, (by show 3 ≤ sizeLine; decide), fun b nb => ?_⟩
          have s8 := Same.new (o := .tup [.int (x + X), .int (h + Y), .int (s + h * X + z * v)]) nb
          refine ⟨(by show 2 ≤ sizeLine; decide), fun t nt => ?_⟩
          have s9 := Same.new (o := .tup [.ref a, .ref b]) nt
          refine k t a b x h s X Y (z * v) _ sh ⟨sX0, sX1⟩ ⟨sY0, sY1⟩ (by simp only [Nat.reduceAdd] at hzv; omega) (by simp only [Nat.reduceAdd] at hzv; omega) (d7.same (st_same s8 s9)) ((b14.trans b47).trans (But.of (st_same s8 s9))) upd_same (s9 _ _ (s8 _ _ ha7)) (s9 _ _ upd_same)
        by_cases c0 : r = 0
        · subst c0
          obtain ⟨m, q⟩ := fin 1 (by decide) (by decide)
          exact ⟨l, _, 0, _, rfl, rfl, SqL.of h7, at0, _, _, rfl, rfl, m, q⟩
        · by_cases c1 : r = 1
          · subst c1
            obtain ⟨m, q⟩ := fin ((if X < 0 then -X else X) + 1) (by omega) (by omega)
            exact ⟨l, _, 1, _, rfl, rfl, SqL.of h7, at1, _, _, rfl, rfl, m, q⟩
          · have c2 : r = 2 := by omega
            subst c2
            obtain ⟨m, q⟩ := fin ((if Y < 0 then -Y else Y) + 1) (by omega) (by omega)
            exact ⟨l, _, 2, _, rfl, rfl, SqL.of h7, at2, _, _, rfl, rfl, m, q⟩
abbrev s__law_band : Stmt := top 51
abbrev N__law_band : List Str := ["_law_draws_here", "_law_height", "_law_rise", "_law_low", "_law_high", "_law_below", "_law_above", "_law_way"]
theorem sc__law_band : FnScope N__law_band ["_law_draws_here", "_law_height", "_law_rise"] (defScope s__law_band) := ⟨rfl, rfl, rfl, by decide +kernel, rfl, by decide +kernel, by decide +kernel⟩
theorem ok_law_band (F : FnP K "_law_band" "_law_band" s__law_band [] [] f fd) (B : Bi mg) (c__law_draw : Cal P w K mg base 1 "_law_draw" ["_law_draws_here", "_law_upto"] [] spDraw) : FnOk P w K mg base CX0 2 f fd ["_law_draws_here", "_law_height", "_law_rise"] spLBand := by
  refine F.ok sc__law_band (fun vs H Q E h => ?_) (fun cdv A outer s H vs Q E hr h => ?_)
  · obtain ⟨d, h, r, rfl, _⟩ := h
    rfl
  · obtain ⟨d, h, r, rfl, hd, k⟩ := h
    refine ⟨_, PSs.nox (pss_cons (ps_par (i := 3) (j := 4) rfl sc__law_band.nd rfl rfl (by decide) rfl rfl (pa_cons (pe_callB (call_min2 rfl) (by rfl) B.min (by decide +kernel) (pa_cons pe_int (pa_cons (pv 2) pa_nil))) (pa_cons (pe_callB (call_max2 rfl) (by rfl) B.max (by decide +kernel) (pa_cons pe_int (pa_cons (pv 2) pa_nil))) pa_nil)) (by rfl))
  (pss_cons (ps_set (i := 5) sc__law_band.nd rfl (Or.inl rfl) (pe_op op_sub (pv 3) (pe_ix ix_list (pe_lst (pa_cons pe_int (pa_cons pe_int (pa_cons (pe_cal c__law_draw hr (by rfl) (pa_cons (pv 0) (pa_cons pe_int pa_nil))) (pa_cons (pe_op op_pow pe_int pe_int) pa_nil))))) (pe_cal c__law_draw hr (by rfl) (pa_cons (pv 0) (pa_cons pe_int pa_nil))) (fun _ _ => rfl))))
  (pss_cons (ps_set (i := 6) sc__law_band.nd rfl (Or.inl rfl) (pe_op op_add (pv 4) (pe_ix ix_list (pe_lst (pa_cons pe_int (pa_cons pe_int (pa_cons (pe_cal c__law_draw hr (by rfl) (pa_cons (pv 0) (pa_cons pe_int pa_nil))) (pa_cons (pe_op op_pow pe_int pe_int) pa_nil))))) (pe_cal c__law_draw hr (by rfl) (pa_cons (pv 0) (pa_cons pe_int pa_nil))) (fun _ _ => rfl))))
  (pss_cons (ps_set (i := 7) sc__law_band.nd rfl (Or.inl rfl) (pe_cal c__law_draw hr (by rfl) (pa_cons (pv 0) (pa_cons pe_int pa_nil))))
  (pss_one (ps_ret (pe_tup (pa_cons (pe_ix ix_list (pe_lst (pa_cons (pe_op op_add (pv 1) (pv 5)) (pa_cons pe_non pa_nil))) (pe_callTy call_int1 (by rfl) B.int_ (by decide +kernel) (pa_cons (pe_cmpR op_in_seq (pv 7) (pe_lst (pa_cons pe_int (pa_cons pe_int pa_nil))) (by rfl)) pa_nil)) (fun _ _ => rfl)) (pa_cons (pe_ix ix_list (pe_lst (pa_cons (pe_op op_add (pv 1) (pv 6)) (pa_cons pe_non pa_nil))) (pe_callTy call_int1 (by rfl) B.int_ (by decide +kernel) (pa_cons (pe_cmpR op_in_seq (pv 7) (pe_lst (pa_cons pe_int (pa_cons pe_int pa_nil))) (by rfl)) pa_nil)) (fun _ _ => rfl)) pa_nil))))))))), ?_⟩
    refine ⟨_, rfl, 0, r, rfl, _, rfl, 0, r, rfl, _, _, rfl, ?_⟩
    have el : (if r < 0 then r else 0) = min 0 r := by omega
    have eh : (if r > 0 then r else 0) = max 0 r := by omega
    rw [el, eh]
    -- one offset
    have pick : ∀ (σ : L2.St) (H0 : Hp), σ[0]? = some (some (.ref d)) → DrawAt H0 d → ∀ R : VK, (∀ v H', 0 ≤ v → v ≤ 2 ^ 80 → DrawAt H' d → But d H0 H' → R (.int v) H') →
        tOp (rIxL K) (tLst (tCons (tC (.int 0)) (tCons (tC (.int 1)) (tCons (tCall spDraw [] E0 (tCons (tVar 0) (tCons (tC (.int 5)) tNil))) (tCons (tOp (rI CPow fun i j => .int (i ^ j.toNat)) (tC (.int 10)) (tC (.int 22))) tNil))))) (tCall spDraw [] E0 (tCons (tVar 0) (tCons (tC (.int 4)) tNil))) σ H0 R := fun σ H0 e0 d0 R q => by
      refine ⟨_, e0, d, 5, rfl, d0, by decide, by decide +kernel, fun v H1 v0 v1 d1 b1 => ?_⟩
      refine ⟨_, _, rfl, rfl, cpow, (by show 4 ≤ sizeLine; decide), fun l nl => ?_⟩
      generalize e1 : upd H1 l _ = H2
      have s2 := same_up nl e1
      have h2 : H2 l = some (.lst [.int 0, .int 1, .int v, .int (10 ^ (22 : Int).toNat)]) := at_up e1
      rw [e22] at h2
      clear e1
      have nld : l ≠ d := fun z => by
        obtain ⟨_, _, hz⟩ := d1
        rw [← z, nl] at hz
        cases hz
      refine ⟨_, e0, d, 4, rfl, d1.same s2, by decide, by decide +kernel, fun i H3 i0 i1 d3 b3 => ?_⟩
      have h3 := b3 _ _ nld h2
      have b03 := b1.trans ((But.of s2).trans b3)
      by_cases c0 : i = 0
      · subst c0
        exact ⟨l, _, 0, _, rfl, rfl, SqL.of h3, at0, q _ H3 (by decide) (by decide) d3 b03⟩
      · by_cases c1 : i = 1
        · subst c1
          exact ⟨l, _, 1, _, rfl, rfl, SqL.of h3, at1, q _ H3 (by decide) (by decide) d3 b03⟩
        · by_cases c2 : i = 2
          · subst c2
            exact ⟨l, _, 2, _, rfl, rfl, SqL.of h3, at2, q _ H3 v0 (by omega) d3 b03⟩
          · have c3 : i = 3 := by omega
            subst c3
            exact ⟨l, _, 3, _, rfl, rfl, SqL.of h3, at3, q _ H3 (by decide) (by decide) d3 b03⟩
    refine ⟨_, rfl, pick _ _ rfl hd _ fun v1 H1 v10 v11 d1 b1 => ⟨_, _, rfl, rfl, ?_⟩⟩
    refine ⟨_, rfl, pick _ _ rfl d1 _ fun v2 H2 v20 v21 d2 b2 => ⟨_, _, rfl, rfl, ?_⟩⟩
    refine ⟨_, rfl, d, 6, rfl, d2, by decide, by decide +kernel, fun wy H3 _ _ d3 b3 => ?_⟩
    have b13 := (b1.trans b2).trans b3
    -- one end
    have endp : ∀ (j : Nat) (z p q : Int) (σ : L2.St) (H0 : Hp), σ[1]? = some (some (.int h)) → σ[j]? = some (some (.int z)) → σ[7]? = some (some (.int wy)) → ∀ R : VK, (∀ (o : Option Int) H', (∀ u, o = some u → u = h + z) → Same H0 H' → R (vo o) H') →
        tOp (rIxL K) (tLst (tCons (tOp (rI0 fun i j => .int (i + j)) (tVar 1) (tVar j)) (tCons (tC .non) tNil))) (tCB (fun xs H Q => (∃ i, xs = [.int i] ∧ Q (.int i) H) ∨ ∃ k, xs = [.bl k] ∧ Q (.int (if k then 1 else 0)) H) (tCons (tOp (rIn K false) (tVar 7) (tLst (tCons (tC (.int p)) (tCons (tC (.int q)) tNil)))) tNil)) σ H0 R := fun j z p q σ H0 e1 ej e7 R c => by
      refine ⟨_, e1, _, ej, _, _, rfl, rfl, (by show 2 ≤ sizeLine; decide), fun l nl => ?_⟩
      generalize e1 : upd H0 l _ = H1
      have s1 := same_up nl e1
      have h1 := at_up e1
      clear e1
      refine ⟨_, e7, (by show 2 ≤ sizeLine; decide), fun l2 nl2 => ?_⟩
      generalize e2 : upd H1 l2 _ = H2
      have s2 := same_up nl2 e2
      have h2 := at_up e2
      clear e2
      refine ⟨l2, _, rfl, Or.inl (SqL.of h2), rfl, rfl, Or.inr ⟨_, rfl, ?_⟩⟩
      have h12 := s2 _ _ h1
      cases (if false = true then !inV (V.int wy) [V.int p, V.int q] else inV (V.int wy) [V.int p, V.int q]) with
      | true => exact ⟨l, _, 1, _, rfl, rfl, SqL.of h12, at1, c none H2 (fun u e => by cases e) (st_same s1 s2)⟩
      | false => exact ⟨l, _, 0, _, rfl, rfl, SqL.of h12, at0, c (some (h + z)) H2 (fun u e => by cases e; rfl) (st_same s1 s2)⟩
    refine endp 5 (min 0 r - v1) 1 3 _ H3 rfl rfl rfl _ fun lo H4 hlo s4 => ?_
    refine endp 6 (max 0 r + v2) 2 3 _ H4 rfl rfl rfl _ fun hi H5 hhi s5 => ?_
    refine ⟨(by show 2 ≤ sizeLine; decide), fun t nt => ?_⟩
    have s6 := Same.new (o := .tup [vo lo, vo hi]) nt
    refine k t lo hi _ ⟨fun l e => ?_, fun u e => ?_⟩ (d3.same (st_same (st_same s4 s5) s6)) (b13.trans (But.of (st_same (st_same s4 s5) s6))) upd_same
    · have := hlo l e
      omega
    · have := hhi u e
      omega
end
end HK

namespace HK
open PySem PySem.Spec PyProof.Rows L2
def spEnd : Sp := fun vs H Q _ => ∃ (a l : Addr) (x h s : Int) (M : List HS.Run), vs = [.ref a, .ref l] ∧ St3 H a x h s ∧ RunsAt H l M ∧ (∀ r ∈ M, 0 ≤ r.2) ∧ HS.total M < 2 ^ 195 ∧ HS.iabs h < 2 ^ 195 ∧ M.length ≤ 100 ∧
  ∀ H' t b mn mx, Same H H' → (∀ B : Int → Prop, B h → HS.Ins B (x, h, s) M → B mn ∧ B mx) → St3 H' b (HS.fin (x, h, s) M).1 (HS.fin (x, h, s) M).2.1 (HS.fin (x, h, s) M).2.2 → H' t = some (.tup [.ref b, .int mn, .int mx]) → Q (.ref t) H'
def spInside : Sp := fun vs H Q _ => ∃ (t : Addr) (mn mx : Int) (lo hi : Option Int), vs = [.ref t, .int mn, .int mx] ∧ St2 H t (vo lo) (vo hi) ∧ Q (.bl (loOk mn lo && hiOk mx hi)) H
def spLRuns (CB : Addr) : Sp := fun vs H Q _ => ∃ (a b p : Addr) (x h s x' h' s' n : Int) (lo hi : Option Int), vs = [.ref a, .ref b, .int n, .ref p] ∧ St3 H a x h s ∧ St3 H b x' h' s' ∧ BandAt CB H p lo hi ∧ Sit x h x' h' lo hi ∧ 0 ≤ n ∧ n < 2 ^ 190 ∧
  ∀ H', Same H H' → (reachB x h s x' h' s' n lo hi = true → ∀ l M, H l = none → RunsAt H' l M → HS.Good M (x' - x) (h' - h) (s' - s - h * (x' - x)) n (lo.map (h - ·)) (hi.map (· - h)) → Q (.ref l) H') ∧
    (reachB x h s x' h' s' n lo hi = false → Q .non H')
def spRight : Sp := fun vs H Q _ => ∃ (a b t : Addr) (x h s x' h' s' n : Int) (lo hi : Option Int), vs = [.ref a, .ref b, .int n, .ref t, .bl (reachB x h s x' h' s' n lo hi)] ∧ St3 H a x h s ∧ St3 H b x' h' s' ∧ St2 H t (vo lo) (vo hi) ∧ Sit x h x' h' lo hi ∧ HS.iabs h < 2 ^ 190 ∧ 0 ≤ n ∧ n < 2 ^ 190 ∧
  ∀ H', Same H H' → Q (.bl true) H'
theorem fin_take {t : HS.Pt} {M : List HS.Run} {i : Nat} {r : HS.Run} (h : M[i]? = some r) : HS.fin t (M.take (i + 1)) = HS.mv (HS.fin t (M.take i)) r := by
  rw [take_more h, HS.fin_snoc]
theorem eqv3 (x h s : Int) : PyData.eqv (.tuple [.int x, .int h, .int s]) (.tuple [.int x, .int h, .int s]) = true := by
  simp [PyData.eqv, PyData.eqvAll]
theorem shaped3 (x h s : Int) : SeqAt.shaped (.tuple [.int x, .int h, .int s]) = true := by
  simp [SeqAt.shaped, PyData.canLay0, PyData.canLayAll0, PyData.depth, PyData.depthAll]
section
variable {P : Program} {w : World} {K : PySem.W.Frag} {mg : Str → Option Value} {base : Heap} {f CB CX' : Addr} {fd : FuncData}
abbrev s__law_end : Stmt := top 53
abbrev N__law_end : List Str := ["_law_start", "_law_runs_here", "_law_x", "_law_h", "_law_s", "_law_heights", "_law_step", "_law_length", "_law_change"]
theorem sc__law_end : FnScope N__law_end ["_law_start", "_law_runs_here"] (defScope s__law_end) := ⟨rfl, rfl, rfl, by decide +kernel, rfl, by decide +kernel, by decide +kernel⟩
theorem ok_law_end (F : FnP K "_law_end" "_law_end" s__law_end [] [] f fd) (B : Bi mg) : FnOk P w K mg base CX0 1 f fd ["_law_start", "_law_runs_here"] spEnd := by
  refine F.ok sc__law_end (fun vs H Q E h => ?_) (fun cdv A outer s H vs Q E hr h => ?_)
  · obtain ⟨a, l, x, h, s, M, rfl, _⟩ := h
    rfl
  · obtain ⟨a, l, x, h, s, M, rfl, ha, hl, pos, tot, hb, len, k⟩ := h
    obtain ⟨as, hl0, pr⟩ := hl
    have t0 := HS.total_nn pos
    refine ⟨_, PSs.nox (pss_cons (ps_asg (pv 0) (pg_tup rfl (pgs_cons (pg_name (i := 2) sc__law_end.nd rfl (Or.inl rfl)) (pgs_cons (pg_name (i := 3) sc__law_end.nd rfl (Or.inl rfl)) (pgs_cons (pg_name (i := 4) sc__law_end.nd rfl (Or.inl rfl)) pgs_nil)))))
  (pss_cons (ps_set (i := 5) sc__law_end.nd rfl (Or.inl rfl) (pe_lst (pa_cons (pv 3) pa_nil)))
  (pss_cons (ps_for PassesOwn.never rfl (pi_list (pv 1)) (pg_tup rfl (pgs_cons (pg_name (i := 6) sc__law_end.nd rfl (Or.inl rfl)) (pgs_cons (pg_name (i := 7) sc__law_end.nd rfl (Or.inl rfl)) pgs_nil)))
    (pss_one (ps_if (pt_cmpR op_in_seq (pv 6) (pe_lst (pa_cons pe_str (pa_cons pe_str pa_nil))) (by rfl))
      (pss_cons (ps_set (i := 8) sc__law_end.nd rfl (Or.inl rfl) (pe_op op_mul (pv 7) (pe_ix ix_list (pe_lst (pa_cons pe_int (pa_cons (pe_un un_neg pe_int) pa_nil))) (pe_callTy call_int1 (by rfl) B.int_ (by decide +kernel) (pa_cons (pe_cmpR op_eq (pv 6) pe_str (nomark _)) pa_nil)) (fun _ _ => rfl))))
      (pss_one (ps_par (i := 2) (j := 4) rfl sc__law_end.nd rfl rfl (by decide) rfl rfl (pa_cons (pe_op op_add (pv 2) (pv 8)) (pa_cons (pe_op op_add (pv 4) (pe_op op_mulW (pv 3) (pv 8))) pa_nil)) (by rfl))))
      (pss_cons (ps_set (i := 3) sc__law_end.nd rfl (Or.inl rfl) (pe_op op_add (pv 3) (pe_op op_mul (pv 7) (pe_ix ix_list (pe_lst (pa_cons pe_int (pa_cons (pe_un un_neg pe_int) pa_nil))) (pe_callTy call_int1 (by rfl) B.int_ (by decide +kernel) (pa_cons (pe_cmpR op_eq (pv 6) pe_str (nomark _)) pa_nil)) (fun _ _ => rfl)))))
      (pss_one (ps_expr (pe_bm PySem.F.plainAttrs_list PySem.F.slot_list_append PySem.F.type_list_append mt_append (pv 5) (pa_cons (pv 3) pa_nil))))))))
  (pss_one (ps_ret (pe_tup (pa_cons (pe_tup (pa_cons (pv 2) (pa_cons (pv 3) (pa_cons (pv 4) pa_nil)))) (pa_cons (pe_callB (cr_min rfl) (by rfl) B.min (by decide +kernel) (pa_cons (pv 5) pa_nil)) (pa_cons (pe_callB (cr_max rfl) (by rfl) B.max (by decide +kernel) (pa_cons (pv 5) pa_nil)) pa_nil))))))))), ?_⟩
    refine ⟨_, rfl, a, _, rfl, SqT.of ha, rfl, _, _, rfl, _, _, rfl, _, _, rfl, rfl, ?_⟩
    refine ⟨_, rfl, (by show 1 ≤ sizeLine; decide), fun hp nhp => ?_⟩
    generalize e1 : upd H hp _ = H1
    have s1 := same_up nhp e1
    have h1 := at_up e1
    clear e1
    have hl1 := s1 _ _ hl0
    have nlh : l ≠ hp := ne_of_none hl0 nhp
    refine ⟨_, rfl, l, rfl, ⟨_, SqL.of hl1⟩, for_list (K := K) (a := l) (xs := as.map V.ref) (fun i σ H2 => ∃ (hs : List Int) (u v c : Option V), σ = [some (.ref a), some (.ref l), some (.int (HS.fin (x, h, s) (M.take i)).1), some (.int (HS.fin (x, h, s) (M.take i)).2.1), some (.int (HS.fin (x, h, s) (M.take i)).2.2), some (.ref hp), u, v, c] ∧
        H2 hp = some (.lst (hs.map V.int)) ∧ 0 < hs.length ∧ hs.length ≤ i + 1 ∧ (∀ B : Int → Prop, B h → HS.Ins B (x, h, s) (M.take i) → ∀ z ∈ hs, B z) ∧ But hp H1 H2) ⟨[h], none, none, none, rfl, h1, by simp, by simp, fun B b0 _ z hz => by rw [List.mem_singleton.mp hz]; exact b0, But.refl⟩ ?_ ?_ ?_⟩
    · rintro i σ H2 _ ⟨hs, u, v, c, rfl, _, _, _, _, b2⟩
      exact SqL.of (b2 _ _ nlh hl1)
    · rintro i y σ H2 hy ⟨hs, u, v, sl, rfl, h2, l0, l1, hB, b2⟩
      rw [List.getElem?_map] at hy
      cases ea : as[i]? with
      | none =>
        rw [ea] at hy
        cases hy
      | some q =>
        rw [ea] at hy
        have ey : V.ref q = y := Option.some.inj hy
        subst ey
        obtain ⟨r, hr0, ra⟩ := Paired.get pr ea
        have nqh : q ≠ hp := ne_of_none (show H q = some _ from ra) nhp
        have ra2 := b2 _ _ nqh (s1 _ _ ra)
        have hi : i < M.length := (List.getElem?_eq_some_iff.mp hr0).1
        have ef := fin_take (t := (x, h, s)) hr0
        have rm : r ∈ M := List.mem_of_getElem? hr0
        have r0 := pos r rm
        have r1 := HS.le_total pos rm
        have hh := HS.fin_height (M := M.take i) (t := (x, h, s)) fun z hz => pos z (List.take_subset _ _ hz)
        have ht := HS.total_take (M := M) (i := i) pos
        have bh : Bd (HS.fin (x, h, s) (M.take i)).2.1 := by
          unfold HS.iabs at hb
          have hh' : h - HS.total (M.take i) ≤ (HS.fin (x, h, s) (M.take i)).2.1 ∧ (HS.fin (x, h, s) (M.take i)).2.1 ≤ h + HS.total (M.take i) := hh
          exact Bd.of (by omega) (by omega)
        have hins : ∀ B : Int → Prop, HS.Ins B (x, h, s) (M.take (i + 1)) → HS.Ins B (x, h, s) (M.take i) ∧ B (HS.fin (x, h, s) (M.take (i + 1))).2.1 := fun B z => by
          rw [take_more hr0] at z ⊢
          exact HS.ins_snoc.mp z
        refine ⟨q, _, rfl, SqT.of ra2, rfl, _, _, rfl, _, _, rfl, rfl, ?_⟩
        refine ⟨_, rfl, (by show 2 ≤ sizeLine; decide), fun l2 nl2 => ?_⟩
        generalize e3 : upd H2 l2 _ = H3
        have s3 := same_up nl2 e3
        have h3 := at_up e3
        clear e3
        have hh3 := s3 _ _ h2
        have nhl : ∀ {t : Addr} {H4 : Hp}, Same H2 H4 → H4 t = none → hp ≠ t := fun e z => ne_of_none (e _ _ h2) z
        refine ⟨l2, _, rfl, Or.inl (SqL.of h3), rfl, rfl, _, rfl, ?_⟩
        -- the sign: [1, -1][int(step == ..)]
        have sign : ∀ (t : HS.Step) (H0 : Hp) (σ : L2.St), Same H2 H0 → σ[6]? = some (some (.str (sS r.1))) → σ[7]? = some (some (.int r.2)) → ∀ R : VK, (∀ H4, Same H2 H4 → R (.int (r.2 * (if r.1 = t then -1 else 1))) H4) →
            tOp (rI CMul fun i j => .int (i * j)) (tVar 7) (tOp (rIxL K) (tLst (tCons (tC (.int 1)) (tCons (tUn (rU fun i => .int (-i)) (tC (.int 1))) tNil))) (tCB (fun xs H Q => (∃ i, xs = [.int i] ∧ Q (.int i) H) ∨ ∃ k, xs = [.bl k] ∧ Q (.int (if k then 1 else 0)) H) (tCons (tOp rEq (tVar 6) (tC (.str (sS t)))) tNil))) σ H0 R := fun t H0 σ e0 e6 e7 R q => by
          refine ⟨_, e7, 1, rfl, (by show 2 ≤ sizeLine; decide), fun l4 nl4 => ?_⟩
          generalize e5 : upd H0 l4 _ = H5
          have s5 := same_up nl4 e5
          have h5 := at_up e5
          clear e5
          refine ⟨_, e6, rfl, Or.inr ⟨_, rfl, ?_⟩⟩
          rw [sS_eq]
          by_cases c : r.1 = t
          · rw [decide_eq_true c]
            refine ⟨l4, _, 1, _, rfl, rfl, SqL.of h5, at1, _, _, rfl, rfl, Or.inr (by decide), ?_⟩
            have := q H5 (st_same e0 s5)
            rw [if_pos c] at this
            exact this
          · rw [decide_eq_false c]
            refine ⟨l4, _, 0, _, rfl, rfl, SqL.of h5, at0, _, _, rfl, rfl, Or.inr (by decide), ?_⟩
            have := q H5 (st_same e0 s5)
            rw [if_neg c] at this
            exact this
        generalize HS.fin (x, h, s) (M.take i) = p at *
        obtain ⟨px, ph, ps⟩ := p
        have flat : r.1 = .E ∨ r.1 = .W → (if (if false = true then !inV (V.str (sS r.1)) [V.str "E", V.str "W"] else inV (V.str (sS r.1)) [V.str "E", V.str "W"]) = true then True else False) := fun z => by
          rcases z with z | z
          · rw [z, if_pos (by decide +kernel)]
            trivial
          · rw [z, if_pos (by decide +kernel)]
            trivial
        by_cases c : r.1 = .E ∨ r.1 = .W
        · have cv : (if false = true then !inV (V.str (sS r.1)) [V.str "E", V.str "W"] else inV (V.str (sS r.1)) [V.str "E", V.str "W"]) = true := by
            rcases c with z | z
            · rw [z]; decide +kernel
            · rw [z]; decide +kernel
          refine ifT cv ?_
          refine sign .W H3 _ s3 rfl rfl _ fun H4 s4 => ?_
          have bc : Bd (r.2 * (if r.1 = .W then -1 else 1)) := by
            split
            · exact Bd.of (by omega) (by omega)
            · exact Bd.of (by omega) (by omega)
          refine ⟨_, rfl, _, rfl, _, _, rfl, rfl, _, rfl, _, rfl, _, rfl, _, _, rfl, rfl, Bd.mul bh bc, _, _, rfl, rfl, _, _, rfl, ?_⟩
          refine ⟨hs, some (.str (sS r.1)), some (.int r.2), some (.int (r.2 * (if r.1 = .W then -1 else 1))), ?_, s4 _ _ h2, l0, by omega, fun B b0 bi => hB B b0 (hins B bi).1, b2.trans (But.of s4)⟩
          rw [ef]
          obtain ⟨st, n⟩ := r
          rcases c with z | z
          · have z' : st = .E := z
            subst z'
            show [some (V.ref a), some (V.ref l), some (V.int (px + n * 1)), some (V.int ph), some (V.int (ps + ph * (n * 1))), some (V.ref hp), _, _, _] = [some (V.ref a), some (V.ref l), some (V.int (px + n)), some (V.int ph), some (V.int (ps + ph * n)), some (V.ref hp), _, _, _]
            rw [Int.mul_one]
          · have z' : st = .W := z
            subst z'
            show [some (V.ref a), some (V.ref l), some (V.int (px + n * -1)), some (V.int ph), some (V.int (ps + ph * (n * -1))), some (V.ref hp), _, _, _] = [some (V.ref a), some (V.ref l), some (V.int (px - n)), some (V.int ph), some (V.int (ps - ph * n)), some (V.ref hp), _, _, _]
            rw [show n * -1 = -n by omega, Int.mul_neg, show px + -n = px - n by omega, show ps + -(ph * n) = ps - ph * n by omega]
        · have cv : (if false = true then !inV (V.str (sS r.1)) [V.str "E", V.str "W"] else inV (V.str (sS r.1)) [V.str "E", V.str "W"]) = false := by
            obtain ⟨st, n⟩ := r
            cases st with
            | E => exact absurd (Or.inl rfl) c
            | W => exact absurd (Or.inr rfl) c
            | U => exact (by decide +kernel : (if false = true then !inV (V.str (sS .U)) [V.str "E", V.str "W"] else inV (V.str (sS .U)) [V.str "E", V.str "W"]) = false)
            | D => exact (by decide +kernel : (if false = true then !inV (V.str (sS .D)) [V.str "E", V.str "W"] else inV (V.str (sS .D)) [V.str "E", V.str "W"]) = false)
          refine ifF cv ?_
          refine ⟨_, rfl, sign .D H3 _ s3 rfl rfl _ fun H4 s4 => ⟨_, _, rfl, rfl, ?_⟩⟩
          have h4 := s4 _ _ h2
          refine ⟨_, rfl, Or.inl ⟨rfl, _, Or.inl (Or.inl h4)⟩, _, rfl, hp, _, _, rfl, rfl, h4, ?_, ?_⟩
          · rw [List.length_map]
            exact small1000 (by omega)
          · refine ⟨hs ++ [ph + r.2 * (if r.1 = .D then -1 else 1)], some (.str (sS r.1)), some (.int r.2), sl, ?_, ?_, by simp, by simp; omega, fun B b0 bi z hz => ?_, (b2.trans (But.of s4)).trans But.upd⟩
            · rw [ef]
              obtain ⟨st, n⟩ := r
              cases st with
              | E => exact absurd (Or.inl rfl) c
              | W => exact absurd (Or.inr rfl) c
              | U =>
                show [some (V.ref a), some (V.ref l), some (V.int px), some (V.int (ph + n * 1)), some (V.int ps), some (V.ref hp), _, _, _] = [some (V.ref a), some (V.ref l), some (V.int px), some (V.int (ph + n)), some (V.int ps), some (V.ref hp), _, _, _]
                rw [Int.mul_one]
              | D =>
                show [some (V.ref a), some (V.ref l), some (V.int px), some (V.int (ph + n * -1)), some (V.int ps), some (V.ref hp), _, _, _] = [some (V.ref a), some (V.ref l), some (V.int px), some (V.int (ph - n)), some (V.int ps), some (V.ref hp), _, _, _]
                rw [show ph + n * -1 = ph - n by omega]
            · rw [upd_same, List.map_append]
              rfl
            · obtain ⟨bi1, bi2⟩ := hins B bi
              rcases List.mem_append.mp hz with hz | hz
              · exact hB B b0 bi1 z hz
              · rw [List.mem_singleton.mp hz]
                rw [ef] at bi2
                obtain ⟨st, n⟩ := r
                cases st with
                | E => exact absurd (Or.inl rfl) c
                | W => exact absurd (Or.inr rfl) c
                | U =>
                  have bi3 : B (ph + n) := bi2
                  show B (ph + n * 1)
                  rw [Int.mul_one]
                  exact bi3
                | D =>
                  have bi3 : B (ph - n) := bi2
                  show B (ph + n * -1)
                  rw [show ph + n * -1 = ph - n by omega]
                  exact bi3
    · rintro σ H2 ⟨hs, u, v, c, rfl, h2, l0, l1, hB, b2⟩
      rw [List.length_map, Paired.len pr, List.take_length] at *
      refine ⟨_, rfl, _, rfl, _, rfl, (by show 3 ≤ sizeLine; decide), fun b nb => ?_⟩
      generalize e3 : upd H2 b _ = H3
      have s3 := same_up nb e3
      have h3 := at_up e3
      clear e3
      refine ⟨_, rfl, hp, hs, rfl, SqL.of (s3 _ _ h2), l0, fun mn mn1 _ => ?_⟩
      refine ⟨_, rfl, hp, hs, rfl, SqL.of (s3 _ _ h2), l0, fun mx mx1 _ => ?_⟩
      refine ⟨(by show 3 ≤ sizeLine; decide), fun t nt => ?_⟩
      have s4 := Same.new (o := .tup [.ref b, .int mn, .int mx]) nt
      exact k _ t b mn mx (fun o z e => s4 _ _ (s3 _ _ (b2 _ _ (ne_of_none e nhp) (s1 _ _ e)))) (fun B b0 bi => ⟨hB B b0 bi mn mn1, hB B b0 bi mx mx1⟩) (s4 _ _ h3) upd_same
abbrev s__law_inside : Stmt := top 54
abbrev N__law_inside : List Str := ["_law_ends", "_law_lowest", "_law_highest"]
theorem sc__law_inside : FnScope N__law_inside ["_law_ends", "_law_lowest", "_law_highest"] (defScope s__law_inside) := ⟨rfl, rfl, rfl, by decide +kernel, rfl, by decide +kernel, by decide +kernel⟩
theorem ok_law_inside (F : FnP K "_law_inside" "_law_inside" s__law_inside [] [] f fd) : FnOk P w K mg base CX0 1 f fd ["_law_ends", "_law_lowest", "_law_highest"] spInside := by
  refine F.ok sc__law_inside (fun vs H Q E h => ?_) (fun cdv A outer s H vs Q E hr h => ?_)
  · obtain ⟨t, mn, mx, lo, hi, rfl, _⟩ := h
    rfl
  · obtain ⟨t, mn, mx, lo, hi, rfl, ht, k⟩ := h
    have tt := SqT.of (K := K) ht
    refine ⟨_, PSs.nox (pss_one (ps_ret (pe_and (pe_or (pe_cmpR op_isN (pe_ix ix_tup (pv 0) pe_int (fun _ _ => rfl)) pe_non (nomark _)) (pe_one (pe_cmpR op_le (pe_ix ix_tup (pv 0) pe_int (fun _ _ => rfl)) (pv 1) (nomark _)))) (pe_one (pe_or (pe_cmpR op_isN (pe_ix ix_tup (pv 0) pe_int (fun _ _ => rfl)) pe_non (nomark _)) (pe_one (pe_cmpR op_le (pv 2) (pe_ix ix_tup (pv 0) pe_int (fun _ _ => rfl)) (nomark _)))))))), ?_⟩
    have part2 : ∀ b : Bool, loOk mn lo = b → b = true → tOrV (tOp (fun x y H Q => y = .non ∧ Q (.bl (decide (x = .non))) H) (tOp (rIxT K) (tVar 0) (tC (.int 1))) (tC .non)) (tOp (rI0 fun i j => .bl (decide (i ≤ j))) (tVar 2) (tOp (rIxT K) (tVar 0) (tC (.int 1)))) (start N__law_inside [.ref t, .int mn, .int mx]) H Q := fun b e hb => by
      subst hb
      rw [e] at k
      refine ⟨_, rfl, _, _, _, _, rfl, rfl, tt, at1, rfl, _, rfl, ?_⟩
      cases hi with
      | none => exact iteT k
      | some u => exact iteF ⟨_, rfl, _, rfl, _, _, _, _, rfl, rfl, tt, at1, mx, u, rfl, rfl, k⟩
    refine ⟨_, rfl, _, _, _, _, rfl, rfl, tt, at0, rfl, _, rfl, ?_⟩
    cases lo with
    | none => exact iteT ⟨_, rfl, iteT (part2 true rfl rfl)⟩
    | some l =>
      refine iteF ⟨_, rfl, _, _, _, _, rfl, rfl, tt, at0, _, rfl, l, mn, rfl, rfl, _, rfl, ?_⟩
      by_cases c : l ≤ mn
      · exact ifT (decide_eq_true c) (part2 (decide (l ≤ mn)) rfl (decide_eq_true c))
      · refine ifF (decide_eq_false c) ?_
        have e : loOk mn (some l) = false := decide_eq_false c
        rw [e] at k
        exact k
abbrev s__law_runs : Stmt := top 55
abbrev N__law_runs : List Str := ["_law_start", "_law_end_here", "_law_length", "_law_limits"]
theorem sc__law_runs : FnScope N__law_runs ["_law_start", "_law_end_here", "_law_length", "_law_limits"] (defScope s__law_runs) := ⟨rfl, rfl, rfl, by decide +kernel, rfl, by decide +kernel, by decide +kernel⟩
theorem ok_law_runs (F : FnP K "_law_runs" "_law_runs" s__law_runs [] [] f fd) (TX : Tx K mg CX') (c_runs_of_length : CalN P w K mg base (L2.CX P w) 9 3 "runs_of_length" ["start", "end", "length", "band"] ["band"] (spRunsL CB CX')) :
    FnOk P w K mg base CX0 10 f fd ["_law_start", "_law_end_here", "_law_length", "_law_limits"] (spLRuns CB) := by
  refine F.ok sc__law_runs (fun vs H Q E h => ?_) (fun cdv A outer sh H vs Q E hr h => ?_)
  · obtain ⟨a, b, p, x, h, s, x', h', s', n, lo, hi, rfl, _⟩ := h
    rfl
  · obtain ⟨a, b, p, x, h, s, x', h', s', n, lo, hi, rfl, ha, hb, hp, g, n0, n1, k⟩ := h
    refine ⟨_, PSs.nox (X := cxOf CX0 P w K mg base N__law_runs "_law_runs" (defScope s__law_runs) f cdv A outer sh H E) (st := defBody s__law_runs) (t := fun D σ H => tRet (tCallNS 3 1 (spRunsL CB CX') (WE (wOnly K (.ref CX') (fun _ _ _ => tRet (tC .non)) (fun _ _ _ _ => False) D)) (tCons (tVar 0) (tCons (tVar 1) (tCons (tVar 2) tNil))) (tCons (tVar 3) tNil)) D σ H) ?dd, ?_⟩
    case dd =>
      refine pss_one ?_
      refine ps_try_only (tb := fun W => tRet (tCallNS 3 1 (spRunsL CB CX') (WE W) (tCons (tVar 0) (tCons (tVar 1) (tCons (tVar 2) tNil))) (tCons (tVar 3) tNil))) (ts := fun _ _ _ => tRet (tC .non)) (Wout := fun _ _ _ _ => False) rfl rfl ⟨by rfl, by decide, Or.inl TX.g⟩ takes0 (fun W pn xe tk _ => ?_) (fun a oe cls d pn _ _ => pss_one (ps_ret pe_non))
      refine pss_one (ps_ret ?_)
      refine pe_calNS (j := 9) c_runs_of_length hr ?q1 (fun σ => passAt tk σ) ?q2 ?q3 ?q4 ?q5 ?q6 ?q7 ?q8 ?q9
      case q1 => rfl
      case q2 => exact pa_cons (pv 0) (pa_cons (pv 1) (pa_cons (pv 2) pa_nil))
      case q3 => exact pk_cons (pv 3) pk_nil
      case q4 => decide
      case q5 => rfl
      case q6 => rfl
      case q7 => decide
      case q8 => rfl
      case q9 => rfl
    refine ⟨_, rfl, _, rfl, _, rfl, _, rfl, rfl, rfl, a, b, p, x, h, s, x', h', s', n, lo, hi, rfl, ha, hb, hp, g, n0, n1, fun H1 s1 => ⟨fun q l M nl r gd => (k H1 s1).1 q l M nl r gd, fun q => ?_⟩⟩
    exact ⟨true, TX.e, fun _ _ _ => (k H1 s1).2 q, fun z => nomatch z⟩
end
end HK

namespace HK
open PySem PySem.Spec PyProof.Rows L2
theorem inB_le {lo hi : Option Int} {z : Int} (h : inB lo hi z = true) : ∀ l u, lo = some l → hi = some u → l ≤ u := fun l u e1 e2 => by
  subst e1 e2
  obtain ⟨a, b⟩ := Bool.and_eq_true_iff.mp h
  have x1 : l ≤ z := of_decide_eq_true a
  have x2 : z ≤ u := of_decide_eq_true b
  omega
theorem band_ins {lo hi : Option Int} {h z : Int} (h1 : ∀ k, lo.map (h - ·) = some k → h - k ≤ z) (h2 : ∀ k, hi.map (· - h) = some k → z ≤ h + k) : loOk z lo = true ∧ hiOk z hi = true := by
  constructor
  · cases lo with
    | none => rfl
    | some l =>
      have := h1 (h - l) rfl
      exact decide_eq_true (by omega)
  · cases hi with
    | none => rfl
    | some u =>
      have := h2 (u - h) rfl
      exact decide_eq_true (by omega)
section
variable {P : Program} {w : World} {K : PySem.W.Frag} {mg : Str → Option Value} {base : Heap} {f CB CX' : Addr} {fd : FuncData}
abbrev s__law_right : Stmt := top 56
abbrev N__law_right : List Str := ["_law_start", "_law_end_here", "_law_length", "_law_ends", "_law_expected", "_law_limits", "_law_runs_here", "_law_step", "_law_size", "_law_at", "_law_found", "_law_lowest", "_law_highest"]
theorem sc__law_right : FnScope N__law_right ["_law_start", "_law_end_here", "_law_length", "_law_ends", "_law_expected"] (defScope s__law_right) := ⟨rfl, rfl, rfl, by decide +kernel, rfl, by decide +kernel, by decide +kernel⟩
theorem ok_law_right (F : FnP K "_law_right" "_law_right" s__law_right [] [] f fd) (B : Bi mg) (k_Band : Mak P w K mg base 2 "Band" CB ["self", "low", "high"] (spBandInit CB)) (c__law_runs : Cal P w K mg base 10 "_law_runs" ["_law_start", "_law_end_here", "_law_length", "_law_limits"] [] (spLRuns CB))
    (c_is_reachable : CalN P w K mg base CX0 8 3 "is_reachable" ["start", "end", "length", "band"] ["band"] (spReach CB)) (c__law_end : Cal P w K mg base 1 "_law_end" ["_law_start", "_law_runs_here"] [] spEnd) (c__law_inside : Cal P w K mg base 1 "_law_inside" ["_law_ends", "_law_lowest", "_law_highest"] [] spInside) :
    FnOk P w K mg base CX0 11 f fd ["_law_start", "_law_end_here", "_law_length", "_law_ends", "_law_expected"] spRight := by
  refine F.ok sc__law_right (fun vs H Q E h => ?_) (fun cdv A outer s H vs Q E hr h => ?_)
  · obtain ⟨a, b, t, x, h, s, x', h', s', n, lo, hi, rfl, _⟩ := h
    rfl
  · obtain ⟨a, b, t, x, h, s, x', h', s', n, lo, hi, rfl, ha, hb, ht, g, ih, n0, n1, k⟩ := h
    have tt := SqT.of (K := K) ht
    refine ⟨_, PSs.nox (pss_cons (ps_set (i := 5) sc__law_right.nd rfl (Or.inl rfl) (pe_mak k_Band hr (by rfl) (pa_cons (pe_ix ix_tup (pv 3) pe_int (fun _ _ => rfl)) (pa_cons (pe_ix ix_tup (pv 3) pe_int (fun _ _ => rfl)) pa_nil))))
  (pss_cons (ps_set (i := 6) sc__law_right.nd rfl (Or.inr rfl) (pe_cal c__law_runs hr (by rfl) (pa_cons (pv 0) (pa_cons (pv 1) (pa_cons (pv 2) (pa_cons (pv 5) pa_nil))))))
  (pss_cons (ps_if (PW.pt (pw_or (pt_cmpR op_ne (pe_callB call_repr_bl (by rfl) B.repr (by decide +kernel) (pa_cons (pe_calN c_is_reachable hr (by rfl) pass0 (pa_cons (pv 0) (pa_cons (pv 1) (pa_cons (pv 2) pa_nil))) (pk_cons (pv 5) pk_nil)) pa_nil)) (pe_callB call_repr_bl (by rfl) B.repr (by decide +kernel) (pa_cons (pv 4) pa_nil)) (nomark _)) (pw_or1 (pt_cmpR op_ne (pe_cmpR op_notN (pv 6) pe_non (nomark _)) (pv 4) (nomark _)))))
    (pss_one (ps_ret pe_bl))
    pss_nil)
  (pss_cons (ps_if (pt_not (pt_val (pv 4)))
    (pss_one (ps_ret pe_bl))
    pss_nil)
  (pss_cons (ps_if (PW.pt (pw_or (pt_cmpR op_gt (pe_callB call_len_seq (by rfl) B.len (by decide +kernel) (pa_cons (pv 6) pa_nil)) pe_int (nomark _)) (pw_or1 (pt_cmpR op_ne (pe_callB (cr_sum rfl) (by rfl) B.sum (by decide +kernel) (pa_cons (pe_lc (own := [("_law_step", 7), ("_law_size", 8)]) (g := gTup K 2 (gCons (gName 7) (gCons (gName 8) gNil))) (tt := tYes) (te := tVar 8) (by rfl) sc__law_right.nd (pi_list (pv 6)) (blkOk_by (own := [("_law_step", 7), ("_law_size", 8)]) (N := N__law_right) (sc := defScope s__law_right) (by decide +kernel)) (fun _ _ _ _ _ => by exact (pg_tup rfl (by exact (pgs_cons (by exact (pg_name (i := 7) sc__law_right.nd rfl (Or.inl rfl))) (by exact (pgs_cons (by exact (pg_name (i := 8) sc__law_right.nd rfl (Or.inl rfl))) pgs_nil)))))) (fun _ _ _ _ _ => pts_nil) (fun _ _ _ _ _ => (pv 8))) pa_nil)) (pv 2) (nomark _)))))
    (pss_one (ps_ret pe_bl))
    pss_nil)
  (pss_cons (ps_if (pt_cmpR (op_neD hr.units) (pe_lc (own := [("_law_at", 9)]) (g := (gName 9)) (te := tVar 9) (tt := tTest (tOp rEq (tOp (rIxT K) (tOp (rIxL K) (tVar 6) (tVar 9)) (tC (.int 0))) (tOp (rIxT K) (tOp (rIxL K) (tVar 6) (tOp (rI0 fun i j => .int (i - j)) (tVar 9) (tC (.int 1)))) (tC (.int 0))))) (by rfl) sc__law_right.nd (pi_range2 (by rfl) B.range (pa_cons pe_int (pa_cons (pe_callB call_len_seq (by rfl) B.len (by decide +kernel) (pa_cons (pv 6) pa_nil)) pa_nil))) (blkOk_by (own := [("_law_at", 9)]) (N := N__law_right) (sc := defScope s__law_right) (by decide +kernel)) (fun _ _ _ _ _ => pg_name (i := 9) sc__law_right.nd rfl (Or.inl rfl)) (fun _ _ _ _ _ => by exact (pts_one (by exact (pt_cmpR op_eq (pe_ix ix_tup (pe_ix ix_list (pv 6) (pv 9) (fun _ _ => rfl)) pe_int (fun _ _ => rfl)) (pe_ix ix_tup (pe_ix ix_list (pv 6) (pe_op op_sub (pv 9) pe_int) (fun _ _ => rfl)) pe_int (fun _ _ => rfl)) (nomark _))))) (fun _ _ _ _ _ => (pv 9))) (pe_lst pa_nil) (nomark _))
    (pss_one (ps_ret pe_bl))
    pss_nil)
  (pss_cons (ps_asg (pe_cal c__law_end hr (by rfl) (pa_cons (pv 0) (pa_cons (pv 6) pa_nil))) (pg_tup rfl (pgs_cons (pg_name (i := 10) sc__law_right.nd rfl (Or.inl rfl)) (pgs_cons (pg_name (i := 11) sc__law_right.nd rfl (Or.inl rfl)) (pgs_cons (pg_name (i := 12) sc__law_right.nd rfl (Or.inl rfl)) pgs_nil)))))
  (pss_one (ps_ret (pe_and (pe_cmpR (op_eqD hr.units) (pv 10) (pv 1) (nomark _)) (pe_one (pe_cal c__law_inside hr (by rfl) (pa_cons (pv 3) (pa_cons (pv 11) (pa_cons (pv 12) pa_nil))))))))))))))), ?_⟩
    refine ⟨_, rfl, _, _, _, _, rfl, rfl, tt, at0, _, rfl, _, _, _, _, rfl, rfl, tt, at1, fun p dx np ndp ne => ?_⟩
    refine ⟨p, dx, lo, hi, rfl, upd_same, inB_le g.i1, fun H1 hp b1 => ⟨rfl, ?_⟩⟩
    have s1 := made_same np ndp b1
    refine ⟨_, rfl, _, rfl, _, rfl, _, rfl, a, b, p, x, h, s, x', h', s', n, lo, hi, rfl, s1 _ _ ha, s1 _ _ hb, hp, g, n0, n1, fun H2 s2 => ⟨fun q l M nl r gd => ?_, fun q => ?_⟩⟩
    · -- reachable
      have s12 := st_same s1 s2
      refine ⟨_, rfl, _, rfl, _, rfl, _, rfl, rfl, rfl, a, b, p, x, h, s, x', h', s', n, lo, hi, rfl, s12 _ _ ha, s12 _ _ hb, hp.same s2, g, n0, n1, fun H3 s3 => ?_⟩
      refine ⟨_, rfl, _, rfl, _, rfl, rfl, _, rfl, iteNS rfl ?_⟩
      refine ⟨_, rfl, rfl, _, rfl, rfl, _, rfl, iteNS (by rw [q]; rfl) ?_⟩
      refine ⟨_, rfl, _, rfl, ifF (by rw [q]; rfl) ?_⟩
      have s13 := st_same s12 s3
      have r3 := r.same s3
      obtain ⟨as, hl, pr⟩ := id r3
      have la := Paired.len pr
      have gl := gd.len
      have ll : ((as.map V.ref).length : Int) = (M.length : Int) := by rw [List.length_map, la]
      refine ⟨_, rfl, l, _, rfl, Or.inl (SqL.of hl), _, _, rfl, rfl, _, rfl, ifF (decide_eq_false (by rw [ll]; omega)) ?_⟩
      -- the sum of the lengths
      refine ⟨_, rfl, l, rfl, ⟨_, SqL.of hl⟩, fun D hD => ?_⟩
      refine lc_list (K := K) (a := l) (xs := as.map V.ref) (fun i H' => Same H3 H' ∧ H' D = some (.lst (((M.take i).map (·.2)).map V.int))) ⟨Same.new hD, upd_same⟩ (fun i H' _ z => SqL.of (z.1 _ _ hl)) (fun i y H' hy z => ?_) (fun H4 z => ?_)
      · rw [List.getElem?_map] at hy
        cases ea : as[i]? with
        | none =>
          rw [ea] at hy
          cases hy
        | some u =>
          rw [ea] at hy
          have ey : V.ref u = y := Option.some.inj hy
          subst ey
          obtain ⟨rr, hr0, ra⟩ := Paired.get pr ea
          refine ⟨u, _, rfl, SqT.of (z.1 _ _ ra), rfl, _, _, rfl, _, _, rfl, rfl, rfl, ?_⟩
          refine iteT (B := Same H3 H' ∧ H' D = some (HO.lst (((M.take (i + 1)).map (·.2)).map V.int))) ?_
          refine ⟨_, rfl, _, z.2, ?_, fun o v e => ?_, ?_⟩
          · rw [List.length_map, List.length_map, List.length_take]
            exact small1000 (by omega)
          · rw [upd_ne (ne_of_none e hD)]
            exact z.1 _ _ e
          · rw [upd_same, take_more hr0, List.map_append, List.map_append]
            rfl
      · obtain ⟨s4, hD4⟩ := z
        rw [List.length_map, la, List.take_length] at hD4
        refine ⟨D, (M.map fun r : HS.Run => r.2), rfl, SqL.of hD4, _, rfl, rfl, _, rfl, iteNS (show V.int (M.map fun r : HS.Run => r.2).sum = V.int n from congrArg V.int gd.tot) ?_⟩
        have hl4 := s4 _ _ hl
        have pr4 : Paired (RunAt H4) as M := Paired.mapP pr fun _ _ e => s4 _ _ e
        -- no neighbours alike
        refine ⟨_, rfl, l, _, rfl, Or.inl (SqL.of hl4), 1, _, rfl, ⟨by decide, by decide, by rw [ll]; omega, by rw [ll]; omega⟩, fun D2 hD2 => ?_⟩
        refine lc_range (lo := 1) (fun i H' => Same H4 H' ∧ H' D2 = some (.lst [])) ⟨Same.new hD2, upd_same⟩ (fun i H' hi z => ?_) (fun H5 z => ?_)
        · rw [ll] at hi
          have hi2 : i + 1 < M.length := by omega
          obtain ⟨u1, e1⟩ : ∃ u, as[i]? = some u := ⟨as[i], List.getElem?_eq_getElem (by omega)⟩
          obtain ⟨u2, e2⟩ : ∃ u, as[i + 1]? = some u := ⟨as[i + 1], List.getElem?_eq_getElem (by omega)⟩
          obtain ⟨r1, m1, q1⟩ := Paired.get pr4 e1
          obtain ⟨r2, m2, q2⟩ := Paired.get pr4 e2
          have a1 : atI (as.map V.ref) ((1 : Int) + (i : Int) - 1) = some (.ref u1) := at_of (j := i) (by omega) (by rw [List.getElem?_map, e1]; rfl)
          have a2 : atI (as.map V.ref) ((1 : Int) + (i : Int)) = some (.ref u2) := at_of (j := i + 1) (by omega) (by rw [List.getElem?_map, e2]; rfl)
          refine ⟨rfl, ?_⟩
          refine ⟨_, rfl, _, rfl, _, _, _, _, rfl, rfl, SqL.of (z.1 _ _ hl4), a2, _, _, _, _, rfl, rfl, SqT.of (z.1 _ _ q2), at0, _, rfl, _, rfl, _, _, rfl, rfl, _, _, _, _, rfl, rfl, SqL.of (z.1 _ _ hl4), a1, _, _, _, _, rfl, rfl, SqT.of (z.1 _ _ q1), at0, rfl, _, rfl, ?_⟩
          rw [sS_eq]
          exact ifF (decide_eq_false fun e => gd.adj i r1 r2 m1 m2 e.symm) z
        · obtain ⟨s5, hD5⟩ := z
          refine ⟨(by show 0 ≤ sizeLine; decide), fun v nv => ?_⟩
          generalize e6 : upd H5 v _ = H6
          have s6 := same_up nv e6
          have h6 := at_up e6
          clear e6
          refine ⟨.list [], .list [], .lst (SqL.of (s6 _ _ hD5)) .nil, .lst (SqL.of h6) .nil, rfl, rfl, _, rfl, ifF rfl ?_⟩
          have s46 := st_same s5 s6
          have s36 := st_same s4 s46
          have s06 := st_same s13 s36
          refine ⟨_, rfl, _, rfl, a, l, x, h, s, M, rfl, s06 _ _ ha, r3.same s36, gd.pos, by rw [gd.tot]; omega, by omega, by omega, fun H7 t7 b7 mn mx s7 hB h7 ht7 => ?_⟩
          refine ⟨t7, _, rfl, SqT.of ht7, rfl, _, _, rfl, _, _, rfl, _, _, rfl, rfl, ?_⟩
          have s07 := st_same s06 s7
          have ef := gd.fin x h s
          rw [ef] at h7
          have e1 : x + (x' - x) = x' := by omega
          have e2 : h + (h' - h) = h' := by omega
          have e3 : s + h * (x' - x) + (s' - s - h * (x' - x)) = s' := by omega
          have h7' : St3 H7 b7 x' h' s' := by
            have z : St3 H7 b7 (x + (x' - x)) (h + (h' - h)) (s + h * (x' - x) + (s' - s - h * (x' - x))) := h7
            rw [e1, e2, e3] at z
            exact z
          refine ⟨_, rfl, _, rfl, .tuple [.int x', .int h', .int s'], .tuple [.int x', .int h', .int s'], .tup (SqT.of h7') (.cons (.int _) (.cons (.int _) (.cons (.int _) .nil))), .tup (SqT.of (s07 _ _ hb)) (.cons (.int _) (.cons (.int _) (.cons (.int _) .nil))), shaped3 _ _ _, shaped3 _ _ _, _, rfl, ifT (eqv3 _ _ _) ?_⟩
          obtain ⟨i1, i2⟩ := Bool.and_eq_true_iff.mp g.i1
          obtain ⟨bm, bx⟩ := hB (fun z => loOk z lo = true ∧ hiOk z hi = true) ⟨i1, i2⟩ (gd.ins _ x h s fun z z1 z2 => band_ins z1 z2)
          refine ⟨_, rfl, _, rfl, _, rfl, t, mn, mx, lo, hi, rfl, s07 _ _ ht, ?_⟩
          rw [bm.1, bx.2]
          exact k H7 s07
    · -- not reachable
      have s12 := st_same s1 s2
      refine ⟨_, rfl, _, rfl, _, rfl, _, rfl, rfl, rfl, a, b, p, x, h, s, x', h', s', n, lo, hi, rfl, s12 _ _ ha, s12 _ _ hb, hp.same s2, g, n0, n1, fun H3 s3 => ?_⟩
      refine ⟨_, rfl, _, rfl, _, rfl, rfl, _, rfl, iteNS rfl ?_⟩
      refine ⟨_, rfl, rfl, _, rfl, rfl, _, rfl, iteNS (by rw [q]; rfl) ?_⟩
      refine ⟨_, rfl, _, rfl, ifT (by rw [q]; rfl) ?_⟩
      exact k H3 (st_same s12 s3)
end
end HK

namespace HK
open PySem PySem.Spec PyProof.Rows L2
/-- reached in L steps: L is long enough and has the parity -/
theorem gName_if {i : Nat} {v : V} {σ : L2.St} {H : Hp} {c : TT} {t u : TS} {D : Ends} (h : c (σ.set i (some v)) H fun b H1 => if b = true then t D (σ.set i (some v)) H1 else u D (σ.set i (some v)) H1) : gName i v σ H (fun σ2 H2 => tIfS c t u D σ2 H2) := h
theorem reach_fewest {X h S n L : Int} {a c : Option Int} (R : HS.RoomOk a c h) (F : HS.Fewest (HS.mkE X h a c S) (HS.iabs S) n) : reach X h a c L S = (decide (HS.iabs X + HS.iabs h + 2 * n ≤ L) && decide ((L - (HS.iabs X + HS.iabs h + 2 * n)) % 2 = 0)) := by
  have W := HS.mkE_wf (X := X) R S
  have n0 := F.nn
  unfold reach
  cases q : pairsFor X h L with
  | none =>
    show false = _
    unfold pairsFor at q
    split at q
    · cases q
    · rename_i hn
      by_cases c1 : HS.iabs X + HS.iabs h + 2 * n ≤ L
      · rw [decide_eq_false (show ¬ (L - (HS.iabs X + HS.iabs h + 2 * n)) % 2 = 0 by omega), Bool.and_false]
      · rw [decide_eq_false c1, Bool.false_and]
  | some j =>
    obtain ⟨j0, ej⟩ := pairsFor_some q
    show (decide (lowS X h a c j ≤ S) && decide (S ≤ highS X h a c j)) = _
    have e1 := enough_iff (X := X) (S := S) R j0
    have e2 := F.iff W j0
    rw [decide_eq_true (show (L - (HS.iabs X + HS.iabs h + 2 * n)) % 2 = 0 by omega), Bool.and_true, ← Bool.decide_and]
    apply decide_eq_decide.mpr
    rw [e1, e2]
    omega
theorem ext_lt {E : HS.Ext} (e : EB E) {j v : Int} (h0 : 0 ≤ v) (h1 : v ≤ j) (h2 : j < 2 ^ 190) : (HS.extent E j v).natAbs < 2 ^ 384 := by
  have w0 := e.wf.w; have b0 := e.wf.b; have bc := e.wf.bc; have w1 := e.w; have c1 := e.c
  have p1 : (E.width * HS.cap (E.base + v) E.limit).natAbs < 2 ^ (190 + 191) := by
    refine wide_lt (by omega) ?_
    have a := HS.cap_nn (n := E.base + v) (l := E.limit) (by omega) (fun k q => by have := e.wf.l k q; omega)
    have b := (HS.cap_cases (E.base + v) E.limit).1
    omega
  have p2 : ((j - v) * HS.cap (E.climb + v) E.depth).natAbs < 2 ^ (190 + 191) := by
    clear p1
    refine wide_lt (by omega) ?_
    have a := HS.cap_nn (n := E.climb + v) (l := E.depth) (by omega) (fun k q => by have := e.wf.d k q; omega)
    have b := (HS.cap_cases (E.climb + v) E.depth).1
    omega
  have e1 : (2 : Nat) ^ 384 = 2 ^ (190 + 191) * 8 := by rw [show (384 : Nat) = 190 + 191 + 3 from rfl, Nat.pow_add]
  rw [e1]
  unfold HS.extent
  generalize (2 : Nat) ^ (190 + 191) = N at *
  generalize E.width * HS.cap (E.base + v) E.limit = A at *
  generalize (j - v) * HS.cap (E.climb + v) E.depth = C at *
  omega
theorem greatest_lt {E : HS.Ext} (e : EB E) {j : Int} (h1 : 0 ≤ j) (h2 : j < 2 ^ 190) : (HS.greatest E j).natAbs < 2 ^ 384 := by
  have r := HS.best_range e.wf h1
  have s := HS.second_le (E := E) (j := j)
  exact ext_lt e r.1 (by omega) h2
theorem width_log {X h : Int} {a c : Option Int} (g : Geo X h a c) {j : Int} (h1 : 0 ≤ j) (h2 : j < 2 ^ 190) : 0 < highS X h a c j - lowS X h a c j + 1 ∧ (highS X h a c j - lowS X h a c j + 1).natAbs.log2 < 9000 := by
  have g1 := greatest_lt (g.eb 1) h1 h2
  have g2 := greatest_lt (g.eb (-1)) h1 h2
  have n1 := HS.greatest_nn (g.eb 1).wf h1
  have n2 := HS.greatest_nn (g.eb (-1)).wf h1
  unfold lowS highS
  generalize HS.greatest (HS.mkE X h a c 1) j = A at *
  generalize HS.greatest (HS.mkE X h a c (-1)) j = C at *
  refine ⟨by omega, Nat.lt_of_lt_of_le (PySem.Flt.log2_lt_of (k := 386) (by decide) ?_) (by decide)⟩
  have e1 : (2 : Nat) ^ 386 = 2 ^ 384 * 4 := by rw [show (386 : Nat) = 384 + 2 from rfl, Nat.pow_add]
  rw [e1]
  have p : 0 < (2 : Nat) ^ 384 := Nat.pow_pos (by decide)
  generalize (2 : Nat) ^ 384 = N at *
  omega
def pd : Option Int → PyData
  | none => .none
  | some i => .int i
theorem dp_vo {K : PySem.W.Frag} {H : Hp} (o : Option Int) : Dp K H (vo o) (pd o) := by
  cases o with
  | none => exact .non
  | some i => exact .int i
theorem pd_shaped (a b : Option Int) : SeqAt.shaped (.tuple [pd a, pd b]) = true := by
  cases a <;> cases b <;> simp [pd, SeqAt.shaped, PyData.canLay0, PyData.canLayAll0, PyData.depth, PyData.depthAll]
theorem pd_eqv (a b : Option Int) (h : Int) : PyData.eqv (.tuple [pd a, pd b]) (.tuple [.int h, .int h]) = decide (a = some h ∧ b = some h) := by
  cases a <;> cases b <;> simp [pd, PyData.eqv, PyData.eqvAll] <;> rfl
theorem depth_ne {lo hi : Option Int} {h : Int} (i : inB lo hi h = true) (n : ¬ (lo = some h ∧ hi = some h)) : HS.depthOf (lo.map (h - ·)) (hi.map (· - h)) ≠ some 0 := by
  obtain ⟨a, b⟩ := Bool.and_eq_true_iff.mp i
  cases lo with
  | none => intro z; cases z
  | some l =>
    cases hi with
    | none => intro z; cases z
    | some u =>
      intro z
      have x1 : l ≤ h := of_decide_eq_true a
      have x2 : h ≤ u := of_decide_eq_true b
      have z' : h - l + (u - h) = 0 := Option.some.inj z
      refine n ⟨congrArg some (by omega), congrArg some (by omega)⟩
theorem in_ends {lo hi : Option Int} {h r z : Int} (e : Ends0 h r lo hi) (h1 : h + min 0 r ≤ z) (h2 : z ≤ h + max 0 r) : inB lo hi z = true := by
  refine Bool.and_eq_true_iff.mpr ⟨?_, ?_⟩
  · cases lo with
    | none => rfl
    | some l =>
      have := (e.lo l rfl).1
      exact decide_eq_true (by omega)
  · cases hi with
    | none => rfl
    | some u =>
      have := (e.hi u rfl).1
      exact decide_eq_true (by omega)
def spLaw (K : PySem.W.Frag) : Sp := fun vs H Q _ => ∃ (a : Addr) (ns : List Int), vs = [.ref a] ∧ SqL K H a (ns.map V.int) ∧ ns.length ≤ 63 ∧ ∀ H', Q (.bl true) H'
section
variable {P : Program} {w : World} {K : PySem.W.Frag} {mg : Str → Option Value} {base : Heap} {f CB CX' : Addr} {fd : FuncData}
abbrev s_law : Stmt := top 57
abbrev N_law : List Str := ["_law_script", "_law_k", "_law_draws_here", "_law_start", "_law_end_here", "_law_ends", "_law_limits", "_law_fewest", "_law_length", "_law_expected", "_law_sums", "_law_middle", "_law_total"]
theorem sc_law : FnScope N_law ["_law_script"] (defScope s_law) := ⟨rfl, rfl, rfl, by decide +kernel, rfl, by decide +kernel, by decide +kernel⟩
theorem ok_law (F : FnP K "law" "law" s_law [] [] f fd) (B : Bi mg) (c__law_draws : Cal P w K mg base 1 "_law_draws" ["_law_script", "_law_k"] [] (spDrawsK K)) (c__law_pair : Cal P w K mg base 4 "_law_pair" ["_law_draws_here"] [] spPair)
    (c__law_band : Cal P w K mg base 2 "_law_band" ["_law_draws_here", "_law_height", "_law_rise"] [] spLBand) (k_Band : Mak P w K mg base 2 "Band" CB ["self", "low", "high"] (spBandInit CB)) (c_distance : CalN P w K mg base CX0 8 2 "distance" ["start", "end", "band"] ["band"] (spDistance CB))
    (c__law_draw : Cal P w K mg base 1 "_law_draw" ["_law_draws_here", "_law_upto"] [] spDraw) (c__law_right : Cal P w K mg base 11 "_law_right" ["_law_start", "_law_end_here", "_law_length", "_law_ends", "_law_expected"] [] spRight)
    (c_sums_after : CalN P w K mg base CX0 7 4 "sums_after" ["start", "x", "h", "length", "band"] ["band"] (spSA CB)) : FnOk P w K mg base CX0 12 f fd ["_law_script"] (spLaw K) := by
  refine F.ok sc_law (fun vs H Q E h => ?_) (fun cdv A outer s H vs Q E hr h => ?_)
  · obtain ⟨a, ns, rfl, _⟩ := h
    rfl
  · obtain ⟨a, ns, rfl, hS, hlen, k⟩ := h
    have lm : (ns.map V.int).length = ns.length := List.length_map _
    refine ⟨_, PSs.nox (pss_cons (ps_for PassesOwn.never rfl (pi_range1 (by rfl) B.range (pa_cons (pe_callB (call_max2 rfl) (by rfl) B.max (by decide +kernel) (pa_cons pe_int (pa_cons (pe_callB call_len_seq (by rfl) B.len (by decide +kernel) (pa_cons (pv 0) pa_nil)) pa_nil))) pa_nil)) (pg_name (i := 1) sc_law.nd rfl (Or.inl rfl))
    (pss_cons (ps_set (i := 2) sc_law.nd rfl (Or.inl rfl) (pe_cal c__law_draws hr (by rfl) (pa_cons (pv 0) (pa_cons (pv 1) pa_nil))))
    (pss_cons (ps_asg (pe_cal c__law_pair hr (by rfl) (pa_cons (pv 2) pa_nil)) (pg_tup rfl (pgs_cons (pg_name (i := 3) sc_law.nd rfl (Or.inl rfl)) (pgs_cons (pg_name (i := 4) sc_law.nd rfl (Or.inl rfl)) pgs_nil))))
    (pss_cons (ps_set (i := 5) sc_law.nd rfl (Or.inl rfl) (pe_cal c__law_band hr (by rfl) (pa_cons (pv 2) (pa_cons (pe_ix ix_tup (pv 3) pe_int (fun _ _ => rfl)) (pa_cons (pe_op op_sub (pe_ix ix_tup (pv 4) pe_int (fun _ _ => rfl)) (pe_ix ix_tup (pv 3) pe_int (fun _ _ => rfl))) pa_nil)))))
    (Evl.pss_cut (ps_if (pt_cmpR (op_eqD hr.units) (pv 5) (pe_tup (pa_cons (pe_ix ix_tup (pv 3) pe_int (fun _ _ => rfl)) (pa_cons (pe_ix ix_tup (pv 3) pe_int (fun _ _ => rfl)) pa_nil))) (nomark _))
      (pss_one (ps_set (i := 5) sc_law.nd rfl (Or.inl rfl) (pe_tup (pa_cons (pe_ix ix_tup (pv 3) pe_int (fun _ _ => rfl)) (pa_cons (pe_op op_add (pe_ix ix_tup (pv 3) pe_int (fun _ _ => rfl)) pe_int) pa_nil)))))
      pss_nil)
    (pss_cons (ps_set (i := 6) sc_law.nd rfl (Or.inl rfl) (pe_mak k_Band hr (by rfl) (pa_cons (pe_ix ix_tup (pv 5) pe_int (fun _ _ => rfl)) (pa_cons (pe_ix ix_tup (pv 5) pe_int (fun _ _ => rfl)) pa_nil))))
    (pss_cons (ps_set (i := 7) sc_law.nd rfl (Or.inl rfl) (pe_calN c_distance hr (by rfl) pass0 (pa_cons (pv 3) (pa_cons (pv 4) pa_nil)) (pk_cons (pv 6) pk_nil)))
    (pss_cons (ps_for PassesOwn.never rfl (pi_list (pe_lst (pa_cons (pv 7) (pa_cons (pe_op op_add (pv 7) pe_int) (pa_cons (pe_op op_add (pv 7) pe_int) (pa_cons (pe_op op_add (pv 7) (pe_op op_mulW pe_int (pe_cal c__law_draw hr (by rfl) (pa_cons (pv 2) (pa_cons (pe_op op_pow pe_int pe_int) pa_nil))))) (pa_cons (pe_callB (call_max2 rfl) (by rfl) B.max (by decide +kernel) (pa_cons pe_int (pa_cons (pe_op op_sub (pv 7) pe_int) pa_nil))) pa_nil))))))) (pg_name (i := 8) sc_law.nd rfl (Or.inl rfl))
      (Evl.pss_cut (ps_set (i := 9) sc_law.nd rfl (Or.inl rfl) (pe_and (pe_cmpR op_ge (pv 8) (pv 7) (nomark _)) (pe_one (pe_cmpR op_eq (pe_op op_mod (pe_op op_sub (pv 8) (pv 7)) pe_int) pe_int (nomark _)))))
      (pss_one (ps_if (pt_not (pt_val (pe_cal c__law_right hr (by rfl) (pa_cons (pv 3) (pa_cons (pv 4) (pa_cons (pv 8) (pa_cons (pv 5) (pa_cons (pv 9) pa_nil))))))))
        (pss_one (ps_ret pe_bl))
        pss_nil))))
    (pss_one (ps_for PassesOwn.never rfl (pi_list (pe_lst (pa_cons (pv 7) (pa_cons (pe_op op_add (pv 7) (pe_op op_mulW pe_int (pe_cal c__law_draw hr (by rfl) (pa_cons (pv 2) (pa_cons (pe_op op_pow pe_int pe_int) pa_nil))))) pa_nil)))) (pg_name (i := 8) sc_law.nd rfl (Or.inl rfl))
      (pss_cons (ps_set (i := 10) sc_law.nd rfl (Or.inl rfl) (pe_calN c_sums_after hr (by rfl) pass0 (pa_cons (pv 3) (pa_cons (pe_ix ix_tup (pv 4) pe_int (fun _ _ => rfl)) (pa_cons (pe_ix ix_tup (pv 4) pe_int (fun _ _ => rfl)) (pa_cons (pv 8) pa_nil)))) (pk_cons (pv 6) pk_nil)))
      (pss_cons (ps_set (i := 11) sc_law.nd rfl (Or.inl rfl) (pe_op op_add (pe_ix ix_tup (pv 10) pe_int (fun _ _ => rfl)) (pe_cal c__law_draw hr (by rfl) (pa_cons (pv 2) (pa_cons (pe_op op_add (pe_op op_sub (pe_ix ix_tup (pv 10) pe_int (fun _ _ => rfl)) (pe_ix ix_tup (pv 10) pe_int (fun _ _ => rfl))) pe_int) pa_nil)))))
      (pss_cons (ps_for PassesOwn.never rfl (pi_list (pe_lst (pa_cons (pe_ix ix_tup (pv 10) pe_int (fun _ _ => rfl)) (pa_cons (pe_ix ix_tup (pv 10) pe_int (fun _ _ => rfl)) (pa_cons (pv 11) pa_nil))))) (pg_name (i := 12) sc_law.nd rfl (Or.inl rfl))
        (pss_one (ps_if (pt_not (pt_val (pe_cal c__law_right hr (by rfl) (pa_cons (pv 3) (pa_cons (pe_tup (pa_cons (pe_ix ix_tup (pv 4) pe_int (fun _ _ => rfl)) (pa_cons (pe_ix ix_tup (pv 4) pe_int (fun _ _ => rfl)) (pa_cons (pv 12) pa_nil)))) (pa_cons (pv 8) (pa_cons (pv 5) (pa_cons pe_bl pa_nil))))))))
          (pss_one (ps_ret pe_bl))
          pss_nil)))
      (pss_one (ps_for PassesOwn.never rfl (pi_list (pe_lst (pa_cons (pe_op op_sub (pe_ix ix_tup (pv 10) pe_int (fun _ _ => rfl)) pe_int) (pa_cons (pe_op op_add (pe_ix ix_tup (pv 10) pe_int (fun _ _ => rfl)) pe_int) pa_nil)))) (pg_name (i := 12) sc_law.nd rfl (Or.inl rfl))
        (pss_one (ps_if (pt_not (pt_val (pe_cal c__law_right hr (by rfl) (pa_cons (pv 3) (pa_cons (pe_tup (pa_cons (pe_ix ix_tup (pv 4) pe_int (fun _ _ => rfl)) (pa_cons (pe_ix ix_tup (pv 4) pe_int (fun _ _ => rfl)) (pa_cons (pv 12) pa_nil)))) (pa_cons (pv 8) (pa_cons (pv 5) (pa_cons pe_bl pa_nil))))))))
          (pss_one (ps_ret pe_bl))
          pss_nil)))))))))))))))))
  (pss_one (ps_ret pe_bl))), ?_⟩
    refine ⟨_, rfl, a, _, rfl, Or.inl hS, 1, _, rfl, _, rfl, by omega, by omega, for_range (lo := 0) (fun i σ H' => Same H H' ∧ ∃ v1 v2 v3 v4 v5 v6 v7 v8 v9 v10 v11 v12, σ = [some (.ref a), v1, v2, v3, v4, v5, v6, v7, v8, v9, v10, v11, v12]) ⟨Same.refl H, _, _, _, _, _, _, _, _, _, _, _, _, rfl⟩ ?_ (fun σ H' _ => k H')⟩
    rintro i σ H0 hi ⟨s0, v1, v2, v3, v4, v5, v6, v7, v8, v9, v10, v11, v12, rfl⟩
    have hi2 : i < 100 := by omega
    -- the draws
    refine ⟨_, rfl, _, rfl, a, ns, _, rfl, s0.seq hS, by omega, by omega, fun H1 d nd s1 d1 => ?_⟩
    -- the pair
    refine ⟨_, rfl, d, rfl, d1, fun t sa sb x h s X Y T H2 sh sX sY t0 t1 d2 b2 ht hsa hsb => ?_⟩
    refine ⟨t, _, rfl, SqT.of ht, rfl, _, _, rfl, _, _, rfl, rfl, ?_⟩
    obtain ⟨sh0, sh1⟩ := sh
    obtain ⟨sX0, sX1⟩ := sX
    obtain ⟨sY0, sY1⟩ := sY
    obtain ⟨x', ex⟩ : ∃ x', x' = x + X := ⟨_, rfl⟩
    obtain ⟨h', eh⟩ : ∃ h', h' = h + Y := ⟨_, rfl⟩
    obtain ⟨s', es⟩ : ∃ s', s' = s + h * X + T := ⟨_, rfl⟩
    rw [← ex, ← eh, ← es] at hsb
    have eX : x' - x = X := by omega
    have eY : h' - h = Y := by omega
    have eT : s' - s - h * (x' - x) = T := by
      rw [eX, es]
      omega
    have nad : ∀ {q : Addr} {xs : List V} {H' : Hp}, DrawAt H' d → H' q = some (.tup xs) → q ≠ d := fun dd hh => by
      obtain ⟨_, _, hz⟩ := dd
      exact ne_of hh hz (by intro z; cases z)
    have na := nad d2 hsa
    have nb := nad d2 hsb
    -- the band's ends
    refine ⟨_, rfl, _, rfl, _, _, _, _, rfl, rfl, SqT.of hsa, at1, _, rfl, _, _, _, _, rfl, rfl, SqT.of hsb, at1, _, rfl, _, _, _, _, rfl, rfl, SqT.of hsa, at1, _, _, rfl, rfl, d, h, h' - h, rfl, d2, fun te lo hi H3 en d3 b3 hte => ?_⟩
    have b13 := b2.trans b3
    have hsa3 := b3 _ _ na hsa
    have hsb3 := b3 _ _ nb hsb
    refine ⟨fun σ H4 => Same H3 H4 ∧ ∃ (te : Addr) (lo hi : Option Int), σ = [some (.ref a), some (.int (0 + i)), some (.ref d), some (.ref sa), some (.ref sb), some (.ref te), v6, v7, v8, v9, v10, v11, v12] ∧ St2 H4 te (vo lo) (vo hi) ∧ inB lo hi h = true ∧ inB lo hi h' = true ∧ HS.depthOf (lo.map (h - ·)) (hi.map (· - h)) ≠ some 0, ?_, ?_⟩
    · refine ⟨_, rfl, _, rfl, _, _, _, _, rfl, rfl, SqT.of hsa3, at1, _, rfl, _, _, _, _, rfl, rfl, SqT.of hsa3, at1, (by show 2 ≤ sizeLine; decide), fun u nu => ?_⟩
      generalize e4 : upd H3 u _ = H4
      have s4 := same_up nu e4
      have h4 := at_up e4
      clear e4
      refine ⟨.tuple [pd lo, pd hi], .tuple [.int h, .int h], .tup (SqT.of (s4 _ _ hte)) (.cons (dp_vo lo) (.cons (dp_vo hi) .nil)), .tup (SqT.of h4) (.cons (.int _) (.cons (.int _) .nil)), pd_shaped lo hi, pd_shaped (some h) (some h), _, rfl, ?_⟩
      rw [pd_eqv]
      have ih := in_ends (z := h) en (by omega) (by omega)
      have ih' := in_ends (z := h') en (by omega) (by omega)
      by_cases c : lo = some h ∧ hi = some h
      · refine ifT (decide_eq_true c) ?_
        obtain ⟨c1, c2⟩ := c
        have z1 := (en.lo h c1).1
        have z2 := (en.hi h c2).1
        refine ⟨_, rfl, _, _, _, _, rfl, rfl, SqT.of (s4 _ _ hsa3), at1, _, rfl, _, _, _, _, rfl, rfl, SqT.of (s4 _ _ hsa3), at1, _, _, rfl, rfl, (by show 2 ≤ sizeLine; decide), fun u2 nu2 => ?_⟩
        have i1 : inB (some h) (some (h + 1)) h = true := Bool.and_eq_true_iff.mpr ⟨decide_eq_true (Int.le_refl _), decide_eq_true (by omega)⟩
        exact ⟨st_same s4 (Same.new nu2), u2, some h, some (h + 1), rfl, upd_same, i1, Bool.and_eq_true_iff.mpr ⟨decide_eq_true (by omega), decide_eq_true (by omega)⟩, depth_ne i1 fun z => by have := Option.some.inj z.2; omega⟩
      · exact ifF (decide_eq_false c) ⟨s4, te, lo, hi, rfl, s4 _ _ hte, ih, ih', depth_ne ih c⟩
    clear hte en
    rintro σ H4 ⟨s4, te, lo, hi, rfl, hte, i1, i2, nz⟩
    have hsa4 := s4 _ _ hsa3
    have hsb4 := s4 _ _ hsb3
    have d4 := d3.same s4
    have b14 := b13.trans (But.of s4)
    have sit : Sit x h x' h' lo hi := ⟨i1, i2, Bd.of (by omega) (by omega), by rw [eX]; unfold HS.iabs; omega, by rw [eY]; unfold HS.iabs; omega⟩
    have ihh : HS.iabs h < 2 ^ 190 := by unfold HS.iabs; omega
    -- the band
    refine ⟨_, rfl, _, _, _, _, rfl, rfl, SqT.of hte, at0, _, rfl, _, _, _, _, rfl, rfl, SqT.of hte, at1, fun p dx np ndp ne => ?_⟩
    refine ⟨p, dx, lo, hi, rfl, upd_same, inB_le i1, fun H5 hp b5 => ⟨rfl, ?_⟩⟩
    have s5 := made_same np ndp b5
    -- the distance
    refine ⟨_, rfl, _, rfl, _, rfl, rfl, rfl, sa, sb, p, x, h, s, x', h', s', lo, hi, rfl, s5 _ _ hsa4, s5 _ _ hsb4, hp, sit, nz, by rw [eT]; unfold HS.iabs; omega, fun n H6 fw s6 => ?_⟩
    have s46 := st_same s5 s6
    have n0 := fw.nn
    have nle := few_le (HS.mkE_wf (room_ok i1 i2) _) (by rw [mkE_depth]; exact nz) fw (by unfold HS.iabs; omega)
    rw [eT] at nle
    have rf : ∀ L : Int, reachB x h s x' h' s' L lo hi = (decide (HS.iabs (x' - x) + HS.iabs (h' - h) + 2 * n ≤ L) && decide ((L - (HS.iabs (x' - x) + HS.iabs (h' - h) + 2 * n)) % 2 = 0)) := fun L => reach_fewest (room_ok i1 i2) fw
    have ix : 0 ≤ HS.iabs (x' - x) ∧ HS.iabs (x' - x) < 2 ^ 81 := by rw [eX]; unfold HS.iabs; omega
    have iy : 0 ≤ HS.iabs (h' - h) ∧ HS.iabs (h' - h) < 2 ^ 81 := by rw [eY]; unfold HS.iabs; omega
    have nb' : n ≤ 2 ^ 166 := by
      have : HS.iabs T ≤ 2 ^ 165 := by unfold HS.iabs; omega
      omega
    obtain ⟨L0, eF⟩ : ∃ L0, L0 = HS.iabs (x' - x) + HS.iabs (h' - h) + 2 * n := ⟨_, rfl⟩
    rw [← eF]
    simp only [← eF] at rf
    have F0 : 0 ≤ L0 := by omega
    have F1 : L0 ≤ 2 ^ 168 := by omega
    have hsa6 := s46 _ _ hsa4
    have hsb6 := s46 _ _ hsb4
    have hte6 := s46 _ _ hte
    have d6 := d4.same s46
    have b16 := b14.trans (But.of s46)
    have hp6 := hp.same s6
    have nte := nad d6 hte6
    have npd : p ≠ d := fun z => by
      obtain ⟨_, _, hz⟩ := d6
      obtain ⟨_, hq⟩ := hp6
      rw [z, hz] at hq
      cases hq
    -- the first loop
    refine ⟨_, rfl, _, rfl, _, _, rfl, rfl, _, rfl, _, _, rfl, rfl, _, rfl, _, rfl, _, _, rfl, rfl, cpow, d, _, rfl, d6, by rw [e9]; decide, by rw [e9]; decide +kernel, fun k9 H7 k90 k91 d7 b7 => ?_⟩
    rw [e9] at k91
    refine ⟨_, _, rfl, rfl, Bd.mul (Bd.of (by decide) (by decide)) (Bd.of (by omega) (by omega)), _, _, rfl, rfl, _, rfl, _, _, rfl, rfl, 0, _, rfl, (by show 5 ≤ sizeLine; decide), fun l nl => ?_⟩
    generalize e8 : upd H7 l _ = H8
    have s8 := same_up nl e8
    have h8 := at_up e8
    clear e8
    have b18 := (b16.trans b7).trans (But.of s8)
    have b68 := b7.trans (But.of s8)
    have hsa8 := b68 _ _ na hsa6
    have hsb8 := b68 _ _ nb hsb6
    have hte8 := b68 _ _ nte hte6
    have d8 := d7.same s8
    refine ⟨l, rfl, ⟨_, SqL.of h8⟩, for_list (K := K) (a := l) (xs := _) (fun j σ H' => Same H8 H' ∧ ∃ v8 v9, σ = [some (.ref a), some (.int (0 + i)), some (.ref d), some (.ref sa), some (.ref sb), some (.ref te), some (.ref p), some (.int L0), v8, v9, v10, v11, v12]) ⟨Same.refl H8, _, _, rfl⟩ (fun j σ H' _ z => SqL.of (z.1 _ _ h8)) ?_ ?_⟩
    · rintro j y σ H' hy ⟨sj, w8, w9, rfl⟩
      have hm := List.mem_of_getElem? hy
      obtain ⟨L, rfl, q0, q1⟩ : ∃ L, y = V.int L ∧ 0 ≤ L ∧ L < 2 ^ 190 := by
        simp only [List.mem_cons, List.not_mem_nil, or_false] at hm
        rcases hm with e | e | e | e | e
        · exact ⟨_, e, by omega, by omega⟩
        · exact ⟨_, e, by omega, by omega⟩
        · exact ⟨_, e, by omega, by omega⟩
        · exact ⟨_, e, by omega, by omega⟩
        · refine ⟨_, e, ?_, ?_⟩
          · split <;> omega
          · split <;> omega
      clear hm hy
      refine ⟨fun σ H'' => H' = H'' ∧ σ = [some (.ref a), some (.int (0 + i)), some (.ref d), some (.ref sa), some (.ref sb), some (.ref te), some (.ref p), some (.int L0), some (.int L), some (.bl (reachB x h s x' h' s' L lo hi)), v10, v11, v12], ?_, ?_⟩
      · refine ⟨_, rfl, _, rfl, _, _, rfl, rfl, _, rfl, ?_⟩
        by_cases c : L0 ≤ L
        · refine ifT (decide_eq_true c) ?_
          refine ⟨_, rfl, _, rfl, _, _, rfl, rfl, _, _, rfl, rfl, (by show (0 : Int) < 2; decide), rfl, ?_⟩
          refine ⟨rfl, ?_⟩
          rw [rf, decide_eq_true c, Bool.true_and]
          have e : decide (V.int ((L - L0) % 2) = V.int 0) = decide ((L - L0) % 2 = 0) := by
            rw [dec_int]
            rfl
          rw [← e]
          rfl
        · refine ifF (decide_eq_false c) ?_
          refine ⟨rfl, ?_⟩
          rw [rf, decide_eq_false c, Bool.false_and]
          rfl
      · rintro σ H'' ⟨rfl, rfl⟩
        refine ⟨_, rfl, _, rfl, _, rfl, _, rfl, _, rfl, sa, sb, te, x, h, s, x', h', s', L, lo, hi, rfl, sj _ _ hsa8, sj _ _ hsb8, sj _ _ hte8, sit, ihh, q0, q1, fun H9 s9 => ⟨_, rfl, iteF ⟨st_same sj s9, _, _, rfl⟩⟩⟩
    -- the second loop
    rintro σ H9 ⟨s9, w8, w9, rfl⟩
    have hsa9 := s9 _ _ hsa8
    have hsb9 := s9 _ _ hsb8
    have hte9 := s9 _ _ hte8
    have d9 := d8.same s9
    have b19 := b18.trans (But.of s9)
    have hp9 : BandAt CB H9 p lo hi := by
      obtain ⟨dq, hq⟩ := hp6
      exact ⟨dq, s9 _ _ (b68 _ _ npd hq)⟩
    refine ⟨_, rfl, _, rfl, _, rfl, _, _, rfl, rfl, cpow, d, _, rfl, d9, by rw [e12]; decide, by rw [e12]; decide +kernel, fun k12 HA k120 k121 dA bA => ?_⟩
    rw [e12] at k121
    refine ⟨_, _, rfl, rfl, Bd.mul (Bd.of (by decide) (by decide)) (Bd.of (by omega) (by omega)), _, _, rfl, rfl, (by show 2 ≤ sizeLine; decide), fun l2 nl2 => ?_⟩
    generalize eB : upd HA l2 _ = HB
    have sB := same_up nl2 eB
    have hB := at_up eB
    clear eB
    have nl2d : l2 ≠ d := fun z => by
      obtain ⟨_, _, hz⟩ := dA
      rw [← z, nl2] at hz
      cases hz
    have bAB := bA.trans (But.of sB)
    have hsaB := bAB _ _ na hsa9
    have hsbB := bAB _ _ nb hsb9
    have hteB := bAB _ _ nte hte9
    have hpB : BandAt CB HB p lo hi := by
      obtain ⟨dq, hq⟩ := hp9
      exact ⟨dq, bAB _ _ npd hq⟩
    have dB := dA.same sB
    have b1B := b19.trans bAB
    refine ⟨l2, rfl, ⟨_, SqL.of hB⟩, for_list (K := K) (a := l2) (xs := _) (fun j σ H' => DrawAt H' d ∧ But d HB H' ∧ ∃ v8 v10 v11 v12, σ = [some (.ref a), some (.int (0 + i)), some (.ref d), some (.ref sa), some (.ref sb), some (.ref te), some (.ref p), some (.int L0), v8, w9, v10, v11, v12]) ⟨dB, But.refl, _, _, _, _, rfl⟩ (fun j σ H' _ z => SqL.of (z.2.1 _ _ nl2d hB)) ?_ ?_⟩
    · rintro j y σ HC hy ⟨dC, bC, w8, w10, w11, w12, rfl⟩
      have hm := List.mem_of_getElem? hy
      obtain ⟨L, kk, rfl, eL, q0, q1⟩ : ∃ L kk, y = V.int L ∧ L = L0 + 2 * kk ∧ 0 ≤ kk ∧ kk < 1000000000000 := by
        simp only [List.mem_cons, List.not_mem_nil, or_false] at hm
        rcases hm with e | e
        · exact ⟨_, 0, e, by omega, by omega, by omega⟩
        · exact ⟨_, k12, e, by rfl, by omega, by omega⟩
      clear hm hy
      have hsaC := bC _ _ na hsaB
      have hsbC := bC _ _ nb hsbB
      have hteC := bC _ _ nte hteB
      have hpC : BandAt CB HC p lo hi := by
        obtain ⟨dq, hq⟩ := hpB
        exact ⟨dq, bC _ _ npd hq⟩
      have ep : pairsFor (x' - x) (h' - h) L = some (n + kk) := by
        unfold pairsFor
        rw [if_pos ⟨by omega, by omega⟩]
        exact congrArg some (by omega)
      obtain ⟨jj, ejj⟩ : ∃ jj, jj = n + kk := ⟨_, rfl⟩
      rw [← ejj] at ep
      -- the sums
      refine ⟨_, rfl, _, rfl, _, _, _, _, rfl, rfl, SqT.of hsbC, at0, _, rfl, _, _, _, _, rfl, rfl, SqT.of hsbC, at1, _, rfl, _, rfl, rfl, rfl, sa, p, x, h, s, x', h', L, lo, hi, rfl, hsaC, hpC, sit, by omega, by omega, fun HD sD => ⟨fun z => (by rw [ep] at z; cases z), fun j2 ts ej2 hts => ?_⟩⟩
      rw [ep] at ej2
      have ej3 : jj = j2 := Option.some.inj ej2
      subst ej3
      have wl := width_log sit.geo (j := jj) (by omega) (by omega)
      have lr : ∀ tot : Int, reachB x h s x' h' tot L lo hi = (decide (lowS (x' - x) (h' - h) (lo.map (h - ·)) (hi.map (· - h)) jj ≤ tot - s - h * (x' - x)) && decide (tot - s - h * (x' - x) ≤ highS (x' - x) (h' - h) (lo.map (h - ·)) (hi.map (· - h)) jj)) := fun tot => by
        unfold reachB reach
        rw [ep]
      have lh : lowS (x' - x) (h' - h) (lo.map (h - ·)) (hi.map (· - h)) jj ≤ highS (x' - x) (h' - h) (lo.map (h - ·)) (hi.map (· - h)) jj := by
        have n1 := HS.greatest_nn (sit.geo.eb 1).wf (show 0 ≤ jj by omega)
        have n2 := HS.greatest_nn (sit.geo.eb (-1)).wf (show 0 ≤ jj by omega)
        unfold lowS highS
        omega
      generalize lowS (x' - x) (h' - h) (lo.map (h - ·)) (hi.map (· - h)) jj = Lo at *
      generalize highS (x' - x) (h' - h) (lo.map (h - ·)) (hi.map (· - h)) jj = Up at *
      generalize h * (x' - x) = W at *
      have dD := dC.same sD
      have nts := nad dD hts
      have tts := SqT.of (K := K) hts
      refine ⟨_, rfl, _, _, _, _, rfl, rfl, tts, at0, _, rfl, _, rfl, _, _, _, _, rfl, rfl, tts, at1, _, rfl, _, _, _, _, rfl, rfl, tts, at0, _, _, rfl, rfl, _, _, rfl, rfl, d, s + W + Up - (s + W + Lo) + 1, rfl, dD, by omega, by rw [show s + W + Up - (s + W + Lo) + 1 = Up - Lo + 1 by omega]; exact wl.2, fun km HE km0 km1 dE bE => ?_⟩
      refine ⟨_, _, rfl, rfl, ?_⟩
      have bDE := (But.of sD).trans bE
      have hsaE := bDE _ _ na hsaC
      have hsbE := bDE _ _ nb hsbC
      have hteE := bDE _ _ nte hteC
      have htsE := bE _ _ nts hts
      have ttsE := SqT.of (K := K) htsE
      -- the sums that are reached
      refine ⟨_, rfl, _, _, _, _, rfl, rfl, ttsE, at0, _, rfl, _, _, _, _, rfl, rfl, ttsE, at1, _, rfl, (by show 3 ≤ sizeLine; decide), fun l3 nl3 => ?_⟩
      generalize eG : upd HE l3 _ = HG
      have sG := same_up nl3 eG
      have hG := at_up eG
      clear eG
      have turn : ∀ (e : Bool) (tot : Int) (HX : Hp) (w12 : Option V) (R : Bool → Hp → Prop), Same HG HX → reachB x h s x' h' tot L lo hi = e → (∀ HY, Same HX HY → R (!true) HY) →
          tNot (tB (tCall spRight [] E0 (tCons (tVar 3) (tCons (tTup (tCons (tOp (rIxT K) (tVar 4) (tC (.int 0))) (tCons (tOp (rIxT K) (tVar 4) (tC (.int 1))) (tCons (tVar 12) tNil)))) (tCons (tVar 8) (tCons (tVar 5) (tCons (tC (.bl e)) tNil)))))))
            [some (.ref a), some (.int (0 + i)), some (.ref d), some (.ref sa), some (.ref sb), some (.ref te), some (.ref p), some (.int L0), some (.int L), w9, some (.ref ts), some (.int (s + W + Lo + km)), some (.int tot)] HX R := fun e tot HX w12 R sx re q => by
        have tb := SqT.of (K := K) (sx _ _ (sG _ _ hsbE))
        refine ⟨_, rfl, _, rfl, _, _, _, _, rfl, rfl, tb, at0, _, rfl, _, _, _, _, rfl, rfl, tb, at1, _, rfl, (by show 3 ≤ sizeLine; decide), fun u nu => ?_⟩
        generalize eZ : upd HX u _ = HZ
        have sZ := same_up nu eZ
        have hZ := at_up eZ
        clear eZ
        have sGZ := st_same sG (st_same sx sZ)
        subst re
        exact ⟨_, rfl, _, rfl, sa, u, te, x, h, s, x', h', tot, L, lo, hi, rfl, sGZ _ _ hsaE, hZ, sGZ _ _ hteE, sit, ihh, by omega, by omega, fun HY sY => ⟨_, rfl, q HY (st_same sZ sY)⟩⟩
      refine ⟨l3, rfl, ⟨_, SqL.of hG⟩, for_list (K := K) (a := l3) (xs := _) (fun j σ H' => Same HG H' ∧ ∃ v12, σ = [some (.ref a), some (.int (0 + i)), some (.ref d), some (.ref sa), some (.ref sb), some (.ref te), some (.ref p), some (.int L0), some (.int L), w9, some (.ref ts), some (.int (s + W + Lo + km)), v12]) ⟨Same.refl HG, _, rfl⟩ (fun j σ H' _ z => SqL.of (z.1 _ _ hG)) ?_ ?_⟩
      · rintro j3 y σ HX hy ⟨sx, u12, rfl⟩
        have hm := List.mem_of_getElem? hy
        obtain ⟨tot, rfl, z0, z1⟩ : ∃ tot, y = V.int tot ∧ Lo ≤ tot - s - W ∧ tot - s - W ≤ Up := by
          simp only [List.mem_cons, List.not_mem_nil, or_false] at hm
          rcases hm with e | e | e
          · exact ⟨_, e, by omega, by omega⟩
          · exact ⟨_, e, by omega, by omega⟩
          · exact ⟨_, e, by omega, by omega⟩
        refine gName_if ?_
        refine turn true tot HX u12 _ sx (by rw [lr, decide_eq_true z0, decide_eq_true z1]; rfl) fun HY sY => ?_
        exact iteF ⟨st_same sx sY, _, rfl⟩
      -- the sums beside
      rintro σ HI ⟨sI, u12, rfl⟩
      have ttsI := SqT.of (K := K) (sI _ _ (sG _ _ htsE))
      refine ⟨_, rfl, _, _, _, _, rfl, rfl, ttsI, at0, _, _, rfl, rfl, _, rfl, _, _, _, _, rfl, rfl, ttsI, at1, _, _, rfl, rfl, (by show 2 ≤ sizeLine; decide), fun l4 nl4 => ?_⟩
      generalize eJ : upd HI l4 _ = HJ
      have sJ := same_up nl4 eJ
      have hJ := at_up eJ
      clear eJ
      refine ⟨l4, rfl, ⟨_, SqL.of hJ⟩, for_list (K := K) (a := l4) (xs := _) (fun j σ H' => Same HJ H' ∧ ∃ v12, σ = [some (.ref a), some (.int (0 + i)), some (.ref d), some (.ref sa), some (.ref sb), some (.ref te), some (.ref p), some (.int L0), some (.int L), w9, some (.ref ts), some (.int (s + W + Lo + km)), v12]) ⟨Same.refl HJ, _, rfl⟩ (fun j σ H' _ z => SqL.of (z.1 _ _ hJ)) ?_ ?_⟩
      · rintro j3 y σ HX hy ⟨sx, u13, rfl⟩
        have hm := List.mem_of_getElem? hy
        obtain ⟨tot, rfl, z0⟩ : ∃ tot, y = V.int tot ∧ (¬ Lo ≤ tot - s - W ∨ ¬ tot - s - W ≤ Up) := by
          simp only [List.mem_cons, List.not_mem_nil, or_false] at hm
          rcases hm with e | e
          · exact ⟨_, e, by omega⟩
          · exact ⟨_, e, by omega⟩
        refine gName_if ?_
        refine turn false tot HX u13 _ (st_same (st_same sI sJ) sx) ?_ fun HY sY => ?_
        · rw [lr]
          rcases z0 with z0 | z0
          · rw [decide_eq_false z0, Bool.false_and]
          · rw [decide_eq_false z0, Bool.and_false]
        · exact iteF ⟨st_same sx sY, _, rfl⟩
      · rintro σ HK ⟨sK, u13, rfl⟩
        have sEK := st_same sG (st_same (st_same sI sJ) sK)
        exact ⟨dE.same sEK, (bC.trans bDE).trans (But.of sEK), _, _, _, _, rfl⟩
    · rintro σ HC ⟨_, bC, w8, w10, w11, w12, rfl⟩
      have bf := b1B.trans bC
      exact ⟨fun b o e => bf b o (ne_of_none (s0 _ _ e) nd) (s1 _ _ (s0 _ _ e)), _, _, _, _, _, _, _, _, _, _, _, _, rfl⟩
end
end HK

set_option maxHeartbeats 0
namespace HK
open PySem PySem.Spec PyProof.Rows L2
/-! ### the head's facts -/
def d_is_integer : He.DefD := ⟨("is_integer", none), "is_integer", "is_integer", defArgs s_is_integer, defBody s_is_integer, defScope s_is_integer, [], []⟩
def d_check_integer : He.DefD := ⟨("check_integer", none), "check_integer", "check_integer", defArgs s_check_integer, defBody s_check_integer, defScope s_check_integer, [He.Dv.non], []⟩
def d_is_state : He.DefD := ⟨("is_state", none), "is_state", "is_state", defArgs s_is_state, defBody s_is_state, defScope s_is_state, [], []⟩
def d_check_state : He.DefD := ⟨("check_state", none), "check_state", "check_state", defArgs s_check_state, defBody s_check_state, defScope s_check_state, [], []⟩
def d_difference : He.DefD := ⟨("difference", none), "difference", "difference", defArgs s_difference, defBody s_difference, defScope s_difference, [], []⟩
def d_append_run : He.DefD := ⟨("append_run", none), "append_run", "append_run", defArgs s_append_run, defBody s_append_run, defScope s_append_run, [], []⟩
def d_Band_init : He.DefD := ⟨("Band", some "__init__"), "__init__", "Band.__init__", defArgs s_Band_init, defBody s_Band_init, defScope s_Band_init, [He.Dv.non, He.Dv.non], []⟩
def d_Band_includes : He.DefD := ⟨("Band", some "includes"), "includes", "Band.includes", defArgs s_Band_includes, defBody s_Band_includes, defScope s_Band_includes, [], []⟩
def d_Band_room : He.DefD := ⟨("Band", some "room"), "room", "Band.room", defArgs s_Band_room, defBody s_Band_room, defScope s_Band_room, [], []⟩
def d_to_band : He.DefD := ⟨("to_band", none), "to_band", "to_band", defArgs s_to_band, defBody s_to_band, defScope s_to_band, [], []⟩
def d_check_height : He.DefD := ⟨("check_height", none), "check_height", "check_height", defArgs s_check_height, defBody s_check_height, defScope s_check_height, [], []⟩
def d_capped : He.DefD := ⟨("capped", none), "capped", "capped", defArgs s_capped, defBody s_capped, defScope s_capped, [], []⟩
def d_depth_of : He.DefD := ⟨("depth_of", none), "depth_of", "depth_of", defArgs s_depth_of, defBody s_depth_of, defScope s_depth_of, [], []⟩
def d_height_span : He.DefD := ⟨("height_span", none), "height_span", "height_span", defArgs s_height_span, defBody s_height_span, defScope s_height_span, [], []⟩
def d_Extents_init : He.DefD := ⟨("Extents", some "__init__"), "__init__", "Extents.__init__", defArgs s_Extents_init, defBody s_Extents_init, defScope s_Extents_init, [], []⟩
def d_extent : He.DefD := ⟨("Extents", some "extent"), "extent", "Extents.extent", defArgs s_Extents_extent, defBody s_Extents_extent, defScope s_Extents_extent, [], []⟩
def d_breakpoints : He.DefD := ⟨("Extents", some "breakpoints"), "breakpoints", "Extents.breakpoints", defArgs s_Extents_breakpoints, defBody s_Extents_breakpoints, defScope s_Extents_breakpoints, [], []⟩
def d_peaks : He.DefD := ⟨("Extents", some "peaks"), "peaks", "Extents.peaks", defArgs s_Extents_peaks, defBody s_Extents_peaks, defScope s_Extents_peaks, [], []⟩
def d_best_split : He.DefD := ⟨("Extents", some "best_split"), "best_split", "Extents.best_split", defArgs s_Extents_best_split, defBody s_Extents_best_split, defScope s_Extents_best_split, [], []⟩
def d_greatest : He.DefD := ⟨("Extents", some "greatest"), "greatest", "Extents.greatest", defArgs s_Extents_greatest, defBody s_Extents_greatest, defScope s_Extents_greatest, [], []⟩
def d_fewM : He.DefD := ⟨("Extents", some "fewest_pairs"), "fewest_pairs", "Extents.fewest_pairs", defArgs s_Extents_fewest_pairs, defBody s_Extents_fewest_pairs, defScope s_Extents_fewest_pairs, [], []⟩
def d_extents_for : He.DefD := ⟨("extents_for", none), "extents_for", "extents_for", defArgs s_extents_for, defBody s_extents_for, defScope s_extents_for, [], []⟩
def d_range_with_pairs : He.DefD := ⟨("range_with_pairs", none), "range_with_pairs", "range_with_pairs", defArgs s_range_with_pairs, defBody s_range_with_pairs, defScope s_range_with_pairs, [], []⟩
def d_counts_of_split : He.DefD := ⟨("counts_of_split", none), "counts_of_split", "counts_of_split", defArgs s_counts_of_split, defBody s_counts_of_split, defScope s_counts_of_split, [], []⟩
def d_fewest_pairs : He.DefD := ⟨("fewest_pairs", none), "fewest_pairs", "fewest_pairs", defArgs s_fewest_pairs, defBody s_fewest_pairs, defScope s_fewest_pairs, [], []⟩
def d_fewest_steps : He.DefD := ⟨("fewest_steps", none), "fewest_steps", "fewest_steps", defArgs s_fewest_steps, defBody s_fewest_steps, defScope s_fewest_steps, [], []⟩
def d_distribute : He.DefD := ⟨("Builder", some "distribute"), "distribute", "Builder.distribute", defArgs s_Builder_distribute, defBody s_Builder_distribute, defScope s_Builder_distribute, [], []⟩
def d_Builder_init : He.DefD := ⟨("Builder", some "__init__"), "__init__", "Builder.__init__", defArgs s_Builder_init, defBody s_Builder_init, defScope s_Builder_init, [], []⟩
def d_at_bottom : He.DefD := ⟨("Builder", some "at_bottom"), "at_bottom", "Builder.at_bottom", defArgs s_Builder_at_bottom, defBody s_Builder_at_bottom, defScope s_Builder_at_bottom, [], []⟩
def d_at_top : He.DefD := ⟨("Builder", some "at_top"), "at_top", "Builder.at_top", defArgs s_Builder_at_top, defBody s_Builder_at_top, defScope s_Builder_at_top, [], []⟩
def d_single_offset : He.DefD := ⟨("Builder", some "single_offset"), "single_offset", "Builder.single_offset", defArgs s_Builder_single_offset, defBody s_Builder_single_offset, defScope s_Builder_single_offset, [], []⟩
def d_single_run : He.DefD := ⟨("Builder", some "single_run"), "single_run", "Builder.single_run", defArgs s_Builder_single_run, defBody s_Builder_single_run, defScope s_Builder_single_run, [], []⟩
def d_bottom_first : He.DefD := ⟨("Builder", some "bottom_first"), "bottom_first", "Builder.bottom_first", defArgs s_Builder_bottom_first, defBody s_Builder_bottom_first, defScope s_Builder_bottom_first, [], []⟩
def d_top_first : He.DefD := ⟨("Builder", some "top_first"), "top_first", "Builder.top_first", defArgs s_Builder_top_first, defBody s_Builder_top_first, defScope s_Builder_top_first, [], []⟩
def d_build : He.DefD := ⟨("Builder", some "build"), "build", "Builder.build", defArgs s_Builder_build, defBody s_Builder_build, defScope s_Builder_build, [], []⟩
def d_build_valid : He.DefD := ⟨("build_valid", none), "build_valid", "build_valid", defArgs s_build_valid, defBody s_build_valid, defScope s_build_valid, [], []⟩
def d_runs_with_pairs : He.DefD := ⟨("runs_with_pairs", none), "runs_with_pairs", "runs_with_pairs", defArgs s_runs_with_pairs, defBody s_runs_with_pairs, defScope s_runs_with_pairs, [], []⟩
def d_displacement_and_room : He.DefD := ⟨("displacement_and_room", none), "displacement_and_room", "displacement_and_room", defArgs s_displacement_and_room, defBody s_displacement_and_room, defScope s_displacement_and_room, [], []⟩
def d_distance : He.DefD := ⟨("distance", none), "distance", "distance", defArgs s_distance, defBody s_distance, defScope s_distance, [], [("band", He.Dv.non)]⟩
def d_pairs_for : He.DefD := ⟨("pairs_for", none), "pairs_for", "pairs_for", defArgs s_pairs_for, defBody s_pairs_for, defScope s_pairs_for, [], []⟩
def d_sums_within : He.DefD := ⟨("sums_within", none), "sums_within", "sums_within", defArgs s_sums_within, defBody s_sums_within, defScope s_sums_within, [], []⟩
def d_sums_after : He.DefD := ⟨("sums_after", none), "sums_after", "sums_after", defArgs s_sums_after, defBody s_sums_after, defScope s_sums_after, [], [("band", He.Dv.non)]⟩
def d_is_reachable : He.DefD := ⟨("is_reachable", none), "is_reachable", "is_reachable", defArgs s_is_reachable, defBody s_is_reachable, defScope s_is_reachable, [], [("band", He.Dv.non)]⟩
def d_runs_of_length : He.DefD := ⟨("runs_of_length", none), "runs_of_length", "runs_of_length", defArgs s_runs_of_length, defBody s_runs_of_length, defScope s_runs_of_length, [], [("band", He.Dv.non)]⟩
def d_law_draws : He.DefD := ⟨("_law_draws", none), "_law_draws", "_law_draws", defArgs s__law_draws, defBody s__law_draws, defScope s__law_draws, [], []⟩
def d_law_draw : He.DefD := ⟨("_law_draw", none), "_law_draw", "_law_draw", defArgs s__law_draw, defBody s__law_draw, defScope s__law_draw, [], []⟩
def d_law_integer : He.DefD := ⟨("_law_integer", none), "_law_integer", "_law_integer", defArgs s__law_integer, defBody s__law_integer, defScope s__law_integer, [], []⟩
def d_law_state : He.DefD := ⟨("_law_state", none), "_law_state", "_law_state", defArgs s__law_state, defBody s__law_state, defScope s__law_state, [], []⟩
def d_law_pair : He.DefD := ⟨("_law_pair", none), "_law_pair", "_law_pair", defArgs s__law_pair, defBody s__law_pair, defScope s__law_pair, [], []⟩
def d_law_band : He.DefD := ⟨("_law_band", none), "_law_band", "_law_band", defArgs s__law_band, defBody s__law_band, defScope s__law_band, [], []⟩
def d_law_end : He.DefD := ⟨("_law_end", none), "_law_end", "_law_end", defArgs s__law_end, defBody s__law_end, defScope s__law_end, [], []⟩
def d_law_inside : He.DefD := ⟨("_law_inside", none), "_law_inside", "_law_inside", defArgs s__law_inside, defBody s__law_inside, defScope s__law_inside, [], []⟩
def d_law_runs : He.DefD := ⟨("_law_runs", none), "_law_runs", "_law_runs", defArgs s__law_runs, defBody s__law_runs, defScope s__law_runs, [], []⟩
def d_law_right : He.DefD := ⟨("_law_right", none), "_law_right", "_law_right", defArgs s__law_right, defBody s__law_right, defScope s__law_right, [], []⟩
def d_law : He.DefD := ⟨("law", none), "law", "law", defArgs s_law, defBody s_law, defScope s_law, [], []⟩
def fn : List He.DefD := [d_is_integer, d_check_integer, d_is_state, d_check_state, d_difference, d_append_run, d_Band_init, d_Band_includes, d_Band_room, d_to_band, d_check_height, d_capped, d_depth_of, d_height_span, d_Extents_init, d_extent, d_breakpoints, d_peaks, d_best_split, d_greatest, d_fewM, d_extents_for, d_range_with_pairs, d_counts_of_split, d_fewest_pairs, d_fewest_steps, d_distribute, d_Builder_init, d_at_bottom, d_at_top, d_single_offset, d_single_run, d_bottom_first, d_top_first, d_build, d_build_valid, d_runs_with_pairs, d_displacement_and_room, d_distance, d_pairs_for, d_sums_within, d_sums_after, d_is_reachable, d_runs_of_length, d_law_draws, d_law_draw, d_law_integer, d_law_state, d_law_pair, d_law_band, d_law_end, d_law_inside, d_law_runs, d_law_right, d_law]
def fa : List He.Fa := [.free "isinstance", .free "int", .free "bool", .free "tuple", .free "len", .free "all", .free "min", .free "max", .free "abs", .free "divmod", .free "repr", .free "sum", .free "range", .cls "Extents", .noat "Extents" "width", .noat "Extents" "climb", .noat "Extents" "depth", .noat "Extents" "base", .noat "Extents" "limit", .cls "Builder", .noat "Builder" "counts", .noat "Builder" "span", .noat "Builder" "rise", .noat "Builder" "top", .noat "Builder" "bottom", .noat "Builder" "spare", .noat "Builder" "rest", .noat "Builder" "east_top", .noat "Builder" "west_bottom", .noat "Builder" "single", .noat "Builder" "east_bottom", .noat "Builder" "west_top", .cls "Band", .noat "Band" "low_end", .noat "Band" "high_end", .glo "Band", .glo "Unreachable", .glo "is_integer", .glo "check_integer", .glo "is_state", .glo "check_state", .glo "difference", .glo "append_run", .mkr "Band", .meth "Band" "includes", .meth "Band" "room", .glo "to_band", .glo "check_height", .glo "capped", .glo "depth_of", .glo "height_span", .glo "Extents", .mkr "Extents", .meth "Extents" "extent", .meth "Extents" "breakpoints", .meth "Extents" "peaks", .meth "Extents" "best_split", .meth "Extents" "greatest", .meth "Extents" "fewest_pairs", .glo "extents_for", .glo "range_with_pairs", .glo "counts_of_split", .glo "fewest_pairs", .glo "fewest_steps", .meth "Builder" "distribute", .glo "Builder", .mkr "Builder", .meth "Builder" "at_bottom", .meth "Builder" "at_top", .meth "Builder" "single_offset", .meth "Builder" "single_run", .meth "Builder" "bottom_first", .meth "Builder" "top_first", .meth "Builder" "build", .glo "build_valid", .glo "runs_with_pairs", .glo "displacement_and_room", .glo "distance", .glo "pairs_for", .glo "sums_within", .glo "sums_after", .glo "is_reachable", .glo "runs_of_length", .glo "_law_draws", .glo "_law_draw", .glo "_law_integer", .glo "_law_state", .glo "_law_pair", .glo "_law_band", .glo "_law_end", .glo "_law_inside", .glo "_law_runs", .glo "_law_right", .glo "law"]
/-- Band's own look-ups, Unreachable's chain -/
def exB (K : PySem.W.Frag) : Bool := He.eqO (PySem.W.findIn K (.ref (He.ga K "Band")) "__class__") (some (some (.builtin "object.__class__"))) &&
  (He.eqO (PySem.W.specialIn K (.builtin "object.__class__") "__get__") (some (some (.builtin "getset_descriptor.__get__"))) && (decide (PySem.W.takesIn K (.builtin "object.__class__") = some true) &&
  (decide (PySem.W.mroIn K (He.ga K "Band") (.type "object") = some true) && (decide (PySem.W.kitOne K (.ref (He.ga K "Band")) (.ref (He.ga K "Band")) = some true) &&
  (PySem.W.excIn K (He.ga K "Unreachable") [.type "LookupError", .type "Exception", .type "BaseException", .type "object"] "LookupError.__new__" && (PySem.W.keepIn K (.ref (He.ga K "Unreachable")) &&
  (decide (PySem.W.subIn K (.ref (He.ga K "Unreachable")) (.type "BaseException") = some true) && (decide (PySem.W.typeIn K (.ref (He.ga K "Unreachable")) = some (.type "type")) &&
  decide (PySem.W.exmOne K (.ref (He.ga K "Unreachable")) (.ref (He.ga K "Unreachable")) = some true)))))))))
abbrev RO : PySem.W.OpenRow := PySem.W.OpenLaw.row PySem.Challenge.rw_heightsums_k30_whole_runs_of_exact_lengt
def nmA : List PySem.Str := ["_wall", "WalkError", "InvalidState", "InvalidBand", "InvalidInteger", "OutsideBand", "Unreachable", "is_integer", "check_integer", "is_state", "check_state", "difference", "append_run", "Band", "to_band", "check_height", "capped", "depth_of", "height_span", "Extents", "extents_for", "range_with_pairs", "Builder"]
def nmB : List PySem.Str := ["build_valid", "counts_of_split", "fewest_pairs", "fewest_steps", "runs_with_pairs", "displacement_and_room", "distance", "pairs_for", "sums_within", "sums_after", "is_reachable", "runs_of_length", "_law_draws", "_law_draw", "_law_integer", "_law_state", "_law_band", "_law_pair", "_law_end", "_law_inside", "_law_runs", "_law_right"]
abbrev hk : PySem.W.Hook := He.hookX 4 fa fn [] [] exB
def ob (s : PySem.W.SharedT) : He.AlX := He.obsX 4 fa fn [] [] exB (HandSHeadRun.getT s)
theorem ob_eq (s : PySem.W.SharedT) : ob s = hk.obs s.abs := He.obsX_eq (HandSHeadRun.getT_eq s)
theorem run (w : World) : HandSHeadRun.RunEq RO (PySem.W.view RO.prog [57]) hk ob 6000 (nmA ++ nmB) w := by
  intro os
  kernel_rfl
section
variable {P : Program} {w : World} {K : PySem.W.Frag} {mg : Str → Option Value} {base h : Heap} (X : K.In h) (G : h.Ns mainGlobals mg) (c : He.SaysD fa fn K) (ce : exB K = true)
include X G c ce
theorem b_bi : Bi mg := ⟨He.free_ok X G (c.fact 0 (f := .free "isinstance") rfl), He.free_ok X G (c.fact 1 (f := .free "int") rfl), He.free_ok X G (c.fact 2 (f := .free "bool") rfl), He.free_ok X G (c.fact 3 (f := .free "tuple") rfl), He.free_ok X G (c.fact 4 (f := .free "len") rfl), He.free_ok X G (c.fact 5 (f := .free "all") rfl), He.free_ok X G (c.fact 6 (f := .free "min") rfl), He.free_ok X G (c.fact 7 (f := .free "max") rfl), He.free_ok X G (c.fact 8 (f := .free "abs") rfl), He.free_ok X G (c.fact 9 (f := .free "divmod") rfl), He.free_ok X G (c.fact 10 (f := .free "repr") rfl), He.free_ok X G (c.fact 11 (f := .free "sum") rfl), He.free_ok X G (c.fact 12 (f := .free "range") rfl)⟩
theorem b_te : Te K (He.ga K "Extents") := ⟨He.cls_ok (c.fact 13 (f := .cls "Extents") rfl), He.noat_ok (c.fact 14 (f := .noat "Extents" "width") rfl), He.noat_ok (c.fact 15 (f := .noat "Extents" "climb") rfl), He.noat_ok (c.fact 16 (f := .noat "Extents" "depth") rfl), He.noat_ok (c.fact 17 (f := .noat "Extents" "base") rfl), He.noat_ok (c.fact 18 (f := .noat "Extents" "limit") rfl)⟩
theorem b_tu : Tu K (He.ga K "Builder") := ⟨He.cls_ok (c.fact 19 (f := .cls "Builder") rfl), He.noat_ok (c.fact 20 (f := .noat "Builder" "counts") rfl), He.noat_ok (c.fact 21 (f := .noat "Builder" "span") rfl), He.noat_ok (c.fact 22 (f := .noat "Builder" "rise") rfl), He.noat_ok (c.fact 23 (f := .noat "Builder" "top") rfl), He.noat_ok (c.fact 24 (f := .noat "Builder" "bottom") rfl), He.noat_ok (c.fact 25 (f := .noat "Builder" "spare") rfl), He.noat_ok (c.fact 26 (f := .noat "Builder" "rest") rfl), He.noat_ok (c.fact 27 (f := .noat "Builder" "east_top") rfl), He.noat_ok (c.fact 28 (f := .noat "Builder" "west_bottom") rfl), He.noat_ok (c.fact 29 (f := .noat "Builder" "single") rfl), He.noat_ok (c.fact 30 (f := .noat "Builder" "east_bottom") rfl), He.noat_ok (c.fact 31 (f := .noat "Builder" "west_top") rfl)⟩
theorem b_tb : Tb K mg (He.ga K "Band") := by
  obtain ⟨e1, ce⟩ := He.ba ce
  obtain ⟨e2, ce⟩ := He.ba ce
  obtain ⟨e3, ce⟩ := He.ba ce
  obtain ⟨e4, ce⟩ := He.ba ce
  obtain ⟨e5, ce⟩ := He.ba ce
  exact ⟨He.cls_ok (c.fact 32 (f := .cls "Band") rfl), He.noat_ok (c.fact 33 (f := .noat "Band" "low_end") rfl), He.noat_ok (c.fact 34 (f := .noat "Band" "high_end") rfl), (He.glo_ok X G (c.fact 35 (f := .glo "Band") rfl)), He.eqO_ok e1, He.eqO_ok e2, of_decide_eq_true e3, of_decide_eq_true e4, of_decide_eq_true e5⟩
theorem b_tx : Tx K mg (He.ga K "Unreachable") := by
  obtain ⟨_, ce⟩ := He.ba ce
  obtain ⟨_, ce⟩ := He.ba ce
  obtain ⟨_, ce⟩ := He.ba ce
  obtain ⟨_, ce⟩ := He.ba ce
  obtain ⟨_, ce⟩ := He.ba ce
  obtain ⟨e1, ce⟩ := He.ba ce
  obtain ⟨e2, ce⟩ := He.ba ce
  obtain ⟨e3, ce⟩ := He.ba ce
  obtain ⟨e4, e5⟩ := He.ba ce
  exact ⟨(He.glo_ok X G (c.fact 36 (f := .glo "Unreachable") rfl)), e1, e2, of_decide_eq_true e3, of_decide_eq_true e4, of_decide_eq_true e5⟩
theorem h_c_is_integer : Cal P w K mg base 1 "is_integer" ["value"] [] spIsInt := by
  obtain ⟨fd, F0⟩ := c.def_ 0 (d := d_is_integer) rfl
  have F : FnP K "is_integer" "is_integer" s_is_integer [] [] (He.ga K "is_integer") fd := F0
  exact ⟨_, fd, [], (He.glo_ok X G (c.fact 37 (f := .glo "is_integer") rfl)), F.kp, ok_is_integer F (b_bi X G c ce), F.bindsN (ps := ["value"]) fun _ _ _ _ _ _ us hl => match us, hl with | [_], _ => rfl, .nil⟩
theorem h_c_check_integer : Cal P w K mg base 2 "check_integer" ["value", "least"] [.non] spCheck := by
  obtain ⟨fd, F0⟩ := c.def_ 1 (d := d_check_integer) rfl
  have F : FnP K "check_integer" "check_integer" s_check_integer [.non] [] (He.ga K "check_integer") fd := F0
  obtain ⟨ds, rd, b⟩ := F.binds1 (ps := ["value", "least"]) 1 0 (by intro e; cases e) rfl fun _ _ _ _ _ _ _ us its hl hm => match us, its, hl, hm with | [_], [_], _, _ => ⟨_, rfl, rfl⟩
  exact ⟨_, fd, ds, (He.glo_ok X G (c.fact 38 (f := .glo "check_integer") rfl)), F.kp, ok_check_integer F (h_c_is_integer X G c ce), b, rd⟩
theorem h_c_check_integer2 : Cal P w K mg base 2 "check_integer" ["value", "least"] [] spCheck := by
  obtain ⟨fd, F0⟩ := c.def_ 1 (d := d_check_integer) rfl
  have F : FnP K "check_integer" "check_integer" s_check_integer [.non] [] (He.ga K "check_integer") fd := F0
  obtain ⟨ds, rd, b⟩ := F.binds1 (ps := ["value", "least"]) 2 1 (by intro e; cases e) rfl fun _ _ _ _ _ _ _ us its hl hm => match us, its, hl, hm with | [_, _], [_], _, _ => ⟨_, rfl, rfl⟩
  exact ⟨_, fd, ds, (He.glo_ok X G (c.fact 38 (f := .glo "check_integer") rfl)), F.kp, ok_check_integer F (h_c_is_integer X G c ce), b, rd⟩
theorem h_c_is_state : Cal P w K mg base 2 "is_state" ["value"] [] spIsState := by
  obtain ⟨fd, F0⟩ := c.def_ 2 (d := d_is_state) rfl
  have F : FnP K "is_state" "is_state" s_is_state [] [] (He.ga K "is_state") fd := F0
  exact ⟨_, fd, [], (He.glo_ok X G (c.fact 39 (f := .glo "is_state") rfl)), F.kp, ok_is_state F (b_bi X G c ce) (h_c_is_integer X G c ce), F.bindsN (ps := ["value"]) fun _ _ _ _ _ _ us hl => match us, hl with | [_], _ => rfl, .nil⟩
theorem h_c_check_state : Cal P w K mg base 3 "check_state" ["value"] [] spCheckState := by
  obtain ⟨fd, F0⟩ := c.def_ 3 (d := d_check_state) rfl
  have F : FnP K "check_state" "check_state" s_check_state [] [] (He.ga K "check_state") fd := F0
  exact ⟨_, fd, [], (He.glo_ok X G (c.fact 40 (f := .glo "check_state") rfl)), F.kp, ok_check_state F (h_c_is_state X G c ce), F.bindsN (ps := ["value"]) fun _ _ _ _ _ _ us hl => match us, hl with | [_], _ => rfl, .nil⟩
theorem h_c_difference : Cal P w K mg base 1 "difference" ["start", "end"] [] spDiff := by
  obtain ⟨fd, F0⟩ := c.def_ 4 (d := d_difference) rfl
  have F : FnP K "difference" "difference" s_difference [] [] (He.ga K "difference") fd := F0
  exact ⟨_, fd, [], (He.glo_ok X G (c.fact 41 (f := .glo "difference") rfl)), F.kp, ok_difference F, F.bindsN (ps := ["start", "end"]) fun _ _ _ _ _ _ us hl => match us, hl with | [_, _], _ => rfl, .nil⟩
theorem h_c_append_run : Cal P w K mg base 1 "append_run" ["merged", "step", "length"] [] spAppend := by
  obtain ⟨fd, F0⟩ := c.def_ 5 (d := d_append_run) rfl
  have F : FnP K "append_run" "append_run" s_append_run [] [] (He.ga K "append_run") fd := F0
  exact ⟨_, fd, [], (He.glo_ok X G (c.fact 42 (f := .glo "append_run") rfl)), F.kp, ok_append_run F, F.bindsN (ps := ["merged", "step", "length"]) fun _ _ _ _ _ _ us hl => match us, hl with | [_, _, _], _ => rfl, .nil⟩
theorem h_k_Band : Mak P w K mg base 2 "Band" (He.ga K "Band") ["self", "low", "high"] (spBandInit (He.ga K "Band")) := by
  obtain ⟨fd, F0⟩ := c.def_ 6 (d := d_Band_init) rfl
  have F : FnP K "__init__" "Band.__init__" s_Band_init [.non, .non] [] (He.ma K (He.ga K "Band") "__init__") fd := F0
  obtain ⟨ds, rd, b⟩ := F.binds1 (ps := ["self", "low", "high"]) 3 2 (by intro e; cases e) rfl fun _ _ _ _ _ _ _ us its hl hm => match us, its, hl, hm with | [_, _, _], [_, _], _, _ => ⟨_, rfl, rfl⟩
  cases (show ds = [] by cases rd; rfl)
  exact ⟨_, fd, (He.glo_ok X G (c.fact 35 (f := .glo "Band") rfl)), He.mkr_ok (c.fact 43 (f := .mkr "Band") rfl), ok_Band_init F (b_bi X G c ce) (b_tb X G c ce) (h_c_is_integer X G c ce), b⟩
theorem h_m_includes : Met P w K mg base 1 (He.ga K "Band") "includes" ["self", "height"] (spIncludes (He.ga K "Band")) := by
  obtain ⟨fd, F0⟩ := c.def_ 7 (d := d_Band_includes) rfl
  have F : FnP K "includes" "Band.includes" s_Band_includes [] [] (He.ma K (He.ga K "Band") "includes") fd := F0
  exact ⟨_, fd, He.meth_ok (c.fact 44 (f := .meth "Band" "includes") rfl), ok_Band_includes F (b_tb X G c ce), F.bindsN (ps := ["self", "height"]) fun _ _ _ _ _ _ us hl => match us, hl with | [_, _], _ => rfl⟩
theorem h_m_room : Met P w K mg base 3 (He.ga K "Band") "room" ["self", "height"] (spRoom (He.ga K "Band")) := by
  obtain ⟨fd, F0⟩ := c.def_ 8 (d := d_Band_room) rfl
  have F : FnP K "room" "Band.room" s_Band_room [] [] (He.ma K (He.ga K "Band") "room") fd := F0
  exact ⟨_, fd, He.meth_ok (c.fact 45 (f := .meth "Band" "room") rfl), ok_Band_room F (b_tb X G c ce) (h_c_check_integer X G c ce) (h_m_includes X G c ce), F.bindsN (ps := ["self", "height"]) fun _ _ _ _ _ _ us hl => match us, hl with | [_, _], _ => rfl⟩
theorem h_c_to_band : Cal P w K mg base 1 "to_band" ["value"] [] (spToBand (He.ga K "Band")) := by
  obtain ⟨fd, F0⟩ := c.def_ 9 (d := d_to_band) rfl
  have F : FnP K "to_band" "to_band" s_to_band [] [] (He.ga K "to_band") fd := F0
  exact ⟨_, fd, [], (He.glo_ok X G (c.fact 46 (f := .glo "to_band") rfl)), F.kp, ok_to_band F (b_bi X G c ce) (b_tb X G c ce), F.bindsN (ps := ["value"]) fun _ _ _ _ _ _ us hl => match us, hl with | [_], _ => rfl, .nil⟩
theorem h_c_check_height : Cal P w K mg base 2 "check_height" ["height", "band"] [] (spCheckHeight (He.ga K "Band")) := by
  obtain ⟨fd, F0⟩ := c.def_ 10 (d := d_check_height) rfl
  have F : FnP K "check_height" "check_height" s_check_height [] [] (He.ga K "check_height") fd := F0
  exact ⟨_, fd, [], (He.glo_ok X G (c.fact 47 (f := .glo "check_height") rfl)), F.kp, ok_check_height F (b_tb X G c ce) (h_m_includes X G c ce), F.bindsN (ps := ["height", "band"]) fun _ _ _ _ _ _ us hl => match us, hl with | [_, _], _ => rfl, .nil⟩
theorem h_c_capped : Cal P w K mg base 1 "capped" ["number", "limit"] [] spCapped := by
  obtain ⟨fd, F0⟩ := c.def_ 11 (d := d_capped) rfl
  have F : FnP K "capped" "capped" s_capped [] [] (He.ga K "capped") fd := F0
  exact ⟨_, fd, [], (He.glo_ok X G (c.fact 48 (f := .glo "capped") rfl)), F.kp, ok_capped F (b_bi X G c ce), F.bindsN (ps := ["number", "limit"]) fun _ _ _ _ _ _ us hl => match us, hl with | [_, _], _ => rfl, .nil⟩
theorem h_c_depth_of : Cal P w K mg base 1 "depth_of" ["room"] [] spDepth := by
  obtain ⟨fd, F0⟩ := c.def_ 12 (d := d_depth_of) rfl
  have F : FnP K "depth_of" "depth_of" s_depth_of [] [] (He.ga K "depth_of") fd := F0
  exact ⟨_, fd, [], (He.glo_ok X G (c.fact 49 (f := .glo "depth_of") rfl)), F.kp, ok_depth_of F, F.bindsN (ps := ["room"]) fun _ _ _ _ _ _ us hl => match us, hl with | [_], _ => rfl, .nil⟩
theorem h_c_height_span : Cal P w K mg base 2 "height_span" ["counts", "room"] [] spSpan := by
  obtain ⟨fd, F0⟩ := c.def_ 13 (d := d_height_span) rfl
  have F : FnP K "height_span" "height_span" s_height_span [] [] (He.ga K "height_span") fd := F0
  exact ⟨_, fd, [], (He.glo_ok X G (c.fact 50 (f := .glo "height_span") rfl)), F.kp, ok_height_span F (b_bi X G c ce) (h_c_capped X G c ce) (h_c_depth_of X G c ce), F.bindsN (ps := ["counts", "room"]) fun _ _ _ _ _ _ us hl => match us, hl with | [_, _], _ => rfl, .nil⟩
theorem h_k_Extents : Mak P w K mg base 2 "Extents" (He.ga K "Extents") ["self", "x", "h", "room", "sign"] (spExtInit (He.ga K "Extents")) := by
  obtain ⟨fd, F0⟩ := c.def_ 14 (d := d_Extents_init) rfl
  have F : FnP K "__init__" "Extents.__init__" s_Extents_init [] [] (He.ma K (He.ga K "Extents") "__init__") fd := F0
  have b := F.bindsN (ps := ["self", "x", "h", "room", "sign"]) fun _ _ _ _ _ _ us hl => match us, hl with | [_, _, _, _, _], _ => rfl
  exact ⟨_, fd, (He.glo_ok X G (c.fact 51 (f := .glo "Extents") rfl)), He.mkr_ok (c.fact 52 (f := .mkr "Extents") rfl), ok_Extents_init F (b_bi X G c ce) (b_te X G c ce) (h_c_depth_of X G c ce), b⟩
theorem h_m_extent : Met P w K mg base 2 (He.ga K "Extents") "extent" ["self", "pairs", "split"] (spExtent (He.ga K "Extents")) := by
  obtain ⟨fd, F0⟩ := c.def_ 15 (d := d_extent) rfl
  have F : FnP K "extent" "Extents.extent" s_Extents_extent [] [] (He.ma K (He.ga K "Extents") "extent") fd := F0
  exact ⟨_, fd, He.meth_ok (c.fact 53 (f := .meth "Extents" "extent") rfl), ok_extent F (b_te X G c ce) (h_c_capped X G c ce), F.bindsN (ps := ["self", "pairs", "split"]) fun _ _ _ _ _ _ us hl => match us, hl with | [_, _, _], _ => rfl⟩
theorem h_m_breakpoints : Met P w K mg base 1 (He.ga K "Extents") "breakpoints" ["self", "pairs"] (spBreak (He.ga K "Extents")) := by
  obtain ⟨fd, F0⟩ := c.def_ 16 (d := d_breakpoints) rfl
  have F : FnP K "breakpoints" "Extents.breakpoints" s_Extents_breakpoints [] [] (He.ma K (He.ga K "Extents") "breakpoints") fd := F0
  exact ⟨_, fd, He.meth_ok (c.fact 54 (f := .meth "Extents" "breakpoints") rfl), ok_breakpoints F (b_bi X G c ce) (b_te X G c ce), F.bindsN (ps := ["self", "pairs"]) fun _ _ _ _ _ _ us hl => match us, hl with | [_, _], _ => rfl⟩
theorem h_m_peaks : Met P w K mg base 2 (He.ga K "Extents") "peaks" ["self", "pairs"] (spPeaks (He.ga K "Extents")) := by
  obtain ⟨fd, F0⟩ := c.def_ 17 (d := d_peaks) rfl
  have F : FnP K "peaks" "Extents.peaks" s_Extents_peaks [] [] (He.ma K (He.ga K "Extents") "peaks") fd := F0
  exact ⟨_, fd, He.meth_ok (c.fact 55 (f := .meth "Extents" "peaks") rfl), ok_peaks F (b_bi X G c ce) (b_te X G c ce) (h_m_breakpoints X G c ce), F.bindsN (ps := ["self", "pairs"]) fun _ _ _ _ _ _ us hl => match us, hl with | [_, _], _ => rfl⟩
theorem h_m_best_split : Met P w K mg base 3 (He.ga K "Extents") "best_split" ["self", "pairs"] (spBest (He.ga K "Extents")) := by
  obtain ⟨fd, F0⟩ := c.def_ 18 (d := d_best_split) rfl
  have F : FnP K "best_split" "Extents.best_split" s_Extents_best_split [] [] (He.ma K (He.ga K "Extents") "best_split") fd := F0
  exact ⟨_, fd, He.meth_ok (c.fact 56 (f := .meth "Extents" "best_split") rfl), ok_best_split F (b_te X G c ce) (h_m_peaks X G c ce) (h_m_extent X G c ce), F.bindsN (ps := ["self", "pairs"]) fun _ _ _ _ _ _ us hl => match us, hl with | [_, _], _ => rfl⟩
theorem h_m_greatest : Met P w K mg base 4 (He.ga K "Extents") "greatest" ["self", "pairs"] (spGreatest (He.ga K "Extents")) := by
  obtain ⟨fd, F0⟩ := c.def_ 19 (d := d_greatest) rfl
  have F : FnP K "greatest" "Extents.greatest" s_Extents_greatest [] [] (He.ma K (He.ga K "Extents") "greatest") fd := F0
  exact ⟨_, fd, He.meth_ok (c.fact 57 (f := .meth "Extents" "greatest") rfl), ok_greatest F (b_te X G c ce) (h_m_best_split X G c ce) (h_m_extent X G c ce), F.bindsN (ps := ["self", "pairs"]) fun _ _ _ _ _ _ us hl => match us, hl with | [_, _], _ => rfl⟩
theorem h_m_fewest_pairs : Met P w K mg base 5 (He.ga K "Extents") "fewest_pairs" ["self", "target"] (spFewM (He.ga K "Extents")) := by
  obtain ⟨fd, F0⟩ := c.def_ 20 (d := d_fewM) rfl
  have F : FnP K "fewest_pairs" "Extents.fewest_pairs" s_Extents_fewest_pairs [] [] (He.ma K (He.ga K "Extents") "fewest_pairs") fd := F0
  exact ⟨_, fd, He.meth_ok (c.fact 58 (f := .meth "Extents" "fewest_pairs") rfl), ok_fewM F (b_te X G c ce) (h_m_greatest X G c ce), F.bindsN (ps := ["self", "target"]) fun _ _ _ _ _ _ us hl => match us, hl with | [_, _], _ => rfl⟩
theorem h_c_extents_for : Cal P w K mg base 4 "extents_for" ["displacement", "room"] [] (spExtFor (He.ga K "Extents")) := by
  obtain ⟨fd, F0⟩ := c.def_ 21 (d := d_extents_for) rfl
  have F : FnP K "extents_for" "extents_for" s_extents_for [] [] (He.ga K "extents_for") fd := F0
  exact ⟨_, fd, [], (He.glo_ok X G (c.fact 59 (f := .glo "extents_for") rfl)), F.kp, ok_extents_for F (h_k_Extents X G c ce), F.bindsN (ps := ["displacement", "room"]) fun _ _ _ _ _ _ us hl => match us, hl with | [_, _], _ => rfl, .nil⟩
theorem h_c_range_with_pairs : Cal P w K mg base 5 "range_with_pairs" ["x", "h", "pairs", "room"] [] spRange := by
  obtain ⟨fd, F0⟩ := c.def_ 22 (d := d_range_with_pairs) rfl
  have F : FnP K "range_with_pairs" "range_with_pairs" s_range_with_pairs [] [] (He.ga K "range_with_pairs") fd := F0
  exact ⟨_, fd, [], (He.glo_ok X G (c.fact 60 (f := .glo "range_with_pairs") rfl)), F.kp, ok_range_with_pairs F (b_te X G c ce) (h_k_Extents X G c ce) (h_m_greatest X G c ce), F.bindsN (ps := ["x", "h", "pairs", "room"]) fun _ _ _ _ _ _ us hl => match us, hl with | [_, _, _, _], _ => rfl, .nil⟩
theorem h_c_counts_of_split : Cal P w K mg base 1 "counts_of_split" ["displacement", "pairs", "split"] [] spCounts := by
  obtain ⟨fd, F0⟩ := c.def_ 23 (d := d_counts_of_split) rfl
  have F : FnP K "counts_of_split" "counts_of_split" s_counts_of_split [] [] (He.ga K "counts_of_split") fd := F0
  exact ⟨_, fd, [], (He.glo_ok X G (c.fact 61 (f := .glo "counts_of_split") rfl)), F.kp, ok_counts_of_split F (b_bi X G c ce), F.bindsN (ps := ["displacement", "pairs", "split"]) fun _ _ _ _ _ _ us hl => match us, hl with | [_, _, _], _ => rfl, .nil⟩
theorem h_c_fewest_pairs : Cal P w K mg base 6 "fewest_pairs" ["displacement", "room"] [] spFewF := by
  obtain ⟨fd, F0⟩ := c.def_ 24 (d := d_fewest_pairs) rfl
  have F : FnP K "fewest_pairs" "fewest_pairs" s_fewest_pairs [] [] (He.ga K "fewest_pairs") fd := F0
  exact ⟨_, fd, [], (He.glo_ok X G (c.fact 62 (f := .glo "fewest_pairs") rfl)), F.kp, ok_fewest_pairs F (b_bi X G c ce) (b_te X G c ce) (h_c_extents_for X G c ce) (h_m_fewest_pairs X G c ce), F.bindsN (ps := ["displacement", "room"]) fun _ _ _ _ _ _ us hl => match us, hl with | [_, _], _ => rfl, .nil⟩
theorem h_c_fewest_steps : Cal P w K mg base 7 "fewest_steps" ["displacement", "room"] [] spSteps := by
  obtain ⟨fd, F0⟩ := c.def_ 25 (d := d_fewest_steps) rfl
  have F : FnP K "fewest_steps" "fewest_steps" s_fewest_steps [] [] (He.ga K "fewest_steps") fd := F0
  exact ⟨_, fd, [], (He.glo_ok X G (c.fact 63 (f := .glo "fewest_steps") rfl)), F.kp, ok_fewest_steps F (b_bi X G c ce) (h_c_fewest_pairs X G c ce), F.bindsN (ps := ["displacement", "room"]) fun _ _ _ _ _ _ us hl => match us, hl with | [_, _], _ => rfl, .nil⟩
theorem h_m_distribute : Met P w K mg base 1 (He.ga K "Builder") "distribute" ["self", "lift"] (spDist (He.ga K "Builder")) := by
  obtain ⟨fd, F0⟩ := c.def_ 26 (d := d_distribute) rfl
  have F : FnP K "distribute" "Builder.distribute" s_Builder_distribute [] [] (He.ma K (He.ga K "Builder") "distribute") fd := F0
  exact ⟨_, fd, He.meth_ok (c.fact 64 (f := .meth "Builder" "distribute") rfl), ok_distribute F (b_bi X G c ce) (b_tu X G c ce), F.bindsN (ps := ["self", "lift"]) fun _ _ _ _ _ _ us hl => match us, hl with | [_, _], _ => rfl⟩
theorem h_k_Builder : Mak P w K mg base 3 "Builder" (He.ga K "Builder") ["self", "counts", "total", "room"] (spBldInit (He.ga K "Builder")) := by
  obtain ⟨fd, F0⟩ := c.def_ 27 (d := d_Builder_init) rfl
  have F : FnP K "__init__" "Builder.__init__" s_Builder_init [] [] (He.ma K (He.ga K "Builder") "__init__") fd := F0
  have b := F.bindsN (ps := ["self", "counts", "total", "room"]) fun _ _ _ _ _ _ us hl => match us, hl with | [_, _, _, _], _ => rfl
  exact ⟨_, fd, (He.glo_ok X G (c.fact 65 (f := .glo "Builder") rfl)), He.mkr_ok (c.fact 66 (f := .mkr "Builder") rfl), ok_Builder_init F (b_bi X G c ce) (b_tu X G c ce) (h_c_height_span X G c ce) (h_c_capped X G c ce) (h_m_distribute X G c ce), b⟩
theorem h_m_at_bottom : Met P w K mg base 1 (He.ga K "Builder") "at_bottom" ["self"] (spRuns (He.ga K "Builder") HS.Bld.atBottom) := by
  obtain ⟨fd, F0⟩ := c.def_ 28 (d := d_at_bottom) rfl
  have F : FnP K "at_bottom" "Builder.at_bottom" s_Builder_at_bottom [] [] (He.ma K (He.ga K "Builder") "at_bottom") fd := F0
  exact ⟨_, fd, He.meth_ok (c.fact 67 (f := .meth "Builder" "at_bottom") rfl), ok_at_bottom F (b_tu X G c ce), F.bindsN (ps := ["self"]) fun _ _ _ _ _ _ us hl => match us, hl with | [_], _ => rfl⟩
theorem h_m_at_top : Met P w K mg base 1 (He.ga K "Builder") "at_top" ["self"] (spRuns (He.ga K "Builder") HS.Bld.atTop) := by
  obtain ⟨fd, F0⟩ := c.def_ 29 (d := d_at_top) rfl
  have F : FnP K "at_top" "Builder.at_top" s_Builder_at_top [] [] (He.ma K (He.ga K "Builder") "at_top") fd := F0
  exact ⟨_, fd, He.meth_ok (c.fact 68 (f := .meth "Builder" "at_top") rfl), ok_at_top F (b_tu X G c ce), F.bindsN (ps := ["self"]) fun _ _ _ _ _ _ us hl => match us, hl with | [_], _ => rfl⟩
theorem h_m_single_offset : Met P w K mg base 1 (He.ga K "Builder") "single_offset" ["self"] (spOffset (He.ga K "Builder")) := by
  obtain ⟨fd, F0⟩ := c.def_ 30 (d := d_single_offset) rfl
  have F : FnP K "single_offset" "Builder.single_offset" s_Builder_single_offset [] [] (He.ma K (He.ga K "Builder") "single_offset") fd := F0
  exact ⟨_, fd, He.meth_ok (c.fact 69 (f := .meth "Builder" "single_offset") rfl), ok_single_offset F (b_tu X G c ce), F.bindsN (ps := ["self"]) fun _ _ _ _ _ _ us hl => match us, hl with | [_], _ => rfl⟩
theorem h_m_single_run : Met P w K mg base 1 (He.ga K "Builder") "single_run" ["self"] (spRuns (He.ga K "Builder") HS.Bld.one) := by
  obtain ⟨fd, F0⟩ := c.def_ 31 (d := d_single_run) rfl
  have F : FnP K "single_run" "Builder.single_run" s_Builder_single_run [] [] (He.ma K (He.ga K "Builder") "single_run") fd := F0
  exact ⟨_, fd, He.meth_ok (c.fact 70 (f := .meth "Builder" "single_run") rfl), ok_single_run F (b_tu X G c ce), F.bindsN (ps := ["self"]) fun _ _ _ _ _ _ us hl => match us, hl with | [_], _ => rfl⟩
theorem h_m_bottom_first : Met P w K mg base 2 (He.ga K "Builder") "bottom_first" ["self"] (spRuns (He.ga K "Builder") HS.Bld.bottomFirst) := by
  obtain ⟨fd, F0⟩ := c.def_ 32 (d := d_bottom_first) rfl
  have F : FnP K "bottom_first" "Builder.bottom_first" s_Builder_bottom_first [] [] (He.ma K (He.ga K "Builder") "bottom_first") fd := F0
  exact ⟨_, fd, He.meth_ok (c.fact 71 (f := .meth "Builder" "bottom_first") rfl), ok_bottom_first F (b_tu X G c ce) (h_m_single_offset X G c ce) (h_m_at_bottom X G c ce) (h_m_single_run X G c ce) (h_m_at_top X G c ce), F.bindsN (ps := ["self"]) fun _ _ _ _ _ _ us hl => match us, hl with | [_], _ => rfl⟩
theorem h_m_top_first : Met P w K mg base 2 (He.ga K "Builder") "top_first" ["self"] (spRuns (He.ga K "Builder") HS.Bld.topFirst) := by
  obtain ⟨fd, F0⟩ := c.def_ 33 (d := d_top_first) rfl
  have F : FnP K "top_first" "Builder.top_first" s_Builder_top_first [] [] (He.ma K (He.ga K "Builder") "top_first") fd := F0
  exact ⟨_, fd, He.meth_ok (c.fact 72 (f := .meth "Builder" "top_first") rfl), ok_top_first F (b_tu X G c ce) (h_m_single_offset X G c ce) (h_m_at_bottom X G c ce) (h_m_single_run X G c ce) (h_m_at_top X G c ce), F.bindsN (ps := ["self"]) fun _ _ _ _ _ _ us hl => match us, hl with | [_], _ => rfl⟩
theorem h_m_build : Met P w K mg base 3 (He.ga K "Builder") "build" ["self"] (spRuns (He.ga K "Builder") (fun b => HS.merge b.path)) := by
  obtain ⟨fd, F0⟩ := c.def_ 34 (d := d_build) rfl
  have F : FnP K "build" "Builder.build" s_Builder_build [] [] (He.ma K (He.ga K "Builder") "build") fd := F0
  exact ⟨_, fd, He.meth_ok (c.fact 73 (f := .meth "Builder" "build") rfl), ok_build F (b_tu X G c ce) (h_m_bottom_first X G c ce) (h_m_top_first X G c ce) (h_c_append_run X G c ce), F.bindsN (ps := ["self"]) fun _ _ _ _ _ _ us hl => match us, hl with | [_], _ => rfl⟩
theorem h_c_build_valid : Cal P w K mg base 5 "build_valid" ["counts", "total", "room"] [] spBuildV := by
  obtain ⟨fd, F0⟩ := c.def_ 35 (d := d_build_valid) rfl
  have F : FnP K "build_valid" "build_valid" s_build_valid [] [] (He.ga K "build_valid") fd := F0
  exact ⟨_, fd, [], (He.glo_ok X G (c.fact 74 (f := .glo "build_valid") rfl)), F.kp, ok_build_valid F (b_tu X G c ce) (h_k_Builder X G c ce) (h_m_build X G c ce), F.bindsN (ps := ["counts", "total", "room"]) fun _ _ _ _ _ _ us hl => match us, hl with | [_, _, _], _ => rfl, .nil⟩
theorem h_c_runs_with_pairs : Cal P w K mg base 6 "runs_with_pairs" ["displacement", "pairs", "room"] [] spRunsP := by
  obtain ⟨fd, F0⟩ := c.def_ 36 (d := d_runs_with_pairs) rfl
  have F : FnP K "runs_with_pairs" "runs_with_pairs" s_runs_with_pairs [] [] (He.ga K "runs_with_pairs") fd := F0
  exact ⟨_, fd, [], (He.glo_ok X G (c.fact 75 (f := .glo "runs_with_pairs") rfl)), F.kp, ok_runs_with_pairs F (b_te X G c ce) (h_c_extents_for X G c ce) (h_m_best_split X G c ce) (h_c_counts_of_split X G c ce) (h_c_build_valid X G c ce), F.bindsN (ps := ["displacement", "pairs", "room"]) fun _ _ _ _ _ _ us hl => match us, hl with | [_, _, _], _ => rfl, .nil⟩
theorem h_c_displacement_and_room : Cal P w K mg base 4 "displacement_and_room" ["start", "end", "band"] [] (spDR (He.ga K "Band")) := by
  obtain ⟨fd, F0⟩ := c.def_ 37 (d := d_displacement_and_room) rfl
  have F : FnP K "displacement_and_room" "displacement_and_room" s_displacement_and_room [] [] (He.ga K "displacement_and_room") fd := F0
  exact ⟨_, fd, [], (He.glo_ok X G (c.fact 76 (f := .glo "displacement_and_room") rfl)), F.kp, ok_displacement_and_room F (h_c_check_state X G c ce) (h_c_to_band X G c ce) (b_tb X G c ce) (h_m_room X G c ce) (h_c_check_height X G c ce) (h_c_difference X G c ce), F.bindsN (ps := ["start", "end", "band"]) fun _ _ _ _ _ _ us hl => match us, hl with | [_, _, _], _ => rfl, .nil⟩
theorem h_c_distance : CalN P w K mg base CX0 8 2 "distance" ["start", "end", "band"] ["band"] (spDistance (He.ga K "Band")) := by
  obtain ⟨fd, F0⟩ := c.def_ 38 (d := d_distance) rfl
  have F : FnP K "distance" "distance" s_distance [] [("band", .non)] (He.ga K "distance") fd := F0
  exact ⟨_, fd, (He.glo_ok X G (c.fact 77 (f := .glo "distance") rfl)), F.kp, ok_distance F (h_c_displacement_and_room X G c ce) (h_c_fewest_steps X G c ce), kbinds0 F 2 ["band"] (by intro e; cases e) fun _ _ _ _ _ _ us ws hl hm => match us, ws, hl, hm with | [_, _], [_], _, _ => rfl⟩
theorem h_c_pairs_for : Cal P w K mg base 1 "pairs_for" ["x", "h", "length"] [] spPairs := by
  obtain ⟨fd, F0⟩ := c.def_ 39 (d := d_pairs_for) rfl
  have F : FnP K "pairs_for" "pairs_for" s_pairs_for [] [] (He.ga K "pairs_for") fd := F0
  exact ⟨_, fd, [], (He.glo_ok X G (c.fact 78 (f := .glo "pairs_for") rfl)), F.kp, ok_pairs_for F (b_bi X G c ce), F.bindsN (ps := ["x", "h", "length"]) fun _ _ _ _ _ _ us hl => match us, hl with | [_, _, _], _ => rfl, .nil⟩
theorem h_c_sums_within : Cal P w K mg base 6 "sums_within" ["start", "x", "h", "length", "limits"] [] (spSW (He.ga K "Band")) := by
  obtain ⟨fd, F0⟩ := c.def_ 40 (d := d_sums_within) rfl
  have F : FnP K "sums_within" "sums_within" s_sums_within [] [] (He.ga K "sums_within") fd := F0
  exact ⟨_, fd, [], (He.glo_ok X G (c.fact 79 (f := .glo "sums_within") rfl)), F.kp, ok_sums_within F (b_tb X G c ce) (h_c_pairs_for X G c ce) (h_m_includes X G c ce) (h_c_range_with_pairs X G c ce) (h_m_room X G c ce), F.bindsN (ps := ["start", "x", "h", "length", "limits"]) fun _ _ _ _ _ _ us hl => match us, hl with | [_, _, _, _, _], _ => rfl, .nil⟩
theorem h_c_sums_after : CalN P w K mg base CX0 7 4 "sums_after" ["start", "x", "h", "length", "band"] ["band"] (spSA (He.ga K "Band")) := by
  obtain ⟨fd, F0⟩ := c.def_ 41 (d := d_sums_after) rfl
  have F : FnP K "sums_after" "sums_after" s_sums_after [] [("band", .non)] (He.ga K "sums_after") fd := F0
  exact ⟨_, fd, (He.glo_ok X G (c.fact 80 (f := .glo "sums_after") rfl)), F.kp, ok_sums_after F (h_c_check_state X G c ce) (h_c_check_integer X G c ce) (h_c_check_integer2 X G c ce) (h_c_to_band X G c ce) (h_c_check_height X G c ce) (h_c_sums_within X G c ce), kbinds0 F 4 ["band"] (by intro e; cases e) fun _ _ _ _ _ _ us ws hl hm => match us, ws, hl, hm with | [_, _, _, _], [_], _, _ => rfl⟩
theorem h_c_is_reachable : CalN P w K mg base CX0 8 3 "is_reachable" ["start", "end", "length", "band"] ["band"] (spReach (He.ga K "Band")) := by
  obtain ⟨fd, F0⟩ := c.def_ 42 (d := d_is_reachable) rfl
  have F : FnP K "is_reachable" "is_reachable" s_is_reachable [] [("band", .non)] (He.ga K "is_reachable") fd := F0
  exact ⟨_, fd, (He.glo_ok X G (c.fact 81 (f := .glo "is_reachable") rfl)), F.kp, ok_is_reachable F (h_c_check_state X G c ce) (h_c_sums_after X G c ce), kbinds0 F 3 ["band"] (by intro e; cases e) fun _ _ _ _ _ _ us ws hl hm => match us, ws, hl, hm with | [_, _, _], [_], _, _ => rfl⟩
theorem h_c_runs_of_length : CalN P w K mg base (L2.CX P w) 9 3 "runs_of_length" ["start", "end", "length", "band"] ["band"] (spRunsL (He.ga K "Band") (He.ga K "Unreachable")) := by
  obtain ⟨fd, F0⟩ := c.def_ 43 (d := d_runs_of_length) rfl
  have F : FnP K "runs_of_length" "runs_of_length" s_runs_of_length [] [("band", .non)] (He.ga K "runs_of_length") fd := F0
  exact ⟨_, fd, (He.glo_ok X G (c.fact 82 (f := .glo "runs_of_length") rfl)), F.kp, ok_runs_of_length F (b_tx X G c ce) (b_tb X G c ce) (h_c_is_reachable X G c ce) (h_c_difference X G c ce) (h_c_pairs_for X G c ce) (h_c_runs_with_pairs X G c ce) (h_c_to_band X G c ce) (h_m_room X G c ce), kbinds0 F 3 ["band"] (by intro e; cases e) fun _ _ _ _ _ _ us ws hl hm => match us, ws, hl, hm with | [_, _, _], [_], _, _ => rfl⟩
theorem h_c__law_draws : Cal P w K mg base 1 "_law_draws" ["_law_script", "_law_k"] [] (spDrawsK K) := by
  obtain ⟨fd, F0⟩ := c.def_ 44 (d := d_law_draws) rfl
  have F : FnP K "_law_draws" "_law_draws" s__law_draws [] [] (He.ga K "_law_draws") fd := F0
  exact ⟨_, fd, [], (He.glo_ok X G (c.fact 83 (f := .glo "_law_draws") rfl)), F.kp, ok_law_draws F (b_bi X G c ce), F.bindsN (ps := ["_law_script", "_law_k"]) fun _ _ _ _ _ _ us hl => match us, hl with | [_, _], _ => rfl, .nil⟩
theorem h_c__law_draw : Cal P w K mg base 1 "_law_draw" ["_law_draws_here", "_law_upto"] [] spDraw := by
  obtain ⟨fd, F0⟩ := c.def_ 45 (d := d_law_draw) rfl
  have F : FnP K "_law_draw" "_law_draw" s__law_draw [] [] (He.ga K "_law_draw") fd := F0
  exact ⟨_, fd, [], (He.glo_ok X G (c.fact 84 (f := .glo "_law_draw") rfl)), F.kp, ok_law_draw F, F.bindsN (ps := ["_law_draws_here", "_law_upto"]) fun _ _ _ _ _ _ us hl => match us, hl with | [_, _], _ => rfl, .nil⟩
theorem h_c__law_integer : Cal P w K mg base 2 "_law_integer" ["_law_draws_here"] [] spInteger := by
  obtain ⟨fd, F0⟩ := c.def_ 46 (d := d_law_integer) rfl
  have F : FnP K "_law_integer" "_law_integer" s__law_integer [] [] (He.ga K "_law_integer") fd := F0
  exact ⟨_, fd, [], (He.glo_ok X G (c.fact 85 (f := .glo "_law_integer") rfl)), F.kp, ok_law_integer F (h_c__law_draw X G c ce), F.bindsN (ps := ["_law_draws_here"]) fun _ _ _ _ _ _ us hl => match us, hl with | [_], _ => rfl, .nil⟩
theorem h_c__law_state : Cal P w K mg base 3 "_law_state" ["_law_draws_here"] [] spState := by
  obtain ⟨fd, F0⟩ := c.def_ 47 (d := d_law_state) rfl
  have F : FnP K "_law_state" "_law_state" s__law_state [] [] (He.ga K "_law_state") fd := F0
  exact ⟨_, fd, [], (He.glo_ok X G (c.fact 86 (f := .glo "_law_state") rfl)), F.kp, ok_law_state F (h_c__law_integer X G c ce), F.bindsN (ps := ["_law_draws_here"]) fun _ _ _ _ _ _ us hl => match us, hl with | [_], _ => rfl, .nil⟩
theorem h_c__law_pair : Cal P w K mg base 4 "_law_pair" ["_law_draws_here"] [] spPair := by
  obtain ⟨fd, F0⟩ := c.def_ 48 (d := d_law_pair) rfl
  have F : FnP K "_law_pair" "_law_pair" s__law_pair [] [] (He.ga K "_law_pair") fd := F0
  exact ⟨_, fd, [], (He.glo_ok X G (c.fact 87 (f := .glo "_law_pair") rfl)), F.kp, ok_law_pair F (b_bi X G c ce) (h_c__law_state X G c ce) (h_c__law_integer X G c ce) (h_c__law_draw X G c ce), F.bindsN (ps := ["_law_draws_here"]) fun _ _ _ _ _ _ us hl => match us, hl with | [_], _ => rfl, .nil⟩
theorem h_c__law_band : Cal P w K mg base 2 "_law_band" ["_law_draws_here", "_law_height", "_law_rise"] [] spLBand := by
  obtain ⟨fd, F0⟩ := c.def_ 49 (d := d_law_band) rfl
  have F : FnP K "_law_band" "_law_band" s__law_band [] [] (He.ga K "_law_band") fd := F0
  exact ⟨_, fd, [], (He.glo_ok X G (c.fact 88 (f := .glo "_law_band") rfl)), F.kp, ok_law_band F (b_bi X G c ce) (h_c__law_draw X G c ce), F.bindsN (ps := ["_law_draws_here", "_law_height", "_law_rise"]) fun _ _ _ _ _ _ us hl => match us, hl with | [_, _, _], _ => rfl, .nil⟩
theorem h_c__law_end : Cal P w K mg base 1 "_law_end" ["_law_start", "_law_runs_here"] [] spEnd := by
  obtain ⟨fd, F0⟩ := c.def_ 50 (d := d_law_end) rfl
  have F : FnP K "_law_end" "_law_end" s__law_end [] [] (He.ga K "_law_end") fd := F0
  exact ⟨_, fd, [], (He.glo_ok X G (c.fact 89 (f := .glo "_law_end") rfl)), F.kp, ok_law_end F (b_bi X G c ce), F.bindsN (ps := ["_law_start", "_law_runs_here"]) fun _ _ _ _ _ _ us hl => match us, hl with | [_, _], _ => rfl, .nil⟩
theorem h_c__law_inside : Cal P w K mg base 1 "_law_inside" ["_law_ends", "_law_lowest", "_law_highest"] [] spInside := by
  obtain ⟨fd, F0⟩ := c.def_ 51 (d := d_law_inside) rfl
  have F : FnP K "_law_inside" "_law_inside" s__law_inside [] [] (He.ga K "_law_inside") fd := F0
  exact ⟨_, fd, [], (He.glo_ok X G (c.fact 90 (f := .glo "_law_inside") rfl)), F.kp, ok_law_inside F, F.bindsN (ps := ["_law_ends", "_law_lowest", "_law_highest"]) fun _ _ _ _ _ _ us hl => match us, hl with | [_, _, _], _ => rfl, .nil⟩
theorem h_c__law_runs : Cal P w K mg base 10 "_law_runs" ["_law_start", "_law_end_here", "_law_length", "_law_limits"] [] (spLRuns (He.ga K "Band")) := by
  obtain ⟨fd, F0⟩ := c.def_ 52 (d := d_law_runs) rfl
  have F : FnP K "_law_runs" "_law_runs" s__law_runs [] [] (He.ga K "_law_runs") fd := F0
  exact ⟨_, fd, [], (He.glo_ok X G (c.fact 91 (f := .glo "_law_runs") rfl)), F.kp, ok_law_runs F (b_tx X G c ce) (h_c_runs_of_length X G c ce), F.bindsN (ps := ["_law_start", "_law_end_here", "_law_length", "_law_limits"]) fun _ _ _ _ _ _ us hl => match us, hl with | [_, _, _, _], _ => rfl, .nil⟩
theorem h_c__law_right : Cal P w K mg base 11 "_law_right" ["_law_start", "_law_end_here", "_law_length", "_law_ends", "_law_expected"] [] spRight := by
  obtain ⟨fd, F0⟩ := c.def_ 53 (d := d_law_right) rfl
  have F : FnP K "_law_right" "_law_right" s__law_right [] [] (He.ga K "_law_right") fd := F0
  exact ⟨_, fd, [], (He.glo_ok X G (c.fact 92 (f := .glo "_law_right") rfl)), F.kp, ok_law_right F (b_bi X G c ce) (h_k_Band X G c ce) (h_c__law_runs X G c ce) (h_c_is_reachable X G c ce) (h_c__law_end X G c ce) (h_c__law_inside X G c ce), F.bindsN (ps := ["_law_start", "_law_end_here", "_law_length", "_law_ends", "_law_expected"]) fun _ _ _ _ _ _ us hl => match us, hl with | [_, _, _, _, _], _ => rfl, .nil⟩
end
theorem facts {P : Program} {w : World} {K : PySem.W.Frag} {h : Heap} {mg : Str → Option Value} {f : Addr} (X : K.In h) (G : h.Ns mainGlobals mg) (hfa : mg ("law" : Str) = some (.ref f)) (c : He.SaysD fa fn K) (ce : exB K = true) :
    ∃ fd : FuncData, (∀ (s : Shared) (v : Value), BindsTo s fd ⟨[v], []⟩ [("_law_script", v)]) ∧ ∀ base : Heap, K.In base → base.Ns mainGlobals mg → FnOk P w K mg base CX0 12 f fd ["_law_script"] (spLaw K) := by
  obtain ⟨fd, F0⟩ := c.def_ 54 (d := d_law) rfl
  have F : FnP K "law" "law" s_law [] [] (He.ga K "law") fd := F0
  have e := hfa.symm.trans (He.glo_ok X G (c.fact 93 (f := .glo "law") rfl))
  cases e
  have b := FunD.bindsA (ps := ["_law_script"]) F fun _ _ _ _ _ _ us hl => match us, hl with | [_], _ => rfl
  exact ⟨fd, fun s v => b s [v] rfl, fun base _ _ => ok_law F (b_bi X G c ce) (h_c__law_draws X G c ce) (h_c__law_pair X G c ce) (h_c__law_band X G c ce) (h_k_Band X G c ce) (h_c_distance X G c ce) (h_c__law_draw X G c ce) (h_c__law_right X G c ce) (h_c_sums_after X G c ce)⟩
end HK
open PySem PySem.W PySem.Calls PyProof.Rows
theorem PySem.Challenge.cw_heightsums_k30_whole_runs_of_exact_lengt_holds : PySem.Challenge.rw_heightsums_k30_whole_runs_of_exact_lengt.Holds := by
  w_on; o_law
  refine HandSHeadRun.head_any (r := OpenLaw.row PySem.Challenge.rw_heightsums_k30_whole_runs_of_exact_lengt) (q := view (OpenLaw.row PySem.Challenge.rw_heightsums_k30_whole_runs_of_exact_lengt).prog [57]) (H := HK.hk) (ob := HK.ob) (M := 6000) (loose := HK.nmA ++ HK.nmB) (d := HandSHeadRun.topDef (OpenLaw.row PySem.Challenge.rw_heightsums_k30_whole_runs_of_exact_lengt).prog 57) (kwd := []) HK.ob_eq
    (by kernel_rfl) (fun s => by kernel_rfl) HK.run (by kernel_rfl) (by kernel_rfl) (by kernel_rfl) (by rfl) (by first | assumption | decide +kernel) (by decide +kernel) ⟨rfl, rfl, rfl, rfl, rfl, by decide +kernel⟩ ?hw ?hc
  case hw => w_witness2
  case hc =>
    refine L2.walk_ofE (l := PySem.Challenge.rw_heightsums_k30_whole_runs_of_exact_lengt) (n := 63) (k := 12) (x := "_law_script") (CX := L2.CX0) rfl (by decide) (by kernel_rfl) ⟨rfl, by decide, by decide⟩ ?F (fun _ _ _ _ z => z)
    intro w mg fa h Y G hmg0
    obtain ⟨K, KX, c⟩ := Y
    have hmg : mg ("law" : PySem.Str) = some (.ref fa) := by
      have e : (HandSHeadRun.topDef (OpenLaw.row PySem.Challenge.rw_heightsums_k30_whole_runs_of_exact_lengt).prog 57).name = ("law" : PySem.Str) := by kernel_rfl
      rw [← e]
      exact hmg0
    obtain ⟨fd, hb, hF⟩ := HK.facts (P := (PySem.Challenge.rw_heightsums_k30_whole_runs_of_exact_lengt).prog) (w := w) KX G hmg c.t.d c.more
    exact ⟨K, fd, HK.spLaw K, KX, hb, fun H a ns hl _ hS => ⟨a, ns, rfl, hS, hl, fun _ => rfl⟩, hF⟩

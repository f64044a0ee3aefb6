import PyProof.Rows.All
import Wide.All
import OpenK.AllK
import Wide.FinOn
import PySem.Challenge.RW_areawalks_k13_whole_areas_of_walks
import HandS.ForMost
import HandS.Exc
import HandS.Codes
import HandS.IsInst
import HandS.Flow
import HandS.Wide
import HandS.WideBits
import HandS.Conv
import HandS.Style
import HandS.WordsExc
import KE.KExcSuper
import HandS.ExcInit
import HandS.ForExc
import HandS.Walk
import PyProof.Rows.TupDisplay
import HandS.SortInts
import HandS.Lambda
import HandS.EndTab
import KE.KNestM
set_option Elab.async false
set_option linter.all false
set_option maxRecDepth 100000
/-! the text by places, the names by slot -/
namespace AW
open PySem PySem.Spec PyProof.Rows L2
def topS (i : Nat) : Stmt := PySem.Challenge.pw_areawalks_k13_whole_areas_of_walks.main.body.getD i (.Pass ⟨0, 0, 0, 0⟩)
abbrev sIsInteger : Stmt := topS 6
abbrev sIsWhole : Stmt := topS 7
abbrev sNeedPlace : Stmt := topS 10
abbrev sWholeRoot : Stmt := topS 12
abbrev sStepsOf : Stmt := topS 13
abbrev sBestSides : Stmt := topS 14
abbrev sAreasOf : Stmt := topS 15
abbrev sSteps : Stmt := topS 17
abbrev sAreas : Stmt := topS 18
abbrev sLawPen : Stmt := topS 20
abbrev sLawDraw : Stmt := topS 21
abbrev sLawPick : Stmt := topS 22
abbrev sLawGreat : Stmt := topS 23
abbrev sLawSigned : Stmt := topS 24
abbrev sLawGone : Stmt := topS 25
abbrev sLawPlace : Stmt := topS 26
abbrev sLawFar : Stmt := topS 27
abbrev sLawEnds : Stmt := topS 28
abbrev sLawRefused : Stmt := topS 29
abbrev sLawNearRight : Stmt := topS 30
abbrev sLawIsTold : Stmt := topS 31
abbrev sLaw : Stmt := topS 32
abbrev sPInit : Stmt := inClass (topS 9) 0
abbrev sBnInit : Stmt := inClass (topS 3) 0
theorem scIsInteger : FnScope ["value"] ["value"] (defScope sIsInteger) := ⟨rfl, rfl, rfl, by decide +kernel, rfl, by decide +kernel, by decide +kernel⟩
theorem scIsWhole : FnScope ["value", "least"] ["value", "least"] (defScope sIsWhole) := ⟨rfl, rfl, rfl, by decide +kernel, rfl, by decide +kernel, by decide +kernel⟩
theorem scNeedPlace : FnScope ["value"] ["value"] (defScope sNeedPlace) := ⟨rfl, rfl, rfl, by decide +kernel, rfl, by decide +kernel, by decide +kernel⟩
theorem scWholeRoot : FnScope ["number", "found", "later"] ["number"] (defScope sWholeRoot) := ⟨rfl, rfl, rfl, by decide +kernel, rfl, by decide +kernel, by decide +kernel⟩
theorem scStepsOf : FnScope ["x", "y", "area", "ground", "more", "less", "root"] ["x", "y", "area"] (defScope sStepsOf) := ⟨rfl, rfl, rfl, by decide +kernel, rfl, by decide +kernel, by decide +kernel⟩
theorem scBestSides : FnScope ["x", "y", "extra"] ["x", "y", "extra"] (defScope sBestSides) := ⟨rfl, rfl, rfl, by decide +kernel, rfl, by decide +kernel, by decide +kernel⟩
theorem scAreasOf : FnScope ["x", "y", "number", "extra", "wide", "high", "span"] ["x", "y", "number"] (defScope sAreasOf) := ⟨rfl, rfl, rfl, by decide +kernel, rfl, by decide +kernel, by decide +kernel⟩
theorem scSteps : FnScope ["place"] ["place"] (defScope sSteps) := ⟨rfl, rfl, rfl, by decide +kernel, rfl, by decide +kernel, by decide +kernel⟩
theorem scAreas : FnScope ["x", "y", "number", "value"] ["x", "y", "number"] (defScope sAreas) := ⟨rfl, rfl, rfl, by decide +kernel, rfl, by decide +kernel, by decide +kernel⟩
theorem scLawPen : FnScope ["_law_script"] ["_law_script"] (defScope sLawPen) := ⟨rfl, rfl, rfl, by decide +kernel, rfl, by decide +kernel, by decide +kernel⟩
theorem scLawDraw : FnScope ["_law_pen_here", "_law_span", "_law_digit", "_law_at", "_law_cell", "_law_mash"] ["_law_pen_here", "_law_span"] (defScope sLawDraw) := ⟨rfl, rfl, rfl, by decide +kernel, rfl, by decide +kernel, by decide +kernel⟩
theorem scLawPick : FnScope ["_law_pen_here", "_law_items"] ["_law_pen_here", "_law_items"] (defScope sLawPick) := ⟨rfl, rfl, rfl, by decide +kernel, rfl, by decide +kernel, by decide +kernel⟩
theorem scLawGreat : FnScope ["_law_pen_here", "_law_figures", "_law_found", "_law_go"] ["_law_pen_here", "_law_figures"] (defScope sLawGreat) := ⟨rfl, rfl, rfl, by decide +kernel, rfl, by decide +kernel, by decide +kernel⟩
theorem scLawSigned : FnScope ["_law_pen_here", "_law_figures", "_law_found"] ["_law_pen_here", "_law_figures"] (defScope sLawSigned) := ⟨rfl, rfl, rfl, by decide +kernel, rfl, by decide +kernel, by decide +kernel⟩
theorem scLawGone : FnScope ["_law_spot", "_law_letter", "_law_times", "_law_x", "_law_y", "_law_area"] ["_law_spot", "_law_letter", "_law_times"] (defScope sLawGone) := ⟨rfl, rfl, rfl, by decide +kernel, rfl, by decide +kernel, by decide +kernel⟩
theorem scLawPlace : FnScope ["_law_spot"] ["_law_spot"] (defScope sLawPlace) := ⟨rfl, rfl, rfl, by decide +kernel, rfl, by decide +kernel, by decide +kernel⟩
theorem scLawFar : FnScope ["_law_pen_here", "_law_figures", "_law_x", "_law_y", "_law_path", "_law_wide", "_law_high", "_law_area"] ["_law_pen_here", "_law_figures"] (defScope sLawFar) := ⟨rfl, rfl, rfl, by decide +kernel, rfl, by decide +kernel, by decide +kernel⟩
theorem scLawEnds : FnScope ["_law_number", "_law_found", "_law_go", "_law_later", "_law_spot", "_law_letter", "_law_ends_here", "_law_x", "_law_y", "_law_area"] ["_law_number"] (defScope sLawEnds) := ⟨rfl, rfl, rfl, by decide +kernel, rfl, by decide +kernel, by decide +kernel⟩
theorem scLawRefused : FnScope ["_law_deed", "e"] ["_law_deed"] (defScope sLawRefused) := ⟨rfl, rfl, rfl, by decide +kernel, rfl, by decide +kernel, by decide +kernel⟩
theorem scLawNearRight : FnScope ["_law_pen_here", "_law_number", "_law_ends_here", "_law_x", "_law_y", "_law_due", "_law_shown", "_law_area"] ["_law_pen_here"] (defScope sLawNearRight) := ⟨rfl, rfl, rfl, by decide +kernel, rfl, by decide +kernel, by decide +kernel⟩
theorem scLawIsTold : FnScope ["_law_x", "_law_y", "_law_area", "_law_number", "_law_shown", "_law_least_steps", "_law_can"] ["_law_x", "_law_y", "_law_area", "_law_number", "_law_shown"] (defScope sLawIsTold) := ⟨rfl, rfl, rfl, by decide +kernel, rfl, by decide +kernel, by decide +kernel⟩
theorem scLaw : FnScope ["_law_script", "_law_pen_here", "_law_lap", "_law_spot", "_law_area", "_law_number", "_law_shown", "_law_some", "_law_odd", "_law_x", "_law_y", "_law_one"] ["_law_script"] (defScope sLaw) := ⟨rfl, rfl, rfl, by decide +kernel, rfl, by decide +kernel, by decide +kernel⟩
theorem scPInit : FnScope ["self", "x", "y", "area", "value"] ["self", "x", "y", "area"] (defScope sPInit) := ⟨rfl, rfl, rfl, by decide +kernel, rfl, by decide +kernel, by decide +kernel⟩
end AW
set_option maxRecDepth 100000
set_option maxHeartbeats 4000000
/-! callees by name; is_integer, is_whole -/
namespace AW
open PySem PySem.Spec PyProof.Rows L2
/-- the built-ins that the text names are still the built-ins -/
structure Blt (mg : Str → Option Value) : Prop where
  isinstance : mg "isinstance" = none
  int : mg "int" = none
  bool : mg "bool" = none
  abs : mg "abs" = none
  list : mg "list" = none
  len : mg "len" = none
  range : mg "range" = none
  max : mg "max" = none
  min : mg "min" = none
  sorted : mg "sorted" = none
  tuple : mg "tuple" = none
/-- the def of the name x keeps the promise sp -/
structure Cal (P : Program) (w : World) (K : PySem.W.Frag) (mg : Str → Option Value) (base : Heap) (CX : CXT) (x : Str) (ps : List Str) (k : Nat) (sp : Sp) : Prop where
  ex : ∃ (f : Addr) (fd : FuncData), FnOk P w K mg base CX k f fd ps sp ∧ mg x = some (.ref f) ∧ PySem.W.keepIn K (.ref f) = true ∧ Binds K fd ps []
/-- where the def stands, as the top left it -/
structure Own (K : PySem.W.Frag) (mg : Str → Option Value) (x : Str) (st : Stmt) (ps : List Str) (f : Addr) (fd : FuncData) : Prop where
  F : Fun K x x st f fd
  b : Binds K fd ps []
  g : mg x = some (.ref f)
theorem Own.cal {P : Program} {w : World} {K : PySem.W.Frag} {mg : Str → Option Value} {base : Heap} {CX : CXT} {x : Str} {st : Stmt} {ps : List Str} {f : Addr} {fd : FuncData} {k : Nat} {sp : Sp} (O : Own K mg x st ps f fd) (h : FnOk P w K mg base CX k f fd ps sp) : Cal P w K mg base CX x ps k sp :=
  ⟨f, fd, h, O.g, O.F.kp, O.b⟩
section
variable {X : Cx} {x : Str} {ps : List Str} {k : Nat} {sp : Sp} {CX : CXT} {E : XK} {e : Expr} {es : List Expr} {t : TA} {p pos : Pos}
theorem pe_cal (C : Cal X.prog X.w X.K X.mg X.base CX x ps k sp) (hr : Room k X.A) (hx : Passes CX X E) (ha : PA X (e :: es) t) (hg : Gl X x := by rfl) (hdb : (x == ("__debug__" : Str)) = false := by decide)
    (he : starEach (e :: es) X.env = (false, eval e X.env) :: starEach es X.env := by rfl) (hpl : (backTo pos (starEach es X.env)).any (·.1) = false := by rfl) : PE X (.Call (.Name x p) (e :: es) [] pos) (tCall sp [] E t) := by
  obtain ⟨f, fd, F, hm, hk, hb⟩ := C.ex
  exact pe_call F hr hg hm hk hb .nil hx ha (hdb := hdb) (he := he) (hpl := hpl)
end
def isInt : V → Bool
  | .int _ => true
  | _ => false
/-- the values that is_integer is asked of -/
inductive Any (H : Hp) : V → Prop where
  | non : Any H .non
  | bl (b : Bool) : Any H (.bl b)
  | int (i : Int) : Any H (.int i)
  | str (s : Str) : Any H (.str s)
  | lst {a : Addr} {xs : List V} (h : H a = some (.lst xs)) : Any H (.ref a)
def spIsInteger : Sp := fun vs H Q _ => ∃ v, vs = [v] ∧ Any H v ∧ Q (.bl (isInt v)) H
section
variable {P : Program} {w : World} {K : PySem.W.Frag} {mg : Str → Option Value} {base : Heap}
theorem ok_isInteger {f : Addr} {fd : FuncData} (O : Own K mg "is_integer" sIsInteger ["value"] f fd) (T : Blt mg) : FnOk P w K mg base CX0 1 f fd ["value"] spIsInteger := by
  refine O.F.ok scIsInteger (fun vs H Q E h => ?_) (fun cdv A outer s H vs Q E hr h => ?_)
  · obtain ⟨v, rfl, _⟩ := h
    rfl
  · obtain ⟨v, rfl, ha, q⟩ := h
    refine ⟨_, pss_one (ps_ret (pe_and (pe_callB call_isi (by rfl) T.isinstance (by decide +kernel) (pa_cons (pv 0) (pa_cons (pe_bltn (v := .ty "int") (by rfl) T.int (by decide +kernel) rfl) pa_nil)))
      (pe_one (pe_not (pe_callB call_isi (by rfl) T.isinstance (by decide +kernel) (pa_cons (pv 0) (pa_cons (pe_bltn (v := .ty "bool") (by rfl) T.bool (by decide +kernel) rfl) pa_nil))))))), ?_⟩
    cases ha with
    | non => exact ⟨_, rfl, _, _, _, _, _, rfl, .ty "int", .base .non, kit_ty (by decide +kernel), _, rfl, iteF q⟩
    | str s => exact ⟨_, rfl, _, _, _, _, _, rfl, .ty "int", .base (.str s), kit_ty (by decide +kernel), _, rfl, iteF q⟩
    | lst h => exact ⟨_, rfl, _, _, _, _, _, rfl, .ty "int", .base (.lst h), kit_ty (by decide +kernel), _, rfl, iteF q⟩
    | bl b => exact ⟨_, rfl, _, _, _, _, _, rfl, .ty "int", .base (.bl b), kit_ty (by decide +kernel), _, rfl, iteT ⟨_, rfl, _, _, _, _, _, rfl, .ty "bool", .base (.bl b), kit_ty (r := true) (by decide +kernel), _, rfl, q⟩⟩
    | int i => exact ⟨_, rfl, _, _, _, _, _, rfl, .ty "int", .base (.int i), kit_ty (by decide +kernel), _, rfl, iteT ⟨_, rfl, _, _, _, _, _, rfl, .ty "bool", .base (.int i), kit_ty (r := false) (by decide +kernel), _, rfl, q⟩⟩
def isWhole : V → Bool
  | .int i => decide (0 ≤ i)
  | _ => false
def spIsWhole : Sp := fun vs H Q _ => ∃ v, vs = [v, .int 0] ∧ Any H v ∧ Q (.bl (isWhole v)) H
theorem ok_isWhole {f : Addr} {fd : FuncData} (O : Own K mg "is_whole" sIsWhole ["value", "least"] f fd) (C : Cal P w K mg base CX0 "is_integer" ["value"] 1 spIsInteger) : FnOk P w K mg base CX0 2 f fd ["value", "least"] spIsWhole := by
  refine O.F.ok scIsWhole (fun vs H Q E h => ?_) (fun cdv A outer s H vs Q E hr h => ?_)
  · obtain ⟨v, rfl, _⟩ := h
    rfl
  · obtain ⟨v, rfl, ha, q⟩ := h
    refine ⟨_, pss_one (ps_ret (pe_and (pe_cal C hr pass0 (pa_cons (pv 0) pa_nil)) (pe_one (pe_cmpR op_ge (pv 0) (pv 1) (nomark _))))), ?_⟩
    refine ⟨_, rfl, v, rfl, ha, _, rfl, ?_⟩
    cases ha with
    | int i => exact iteT ⟨_, rfl, _, rfl, _, _, rfl, rfl, q⟩
    | _ => exact iteF q
end
end AW
/-! plain arithmetic: the least number of steps, the areas of a number of steps -/
namespace AW
def ab (i : Int) : Int := if i < 0 then -i else i
theorem ab_nn (i : Int) : 0 ≤ ab i := by unfold ab; split <;> omega
theorem ab_natAbs (i : Int) : ab i = (i.natAbs : Int) := by unfold ab; split <;> omega
/-- the greatest product of sides, the greater one m, the lesser one l, k more in all -/
def pm (m l k : Int) : Int := if k ≤ m - l then m * (l + k) else ((m + l + k + 1) / 2) * ((m + l + k) / 2)
def bestSides (a b k : Int) : Int × Int := if k ≤ ab (a - b) then (if a ≥ b then (a, b + k) else (a + k, b)) else ((a + b + k + 1) / 2, (a + b + k) / 2)
def mx (a b : Int) : Int := if a ≥ b then a else b
def mn (a b : Int) : Int := if a ≥ b then b else a
theorem best_pm (a b k : Int) : (bestSides a b k).1 * (bestSides a b k).2 = pm (mx a b) (mn a b) k := by
  unfold bestSides pm mx mn ab
  by_cases h : a ≥ b
  · have e : (if a - b < 0 then -(a - b) else a - b) = a - b := if_neg (by omega)
    rw [e, if_pos h, if_pos h, if_pos h]
    by_cases hk : k ≤ a - b
    · rw [if_pos hk, if_pos hk]
    · rw [if_neg hk, if_neg hk]
  · have e : (if a - b < 0 then -(a - b) else a - b) = b - a := by rw [if_pos (by omega)]; omega
    rw [e, if_neg h, if_neg h, if_neg h]
    by_cases hk : k ≤ b - a
    · rw [if_pos hk, if_pos hk]
      show (a + k) * b = b * (a + k)
      exact Int.mul_comm _ _
    · rw [if_neg hk, if_neg hk]
      have e2 : b + a + k = a + b + k := by omega
      rw [e2]
theorem half_sq (g t : Int) : g ≤ ((t + 1) / 2) * (t / 2) ↔ 4 * g ≤ t * t := by
  have hh : t % 2 = 0 ∨ t % 2 = 1 := by omega
  rcases hh with h | h
  · obtain ⟨q, rfl⟩ : ∃ q, t = 2 * q := ⟨t / 2, by omega⟩
    have e1 : (2 * q + 1) / 2 = q := by omega
    have e2 : (2 * q) / 2 = q := by omega
    have e3 : (2 * q) * (2 * q) = 4 * (q * q) := by rw [Int.mul_assoc, Int.mul_left_comm q 2 q]; omega
    rw [e1, e2, e3]
    omega
  · obtain ⟨q, rfl⟩ : ∃ q, t = 2 * q + 1 := ⟨t / 2, by omega⟩
    have e1 : (2 * q + 1 + 1) / 2 = q + 1 := by omega
    have e2 : (2 * q + 1) / 2 = q := by omega
    have e3 : (2 * q + 1) * (2 * q + 1) = 4 * (q * q) + 4 * q + 1 := by
      rw [Int.add_mul, Int.mul_add, Int.mul_assoc, Int.mul_left_comm q 2 q]
      omega
    have e4 : (q + 1) * q = q * q + q := by rw [Int.add_mul]; omega
    rw [e1, e2, e3, e4]
    omega
theorem sq_mono {a b : Int} (h0 : 0 ≤ a) (h : a ≤ b) : a * a ≤ b * b := Int.mul_le_mul h h h0 (by omega)
theorem sq_lt {a b : Int} (h0 : 0 ≤ b) (h : a * a < b * b) : a < b := by
  by_cases q : a < b
  · exact q
  · have z := sq_mono h0 (show b ≤ a by omega)
    omega
theorem sq_strict {a b : Int} (h0 : 0 ≤ a) (h : a < b) : a * a < b * b := by
  have z := sq_mono (show 0 ≤ a + 1 by omega) (show a + 1 ≤ b by omega)
  rw [Int.add_mul, Int.mul_add] at z
  omega
theorem four_sq (m : Int) : (2 * m) * (2 * m) = 4 * (m * m) := by rw [Int.mul_assoc, Int.mul_left_comm m 2 m]; omega
/-- s is the least number of steps: a walk of m + l + 2 * k steps can have the ground g just if s is no more -/
def Steps (m l g s : Int) : Prop := ∃ j, s = m + l + 2 * j ∧ 0 ≤ j ∧ s ≤ m + l + 8 * g ∧ ∀ k, 0 ≤ k → (j ≤ k ↔ g ≤ pm m l k)
section
variable {m l g : Int}
theorem steps_one (hl : 0 ≤ l) (hm : l ≤ m) (hg : 0 ≤ g) (h : g ≤ m * l) : Steps m l g (m + l) := by
  refine ⟨0, by omega, by omega, by omega, fun k hk => ⟨fun _ => ?_, fun _ => hk⟩⟩
  unfold pm
  have h1 : m * l ≤ m * m := Int.mul_le_mul_of_nonneg_left hm (by omega)
  split
  · have z := Int.mul_le_mul_of_nonneg_left (show l ≤ l + k by omega) (show 0 ≤ m by omega)
    omega
  · rw [half_sq]
    have z := sq_mono (show 0 ≤ 2 * m by omega) (show 2 * m ≤ m + l + k by omega)
    rw [four_sq] at z
    omega
theorem ceil_le {c z : Int} (hm : 0 < m) (hc : c = -((-g) / m)) : c ≤ z ↔ g ≤ m * z := by
  have q := Int.le_ediv_iff_mul_le (a := -z) (b := -g) hm
  rw [Int.neg_mul, Int.mul_comm z m] at q
  omega
theorem steps_two {c : Int} (hl : 0 ≤ l) (hm : l ≤ m) (h : ¬ g ≤ m * l) (h2 : g ≤ m * m) (hc : c = -((-g) / m)) : Steps m l g (2 * c + m - l) := by
  have hp : 0 < m := by
    by_cases q : 0 < m
    · exact q
    · have e1 : m = 0 := by omega
      have e2 : l = 0 := by omega
      subst e1
      rw [e2] at h
      omega
  have hg : 0 ≤ g := by
    have z := Int.mul_nonneg (show 0 ≤ m by omega) hl
    omega
  have key := fun z => ceil_le (g := g) (z := z) hp hc
  have hcl : l < c := by
    have z := key l
    omega
  have hcg : c ≤ g := (key g).mpr (by
    have z := Int.mul_le_mul_of_nonneg_right (show 1 ≤ m by omega) hg
    omega)
  refine ⟨c - l, by omega, by omega, by omega, fun k hk => ?_⟩
  have z := key (l + k)
  unfold pm
  split
  · omega
  · rename_i hk2
    have h3 := Int.mul_le_mul_of_nonneg_left (show m ≤ l + k by omega) (show 0 ≤ m by omega)
    have h4 := sq_mono (show 0 ≤ 2 * m by omega) (show 2 * m ≤ m + l + k by omega)
    rw [four_sq] at h4
    have h5 : g ≤ (m + l + k + 1) / 2 * ((m + l + k) / 2) := (half_sq _ _).mpr (by omega)
    exact ⟨fun _ => h5, fun _ => by omega⟩
/-- p is the least number from 0 on whose square is no less than n -/
def Ceil (n p : Int) : Prop := 0 ≤ p ∧ n ≤ p * p ∧ ∀ z, 0 ≤ z → n ≤ z * z → p ≤ z
theorem ceil_of {n r : Int} (h0 : 0 ≤ r) (h1 : r * r ≤ n) (h2 : n < (r + 1) * (r + 1)) : Ceil n (if r * r = n then r else r + 1) := by
  by_cases h : r * r = n
  · rw [if_pos h]
    refine ⟨h0, by omega, fun z hz hn => ?_⟩
    by_cases q : r ≤ z
    · exact q
    · have w := sq_strict hz (show z < r by omega)
      omega
  · rw [if_neg h]
    refine ⟨by omega, by omega, fun z hz hn => ?_⟩
    have w := sq_lt (a := r) (b := z) hz (by omega)
    omega
theorem steps_three {p : Int} (hl : 0 ≤ l) (hm : l ≤ m) (h : ¬ g ≤ m * m) (hp : Ceil (4 * g) p) : Steps m l g (2 * p - m - l) := by
  obtain ⟨p0, p1, p2⟩ := hp
  have hmm : 0 ≤ m * m := Int.mul_nonneg (by omega) (by omega)
  have key : ∀ z, 0 ≤ z → (p ≤ z ↔ 4 * g ≤ z * z) := fun z hz => ⟨fun q => by
    have w := sq_mono p0 q
    omega, p2 z hz⟩
  have h2m : 2 * m < p := by
    have z := key (2 * m) (by omega)
    rw [four_sq] at z
    omega
  have hpg : p ≤ 4 * g := (key (4 * g) (by omega)).mpr (by
    have z := Int.mul_le_mul_of_nonneg_right (show 1 ≤ 4 * g by omega) (show 0 ≤ 4 * g by omega)
    omega)
  refine ⟨p - m - l, by omega, by omega, by omega, fun k hk => ?_⟩
  have z := key (m + l + k) (by omega)
  unfold pm
  split
  · rename_i hk2
    have h3 := Int.mul_le_mul_of_nonneg_left (show l + k ≤ m by omega) (show 0 ≤ m by omega)
    have h4 := sq_mono (show 0 ≤ m + l + k by omega) (show m + l + k ≤ 2 * m by omega)
    rw [four_sq] at h4
    omega
  · have h5 := half_sq g (m + l + k)
    omega
end
/-! ### areas -/
def ground (x y a : Int) : Int := (ab (2 * a - x * y) + ab (x * y)) / 2
def StepsOk (x y a s : Int) : Prop := Steps (mx (ab x) (ab y)) (mn (ab x) (ab y)) (ground x y a) s
def span (x y n : Int) : Int := 2 * (bestSides (ab x) (ab y) ((n - ab x - ab y) / 2)).1 * (bestSides (ab x) (ab y) ((n - ab x - ab y) / 2)).2 - ab (x * y)
def areasOf (x y n : Int) : Option (Int × Int) :=
  if n - ab x - ab y < 0 ∨ (n - ab x - ab y) % 2 = 1 then none else some ((x * y - span x y n) / 2, (x * y + span x y n) / 2)
theorem ab_mul (x y : Int) : ab (x * y) = ab x * ab y := by
  rw [ab_natAbs, ab_natAbs, ab_natAbs, Int.natAbs_mul]
  exact Int.natCast_mul _ _
theorem mx_mn (a b : Int) : mx a b + mn a b = a + b ∧ mn a b ≤ mx a b ∧ mx a b * mn a b = a * b := by
  unfold mx mn
  by_cases h : a ≥ b
  · rw [if_pos h, if_pos h]
    exact ⟨rfl, h, rfl⟩
  · rw [if_neg h, if_neg h]
    exact ⟨Int.add_comm _ _, by omega, Int.mul_comm _ _⟩
theorem span_pm (x y n : Int) : span x y n = 2 * pm (mx (ab x) (ab y)) (mn (ab x) (ab y)) ((n - ab x - ab y) / 2) - ab (x * y) := by
  unfold span
  rw [Int.mul_assoc, best_pm]
theorem ab_par (i : Int) : ab i % 2 = i % 2 := by unfold ab; split <;> omega
theorem span_nn {x y n : Int} (h : 0 ≤ n - ab x - ab y) : 0 ≤ span x y n := by
  rw [span_pm]
  have h1 := mx_mn (ab x) (ab y)
  have hx := ab_nn x
  have hy := ab_nn y
  have h0 : 0 ≤ mn (ab x) (ab y) := by unfold mn; split <;> omega
  have h00 : 0 ≤ mx (ab x) (ab y) := by unfold mx; split <;> omega
  have hp : 0 ≤ ab x * ab y := Int.mul_nonneg hx hy
  obtain ⟨j, _, j0, _, hk⟩ := steps_one (m := mx (ab x) (ab y)) (l := mn (ab x) (ab y)) (g := ab x * ab y) h0 h1.2.1 hp (by rw [h1.2.2]; omega)
  have hs := (hk ((n - ab x - ab y) / 2) (by omega))
  have e : j = 0 := by omega
  have q := hs.mp (by omega)
  rw [ab_mul]
  omega
/-- the areas add up to x * y, the lesser one first -/
theorem areas_sum {x y n lo hi : Int} (h : areasOf x y n = some (lo, hi)) : lo + hi = x * y ∧ lo ≤ hi := by
  unfold areasOf at h
  split at h
  · cases h
  · rename_i hn
    have h := Option.some.inj h
    injection h with h1 h2
    have hs := span_nn (x := x) (y := y) (n := n) (by omega)
    have hp := ab_par (x * y)
    have e := span_pm x y n
    omega
theorem areas_none {x y n : Int} : areasOf x y n = none ↔ (n < ab x + ab y ∨ (n - x - y) % 2 = 1) := by
  have hx := ab_par x
  have hy := ab_par y
  unfold areasOf
  split
  · exact ⟨fun _ => by omega, fun _ => rfl⟩
  · exact ⟨fun h => (nomatch h), fun h => by omega⟩
/-- an area is among those told just if its steps are no more and of the same parity -/
theorem told {x y a s n : Int} (h : StepsOk x y a s) : (s ≤ n ∧ (n - s) % 2 = 0) ↔ ∃ lo hi, areasOf x y n = some (lo, hi) ∧ lo ≤ a ∧ a ≤ hi := by
  obtain ⟨j, hs, j0, _, hk⟩ := h
  have h1 := mx_mn (ab x) (ab y)
  have hx := ab_nn x
  have hy := ab_nn y
  unfold areasOf
  by_cases hn : n - ab x - ab y < 0 ∨ (n - ab x - ab y) % 2 = 1
  · rw [if_pos hn]
    refine ⟨fun q => by omega, fun ⟨_, _, q, _⟩ => (nomatch q)⟩
  · rw [if_neg hn]
    have key := hk ((n - ab x - ab y) / 2) (by omega)
    have hp := ab_par (x * y)
    have e := span_pm x y n
    have hnn := span_nn (x := x) (y := y) (n := n) (by omega)
    have hd : ab (2 * a - x * y) % 2 = (2 * a - x * y) % 2 := ab_par _
    have hg : 2 * ground x y a = ab (2 * a - x * y) + ab (x * y) := by
      unfold ground
      omega
    constructor
    · intro q
      have z := key.mp (by omega)
      refine ⟨_, _, rfl, ?_⟩
      have w : ab (2 * a - x * y) ≤ span x y n := by omega
      unfold ab at w
      split at w <;> omega
    · rintro ⟨lo, hi, q, q1, q2⟩
      have q := Option.some.inj q
      injection q with e1 e2
      have w : ab (2 * a - x * y) ≤ span x y n := by
        unfold ab
        split <;> omega
      have z := key.mpr (by omega)
      omega
end AW
/-! sizes of whole numbers; Newton's root -/
namespace AW
/-- i has at most n bits -/
def Sm (n : Nat) (i : Int) : Prop := i.natAbs < 2 ^ n
theorem pow_mono {n m : Nat} (h : n ≤ m) : 2 ^ n ≤ 2 ^ m := Nat.pow_le_pow_right (by decide) h
theorem pow_succ2 (n : Nat) : 2 ^ (n + 1) = 2 ^ n + 2 ^ n := by rw [Nat.pow_succ]; omega
section
variable {n m : Nat} {i j : Int}
theorem Sm.mono (h : Sm n i) (e : n ≤ m) : Sm m i := Nat.lt_of_lt_of_le h (pow_mono e)
theorem Sm.le (h : Sm n j) (e : i.natAbs ≤ j.natAbs) : Sm n i := Nat.lt_of_le_of_lt e h
theorem Sm.add (h : Sm n i) (g : Sm n j) : Sm (n + 1) (i + j) := by
  unfold Sm at *
  rw [pow_succ2]
  omega
theorem Sm.sub (h : Sm n i) (g : Sm n j) : Sm (n + 1) (i - j) := by
  unfold Sm at *
  rw [pow_succ2]
  omega
theorem Sm.neg (h : Sm n i) : Sm n (-i) := h.le (by omega)
theorem Sm.ab (h : Sm n i) : Sm n (ab i) := h.le (by rw [ab_natAbs]; omega)
theorem Sm.mul (h : Sm n i) (g : Sm m j) : Sm (n + m) (i * j) := by
  unfold Sm at *
  rw [Int.natAbs_mul, Nat.pow_add]
  exact Nat.mul_lt_mul'' h g
theorem Sm.lit (h : decide (i.natAbs < 2 ^ n) = true) : Sm n i := by unfold Sm; exact of_decide_eq_true h
theorem Sm.half (h : Sm n i) : Sm n (i / 2) := h.le (by omega)
theorem Sm.two (h : Sm n i) : Sm (n + 1) (2 * i) := by
  have z := h.add h
  rw [show i + i = 2 * i by omega] at z
  exact z
theorem Sm.nn (h : Sm n j) (h0 : 0 ≤ i) (e : i ≤ j) : Sm n i := h.le (by omega)
theorem Sm.mx (h : Sm n i) (g : Sm n j) : Sm n (mx i j) := by
  unfold AW.mx
  split
  · exact h
  · exact g
theorem Sm.mn (h : Sm n i) (g : Sm n j) : Sm n (mn i j) := by
  unfold AW.mn
  split
  · exact g
  · exact h
end
theorem Sm.ground {n : Nat} {x y a : Int} (hx : Sm n x) (hy : Sm n y) (ha : Sm n a) : Sm (n + n + 4) (AW.ground x y a) := by
  have h1 : Sm (n + n + 1) (2 * a) := (ha.mono (by omega)).two
  have h2 : Sm (n + n + 1) (x * y) := (hx.mul hy).mono (by omega)
  have h3 := (h1.sub h2).ab
  exact ((h3.add (h2.ab.mono (by omega))).mono (by omega)).half
theorem ground_nn (x y a : Int) : 0 ≤ AW.ground x y a := by
  unfold AW.ground
  have h1 := ab_nn (2 * a - x * y)
  have h2 := ab_nn (x * y)
  omega
theorem Sm.best {n : Nat} {a b k : Int} (ha : Sm n a) (hb : Sm n b) (hk : Sm n k) : Sm (n + 3) (bestSides a b k).1 ∧ Sm (n + 3) (bestSides a b k).2 := by
  have hs : Sm (n + 2) (a + b + k) := (ha.add hb).add (hk.mono (by omega))
  have ho : Sm (n + 2) 1 := Sm.le (j := 1) (n := n + 2) (by unfold Sm; exact Nat.lt_of_lt_of_le (by decide : (1 : Int).natAbs < 2 ^ 2) (pow_mono (by omega))) (by omega)
  unfold bestSides
  split
  · split
    · exact ⟨ha.mono (by omega), (hb.add hk).mono (by omega)⟩
    · exact ⟨(ha.add hk).mono (by omega), hb.mono (by omega)⟩
  · exact ⟨((hs.add ho).half).mono (by omega), hs.half.mono (by omega)⟩
/-! ### Newton's root -/
theorem amgm (a b : Int) : 4 * (a * b) ≤ (a + b) * (a + b) := by
  have h : 0 ≤ (a - b) * (a - b) := by
    by_cases q : 0 ≤ a - b
    · exact Int.mul_nonneg q q
    · have z := Int.mul_nonneg (show 0 ≤ -(a - b) by omega) (show 0 ≤ -(a - b) by omega)
      rw [Int.neg_mul_neg] at z
      exact z
  rw [Int.sub_mul, Int.mul_sub, Int.mul_sub] at h
  rw [Int.add_mul, Int.mul_add, Int.mul_add]
  have e := Int.mul_comm a b
  omega
theorem newton_up {n f : Int} (hf : 0 < f) (hn : 0 ≤ n) : n < ((f + n / f) / 2 + 1) * ((f + n / f) / 2 + 1) := by
  have hq : 0 ≤ n / f := Int.ediv_nonneg hn (by omega)
  have hr := Int.emod_lt_of_pos n hf
  have hd := Int.mul_ediv_add_emod n f
  have z := amgm f (n / f + 1)
  rw [Int.mul_add f, Int.mul_one] at z
  have w := sq_mono (show 0 ≤ f + (n / f + 1) by omega) (show f + (n / f + 1) ≤ 2 * ((f + n / f) / 2 + 1) by omega)
  rw [four_sq] at w
  omega
theorem newton_end {n f : Int} (hf : 0 < f) (h : f ≤ (f + n / f) / 2) : f * f ≤ n := by
  have hq : f ≤ n / f := by omega
  have hd := Int.mul_ediv_add_emod n f
  have hr := Int.emod_nonneg n (show f ≠ 0 by omega)
  have z := Int.mul_le_mul_of_nonneg_left hq (show 0 ≤ f by omega)
  omega
theorem newton_pos {n f : Int} (hf : 0 < f) (hn : 2 ≤ n) : 0 < (f + n / f) / 2 := by
  have h := newton_up hf (show 0 ≤ n by omega)
  have hq : 0 ≤ n / f := Int.ediv_nonneg (by omega) (by omega)
  by_cases q : 0 < (f + n / f) / 2
  · exact q
  · have e : (f + n / f) / 2 = 0 := by omega
    rw [e] at h
    omega
theorem newton_zero {n : Int} {b k : Nat} (h0 : 0 ≤ n) (hb : n.natAbs < 2 ^ b) (hk : b ≤ 2 * k) : n < ((2 : Int) ^ k + 1) * ((2 : Int) ^ k + 1) := by
  have h1 : n.natAbs < 2 ^ (2 * k) := Nat.lt_of_lt_of_le hb (pow_mono hk)
  rw [show 2 * k = k + k by omega, Nat.pow_add] at h1
  have e : ((2 : Int) ^ k) = ((2 ^ k : Nat) : Int) := (Int.natCast_pow 2 k).symm
  rw [e]
  have h2 : (n.natAbs : Int) < ((2 ^ k * 2 ^ k : Nat) : Int) := Int.ofNat_lt.mpr h1
  rw [Int.natCast_mul] at h2
  have h3 : (0 : Int) ≤ ((2 ^ k : Nat) : Int) := Int.natCast_nonneg _
  rw [Int.add_mul, Int.mul_add]
  omega
end AW
set_option maxRecDepth 100000
set_option maxHeartbeats 4000000
/-! reach.py: whole_root, best_sides, areas_of, steps_of -/
namespace AW
open PySem PySem.Spec PyProof.Rows L2
def spWholeRoot : Sp := fun vs H Q _ => ∃ n, vs = [.int n] ∧ 0 ≤ n ∧ Sm 8000 n ∧ ∀ r, 0 ≤ r → r * r ≤ n → n < (r + 1) * (r + 1) → Q (.int r) H
theorem bits_lt (n : Int) : n.natAbs < 2 ^ Builtin.Int.intBits n := by
  unfold Builtin.Int.intBits
  by_cases h : n = 0
  · subst h
    decide
  · have e : (n == 0) = false := by simpa using h
    rw [e]
    show n.natAbs < 2 ^ (n.natAbs.log2 + 1)
    exact Nat.lt_log2_self
theorem bits_le {n : Int} {b : Nat} (h : Sm b n) (hb : 0 < b) : Builtin.Int.intBits n ≤ b := by
  unfold Builtin.Int.intBits
  have z := PySem.Flt.log2_lt_of hb h
  split <;> omega
section
variable {P : Program} {w : World} {K : PySem.W.Frag} {mg : Str → Option Value} {base : Heap}
theorem ok_wholeRoot {f : Addr} {fd : FuncData} (O : Own K mg "whole_root" sWholeRoot ["number"] f fd) : FnOk P w K mg base CX0 1 f fd ["number"] spWholeRoot := by
  refine O.F.ok scWholeRoot (fun vs H Q E h => ?_) (fun cdv A outer s H vs Q E hr h => ?_)
  · obtain ⟨n, rfl, _⟩ := h
    rfl
  · obtain ⟨n, rfl, h0, hs, q⟩ := h
    refine ⟨_, pss_cons (ps_if (pt_cmpR op_lt (pv 0) pe_int (nomark _)) (pss_one (ps_ret (pv 0))) pss_nil)
      (pss_cons (ps_set (i := 1) scWholeRoot.nd rfl (.inl rfl) (pe_op op_oneShl pe_int (pe_op op_fdiv (pe_op op_add (pe_bits (pv 0)) pe_int) pe_int)))
      (pss_one (ps_while PassesOwn.never (pt_val pe_bl) (pss_cons (ps_set (i := 2) scWholeRoot.nd rfl (.inl rfl) (pe_op op_fdiv (pe_op op_add (pv 1) (pe_op op_fdivW (pv 0) (pv 1))) pe_int))
        (pss_cons (ps_if (pt_cmpR op_ge (pv 2) (pv 1) (nomark _)) (pss_one (ps_ret (pv 1))) pss_nil)
        (pss_one (ps_set (i := 1) scWholeRoot.nd rfl (.inl rfl) (pv 2)))))))), ?_⟩
    refine ⟨_, rfl, _, _, rfl, rfl, _, rfl, ite2 (fun e => ?_) (fun e => ?_)⟩
    · have e1 : n < 2 := of_decide_eq_true e
      have e2 : n = 0 ∨ n = 1 := by omega
      refine ⟨_, rfl, q n h0 ?_ ?_⟩ <;> rcases e2 with rfl | rfl <;> decide
    · have e1 : ¬ n < 2 := fun z => e (decide_eq_true z)
      have hb := bits_lt n
      have hl := bits_le hs (by omega)
      have hk : (((Builtin.Int.intBits n : Nat) : Int) + 1) / 2 = (((Builtin.Int.intBits n + 1) / 2 : Nat) : Int) := by omega
      refine ⟨_, rfl, n, rfl, _, _, rfl, rfl, _, _, rfl, rfl, ⟨by decide, by decide⟩, (Builtin.Int.intBits n + 1) / 2, rfl, congrArg V.int hk, by omega, ?_⟩
      have hf0 : (0 : Int) < 2 ^ ((Builtin.Int.intBits n + 1) / 2) := Int.pow_pos (by decide)
      have hfs : Sm 4001 ((2 : Int) ^ ((Builtin.Int.intBits n + 1) / 2)) := by
        unfold Sm
        rw [Int.natAbs_pow]
        exact Nat.lt_of_lt_of_le (Nat.pow_lt_pow_right (by decide) (Nat.lt_succ_self _)) (pow_mono (by omega))
      refine ⟨fun m σ H' => ∃ (f : Int) (l : Option V), σ = [some (.int n), some (.int f), l] ∧ H' = H ∧ 0 < f ∧ n < (f + 1) * (f + 1) ∧ Sm 4001 f ∧ m = f.toNat,
        ⟨_, _, none, rfl, rfl, hf0, newton_zero h0 hb (by omega), hfs, rfl⟩, fun m σ H' hW => ?_⟩
      obtain ⟨f, l, rfl, rfl, f0, fn, fs, rfl⟩ := hW
      refine ⟨true, rfl, iteT ⟨fun σ' H'' => ∃ (f' : Int), σ' = [some (.int n), some (.int f'), some (.int f')] ∧ H'' = H' ∧ 0 < f' ∧ f' < f ∧ n < (f' + 1) * (f' + 1) ∧ Sm 4001 f', fun σ' H'' hN => ?_, ?_⟩⟩
      · obtain ⟨f', rfl, rfl, a1, a2, a3, a4⟩ := hN
        exact ⟨f'.toNat, by omega, f', _, rfl, rfl, a1, a3, a4, rfl⟩
      · refine ⟨_, rfl, _, rfl, _, rfl, _, _, rfl, rfl, wide_div f0 fs (by omega) (by omega), _, _, rfl, rfl, _, _, rfl, rfl, ⟨by decide, by decide⟩, _, rfl, _, rfl, _, _, rfl, rfl, _, rfl, ite2 (fun e => ?_) (fun e => ?_)⟩
        · have e1 := of_decide_eq_true e
          exact ⟨_, rfl, q f (by omega) (newton_end f0 e1) fn⟩
        · have e1 : ¬ f ≤ (f + n / f) / 2 := fun z => e (decide_eq_true z)
          have p1 := newton_pos f0 (show 2 ≤ n by omega)
          exact ⟨_, rfl, _, rfl, rfl, p1, by omega, newton_up f0 h0, fs.nn (by omega) (by omega)⟩
end
end AW
set_option maxRecDepth 100000
set_option maxHeartbeats 4000000
/-! reach.py: best_sides, areas_of, steps_of -/
namespace AW
open PySem PySem.Spec PyProof.Rows L2
theorem same_new {H : Hp} {p : Addr} {o : HO} (h : H p = none) : Same H (upd H p o) := fun b x e => by
  rw [upd_ne (ne_of_none e h)]
  exact e
theorem mulS {i j : Int} {a b : Nat} (ha : Sm a i) (hb : Sm b j) (h : a + b ≤ 134217728) : CMulX i j := mulx_ok ha hb h
def spBest : Sp := fun vs H Q _ => ∃ x y k, vs = [.int x, .int y, .int k] ∧ ∀ p H', Same H H' → H p = none → H' p = some (.tup [.int (bestSides x y k).1, .int (bestSides x y k).2]) → Q (.ref p) H'
def spAreasOf : Sp := fun vs H Q _ => ∃ x y n, vs = [.int x, .int y, .int n] ∧ Sm 3000 x ∧ Sm 3000 y ∧ Sm 3000 n ∧ (areasOf x y n = none → Q .non H) ∧
  ∀ lo hi p H', areasOf x y n = some (lo, hi) → Same H H' → H p = none → H' p = some (.tup [.int lo, .int hi]) → Q (.ref p) H'
def spStepsOf : Sp := fun vs H Q _ => ∃ x y a, vs = [.int x, .int y, .int a] ∧ Sm 3000 x ∧ Sm 3000 y ∧ Sm 3000 a ∧ ∀ s H', Same H H' → StepsOk x y a s → Q (.int s) H'
section
variable {P : Program} {w : World} {K : PySem.W.Frag} {mg : Str → Option Value} {base : Heap}
theorem ok_best {f : Addr} {fd : FuncData} (O : Own K mg "best_sides" sBestSides ["x", "y", "extra"] f fd) (T : Blt mg) : FnOk P w K mg base CX0 1 f fd ["x", "y", "extra"] spBest := by
  refine O.F.ok scBestSides (fun vs H Q E h => ?_) (fun cdv A outer s H vs Q E hr h => ?_)
  · obtain ⟨x, y, k, rfl, _⟩ := h
    rfl
  · obtain ⟨x, y, k, rfl, q⟩ := h
    refine ⟨_, pss_cons (ps_if (pt_cmpR op_le (pv 2) (pe_callB call_abs (by rfl) T.abs (by decide +kernel) (pa_cons (pe_op op_sub (pv 0) (pv 1)) pa_nil)) (nomark _))
        (pss_one (ps_ret (pe_ifExp (pt_cmpR op_ge (pv 0) (pv 1) (nomark _)) (pe_tup (pa_cons (pv 0) (pa_cons (pe_op op_add (pv 1) (pv 2)) pa_nil))) (pe_tup (pa_cons (pe_op op_add (pv 0) (pv 2)) (pa_cons (pv 1) pa_nil)))))) pss_nil)
      (pss_one (ps_ret (pe_tup (pa_cons (pe_op op_fdiv (pe_op op_add (pe_op op_add (pe_op op_add (pv 0) (pv 1)) (pv 2)) pe_int) pe_int) (pa_cons (pe_op op_fdiv (pe_op op_add (pe_op op_add (pv 0) (pv 1)) (pv 2)) pe_int) pa_nil))))), ?_⟩
    refine ⟨_, rfl, _, rfl, _, rfl, _, _, rfl, rfl, _, rfl, _, _, rfl, rfl, _, rfl, ite2 (fun e => ?_) (fun e => ?_)⟩
    · have e1 : k ≤ ab (x - y) := of_decide_eq_true e
      refine ⟨_, rfl, _, rfl, _, _, rfl, rfl, _, rfl, ite2 (fun g => ?_) (fun g => ?_)⟩
      · have g1 : x ≥ y := of_decide_eq_true g
        have eb : bestSides x y k = (x, y + k) := by unfold bestSides; rw [if_pos e1, if_pos g1]
        refine ⟨_, rfl, _, rfl, _, rfl, _, _, rfl, rfl, by show 2 ≤ sizeLine; decide, fun t ht => ?_⟩
        exact q t _ (same_new ht) ht (by rw [eb]; exact upd_same)
      · have g1 : ¬ x ≥ y := fun z => g (decide_eq_true z)
        have eb : bestSides x y k = (x + k, y) := by unfold bestSides; rw [if_pos e1, if_neg g1]
        refine ⟨_, rfl, _, rfl, _, _, rfl, rfl, _, rfl, by show 2 ≤ sizeLine; decide, fun t ht => ?_⟩
        exact q t _ (same_new ht) ht (by rw [eb]; exact upd_same)
    · have e1 : ¬ k ≤ ab (x - y) := fun z => e (decide_eq_true z)
      have eb : bestSides x y k = ((x + y + k + 1) / 2, (x + y + k) / 2) := by unfold bestSides; rw [if_neg e1]
      refine ⟨_, rfl, _, rfl, _, _, rfl, rfl, _, rfl, _, _, rfl, rfl, _, _, rfl, rfl, _, _, rfl, rfl, ⟨by decide, by decide⟩, _, rfl, _, rfl, _, _, rfl, rfl, _, rfl, _, _, rfl, rfl, _, _, rfl, rfl, ⟨by decide, by decide⟩, by show 2 ≤ sizeLine; decide, fun t ht => ?_⟩
      exact q t _ (same_new ht) ht (by rw [eb]; exact upd_same)
theorem ok_areasOf {f : Addr} {fd : FuncData} (O : Own K mg "areas_of" sAreasOf ["x", "y", "number"] f fd) (T : Blt mg) (C : Cal P w K mg base CX0 "best_sides" ["x", "y", "extra"] 1 spBest) : FnOk P w K mg base CX0 2 f fd ["x", "y", "number"] spAreasOf := by
  refine O.F.ok scAreasOf (fun vs H Q E h => ?_) (fun cdv A outer s H vs Q E hr h => ?_)
  · obtain ⟨x, y, k, rfl, _⟩ := h
    rfl
  · obtain ⟨x, y, n, rfl, sx, sy, sn, q0, q⟩ := h
    refine ⟨_, pss_cons (ps_set (i := 3) scAreasOf.nd rfl (.inl rfl) (pe_op op_sub (pe_op op_sub (pv 2) (pe_callB call_abs (by rfl) T.abs (by decide +kernel) (pa_cons (pv 0) pa_nil))) (pe_callB call_abs (by rfl) T.abs (by decide +kernel) (pa_cons (pv 1) pa_nil))))
      (pss_cons (ps_if (PW.pt (pw_or (pt_cmpR op_lt (pv 3) pe_int (nomark _)) (pw_or1 (pt_cmpR op_eq (pe_op op_mod (pv 3) pe_int) pe_int (nomark _))))) (pss_one (ps_ret pe_non)) pss_nil)
      (pss_cons (ps_asg (pe_cal C hr pass0 (pa_cons (pe_callB call_abs (by rfl) T.abs (by decide +kernel) (pa_cons (pv 0) pa_nil)) (pa_cons (pe_callB call_abs (by rfl) T.abs (by decide +kernel) (pa_cons (pv 1) pa_nil)) (pa_cons (pe_op op_fdiv (pv 3) pe_int) pa_nil))))
          (pg_tup (by rfl) (pgs_cons (pg_name (i := 4) scAreasOf.nd rfl (.inl rfl)) (pgs_cons (pg_name (i := 5) scAreasOf.nd rfl (.inl rfl)) pgs_nil))))
      (pss_cons (ps_set (i := 6) scAreasOf.nd rfl (.inl rfl) (pe_op op_sub (pe_op op_mulX (pe_op op_mulX pe_int (pv 4)) (pv 5)) (pe_callB call_abs (by rfl) T.abs (by decide +kernel) (pa_cons (pe_op op_mulX (pv 0) (pv 1)) pa_nil))))
      (pss_one (ps_ret (pe_tup (pa_cons (pe_op op_fdiv (pe_op op_sub (pe_op op_mulX (pv 0) (pv 1)) (pv 6)) pe_int) (pa_cons (pe_op op_fdiv (pe_op op_add (pe_op op_mulX (pv 0) (pv 1)) (pv 6)) pe_int) pa_nil)))))))), ?_⟩
    refine ⟨_, rfl, _, rfl, _, rfl, _, _, rfl, rfl, _, rfl, _, rfl, _, _, rfl, rfl, ?_⟩
    have sw : Sm 3002 (n - ab x - ab y) := ((sn.sub sx.ab).sub (sy.ab.mono (by omega)))
    have sb := Sm.best (n := 3002) (sx.ab.mono (by omega)) (sy.ab.mono (by omega)) (sw.half)
    have body : (¬ (n - ab x - ab y < 0 ∨ (n - ab x - ab y) % 2 = 1)) → areasOf x y n = some ((x * y - span x y n) / 2, (x * y + span x y n) / 2) := fun z => by unfold areasOf; rw [if_neg z]
    refine ⟨_, rfl, _, _, rfl, rfl, _, rfl, ite2 (fun e => ?_) (fun e => ?_)⟩
    · have e1 : n - ab x - ab y < 0 := of_decide_eq_true e
      refine iteT ?_
      exact q0 (by unfold areasOf; rw [if_pos (.inl e1)])
    · have e1 : ¬ n - ab x - ab y < 0 := fun z => e (decide_eq_true z)
      refine ⟨_, rfl, _, _, rfl, rfl, (by show (0 : Int) < 2; decide), rfl, _, rfl, ite2 (fun g => ?_) (fun g => ?_)⟩
      · have g1 : (n - ab x - ab y) % 2 = 1 := V.int.inj (of_decide_eq_true g)
        exact q0 (by unfold areasOf; rw [if_pos (.inr g1)])
      · have g1 : ¬ (n - ab x - ab y) % 2 = 1 := fun z => g (decide_eq_true (congrArg V.int z))
        have ea := body fun z => z.elim e1 g1
        refine ⟨_, rfl, _, rfl, _, rfl, _, rfl, _, rfl, _, _, rfl, rfl, ⟨by decide, by decide⟩, _, _, _, rfl, fun p H1 s1 n1 h1 => ?_⟩
        refine ⟨p, _, rfl, .inl (.inl h1), rfl, _, _, rfl, _, _, rfl, rfl, ?_⟩
        refine ⟨_, rfl, _, _, rfl, rfl, mulS (a := 2) (b := 3005) (.lit (by decide)) sb.1 (by decide), _, rfl, _, _, rfl, rfl, mulS (a := 3007) (b := 3005) (Sm.mul (n := 2) (.lit (by decide)) sb.1) sb.2 (by decide),
          _, rfl, _, rfl, _, _, rfl, rfl, mulS sx sy (by decide), _, rfl, _, _, rfl, rfl, ?_⟩
        refine ⟨_, rfl, _, rfl, _, _, rfl, rfl, mulS sx sy (by decide), _, rfl, _, _, rfl, rfl, _, _, rfl, rfl, ⟨by decide, by decide⟩, _, rfl, _, rfl, _, _, rfl, rfl, mulS sx sy (by decide), _, rfl, _, _, rfl, rfl, _, _, rfl, rfl, ⟨by decide, by decide⟩,
          by show 2 ≤ sizeLine; decide, fun t ht => ?_⟩
        exact q _ _ t _ ea (s1.trans (same_new ht)) (s1.free ht) upd_same
theorem ok_stepsOf {f : Addr} {fd : FuncData} (O : Own K mg "steps_of" sStepsOf ["x", "y", "area"] f fd) (T : Blt mg) (C : Cal P w K mg base CX0 "whole_root" ["number"] 1 spWholeRoot) : FnOk P w K mg base CX0 2 f fd ["x", "y", "area"] spStepsOf := by
  refine O.F.ok scStepsOf (fun vs H Q E h => ?_) (fun cdv A outer s H vs Q E hr h => ?_)
  · obtain ⟨x, y, a, rfl, _⟩ := h
    rfl
  · obtain ⟨x, y, a, rfl, sx, sy, sa, q⟩ := h
    refine ⟨_, pss_cons (ps_set (i := 3) scStepsOf.nd rfl (.inl rfl) (pe_op op_fdiv (pe_op op_add (pe_callB call_abs (by rfl) T.abs (by decide +kernel) (pa_cons (pe_op op_sub (pe_op op_mulX pe_int (pv 2)) (pe_op op_mulX (pv 0) (pv 1))) pa_nil))
        (pe_callB call_abs (by rfl) T.abs (by decide +kernel) (pa_cons (pe_op op_mulX (pv 0) (pv 1)) pa_nil))) pe_int))
      (pss_cons (ps_par (i := 0) (j := 1) (by rfl) scStepsOf.nd rfl rfl (by decide) rfl rfl (pa_cons (pe_callB call_abs (by rfl) T.abs (by decide +kernel) (pa_cons (pv 0) pa_nil)) (pa_cons (pe_callB call_abs (by rfl) T.abs (by decide +kernel) (pa_cons (pv 1) pa_nil)) pa_nil)) (by rfl))
      (C8.pss_cut (ps_asg (pe_ifExp (pt_cmpR op_ge (pv 0) (pv 1) (nomark _)) (pe_tup (pa_cons (pv 0) (pa_cons (pv 1) pa_nil))) (pe_tup (pa_cons (pv 1) (pa_cons (pv 0) pa_nil))))
          (pg_tup (by rfl) (pgs_cons (pg_name (i := 4) scStepsOf.nd rfl (.inl rfl)) (pgs_cons (pg_name (i := 5) scStepsOf.nd rfl (.inl rfl)) pgs_nil))))
      (pss_cons (ps_if (pt_cmpR op_le (pv 3) (pe_op op_mulX (pv 4) (pv 5)) (nomark _)) (pss_one (ps_ret (pe_op op_add (pv 4) (pv 5)))) pss_nil)
      (pss_cons (ps_if (pt_cmpR op_le (pv 3) (pe_op op_mulX (pv 4) (pv 4)) (nomark _)) (pss_one (ps_ret (pe_op op_sub (pe_op op_add (pe_op op_mulX pe_int (pe_un un_neg (pe_op op_fdivW (pe_un un_neg (pv 3)) (pv 4)))) (pv 4)) (pv 5)))) pss_nil)
      (pss_cons (ps_set (i := 6) scStepsOf.nd rfl (.inl rfl) (pe_cal C hr pass0 (pa_cons (pe_op op_mulX pe_int (pv 3)) pa_nil)))
      (pss_one (ps_ret (pe_op op_sub (pe_op op_sub (pe_op op_mulX pe_int (pe_ifExp (pt_cmpR op_eq (pe_op op_mulX (pv 6) (pv 6)) (pe_op op_mulX pe_int (pv 3)) (nomark _)) (pv 6) (pe_op op_add (pv 6) pe_int))) (pv 4)) (pv 5))))))))), ?_⟩
    have sg : Sm 6004 (ground x y a) := Sm.ground sx sy sa
    have g0 := ground_nn x y a
    have smx := Sm.mx sx.ab sy.ab
    have smn := Sm.mn sx.ab sy.ab
    have hm := mx_mn (ab x) (ab y)
    have hl0 : 0 ≤ mn (ab x) (ab y) := by
      have h1 := ab_nn x
      have h2 := ab_nn y
      unfold mn
      split <;> omega
    refine ⟨_, rfl, _, _, rfl, rfl, mulS (a := 2) (b := 3000) (.lit (by decide)) sa (by decide), _, rfl, _, rfl, _, _, rfl, rfl, mulS sx sy (by decide), _, _, rfl, rfl, _, rfl, _, rfl, _, rfl, _, _, rfl, rfl, mulS sx sy (by decide), _, rfl, _, _, rfl, rfl, _, _, rfl, rfl, ⟨by decide, by decide⟩, ?_⟩
    refine ⟨_, rfl, _, rfl, _, rfl, _, rfl, _, _, rfl, ?_⟩
    refine ⟨fun σ' H' => σ' = [some (.int (ab x)), some (.int (ab y)), some (.int a), some (.int (ground x y a)), some (.int (mx (ab x) (ab y))), some (.int (mn (ab x) (ab y))), none] ∧ Same H H', ?_, ?_⟩
    · refine ⟨_, rfl, _, rfl, _, _, rfl, rfl, _, rfl, ite2 (fun e => ?_) (fun e => ?_)⟩
      · have e1 : ab x ≥ ab y := of_decide_eq_true e
        have em : mx (ab x) (ab y) = ab x := if_pos e1
        have el : mn (ab x) (ab y) = ab y := if_pos e1
        refine ⟨_, rfl, _, rfl, by show 2 ≤ sizeLine; decide, fun t ht => ⟨t, _, rfl, .inl (.inl upd_same), rfl, _, _, rfl, _, _, rfl, rfl, ?_, same_new ht⟩⟩
        rw [em, el]
        rfl
      · have e1 : ¬ ab x ≥ ab y := fun z => e (decide_eq_true z)
        have em : mx (ab x) (ab y) = ab y := if_neg e1
        have el : mn (ab x) (ab y) = ab x := if_neg e1
        refine ⟨_, rfl, _, rfl, by show 2 ≤ sizeLine; decide, fun t ht => ⟨t, _, rfl, .inl (.inl upd_same), rfl, _, _, rfl, _, _, rfl, rfl, ?_, same_new ht⟩⟩
        rw [em, el]
        rfl
    · rintro σ' H' ⟨rfl, s1⟩
      have q := fun s => q s H' s1
      unfold StepsOk at q
      generalize mx (ab x) (ab y) = m at *
      generalize mn (ab x) (ab y) = l at *
      generalize ground x y a = g at *
      refine ⟨_, rfl, _, rfl, _, rfl, _, _, rfl, rfl, mulS smx smn (by decide), _, _, rfl, rfl, _, rfl, ite2 (fun e => ?_) (fun e => ?_)⟩
      · have e1 : g ≤ m * l := of_decide_eq_true e
        exact ⟨_, rfl, _, rfl, _, _, rfl, rfl, q _ (steps_one hl0 hm.2.1 g0 e1)⟩
      · have e1 : ¬ g ≤ m * l := fun z => e (decide_eq_true z)
        refine ⟨_, rfl, _, rfl, _, rfl, _, _, rfl, rfl, mulS smx smx (by decide), _, _, rfl, rfl, _, rfl, ite2 (fun e' => ?_) (fun e' => ?_)⟩
        · have e2 : g ≤ m * m := of_decide_eq_true e'
          have mp : 0 < m := by
            by_cases z : 0 < m
            · exact z
            · have z1 : m = 0 := by omega
              have z2 : l = 0 := by omega
              subst z1
              subst z2
              omega
          have sc : Sm 6004 (-(-g / m)) := ((sg.neg).le (Int.natAbs_ediv_le_natAbs (-g) m)).neg
          refine ⟨_, rfl, _, rfl, _, rfl, _, _, rfl, rfl, wide_div mp smx (by decide) (by decide), _, rfl, _, _, rfl, rfl, mulS (a := 2) (b := 6004) (.lit (by decide)) sc (by decide), _, rfl, _, _, rfl, rfl, _, rfl, _, _, rfl, rfl, q _ (steps_two hl0 hm.2.1 e1 e2 rfl)⟩
        · have e2 : ¬ g ≤ m * m := fun z => e' (decide_eq_true z)
          have s4 : Sm 6007 (4 * g) := Sm.mul (n := 3) (i := 4) (.lit (by decide)) sg
          refine ⟨_, rfl, _, _, rfl, rfl, mulS (a := 3) (b := 6004) (.lit (by decide)) sg (by decide), 4 * g, rfl, by omega, s4.mono (by decide), fun r r0 r1 r2 => ?_⟩
          have rr : r ≤ r * r := by
            by_cases z : r = 0
            · subst z
              decide
            · have w := Int.mul_le_mul_of_nonneg_left (show 1 ≤ r by omega) r0
              omega
          have sr : Sm 6007 r := s4.nn r0 (by omega)
          have fin := steps_three hl0 hm.2.1 e2 (ceil_of r0 r1 r2)
          refine ⟨_, rfl, _, rfl, _, _, rfl, rfl, mulS sr sr (by decide), _, rfl, _, _, rfl, rfl, mulS (a := 3) (b := 6004) (.lit (by decide)) sg (by decide), rfl, _, rfl, ite2 (fun e3 => ?_) (fun e3 => ?_)⟩
          · have e4 : r * r = 4 * g := V.int.inj (of_decide_eq_true e3)
            rw [if_pos e4] at fin
            exact ⟨_, rfl, _, _, rfl, rfl, mulS (a := 2) (b := 6007) (.lit (by decide)) sr (by decide), _, rfl, _, _, rfl, rfl, _, rfl, _, _, rfl, rfl, q _ fin⟩
          · have e4 : ¬ r * r = 4 * g := fun z => e3 (decide_eq_true (congrArg V.int z))
            rw [if_neg e4] at fin
            have sr1 : Sm 6008 (r + 1) := sr.add (Sm.le (j := 1) (.lit (by decide +kernel)) (by omega))
            exact ⟨_, rfl, _, _, rfl, rfl, _, _, rfl, rfl, mulS (a := 2) (b := 6008) (.lit (by decide)) sr1 (by decide), _, rfl, _, _, rfl, rfl, _, rfl, _, _, rfl, rfl, q _ fin⟩
end
end AW
set_option maxRecDepth 100000
set_option maxHeartbeats 4000000
/-! BadNumber: an own error two classes above ValueError whose __init__ says super().__init__(value), then self.value = value -/
namespace AW
open PySem PySem.Spec PyProof.Rows L2
open PySem.W (Frag nsIn findIn typeIn subIn mroIn codeIn keepIn clsIn exmOne hasDictIn alongIn ksFn ksEnv kxs_mw)
open PySem.HandSPX (excO refsVE)
/-- what the top has written of BadNumber, at C, and of its __init__, at fI -/
structure BnTxt (P : Program) (K : Frag) (mg : Str → Option Value) (C fI : Addr) : Prop where
  gC : mg "BadNumber" = some (.ref C)
  cls : ∃ nm q N bs bm sn sub ab col dd k0 k1 k2 k3 k5, K.lookup C = some (excClassObj nm q C N bs bm true sn sub ab col dd k0 k1 k2 k3 k5 "ValueError.__new__") ∧ refsVE bm = true ∧ alongIn K "__init__" bm = some (some (.builtin "ValueError.__init__"))
  sa : findIn K (.ref C) "__setattr__" = some (some (.builtin "object.__setattr__"))
  ga : findIn K (.ref C) "__getattribute__" = some (some (.builtin "BaseException.__getattribute__"))
  gg : findIn K (.ref C) "__getattr__" = some none
  noV : findIn K (.ref C) "value" = some none
  iC : findIn K (.ref C) "__init__" = some (some (.ref fI))
  tC : typeIn K (.ref fI) = some (.type "function")
  kC : keepIn K (.ref C) = true
  exC : subIn K (.ref C) (.type "BaseException") = some true
  veC : subIn K (.ref C) (.type "ValueError") = some true
  tyC : typeIn K (.ref C) = some (.type "type")
  hdC : hasDictIn K C = true
  te : exmOne K (.ref C) (.ref C) = some true
  any3 : nsIn K cStatics "thirdparty.any" = some none
  noS : mg "super" = none
  fn : ∃ (oc : Value) (od : Option Addr) (kV doc pm ct : Value) (an : Option Addr) (osl : Array (Option Value)) (cda cc : Addr) (ccl cl : Value) (cdd cld : Option Addr) (ccs csl : Array (Option Value)) (vs : Array Value) (file : Str) (tf : Tok),
    K.lookup fI = some ⟨oc, od, .func (ksFn "__init__" "BadNumber.__init__" (defArgs sBnInit) (defBody sBnInit) (defScope sBnInit) .none kV doc pm an (.ref cda) ct cc), osl⟩ ∧ codeIn K (.ref cda) "BadNumber.__init__" = true ∧
    K.lookup cda = some ⟨ccl, cdd, .fields vs, ccs⟩ ∧ vs[2]? = some (.str file tf) ∧ ((P.main.file : Str) == file) = true ∧ K.lookup cc = some ⟨cl, cld, .cell (some (.ref C)), csl⟩
/-- the file's own top has no name super -/
def NoSup (P : Program) : Prop := (P.main.scope.names.lookup ("super" : Str)).isSome = false
/-- what __init__ leaves of a fresh error at x -/
structure BnEnd (h h' : Heap) (x C dx : Addr) (v : Value) : Prop where
  keep : ∀ b o, b ≠ x → h.get? b = some o → h'.get? b = some o
  obj : ∃ t1 : Addr, h'.get? x = some { cls := .ref C, dict := some dx, data := .fields #[.ref t1, .none, .none, .none, .bool false, .none] }
  dbig : h.objs.size ≤ dx
  dne : dx ≠ x
  ns : h'.Ns1 dx (fun y => if y = "value" then some v else none)
section
variable {prog : Program} {w : World} {A : Around} {E : Value → Shared → Prop} {R : Result → Shared → Prop} {K : Frag} {mg : Str → Option Value} {C fI : Addr}
/-- ValueError.__init__ bound to a fresh error, called: only its args are laid anew -/
theorem mw_call {hp : Heap} {g : Array GenState} {d : Drawn} {t : Nat} {os : OsState} {nm q : Str} {N u x t0 : Addr} {bs bm : List Value} {sn : List Str} {sub : List Value} {ab : Bool} {col : Option Bool} {dd : Option Addr} {k0 k1 k2 k3 k5 : Option Value} {rest : List Value} {Q : Value → Shared → Prop}
    (hC : hp.get? C = some (excClassObj nm q C N bs bm true sn sub ab col dd k0 k1 k2 k3 k5 "ValueError.__new__")) (he : hp.get? x = some (excO C t0)) (hu : hp.get? u = some (kxs_mw "ValueError.__init__" x)) (hl : rest.length ≤ sizeLine)
    (hq : ∀ h' t1, (∀ b o, b ≠ x → hp.get? b = some o → h'.get? b = some o) → h'.get? x = some (excO C t1) → Q .none ⟨h', g, d, t, os⟩) :
    wpAny (model prog w) A (call (.ref u) rest) Q E ⟨hp, g, d, t, os⟩ := by
  refine wpAny_call (codeAny_of_tree ?_)
  show wpAny _ A.in1 (callAny (.ref u) ⟨rest, []⟩) _ _ _
  simp only [callAny]
  refine wpAny_bind (wpAny_load hu ?_)
  simp only [kxs_mw, show (Value.type "method-wrapper" == Value.type "method" || Value.type "method-wrapper" == Value.type "builtin_function_or_method" || Value.type "method-wrapper" == Value.type "method-wrapper") = true by decide, if_true]
  refine PySem.W.KFB.if_so (by decide) ?_
  refine wpAny_bind (PySem.W.check_bound_init PySem.F.excBase_ValueError.toExcCallFacts hC he rfl ?_)
  refine wpAny_bind (wpAny_pure (wpAny_pure ?_))
  refine ⟨plainId_quiet PySem.F.excBase_ValueError.init.plain _, codeAny_builtin PySem.F.excBase_ValueError.initEntry ?_⟩
  exact PySem.W.exc_init_tree (cls := .ref C) (t0 := t0) (dv := none) (c2 := .none) (c3 := .none) (b4 := .bool false) he hl fun h' k e' _ => hq h' _ k e'
theorem bn_cell : ∀ y ∈ (defScope sBnInit).names, y.2 ≠ .cell := by decide +kernel
theorem bn_loc (a b : Value) : ∀ y ∈ ([("self", a), ("value", b)] : List (Str × Value)), (defScope sBnInit).names.lookup y.1 = some .local := fun y hy => by
  rcases List.mem_cons.mp hy with rfl | hy
  · rfl
  · rcases List.mem_cons.mp hy with rfl | hy
    · rfl
    · cases hy
theorem nm_local {M : Model} {s : Shared} {env : Env} {m : Str → Option Value} {x : Str} {pos : Pos} {v : Value} {Q : Value → Shared → Prop} (hn : s.heap.Ns env.locals m) (hv : m x = some v) (h : Q v s)
    (hk : env.scope.kind = .function := by rfl) (hl : env.kindOf x = some .local := by rfl) (hd : (x == ("__debug__" : Str)) = false := by decide) : wpAny M A (eval (.Name x pos) env) Q E s := wpAny_Name (wpAny_loadName_local hk hl hn hv h) hd
/-- BadNumber.__init__, called for a fresh error at x -/
theorem bn_init {base : Heap} {s : Shared} {x t0 : Addr} {v : Value} (T : BnTxt prog K mg C fI) (hns : NoSup prog) (M : Mod K mg base) (hb : ∀ b o, base.get? b = some o → s.heap.get? b = some o) (hx : s.heap.get? x = some (excO C t0)) (hnx : K.lookup x = none) (hroom : A.depth < recursionLimit)
    (hq : ∀ h' tk dx, BnEnd s.heap h' x C dx v → R (.ok (.ret .none)) { s with heap := h', toks := tk }) :
    codeAny (model prog w) A (.call (.ref fI) ⟨[.ref x, v], []⟩) R s := by
  obtain ⟨oc, od, kV, doc, pm, ct, an, osl, cda, cc, ccl, cl, cdd, cld, ccs, csl, vs, file, tf, ho, hcd, hcode, hvs, hfile, hcell⟩ := T.fn
  obtain ⟨nm, q, N, bs, bm, sn, sub, ab, col, dd, k0, k1, k2, k3, k5, hC, hbm, hal⟩ := T.cls
  have hcl : clsIn K C = some { name := nm, bases := bs, mro := .ref C :: bm, ns := N, qualname := q, hasDict := true, slotNames := sn, subclasses := sub, abstract := ab, collection := col, hasDel := false } := by unfold PySem.W.clsIn; rw [hC] <;> rfl
  have X : K.In s.heap := M.kin.keeps hb
  obtain ⟨mb, hbn, hbb⟩ := M.blt
  have hsub : mroIn K C (.ref C) = some true := by
    unfold PySem.W.mroIn
    rw [hcl, Option.bind_some, if_neg (show ¬ (List.isEmpty (Value.ref C :: bm) = true) from Bool.false_ne_true), List.contains_cons]
    simp
  refine ks_codeAny_call_defAt (fd := ksFn "__init__" "BadNumber.__init__" (defArgs sBnInit) (defBody sBnInit) (defScope sBnInit) .none kV doc pm an (.ref cda) ct cc) (body := defBody sBnInit) (binds := [("self", .ref x), ("value", v)]) hroom (X _ _ ho) rfl (M.nolimit.keeps hb)
    (PySem.W.codeRec_of X hcd) rfl (BindsTo.of_eq (by first | rfl | with_unfolding_all rfl)) bn_cell (bn_loc (.ref x) v) (fun h₁ hn1 kp1 => ?_) rfl rfl rfl
  have X1 : K.In h₁ := X.keeps kp1
  have hx1 := kp1 _ _ hx
  have hb1 : ∀ b o, base.get? b = some o → h₁.get? b = some o := fun b o e => kp1 _ _ (hb b o e)
  refine ks_wpAt_execs_cons (ks_wpAt_Expr_any (ks_wpAt_MethodCall ?_))
  refine ks_wpAt_super_base rfl rfl rfl rfl (X1 _ _ ho) rfl rfl rfl (X1 _ _ hcode) rfl hvs hfile hns ?_
  refine PySem.W.ks_loadName_global rfl rfl (Calls.loadGlobal_builtin (M.glob.keeps hb1) T.noS (hbn.keeps hb1) ((hbb _ (by decide +kernel)).trans (by first | rfl | decide +kernel | kernel_rfl)) ⟨rfl, ?_⟩)
  refine wpAny_loadName_free rfl rfl rfl ⟨_, X1 _ _ hcell, rfl⟩ ?_
  refine wpAny_loadName_local rfl rfl hn1 (by first | rfl | with_unfolding_all rfl) ?_
  refine ks_wpAny_isType_cls (X1 _ _ hC) rfl ⟨rfl, ?_⟩
  refine ks_wpAny_call_super (X1 _ _ hC) rfl hx1 rfl (fun c e => by cases e) (PySem.W.looks_mroIn X1 hsub) (fun h2 e2 kp2 => ?_)
  have X2 : K.In h2 := X1.keeps kp2
  have hxC : x ≠ C := fun z => by
    rw [z, hC] at hnx
    cases hnx
  have I2 : PySem.W.InstAt h2 x (excO C t0) C none := ⟨kp2 _ _ hx1, rfl, rfl, trivial⟩
  refine PySem.W.kxs_getMethod PySem.W.kxs_ValueError e2 (PySem.W.looks_opaque X2 T.any3) (l₀ := .ref C :: bm) ((PySem.W.looks_clsIn X2 hcl).andThen .now) (l := bm) (by simp [List.dropWhile_cons]) X2 hal (I2.type.andThen (PySem.W.looks_subIn X2 T.veC)) hxC (by decide) ?_
  have kp3 : ∀ b o, h2.get? b = some o → (h2.push (kxs_mw "ValueError.__init__" x)).get? b = some o := fun b o e => Heap.get?_push_of_some _ e
  have kp13 : ∀ b o, h₁.get? b = some o → (h2.push (kxs_mw "ValueError.__init__" x)).get? b = some o := fun b o e => kp3 _ _ (kp2 _ _ e)
  have hn3 := hn1.keeps kp13
  refine PySem.W.kxs_callWith (i := "ValueError.__init__") (x := x) (by rfl) (Calls.evalArgs_plain (Calls.spliced_cons (nm_local hn3 (by first | rfl | with_unfolding_all rfl) (Calls.spliced_nil ⟨Heap.get?_push_size _ rfl, ?_⟩))))
  refine mw_call (kp3 _ _ (X2 _ _ hC)) (kp3 _ _ (kp2 _ _ hx1)) (Heap.get?_push_size _ rfl) (by show 1 ≤ sizeLine; decide) (fun h4 t1 kp4 hx4 => ?_)
  have hLx : s.heap.objs.size ≠ x := Nat.ne_of_gt (Heap.lt_size hx)
  have hn4 := hn3.at fun o e => kp4 _ o hLx e
  have kp04 : ∀ b o, b ≠ x → s.heap.get? b = some o → h4.get? b = some o := fun b o nb e => kp4 _ _ nb (kp13 _ _ (kp1 _ _ e))
  have X4 : K.In h4 := fun b o e => kp4 _ _ (fun z => by rw [z, hnx] at e; cases e) (kp13 _ _ (X1 _ _ e))
  refine PySem.wpAt_of_wpAny (wpAny_execs_cons (plainObj_wpAny_Assign_Attribute (nm_local hn4 (by first | rfl | with_unfolding_all rfl) (nm_local hn4 (by first | rfl | with_unfolding_all rfl) ?_))))
  refine PySem.W.set_plain X4 (ox := excO C t1) (od := none) ⟨hx4, rfl, rfl, trivial⟩ T.sa ?_
  refine PySem.HandSPX.exc_osa X4 hx4 hcl (show refsVE (.ref C :: bm) = true from hbm) rfl T.noV (fun h5 tk5 dx kp5 dn dne hx5 hn5 => ?_)
  show wpAny _ _ (execs _ _) _ _ _
  have z1 : s.heap.objs.size < h4.objs.size := hn4.lt
  exact wpAny_execs_nil (hq h5 tk5 dx ⟨fun b o nb e => kp5 _ _ nb (kp04 _ _ nb e), ⟨t1, hx5⟩, Nat.le_of_lt (Nat.lt_of_lt_of_le z1 dn), dne, hn5⟩)
end
end AW
set_option maxRecDepth 100000
set_option maxHeartbeats 4000000
/-! BadNumber raised, caught, its value read -/
namespace AW
open PySem PySem.Spec PyProof.Rows L2
open PySem.W (Frag nsIn findIn typeIn subIn mroIn codeIn keepIn clsIn exmOne hasDictIn alongIn ksFn ksEnv kxs_mw)
open PySem.HandSPX (excO refsVE)
theorem bn_one (v : Value) : [v].length ≤ sizeLine := by
  show 1 ≤ sizeLine
  decide
/-- a made BadNumber -/
structure BnMade (h h' : Heap) (e C d : Addr) (v : Value) : Prop where
  keep : ∀ b o, h.get? b = some o → h'.get? b = some o
  new : h.objs.size ≤ e
  obj : ∃ oe vs, h'.get? e = some oe ∧ oe.cls = .ref C ∧ oe.dict = some d ∧ oe.data = .fields vs ∧ vs[1]? = some .none
  dbig : h.objs.size ≤ d
  dne : d ≠ e
  ns : h'.Ns1 d (fun y => if y = "value" then some v else none)
section
variable {prog : Program} {w : World} {A : Around} {E : Value → Shared → Prop} {R : Result → Shared → Prop} {K : Frag} {mg : Str → Option Value} {C fI : Addr}
theorem bn_made {base : Heap} {s : Shared} {v : Value} (T : BnTxt prog K mg C fI) (hns : NoSup prog) (M : Mod K mg base) (hb : ∀ b o, base.get? b = some o → s.heap.get? b = some o) (hroom : A.depth + 1 < recursionLimit)
    (hq : ∀ h' tk e d, BnMade s.heap h' e C d v → R (.ok (.ret (.ref e))) { s with heap := h', toks := tk }) :
    codeAny (model prog w) A (.call (.ref C) ⟨[v], []⟩) R s := by
  obtain ⟨nm, q, N, bs, bm, sn, sub, ab, col, dd, k0, k1, k2, k3, k5, hC, hbm, _⟩ := T.cls
  obtain ⟨hp, g, dr, tk, os⟩ := s
  have X : K.In hp := M.kin.keeps hb
  have kp : ∀ b o, hp.get? b = some o → ((hp.push (PySem.W.kdv_tup [v])).push (excO C hp.objs.size)).get? b = some o := fun b o e => Heap.get?_push_of_some _ (Heap.get?_push_of_some _ e)
  have hget : ((hp.push (PySem.W.kdv_tup [v])).push (excO C hp.objs.size)).get? (hp.objs.size + 1) = some (excO C hp.objs.size) := by heap_get
  have hnx : K.lookup (hp.objs.size + 1) = none := by
    cases e : K.lookup (hp.objs.size + 1) with
    | none => rfl
    | some o =>
      have z : hp.get? (hp.objs.size + 1) = some o := X _ _ e
      exact absurd (Nat.lt_of_succ_lt (Heap.lt_size z)) (Nat.lt_irrefl _)
  refine PySem.HandSPX.call_own PySem.F.excBase_ValueError (fun Y => PySem.HandSPX.refsVE_contains Y bm hbm) (X _ _ hC) (PySem.W.looks_findIn X T.iC) (fun self => PySem.W.bind_fn X self T.tC) (bn_one v) ?_
  refine bn_init (s := ⟨(hp.push (PySem.W.kdv_tup [v])).push (excO C hp.objs.size), g, dr, tk, os⟩) T hns M (fun b o e => kp _ _ (hb b o e)) hget hnx ?_ fun h' tk' dx F => ?_
  · show A.depth + 1 < recursionLimit
    exact hroom
  · obtain ⟨keep, ⟨t1, hx⟩, dn, dne, hn⟩ := F
    have old : ∀ b o, hp.get? b = some o → h'.get? b = some o := fun b o e => keep b o (Nat.ne_of_lt (Nat.lt_succ_of_lt (Heap.lt_size e))) (kp b o e)
    have z : hp.objs.size ≤ dx := by
      have z0 : hp.objs.size + 1 < ((hp.push (PySem.W.kdv_tup [v])).push (excO C hp.objs.size)).objs.size := Heap.lt_size hget
      exact Nat.le_trans (Nat.le_of_lt (Nat.lt_of_succ_lt z0)) dn
    exact ⟨rfl, hq h' tk' (hp.objs.size + 1) dx ⟨old, Nat.le_succ _, ⟨_, _, hx, rfl, rfl, rfl, rfl⟩, z, dne, hn⟩⟩
end
theorem bn_rel {v : V} {v' : Value} (r : RelV v v') (f : Str) : RelO (List.lookup f [(("value" : Str), v)]) (if f = "value" then some v' else none) := by
  by_cases hw : f = "value"
  · subst hw
    rw [if_pos rfl]
    have q : List.lookup ("value" : Str) [(("value" : Str), v)] = some v := by simp [List.lookup]
    rw [q]
    exact r
  · rw [if_neg hw]
    have qw : (f == ("value" : Str)) = false := by simpa using hw
    have q2 : List.lookup f [(("value" : Str), v)] = none := by simp [List.lookup, qw]
    rw [q2]
    trivial
section
variable {X : Cx} {C fI : Addr}
/-- BadNumber(e) -/
def tMkBn (C : Addr) (ta : TA) : L2.St → Hp → XK → Prop := fun σ H Q => ta σ H fun vs H1 => ∃ v, vs = [v] ∧ ∀ d, H1 d = none → Q (.ref C) (some d) (upd H1 d (.xd [(("value" : Str), v)]))
theorem pmk_bn {a : Expr} {ta : TA} {p pos : Pos} {k : Nat} (T : BnTxt X.prog X.K X.mg C fI) (hns : NoSup X.prog) (hr : Room k X.A) (ha : PA X [a] ta) (hg : Gl X "BadNumber" := by rfl)
    (he : starEach (a :: []) X.env = (false, eval a X.env) :: starEach [] X.env := by rfl) (hpl : (backTo pos (starEach [] X.env)).any (·.1) = false := by rfl) :
    PMk X (.Call (.Name "BadNumber" p) [a] [] pos) (tMkBn C ta) := by
  intro pins s σ H Q I h
  refine wpAny_Call_Name_kw (ld_glob I hg T.gC ?_)
  refine PySem.W.callWith_K (h₀ := X.base) I.ok.mod.kin T.kC (thn (ha.run pos pins s σ H _ I h) fun us s1 hh => ?_) he hpl
  obtain ⟨vs, H1, I1, r1, v, ev, q1⟩ := hh
  subst ev
  refine ⟨I1.kIn, ?_⟩
  cases r1 with
  | cons rv rn =>
    rename_i v' us'
    cases rn
    show wpAny _ _ (call (.ref C) [v']) _ _ _
    obtain ⟨hp, g, dr, tk, os⟩ := s1
    refine wpAny_call (bn_made T hns I1.ok.mod I1.bk (by have := hr.dp; omega) fun h' tk' e d M => ?_)
    show MkP X pins σ Q (.ref e) ⟨h', g, dr, tk', os⟩
    obtain ⟨oe, fv, hoe, hc, hd, hdat, h1⟩ := M.obj
    have hn := M.ns
    obtain ⟨G', g1, g2⟩ := restrict h' fun b => decide (b ≠ e)
    have gk : ∀ b, b ≠ e → G'.get? b = h'.get? b := fun b hb => g1 b (decide_eq_true hb)
    have ge : G'.get? e = none := g2 e (by simp)
    have old : ∀ b o, hp.get? b = some o → G'.get? b = some o := fun b o q => (gk b (Nat.ne_of_lt (Nat.lt_of_lt_of_le (Heap.lt_size q) M.new))).trans (M.keep b o q)
    have ob : ObjOk X.prog X.w (upd H1 d (.xd [(("value" : Str), v)])) G' d (.xd [(("value" : Str), v)]) :=
      ⟨_, hn.at (fun o q => (gk d M.dne).trans q), fun f => bn_rel rv f⟩
    have J : Inv X pins σ (upd H1 d (.xd [(("value" : Str), v)])) ⟨G', g, dr, tk', os⟩ := I1.laid (t' := tk') old M.dbig ob
    refine ⟨e, oe, fv, ⟨G', g, dr, tk', os⟩, _, .ref C, some d, rfl, J, fun b o q => ?_, ge, hoe, ⟨hc, hd⟩, hdat, h1, ?_, rfl, I1.bare, raises_own T.exC T.tyC, q1 d (I1.hok.fresh M.dbig)⟩
    · by_cases hb : b = e
      · have q' : G'.get? b = some o := q
        rw [hb, ge] at q'; cases q'
      · exact (gk b hb).symm.trans q
    · rw [upd_ne (Ne.symm M.dne)]
      exact I1.hok.fresh M.new
/-- raise BadNumber(e) -/
def tRaiseBn (C : Addr) (W : WX) (ta : TA) : TS := fun _ σ H => tMkBn C ta σ H fun cls d H' => W cls d σ H'
theorem ps_raiseBn {a : Expr} {ta : TA} {W : WX} {p pos pos2 : Pos} {k : Nat} (hc : X.calm = true) (T : BnTxt X.prog X.K X.mg C fI) (hns : NoSup X.prog) (hr : Room k X.A) (tk : Takes X W) (ha : PA X [a] ta) (hg : Gl X "BadNumber" := by rfl)
    (he : starEach (a :: []) X.env = (false, eval a X.env) :: starEach [] X.env := by rfl) (hpl : (backTo pos (starEach [] X.env)).any (·.1) = false := by rfl) :
    PS X (.Raise (some (.Call (.Name "BadNumber" p) [a] [] pos)) none pos2) (tRaiseBn C W ta) := ps_raise hc tk (pmk_bn T hns hr ha hg he hpl)
/-- e.value, e the error that the suite holds (at a; its class cls, its dict d) -/
def tOfBn (C : Addr) (a : Addr) (cls : Value) (d : Option Addr) (te : TE) : TE := fun σ H Q => te σ H fun x H1 => x = .ref a ∧ cls = .ref C ∧ ∃ (dd : Addr) (v : V), d = some dd ∧ H1 dd = some (.xd [(("value" : Str), v)]) ∧ Q v H1
theorem pe_ofBn {a : Addr} {oe : Obj} {cls : Value} {d : Option Addr} {pn : List (Addr × Obj)} {e : Expr} {te : TE} {pos : Pos} (T : BnTxt X.prog X.K X.mg C fI) (hz : Zc cls d oe) (hf : ∃ vs, oe.data = .fields vs) (he : PE (X.suite a ((a, oe) :: pn)) e te)
    (hb : attributeBase e "value" X.env (eval e X.env) = eval e X.env := by rfl) :
    PE (X.suite a ((a, oe) :: pn)) (.Attribute e "value" pos) (tOfBn C a cls d te) := by
  refine ⟨fun pins s σ H Q I h => ?_⟩
  refine attr_of hb (thn (he.run pins s σ H _ I h) fun u s1 hh => ?_)
  obtain ⟨x, H1, I1, rx, ex, ec, dd, v, ed, ea, q⟩ := hh
  subst ex
  obtain rfl : u = Value.ref a := rx
  subst ec
  subst ed
  obtain ⟨ha, _⟩ := I1.pin (a, oe) (List.mem_append_left _ List.mem_cons_self)
  obtain ⟨vs, hd⟩ := hf
  have hx : ObjOk X.prog X.w H1 s1.heap dd (.xd [(("value" : Str), v)]) := I1.hok dd _ ea
  obtain ⟨mA, hns, hr⟩ := hx
  obtain ⟨od, ho, hl⟩ := lookIn_ns hns
  have l : List.lookup ("value" : Str) [(("value" : Str), v)] = some v := by simp [List.lookup]
  obtain ⟨u, hu, ru⟩ := RelO.some_of (v := v) (o := mA "value") (by rw [← l]; exact hr "value")
  have J : PySem.W.InstAt s1.heap a oe C (some od) := ⟨ha, hz.1, by unfold PySem.W.notCls; rw [hd] <;> rfl, by rw [hz.2]; exact ho⟩
  exact PySem.HandSPX.exc_get I1.kIn J T.ga T.gg T.exC (PySem.W.findObj_own T.hdC T.noV rfl (by rw [hl, hu])) (handed_of ru) ⟨v, H1, I1.tok _, ru, q⟩
end
end AW
set_option maxRecDepth 100000
set_option maxHeartbeats 4000000
/-! least.py: areas -/
namespace AW
open PySem PySem.Spec PyProof.Rows L2
/-- the first value that areas refuses -/
def bad (x y n : V) : Option V := if isInt x = false then some x else if isInt y = false then some y else if isWhole n = false then some n else none
theorem Any.same {H H' : Hp} {v : V} (s : Same H H') (h : Any H v) : Any H' v := by
  cases h with
  | non => exact .non
  | bl b => exact .bl b
  | int i => exact .int i
  | str x => exact .str x
  | lst e => exact .lst (s _ _ e)
def spAreas (C : Addr) : Sp := fun vs H Q E => ∃ x y n, vs = [x, y, n] ∧ Any H x ∧ Any H y ∧ Any H n ∧
  ((∃ b, bad x y n = some b ∧ ∀ d H', Same H H' → H d = none → H' d = some (.xd [(("value" : Str), b)]) → E (.ref C) (some d) H') ∨
   (∃ i j k, x = .int i ∧ y = .int j ∧ n = .int k ∧ 0 ≤ k ∧ Sm 3000 i ∧ Sm 3000 j ∧ Sm 3000 k ∧ (areasOf i j k = none → ∀ H', Same H H' → Q .non H') ∧
     ∀ lo hi p H', areasOf i j k = some (lo, hi) → Same H H' → H p = none → H' p = some (.tup [.int lo, .int hi]) → Q (.ref p) H'))
section
variable {P : Program} {w : World} {K : PySem.W.Frag} {mg : Str → Option Value} {base : Heap} {C fI : Addr}
theorem ok_areas {f : Addr} {fd : FuncData} (O : Own K mg "areas" sAreas ["x", "y", "number"] f fd) (T : BnTxt P K mg C fI) (hns : NoSup P) (C1 : Cal P w K mg base CX0 "is_integer" ["value"] 1 spIsInteger) (C2 : Cal P w K mg base CX0 "is_whole" ["value", "least"] 2 spIsWhole)
    (C3 : Cal P w K mg base CX0 "areas_of" ["x", "y", "number"] 2 spAreasOf) : FnOk P w K mg base (L2.CX P w) 4 f fd ["x", "y", "number"] (spAreas C) := by
  refine O.F.okX scAreas (fun vs H Q E h => ?_) (fun cdv A outer s H vs Q E hr h => ?_)
  · obtain ⟨x, y, n, rfl, _⟩ := h
    rfl
  · obtain ⟨x, y, n, rfl, ax, ay, an, h⟩ := h
    have hr1 : Room 1 _ := hr.mono (by decide)
    have hr2 : Room 2 _ := hr.mono (by decide)
    refine ⟨_, pss_cons (ps_for (passes_of rfl) rfl (pi_tup (pe_tup (pa_cons (pv 0) (pa_cons (pv 1) pa_nil)))) (pg_name (i := 3) scAreas.nd rfl (.inl rfl))
        (pss_one (ps_if (pt_not (pt_val (pe_cal C1 hr1 pass0 (pa_cons (pv 3) pa_nil)))) (pss_one (ps_raiseBn rfl T hns hr (takes_of rfl rfl rfl rfl) (pa_cons (pv 3) pa_nil))) pss_nil)))
      (pss_cons (ps_if (pt_not (pt_val (pe_cal C2 hr2 pass0 (pa_cons (pv 2) (pa_cons pe_int pa_nil))))) (pss_one (ps_raiseBn rfl T hns hr (takes_of rfl rfl rfl rfl) (pa_cons (pv 2) pa_nil))) pss_nil)
      (pss_one (ps_ret (pe_cal C3 hr2 pass0 (pa_cons (pv 0) (pa_cons (pv 1) (pa_cons (pv 2) pa_nil))))))), ?_⟩
    refine ⟨_, rfl, _, rfl, by show 2 ≤ sizeLine; decide, fun t ht => ?_⟩
    have s1 : Same H (upd H t (.tup [x, y])) := same_new ht
    -- what follows the loop
    refine ⟨t, rfl, ⟨[x, y], .inl (.inl upd_same)⟩, for_tup (K := K) (a := t) (xs := [x, y]) (fun i σ H' => H' = upd H t (.tup [x, y]) ∧ (∃ v3, σ = [some x, some y, some n, v3]) ∧ (0 < i → isInt x = true) ∧ (1 < i → isInt y = true))
      ⟨rfl, ⟨none, rfl⟩, fun z => absurd z (by decide), fun z => absurd z (by decide)⟩ (fun i σ H' _ h => by rw [h.1]; exact .inl (.inl upd_same)) ?_ ?_⟩
    · rintro i v σ H' hi ⟨rfl, ⟨v3, rfl⟩, h0, h1⟩
      have av : Any (upd H t (.tup [x, y])) v := by
        match i, hi with
        | 0, hi =>
          cases hi
          exact ax.same s1
        | 1, hi =>
          cases hi
          exact ay.same s1
      refine ⟨_, rfl, v, rfl, av, _, rfl, ?_⟩
      cases hv : isInt v with
      | false =>
        refine iteT ⟨_, rfl, v, rfl, fun d hd => ?_⟩
        rcases h with ⟨b, hb, q⟩ | ⟨i', j', k', rfl, rfl, _⟩
        · have eb : b = v := by
            unfold bad at hb
            match i, hi with
            | 0, hi =>
              cases hi
              rw [if_pos hv] at hb
              exact (Option.some.inj hb).symm
            | 1, hi =>
              cases hi
              rw [if_neg (by rw [h0 (by decide)]; decide), if_pos hv] at hb
              exact (Option.some.inj hb).symm
          subst eb
          exact q d _ (s1.trans (same_new hd)) (s1.free hd) upd_same
        · match i, hi with
          | 0, hi =>
            cases hi
            cases hv
          | 1, hi =>
            cases hi
            cases hv
      | true =>
        refine iteF ?_
        refine ⟨rfl, ⟨some v, rfl⟩, fun _ => ?_, fun z => ?_⟩
        · match i, hi with
          | 0, hi =>
            cases hi
            exact hv
          | 1, hi => exact h0 (by decide)
        · match i, hi with
          | 0, hi => exact absurd z (by decide)
          | 1, hi =>
            cases hi
            exact hv
    · rintro σ H' ⟨rfl, ⟨v3, rfl⟩, h0, h1⟩
      have h0 := h0 (by show 0 < 2; decide)
      have h1 := h1 (by show 1 < 2; decide)
      refine ⟨_, rfl, n, rfl, an.same s1, _, rfl, ?_⟩
      cases hv : isWhole n with
      | false =>
        refine iteT ⟨_, rfl, n, rfl, fun d hd => ?_⟩
        rcases h with ⟨b, hb, q⟩ | ⟨i', j', k', rfl, rfl, rfl, hk, _⟩
        · have eb : b = n := by
            unfold bad at hb
            rw [if_neg (by rw [h0]; decide), if_neg (by rw [h1]; decide), if_pos hv] at hb
            exact (Option.some.inj hb).symm
          subst eb
          exact q d _ (s1.trans (same_new hd)) (s1.free hd) upd_same
        · have hv : decide (0 ≤ k') = false := hv
          rw [decide_eq_true hk] at hv
          cases hv
      | true =>
        refine iteF ?_
        rcases h with ⟨b, hb, q⟩ | ⟨i', j', k', rfl, rfl, rfl, hk, si, sj, sk, q0, q⟩
        · unfold bad at hb
          rw [if_neg (by rw [h0]; decide), if_neg (by rw [h1]; decide), if_neg (by rw [hv]; decide)] at hb
          cases hb
        · exact ⟨_, rfl, _, rfl, _, rfl, i', j', k', rfl, si, sj, sk, fun e => q0 e _ s1, fun lo hi p H' e s2 hp hp' => q lo hi p H' e (s1.trans s2) (s1.free hp) hp'⟩
end
end AW
set_option maxRecDepth 100000
set_option maxHeartbeats 4000000
/-! Place, need_place, steps, _law_place, _law_is_told -/
namespace AW
open PySem PySem.Spec PyProof.Rows L2
theorem xy_ : ¬ (("x" : Str) = "y") := by decide +kernel
theorem xa_ : ¬ (("x" : Str) = "area") := by decide +kernel
theorem ya_ : ¬ (("y" : Str) = "area") := by decide +kernel
def plF (x y a : Int) : List (Str × V) := putF "area" (.int a) (putF "y" (.int y) (putF "x" (.int x) []))
theorem plF_x (x y a : Int) : (plF x y a).lookup ("x" : Str) = some (.int x) := by
  unfold plF
  rw [lookup_putF, if_neg xa_, lookup_putF, if_neg xy_, lookup_putF, if_pos rfl]
theorem plF_y (x y a : Int) : (plF x y a).lookup ("y" : Str) = some (.int y) := by
  unfold plF
  rw [lookup_putF, if_neg ya_, lookup_putF, if_pos rfl]
theorem plF_a (x y a : Int) : (plF x y a).lookup ("area" : Str) = some (.int a) := by
  unfold plF
  rw [lookup_putF, if_pos rfl]
theorem putF_len (f : Str) (v : V) : ∀ fs : List (Str × V), (putF f v fs).length ≤ fs.length + 1
  | [] => by show 1 ≤ 1; decide
  | (g, x) :: r => by
    have ih := putF_len f v r
    unfold putF
    split
    · rw [List.length_cons, List.length_cons]
      omega
    · rw [List.length_cons, List.length_cons]
      omega
/-- what the top has written of Place -/
structure PlTxt (K : PySem.W.Frag) (mg : Str → Option Value) (C fI : Addr) : Prop where
  cl : Cls K C
  nX : NoAttr K C "x"
  nY : NoAttr K C "y"
  nA : NoAttr K C "area"
  mgC : mg "Place" = some (.ref C)
  isC : C8.InsC K C
  mkp : Mk K C fI
/-- all but what stands at p is as it was -/
def But (p : Addr) (H H' : Hp) : Prop := ∀ b o, b ≠ p → H b = some o → H' b = some o
theorem But.refl (p : Addr) (H : Hp) : But p H H := fun _ _ _ h => h
theorem But.trans {p : Addr} {H H1 H2 : Hp} (a : But p H H1) (b : But p H1 H2) : But p H H2 := fun c o n h => b c o n (a c o n h)
theorem Same.but {p : Addr} {H H' : Hp} (s : Same H H') : But p H H' := fun b o _ h => s b o h
def spPInit (C : Addr) : Sp := fun vs H Q _ => ∃ p dx x y a, vs = [.ref p, .int x, .int y, .int a] ∧ H p = some (.ins C dx []) ∧ ∀ H', But p H H' → H' p = some (.ins C dx (plF x y a)) → Q .non H'
def spNeed (C : Addr) : Sp := fun vs H Q _ => ∃ p dx fs, vs = [.ref p] ∧ H p = some (.ins C dx fs) ∧ Q .non H
def spSteps (C : Addr) : Sp := fun vs H Q _ => ∃ p dx x y a, vs = [.ref p] ∧ H p = some (.ins C dx (plF x y a)) ∧ Sm 3000 x ∧ Sm 3000 y ∧ Sm 3000 a ∧ ∀ s H', Same H H' → StepsOk x y a s → Q (.int s) H'
def spLawPlace (C : Addr) : Sp := fun vs H Q _ => ∃ t x y a, vs = [.ref t] ∧ H t = some (.tup [.int x, .int y, .int a]) ∧ ∀ p dx H', Same H H' → H' p = some (.ins C dx (plF x y a)) → Q (.ref p) H'
/-- what areas hands back -/
def Shown (H : Hp) (x y n : Int) (v : V) : Prop := (areasOf x y n = none ∧ v = .non) ∨ ∃ lo hi t, areasOf x y n = some (lo, hi) ∧ v = .ref t ∧ H t = some (.tup [.int lo, .int hi])
theorem Shown.same {H H' : Hp} {x y n : Int} {v : V} (s : Same H H') (h : Shown H x y n v) : Shown H' x y n v := by
  rcases h with h | ⟨lo, hi, t, h1, h2, h3⟩
  · exact .inl h
  · exact .inr ⟨lo, hi, t, h1, h2, s _ _ h3⟩
def spIsTold : Sp := fun vs H Q _ => ∃ x y a n v, vs = [.int x, .int y, .int a, .int n, v] ∧ Sm 3000 x ∧ Sm 3000 y ∧ Sm 3000 a ∧ Shown H x y n v ∧ ∀ H', Same H H' → Q (.bl true) H'
section
variable {P : Program} {w : World} {K : PySem.W.Frag} {mg : Str → Option Value} {base : Heap} {C fI : Addr}
theorem ok_pInit {f : Addr} {fd : FuncData} (F : Fun K "__init__" "Place.__init__" sPInit f fd) (T : PlTxt K mg C fI) (C1 : Cal P w K mg base CX0 "is_integer" ["value"] 1 spIsInteger) : FnOk P w K mg base CX0 2 f fd ["self", "x", "y", "area"] (spPInit C) := by
  refine F.ok scPInit (fun vs H Q E h => ?_) (fun cdv A outer s H vs Q E hr h => ?_)
  · obtain ⟨p, dx, x, y, a, rfl, _⟩ := h
    rfl
  · obtain ⟨p, dx, x, y, a, rfl, hp, q⟩ := h
    refine ⟨_, pss_cons (ps_for PassesOwn.never rfl (pi_tup (pe_tup (pa_cons (pv 1) (pa_cons (pv 2) (pa_cons (pv 3) pa_nil))))) (pg_name (i := 4) scPInit.nd rfl (.inl rfl))
        (pss_one (ps_if (pt_not (pt_val (pe_cal C1 hr pass0 (pa_cons (pv 4) pa_nil)))) (pss_one ps_never) pss_nil)))
      (pss_cons (ps_fld (pv 0) (pv 1) rfl) (pss_cons (ps_fld (pv 0) (pv 2) rfl) (pss_one (ps_fld (pv 0) (pv 3) rfl)))), ?_⟩
    refine ⟨_, rfl, _, rfl, _, rfl, by show 3 ≤ sizeLine; decide, fun t ht => ?_⟩
    have s1 : Same H (upd H t (.tup [.int x, .int y, .int a])) := same_new ht
    have hp1 := s1 _ _ hp
    refine ⟨t, rfl, ⟨[.int x, .int y, .int a], .inl (.inl upd_same)⟩, for_tup (K := K) (a := t) (xs := [.int x, .int y, .int a]) (fun i σ H' => H' = upd H t (.tup [.int x, .int y, .int a]) ∧ ∃ v4, σ = [some (.ref p), some (.int x), some (.int y), some (.int a), v4])
      ⟨rfl, none, rfl⟩ (fun i σ H' _ h => by rw [h.1]; exact .inl (.inl upd_same)) ?_ ?_⟩
    · rintro i v σ H' hi ⟨rfl, v4, rfl⟩
      obtain ⟨z, rfl⟩ : ∃ z, v = V.int z := by
        match i, hi with
        | 0, hi => exact ⟨x, (Option.some.inj hi).symm⟩
        | 1, hi => exact ⟨y, (Option.some.inj hi).symm⟩
        | 2, hi => exact ⟨a, (Option.some.inj hi).symm⟩
      exact ⟨_, rfl, _, rfl, .int z, _, rfl, iteF ⟨rfl, _, rfl⟩⟩
    · rintro σ H' ⟨rfl, v4, rfl⟩
      refine ⟨_, rfl, _, rfl, p, C, dx, _, rfl, hp1, T.cl, T.nX, by show 0 < 1000; decide, _, rfl, _, rfl, p, C, dx, _, rfl, upd_same, T.cl, T.nY, by show 1 < 1000; decide,
        _, rfl, _, rfl, p, C, dx, _, rfl, upd_same, T.cl, T.nA, Nat.lt_of_le_of_lt (putF_len _ _ _) (by show 2 < 1000; decide), ?_⟩
      refine q _ (fun b o n e => ?_) upd_same
      rw [upd_ne n, upd_ne n, upd_ne n]
      exact s1 _ _ e
theorem ok_need {f : Addr} {fd : FuncData} (O : Own K mg "need_place" sNeedPlace ["value"] f fd) (B : Blt mg) (T : PlTxt K mg C fI) : FnOk P w K mg base CX0 1 f fd ["value"] (spNeed C) := by
  refine O.F.ok scNeedPlace (fun vs H Q E h => ?_) (fun cdv A outer s H vs Q E hr h => ?_)
  · obtain ⟨p, dx, fs, rfl, _⟩ := h
    rfl
  · obtain ⟨p, dx, fs, rfl, hp, q⟩ := h
    refine ⟨_, pss_one (ps_if (pt_not (pt_val (pe_callB (C8.call_isC T.isC) (by rfl) B.isinstance (by decide +kernel) (pa_cons (pv 0) (pa_cons (pe_glob (v := .ref C) (by rfl) T.mgC rfl) pa_nil))))) (pss_one ps_never) pss_nil), ?_⟩
    exact ⟨_, rfl, p, dx, fs, rfl, hp, _, rfl, iteF q⟩
theorem ok_steps {f : Addr} {fd : FuncData} (O : Own K mg "steps" sSteps ["place"] f fd) (T : PlTxt K mg C fI) (C1 : Cal P w K mg base CX0 "need_place" ["value"] 1 (spNeed C)) (C2 : Cal P w K mg base CX0 "steps_of" ["x", "y", "area"] 2 spStepsOf) :
    FnOk P w K mg base CX0 3 f fd ["place"] (spSteps C) := by
  refine O.F.ok scSteps (fun vs H Q E h => ?_) (fun cdv A outer s H vs Q E hr h => ?_)
  · obtain ⟨p, dx, x, y, a, rfl, _⟩ := h
    rfl
  · obtain ⟨p, dx, x, y, a, rfl, hp, sx, sy, sa, q⟩ := h
    refine ⟨_, pss_cons (ps_expr (pe_cal C1 (hr.mono (by decide)) pass0 (pa_cons (pv 0) pa_nil)))
      (pss_one (ps_ret (pe_cal C2 hr pass0 (pa_cons (pe_fld (pv 0) rfl) (pa_cons (pe_fld (pv 0) rfl) (pa_cons (pe_fld (pv 0) rfl) pa_nil)))))), ?_⟩
    refine ⟨_, rfl, p, dx, _, rfl, hp, ?_⟩
    exact ⟨_, rfl, p, C, dx, _, _, rfl, hp, T.cl, T.nX, plF_x x y a, _, rfl, p, C, dx, _, _, rfl, hp, T.cl, T.nY, plF_y x y a, _, rfl, p, C, dx, _, _, rfl, hp, T.cl, T.nA, plF_a x y a, x, y, a, rfl, sx, sy, sa, q⟩
/-- a new Place: all that was tracked stands -/
theorem made_place {H H1 : Hp} {p dx : Addr} (nx : H p = none) (nd : H dx = none) (k : But p (upd (upd H dx (.own p)) p (.ins C dx [])) H1) : Same H H1 := fun b o e =>
  k b o (ne_of_none e nx) (by rw [upd_ne (ne_of_none e nx), upd_ne (ne_of_none e nd)]; exact e)
theorem ok_lawPlace {f : Addr} {fd fdI : FuncData} (O : Own K mg "_law_place" sLawPlace ["_law_spot"] f fd) (T : PlTxt K mg C fI) (bI : Binds K fdI ["self", "x", "y", "area"] []) (GI : FnOk P w K mg base CX0 2 fI fdI ["self", "x", "y", "area"] (spPInit C)) :
    FnOk P w K mg base CX0 4 f fd ["_law_spot"] (spLawPlace C) := by
  refine O.F.ok scLawPlace (fun vs H Q E h => ?_) (fun cdv A outer s H vs Q E hr h => ?_)
  · obtain ⟨t, x, y, a, rfl, _⟩ := h
    rfl
  · obtain ⟨t, x, y, a, rfl, ht, q⟩ := h
    have hT : SqT K H t [.int x, .int y, .int a] := .inl (.inl ht)
    refine ⟨_, pss_one (ps_ret (pe_make T.mkp GI hr (by rfl) T.mgC bI .nil pass0 (pa_cons (pe_ix ix_tup (pv 0) pe_int (fun _ _ => rfl)) (pa_cons (pe_ix ix_tup (pv 0) pe_int (fun _ _ => rfl)) (pa_cons (pe_ix ix_tup (pv 0) pe_int (fun _ _ => rfl)) pa_nil))))), ?_⟩
    refine ⟨_, rfl, t, _, _, _, rfl, rfl, hT, atI_nat (j := 0) rfl, _, rfl, t, _, _, _, rfl, rfl, hT, atI_nat (j := 1) rfl, _, rfl, t, _, _, _, rfl, rfl, hT, atI_nat (j := 2) rfl, fun p dx np nd ne => ?_⟩
    exact ⟨p, dx, x, y, a, rfl, upd_same, fun H' k hp => ⟨rfl, q p dx H' (made_place np nd k) hp⟩⟩
theorem ok_isTold {f : Addr} {fd fdI : FuncData} (O : Own K mg "_law_is_told" sLawIsTold ["_law_x", "_law_y", "_law_area", "_law_number", "_law_shown"] f fd) (B : Blt mg) (T : PlTxt K mg C fI) (bI : Binds K fdI ["self", "x", "y", "area"] [])
    (GI : FnOk P w K mg base CX0 2 fI fdI ["self", "x", "y", "area"] (spPInit C)) (C1 : Cal P w K mg base CX0 "steps" ["place"] 3 (spSteps C)) : FnOk P w K mg base CX0 4 f fd ["_law_x", "_law_y", "_law_area", "_law_number", "_law_shown"] spIsTold := by
  refine O.F.ok scLawIsTold (fun vs H Q E h => ?_) (fun cdv A outer s H vs Q E hr h => ?_)
  · obtain ⟨x, y, a, n, v, rfl, _⟩ := h
    rfl
  · obtain ⟨x, y, a, n, v, rfl, sx, sy, sa, hv, q⟩ := h
    refine ⟨_, pss_cons (ps_set (i := 5) scLawIsTold.nd rfl (.inl rfl) (pe_cal C1 hr pass0 (pa_cons (pe_make T.mkp GI hr (by rfl) T.mgC bI .nil pass0 (pa_cons (pv 0) (pa_cons (pv 1) (pa_cons (pv 2) pa_nil)))) pa_nil)))
      (pss_cons (ps_set (i := 6) scLawIsTold.nd rfl (.inl rfl) (pe_and (pe_cmpR op_le (pv 5) (pv 3) (nomark _)) (pe_one (pe_cmpR op_eq (pe_op op_mod (pe_callTy call_int1 (by rfl) B.int (by decide +kernel) (pa_cons (pe_op op_sub (pv 3) (pv 5)) pa_nil)) pe_int) pe_int (nomark _)))))
      (pss_one (ps_ret (pe_cmpR op_eq (pv 6) (pe_and (pe_cmpR op_notN (pv 4) pe_non (nomark _)) (pe_one (pe_chain op_le op_le (pe_ix ix_tup (pv 4) pe_int (fun _ _ => rfl)) (pv 2) (pe_ix ix_tup (pv 4) pe_int (fun _ _ => rfl))))) (nomark _))))), ?_⟩
    refine ⟨_, rfl, _, rfl, _, rfl, fun p dx np nd ne => ⟨p, dx, x, y, a, rfl, upd_same, fun H1 k hp => ⟨rfl, p, dx, x, y, a, rfl, hp, sx, sy, sa, fun s0 H2 s2 st => ?_⟩⟩⟩
    have s1 : Same H H2 := (made_place np nd k).trans s2
    have hv := hv.same s1
    have tl := told (n := n) st
    have q := q H2 s1
    -- whatever both sides came to, they are one
    have key : ∀ c d : Bool, (c = true ↔ (s0 ≤ n ∧ (n - s0) % 2 = 0)) → (d = true ↔ ∃ lo hi, areasOf x y n = some (lo, hi) ∧ lo ≤ a ∧ a ≤ hi) → Q (.bl (decide (V.bl c = V.bl d))) H2 := fun c d hc hd => by
      have e : c = d := by
        cases c with
        | true => exact (hd.mpr (tl.mp (hc.mp rfl))).symm
        | false =>
          cases d with
          | false => rfl
          | true => exact hc.mpr (tl.mpr (hd.mp rfl))
      rw [e, decide_eq_true rfl]
      exact q
    have right : ∀ c : Bool, (c = true ↔ (s0 ≤ n ∧ (n - s0) % 2 = 0)) → ∀ z5 z6, z6 = some (V.bl c) →
        (tRet (tOp rEq (tVar 6) (tAndV (tOp (fun x y H Q => y = .non ∧ Q (.bl (!decide (x = .non))) H) (tVar 4) (tC .non)) (tChain (rI0 fun i j => .bl (decide (i ≤ j))) (rI0 fun i j => .bl (decide (i ≤ j))) (tOp (rIxT K) (tVar 4) (tC (.int 0))) (tVar 2) (tOp (rIxT K) (tVar 4) (tC (.int 1)))))))
          { nx := fun _ H' => Q .non H', rt := Q } [some (.int x), some (.int y), some (.int a), some (.int n), some v, z5, z6] H2 := fun c hc z5 z6 e6 => by
      subst e6
      rcases hv with ⟨h1, rfl⟩ | ⟨lo, hi, t, h1, rfl, h3⟩
      · refine ⟨_, rfl, _, rfl, rfl, false, rfl, iteF ⟨rfl, key c false hc ?_⟩⟩
        rw [h1]
        exact ⟨fun z => (nomatch z), fun ⟨_, _, z, _⟩ => (nomatch z)⟩
      · have hT : SqT K H2 t [.int lo, .int hi] := .inl (.inl h3)
        have hd : ∀ d : Bool, (d = true ↔ (lo ≤ a ∧ a ≤ hi)) → (d = true ↔ ∃ lo hi, areasOf x y n = some (lo, hi) ∧ lo ≤ a ∧ a ≤ hi) := fun d hd => by
          rw [hd, h1]
          exact ⟨fun z => ⟨lo, hi, rfl, z⟩, fun ⟨_, _, z, z2⟩ => by
            have z := Option.some.inj z
            injection z with e1 e2
            rw [e1, e2]
            exact z2⟩
        refine ⟨_, rfl, _, rfl, rfl, true, rfl, iteT ⟨_, rfl, t, _, _, _, rfl, rfl, hT, atI_nat (j := 0) rfl, _, rfl, _, _, rfl, rfl, _, rfl, ite2 (fun e => ?_) (fun e => ?_)⟩⟩
        · have e1 : lo ≤ a := of_decide_eq_true e
          refine ⟨_, rfl, t, _, _, _, rfl, rfl, hT, atI_nat (j := 1) rfl, _, _, rfl, rfl, rfl, key c _ hc (hd _ ?_)⟩
          exact ⟨fun z => ⟨e1, of_decide_eq_true z⟩, fun z => decide_eq_true z.2⟩
        · have e1 : ¬ lo ≤ a := fun z => e (decide_eq_true z)
          refine ⟨rfl, key c _ hc (hd _ ?_)⟩
          exact ⟨fun z => (nomatch z), fun z => absurd z.1 e1⟩
    refine ⟨_, rfl, _, rfl, _, _, rfl, rfl, _, rfl, ite2 (fun e => ?_) (fun e => ?_)⟩
    · have e1 : s0 ≤ n := of_decide_eq_true e
      refine ⟨_, rfl, _, rfl, _, _, rfl, rfl, .inl ⟨_, rfl, _, _, rfl, rfl, (by show (0 : Int) < 2; decide), rfl, right _ ?_ _ _ rfl⟩⟩
      exact ⟨fun z => ⟨e1, V.int.inj (of_decide_eq_true z)⟩, fun z => decide_eq_true (congrArg V.int z.2)⟩
    · have e1 : ¬ s0 ≤ n := fun z => e (decide_eq_true z)
      exact right false ⟨fun z => (nomatch z), fun z => absurd z.1 e1⟩ _ _ rfl
end
end AW
set_option maxRecDepth 100000
set_option maxHeartbeats 4000000
/-! the pen: _law_pen, _law_draw -/
namespace AW
open PySem PySem.Spec PyProof.Rows L2
/-! ### lists of whole numbers as data -/
theorem dp_ints (K : PySem.W.Frag) (H : Hp) : ∀ cs : List Int, DpAll K H (cs.map V.int) (cs.map PyData.int)
  | [] => .nil
  | c :: r => .cons (.int c) (dp_ints K H r)
theorem lay_ints : ∀ cs : List Int, PyData.canLayAll0 (cs.map PyData.int) = true
  | [] => by simp only [List.map_nil, PyData.canLayAll0]
  | c :: r => by simp only [List.map_cons, PyData.canLayAll0, PyData.canLay0, lay_ints r, Bool.and_self]
theorem depth_ints : ∀ cs : List Int, PyData.depthAll (cs.map PyData.int) = 0
  | [] => by simp only [List.map_nil, PyData.depthAll]
  | c :: r => by simp only [List.map_cons, PyData.depthAll, PyData.depth, depth_ints r, Nat.max_self]
theorem shaped_ints (cs : List Int) : SeqAt.shaped (.list (cs.map PyData.int)) = true := by
  unfold SeqAt.shaped
  simp only [PyData.canLay0, PyData.depth, lay_ints, depth_ints]
  rfl
theorem eqv_nil (cs : List Int) : PyData.eqv (.list (cs.map PyData.int)) (.list []) = cs.isEmpty := by
  cases cs with
  | nil => simp only [List.map_nil, PyData.eqv, PyData.eqvAll, List.isEmpty]
  | cons c r => simp only [List.map_cons, PyData.eqv, PyData.eqvAll, List.isEmpty]
/-! ### the pen's dict -/
abbrev kC : Key := Sum.inr "cells"
abbrev kA : Key := Sum.inr "at"
abbrev kL : Key := Sum.inr "left"
theorem ca_ : ¬ kC = kA := by decide +kernel
theorem cl_ : ¬ kC = kL := by decide +kernel
theorem al_ : ¬ kA = kL := by decide +kernel
def penD (l : Addr) (a b : Int) : List (Key × V) := [(kC, .ref l), (kA, .int a), (kL, .int b)]
theorem pen_c (l : Addr) (a b : Int) : valV (penD l a b) kC = some (.ref l) := valV_pos rfl
theorem pen_a (l : Addr) (a b : Int) : valV (penD l a b) kA = some (.int a) := (valV_neg ca_).trans (valV_pos rfl)
theorem pen_l (l : Addr) (a b : Int) : valV (penD l a b) kL = some (.int b) := (valV_neg cl_).trans ((valV_neg al_).trans (valV_pos rfl))
theorem pen_pa (l : Addr) (a b z : Int) : putK (penD l a b) kA (.int z) = penD l z b := by
  have h : ((penD l a b).any fun kv => decide (kv.1 = kA)) = true := by rw [valV_any, pen_a] <;> rfl
  unfold putK
  rw [if_pos h]
  simp only [penD, List.map_cons, List.map_nil, if_neg ca_, if_neg (Ne.symm al_), if_true]
theorem pen_pl (l : Addr) (a b z : Int) : putK (penD l a b) kL (.int z) = penD l a z := by
  have h : ((penD l a b).any fun kv => decide (kv.1 = kL)) = true := by rw [valV_any, pen_l] <;> rfl
  unfold putK
  rw [if_pos h]
  simp only [penD, List.map_cons, List.map_nil, if_neg cl_, if_neg al_, if_true]
theorem pen_new (l : Addr) (a b : Int) : mergeK [] [(kC, V.ref l), (kA, V.int a), (kL, V.int b)] = penD l a b := by
  show putK (putK (putK [] kC (V.ref l)) kA (V.int a)) kL (V.int b) = penD l a b
  have e1 : putK [] kC (V.ref l) = [(kC, V.ref l)] := by rw [putK_new (V.ref l) valV_nil] <;> rfl
  have e2 : putK [(kC, V.ref l)] kA (V.int a) = [(kC, V.ref l), (kA, V.int a)] := by rw [putK_new (V.int a) ((valV_neg ca_).trans valV_nil)] <;> rfl
  have e3 : putK [(kC, V.ref l), (kA, V.int a)] kL (V.int b) = [(kC, V.ref l), (kA, V.int a), (kL, V.int b)] := by rw [putK_new (V.int b) ((valV_neg cl_).trans ((valV_neg al_).trans valV_nil))] <;> rfl
  rw [e1, e2, e3]
  rfl
/-- at p stands a pen: at most m numbers were drawn -/
def PenAt (H : Hp) (p : Addr) (m : Int) : Prop := ∃ l a b cs, H p = some (.dK (penD l a b)) ∧ H l = some (.lst (List.map V.int cs)) ∧ cs.length ≤ 63 ∧ 0 ≤ a ∧ a ≤ m
theorem PenAt.same {H H' : Hp} {p : Addr} {m : Int} (s : Same H H') (h : PenAt H p m) : PenAt H' p m := by
  obtain ⟨l, a, b, cs, h1, h2, h3⟩ := h
  exact ⟨l, a, b, cs, s _ _ h1, s _ _ h2, h3⟩
theorem PenAt.mono {H : Hp} {p : Addr} {m n : Int} (h : PenAt H p m) (e : m ≤ n) : PenAt H p n := by
  obtain ⟨l, a, b, cs, h1, h2, h3, h4, h5⟩ := h
  exact ⟨l, a, b, cs, h1, h2, h3, h4, Int.le_trans h5 e⟩
theorem dg_c {H : Hp} {p l : Addr} {a b : Int} (h : H p = some (.dK (penD l a b))) : DGet H p (.str "cells") (some (.ref l)) := by
  have z := DGet.k (k := kC) h
  rw [pen_c] at z
  exact z
theorem dg_a {H : Hp} {p l : Addr} {a b : Int} (h : H p = some (.dK (penD l a b))) : DGet H p (.str "at") (some (.int a)) := by
  have z := DGet.k (k := kA) h
  rw [pen_a] at z
  exact z
theorem dg_l {H : Hp} {p l : Addr} {a b : Int} (h : H p = some (.dK (penD l a b))) : DGet H p (.str "left") (some (.int b)) := by
  have z := DGet.k (k := kL) h
  rw [pen_l] at z
  exact z
theorem pen_few (l : Addr) (a b : Int) : (penD l a b).length < sizeLine := by
  show 3 < sizeLine
  decide
theorem dp_a {H : Hp} {p l : Addr} {a b : Int} (z : Int) (h : H p = some (.dK (penD l a b))) : DPut H p (.str "at") (.int z) (upd H p (.dK (penD l z b))) := by
  have q := DPut.k (k := kA) (v := .int z) h (pen_few l a b)
  rw [pen_pa] at q
  exact q
theorem dp_l {H : Hp} {p l : Addr} {a b : Int} (z : Int) (h : H p = some (.dK (penD l a b))) : DPut H p (.str "left") (.int z) (upd H p (.dK (penD l a z))) := by
  have q := DPut.k (k := kL) (v := .int z) h (pen_few l a b)
  rw [pen_pl] at q
  exact q
theorem but_upd {H : Hp} {p : Addr} {o : HO} : But p H (upd H p o) := fun b x n e => by
  rw [upd_ne n]
  exact e
def spPen (K : PySem.W.Frag) : Sp := fun vs H Q _ => ∃ (a : Addr) (ns : List Int), vs = [.ref a] ∧ SqL K H a (ns.map V.int) ∧ ns.length ≤ 63 ∧ ∀ p H', Same H H' → H p = none → PenAt H' p 0 → Q (.ref p) H'
def spDraw : Sp := fun vs H Q _ => ∃ p s m, vs = [.ref p, .int s] ∧ 0 < s ∧ s < 1073741824 ∧ m ≤ 1000000 ∧ PenAt H p m ∧ ∀ r H', 0 ≤ r → r < s → But p H H' → PenAt H' p (m + 1) → Q (.int r) H'
section
variable {P : Program} {w : World} {K : PySem.W.Frag} {mg : Str → Option Value} {base : Heap}
theorem ok_pen {f : Addr} {fd : FuncData} (O : Own K mg "_law_pen" sLawPen ["_law_script"] f fd) (B : Blt mg) : FnOk P w K mg base CX0 1 f fd ["_law_script"] (spPen K) := by
  refine O.F.ok scLawPen (fun vs H Q E h => ?_) (fun cdv A outer s H vs Q E hr h => ?_)
  · obtain ⟨a, ns, rfl, _⟩ := h
    rfl
  · obtain ⟨a, ns, rfl, hS, hl, q⟩ := h
    refine ⟨_, pss_one (ps_ret (pe_disp (pps_cons pe_str (pe_callTy call_list_of (by rfl) B.list (by decide +kernel) (pa_cons (pe_slice sl_list (pv 0) po_none (po_some pe_int)) pa_nil)) (pps_cons pe_str pe_int (pps_cons pe_str pe_int pps_nil))) (by rfl) (by rfl) (fun z => by cases z) (by decide))), ?_⟩
    refine fun p hp => ?_
    have s1 : Same H (upd H p (.dK [])) := same_new hp
    refine ⟨.ref a, rfl, 63, rfl, a, ns.map V.int, rfl, s1.seq hS, fun c hc => ⟨c, _, rfl, .inl (.inl (.inl upd_same)), fun l hl2 => ?_⟩⟩
    have npc : p ≠ c := ne_of_none upd_same hc
    have npl : p ≠ l := ne_of_none (by rw [upd_ne npc, upd_same]) hl2
    refine ⟨by rw [upd_ne npl, upd_ne npc, upd_same], [(kC, V.ref l), (kA, V.int 0), (kL, V.int 0)], rfl, by show 3 ≤ 15; decide, ?_⟩
    rw [pen_new]
    have hcut : cutV (ns.map V.int) none (some 63) = ns.map V.int := by
      unfold cutV
      have e : HT.sIx (ns.map V.int).length (ns.map V.int).length (some (63 : Int)) = min 63 (ns.map V.int).length := HT.sIx_nat _ _ 63
      rw [HT.sIx_none, e, List.drop_zero, Nat.sub_zero, List.length_map, Nat.min_eq_right hl]
      exact List.take_of_length_le (by rw [List.length_map]; exact Nat.le_refl _)
    refine q p _ (fun b o e => ?_) hp ⟨l, 0, 0, ns, upd_same, ?_, hl, Int.le_refl _, Int.le_refl _⟩
    · have nb : b ≠ p := ne_of_none e hp
      rw [upd_ne nb]
      exact same_new hl2 _ _ (same_new hc _ _ (s1 _ _ e))
    · rw [upd_ne npl.symm, upd_same, hcut]
theorem ok_draw {f : Addr} {fd : FuncData} (O : Own K mg "_law_draw" sLawDraw ["_law_pen_here", "_law_span"] f fd) (B : Blt mg) : FnOk P w K mg base CX0 1 f fd ["_law_pen_here", "_law_span"] spDraw := by
  refine O.F.ok scLawDraw (fun vs H Q E h => ?_) (fun cdv A outer s H vs Q E hr h => ?_)
  · obtain ⟨p, s, m, rfl, _⟩ := h
    rfl
  · obtain ⟨p, sp, m, rfl, s0, s9, hm, ⟨l, a, b, cs, hp, hc, hlen, a0, am⟩, q⟩ := h
    have hu := hu_of hr
    refine ⟨_, pss_cons (ps_if (pt_cmpR op_ge (pe_dget hu (pv 0) pe_str (fun _ _ => rfl)) (pv 1) (nomark _))
        (pss_cons (ps_set (i := 2) scLawDraw.nd rfl (.inl rfl) (pe_op op_mod (pe_callTy call_int1 (by rfl) B.int (by decide +kernel) (pa_cons (pe_dget hu (pv 0) pe_str (fun _ _ => rfl)) pa_nil)) (pv 1)))
        (pss_cons (ps_dput hu (pv 0) pe_str (pe_op op_fdiv (pe_dget hu (pv 0) pe_str (fun _ _ => rfl)) (pv 1)) rfl)
        (pss_one (ps_ret (pv 2))))) pss_nil)
      (pss_cons (ps_set (i := 3) scLawDraw.nd rfl (.inl rfl) (pe_dget hu (pv 0) pe_str (fun _ _ => rfl)))
      (pss_cons (ps_dput hu (pv 0) pe_str (pe_op op_add (pv 3) pe_int) rfl)
      (pss_cons (ps_set (i := 4) scLawDraw.nd rfl (.inl rfl) (pe_op op_add (pe_op op_mul pe_int (pv 3)) pe_int))
      (C8.pss_cut (ps_if (pt_cmpR (op_neD hr.units) (pe_dget hu (pv 0) pe_str (fun _ _ => rfl)) (pe_lst pa_nil) (nomark _))
        (pss_one (ps_set (i := 4) scLawDraw.nd rfl (.inl rfl) (pe_ix ix_list (pe_dget hu (pv 0) pe_str (fun _ _ => rfl)) (pe_op op_mod (pe_callTy call_int1 (by rfl) B.int (by decide +kernel) (pa_cons (pv 3) pa_nil)) (pe_callB call_len_seq (by rfl) B.len PySem.boot_len (pa_cons (pe_dget hu (pv 0) pe_str (fun _ _ => rfl)) pa_nil))) (fun _ _ => rfl)))) pss_nil)
      (C8.pss_cut (ps_if (PW.pt (pw_and (pt_cmpR op_lt (pv 3) (pe_callB call_len_seq (by rfl) B.len PySem.boot_len (pa_cons (pe_dget hu (pv 0) pe_str (fun _ _ => rfl)) pa_nil)) (nomark _)) (pw_and1 (pt_cmpR op_ge (pv 4) (pe_op op_pow pe_int pe_int) (nomark _)))))
        (pss_cons (ps_dput hu (pv 0) pe_str (pe_op op_fdiv (pe_op op_sub (pv 4) (pe_op op_pow pe_int pe_int)) (pv 1)) rfl)
        (pss_one (ps_ret (pe_op op_mod (pe_callTy call_int1 (by rfl) B.int (by decide +kernel) (pa_cons (pe_op op_sub (pv 4) (pe_op op_pow pe_int pe_int)) pa_nil)) (pv 1))))) pss_nil)
      (pss_cons (ps_set (i := 5) scLawDraw.nd rfl (.inl rfl) (pe_op op_add (pe_op op_mul (pe_op op_mod (pe_callTy call_int1 (by rfl) B.int (by decide +kernel) (pa_cons (pv 4) pa_nil)) pe_int) pe_int) (pe_op op_mul (pe_op op_mul pe_int (pv 3)) (pv 3))))
      (pss_cons (ps_set (i := 5) scLawDraw.nd rfl (.inl rfl) (pe_op op_mod (pe_callTy call_int1 (by rfl) B.int (by decide +kernel) (pa_cons (pe_op op_add (pe_op op_add (pv 5) (pe_op op_mul pe_int (pv 3))) pe_int) pa_nil)) pe_int))
      (pss_cons (ps_set (i := 5) scLawDraw.nd rfl (.inl rfl) (pe_op op_mod (pe_callTy call_int1 (by rfl) B.int (by decide +kernel) (pa_cons (pe_op op_add (pe_op op_mul (pv 5) (pe_op op_add (pv 5) pe_int)) (pe_op op_mul pe_int (pv 3))) pa_nil)) pe_int))
      (pss_one (ps_ret (pe_op op_mod (pe_callTy call_int1 (by rfl) B.int (by decide +kernel) (pa_cons (pe_op op_fdiv (pe_op op_mod (pe_callTy call_int1 (by rfl) B.int (by decide +kernel) (pa_cons (pe_op op_add (pe_op op_mul (pv 5) (pv 5)) (pe_op op_mul pe_int (pv 5))) pa_nil)) pe_int) pe_int) pa_nil)) (pv 1)))))))))))), ?_⟩
    have hpl : l ≠ p := ne_of hc hp (by intro z; cases z)
    refine ⟨_, rfl, p, _, rfl, dg_l hp, _, rfl, _, _, rfl, rfl, _, rfl, ite2 (fun e => ?_) (fun e => ?_)⟩
    · -- a digit of what is left
      refine ⟨_, rfl, p, _, rfl, dg_l hp, .inl ⟨_, rfl, _, rfl, _, _, rfl, rfl, s0, ?_⟩⟩
      refine ⟨_, rfl, p, _, rfl, dg_l hp, _, rfl, _, _, rfl, rfl, ⟨s0, s9⟩, _, rfl, p, _, rfl, dp_l _ hp, _, rfl, ?_⟩
      exact q _ _ (Int.emod_nonneg b (by omega)) (Int.emod_lt_of_pos b s0) but_upd ⟨l, a, _, cs, upd_same, by rw [upd_ne hpl]; exact hc, hlen, a0, by omega⟩
    · -- mixed from the next cell
      have n97 : CMul 97 a := .inl ⟨by decide, by decide⟩
      refine ⟨_, rfl, p, _, rfl, dg_a hp, ?_⟩
      refine ⟨_, rfl, _, _, rfl, rfl, _, rfl, p, _, rfl, dp_a _ hp, ?_⟩
      have hp1 : (upd H p (.dK (penD l (a + 1) b))) p = some (.dK (penD l (a + 1) b)) := upd_same
      have hc1 : (upd H p (.dK (penD l (a + 1) b))) l = some (.lst (List.map V.int cs)) := by rw [upd_ne hpl]; exact hc
      have k1 : But p H (upd H p (.dK (penD l (a + 1) b))) := but_upd
      generalize upd H p (.dK (penD l (a + 1) b)) = H1 at hp1 hc1 k1
      refine ⟨_, rfl, _, _, rfl, rfl, n97, _, _, rfl, rfl, ?_⟩
      refine ⟨fun σ' H' => ∃ c : Int, σ' = [some (.ref p), some (.int sp), none, some (.int a), some (.int c), none] ∧ Same H1 H', ?_, ?_⟩
      · refine ⟨_, rfl, p, _, rfl, dg_c hp1, Nat.zero_le _, fun t ht => ?_⟩
        have s2 : Same H1 (upd H1 t (.lst [])) := same_new ht
        refine ⟨.list (cs.map PyData.int), .list [], .lst (.inl (.inl (s2 _ _ hc1))) (dp_ints _ _ cs), .lst (.inl (.inl upd_same)) .nil, shaped_ints cs, shaped_ints [], _, rfl, ?_⟩
        rw [eqv_nil]
        cases cs with
        | nil => exact ⟨_, rfl, s2⟩
        | cons c0 cr =>
          have hp2 := s2 _ _ hp1
          have hc2 := s2 _ _ hc1
          have hn : (0 : Int) < (((List.map V.int (c0 :: cr)).length : Nat) : Int) := by
            rw [List.length_map, List.length_cons]
            omega
          have hi1 := Int.emod_nonneg a (show (((List.map V.int (c0 :: cr)).length : Nat) : Int) ≠ 0 by omega)
          have hi2 := Int.emod_lt_of_pos a hn
          have hlt : (a % (((List.map V.int (c0 :: cr)).length : Nat) : Int)).toNat < (c0 :: cr).length := by
            rw [List.length_map] at *
            omega
          refine iteT ⟨_, rfl, p, _, rfl, dg_c hp2, _, rfl, .inl ⟨_, rfl, _, rfl, p, _, rfl, dg_c hp2, l, _, rfl, .inl (.inl (.inl hc2)), _, _, rfl, rfl, hn, l, _, _, .int ((c0 :: cr)[(a % (((List.map V.int (c0 :: cr)).length : Nat) : Int)).toNat]'hlt), rfl, rfl, .inl (.inl hc2), ?_, _, rfl, s2⟩⟩
          refine at_of (j := (a % (((List.map V.int (c0 :: cr)).length : Nat) : Int)).toNat) (by omega) ?_
          rw [List.getElem?_map, List.getElem?_eq_getElem hlt]
          rfl
      · rintro σ' H' ⟨c, rfl, s2⟩
        have hp2 := s2 _ _ hp1
        have hc2 := s2 _ _ hc1
        have k2 : But p H H' := k1.trans (Same.but s2)
        have fin : ∀ r : Int, 0 ≤ r → r < sp → Q (.int r) H' := fun r r0 r1 => q r H' r0 r1 k2 ⟨l, a + 1, b, cs, hp2, hc2, hlen, by omega, by omega⟩
        refine ⟨fun σ'' H'' => σ'' = [some (.ref p), some (.int sp), none, some (.int a), some (.int c), none] ∧ H'' = H', ?_, ?_⟩
        · refine ⟨_, rfl, _, rfl, p, _, rfl, dg_c hp2, l, _, rfl, .inl (.inl (.inl hc2)), _, _, rfl, rfl, _, rfl, ite2 (fun e1 => ?_) (fun e1 => ?_)⟩
          · refine ⟨_, rfl, _, _, rfl, rfl, ⟨by decide, by decide, by decide⟩, _, _, rfl, rfl, _, rfl, ite2 (fun e2 => ?_) (fun e2 => ?_)⟩
            · refine ⟨_, rfl, _, _, rfl, rfl, ⟨by decide, by decide, by decide⟩, _, _, rfl, rfl, _, rfl, _, _, rfl, rfl, ⟨s0, s9⟩, _, rfl, p, _, rfl, dp_l _ hp2, ?_⟩
              refine ⟨_, rfl, _, _, rfl, rfl, ⟨by decide, by decide, by decide⟩, _, _, rfl, rfl, .inl ⟨_, rfl, _, rfl, _, _, rfl, rfl, s0, ?_⟩⟩
              exact q _ _ (Int.emod_nonneg _ (by omega)) (Int.emod_lt_of_pos _ s0) (k2.trans but_upd) ⟨l, a + 1, _, cs, upd_same, by rw [upd_ne hpl]; exact hc2, hlen, by omega, by omega⟩
            · exact ⟨rfl, rfl⟩
          · exact iteF ⟨rfl, rfl⟩
        · rintro σ'' H'' ⟨rfl, rfl⟩
          have cm : ∀ i j : Int, 0 ≤ i → i < 4294967296 → CMul i j := fun i j h1 h2 => .inl ⟨by omega, by omega⟩
          have cr : ∀ i j : Int, 0 ≤ j → j < 4294967296 → CMul i j := fun i j h1 h2 => .inr ⟨by omega, by omega⟩
          have po : ∀ z d : Int, 0 < d → d ≤ 4294967296 → 0 ≤ z % d ∧ z % d < 4294967296 := fun z d h1 h2 => ⟨Int.emod_nonneg z (by omega), Int.lt_of_lt_of_le (Int.emod_lt_of_pos z h1) h2⟩
          refine ⟨_, rfl, .inl ⟨_, rfl, _, _, rfl, rfl, (by show (0 : Int) < 2147482417; decide), _, _, rfl, rfl, cr _ _ (by decide) (by decide), _, rfl, _, _, rfl, rfl, cm _ _ (by decide) (by decide), _, rfl, _, _, rfl, rfl, cr _ _ a0 (by omega), _, _, rfl, rfl, ?_⟩⟩
          refine ⟨_, rfl, _, rfl, _, _, rfl, rfl, cm _ _ (by decide) (by decide), _, _, rfl, rfl, _, _, rfl, rfl, .inl ⟨_, rfl, _, _, rfl, rfl, (by show (0 : Int) < 2147482481; decide), ?_⟩⟩
          refine ⟨_, rfl, _, rfl, _, _, rfl, rfl, _, _, rfl, rfl, cm _ _ (po _ _ (by decide) (by decide)).1 (po _ _ (by decide) (by decide)).2, _, rfl, _, _, rfl, rfl, cm _ _ (by decide) (by decide), _, _, rfl, rfl, .inl ⟨_, rfl, _, _, rfl, rfl, (by show (0 : Int) < 2147482507; decide), ?_⟩⟩
          refine ⟨_, rfl, _, rfl, _, _, rfl, rfl, cm _ _ (po _ _ (by decide) (by decide)).1 (po _ _ (by decide) (by decide)).2, _, rfl, _, _, rfl, rfl, cm _ _ (by decide) (by decide), _, _, rfl, rfl, .inl ⟨_, rfl, _, _, rfl, rfl, (by show (0 : Int) < 2147482577; decide), _, _, rfl, rfl, ⟨by decide, by decide⟩, .inl ⟨_, rfl, _, rfl, _, _, rfl, rfl, s0, ?_⟩⟩⟩
          exact fin _ (Int.emod_nonneg _ (by omega)) (Int.emod_lt_of_pos _ s0)
end
end AW
set_option maxRecDepth 100000
set_option maxHeartbeats 4000000
/-! draws: _law_pick, _law_great, _law_signed, _law_far -/
namespace AW
open PySem PySem.Spec PyProof.Rows L2
def spPick : Sp := fun vs H Q _ => ∃ p t xs m, vs = [.ref p, .ref t] ∧ H t = some (.lst xs) ∧ 0 < xs.length ∧ xs.length < 1000 ∧ m ≤ 1000000 ∧ PenAt H p m ∧ ∀ v H', v ∈ xs → But p H H' → PenAt H' p (m + 1) → Q v H'
def spGreat : Sp := fun vs H Q _ => ∃ p g m, vs = [.ref p, .int g] ∧ 7 ≤ g ∧ g ≤ 98 ∧ m ≤ 900000 ∧ PenAt H p m ∧ ∀ r H', 0 ≤ r → Sm 350 r → But p H H' → PenAt H' p (m + 20) → Q (.int r) H'
def spSigned : Sp := fun vs H Q _ => ∃ p g m, vs = [.ref p, .int g] ∧ g ≤ 98 ∧ m ≤ 800000 ∧ PenAt H p m ∧ ∀ r H', Sm 350 r → But p H H' → PenAt H' p (m + 30) → Q (.int r) H'
def spFar : Sp := fun vs H Q _ => ∃ p g m, vs = [.ref p, .int g] ∧ g ≤ 49 ∧ m ≤ 700000 ∧ PenAt H p m ∧
  ∀ x y a t H', Sm 350 x → Sm 350 y → Sm 710 a → But p H H' → H' t = some (.tup [.int x, .int y, .int a]) → PenAt H' p (m + 200) → Q (.ref t) H'
section
variable {P : Program} {w : World} {K : PySem.W.Frag} {mg : Str → Option Value} {base : Heap}
theorem PenAt.ne {H : Hp} {p t : Addr} {m : Int} {o : HO} (h : PenAt H p m) (ht : H t = some o) (hd : ∀ kvs, o ≠ .dK kvs) : t ≠ p := by
  obtain ⟨l, a, b, cs, h1, _⟩ := h
  exact ne_of ht h1 (hd _)
theorem ok_pick {f : Addr} {fd : FuncData} (O : Own K mg "_law_pick" sLawPick ["_law_pen_here", "_law_items"] f fd) (B : Blt mg) (C : Cal P w K mg base CX0 "_law_draw" ["_law_pen_here", "_law_span"] 1 spDraw) :
    FnOk P w K mg base CX0 2 f fd ["_law_pen_here", "_law_items"] spPick := by
  refine O.F.ok scLawPick (fun vs H Q E h => ?_) (fun cdv A outer s H vs Q E hr h => ?_)
  · obtain ⟨p, t, xs, m, rfl, _⟩ := h
    rfl
  · obtain ⟨p, t, xs, m, rfl, ht, h0, h9, hm, hp, q⟩ := h
    have ntp : t ≠ p := hp.ne ht (by intro kvs z; cases z)
    refine ⟨_, pss_one (ps_ret (pe_ix ix_list (pv 1) (pe_cal C hr pass0 (pa_cons (pv 0) (pa_cons (pe_callB call_len_seq (by rfl) B.len PySem.boot_len (pa_cons (pv 1) pa_nil)) pa_nil))) (fun _ _ => rfl))), ?_⟩
    refine ⟨_, rfl, _, rfl, _, rfl, t, _, rfl, .inl (.inl (.inl ht)), p, _, m, rfl, by omega, by omega, hm, hp, fun r H' r0 r1 k pen => ?_⟩
    have hlt : r.toNat < xs.length := by omega
    refine ⟨t, xs, r, xs[r.toNat], rfl, rfl, .inl (.inl (k _ _ ntp ht)), at_of (j := r.toNat) (by omega) (List.getElem?_eq_getElem hlt), ?_⟩
    exact q _ _ (List.getElem_mem hlt) k pen
theorem ok_great {f : Addr} {fd : FuncData} (O : Own K mg "_law_great" sLawGreat ["_law_pen_here", "_law_figures"] f fd) (B : Blt mg) (C : Cal P w K mg base CX0 "_law_draw" ["_law_pen_here", "_law_span"] 1 spDraw) :
    FnOk P w K mg base CX0 2 f fd ["_law_pen_here", "_law_figures"] spGreat := by
  refine O.F.ok scLawGreat (fun vs H Q E h => ?_) (fun cdv A outer s H vs Q E hr h => ?_)
  · obtain ⟨p, g, m, rfl, _⟩ := h
    rfl
  · obtain ⟨p, g, m, rfl, g0, g9, hm, hp, q⟩ := h
    refine ⟨_, pss_cons (ps_set (i := 2) scLawGreat.nd rfl (.inl rfl) pe_int)
      (pss_cons (ps_for PassesOwn.never rfl (pi_range1 (by rfl) B.range (pa_cons (pe_op op_add pe_int (pe_cal C hr pass0 (pa_cons (pv 0) (pa_cons (pe_op op_fdiv (pv 1) pe_int) pa_nil)))) pa_nil)) (pg_name (i := 3) scLawGreat.nd rfl (.inl rfl))
        (pss_one (ps_set (i := 2) scLawGreat.nd rfl (.inl rfl) (pe_op op_add (pe_op op_mul (pv 2) (pe_op op_pow pe_int pe_int)) (pe_cal C hr pass0 (pa_cons (pv 0) (pa_cons (pe_op op_pow pe_int pe_int) pa_nil)))))))
      (pss_one (ps_ret (pv 2)))), ?_⟩
    refine ⟨_, rfl, _, rfl, _, _, rfl, rfl, ⟨by decide, by decide⟩, p, g / 7, m, rfl, by omega, by omega, by omega, hp, fun r H1 r0 r1 k1 p1 => ?_⟩
    refine ⟨_, _, rfl, rfl, 1 + r, rfl, by omega, by omega, for_range (n := (1 + r).toNat) (fun i σ H' => ∃ (z : Int) (v : Option V), σ = [some (.ref p), some (.int g), some (.int z), v] ∧ 0 ≤ z ∧ Sm (24 * i) z ∧ But p H H' ∧ PenAt H' p (m + 1 + i))
      ⟨0, none, rfl, Int.le_refl _, .lit (by decide), k1, p1.mono (by omega)⟩ ?_ ?_⟩
    · rintro i σ H' hi ⟨z, v, rfl, z0, zs, k2, p2⟩
      refine ⟨_, rfl, _, _, rfl, rfl, ⟨by decide, by decide, by decide⟩, _, _, rfl, rfl, .inr ⟨by decide, by decide⟩, _, rfl, _, _, rfl, rfl, ⟨by decide, by decide, by decide⟩, p, _, m + 1 + i, rfl, by decide, by decide, by omega, p2, fun r2 H3 r20 r21 k3 p3 => ?_⟩
      have e7 : (10 : Int) ^ (7 : Int).toNat = 10000000 := by decide
      refine ⟨_, _, rfl, rfl, z * (10 : Int) ^ (7 : Int).toNat + r2, _, rfl, ?_, ?_, k2.trans k3, p3.mono (by omega)⟩
      · rw [e7]
        omega
      · rw [e7] at r21 ⊢
        unfold Sm at zs ⊢
        rw [show 24 * (i + 1) = 24 * i + 24 by omega, Nat.pow_add]
        have e24 : 2 ^ 24 = 16777216 := by decide
        rw [e24]
        omega
    · rintro σ H' ⟨z, v, rfl, z0, zs, k2, p2⟩
      exact ⟨_, rfl, q z H' z0 (zs.mono (by omega)) k2 (p2.mono (by omega))⟩
theorem ok_signed {f : Addr} {fd : FuncData} (O : Own K mg "_law_signed" sLawSigned ["_law_pen_here", "_law_figures"] f fd) (C : Cal P w K mg base CX0 "_law_draw" ["_law_pen_here", "_law_span"] 1 spDraw) (C2 : Cal P w K mg base CX0 "_law_great" ["_law_pen_here", "_law_figures"] 2 spGreat) :
    FnOk P w K mg base CX0 3 f fd ["_law_pen_here", "_law_figures"] spSigned := by
  refine O.F.ok scLawSigned (fun vs H Q E h => ?_) (fun cdv A outer s H vs Q E hr h => ?_)
  · obtain ⟨p, g, m, rfl, _⟩ := h
    rfl
  · obtain ⟨p, g, m, rfl, g9, hm, hp, q⟩ := h
    have hr1 : Room 1 _ := hr.mono (by decide)
    refine ⟨_, C8.pss_cut (ps_set (i := 2) scLawSigned.nd rfl (.inl rfl) (pe_ifExp (PW.pt (pw_or (pt_cmpR op_lt (pv 1) pe_int (nomark _)) (pw_or1 (pt_cmpR op_eq (pe_cal C hr1 pass0 (pa_cons (pv 0) (pa_cons pe_int pa_nil))) pe_int (nomark _)))))
        (pe_cal C hr1 pass0 (pa_cons (pv 0) (pa_cons pe_int pa_nil))) (pe_cal C2 hr pass0 (pa_cons (pv 0) (pa_cons (pv 1) pa_nil)))))
      (pss_one (ps_ret (pe_ifExp (pt_cmpR op_eq (pe_cal C hr1 pass0 (pa_cons (pv 0) (pa_cons pe_int pa_nil))) pe_int (nomark _)) (pv 2) (pe_un un_neg (pv 2))))), ?_⟩
    refine ⟨fun σ' H' => ∃ z : Int, σ' = [some (.ref p), some (.int g), some (.int z)] ∧ Sm 350 z ∧ But p H H' ∧ PenAt H' p (m + 25), ?_, ?_⟩
    · have small : ∀ r : Int, 0 ≤ r → r < 12 → Sm 350 r := fun r h0 h1 => Sm.mono (n := 4) (by unfold Sm; omega) (by decide)
      refine ⟨_, rfl, _, _, rfl, rfl, _, rfl, ite2 (fun e => ?_) (fun e => ?_)⟩
      · refine iteT ⟨_, rfl, p, _, m, rfl, by decide, by decide, by omega, hp, fun r H1 r0 r1 k1 p1 => ?_⟩
        exact ⟨r, rfl, small r r0 r1, k1, p1.mono (by omega)⟩
      · have e1 : ¬ g < 7 := fun z => e (decide_eq_true z)
        refine ⟨_, rfl, p, _, m, rfl, by decide, by decide, by omega, hp, fun r H1 r0 r1 k1 p1 => ⟨rfl, _, rfl, ite2 (fun e2 => ?_) (fun e2 => ?_)⟩⟩
        · refine ⟨_, rfl, p, _, m + 1, rfl, by decide, by decide, by omega, p1, fun r2 H2 r20 r21 k2 p2 => ?_⟩
          exact ⟨r2, rfl, small r2 r20 r21, k1.trans k2, p2.mono (by omega)⟩
        · refine ⟨_, rfl, _, rfl, p, g, m + 1, rfl, by omega, g9, by omega, p1, fun r2 H2 r20 rs k2 p2 => ?_⟩
          exact ⟨r2, rfl, rs, k1.trans k2, p2.mono (by omega)⟩
    · rintro σ' H' ⟨z, rfl, zs, k1, p1⟩
      refine ⟨_, rfl, p, _, m + 25, rfl, by decide, by decide, by omega, p1, fun r H1 r0 r1 k2 p2 => ⟨rfl, _, rfl, ite2 (fun e2 => ?_) (fun e2 => ?_)⟩⟩
      · exact ⟨_, rfl, q z H1 zs (k1.trans k2) (p2.mono (by omega))⟩
      · exact ⟨_, rfl, _, rfl, q (-z) H1 zs.neg (k1.trans k2) (p2.mono (by omega))⟩
end
end AW
set_option maxRecDepth 100000
set_option maxHeartbeats 4000000
/-! _law_far, _law_gone -/
namespace AW
open PySem PySem.Spec PyProof.Rows L2
theorem sm_few {r : Int} (h0 : 0 ≤ r) (h1 : r < 16) : Sm 350 r := Sm.mono (n := 4) (by unfold Sm; omega) (by decide)
section
variable {P : Program} {w : World} {K : PySem.W.Frag} {mg : Str → Option Value} {base : Heap}
theorem ok_far {f : Addr} {fd : FuncData} (O : Own K mg "_law_far" sLawFar ["_law_pen_here", "_law_figures"] f fd) (B : Blt mg) (C : Cal P w K mg base CX0 "_law_draw" ["_law_pen_here", "_law_span"] 1 spDraw)
    (CS : Cal P w K mg base CX0 "_law_signed" ["_law_pen_here", "_law_figures"] 3 spSigned) (CP : Cal P w K mg base CX0 "_law_pick" ["_law_pen_here", "_law_items"] 2 spPick) :
    FnOk P w K mg base CX0 4 f fd ["_law_pen_here", "_law_figures"] spFar := by
  refine O.F.ok scLawFar (fun vs H Q E h => ?_) (fun cdv A outer s H vs Q E hr h => ?_)
  · obtain ⟨p, g, m, rfl, _⟩ := h
    rfl
  · obtain ⟨p, g, m, rfl, g9, hm, hp, q⟩ := h
    have hr1 : Room 1 _ := hr.mono (by decide)
    have hr2 : Room 2 _ := hr.mono (by decide)
    refine ⟨_, pss_cons (ps_par (i := 2) (j := 3) (by rfl) scLawFar.nd rfl rfl (by decide) rfl rfl (pa_cons (pe_cal CS hr pass0 (pa_cons (pv 0) (pa_cons (pv 1) pa_nil))) (pa_cons (pe_cal CS hr pass0 (pa_cons (pv 0) (pa_cons (pv 1) pa_nil))) pa_nil)) (by rfl))
      (pss_cons (ps_set (i := 4) scLawFar.nd rfl (.inl rfl) (pe_cal C hr1 pass0 (pa_cons (pv 0) (pa_cons pe_int pa_nil))))
      (pss_cons (ps_if (pt_cmpR op_eq (pv 4) pe_int (nomark _)) (pss_one (ps_ret (pe_tup (pa_cons (pv 2) (pa_cons (pv 3) (pa_cons (pe_cal CS hr pass0 (pa_cons (pv 0) (pa_cons (pe_op op_mul pe_int (pv 1)) pa_nil))) pa_nil)))))) pss_nil)
      (pss_cons (ps_par (i := 5) (j := 6) (by rfl) scLawFar.nd rfl rfl (by decide) rfl rfl (pa_cons (pe_op op_add (pe_callB call_abs (by rfl) B.abs (by decide +kernel) (pa_cons (pv 2) pa_nil)) (pe_cal C hr1 pass0 (pa_cons (pv 0) (pa_cons pe_int pa_nil))))
          (pa_cons (pe_op op_add (pe_callB call_abs (by rfl) B.abs (by decide +kernel) (pa_cons (pv 3) pa_nil)) (pe_cal C hr1 pass0 (pa_cons (pv 0) (pa_cons pe_int pa_nil)))) pa_nil)) (by rfl))
      (C8.pss_cut (ps_if (pt_cmpR op_gt (pv 4) pe_int (nomark _)) (pss_one (ps_par (i := 5) (j := 6) (by rfl) scLawFar.nd rfl rfl (by decide) rfl rfl (pa_cons (pe_op op_add (pe_callB (call_max2 rfl) (by rfl) B.max (by decide +kernel) (pa_cons (pv 5) (pa_cons (pv 6) pa_nil))) (pe_cal C hr1 pass0 (pa_cons (pv 0) (pa_cons pe_int pa_nil))))
          (pa_cons (pe_callB (call_max2 rfl) (by rfl) B.max (by decide +kernel) (pa_cons (pv 5) (pa_cons (pv 6) pa_nil))) pa_nil)) (by rfl))) pss_nil)
      (pss_cons (ps_set (i := 7) scLawFar.nd rfl (.inl rfl) (pe_op op_sub (pe_op op_add (pe_op op_mulX (pv 5) (pv 6)) (pe_cal C hr1 pass0 (pa_cons (pv 0) (pa_cons pe_int pa_nil)))) pe_int))
      (pss_one (ps_ret (pe_tup (pa_cons (pv 2) (pa_cons (pv 3) (pa_cons (pe_cal CP hr2 pass0 (pa_cons (pv 0) (pa_cons (pe_lst (pa_cons (pv 7) (pa_cons (pe_op op_sub (pe_op op_mulX (pv 2) (pv 3)) (pv 7)) pa_nil))) pa_nil))) pa_nil))))))))))), ?_⟩
    refine ⟨_, rfl, _, rfl, p, g, m, rfl, by omega, by omega, hp, fun x H1 sx k1 p1 => ⟨_, rfl, _, rfl, p, g, m + 30, rfl, by omega, by omega, p1, fun y H2 sy k2 p2 => ⟨_, _, rfl, ?_⟩⟩⟩
    refine ⟨_, rfl, p, _, m + 30 + 30, rfl, by decide, by decide, by omega, p2, fun pa H3 pa0 pa1 k3 p3 => ?_⟩
    have k03 := (k1.trans k2).trans k3
    refine ⟨_, rfl, rfl, _, rfl, ite2 (fun e => ?_) (fun e => ?_)⟩
    · refine ⟨_, rfl, _, rfl, _, rfl, _, rfl, _, _, rfl, rfl, .inl ⟨by decide, by decide⟩, p, 2 * g, m + 30 + 30 + 1, rfl, by omega, by omega, p3, fun a H4 sa k4 p4 => ?_⟩
      refine ⟨by show 3 ≤ sizeLine; decide, fun t ht => ?_⟩
      exact q x y a t _ sx sy (sa.mono (by decide)) ((k03.trans k4).trans (Same.but (same_new ht))) upd_same (PenAt.same (same_new ht) (p4.mono (by omega)))
    · refine ⟨_, rfl, _, rfl, _, rfl, p, _, m + 30 + 30 + 1, rfl, by decide, by decide, by omega, p3, fun d1 H4 d10 d11 k4 p4 => ⟨_, _, rfl, rfl, _, rfl, _, rfl, _, rfl, p, _, m + 30 + 30 + 1 + 1, rfl, by decide, by decide, by omega, p4, fun d2 H5 d20 d21 k5 p5 => ⟨_, _, rfl, rfl, _, _, rfl, ?_⟩⟩⟩
      have k05 := (k03.trans k4).trans k5
      have sw : Sm 351 (ab x + d1) := sx.ab.add (sm_few d10 (by omega))
      have sh : Sm 351 (ab y + d2) := sy.ab.add (sm_few d20 (by omega))
      refine ⟨fun σ' H' => ∃ u v : Int, σ' = [some (.ref p), some (.int g), some (.int x), some (.int y), some (.int pa), some (.int u), some (.int v), none] ∧ Sm 353 u ∧ Sm 353 v ∧ But p H H' ∧ PenAt H' p (m + 30 + 30 + 1 + 1 + 1 + 1), ?_, ?_⟩
      · refine ⟨_, rfl, _, _, rfl, rfl, _, rfl, ite2 (fun e2 => ?_) (fun e2 => ?_)⟩
        · have smx : Sm 351 (if ab y + d2 > ab x + d1 then ab y + d2 else ab x + d1) := by
            split
            · exact sh
            · exact sw
          refine ⟨_, rfl, _, rfl, _, _, rfl, _, rfl, p, _, m + 30 + 30 + 1 + 1 + 1, rfl, by decide, by decide, by omega, p5, fun d3 H6 d30 d31 k6 p6 => ⟨_, _, rfl, rfl, _, rfl, _, rfl, _, _, rfl, _, _, rfl, ?_⟩⟩
          exact ⟨_, _, rfl, (smx.add ((sm_few d30 (by omega)).mono (by decide))).mono (by decide), smx.mono (by decide), k05.trans k6, p6⟩
        · exact ⟨_, _, rfl, sw.mono (by decide), sh.mono (by decide), k05, p5.mono (by omega)⟩
      · rintro σ' H' ⟨u, v, rfl, su, sv, k6, p6⟩
        refine ⟨_, rfl, _, rfl, _, _, rfl, rfl, mulS su sv (by decide), _, rfl, p, _, m + 30 + 30 + 1 + 1 + 1 + 1, rfl, by decide, by decide, by omega, p6, fun d4 H7 d40 d41 k7 p7 => ⟨_, _, rfl, rfl, _, _, rfl, rfl, ?_⟩⟩
        have sa : Sm 708 (u * v + d4 - 2) := (((su.mul sv).add ((sm_few d40 (by omega)).mono (by decide))).sub ((sm_few (r := 2) (by decide) (by decide)).mono (by decide)))
        have sxy : Sm 709 (x * y - (u * v + d4 - 2)) := ((sx.mul sy).mono (by decide)).sub sa
        refine ⟨_, rfl, _, rfl, _, rfl, _, rfl, _, rfl, _, rfl, _, _, rfl, rfl, mulS sx sy (by decide), _, rfl, _, _, rfl, rfl, by show 2 ≤ sizeLine; decide, fun l hl => ?_⟩
        have s8 := same_new (o := .lst [.int (u * v + d4 - 2), .int (x * y - (u * v + d4 - 2))]) hl
        refine ⟨p, l, _, m + 30 + 30 + 1 + 1 + 1 + 1 + 1, rfl, upd_same, by show 0 < 2; decide, by show 2 < 1000; decide, by omega, PenAt.same s8 p7, fun z H9 hz k9 p9 => ?_⟩
        have hz' : ∃ a, z = .int a ∧ Sm 710 a := by
          rcases List.mem_cons.mp hz with rfl | hz
          · exact ⟨_, rfl, sa.mono (by decide)⟩
          · rcases List.mem_cons.mp hz with rfl | hz
            · exact ⟨_, rfl, sxy.mono (by decide)⟩
            · cases hz
        obtain ⟨a, rfl, saa⟩ := hz'
        refine ⟨by show 3 ≤ sizeLine; decide, fun t ht => ?_⟩
        exact q x y a t _ sx sy saa ((((k6.trans k7).trans (Same.but s8)).trans k9).trans (Same.but (same_new ht))) upd_same (PenAt.same (same_new ht) (p9.mono (by omega)))
end
end AW
/-! where all walks of a few steps lead -/
namespace AW
abbrev Spot := Int × Int × Int
/-- one step from a spot, by the code of its letter -/
def stp (c : Nat) (q : Spot) : Spot :=
  if c = 101 then (q.1 + 1, q.2.1, q.2.2) else if c = 119 then (q.1 + -1, q.2.1, q.2.2) else if c = 110 then (q.1, q.2.1 + 1, q.2.2 + q.1 * 1) else (q.1, q.2.1 - 1, q.2.2 - q.1 * 1)
def enws : List Nat := [101, 110, 119, 115]
/-- the areas of n steps hold the spot's -/
def reachB (n : Int) (q : Spot) : Bool := match areasOf q.1 q.2.1 n with
  | none => false
  | some (lo, hi) => decide (lo ≤ q.2.2) && decide (q.2.2 ≤ hi)
def Reach (n : Int) (q : Spot) : Prop := ∃ lo hi, areasOf q.1 q.2.1 n = some (lo, hi) ∧ lo ≤ q.2.2 ∧ q.2.2 ≤ hi
theorem reach_iff (n : Int) (q : Spot) : reachB n q = true ↔ Reach n q := by
  unfold reachB Reach
  cases h : areasOf q.1 q.2.1 n with
  | none => exact ⟨fun z => (nomatch z), fun ⟨_, _, z, _⟩ => (nomatch z)⟩
  | some p =>
    obtain ⟨lo, hi⟩ := p
    constructor
    · intro z
      have z := Bool.and_eq_true_iff.mp z
      exact ⟨lo, hi, rfl, of_decide_eq_true z.1, of_decide_eq_true z.2⟩
    · rintro ⟨lo', hi', z, z1, z2⟩
      have z := Option.some.inj z
      injection z with e1 e2
      subst e1
      subst e2
      exact Bool.and_eq_true_iff.mpr ⟨decide_eq_true z1, decide_eq_true z2⟩
/-! ### intervals -/
def ivl (lo hi : Int) : List Int := (List.range (hi + 1 - lo).toNat).map fun (i : Nat) => lo + (i : Int)
theorem mem_ivl {lo hi a : Int} : a ∈ ivl lo hi ↔ lo ≤ a ∧ a ≤ hi := by
  unfold ivl
  rw [List.mem_map]
  constructor
  · rintro ⟨i, hi', rfl⟩
    have := List.mem_range.mp hi'
    omega
  · intro h
    exact ⟨(a - lo).toNat, List.mem_range.mpr (by omega), by omega⟩
theorem ivl_up (lo hi : Int) : (ivl lo hi).Pairwise (· ≤ ·) := by
  unfold ivl
  rw [List.pairwise_map]
  exact List.Pairwise.imp (fun {a b} h => by omega) (List.pairwise_lt_range (n := (hi + 1 - lo).toNat))
theorem ivl_nodup (lo hi : Int) : (ivl lo hi).Nodup := by
  unfold ivl List.Nodup
  rw [List.pairwise_map]
  exact List.Pairwise.imp (fun {a b} h => by omega) (List.pairwise_lt_range (n := (hi + 1 - lo).toNat))
/-- a rising list without repeats that holds just these -/
theorem rising_ivl {lo hi : Int} {l r : List Int} (hn : l.Nodup) (hm : ∀ a, a ∈ l ↔ lo ≤ a ∧ a ≤ hi) (hp : r.Perm l) (hr : r.Pairwise (· ≤ ·)) : r = ivl lo hi := by
  have h1 : l.Perm (ivl lo hi) := (List.perm_ext_iff_of_nodup hn (ivl_nodup lo hi)).mpr fun a => (hm a).trans mem_ivl.symm
  exact List.Perm.eq_of_pairwise (le := (· ≤ ·)) (fun a b _ _ h1 h2 => by omega) hr (ivl_up lo hi) (hp.trans h1)
/-! ### all spots of n steps, for the few n -/
def spots (n : Int) : List Spot := (ivl (-n) n).flatMap fun x => (ivl (-n) n).flatMap fun y => match areasOf x y n with
  | none => []
  | some (lo, hi) => (ivl lo hi).map fun a => (x, y, a)
theorem far_none {x y n : Int} (h : ¬ (-n ≤ x ∧ x ≤ n ∧ -n ≤ y ∧ y ≤ n)) : areasOf x y n = none := by
  rw [areas_none]
  left
  unfold ab
  split <;> split <;> omega
theorem mem_spots {n : Int} {q : Spot} : q ∈ spots n ↔ Reach n q := by
  obtain ⟨x, y, a⟩ := q
  unfold spots Reach
  rw [List.mem_flatMap]
  constructor
  · rintro ⟨x', hx, h⟩
    obtain ⟨y', hy, h⟩ := List.mem_flatMap.mp h
    cases e : areasOf x' y' n with
    | none =>
      rw [e] at h
      cases h
    | some p =>
      obtain ⟨lo, hi⟩ := p
      rw [e] at h
      obtain ⟨a', ha, h⟩ := List.mem_map.mp h
      injection h with h1 h2
      injection h2 with h2 h3
      subst h1
      subst h2
      subst h3
      exact ⟨lo, hi, e, mem_ivl.mp ha⟩
  · rintro ⟨lo, hi, e, h⟩
    have e : areasOf x y n = some (lo, hi) := e
    have hb : -n ≤ x ∧ x ≤ n ∧ -n ≤ y ∧ y ≤ n := by
      by_cases z : -n ≤ x ∧ x ≤ n ∧ -n ≤ y ∧ y ≤ n
      · exact z
      · rw [far_none z] at e
        cases e
    refine ⟨x, mem_ivl.mpr ⟨hb.1, hb.2.1⟩, List.mem_flatMap.mpr ⟨y, mem_ivl.mpr hb.2.2, ?_⟩⟩
    rw [e]
    exact List.mem_map.mpr ⟨a, mem_ivl.mpr h, rfl⟩
/-- one step back -/
def bck (c : Nat) (q : Spot) : Spot := if c = 101 then (q.1 - 1, q.2.1, q.2.2) else if c = 119 then (q.1 + 1, q.2.1, q.2.2) else if c = 110 then (q.1, q.2.1 - 1, q.2.2 - q.1) else (q.1, q.2.1 + 1, q.2.2 + q.1)
theorem stp_bck (c : Nat) (q : Spot) : stp c (bck c q) = q := by
  obtain ⟨x, y, a⟩ := q
  unfold stp bck
  split
  · show (x - 1 + 1, y, a) = (x, y, a)
    rw [Int.sub_add_cancel]
  · split
    · show (x + 1 + -1, y, a) = (x, y, a)
      rw [Int.add_neg_cancel_right]
    · split
      · show (x, y - 1 + 1, a - x + x * 1) = (x, y, a)
        rw [Int.sub_add_cancel, Int.mul_one, Int.sub_add_cancel]
      · show (x, y + 1 - 1, a + x - x * 1) = (x, y, a)
        rw [Int.mul_one, Int.add_sub_cancel, Int.add_sub_cancel]
def stepB (n : Int) : Bool := ((spots n).all fun q => enws.all fun c => reachB (n + 1) (stp c q)) && ((spots (n + 1)).all fun q => enws.any fun c => reachB n (bck c q))
set_option maxRecDepth 100000 in
theorem step_few : ([0, 1, 2, 3, 4, 5, 6] : List Int).all stepB = true := by decide +kernel
theorem step_ok {n : Int} (h0 : 0 ≤ n) (h1 : n < 7) : stepB n = true := by
  have h := List.all_eq_true.mp step_few n
  refine h ?_
  have e : n = 0 ∨ n = 1 ∨ n = 2 ∨ n = 3 ∨ n = 4 ∨ n = 5 ∨ n = 6 := by omega
  rcases e with rfl | rfl | rfl | rfl | rfl | rfl | rfl <;> simp
/-- the spots of one step more -/
theorem reach_step {n : Int} (h0 : 0 ≤ n) (h1 : n < 7) (q : Spot) : Reach (n + 1) q ↔ ∃ p, Reach n p ∧ ∃ c, c ∈ enws ∧ q = stp c p := by
  have h := Bool.and_eq_true_iff.mp (step_ok h0 h1)
  constructor
  · intro r
    have z := List.all_eq_true.mp h.2 q (mem_spots.mpr r)
    obtain ⟨c, hc, z⟩ := List.any_eq_true.mp z
    exact ⟨bck c q, (reach_iff n _).mp z, c, hc, (stp_bck c q).symm⟩
  · rintro ⟨p, r, c, hc, rfl⟩
    exact (reach_iff _ _).mp (List.all_eq_true.mp (List.all_eq_true.mp h.1 p (mem_spots.mpr r)) c hc)
theorem reach_zero (q : Spot) : Reach 0 q ↔ q = (0, 0, 0) := by
  rw [← mem_spots]
  have e : spots 0 = [(0, 0, 0)] := by decide +kernel
  rw [e]
  exact List.mem_singleton
/-! ### the areas over one end -/
def areasAt (ks : List Spot) (x y : Int) : List Int := (ks.filter fun q => decide (q.1 = x ∧ q.2.1 = y)).map (·.2.2)
theorem areasAt_snoc (ks : List Spot) (q : Spot) (x y : Int) : areasAt (ks ++ [q]) x y = if q.1 = x ∧ q.2.1 = y then areasAt ks x y ++ [q.2.2] else areasAt ks x y := by
  unfold areasAt
  rw [List.filter_append]
  split
  · rename_i h
    rw [List.filter_cons_of_pos (by exact decide_eq_true h), List.filter_nil, List.map_append]
    rfl
  · rename_i h
    rw [List.filter_cons_of_neg (by simpa using h), List.filter_nil, List.append_nil]
theorem mem_areasAt {ks : List Spot} {x y a : Int} : a ∈ areasAt ks x y ↔ (x, y, a) ∈ ks := by
  unfold areasAt
  rw [List.mem_map]
  constructor
  · rintro ⟨⟨x', y', a'⟩, h, rfl⟩
    obtain ⟨h1, h2⟩ := List.mem_filter.mp h
    have h2 := of_decide_eq_true h2
    rw [← h2.1, ← h2.2]
    exact h1
  · intro h
    exact ⟨(x, y, a), List.mem_filter.mpr ⟨h, decide_eq_true ⟨rfl, rfl⟩⟩, rfl⟩
theorem nodup_areasAt {ks : List Spot} (h : ks.Nodup) (x y : Int) : (areasAt ks x y).Nodup := by
  unfold areasAt List.Nodup
  rw [List.pairwise_map]
  refine List.Pairwise.imp_of_mem (fun {p q} hp hq hne e => ?_) (List.Pairwise.filter _ h)
  have h1 := of_decide_eq_true (List.mem_filter.mp hp).2
  have h2 := of_decide_eq_true (List.mem_filter.mp hq).2
  obtain ⟨px, py, pa⟩ := p
  obtain ⟨qx, qy, qa⟩ := q
  apply hne
  have e : pa = qa := e
  have e1 : px = qx := h1.1.trans h2.1.symm
  have e2 : py = qy := h1.2.trans h2.2.symm
  rw [e, e1, e2]
end AW
set_option maxRecDepth 100000
set_option maxHeartbeats 4000000
/-! _law_gone; a dict of spots -/
namespace AW
open PySem PySem.Spec PyProof.Rows L2
theorem ifT {c : Bool} {A B : Prop} (hc : c = true) (h : A) : if c = true then A else B := by
  rw [if_pos hc]
  exact h
theorem ifF {c : Bool} {A B : Prop} (hc : c = false) (h : B) : if c = true then A else B := by
  rw [hc, if_neg Bool.false_ne_true]
  exact h
def tup3 (q : Spot) : List V := [.int q.1, .int q.2.1, .int q.2.2]
def key3 (q : Spot) : List Key := [.inl q.1, .inl q.2.1, .inl q.2.2]
theorem key3_tup (q : Spot) : (key3 q).map kV = tup3 q := rfl
theorem key3_inj {p q : Spot} (h : key3 p = key3 q) : p = q := by
  obtain ⟨x, y, a⟩ := p
  obtain ⟨x', y', a'⟩ := q
  unfold key3 at h
  injection h with h1 h
  injection h with h2 h
  injection h with h3 h
  have h1 := Sum.inl.inj h1
  have h2 := Sum.inl.inj h2
  have h3 := Sum.inl.inj h3
  have h1 : x = x' := h1
  have h2 : y = y' := h2
  have h3 : a = a' := h3
  rw [h1, h2, h3]
def sgn (c : Nat) : Str := ⟨#[c]⟩
def spGone : Sp := fun vs H Q _ => ∃ t c q, vs = [.ref t, .str (sgn c), .int 1] ∧ c ∈ enws ∧ H t = some (.tup (tup3 q)) ∧ ∀ p H', Same H H' → H p = none → H' p = some (.tup (tup3 (stp c q))) → Q (.ref p) H'
theorem enws_cases {c : Nat} (h : c ∈ enws) : c = 101 ∨ c = 110 ∨ c = 119 ∨ c = 115 := by
  unfold enws at h
  simpa using h
theorem ew_e : decide (101 ∈ ("ew" : Str).cps.toList) = true := by decide +kernel
theorem ew_w : decide (119 ∈ ("ew" : Str).cps.toList) = true := by decide +kernel
theorem ew_n : decide (110 ∈ ("ew" : Str).cps.toList) = false := by decide +kernel
theorem ew_s : decide (115 ∈ ("ew" : Str).cps.toList) = false := by decide +kernel
theorem is_e : decide (V.str (sgn 101) = V.str "e") = true := by decide +kernel
theorem is_ew : decide (V.str (sgn 119) = V.str "e") = false := by decide +kernel
theorem is_n : decide (V.str (sgn 110) = V.str "n") = true := by decide +kernel
theorem is_ns : decide (V.str (sgn 115) = V.str "n") = false := by decide +kernel
section
variable {P : Program} {w : World} {K : PySem.W.Frag} {mg : Str → Option Value} {base : Heap}
theorem ok_gone {f : Addr} {fd : FuncData} (O : Own K mg "_law_gone" sLawGone ["_law_spot", "_law_letter", "_law_times"] f fd) : FnOk P w K mg base CX0 1 f fd ["_law_spot", "_law_letter", "_law_times"] spGone := by
  refine O.F.ok scLawGone (fun vs H Q E h => ?_) (fun cdv A outer s H vs Q E hr h => ?_)
  · obtain ⟨t, c, q, rfl, _⟩ := h
    rfl
  · obtain ⟨t, c, ⟨x, y, a⟩, rfl, hc, ht, q⟩ := h
    refine ⟨_, pss_cons (ps_asg (pv 0) (pg_tup (by rfl) (pgs_cons (pg_name (i := 3) scLawGone.nd rfl (.inl rfl)) (pgs_cons (pg_name (i := 4) scLawGone.nd rfl (.inl rfl)) (pgs_cons (pg_name (i := 5) scLawGone.nd rfl (.inl rfl)) pgs_nil)))))
      (pss_cons (ps_if (pt_cmpR op_in_sign (pv 1) pe_str rfl) (pss_one (ps_ret (pe_tup (pa_cons (pe_op op_add (pv 3) (pe_ifExp (pt_cmpR op_eq (pv 1) pe_str (nomark _)) (pv 2) (pe_un un_neg (pv 2)))) (pa_cons (pv 4) (pa_cons (pv 5) pa_nil)))))) pss_nil)
      (pss_cons (ps_if (pt_cmpR op_eq (pv 1) pe_str (nomark _)) (pss_one (ps_ret (pe_tup (pa_cons (pv 3) (pa_cons (pe_op op_add (pv 4) (pv 2)) (pa_cons (pe_op op_add (pv 5) (pe_op op_mul (pv 3) (pv 2))) pa_nil)))))) pss_nil)
      (pss_one (ps_ret (pe_tup (pa_cons (pv 3) (pa_cons (pe_op op_sub (pv 4) (pv 2)) (pa_cons (pe_op op_sub (pv 5) (pe_op op_mul (pv 3) (pv 2))) pa_nil)))))))), ?_⟩
    refine ⟨_, rfl, t, _, rfl, .inl (.inl ht), rfl, _, _, rfl, _, _, rfl, _, _, rfl, rfl, ?_⟩
    refine ⟨_, rfl, c, _, rfl, rfl, _, rfl, ?_⟩
    rcases enws_cases hc with rfl | rfl | rfl | rfl
    · refine ifT ew_e ⟨_, rfl, _, rfl, rfl, _, rfl, ifT is_e ⟨_, rfl, _, _, rfl, rfl, _, rfl, _, rfl, by show 3 ≤ sizeLine; decide, fun p hp => ?_⟩⟩
      exact q p _ (same_new hp) hp upd_same
    · refine ifF ew_n ⟨_, rfl, rfl, _, rfl, ifT is_n ⟨_, rfl, _, rfl, _, rfl, _, _, rfl, rfl, _, rfl, _, rfl, _, rfl, _, _, rfl, rfl, .inr ⟨by decide, by decide⟩, _, _, rfl, rfl, by show 3 ≤ sizeLine; decide, fun p hp => ?_⟩⟩
      exact q p _ (same_new hp) hp upd_same
    · refine ifT ew_w ⟨_, rfl, _, rfl, rfl, _, rfl, ifF is_ew ⟨_, rfl, _, rfl, _, _, rfl, rfl, _, rfl, _, rfl, by show 3 ≤ sizeLine; decide, fun p hp => ?_⟩⟩
      exact q p _ (same_new hp) hp upd_same
    · refine ifF ew_s ⟨_, rfl, rfl, _, rfl, ifF is_ns ⟨_, rfl, _, rfl, _, rfl, _, _, rfl, rfl, _, rfl, _, rfl, _, rfl, _, _, rfl, rfl, .inr ⟨by decide, by decide⟩, _, _, rfl, rfl, by show 3 ≤ sizeLine; decide, fun p hp => ?_⟩⟩
      exact q p _ (same_new hp) hp upd_same
end
end AW
set_option maxRecDepth 100000
set_option maxHeartbeats 4000000
/-! {k: v}, k a tuple; the dicts of spots -/
namespace AW
open PySem PySem.Spec PyProof.Rows L2
/-- {k: v} with a tuple as its key: the dict stands empty while k and v are made -/
def tDisp1 (tk tv : TE) : TE := fun σ H Q => ∀ p, H p = none → tk σ (upd H p (.dT [])) fun x H1 => tv σ H1 fun y H2 => H2 p = some (.dT []) ∧ ∃ (k : List Key) (b : Addr), x = .ref b ∧ H2 b = some (.tup (k.map kV)) ∧ Q (.ref p) (upd H2 p (.dT [(k, y)]))
section
variable {X : Cx}
theorem pe_disp1 {pos : Pos} {ke ve : Expr} {tk tv : TE} (hu : X.A.units < cLine) (hk : PE X ke tk) (hv : PE X ve tv) : PE X (.Dict [some ke] [ve] pos) (tDisp1 tk tv) := by
  refine ⟨fun pins s σ H Q I q => ?_⟩
  have hn := I.hok.fresh (Nat.le_refl s.heap.objs.size)
  have I1 := I.laid (a := s.heap.objs.size) (o := .dT []) (h' := s.heap.push { cls := .type "dict", data := .dict #[] }) (t' := s.toks) (fun _ _ q => Heap.get?_push_of_some _ q) (Nat.le_refl _) (dt_empty s.heap I.big)
  refine wpAny_Dict_any (by rfl) (by rfl) (by intro z; cases z) (by show 1 ≤ 15; decide) ?_
  refine pairTrees_cons_walk (thn (hk.run pins _ σ _ _ I1 (q _ hn)) fun u s1 hh => ?_)
  obtain ⟨x, H1, I2, rx, q1⟩ := hh
  refine thn (hv.run pins s1 σ H1 _ I2 q1) fun r s2 hh => ?_
  obtain ⟨y, H2, I3, ry, e, k, b, ex, eb, q2⟩ := hh
  refine pairTrees_nil_walk ?_
  subst ex
  cases (show u = Value.ref b from rx)
  obtain ⟨z, hd, xs, rel, dd⟩ := dt_of I3.hok e
  cases rel
  unfold storeAll
  rw [List.forIn_cons]
  refine wpAny_bind (wpAny_bind (wpAny_dictSet_heap (hsz := by show 0 ≤ sizeLine; exact Nat.zero_le _) (knd := tupleKind (mixKind X.prog X.w)) hu (key_of I3.hok eb) dd fun h' dd' hs => wpAny_pure ?_))
  dsimp only
  rw [List.forIn_nil]
  refine wpAny_pure ⟨.ref s.heap.objs.size, _, ?_, rfl, q2⟩
  obtain ⟨o, es, ep, ho, h2, h3, h4, _, h5⟩ := dd'
  refine d_write I3 (by rw [e]; exact True.intro) hs ⟨o, ho⟩ ⟨by show 1 ≤ sizeLine; decide, hd, [(k, b, r)], .cons ⟨rfl, ?_, ry⟩ .nil, o, es, ep, ho, h2, h3, h4, h5⟩
  rw [upd_ne (ne_of eb e (fun z => nomatch z))]
  exact eb
end
end AW
set_option maxRecDepth 100000
set_option maxHeartbeats 8000000
/-! _law_ends: where all walks of a few steps lead, areas by ends -/
namespace AW
open PySem PySem.Spec PyProof.Rows L2
def tks (ks : List Spot) : List (List Key × V) := ks.map fun q => (key3 q, V.bl true)
def ins (ks : List Spot) (q : Spot) : List Spot := if q ∈ ks then ks else ks ++ [q]
theorem tks_any (ks : List Spot) (q : Spot) : ((tks ks).any fun kv => decide (kv.1 = key3 q)) = decide (q ∈ ks) := by
  unfold tks
  rw [List.any_map]
  by_cases h : q ∈ ks
  · rw [decide_eq_true h]
    exact List.any_eq_true.mpr ⟨q, h, decide_eq_true rfl⟩
  · rw [decide_eq_false h]
    refine List.any_eq_false.mpr fun p hp z => h ?_
    have e := key3_inj (of_decide_eq_true z)
    rw [← e]
    exact hp
theorem tks_put (ks : List Spot) (q : Spot) : putK (tks ks) (key3 q) (V.bl true) = tks (ins ks q) := by
  unfold putK ins
  rw [tks_any]
  by_cases h : q ∈ ks
  · rw [if_pos (decide_eq_true h), if_pos h]
    unfold tks
    rw [List.map_map]
    refine List.map_congr_left fun p _ => ?_
    show (if key3 p = key3 q then (key3 p, V.bl true) else (key3 p, V.bl true)) = (key3 p, V.bl true)
    rw [ite_self]
  · rw [if_neg (by rw [decide_eq_false h]; decide), if_neg h]
    unfold tks
    rw [List.map_append]
    rfl
theorem mem_ins {ks : List Spot} {q p : Spot} : p ∈ ins ks q ↔ p ∈ ks ∨ p = q := by
  unfold ins
  split
  · rename_i h
    exact ⟨.inl, fun z => z.elim id fun e => by rw [e]; exact h⟩
  · rw [List.mem_append, List.mem_singleton]
theorem nodup_ins {ks : List Spot} {q : Spot} (h : ks.Nodup) : (ins ks q).Nodup := by
  unfold ins
  split
  · exact h
  · rename_i hq
    refine List.nodup_append.mpr ⟨h, by simp, fun a ha b hb e => ?_⟩
    rw [List.mem_singleton] at hb
    rw [e, hb] at ha
    exact hq ha
theorem length_ins (ks : List Spot) (q : Spot) : (ins ks q).length ≤ ks.length + 1 := by
  unfold ins
  split
  · omega
  · rw [List.length_append, List.length_singleton]
    omega
theorem tks_length (ks : List Spot) : (tks ks).length = ks.length := List.length_map ..
theorem tks_at {ks : List Spot} {i : Nat} {k : List Key} {v : V} (h : (tks ks)[i]? = some (k, v)) : ∃ p, ks[i]? = some p ∧ k = key3 p := by
  unfold tks at h
  rw [List.getElem?_map] at h
  cases e : ks[i]? with
  | none =>
    rw [e] at h
    cases h
  | some p =>
    rw [e] at h
    have h := Option.some.inj h
    injection h with h1 _
    exact ⟨p, rfl, h1.symm⟩
def key2 (x y : Int) : List Key := [.inl x, .inl y]
theorem key2_inj {x y x' y' : Int} (h : key2 x y = key2 x' y') : x = x' ∧ y = y' := by
  unfold key2 at h
  injection h with h1 h
  injection h with h2 h
  exact ⟨Sum.inl.inj h1, Sum.inl.inj h2⟩
/-- the areas over each end, as the dict at e has them -/
def EndsAt (H : Hp) (e : Addr) (n : Int) : Prop := ∃ evs : List (List Key × V), H e = some (.dT evs) ∧ ∀ x y : Int, ∃ L : List Int, L.Nodup ∧ L.length ≤ 100000 ∧ (∀ a, a ∈ L ↔ Reach n (x, y, a)) ∧
  ((valV evs (key2 x y) = none ∧ L = []) ∨ ∃ l, valV evs (key2 x y) = some (.ref l) ∧ H l = some (.lst (L.map V.int)))
def spEnds : Sp := fun vs H Q _ => ∃ n, vs = [.int n] ∧ 0 ≤ n ∧ n ≤ 7 ∧ ∀ e H', Same H H' → EndsAt H' e n → Q (.ref e) H'
theorem enws_cps : ("enws" : Str).cps = #[101, 110, 119, 115] := by decide +kernel
theorem enws_at {k c : Nat} (h : ("enws" : Str).cps[k]? = some c) : enws[k]? = some c := by
  rw [enws_cps] at h
  unfold enws
  simpa using h
theorem enws_size : ("enws" : Str).cps.size = 4 := by
  rw [enws_cps]
  rfl
theorem take_more {α : Type} {l : List α} {i : Nat} {x : α} (h : l[i]? = some x) (y : α) : y ∈ l.take (i + 1) ↔ y ∈ l.take i ∨ y = x := by
  rw [List.take_add_one, h, List.mem_append]
  show _ ∨ y ∈ [x] ↔ _
  rw [List.mem_singleton]
section
variable {P : Program} {w : World} {K : PySem.W.Frag} {mg : Str → Option Value} {base : Heap}
theorem ok_ends {f : Addr} {fd : FuncData} (O : Own K mg "_law_ends" sLawEnds ["_law_number"] f fd) (B : Blt mg) (C : Cal P w K mg base CX0 "_law_gone" ["_law_spot", "_law_letter", "_law_times"] 1 spGone) :
    FnOk P w K mg base CX0 2 f fd ["_law_number"] spEnds := by
  refine O.F.ok scLawEnds (fun vs H Q E h => ?_) (fun cdv A outer s H vs Q E hr h => ?_)
  · obtain ⟨n, rfl, _⟩ := h
    rfl
  · obtain ⟨n, rfl, n0, n7, q⟩ := h
    have hu := hu_of hr
    refine ⟨_, pss_cons (ps_set (i := 1) scLawEnds.nd rfl (.inl rfl) (pe_disp1 hr.units0 (pe_tup (pa_cons pe_int (pa_cons pe_int (pa_cons pe_int pa_nil)))) pe_bl))
      (C8.pss_cut (ps_for PassesOwn.never rfl (pi_range1 (by rfl) B.range (pa_cons (pv 0) pa_nil)) (pg_name (i := 2) scLawEnds.nd rfl (.inl rfl))
        (pss_cons (ps_set (i := 3) scLawEnds.nd rfl (.inl rfl) pe_dnewT)
        (pss_cons (ps_lock (ps_for PassesOwn.never rfl (pi_keys (pv 1)) (pg_name (i := 4) scLawEnds.nd rfl (.inl rfl))
          (pss_one (ps_for PassesOwn.never rfl (pi_str pe_str) (pg_name (i := 5) scLawEnds.nd rfl (.inl rfl))
            (pss_one (ps_dput hu (pv 3) (pe_cal C hr pass0 (pa_cons (pv 4) (pa_cons (pv 5) (pa_cons pe_int pa_nil)))) pe_bl rfl))))))
        (pss_one (ps_set (i := 1) scLawEnds.nd rfl (.inl rfl) (pv 3))))))
      (pss_cons (ps_set (i := 6) scLawEnds.nd rfl (.inl rfl) pe_dnewT)
      (pss_cons (ps_lock (ps_for PassesOwn.never rfl (pi_keys (pv 1)) (pg_tup (by rfl) (pgs_cons (pg_name (i := 7) scLawEnds.nd rfl (.inl rfl)) (pgs_cons (pg_name (i := 8) scLawEnds.nd rfl (.inl rfl)) (pgs_cons (pg_name (i := 9) scLawEnds.nd rfl (.inl rfl)) pgs_nil))))
          (pss_one (ps_dput hu (pv 6) (pe_tup (pa_cons (pv 7) (pa_cons (pv 8) pa_nil))) (pe_op op_cat (pe_dget2 hu (pv 6) (pe_tup (pa_cons (pv 7) (pa_cons (pv 8) pa_nil))) (pe_lst pa_nil) ⟨by rfl, by rfl, by rfl, by rfl⟩) (pe_lst (pa_cons (pv 9) pa_nil))) rfl))))
      (pss_one (ps_ret (pv 6)))))), ?_⟩
    refine fun p hp => ⟨by show 3 ≤ sizeLine; decide, fun t ht => ?_⟩
    have npt : p ≠ t := ne_of_none upd_same ht
    refine ⟨by rw [upd_ne npt, upd_same], key3 (0, 0, 0), t, rfl, upd_same, ?_⟩
    have s1 : Same H (upd (upd (upd H p (.dT [])) t (.tup [V.int 0, V.int 0, V.int 0])) p (.dT [(key3 (0, 0, 0), V.bl true)])) := fun b o e => by
      rw [upd_ne (ne_of_none e hp)]
      exact same_new ht _ _ (same_new hp _ _ e)
    have hd1 : (upd (upd (upd H p (.dT [])) t (.tup [V.int 0, V.int 0, V.int 0])) p (.dT [(key3 (0, 0, 0), V.bl true)])) p = some (.dT (tks [(0, 0, 0)])) := upd_same
    generalize (upd (upd (upd H p (.dT [])) t (.tup [V.int 0, V.int 0, V.int 0])) p (.dT [(key3 (0, 0, 0), V.bl true)])) = H1 at s1 hd1
    have pw : ∀ i : Nat, i ≤ 7 → 4 ^ i ≤ 16384 := fun i hi => Nat.le_trans (Nat.pow_le_pow_right (by decide) hi) (by decide)
    have sz : ∀ k : Nat, k < 100000 → k < sizeLine := fun k hk => Nat.lt_of_lt_of_le hk (by decide)
    refine ⟨fun σ' H' => ∃ (d : Addr) (ks : List Spot) (v2 v3 v4 v5 : Option V), σ' = [some (.int n), some (.ref d), v2, v3, v4, v5, none, none, none, none] ∧ Same H H' ∧ H' d = some (.dT (tks ks)) ∧ ks.Nodup ∧ (∀ q, q ∈ ks ↔ Reach n q) ∧ ks.length ≤ 16384, ?_, ?_⟩
    · -- the levels
      refine ⟨_, rfl, n, rfl, by omega, by omega, for_range (n := n.toNat) (fun i σ' H' => ∃ (d : Addr) (ks : List Spot) (v2 v3 v4 v5 : Option V), σ' = [some (.int n), some (.ref d), v2, v3, v4, v5, none, none, none, none] ∧ Same H H' ∧ H' d = some (.dT (tks ks)) ∧ ks.Nodup ∧ (∀ q, q ∈ ks ↔ Reach (i : Int) q) ∧ ks.length ≤ 4 ^ i)
        ⟨p, [(0, 0, 0)], none, none, none, none, rfl, s1, hd1, by simp, fun q => by rw [List.mem_singleton]; exact (reach_zero q).symm, Nat.le_refl _⟩ ?_ ?_⟩
      · rintro i σ1 Ha hi ⟨d, ks, v2, v3, v4, v5, rfl, sa, hd, nd, mem, len⟩
        have len' : ks.length ≤ 4096 := Nat.le_trans len (Nat.le_trans (Nat.pow_le_pow_right (by decide) (show i ≤ 6 by omega)) (by decide))
        -- later = {}
        refine fun d2 hd2 => ?_
        have nd2 : d ≠ d2 := ne_of_none hd hd2
        have sb : Same Ha (upd Ha d2 (.dT [])) := same_new hd2
        refine ⟨d, .dT (tks ks), sb _ _ hd, trivial, fun od => ?_⟩
        refine ⟨_, rfl, d, od, rfl, .inr ⟨tks ks, upd_same, ?_⟩⟩
        refine for_it walk_keysT (fun j σ2 Hb => ∃ (ls : List Spot) (v4 v5 : Option V), σ2 = [some (.int n), some (.ref d), some (.int (0 + (i : Int))), some (.ref d2), v4, v5, none, none, none, none] ∧ Hb d = some (.frz od (.dT (tks ks))) ∧ Hb d2 = some (.dT (tks ls)) ∧ But d Ha Hb ∧
          ls.Nodup ∧ (∀ q, q ∈ ls ↔ ∃ p, p ∈ ks.take j ∧ ∃ c, c ∈ enws ∧ q = stp c p) ∧ ls.length ≤ 4 * j) ?_ (fun j σ2 Hb _ hP => ?_) ?_ ?_
        · refine ⟨[], v4, v5, rfl, upd_same, ?_, ?_, by simp, fun q => ⟨fun z => (nomatch z), fun ⟨_, z, _⟩ => (nomatch z)⟩, Nat.le_refl _⟩
          · rw [upd_ne nd2.symm, upd_same]
            rfl
          · exact fun b o nb e => by
              rw [upd_ne nb]
              exact sb _ _ e
        · obtain ⟨_, _, _, _, hf, _⟩ := hP
          exact hf
        · rintro j x σ2 Hb _ hj ⟨ls, w4, w5, rfl, hf, h2, kb, nl, ml, ll⟩ ⟨rfl, k, v, qa, hk, rfl, hq⟩
          obtain ⟨sp, hsp, rfl⟩ := tks_at hk
          rw [tks_length] at hj
          refine ⟨_, rfl, for_it walk_str (fun k σ3 Hc => ∃ (ms : List Spot) (v5 : Option V), σ3 = [some (.int n), some (.ref d), some (.int (0 + (i : Int))), some (.ref d2), some (.ref qa), v5, none, none, none, none] ∧ Hc d = some (.frz od (.dT (tks ks))) ∧ Hc d2 = some (.dT (tks ms)) ∧ But d Ha Hc ∧
            Hc qa = some (.tup (tup3 sp)) ∧ ms.Nodup ∧ (∀ q, q ∈ ms ↔ q ∈ ls ∨ ∃ c, c ∈ enws.take k ∧ q = stp c sp) ∧ ms.length ≤ ls.length + k) ?_ (fun _ _ _ _ _ => trivial) ?_ ?_⟩
          · exact ⟨ls, w5, rfl, hf, h2, kb, hq, nl, fun q => ⟨.inl, fun z => z.elim id fun ⟨_, z, _⟩ => (nomatch z)⟩, Nat.le_refl _⟩
          · rintro k3 y σ3 Hc _ hk3 ⟨ms, u5, rfl, hfc, h2c, kc, hqc, nm, mm, lm⟩ ⟨rfl, c, hc, rfl⟩
            have hc := enws_at hc
            rw [enws_size] at hk3
            have hce : c ∈ enws := List.mem_of_getElem? hc
            refine ⟨_, rfl, _, rfl, _, rfl, qa, c, sp, rfl, hce, hqc, fun tq Hd sd ntq htq => ?_⟩
            refine ⟨d2, _, rfl, DPut.t (k := key3 (stp c sp)) (sd _ _ h2c) htq (sz _ (by rw [tks_length]; omega)), ?_⟩
            rw [tks_put]
            have nqd : qa ≠ d2 := ne_of hqc h2c (by intro z; cases z)
            refine ⟨ins ms (stp c sp), some (.str (sgn c)), rfl, ?_, upd_same, ?_, ?_, nodup_ins nm, fun q => ?_, Nat.le_trans (length_ins _ _) (by omega)⟩
            · rw [upd_ne nd2]
              exact sd _ _ hfc
            · exact fun b o nb e => by
                rw [upd_ne (ne_of_none e hd2)]
                exact sd _ _ (kc b o nb e)
            · rw [upd_ne nqd]
              exact sd _ _ hqc
            · rw [mem_ins, mm, or_assoc]
              refine or_congr Iff.rfl ⟨fun z => ?_, fun ⟨c', hc', e⟩ => ?_⟩
              · rcases z with ⟨c', hc', e⟩ | e
                · exact ⟨c', (take_more hc c').mpr (.inl hc'), e⟩
                · exact ⟨c, (take_more hc c).mpr (.inr rfl), e⟩
              · rcases (take_more hc c').mp hc' with z | rfl
                · exact .inl ⟨c', z, e⟩
                · exact .inr e
          · rintro σ3 Hc ⟨ms, u5, rfl, hfc, h2c, kc, hqc, nm, mm, lm⟩
            rw [enws_size] at mm lm
            refine ⟨ms, some (.ref qa), u5, rfl, hfc, h2c, kc, nm, fun q => ?_, by omega⟩
            rw [mm, ml]
            constructor
            · rintro (⟨p', hp', z⟩ | ⟨c, hc, e⟩)
              · exact ⟨p', (take_more hsp p').mpr (.inl hp'), z⟩
              · exact ⟨sp, (take_more hsp sp).mpr (.inr rfl), c, List.mem_of_mem_take hc, e⟩
            · rintro ⟨p', hp', c, hc, e⟩
              rcases (take_more hsp p').mp hp' with z | rfl
              · exact .inl ⟨p', z, c, hc, e⟩
              · exact .inr ⟨c, by rw [List.take_of_length_le (by show 4 ≤ 4; decide)]; exact hc, e⟩
        · rintro σ2 Hb ⟨ls, w4, w5, rfl, hf, h2, kb, nl, ml, ll⟩
          refine ⟨hf, _, rfl, ?_⟩
          rw [tks_length] at ml ll
          refine ⟨d2, ls, _, _, w4, w5, rfl, ?_, ?_, nl, fun q => ?_, ?_⟩
          · intro b o e
            by_cases hb : b = d
            · have e' := sa b o e
              rw [hb, hd] at e'
              rw [hb, upd_same]
              exact e'
            · rw [upd_ne hb]
              exact kb b o hb (sa b o e)
          · rw [upd_ne nd2.symm]
            exact h2
          · rw [ml, List.take_length, show ((i + 1 : Nat) : Int) = (i : Int) + 1 by omega, reach_step (by omega) (by omega) q]
            exact exists_congr fun p' => and_congr (mem p') Iff.rfl
          · rw [Nat.pow_succ]
            omega
      · rintro σ1 Ha ⟨d, ks, v2, v3, v4, v5, rfl, sa, hd, nd, mem, len⟩
        refine ⟨d, ks, v2, v3, v4, v5, rfl, sa, hd, nd, fun q => ?_, Nat.le_trans len (pw _ (by omega))⟩
        rw [mem, show ((n.toNat : Nat) : Int) = n by omega]
    · -- the areas by ends
      rintro σ1 Ha ⟨d, ks, v2, v3, v4, v5, rfl, sa, hd, nd, mem, len⟩
      refine fun e he => ?_
      have nde : d ≠ e := ne_of_none hd he
      have sb : Same Ha (upd Ha e (.dT [])) := same_new he
      refine ⟨d, .dT (tks ks), sb _ _ hd, trivial, fun od => ?_⟩
      refine ⟨_, rfl, d, od, rfl, .inr ⟨tks ks, upd_same, ?_⟩⟩
      refine for_it walk_keysT (fun j σ2 Hb => ∃ (evs : List (List Key × V)) (v7 v8 v9 : Option V), σ2 = [some (.int n), some (.ref d), v2, v3, v4, v5, some (.ref e), v7, v8, v9] ∧ Hb d = some (.frz od (.dT (tks ks))) ∧ Hb e = some (.dT evs) ∧ But d Ha Hb ∧ evs.length ≤ j ∧
        ∀ x y : Int, (valV evs (key2 x y) = none ∧ areasAt (ks.take j) x y = []) ∨ ∃ l, valV evs (key2 x y) = some (.ref l) ∧ Hb l = some (.lst ((areasAt (ks.take j) x y).map V.int))) ?_ (fun j σ2 Hb _ hP => ?_) ?_ ?_
      · refine ⟨[], none, none, none, rfl, upd_same, ?_, ?_, Nat.le_refl _, fun x y => .inl ⟨rfl, rfl⟩⟩
        · rw [upd_ne nde.symm, upd_same]
        · exact fun b o nb e' => by
            rw [upd_ne nb]
            exact sb _ _ e'
      · obtain ⟨_, _, _, _, _, hf, _⟩ := hP
        exact hf
      · rintro j x σ2 Hb0 Hb hj ⟨evs, v7, v8, v9, rfl, hf, h2, kb, le, ev⟩ ⟨rfl, k, v, qa, hk, rfl, hq⟩
        obtain ⟨⟨sx, sy, sA⟩, hsp, rfl⟩ := tks_at hk
        rw [tks_length] at hj
        -- x, y, area = the key
        refine ⟨qa, _, rfl, .inl (.inl hq), rfl, _, _, rfl, _, _, rfl, _, _, rfl, rfl, ?_⟩
        -- ends_here.get((x, y), []) + [area]
        refine ⟨_, rfl, e, rfl, .inr ⟨evs, .inl h2⟩, _, rfl, _, rfl, by show 2 ≤ sizeLine; decide, fun t1 ht1 => ⟨Nat.zero_le _, fun t2 ht2 => ?_⟩⟩
        have s1' := same_new (o := .tup [V.int sx, V.int sy]) ht1
        have s2' := same_new (o := .lst []) ht2
        have s12 := s1'.trans s2'
        have ht1' := s2' _ _ (upd_same (H := Hb) (a := t1) (o := .tup [V.int sx, V.int sy]))
        refine ⟨valV evs (key2 sx sy), DGet.t (k := key2 sx sy) (s12 _ _ h2) ht1', ?_⟩
        -- the list so far, at la
        obtain ⟨la, hla, ela⟩ : ∃ la, (valV evs (key2 sx sy)).getD (.ref t2) = .ref la ∧ (upd (upd Hb t1 (.tup [V.int sx, V.int sy])) t2 (.lst [])) la = some (.lst ((areasAt (ks.take j) sx sy).map V.int)) := by
          rcases ev sx sy with ⟨h1, h3⟩ | ⟨l, h1, h3⟩
          · rw [h1, h3]
            exact ⟨t2, rfl, upd_same⟩
          · rw [h1]
            exact ⟨l, rfl, s12 _ _ h3⟩
        rw [hla]
        refine ⟨_, rfl, by show 1 ≤ sizeLine; decide, fun t3 ht3 => ?_⟩
        have s3' := same_new (o := .lst [V.int sA]) ht3
        have ll : (areasAt (ks.take j) sx sy).length ≤ 16384 := by
          unfold areasAt
          rw [List.length_map]
          exact Nat.le_trans (List.length_filter_le _ _) (Nat.le_trans (by rw [List.length_take]; exact Nat.min_le_right _ _) len)
        refine ⟨la, t3, _, _, rfl, rfl, s3' _ _ ela, upd_same, ?_, fun t4 ht4 => ?_⟩
        · rw [List.length_map]
          exact Nat.le_of_lt (sz _ (by show (areasAt (ks.take j) sx sy).length + 1 < 100000; omega))
        have s4' := same_new (o := .lst ((areasAt (ks.take j) sx sy).map V.int ++ [V.int sA])) ht4
        -- ends_here[x, y] = it
        refine ⟨_, rfl, _, rfl, _, rfl, by show 2 ≤ sizeLine; decide, fun t5 ht5 => ?_⟩
        have s5' := same_new (o := .tup [V.int sx, V.int sy]) ht5
        have sAll := (s12.trans s3').trans (s4'.trans s5')
        have h4 := s5' _ _ (upd_same (H := _) (a := t4) (o := .lst ((areasAt (ks.take j) sx sy).map V.int ++ [V.int sA])))
        have nqe : qa ≠ e := ne_of hq h2 (by intro z; cases z)
        refine ⟨e, _, rfl, DPut.t (k := key2 sx sy) (sAll _ _ h2) upd_same (sz _ (by omega)), ?_⟩
        have n4e : t4 ≠ e := ne_of h4 (sAll _ _ h2) (by intro z; cases z)
        refine ⟨putK evs (key2 sx sy) (.ref t4), _, _, _, rfl, ?_, upd_same, ?_, Nat.le_trans (length_putK _ _ _) (by omega), fun x y => ?_⟩
        · rw [upd_ne nde]
          exact sAll _ _ hf
        · exact fun b o nb e' => by
            rw [upd_ne (ne_of_none e' he)]
            exact sAll _ _ (kb b o nb e')
        · rw [valV_put, show areasAt (ks.take (j + 1)) x y = if sx = x ∧ sy = y then areasAt (ks.take j) x y ++ [sA] else areasAt (ks.take j) x y by
            rw [List.take_add_one, hsp]
            exact areasAt_snoc _ _ x y]
          by_cases hxy : sx = x ∧ sy = y
          · obtain ⟨rfl, rfl⟩ := hxy
            rw [if_pos rfl, if_pos ⟨rfl, rfl⟩]
            refine .inr ⟨t4, rfl, ?_⟩
            rw [upd_ne n4e, List.map_append]
            exact h4
          · rw [if_neg hxy, if_neg (fun z => hxy ((key2_inj z).imp Eq.symm Eq.symm))]
            rcases ev x y with z | ⟨l, h1, h3⟩
            · exact .inl z
            · exact .inr ⟨l, h1, by rw [upd_ne (ne_of h3 h2 (by intro z; cases z))]; exact sAll _ _ h3⟩
      · rintro σ2 Hb ⟨evs, v7, v8, v9, rfl, hf, h2, kb, le, ev⟩
        refine ⟨hf, ?_⟩
        rw [tks_length, List.take_length] at ev
        refine ⟨_, rfl, q e _ (fun b o e' => ?_) ⟨evs, ?_, fun x y => ⟨areasAt ks x y, nodup_areasAt nd x y, ?_, fun a => mem_areasAt.trans (mem _), ?_⟩⟩⟩
        · by_cases hb : b = d
          · have z := sa b o e'
            rw [hb, hd] at z
            rw [hb, upd_same]
            exact z
          · rw [upd_ne hb]
            exact kb b o hb (sa b o e')
        · rw [upd_ne nde.symm]
          exact h2
        · unfold areasAt
          rw [List.length_map]
          exact Nat.le_trans (List.length_filter_le _ _) (by omega)
        · rcases ev x y with z | ⟨l, h1, h3⟩
          · exact .inl z
          · exact .inr ⟨l, h1, by rw [upd_ne (ne_of h3 hf (by intro z; cases z))]; exact h3⟩
end
end AW
set_option maxRecDepth 100000
set_option maxHeartbeats 8000000
/-! _law_near_right -/
namespace AW
open PySem PySem.Spec PyProof.Rows L2
theorem ivl_last {lo hi : Int} (h : lo ≤ hi) : ivl lo hi = ivl lo (hi - 1) ++ [hi] := by
  have e : (hi + 1 - lo).toNat = (hi - 1 + 1 - lo).toNat + 1 := by omega
  unfold ivl
  rw [e, List.range_succ, List.map_append]
  have e2 : lo + (((hi - 1 + 1 - lo).toNat : Nat) : Int) = hi := by omega
  rw [List.map_cons, List.map_nil, e2]
theorem ivl_first {lo hi : Int} (h : lo ≤ hi) : (ivl lo hi)[0]? = some lo := by
  unfold ivl
  have e : (hi + 1 - lo).toNat = (hi - lo).toNat + 1 := by omega
  rw [e, List.range_succ_eq_map, List.map_cons]
  show some (lo + ((0 : Nat) : Int)) = some lo
  rw [show lo + ((0 : Nat) : Int) = lo by omega]
theorem ivl_length (lo hi : Int) : (ivl lo hi).length = (hi + 1 - lo).toNat := by
  unfold ivl
  rw [List.length_map, List.length_range]
theorem rgV_ivl (lo hi : Int) : rgV lo (hi + 1) = (ivl lo hi).map V.int := by
  unfold rgV ivl
  rw [List.map_map]
  rfl
theorem at_first {lo hi : Int} (h : lo ≤ hi) : atI ((ivl lo hi).map V.int) 0 = some (.int lo) := at_of (j := 0) rfl (by rw [List.getElem?_map, ivl_first h]; rfl)
theorem at_end {lo hi : Int} (h : lo ≤ hi) : atI ((ivl lo hi).map V.int) (-1) = some (.int hi) := by
  rw [ivl_last h, List.map_append]
  exact atI_last _ _
theorem ivl_cons {lo hi : Int} (h : lo ≤ hi) : (ivl lo hi).isEmpty = false := by
  cases e : ivl lo hi with
  | nil =>
    have z := ivl_first h
    rw [e] at z
    cases z
  | cons a r => rfl
/-- xs == [] | xs != [], xs a list of whole numbers in a slot -/
theorem t_eqE {K : PySem.W.Frag} {σ : L2.St} {H : Hp} {i : Nat} {cs : List Int} {dp : Addr} {Q : Bool → Hp → Prop} (h5 : σ[i]? = some (some (.ref dp))) (hd : H dp = some (.lst (cs.map V.int))) (q : ∀ H', Same H H' → Q cs.isEmpty H') :
    tTest (tOp (rEqD K) (tVar i) (tLst tNil)) σ H Q := by
  refine ⟨_, h5, Nat.zero_le _, fun u hu => ?_⟩
  refine ⟨.list (cs.map PyData.int), .list [], .lst (.inl (.inl (same_new hu _ _ hd))) (dp_ints _ _ cs), .lst (.inl (.inl upd_same)) .nil, shaped_ints cs, shaped_ints [], _, rfl, ?_⟩
  rw [eqv_nil]
  exact q _ (same_new hu)
theorem t_neE {K : PySem.W.Frag} {σ : L2.St} {H : Hp} {i : Nat} {cs : List Int} {dp : Addr} {Q : Bool → Hp → Prop} (h5 : σ[i]? = some (some (.ref dp))) (hd : H dp = some (.lst (cs.map V.int))) (q : ∀ H', Same H H' → Q (!cs.isEmpty) H') :
    tTest (tOp (rNeD K) (tVar i) (tLst tNil)) σ H Q := by
  refine ⟨_, h5, Nat.zero_le _, fun u hu => ?_⟩
  refine ⟨.list (cs.map PyData.int), .list [], .lst (.inl (.inl (same_new hu _ _ hd))) (dp_ints _ _ cs), .lst (.inl (.inl upd_same)) .nil, shaped_ints cs, shaped_ints [], _, rfl, ?_⟩
  rw [eqv_nil]
  exact q _ (same_new hu)
theorem shaped_pair (a b : Int) : SeqAt.shaped (.tuple [.int a, .int b]) = true := by
  unfold SeqAt.shaped
  simp only [PyData.canLay0, PyData.canLayAll0, PyData.depth, PyData.depthAll, Bool.and_self]
  rfl
def spNear : Sp := fun vs H Q _ => ∃ p m, vs = [.ref p] ∧ m ≤ 1000 ∧ PenAt H p m ∧ ∀ H', But p H H' → PenAt H' p (m + 1) → Q (.bl true) H'
section
variable {P : Program} {w : World} {K : PySem.W.Frag} {mg : Str → Option Value} {base : Heap} {C : Addr}
theorem ok_near {f : Addr} {fd : FuncData} (O : Own K mg "_law_near_right" sLawNearRight ["_law_pen_here"] f fd) (B : Blt mg) (CD : Cal P w K mg base CX0 "_law_draw" ["_law_pen_here", "_law_span"] 1 spDraw) (CE : Cal P w K mg base CX0 "_law_ends" ["_law_number"] 2 spEnds)
    (CA : Cal P w K mg base (L2.CX P w) "areas" ["x", "y", "number"] 4 (spAreas C)) : FnOk P w K mg base CX0 5 f fd ["_law_pen_here"] spNear := by
  refine O.F.ok scLawNearRight (fun vs H Q E h => ?_) (fun cdv A outer s H vs Q E hr h => ?_)
  · obtain ⟨p, m, rfl, _⟩ := h
    rfl
  · obtain ⟨p, m, rfl, hm, hp, q⟩ := h
    have hu := hu_of hr
    have hr1 : Room 1 _ := hr.mono (by decide)
    have hr2 : Room 2 _ := hr.mono (by decide)
    have nd := scLawNearRight.nd
    refine ⟨_, pss_cons (ps_set (i := 1) nd rfl (.inl rfl) (pe_cal CD hr1 pass0 (pa_cons (pv 0) (pa_cons pe_int pa_nil))))
      (pss_cons (ps_set (i := 2) nd rfl (.inl rfl) (pe_cal CE hr2 pass0 (pa_cons (pv 1) pa_nil)))
      (pss_cons (ps_for PassesOwn.never rfl (pi_range2 (by rfl) B.range (pa_cons (pe_op op_sub (pe_un un_neg (pv 1)) pe_int) (pa_cons (pe_op op_add (pv 1) pe_int) pa_nil))) (pg_name (i := 3) nd rfl (.inl rfl))
        (pss_one (ps_for PassesOwn.never rfl (pi_range2 (by rfl) B.range (pa_cons (pe_op op_sub (pe_un un_neg (pv 1)) pe_int) (pa_cons (pe_op op_add (pv 1) pe_int) pa_nil))) (pg_name (i := 4) nd rfl (.inl rfl))
          (pss_cons (ps_set (i := 5) nd rfl (.inl rfl) (pe_callB cr_sortedI (by rfl) B.sorted (by decide +kernel) (pa_cons
              (pe_lc (own := [("_law_area", 7)]) (g := gName 7) (tt := tYes) rfl nd (pi_list (pe_dget2 hu (pv 2) (pe_tup (pa_cons (pv 3) (pa_cons (pv 4) pa_nil))) (pe_lst pa_nil) ⟨by rfl, by rfl, by rfl, by rfl⟩))
                (blkOk_by (N := ["_law_pen_here", "_law_number", "_law_ends_here", "_law_x", "_law_y", "_law_due", "_law_shown", "_law_area"]) (sc := defScope sLawNearRight) (by decide +kernel)) (fun _ _ _ _ _ => pg_name (i := 7) nd rfl (Or.inl rfl)) (fun _ _ _ _ _ => pts_nil)
                (fun _ _ _ _ _ => pe_callTy call_int1 (by rfl) B.int (by decide +kernel) (pa_cons (pv 7) pa_nil))) pa_nil)))
          (pss_cons (ps_set (i := 6) nd rfl (.inl rfl) (pe_cal CA hr passL (pa_cons (pv 3) (pa_cons (pv 4) (pa_cons (pv 1) pa_nil)))))
          (pss_cons (ps_if (PW.pt (pw_or (PW.pt (pw_and (pt_cmpR (op_eqD hr.units) (pv 5) (pe_lst pa_nil) (nomark _)) (pw_and1 (pt_cmpR op_notN (pv 6) pe_non (nomark _)))))
                (pw_or1 (PW.pt (pw_and (pt_cmpR (op_neD hr.units) (pv 5) (pe_lst pa_nil) (nomark _)) (pw_and1 (pt_cmpR (op_neD hr.units) (pv 6) (pe_tup (pa_cons (pe_ix ix_list (pv 5) pe_int (fun _ _ => rfl)) (pa_cons (pe_ix ix_list (pv 5) (pe_un un_neg pe_int) (fun _ _ => rfl)) pa_nil))) (nomark _))))))))
              (pss_one (ps_ret pe_bl)) pss_nil)
          (pss_one (ps_if (PW.pt (pw_and (pt_cmpR (op_neD hr.units) (pv 5) (pe_lst pa_nil) (nomark _)) (pw_and1 (pt_cmpR (op_neD hr.units) (pv 5) (pe_listRg rfl (by rfl) B.list (prg_2 (by rfl) B.range (pe_ix ix_list (pv 5) pe_int (fun _ _ => rfl)) (pe_op op_add (pe_ix ix_list (pv 5) (pe_un un_neg pe_int) (fun _ _ => rfl)) pe_int))) (nomark _)))))
              (pss_one (ps_ret pe_bl)) pss_nil))))))))
      (pss_one (ps_ret pe_bl)))), ?_⟩
    refine ⟨_, rfl, p, 8, m, rfl, by decide, by decide, by omega, hp, fun n H1 n0 n1 k1 p1 => ⟨_, rfl, n, rfl, n0, by omega, fun e H2 s2 ea => ?_⟩⟩
    obtain ⟨evs, hev, ev⟩ := ea
    refine ⟨_, rfl, n, rfl, _, _, rfl, rfl, _, rfl, _, _, rfl, rfl, _, _, rfl, ⟨by omega, by omega, by omega, by omega⟩, for_range (lo := -n - 1) (n := (n + 2 - (-n - 1)).toNat) (fun i σ H' => ∃ v3 v4 v5 v6 : Option V, σ = [some (.ref p), some (.int n), some (.ref e), v3, v4, v5, v6, none] ∧ Same H2 H')
      ⟨none, none, none, none, rfl, Same.refl _⟩ ?_ ?_⟩
    · rintro i σ H3 hi ⟨v3, v4, v5, v6, rfl, s3⟩
      refine ⟨_, rfl, n, rfl, _, _, rfl, rfl, _, rfl, _, _, rfl, rfl, _, _, rfl, ⟨by omega, by omega, by omega, by omega⟩, for_range (lo := -n - 1) (n := (n + 2 - (-n - 1)).toNat) (fun j σ H' => ∃ v4 v5 v6 : Option V, σ = [some (.ref p), some (.int n), some (.ref e), some (.int (-n - 1 + (i : Int))), v4, v5, v6, none] ∧ Same H2 H')
        ⟨v4, v5, v6, rfl, s3⟩ ?_ ?_⟩
      · rintro j σ H4 hj ⟨v4, v5, v6, rfl, s4⟩
        obtain ⟨x, hx⟩ : ∃ x, -n - 1 + (i : Int) = x := ⟨_, rfl⟩
        obtain ⟨y, hy⟩ : ∃ y, -n - 1 + (j : Int) = y := ⟨_, rfl⟩
        rw [hx, hy]
        have bx : Sm 5 x := by unfold Sm; omega
        have bY : Sm 5 y := by unfold Sm; omega
        have bn : Sm 5 n := by unfold Sm; omega
        obtain ⟨L, nL, lL, mL, eL⟩ := ev x y
        refine ⟨_, rfl, e, rfl, .inr ⟨evs, .inl (s4 _ _ hev)⟩, _, rfl, _, rfl, by show 2 ≤ sizeLine; decide, fun t1 ht1 => ⟨Nat.zero_le _, fun t2 ht2 => ?_⟩⟩
        have s5 : Same H4 (upd H4 t1 (.tup [V.int x, V.int y])) := same_new ht1
        have s6 : Same (upd H4 t1 (.tup [V.int x, V.int y])) (upd (upd H4 t1 (.tup [V.int x, V.int y])) t2 (.lst [])) := same_new ht2
        have s26 := (s4.trans s5).trans s6
        refine ⟨valV evs (key2 x y), DGet.t (k := key2 x y) (s26 _ _ hev) (s6 _ _ upd_same), ?_⟩
        obtain ⟨la, hla, ela⟩ : ∃ la, (valV evs (key2 x y)).getD (.ref t2) = .ref la ∧ (upd (upd H4 t1 (.tup [V.int x, V.int y])) t2 (.lst [])) la = some (.lst (L.map V.int)) := by
          rcases eL with ⟨h1, h3⟩ | ⟨l, h1, h3⟩
          · rw [h1, h3]
            exact ⟨t2, rfl, upd_same⟩
          · rw [h1]
            exact ⟨l, rfl, s26 _ _ h3⟩
        rw [hla]
        generalize upd (upd H4 t1 (.tup [V.int x, V.int y])) t2 (.lst []) = H5 at s26 ela
        refine ⟨la, rfl, ⟨_, .inl (.inl ela)⟩, fun D hD => ?_⟩
        have nlD : la ≠ D := ne_of_none ela hD
        refine lc_list (K := K) (a := la) (xs := L.map V.int) (fun i H' => Same H5 H' ∧ H' D = some (.lst ((L.take i).map V.int))) ⟨same_new hD, upd_same⟩ (fun i H' _ h => .inl (.inl (h.1 _ _ ela))) ?_ ?_
        · rintro i2 z H6 hi2 ⟨s7, hD6⟩
          obtain ⟨a, hz, rfl⟩ : ∃ a, L[i2]? = some a ∧ z = V.int a := by
            rw [List.getElem?_map] at hi2
            cases e3 : L[i2]? with
            | none =>
              rw [e3] at hi2
              cases hi2
            | some a =>
              rw [e3] at hi2
              exact ⟨a, rfl, (Option.some.inj hi2).symm⟩
          refine ⟨rfl, _, rfl, .inl ⟨a, rfl, _, hD6, ?_, fun b o e3 => ?_, ?_⟩⟩
          · rw [List.length_map, List.length_take]
            exact Nat.lt_of_lt_of_le (Nat.lt_of_le_of_lt (Nat.min_le_right _ _) (show L.length < 100001 by omega)) (by decide)
          · rw [upd_ne (ne_of_none e3 hD)]
            exact s7 _ _ e3
          · rw [upd_same, List.take_add_one, hz, List.map_append]
            rfl
        · rintro H6 ⟨s7, hD6⟩
          rw [List.length_map, List.take_length] at hD6
          refine ⟨D, L, rfl, .inl (.inl hD6), fun ns' dp perm up ndp => ?_⟩
          have s8 : Same H6 (upd H6 dp (.lst (ns'.map V.int))) := same_new ndp
          have hdue : (upd H6 dp (.lst (ns'.map V.int))) dp = some (.lst (ns'.map V.int)) := upd_same
          have s28 := (s26.trans s7).trans s8
          generalize upd H6 dp (.lst (ns'.map V.int)) = H7 at s28 hdue
          refine ⟨_, rfl, _, rfl, _, rfl, .int x, .int y, .int n, rfl, .int x, .int y, .int n, .inr ⟨x, y, n, rfl, rfl, rfl, n0, bx.mono (by decide), bY.mono (by decide), bn.mono (by decide), fun hA H8 s9 => ?_, fun lo hi tp H8 hA s9 ntp htp => ?_⟩⟩
          · -- no walk: no areas
            have hL : ns' = [] := by
              have h1 : L = [] := by
                cases L with
                | nil => rfl
                | cons a r =>
                  obtain ⟨lo, hi, z, _⟩ := (mL a).mp List.mem_cons_self
                  have z : areasOf x y n = some (lo, hi) := z
                  rw [hA] at z
                  cases z
              rw [h1] at perm
              exact List.Perm.eq_nil perm
            subst hL
            have hdue := s9 _ _ hdue
            refine t_eqE (cs := []) rfl hdue fun Ha sa => ?_
            refine ⟨_, rfl, rfl, _, rfl, ifF (by decide) ?_⟩
            refine t_neE (cs := []) rfl (sa _ _ hdue) fun Hb sb => ?_
            refine t_neE (cs := []) rfl (sb _ _ (sa _ _ hdue)) fun Hc sc => ?_
            exact ⟨_, _, _, rfl, ((s28.trans s9).trans sa).trans (sb.trans sc)⟩
          · -- the areas are all from lo to hi
            have hs := areas_sum hA
            have mL' : ∀ a, a ∈ L ↔ lo ≤ a ∧ a ≤ hi := fun a => by
              rw [mL]
              constructor
              · rintro ⟨lo', hi', z, z1, z2⟩
                have z : areasOf x y n = some (lo', hi') := z
                rw [hA] at z
                have z := Option.some.inj z
                injection z with e1 e2
                subst e1
                subst e2
                exact ⟨z1, z2⟩
              · exact fun z => ⟨lo, hi, hA, z⟩
            have hL := rising_ivl nL mL' perm up
            have hlen := perm.length_eq
            rw [hL, ivl_length] at hlen
            have sxy : Sm 10 (x * y) := bx.mul bY
            have bxy : (x * y).natAbs < 1024 := sxy
            subst hL
            have hdue := s9 _ _ hdue
            have em := ivl_cons hs.2
            refine t_eqE rfl hdue fun Ha sa => ifF em (ifF rfl ?_)
            have hda := sa _ _ hdue
            refine t_neE rfl hda fun Hb sb => ifT (by rw [em]; rfl) ?_
            have hdb := sb _ _ hda
            have htb := sb _ _ (sa _ _ htp)
            refine ⟨_, rfl, _, rfl, dp, _, _, _, rfl, rfl, .inl (.inl hdb), at_first hs.2, _, rfl, _, rfl, dp, _, _, _, rfl, rfl, .inl (.inl hdb), at_end hs.2, by show 2 ≤ sizeLine; decide, fun t3 ht3 => ?_⟩
            have sc := same_new (o := .tup [V.int lo, V.int hi]) ht3
            refine ⟨.tuple [.int lo, .int hi], .tuple [.int lo, .int hi], .tup (.inl (.inl (sc _ _ htb))) (.cons (.int _) (.cons (.int _) .nil)), .tup (.inl (.inl upd_same)) (.cons (.int _) (.cons (.int _) .nil)), shaped_pair _ _, shaped_pair _ _, _, rfl, ?_⟩
            rw [SeqAt.eqv_refl _ (SeqAt.canLay_of_shaped (shaped_pair lo hi))]
            refine t_neE rfl (sc _ _ hdb) fun Hd sd => ifT (by rw [em]; rfl) ?_
            have hdd := sd _ _ (sc _ _ hdb)
            refine ⟨_, rfl, _, rfl, dp, _, _, _, rfl, rfl, .inl (.inl hdd), at_first hs.2, _, rfl, _, rfl, dp, _, _, _, rfl, rfl, .inl (.inl hdd), at_end hs.2, _, _, rfl, rfl, _, _, rfl, rfl, ⟨by omega, by omega, by omega, by omega, by omega⟩, fun t4 ht4 => ?_⟩
            rw [rgV_ivl]
            have se := same_new (o := .lst ((ivl lo hi).map V.int)) ht4
            refine ⟨.list ((ivl lo hi).map PyData.int), .list ((ivl lo hi).map PyData.int), .lst (.inl (.inl (se _ _ hdd))) (dp_ints _ _ _), .lst (.inl (.inl upd_same)) (dp_ints _ _ _), shaped_ints _, shaped_ints _, _, rfl, ?_⟩
            rw [SeqAt.eqv_refl _ (SeqAt.canLay_of_shaped (shaped_ints _))]
            exact ⟨_, _, _, rfl, ((((s28.trans s9).trans sa).trans (sb.trans sc)).trans sd).trans se⟩
      · rintro σ H4 ⟨v4, v5, v6, rfl, s4⟩
        exact ⟨_, v4, v5, v6, rfl, s4⟩
    · rintro σ H3 ⟨v3, v4, v5, v6, rfl, s3⟩
      exact q H3 (k1.trans ((Same.but s2).trans (Same.but s3))) (PenAt.same s3 (PenAt.same s2 p1))
end
end AW
set_option maxRecDepth 100000
set_option maxHeartbeats 4000000
/-! _law_refused: it calls the lambda that it got, and tells the value of a BadNumber -/
namespace AW
open PySem PySem.Spec PyProof.Rows L2
theorem Takes.len {X : Cx} {W : WX} (t : Takes X W) : Takes X (fun cls d σ H => σ.length = X.N.length → W cls d σ H) := fun u s' ⟨a, B, sI, pins, σ, H, cls, d, e, I, nb, up, sky, na, os, ag, w⟩ =>
  t u s' ⟨a, B, sI, pins, σ, H, cls, d, e, I, nb, up, sky, na, os, ag, w I.len⟩
/-- what the def makes of the lambda's reading -/
def TBn (C : Addr) : (XK → Hp → VK → Prop) → Hp → VK → Prop := fun tl H Q =>
  tl (fun cls d H' => cls = .ref C ∧ ∃ dd v, d = some dd ∧ H' dd = some (.xd [(("value" : Str), v)]) ∧ ∀ t, H' t = none → Q (.ref t) (upd H' t (.tup [.str "number", v]))) H (fun _ H' => Q .non H')
section
variable {X : Cx} {C fI : Addr}
theorem bn_gives {g : Addr} {cdg : Value} {q : Str} (T : BnTxt X.prog X.K X.mg C fI) : LamX.GivesTo X ["_law_deed", "e"] "_law_refused" (defScope sLawRefused) g cdg (defBody sLawRefused) "_law_deed" q (TBn C) := by
  intro f c' s H Q tl act hc h
  refine ⟨_, pss_one (ps_try_as (X := (cxOf C8.CX0 X.prog X.w X.K X.mg X.base ["_law_deed", "e"] "_law_refused" (defScope sLawRefused) g cdg X.A X.stack s H C8.E0).nox) (c := .ref C) (i := 1)
      (tb := fun W D σ H => ∃ Ech : XK, (∀ cls d (σ' : L2.St) H', σ'.length = 2 → Ech cls d H' → W cls d σ' H') ∧ σ[0]? = some (some (.ref f)) ∧ H c' = some (LamX.CodeO c' q) ∧ tl Ech H (fun _ H' => D.nx σ H'))
      (ts := fun a cls d => tRet (tTup (tCons (tC (.str "number")) (tCons (tOfBn C a cls d (tVar 1)) tNil)))) (Wout := fun _ _ _ _ => False)
      rfl rfl scLawRefused.nd rfl rfl ⟨by rfl, by decide, .inl T.gC⟩ LamX.takes0 (fun W pn xe tk _ => ?_) (fun a oe cls d pn hz hf => pss_one (ps_ret (pe_tup (pa_cons pe_str (pa_cons (pe_ofBn T hz hf (pv 1)) pa_nil)))))), ?_⟩
  · refine ⟨fun pins s' σ H' D I h' => ?_⟩
    obtain ⟨Ech, hW, h1, h2, h3⟩ := h'
    have hp := fun p1 p2 => act _ pn xe Ech p1 p2 (Takes.len tk) (fun cls d σ' H' hE hl => hW cls d σ' H' hl hE)
    exact PSs.run (pss_one (ps_expr (hp _ _))) pins s' σ H' D I ⟨h1, h2, h3⟩
  · refine ⟨_, fun cls d σ' H' hl hE => ?_, rfl, hc, h⟩
    obtain ⟨rfl, dd, v, rfl, hdd, k⟩ := hE
    refine ⟨true, T.te, fun _ a ha => ?_, fun z => nomatch z⟩
    refine ⟨_, ?_, rfl, rfl, dd, v, rfl, hdd, by show 2 ≤ sizeLine; decide, fun t ht => k t ht⟩
    rw [List.getElem?_set_self (by rw [hl]; decide)]
end
end AW
set_option maxRecDepth 100000
set_option maxHeartbeats 4000000
/-! what the law's lap keeps; the odd values; a lambda that is refused -/
namespace AW
open PySem PySem.Spec PyProof.Rows L2
open LamX (Tabs ExtN TabS CodeO)
theorem codeO_dK {c : Addr} {q : Str} (kvs : List (Key × V)) : CodeO c q ≠ .dK kvs := fun z => by
  unfold LamX.CodeO at z
  cases z
theorem tabs_but {T : List (Addr × Str)} {H H' : Hp} {p : Addr} {kvs : List (Key × V)} (hp : H p = some (.dK kvs)) (k : But p H H') (t : Tabs T H) : Tabs T H' := fun r hr => by
  obtain ⟨ps, h1, h2, h3⟩ := t r hr
  refine ⟨ps, k _ _ (ne_of h1 hp (by intro z; cases z)) h1, h2, fun pos cv hc => ?_⟩
  obtain ⟨c, e1, e2⟩ := h3 pos cv hc
  exact ⟨c, e1, k _ _ (ne_of e2 hp (codeO_dK kvs)) e2⟩
theorem PenAt.ext {H H' : Hp} {p : Addr} {m : Int} (e : ExtN H H') (h : PenAt H p m) : PenAt H' p m := by
  obtain ⟨l, a, b, cs, h1, h2, h3⟩ := h
  exact ⟨l, a, b, cs, e _ _ h1 (by intro ps z; cases z), e _ _ h2 (by intro ps z; cases z), h3⟩
/-- what stands between two statements of a lap -/
structure LawSt (T : List (Addr × Str)) (p : Addr) (m : Int) (H : Hp) : Prop where
  pen : PenAt H p m
  tabs : Tabs T H
theorem LawSt.same {T : List (Addr × Str)} {p : Addr} {m : Int} {H H' : Hp} (h : LawSt T p m H) (s : Same H H') : LawSt T p m H' := ⟨PenAt.same s h.pen, LamX.Tabs.ext h.tabs s⟩
theorem LawSt.but {T : List (Addr × Str)} {p : Addr} {m m' : Int} {H H' : Hp} (h : LawSt T p m H) (k : But p H H') (p' : PenAt H' p m') : LawSt T p m' H' := by
  obtain ⟨l, a, b, cs, h1, _⟩ := h.pen
  exact ⟨p', tabs_but h1 k h.tabs⟩
theorem Shown.but {H H' : Hp} {p : Addr} {m : Int} {x y n : Int} {v : V} (hp : PenAt H p m) (k : But p H H') (h : Shown H x y n v) : Shown H' x y n v := by
  rcases h with h | ⟨lo, hi, t, h1, h2, h3⟩
  · exact .inl h
  · exact .inr ⟨lo, hi, t, h1, h2, k _ _ (hp.ne h3 (by intro kvs z; cases z)) h3⟩
/-- the odd values -/
inductive OddAt (H : Hp) : V → Prop where
  | non : OddAt H .non
  | yes : OddAt H (.bl true)
  | txt : OddAt H (.str "1")
  | lst {l : Addr} (h : H l = some (.lst [.int 1])) : OddAt H (.ref l)
  | neg : OddAt H (.int (-1))
theorem OddAt.any {H : Hp} {v : V} (h : OddAt H v) : Any H v := by
  cases h with
  | non => exact .non
  | yes => exact .bl _
  | txt => exact .str _
  | lst h => exact .lst h
  | neg => exact .int _
theorem OddAt.ext {H H' : Hp} {v : V} (e : ExtN H H') (h : OddAt H v) : OddAt H' v := by
  cases h with
  | non => exact .non
  | yes => exact .yes
  | txt => exact .txt
  | lst h => exact .lst (e _ _ h (by intro ps z; cases z))
  | neg => exact .neg
theorem OddAt.not_whole {H : Hp} {v : V} (h : OddAt H v) : isWhole v = false := by cases h <;> rfl
def isNeg : V → Bool
  | .int _ => true
  | _ => false
def oddD : V → PyData
  | .non => .none
  | .bl b => .bool b
  | .str x => .str x
  | .int i => .int i
  | _ => .list [.int 1]
theorem OddAt.dp {K : PySem.W.Frag} {H : Hp} {v : V} (h : OddAt H v) : Dp K H v (oddD v) := by
  cases h with
  | non => exact .non
  | yes => exact .bl _
  | txt => exact .str _
  | lst h => exact .lst (.inl (.inl h)) (.cons (.int 1) .nil)
  | neg => exact .int _
theorem txt_ok : PyData.strOk ("1" : Str) = true := by decide +kernel
theorem num_ok : PyData.strOk ("number" : Str) = true := by decide +kernel
theorem OddAt.shaped {H : Hp} {v : V} (h : OddAt H v) : SeqAt.shaped (oddD v) = true := by
  cases h <;> (unfold SeqAt.shaped oddD; simp only [PyData.canLay0, PyData.canLayAll0, PyData.depth, PyData.depthAll, Bool.and_self, txt_ok]; rfl)
theorem OddAt.shaped2 {H : Hp} {v : V} (h : OddAt H v) : SeqAt.shaped (.tuple [.str "number", oddD v]) = true := by
  cases h <;> (unfold SeqAt.shaped oddD; simp only [PyData.canLay0, PyData.canLayAll0, PyData.depth, PyData.depthAll, Bool.and_self, txt_ok, num_ok]; rfl)
theorem OddAt.ne_neg {H : Hp} {v : V} (h : OddAt H v) : PyData.eqv (oddD v) (.int (-1)) = isInt v := by
  cases h <;> (unfold oddD isInt; simp [PyData.eqv])
/-- odd != -1 -/
theorem t_oddNe {K : PySem.W.Frag} {σ : L2.St} {H : Hp} {v : V} {Q : Bool → Hp → Prop} (h8 : σ[8]? = some (some v)) (h : OddAt H v) (q : Q (!isInt v) H) : tTest (tOp (rNeD K) (tVar 8) (tUn (rU fun i => .int (-i)) (tC (.int 1)))) σ H Q := by
  refine ⟨_, h8, 1, rfl, oddD v, .int (-1), h.dp, .int _, h.shaped, by decide, _, rfl, ?_⟩
  rw [h.ne_neg]
  exact q
/-- refused(lambda: areas(..)) != ("number", odd), where areas refuses the odd value -/
theorem t_lam {K : PySem.W.Frag} {T : List (Addr × Str)} {C : Addr} {σ : L2.St} {H : Hp} {v : V} {t : XK → TE} {Q : Bool → Hp → Prop} (hT : Tabs T H) (ho : OddAt H v) (h8 : σ[8]? = some (some v))
    (ht : ∀ (E : XK) (H1 : Hp) (Q' : VK), ExtN H H1 → (∀ d H', Same H1 H' → H1 d = none → H' d = some (.xd [(("value" : Str), v)]) → E (.ref C) (some d) H') → t E σ H1 Q')
    (q : ∀ H', ExtN H H' → Tabs T H' → Q false H') :
    tTest (tOp (rNeD K) (LamX.tLam T (TBn C) t) (tTup (tCons (tC (.str "number")) (tCons (tVar 8) tNil)))) σ H Q := by
  refine ⟨hT, fun H1 eN T1 => ?_⟩
  refine ht _ H1 _ eN fun d H' s' nd hd => ⟨rfl, d, v, rfl, hd, fun t1 ht1 => ?_⟩
  have s1 := same_new (o := .tup [.str "number", v]) ht1
  have h1 : (upd H' t1 (.tup [.str "number", v])) t1 = some (.tup [.str "number", v]) := upd_same
  refine ⟨_, h8, by show 2 ≤ sizeLine; decide, fun t2 ht2 => ?_⟩
  have s2 := same_new (o := .tup [.str "number", v]) ht2
  have sAll := (s'.trans s1).trans s2
  have eAll : ExtN H (upd (upd H' t1 (.tup [.str "number", v])) t2 (.tup [.str "number", v])) := eN.trans (ExtN.of sAll)
  have ho2 := ho.ext eAll
  refine ⟨.tuple [.str "number", oddD v], .tuple [.str "number", oddD v], .tup (.inl (.inl (s2 _ _ h1))) (.cons (.str _) (.cons ho2.dp .nil)), .tup (.inl (.inl upd_same)) (.cons (.str _) (.cons ho2.dp .nil)), ho.shaped2, ho.shaped2, _, rfl, ?_⟩
  rw [SeqAt.eqv_refl _ (SeqAt.canLay_of_shaped ho.shaped2)]
  exact q _ eAll (LamX.Tabs.ext T1 sAll)
/-! ### sizes -/
theorem steps_nn {x y a s : Int} (h : StepsOk x y a s) : 0 ≤ s ∧ s ≤ mx (ab x) (ab y) + mn (ab x) (ab y) + 8 * ground x y a := by
  obtain ⟨j, hs, j0, hb, _⟩ := h
  have h1 := mx_mn (ab x) (ab y)
  have h2 := ab_nn x
  have h3 := ab_nn y
  exact ⟨by omega, hb⟩
theorem sm_steps {x y a s : Int} (hx : Sm 350 x) (hy : Sm 350 y) (ha : Sm 710 a) (h : StepsOk x y a s) : Sm 1430 s := by
  obtain ⟨h0, h1⟩ := steps_nn h
  have hg : Sm 1424 (ground x y a) := Sm.ground (n := 710) (hx.mono (by decide)) (hy.mono (by decide)) ha
  have h8 : Sm 1428 (8 * ground x y a) := Sm.mul (n := 4) (.lit (by decide)) hg
  have hm : Sm 1428 (mx (ab x) (ab y) + mn (ab x) (ab y)) := ((Sm.mx hx.ab hy.ab).add (Sm.mn hx.ab hy.ab)).mono (by decide)
  exact ((hm.add h8).mono (by decide)).nn h0 h1
theorem sm_areas {x y n lo hi : Int} (hx : Sm 350 x) (hy : Sm 350 y) (hn : Sm 1435 n) (h : areasOf x y n = some (lo, hi)) : Sm 2900 lo ∧ Sm 2900 hi := by
  unfold areasOf at h
  split at h
  · cases h
  · have h := Option.some.inj h
    injection h with h1 h2
    have hk : Sm 1437 ((n - ab x - ab y) / 2) := ((hn.sub (hx.ab.mono (by decide))).sub (hy.ab.mono (by decide))).half
    have hb := Sm.best (n := 1437) (hx.ab.mono (by decide)) (hy.ab.mono (by decide)) hk
    have hxy : Sm 700 (x * y) := hx.mul hy
    have hsp : Sm 2883 (span x y n) := (((Sm.mul (n := 2) (.lit (by decide)) hb.1).mul hb.2)).sub (hxy.ab.mono (by decide))
    rw [← h1, ← h2]
    exact ⟨(((hxy.mono (by decide)).sub hsp).half).mono (by decide), (((hxy.mono (by decide)).add hsp).half).mono (by decide)⟩
end AW
set_option maxRecDepth 100000
set_option maxHeartbeats 16000000
/-! the law -/
namespace AW
open PySem PySem.Spec PyProof.Rows L2
abbrev qLam : Str := ("law" : Str) ++ ".<locals>." ++ "<lambda>"
def spLaw (K : PySem.W.Frag) (PT : Addr) : Sp := fun vs H Q _ => ∃ (a : Addr) (ns : List Int), vs = [.ref a] ∧ SqL K H a (ns.map V.int) ∧ ns.length ≤ 63 ∧ LamX.Tabs [(PT, qLam)] H ∧ ∀ H', Q (.bl true) H'
/-- the rule for a def whose code object is known -/
theorem ok_code {P : Program} {w : World} {K : PySem.W.Frag} {mg : Str → Option Value} {base : Heap} {k : Nat} {f : Addr} {name qual : Str} {params : Arguments} {body : List Stmt} {scope : Scope} {dV kV doc pm cdv ct oc : Value} {an od : Option Addr}
    {osl : Array (Option Value)} {N ps : List Str} {sp : Sp} (lk : K.lookup f = some ⟨oc, od, .func (PySem.W.fnOf name qual params body scope dV kV doc pm an cdv ct), osl⟩) (hcd : PySem.W.codeIn K cdv qual = true) (S : FnScope N ps scope)
    (len : ∀ vs H Q E, sp vs H Q E → vs.length = ps.length)
    (hbody : ∀ (A : Around) (outer : List Env) (s : Shared) (H : Hp) (vs : List V) (Q : VK) (E : XK), Room k (A.deeper (envOfC qual scope s.heap.objs.size f cdv)) → sp vs H Q E →
      ∃ t, PSs (cxOf CX0 P w K mg base N qual scope f cdv A outer s H E).nox body t ∧ t { nx := fun _ H' => Q .non H', rt := Q } (L2.start N vs) H) :
    FnOk P w K mg base CX0 (k + 1) f (PySem.W.fnOf name qual params body scope dV kV doc pm an cdv ct) ps sp :=
  fn_of lk hcd S len fun A outer s H vs Q E hr hsp => by
    obtain ⟨t, h, q⟩ := hbody A outer s H vs Q E hr hsp
    exact ⟨t, h.nox, q⟩
theorem neB {b d : Bool} (h : b = d) : (!decide (V.bl b = V.bl d)) = false := by
  rw [h, decide_eq_true rfl]
  rfl
theorem int_is (x : Int) : ¬ isInt (.int x) = false := fun z => by cases z
theorem bad1 {v y n : V} (h : isInt v = false) : bad v y n = some v := by
  unfold bad
  rw [if_pos h]
theorem bad2 {x : Int} {v n : V} (h : isInt v = false) : bad (.int x) v n = some v := by
  unfold bad
  rw [if_neg (int_is x), if_pos h]
theorem bad3 {x y : Int} {v : V} (h : isWhole v = false) : bad (.int x) (.int y) v = some v := by
  unfold bad
  rw [if_neg (int_is x), if_neg (int_is y), if_pos h]
section
variable {P : Program} {w : World} {K : PySem.W.Frag} {mg : Str → Option Value} {base : Heap} {C fI CP fP : Addr}
theorem ok_law {fL fR cL PT : Addr} {fdR : FuncData} {ocL kVL docL pmL ctL : Value} {odL anL : Option Addr} {slL : Array (Option Value)} (lkL : K.lookup fL = some ⟨ocL, odL, .func (PySem.W.fnOf "law" "law" (defArgs sLaw) (defBody sLaw) (defScope sLaw) .none kVL docL pmL anL (.ref cL) ctL), slL⟩) (cdL : PySem.W.codeIn K (.ref cL) "law" = true)
    (B : Blt mg) (T : BnTxt P K mg C fI) (TB : LamX.TabB base mg cL PT) (OR : Own K mg "_law_refused" sLawRefused ["_law_deed"] fR fdR)
    (C1 : Cal P w K mg base CX0 "_law_pen" ["_law_script"] 1 (spPen K)) (C2 : Cal P w K mg base CX0 "_law_near_right" ["_law_pen_here"] 5 spNear) (C3 : Cal P w K mg base CX0 "_law_far" ["_law_pen_here", "_law_figures"] 4 spFar) (C4 : Cal P w K mg base CX0 "_law_pick" ["_law_pen_here", "_law_items"] 2 spPick)
    (C5 : Cal P w K mg base CX0 "steps" ["place"] 3 (spSteps CP)) (C6 : Cal P w K mg base CX0 "_law_place" ["_law_spot"] 4 (spLawPlace CP)) (C7 : Cal P w K mg base CX0 "_law_great" ["_law_pen_here", "_law_figures"] 2 spGreat) (CA : Cal P w K mg base (L2.CX P w) "areas" ["x", "y", "number"] 4 (spAreas C))
    (C8' : Cal P w K mg base CX0 "_law_signed" ["_law_pen_here", "_law_figures"] 3 spSigned) (C9 : Cal P w K mg base CX0 "_law_is_told" ["_law_x", "_law_y", "_law_area", "_law_number", "_law_shown"] 4 spIsTold) :
    FnOk P w K mg base CX0 7 fL (PySem.W.fnOf "law" "law" (defArgs sLaw) (defBody sLaw) (defScope sLaw) .none kVL docL pmL anL (.ref cL) ctL) ["_law_script"] (spLaw K PT) := by
  refine ok_code lkL cdL scLaw (fun vs H Q E h => ?_) (fun A outer s H vs Q E hr h => ?_)
  · obtain ⟨a, ns, rfl, _⟩ := h
    rfl
  · obtain ⟨a, ns, rfl, hS, hlen, hT, q⟩ := h
    obtain ⟨ocR, odR, kVR, docR, pmR, anR, cdR, ctR, slR, rfl, lkR, cdR'⟩ := OR.F.ex
    have nd := scLaw.nd
    have hr1 : Room 1 _ := hr.mono (by decide)
    have hr2 : Room 2 _ := hr.mono (by decide)
    have hr3 : Room 3 _ := hr.mono (by decide)
    have hr4 : Room 4 _ := hr.mono (by decide)
    have hr5 : Room 5 _ := hr.mono (by decide)
    have lamU : ∀ p ∈ ([(PT, qLam)] : List (Addr × Str)), p.1 = PT → p.2 = qLam := fun p hp _ => by rw [List.mem_singleton.mp hp]
    refine ⟨_, pss_cons (ps_set (i := 1) nd rfl (.inl rfl) (pe_cal C1 hr1 pass0 (pa_cons (pv 0) pa_nil)))
        (pss_cons (ps_if (pt_not (pt_val (pe_cal C2 hr5 pass0 (pa_cons (pv 1) pa_nil)))) (pss_one (ps_ret pe_bl)) pss_nil)
        (pss_cons (ps_for PassesOwn.never rfl (pi_range1 (by rfl) B.range (pa_cons (pe_op op_add pe_int (pe_callB (call_min2 rfl) (by rfl) B.min (by decide +kernel) (pa_cons pe_int (pa_cons (pe_callB call_len_seq (by rfl) B.len PySem.boot_len (pa_cons (pv 0) pa_nil)) pa_nil)))) pa_nil)) (pg_name (i := 2) nd rfl (.inl rfl))
        (pss_cons (ps_set (i := 3) nd rfl (.inl rfl) (pe_cal C3 hr4 pass0 (pa_cons (pv 1) (pa_cons (pe_cal C4 hr2 pass0 (pa_cons (pv 1) (pa_cons (pe_lst (pa_cons pe_int (pa_cons pe_int (pa_cons pe_int pa_nil)))) pa_nil))) pa_nil))))
        (pss_cons (ps_asg (pv 3) (pg_tup (by rfl) (pgs_cons (pg_name (i := 9) nd rfl (.inr rfl)) (pgs_cons (pg_name (i := 10) nd rfl (.inr rfl)) (pgs_cons (pg_name (i := 4) nd rfl (.inl rfl)) pgs_nil)))))
        (pss_cons (ps_set (i := 5) nd rfl (.inr rfl) (pe_op op_add (pe_cal C5 hr3 pass0 (pa_cons (pe_cal C6 hr4 pass0 (pa_cons (pv 3) pa_nil)) pa_nil)) (pe_cal C4 hr2 pass0 (pa_cons (pv 1) (pa_cons (pe_lst (pa_cons pe_int (pa_cons pe_int (pa_cons pe_int (pa_cons (pe_un un_neg pe_int) (pa_cons pe_int (pa_cons (pe_un un_neg pe_int) (pa_cons (pe_cal C7 hr2 pass0 (pa_cons (pv 1) (pa_cons pe_int pa_nil))) pa_nil)))))))) pa_nil)))))
        (C8.pss_cut (ps_set (i := 5) nd rfl (.inr rfl) (pe_ifExp (pt_cmpR op_ge (pv 5) pe_int (nomark _)) (pv 5) pe_int))
        (C8.pss_cut (ps_set (i := 6) nd rfl (.inr rfl) (pe_cal CA hr4 passL (pa_cons (pv 9) (pa_cons (pv 10) (pa_cons (pv 5) pa_nil)))))
        (C8.pss_cut (ps_if (PW.pt (pw_and (pt_cmpR op_notN (pv 6) pe_non (nomark _)) (pw_and1 (PW.pt (pw_or (pt_not (pt_val (pe_callB call_isi (by rfl) B.isinstance (by decide +kernel) (pa_cons (pv 6) (pa_cons (pe_bltn (v := .ty "tuple") (by rfl) B.tuple (by decide +kernel) rfl) pa_nil))))) (pw_or1 (pt_cmpR op_ne (pe_callB call_len_seq (by rfl) B.len PySem.boot_len (pa_cons (pv 6) pa_nil)) pe_int (nomark _)))))))) (pss_one (ps_ret pe_bl)) pss_nil)
        (C8.pss_cut (ps_if (PW.pt (pw_and (pt_cmpR op_notN (pv 6) pe_non (nomark _)) (pw_and1 (PW.pt (pw_or (pt_cmpR op_ne (pe_op op_add (pe_ix ix_tup (pv 6) pe_int (fun _ _ => rfl)) (pe_ix ix_tup (pv 6) pe_int (fun _ _ => rfl))) (pe_op op_mulX (pv 9) (pv 10)) (nomark _)) (pw_or1 (pt_cmpR op_gt (pe_ix ix_tup (pv 6) pe_int (fun _ _ => rfl)) (pe_ix ix_tup (pv 6) pe_int (fun _ _ => rfl)) (nomark _)))))))) (pss_one (ps_ret pe_bl)) pss_nil)
        (pss_cons (ps_set (i := 7) nd rfl (.inl rfl) (pe_lst (pa_cons (pv 4) (pa_cons (pe_op op_add (pv 4) pe_int) (pa_cons (pe_op op_sub (pe_op op_mulX (pv 9) (pv 10)) (pv 4)) (pa_cons pe_int (pa_cons (pe_cal C8' hr3 pass0 (pa_cons (pv 1) (pa_cons pe_int pa_nil))) pa_nil)))))))
        (C8.pss_cut (ps_if (pt_cmpR op_notN (pv 6) pe_non (nomark _)) (pss_one (ps_set (i := 7) nd rfl (.inl rfl) (pe_op op_cat (pv 7) (pe_lst (pa_cons (pe_ix ix_tup (pv 6) pe_int (fun _ _ => rfl)) (pa_cons (pe_ix ix_tup (pv 6) pe_int (fun _ _ => rfl)) (pa_cons (pe_op op_sub (pe_ix ix_tup (pv 6) pe_int (fun _ _ => rfl)) pe_int) (pa_cons (pe_op op_add (pe_ix ix_tup (pv 6) pe_int (fun _ _ => rfl)) pe_int) pa_nil)))))))) pss_nil)
        (C8.pss_cut (ps_if (pt_cmpR (op_neD hr.units) (pe_lc (own := [("_law_one", 11)]) (g := gName 11) (by rfl) nd (pi_list (pv 7)) (blkOk_by (N := ["_law_script", "_law_pen_here", "_law_lap", "_law_spot", "_law_area", "_law_number", "_law_shown", "_law_some", "_law_odd", "_law_x", "_law_y", "_law_one"]) (sc := defScope sLaw) (by decide +kernel)) (fun _ _ _ _ _ => pg_name (i := 11) nd rfl (Or.inl rfl))
                (fun _ _ _ _ _ => pts_one (pt_not (pt_val (pe_cal C9 hr4 pass0 (pa_cons (pv 9) (pa_cons (pv 10) (pa_cons (pv 11) (pa_cons (pv 5) (pa_cons (pv 6) pa_nil))))))))) (fun _ _ _ _ _ => pv 11)) (pe_lst pa_nil) (nomark _)) (pss_one (ps_ret pe_bl)) pss_nil)
        (C8.pss_cut (ps_if (pt_cmpR op_ne (pe_cmpR op_isN (pv 6) pe_non (nomark _)) (pe_or (pe_cmpR op_lt (pv 5) (pe_op op_add (pe_callB call_abs (by rfl) B.abs (by decide +kernel) (pa_cons (pv 9) pa_nil)) (pe_callB call_abs (by rfl) B.abs (by decide +kernel) (pa_cons (pv 10) pa_nil))) (nomark _)) (pe_one (pe_cmpR op_eq (pe_op op_mod (pe_callTy call_int1 (by rfl) B.int (by decide +kernel) (pa_cons (pe_op op_sub (pe_op op_sub (pv 5) (pv 9)) (pv 10)) pa_nil)) pe_int) pe_int (nomark _)))) (nomark _)) (pss_one (ps_ret pe_bl)) pss_nil)
        (pss_cons (ps_set (i := 8) nd rfl (.inr rfl) (pe_cal C4 hr2 pass0 (pa_cons (pv 1) (pa_cons (pe_lst (pa_cons pe_non (pa_cons pe_bl (pa_cons pe_str (pa_cons (pe_lst (pa_cons pe_int pa_nil)) (pa_cons (pe_un un_neg pe_int) pa_nil)))))) pa_nil))))
        (C8.pss_cut (ps_if (pt_cmpR (op_neD hr.units) (LamX.pe_lamcall (T := [(PT, qLam)]) (TT := TBn C) (by rfl) OR.g OR.F.kp lkR cdR' OR.b scLawRefused (by rfl) (.inl rfl) (bn_gives T) TB rfl (List.mem_singleton.mpr rfl) lamU hr (show LamX.LamS (defScope sLaw) _ from LamX.lamS_by (by decide +kernel)) (by rfl) (fun _ _ _ _ _ => rfl) (fun A outer s H E f c' hr' => pe_cal CA hr' (passes_call (takes_of rfl rfl rfl rfl) fun _ _ _ _ h => h) (pa_cons (pv 9) (pa_cons (pv 10) (pa_cons (pv 8) pa_nil))))) (pe_tup (pa_cons pe_str (pa_cons (pv 8) pa_nil))) (nomark _)) (pss_one (ps_ret pe_bl)) pss_nil)
        (C8.pss_cut (ps_if (PW.pt (pw_and (pt_cmpR (op_neD hr.units) (pv 8) (pe_un un_neg pe_int) (nomark _)) (pw_and1 (pt_cmpR (op_neD hr.units) (LamX.pe_lamcall (T := [(PT, qLam)]) (TT := TBn C) (by rfl) OR.g OR.F.kp lkR cdR' OR.b scLawRefused (by rfl) (.inl rfl) (bn_gives T) TB rfl (List.mem_singleton.mpr rfl) lamU hr (show LamX.LamS (defScope sLaw) _ from LamX.lamS_by (by decide +kernel)) (by rfl) (fun _ _ _ _ _ => rfl) (fun A outer s H E f c' hr' => pe_cal CA hr' (passes_call (takes_of rfl rfl rfl rfl) fun _ _ _ _ h => h) (pa_cons (pv 8) (pa_cons pe_non (pa_cons (pe_un un_neg pe_int) pa_nil))))) (pe_tup (pa_cons pe_str (pa_cons (pv 8) pa_nil))) (nomark _))))) (pss_one (ps_ret pe_bl)) pss_nil)
        (pss_one (ps_if (PW.pt (pw_and (pt_cmpR (op_neD hr.units) (pv 8) (pe_un un_neg pe_int) (nomark _)) (pw_and1 (pt_cmpR (op_neD hr.units) (LamX.pe_lamcall (T := [(PT, qLam)]) (TT := TBn C) (by rfl) OR.g OR.F.kp lkR cdR' OR.b scLawRefused (by rfl) (.inl rfl) (bn_gives T) TB rfl (List.mem_singleton.mpr rfl) lamU hr (show LamX.LamS (defScope sLaw) _ from LamX.lamS_by (by decide +kernel)) (by rfl) (fun _ _ _ _ _ => rfl) (fun A outer s H E f c' hr' => pe_cal CA hr' (passes_call (takes_of rfl rfl rfl rfl) fun _ _ _ _ h => h) (pa_cons (pv 9) (pa_cons (pv 8) (pa_cons pe_non pa_nil))))) (pe_tup (pa_cons pe_str (pa_cons (pv 8) pa_nil))) (nomark _))))) (pss_one (ps_ret pe_bl)) pss_nil)))))))))))))))))
        (pss_one (ps_ret pe_bl)))), ?_⟩
    have ll : (ns.map V.int).length = ns.length := List.length_map _
    refine ⟨_, rfl, a, ns, rfl, hS, hlen, fun p H1 s1 np p1 => ?_⟩
    refine ⟨_, rfl, p, 0, rfl, by decide, p1, fun H2 k2 p2 => ⟨_, rfl, ifF rfl ?_⟩⟩
    have T1 := LamX.Tabs.ext hT s1
    have L0 : LawSt [(PT, qLam)] p (1 + 400 * ((0 : Nat) : Int)) H2 := ⟨p2.mono (by decide), by
      obtain ⟨l, c, d, cs, h1, _⟩ := p1
      exact tabs_but h1 k2 T1⟩
    have hS2 : SqL K H2 a (ns.map V.int) := by
      rcases hS with (h | ⟨ob, h⟩) | h
      · exact .inl (.inl (k2 _ _ (ne_of_none h np) (s1 _ _ h)))
      · exact .inl (.inr ⟨ob, k2 _ _ (ne_of_none h np) (s1 _ _ h)⟩)
      · exact .inr h
    obtain ⟨N, hN, N9⟩ : ∃ N : Int, 4 + (if (((ns.map V.int).length : Nat) : Int) < 5 then (((ns.map V.int).length : Nat) : Int) else 5) = N ∧ N ≤ 9 := ⟨_, rfl, by split <;> omega⟩
    refine ⟨_, rfl, a, _, rfl, .inl hS2, _, _, rfl, _, _, rfl, rfl, ?_⟩
    refine ⟨N, congrArg (fun z => [V.int z]) hN, by omega, by omega, for_range (n := N.toNat) (fun i σ' H' => ∃ v2 v3 v4 v5 v6 v7 v8 v9 v10 : Option V, σ' = [some (.ref a), some (.ref p), v2, v3, v4, v5, v6, v7, v8, v9, v10, none] ∧ LawSt [(PT, qLam)] p (1 + 400 * (i : Int)) H')
      ⟨none, none, none, none, none, none, none, none, none, rfl, L0⟩ ?_ ?_⟩
    · rintro i σ1 H3 hi ⟨v2, v3, v4, v5, v6, v7, v8, v9, v10, rfl, L3⟩
      obtain ⟨m, hm, m0⟩ : ∃ m : Int, 1 + 400 * (i : Int) = m ∧ m ≤ 4000 := ⟨_, rfl, by omega⟩
      have hm2 : 1 + 400 * ((i + 1 : Nat) : Int) = m + 400 := by omega
      rw [hm] at L3
      rw [hm2]
      -- spot = far(pen, pick(pen, [0, 14, 49]))
      refine ⟨_, rfl, _, rfl, by show 3 ≤ sizeLine; decide, fun l hl => ?_⟩
      have s4 := same_new (o := .lst [.int 0, .int 14, .int 49]) hl
      have L4 := L3.same s4
      refine ⟨p, l, _, m, rfl, upd_same, by show 0 < 3; decide, by show 3 < 1000; decide, by omega, L4.pen, fun v H5 hv k5 p5 => ?_⟩
      obtain ⟨g, rfl, g49⟩ : ∃ g : Int, v = .int g ∧ g ≤ 49 := by
        rcases List.mem_cons.mp hv with rfl | hv
        · exact ⟨_, rfl, by decide⟩
        · rcases List.mem_cons.mp hv with rfl | hv
          · exact ⟨_, rfl, by decide⟩
          · rcases List.mem_cons.mp hv with rfl | hv
            · exact ⟨_, rfl, by decide⟩
            · cases hv
      have L5 := L4.but k5 p5
      refine ⟨p, g, _, rfl, g49, by omega, p5, fun x y ar t H6 sx sy sa k6 ht p6 => ?_⟩
      have L6 := L5.but k6 p6
      -- x, y, area = spot
      refine ⟨_, rfl, t, _, rfl, .inl (.inl ht), rfl, _, _, rfl, _, _, rfl, _, _, rfl, rfl, ?_⟩
      -- number = steps(place(spot)) + pick(..)
      refine ⟨_, rfl, t, x, y, ar, rfl, ht, fun pl dx H7 s7 hpl => ⟨pl, dx, x, y, ar, rfl, hpl, sx.mono (by decide), sy.mono (by decide), sa.mono (by decide), fun sp H8 s8 hst => ?_⟩⟩
      have L8 := (L6.same s7).same s8
      refine ⟨_, rfl, _, rfl, _, rfl, _, rfl, p, 50, _, rfl, by decide, by decide, by omega, L8.pen, fun gr H9 gr0 sgr k9 p9 => ?_⟩
      have L9 := L8.but k9 p9
      refine ⟨by show 7 ≤ sizeLine; decide, fun l2 hl2 => ?_⟩
      have s10 := same_new (o := .lst [.int 0, .int 0, .int 1, .int (-1), .int 2, .int (-2), .int gr]) hl2
      have L10 := L9.same s10
      refine ⟨p, l2, _, _, rfl, upd_same, by show 0 < 7; decide, by show 7 < 1000; decide, by omega, L10.pen, fun v' H11 hv' k11 p11 => ?_⟩
      have L11 := L10.but k11 p11
      have sm4 : ∀ {z : Int}, Sm 4 z → Sm 350 z := fun h => h.mono (by decide)
      obtain ⟨dl, rfl, sdl⟩ : ∃ dl : Int, v' = .int dl ∧ Sm 350 dl := by
        rcases List.mem_cons.mp hv' with rfl | hv'
        · exact ⟨_, rfl, sm4 (Sm.lit (by decide))⟩
        rcases List.mem_cons.mp hv' with rfl | hv'
        · exact ⟨_, rfl, sm4 (Sm.lit (by decide))⟩
        rcases List.mem_cons.mp hv' with rfl | hv'
        · exact ⟨_, rfl, sm4 (Sm.lit (by decide))⟩
        rcases List.mem_cons.mp hv' with rfl | hv'
        · exact ⟨_, rfl, sm4 (Sm.lit (by decide))⟩
        rcases List.mem_cons.mp hv' with rfl | hv'
        · exact ⟨_, rfl, sm4 (Sm.lit (by decide))⟩
        rcases List.mem_cons.mp hv' with rfl | hv'
        · exact ⟨_, rfl, sm4 (Sm.lit (by decide))⟩
        rcases List.mem_cons.mp hv' with rfl | hv'
        · exact ⟨_, rfl, sgr⟩
        · cases hv'
      refine ⟨_, _, rfl, rfl, ?_⟩
      have ss : Sm 1430 sp := sm_steps sx sy sa hst
      have sn1 : Sm 1431 (sp + dl) := ss.add (sdl.mono (by decide))
      -- number = number if number >= 0 else 0
      refine ⟨fun σ' H' => ∃ n : Int, 0 ≤ n ∧ Sm 1431 n ∧ σ' = [some (.ref a), some (.ref p), some (.int (0 + (i : Int))), some (.ref t), some (.int ar), some (.int n), v6, v7, v8, some (.int x), some (.int y), none] ∧ H' = H11, ?_, ?_⟩
      · refine ⟨_, rfl, _, _, rfl, rfl, _, rfl, ite2 (fun e => ?_) (fun e => ?_)⟩
        · exact ⟨_, rfl, sp + dl, of_decide_eq_true e, sn1, rfl, rfl⟩
        · exact ⟨0, by decide, Sm.lit (by decide), rfl, rfl⟩
      rintro σ2 H12 ⟨n, n0, sn, rfl, rfl⟩
      -- shown = areas(x, y, number)
      refine ⟨fun σ' H' => ∃ sh, σ' = [some (.ref a), some (.ref p), some (.int (0 + (i : Int))), some (.ref t), some (.int ar), some (.int n), some sh, v7, v8, some (.int x), some (.int y), none] ∧ Same H12 H' ∧ Shown H' x y n sh, ?_, ?_⟩
      · refine ⟨_, rfl, _, rfl, _, rfl, .int x, .int y, .int n, rfl, .int x, .int y, .int n, .inr ⟨x, y, n, rfl, rfl, rfl, n0, sx.mono (by decide), sy.mono (by decide), sn.mono (by decide), fun hA H' s' => ?_, fun lo hi tp H' hA s' ntp htp => ?_⟩⟩
        · exact ⟨_, rfl, s', .inl ⟨hA, rfl⟩⟩
        · exact ⟨_, rfl, s', .inr ⟨lo, hi, tp, hA, rfl, htp⟩⟩
      rintro σ3 H13 ⟨sh, rfl, s13, hsh⟩
      have L13 := L11.same s13
      -- a tuple of two
      refine ⟨fun σ' H' => σ' = [some (.ref a), some (.ref p), some (.int (0 + (i : Int))), some (.ref t), some (.int ar), some (.int n), some sh, v7, v8, some (.int x), some (.int y), none] ∧ H' = H13, ?_, ?_⟩
      · rcases hsh with ⟨hA, rfl⟩ | ⟨lo, hi, tp, hA, rfl, htp⟩
        · exact ⟨_, rfl, rfl, _, rfl, ifF rfl (ifF rfl ⟨rfl, rfl⟩)⟩
        · exact ⟨_, rfl, rfl, _, rfl, ifT rfl ⟨_, rfl, _, _, _, _, _, rfl, .ty "tuple", .base (.tup htp), kit_ty (r := true) (by decide +kernel), _, rfl, ifF rfl ⟨_, rfl, tp, _, rfl, .inr (.inl (.inl htp)), rfl, _, rfl, ifF rfl ⟨rfl, rfl⟩⟩⟩⟩
      rintro σ4 H14 ⟨rfl, rfl⟩
      -- half of x * y
      refine ⟨fun σ' H' => σ' = [some (.ref a), some (.ref p), some (.int (0 + (i : Int))), some (.ref t), some (.int ar), some (.int n), some sh, v7, v8, some (.int x), some (.int y), none] ∧ H' = H14, ?_, ?_⟩
      · rcases hsh with ⟨hA, rfl⟩ | ⟨lo, hi, tp, hA, rfl, htp⟩
        · exact ⟨_, rfl, rfl, _, rfl, ifF rfl (ifF rfl ⟨rfl, rfl⟩)⟩
        · have hTp : SqT K H14 tp [.int lo, .int hi] := .inl (.inl htp)
          have hs := areas_sum hA
          refine ⟨_, rfl, rfl, _, rfl, ifT rfl ⟨_, rfl, tp, _, _, _, rfl, rfl, hTp, atI_nat (j := 0) rfl, _, rfl, tp, _, _, _, rfl, rfl, hTp, atI_nat (j := 1) rfl, _, _, rfl, rfl, _, rfl, _, rfl, _, _, rfl, rfl, mulS sx sy (by decide), rfl, _, rfl, ifF ?_ ?_⟩⟩
          · show (!decide (V.int (lo + hi) = V.int (x * y))) = false
            rw [hs.1, decide_eq_true rfl]
            rfl
          · refine ⟨_, rfl, tp, _, _, _, rfl, rfl, hTp, atI_nat (j := 0) rfl, _, rfl, tp, _, _, _, rfl, rfl, hTp, atI_nat (j := 1) rfl, _, _, rfl, rfl, _, rfl, ifF ?_ ⟨rfl, rfl⟩⟩
            exact decide_eq_false (by omega)
      rintro σ5 H15 ⟨rfl, rfl⟩
      -- some = [..]
      refine ⟨_, rfl, _, rfl, _, _, rfl, rfl, _, rfl, _, rfl, _, _, rfl, rfl, mulS sx sy (by decide), _, rfl, _, _, rfl, rfl, _, rfl, p, 98, _, rfl, by decide, by omega, L13.pen, fun sg H16 ssg k16 p16 => ?_⟩
      have L16 := L13.but k16 p16
      refine ⟨by show 5 ≤ sizeLine; decide, fun l3 hl3 => ?_⟩
      have s17 := same_new (o := .lst [.int ar, .int (ar + 1), .int (x * y - ar), .int 0, .int sg]) hl3
      have L17 := L16.same s17
      have hsh17 := Shown.same s17 (Shown.but L13.pen k16 hsh)
      have hl3' : (upd H16 l3 (.lst [.int ar, .int (ar + 1), .int (x * y - ar), .int 0, .int sg])) l3 = some (.lst (List.map V.int [ar, ar + 1, x * y - ar, 0, sg])) := upd_same
      have one : Sm 710 1 := Sm.mono (n := 1) (Sm.lit (by decide)) (by decide)
      have sxy : Sm 700 (x * y) := sx.mul sy
      have mem5 : ∀ c ∈ [ar, ar + 1, x * y - ar, 0, sg], Sm 3000 c := fun c hc => by
        rcases List.mem_cons.mp hc with rfl | hc
        · exact sa.mono (by decide)
        rcases List.mem_cons.mp hc with rfl | hc
        · exact (sa.add one).mono (by decide)
        rcases List.mem_cons.mp hc with rfl | hc
        · exact ((sxy.mono (by decide)).sub sa).mono (by decide)
        rcases List.mem_cons.mp hc with rfl | hc
        · exact Sm.mono (n := 1) (Sm.lit (by decide)) (by decide)
        rcases List.mem_cons.mp hc with rfl | hc
        · exact ssg.mono (by decide)
        · cases hc
      refine ⟨fun σ' H' => ∃ (l4 : Addr) (cs : List Int), σ' = [some (.ref a), some (.ref p), some (.int (0 + (i : Int))), some (.ref t), some (.int ar), some (.int n), some sh, some (.ref l4), v8, some (.int x), some (.int y), none] ∧ H' l4 = some (.lst (cs.map V.int)) ∧ (∀ c ∈ cs, Sm 3000 c) ∧ Same (upd H16 l3 (.lst [.int ar, .int (ar + 1), .int (x * y - ar), .int 0, .int sg])) H', ?_, ?_⟩
      · rcases hsh17 with ⟨hA, rfl⟩ | ⟨lo, hi, tp, hA, rfl, htp⟩
        · exact ⟨_, rfl, rfl, _, rfl, ifF rfl ⟨l3, _, rfl, hl3', mem5, Same.refl _⟩⟩
        · have hTp : SqT K _ tp [.int lo, .int hi] := .inl (.inl htp)
          obtain ⟨slo, shi⟩ := sm_areas sx sy (sn.mono (by decide)) hA
          have one' : Sm 2900 1 := Sm.mono (n := 1) (Sm.lit (by decide)) (by decide)
          refine ⟨_, rfl, rfl, _, rfl, ifT rfl ⟨_, rfl, _, rfl, tp, _, _, _, rfl, rfl, hTp, atI_nat (j := 0) rfl, _, rfl, tp, _, _, _, rfl, rfl, hTp, atI_nat (j := 1) rfl, _, rfl, tp, _, _, _, rfl, rfl, hTp, atI_nat (j := 0) rfl, _, _, rfl, rfl, _, rfl, tp, _, _, _, rfl, rfl, hTp, atI_nat (j := 1) rfl, _, _, rfl, rfl, by show 4 ≤ sizeLine; decide, fun l5 hl5 => ?_⟩⟩
          have s18 := same_new (o := .lst [.int lo, .int hi, .int (lo - 1), .int (hi + 1)]) hl5
          refine ⟨l3, l5, _, _, rfl, rfl, s18 _ _ hl3', upd_same, by show 5 + 4 ≤ sizeLine; decide, fun l6 hl6 => ?_⟩
          refine ⟨l6, [ar, ar + 1, x * y - ar, 0, sg] ++ [lo, hi, lo - 1, hi + 1], rfl, upd_same, fun c hc => ?_, s18.trans (same_new hl6)⟩
          rcases List.mem_append.mp hc with hc | hc
          · exact mem5 c hc
          rcases List.mem_cons.mp hc with rfl | hc
          · exact slo.mono (by decide)
          rcases List.mem_cons.mp hc with rfl | hc
          · exact shi.mono (by decide)
          rcases List.mem_cons.mp hc with rfl | hc
          · exact (slo.sub one').mono (by decide)
          rcases List.mem_cons.mp hc with rfl | hc
          · exact (shi.add one').mono (by decide)
          · cases hc
      rintro σ6 H18 ⟨l4, cs, rfl, hl4, memcs, s18⟩
      have L18 := L17.same s18
      have hsh18 := hsh17.same s18
      -- each is told
      refine ⟨fun σ' H' => σ' = [some (.ref a), some (.ref p), some (.int (0 + (i : Int))), some (.ref t), some (.int ar), some (.int n), some sh, some (.ref l4), v8, some (.int x), some (.int y), none] ∧ Same H18 H', ?_, ?_⟩
      · refine ⟨_, rfl, l4, rfl, ⟨_, .inl (.inl hl4)⟩, fun D hD => ?_⟩
        refine lc_list (K := K) (a := l4) (xs := cs.map V.int) (fun _ H' => Same H18 H' ∧ H' D = some (.lst [])) ⟨same_new hD, upd_same⟩ (fun i H' _ h => .inl (.inl (h.1 _ _ hl4))) ?_ ?_
        · rintro i2 z H19 hi2 ⟨s19, hD19⟩
          obtain ⟨c, hc, rfl⟩ : ∃ c, c ∈ cs ∧ z = V.int c := by
            obtain ⟨c, hc, e⟩ := List.mem_map.mp (List.mem_of_getElem? hi2)
            exact ⟨c, hc, e.symm⟩
          refine ⟨rfl, _, rfl, _, rfl, _, rfl, _, rfl, _, rfl, x, y, c, n, sh, rfl, sx.mono (by decide), sy.mono (by decide), memcs c hc, hsh18.same s19, fun H20 s20 => ⟨_, rfl, ifF rfl ⟨s19.trans s20, s20 _ _ hD19⟩⟩⟩
        · rintro H19 ⟨s19, hD19⟩
          refine ⟨Nat.zero_le _, fun u hu => ?_⟩
          refine ⟨.list [], .list [], .lst (.inl (.inl (same_new hu _ _ hD19))) .nil, .lst (.inl (.inl upd_same)) .nil, shaped_ints [], shaped_ints [], _, rfl, ifF ?_ ⟨rfl, s19.trans (same_new hu)⟩⟩
          rfl
      rintro σ7 H19 ⟨rfl, s19⟩
      have L19 := L18.same s19
      have hsh19 := hsh18.same s19
      -- None just where there is no walk
      refine ⟨fun σ' H' => σ' = [some (.ref a), some (.ref p), some (.int (0 + (i : Int))), some (.ref t), some (.int ar), some (.int n), some sh, some (.ref l4), v8, some (.int x), some (.int y), none] ∧ H' = H19, ?_, ?_⟩
      · rcases hsh19 with ⟨hA, rfl⟩ | ⟨lo, hi, tp, hA, rfl, htp⟩
        · refine ⟨_, rfl, rfl, _, rfl, _, rfl, _, rfl, _, rfl, _, rfl, _, _, rfl, rfl, _, _, rfl, rfl, _, rfl, ite2 (fun e => ⟨rfl, _, rfl, ifF (neB rfl) ⟨rfl, rfl⟩⟩) (fun e => ?_)⟩
          have e1 : ¬ n < ab x + ab y := fun z => e (decide_eq_true z)
          have e2 := (areas_none.mp hA).resolve_left e1
          refine ⟨_, rfl, _, rfl, _, _, rfl, rfl, _, rfl, _, _, rfl, rfl, .inl ⟨_, rfl, _, _, rfl, rfl, (by show (0 : Int) < 2; decide), rfl, rfl, _, rfl, ifF (neB ?_) ⟨rfl, rfl⟩⟩⟩
          exact (decide_eq_true (congrArg V.int e2)).symm
        · refine ⟨_, rfl, rfl, _, rfl, _, rfl, _, rfl, _, rfl, _, rfl, _, _, rfl, rfl, _, _, rfl, rfl, _, rfl, ite2 (fun e => ?_) (fun e => ?_)⟩
          · have e1 : n < ab x + ab y := of_decide_eq_true e
            have e2 := areas_none.mpr (.inl e1)
            rw [hA] at e2
            cases e2
          · refine ⟨_, rfl, _, rfl, _, _, rfl, rfl, _, rfl, _, _, rfl, rfl, .inl ⟨_, rfl, _, _, rfl, rfl, (by show (0 : Int) < 2; decide), rfl, rfl, _, rfl, ifF (neB ?_) ⟨rfl, rfl⟩⟩⟩
            refine (decide_eq_false fun z => ?_).symm
            have e2 := areas_none.mpr (.inr (V.int.inj z))
            rw [hA] at e2
            cases e2
      rintro σ8 H20 ⟨rfl, rfl⟩
      -- odd = pick(..)
      refine ⟨_, rfl, by show 1 ≤ sizeLine; decide, fun l7 hl7 => ⟨_, rfl, by show 5 ≤ sizeLine; decide, fun l8 hl8 => ?_⟩⟩
      have s20 := same_new (o := .lst [.int 1]) hl7
      have s21 := same_new (o := .lst [.non, .bl true, .str "1", .ref l7, .int (-1)]) hl8
      have L21 := (L19.same s20).same s21
      have hl7' := s21 _ _ (upd_same (H := H20) (a := l7) (o := .lst [.int 1]))
      refine ⟨p, l8, _, _, rfl, upd_same, by show 0 < 5; decide, by show 5 < 1000; decide, by omega, L21.pen, fun v H22 hv k22 p22 => ?_⟩
      have L22 := L21.but k22 p22
      have ho : OddAt H22 v := by
        rcases List.mem_cons.mp hv with rfl | hv
        · exact .non
        rcases List.mem_cons.mp hv with rfl | hv
        · exact .yes
        rcases List.mem_cons.mp hv with rfl | hv
        · exact .txt
        rcases List.mem_cons.mp hv with rfl | hv
        · exact .lst (k22 _ _ (L21.pen.ne hl7' (by intro kvs z; cases z)) hl7')
        rcases List.mem_cons.mp hv with rfl | hv
        · exact .neg
        · cases hv
      refine ⟨fun σ' H' => σ' = [some (.ref a), some (.ref p), some (.int (0 + (i : Int))), some (.ref t), some (.int ar), some (.int n), some sh, some (.ref l4), some v, some (.int x), some (.int y), none] ∧ LamX.ExtN H22 H' ∧ LamX.Tabs [(PT, qLam)] H', ?_, ?_⟩
      · refine t_lam L22.tabs ho rfl (fun E H1 Q' eN k => ?_) (fun H' e tb => ifF rfl ⟨rfl, e, tb⟩)
        exact ⟨_, rfl, _, rfl, _, rfl, .int x, .int y, v, rfl, .int x, .int y, (ho.ext eN).any, .inl ⟨v, bad3 ho.not_whole, fun d H' s nd hd => k d H' s nd hd⟩⟩
      rintro σ9 H23 ⟨rfl, e23, t23⟩
      have ho23 := ho.ext e23
      refine ⟨fun σ' H' => σ' = [some (.ref a), some (.ref p), some (.int (0 + (i : Int))), some (.ref t), some (.int ar), some (.int n), some sh, some (.ref l4), some v, some (.int x), some (.int y), none] ∧ LamX.ExtN H23 H' ∧ LamX.Tabs [(PT, qLam)] H', ?_, ?_⟩
      · refine t_oddNe rfl ho23 ?_
        cases e : isInt v with
        | true => exact ifF rfl (ifF rfl ⟨rfl, LamX.ExtN.of (Same.refl _), t23⟩)
        | false =>
          refine ifT rfl (t_lam t23 ho23 rfl (fun E H1 Q' eN k => ?_) (fun H' e tb => ifF rfl ⟨rfl, e, tb⟩))
          exact ⟨_, rfl, _, rfl, v, .non, .int (-1), rfl, (ho23.ext eN).any, .non, .int (-1), .inl ⟨v, bad1 e, fun d H' s nd hd => k d H' s nd hd⟩⟩
      rintro σ10 H24 ⟨rfl, e24, t24⟩
      have ho24 := ho23.ext e24
      have last : ∀ H', LamX.ExtN H24 H' → LamX.Tabs [(PT, qLam)] H' → ∃ v2 v3 v4 v5 v6 v7 v8 v9 v10 : Option V, [some (.ref a), some (.ref p), some (.int (0 + (i : Int))), some (.ref t), some (.int ar), some (.int n), some sh, some (.ref l4), some v, some (.int x), some (.int y), none] = [some (.ref a), some (.ref p), v2, v3, v4, v5, v6, v7, v8, v9, v10, none] ∧ LawSt [(PT, qLam)] p (m + 400) H' :=
        fun H' e tb => ⟨_, _, _, _, _, _, _, _, _, rfl, (L22.pen.ext ((e23.trans e24).trans e)).mono (by omega), tb⟩
      · refine t_oddNe rfl ho24 ?_
        cases e : isInt v with
        | true => exact ifF rfl (ifF rfl (last _ (LamX.ExtN.of (Same.refl _)) t24))
        | false =>
          refine ifT rfl (t_lam t24 ho24 rfl (fun E H1 Q' eN k => ?_) (fun H' e tb => ifF rfl (last _ e tb)))
          exact ⟨_, rfl, _, rfl, .int x, v, .non, rfl, .int x, (ho24.ext eN).any, .non, .inl ⟨v, bad2 e, fun d H' s nd hd => k d H' s nd hd⟩⟩
    · rintro σ1 H3 _
      exact q _
end
end AW

set_option maxRecDepth 100000
set_option maxHeartbeats 16000000
/-! what the top has written; the law's promise -/
namespace AW
open PySem PySem.Spec PyProof.Rows L2
open LamX (Tabs)
/-- the def x of the module -/
def InTop (K : PySem.W.Frag) (x : Str) (st : Stmt) : Prop := ∃ (f : Addr) (oc kV dc pm cd ct : Value) (od an : Option Addr) (sl : Array (Option Value)), PySem.W.nsIn K mainGlobals x = some (some (.ref f)) ∧
  K.lookup f = some ⟨oc, od, .func (PySem.W.fnOf x x (defArgs st) (defBody st) (defScope st) .none kV dc pm an cd ct), sl⟩ ∧ PySem.W.codeIn K cd x = true ∧ PySem.W.keepIn K (.ref f) = true
theorem top_mk {K : PySem.W.Frag} {x : Str} {st : Stmt} {f : Addr} {oc kV dc pm cd ct : Value} {od an : Option Addr} {sl : Array (Option Value)} (a : PySem.W.nsIn K mainGlobals x = some (some (.ref f)))
    (l : K.lookup f = some ⟨oc, od, .func (PySem.W.fnOf x x (defArgs st) (defBody st) (defScope st) .none kV dc pm an cd ct), sl⟩) (c : PySem.W.codeIn K cd x = true) (k : PySem.W.keepIn K (.ref f) = true) : InTop K x st :=
  ⟨f, oc, kV, dc, pm, cd, ct, od, an, sl, a, l, c, k⟩
theorem InTop.own {K : PySem.W.Frag} {h : Heap} {mg : Str → Option Value} {x : Str} {st : Stmt} {ps : List Str} (T : InTop K x st) (X : K.In h) (G : h.Ns mainGlobals mg)
    (hb : ∀ (kV doc pm : Value) (an : Option Addr) (cdv ct : Value) (us : List Value), us.length = ps.length → bindArgs (PySem.W.fnOf x x (defArgs st) (defBody st) (defScope st) .none kV doc pm an cdv ct) ⟨us, []⟩ = pure (ps.zip us)) :
    ∃ (f : Addr) (fd : FuncData), Own K mg x st ps f fd := by
  obtain ⟨f, oc, kV, dc, pm, cd, ct, od, an, sl, a, l, c, k⟩ := T
  have F := fun_mk (st := st) l c k
  exact ⟨f, _, F, F.binds (ps := ps) hb, PySem.W.mg_of X G a⟩
/-- the built-ins' names -/
def NoneTop (K : PySem.W.Frag) (x : Str) : Prop := PySem.W.nsIn K mainGlobals x = some none
theorem blt_mk {K : PySem.W.Frag} {h : Heap} {mg : Str → Option Value} (X : K.In h) (G : h.Ns mainGlobals mg) (z0 : NoneTop K "isinstance") (z1 : NoneTop K "int") (z2 : NoneTop K "bool") (z3 : NoneTop K "abs") (z4 : NoneTop K "list") (z5 : NoneTop K "len") (z6 : NoneTop K "range") (z7 : NoneTop K "max") (z8 : NoneTop K "min") (z9 : NoneTop K "sorted") (z10 : NoneTop K "tuple") : Blt mg :=
  ⟨PySem.W.mg_none_of X G z0, PySem.W.mg_none_of X G z1, PySem.W.mg_none_of X G z2, PySem.W.mg_none_of X G z3, PySem.W.mg_none_of X G z4, PySem.W.mg_none_of X G z5, PySem.W.mg_none_of X G z6, PySem.W.mg_none_of X G z7, PySem.W.mg_none_of X G z8, PySem.W.mg_none_of X G z9, PySem.W.mg_none_of X G z10⟩
theorem exm_self {K : PySem.W.Frag} {S : Addr} (h1 : PySem.W.subIn K (.ref S) (.type "BaseException") = some true) (h2 : PySem.W.isClsIn K S = true) (h3 : PySem.W.typeIn K (.ref S) = some (.type "type")) (h4 : PySem.W.subIn K (.ref S) (.ref S) = some true) :
    PySem.W.exmOne K (.ref S) (.ref S) = some true := by
  have e1 : (PySem.W.subIn K (.ref S) (.type "BaseException") == some true) = true := by rw [h1] <;> rfl
  have e2 : ((PySem.W.clsIn K S).isSome && PySem.W.typeIn K (.ref S) == some (.type "type")) = true := by
    have h2' : (PySem.W.clsIn K S).isSome = true := h2
    rw [h2', h3] <;> rfl
  show (if (PySem.W.subIn K (.ref S) (.type "BaseException") == some true) = true then (if ((PySem.W.clsIn K S).isSome && PySem.W.typeIn K (.ref S) == some (.type "type")) = true then PySem.W.subIn K (.ref S) (.ref S) else none) else none) = some true
  rw [if_pos e1, if_pos e2]
  exact h4
/-- what the top has written of Place -/
def PlTop (K : PySem.W.Frag) : Prop := ∃ (C f : Addr) (oc kV dc pm cd ct : Value) (od an : Option Addr) (sl : Array (Option Value)), PySem.W.nsIn K mainGlobals "Place" = some (some (.ref C)) ∧ C8.InsC K C ∧ NoAttr K C "x" ∧ NoAttr K C "y" ∧ NoAttr K C "area" ∧ Mk K C f ∧
  K.lookup f = some ⟨oc, od, .func (PySem.W.fnOf "__init__" "Place.__init__" (defArgs sPInit) (defBody sPInit) (defScope sPInit) .none kV dc pm an cd ct), sl⟩ ∧ PySem.W.codeIn K cd "Place.__init__" = true ∧ PySem.W.keepIn K (.ref f) = true
theorem pl_mk {K : PySem.W.Frag} {C f : Addr} {oc kV dc pm cd ct : Value} {od an : Option Addr} {sl : Array (Option Value)} (a : PySem.W.nsIn K mainGlobals "Place" = some (some (.ref C)))
    (mi : PySem.W.findIn K (.ref C) "__init__" = some (some (.ref f))) (l : K.lookup f = some ⟨oc, od, .func (PySem.W.fnOf "__init__" "Place.__init__" (defArgs sPInit) (defBody sPInit) (defScope sPInit) .none kV dc pm an cd ct), sl⟩) (c : PySem.W.codeIn K cd "Place.__init__" = true) (k : PySem.W.keepIn K (.ref f) = true)
    (pg : PySem.W.plainGet K C Str.empty = true) (hd : PySem.W.hasDictIn K C = true) (po : PySem.W.plainOver K C = true) (sa : PySem.W.findIn K (.ref C) "__setattr__" = some (some (.builtin "object.__setattr__")))
    (ha : PySem.W.findIn K (.ref C) "__class__" = some (some (.builtin "object.__class__"))) (hn : PySem.W.specialIn K (.builtin "object.__class__") "__get__" = some (some (.builtin "getset_descriptor.__get__")))
    (htk : PySem.W.takesIn K (.builtin "object.__class__") = some true) (hm : PySem.W.mroIn K C (.type "object") = some true) (me : PySem.W.kitOne K (.ref C) (.ref C) = some true)
    (nx : PySem.W.findIn K (.ref C) "x" = some none) (ny : PySem.W.findIn K (.ref C) "y" = some none) (na : PySem.W.findIn K (.ref C) "area" = some none)
    (mk : PySem.W.makesIn K C = true) (mf : PySem.W.isFn K (.ref f) = true) (kc : PySem.W.keepIn K (.ref C) = true) : PlTop K :=
  ⟨C, f, oc, kV, dc, pm, cd, ct, od, an, sl, a, ⟨⟨pg, hd, po, sa⟩, ha, hn, htk, hm, me⟩, nx, ny, na, ⟨mk, mi, mf, kc⟩, l, c, k⟩
/-- what the top has written of BadNumber -/
def BnTop (P : Program) (K : PySem.W.Frag) : Prop := ∀ (h : Heap) (mg : Str → Option Value), K.In h → h.Ns mainGlobals mg → ∃ C fI, BnTxt P K mg C fI
theorem bn_mk {P : Program} {K : PySem.W.Frag} {C f : Addr} {nm q : Str} {N : Addr} {bs bm : List Value} {sn : List Str} {sub : List Value} {ab : Bool} {col : Option Bool} {dd : Option Addr} {m0 m1 m2 m3 m5 : Option Value}
    {od an : Option Addr} {sl : Array (Option Value)} {oc kV dc pm ct : Value} {cda cc : Addr} {ccl cl : Value} {cdd cld : Option Addr} {ccs csl : Array (Option Value)} {vs : Array Value} {file : Str} {tf : Tok}
    (a : PySem.W.nsIn K mainGlobals "BadNumber" = some (some (.ref C)))
    (x : K.lookup C = some (excClassObj nm q C N bs bm true sn sub ab col dd m0 m1 m2 m3 m5 "ValueError.__new__")) (xr : PySem.HandSPX.refsVE bm = true) (al : PySem.W.alongIn K "__init__" bm = some (some (.builtin "ValueError.__init__")))
    (sa : PySem.W.findIn K (.ref C) "__setattr__" = some (some (.builtin "object.__setattr__"))) (ga : PySem.W.findIn K (.ref C) "__getattribute__" = some (some (.builtin "BaseException.__getattribute__"))) (gg : PySem.W.findIn K (.ref C) "__getattr__" = some none) (nv : PySem.W.findIn K (.ref C) "value" = some none)
    (mi : PySem.W.findIn K (.ref C) "__init__" = some (some (.ref f))) (ty : PySem.W.typeIn K (.ref f) = some (.type "function")) (kc : PySem.W.keepIn K (.ref C) = true)
    (ex : PySem.W.subIn K (.ref C) (.type "BaseException") = some true) (ve : PySem.W.subIn K (.ref C) (.type "ValueError") = some true) (tc : PySem.W.typeIn K (.ref C) = some (.type "type")) (hd : PySem.W.hasDictIn K C = true)
    (ic : PySem.W.isClsIn K C = true) (sc : PySem.W.subIn K (.ref C) (.ref C) = some true) (a3 : PySem.W.nsIn K cStatics "thirdparty.any" = some none) (ns : PySem.W.nsIn K mainGlobals "super" = some none)
    (l : K.lookup f = some ⟨oc, od, .func (PySem.W.ksFn "__init__" "BadNumber.__init__" (defArgs sBnInit) (defBody sBnInit) (defScope sBnInit) .none kV dc pm an (.ref cda) ct cc), sl⟩) (c : PySem.W.codeIn K (.ref cda) "BadNumber.__init__" = true)
    (lc : K.lookup cda = some ⟨ccl, cdd, .fields vs, ccs⟩) (vf : vs[2]? = some (.str file tf)) (mf : ((P.main.file : Str) == file) = true) (ll : K.lookup cc = some ⟨cl, cld, .cell (some (.ref C)), csl⟩) : BnTop P K :=
  fun h mg X G => ⟨C, f, { gC := PySem.W.mg_of X G a, cls := ⟨nm, q, N, bs, bm, sn, sub, ab, col, dd, m0, m1, m2, m3, m5, x, xr, al⟩, sa := sa, ga := ga, gg := gg, noV := nv, iC := mi, tC := ty, kC := kc, exC := ex, veC := ve, tyC := tc, hdC := hd, te := exm_self ex ic tc sc, any3 := a3, noS := PySem.W.mg_none_of X G ns, fn := ⟨oc, od, kV, dc, pm, ct, an, sl, cda, cc, ccl, cl, cdd, cld, ccs, csl, vs, file, tf, l, c, lc, vf, mf, ll⟩ }⟩
theorem all_mk {l : PySem.W.OpenLaw} {w : World} {K : PySem.W.Frag} {h : Heap} {mg : Str → Option Value} {fa fL cL PT : Addr} {od an : Option Addr} {sl : Array (Option Value)} {oc kV dc pm ct : Value} (X : K.In h) (G : h.Ns mainGlobals mg) (hfa : mg "law" = some (.ref fa)) (ht : ∀ Q ∈ [PT], h.get? Q = some (PySem.W.tabObj #[]))
    (aL : PySem.W.nsIn K mainGlobals "law" = some (some (.ref fL))) (lL : K.lookup fL = some ⟨oc, od, .func (PySem.W.fnOf "law" "law" (defArgs sLaw) (defBody sLaw) (defScope sLaw) .none kV dc pm an (.ref cL) ct), sl⟩) (cdL : PySem.W.codeIn K (.ref cL) "law" = true)
    (nP : K.lookup PT = none) (hcd : PySem.W.codeHdIn K cL PT = true) (hns : NoSup l.prog) (B : Blt mg) (tP : PlTop K) (tB : BnTop l.prog K)
    (t0 : InTop K "is_integer" sIsInteger)
    (t1 : InTop K "is_whole" sIsWhole)
    (t2 : InTop K "need_place" sNeedPlace)
    (t3 : InTop K "whole_root" sWholeRoot)
    (t4 : InTop K "steps_of" sStepsOf)
    (t5 : InTop K "best_sides" sBestSides)
    (t6 : InTop K "areas_of" sAreasOf)
    (t7 : InTop K "steps" sSteps)
    (t8 : InTop K "areas" sAreas)
    (t9 : InTop K "_law_pen" sLawPen)
    (t10 : InTop K "_law_draw" sLawDraw)
    (t11 : InTop K "_law_pick" sLawPick)
    (t12 : InTop K "_law_great" sLawGreat)
    (t13 : InTop K "_law_signed" sLawSigned)
    (t14 : InTop K "_law_gone" sLawGone)
    (t15 : InTop K "_law_place" sLawPlace)
    (t16 : InTop K "_law_far" sLawFar)
    (t17 : InTop K "_law_ends" sLawEnds)
    (t18 : InTop K "_law_refused" sLawRefused)
    (t19 : InTop K "_law_near_right" sLawNearRight)
    (t20 : InTop K "_law_is_told" sLawIsTold) :
    LamX.LawAtS l w K CX0 7 63 "_law_script" mg fa h := by
  have e := hfa.symm.trans (PySem.W.mg_of X G aL)
  cases e
  obtain ⟨CB, fB, TB⟩ := tB h mg X G
  obtain ⟨CP, fP, ocP, kVP, dcP, pmP, cdP, ctP, odP, anP, slP, aP, iP, nx, ny, na, mkP, lP, cP, kP⟩ := tP
  have PL : PlTxt K mg CP fP := ⟨iP.cl, nx, ny, na, PySem.W.mg_of X G aP, iP, mkP⟩
  have FP := fun_mk (st := sPInit) lP cP kP
  have bP := FP.binds (ps := ["self", "x", "y", "area"]) fun _ _ _ _ _ _ us hl => match us, hl with | [_, _, _, _], _ => rfl
  obtain ⟨f0, fd0, O0⟩ := t0.own (ps := ["value"]) X G fun _ _ _ _ _ _ us hl => match us, hl with | [_], _ => rfl
  obtain ⟨f1, fd1, O1⟩ := t1.own (ps := ["value", "least"]) X G fun _ _ _ _ _ _ us hl => match us, hl with | [_, _], _ => rfl
  obtain ⟨f2, fd2, O2⟩ := t2.own (ps := ["value"]) X G fun _ _ _ _ _ _ us hl => match us, hl with | [_], _ => rfl
  obtain ⟨f3, fd3, O3⟩ := t3.own (ps := ["number"]) X G fun _ _ _ _ _ _ us hl => match us, hl with | [_], _ => rfl
  obtain ⟨f4, fd4, O4⟩ := t4.own (ps := ["x", "y", "area"]) X G fun _ _ _ _ _ _ us hl => match us, hl with | [_, _, _], _ => rfl
  obtain ⟨f5, fd5, O5⟩ := t5.own (ps := ["x", "y", "extra"]) X G fun _ _ _ _ _ _ us hl => match us, hl with | [_, _, _], _ => rfl
  obtain ⟨f6, fd6, O6⟩ := t6.own (ps := ["x", "y", "number"]) X G fun _ _ _ _ _ _ us hl => match us, hl with | [_, _, _], _ => rfl
  obtain ⟨f7, fd7, O7⟩ := t7.own (ps := ["place"]) X G fun _ _ _ _ _ _ us hl => match us, hl with | [_], _ => rfl
  obtain ⟨f8, fd8, O8⟩ := t8.own (ps := ["x", "y", "number"]) X G fun _ _ _ _ _ _ us hl => match us, hl with | [_, _, _], _ => rfl
  obtain ⟨f9, fd9, O9⟩ := t9.own (ps := ["_law_script"]) X G fun _ _ _ _ _ _ us hl => match us, hl with | [_], _ => rfl
  obtain ⟨f10, fd10, O10⟩ := t10.own (ps := ["_law_pen_here", "_law_span"]) X G fun _ _ _ _ _ _ us hl => match us, hl with | [_, _], _ => rfl
  obtain ⟨f11, fd11, O11⟩ := t11.own (ps := ["_law_pen_here", "_law_items"]) X G fun _ _ _ _ _ _ us hl => match us, hl with | [_, _], _ => rfl
  obtain ⟨f12, fd12, O12⟩ := t12.own (ps := ["_law_pen_here", "_law_figures"]) X G fun _ _ _ _ _ _ us hl => match us, hl with | [_, _], _ => rfl
  obtain ⟨f13, fd13, O13⟩ := t13.own (ps := ["_law_pen_here", "_law_figures"]) X G fun _ _ _ _ _ _ us hl => match us, hl with | [_, _], _ => rfl
  obtain ⟨f14, fd14, O14⟩ := t14.own (ps := ["_law_spot", "_law_letter", "_law_times"]) X G fun _ _ _ _ _ _ us hl => match us, hl with | [_, _, _], _ => rfl
  obtain ⟨f15, fd15, O15⟩ := t15.own (ps := ["_law_spot"]) X G fun _ _ _ _ _ _ us hl => match us, hl with | [_], _ => rfl
  obtain ⟨f16, fd16, O16⟩ := t16.own (ps := ["_law_pen_here", "_law_figures"]) X G fun _ _ _ _ _ _ us hl => match us, hl with | [_, _], _ => rfl
  obtain ⟨f17, fd17, O17⟩ := t17.own (ps := ["_law_number"]) X G fun _ _ _ _ _ _ us hl => match us, hl with | [_], _ => rfl
  obtain ⟨f18, fd18, O18⟩ := t18.own (ps := ["_law_deed"]) X G fun _ _ _ _ _ _ us hl => match us, hl with | [_], _ => rfl
  obtain ⟨f19, fd19, O19⟩ := t19.own (ps := ["_law_pen_here"]) X G fun _ _ _ _ _ _ us hl => match us, hl with | [_], _ => rfl
  obtain ⟨f20, fd20, O20⟩ := t20.own (ps := ["_law_x", "_law_y", "_law_area", "_law_number", "_law_shown"]) X G fun _ _ _ _ _ _ us hl => match us, hl with | [_, _, _, _, _], _ => rfl
  refine ⟨PySem.W.fnOf "law" "law" (defArgs sLaw) (defBody sLaw) (defScope sLaw) .none kV dc pm an (.ref cL) ct, [(cL, PT)], spLaw K PT, fun r hr => ?_, fun r hr => ?_, fun r hr => ?_, fun s u => .of_eq rfl, fun H a ns hl _ hH hS => ⟨a, ns, rfl, hS, hl, fun r hr => ?_, fun _ => rfl⟩, fun base Kb Gb hT => ?_⟩
  · rw [List.mem_singleton.mp hr]
    exact ht PT (List.mem_singleton.mpr rfl)
  · rw [List.mem_singleton.mp hr]
    exact nP
  · rw [List.mem_singleton.mp hr]
    exact PySem.W.codeHd_of_K X hcd
  · rw [List.mem_singleton.mp hr]
    exact LamX.TabS.nil (hH (cL, PT) (List.mem_singleton.mpr rfl))
  have C_is_integer := O0.cal (P := l.prog) (w := w) (base := base) (ok_isInteger O0 B)
  have C_is_whole := O1.cal (P := l.prog) (w := w) (base := base) (ok_isWhole O1 C_is_integer)
  have C_need_place := O2.cal (P := l.prog) (w := w) (base := base) (ok_need O2 B PL)
  have C_whole_root := O3.cal (P := l.prog) (w := w) (base := base) (ok_wholeRoot O3)
  have C_steps_of := O4.cal (P := l.prog) (w := w) (base := base) (ok_stepsOf O4 B C_whole_root)
  have C_best_sides := O5.cal (P := l.prog) (w := w) (base := base) (ok_best O5 B)
  have C_areas_of := O6.cal (P := l.prog) (w := w) (base := base) (ok_areasOf O6 B C_best_sides)
  have C_steps := O7.cal (P := l.prog) (w := w) (base := base) (ok_steps O7 PL C_need_place C_steps_of)
  have C_areas := O8.cal (P := l.prog) (w := w) (base := base) (ok_areas O8 TB hns C_is_integer C_is_whole C_areas_of)
  have GP := ok_pInit (P := l.prog) (w := w) (base := base) FP PL C_is_integer
  have C__law_pen := O9.cal (P := l.prog) (w := w) (base := base) (ok_pen O9 B)
  have C__law_draw := O10.cal (P := l.prog) (w := w) (base := base) (ok_draw O10 B)
  have C__law_pick := O11.cal (P := l.prog) (w := w) (base := base) (ok_pick O11 B C__law_draw)
  have C__law_great := O12.cal (P := l.prog) (w := w) (base := base) (ok_great O12 B C__law_draw)
  have C__law_signed := O13.cal (P := l.prog) (w := w) (base := base) (ok_signed O13 C__law_draw C__law_great)
  have C__law_gone := O14.cal (P := l.prog) (w := w) (base := base) (ok_gone O14)
  have C__law_place := O15.cal (P := l.prog) (w := w) (base := base) (ok_lawPlace O15 PL bP GP)
  have C__law_far := O16.cal (P := l.prog) (w := w) (base := base) (ok_far O16 B C__law_draw C__law_signed C__law_pick)
  have C__law_ends := O17.cal (P := l.prog) (w := w) (base := base) (ok_ends O17 B C__law_gone)
  have C__law_near_right := O19.cal (P := l.prog) (w := w) (base := base) (ok_near O19 B C__law_draw C__law_ends C_areas)
  have C__law_is_told := O20.cal (P := l.prog) (w := w) (base := base) (ok_isTold O20 B PL bP GP C_steps)
  exact ok_law lL cdL B TB (hT (cL, PT) (List.mem_singleton.mpr rfl)) O18 C__law_pen C__law_near_right C__law_far C__law_pick C_steps C__law_place C__law_great C_areas C__law_signed C__law_is_told
end AW
open PySem PySem.W PyProof.Rows in
set_option maxRecDepth 100000 in
set_option maxHeartbeats 0 in
theorem PySem.Challenge.cw_areawalks_k13_whole_areas_of_walks_holds : PySem.Challenge.rw_areawalks_k13_whole_areas_of_walks.Holds := by
  w_on; o_law; k_head; (case hw => w_witness2)
  k_fill
  refine LamX.walk_ofTs (l := PySem.Challenge.rw_areawalks_k13_whole_areas_of_walks) (n := 63) (k := 7) (x := "_law_script") (CX := fun _ => L2.CX0) rfl (by decide) rfl ⟨rfl, by decide, by decide⟩ (fun w h Y => PySem.W.km_in_of Y) ?F (fun _ _ _ _ _ h => h)
  case F =>
    intro w mg fa h Y KX G hmg
    refine' AW.all_mk KX G hmg (PySem.W.km_tabs_of Y) ?aL ?lL ?cdL ?nP ?hcd ?hns ?B ?tP ?tB ?t0 ?t1 ?t2 ?t3 ?t4 ?t5 ?t6 ?t7 ?t8 ?t9 ?t10 ?t11 ?t12 ?t13 ?t14 ?t15 ?t16 ?t17 ?t18 ?t19 ?t20
    (case aL => k_is)
    (case lL => k_is)
    (case cdL => k_is)
    (case nP => kernel_rfl)
    (case hcd => kernel_rfl)
    (case hns => show _ = _; kernel_rfl)
    (case B =>
      refine' AW.blt_mk KX G ?z0 ?z1 ?z2 ?z3 ?z4 ?z5 ?z6 ?z7 ?z8 ?z9 ?z10
      all_goals (unfold AW.NoneTop; k_is))
    (case tP =>
      refine' AW.pl_mk ?a ?mi ?l ?c ?k ?pg ?hd ?po ?sa ?ha ?hn ?htk ?hm ?me ?nx ?ny ?na ?mk ?mf ?kc
      (case a => k_is)
      (case mi => k_is)
      (case l => k_is)
      (case c => k_is)
      (case k => k_is)
      (case pg => k_is)
      (case hd => k_is)
      (case po => k_is)
      (case sa => k_is)
      (case ha => k_is)
      (case hn => k_is)
      (case htk => k_is)
      (case hm => k_is)
      (case me => kernel_rfl)
      (case nx => k_is)
      (case ny => k_is)
      (case na => k_is)
      (case mk => k_is)
      (case mf => k_is)
      (case kc => k_is))
    (case tB =>
      refine' AW.bn_mk ?a ?x ?xr ?al ?sa ?ga ?gg ?nv ?mi ?ty ?kc ?ex ?ve ?tc ?hd ?ic ?sc ?a3 ?ns ?l ?c ?lc ?vf ?mf ?ll
      (case a => k_is)
      (case x => k_is)
      (case xr => decide +kernel)
      (case al => kernel_rfl)
      (case sa => k_is)
      (case ga => k_is)
      (case gg => k_is)
      (case nv => k_is)
      (case mi => k_is)
      (case ty => k_is)
      (case kc => k_is)
      (case ex => k_is)
      (case ve => k_is)
      (case tc => k_is)
      (case hd => k_is)
      (case ic => k_is)
      (case sc => first | rfl | k_is)
      (case a3 => k_is)
      (case ns => k_is)
      (case l => k_is)
      (case c => k_is)
      (case lc => k_is)
      (case vf => rfl)
      (case mf => kernel_rfl)
      (case ll => k_is))
    (case t0 => (refine' AW.top_mk ?a ?l ?c ?k; (case a => k_is); (case l => k_is); (case c => k_is); (case k => k_is)))
    (case t1 => (refine' AW.top_mk ?a ?l ?c ?k; (case a => k_is); (case l => k_is); (case c => k_is); (case k => k_is)))
    (case t2 => (refine' AW.top_mk ?a ?l ?c ?k; (case a => k_is); (case l => k_is); (case c => k_is); (case k => k_is)))
    (case t3 => (refine' AW.top_mk ?a ?l ?c ?k; (case a => k_is); (case l => k_is); (case c => k_is); (case k => k_is)))
    (case t4 => (refine' AW.top_mk ?a ?l ?c ?k; (case a => k_is); (case l => k_is); (case c => k_is); (case k => k_is)))
    (case t5 => (refine' AW.top_mk ?a ?l ?c ?k; (case a => k_is); (case l => k_is); (case c => k_is); (case k => k_is)))
    (case t6 => (refine' AW.top_mk ?a ?l ?c ?k; (case a => k_is); (case l => k_is); (case c => k_is); (case k => k_is)))
    (case t7 => (refine' AW.top_mk ?a ?l ?c ?k; (case a => k_is); (case l => k_is); (case c => k_is); (case k => k_is)))
    (case t8 => (refine' AW.top_mk ?a ?l ?c ?k; (case a => k_is); (case l => k_is); (case c => k_is); (case k => k_is)))
    (case t9 => (refine' AW.top_mk ?a ?l ?c ?k; (case a => k_is); (case l => k_is); (case c => k_is); (case k => k_is)))
    (case t10 => (refine' AW.top_mk ?a ?l ?c ?k; (case a => k_is); (case l => k_is); (case c => k_is); (case k => k_is)))
    (case t11 => (refine' AW.top_mk ?a ?l ?c ?k; (case a => k_is); (case l => k_is); (case c => k_is); (case k => k_is)))
    (case t12 => (refine' AW.top_mk ?a ?l ?c ?k; (case a => k_is); (case l => k_is); (case c => k_is); (case k => k_is)))
    (case t13 => (refine' AW.top_mk ?a ?l ?c ?k; (case a => k_is); (case l => k_is); (case c => k_is); (case k => k_is)))
    (case t14 => (refine' AW.top_mk ?a ?l ?c ?k; (case a => k_is); (case l => k_is); (case c => k_is); (case k => k_is)))
    (case t15 => (refine' AW.top_mk ?a ?l ?c ?k; (case a => k_is); (case l => k_is); (case c => k_is); (case k => k_is)))
    (case t16 => (refine' AW.top_mk ?a ?l ?c ?k; (case a => k_is); (case l => k_is); (case c => k_is); (case k => k_is)))
    (case t17 => (refine' AW.top_mk ?a ?l ?c ?k; (case a => k_is); (case l => k_is); (case c => k_is); (case k => k_is)))
    (case t18 => (refine' AW.top_mk ?a ?l ?c ?k; (case a => k_is); (case l => k_is); (case c => k_is); (case k => k_is)))
    (case t19 => (refine' AW.top_mk ?a ?l ?c ?k; (case a => k_is); (case l => k_is); (case c => k_is); (case k => k_is)))
    (case t20 => (refine' AW.top_mk ?a ?l ?c ?k; (case a => k_is); (case l => k_is); (case c => k_is); (case k => k_is)))

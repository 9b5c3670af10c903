import PyProof.Rows.All
import Wide.All
import OpenK.AllK
import Wide.FinOn
import HandS.ForMost
import HandS.IsInst
import HandS.Style
import HandS.Zip
import HandS.SortRule
import HandS.Deep
import HandS.DictTup
import HandS.TupLe
import HandS.Wide
import HandS.Defaults
import HandS.Evl
import HandS.Walk
import HandS.MakeKwOnly
import HandS.NoneIn
import PySem.Challenge.RW_hintedpoints_k79_whole_side_by_side
set_option Elab.async false
set_option linter.all false
set_option maxRecDepth 100000
set_option maxHeartbeats 4000000
/-! #### part K79Math -/
namespace K79

/-! ### floor-type functions, Python's rounding for a base above nought -/
def fm (t b : Int) : Int := 0 - (32 * b - t) / (64 * b)
def dcol (s d : Int) : Int := 0 - (0 - s) / (128 * d) - 1

theorem fm_le {t b c : Int} (hb : 0 < b) : fm t b ≤ c ↔ t ≤ (64 * c + 32) * b := by
  unfold fm
  have h : 0 - (32 * b - t) / (64 * b) ≤ c ↔ -c ≤ (32 * b - t) / (64 * b) := by omega
  rw [h, Int.le_ediv_iff_mul_le (by omega)]
  constructor
  · intro h; grind
  · intro h; grind
theorem dcol_le {s d c : Int} (hd : 0 < d) : dcol s d ≤ c ↔ s ≤ 128 * d * (c + 1) := by
  unfold dcol
  have h : 0 - (0 - s) / (128 * d) - 1 ≤ c ↔ -(c + 1) ≤ (0 - s) / (128 * d) := by omega
  rw [h, Int.le_ediv_iff_mul_le (by omega)]
  constructor
  · intro h; grind
  · intro h; grind
/-- two numbers with the same upper bounds are the same -/
theorem eq_of_le_iff {a b : Int} (h : ∀ c, a ≤ c ↔ b ≤ c) : a = b := by
  have h1 := (h b).2 (Int.le_refl b)
  have h2 := (h a).1 (Int.le_refl a)
  omega
theorem fm_congr {t b t' b' : Int} (hb : 0 < b) (hb' : 0 < b') (e : t * b' = t' * b) : fm t b = fm t' b' := by
  refine eq_of_le_iff fun c => ?_
  rw [fm_le hb, fm_le hb']
  constructor
  · intro h
    have h1 := Int.mul_le_mul_of_nonneg_right h (Int.le_of_lt hb')
    rw [e] at h1
    have h2 : t' * b ≤ ((64 * c + 32) * b') * b := by grind
    exact Int.le_of_mul_le_mul_right h2 hb
  · intro h
    have h1 := Int.mul_le_mul_of_nonneg_right h (Int.le_of_lt hb)
    rw [← e] at h1
    have h2 : t * b' ≤ ((64 * c + 32) * b) * b' := by grind
    exact Int.le_of_mul_le_mul_right h2 hb'
theorem fm_mono {t b t' b' : Int} (hb : 0 < b) (hb' : 0 < b') (e : t * b' ≤ t' * b) : fm t b ≤ fm t' b' := by
  rw [fm_le hb]
  have h := (fm_le (t := t') (c := fm t' b') hb').1 (Int.le_refl _)
  have h1 := Int.mul_le_mul_of_nonneg_right h (Int.le_of_lt hb)
  have h2 : t * b' ≤ ((64 * fm t' b' + 32) * b) * b' := by grind
  exact Int.le_of_mul_le_mul_right h2 hb'
theorem dcol_congr {s d s' d' : Int} (hd : 0 < d) (hd' : 0 < d') (e : s * d' = s' * d) : dcol s d = dcol s' d' := by
  refine eq_of_le_iff fun c => ?_
  rw [dcol_le hd, dcol_le hd']
  constructor
  · intro h
    have h1 := Int.mul_le_mul_of_nonneg_right h (Int.le_of_lt hd')
    rw [e] at h1
    have h2 : s' * d ≤ (128 * d' * (c + 1)) * d := by grind
    exact Int.le_of_mul_le_mul_right h2 hd
  · intro h
    have h1 := Int.mul_le_mul_of_nonneg_right h (Int.le_of_lt hd)
    rw [← e] at h1
    have h2 : s * d' ≤ (128 * d * (c + 1)) * d' := by grind
    exact Int.le_of_mul_le_mul_right h2 hd'
theorem dcol_mono {s d s' d' : Int} (hd : 0 < d) (hd' : 0 < d') (e : s * d' ≤ s' * d) : dcol s d ≤ dcol s' d' := by
  rw [dcol_le hd]
  have h := (dcol_le (s := s') (c := dcol s' d') hd').1 (Int.le_refl _)
  have h1 := Int.mul_le_mul_of_nonneg_right h (Int.le_of_lt hd)
  have h2 : s * d' ≤ (128 * d * (dcol s' d' + 1)) * d' := by grind
  exact Int.le_of_mul_le_mul_right h2 hd'

/-! ### the mirrors -/
abbrev Pt := Int × Int
abbrev Row3 := Int × Int × Int
abbrev Row4 := Int × Int × Int × Int
/-- edges, each from the place ahead (of the first place: the last one) -/
def edges (p : List Pt) : List (Pt × Pt) := List.zip (p.getLastD (0, 0) :: p) p
def crossE (m line : Int) (e : Pt × Pt) : Option Row3 :=
  if (decide (line < e.1.2) != decide (line < e.2.2)) = true then
    some ((e.1.1 * (e.2.2 - e.1.2) + (line - e.1.2) * (e.2.1 - e.1.1)) * (if 0 < e.2.2 - e.1.2 then 1 else -1), (e.2.2 - e.1.2) * (if 0 < e.2.2 - e.1.2 then 1 else -1) * m, if 0 < e.2.2 - e.1.2 then 1 else -1)
  else none
def lineOf (m row : Int) : Int := (64 * row + 32) * m
def crossM (pss : List (List Pt)) (m row : Int) : List Row3 := pss.flatMap fun p => (edges p).filterMap (crossE m (lineOf m row))

def lcmI (w b : Int) : Int := w * b / (Int.gcd w b : Int)
def wholeM (rows : List Row3) : Int := rows.foldl (fun w r => lcmI w r.2.1) 1
def hereM (w : Int) (r : Row3) : Int := r.1 * (w / r.2.1)
/-- a dict of pairs, its keys in the order in which they came -/
abbrev Dc := List (Int × Int × Int)
def getD' (d : Dc) (k : Int) : Int × Int := match d with
  | [] => (0, 0)
  | (k', v) :: r => if k' = k then v else getD' r k
def putD' (d : Dc) (k : Int) (v : Int × Int) : Dc := match d with
  | [] => [(k, v)]
  | (k', v') :: r => if k' = k then (k', v) :: r else (k', v') :: putD' r k v
def stepD (w : Int) (d : Dc) (r : Row3) : Dc := putD' d (hereM w r) ((getD' d (hereM w r)).1 + r.2.2, (getD' d (hereM w r)).2 + 1)
def dictM (w : Int) (rows : List Row3) : Dc := rows.foldl (stepD w) []
/-- by the key -/
def insK (x : Int × Int × Int) : Dc → Dc
  | [] => [x]
  | y :: r => if x.1 ≤ y.1 then x :: y :: r else y :: insK x r
def sortK : Dc → Dc
  | [] => []
  | x :: r => insK x (sortK r)
def orderM (rows : List Row3) : List Row4 := (sortK (dictM (wholeM rows) rows)).map fun e => (e.1, wholeM rows, e.2.1, e.2.2)

structure SSt where
  found : List Row3
  begin : Option Int
  ups : Int
  count : Int
def within (odd : Bool) (ups count : Int) : Bool := if odd then decide (count % 2 = 1) else !decide (ups = 0)
def stepS (odd : Bool) (s : SSt) (e : Row4) : SSt :=
  let ups := s.ups + e.2.2.1
  let count := s.count + e.2.2.2
  match within odd ups count, s.begin with
  | true, none => ⟨s.found, some e.1, ups, count⟩
  | true, some b => ⟨s.found, some b, ups, count⟩
  | false, some b => ⟨s.found ++ [(b, e.1, e.2.1)], none, ups, count⟩
  | false, none => ⟨s.found, none, ups, count⟩
def stretchM (rows : List Row3) (odd : Bool) : List Row3 := ((orderM rows).foldl (stepS odd) ⟨[], none, 0, 0⟩).found

def boxB (drops : Bool) (b e d : Int) : Pt := if b = e ∧ drops = true then (d, d + 1) else (b, e)
def fillM (drops : Bool) (s : Row3) : Pt := boxB drops (fm s.1 s.2.2) (fm s.2.1 s.2.2) (dcol (s.1 + s.2.1) s.2.2)
def colsM (pss : List (List Pt)) (m row : Int) (odd drops : Bool) : List Pt := (stretchM (crossM pss m row) odd).map (fillM drops)
def spanM (row : Int) (c : Pt) : Option Row3 := if c.1 = c.2 then none else some (row, c.1, c.2)
def heights (pss : List (List Pt)) : List Int := pss.flatMap fun p => p.map (·.2)
def mnL (l : List Int) : Int := l.foldl min (l.headD 0)
def mxL (l : List Int) : Int := l.foldl max (l.headD 0)
def firstM (pss : List (List Pt)) (m : Int) : Int := fm (mnL (heights pss)) m
def countM (pss : List (List Pt)) (m : Int) : Int := fm (mxL (heights pss)) m - firstM pss m
def cellsW (pss : List (List Pt)) (m : Int) (odd drops : Bool) : List Row3 :=
  (List.range (countM pss m).toNat).flatMap fun (i : Nat) => (colsM pss m (firstM pss m + (i : Int)) odd drops).filterMap (spanM (firstM pss m + (i : Int)))

/-! ### the least common multiple -/
theorem lcmI_nat (n m : Nat) : lcmI (n : Int) (m : Int) = ((Nat.lcm n m : Nat) : Int) := by
  unfold lcmI Nat.lcm
  rw [Int.gcd_natCast_natCast, Int.natCast_ediv, Int.natCast_mul]
theorem pos_nat {w : Int} (h : 0 < w) : ∃ n : Nat, w = (n : Int) ∧ 0 < n := ⟨w.toNat, by omega, by omega⟩
theorem lcmI_pos {w b : Int} (hw : 0 < w) (hb : 0 < b) : 0 < lcmI w b := by
  obtain ⟨n, rfl, hn⟩ := pos_nat hw
  obtain ⟨m, rfl, hm⟩ := pos_nat hb
  rw [lcmI_nat]
  have := Nat.lcm_pos hn hm
  omega
theorem dvd_lcmI_left {w b : Int} (hw : 0 < w) (hb : 0 < b) : w ∣ lcmI w b := by
  obtain ⟨n, rfl, hn⟩ := pos_nat hw
  obtain ⟨m, rfl, hm⟩ := pos_nat hb
  rw [lcmI_nat]
  exact Int.natCast_dvd_natCast.mpr (Nat.dvd_lcm_left n m)
theorem dvd_lcmI_right {w b : Int} (hw : 0 < w) (hb : 0 < b) : b ∣ lcmI w b := by
  obtain ⟨n, rfl, hn⟩ := pos_nat hw
  obtain ⟨m, rfl, hm⟩ := pos_nat hb
  rw [lcmI_nat]
  exact Int.natCast_dvd_natCast.mpr (Nat.dvd_lcm_right n m)
theorem lcmI_dvd {w b n : Int} (hw : 0 < w) (hb : 0 < b) (h1 : w ∣ n) (h2 : b ∣ n) : lcmI w b ∣ n := by
  obtain ⟨p, rfl, hp⟩ := pos_nat hw
  obtain ⟨q, rfl, hq⟩ := pos_nat hb
  rw [lcmI_nat]
  have a1 : p ∣ n.natAbs := Int.ofNat_dvd_left.mp h1
  have a2 : q ∣ n.natAbs := Int.ofNat_dvd_left.mp h2
  exact Int.ofNat_dvd_left.mpr (Nat.lcm_dvd a1 a2)
/-! ### the turns of a row, told without the common base -/
def colsN (drops : Bool) (t1 b1 t2 b2 : Int) : List Pt :=
  if t1 * b2 = t2 * b1 then [] else [boxB drops (min (fm t1 b1) (fm t2 b2)) (max (fm t1 b1) (fm t2 b2)) (dcol (t1 * b2 + t2 * b1) (b1 * b2))]
/-- rows' common base, here: two rows -/
theorem here_spec {w b t : Int} (hb : 0 < b) (hd : b ∣ w) : (t * (w / b)) * b = t * w := by
  obtain ⟨q, rfl⟩ := hd
  rw [Int.mul_ediv_cancel_left _ (by omega)]
  grind
theorem here_lt {w t1 b1 t2 b2 : Int} (hw : 0 < w) (h1 : 0 < b1) (h2 : 0 < b2) (d1 : b1 ∣ w) (d2 : b2 ∣ w) : t1 * (w / b1) < t2 * (w / b2) ↔ t1 * b2 < t2 * b1 := by
  have e1 := here_spec (t := t1) h1 d1
  have e2 := here_spec (t := t2) h2 d2
  have hbb : 0 < b1 * b2 := Int.mul_pos h1 h2
  have k1 : (t1 * (w / b1)) * (b1 * b2) = (t1 * b2) * w := by grind
  have k2 : (t2 * (w / b2)) * (b1 * b2) = (t2 * b1) * w := by grind
  rw [← Int.mul_lt_mul_right hbb, k1, k2, Int.mul_lt_mul_right hw]
theorem here_eq {w t1 b1 t2 b2 : Int} (hw : 0 < w) (h1 : 0 < b1) (h2 : 0 < b2) (d1 : b1 ∣ w) (d2 : b2 ∣ w) : t1 * (w / b1) = t2 * (w / b2) ↔ t1 * b2 = t2 * b1 := by
  have a := here_lt (t1 := t1) (t2 := t2) hw h1 h2 d1 d2
  have b := here_lt (t1 := t2) (t2 := t1) hw h2 h1 d2 d1
  omega
theorem fm_here {w t b : Int} (hw : 0 < w) (hb : 0 < b) (d : b ∣ w) : fm (t * (w / b)) w = fm t b := fm_congr hw hb (here_spec hb d)

/-- the one stretch from h1 to h2, filled -/
theorem fill_two (drops : Bool) {w t1 b1 t2 b2 : Int} (hw : 0 < w) (h1 : 0 < b1) (h2 : 0 < b2) (d1 : b1 ∣ w) (d2 : b2 ∣ w) (lt : t1 * b2 < t2 * b1) :
    [fillM drops (t1 * (w / b1), t2 * (w / b2), w)] = colsN drops t1 b1 t2 b2 ∧ [fillM drops (t1 * (w / b1), t2 * (w / b2), w)] = colsN drops t2 b2 t1 b1 := by
  have m := fm_mono h1 h2 (Int.le_of_lt lt)
  have e1 := fm_here (t := t1) hw h1 d1
  have e2 := fm_here (t := t2) hw h2 d2
  have s1 := here_spec (t := t1) h1 d1
  have s2 := here_spec (t := t2) h2 d2
  have ed : dcol (t1 * (w / b1) + t2 * (w / b2)) w = dcol (t1 * b2 + t2 * b1) (b1 * b2) := dcol_congr hw (Int.mul_pos h1 h2) (by grind)
  have mn : min (fm t1 b1) (fm t2 b2) = fm t1 b1 := by omega
  have mx : max (fm t1 b1) (fm t2 b2) = fm t2 b2 := by omega
  have mn' : min (fm t2 b2) (fm t1 b1) = fm t1 b1 := by omega
  have mx' : max (fm t2 b2) (fm t1 b1) = fm t2 b2 := by omega
  have ed' : dcol (t2 * b1 + t1 * b2) (b2 * b1) = dcol (t1 * b2 + t2 * b1) (b1 * b2) := by rw [Int.add_comm, Int.mul_comm b2 b1]
  refine ⟨?_, ?_⟩
  · unfold colsN fillM
    rw [if_neg (by omega)]
    simp only [e1, e2, ed, mn, mx]
  · unfold colsN fillM
    rw [if_neg (by omega)]
    simp only [e1, e2, ed, mn', mx', ed']
theorem colsN_comm (drops : Bool) {t1 b1 t2 b2 : Int} : colsN drops t1 b1 t2 b2 = colsN drops t2 b2 t1 b1 := by
  unfold colsN
  by_cases h : t1 * b2 = t2 * b1
  · rw [if_pos h, if_pos h.symm]
  · rw [if_neg h, if_neg (fun e => h e.symm)]
    have e1 : min (fm t1 b1) (fm t2 b2) = min (fm t2 b2) (fm t1 b1) := by omega
    have e2 : max (fm t1 b1) (fm t2 b2) = max (fm t2 b2) (fm t1 b1) := by omega
    rw [e1, e2, Int.add_comm (t1 * b2), Int.mul_comm b1 b2]
/-- scale -/
theorem colsN_congr (drops : Bool) {t1 b1 t2 b2 t1' b1' t2' b2' : Int} (h1 : 0 < b1) (h2 : 0 < b2) (h1' : 0 < b1') (h2' : 0 < b2') (e1 : t1 * b1' = t1' * b1) (e2 : t2 * b2' = t2' * b2) :
    colsN drops t1 b1 t2 b2 = colsN drops t1' b1' t2' b2' := by
  have f1 := fm_congr h1 h1' e1
  have f2 := fm_congr h2 h2' e2
  have hp : 0 < b1 * b2 := Int.mul_pos h1 h2
  have hp' : 0 < b1' * b2' := Int.mul_pos h1' h2'
  have k1 : (t1 * b2) * (b1' * b2') = (t1' * b2') * (b1 * b2) := by grind
  have k2 : (t2 * b1) * (b1' * b2') = (t2' * b1') * (b1 * b2) := by grind
  have ec : (t1 * b2 = t2 * b1) ↔ (t1' * b2' = t2' * b1') := by
    constructor
    · intro h
      rw [h, k2] at k1
      exact (Int.eq_of_mul_eq_mul_right (by omega) k1).symm
    · intro h
      rw [h, ← k2] at k1
      exact Int.eq_of_mul_eq_mul_right (by omega) k1
  have d : dcol (t1 * b2 + t2 * b1) (b1 * b2) = dcol (t1' * b2' + t2' * b1') (b1' * b2') := dcol_congr hp hp' (by grind)
  unfold colsN
  rw [f1, f2, d]
  by_cases h : t1 * b2 = t2 * b1
  · rw [if_pos h, if_pos (ec.mp h)]
  · rw [if_neg h, if_neg fun e => h (ec.mpr e)]

/-! ### rows with no crossing, two, or four -/
theorem whole_spec : ∀ (rows : List Row3) (w : Int), 0 < w → (∀ r ∈ rows, 0 < r.2.1) →
    0 < rows.foldl (fun w r => lcmI w r.2.1) w ∧ w ∣ rows.foldl (fun w r => lcmI w r.2.1) w ∧ ∀ r ∈ rows, r.2.1 ∣ rows.foldl (fun w r => lcmI w r.2.1) w
  | [], w, hw, _ => ⟨hw, Int.dvd_refl w, fun _ h => nomatch h⟩
  | r :: rs, w, hw, h => by
    have hr := h r List.mem_cons_self
    obtain ⟨a, b, c⟩ := whole_spec rs (lcmI w r.2.1) (lcmI_pos hw hr) fun x hx => h x (List.mem_cons_of_mem _ hx)
    refine ⟨a, Int.dvd_trans (dvd_lcmI_left hw hr) b, fun x hx => ?_⟩
    rcases List.mem_cons.mp hx with rfl | hx
    · exact Int.dvd_trans (dvd_lcmI_right hw hr) b
    · exact c x hx
theorem wholeM_pos {rows : List Row3} (h : ∀ r ∈ rows, 0 < r.2.1) : 0 < wholeM rows := (whole_spec rows 1 (by decide) h).1
theorem wholeM_dvd {rows : List Row3} (h : ∀ r ∈ rows, 0 < r.2.1) : ∀ r ∈ rows, r.2.1 ∣ wholeM rows := (whole_spec rows 1 (by decide) h).2.2

/-- the stretches of crossings told by where they are and which way they go -/
def dictH (hs : List (Int × Int)) : Dc := hs.foldl (fun d e => putD' d e.1 ((getD' d e.1).1 + e.2, (getD' d e.1).2 + 1)) []
def stretchH (W : Int) (hs : List (Int × Int)) (odd : Bool) : List Row3 := (((sortK (dictH hs)).map fun e => (e.1, W, e.2.1, e.2.2)).foldl (stepS odd) ⟨[], none, 0, 0⟩).found
theorem dictM_H (W : Int) : ∀ (rows : List Row3) (d : Dc), rows.foldl (stepD W) d = (rows.map fun r => (hereM W r, r.2.2)).foldl (fun d e => putD' d e.1 ((getD' d e.1).1 + e.2, (getD' d e.1).2 + 1)) d
  | [], _ => rfl
  | r :: rs, d => dictM_H W rs _
theorem stretchM_H (rows : List Row3) (odd : Bool) : stretchM rows odd = stretchH (wholeM rows) (rows.map fun r => (hereM (wholeM rows) r, r.2.2)) odd := by
  unfold stretchM orderM dictM stretchH dictH
  rw [dictM_H]

theorem stretchH_nil (W : Int) (odd : Bool) : stretchH W [] odd = [] := rfl
theorem stretchH_two_eq (W h w : Int) (odd : Bool) : stretchH W [(h, w), (h, -w)] odd = [] := by
  have e : w + -w = 0 := by omega
  cases odd <;> simp [stretchH, dictH, putD', getD', sortK, insK, stepS, within, e]
theorem stretchH_two_lt {W h1 h2 w : Int} (hw : w = 1 ∨ w = -1) (lt : h1 < h2) (odd : Bool) : stretchH W [(h1, w), (h2, -w)] odd = [(h1, h2, W)] := by
  have ne : ¬ h1 = h2 := by omega
  have le : h1 ≤ h2 := by omega
  have e : w + -w = 0 := by omega
  have w0 : ¬ w = 0 := by omega
  cases odd <;> simp [stretchH, dictH, putD', getD', sortK, insK, stepS, within, ne, le, e, w0]
theorem stretchH_two_gt {W h1 h2 w : Int} (hw : w = 1 ∨ w = -1) (lt : h2 < h1) (odd : Bool) : stretchH W [(h1, w), (h2, -w)] odd = [(h2, h1, W)] := by
  have ne : ¬ h1 = h2 := by omega
  have le : ¬ h1 ≤ h2 := by omega
  have e : -w + w = 0 := by omega
  have w0 : ¬ w = 0 := by omega
  cases odd <;> simp [stretchH, dictH, putD', getD', sortK, insK, stepS, within, ne, le, e, w0]
/-- the same with a cut between -/
theorem stretchH_four {W hc h1 h2 w : Int} (hw : w = 1 ∨ w = -1) (hb : (h1 ≤ hc ∧ hc ≤ h2) ∨ (h2 ≤ hc ∧ hc ≤ h1)) (odd : Bool) :
    stretchH W [(hc, w), (h1, -w), (hc, -w), (h2, w)] odd = if h1 = h2 then [] else [(min h1 h2, max h1 h2, W)] := by
  by_cases e12 : h1 = h2
  · have e1 : h1 = hc := by omega
    subst e12; subst e1
    have e : w + -w + -w + w = 0 := by omega
    rw [if_pos rfl]
    cases odd <;> simp [stretchH, dictH, putD', getD', sortK, insK, stepS, within, e]
  · rw [if_neg e12]
    have w0 : ¬ w = 0 := by omega
    have e : w + -w = 0 := by omega
    have e' : -w + w = 0 := by omega
    by_cases e1 : hc = h1
    · subst e1
      have ea : w + -w + -w = -w := by omega
      have ne : ¬ hc = h2 := e12
      by_cases lt : hc < h2
      · have le : hc ≤ h2 := by omega
        have mn : min hc h2 = hc := by omega
        have mx : max hc h2 = h2 := by omega
        cases odd <;> simp [stretchH, dictH, putD', getD', sortK, insK, stepS, within, ne, le, e, e', w0, ea, mn, mx]
      · have le : ¬ hc ≤ h2 := by omega
        have mn : min hc h2 = h2 := by omega
        have mx : max hc h2 = hc := by omega
        cases odd <;> simp [stretchH, dictH, putD', getD', sortK, insK, stepS, within, ne, le, e, e', w0, ea, mn, mx]
    · by_cases e2 : hc = h2
      · subst e2
        have ea : w + -w + w = w := by omega
        have ne : ¬ hc = h1 := fun z => e12 z.symm
        by_cases lt : hc < h1
        · have le : hc ≤ h1 := by omega
          have mn : min h1 hc = hc := by omega
          have mx : max h1 hc = h1 := by omega
          cases odd <;> simp [stretchH, dictH, putD', getD', sortK, insK, stepS, within, ne, le, e, e', w0, ea, mn, mx]
        · have le : ¬ hc ≤ h1 := by omega
          have mn : min h1 hc = h1 := by omega
          have mx : max h1 hc = hc := by omega
          cases odd <;> simp [stretchH, dictH, putD', getD', sortK, insK, stepS, within, ne, le, e, e', w0, ea, mn, mx]
      · by_cases lt : h1 < h2
        · have a1 : ¬ hc ≤ h1 := by omega
          have a2 : hc ≤ h2 := by omega
          have a3 : h1 ≤ h2 := by omega
          have mn : min h1 h2 = h1 := by omega
          have mx : max h1 h2 = h2 := by omega
          cases odd <;> simp [stretchH, dictH, putD', getD', sortK, insK, stepS, within, e1, e2, e12, a1, a2, a3, e, e', w0, mn, mx]
        · have a1 : hc ≤ h1 := by omega
          have a2 : ¬ hc ≤ h2 := by omega
          have a3 : ¬ h1 ≤ h2 := by omega
          have mn : min h1 h2 = h2 := by omega
          have mx : max h1 h2 = h1 := by omega
          cases odd <;> simp [stretchH, dictH, putD', getD', sortK, insK, stepS, within, e1, e2, e12, a1, a2, a3, e, e', w0, mn, mx]

/-- what a row's crossings are: none, two, or two with a cut between -/
inductive RowIs : List Row3 → Option ((Int × Int) × (Int × Int)) → Prop where
  | none : RowIs [] none
  | two {w t1 b1 t2 b2 : Int} (hw : w = 1 ∨ w = -1) (h1 : 0 < b1) (h2 : 0 < b2) : RowIs [(t1, b1, w), (t2, b2, -w)] (some ((t1, b1), (t2, b2)))
  | four {w tc bc t1 b1 t2 b2 : Int} (hw : w = 1 ∨ w = -1) (hc : 0 < bc) (h1 : 0 < b1) (h2 : 0 < b2)
      (hb : (t1 * bc ≤ tc * b1 ∧ tc * b2 ≤ t2 * bc) ∨ (t2 * bc ≤ tc * b2 ∧ tc * b1 ≤ t1 * bc)) : RowIs [(tc, bc, w), (t1, b1, -w), (tc, bc, -w), (t2, b2, w)] (some ((t1, b1), (t2, b2)))
def colsO (drops : Bool) : Option ((Int × Int) × (Int × Int)) → List Pt
  | none => []
  | some ((t1, b1), (t2, b2)) => colsN drops t1 b1 t2 b2
theorem here_le {w t1 b1 t2 b2 : Int} (hw : 0 < w) (h1 : 0 < b1) (h2 : 0 < b2) (d1 : b1 ∣ w) (d2 : b2 ∣ w) : t1 * (w / b1) ≤ t2 * (w / b2) ↔ t1 * b2 ≤ t2 * b1 := by
  have a := here_lt (t1 := t2) (t2 := t1) hw h2 h1 d2 d1
  omega
theorem row_cols {rows : List Row3} {o : Option ((Int × Int) × (Int × Int))} (h : RowIs rows o) (odd drops : Bool) : (stretchM rows odd).map (fillM drops) = colsO drops o := by
  cases h with
  | none => rfl
  | @two w t1 b1 t2 b2 hw h1 h2 =>
    have hp : ∀ r ∈ [((t1, b1, w) : Row3), (t2, b2, -w)], 0 < r.2.1 := by
      intro r hr
      simp only [List.mem_cons, List.not_mem_nil, or_false] at hr
      rcases hr with rfl | rfl <;> assumption
    have wp := wholeM_pos hp
    have d1 := wholeM_dvd hp (t1, b1, w) (by simp)
    have d2 := wholeM_dvd hp (t2, b2, -w) (by simp)
    rw [stretchM_H]
    generalize wholeM [((t1, b1, w) : Row3), (t2, b2, -w)] = W at wp d1 d2
    show (stretchH W [(t1 * (W / b1), w), (t2 * (W / b2), -w)] odd).map (fillM drops) = colsN drops t1 b1 t2 b2
    have e := here_eq (t1 := t1) (t2 := t2) wp h1 h2 d1 d2
    by_cases c : t1 * b2 = t2 * b1
    · rw [e.mpr c, stretchH_two_eq, colsN, if_pos c]; rfl
    · by_cases l : t1 * b2 < t2 * b1
      · rw [stretchH_two_lt hw ((here_lt wp h1 h2 d1 d2).mpr l)]
        exact (fill_two drops wp h1 h2 d1 d2 l).1
      · have l' : t2 * b1 < t1 * b2 := by omega
        rw [stretchH_two_gt hw ((here_lt wp h2 h1 d2 d1).mpr l')]
        exact (fill_two drops wp h2 h1 d2 d1 l').2
  | @four w tc bc t1 b1 t2 b2 hw hc h1 h2 hb =>
    have hp : ∀ r ∈ [((tc, bc, w) : Row3), (t1, b1, -w), (tc, bc, -w), (t2, b2, w)], 0 < r.2.1 := by
      intro r hr
      simp only [List.mem_cons, List.not_mem_nil, or_false] at hr
      rcases hr with rfl | rfl | rfl | rfl <;> assumption
    have wp := wholeM_pos hp
    have dc := wholeM_dvd hp (tc, bc, w) (by simp)
    have d1 := wholeM_dvd hp (t1, b1, -w) (by simp)
    have d2 := wholeM_dvd hp (t2, b2, w) (by simp)
    rw [stretchM_H]
    generalize wholeM [((tc, bc, w) : Row3), (t1, b1, -w), (tc, bc, -w), (t2, b2, w)] = W at wp dc d1 d2
    show (stretchH W [(tc * (W / bc), w), (t1 * (W / b1), -w), (tc * (W / bc), -w), (t2 * (W / b2), w)] odd).map (fillM drops) = colsN drops t1 b1 t2 b2
    have e := here_eq (t1 := t1) (t2 := t2) wp h1 h2 d1 d2
    have l1 := here_le (t1 := t1) (t2 := tc) wp h1 hc d1 dc
    have l2 := here_le (t1 := tc) (t2 := t2) wp hc h2 dc d2
    have l3 := here_le (t1 := t2) (t2 := tc) wp h2 hc d2 dc
    have l4 := here_le (t1 := tc) (t2 := t1) wp hc h1 dc d1
    have hb' : (t1 * (W / b1) ≤ tc * (W / bc) ∧ tc * (W / bc) ≤ t2 * (W / b2)) ∨ (t2 * (W / b2) ≤ tc * (W / bc) ∧ tc * (W / bc) ≤ t1 * (W / b1)) := by
      rcases hb with ⟨x, y⟩ | ⟨x, y⟩
      · exact .inl ⟨l1.mpr x, l2.mpr y⟩
      · exact .inr ⟨l3.mpr x, l4.mpr y⟩
    rw [stretchH_four hw hb']
    by_cases c : t1 * b2 = t2 * b1
    · rw [if_pos (e.mpr c), colsN, if_pos c]; rfl
    · rw [if_neg (fun z => c (e.mp z))]
      by_cases l : t1 * b2 < t2 * b1
      · have lt := (here_lt (t1 := t1) (t2 := t2) wp h1 h2 d1 d2).mpr l
        have mn : min (t1 * (W / b1)) (t2 * (W / b2)) = t1 * (W / b1) := by omega
        have mx : max (t1 * (W / b1)) (t2 * (W / b2)) = t2 * (W / b2) := by omega
        rw [mn, mx]
        exact (fill_two drops wp h1 h2 d1 d2 l).1
      · have l' : t2 * b1 < t1 * b2 := by omega
        have lt := (here_lt (t1 := t2) (t2 := t1) wp h2 h1 d2 d1).mpr l'
        have mn : min (t1 * (W / b1)) (t2 * (W / b2)) = t2 * (W / b2) := by omega
        have mx : max (t1 * (W / b1)) (t2 * (W / b2)) = t1 * (W / b1) := by omega
        rw [mn, mx]
        exact (fill_two drops wp h2 h1 d2 d1 l').2
end K79

namespace K79

/-! ### paths and edges -/
def path : List Pt → List (Pt × Pt)
  | a :: b :: r => (a, b) :: path (b :: r)
  | _ => []
theorem zip_path : ∀ (h : Pt) (t : List Pt), List.zip (h :: t) t = path (h :: t)
  | _, [] => rfl
  | h, b :: r => by
    show (h, b) :: List.zip (b :: r) r = (h, b) :: path (b :: r)
    rw [zip_path b r]
theorem edges_cons (h : Pt) (t : List Pt) : edges (h :: t) = ((h :: t).getLastD (0, 0), h) :: path (h :: t) := by
  unfold edges
  show (_, h) :: List.zip (h :: t) t = _
  rw [zip_path]
theorem path_append : ∀ (xs : List Pt) (a : Pt) (ys : List Pt), path (xs ++ a :: ys) = path (xs ++ [a]) ++ path (a :: ys)
  | [], a, ys => rfl
  | [x], a, ys => rfl
  | x :: y :: r, a, ys => by
    show (x, y) :: path ((y :: r) ++ a :: ys) = (x, y) :: (path ((y :: r) ++ [a]) ++ path (a :: ys))
    rw [path_append (y :: r) a ys]
theorem path_snoc : ∀ (h : Pt) (t : List Pt) (x : Pt), path ((h :: t) ++ [x]) = path (h :: t) ++ [((h :: t).getLastD (0, 0), x)]
  | h, [], x => rfl
  | h, b :: r, x => by
    show (h, b) :: path ((b :: r) ++ [x]) = (h, b) :: (path (b :: r) ++ _)
    rw [path_snoc b r x]
    rfl
theorem path_reverse : ∀ l : List Pt, path l.reverse = (path l).reverse.map fun e => (e.2, e.1)
  | [] => rfl
  | [_] => rfl
  | a :: b :: r => by
    have h := path_reverse (b :: r)
    have e : (a :: b :: r).reverse = r.reverse ++ b :: [a] := by simp
    rw [e, path_append]
    have e2 : r.reverse ++ [b] = (b :: r).reverse := by simp
    rw [e2, h]
    have e3 : (path (a :: b :: r)).reverse = (path (b :: r)).reverse ++ [(a, b)] := by
      show ((a, b) :: path (b :: r)).reverse = _
      simp
    rw [e3, List.map_append]
    rfl
theorem getLastD_append {l : List Pt} {h : Pt} {t : List Pt} {d : Pt} : (l ++ h :: t).getLastD d = (h :: t).getLastD d := by
  rw [List.getLastD_eq_getLast?, List.getLastD_eq_getLast?, List.getLast?_append]
  cases e : (h :: t).getLast? with
  | none => simp at e
  | some x => rfl

/-- the edges of a round that is cut in two, but the cut itself -/
theorem edges_cut (pre : List Pt) (F : Pt) (mid : List Pt) (S : Pt) (post : List Pt) :
    (edges (pre ++ F :: (mid ++ S :: post))).Perm (path (F :: (mid ++ [S])) ++ path (S :: (post ++ (pre ++ [F])))) := by
  obtain ⟨h, t, e⟩ : ∃ h t, pre ++ [F] = h :: t := by
    cases pre with
    | nil => exact ⟨F, [], rfl⟩
    | cons x r => exact ⟨x, r ++ [F], rfl⟩
  have eP : pre ++ F :: (mid ++ S :: post) = h :: (t ++ (mid ++ S :: post)) := by
    have : pre ++ F :: (mid ++ S :: post) = (pre ++ [F]) ++ (mid ++ S :: post) := by simp
    rw [this, e]; rfl
  have hl : (pre ++ F :: (mid ++ S :: post)).getLastD (0, 0) = (S :: post).getLastD (0, 0) := by
    have : pre ++ F :: (mid ++ S :: post) = (pre ++ F :: mid) ++ S :: post := by simp
    rw [this, getLastD_append]
  have hp : path (pre ++ F :: (mid ++ S :: post)) = path (h :: t) ++ (path (F :: (mid ++ [S])) ++ path (S :: post)) := by
    rw [path_append pre F, e]
    have : F :: (mid ++ S :: post) = (F :: mid) ++ S :: post := by simp
    rw [this, path_append (F :: mid) S post]
    rfl
  have hB : path (S :: (post ++ (pre ++ [F]))) = path (S :: post) ++ (((S :: post).getLastD (0, 0), h) :: path (h :: t)) := by
    rw [e]
    have : S :: (post ++ h :: t) = (S :: post) ++ h :: t := by simp
    rw [this, path_append (S :: post) h t, path_snoc]
    simp
  have hE : edges (pre ++ F :: (mid ++ S :: post)) = ((S :: post).getLastD (0, 0), h) :: (path (h :: t) ++ (path (F :: (mid ++ [S])) ++ path (S :: post))) := by
    have := edges_cons h (t ++ (mid ++ S :: post))
    rw [← eP] at this
    rw [this, hl, hp]
  rw [hE, hB]
  generalize path (h :: t) = a
  generalize path (F :: (mid ++ [S])) = b
  generalize path (S :: post) = c
  generalize ((S :: post).getLastD (0, 0), h) = x
  refine List.perm_iff_count.mpr fun z => ?_
  simp only [List.count_cons, List.count_append]
  omega

/-! ### crossings of a line -/
def abv (line : Int) (p : Pt) : Bool := decide (line < p.2)
def b2 (b : Bool) : Int := if b = true then 1 else 0
abbrev CR (m line : Int) (es : List (Pt × Pt)) : List Row3 := es.filterMap (crossE m line)
theorem crossE_none {m line : Int} {a b : Pt} (h : abv line a = abv line b) : crossE m line (a, b) = none := by
  unfold crossE
  unfold abv at h
  rw [if_neg]
  simp only [h]
  simp
theorem crossE_some {m line : Int} {a b : Pt} (hm : 0 < m) (h : abv line a ≠ abv line b) :
    ∃ t bs, crossE m line (a, b) = some (t, bs, b2 (abv line b) - b2 (abv line a)) ∧ 0 < bs ∧ bs = (if a.2 < b.2 then b.2 - a.2 else a.2 - b.2) * m ∧
      t = (a.1 * b.2 - b.1 * a.2 + line * (b.1 - a.1)) * (if a.2 < b.2 then 1 else -1) := by
  unfold abv at h
  unfold crossE abv b2
  by_cases h1 : line < a.2
  · have h2 : ¬ line < b.2 := fun z => by simp [h1, z] at h
    have h3 : ¬ a.2 < b.2 := by omega
    have h4 : ¬ 0 < b.2 - a.2 := by omega
    refine ⟨_, _, ?_, ?_, rfl, rfl⟩
    · simp only [h1, h2, h3, h4, decide_true, decide_false, if_true, if_false, if_neg]
      simp
      constructor
      · grind
      · grind
    · rw [if_neg h3]
      exact Int.mul_pos (by omega) hm
  · have h2 : line < b.2 := by
      refine Classical.byContradiction fun z => ?_
      simp [h1, z] at h
    have h3 : a.2 < b.2 := by omega
    have h4 : 0 < b.2 - a.2 := by omega
    refine ⟨_, _, ?_, ?_, rfl, rfl⟩
    · simp only [h1, h2, h3, h4, decide_true, decide_false, if_true, if_false]
      simp
      grind
    · rw [if_pos h3]
      exact Int.mul_pos (by omega) hm
theorem crossE_swap {m line : Int} {a b : Pt} (hm : 0 < m) : crossE m line (b, a) = (crossE m line (a, b)).map fun r => (r.1, r.2.1, -r.2.2) := by
  by_cases h : abv line a = abv line b
  · rw [crossE_none h, crossE_none h.symm]; rfl
  · obtain ⟨t, bs, e, _, eb, et⟩ := crossE_some hm h
    obtain ⟨t', bs', e', _, eb', et'⟩ := crossE_some (a := b) (b := a) hm (fun z => h z.symm)
    have ne : a.2 ≠ b.2 := fun z => h (by unfold abv; rw [z])
    rw [e, e']
    have h1 : bs' = bs := by
      rw [eb, eb']
      by_cases l : a.2 < b.2
      · rw [if_pos l, if_neg (by omega)]
      · rw [if_neg l, if_pos (by omega)]
    have h2 : t' = t := by
      rw [et, et']
      by_cases l : a.2 < b.2
      · rw [if_pos l, if_neg (by omega)]; grind
      · rw [if_neg l, if_pos (by omega)]; grind
    rw [h1, h2]
    show some (t, bs, b2 (abv line a) - b2 (abv line b)) = some (t, bs, -(b2 (abv line b) - b2 (abv line a)))
    have : b2 (abv line a) - b2 (abv line b) = -(b2 (abv line b) - b2 (abv line a)) := by omega
    rw [this]

def chg : List Bool → Nat
  | a :: b :: r => (if a = b then 0 else 1) + chg (b :: r)
  | _ => 0
theorem CR_cons_none {m line : Int} {e : Pt × Pt} {es : List (Pt × Pt)} (h : crossE m line e = none) : CR m line (e :: es) = CR m line es := by
  show List.filterMap _ _ = _
  rw [List.filterMap_cons, h]
theorem CR_cons_some {m line : Int} {e : Pt × Pt} {es : List (Pt × Pt)} {r : Row3} (h : crossE m line e = some r) : CR m line (e :: es) = r :: CR m line es := by
  show List.filterMap _ _ = _
  rw [List.filterMap_cons, h]
theorem CR_length {m line : Int} (hm : 0 < m) : ∀ l : List Pt, (CR m line (path l)).length = chg (l.map (abv line))
  | [] => rfl
  | [_] => rfl
  | a :: b :: r => by
    have ih := CR_length (line := line) hm (b :: r)
    show (CR m line ((a, b) :: path (b :: r))).length = (if abv line a = abv line b then 0 else 1) + chg ((b :: r).map (abv line))
    by_cases h : abv line a = abv line b
    · rw [CR_cons_none (crossE_none h), if_pos h, ih]; omega
    · obtain ⟨t, bs, e, _⟩ := crossE_some hm h
      rw [CR_cons_some e, if_neg h, List.length_cons, ih]; omega
/-- the ways of a path's crossings -/
theorem CR_sum {m line : Int} (hm : 0 < m) : ∀ (a : Pt) (l : List Pt), ((CR m line (path (a :: l))).map (·.2.2)).sum = b2 (abv line ((a :: l).getLastD (0, 0))) - b2 (abv line a)
  | a, [] => by show (0 : Int) = _ ; simp [List.getLastD]
  | a, b :: r => by
    have ih := CR_sum (line := line) hm b r
    show ((CR m line ((a, b) :: path (b :: r))).map (·.2.2)).sum = b2 (abv line ((b :: r).getLastD (0, 0))) - b2 (abv line a)
    by_cases h : abv line a = abv line b
    · rw [CR_cons_none (crossE_none h), ih, h]
    · obtain ⟨t, bs, e, _⟩ := crossE_some hm h
      rw [CR_cons_some e, List.map_cons, List.sum_cons, ih]
      show b2 (abv line b) - b2 (abv line a) + _ = _
      omega
theorem CR_mem {m line : Int} (hm : 0 < m) {es : List (Pt × Pt)} {r : Row3} (h : r ∈ CR m line es) : (r.2.2 = 1 ∨ r.2.2 = -1) ∧ 0 < r.2.1 := by
  obtain ⟨e, _, he⟩ := List.mem_filterMap.mp h
  obtain ⟨a, b⟩ := e
  by_cases hn : abv line a = abv line b
  · rw [crossE_none hn] at he; cases he
  · obtain ⟨t, bs, e, p, _⟩ := crossE_some hm hn
    rw [e] at he
    cases he
    refine ⟨?_, p⟩
    show b2 (abv line b) - b2 (abv line a) = 1 ∨ b2 (abv line b) - b2 (abv line a) = -1
    cases h1 : abv line a <;> cases h2 : abv line b <;> simp [h1, h2, b2] at hn ⊢
theorem CR_reverse {m line : Int} (hm : 0 < m) (l : List Pt) : CR m line (path l.reverse) = (CR m line (path l)).reverse.map fun r => (r.1, r.2.1, -r.2.2) := by
  rw [path_reverse]
  show List.filterMap _ _ = _
  rw [List.filterMap_map, ← List.filterMap_reverse, List.map_filterMap]
  congr 1
  funext e
  obtain ⟨a, b⟩ := e
  exact crossE_swap hm

/-! ### truths around -/
theorem chg_tri (a b : Bool) (l : List Bool) : chg (a :: l) ≤ (if a = b then 0 else 1) + chg (b :: l) := by
  cases l with
  | nil => simp [chg]
  | cons c r =>
    show (if a = c then 0 else 1) + chg (c :: r) ≤ (if a = b then 0 else 1) + ((if b = c then 0 else 1) + chg (c :: r))
    cases a <;> cases b <;> cases c <;> simp <;> omega
theorem chg_sub {l' l : List Bool} (h : l'.Sublist l) : ∀ a, chg (a :: l') ≤ chg (a :: l) := by
  induction h with
  | slnil => intro a; exact Nat.le_refl _
  | cons b h ih =>
    intro a
    refine Nat.le_trans (chg_tri a b _) ?_
    show _ ≤ (if a = b then 0 else 1) + chg (b :: _)
    have := ih b
    omega
  | cons_cons b h ih =>
    intro a
    show (if a = b then 0 else 1) + chg (b :: _) ≤ (if a = b then 0 else 1) + chg (b :: _)
    have := ih b
    omega
/-- around: back to the first -/
def cyc : List Bool → Nat
  | [] => 0
  | h :: t => chg (h :: (t ++ [h]))
theorem chg_snoc : ∀ (l : List Bool) (h x : Bool), chg ((h :: l) ++ [x]) = chg (h :: l) + (if (h :: l).getLastD false = x then 0 else 1)
  | [], h, x => by cases h <;> cases x <;> rfl
  | b :: r, h, x => by
    have ih := chg_snoc r b x
    show (if h = b then 0 else 1) + chg ((b :: r) ++ [x]) = (if h = b then 0 else 1) + chg (b :: r) + (if (b :: r).getLastD false = x then 0 else 1)
    omega
theorem map_getLastD {α β : Type} (f : α → β) : ∀ (h : α) (t : List α) (d : α) (d' : β), ((h :: t).map f).getLastD d' = f ((h :: t).getLastD d)
  | h, [], d, d' => rfl
  | h, b :: r, d, d' => map_getLastD f b r d d'
theorem edges_count {m line : Int} (hm : 0 < m) (h : Pt) (t : List Pt) : (CR m line (edges (h :: t))).length = cyc ((h :: t).map (abv line)) := by
  rw [edges_cons]
  have e : cyc ((h :: t).map (abv line)) = chg ((h :: t).map (abv line)) + (if ((h :: t).map (abv line)).getLastD false = abv line h then 0 else 1) := chg_snoc _ _ _
  rw [e, map_getLastD _ _ _ (0, 0), ← CR_length hm]
  by_cases c : abv line ((h :: t).getLastD (0, 0)) = abv line h
  · rw [CR_cons_none (crossE_none c), if_pos c]; omega
  · obtain ⟨t', bs, e, _⟩ := crossE_some hm c
    rw [CR_cons_some e, if_neg c, List.length_cons]
end K79

namespace K79

/-- on which side of the way from U to V a place lies -/
def side (U V E : Pt) : Int := (V.1 - U.1) * (E.2 - U.2) - (V.2 - U.2) * (E.1 - U.1)
theorem side_swap (U V E : Pt) : side V U E = -side U V E := by unfold side; grind
theorem crossE_form {m line : Int} {a b : Pt} {r : Row3} (hm : 0 < m) (h : crossE m line (a, b) = some r) :
    ∃ lo hi, ((lo = a ∧ hi = b) ∨ (lo = b ∧ hi = a)) ∧ lo.2 ≤ line ∧ line < hi.2 ∧ r.1 = lo.1 * (hi.2 - line) + hi.1 * (line - lo.2) ∧ r.2.1 = (hi.2 - lo.2) * m := by
  by_cases hn : abv line a = abv line b
  · rw [crossE_none hn] at h; cases h
  · obtain ⟨t, bs, e, _, eb, et⟩ := crossE_some hm hn
    rw [e] at h
    cases h
    unfold abv at hn
    by_cases h1 : line < a.2
    · have h2 : ¬ line < b.2 := fun z => by simp [h1, z] at hn
      have h3 : ¬ a.2 < b.2 := by omega
      rw [if_neg h3] at eb et
      refine ⟨b, a, .inr ⟨rfl, rfl⟩, by omega, h1, ?_, eb⟩
      show t = _
      rw [et]; grind
    · have h2 : line < b.2 := by
        refine Classical.byContradiction fun z => ?_
        simp [h1, z] at hn
      have h3 : a.2 < b.2 := by omega
      rw [if_pos h3] at eb et
      refine ⟨a, b, .inl ⟨rfl, rfl⟩, by omega, h2, ?_, eb⟩
      show t = _
      rw [et]; grind
theorem btw {m L : Int} {lo hi p q : Pt} (hm : 0 < m) (h1 : p.2 ≤ L) (h2 : L < q.2) (hp : 0 ≤ side lo hi p) (hq : 0 ≤ side lo hi q) :
    (p.1 * (q.2 - L) + q.1 * (L - p.2)) * ((hi.2 - lo.2) * m) ≤ (lo.1 * (hi.2 - L) + hi.1 * (L - lo.2)) * ((q.2 - p.2) * m) := by
  have k1 := Int.mul_nonneg (show 0 ≤ q.2 - L by omega) hp
  have k2 := Int.mul_nonneg (show 0 ≤ L - p.2 by omega) hq
  have k : 0 ≤ ((q.2 - L) * side lo hi p + (L - p.2) * side lo hi q) * m := Int.mul_nonneg (by omega) (Int.le_of_lt hm)
  have e : (lo.1 * (hi.2 - L) + hi.1 * (L - lo.2)) * ((q.2 - p.2) * m) - (p.1 * (q.2 - L) + q.1 * (L - p.2)) * ((hi.2 - lo.2) * m) = ((q.2 - L) * side lo hi p + (L - p.2) * side lo hi q) * m := by
    unfold side
    grind
  omega
theorem btw' {m L : Int} {lo hi p q : Pt} (hm : 0 < m) (h1 : p.2 ≤ L) (h2 : L < q.2) (hp : side lo hi p ≤ 0) (hq : side lo hi q ≤ 0) :
    (lo.1 * (hi.2 - L) + hi.1 * (L - lo.2)) * ((q.2 - p.2) * m) ≤ (p.1 * (q.2 - L) + q.1 * (L - p.2)) * ((hi.2 - lo.2) * m) := by
  have k1 := Int.mul_nonneg (show 0 ≤ q.2 - L by omega) (show 0 ≤ -side lo hi p by omega)
  have k2 := Int.mul_nonneg (show 0 ≤ L - p.2 by omega) (show 0 ≤ -side lo hi q by omega)
  have k : 0 ≤ ((q.2 - L) * -side lo hi p + (L - p.2) * -side lo hi q) * m := Int.mul_nonneg (by omega) (Int.le_of_lt hm)
  have e : (p.1 * (q.2 - L) + q.1 * (L - p.2)) * ((hi.2 - lo.2) * m) - (lo.1 * (hi.2 - L) + hi.1 * (L - lo.2)) * ((q.2 - p.2) * m) = ((q.2 - L) * -side lo hi p + (L - p.2) * -side lo hi q) * m := by
    unfold side
    grind
  omega
theorem path_mem : ∀ {l : List Pt} {e : Pt × Pt}, e ∈ path l → e.1 ∈ l ∧ e.2 ∈ l
  | a :: b :: r, e, h => by
    rcases List.mem_cons.mp (show e ∈ (a, b) :: path (b :: r) from h) with rfl | h
    · exact ⟨List.mem_cons_self, List.mem_cons_of_mem _ List.mem_cons_self⟩
    · obtain ⟨h1, h2⟩ := path_mem h
      exact ⟨List.mem_cons_of_mem _ h1, List.mem_cons_of_mem _ h2⟩
/-- a chain's crossing against the cut's -/
theorem chain_side {m L : Int} {lo hi : Pt} {l : List Pt} {r : Row3} (hm : 0 < m) (hr : r ∈ CR m L (path l)) (hl : ∀ E ∈ l, 0 ≤ side lo hi E) :
    r.1 * ((hi.2 - lo.2) * m) ≤ (lo.1 * (hi.2 - L) + hi.1 * (L - lo.2)) * r.2.1 := by
  obtain ⟨⟨a, b⟩, he, hc⟩ := List.mem_filterMap.mp hr
  obtain ⟨ha, hb⟩ := path_mem he
  obtain ⟨p, q, hpq, h1, h2, e1, e2⟩ := crossE_form hm hc
  rw [e1, e2]
  rcases hpq with ⟨rfl, rfl⟩ | ⟨rfl, rfl⟩
  · exact btw hm h1 h2 (hl _ ha) (hl _ hb)
  · exact btw hm h1 h2 (hl _ hb) (hl _ ha)
theorem chain_side' {m L : Int} {lo hi : Pt} {l : List Pt} {r : Row3} (hm : 0 < m) (hr : r ∈ CR m L (path l)) (hl : ∀ E ∈ l, side lo hi E ≤ 0) :
    (lo.1 * (hi.2 - L) + hi.1 * (L - lo.2)) * r.2.1 ≤ r.1 * ((hi.2 - lo.2) * m) := by
  obtain ⟨⟨a, b⟩, he, hc⟩ := List.mem_filterMap.mp hr
  obtain ⟨ha, hb⟩ := path_mem he
  obtain ⟨p, q, hpq, h1, h2, e1, e2⟩ := crossE_form hm hc
  rw [e1, e2]
  rcases hpq with ⟨rfl, rfl⟩ | ⟨rfl, rfl⟩
  · exact btw' hm h1 h2 (hl _ ha) (hl _ hb)
  · exact btw' hm h1 h2 (hl _ hb) (hl _ ha)

/-! ### a row of a round that is cut in two -/
def RowLike (rows : List Row3) (o : Option ((Int × Int) × (Int × Int))) : Prop := ∃ o', RowIs rows o' ∧ ∀ drops, colsO drops o' = colsO drops o
theorem RowLike.of {rows : List Row3} {o : Option ((Int × Int) × (Int × Int))} (h : RowIs rows o) : RowLike rows o := ⟨o, h, fun _ => rfl⟩
inductive Rel : Option ((Int × Int) × (Int × Int)) → Option ((Int × Int) × (Int × Int)) → Option ((Int × Int) × (Int × Int)) → Prop where
  | left (o : Option ((Int × Int) × (Int × Int))) (hp : ∀ t1 b1 t2 b2, o = some ((t1, b1), (t2, b2)) → 0 < b1 ∧ 0 < b2) : Rel o o none
  | right (o : Option ((Int × Int) × (Int × Int))) (hp : ∀ t1 b1 t2 b2, o = some ((t1, b1), (t2, b2)) → 0 < b1 ∧ 0 < b2) : Rel o none o
  | both {tc bc t1 b1 t2 b2 : Int} (hc : 0 < bc) (h1 : 0 < b1) (h2 : 0 < b2) (hb : (t1 * bc ≤ tc * b1 ∧ tc * b2 ≤ t2 * bc) ∨ (t2 * bc ≤ tc * b2 ∧ tc * b1 ≤ t1 * bc)) :
      Rel (some ((t1, b1), (t2, b2))) (some ((tc, bc), (t1, b1))) (some ((tc, bc), (t2, b2)))
theorem row_two {t1 b1 t2 b2 w w' : Int} (hw : w = 1 ∨ w = -1) (e : w' = -w) (h1 : 0 < b1) (h2 : 0 < b2) : RowIs [(t1, b1, w), (t2, b2, w')] (some ((t1, b1), (t2, b2))) := by
  subst e; exact .two hw h1 h2
theorem like_two {t1 b1 t2 b2 w w' : Int} (hw : w = 1 ∨ w = -1) (e : w' = -w) (h1 : 0 < b1) (h2 : 0 < b2) : RowLike [(t2, b2, w'), (t1, b1, w)] (some ((t1, b1), (t2, b2))) :=
  ⟨_, row_two (by omega) (by omega) h2 h1, fun drops => colsN_comm drops⟩
theorem perm_two {α : Type} {l : List α} {x y : α} (h : l.Perm [x, y]) : l = [x, y] ∨ l = [y, x] := by
  have hl := h.length_eq
  match l, hl with
  | [a, b], _ =>
    have ha : a ∈ [x, y] := h.mem_iff.mp (by simp)
    rcases List.mem_cons.mp ha with rfl | ha
    · have h2 := (List.perm_cons a).mp h
      have := List.perm_singleton.mp h2
      exact .inl (by rw [this])
    · have ea : a = y := by simpa using ha
      subst ea
      have h2 : [a, b].Perm [a, x] := h.trans (List.Perm.swap _ _ _)
      have := List.perm_singleton.mp ((List.perm_cons a).mp h2)
      exact .inr (by rw [this])
theorem like_perm {l : List Row3} {t1 b1 t2 b2 w w' : Int} (h : l.Perm [(t1, b1, w), (t2, b2, w')]) (hw : w = 1 ∨ w = -1) (e : w' = -w) (h1 : 0 < b1) (h2 : 0 < b2) : RowLike l (some ((t1, b1), (t2, b2))) := by
  rcases perm_two h with rfl | rfl
  · exact .of (row_two hw e h1 h2)
  · exact like_two hw e h1 h2
/-- crossings that go as often up as down, two at most -/
theorem even_two {c : List Row3} (hl : c.length ≤ 2) (hc : ∀ r ∈ c, (r.2.2 = 1 ∨ r.2.2 = -1) ∧ 0 < r.2.1) (hs : (c.map (·.2.2)).sum = 0) :
    c = [] ∨ ∃ t1 b1 t2 b2 w, c = [(t1, b1, w), (t2, b2, -w)] ∧ (w = 1 ∨ w = -1) ∧ 0 < b1 ∧ 0 < b2 := by
  match c, hl with
  | [], _ => exact .inl rfl
  | [r], _ =>
    have h := (hc r (by simp)).1
    simp at hs
    omega
  | [r, q], _ =>
    obtain ⟨h1, p1⟩ := hc r (by simp)
    obtain ⟨h2, p2⟩ := hc q (by simp)
    obtain ⟨t1, b1, w⟩ := r
    obtain ⟨t2, b2, w'⟩ := q
    simp at hs
    have e : w' = -w := by omega
    subst e
    exact .inr ⟨t1, b1, t2, b2, w, rfl, h1, p1, p2⟩
theorem odd_one {c : List Row3} {w : Int} (hl : c.length ≤ 1) (hs : (c.map (·.2.2)).sum = w) (hw : w = 1 ∨ w = -1) (hc : ∀ r ∈ c, 0 < r.2.1) : ∃ t b, c = [(t, b, w)] ∧ 0 < b := by
  match c, hl with
  | [], _ =>
    simp at hs
    omega
  | [(t, b, w')], _ =>
    have e : w' = w := by simpa using hs
    exact ⟨t, b, by rw [e], hc (t, b, w') (by simp)⟩
theorem len_of_sum {c : List Row3} {w : Int} (hs : (c.map (·.2.2)).sum = w) (hw : w = 1 ∨ w = -1) : 1 ≤ c.length := by
  cases c with
  | nil => simp at hs; omega
  | cons _ _ => simp
theorem crossM_one (p : List Pt) (m row : Int) : crossM [p] m row = CR m (lineOf m row) (edges p) := by
  unfold crossM
  rw [List.flatMap_cons, List.flatMap_nil, List.append_nil]
theorem crossM_two (p q : List Pt) (m row : Int) : crossM [p, q] m row = CR m (lineOf m row) (edges p) ++ CR m (lineOf m row) (edges q) := by
  unfold crossM
  rw [List.flatMap_cons, List.flatMap_cons, List.flatMap_nil, List.append_nil]
theorem edges_ends (F S : Pt) (mid : List Pt) : edges (F :: (mid ++ [S])) = (S, F) :: path (F :: (mid ++ [S])) := by
  rw [edges_cons]
  have e : (F :: (mid ++ [S])).getLastD (0, 0) = S := by
    have := getLastD_append (l := F :: mid) (h := S) (t := []) (d := (0, 0))
    simpa [List.getLastD] using this
  rw [e]
theorem rev_ends (F S : Pt) (mid : List Pt) : (F :: (mid ++ [S])).reverse = S :: (mid.reverse ++ [F]) := by simp

theorem row_split {m row : Int} (hm : 0 < m) {pre : List Pt} {F : Pt} {mid : List Pt} {S : Pt} {post : List Pt}
    (uni : cyc ((pre ++ F :: (mid ++ S :: post)).map (abv (lineOf m row))) ≤ 2)
    (hA : ∀ E ∈ F :: (mid ++ [S]), side F S E ≤ 0) (hB : ∀ E ∈ S :: (post ++ (pre ++ [F])), 0 ≤ side F S E) :
    ∃ oP oA oB, RowLike (crossM [pre ++ F :: (mid ++ S :: post)] m row) oP ∧
      RowLike (crossM [F :: (mid ++ [S])] m row) oA ∧ RowLike (crossM [(F :: (mid ++ [S])).reverse] m row) oA ∧
      RowLike (crossM [S :: (post ++ (pre ++ [F]))] m row) oB ∧ RowLike (crossM [(S :: (post ++ (pre ++ [F]))).reverse] m row) oB ∧
      RowLike (crossM [F :: (mid ++ [S]), S :: (post ++ (pre ++ [F]))] m row) oP ∧ Rel oP oA oB := by
  have eB : S :: (post ++ (pre ++ [F])) = S :: ((post ++ pre) ++ [F]) := by simp
  have perm : (CR m (lineOf m row) (edges (pre ++ F :: (mid ++ S :: post)))).Perm (CR m (lineOf m row) (path (F :: (mid ++ [S]))) ++ CR m (lineOf m row) (path (S :: (post ++ (pre ++ [F]))))) := by
    have h := (edges_cut pre F mid S post).filterMap (crossE m (lineOf m row))
    rw [List.filterMap_append] at h
    exact h
  have len2 : (CR m (lineOf m row) (path (F :: (mid ++ [S])))).length + (CR m (lineOf m row) (path (S :: (post ++ (pre ++ [F]))))).length ≤ 2 := by
    have h1 : (CR m (lineOf m row) (edges (pre ++ F :: (mid ++ S :: post)))).length ≤ 2 := by
      obtain ⟨h, t, e⟩ : ∃ h t, pre ++ F :: (mid ++ S :: post) = h :: t := by
        cases pre with
        | nil => exact ⟨_, _, rfl⟩
        | cons x r => exact ⟨_, _, rfl⟩
      rw [e] at uni ⊢
      rw [edges_count hm]
      exact uni
    have h2 := perm.length_eq
    rw [List.length_append] at h2
    omega
  have sA := CR_sum (line := lineOf m row) hm F (mid ++ [S])
  have sB := CR_sum (line := lineOf m row) hm S (post ++ (pre ++ [F]))
  have lA : (F :: (mid ++ [S])).getLastD (0, 0) = S := by
    have := getLastD_append (l := F :: mid) (h := S) (t := []) (d := (0, 0))
    simpa [List.getLastD] using this
  have lB : (S :: (post ++ (pre ++ [F]))).getLastD (0, 0) = F := by
    have := getLastD_append (l := S :: (post ++ pre)) (h := F) (t := []) (d := (0, 0))
    simpa [List.getLastD] using this
  rw [lA] at sA
  rw [lB] at sB
  have mA : ∀ r ∈ CR m (lineOf m row) (path (F :: (mid ++ [S]))), (r.2.2 = 1 ∨ r.2.2 = -1) ∧ 0 < r.2.1 := fun r hr => CR_mem hm hr
  have mB : ∀ r ∈ CR m (lineOf m row) (path (S :: (post ++ (pre ++ [F])))), (r.2.2 = 1 ∨ r.2.2 = -1) ∧ 0 < r.2.1 := fun r hr => CR_mem hm hr
  have eA1 : crossM [F :: (mid ++ [S])] m row = CR m (lineOf m row) ((S, F) :: path (F :: (mid ++ [S]))) := by rw [crossM_one, edges_ends]
  have eB1 : crossM [S :: (post ++ (pre ++ [F]))] m row = CR m (lineOf m row) ((F, S) :: path (S :: (post ++ (pre ++ [F])))) := by rw [crossM_one, eB, edges_ends]
  have eA2 : crossM [(F :: (mid ++ [S])).reverse] m row = CR m (lineOf m row) ((F, S) :: path (F :: (mid ++ [S])).reverse) := by rw [crossM_one, rev_ends, edges_ends]
  have eB2 : crossM [(S :: (post ++ (pre ++ [F]))).reverse] m row = CR m (lineOf m row) ((S, F) :: path (S :: (post ++ (pre ++ [F]))).reverse) := by rw [crossM_one, eB, rev_ends, edges_ends]
  have eU : crossM [F :: (mid ++ [S]), S :: (post ++ (pre ++ [F]))] m row = crossM [F :: (mid ++ [S])] m row ++ crossM [S :: (post ++ (pre ++ [F]))] m row := by rw [crossM_two, crossM_one, crossM_one]
  have eP : crossM [pre ++ F :: (mid ++ S :: post)] m row = CR m (lineOf m row) (edges (pre ++ F :: (mid ++ S :: post))) := crossM_one _ _ _
  rw [eU, eP, eA1, eB1, eA2, eB2]
  have rA := CR_reverse (line := lineOf m row) hm (F :: (mid ++ [S]))
  have rB := CR_reverse (line := lineOf m row) hm (S :: (post ++ (pre ++ [F])))
  have chA : ∀ lo hi, (∀ E ∈ F :: (mid ++ [S]), 0 ≤ side lo hi E) → ∀ r ∈ CR m (lineOf m row) (path (F :: (mid ++ [S]))), r.1 * ((hi.2 - lo.2) * m) ≤ (lo.1 * (hi.2 - lineOf m row) + hi.1 * (lineOf m row - lo.2)) * r.2.1 := fun lo hi h r hr => chain_side hm hr h
  have chA' : ∀ lo hi, (∀ E ∈ F :: (mid ++ [S]), side lo hi E ≤ 0) → ∀ r ∈ CR m (lineOf m row) (path (F :: (mid ++ [S]))), (lo.1 * (hi.2 - lineOf m row) + hi.1 * (lineOf m row - lo.2)) * r.2.1 ≤ r.1 * ((hi.2 - lo.2) * m) := fun lo hi h r hr => chain_side' hm hr h
  have chB : ∀ lo hi, (∀ E ∈ S :: (post ++ (pre ++ [F])), 0 ≤ side lo hi E) → ∀ r ∈ CR m (lineOf m row) (path (S :: (post ++ (pre ++ [F])))), r.1 * ((hi.2 - lo.2) * m) ≤ (lo.1 * (hi.2 - lineOf m row) + hi.1 * (lineOf m row - lo.2)) * r.2.1 := fun lo hi h r hr => chain_side hm hr h
  have chB' : ∀ lo hi, (∀ E ∈ S :: (post ++ (pre ++ [F])), side lo hi E ≤ 0) → ∀ r ∈ CR m (lineOf m row) (path (S :: (post ++ (pre ++ [F])))), (lo.1 * (hi.2 - lineOf m row) + hi.1 * (lineOf m row - lo.2)) * r.2.1 ≤ r.1 * ((hi.2 - lo.2) * m) := fun lo hi h r hr => chain_side' hm hr h
  generalize CR m (lineOf m row) (edges (pre ++ F :: (mid ++ S :: post))) = cP at perm ⊢
  by_cases hs : abv (lineOf m row) F = abv (lineOf m row) S
  · -- the cut isn't crossed
    rw [CR_cons_none (crossE_none hs.symm), CR_cons_none (crossE_none hs), CR_cons_none (crossE_none hs), CR_cons_none (crossE_none hs.symm), rA, rB]
    generalize CR m (lineOf m row) (path (F :: (mid ++ [S]))) = cA at *
    generalize CR m (lineOf m row) (path (S :: (post ++ (pre ++ [F])))) = cB at *
    rw [hs, Int.sub_self] at sA sB
    rcases even_two (by omega) mA sA with rfl | ⟨t1, b1, t2, b2, w, rfl, hw, p1, p2⟩
    · rw [List.nil_append] at perm
      rcases even_two (by omega) mB sB with rfl | ⟨t1, b1, t2, b2, w, rfl, hw, p1, p2⟩
      · have e := List.perm_nil.mp perm
        subst e
        exact ⟨none, none, none, .of .none, .of .none, .of .none, .of .none, .of .none, .of .none, .left _ fun _ _ _ _ e => by cases e⟩
      · refine ⟨some ((t1, b1), (t2, b2)), none, some ((t1, b1), (t2, b2)), like_perm perm hw rfl p1 p2, .of .none, .of .none, .of (.two hw p1 p2), ?_, .of (.two hw p1 p2), .right _ fun _ _ _ _ e => by cases e; exact ⟨p1, p2⟩⟩
        exact like_two (w := -w) (w' := - -w) (by omega) rfl p1 p2
    · have e : cB = [] := List.eq_nil_of_length_eq_zero (by simp at len2; omega)
      subst e
      rw [List.append_nil] at perm
      refine ⟨some ((t1, b1), (t2, b2)), some ((t1, b1), (t2, b2)), none, like_perm perm hw rfl p1 p2, .of (.two hw p1 p2), ?_, .of .none, .of .none, .of (.two hw p1 p2), .left _ fun _ _ _ _ e => by cases e; exact ⟨p1, p2⟩⟩
      exact like_two (w := -w) (w' := - -w) (by omega) rfl p1 p2
  · -- the cut is crossed, and each chain once
    obtain ⟨tc, bc, ec, pc, _⟩ := crossE_some (a := F) (b := S) hm hs
    have ec' := crossE_swap (a := F) (b := S) (line := lineOf m row) hm
    rw [ec] at ec'
    have ec' : crossE m (lineOf m row) (S, F) = some (tc, bc, -(b2 (abv (lineOf m row) S) - b2 (abv (lineOf m row) F))) := ec'
    rw [CR_cons_some ec, CR_cons_some ec, CR_cons_some ec', CR_cons_some ec', rA, rB]
    obtain ⟨lo, hi, hlh, l1, l2, e1, e2⟩ := crossE_form hm ec
    have hw : b2 (abv (lineOf m row) S) - b2 (abv (lineOf m row) F) = 1 ∨ b2 (abv (lineOf m row) S) - b2 (abv (lineOf m row) F) = -1 := by
      cases h1 : abv (lineOf m row) F <;> cases h2 : abv (lineOf m row) S <;> simp [h1, h2, K79.b2] at hs ⊢
    have sB' : ((CR m (lineOf m row) (path (S :: (post ++ (pre ++ [F]))))).map (·.2.2)).sum = -(K79.b2 (abv (lineOf m row) S) - K79.b2 (abv (lineOf m row) F)) := by rw [sB]; omega
    generalize K79.b2 (abv (lineOf m row) S) - K79.b2 (abv (lineOf m row) F) = w at *
    have nA := len_of_sum sA hw
    have nB := len_of_sum sB' (by omega)
    obtain ⟨t1, b1, eA, p1⟩ := odd_one (by omega) sA hw fun r hr => (mA r hr).2
    obtain ⟨t2, b2, eB', p2⟩ := odd_one (by omega) sB' (by omega) fun r hr => (mB r hr).2
    rw [eA, eB'] at perm ⊢
    have hbt : (t1 * bc ≤ tc * b1 ∧ tc * b2 ≤ t2 * bc) ∨ (t2 * bc ≤ tc * b2 ∧ tc * b1 ≤ t1 * bc) := by
      have e1' : tc = lo.1 * (hi.2 - lineOf m row) + hi.1 * (lineOf m row - lo.2) := e1
      have e2' : bc = (hi.2 - lo.2) * m := e2
      rw [e1', e2']
      rcases hlh with ⟨rfl, rfl⟩ | ⟨rfl, rfl⟩
      · refine .inr ⟨?_, ?_⟩
        · exact chB _ _ hB (t2, b2, -w) (by rw [eB']; simp)
        · exact chA' _ _ hA (t1, b1, w) (by rw [eA]; simp)
      · refine .inl ⟨?_, ?_⟩
        · exact chA _ _ (fun E hE => by rw [side_swap]; have := hA E hE; omega) (t1, b1, w) (by rw [eA]; simp)
        · exact chB' _ _ (fun E hE => by rw [side_swap]; have := hB E hE; omega) (t2, b2, -w) (by rw [eB']; simp)
    refine ⟨some ((t1, b1), (t2, b2)), some ((tc, bc), (t1, b1)), some ((tc, bc), (t2, b2)), like_perm perm hw rfl p1 p2, .of (row_two (w := -w) (w' := w) (by omega) (by omega) pc p1), .of (row_two (w := w) (w' := -w) hw rfl pc p1), .of (row_two (w := w) (w' := -w) hw rfl pc p2), .of (row_two (w := -w) (w' := - -w) (by omega) rfl pc p2), .of ?_, .both pc p1 p2 hbt⟩
    have h4 := RowIs.four (w := -w) (tc := tc) (bc := bc) (t1 := t1) (b1 := b1) (t2 := t2) (b2 := b2) (by omega) pc p1 p2 hbt
    rw [Int.neg_neg] at h4
    exact h4
end K79

namespace K79

/-! ### columns: which cells of a row are filled -/
def inCols (l : List Pt) (c : Int) : Prop := ∃ q ∈ l, q.1 ≤ c ∧ c < q.2
theorem inCols_nil {c : Int} : ¬ inCols [] c := fun ⟨_, h, _⟩ => nomatch h
theorem inCols_one {q : Pt} {c : Int} : inCols [q] c ↔ q.1 ≤ c ∧ c < q.2 := by
  constructor
  · rintro ⟨q', h, h1⟩
    have e : q' = q := by simpa using h
    subst e; exact h1
  · exact fun h => ⟨q, by simp, h⟩
theorem colsO_len (drops : Bool) (o : Option ((Int × Int) × (Int × Int))) : (colsO drops o).length ≤ 1 := by
  cases o with
  | none => exact Nat.zero_le _
  | some p =>
    obtain ⟨⟨t1, b1⟩, ⟨t2, b2⟩⟩ := p
    show (colsN drops t1 b1 t2 b2).length ≤ 1
    unfold colsN
    split
    · exact Nat.zero_le _
    · exact Nat.le_refl _
theorem colsN_le {drops : Bool} {t1 b1 t2 b2 : Int} : ∀ q ∈ colsN drops t1 b1 t2 b2, q.1 ≤ q.2 := by
  intro q hq
  unfold colsN at hq
  split at hq
  · cases hq
  · rw [List.mem_singleton.mp hq]
    unfold boxB
    split
    · show _ ≤ _ + 1; omega
    · show min _ _ ≤ max _ _; omega
theorem colsO_le {drops : Bool} {o : Option ((Int × Int) × (Int × Int))} : ∀ q ∈ colsO drops o, q.1 ≤ q.2 := by
  cases o with
  | none => intro q hq; cases hq
  | some p => obtain ⟨⟨t1, b1⟩, ⟨t2, b2⟩⟩ := p; exact colsN_le
/-- without drops: between the two -/
theorem in_bare {t1 b1 t2 b2 c : Int} (h1 : 0 < b1) (h2 : 0 < b2) : inCols (colsN false t1 b1 t2 b2) c ↔ min (fm t1 b1) (fm t2 b2) ≤ c ∧ c < max (fm t1 b1) (fm t2 b2) := by
  unfold colsN
  split
  · rename_i e
    have := fm_congr h1 h2 e
    constructor
    · exact fun h => (inCols_nil h).elim
    · rintro ⟨a, b⟩; omega
  · rw [inCols_one]
    unfold boxB
    rw [if_neg (by simp)]
theorem in_drop {t1 b1 t2 b2 c : Int} (h1 : 0 < b1) (h2 : 0 < b2) : inCols (colsN true t1 b1 t2 b2) c ↔
    (fm t1 b1 ≠ fm t2 b2 ∧ min (fm t1 b1) (fm t2 b2) ≤ c ∧ c < max (fm t1 b1) (fm t2 b2)) ∨ (t1 * b2 ≠ t2 * b1 ∧ fm t1 b1 = fm t2 b2 ∧ c = dcol (t1 * b2 + t2 * b1) (b1 * b2)) := by
  unfold colsN
  split
  · rename_i e
    have := fm_congr h1 h2 e
    constructor
    · exact fun h => (inCols_nil h).elim
    · rintro (⟨a, _⟩ | ⟨a, _⟩)
      · exact (a this).elim
      · exact (a e).elim
  · rename_i e
    rw [inCols_one]
    unfold boxB
    by_cases f : fm t1 b1 = fm t2 b2
    · have : min (fm t1 b1) (fm t2 b2) = max (fm t1 b1) (fm t2 b2) := by omega
      rw [if_pos ⟨this, rfl⟩]
      constructor
      · rintro ⟨a, b⟩
        have a : dcol (t1 * b2 + t2 * b1) (b1 * b2) ≤ c := a
        have b : c < dcol (t1 * b2 + t2 * b1) (b1 * b2) + 1 := b
        exact .inr ⟨e, f, by omega⟩
      · rintro (⟨a, _⟩ | ⟨_, _, a⟩)
        · exact (a f).elim
        · subst a
          exact ⟨Int.le_refl _, Int.lt_succ _⟩
    · have : ¬ min (fm t1 b1) (fm t2 b2) = max (fm t1 b1) (fm t2 b2) := by omega
      rw [if_neg fun z => this z.1]
      constructor
      · exact fun h => .inl ⟨f, h⟩
      · rintro (⟨_, h⟩ | ⟨_, a, _⟩)
        · exact h
        · exact (f a).elim
/-- a dropped column lies at the border -/
theorem dcol_near {t1 b1 t2 b2 f : Int} (h1 : 0 < b1) (h2 : 0 < b2) (e1 : fm t1 b1 = f) (e2 : fm t2 b2 = f) : f - 1 ≤ dcol (t1 * b2 + t2 * b1) (b1 * b2) ∧ dcol (t1 * b2 + t2 * b1) (b1 * b2) ≤ f := by
  have hp : 0 < b1 * b2 := Int.mul_pos h1 h2
  have u1 := (fm_le (t := t1) (c := f) h1).1 (by omega)
  have u2 := (fm_le (t := t2) (c := f) h2).1 (by omega)
  have l1 : (64 * (f - 1) + 32) * b1 < t1 := by
    refine Int.lt_of_not_ge fun z => ?_
    have := (fm_le (t := t1) (c := f - 1) h1).2 z
    omega
  have l2 : (64 * (f - 1) + 32) * b2 < t2 := by
    refine Int.lt_of_not_ge fun z => ?_
    have := (fm_le (t := t2) (c := f - 1) h2).2 z
    omega
  have v1 := Int.mul_le_mul_of_nonneg_right u1 (Int.le_of_lt h2)
  have v2 := Int.mul_le_mul_of_nonneg_right u2 (Int.le_of_lt h1)
  have w1 := Int.mul_lt_mul_of_pos_right l1 h2
  have w2 := Int.mul_lt_mul_of_pos_right l2 h1
  refine ⟨?_, ?_⟩
  · refine Int.not_lt.mp fun z => ?_
    have k := (dcol_le (s := t1 * b2 + t2 * b1) (c := f - 2) hp).1 (by omega)
    have e : 128 * (b1 * b2) * (f - 2 + 1) + 64 * (b1 * b2) = (64 * (f - 1) + 32) * b1 * b2 + (64 * (f - 1) + 32) * b2 * b1 := by grind
    omega
  · rw [dcol_le hp]
    have e : 128 * (b1 * b2) * (f + 1) - 64 * (b1 * b2) = (64 * f + 32) * b1 * b2 + (64 * f + 32) * b2 * b1 := by grind
    omega

theorem rel_bare {oP oA oB : Option ((Int × Int) × (Int × Int))} (h : Rel oP oA oB) (c : Int) :
    (inCols (colsO false oP) c ↔ inCols (colsO false oA) c ∨ inCols (colsO false oB) c) ∧ ¬ (inCols (colsO false oA) c ∧ inCols (colsO false oB) c) := by
  cases h with
  | left => exact ⟨⟨.inl, fun h => h.elim id fun z => (inCols_nil z).elim⟩, fun z => inCols_nil z.2⟩
  | right => exact ⟨⟨.inr, fun h => h.elim (fun z => (inCols_nil z).elim) id⟩, fun z => inCols_nil z.1⟩
  | @both tc bc t1 b1 t2 b2 hc h1 h2 hb =>
    have e1 : inCols (colsO false (some ((t1, b1), (t2, b2)))) c ↔ _ := in_bare h1 h2
    have e2 : inCols (colsO false (some ((tc, bc), (t1, b1)))) c ↔ _ := in_bare hc h1
    have e3 : inCols (colsO false (some ((tc, bc), (t2, b2)))) c ↔ _ := in_bare hc h2
    rw [e1, e2, e3]
    rcases hb with ⟨x, y⟩ | ⟨x, y⟩
    · have m1 := fm_mono h1 hc x
      have m2 := fm_mono hc h2 y
      constructor
      · constructor
        · intro h; omega
        · intro h; omega
      · intro h; omega
    · have m1 := fm_mono h2 hc x
      have m2 := fm_mono hc h1 y
      constructor
      · constructor
        · intro h; omega
        · intro h; omega
      · intro h; omega
theorem both_drop {tc bc t1 b1 t2 b2 c : Int} (hc : 0 < bc) (h1 : 0 < b1) (h2 : 0 < b2) (x : t1 * bc ≤ tc * b1) (y : tc * b2 ≤ t2 * bc) (h : inCols (colsN true t1 b1 t2 b2) c) :
    inCols (colsN true tc bc t1 b1) c ∨ inCols (colsN true tc bc t2 b2) c := by
  have m1 := fm_mono h1 hc x
  have m2 := fm_mono hc h2 y
  rw [in_drop h1 h2] at h
  rw [in_drop hc h1, in_drop hc h2]
  rcases h with ⟨a, b, d⟩ | ⟨a, b, d⟩
  · by_cases z : c < fm tc bc
    · exact .inl (.inl ⟨by omega, by omega, by omega⟩)
    · exact .inr (.inl ⟨by omega, by omega, by omega⟩)
  · have f1 : fm tc bc = fm t1 b1 := by omega
    have f2 : fm tc bc = fm t2 b2 := by omega
    have p12 : 0 < b1 * b2 := Int.mul_pos h1 h2
    have pc1 : 0 < bc * b1 := Int.mul_pos hc h1
    have pc2 : 0 < bc * b2 := Int.mul_pos hc h2
    have xm := Int.mul_le_mul_of_nonneg_right x (Int.le_of_lt h2)
    have ym := Int.mul_le_mul_of_nonneg_right y (Int.le_of_lt h1)
    have dA : dcol (tc * b1 + t1 * bc) (bc * b1) ≤ dcol (t1 * b2 + t2 * b1) (b1 * b2) := by
      refine dcol_mono pc1 p12 ?_
      have k := Int.mul_le_mul_of_nonneg_right ym (Int.le_of_lt h1)
      have e1 : (tc * b1 + t1 * bc) * (b1 * b2) = tc * b2 * b1 * b1 + t1 * bc * b1 * b2 := by grind
      have e2 : (t1 * b2 + t2 * b1) * (bc * b1) = t1 * bc * b1 * b2 + t2 * bc * b1 * b1 := by grind
      omega
    have dB : dcol (t1 * b2 + t2 * b1) (b1 * b2) ≤ dcol (tc * b2 + t2 * bc) (bc * b2) := by
      refine dcol_mono p12 pc2 ?_
      have k := Int.mul_le_mul_of_nonneg_right xm (Int.le_of_lt h2)
      have e1 : (t1 * b2 + t2 * b1) * (bc * b2) = t1 * bc * b2 * b2 + t2 * bc * b1 * b2 := by grind
      have e2 : (tc * b2 + t2 * bc) * (b1 * b2) = tc * b1 * b2 * b2 + t2 * bc * b1 * b2 := by grind
      omega
    by_cases z1 : tc * b1 = t1 * bc
    · -- the cut is at the first one: the second part has it all
      refine .inr (.inr ⟨?_, f2, ?_⟩)
      · intro z2
        refine a ?_
        have q1 : t1 * b2 * bc = t2 * b1 * bc := by
          have : t1 * b2 * bc = tc * b1 * b2 := by grind
          have : t2 * b1 * bc = tc * b2 * b1 := by grind
          grind
        exact Int.eq_of_mul_eq_mul_right (by omega) q1
      · rw [d]
        exact dcol_congr p12 pc2 (by grind)
    · by_cases z2 : tc * b2 = t2 * bc
      · refine .inl (.inr ⟨?_, f1, ?_⟩)
        · intro z; exact z1 z
        · rw [d]
          exact dcol_congr p12 pc1 (by grind)
      · have n := dcol_near h1 h2 rfl b.symm
        have nA := dcol_near hc h1 f1 rfl
        have nB := dcol_near hc h2 (f2.trans b.symm) b.symm
        by_cases w : dcol (t1 * b2 + t2 * b1) (b1 * b2) = fm t1 b1
        · exact .inr (.inr ⟨z2, f2, by omega⟩)
        · exact .inl (.inr ⟨z1, f1, by omega⟩)
theorem rel_drop {oP oA oB : Option ((Int × Int) × (Int × Int))} (h : Rel oP oA oB) (c : Int) (hi : inCols (colsO true oP) c) : inCols (colsO true oA) c ∨ inCols (colsO true oB) c := by
  cases h with
  | left => exact .inl hi
  | right => exact .inr hi
  | @both tc bc t1 b1 t2 b2 hc h1 h2 hb =>
    have hi : inCols (colsN true t1 b1 t2 b2) c := hi
    show inCols (colsN true tc bc t1 b1) c ∨ inCols (colsN true tc bc t2 b2) c
    rcases hb with ⟨x, y⟩ | ⟨x, y⟩
    · exact both_drop hc h1 h2 x y hi
    · rw [colsN_comm] at hi
      exact (both_drop hc h2 h1 x y hi).symm

/-! ### scale -/
def sc (k : Int) (p : Pt) : Pt := (k * p.1, k * p.2)
def scR (k : Int) (r : Row3) : Row3 := (k * k * r.1, k * k * r.2.1, r.2.2)
theorem crossE_sc {k m line : Int} (hk : 0 < k) (hm : 0 < m) (a b : Pt) : crossE (k * m) (k * line) (sc k a, sc k b) = (crossE m line (a, b)).map (scR k) := by
  have hkm : 0 < k * m := Int.mul_pos hk hm
  have ab : ∀ p : Pt, abv (k * line) (sc k p) = abv line p := fun p => by
    unfold abv sc
    show decide (k * line < k * p.2) = _
    rw [decide_eq_decide]
    exact Int.mul_lt_mul_left hk
  by_cases h : abv line a = abv line b
  · rw [crossE_none h, crossE_none (by rw [ab, ab]; exact h)]; rfl
  · obtain ⟨t, bs, e, _, eb, et⟩ := crossE_some hm h
    obtain ⟨t', bs', e', _, eb', et'⟩ := crossE_some (line := k * line) (a := sc k a) (b := sc k b) hkm (by rw [ab, ab]; exact h)
    rw [ab, ab] at e'
    rw [e, e']
    have hc : (sc k a).2 < (sc k b).2 ↔ a.2 < b.2 := Int.mul_lt_mul_left hk
    have h1 : bs' = k * k * bs := by
      rw [eb, eb']
      by_cases l : a.2 < b.2
      · rw [if_pos l, if_pos (hc.mpr l)]; show (k * b.2 - k * a.2) * (k * m) = _; grind
      · rw [if_neg l, if_neg (fun z => l (hc.mp z))]; show (k * a.2 - k * b.2) * (k * m) = _; grind
    have h2 : t' = k * k * t := by
      rw [et, et']
      by_cases l : a.2 < b.2
      · rw [if_pos l, if_pos (hc.mpr l)]; show (k * a.1 * (k * b.2) - k * b.1 * (k * a.2) + k * line * (k * b.1 - k * a.1)) * 1 = _; grind
      · rw [if_neg l, if_neg (fun z => l (hc.mp z))]; show (k * a.1 * (k * b.2) - k * b.1 * (k * a.2) + k * line * (k * b.1 - k * a.1)) * -1 = _; grind
    rw [h1, h2]; rfl
theorem edges_sc (k : Int) (p : List Pt) : edges (p.map (sc k)) = (edges p).map fun e => (sc k e.1, sc k e.2) := by
  cases p with
  | nil => rfl
  | cons h t =>
    unfold edges
    rw [List.map_cons, ← List.map_cons (f := sc k), map_getLastD (sc k) h t (0, 0), ← List.map_cons, List.zip_map]
    rfl
theorem crossM_sc {k m row : Int} (hk : 0 < k) (hm : 0 < m) (pss : List (List Pt)) : crossM (pss.map fun p => p.map (sc k)) (k * m) row = (crossM pss m row).map (scR k) := by
  have el : lineOf (k * m) row = k * lineOf m row := by unfold lineOf; grind
  unfold crossM
  rw [List.flatMap_map, List.map_flatMap]
  congr 1
  funext p
  rw [edges_sc, List.filterMap_map, List.map_filterMap, el]
  congr 1
  funext e
  obtain ⟨a, b⟩ := e
  exact crossE_sc hk hm a b
theorem like_sc {k : Int} (hk : 0 < k) {rows : List Row3} {o : Option ((Int × Int) × (Int × Int))} (hb : ∀ r ∈ rows, 0 < r.2.1) (h : RowLike (rows.map (scR k)) o) : RowLike rows o := by
  obtain ⟨o', h, ho⟩ := h
  have hkk : 0 < k * k := Int.mul_pos hk hk
  generalize hl : rows.map (scR k) = l at h
  cases h with
  | none =>
    have e : rows = [] := by
      cases rows with
      | nil => rfl
      | cons _ _ => cases hl
    subst e
    exact ⟨none, .none, ho⟩
  | @two w t1 b1 t2 b2 hw h1 h2 =>
    match rows, hl with
    | [(s1, c1, u1), (s2, c2, u2)], hl =>
      injection hl with e1 e2
      injection e2 with e2 _
      unfold scR at e1 e2
      simp only [Prod.mk.injEq] at e1 e2
      obtain ⟨x1, x2, x3⟩ := e1
      obtain ⟨y1, y2, y3⟩ := e2
      have p1 : 0 < c1 := hb (s1, c1, u1) (by simp)
      have p2 : 0 < c2 := hb (s2, c2, u2) (by simp)
      refine ⟨_, row_two (w := u1) (w' := u2) (by omega) (by omega) p1 p2, fun drops => ?_⟩
      rw [← ho]
      exact colsN_congr drops p1 p2 h1 h2 (by rw [← x1, ← x2]; grind) (by rw [← y1, ← y2]; grind)
  | @four w tc bc t1 b1 t2 b2 hw hc h1 h2 hbt =>
    have len4 : rows.length = 4 := by
      have := congrArg List.length hl
      simpa using this
    match rows, len4, hl with
    | [(s0, c0, u0), (s1, c1, u1), (s3, c3, u3), (s2, c2, u2)], _, hl =>
      injection hl with e0 hl
      injection hl with e1 hl
      injection hl with e3 hl
      injection hl with e2 _
      unfold scR at e0 e1 e2 e3
      simp only [Prod.mk.injEq] at e0 e1 e2 e3
      obtain ⟨a1, a2, a3⟩ := e0
      obtain ⟨x1, x2, x3⟩ := e1
      obtain ⟨y1, y2, y3⟩ := e2
      obtain ⟨z1, z2, z3⟩ := e3
      have p0 : 0 < c0 := hb (s0, c0, u0) (by simp)
      have p1 : 0 < c1 := hb (s1, c1, u1) (by simp)
      have p2 : 0 < c2 := hb (s2, c2, u2) (by simp)
      have k0 : k * k ≠ 0 := by omega
      have q1 : s3 = s0 := Int.eq_of_mul_eq_mul_left k0 (by rw [z1, a1])
      have q2 : c3 = c0 := Int.eq_of_mul_eq_mul_left k0 (by rw [z2, a2])
      have q3 : u1 = -u0 := by omega
      have q4 : u3 = -u0 := by omega
      have q5 : u2 = u0 := by omega
      subst q1; subst q2; subst q3; subst q4; subst q5
      have hkkkk : 0 < k * k * (k * k) := Int.mul_pos hkk hkk
      have lift : ∀ {p q : Int}, k * k * (k * k) * p ≤ k * k * (k * k) * q → p ≤ q := fun h => Int.le_of_mul_le_mul_left h hkkkk
      refine ⟨_, .four (by omega) p0 p1 p2 ?_, fun drops => ?_⟩
      · rcases hbt with ⟨u, v⟩ | ⟨u, v⟩
        · rw [← x1, ← x2, ← a1, ← a2] at u
          rw [← y1, ← y2, ← a1, ← a2] at v
          exact .inl ⟨lift (by grind), lift (by grind)⟩
        · rw [← y1, ← y2, ← a1, ← a2] at u
          rw [← x1, ← x2, ← a1, ← a2] at v
          exact .inr ⟨lift (by grind), lift (by grind)⟩
      · rw [← ho]
        exact colsN_congr drops p1 p2 h1 h2 (by rw [← x1, ← x2]; grind) (by rw [← y1, ← y2]; grind)
theorem crossM_mem {pss : List (List Pt)} {m row : Int} (hm : 0 < m) {r : Row3} (h : r ∈ crossM pss m row) : (r.2.2 = 1 ∨ r.2.2 = -1) ∧ 0 < r.2.1 := by
  unfold crossM at h
  obtain ⟨p, _, h⟩ := List.mem_flatMap.mp h
  exact CR_mem hm h
theorem cols_like {pss : List (List Pt)} {m row : Int} {o : Option ((Int × Int) × (Int × Int))} (h : RowLike (crossM pss m row) o) (odd drops : Bool) : colsM pss m row odd drops = colsO drops o := by
  obtain ⟨o', h, ho⟩ := h
  rw [← ho]
  exact row_cols h odd drops
end K79

namespace K79

/-! ### numbers over a base, their scale -/
theorem gcd_pos' {w b : Int} (hb : 0 < b) : 0 < (Int.gcd w b : Int) := by
  have h : Int.gcd w b ≠ 0 := fun e => by
    have := (Int.gcd_eq_zero_iff.mp e).2
    omega
  omega
def numG (B x : Int) : Int := (Int.gcd x B : Int)
def numT (B x : Int) : Int := x / numG B x
def numB (B x : Int) : Int := B / numG B x
theorem numG_pos {B x : Int} (hB : 0 < B) : 0 < numG B x := gcd_pos' hB
theorem numT_mul {B x : Int} : numT B x * numG B x = x := Int.ediv_mul_cancel (Int.gcd_dvd_left x B)
theorem numB_mul {B x : Int} : numB B x * numG B x = B := Int.ediv_mul_cancel (Int.gcd_dvd_right x B)
theorem numB_pos {B x : Int} (hB : 0 < B) : 0 < numB B x := by
  have h := numB_mul (B := B) (x := x)
  have g := numG_pos (x := x) hB
  refine Int.lt_of_not_ge fun z => ?_
  have := Int.mul_nonpos_of_nonpos_of_nonneg z (Int.le_of_lt g)
  omega
theorem numB_dvd {B x : Int} : numB B x ∣ B := ⟨numG B x, numB_mul.symm⟩
theorem numB_le {B x : Int} (hB : 0 < B) : numB B x ≤ B := Int.le_of_dvd hB numB_dvd
def basesM (B : Int) (pss : List (List Pt)) : List Int := pss.flatMap fun p => p.flatMap fun q => [numB B q.1, numB B q.2]
def scaleM (B : Int) (pss : List (List Pt)) : Int := (basesM B pss).foldl lcmI 1
theorem fold_lcm {B : Int} (hB : 0 < B) : ∀ (l : List Int) (w : Int), 0 < w → w ∣ B → (∀ b ∈ l, 0 < b ∧ b ∣ B) →
    0 < l.foldl lcmI w ∧ l.foldl lcmI w ∣ B ∧ w ∣ l.foldl lcmI w ∧ ∀ b ∈ l, b ∣ l.foldl lcmI w
  | [], w, hw, hd, _ => ⟨hw, hd, Int.dvd_refl w, fun _ h => nomatch h⟩
  | b :: r, w, hw, hd, h => by
    obtain ⟨hb, hbd⟩ := h b List.mem_cons_self
    obtain ⟨h1, h2, h3, h4⟩ := fold_lcm hB r (lcmI w b) (lcmI_pos hw hb) (lcmI_dvd hw hb hd hbd) fun x hx => h x (List.mem_cons_of_mem _ hx)
    refine ⟨h1, h2, Int.dvd_trans (dvd_lcmI_left hw hb) h3, fun x hx => ?_⟩
    rcases List.mem_cons.mp hx with rfl | hx
    · exact Int.dvd_trans (dvd_lcmI_right hw hb) h3
    · exact h4 x hx
theorem bases_ok {B : Int} (hB : 0 < B) {pss : List (List Pt)} : ∀ b ∈ basesM B pss, 0 < b ∧ b ∣ B := by
  intro b hb
  unfold basesM at hb
  obtain ⟨p, _, hb⟩ := List.mem_flatMap.mp hb
  obtain ⟨q, _, hb⟩ := List.mem_flatMap.mp hb
  simp only [List.mem_cons, List.not_mem_nil, or_false] at hb
  rcases hb with rfl | rfl
  · exact ⟨numB_pos hB, numB_dvd⟩
  · exact ⟨numB_pos hB, numB_dvd⟩
theorem scaleM_pos {B : Int} (hB : 0 < B) (pss : List (List Pt)) : 0 < scaleM B pss := (fold_lcm hB _ 1 (by decide) (Int.one_dvd B) (bases_ok hB)).1
theorem scaleM_dvd {B : Int} (hB : 0 < B) (pss : List (List Pt)) : scaleM B pss ∣ B := (fold_lcm hB _ 1 (by decide) (Int.one_dvd B) (bases_ok hB)).2.1
theorem scaleM_le {B : Int} (hB : 0 < B) (pss : List (List Pt)) : scaleM B pss ≤ B := Int.le_of_dvd hB (scaleM_dvd hB pss)
theorem scaleM_base {B : Int} (hB : 0 < B) {pss : List (List Pt)} {p : List Pt} {q : Pt} (hp : p ∈ pss) (hq : q ∈ p) : numB B q.1 ∣ scaleM B pss ∧ numB B q.2 ∣ scaleM B pss := by
  have h := (fold_lcm hB _ 1 (by decide) (Int.one_dvd B) (bases_ok hB (pss := pss))).2.2.2
  have m : ∀ b, b ∈ [numB B q.1, numB B q.2] → b ∈ basesM B pss := fun b hb => List.mem_flatMap.mpr ⟨p, hp, List.mem_flatMap.mpr ⟨q, hq, hb⟩⟩
  exact ⟨h _ (m _ (by simp)), h _ (m _ (by simp))⟩
def wholeOf (B m x : Int) : Int := numT B x * (m / numB B x)
def wholesM (B : Int) (pss : List (List Pt)) : List (List Pt) := pss.map fun p => p.map fun q => (wholeOf B (scaleM B pss) q.1, wholeOf B (scaleM B pss) q.2)
theorem wholeOf_mul {B m k x : Int} (hB : 0 < B) (e : B = k * m) (h : numB B x ∣ m) : k * wholeOf B m x = x := by
  obtain ⟨q, hq⟩ := h
  have hb := numB_pos (x := x) hB
  have e1 := numT_mul (B := B) (x := x)
  have e2 := numB_mul (B := B) (x := x)
  unfold wholeOf
  generalize numB B x = b at *
  generalize numT B x = t at *
  generalize numG B x = g at *
  subst hq
  rw [Int.mul_ediv_cancel_left _ (by omega)]
  have e3 : b * (k * q) = b * g := by rw [e2, e]; grind
  have e4 : k * q = g := Int.eq_of_mul_eq_mul_left (by omega) e3
  rw [← e1, ← e4]; grind
theorem wholes_sc {B : Int} (hB : 0 < B) (pss : List (List Pt)) : ∃ k, 0 < k ∧ B = k * scaleM B pss ∧ pss = (wholesM B pss).map fun p => p.map (sc k) := by
  obtain ⟨k, hk⟩ := scaleM_dvd hB pss
  have hm := scaleM_pos hB pss
  have e : B = k * scaleM B pss := by rw [Int.mul_comm]; exact hk
  have hk0 : 0 < k := by
    refine Int.lt_of_not_ge fun z => ?_
    have := Int.mul_nonpos_of_nonpos_of_nonneg z (Int.le_of_lt hm)
    omega
  refine ⟨k, hk0, e, ?_⟩
  unfold wholesM
  rw [List.map_map]
  refine (List.map_id'' (fun _ => rfl) pss).symm.trans (List.map_congr_left fun p hp => ?_)
  show p = ((p.map _).map (sc k))
  rw [List.map_map]
  refine (List.map_id'' (fun _ => rfl) p).symm.trans (List.map_congr_left fun q hq => ?_)
  obtain ⟨h1, h2⟩ := scaleM_base hB hp hq
  show q = (k * wholeOf B (scaleM B pss) q.1, k * wholeOf B (scaleM B pss) q.2)
  rw [wholeOf_mul hB e h1, wholeOf_mul hB e h2]

/-! ### the least and the greatest -/
theorem foldmin_spec : ∀ (l : List Int) (a : Int), l.foldl min a ≤ a ∧ (∀ x ∈ l, l.foldl min a ≤ x) ∧ (l.foldl min a = a ∨ l.foldl min a ∈ l)
  | [], a => ⟨Int.le_refl _, fun _ h => (nomatch h), .inl rfl⟩
  | y :: r, a => by
    obtain ⟨h1, h2, h3⟩ := foldmin_spec r (min a y)
    refine ⟨?_, fun x hx => ?_, ?_⟩
    · show r.foldl min (min a y) ≤ a; omega
    · show r.foldl min (min a y) ≤ x
      rcases List.mem_cons.mp hx with rfl | hx
      · omega
      · exact h2 x hx
    · show r.foldl min (min a y) = a ∨ r.foldl min (min a y) ∈ y :: r
      rcases h3 with h3 | h3
      · by_cases c : a ≤ y
        · left; omega
        · right; rw [show r.foldl min (min a y) = y by omega]; exact List.mem_cons_self
      · right; exact List.mem_cons_of_mem _ h3
theorem foldmax_spec : ∀ (l : List Int) (a : Int), a ≤ l.foldl max a ∧ (∀ x ∈ l, x ≤ l.foldl max a) ∧ (l.foldl max a = a ∨ l.foldl max a ∈ l)
  | [], a => ⟨Int.le_refl _, fun _ h => (nomatch h), .inl rfl⟩
  | y :: r, a => by
    obtain ⟨h1, h2, h3⟩ := foldmax_spec r (max a y)
    refine ⟨?_, fun x hx => ?_, ?_⟩
    · show a ≤ r.foldl max (max a y); omega
    · show x ≤ r.foldl max (max a y)
      rcases List.mem_cons.mp hx with rfl | hx
      · omega
      · exact h2 x hx
    · show r.foldl max (max a y) = a ∨ r.foldl max (max a y) ∈ y :: r
      rcases h3 with h3 | h3
      · by_cases c : y ≤ a
        · left; omega
        · right; rw [show r.foldl max (max a y) = y by omega]; exact List.mem_cons_self
      · right; exact List.mem_cons_of_mem _ h3
theorem mnL_spec {l : List Int} (h : l ≠ []) : mnL l ∈ l ∧ ∀ x ∈ l, mnL l ≤ x := by
  cases l with
  | nil => exact (h rfl).elim
  | cons y r =>
    obtain ⟨h1, h2, h3⟩ := foldmin_spec (y :: r) y
    refine ⟨?_, h2⟩
    rcases h3 with h3 | h3
    · show (y :: r).foldl min y ∈ _; rw [h3]; exact List.mem_cons_self
    · exact h3
theorem mxL_spec {l : List Int} (h : l ≠ []) : mxL l ∈ l ∧ ∀ x ∈ l, x ≤ mxL l := by
  cases l with
  | nil => exact (h rfl).elim
  | cons y r =>
    obtain ⟨h1, h2, h3⟩ := foldmax_spec (y :: r) y
    refine ⟨?_, h2⟩
    rcases h3 with h3 | h3
    · show (y :: r).foldl max y ∈ _; rw [h3]; exact List.mem_cons_self
    · exact h3
theorem mnL_congr {l l' : List Int} (h : ∀ x, x ∈ l ↔ x ∈ l') : mnL l = mnL l' := by
  by_cases e : l = []
  · subst e
    have : l' = [] := List.eq_nil_iff_forall_not_mem.mpr fun x hx => nomatch (h x).mpr hx
    rw [this]
  · have e' : l' ≠ [] := fun z => by
      obtain ⟨a, _⟩ := mnL_spec e
      have := (h _).mp a
      rw [z] at this
      cases this
    obtain ⟨a, b⟩ := mnL_spec e
    obtain ⟨c, d⟩ := mnL_spec e'
    have := b _ ((h _).mpr c)
    have := d _ ((h _).mp a)
    omega
theorem mxL_congr {l l' : List Int} (h : ∀ x, x ∈ l ↔ x ∈ l') : mxL l = mxL l' := by
  by_cases e : l = []
  · subst e
    have : l' = [] := List.eq_nil_iff_forall_not_mem.mpr fun x hx => nomatch (h x).mpr hx
    rw [this]
  · have e' : l' ≠ [] := fun z => by
      obtain ⟨a, _⟩ := mxL_spec e
      have := (h _).mp a
      rw [z] at this
      cases this
    obtain ⟨a, b⟩ := mxL_spec e
    obtain ⟨c, d⟩ := mxL_spec e'
    have := b _ ((h _).mpr c)
    have := d _ ((h _).mp a)
    omega
theorem foldmin_sc {k : Int} (hk : 0 < k) : ∀ (l : List Int) (a : Int), (l.map (k * ·)).foldl min (k * a) = k * l.foldl min a
  | [], a => rfl
  | y :: r, a => by
    have e : min (k * a) (k * y) = k * min a y := by
      by_cases c : a ≤ y
      · have := Int.mul_le_mul_of_nonneg_left c (Int.le_of_lt hk)
        rw [show min a y = a by omega]; omega
      · have := Int.mul_le_mul_of_nonneg_left (show y ≤ a by omega) (Int.le_of_lt hk)
        rw [show min a y = y by omega]; omega
    show (r.map (k * ·)).foldl min (min (k * a) (k * y)) = k * r.foldl min (min a y)
    rw [e, foldmin_sc hk r]
theorem foldmax_sc {k : Int} (hk : 0 < k) : ∀ (l : List Int) (a : Int), (l.map (k * ·)).foldl max (k * a) = k * l.foldl max a
  | [], a => rfl
  | y :: r, a => by
    have e : max (k * a) (k * y) = k * max a y := by
      by_cases c : y ≤ a
      · have := Int.mul_le_mul_of_nonneg_left c (Int.le_of_lt hk)
        rw [show max a y = a by omega]; omega
      · have := Int.mul_le_mul_of_nonneg_left (show a ≤ y by omega) (Int.le_of_lt hk)
        rw [show max a y = y by omega]; omega
    show (r.map (k * ·)).foldl max (max (k * a) (k * y)) = k * r.foldl max (max a y)
    rw [e, foldmax_sc hk r]
theorem headD_sc (k : Int) (l : List Int) : (l.map (k * ·)).headD 0 = k * l.headD 0 := by
  cases l with
  | nil => simp
  | cons _ _ => rfl
theorem heights_sc (k : Int) (pss : List (List Pt)) : heights (pss.map fun p => p.map (sc k)) = (heights pss).map (k * ·) := by
  unfold heights
  rw [List.flatMap_map, List.map_flatMap]
  congr 1
  funext p
  rw [List.map_map, List.map_map]
  rfl
theorem firstM_sc {k m : Int} (hk : 0 < k) (hm : 0 < m) (pss : List (List Pt)) : firstM (pss.map fun p => p.map (sc k)) (k * m) = firstM pss m := by
  unfold firstM mnL
  rw [heights_sc, headD_sc, foldmin_sc hk]
  exact fm_congr (Int.mul_pos hk hm) hm (by grind)
theorem countM_sc {k m : Int} (hk : 0 < k) (hm : 0 < m) (pss : List (List Pt)) : countM (pss.map fun p => p.map (sc k)) (k * m) = countM pss m := by
  unfold countM
  rw [firstM_sc hk hm]
  unfold mxL
  rw [heights_sc, headD_sc, foldmax_sc hk]
  have : fm (k * (heights pss).foldl max ((heights pss).headD 0)) (k * m) = fm ((heights pss).foldl max ((heights pss).headD 0)) m := fm_congr (Int.mul_pos hk hm) hm (by grind)
  rw [this]

/-! ### the cells of polygons, by what their rows are -/
abbrev Rw := Option ((Int × Int) × (Int × Int))
def cellsM (B : Int) (pss : List (List Pt)) (odd drops : Bool) : List Row3 := cellsW (wholesM B pss) (scaleM B pss) odd drops
def spansR (first count : Int) (o : Int → Rw) (drops : Bool) : List Row3 :=
  (List.range count.toNat).flatMap fun (i : Nat) => (colsO drops (o (first + (i : Int)))).filterMap (spanM (first + (i : Int)))
theorem wholes_like {B row : Int} (hB : 0 < B) {pss : List (List Pt)} {o : Rw} (h : RowLike (crossM pss B row) o) : RowLike (crossM (wholesM B pss) (scaleM B pss) row) o := by
  obtain ⟨k, hk, e, ep⟩ := wholes_sc hB pss
  have hm := scaleM_pos hB pss
  have e2 : crossM pss B row = (crossM (wholesM B pss) (scaleM B pss) row).map (scR k) := by
    rw [← crossM_sc hk hm, ← ep, ← e]
  rw [e2] at h
  exact like_sc hk (fun r hr => (crossM_mem hm hr).2) h
theorem firstM_eq {B : Int} (hB : 0 < B) (pss : List (List Pt)) : firstM (wholesM B pss) (scaleM B pss) = firstM pss B := by
  obtain ⟨k, hk, e, ep⟩ := wholes_sc hB pss
  rw [← firstM_sc hk (scaleM_pos hB pss), ← ep, ← e]
theorem countM_eq {B : Int} (hB : 0 < B) (pss : List (List Pt)) : countM (wholesM B pss) (scaleM B pss) = countM pss B := by
  obtain ⟨k, hk, e, ep⟩ := wholes_sc hB pss
  rw [← countM_sc hk (scaleM_pos hB pss), ← ep, ← e]
theorem cellsM_eq {B : Int} (hB : 0 < B) {pss : List (List Pt)} {o : Int → Rw} (h : ∀ row, RowLike (crossM pss B row) (o row)) (odd drops : Bool) :
    cellsM B pss odd drops = spansR (firstM pss B) (countM pss B) o drops := by
  unfold cellsM cellsW spansR
  rw [firstM_eq hB, countM_eq hB]
  congr 1
  funext i
  rw [cols_like (wholes_like hB (h _))]
theorem spansR_mem {first count : Int} {o : Int → Rw} {drops : Bool} {r b e : Int} : (r, b, e) ∈ spansR first count o drops ↔ first ≤ r ∧ r < first + count ∧ (b, e) ∈ colsO drops (o r) ∧ b ≠ e := by
  unfold spansR
  rw [List.mem_flatMap]
  constructor
  · rintro ⟨i, hi, h⟩
    obtain ⟨q, hq, hs⟩ := List.mem_filterMap.mp h
    unfold spanM at hs
    split at hs
    · cases hs
    · rename_i ne
      have hs := Option.some.inj hs
      injection hs with e1 e2
      injection e2 with e2 e3
      subst e1; subst e2; subst e3
      have := List.mem_range.mp hi
      exact ⟨by omega, by omega, hq, ne⟩
  · rintro ⟨h1, h2, h3, h4⟩
    refine ⟨(r - first).toNat, List.mem_range.mpr (by omega), List.mem_filterMap.mpr ⟨(b, e), ?_, ?_⟩⟩
    · rw [show first + ((r - first).toNat : Int) = r by omega]; exact h3
    · unfold spanM
      rw [if_neg h4, show first + ((r - first).toNat : Int) = r by omega]
/-- a row with crossings lies between the least and the greatest -/
theorem cross_row {pss : List (List Pt)} {B row : Int} (hB : 0 < B) (h : crossM pss B row ≠ []) : firstM pss B ≤ row ∧ row < firstM pss B + countM pss B := by
  obtain ⟨r, hr⟩ := List.exists_mem_of_ne_nil _ h
  unfold crossM at hr
  obtain ⟨p, hp, hr⟩ := List.mem_flatMap.mp hr
  obtain ⟨⟨a, b⟩, he, hc⟩ := List.mem_filterMap.mp hr
  obtain ⟨lo, hi, hlh, l1, l2, _⟩ := crossE_form hB hc
  have hab : a ∈ p ∧ b ∈ p := by
    have h2 := List.of_mem_zip (show (a, b) ∈ List.zip (p.getLastD (0, 0) :: p) p from he)
    refine ⟨?_, h2.2⟩
    rcases List.mem_cons.mp h2.1 with e | e
    · rw [e]
      cases p with
      | nil => cases h2.2
      | cons x r =>
        rw [List.getLastD_eq_getLast?, List.getLast?_eq_some_getLast (List.cons_ne_nil x r)]
        exact List.getLast_mem _
    · exact e
  have hl : lo.2 ∈ heights pss := by
    refine List.mem_flatMap.mpr ⟨p, hp, List.mem_map.mpr ⟨lo, ?_, rfl⟩⟩
    rcases hlh with ⟨rfl, rfl⟩ | ⟨rfl, rfl⟩
    · exact hab.1
    · exact hab.2
  have hh : hi.2 ∈ heights pss := by
    refine List.mem_flatMap.mpr ⟨p, hp, List.mem_map.mpr ⟨hi, ?_, rfl⟩⟩
    rcases hlh with ⟨rfl, rfl⟩ | ⟨rfl, rfl⟩
    · exact hab.2
    · exact hab.1
  have ne : heights pss ≠ [] := fun z => by rw [z] at hl; cases hl
  have m1 := (mnL_spec ne).2 _ hl
  have m2 := (mxL_spec ne).2 _ hh
  unfold lineOf at l1 l2
  constructor
  · unfold firstM
    rw [fm_le hB]
    omega
  · have : ¬ fm (mxL (heights pss)) B ≤ row := fun z => by
      have := (fm_le hB).1 z
      omega
    unfold countM
    omega
theorem cells_mem {B : Int} (hB : 0 < B) {pss : List (List Pt)} {o : Int → Rw} (h : ∀ row, RowLike (crossM pss B row) (o row)) {drops : Bool} {r b e : Int} :
    (r, b, e) ∈ spansR (firstM pss B) (countM pss B) o drops ↔ (b, e) ∈ colsO drops (o r) ∧ b ≠ e := by
  rw [spansR_mem]
  constructor
  · rintro ⟨_, _, h⟩; exact h
  · rintro ⟨h1, h2⟩
    have ne : crossM pss B r ≠ [] := fun z => by
      obtain ⟨o', hr, ho⟩ := h r
      rw [z] at hr
      cases hr
      rw [← ho] at h1
      cases h1
    obtain ⟨k1, k2⟩ := cross_row hB ne
    exact ⟨k1, k2, h1, h2⟩
end K79

namespace K79

/-! ### pairs in order -/
def ltP2 (x y : Pt) : Prop := x.1 < y.1 ∨ (x.1 = y.1 ∧ x.2 < y.2)
instance (x y : Pt) : Decidable (ltP2 x y) := by unfold ltP2; exact inferInstance
def insP (x : Pt) : List Pt → List Pt
  | [] => [x]
  | y :: r => if ltP2 y x then y :: insP x r else x :: y :: r
def sortP : List Pt → List Pt
  | [] => []
  | x :: r => insP x (sortP r)
theorem insP_perm (x : Pt) : ∀ l, (insP x l).Perm (x :: l)
  | [] => .refl _
  | y :: r => by
    show (if ltP2 y x then y :: insP x r else x :: y :: r).Perm _
    split
    · exact ((insP_perm x r).cons y).trans (List.Perm.swap _ _ _)
    · exact .refl _
theorem sortP_perm : ∀ l, (sortP l).Perm l
  | [] => .refl _
  | x :: r => (insP_perm x (sortP r)).trans ((sortP_perm r).cons x)
abbrev SrtP (l : List Pt) : Prop := l.Pairwise fun x y => ¬ ltP2 y x
theorem insP_srt (x : Pt) : ∀ l, SrtP l → SrtP (insP x l)
  | [], _ => List.pairwise_singleton _ _
  | y :: r, h => by
    obtain ⟨h1, h2⟩ := List.pairwise_cons.mp h
    show SrtP (if ltP2 y x then y :: insP x r else x :: y :: r)
    split
    · rename_i lt
      refine List.pairwise_cons.mpr ⟨fun z hz => ?_, insP_srt x r h2⟩
      rcases List.mem_cons.mp ((insP_perm x r).mem_iff.mp hz) with rfl | hz
      · unfold ltP2 at lt ⊢; omega
      · exact h1 z hz
    · rename_i nlt
      refine List.pairwise_cons.mpr ⟨fun z hz => ?_, h⟩
      rcases List.mem_cons.mp hz with rfl | hz
      · exact nlt
      · have := h1 z hz
        unfold ltP2 at this nlt ⊢; omega
theorem sortP_srt : ∀ l, SrtP (sortP l)
  | [] => .nil
  | x :: r => insP_srt x _ (sortP_srt r)
theorem srt_unique : ∀ {l l' : List Pt}, SrtP l → SrtP l' → l.Perm l' → l = l'
  | [], l', _, _, p => (List.perm_nil.mp p.symm).symm
  | x :: r, [], _, _, p => by have := p.length_eq; simp at this
  | x :: r, y :: r', h, h', p => by
    obtain ⟨h1, h2⟩ := List.pairwise_cons.mp h
    obtain ⟨h1', h2'⟩ := List.pairwise_cons.mp h'
    have e : x = y := by
      have mx : x ∈ y :: r' := p.mem_iff.mp List.mem_cons_self
      have my : y ∈ x :: r := p.mem_iff.mpr List.mem_cons_self
      rcases List.mem_cons.mp mx with e | mx
      · exact e
      · rcases List.mem_cons.mp my with e | my
        · exact e.symm
        · have a := h1' x mx
          have b := h1 y my
          obtain ⟨x1, x2⟩ := x
          obtain ⟨y1, y2⟩ := y
          unfold ltP2 at a b
          simp only [Prod.mk.injEq]
          simp only at a b
          omega
    subst e
    rw [srt_unique h2 h2' ((List.perm_cons x).mp p)]
theorem sortP_of {l l' : List Pt} (h : SrtP l) (p : l.Perm l') : l = sortP l' := srt_unique h (sortP_srt l') (p.trans (sortP_perm l').symm)

/-! ### the law's own helpers -/
def rangeI (b e : Int) : List Int := (List.range (e - b).toNat).map fun (i : Nat) => b + (i : Int)
theorem rangeI_mem {b e c : Int} : c ∈ rangeI b e ↔ b ≤ c ∧ c < e := by
  unfold rangeI
  rw [List.mem_map]
  constructor
  · rintro ⟨i, hi, rfl⟩
    have := List.mem_range.mp hi
    omega
  · rintro ⟨h1, h2⟩
    exact ⟨(c - b).toNat, List.mem_range.mpr (by omega), by omega⟩
theorem rangeI_nodup (b e : Int) : (rangeI b e).Nodup := by
  unfold rangeI
  refine List.pairwise_map.mpr (List.Pairwise.imp (fun {i j} h z => ?_) List.nodup_range)
  exact h (by omega)
def bareCells (spans : List Row3) : List Pt := spans.flatMap fun s => (rangeI s.2.1 s.2.2).map fun c => (s.1, c)
def cellsOfM (spans : List Row3) : List Pt := sortP (bareCells spans)
theorem bareCells_mem {spans : List Row3} {r c : Int} : (r, c) ∈ bareCells spans ↔ ∃ b e, (r, b, e) ∈ spans ∧ b ≤ c ∧ c < e := by
  unfold bareCells
  rw [List.mem_flatMap]
  constructor
  · rintro ⟨⟨r', b, e⟩, hs, h⟩
    obtain ⟨c', hc, h⟩ := List.mem_map.mp h
    injection h with h1 h2
    have h1 : r' = r := h1
    subst h1; subst h2
    exact ⟨b, e, hs, rangeI_mem.mp hc⟩
  · rintro ⟨b, e, hs, h⟩
    exact ⟨(r, b, e), hs, List.mem_map.mpr ⟨c, rangeI_mem.mpr h, rfl⟩⟩
theorem cellsOf_mem {spans : List Row3} {r c : Int} : (r, c) ∈ cellsOfM spans ↔ ∃ b e, (r, b, e) ∈ spans ∧ b ≤ c ∧ c < e := by
  unfold cellsOfM
  rw [(sortP_perm _).mem_iff, bareCells_mem]
abbrev Rise (spans : List Row3) : Prop := spans.Pairwise fun x y => x.1 < y.1
theorem bare_nodup : ∀ {spans : List Row3}, Rise spans → (bareCells spans).Nodup
  | [], _ => .nil
  | s :: r, h => by
    obtain ⟨h1, h2⟩ := List.pairwise_cons.mp h
    show ((rangeI s.2.1 s.2.2).map (fun c => (s.1, c)) ++ bareCells r).Nodup
    refine List.nodup_append.mpr ⟨?_, bare_nodup h2, fun x hx y hy e => ?_⟩
    · refine List.pairwise_map.mpr (List.Pairwise.imp (fun {i j} h z => ?_) (rangeI_nodup s.2.1 s.2.2))
      injection z with _ z
      exact h z
    · obtain ⟨c, _, rfl⟩ := List.mem_map.mp hx
      subst e
      obtain ⟨b, e, hm, _⟩ := bareCells_mem.mp hy
      have := h1 _ hm
      exact absurd this (Int.lt_irrefl _)
def bothM (spans others : List Row3) : List Row3 :=
  spans.flatMap fun s => others.filterMap fun o => if o.1 = s.1 ∧ max s.2.1 o.2.1 < min s.2.2 o.2.2 then some (s.1, max s.2.1 o.2.1, min s.2.2 o.2.2) else none
theorem bothM_mem {spans others : List Row3} {r b e : Int} : (r, b, e) ∈ bothM spans others ↔ ∃ b1 e1 b2 e2, (r, b1, e1) ∈ spans ∧ (r, b2, e2) ∈ others ∧ b = max b1 b2 ∧ e = min e1 e2 ∧ b < e := by
  unfold bothM
  rw [List.mem_flatMap]
  constructor
  · rintro ⟨⟨r1, b1, e1⟩, h1, h⟩
    obtain ⟨⟨r2, b2, e2⟩, h2, h⟩ := List.mem_filterMap.mp h
    split at h
    · rename_i c
      obtain ⟨c1, c2⟩ := c
      have h := Option.some.inj h
      injection h with q1 q2
      injection q2 with q2 q3
      have c1 : r2 = r1 := c1
      have q1 : r1 = r := q1
      subst c1; subst q1
      exact ⟨b1, e1, b2, e2, h1, h2, q2.symm, q3.symm, by rw [← q2, ← q3]; exact c2⟩
    · cases h
  · rintro ⟨b1, e1, b2, e2, h1, h2, rfl, rfl, lt⟩
    exact ⟨_, h1, List.mem_filterMap.mpr ⟨_, h2, by rw [if_pos ⟨rfl, lt⟩]⟩⟩
/-- how a cell is filled: 0 in, 1 dropped in, 2 out -/
def hasC (l : List Pt) (c : Int) : Bool := l.any fun q => decide (q.1 ≤ c) && decide (c < q.2)
theorem hasC_iff {l : List Pt} {c : Int} : hasC l c = true ↔ inCols l c := by
  unfold hasC inCols
  simp
def wordM (B : Int) (pss : List (List Pt)) (col row : Int) : Nat :=
  if hasC (colsM (wholesM B pss) (scaleM B pss) row false false) col = true then 0 else if hasC (colsM (wholesM B pss) (scaleM B pss) row false true) col = true then 1 else 2

/-! ### spans of rows -/
theorem spanM_some {r : Int} {q : Pt} {s : Row3} (h : spanM r q = some s) : s = (r, q.1, q.2) ∧ q.1 ≠ q.2 := by
  unfold spanM at h
  split at h
  · cases h
  · rename_i ne
    exact ⟨(Option.some.inj h).symm, ne⟩
theorem row_one (drops : Bool) (o : Rw) (r : Int) : ((colsO drops o).filterMap (spanM r)).length ≤ 1 := Nat.le_trans (List.length_filterMap_le _ _) (colsO_len drops o)
theorem spansR_rise_aux (first : Int) (o : Int → Rw) (drops : Bool) : ∀ n : Nat, Rise ((List.range n).flatMap fun (i : Nat) => (colsO drops (o (first + (i : Int)))).filterMap (spanM (first + (i : Int)))) ∧
    ∀ s ∈ (List.range n).flatMap fun (i : Nat) => (colsO drops (o (first + (i : Int)))).filterMap (spanM (first + (i : Int))), s.1 < first + n
  | 0 => ⟨.nil, fun _ h => nomatch h⟩
  | n + 1 => by
    obtain ⟨h1, h2⟩ := spansR_rise_aux first o drops n
    rw [List.range_succ, List.flatMap_append]
    have last : ∀ s ∈ [n].flatMap (fun (i : Nat) => (colsO drops (o (first + (i : Int)))).filterMap (spanM (first + (i : Int)))), s.1 = first + n := fun s hs => by
      obtain ⟨i, hi, hs2⟩ := List.mem_flatMap.mp hs
      have e : i = n := by simpa using hi
      rw [e] at hs2
      obtain ⟨q, _, hq⟩ := List.mem_filterMap.mp hs2
      rw [(spanM_some hq).1]
    refine ⟨List.pairwise_append.mpr ⟨h1, ?_, fun x hx y hy => ?_⟩, fun s hs => ?_⟩
    · rw [List.flatMap_cons, List.flatMap_nil, List.append_nil]
      have l1 := row_one drops (o (first + (n : Int))) (first + (n : Int))
      match (colsO drops (o (first + (n : Int)))).filterMap (spanM (first + (n : Int))), l1 with
      | [], _ => exact .nil
      | [x], _ => exact List.pairwise_singleton _ _
    · have a := h2 x hx
      have b := last y hy
      omega
    · rcases List.mem_append.mp hs with hs | hs
      · have := h2 s hs; omega
      · have := last s hs; omega
theorem spansR_rise (first count : Int) (o : Int → Rw) (drops : Bool) : Rise (spansR first count o drops) := (spansR_rise_aux first o drops _).1
theorem spansR_lt {first count : Int} {o : Int → Rw} {drops : Bool} {r b e : Int} (h : (r, b, e) ∈ spansR first count o drops) : b < e := by
  obtain ⟨_, _, h3, h4⟩ := spansR_mem.mp h
  have := colsO_le _ h3
  have this : b ≤ e := this
  omega

/-! ### what the law asks, of a round that is cut in two -/
structure Cut (B : Int) (pre : List Pt) (F : Pt) (mid : List Pt) (S : Pt) (post : List Pt) : Prop where
  base : 0 < B
  uni : ∀ line, cyc ((pre ++ F :: (mid ++ S :: post)).map (abv line)) ≤ 2
  one : ∀ E ∈ F :: (mid ++ [S]), side F S E ≤ 0
  two : ∀ E ∈ S :: (post ++ (pre ++ [F])), 0 ≤ side F S E
section
variable {B : Int} {pre : List Pt} {F : Pt} {mid : List Pt} {S : Pt} {post : List Pt}
/-- the rows of all that the law hands in -/
structure Rows (B : Int) (P A Q : List Pt) (oP oA oQ : Int → Rw) : Prop where
  base : 0 < B
  whole : ∀ row, RowLike (crossM [P] B row) (oP row)
  first : ∀ row, RowLike (crossM [A] B row) (oA row)
  firstR : ∀ row, RowLike (crossM [A.reverse] B row) (oA row)
  second : ∀ row, RowLike (crossM [Q] B row) (oQ row)
  secondR : ∀ row, RowLike (crossM [Q.reverse] B row) (oQ row)
  both : ∀ row, RowLike (crossM [A, Q] B row) (oP row)
  rel : ∀ row, Rel (oP row) (oA row) (oQ row)
  same : ∀ x, x ∈ heights [P] ↔ x ∈ heights [A, Q]
theorem Cut.rows (h : Cut B pre F mid S post) : ∃ oP oA oQ, Rows B (pre ++ F :: (mid ++ S :: post)) (F :: (mid ++ [S])) (S :: (post ++ (pre ++ [F]))) oP oA oQ := by
  have hr := fun row => row_split (row := row) h.base (h.uni (lineOf B row)) h.one h.two
  refine ⟨fun row => (hr row).choose, fun row => (hr row).choose_spec.choose, fun row => (hr row).choose_spec.choose_spec.choose, h.base, ?_, ?_, ?_, ?_, ?_, ?_, ?_, ?_⟩
  · exact fun row => (hr row).choose_spec.choose_spec.choose_spec.1
  · exact fun row => (hr row).choose_spec.choose_spec.choose_spec.2.1
  · exact fun row => (hr row).choose_spec.choose_spec.choose_spec.2.2.1
  · exact fun row => (hr row).choose_spec.choose_spec.choose_spec.2.2.2.1
  · exact fun row => (hr row).choose_spec.choose_spec.choose_spec.2.2.2.2.1
  · exact fun row => (hr row).choose_spec.choose_spec.choose_spec.2.2.2.2.2.1
  · exact fun row => (hr row).choose_spec.choose_spec.choose_spec.2.2.2.2.2.2
  · intro x
    unfold heights
    simp only [List.mem_flatMap, List.mem_map, List.mem_cons, List.mem_append, List.not_mem_nil, or_false]
    constructor
    · rintro ⟨p, rfl, q, hq, rfl⟩
      simp only [List.mem_append, List.mem_cons] at hq
      rcases hq with hq | rfl | hq | rfl | hq
      · exact ⟨_, .inr rfl, q, by simp [hq], rfl⟩
      · exact ⟨_, .inl rfl, q, by simp, rfl⟩
      · exact ⟨_, .inl rfl, q, by simp [hq], rfl⟩
      · exact ⟨_, .inl rfl, q, by simp, rfl⟩
      · exact ⟨_, .inr rfl, q, by simp [hq], rfl⟩
    · rintro ⟨p, rfl | rfl, q, hq, rfl⟩
      · simp only [List.mem_append, List.mem_cons, List.not_mem_nil, or_false] at hq
        refine ⟨_, rfl, q, ?_, rfl⟩
        simp only [List.mem_append, List.mem_cons]
        rcases hq with rfl | hq | rfl <;> simp [*]
      · simp only [List.mem_append, List.mem_cons, List.not_mem_nil, or_false] at hq
        refine ⟨_, rfl, q, ?_, rfl⟩
        simp only [List.mem_append, List.mem_cons]
        rcases hq with rfl | hq | hq | rfl <;> simp [*]
variable {P A Q : List Pt} {oP oA oQ : Int → Rw}
theorem heights_rev (p : List Pt) : ∀ x, x ∈ heights [p.reverse] ↔ x ∈ heights [p] := fun x => by
  unfold heights
  simp
theorem firstM_congr {pss pss' : List (List Pt)} {m : Int} (h : ∀ x, x ∈ heights pss ↔ x ∈ heights pss') : firstM pss m = firstM pss' m := by
  unfold firstM; rw [mnL_congr h]
theorem countM_congr {pss pss' : List (List Pt)} {m : Int} (h : ∀ x, x ∈ heights pss ↔ x ∈ heights pss') : countM pss m = countM pss' m := by
  unfold countM; rw [mxL_congr h, firstM_congr h]
theorem Rows.eP (R : Rows B P A Q oP oA oQ) (odd drops : Bool) : cellsM B [P] odd drops = spansR (firstM [P] B) (countM [P] B) oP drops := cellsM_eq R.base R.whole odd drops
theorem Rows.eA (R : Rows B P A Q oP oA oQ) (odd drops : Bool) : cellsM B [A] odd drops = spansR (firstM [A] B) (countM [A] B) oA drops := cellsM_eq R.base R.first odd drops
theorem Rows.eQ (R : Rows B P A Q oP oA oQ) (odd drops : Bool) : cellsM B [Q] odd drops = spansR (firstM [Q] B) (countM [Q] B) oQ drops := cellsM_eq R.base R.second odd drops
/-- each by both rules the same, either way round -/
theorem Rows.f1 (R : Rows B P A Q oP oA oQ) : (cellsM B [A.reverse] false false = cellsM B [A] false false ∧ cellsM B [A] true false = cellsM B [A] false false) ∧
    (cellsM B [Q.reverse] false false = cellsM B [Q] false false ∧ cellsM B [Q] true false = cellsM B [Q] false false) := by
  refine ⟨⟨?_, ?_⟩, ⟨?_, ?_⟩⟩
  · rw [R.eA, cellsM_eq R.base R.firstR, firstM_congr (heights_rev A), countM_congr (heights_rev A)]
  · rw [R.eA, R.eA]
  · rw [R.eQ, cellsM_eq R.base R.secondR, firstM_congr (heights_rev Q), countM_congr (heights_rev Q)]
  · rw [R.eQ, R.eQ]
theorem Rows.f4 (R : Rows B P A Q oP oA oQ) (odd : Bool) : cellsM B [A, Q] odd false = cellsM B [P] false false := by
  rw [R.eP, cellsM_eq R.base R.both, firstM_congr R.same, countM_congr R.same]
theorem Rows.mP (R : Rows B P A Q oP oA oQ) {odd drops : Bool} {r c : Int} : (∃ b e, (r, b, e) ∈ cellsM B [P] odd drops ∧ b ≤ c ∧ c < e) ↔ inCols (colsO drops (oP r)) c := by
  rw [R.eP]
  constructor
  · rintro ⟨b, e, h, h1, h2⟩
    exact ⟨(b, e), ((cells_mem R.base R.whole).mp h).1, h1, h2⟩
  · rintro ⟨⟨b, e⟩, h, h1, h2⟩
    have h1 : b ≤ c := h1
    have h2 : c < e := h2
    exact ⟨b, e, (cells_mem R.base R.whole).mpr ⟨h, by omega⟩, h1, h2⟩
theorem Rows.mA (R : Rows B P A Q oP oA oQ) {odd drops : Bool} {r c : Int} : (∃ b e, (r, b, e) ∈ cellsM B [A] odd drops ∧ b ≤ c ∧ c < e) ↔ inCols (colsO drops (oA r)) c := by
  rw [R.eA]
  constructor
  · rintro ⟨b, e, h, h1, h2⟩
    exact ⟨(b, e), ((cells_mem R.base R.first).mp h).1, h1, h2⟩
  · rintro ⟨⟨b, e⟩, h, h1, h2⟩
    have h1 : b ≤ c := h1
    have h2 : c < e := h2
    exact ⟨b, e, (cells_mem R.base R.first).mpr ⟨h, by omega⟩, h1, h2⟩
theorem Rows.mQ (R : Rows B P A Q oP oA oQ) {odd drops : Bool} {r c : Int} : (∃ b e, (r, b, e) ∈ cellsM B [Q] odd drops ∧ b ≤ c ∧ c < e) ↔ inCols (colsO drops (oQ r)) c := by
  rw [R.eQ]
  constructor
  · rintro ⟨b, e, h, h1, h2⟩
    exact ⟨(b, e), ((cells_mem R.base R.second).mp h).1, h1, h2⟩
  · rintro ⟨⟨b, e⟩, h, h1, h2⟩
    have h1 : b ≤ c := h1
    have h2 : c < e := h2
    exact ⟨b, e, (cells_mem R.base R.second).mpr ⟨h, by omega⟩, h1, h2⟩
theorem Rows.f2 (R : Rows B P A Q oP oA oQ) : bothM (cellsM B [A] false false) (cellsM B [Q] false false) = [] := by
  refine List.eq_nil_iff_forall_not_mem.mpr fun ⟨r, b, e⟩ h => ?_
  obtain ⟨b1, e1, b2, e2, h1, h2, rfl, rfl, lt⟩ := bothM_mem.mp h
  refine (rel_bare (R.rel r) (max b1 b2)).2 ⟨?_, ?_⟩
  · exact R.mA.mp ⟨b1, e1, h1, by omega, by omega⟩
  · exact R.mQ.mp ⟨b2, e2, h2, by omega, by omega⟩
theorem Rows.f3 (R : Rows B P A Q oP oA oQ) : sortP (cellsOfM (cellsM B [A] false false) ++ cellsOfM (cellsM B [Q] false false)) = cellsOfM (cellsM B [P] false false) := by
  refine srt_unique (sortP_srt _) (sortP_srt _) ?_
  refine (sortP_perm _).trans (((sortP_perm _).append (sortP_perm _)).trans (List.Perm.trans ?_ (sortP_perm _).symm))
  have nP : (bareCells (cellsM B [P] false false)).Nodup := bare_nodup (by rw [R.eP]; exact spansR_rise _ _ _ _)
  have nA : (bareCells (cellsM B [A] false false)).Nodup := bare_nodup (by rw [R.eA]; exact spansR_rise _ _ _ _)
  have nQ : (bareCells (cellsM B [Q] false false)).Nodup := bare_nodup (by rw [R.eQ]; exact spansR_rise _ _ _ _)
  have dis : ∀ x ∈ bareCells (cellsM B [A] false false), ∀ y ∈ bareCells (cellsM B [Q] false false), x ≠ y := fun ⟨r, c⟩ hx y hy e => by
    subst e
    exact (rel_bare (R.rel r) c).2 ⟨R.mA.mp (bareCells_mem.mp hx), R.mQ.mp (bareCells_mem.mp hy)⟩
  refine (List.perm_ext_iff_of_nodup (List.nodup_append.mpr ⟨nA, nQ, dis⟩) nP).mpr fun ⟨r, c⟩ => ?_
  rw [List.mem_append, bareCells_mem, bareCells_mem, bareCells_mem, R.mA, R.mQ, R.mP]
  exact (rel_bare (R.rel r) c).1.symm
theorem Rows.f5 (R : Rows B P A Q oP oA oQ) : ∀ x ∈ cellsOfM (cellsM B [P] false true), x ∈ cellsOfM (cellsM B [A] false true) ++ cellsOfM (cellsM B [Q] false true) := fun ⟨r, c⟩ h => by
  rw [List.mem_append, cellsOf_mem, cellsOf_mem, R.mA, R.mQ]
  exact rel_drop (R.rel r) c (R.mP.mp (cellsOf_mem.mp h))
theorem word_of {pss : List (List Pt)} {o : Int → Rw} (hB : 0 < B) (h : ∀ row, RowLike (crossM pss B row) (o row)) (col row : Int) :
    wordM B pss col row = if hasC (colsO false (o row)) col = true then 0 else if hasC (colsO true (o row)) col = true then 1 else 2 := by
  unfold wordM
  rw [cols_like (wholes_like hB (h row)), cols_like (wholes_like hB (h row))]
theorem Rows.f6 (R : Rows B P A Q oP oA oQ) : ∀ x ∈ cellsOfM (bothM (cellsM B [A] false true) (cellsM B [Q] false true)),
    (wordM B [A] x.2 x.1 = 1 ∨ wordM B [Q] x.2 x.1 = 1) ∧ wordM B [A] x.2 x.1 ≠ 2 ∧ wordM B [Q] x.2 x.1 ≠ 2 := fun ⟨r, c⟩ h => by
  obtain ⟨b, e, h, h1, h2⟩ := cellsOf_mem.mp h
  obtain ⟨b1, e1, b2, e2, ha, hq, rfl, rfl, lt⟩ := bothM_mem.mp h
  have iA : inCols (colsO true (oA r)) c := R.mA.mp ⟨b1, e1, ha, by omega, by omega⟩
  have iQ : inCols (colsO true (oQ r)) c := R.mQ.mp ⟨b2, e2, hq, by omega, by omega⟩
  have no := (rel_bare (R.rel r) c).2
  show (wordM B [A] c r = 1 ∨ wordM B [Q] c r = 1) ∧ wordM B [A] c r ≠ 2 ∧ wordM B [Q] c r ≠ 2
  rw [word_of R.base R.first, word_of R.base R.second, if_pos (hasC_iff.mpr iA), if_pos (hasC_iff.mpr iQ)]
  by_cases a : hasC (colsO false (oA r)) c = true
  · by_cases q : hasC (colsO false (oQ r)) c = true
    · exact (no ⟨hasC_iff.mp a, hasC_iff.mp q⟩).elim
    · rw [if_pos a, if_neg q]; decide
  · by_cases q : hasC (colsO false (oQ r)) c = true
    · rw [if_neg a, if_pos q]; decide
    · rw [if_neg a, if_neg q]; decide
end
end K79

namespace K79

/-! ### rounds that turn to the left everywhere -/
def Tri : List Pt → Prop
  | [] => True
  | a :: r => (r.Pairwise fun b c => 0 ≤ side a b c) ∧ Tri r
instance decTri : (l : List Pt) → Decidable (Tri l)
  | [] => .isTrue trivial
  | a :: r => by
    unfold Tri
    have := decTri r
    exact inferInstance
theorem Tri.sub {l' l : List Pt} (h : l'.Sublist l) : Tri l → Tri l' := by
  induction h with
  | slnil => exact id
  | cons a h ih => exact fun t => ih t.2
  | cons_cons a h ih => exact fun t => ⟨t.1.sublist h, ih t.2⟩
theorem Tri.at {l : List Pt} (t : Tri l) {a b c : Pt} (h : [a, b, c].Sublist l) : 0 ≤ side a b c := by
  have t3 := t.sub h
  exact (List.pairwise_cons.mp t3.1).1 c (by simp)
theorem Tri.map {f : Pt → Pt} (hf : ∀ a b c, 0 ≤ side a b c → 0 ≤ side (f a) (f b) (f c)) : ∀ {l : List Pt}, Tri l → Tri (l.map f)
  | [], _ => trivial
  | a :: r, t => ⟨List.pairwise_map.mpr (t.1.imp fun h => hf _ _ _ h), Tri.map hf t.2⟩
theorem side_cyc (a b c : Pt) : side b c a = side a b c := by unfold side; grind
theorem side_flip (a b c : Pt) : side a c b = -side a b c := by unfold side; grind
theorem side_self1 (a b : Pt) : side a b a = 0 := by unfold side; grind
theorem side_self2 (a b : Pt) : side a b b = 0 := by unfold side; grind
theorem cut_of {B : Int} (hB : 0 < B) {pre : List Pt} {F : Pt} {mid : List Pt} {S : Pt} {post : List Pt} (uni : ∀ line, cyc ((pre ++ F :: (mid ++ S :: post)).map (abv line)) ≤ 2)
    (t : Tri (pre ++ F :: (mid ++ S :: post))) : Cut B pre F mid S post := by
  refine ⟨hB, uni, fun E hE => ?_, fun E hE => ?_⟩
  · simp only [List.mem_cons, List.mem_append, List.not_mem_nil, or_false] at hE
    rcases hE with rfl | hE | rfl
    · rw [side_self1]; exact Int.le_refl _
    · have h := t.at (a := F) (b := E) (c := S) ?_
      · rw [side_flip]; omega
      · refine List.Sublist.trans ?_ (List.sublist_append_right pre _)
        refine List.Sublist.cons_cons F ?_
        exact (List.singleton_sublist.mpr hE).append (List.singleton_sublist.mpr List.mem_cons_self)
    · rw [side_self2]; exact Int.le_refl _
  · simp only [List.mem_cons, List.mem_append, List.not_mem_nil, or_false] at hE
    rcases hE with rfl | hE | hE | rfl
    · rw [side_self2]; exact Int.le_refl _
    · refine t.at ?_
      refine List.Sublist.trans ?_ (List.sublist_append_right pre _)
      refine List.Sublist.cons_cons F ?_
      refine List.Sublist.trans ?_ (List.sublist_append_right mid _)
      exact List.Sublist.cons_cons S (List.singleton_sublist.mpr hE)
    · rw [side_cyc]
      refine t.at ?_
      refine (List.singleton_sublist.mpr hE).append ?_
      refine List.Sublist.cons_cons F ?_
      refine List.Sublist.trans ?_ (List.sublist_append_right mid _)
      exact List.Sublist.cons_cons S (List.nil_sublist _)
    · rw [side_self1]; exact Int.le_refl _
/-- cut by two places' numbers -/
theorem cut_at {L : List Pt} {f s : Nat} (hf : f < s) (hs : s < L.length) : ∃ pre F mid S post, L = pre ++ F :: (mid ++ S :: post) ∧ (L.drop f).take (s + 1 - f) = F :: (mid ++ [S]) ∧ L.drop s ++ L.take (f + 1) = S :: (post ++ (pre ++ [F])) := by
  refine ⟨L.take f, L[f], (L.drop (f + 1)).take (s - f - 1), L[s], L.drop (s + 1), ?_, ?_, ?_⟩
  · have e1 : L.drop f = L[f] :: L.drop (f + 1) := List.drop_eq_getElem_cons (by omega)
    have e2 : L.drop s = L[s] :: L.drop (s + 1) := List.drop_eq_getElem_cons hs
    have e3 : L.drop (f + 1) = (L.drop (f + 1)).take (s - f - 1) ++ L.drop s := by
      have := (List.take_append_drop (s - f - 1) (L.drop (f + 1))).symm
      rw [List.drop_drop, show f + 1 + (s - f - 1) = s by omega] at this
      exact this
    have e0 := (List.take_append_drop f L).symm
    rw [e1, e3, e2] at e0
    exact e0
  · have e1 : L.drop f = L[f] :: L.drop (f + 1) := List.drop_eq_getElem_cons (by omega)
    rw [e1, show s + 1 - f = (s - f) + 1 by omega, List.take_succ_cons]
    congr 1
    have hk : s - f - 1 < (L.drop (f + 1)).length := by rw [List.length_drop]; omega
    rw [show s - f = s - f - 1 + 1 by omega, List.take_succ_eq_append_getElem hk]
    congr 2
    rw [List.getElem_drop]
    congr 1
    omega
  · have e2 : L.drop s = L[s] :: L.drop (s + 1) := List.drop_eq_getElem_cons hs
    rw [e2, List.take_succ_eq_append_getElem (by omega)]
    rfl

/-! ### the rounds that the law builds -/
def W16 : List Pt := [(4, 0), (4, 1), (3, 3), (1, 4), (0, 4), (-1, 4), (-3, 3), (-4, 1), (-4, 0), (-4, -1), (-3, -3), (-1, -4), (0, -4), (1, -4), (3, -3), (4, -1)]
structure Sel (sel : List Pt) : Prop where
  sub : sel.Sublist W16
  head : sel.head? = some (4, 0)
  least : 4 ≤ sel.length
  most : sel.length ≤ 12
def putR (x y far : Int) (w : Pt) : Pt := (x + w.1 * far, y + w.2 * far)
def boxL (x y w m h : Int) : List Pt := [(x, y), (x + w, y), (x + w + m, y), (x + w + m, y + h), (x + w, y + h), (x, y + h)]
inductive Pairs : List Pt → Prop where
  | round {x y far : Int} {sel : List Pt} (hs : Sel sel) (hf : 0 < far) (hf2 : far ≤ 110) (hx : 0 ≤ x ∧ x ≤ 300) (hy : 0 ≤ y ∧ y ≤ 300) : Pairs (sel.map (putR x y far))
  | boxes {x y w m h : Int} (hx : -200 ≤ x ∧ x ≤ 200) (hy : -200 ≤ y ∧ y ≤ 200) (hw : 0 < w ∧ w ≤ 200) (hm : 0 < m ∧ m ≤ 200) (hh : 0 < h ∧ h ≤ 200) : Pairs (boxL x y w m h)
theorem tri16 : Tri W16 := by decide +kernel
theorem cyc16 : ∀ t ∈ [(-5 : Int), -4, -3, -2, -1, 0, 1, 2, 3, 4], chg (W16.map (fun w => decide (t < w.2)) ++ [decide (t < (4, 0).2)]) ≤ 2 := by decide +kernel
theorem w16_bound : ∀ w ∈ W16, -4 ≤ w.1 ∧ w.1 ≤ 4 ∧ -4 ≤ w.2 ∧ w.2 ≤ 4 := by decide +kernel
theorem chg_subC {l' l : List Bool} (h : l'.Sublist l) : chg l' ≤ chg l := by
  cases h with
  | slnil => exact Nat.le_refl _
  | @cons l₁ l₂ a h =>
    cases l' with
    | nil => exact Nat.zero_le _
    | cons b r => exact Nat.le_trans (by show chg (b :: r) ≤ (if a = b then 0 else 1) + chg (b :: r); omega) (chg_sub h a)
  | cons_cons a h => exact chg_sub h a
theorem cyc_head (h : Bool) (t : List Bool) : cyc (h :: t) = chg ((h :: t) ++ [h]) := rfl
theorem uni_sel {sel : List Pt} (hs : Sel sel) (t : Int) : cyc (sel.map fun w => decide (t < w.2)) ≤ 2 := by
  obtain ⟨r, rfl⟩ : ∃ r, sel = (4, 0) :: r := by
    have := hs.head
    cases sel with
    | nil => cases this
    | cons a r => exact ⟨r, by rw [Option.some.inj this]⟩
  have hl : ∀ u : Int, -5 ≤ u → u ≤ 4 → cyc (((4, 0) :: r).map fun w => decide (u < w.2)) ≤ 2 := fun u h1 h2 => by
    have hu : u ∈ [(-5 : Int), -4, -3, -2, -1, 0, 1, 2, 3, 4] := by
      simp only [List.mem_cons, List.not_mem_nil, or_false]
      omega
    refine Nat.le_trans ?_ (cyc16 u hu)
    rw [List.map_cons, cyc_head, ← List.map_cons (f := fun w : Pt => decide (u < w.2))]
    exact chg_subC ((hs.sub.map _).append (List.Sublist.refl _))
  by_cases h1 : t < -5
  · have e : ((4, 0) :: r).map (fun w : Pt => decide (t < w.2)) = ((4, 0) :: r).map fun w => decide (-5 < w.2) := List.map_congr_left fun w hw => by
      have := w16_bound w (hs.sub.subset hw)
      rw [decide_eq_decide]
      omega
    rw [e]
    exact hl (-5) (by omega) (by omega)
  · by_cases h2 : 4 < t
    · have e : ((4, 0) :: r).map (fun w : Pt => decide (t < w.2)) = ((4, 0) :: r).map fun w => decide (4 < w.2) := List.map_congr_left fun w hw => by
        have := w16_bound w (hs.sub.subset hw)
        rw [decide_eq_decide]
        omega
      rw [e]
      exact hl 4 (by omega) (by omega)
    · exact hl t (by omega) (by omega)
theorem Pairs.uni {L : List Pt} (h : Pairs L) (line : Int) : cyc (L.map (abv line)) ≤ 2 := by
  cases h with
  | @round x y far sel hs hf _ _ _ =>
    rw [List.map_map]
    have e : sel.map (abv line ∘ putR x y far) = sel.map fun w => decide ((line - y) / far < w.2) := List.map_congr_left fun w _ => by
      show decide (line < y + w.2 * far) = _
      rw [decide_eq_decide, Int.ediv_lt_iff_lt_mul hf]
      omega
    rw [e]
    exact uni_sel hs _
  | @boxes x y w m h =>
    show cyc [decide (line < y), decide (line < y), decide (line < y), decide (line < y + h), decide (line < y + h), decide (line < y + h)] ≤ 2
    cases decide (line < y) <;> cases decide (line < y + h) <;> decide
theorem Pairs.tri {L : List Pt} (h : Pairs L) : Tri L := by
  cases h with
  | @round x y far sel hs hf _ _ _ =>
    refine Tri.map (fun a b c h => ?_) (tri16.sub hs.sub)
    have e : side (putR x y far a) (putR x y far b) (putR x y far c) = far * far * side a b c := by unfold side putR; grind
    rw [e]
    exact Int.mul_nonneg (Int.mul_nonneg (Int.le_of_lt hf) (Int.le_of_lt hf)) h
  | @boxes x y w m h hx hy hw hm hh =>
    have a1 := Int.mul_pos hw.1 hh.1
    have a2 := Int.mul_pos hm.1 hh.1
    have e : (w + m) * h = w * h + m * h := Int.add_mul _ _ _
    have g1 : ∀ a b : Int, a + b - a = b := by omega
    unfold boxL
    simp [Tri, side]
    grind
theorem Pairs.bound {L : List Pt} (h : Pairs L) : ∀ p ∈ L, -1000 ≤ p.1 ∧ p.1 ≤ 1000 ∧ -1000 ≤ p.2 ∧ p.2 ≤ 1000 := by
  intro p hp
  cases h with
  | @round x y far sel hs hf hf2 hx hy =>
    obtain ⟨w, hw, rfl⟩ := List.mem_map.mp hp
    have b := w16_bound w (hs.sub.subset hw)
    have k : ∀ a : Int, -4 ≤ a → a ≤ 4 → -440 ≤ a * far ∧ a * far ≤ 440 := fun a h1 h2 => by
      have u := Int.mul_le_mul_of_nonneg_right h2 (Int.le_of_lt hf)
      have l := Int.mul_le_mul_of_nonneg_right h1 (Int.le_of_lt hf)
      omega
    have k1 := k w.1 b.1 b.2.1
    have k2 := k w.2 b.2.2.1 b.2.2.2
    unfold putR
    exact ⟨by show -1000 ≤ x + w.1 * far; omega, by show x + w.1 * far ≤ 1000; omega, by show -1000 ≤ y + w.2 * far; omega, by show y + w.2 * far ≤ 1000; omega⟩
  | @boxes x y w m h hx hy hw hm hh =>
    unfold boxL at hp
    simp only [List.mem_cons, List.not_mem_nil, or_false] at hp
    rcases hp with rfl | rfl | rfl | rfl | rfl | rfl <;> (refine ⟨?_, ?_, ?_, ?_⟩ <;> dsimp only <;> omega)
theorem Pairs.len {L : List Pt} (h : Pairs L) : 4 ≤ L.length ∧ L.length ≤ 12 := by
  cases h with
  | @round x y far sel hs hf hf2 hx hy => rw [List.length_map]; exact ⟨hs.least, hs.most⟩
  | boxes => exact ⟨by show 4 ≤ 6; decide, by show 6 ≤ 12; decide⟩
theorem Pairs.rows {L : List Pt} (h : Pairs L) {B : Int} (hB : 0 < B) {f s : Nat} (hf : f < s) (hs : s < L.length) :
    ∃ oP oA oQ, Rows B L ((L.drop f).take (s + 1 - f)) (L.drop s ++ L.take (f + 1)) oP oA oQ := by
  obtain ⟨pre, F, mid, S, post, e1, e2, e3⟩ := cut_at hf hs
  have u := h.uni
  have t := h.tri
  rw [e2, e3]
  rw [e1] at u t
  have c := (cut_of hB u t).rows
  rw [← e1] at c
  exact c
end K79

/-! #### part K79B -/
namespace K79
open PySem PySem.Spec PyProof.Rows L2
/-! ### the text -/
def topS (i : Nat) : Stmt := PySem.Challenge.pw_hintedpoints_k79_whole_side_by_side.main.body.getD i (.Pass ⟨0, 0, 0, 0⟩)
/-! ### what is known of the module: built-ins that stay, constants, defs by their promises -/
structure Blt (mg : Str → Option Value) : Prop where
  abs_ : mg "abs" = none
  len_ : mg "len" = none
  isinstance_ : mg "isinstance" = none
  max_ : mg "max" = none
  min_ : mg "min" = none
  range_ : mg "range" = none
  sorted_ : mg "sorted" = none
  enumerate_ : mg "enumerate" = none
  zip_ : mg "zip" = none
  all_ : mg "all" = none
  int_ : mg "int" = none
  bool_ : mg "bool" = none
  list_ : mg "list" = none
  str_ : mg "str" = none
  tuple_ : mg "tuple" = none
/-- a def called by its name keeps its promise -/
structure Cal (P : Program) (w : World) (K : PySem.W.Frag) (mg : Str → Option Value) (base : Heap) (k : Nat) (x : Str) (ps : List Str) (sp : Sp) : Prop where
  ex : ∃ (f : Addr) (fd : FuncData), FnOk P w K mg base CX0 k f fd ps sp ∧ mg x = some (.ref f) ∧ PySem.W.keepIn K (.ref f) = true ∧ Binds K fd ps []
section
variable {X : Cx} {k : Nat} {ps : List Str} {sp : Sp} {x : Str} {p pos : Pos} {e : Expr} {es : List Expr} {t : TA}
theorem pe_cal (C : Cal X.prog X.w X.K X.mg X.base k x ps sp) (hr : Room k X.A) (hg : Gl X x) (ha : PA X (e :: es) t) (hdb : (x == ("__debug__" : Str)) = false := by decide)
    (he : starEach (e :: es) X.env = (false, eval e X.env) :: starEach es X.env := by rfl) (hpl : (backTo pos (starEach es X.env)).any (·.1) = false := by rfl) : PE X (.Call (.Name x p) (e :: es) [] pos) (tCall sp [] E0 t) := by
  obtain ⟨f, fd, F, hm, hk, hb⟩ := C.ex
  exact pe_call F hr hg hm hk hb .nil pass0 ha hdb he hpl
end
theorem Cal.mk' {P : Program} {w : World} {K : PySem.W.Frag} {mg : Str → Option Value} {base : Heap} {k : Nat} {x : Str} {ps : List Str} {sp : Sp} {f : Addr} {fd : FuncData}
    (F : FnOk P w K mg base CX0 k f fd ps sp) (hm : mg x = some (.ref f)) (hk : PySem.W.keepIn K (.ref f) = true) (hb : Binds K fd ps []) : Cal P w K mg base k x ps sp := ⟨f, fd, F, hm, hk, hb⟩

/-! ### heaps that grow -/
theorem same_upd {H : Hp} {p : Addr} {o : HO} (h : H p = none) : Same H (upd H p o) := fun b x e => by
  rw [upd_ne (ne_of_none e h)]
  exact e
/-- an object that H does not know may change -/
theorem same_mut {H H' : Hp} {p : Addr} {o : HO} (e : Same H H') (h : H p = none) : Same H (upd H' p o) := fun a u ha => by
  rw [upd_ne (ne_of_none ha h)]
  exact e a u ha

/-! ### data -/
theorem Paired.get {α β : Type} {R : α → β → Prop} : ∀ {xs : List α} {ys : List β} {i : Nat} {x : α}, Paired R xs ys → xs[i]? = some x → ∃ y, ys[i]? = some y ∧ R x y
  | _, _, _, _, .nil, e => by simp at e
  | _, _, 0, _, .cons r _, e => by simp at e; subst e; exact ⟨_, rfl, r⟩
  | _, _, i + 1, x, .cons _ t, e => by
    obtain ⟨u, h1, h2⟩ := Paired.get (i := i) (x := x) t (by simpa using e)
    exact ⟨u, by simpa using h1, h2⟩
theorem Paired.snoc {α β : Type} {R : α → β → Prop} : ∀ {xs : List α} {ys : List β} {x : α} {y : β}, Paired R xs ys → R x y → Paired R (xs ++ [x]) (ys ++ [y])
  | _, _, _, _, .nil, r => .cons r .nil
  | _, _, _, _, .cons q t, r => .cons q (Paired.snoc t r)
theorem Paired.app {α β : Type} {R : α → β → Prop} : ∀ {xs xs' : List α} {ys ys' : List β}, Paired R xs ys → Paired R xs' ys' → Paired R (xs ++ xs') (ys ++ ys')
  | _, _, _, _, .nil, r => r
  | _, _, _, _, .cons q t, r => .cons q (Paired.app t r)
theorem Paired.mem {α β : Type} {R : α → β → Prop} : ∀ {xs : List α} {ys : List β} {x : α}, Paired R xs ys → x ∈ xs → ∃ y, y ∈ ys ∧ R x y
  | _, _, _, .nil, e => nomatch e
  | _, _, x, .cons r t, e => by
    rcases List.mem_cons.mp e with rfl | e
    · exact ⟨_, List.mem_cons_self, r⟩
    · obtain ⟨y, h1, h2⟩ := Paired.mem t e
      exact ⟨y, List.mem_cons_of_mem _ h1, h2⟩
def Num (H : Hp) (v : V) (q : Int × Int) : Prop := (q.2 = 1 ∧ v = .int q.1) ∨ (1 < q.2 ∧ Int.gcd q.1 q.2 = 1 ∧ ∃ a, v = .ref a ∧ H a = some (.tup [.int q.1, .int q.2]))
def T2 (H : Hp) (v : V) (q : Int × Int) : Prop := ∃ a, v = .ref a ∧ H a = some (.tup [.int q.1, .int q.2])
def T3 (H : Hp) (v : V) (q : Int × Int × Int) : Prop := ∃ a, v = .ref a ∧ H a = some (.tup [.int q.1, .int q.2.1, .int q.2.2])
def T4 (H : Hp) (v : V) (q : Int × Int × Int × Int) : Prop := ∃ a, v = .ref a ∧ H a = some (.tup [.int q.1, .int q.2.1, .int q.2.2.1, .int q.2.2.2])
def Lst {α : Type} (R : Hp → V → α → Prop) (H : Hp) (v : V) (ds : List α) : Prop := ∃ a vs, v = .ref a ∧ H a = some (.lst vs) ∧ Paired (R H) vs ds
/-- a place over the base B -/
def Pl (B : Int) (H : Hp) (v : V) (q : Pt) : Prop := ∃ a u w, v = .ref a ∧ H a = some (.tup [u, w]) ∧ Num H u (numT B q.1, numB B q.1) ∧ Num H w (numT B q.2, numB B q.2)
def Mono {α : Type} (R : Hp → V → α → Prop) : Prop := ∀ (H H' : Hp) (v : V) (d : α), Same H H' → R H v d → R H' v d
theorem mono_num : Mono Num := fun _ _ _ _ s h => by
  rcases h with h | ⟨h1, h2, a, e, ha⟩
  · exact .inl h
  · exact .inr ⟨h1, h2, a, e, s _ _ ha⟩
theorem mono_t2 : Mono T2 := fun _ _ _ _ s ⟨a, e, h⟩ => ⟨a, e, s _ _ h⟩
theorem mono_t3 : Mono T3 := fun _ _ _ _ s ⟨a, e, h⟩ => ⟨a, e, s _ _ h⟩
theorem mono_t4 : Mono T4 := fun _ _ _ _ s ⟨a, e, h⟩ => ⟨a, e, s _ _ h⟩
theorem mono_pl (B : Int) : Mono (Pl B) := fun _ _ _ _ s ⟨a, u, w, e, h, h1, h2⟩ => ⟨a, u, w, e, s _ _ h, mono_num _ _ _ _ s h1, mono_num _ _ _ _ s h2⟩
theorem Paired.imp {α β : Type} {R R' : α → β → Prop} : ∀ {xs : List α} {ys : List β}, (∀ x y, R x y → R' x y) → Paired R xs ys → Paired R' xs ys
  | _, _, _, .nil => .nil
  | _, _, f, .cons r t => .cons (f _ _ r) (Paired.imp f t)
theorem mono_all {α : Type} {R : Hp → V → α → Prop} (m : Mono R) {H H' : Hp} (s : Same H H') {vs : List V} {ds : List α} (h : Paired (R H) vs ds) : Paired (R H') vs ds := Paired.imp (fun _ _ r => m _ _ _ _ s r) h
theorem mono_lst {α : Type} {R : Hp → V → α → Prop} (m : Mono R) : Mono (Lst R) := fun _ _ _ _ s ⟨a, vs, e, h, p⟩ => ⟨a, vs, e, s _ _ h, mono_all m s p⟩
end K79

/-! #### part K79W1 -/
namespace K79
open PySem PySem.Spec PyProof.Rows L2
/-! ### sizes -/
def Sm (i : Int) : Prop := i.natAbs < 2 ^ 2000
theorem sm_mulW {i j : Int} (hi : Sm i) (hj : Sm j) : CMulW i j := wide_mul hi hj (by decide) (by decide) (by decide)
theorem sm_divW {i j : Int} (h : 0 < j) (hj : Sm j) : CDivW i j := wide_div h hj (by decide) (by decide)
theorem big100 : (10 : Nat) ^ 100 < 2 ^ 2000 := by decide +kernel
theorem sm_of {i : Int} (h : -(10 ^ 100) ≤ i ∧ i ≤ 10 ^ 100) : Sm i := by
  have b := big100
  have h3 : i.natAbs ≤ 10 ^ 100 := by
    have e : ((10 ^ 100 : Nat) : Int) = 10 ^ 100 := by rfl
    omega
  exact Nat.lt_of_le_of_lt h3 b
theorem eqI {i j : Int} : decide (V.int i = V.int j) = decide (i = j) := by
  rw [decide_eq_decide]
  exact ⟨V.int.inj, fun h => by rw [h]⟩
theorem neI {i j : Int} : (!decide (V.int i = V.int j)) = true ↔ i ≠ j := by rw [eqI]; simp
theorem eqI' {i j : Int} : (decide (V.int i = V.int j)) = true ↔ i = j := by rw [eqI]; simp
section
variable {P : Program} {w : World} {K : PySem.W.Frag} {mg : Str → Option Value} {base : Heap}
/-! ### is_plain -/
abbrev s_is_plain : Stmt := topS 9
abbrev n_is_plain : List Str := ["thing"]
theorem sc_is_plain : FnScope n_is_plain ["thing"] (defScope s_is_plain) := ⟨rfl, rfl, rfl, by decide +kernel, rfl, by decide +kernel, by decide +kernel⟩
def sp_is_plain : Sp := fun vs H Q _ => (∃ i, vs = [.int i] ∧ Q (.bl true) H) ∨ (∃ a xs, vs = [.ref a] ∧ H a = some (.tup xs) ∧ Q (.bl false) H)
theorem ok_is_plain (B : Blt mg) {f : Addr} {fd : FuncData} (F : Fun K "is_plain" "is_plain" s_is_plain f fd) : FnOk P w K mg base CX0 1 f fd ["thing"] sp_is_plain := by
  refine F.ok sc_is_plain (fun vs H Q E h => ?_) (fun cdv A outer s H vs Q E hr h => ?_)
  · rcases h with ⟨i, rfl, _⟩ | ⟨a, xs, rfl, _⟩ <;> rfl
  · refine ⟨_, (pss_one (ps_ret (pe_and (pe_callB call_isi (by rfl) B.isinstance_ (by decide +kernel) (pa_cons (pv 0) (pa_cons (pe_bltn (v := .ty "int") (by rfl) B.int_ (by decide +kernel) rfl) pa_nil))) (pe_one (pe_not (pe_callB call_isi (by rfl) B.isinstance_ (by decide +kernel) (pa_cons (pv 0) (pa_cons (pe_bltn (v := .ty "bool") (by rfl) B.bool_ (by decide +kernel) rfl) pa_nil)))))))), ?_⟩
    rcases h with ⟨i, rfl, q⟩ | ⟨a, xs, rfl, ha, q⟩
    · refine ⟨_, rfl, ⟨.int i, .ty "int", _, _, true, rfl, .ty _, .base (.int i), kit_ty (by decide +kernel), ?_⟩⟩
      refine ⟨true, rfl, iteT ?_⟩
      refine ⟨_, rfl, ⟨.int i, .ty "bool", _, _, false, rfl, .ty _, .base (.int i), kit_ty (by decide +kernel), ?_⟩⟩
      exact ⟨false, rfl, q⟩
    · refine ⟨_, rfl, ⟨.ref a, .ty "int", _, _, false, rfl, .ty _, .base (.tup ha), kit_ty (by decide +kernel), ?_⟩⟩
      exact ⟨false, rfl, iteF q⟩
/-! ### common_part -/
abbrev s_common_part : Stmt := topS 10
abbrev n_common_part : List Str := ["one", "other"]
theorem sc_common_part : FnScope n_common_part ["one", "other"] (defScope s_common_part) := ⟨rfl, rfl, rfl, by decide +kernel, rfl, by decide +kernel, by decide +kernel⟩
def sp_common_part : Sp := fun vs H Q _ => ∃ i j : Int, vs = [.int i, .int j] ∧ Q (.int (Int.gcd i j)) H
theorem abs_nat (i : Int) : (if i < 0 then -i else i) = (i.natAbs : Int) := by omega
theorem ok_common_part (B : Blt mg) {f : Addr} {fd : FuncData} (F : Fun K "common_part" "common_part" s_common_part f fd) : FnOk P w K mg base CX0 1 f fd ["one", "other"] sp_common_part := by
  refine F.ok sc_common_part (fun vs H Q E h => ?_) (fun cdv A outer s H vs Q E hr h => ?_)
  · obtain ⟨i, j, rfl, _⟩ := h; rfl
  · refine ⟨_, (pss_cons (ps_par (i := 0) (j := 1) rfl sc_common_part.nd rfl rfl (by decide) rfl rfl (pa_cons (pe_callB call_abs (by rfl) B.abs_ (by decide +kernel) (pa_cons (pv 0) pa_nil)) (pa_cons (pe_callB call_abs (by rfl) B.abs_ (by decide +kernel) (pa_cons (pv 1) pa_nil)) pa_nil)) (by rfl))
 (pss_cons (ps_while PassesOwn.never (pt_cmpR op_ne (pv 1) pe_int (nomark _))
 (pss_one (ps_par (i := 0) (j := 1) rfl sc_common_part.nd rfl rfl (by decide) rfl rfl (pa_cons (pv 1) (pa_cons (pe_op op_modN (pv 0) (pv 1)) pa_nil)) (by rfl))))
 (pss_one (ps_ret (pv 0))))), ?_⟩
    obtain ⟨i, j, rfl, q⟩ := h
    refine ⟨_, rfl, i, rfl, _, rfl, j, rfl, _, _, rfl, ?_⟩
    rw [abs_nat, abs_nat]
    refine ⟨fun m σ H' => ∃ a b : Nat, σ = [some (.int a), some (.int b)] ∧ m = b ∧ Nat.gcd a b = Int.gcd i j ∧ H' = H, ⟨_, i.natAbs, j.natAbs, rfl, rfl, rfl, rfl⟩, ?_⟩
    rintro m σ H' ⟨a, b, rfl, hm, g, rfl⟩
    subst hm
    refine ⟨_, rfl, rfl, _, rfl, ite2 (fun e => ?_) (fun e => ?_)⟩
    · have hb := neI.mp e
      refine ⟨fun σ' H'' => ∃ a' b' : Nat, σ' = [some (.int a'), some (.int b')] ∧ b' < m ∧ Nat.gcd a' b' = Int.gcd i j ∧ H'' = H', ?_, ?_⟩
      · rintro σ' H'' ⟨a', b', e, lt, g', e'⟩
        exact ⟨b', lt, a', b', e, rfl, g', e'⟩
      · refine ⟨_, rfl, _, rfl, _, rfl, _, _, rfl, rfl, by omega, ?_⟩
        refine ⟨_, _, rfl, m, a % m, ?_, Nat.mod_lt _ (by omega), ?_, rfl⟩
        · have e : (a : Int).fmod (m : Int) = ((a % m : Nat) : Int) := by
            rw [Int.fmod_eq_emod_of_nonneg _ (by omega)]
            rfl
          show [some (V.int m), some (V.int ((a : Int).fmod m))] = _
          rw [e]
        · rw [← g, Nat.gcd_comm m, ← Nat.gcd_rec, Nat.gcd_comm]
    · have hb : m = 0 := by
        exact Classical.byContradiction fun z => e (neI.mpr (by omega))
      subst hb
      refine ⟨_, rfl, ?_⟩
      rw [Nat.gcd_zero_right] at g
      rw [g]
      exact q
end
end K79

/-! #### part K79W2 -/
namespace K79
open PySem PySem.Spec PyProof.Rows L2
section
variable {P : Program} {w : World} {K : PySem.W.Frag} {mg : Str → Option Value} {base : Heap}
/-! ### is_part -/
abbrev s_is_part : Stmt := topS 11
abbrev n_is_part : List Str := ["thing", "top", "base"]
theorem sc_is_part : FnScope n_is_part ["thing"] (defScope s_is_part) := ⟨rfl, rfl, rfl, by decide +kernel, rfl, by decide +kernel, by decide +kernel⟩
/-- asked of parts alone -/
def sp_is_part : Sp := fun vs H Q _ => ∃ a t b, vs = [.ref a] ∧ H a = some (.tup [.int t, .int b]) ∧ 1 < b ∧ Int.gcd t b = 1 ∧ Q (.bl true) H
theorem ok_is_part (B : Blt mg) {f : Addr} {fd : FuncData} (F : Fun K "is_part" "is_part" s_is_part f fd)
    (c_is_plain : Cal P w K mg base 1 "is_plain" ["thing"] sp_is_plain) (c_common_part : Cal P w K mg base 1 "common_part" ["one", "other"] sp_common_part) : FnOk P w K mg base CX0 2 f fd ["thing"] sp_is_part := by
  refine F.ok sc_is_part (fun vs H Q E h => ?_) (fun cdv A outer s H vs Q E hr h => ?_)
  · obtain ⟨a, t, b, rfl, _⟩ := h; rfl
  · refine ⟨_, (pss_cons (ps_if (PW.pt (pw_or (pt_not (pt_val (pe_callB call_isi (by rfl) B.isinstance_ (by decide +kernel) (pa_cons (pv 0) (pa_cons (pe_bltn (v := .ty "tuple") (by rfl) B.tuple_ (by decide +kernel) rfl) pa_nil))))) (pw_or1 (pt_cmpR op_ne (pe_callB call_len_seq (by rfl) B.len_ (by decide +kernel) (pa_cons (pv 0) pa_nil)) pe_int (nomark _)))))
 (pss_one (ps_ret pe_bl))
 pss_nil)
 (pss_cons (ps_asg (pv 0) (pg_tup (by rfl) (pgs_cons (pg_name (i := 1) sc_is_part.nd rfl (.inl rfl)) (pgs_cons (pg_name (i := 2) sc_is_part.nd rfl (.inl rfl)) pgs_nil))))
 (pss_one (ps_ret (pe_and (pe_cal c_is_plain (hr.mono (by decide)) (by rfl) (pa_cons (pv 1) pa_nil)) (pe_and (pe_cal c_is_plain (hr.mono (by decide)) (by rfl) (pa_cons (pv 2) pa_nil)) (pe_and (pe_cmpR op_gt (pv 2) pe_int (nomark _)) (pe_one (pe_cmpR op_eq (pe_cal c_common_part (hr.mono (by decide)) (by rfl) (pa_cons (pv 1) (pa_cons (pv 2) pa_nil))) pe_int (nomark _)))))))))), ?_⟩
    obtain ⟨a, t, b, rfl, ha, hb, hg, q⟩ := h
    refine ⟨_, rfl, ⟨.ref a, .ty "tuple", _, _, true, rfl, .ty _, .base (.tup ha), kit_ty (by decide +kernel), ?_⟩⟩
    refine ⟨true, rfl, iteF ?_⟩
    refine ⟨_, rfl, a, _, rfl, .inr (.of ha), rfl, _, rfl, iteF ?_⟩
    refine ⟨_, rfl, a, _, rfl, .of ha, rfl, _, _, rfl, _, _, rfl, rfl, ?_⟩
    refine ⟨_, rfl, .inl ⟨t, rfl, true, rfl, iteT ?_⟩⟩
    refine ⟨_, rfl, .inl ⟨b, rfl, true, rfl, iteT ?_⟩⟩
    refine ⟨_, rfl, _, _, rfl, rfl, _, rfl, ?_⟩
    rw [decide_eq_true (show (1 : Int) < b from hb)]
    refine iteT ?_
    refine ⟨_, rfl, _, rfl, t, b, rfl, rfl, ?_⟩
    rw [hg]
    exact q
/-! ### is_number -/
abbrev s_is_number : Stmt := topS 12
abbrev n_is_number : List Str := ["thing"]
theorem sc_is_number : FnScope n_is_number ["thing"] (defScope s_is_number) := ⟨rfl, rfl, rfl, by decide +kernel, rfl, by decide +kernel, by decide +kernel⟩
def sp_is_number : Sp := fun vs H Q _ => ∃ v q, vs = [v] ∧ Num H v q ∧ Q (.bl true) H
theorem ok_is_number (B : Blt mg) {f : Addr} {fd : FuncData} (F : Fun K "is_number" "is_number" s_is_number f fd)
    (c_is_plain : Cal P w K mg base 1 "is_plain" ["thing"] sp_is_plain) (c_is_part : Cal P w K mg base 2 "is_part" ["thing"] sp_is_part) : FnOk P w K mg base CX0 3 f fd ["thing"] sp_is_number := by
  refine F.ok sc_is_number (fun vs H Q E h => ?_) (fun cdv A outer s H vs Q E hr h => ?_)
  · obtain ⟨v, q, rfl, _⟩ := h; rfl
  · refine ⟨_, (pss_one (ps_ret (pe_or (pe_cal c_is_plain (hr.mono (by decide)) (by rfl) (pa_cons (pv 0) pa_nil)) (pe_one (pe_cal c_is_part (hr.mono (by decide)) (by rfl) (pa_cons (pv 0) pa_nil)))))), ?_⟩
    obtain ⟨v, ⟨t, b⟩, rfl, h, q⟩ := h
    rcases h with ⟨_, rfl⟩ | ⟨hb, hg, a, rfl, ha⟩
    · exact ⟨_, rfl, .inl ⟨t, rfl, true, rfl, iteT q⟩⟩
    · exact ⟨_, rfl, .inr ⟨a, _, rfl, ha, false, rfl, iteF ⟨_, rfl, a, t, b, rfl, ha, hb, hg, q⟩⟩⟩
/-! ### reckoned, fraction: some number -/
abbrev s_reckoned : Stmt := topS 13
abbrev n_reckoned : List Str := ["top", "base", "part"]
theorem sc_reckoned : FnScope n_reckoned ["top", "base"] (defScope s_reckoned) := ⟨rfl, rfl, rfl, by decide +kernel, rfl, by decide +kernel, by decide +kernel⟩
def sp_reckoned : Sp := fun vs H Q _ => ∃ t b : Int, vs = [.int t, .int b] ∧ 0 < b ∧ Sm b ∧ ∀ v H', Same H H' → Q v H'
theorem gcd_le {t b : Int} (hb : 0 < b) : 0 < (Int.gcd t b : Int) ∧ (Int.gcd t b : Int) ≤ b := ⟨gcd_pos' hb, Int.le_of_dvd hb (Int.gcd_dvd_right t b)⟩
theorem sm_le {a b : Int} (h0 : 0 ≤ a) (h : a ≤ b) (s : Sm b) : Sm a := Nat.lt_of_le_of_lt (by omega) s
theorem ok_reckoned (B : Blt mg) {f : Addr} {fd : FuncData} (F : Fun K "reckoned" "reckoned" s_reckoned f fd)
    (c_common_part : Cal P w K mg base 1 "common_part" ["one", "other"] sp_common_part) : FnOk P w K mg base CX0 2 f fd ["top", "base"] sp_reckoned := by
  refine F.ok sc_reckoned (fun vs H Q E h => ?_) (fun cdv A outer s H vs Q E hr h => ?_)
  · obtain ⟨v, q, rfl, _⟩ := h; rfl
  · refine ⟨_, (pss_cons (ps_set (i := 2) sc_reckoned.nd rfl (.inl rfl) (pe_cal c_common_part (hr.mono (by decide)) (by rfl) (pa_cons (pv 0) (pa_cons (pv 1) pa_nil))))
 (pss_cons (ps_if (pt_cmpR op_lt (pv 1) pe_int (nomark _))
 (pss_one (ps_set (i := 2) sc_reckoned.nd rfl (.inl rfl) (pe_op op_sub pe_int (pv 2))))
 pss_nil)
 (pss_cons (ps_par (i := 0) (j := 1) rfl sc_reckoned.nd rfl rfl (by decide) rfl rfl (pa_cons (pe_op op_fdivW (pv 0) (pv 2)) (pa_cons (pe_op op_fdivW (pv 1) (pv 2)) pa_nil)) (by rfl))
 (pss_one (ps_ret (pe_ifExp (pt_cmpR op_eq (pv 1) pe_int (nomark _)) (pv 0) (pe_tup (pa_cons (pv 0) (pa_cons (pv 1) pa_nil))))))))), ?_⟩
    obtain ⟨t, b, rfl, hb, sb, q⟩ := h
    obtain ⟨g0, g1⟩ := gcd_le (t := t) hb
    refine ⟨_, rfl, _, rfl, t, b, rfl, ?_⟩
    refine ⟨_, rfl, _, _, rfl, rfl, _, rfl, ite2 (fun e => ?_) (fun e => ?_)⟩
    · have := of_decide_eq_true e
      omega
    · have sg := sm_le (Int.le_of_lt g0) g1 sb
      refine ⟨_, rfl, _, rfl, _, _, rfl, rfl, sm_divW g0 sg, _, rfl, _, rfl, _, _, rfl, rfl, sm_divW g0 sg, _, _, rfl, ?_⟩
      refine ⟨_, rfl, rfl, _, rfl, ite2 (fun e => ?_) (fun e => ?_)⟩
      · exact ⟨_, rfl, q _ _ (Same.refl H)⟩
      · refine ⟨_, rfl, _, rfl, by show 2 ≤ sizeLine; decide, fun p hp => ?_⟩
        exact q _ _ (same_upd hp)
abbrev s_fraction : Stmt := topS 14
abbrev n_fraction : List Str := ["top", "base", "thing"]
theorem sc_fraction : FnScope n_fraction ["top", "base"] (defScope s_fraction) := ⟨rfl, rfl, rfl, by decide +kernel, rfl, by decide +kernel, by decide +kernel⟩
theorem ok_fraction (B : Blt mg) {f : Addr} {fd : FuncData} (F : Fun K "fraction" "fraction" s_fraction f fd)
    (c_is_plain : Cal P w K mg base 1 "is_plain" ["thing"] sp_is_plain) (c_reckoned : Cal P w K mg base 2 "reckoned" ["top", "base"] sp_reckoned) : FnOk P w K mg base CX0 3 f fd ["top", "base"] sp_reckoned := by
  refine F.ok sc_fraction (fun vs H Q E h => ?_) (fun cdv A outer s H vs Q E hr h => ?_)
  · obtain ⟨v, q, rfl, _⟩ := h; rfl
  · refine ⟨_, (pss_cons (ps_for PassesOwn.never rfl (pi_tup (pe_tup (pa_cons (pv 0) (pa_cons (pv 1) pa_nil)))) (pg_name (i := 2) sc_fraction.nd rfl (.inl rfl))
 (pss_one (ps_if (pt_not (pt_val (pe_cal c_is_plain (hr.mono (by decide)) (by rfl) (pa_cons (pv 2) pa_nil))))
 (pss_one ps_never)
 pss_nil)))
 (pss_cons (ps_if (pt_cmpR op_eq (pv 1) pe_int (nomark _))
 (pss_one ps_never)
 pss_nil)
 (pss_one (ps_ret (pe_cal c_reckoned (hr.mono (by decide)) (by rfl) (pa_cons (pv 0) (pa_cons (pv 1) pa_nil))))))), ?_⟩
    obtain ⟨t, b, rfl, hb, sb, q⟩ := h
    refine ⟨_, rfl, _, rfl, by show 2 ≤ sizeLine; decide, fun p hp => ?_⟩
    refine ⟨p, rfl, ⟨_, .of upd_same⟩, for_tup (xs := [.int t, .int b]) (fun i σ H' => ∃ z, σ = [some (.int t), some (.int b), z] ∧ H' = upd H p (.tup [.int t, .int b])) ⟨_, rfl, rfl⟩ (fun i σ H' _ h => ?_) (fun i x σ H' hi h => ?_) (fun σ H' h => ?_)⟩
    · obtain ⟨_, _, rfl⟩ := h
      exact .of upd_same
    · obtain ⟨z, rfl, rfl⟩ := h
      have hx : ∃ n, x = .int n := by
        match i, hi with
        | 0, hi => exact ⟨t, (Option.some.inj hi).symm⟩
        | 1, hi => exact ⟨b, (Option.some.inj hi).symm⟩
      obtain ⟨n, rfl⟩ := hx
      refine ⟨_, rfl, .inl ⟨n, rfl, true, rfl, iteF ?_⟩⟩
      exact ⟨_, rfl, rfl⟩
    · obtain ⟨z, rfl, rfl⟩ := h
      refine ⟨_, rfl, rfl, _, rfl, ite2 (fun e => ?_) (fun e => ?_)⟩
      · have := eqI'.mp e
        omega
      · refine ⟨_, rfl, _, rfl, t, b, rfl, hb, sb, fun v H' s1 => q v H' ((same_upd hp).trans s1)⟩
end
end K79

/-! #### part K79W3 -/
namespace K79
open PySem PySem.Spec PyProof.Rows L2
section
variable {P : Program} {w : World} {K : PySem.W.Frag} {mg : Str → Option Value} {base : Heap}
/-! ### is_list: of lists -/
abbrev s_is_list : Stmt := topS 16
abbrev n_is_list : List Str := ["thing", "low", "high"]
theorem sc_is_list : FnScope n_is_list ["thing", "low", "high"] (defScope s_is_list) := ⟨rfl, rfl, rfl, by decide +kernel, rfl, by decide +kernel, by decide +kernel⟩
def sp_is_list : Sp := fun vs H Q _ => ∃ (a : Addr) (xs : List V) (lo hi : Int), vs = [.ref a, .int lo, .int hi] ∧ H a = some (.lst xs) ∧ lo ≤ xs.length ∧ (xs.length : Int) ≤ hi ∧ ∀ H', Same H H' → Q (.bl true) H'
theorem kitAny_list (K : PySem.W.Frag) : PySem.W.kitAny K (.type "list") [.type "list", .type "tuple"] = some true := by rfl
theorem ok_is_list (B : Blt mg) {f : Addr} {fd : FuncData} (F : Fun K "is_list" "is_list" s_is_list f fd) : FnOk P w K mg base CX0 1 f fd ["thing", "low", "high"] sp_is_list := by
  refine F.ok sc_is_list (fun vs H Q E h => ?_) (fun cdv A outer s H vs Q E hr h => ?_)
  · obtain ⟨a, xs, lo, hi, rfl, _⟩ := h; rfl
  · refine ⟨_, (pss_one (ps_ret (pe_and (pe_callB call_isiT (by rfl) B.isinstance_ (by decide +kernel) (pa_cons (pv 0) (pa_cons (pe_tup (pa_cons (pe_bltn (v := .ty "list") (by rfl) B.list_ (by decide +kernel) rfl) (pa_cons (pe_bltn (v := .ty "tuple") (by rfl) B.tuple_ (by decide +kernel) rfl) pa_nil))) pa_nil))) (pe_one (pe_chain op_le op_le (pv 1) (pe_callB call_len_seq (by rfl) B.len_ (by decide +kernel) (pa_cons (pv 0) pa_nil)) (pv 2)))))), ?_⟩
    obtain ⟨a, xs, lo, hi, rfl, ha, h1, h2, q⟩ := h
    refine ⟨_, rfl, by show 2 ≤ sizeLine; decide, fun p hp => ?_⟩
    have s1 : Same H (upd H p (.tup [.ty "list", .ty "tuple"])) := same_upd hp
    refine ⟨.ref a, p, _, _, [.type "list", .type "tuple"], true, rfl, upd_same, .cons (.ty _) (.cons (.ty _) .nil), .base (.lst (s1 _ _ ha)), kitAny_list K, ?_⟩
    refine ⟨true, rfl, iteT ?_⟩
    refine ⟨_, rfl, _, rfl, a, xs, rfl, .inl (.of (s1 _ _ ha)), _, _, rfl, rfl, _, rfl, ?_⟩
    rw [decide_eq_true h1]
    refine iteT ⟨_, rfl, _, _, rfl, rfl, ?_⟩
    show Q (.bl (decide ((xs.length : Int) ≤ hi))) _
    rw [decide_eq_true h2]
    exact q _ s1
/-! ### base_of, whole_of -/
abbrev s_base_of : Stmt := topS 21
abbrev n_base_of : List Str := ["number"]
theorem sc_base_of : FnScope n_base_of ["number"] (defScope s_base_of) := ⟨rfl, rfl, rfl, by decide +kernel, rfl, by decide +kernel, by decide +kernel⟩
def sp_base_of : Sp := fun vs H Q _ => ∃ v q, vs = [v] ∧ Num H v q ∧ Q (.int q.2) H
theorem ok_base_of (B : Blt mg) {f : Addr} {fd : FuncData} (F : Fun K "base_of" "base_of" s_base_of f fd) : FnOk P w K mg base CX0 1 f fd ["number"] sp_base_of := by
  refine F.ok sc_base_of (fun vs H Q E h => ?_) (fun cdv A outer s H vs Q E hr h => ?_)
  · obtain ⟨v, q, rfl, _⟩ := h; rfl
  · refine ⟨_, (pss_one (ps_ret (pe_ifExp (pt_val (pe_callB call_isi (by rfl) B.isinstance_ (by decide +kernel) (pa_cons (pv 0) (pa_cons (pe_bltn (v := .ty "tuple") (by rfl) B.tuple_ (by decide +kernel) rfl) pa_nil)))) (pe_ix ix_tup (pv 0) pe_int (fun _ _ => rfl)) pe_int))), ?_⟩
    obtain ⟨v, ⟨t, b⟩, rfl, h, q⟩ := h
    rcases h with ⟨hb, rfl⟩ | ⟨hb, hg, a, rfl, ha⟩
    · refine ⟨_, rfl, ⟨.int t, .ty "tuple", _, _, false, rfl, .ty _, .base (.int t), kit_ty (by decide +kernel), ?_⟩⟩
      refine ⟨false, rfl, iteF ?_⟩
      have hb : b = 1 := hb
      subst hb
      exact q
    · refine ⟨_, rfl, ⟨.ref a, .ty "tuple", _, _, true, rfl, .ty _, .base (.tup ha), kit_ty (by decide +kernel), ?_⟩⟩
      refine ⟨true, rfl, iteT ?_⟩
      exact ⟨_, rfl, a, _, _, _, rfl, rfl, .of ha, atI_nat (j := 1) rfl, q⟩
abbrev s_whole_of : Stmt := topS 24
abbrev n_whole_of : List Str := ["number", "many"]
theorem sc_whole_of : FnScope n_whole_of ["number", "many"] (defScope s_whole_of) := ⟨rfl, rfl, rfl, by decide +kernel, rfl, by decide +kernel, by decide +kernel⟩
def sp_whole_of : Sp := fun vs H Q _ => ∃ v q m, vs = [v, .int m] ∧ Num H v q ∧ Sm q.1 ∧ Sm q.2 ∧ Sm m ∧ 0 ≤ m ∧ Q (.int (q.1 * (m / q.2))) H
theorem ok_whole_of (B : Blt mg) {f : Addr} {fd : FuncData} (F : Fun K "whole_of" "whole_of" s_whole_of f fd) : FnOk P w K mg base CX0 1 f fd ["number", "many"] sp_whole_of := by
  refine F.ok sc_whole_of (fun vs H Q E h => ?_) (fun cdv A outer s H vs Q E hr h => ?_)
  · obtain ⟨v, q, m, rfl, _⟩ := h; rfl
  · refine ⟨_, (pss_cons (ps_if (pt_val (pe_callB call_isi (by rfl) B.isinstance_ (by decide +kernel) (pa_cons (pv 0) (pa_cons (pe_bltn (v := .ty "tuple") (by rfl) B.tuple_ (by decide +kernel) rfl) pa_nil))))
 (pss_one (ps_ret (pe_op op_mulW (pe_ix ix_tup (pv 0) pe_int (fun _ _ => rfl)) (pe_op op_fdivW (pv 1) (pe_ix ix_tup (pv 0) pe_int (fun _ _ => rfl))))))
 pss_nil)
 (pss_one (ps_ret (pe_op op_mulW (pv 0) (pv 1))))), ?_⟩
    obtain ⟨v, ⟨t, b⟩, m, rfl, h, st, sb, sm, m0, q⟩ := h
    have st : Sm t := st
    have sb : Sm b := sb
    have q : Q (.int (t * (m / b))) H := q
    rcases h with ⟨hb, rfl⟩ | ⟨hb, hg, a, rfl, ha⟩
    · refine ⟨_, rfl, ⟨.int t, .ty "tuple", _, _, false, rfl, .ty _, .base (.int t), kit_ty (by decide +kernel), ?_⟩⟩
      refine ⟨false, rfl, iteF ?_⟩
      have hb : b = 1 := hb
      subst hb
      rw [Int.ediv_one] at q
      exact ⟨_, rfl, _, rfl, _, _, rfl, rfl, sm_mulW st sm, q⟩
    · have hb : 1 < b := hb
      refine ⟨_, rfl, ⟨.ref a, .ty "tuple", _, _, true, rfl, .ty _, .base (.tup ha), kit_ty (by decide +kernel), ?_⟩⟩
      refine ⟨true, rfl, iteT ?_⟩
      refine ⟨_, rfl, a, _, _, _, rfl, rfl, .of ha, atI_nat (j := 0) rfl, ?_⟩
      refine ⟨_, rfl, _, rfl, a, _, _, _, rfl, rfl, .of ha, atI_nat (j := 1) rfl, ?_⟩
      refine ⟨_, _, rfl, rfl, sm_divW (by omega) sb, ?_⟩
      refine ⟨_, _, rfl, rfl, sm_mulW st (sm_le (Int.ediv_nonneg m0 (by omega)) (Int.ediv_le_self _ m0) sm), q⟩
/-! ### need_rule -/
def ruleS (odd : Bool) : Str := if odd then "odd" else "round"
abbrev s_need_rule : Stmt := topS 30
abbrev n_need_rule : List Str := ["rule"]
theorem sc_need_rule : FnScope n_need_rule ["rule"] (defScope s_need_rule) := ⟨rfl, rfl, rfl, by decide +kernel, rfl, by decide +kernel, by decide +kernel⟩
def sp_need_rule : Sp := fun vs H Q _ => ∃ odd, vs = [.str (ruleS odd)] ∧ Q .non H
theorem ok_need_rule (B : Blt mg) {aR : Addr} (k_RULES : mg "RULES" = some (.ref aR)) (hR : ∀ H, SqT K H aR [.str "round", .str "odd"]) {f : Addr} {fd : FuncData} (F : Fun K "need_rule" "need_rule" s_need_rule f fd) : FnOk P w K mg base CX0 1 f fd ["rule"] sp_need_rule := by
  refine F.ok sc_need_rule (fun vs H Q E h => ?_) (fun cdv A outer s H vs Q E hr h => ?_)
  · obtain ⟨odd, rfl, _⟩ := h; rfl
  · refine ⟨_, (pss_one (ps_if (PW.pt (pw_or (pt_not (pt_val (pe_callB call_isi (by rfl) B.isinstance_ (by decide +kernel) (pa_cons (pv 0) (pa_cons (pe_bltn (v := .ty "str") (by rfl) B.str_ (by decide +kernel) rfl) pa_nil))))) (pw_or1 (pt_cmpR op_notIn_seq (pv 0) (pe_glob (v := .ref aR) (by rfl) k_RULES rfl) (by rfl)))))
 (pss_one ps_never)
 pss_nil)), ?_⟩
    obtain ⟨odd, rfl, q⟩ := h
    refine ⟨_, rfl, ⟨.str _, .ty "str", _, _, true, rfl, .ty _, .base (.str _), kit_ty (by decide +kernel), ?_⟩⟩
    refine ⟨true, rfl, iteF ?_⟩
    refine ⟨_, rfl, aR, _, rfl, .inr (hR H), rfl, rfl, _, rfl, ?_⟩
    cases odd
    · exact q
    · exact q
/-! ### first_middle, filled_by -/
abbrev s_first_middle : Stmt := topS 31
abbrev n_first_middle : List Str := ["top", "base"]
theorem sc_first_middle : FnScope n_first_middle ["top", "base"] (defScope s_first_middle) := ⟨rfl, rfl, rfl, by decide +kernel, rfl, by decide +kernel, by decide +kernel⟩
def sp_first_middle : Sp := fun vs H Q _ => ∃ t b : Int, vs = [.int t, .int b] ∧ 0 < b ∧ Sm b ∧ Q (.int (fm t b)) H
theorem sm_small {i : Int} (h : -1000000 ≤ i ∧ i ≤ 1000000) : Sm i := sm_of (by omega)
theorem big_div {i c b : Int} (hc : 0 < c ∧ c ≤ 128) (hb : 0 < b) (sb : Sm b) : CDivW i (c * b) := by
  refine wide_div (b := 2010) (Int.mul_pos hc.1 hb) ?_ (by decide) (by decide)
  rw [Int.natAbs_mul]
  have h1 : c.natAbs ≤ 128 := by omega
  have h2 : b.natAbs < 2 ^ 2000 := sb
  have h3 : c.natAbs * b.natAbs ≤ 128 * b.natAbs := Nat.mul_le_mul_right _ h1
  have h4 : 128 * b.natAbs < 128 * 2 ^ 2000 := Nat.mul_lt_mul_of_pos_left h2 (by decide)
  have h5 : (128 : Nat) * 2 ^ 2000 ≤ 2 ^ 2010 := by decide +kernel
  exact Nat.lt_of_le_of_lt h3 (Nat.lt_of_lt_of_le h4 h5)
theorem ok_first_middle {tC tH : Tok} (k_CELL : mg "CELL" = some (.int 64 tC)) (k_HALF : mg "HALF" = some (.int 32 tH)) {f : Addr} {fd : FuncData} (F : Fun K "first_middle" "first_middle" s_first_middle f fd) : FnOk P w K mg base CX0 1 f fd ["top", "base"] sp_first_middle := by
  refine F.ok sc_first_middle (fun vs H Q E h => ?_) (fun cdv A outer s H vs Q E hr h => ?_)
  · obtain ⟨t, b, rfl, _⟩ := h; rfl
  · refine ⟨_, (pss_one (ps_ret (pe_op op_sub pe_int (pe_op op_fdivW (pe_op op_sub (pe_op op_mulW (pe_glob (v := .int 32) (by rfl) k_HALF ⟨_, rfl⟩) (pv 1)) (pv 0)) (pe_op op_mulW (pe_glob (v := .int 64) (by rfl) k_CELL ⟨_, rfl⟩) (pv 1)))))), ?_⟩
    obtain ⟨t, b, rfl, hb, sb, q⟩ := h
    refine ⟨_, rfl, _, _, rfl, rfl, sm_mulW (sm_small (by decide)) sb, _, rfl, _, _, rfl, rfl, _, rfl, _, _, rfl, rfl, sm_mulW (sm_small (by decide)) sb, _, _, rfl, rfl, big_div (by decide) hb sb, _, _, rfl, rfl, ?_⟩
    exact q
abbrev s_filled_by : Stmt := topS 35
abbrev n_filled_by : List Str := ["stretch", "drops", "enter", "leave", "base", "begin", "end"]
theorem sc_filled_by : FnScope n_filled_by ["stretch", "drops"] (defScope s_filled_by) := ⟨rfl, rfl, rfl, by decide +kernel, rfl, by decide +kernel, by decide +kernel⟩
def sp_filled_by : Sp := fun vs H Q _ => ∃ (v : V) (r : Row3) (drops : Bool), vs = [v, .bl drops] ∧ T3 H v r ∧ 0 < r.2.2 ∧ Sm r.2.2 ∧ ∀ v' H', Same H H' → T2 H' v' (fillM drops r) → Q v' H'
theorem ok_filled_by {tC : Tok} (k_CELL : mg "CELL" = some (.int 64 tC)) {f : Addr} {fd : FuncData} (F : Fun K "filled_by" "filled_by" s_filled_by f fd)
    (c_first_middle : Cal P w K mg base 1 "first_middle" ["top", "base"] sp_first_middle) : FnOk P w K mg base CX0 2 f fd ["stretch", "drops"] sp_filled_by := by
  refine F.ok sc_filled_by (fun vs H Q E h => ?_) (fun cdv A outer s H vs Q E hr h => ?_)
  · obtain ⟨v, r, d, rfl, _⟩ := h; rfl
  · refine ⟨_, (pss_cons (ps_asg (pv 0) (pg_tup (by rfl) (pgs_cons (pg_name (i := 2) sc_filled_by.nd rfl (.inl rfl)) (pgs_cons (pg_name (i := 3) sc_filled_by.nd rfl (.inl rfl)) (pgs_cons (pg_name (i := 4) sc_filled_by.nd rfl (.inl rfl)) pgs_nil)))))
 (pss_cons (ps_par (i := 5) (j := 6) rfl sc_filled_by.nd rfl rfl (by decide) rfl rfl (pa_cons (pe_cal c_first_middle (hr.mono (by decide)) (by rfl) (pa_cons (pv 2) (pa_cons (pv 4) pa_nil))) (pa_cons (pe_cal c_first_middle (hr.mono (by decide)) (by rfl) (pa_cons (pv 3) (pa_cons (pv 4) pa_nil))) pa_nil)) (by rfl))
 (pss_cons (ps_if (PW.pt (pw_and (pt_cmpR op_eq (pv 5) (pv 6) (nomark _)) (pw_and1 (pt_val (pv 1)))))
 (pss_cons (ps_set (i := 5) sc_filled_by.nd rfl (.inl rfl) (pe_op op_sub (pe_op op_sub pe_int (pe_op op_fdivW (pe_op op_sub (pe_op op_sub pe_int (pv 2)) (pv 3)) (pe_op op_mulW (pe_op op_mulW pe_int (pe_glob (v := .int 64) (by rfl) k_CELL ⟨_, rfl⟩)) (pv 4)))) pe_int))
 (pss_one (ps_set (i := 6) sc_filled_by.nd rfl (.inl rfl) (pe_op op_add (pv 5) pe_int))))
 pss_nil)
 (pss_one (ps_ret (pe_tup (pa_cons (pv 5) (pa_cons (pv 6) pa_nil)))))))), ?_⟩
    obtain ⟨v, ⟨e, l, b⟩, drops, rfl, ⟨a, rfl, ha⟩, hb, sb, q⟩ := h
    have hb : 0 < b := hb
    have sb : Sm b := sb
    refine ⟨_, rfl, a, _, rfl, .of ha, rfl, _, _, rfl, _, _, rfl, _, _, rfl, rfl, ?_⟩
    refine ⟨_, rfl, _, rfl, e, b, rfl, hb, sb, _, rfl, _, rfl, l, b, rfl, hb, sb, _, _, rfl, ?_⟩
    refine ⟨_, rfl, _, rfl, rfl, _, rfl, ite2 (fun c => ?_) (fun c => ?_)⟩
    · have c := eqI'.mp c
      refine ⟨_, rfl, drops, rfl, ite2 (fun d => ?_) (fun d => ?_)⟩
      · refine ⟨_, rfl, _, _, rfl, rfl, _, rfl, _, _, rfl, rfl, _, _, rfl, rfl, sm_mulW (sm_small (by decide)) (sm_small (by decide)), _, rfl, _, _, rfl, rfl, ?_, _, _, rfl, rfl, ?_, _, _, rfl, rfl, _, _, rfl, rfl, ?_⟩
        · exact sm_mulW (sm_small (by decide)) sb
        · exact big_div (c := 2 * 64) (by decide) hb sb
        refine ⟨_, rfl, _, _, rfl, rfl, ?_⟩
        refine ⟨_, rfl, _, rfl, by show 2 ≤ sizeLine; decide, fun p hp => ?_⟩
        refine q _ _ (same_upd hp) ⟨p, rfl, ?_⟩
        rw [upd_same]
        unfold fillM boxB
        rw [if_pos ⟨c, d⟩]
        have e1 : (0 : Int) - e - l = 0 - (e + l) := by omega
        show some (HO.tup [V.int (0 - (0 - e - l) / (2 * 64 * b) - 1), V.int (0 - (0 - e - l) / (2 * 64 * b) - 1 + 1)]) = some (HO.tup [V.int (dcol (e + l) b), V.int (dcol (e + l) b + 1)])
        rw [e1]
        rfl
      · refine ⟨_, rfl, _, rfl, by show 2 ≤ sizeLine; decide, fun p hp => ?_⟩
        refine q _ _ (same_upd hp) ⟨p, rfl, ?_⟩
        rw [upd_same]
        unfold fillM boxB
        rw [if_neg fun z => d z.2]
    · have c : ¬ fm e b = fm l b := fun z => c (eqI'.mpr z)
      refine iteF ?_
      refine ⟨_, rfl, _, rfl, by show 2 ≤ sizeLine; decide, fun p hp => ?_⟩
      refine q _ _ (same_upd hp) ⟨p, rfl, ?_⟩
      rw [upd_same]
      unfold fillM boxB
      rw [if_neg fun z => c z.1]
end
end K79

/-! #### part K79W4 -/
namespace K79
open PySem PySem.Spec PyProof.Rows L2
section
variable {P : Program} {w : World} {K : PySem.W.Frag} {mg : Str → Option Value} {base : Heap}
/-! ### need_parts -/
abbrev s_need_parts : Stmt := topS 20
abbrev n_need_parts : List Str := ["parts", "part", "place", "one"]
theorem sc_need_parts : FnScope n_need_parts ["parts"] (defScope s_need_parts) := ⟨rfl, rfl, rfl, by decide +kernel, rfl, by decide +kernel, by decide +kernel⟩
/-- polygons, as they are handed in: of places over the base B -/
abbrev Parts (B : Int) : Hp → V → List (List Pt) → Prop := Lst (Lst (Pl B))
theorem mono_parts (B : Int) : Mono (Parts B) := mono_lst (mono_lst (mono_pl B))
structure FewP (pss : List (List Pt)) : Prop where
  least : 1 ≤ pss.length
  most : pss.length ≤ 4
  each : ∀ p ∈ pss, 1 ≤ p.length ∧ p.length ≤ 100
def sp_need_parts : Sp := fun vs H Q _ => ∃ (v : V) (B : Int) (pss : List (List Pt)), vs = [v] ∧ Parts B H v pss ∧ FewP pss ∧ ∀ H', Same H H' → Q .non H'
theorem ok_need_parts (B : Blt mg) {tG tL : Tok} (k_MOST_POLYGONS : mg "MOST_POLYGONS" = some (.int 4 tG)) (k_MOST_PLACES : mg "MOST_PLACES" = some (.int 100 tL)) {f : Addr} {fd : FuncData} (F : Fun K "need_parts" "need_parts" s_need_parts f fd)
    (c_is_list : Cal P w K mg base 1 "is_list" ["thing", "low", "high"] sp_is_list) (c_is_number : Cal P w K mg base 3 "is_number" ["thing"] sp_is_number) : FnOk P w K mg base CX0 4 f fd ["parts"] sp_need_parts := by
  refine F.ok sc_need_parts (fun vs H Q E h => ?_) (fun cdv A outer s H vs Q E hr h => ?_)
  · obtain ⟨v, _, _, rfl, _⟩ := h; rfl
  · refine ⟨_, (pss_cons (ps_if (pt_not (pt_val (pe_cal c_is_list (hr.mono (by decide)) (by rfl) (pa_cons (pv 0) (pa_cons pe_int (pa_cons (pe_glob (v := .int 4) (by rfl) k_MOST_POLYGONS ⟨_, rfl⟩) pa_nil))))))
 (pss_one ps_never)
 pss_nil)
 (pss_one (ps_for PassesOwn.never rfl (pi_list (pv 0)) (pg_name (i := 1) sc_need_parts.nd rfl (.inl rfl))
 (pss_cons (ps_if (pt_not (pt_val (pe_cal c_is_list (hr.mono (by decide)) (by rfl) (pa_cons (pv 1) (pa_cons pe_int (pa_cons (pe_glob (v := .int 100) (by rfl) k_MOST_PLACES ⟨_, rfl⟩) pa_nil))))))
 (pss_one ps_never)
 pss_nil)
 (pss_one (ps_for PassesOwn.never rfl (pi_list (pv 1)) (pg_name (i := 2) sc_need_parts.nd rfl (.inl rfl))
 (pss_one (ps_if (PW.pt (pw_or (pt_not (pt_val (pe_callB call_isi (by rfl) B.isinstance_ (by decide +kernel) (pa_cons (pv 2) (pa_cons (pe_bltn (v := .ty "tuple") (by rfl) B.tuple_ (by decide +kernel) rfl) pa_nil))))) (pw_or (pt_cmpR op_ne (pe_callB call_len_seq (by rfl) B.len_ (by decide +kernel) (pa_cons (pv 2) pa_nil)) pe_int (nomark _)) (pw_or1 (pt_not (pt_val (pe_callB (cr_all rfl) (by rfl) B.all_ (by decide +kernel) (pa_cons (pe_lc (own := [("one", 3)]) rfl sc_need_parts.nd (pi_tup (pv 2)) (blkOk_by (N := n_need_parts) (sc := defScope s_need_parts) (own := [("one", 3)]) (by decide +kernel)) (fun _ _ _ _ _ => (pg_name (i := 3) sc_need_parts.nd rfl (.inl rfl))) (fun _ _ _ _ _ => pts_nil) (fun _ _ _ _ _ => (pe_cal c_is_number (hr.mono (by decide)) (by rfl) (pa_cons (pv 3) pa_nil)))) pa_nil))))))))
 (pss_one ps_never)
 pss_nil)))))))), ?_⟩
    obtain ⟨v, Bs, pss, rfl, ⟨a, vs, rfl, ha, hp⟩, few, q⟩ := h
    have lp : vs.length = pss.length := Paired.length hp
    have f1 := few.least
    have f2 := few.most
    refine ⟨_, rfl, a, vs, 1, 4, rfl, ha, by omega, by omega, fun H1 s1 => ?_⟩
    refine ⟨true, rfl, iteF ?_⟩
    refine ⟨_, rfl, a, rfl, ⟨_, .of (s1 _ _ ha)⟩, for_list (xs := vs) (fun i σ H' => ∃ z1 z2 z3, σ = [some (.ref a), z1, z2, z3] ∧ Same H H') ⟨_, _, _, rfl, s1⟩ (fun i σ H' _ h => ?_) (fun i x σ H' hi h => ?_) (fun σ H' h => ?_)⟩
    · obtain ⟨_, _, _, _, s⟩ := h
      exact .of (s _ _ ha)
    · obtain ⟨z1, z2, z3, rfl, s2⟩ := h
      obtain ⟨p, hpi, b, us, rfl, hb, hq⟩ := Paired.get hp hi
      have lq : us.length = p.length := Paired.length hq
      obtain ⟨g1, g2⟩ := few.each p (List.mem_of_getElem? hpi)
      refine ⟨_, rfl, b, us, 1, 100, rfl, s2 _ _ hb, by omega, by omega, fun H3 s3 => ?_⟩
      refine ⟨true, rfl, iteF ?_⟩
      have s03 := s2.trans s3
      refine ⟨_, rfl, b, rfl, ⟨_, .of (s03 _ _ hb)⟩, for_list (xs := us) (fun i σ H' => ∃ z2 z3, σ = [some (.ref a), some (.ref b), z2, z3] ∧ Same H H') ⟨_, _, rfl, s03⟩ (fun i σ H' _ h => ?_) (fun i x σ H' hi h => ?_) (fun σ H' h => ?_)⟩
      · obtain ⟨_, _, _, s⟩ := h
        exact .of (s _ _ hb)
      · obtain ⟨z2, z3, rfl, s4⟩ := h
        obtain ⟨pt, hpt, c, u, w, rfl, hc, hu, hw⟩ := Paired.get hq hi
        have hc4 := s4 _ _ hc
        refine ⟨_, rfl, ⟨.ref c, .ty "tuple", _, _, true, rfl, .ty _, .base (.tup hc4), kit_ty (by decide +kernel), ?_⟩⟩
        refine ⟨true, rfl, iteF ?_⟩
        refine ⟨_, rfl, c, _, rfl, .inr (.of hc4), rfl, _, rfl, iteF ?_⟩
        refine ⟨_, rfl, c, rfl, ⟨_, .of hc4⟩, fun D hD => ?_⟩
        have s5 : Same H (upd H' D (.lst [])) := s4.trans (same_upd hD)
        refine lc_tup (K := K) (a := c) (xs := [u, w]) (fun i H'' => Same H H'' ∧ H'' c = some (.tup [u, w]) ∧ H'' D = some (.lst (List.replicate i (.bl true)))) ⟨s5, (same_upd hD) _ _ hc4, upd_same⟩ (fun i H'' _ h => .of h.2.1) (fun i x H'' hi h => ?_) (fun H'' h => ?_)
        · obtain ⟨s6, h6, d6⟩ := h
          have hx : ∃ q, Num H'' x q := by
            match i, hi with
            | 0, hi =>
              have e : u = x := Option.some.inj hi
              subst e
              exact ⟨_, mono_num _ _ _ _ s6 hu⟩
            | 1, hi =>
              have e : w = x := Option.some.inj hi
              subst e
              exact ⟨_, mono_num _ _ _ _ s6 hw⟩
          obtain ⟨nq, hn⟩ := hx
          have hi2 : i < 2 := (List.getElem?_eq_some_iff.mp hi).1
          refine ⟨rfl, _, rfl, _, nq, rfl, hn, _, d6, ?_, ?_, ?_, ?_⟩
          · rw [List.length_replicate]
            exact small1000 (by omega)
          · have nd : H D = none := s4.free hD
            exact same_mut s6 nd
          · rw [upd_ne]
            · exact h6
            · intro e
              rw [e] at hc4
              rw [hD] at hc4
              cases hc4
          · rw [upd_same, ← List.replicate_succ']
        · obtain ⟨s6, h6, d6⟩ := h
          refine ⟨D, [true, true], rfl, .of d6, true, rfl, iteF ?_⟩
          exact ⟨_, _, rfl, s6⟩
      · obtain ⟨z2, z3, rfl, s4⟩ := h
        exact ⟨_, _, _, rfl, s4⟩
    · obtain ⟨_, _, _, rfl, s⟩ := h
      exact q _ s
end
end K79

/-! #### part K79C -/
/-! comprehensions with three clauses -/
namespace K79
open PySem PySem.Spec PyProof.Rows L2

abbrev St := L2.St
abbrev F0 : Value → Shared → Prop := fun _ _ => False
/-- a turn whose body is the next clause's loop; its body is the element's append -/
def outTurn (E t i i1 : Expr) (ifs : List Expr) (k : Nat) (it acc : Value) (env : Env) : Sem PySem.Fin := do
  standAt i.pos
  match ← pyNext it with
  | none => pure (.done .next)
  | some v =>
    letOwnedTupleGo t it v
    assign t env v
    let mut ok := true
    for c in ifs do
      if ok then ok ← isTrue c env (eval c env)
    if ok then
      let x ← eval i1 env
      standAt i1.pos
      let x ← foldedSetIterable i1 env x
      let _ ← runOwn (.compStart E (k + 1) (← holding [x] (pyIter x)) acc env) env
    again (.compLoop E k it acc env)
def inTurn (E t i elt : Expr) (ifs : List Expr) (k : Nat) (it acc : Value) (env : Env) : Sem PySem.Fin := do
  standAt i.pos
  match ← pyNext it with
  | none => pure (.done .next)
  | some v =>
    letOwnedTupleGo t it v
    assign t env v
    let mut ok := true
    for c in ifs do
      if ok then ok ← isTrue c env (eval c env)
    if ok then
      (do let _ ← call (.builtin "list.append") [acc, ← eval elt env])
    again (.compLoop E k it acc env)
section
variable {prog : Program} {w : World} {A : Around} {s : Shared} {E t i i1 elt : Expr} {ifs : List Expr} {k : Nat} {it acc : Value} {env : Env}
/-- what a turn's body is to reach -/
def outB (prog : Program) (w : World) (A : Around) (E i1 : Expr) (k : Nat) (acc : Value) (env : Env) (post : Shared → Prop) (s : Shared) : Prop :=
  wpAny (model prog w) A (eval i1 env) (fun x s4 => wpAny (model prog w) A (pyIter x) (fun it1 s5 => codeAny (model prog w) A (.compStart E (k + 1) it1 acc env) (fun r s' => match r with
    | .ok _ => post s'
    | .error _ => False) s5) F0 s4) F0 s
def inB (prog : Program) (w : World) (A : Around) (elt : Expr) (acc : Value) (env : Env) (post : Shared → Prop) (s : Shared) : Prop :=
  wpAny (model prog w) A (eval elt env) (fun x s4 => wpAny (model prog w) A (call (.builtin "list.append") [acc, x]) (fun _ s5 => post s5) F0 s4) F0 s
/-- one turn, whatever its body -/
def TurnW (prog : Program) (w : World) (A : Around) (t : Expr) (ifs : List Expr) (it : Value) (env : Env) (B : (Shared → Prop) → Shared → Prop) (fin next : Shared → Prop) (s : Shared) : Prop :=
  wpAny (model prog w) A (pyNext it) (fun r s1 => match r with
    | none => fin s1
    | some v => wpAny (model prog w) A (letOwnedTupleGo t it v) (fun _ s2 => wpAny (model prog w) A (assign t env v) (fun _ s3 =>
        wpAny (model prog w) A (forIn ifs true fun c r => if r = true then do let ok ← isTrue c env (eval c env); pure (ForInStep.yield ok) else pure (ForInStep.yield r)) (fun ok s4 =>
          if ok = true then B next s4 else next s4) F0 s3) F0 s2) F0 s1) F0 s
theorem up {α : Type} {m : Sem α} {Q : α → Shared → Prop} {E' : Value → Shared → Prop} (h : wpAny (model prog w) A m Q F0 s) : wpAny (model prog w) A m Q E' s := wpAny_mono h (fun _ _ q => q) fun _ _ z => z.elim
theorem loop_out {e0 : Expr} {gs : List Comprehension} {sc : Scope} {ps : Pos} {R : Result → Shared → Prop} (heq : compTurn (.ListComp e0 gs sc ps) k it acc env = outTurn (.ListComp e0 gs sc ps) t i i1 ifs k it acc env) (hs : ∀ x, foldedSetIterable i1 env x = pure x) (I : Nat → Shared → Prop)
    (turn : ∀ n s, I n s → TurnW prog w A t ifs it env (outB prog w A (.ListComp e0 gs sc ps) i1 k acc env) (fun s' => R (.ok .next) s') (fun s' => ∃ m, m < n ∧ I m s') s) (n : Nat) (h : I n s) : codeAny (model prog w) A (.compLoop (.ListComp e0 gs sc ps) k it acc env) R s := by
  refine codeAny_loop rfl I (fun n s hI => ?_) n h
  show wpAny _ A ((compTurn (.ListComp e0 gs sc ps) k it acc env).onRaise fun x => do noteFrame x env; theTreesLotGoes x) _ _ s
  refine wpAny_noted ?_
  rw [heq]
  unfold outTurn
  refine wpAny_bind (wpAny_standAt (wpAny_bind (up (wpAny_mono (turn n s hI) (fun r s1 h1 => ?_) fun _ _ z => z))))
  cases r with
  | none => exact wpAny_pure h1
  | some v =>
    refine wpAny_bind (up (wpAny_mono h1 (fun _ s2 h2 => ?_) fun _ _ z => z))
    refine wpAny_bind (up (wpAny_mono h2 (fun _ s3 h3 => wpAny_bind (up (wpAny_mono h3 (fun ok s4 h4 => ?_) fun _ _ z => z))) fun _ _ z => z))
    cases ok with
    | false => exact wpAny_pure ⟨rfl, h4⟩
    | true =>
      have h4 : outB prog w A (.ListComp e0 gs sc ps) i1 k acc env _ s4 := h4
      refine wpAny_bind (up (wpAny_mono h4 (fun x s5 h5 => ?_) fun _ _ z => z))
      refine wpAny_bind (wpAny_standAt (wpAny_bind (wpAny_of_eq (hs x) (wpAny_bind (wpAny_holding (up (wpAny_mono h5 (fun it1 s6 h6 => ?_) fun _ _ z => z)))))))
      refine wpAny_bind (wpAny_runOwn ?_)
      rw [Around.mark_none]
      refine codeAny_mono h6 fun r s' hr => ?_
      cases r with
      | ok f =>
        first
          | exact wpAny_pure ⟨rfl, hr⟩
          | exact wpAny_bind (wpAny_pure (wpAny_pure ⟨rfl, hr⟩))
      | error e => exact hr.elim
theorem loop_in {e0 : Expr} {gs : List Comprehension} {sc : Scope} {ps : Pos} {R : Result → Shared → Prop} (heq : compTurn (.ListComp e0 gs sc ps) k it acc env = inTurn (.ListComp e0 gs sc ps) t i elt ifs k it acc env) (I : Nat → Shared → Prop)
    (turn : ∀ n s, I n s → TurnW prog w A t ifs it env (inB prog w A elt acc env) (fun s' => R (.ok .next) s') (fun s' => ∃ m, m < n ∧ I m s') s) (n : Nat) (h : I n s) : codeAny (model prog w) A (.compLoop (.ListComp e0 gs sc ps) k it acc env) R s := by
  refine codeAny_loop rfl I (fun n s hI => ?_) n h
  show wpAny _ A ((compTurn (.ListComp e0 gs sc ps) k it acc env).onRaise fun x => do noteFrame x env; theTreesLotGoes x) _ _ s
  refine wpAny_noted ?_
  rw [heq]
  unfold inTurn
  refine wpAny_bind (wpAny_standAt (wpAny_bind (up (wpAny_mono (turn n s hI) (fun r s1 h1 => ?_) fun _ _ z => z))))
  cases r with
  | none => exact wpAny_pure h1
  | some v =>
    refine wpAny_bind (up (wpAny_mono h1 (fun _ s2 h2 => ?_) fun _ _ z => z))
    refine wpAny_bind (up (wpAny_mono h2 (fun _ s3 h3 => wpAny_bind (up (wpAny_mono h3 (fun ok s4 h4 => ?_) fun _ _ z => z))) fun _ _ z => z))
    cases ok with
    | false => exact wpAny_pure ⟨rfl, h4⟩
    | true =>
      have h4 : inB prog w A elt acc env _ s4 := h4
      exact wpAny_bind (wpAny_bind (up (wpAny_mono h4 (fun x s5 h5 => wpAny_bind (up (wpAny_mono h5 (fun _ s6 h6 => wpAny_pure (wpAny_pure ⟨rfl, h6⟩)) fun _ _ z => z))) fun _ _ z => z)))
end

/-! ### the reading -/
abbrev TBd := St → Hp → (Hp → Prop) → Prop
/-- a clause's loop, the block's own names forgotten ahead of each turn -/
def tLoop (J : It) (g : TG) (tt : TT) (tb : TBd) (vs : List Nat) (σ0 : St) (H : Hp) (Q : Hp → Prop) : Prop := ∃ W : Nat → Nat → Hp → Prop, (∃ m, W 0 m H) ∧ ∀ i m H, W i m H →
  (J.stop i H ∧ Q H) ∨ (J.go i H ∧ ∃ Nx : Hp → Prop, (∀ H', Nx H' → ∃ m', m' < m ∧ W (i + 1) m' H') ∧ ∀ x H', J.yld i H x H' → g x σ0 H' fun σ2 H2 => wipe σ2 vs = σ0 ∧ tt σ2 H2 fun b H3 => if b = true then tb σ2 H3 Nx else Nx H3)
def tbIn (te : TE) (D : Addr) : TBd := fun σ2 H3 Nx => te σ2 H3 fun y H4 => ∃ acc, H4 D = some (.lst acc) ∧ acc.length < sizeLine ∧ Nx (upd H4 D (.lst (acc ++ [y])))
def tbOut (wi : TI) (g : TG) (tt : TT) (tb : TBd) (vs : List Nat) (σ0 : St) : TBd := fun σ2 H3 Nx => wi σ2 H3 fun J H4 => tLoop J g tt tb vs σ0 H4 Nx
structure BodyOk (Y : Cx) (B : (Shared → Prop) → Shared → Prop) (tb : TBd) (vs : List Nat) (σ0 : St) : Prop where
  run : ∀ (pins : List (Addr × Obj)) (s : Shared) (σ2 : St) (H : Hp) (Nx : Hp → Prop), wipe σ2 vs = σ0 → Inv Y pins σ2 H s → tb σ2 H Nx → B (fun s' => ∃ H', Inv Y pins σ0 H' s' ∧ Nx H') s
theorem inv_wipe {Y : Cx} {pins : List (Addr × Obj)} {σ2 σ0 : St} {H : Hp} {s : Shared} {vs : List Nat} (I : Inv Y pins σ2 H s) (e : wipe σ2 vs = σ0) : Inv Y pins σ0 H s := by
  subst e
  exact I.weak (wipe_length σ2 vs) fun j v z => (wipe_some z).1
/-- the loop of one clause in the block's context -/
theorem loopK {Y : Cx} (hc : Y.calm = true) {pins : List (Addr × Obj)} {E t : Expr} {ifs : List Expr} {k : Nat} {it : Addr} {acc : Value} {B : (Shared → Prop) → Shared → Prop} {fp : List Addr} {tn : Nat → Heap → Prop} {J : It} {g : TG} {tt : TT} {tb : TBd} {vs : List Nat} {σ0 : St}
    (LR : ∀ (R : Result → Shared → Prop) (I : Nat → Shared → Prop), (∀ n s, I n s → TurnW Y.prog Y.w Y.A t ifs (.ref it) Y.env B (fun s' => R (.ok .next) s') (fun s' => ∃ m, m < n ∧ I m s') s) → ∀ (n : Nat) (s : Shared), I n s → codeAny (model Y.prog Y.w) Y.A (.compLoop E k (.ref it) acc Y.env) R s)
    (hx : Y.xe = F0) (pg : PG Y t g) (pt : PTs Y ifs tt) (bo : BodyOk Y B tb vs σ0) (T : Turn Y.prog Y.w Y.K t J fp it tn)
    {s : Shared} {H : Hp} {Nx : Hp → Prop} (mono : ∀ (post post' : Shared → Prop) s, (∀ s', post s' → post' s') → B post s → B post' s)
    (I : Inv Y pins σ0 H s) (st : tn 0 s.heap) (f : ∀ b ∈ fp, FpOk Y pins H b) (h : tLoop J g tt tb vs σ0 H Nx) :
    codeAny (model Y.prog Y.w) Y.A (.compLoop E k (.ref it) acc Y.env) (fun r s' => r = .ok .next ∧ ∃ H', Inv Y pins σ0 H' s' ∧ Nx H') s := by
  obtain ⟨W, ⟨m0, w0⟩, turn⟩ := h
  have stat : ∀ {H' : Hp}, (∀ b ∈ fp, H' b = none) → ∀ b ∈ fp, FpOk Y pins H' b := fun hn b hb => ⟨hn b hb, (f b hb).2⟩
  refine LR _ (fun n s' => ∃ i H', Inv Y pins σ0 H' s' ∧ tn i s'.heap ∧ (∀ b ∈ fp, H' b = none) ∧ W i n H') ?_ m0 s ⟨0, H, I, st, fun b hb => (f b hb).1, w0⟩
  rintro n s1 ⟨i, H1, I1, st1, n1, w1⟩
  unfold TurnW
  rcases turn i n H1 w1 with ⟨stop, qq⟩ | ⟨go, Nx1, hNx, step⟩
  · refine wpAny_mono (T.done Y rfl rfl rfl hc i pins s1 σ0 H1 F0 I1 (stat n1) st1 stop) (fun r s2 ⟨hr, I2⟩ => ?_) fun _ _ z => z
    subst hr
    exact ⟨rfl, H1, I2, qq⟩
  · refine wpAny_mono (T.item Y rfl rfl rfl hc i pins s1 σ0 H1 F0 I1 (stat n1) st1 go) (fun r s2 ⟨u, hr, h2⟩ => ?_) fun _ _ z => z
    subst hr
    refine wpAny_mono h2 (fun _ s3 ⟨x, H3, I3, r3, y3, st3, n3⟩ => ?_) fun _ _ z => z
    have I3' := I3.pinned (stat n3) (T.obj _ _ st3)
    have a1 := pg.run _ s3 σ0 H3 x u _ I3' r3 (step x H3 y3)
    rw [hx] at a1
    refine wpAny_mono a1 (fun _ s4 ⟨σ4, H4, I4, hw4, q4⟩ => ?_) fun _ _ z => z
    have a2 := pt.run _ s4 σ4 H4 _ I4 q4
    rw [hx] at a2
    refine wpAny_mono a2 (fun b s5 ⟨H5, I5, q5⟩ => ?_) fun _ _ z => z
    have fin : ∀ {s' : Shared} {H' : Hp}, Inv Y (pins ++ pinsAt fp s3.heap) σ0 H' s' → Nx1 H' → ∃ m, m < n ∧ ∃ i H', Inv Y pins σ0 H' s' ∧ tn i s'.heap ∧ (∀ b ∈ fp, H' b = none) ∧ W i m H' := fun {s' H'} I' nx => by
      obtain ⟨m', hm, w'⟩ := hNx H' nx
      have pin' : ∀ b ∈ fp, ∀ o, s3.heap.get? b = some o → s'.heap.get? b = some o ∧ H' b = none := fun b hb o e =>
        let z := I'.pin (b, o) (List.mem_append_right _ (List.mem_append_right _ (mem_pinsAt hb e)))
        ⟨z.1, z.2.1⟩
      refine ⟨m', hm, i + 1, H', I'.unpinned, T.keep _ _ _ st3 fun b hb o e => (pin' b hb o e).1, fun b hb => ?_, w'⟩
      obtain ⟨o, e, _⟩ := T.obj _ _ st3 b hb
      exact (pin' b hb o e).2
    cases b with
    | false => exact fin (inv_wipe I5 hw4) q5
    | true => exact mono _ _ _ (fun s' ⟨H', I', nx⟩ => fin I' nx) (bo.run _ s5 σ4 H5 Nx1 hw4 I5 q5)
theorem outB_mono {prog : Program} {w : World} {A : Around} {E i1 : Expr} {k : Nat} {acc : Value} {env : Env} (post post' : Shared → Prop) (s : Shared) (hp : ∀ s', post s' → post' s') (h : outB prog w A E i1 k acc env post s) : outB prog w A E i1 k acc env post' s := by
  refine wpAny_mono h (fun x s4 h4 => wpAny_mono h4 (fun it1 s5 h5 => codeAny_mono h5 fun r s' hr => ?_) fun _ _ z => z) fun _ _ z => z
  cases r with
  | ok f => exact hp _ hr
  | error e => exact hr
theorem inB_mono {prog : Program} {w : World} {A : Around} {elt : Expr} {acc : Value} {env : Env} (post post' : Shared → Prop) (s : Shared) (hp : ∀ s', post s' → post' s') (h : inB prog w A elt acc env post s) : inB prog w A elt acc env post' s :=
  wpAny_mono h (fun x s4 h4 => wpAny_mono h4 (fun _ s5 h5 => hp _ h5) fun _ _ z => z) fun _ _ z => z
theorem body_in {Y : Cx} (hx : Y.xe = F0) {elt : Expr} {D : Addr} {te : TE} {vs : List Nat} {σ0 : St} (pe : PE Y elt te) : BodyOk Y (inB Y.prog Y.w Y.A elt (.ref D) Y.env) (tbIn te D) vs σ0 := by
  refine ⟨fun pins s σ2 H Nx hw I h => ?_⟩
  have a := pe.run pins s σ2 H _ I h
  rw [hx] at a
  refine wpAny_mono a (fun z s2 ⟨yv, H2, I2, r2, acc, hD, hz, nx⟩ => ?_) fun _ _ z => z
  exact app_ok (X := Y) I2 hD hz r2 fun s3 I3 => ⟨_, inv_wipe I3 hw, nx⟩
/-- the next clause's start -/
def StartOk (prog : Program) (w : World) (A : Around) (E : Expr) (k : Nat) (acc : Value) (env : Env) : Prop := ∀ (it : Value) (R : Result → Shared → Prop) (s : Shared), codeAny (model prog w) A (.compLoop E k it acc env) R s →
  wpAny (model prog w) A (pyIter it) (fun it' s' => codeAny (model prog w) A (.compLoop E k it' acc env) R s') (notedBy (model prog w) A env fun x s' => R (.error x) s') s → codeAny (model prog w) A (.compStart E k it acc env) R s
theorem body_out {Y : Cx} (hc : Y.calm = true) (hx : Y.xe = F0) {E t1 i1 : Expr} {ifs1 : List Expr} {k : Nat} {D : Addr} {wi : TI} {g1 : TG} {tt1 : TT} {tb1 : TBd} {vs : List Nat} {σ0 : St} {B : (Shared → Prop) → Shared → Prop} (hst : StartOk Y.prog Y.w Y.A E (k + 1) (.ref D) Y.env)
    (LR : ∀ (it : Addr) (R : Result → Shared → Prop) (I : Nat → Shared → Prop), (∀ n s, I n s → TurnW Y.prog Y.w Y.A t1 ifs1 (.ref it) Y.env B (fun s' => R (.ok .next) s') (fun s' => ∃ m, m < n ∧ I m s') s) → ∀ (n : Nat) (s : Shared), I n s → codeAny (model Y.prog Y.w) Y.A (.compLoop E (k + 1) (.ref it) (.ref D) Y.env) R s)
    (mono : ∀ (post post' : Shared → Prop) s, (∀ s', post s' → post' s') → B post s → B post' s) (pi : PI Y t1 i1 wi) (pg : PG Y t1 g1) (pt : PTs Y ifs1 tt1) (bo : BodyOk Y B tb1 vs σ0) :
    BodyOk Y (outB Y.prog Y.w Y.A E i1 k (.ref D) Y.env) (tbOut wi g1 tt1 tb1 vs σ0) vs σ0 := by
  refine ⟨fun pins s σ2 H Nx hw I h => ?_⟩
  have a := pi.run pins s σ2 H _ I h
  rw [hx] at a
  refine wpAny_mono a (fun xv s1 h1 => wpAny_mono h1 (fun itv s2 h2 => ?_) fun _ _ z => z) fun _ _ z => z
  obtain ⟨it, fp, tn, J, H2, e, I2, T, st2, f2, q2⟩ := h2
  subst e
  have lp := loopK hc (LR it) hx pg pt bo T mono (inv_wipe I2 hw) st2 f2 q2
  have lp' : codeAny (model Y.prog Y.w) Y.A (.compLoop E (k + 1) (.ref it) (.ref D) Y.env) (fun r s' => match r with
    | .ok _ => ∃ H', Inv Y pins σ0 H' s' ∧ Nx H'
    | .error _ => False) s2 := codeAny_mono lp fun r s' ⟨hr, q⟩ => by subst hr; exact q
  exact hst _ _ _ lp' (T.self Y.A 0 _ _ _ st2 lp')

theorem start_1 {prog : Program} {w : World} {A : Around} {e0 : Expr} {c0 c1 c2 : Comprehension} {scope : Scope} {ps : Pos} {acc : Value} {env : Env} (h1 : c1.is_async = 0) : StartOk prog w A (.ListComp e0 [c0, c1, c2] scope ps) 1 acc env := by
  intro it R s h0 h
  refine codeAny_of_tree ?_
  show wpAny _ _ ((compStart (.ListComp e0 [c0, c1, c2] scope ps) 1 it acc env).onRaise fun x => do noteFrame x env; standAt theWindowsPlace) _ _ s
  refine wpAny_notedAt ?_
  obtain ⟨ct, ci, cf, ca⟩ := c1
  have h1 : ca = 0 := h1
  subst h1
  unfold compStart
  show wpAny _ _ (ask >>= _) _ _ s
  refine wpAny_bind (wpAny_askSetting (wpAny_ite ?_))
  split
  · first
      | exact wpAny_bind (wpAny_pure (wpAny_pure ⟨rfl, h0⟩))
      | exact wpAny_pure ⟨rfl, h0⟩
  · first
      | exact wpAny_bind (wpAny_rule (wpAny_bind (wpAny_standAt (wpAny_bind (wpAny_mono h (fun it' s' h' => wpAny_pure ⟨rfl, h'⟩) fun _ _ x => x)))))
      | (refine wpAny_bind (wpAny_rule ?_); show wpAny _ _ (standAt ci.pos >>= _) _ _ s; exact wpAny_bind (wpAny_standAt (wpAny_bind (wpAny_mono h (fun it' s' h' => wpAny_pure ⟨rfl, h'⟩) fun _ _ x => x))))
theorem start_2 {prog : Program} {w : World} {A : Around} {e0 : Expr} {c0 c1 c2 : Comprehension} {scope : Scope} {ps : Pos} {acc : Value} {env : Env} (h1 : c2.is_async = 0) : StartOk prog w A (.ListComp e0 [c0, c1, c2] scope ps) 2 acc env := by
  intro it R s h0 h
  refine codeAny_of_tree ?_
  show wpAny _ _ ((compStart (.ListComp e0 [c0, c1, c2] scope ps) 2 it acc env).onRaise fun x => do noteFrame x env; standAt theWindowsPlace) _ _ s
  refine wpAny_notedAt ?_
  obtain ⟨ct, ci, cf, ca⟩ := c2
  have h1 : ca = 0 := h1
  subst h1
  unfold compStart
  show wpAny _ _ (ask >>= _) _ _ s
  refine wpAny_bind (wpAny_askSetting (wpAny_ite ?_))
  split
  · first
      | exact wpAny_bind (wpAny_pure (wpAny_pure ⟨rfl, h0⟩))
      | exact wpAny_pure ⟨rfl, h0⟩
  · first
      | exact wpAny_bind (wpAny_rule (wpAny_bind (wpAny_standAt (wpAny_bind (wpAny_mono h (fun it' s' h' => wpAny_pure ⟨rfl, h'⟩) fun _ _ x => x)))))
      | (refine wpAny_bind (wpAny_rule ?_); show wpAny _ _ (standAt ci.pos >>= _) _ _ s; exact wpAny_bind (wpAny_standAt (wpAny_bind (wpAny_mono h (fun it' s' h' => wpAny_pure ⟨rfl, h'⟩) fun _ _ x => x))))

/-- [elt for tg in iter for tg1 in iter1 for tg2 in iter2], each with its tests: the block's own names are forgotten between turns -/
def tLc3 (wi : TI) (g : TG) (tt : TT) (wi1 : TI) (g1 : TG) (tt1 : TT) (wi2 : TI) (g2 : TG) (tt2 : TT) (te : TE) (vs : List Nat) : TE := fun σ H Q => wi σ H fun J H1 => ∀ D, H1 D = none →
  tLoop J g tt (tbOut wi1 g1 tt1 (tbOut wi2 g2 tt2 (tbIn te D) vs (wipe σ vs)) vs (wipe σ vs)) vs (wipe σ vs) (upd H1 D (.lst [])) fun H => Q (.ref D) H
theorem pe_lc3 {X : Cx} {elt tg iter tg1 iter1 tg2 iter2 : Expr} {ifs ifs1 ifs2 : List Expr} {scope : Scope} {own : List (Str × Nat)} {pos : Pos} {wi wi1 wi2 : TI} {g g1 g2 : TG} {tt tt1 tt2 : TT} {te : TE}
    (hc : X.calm = true) (hN : X.N.Nodup) (hi : PI X tg iter wi) (ok : BlkOk X.N X.env.scope scope own)
    (hg : ∀ s H C cl fp, PG (X.blk s H scope (compEnvC scope cl C X.env) fp) tg g) (ht : ∀ s H C cl fp, PTs (X.blk s H scope (compEnvC scope cl C X.env) fp) ifs tt)
    (hi1 : ∀ s H C cl fp, PI (X.blk s H scope (compEnvC scope cl C X.env) fp) tg1 iter1 wi1) (hg1 : ∀ s H C cl fp, PG (X.blk s H scope (compEnvC scope cl C X.env) fp) tg1 g1) (ht1 : ∀ s H C cl fp, PTs (X.blk s H scope (compEnvC scope cl C X.env) fp) ifs1 tt1)
    (hi2 : ∀ s H C cl fp, PI (X.blk s H scope (compEnvC scope cl C X.env) fp) tg2 iter2 wi2) (hg2 : ∀ s H C cl fp, PG (X.blk s H scope (compEnvC scope cl C X.env) fp) tg2 g2) (ht2 : ∀ s H C cl fp, PTs (X.blk s H scope (compEnvC scope cl C X.env) fp) ifs2 tt2)
    (he : ∀ s H C cl fp, PE (X.blk s H scope (compEnvC scope cl C X.env) fp) elt te) (hs : ∀ x, foldedSetIterable iter X.env x = pure x := by intro _; rfl)
    (hs1 : ∀ env x, foldedSetIterable iter1 env x = pure x := by intro _ _; rfl) (hs2 : ∀ env x, foldedSetIterable iter2 env x = pure x := by intro _ _; rfl) :
    PE X (.ListComp elt [⟨tg, iter, ifs, 0⟩, ⟨tg1, iter1, ifs1, 0⟩, ⟨tg2, iter2, ifs2, 0⟩] scope pos) (tLc3 wi g tt wi1 g1 tt1 wi2 g2 tt2 te (own.map (·.2))) := by
  refine ⟨fun pins s σ H Q I h => ?_⟩
  rw [eval_ListComp]
  have captured : ∀ y ∈ scope.names, y.2 = .free → ∃ c, X.env.cells.lookup y.1 = some c := fun y hy e => (ok.free y hy e).elim (fun k => I.ok.has _ (.inl k)) fun k => I.ok.has _ (.inr k)
  refine wpAny_comprehension_free (use := none) rfl hs (closure_ok captured) ok.kind (fun y hy e => by rw [ok.uniq y hy, e]) (thn (hi.run pins s σ H _ I h) fun xv s1 h1 => thn h1 fun itv s2 h2 => ?_)
  obtain ⟨it, fp, tn, J, H2, e, I2, T, st2, f2, q⟩ := h2
  subst e
  refine wpAny_newObj_type (newEnv_comp ?_) (by show 0 ≤ sizeLine; decide)
  generalize hD : s2.heap.objs.size = D
  have hDn : H2 D = none := I2.hok.fresh (Nat.le_of_eq hD)
  have q := q D hDn
  generalize hs3 : ({ s2 with heap := s2.heap.push { cls := .type "list", data := .seq ([] : List Value).toArray } } : Shared) = s3
  have k3 : ∀ b o, s2.heap.get? b = some o → s3.heap.get? b = some o := fun b o e => by rw [← hs3]; exact Heap.get?_push_of_some _ e
  have z3 : s2.heap.objs.size < s3.heap.objs.size := by rw [← hs3]; show _ < (s2.heap.push _).objs.size; rw [Heap.size_push]; exact Nat.lt_succ_self _
  have I3 : Inv X pins σ (upd H2 D (.lst [])) s3 := by
    rw [← hs3]
    refine I2.laid (t' := s2.toks) (fun b o e => Heap.get?_push_of_some _ e) (Nat.le_of_eq hD) ⟨Nat.zero_le _, [], 0, .nil, ?_⟩
    rw [← hD]
    exact Heap.get?_push_size _ rfl
  have low : ∀ b ∈ fp, b < s2.heap.objs.size := fun b hb => let ⟨o, e, _⟩ := T.obj _ _ st2 b hb; Heap.lt_size e
  have f3 : ∀ b ∈ fp, FpOk X pins (upd H2 D (.lst [])) b ∧ b < s3.heap.objs.size := fun b hb => by
    refine ⟨⟨?_, (f2 b hb).2⟩, Nat.lt_trans (low b hb) z3⟩
    rw [upd_ne (by rw [← hD]; exact Nat.ne_of_lt (low b hb))]
    exact (f2 b hb).1
  have I4 := block_start I3 ok hN f3
  have pgs := fun cl => hg s3 (upd H2 D (.lst [])) s3.heap.objs.size cl fp
  have pts := fun cl => ht s3 (upd H2 D (.lst [])) s3.heap.objs.size cl fp
  have pis1 := fun cl => hi1 s3 (upd H2 D (.lst [])) s3.heap.objs.size cl fp
  have pgs1 := fun cl => hg1 s3 (upd H2 D (.lst [])) s3.heap.objs.size cl fp
  have pts1 := fun cl => ht1 s3 (upd H2 D (.lst [])) s3.heap.objs.size cl fp
  have pis2 := fun cl => hi2 s3 (upd H2 D (.lst [])) s3.heap.objs.size cl fp
  have pgs2 := fun cl => hg2 s3 (upd H2 D (.lst [])) s3.heap.objs.size cl fp
  have pts2 := fun cl => ht2 s3 (upd H2 D (.lst [])) s3.heap.objs.size cl fp
  have pes := fun cl => he s3 (upd H2 D (.lst [])) s3.heap.objs.size cl fp
  generalize hcl : cellsFrom (s3.heap.objs.size + 1) scope.names (cloFrom X.env.cells scope.names []) = cl at I4
  show codeAny _ _ (.compStart _ 0 (.ref it) (.ref D) (compEnvC scope cl s3.heap.objs.size X.env)) (compPost (model X.prog X.w) X.A X.xe none (EP X pins σ Q) (.ref D) s3.heap.objs.size) { s3 with heap := pushCells (s3.heap.push { cls := .type "dict", data := .dict #[] }) scope.names }
  have pg := pgs cl
  have pt := pts cl
  have pi1 := pis1 cl
  have pg1 := pgs1 cl
  have pt1 := pts1 cl
  have pi2 := pis2 cl
  have pg2 := pgs2 cl
  have pt2 := pts2 cl
  have pe := pes cl
  have nfp : ∀ b ∈ fp, (upd H2 D (.lst [])) b = none := fun b hb => (f3 b hb).1.1
  have cL : (compEnvC scope cl s3.heap.objs.size X.env).locals = s3.heap.objs.size := rfl
  generalize compEnvC scope cl s3.heap.objs.size X.env = ce at I4 pg pt pi1 pg1 pt1 pi2 pg2 pt2 pe cL ⊢
  generalize hH3 : upd H2 D (.lst []) = H3 at I3 I4 pg pt pi1 pg1 pt1 pi2 pg2 pt2 pe nfp f3 q
  generalize hs4 : ({ s3 with heap := pushCells (s3.heap.push { cls := .type "dict", data := .dict #[] }) scope.names } : Shared) = s4 at I4 ⊢
  have st4 : tn 0 s4.heap := T.keep _ _ _ st2 fun b _ o e => by rw [← hs4]; exact pushCells_keeps _ _ _ _ (Heap.get?_push_of_some _ (k3 b o e))
  have f4 : ∀ b ∈ fp, FpOk (X.blk s3 H3 scope ce fp) [] H3 b := fun b hb => ⟨nfp b hb, (I4.ok.exf b hb).1, I4.ok.exfs b hb, .inl hb, fun x c e => (I4.ok.exf b hb).2 x c e, fun p hp => nomatch hp⟩
  have b2 : BodyOk (X.blk s3 H3 scope ce fp) (inB X.prog X.w X.A elt (.ref D) ce) (tbIn te D) (own.map (·.2)) (wipe σ (own.map (·.2))) := body_in rfl pe
  have b1 : BodyOk (X.blk s3 H3 scope ce fp) (outB X.prog X.w X.A (.ListComp elt [⟨tg, iter, ifs, 0⟩, ⟨tg1, iter1, ifs1, 0⟩, ⟨tg2, iter2, ifs2, 0⟩] scope pos) iter2 1 (.ref D) ce) (tbOut wi2 g2 tt2 (tbIn te D) (own.map (·.2)) (wipe σ (own.map (·.2)))) (own.map (·.2)) (wipe σ (own.map (·.2))) :=
    body_out (Y := X.blk s3 H3 scope ce fp) hc rfl (start_2 rfl) (fun it R I tr n s hI => loop_in (i := iter2) rfl I tr n hI) inB_mono pi2 pg2 pt2 b2
  have b0 : BodyOk (X.blk s3 H3 scope ce fp) (outB X.prog X.w X.A (.ListComp elt [⟨tg, iter, ifs, 0⟩, ⟨tg1, iter1, ifs1, 0⟩, ⟨tg2, iter2, ifs2, 0⟩] scope pos) iter1 0 (.ref D) ce) (tbOut wi1 g1 tt1 (tbOut wi2 g2 tt2 (tbIn te D) (own.map (·.2)) (wipe σ (own.map (·.2)))) (own.map (·.2)) (wipe σ (own.map (·.2)))) (own.map (·.2)) (wipe σ (own.map (·.2))) :=
    body_out (Y := X.blk s3 H3 scope ce fp) hc rfl (start_1 rfl) (fun it R I tr n s hI => loop_out (i := iter1) rfl (hs2 ce) I tr n hI) outB_mono pi1 pg1 pt1 b1
  have loop := loopK (Y := X.blk s3 H3 scope ce fp) (pins := []) (k := 0) (acc := .ref D) hc (fun R I tr n s hI => loop_out (i := iter) rfl (hs1 ce) I tr n hI) rfl pg pt b0 T outB_mono I4 st4 f4 q
  have fin : codeAny (model X.prog X.w) X.A (.compLoop (.ListComp elt [⟨tg, iter, ifs, 0⟩, ⟨tg1, iter1, ifs1, 0⟩, ⟨tg2, iter2, ifs2, 0⟩] scope pos) 0 (.ref it) (.ref D) ce) (compPost (model X.prog X.w) X.A X.xe none (EP X pins σ Q) (.ref D) s3.heap.objs.size) s4 := by
    refine codeAny_mono loop fun r s6 ⟨hr, H6, I6, q6⟩ => ?_
    subst hr
    have I7 : Inv X pins σ H6 s6 := I3.call' (ch := fp) I6.os I6.base I6.hok I6.bare fun b hb => ⟨(f3 b hb).1.2.2.2.1, (f3 b hb).1.2.1, (f3 b hb).1.2.2.2.2.1, (f3 b hb).1.2.2.2.2.2⟩
    have nC : H6 s3.heap.objs.size = none := by
      have z : H6 ce.locals = none := I6.free
      rw [cL] at z
      exact z
    obtain ⟨m, hn, _⟩ := I6.loc
    have hn : s6.heap.Ns ce.locals m := hn
    rw [cL] at hn
    obtain ⟨g0, g1, g2, g3, g4, g5⟩ := I3.fpOk (H' := H6) (Nat.le_refl _) nC
    refine ⟨m, hn, fun h'' sb => ?_⟩
    exact ⟨.ref D, H6, I7.turned (t' := s6.toks) (fun b o hb e => (sb.2 b hb).trans e) g0 g1 g3 g4 g5, rfl, q6⟩
  exact codeAny_compStart_list fin (T.self X.A 0 _ _ _ st4 fin)
end K79

/-! #### part K79W5 -/
namespace K79
open PySem PySem.Spec PyProof.Rows L2
theorem tLoop_list {K : PySem.W.Frag} {a : Addr} {xs : List V} {g : TG} {tt : TT} {tb : TBd} {vs : List Nat} {σ0 : K79.St} {H0 : Hp} {Q : Hp → Prop} (Pv : Nat → Hp → Prop) (h0 : Pv 0 H0) (hl : ∀ i H, i ≤ xs.length → Pv i H → SqL K H a xs)
    (hs : ∀ i x H, xs[i]? = some x → Pv i H → g x σ0 H fun σ2 H2 => wipe σ2 vs = σ0 ∧ tt σ2 H2 fun b H3 => if b = true then tb σ2 H3 (Pv (i + 1)) else Pv (i + 1) H3) (hd : ∀ H, Pv xs.length H → Q H) : tLoop (Itl K a) g tt tb vs σ0 H0 Q := by
  refine ⟨fun i m H => m = xs.length - i ∧ i ≤ xs.length ∧ Pv i H, ⟨xs.length, by simp, Nat.zero_le _, h0⟩, ?_⟩
  rintro i m H ⟨rfl, hi, p⟩
  have q := hl i H hi p
  by_cases hlt : i < xs.length
  · refine .inr ⟨⟨xs, xs[i], q, by simp [hlt]⟩, Pv (i + 1), fun H' p' => ⟨xs.length - (i + 1), by omega, rfl, hlt, p'⟩, fun x H' y => ?_⟩
    obtain ⟨e, y⟩ := y
    subst e
    exact hs i x _ (y xs q) p
  · have e : i = xs.length := by omega
    subst e
    exact .inl ⟨⟨xs, q, Nat.le_refl _⟩, hd H p⟩
theorem tLoop_tup {K : PySem.W.Frag} {a : Addr} {xs : List V} {g : TG} {tt : TT} {tb : TBd} {vs : List Nat} {σ0 : K79.St} {H0 : Hp} {Q : Hp → Prop} (Pv : Nat → Hp → Prop) (h0 : Pv 0 H0) (hl : ∀ i H, i ≤ xs.length → Pv i H → SqT K H a xs)
    (hs : ∀ i x H, xs[i]? = some x → Pv i H → g x σ0 H fun σ2 H2 => wipe σ2 vs = σ0 ∧ tt σ2 H2 fun b H3 => if b = true then tb σ2 H3 (Pv (i + 1)) else Pv (i + 1) H3) (hd : ∀ H, Pv xs.length H → Q H) : tLoop (Itt K a) g tt tb vs σ0 H0 Q := by
  refine ⟨fun i m H => m = xs.length - i ∧ i ≤ xs.length ∧ Pv i H, ⟨xs.length, by simp, Nat.zero_le _, h0⟩, ?_⟩
  rintro i m H ⟨rfl, hi, p⟩
  have q := hl i H hi p
  by_cases hlt : i < xs.length
  · refine .inr ⟨⟨xs, xs[i], q, by simp [hlt]⟩, Pv (i + 1), fun H' p' => ⟨xs.length - (i + 1), by omega, rfl, hlt, p'⟩, fun x H' y => ?_⟩
    obtain ⟨e, y⟩ := y
    subst e
    exact hs i x _ (y xs q) p
  · have e : i = xs.length := by omega
    subst e
    exact .inl ⟨⟨xs, q, Nat.le_refl _⟩, hd H p⟩
theorem flat_take {α β : Type} (f : α → List β) {l : List α} {i : Nat} {x : α} (h : l[i]? = some x) : (l.take (i + 1)).flatMap f = (l.take i).flatMap f ++ f x := by
  rw [List.take_add_one, h, List.flatMap_append]
  simp
theorem flat_len {α β : Type} (f : α → List β) (n : Nat) : ∀ l : List α, (∀ x ∈ l, (f x).length ≤ n) → (l.flatMap f).length ≤ l.length * n
  | [], _ => by simp
  | x :: r, h => by
    have a := flat_len f n r fun y hy => h y (List.mem_cons_of_mem _ hy)
    have b := h x List.mem_cons_self
    rw [List.flatMap_cons, List.length_append, List.length_cons, Nat.succ_mul]
    omega
section
variable {P : Program} {w : World} {K : PySem.W.Frag} {mg : Str → Option Value} {base : Heap}
/-! ### scale_of -/
abbrev s_scale_of : Stmt := topS 22
abbrev n_scale_of : List Str := ["parts", "many", "base", "part", "place", "number"]
theorem sc_scale_of : FnScope n_scale_of ["parts"] (defScope s_scale_of) := ⟨rfl, rfl, rfl, by decide +kernel, rfl, by decide +kernel, by decide +kernel⟩
def sp_scale_of : Sp := fun vs H Q _ => ∃ (v : V) (B : Int) (pss : List (List Pt)), vs = [v] ∧ Parts B H v pss ∧ FewP pss ∧ 0 < B ∧ B ≤ 1000 ∧ ∀ H', Same H H' → Q (.int (scaleM B pss)) H'
abbrev bPt (B : Int) (q : Pt) : List Int := [numB B q.1, numB B q.2]
abbrev bPl (B : Int) (p : List Pt) : List Int := p.flatMap (bPt B)
theorem bPl_len (B : Int) (p : List Pt) : (bPl B p).length ≤ p.length * 2 := flat_len _ 2 p fun _ _ => Nat.le_refl _
theorem bases_len (B : Int) {pss : List (List Pt)} (few : FewP pss) (i : Nat) : (basesM B (pss.take i)).length ≤ 800 := by
  have h := flat_len (bPl B) 200 (pss.take i) fun p hp => by
    have := (few.each p (List.mem_of_mem_take hp)).2
    have := bPl_len B p
    omega
  have l : (pss.take i).length ≤ 4 := by
    rw [List.length_take]
    have := few.most
    omega
  have : (basesM B (pss.take i)).length ≤ (pss.take i).length * 200 := h
  omega
theorem fold_take {B : Int} (hB : 0 < B) {l : List Int} (h : ∀ b ∈ l, 0 < b ∧ b ∣ B) (i : Nat) : 0 < (l.take i).foldl lcmI 1 ∧ (l.take i).foldl lcmI 1 ≤ B := by
  have a := fold_lcm hB (l.take i) 1 (by decide) (Int.one_dvd B) fun b hb => h b (List.mem_of_mem_take hb)
  exact ⟨a.1, Int.le_of_dvd hB a.2.1⟩
theorem ok_scale_of {f : Addr} {fd : FuncData} (F : Fun K "scale_of" "scale_of" s_scale_of f fd)
    (c_base_of : Cal P w K mg base 1 "base_of" ["number"] sp_base_of) (c_common_part : Cal P w K mg base 1 "common_part" ["one", "other"] sp_common_part) : FnOk P w K mg base CX0 2 f fd ["parts"] sp_scale_of := by
  refine F.ok sc_scale_of (fun vs H Q E h => ?_) (fun cdv A outer s H vs Q E hr h => ?_)
  · obtain ⟨v, _, _, rfl, _⟩ := h; rfl
  · refine ⟨_, (pss_cons (ps_set (i := 1) sc_scale_of.nd rfl (.inl rfl) pe_int)
 (pss_cons (ps_for PassesOwn.never rfl (pi_list (pe_lc3 (own := [("part", 3), ("place", 4), ("number", 5)]) (wi1 := iList K (tVar 3)) (wi2 := iTup K (tVar 4)) rfl sc_scale_of.nd (pi_list (pv 0)) (blkOk_by (N := n_scale_of) (sc := defScope s_scale_of) (own := [("part", 3), ("place", 4), ("number", 5)]) (by decide +kernel)) (fun _ _ _ _ _ => (pg_name (i := 3) sc_scale_of.nd rfl (.inl rfl))) (fun _ _ _ _ _ => pts_nil) (fun _ _ _ _ _ => (pi_list (pv 3))) (fun _ _ _ _ _ => (pg_name (i := 4) sc_scale_of.nd rfl (.inl rfl))) (fun _ _ _ _ _ => pts_nil) (fun _ _ _ _ _ => (pi_tup (pv 4))) (fun _ _ _ _ _ => (pg_name (i := 5) sc_scale_of.nd rfl (.inl rfl))) (fun _ _ _ _ _ => pts_nil) (fun _ _ _ _ _ => (pe_cal c_base_of (hr.mono (by decide)) (by rfl) (pa_cons (pv 5) pa_nil))))) (pg_name (i := 2) sc_scale_of.nd rfl (.inl rfl))
 (pss_one (ps_set (i := 1) sc_scale_of.nd rfl (.inl rfl) (pe_op op_fdivW (pe_op op_mulW (pv 1) (pv 2)) (pe_cal c_common_part (hr.mono (by decide)) (by rfl) (pa_cons (pv 1) (pa_cons (pv 2) pa_nil)))))))
 (pss_one (ps_ret (pv 1))))), ?_⟩
    obtain ⟨v, B, pss, rfl, ⟨a, vs, rfl, ha, hp⟩, few, hB, hB2, q⟩ := h
    have lp : vs.length = pss.length := Paired.length hp
    -- the comprehension
    refine ⟨_, rfl, a, rfl, ⟨_, .of ha⟩, fun D hD => ?_⟩
    refine tLoop_list (K := K) (a := a) (xs := vs) (fun i H' => Same H H' ∧ H' D = some (.lst ((basesM B (pss.take i)).map V.int))) ⟨same_upd hD, upd_same⟩ (fun i H' _ h => .of (h.1 _ _ ha)) (fun i x H' hi h => ?_) (fun H' h => ?_)
    · obtain ⟨s1, d1⟩ := h
      obtain ⟨p, hpi, b, us, rfl, hb, hq⟩ := Paired.get hp hi
      have lq : us.length = p.length := Paired.length hq
      have g2 := (few.each p (List.mem_of_getElem? hpi)).2
      have bl := bases_len B few i
      refine ⟨rfl, ?_⟩
      refine ⟨_, rfl, b, rfl, ⟨_, .of (s1 _ _ hb)⟩, ?_⟩
      refine tLoop_list (K := K) (a := b) (xs := us) (fun j H' => Same H H' ∧ H' D = some (.lst ((basesM B (pss.take i) ++ bPl B (p.take j)).map V.int))) ⟨s1, by rw [d1]; simp [bPl]⟩ (fun j H' _ h => .of (h.1 _ _ hb)) (fun j x H' hj h => ?_) (fun H' h => ?_)
      · obtain ⟨s2, d2⟩ := h
        obtain ⟨pt, hpt, c, u, w', rfl, hc, hu, hw⟩ := Paired.get hq hj
        have hj2 := (List.getElem?_eq_some_iff.mp hpt).1
        have pl := bPl_len B (p.take j)
        have pl2 : (p.take j).length ≤ 100 := by rw [List.length_take]; omega
        refine ⟨rfl, ?_⟩
        refine ⟨_, rfl, c, rfl, ⟨_, .of (s2 _ _ hc)⟩, ?_⟩
        refine tLoop_tup (K := K) (a := c) (xs := [u, w']) (fun l H' => Same H H' ∧ H' D = some (.lst ((basesM B (pss.take i) ++ bPl B (p.take j) ++ (bPt B pt).take l).map V.int))) ⟨s2, by rw [d2]; simp⟩ (fun l H' _ h => .of (h.1 _ _ hc)) (fun l x H' hl h => ?_) (fun H' h => ?_)
        · obtain ⟨s3, d3⟩ := h
          have hl2 : l < 2 := (List.getElem?_eq_some_iff.mp hl).1
          have hx : ∃ y t, (bPt B pt)[l]? = some y ∧ Num H' x (t, y) := by
            match l, hl with
            | 0, hl =>
              have e : u = x := Option.some.inj hl
              subst e
              exact ⟨_, _, rfl, mono_num _ _ _ _ s3 hu⟩
            | 1, hl =>
              have e : w' = x := Option.some.inj hl
              subst e
              exact ⟨_, _, rfl, mono_num _ _ _ _ s3 hw⟩
          obtain ⟨y, t, hy, hn⟩ := hx
          refine ⟨rfl, _, rfl, x, (t, y), rfl, hn, _, d3, ?_, ?_, ?_⟩
          · rw [List.length_map, List.length_append, List.length_append, List.length_take]
            exact Nat.lt_of_le_of_lt (by show _ ≤ 1100; simp only [List.length_cons, List.length_nil]; omega) (show 1100 < sizeLine by decide)
          · exact same_mut s3 hD
          · rw [upd_same, List.take_add_one, hy]
            simp
        · obtain ⟨s3, d3⟩ := h
          refine ⟨s3, ?_⟩
          rw [d3]
          have e : bPl B (p.take (j + 1)) = bPl B (p.take j) ++ bPt B pt := flat_take (bPt B) hpt
          rw [e, List.append_assoc]
          rfl
      · obtain ⟨s2, d2⟩ := h
        refine ⟨s2, ?_⟩
        have e : basesM B (pss.take (i + 1)) = basesM B (pss.take i) ++ bPl B p := flat_take (bPl B) hpi
        rw [d2, e, lq, List.take_length]
    · obtain ⟨s1, d1⟩ := h
      rw [lp, List.take_length] at d1
      have hb := bases_ok hB (pss := pss)
      -- the loop over the bases
      refine ⟨D, rfl, ⟨_, .of d1⟩, for_list (xs := (basesM B pss).map V.int) (fun i σ H'' => ∃ z2 z3 z4 z5, σ = [some (.ref a), some (.int (((basesM B pss).take i).foldl lcmI 1)), z2, z3, z4, z5] ∧ H'' = H') ⟨_, _, _, _, rfl, rfl⟩ (fun i σ H'' _ h => ?_) (fun i x σ H'' hi h => ?_) (fun σ H'' h => ?_)⟩
      · obtain ⟨_, _, _, _, _, rfl⟩ := h
        exact .of d1
      · obtain ⟨z2, z3, z4, z5, rfl, rfl⟩ := h
        rw [List.getElem?_map] at hi
        obtain ⟨b, hbi, rfl⟩ := Option.map_eq_some_iff.mp hi
        obtain ⟨b0, bd⟩ := hb b (List.mem_of_getElem? hbi)
        have b1 : b ≤ B := Int.le_of_dvd hB bd
        obtain ⟨m0, m1⟩ := fold_take hB hb i
        have sm := sm_small (i := ((basesM B pss).take i).foldl lcmI 1) (by omega)
        have sb := sm_small (i := b) (by omega)
        obtain ⟨g0, g1⟩ := gcd_le (t := ((basesM B pss).take i).foldl lcmI 1) b0
        refine ⟨_, rfl, _, rfl, _, _, rfl, rfl, sm_mulW sm sb, _, rfl, _, rfl, _, _, rfl, _, _, rfl, rfl, sm_divW g0 (sm_small (by omega)), ?_⟩
        refine ⟨some (.int b), z3, z4, z5, ?_, rfl⟩
        have e : ((basesM B pss).take (i + 1)).foldl lcmI 1 = lcmI (((basesM B pss).take i).foldl lcmI 1) b := by
          rw [List.take_add_one, hbi, List.foldl_append]
          rfl
        rw [e]
        rfl
      · obtain ⟨z2, z3, z4, z5, rfl, rfl⟩ := h
        refine ⟨_, rfl, ?_⟩
        have e := q H'' s1
        rw [List.length_map, List.take_length]
        exact e
end
end K79

/-! #### part K79D -/
/-! a heap without one object that still changes -/
namespace K79
open PySem PySem.Spec PyProof.Rows L2
def rem (H : Hp) (D : Addr) : Hp := fun b => if b = D then none else H b
theorem rem_self {H : Hp} {D : Addr} : rem H D D = none := if_pos rfl
theorem rem_ne {H : Hp} {D b : Addr} (h : b ≠ D) : rem H D b = H b := if_neg h
theorem rem_upd {H : Hp} {D : Addr} {o : HO} : rem (upd H D o) D = rem H D := by
  funext b
  by_cases e : b = D
  · rw [e, rem_self, rem_self]
  · rw [rem_ne e, rem_ne e, upd_ne e]
theorem rem_same {H : Hp} {D : Addr} : Same (rem H D) H := fun b o e => by
  by_cases h : b = D
  · rw [h, rem_self] at e; cases e
  · rw [rem_ne h] at e; exact e
theorem same_rem {H H' : Hp} {D : Addr} (s : Same H H') (h : H D = none) : Same H (rem H' D) := fun b o e => by
  rw [rem_ne (ne_of_none e h)]
  exact s b o e
theorem rem_mono {H H' : Hp} {D : Addr} (s : Same H H') : Same (rem H D) (rem H' D) := fun b o e => by
  by_cases h : b = D
  · rw [h, rem_self] at e; cases e
  · rw [rem_ne h] at e ⊢
    exact s b o e
theorem rem_t2 {H : Hp} {D : Addr} {xs : List V} {v : V} {q : Pt} (hD : H D = some (.lst xs)) (h : T2 H v q) : T2 (rem H D) v q := by
  obtain ⟨a, rfl, ha⟩ := h
  refine ⟨a, rfl, ?_⟩
  rw [rem_ne (ne_of ha hD (fun z => nomatch z))]
  exact ha
theorem rem_t3 {H : Hp} {D : Addr} {xs : List V} {v : V} {q : Row3} (hD : H D = some (.lst xs)) (h : T3 H v q) : T3 (rem H D) v q := by
  obtain ⟨a, rfl, ha⟩ := h
  refine ⟨a, rfl, ?_⟩
  rw [rem_ne (ne_of ha hD (fun z => nomatch z))]
  exact ha
theorem rem_t4 {H : Hp} {D : Addr} {xs : List V} {v : V} {q : Row4} (hD : H D = some (.lst xs)) (h : T4 H v q) : T4 (rem H D) v q := by
  obtain ⟨a, rfl, ha⟩ := h
  refine ⟨a, rfl, ?_⟩
  rw [rem_ne (ne_of ha hD (fun z => nomatch z))]
  exact ha
theorem rem_num {H : Hp} {D : Addr} {xs : List V} {v : V} {q : Pt} (hD : H D = some (.lst xs)) (h : Num H v q) : Num (rem H D) v q := by
  rcases h with h | ⟨h1, h2, a, e, ha⟩
  · exact .inl h
  · refine .inr ⟨h1, h2, a, e, ?_⟩
    rw [rem_ne (ne_of ha hD (fun z => nomatch z))]
    exact ha
theorem rem_pl {B : Int} {H : Hp} {D : Addr} {xs : List V} {v : V} {q : Pt} (hD : H D = some (.lst xs)) (h : Pl B H v q) : Pl B (rem H D) v q := by
  obtain ⟨a, u, w, e, ha, h1, h2⟩ := h
  refine ⟨a, u, w, e, ?_, rem_num hD h1, rem_num hD h2⟩
  rw [rem_ne (ne_of ha hD (fun z => nomatch z))]
  exact ha
/-- R speaks of tuples alone: a list that changes is no matter -/
def Tups {α : Type} (R : Hp → V → α → Prop) : Prop := ∀ (H : Hp) (D : Addr) (xs : List V) (v : V) (q : α), H D = some (.lst xs) → R H v q → R (rem H D) v q
theorem tups_t2 : Tups T2 := fun _ _ _ _ _ => rem_t2
theorem tups_t3 : Tups T3 := fun _ _ _ _ _ => rem_t3
theorem tups_t4 : Tups T4 := fun _ _ _ _ _ => rem_t4
theorem tups_pl (B : Int) : Tups (Pl B) := fun _ _ _ _ _ => rem_pl
theorem rem_all {α : Type} {R : Hp → V → α → Prop} (t : Tups R) {H : Hp} {D : Addr} {xs vs : List V} {ds : List α} (hD : H D = some (.lst xs)) (h : Paired (R H) vs ds) : Paired (R (rem H D)) vs ds := Paired.imp (fun v q r => t H D xs v q hD r) h
/-- a list that is made new: its items -/
def NewL {α : Type} (R : Hp → V → α → Prop) (H H' : Hp) (v : V) (ds : List α) : Prop := ∃ a vs, v = .ref a ∧ H a = none ∧ H' a = some (.lst vs) ∧ Paired (R H') vs ds
theorem NewL.lst {α : Type} {R : Hp → V → α → Prop} {H H' : Hp} {v : V} {ds : List α} (h : NewL R H H' v ds) : Lst R H' v ds := let ⟨a, vs, e, _, h1, h2⟩ := h; ⟨a, vs, e, h1, h2⟩
theorem NewL.rem {α : Type} {R : Hp → V → α → Prop} (t : Tups R) {H H' : Hp} {D : Addr} {xs : List V} {o : HO} {v : V} {ds : List α} (h : NewL R H H' v ds) (hD : H D = some o) (hD' : H' D = some (.lst xs)) : Lst R (rem H' D) v ds := by
  obtain ⟨a, vs, e, n, h1, h2⟩ := h
  refine ⟨a, vs, e, ?_, rem_all t hD' h2⟩
  rw [rem_ne (ne_of_none hD n).symm]
  exact h1
/-- what a list under growth holds: its items, told without the list itself -/
def Grow {α : Type} (R : Hp → V → α → Prop) (H' : Hp) (D : Addr) (ds : List α) : Prop := ∃ vs, H' D = some (.lst vs) ∧ Paired (R (rem H' D)) vs ds
theorem Grow.start {α : Type} {R : Hp → V → α → Prop} {H : Hp} {D : Addr} : Grow R (upd H D (.lst [])) D [] := ⟨[], upd_same, .nil⟩
theorem Grow.len {α : Type} {R : Hp → V → α → Prop} {H : Hp} {D : Addr} {ds : List α} {vs : List V} (h : Grow R H D ds) (e : H D = some (.lst vs)) : vs.length = ds.length := by
  obtain ⟨vs', e', p⟩ := h
  rw [e] at e'
  cases e'
  exact Paired.length p
theorem Grow.keep {α : Type} {R : Hp → V → α → Prop} (m : Mono R) {H H' : Hp} {D : Addr} {ds : List α} (h : Grow R H D ds) (s : Same H H') : Grow R H' D ds := by
  obtain ⟨vs, e, p⟩ := h
  exact ⟨vs, s _ _ e, mono_all m (rem_mono s) p⟩
theorem Grow.snoc {α : Type} {R : Hp → V → α → Prop} {H : Hp} {D : Addr} {ds : List α} {v : V} {d : α} {vs : List V} (h : Grow R H D ds) (e : H D = some (.lst vs)) (hv : R (rem H D) v d) : Grow R (upd H D (.lst (vs ++ [v]))) D (ds ++ [d]) := by
  obtain ⟨vs', e', p⟩ := h
  rw [e] at e'
  cases e'
  refine ⟨_, upd_same, ?_⟩
  rw [rem_upd]
  exact p.snoc hv
theorem Grow.done {α : Type} {R : Hp → V → α → Prop} (m : Mono R) {H H0 : Hp} {D : Addr} {ds : List α} (h : Grow R H D ds) (n : H0 D = none) : NewL R H0 H (.ref D) ds := by
  obtain ⟨vs, e, p⟩ := h
  exact ⟨D, vs, rfl, n, e, mono_all m rem_same p⟩
end K79

/-! #### part K79W6 -/
namespace K79
open PySem PySem.Spec PyProof.Rows L2
/-! ### where a comprehension stands within another one -/
def bodyOf : Stmt → List Stmt
  | .For _ _ b _ _ => b
  | _ => []
def exprOf : Stmt → Expr
  | .Expr e _ => e
  | _ => .Name "" ⟨0, 0, 0, 0⟩
def argOf : Expr → Expr
  | .Call _ (a :: _) _ _ => a
  | e => e
def compScope : Expr → Scope
  | .ListComp _ _ sc _ => sc
  | _ => { kind := .function, names := [], isGenerator := false, isCoroutine := false }
/-- tuple(xs), by what is read -/
abbrev rTupOf (K : PySem.W.Frag) : List V → Hp → VK → Prop := fun xs H Q => ∃ p ys, xs = [.ref p] ∧ ((SqL K H p ys ∧ ∀ l, H l = none → Q (.ref l) (upd H l (.tup ys))) ∨ (SqT K H p ys ∧ Q (.ref p) H))
/-! ### sizes of places -/
def Bnd (pss : List (List Pt)) : Prop := ∀ p ∈ pss, ∀ q ∈ p, -1000 ≤ q.1 ∧ q.1 ≤ 1000 ∧ -1000 ≤ q.2 ∧ q.2 ≤ 1000
theorem numT_le {B x M : Int} (hB : 0 < B) (h : -M ≤ x ∧ x ≤ M) : -M ≤ numT B x ∧ numT B x ≤ M := by
  have g := numG_pos (x := x) hB
  have e := numT_mul (B := B) (x := x)
  generalize numG B x = n at *
  generalize numT B x = t at *
  by_cases h0 : 0 ≤ t
  · have := Int.mul_le_mul_of_nonneg_left (show 1 ≤ n by omega) h0
    omega
  · have := Int.mul_le_mul_of_nonpos_left (show t ≤ 0 by omega) (show 1 ≤ n by omega)
    omega
section
variable {P : Program} {w : World} {K : PySem.W.Frag} {mg : Str → Option Value} {base : Heap}
abbrev s_in_wholes : Stmt := topS 23
abbrev n_in_wholes : List Str := ["parts", "many", "found", "part", "place", "number"]
theorem sc_in_wholes : FnScope n_in_wholes ["parts"] (defScope s_in_wholes) := ⟨rfl, rfl, rfl, by decide +kernel, rfl, by decide +kernel, by decide +kernel⟩
abbrev c_in_wholes : Scope := compScope (argOf (exprOf ((bodyOf ((defBody s_in_wholes).getD 2 (.Pass ⟨0, 0, 0, 0⟩))).getD 0 (.Pass ⟨0, 0, 0, 0⟩))))
abbrev IParts : Hp → V → List (List Pt) → Prop := Lst (Lst T2)
def sp_in_wholes : Sp := fun vs H Q _ => ∃ (v : V) (B : Int) (pss : List (List Pt)), vs = [v] ∧ Parts B H v pss ∧ FewP pss ∧ Bnd pss ∧ 0 < B ∧ B ≤ 1000 ∧ ∀ v' H', Same H H' → NewL (Lst T2) H H' v' (wholesM B pss) → Q v' H'
theorem ok_in_wholes (Bl : Blt mg) {f : Addr} {fd : FuncData} (F : Fun K "in_wholes" "in_wholes" s_in_wholes f fd)
    (c_scale_of : Cal P w K mg base 2 "scale_of" ["parts"] sp_scale_of) (c_whole_of : Cal P w K mg base 1 "whole_of" ["number", "many"] sp_whole_of) : FnOk P w K mg base CX0 3 f fd ["parts"] sp_in_wholes := by
  refine F.ok sc_in_wholes (fun vs H Q E h => ?_) (fun cdv A outer s H vs Q E hr h => ?_)
  · obtain ⟨v, _, _, rfl, _⟩ := h; rfl
  · refine ⟨_, (pss_cons (ps_set (i := 1) sc_in_wholes.nd rfl (.inr rfl) (pe_cal c_scale_of (hr.mono (by decide)) (by rfl) (pa_cons (pv 0) pa_nil)))
 (pss_cons (ps_set (i := 2) sc_in_wholes.nd rfl (.inl rfl) (pe_lst pa_nil))
 (pss_cons (ps_for PassesOwn.never rfl (pi_list (pv 0)) (pg_name (i := 3) sc_in_wholes.nd rfl (.inl rfl))
 (pss_one (ps_expr (pe_bm PySem.F.plainAttrs_list PySem.F.slot_list_append PySem.F.type_list_append mt_append (pv 2) (pa_cons (pe_lc (own := [("place", 4)]) (te := tCB (rTupOf K) (tCons (tLc (iTup K (tVar 4)) (gName 5) tYes (tCall sp_whole_of [] E0 (tCons (tVar 5) (tCons (tVar 1) tNil))) [5]) tNil)) rfl sc_in_wholes.nd (pi_list (pv 3)) (blkOk_by (N := n_in_wholes) (sc := defScope s_in_wholes) (own := [("place", 4)]) (by decide +kernel)) (fun _ _ _ _ _ => (pg_name (i := 4) sc_in_wholes.nd rfl (.inl rfl))) (fun _ _ _ _ _ => pts_nil) (fun _ _ _ _ _ => (pe_callTy (T := "tuple") (r := rTupOf K) call_tuple_of (by rfl) Bl.tuple_ (by decide +kernel) (pa_cons (pe_lc (own := [("number", 5)]) (wi := iTup K (tVar 4)) rfl sc_in_wholes.nd (pi_tup (pv 4)) (blkOk_by (N := n_in_wholes) (sc := relS c_in_wholes (defScope s_in_wholes)) (own := [("number", 5)]) (by decide +kernel)) (fun _ _ _ _ _ => (pg_name (i := 5) sc_in_wholes.nd rfl (.inl rfl))) (fun _ _ _ _ _ => pts_nil) (fun _ _ _ _ _ => (pe_cal c_whole_of (hr.mono (by decide)) (by rfl) (pa_cons (pv 5) (pa_cons (pv 1) pa_nil))))) pa_nil)))) pa_nil)))))
 (pss_one (ps_ret (pv 2)))))), ?_⟩
    obtain ⟨v, B, pss, rfl, hP, few, bnd, hB, hB2, q⟩ := h
    refine ⟨_, rfl, _, B, pss, rfl, hP, few, hB, hB2, fun H1 s1 => ?_⟩
    have hP1 := mono_parts B _ _ _ _ s1 hP
    obtain ⟨a, vs, rfl, ha, hp⟩ := hP1
    have m0 := scaleM_pos hB pss
    have m1 := scaleM_le hB pss
    have mdef : ∀ x, wholeOf B (scaleM B pss) x = numT B x * (scaleM B pss / numB B x) := fun _ => rfl
    have lp : vs.length = pss.length := Paired.length hp
    refine ⟨Nat.zero_le _, fun l hl => ?_⟩
    have s2 : Same H1 (upd H1 l (.lst [])) := same_upd hl
    let wh : List Pt → List Pt := fun p => p.map fun q => (wholeOf B (scaleM B pss) q.1, wholeOf B (scaleM B pss) q.2)
    refine ⟨_, rfl, a, rfl, ⟨_, .of (s2 _ _ ha)⟩, for_list (xs := vs) (fun i σ H' => ∃ z3 z4 z5, σ = [some (.ref a), some (.int (scaleM B pss)), some (.ref l), z3, z4, z5] ∧ Same H1 H' ∧ Grow (Lst T2) H' l ((pss.take i).map wh)) ⟨_, _, _, rfl, s2, Grow.start⟩ (fun i σ H' _ h => ?_) (fun i x σ H' hi h => ?_) (fun σ H' h => ?_)⟩
    · obtain ⟨_, _, _, _, s3, _⟩ := h
      exact .of (s3 _ _ ha)
    · obtain ⟨z3, z4, z5, rfl, s3, g3⟩ := h
      obtain ⟨p, hpi, b, us, rfl, hb, hq⟩ := Paired.get hp hi
      have hpm := List.mem_of_getElem? hpi
      have lq : us.length = p.length := Paired.length hq
      have f2 := (few.each p hpm).2
      obtain ⟨ws, hws, pws⟩ := id g3
      refine ⟨_, rfl, .inl ⟨rfl, _, .of hws⟩, ?_⟩
      -- the round's places
      refine ⟨_, rfl, b, rfl, ⟨_, .of (s3 _ _ hb)⟩, fun D hD => ?_⟩
      have s4 : Same H' (upd H' D (.lst [])) := same_upd hD
      refine lc_list (K := K) (a := b) (xs := us) (fun j H'' => Same H' H'' ∧ Grow T2 H'' D (wh (p.take j))) ⟨s4, Grow.start⟩ (fun j H'' _ h => .of (h.1 _ _ (s3 _ _ hb))) (fun j x H'' hj h => ?_) (fun H'' h => ?_)
      · obtain ⟨s5, g5⟩ := h
        obtain ⟨pt, hpt, c, u, w', rfl, hc, hu, hw⟩ := Paired.get hq hj
        have hptm := List.mem_of_getElem? hpt
        obtain ⟨x1, x2, y1, y2⟩ := bnd p hpm pt hptm
        have hj2 := (List.getElem?_eq_some_iff.mp hpt).1
        have s05 : Same H1 H'' := s3.trans s5
        obtain ⟨ds, hds, pds⟩ := id g5
        have lds : ds.length = (wh (p.take j)).length := g5.len hds
        refine ⟨rfl, ?_⟩
        refine ⟨_, rfl, c, rfl, ⟨_, .of (s05 _ _ hc)⟩, fun D2 hD2 => ?_⟩
        refine lc_tup (K := K) (a := c) (xs := [u, w']) (fun i H3 => Same H'' H3 ∧ H3 D2 = some (.lst (([wholeOf B (scaleM B pss) pt.1, wholeOf B (scaleM B pss) pt.2].take i).map V.int))) ⟨same_upd hD2, upd_same⟩ (fun i H3 _ h => .of (h.1 _ _ (s05 _ _ hc))) (fun i x H3 hi h => ?_) (fun H3 h => ?_)
        · obtain ⟨s6, d6⟩ := h
          have hi2 : i < 2 := (List.getElem?_eq_some_iff.mp hi).1
          have hx : ∃ t, [wholeOf B (scaleM B pss) pt.1, wholeOf B (scaleM B pss) pt.2][i]? = some (wholeOf B (scaleM B pss) t) ∧ Num H3 x (numT B t, numB B t) ∧ -1000 ≤ t ∧ t ≤ 1000 := by
            match i, hi with
            | 0, hi =>
              have e : u = x := Option.some.inj hi
              subst e
              exact ⟨_, rfl, mono_num _ _ _ _ (s05.trans s6) hu, x1, x2⟩
            | 1, hi =>
              have e : w' = x := Option.some.inj hi
              subst e
              exact ⟨_, rfl, mono_num _ _ _ _ (s05.trans s6) hw, y1, y2⟩
          obtain ⟨t, ht, hn, t1, t2⟩ := hx
          have nt := numT_le (M := 1000) hB ⟨t1, t2⟩
          have nb := numB_le (x := t) hB
          have nb0 := numB_pos (x := t) hB
          refine ⟨rfl, _, rfl, _, rfl, x, (numT B t, numB B t), scaleM B pss, rfl, hn, sm_small (by show -1000000 ≤ numT B t ∧ numT B t ≤ 1000000; omega), sm_small (by show -1000000 ≤ numB B t ∧ numB B t ≤ 1000000; omega), sm_small (by omega), by omega, _, d6, ?_, same_mut s6 hD2, ?_⟩
          · rw [List.length_map, List.length_take]
            exact small1000 (by omega)
          · rw [upd_same, List.take_add_one, ht]
            simp [wholeOf]
        · obtain ⟨s6, d6⟩ := h
          refine ⟨D2, _, rfl, .inl ⟨.of d6, fun T hT => ?_⟩⟩
          have s7 : Same H3 (upd H3 T (.tup (([wholeOf B (scaleM B pss) pt.1, wholeOf B (scaleM B pss) pt.2].take 2).map V.int))) := same_upd hT
          have g7 := g5.keep mono_t2 (s6.trans s7)
          have h7 := s7 _ _ (s6 _ _ hds)
          refine ⟨ds, h7, ?_, ?_, ?_⟩
          · rw [lds]
            show ((p.take j).map _).length < _
            rw [List.length_map, List.length_take]
            exact small1000 (by omega)
          · exact same_mut (s5.trans (s6.trans s7)) hD
          · have e : wh (p.take (j + 1)) = wh (p.take j) ++ [(wholeOf B (scaleM B pss) pt.1, wholeOf B (scaleM B pss) pt.2)] := by
              show (p.take (j + 1)).map _ = _
              rw [List.take_add_one, hpt, List.map_append]
              rfl
            rw [e]
            exact g7.snoc h7 (rem_t2 h7 ⟨T, rfl, by rw [upd_same]; rfl⟩)
      · obtain ⟨s5, g5⟩ := h
        have n5 := g5.done mono_t2 hD
        rw [lq, List.take_length] at n5
        have h5 := s5 _ _ hws
        have lw : ws.length = ((pss.take i).map wh).length := g3.len hws
        refine ⟨l, ws, .ref D, rfl, rfl, h5, ?_, ?_⟩
        · rw [lw, List.length_map, List.length_take]
          have := few.most
          exact small1000 (by omega)
        · refine ⟨_, _, _, rfl, same_mut (s3.trans s5) hl, ?_⟩
          have e : (pss.take (i + 1)).map wh = (pss.take i).map wh ++ [wh p] := by
            rw [List.take_add_one, hpi, List.map_append]
            rfl
          rw [e]
          exact (g3.keep (mono_lst mono_t2) s5).snoc h5 (n5.rem tups_t2 hws h5)
    · obtain ⟨z3, z4, z5, rfl, s3, g3⟩ := h
      refine ⟨_, rfl, q _ _ (s1.trans s3) ?_⟩
      have n3 := g3.done (mono_lst mono_t2) (s1.free hl)
      rw [lp, List.take_length] at n3
      exact n3
end
end K79

/-! #### part K79W7 -/
namespace K79
open PySem PySem.Spec PyProof.Rows L2
/-! ### numbers of n binary figures -/
def Lg (n : Nat) (i : Int) : Prop := i.natAbs < 2 ^ n
theorem Lg.mul {n m : Nat} {i j : Int} (a : Lg n i) (b : Lg m j) : Lg (n + m) (i * j) := by
  unfold Lg at *
  rw [Int.natAbs_mul, Nat.pow_add]
  exact Nat.mul_lt_mul'' a b
theorem Lg.mono {n m : Nat} {i : Int} (a : Lg n i) (h : n ≤ m) : Lg m i := Nat.lt_of_lt_of_le a (Nat.pow_le_pow_right (by decide) h)
theorem Lg.add {n : Nat} {i j : Int} (a : Lg n i) (b : Lg n j) : Lg (n + 1) (i + j) := by
  unfold Lg at *
  rw [Nat.pow_succ]
  have : (i + j).natAbs ≤ i.natAbs + j.natAbs := Int.natAbs_add_le i j
  omega
theorem Lg.sub {n : Nat} {i j : Int} (a : Lg n i) (b : Lg n j) : Lg (n + 1) (i - j) := by
  unfold Lg at *
  rw [Nat.pow_succ]
  have : (i - j).natAbs ≤ i.natAbs + j.natAbs := Int.natAbs_sub_le i j
  omega
theorem Lg.sm {n : Nat} {i : Int} (a : Lg n i) (h : n ≤ 2000) : Sm i := a.mono h
theorem lg_mulW {n m : Nat} {i j : Int} (a : Lg n i) (b : Lg m j) (h : n ≤ 2000) (h' : m ≤ 2000) : CMulW i j := sm_mulW (a.sm h) (b.sm h')
theorem lg_of {i : Int} (h : -1048575 ≤ i ∧ i ≤ 1048575) : Lg 20 i := by
  show i.natAbs < 1048576
  omega
section
variable {P : Program} {w : World} {K : PySem.W.Frag} {mg : Str → Option Value} {base : Heap}
abbrev s_crossings : Stmt := topS 32
abbrev n_crossings : List Str := ["parts", "many", "row", "line", "found", "part", "at", "x", "y", "before_x", "before_y", "step", "top", "way"]
theorem sc_crossings : FnScope n_crossings ["parts", "many", "row"] (defScope s_crossings) := ⟨rfl, rfl, rfl, by decide +kernel, rfl, by decide +kernel, by decide +kernel⟩
def sp_crossings : Sp := fun vs H Q _ => ∃ (v : V) (pss : List (List Pt)) (m row : Int), vs = [v, .int m, .int row] ∧ IParts H v pss ∧ FewP pss ∧ Bnd pss ∧ 0 < m ∧ m ≤ 1000 ∧ -1000 ≤ row ∧ row ≤ 1000 ∧ ∀ v' H', Same H H' → NewL T3 H H' v' (crossM pss m row) → Q v' H'
/-- what one edge gives -/
abbrev edgeR (m row : Int) (e : Pt × Pt) : List Row3 := (crossE m (lineOf m row) e).toList
theorem filterMap_flat {α β : Type} (f : α → Option β) (l : List α) : l.filterMap f = l.flatMap fun x => (f x).toList := by
  induction l with
  | nil => rfl
  | cons x r ih =>
    rw [List.filterMap_cons, List.flatMap_cons, ← ih]
    cases f x <;> rfl
theorem edges_at {p : List Pt} {i : Nat} {q : Pt} (h : p[i]? = some q) : ∃ b, (edges p)[i]? = some (b, q) ∧ (if i = 0 then p.getLast? = some b else p[i - 1]? = some b) := by
  have hi := (List.getElem?_eq_some_iff.mp h).1
  unfold edges
  cases i with
  | zero =>
    cases p with
    | nil => cases h
    | cons x r =>
      have e : x = q := Option.some.inj h
      subst e
      refine ⟨(x :: r).getLastD (0, 0), rfl, ?_⟩
      rw [if_pos rfl, List.getLastD_eq_getLast?, List.getLast?_eq_some_getLast (List.cons_ne_nil x r)]
      rfl
  | succ j =>
    have hj : j < p.length := by omega
    refine ⟨p[j], ?_, by rw [if_neg (by omega)]; exact List.getElem?_eq_getElem hj⟩
    exact List.getElem?_zip_eq_some.mpr ⟨by rw [List.getElem?_cons_succ]; exact List.getElem?_eq_getElem hj, h⟩
theorem edges_len (p : List Pt) : (edges p).length = p.length := by
  unfold edges
  rw [List.length_zip, List.length_cons]
  omega
theorem atI_back {xs : List V} {i : Nat} {v : V} (hl : i < xs.length) (h : if i = 0 then xs.getLast? = some v else xs[i - 1]? = some v) : atI xs ((i : Int) - 1) = some v := by
  by_cases e : i = 0
  · subst e
    rw [if_pos rfl] at h
    obtain ⟨ys, rfl⟩ := List.getLast?_eq_some_iff.mp h
    exact atI_last ys v
  · rw [if_neg e] at h
    have e2 : (i : Int) - 1 = ((i - 1 : Nat) : Int) := by omega
    rw [e2]
    exact atI_nat h
theorem paired_last {α β : Type} {R : α → β → Prop} {xs : List α} {ys : List β} {y : β} (h : Paired R xs ys) (e : ys.getLast? = some y) : ∃ x, xs.getLast? = some x ∧ R x y := by
  have hl := Paired.length h
  rw [List.getLast?_eq_getElem?] at e
  have hi := (List.getElem?_eq_some_iff.mp e).1
  obtain ⟨x, hx⟩ : ∃ x, xs[ys.length - 1]? = some x := ⟨xs[ys.length - 1], List.getElem?_eq_getElem (by omega)⟩
  obtain ⟨y', h1, h2⟩ := Paired.get h hx
  rw [e] at h1
  cases h1
  exact ⟨x, by rw [List.getLast?_eq_getElem?, hl]; exact hx, h2⟩
theorem paired_back {α β : Type} {R : α → β → Prop} {xs : List α} {ys : List β} {y : β} {i : Nat} (h : Paired R xs ys) (e : if i = 0 then ys.getLast? = some y else ys[i - 1]? = some y) : ∃ x, (if i = 0 then xs.getLast? = some x else xs[i - 1]? = some x) ∧ R x y := by
  by_cases c : i = 0
  · rw [if_pos c] at e
    obtain ⟨x, h1, h2⟩ := paired_last h e
    exact ⟨x, by rw [if_pos c]; exact h1, h2⟩
  · rw [if_neg c] at e
    have hi := (List.getElem?_eq_some_iff.mp e).1
    have hl := Paired.length h
    obtain ⟨x, hx⟩ : ∃ x, xs[i - 1]? = some x := ⟨xs[i - 1], List.getElem?_eq_getElem (by omega)⟩
    obtain ⟨y', h1, h2⟩ := Paired.get h hx
    rw [e] at h1
    cases h1
    exact ⟨x, by rw [if_neg c]; exact hx, h2⟩
theorem ok_crossings (B : Blt mg) {tC tH : Tok} (k_CELL : mg "CELL" = some (.int 64 tC)) (k_HALF : mg "HALF" = some (.int 32 tH)) {f : Addr} {fd : FuncData} (F : Fun K "crossings" "crossings" s_crossings f fd) : FnOk P w K mg base CX0 1 f fd ["parts", "many", "row"] sp_crossings := by
  refine F.ok sc_crossings (fun vs H Q E h => ?_) (fun cdv A outer s H vs Q E hr h => ?_)
  · obtain ⟨v, _, _, _, rfl, _⟩ := h; rfl
  · refine ⟨_, (pss_cons (ps_set (i := 3) sc_crossings.nd rfl (.inl rfl) (pe_op op_mulW (pe_op op_add (pe_op op_mulW (pe_glob (v := .int 64) (by rfl) k_CELL ⟨_, rfl⟩) (pv 2)) (pe_glob (v := .int 32) (by rfl) k_HALF ⟨_, rfl⟩)) (pv 1)))
 (pss_cons (ps_set (i := 4) sc_crossings.nd rfl (.inl rfl) (pe_lst pa_nil))
 (pss_cons (ps_for PassesOwn.never rfl (pi_list (pv 0)) (pg_name (i := 5) sc_crossings.nd rfl (.inl rfl))
 (pss_one (ps_for PassesOwn.never rfl (pi_enum (by rfl) B.enumerate_ (pa_cons (pv 5) pa_nil)) (pg_tup (by rfl) (pgs_cons (pg_name (i := 6) sc_crossings.nd rfl (.inl rfl)) (pgs_cons (pg_tup (by rfl) (pgs_cons (pg_name (i := 7) sc_crossings.nd rfl (.inl rfl)) (pgs_cons (pg_name (i := 8) sc_crossings.nd rfl (.inl rfl)) pgs_nil))) pgs_nil)))
 (pss_cons (ps_asg (pe_ix ix_list (pv 5) (pe_op op_sub (pv 6) pe_int) (fun _ _ => rfl)) (pg_tup (by rfl) (pgs_cons (pg_name (i := 9) sc_crossings.nd rfl (.inl rfl)) (pgs_cons (pg_name (i := 10) sc_crossings.nd rfl (.inl rfl)) pgs_nil))))
 (pss_one (ps_if (pt_cmpR op_ne (pe_cmpR op_gt (pv 10) (pv 3) (nomark _)) (pe_cmpR op_gt (pv 8) (pv 3) (nomark _)) (nomark _))
 (pss_cons (ps_set (i := 11) sc_crossings.nd rfl (.inl rfl) (pe_op op_sub (pv 8) (pv 10)))
 (pss_cons (ps_set (i := 12) sc_crossings.nd rfl (.inl rfl) (pe_op op_add (pe_op op_mulW (pv 9) (pv 11)) (pe_op op_mulW (pe_op op_sub (pv 3) (pv 10)) (pe_op op_sub (pv 7) (pv 9)))))
 (pss_cons (ps_set (i := 13) sc_crossings.nd rfl (.inl rfl) (pe_ifExp (pt_cmpR op_gt (pv 11) pe_int (nomark _)) pe_int (pe_un un_neg pe_int)))
 (pss_one (ps_expr (pe_bm PySem.F.plainAttrs_list PySem.F.slot_list_append PySem.F.type_list_append mt_append (pv 4) (pa_cons (pe_tup (pa_cons (pe_op op_mulW (pv 12) (pv 13)) (pa_cons (pe_op op_mulW (pe_op op_mulW (pv 11) (pv 13)) (pv 1)) (pa_cons (pv 13) pa_nil)))) pa_nil)))))))
 pss_nil))))))
 (pss_one (ps_ret (pv 4)))))), ?_⟩
    obtain ⟨v, pss, m, row, rfl, ⟨a, vs, rfl, ha, hp⟩, few, bnd, m0, m1, r0, r1, q⟩ := h
    have lp : vs.length = pss.length := Paired.length hp
    have lm : Lg 20 m := lg_of (by omega)
    have lr : Lg 20 (64 * row + 32) := lg_of (by omega)
    have ll : Lg 40 (lineOf m row) := lr.mul lm
    refine ⟨_, rfl, _, _, rfl, rfl, lg_mulW (lg_of (by decide)) (lg_of (i := row) (by omega)) (by decide) (by decide), _, _, rfl, rfl, _, rfl, _, _, rfl, rfl, lg_mulW lr lm (by decide) (by decide), ?_⟩
    refine ⟨Nat.zero_le _, fun l hl => ?_⟩
    have s1 : Same H (upd H l (.lst [])) := same_upd hl
    refine ⟨_, rfl, a, rfl, ⟨_, .of (s1 _ _ ha)⟩, for_list (xs := vs) (fun i σ H' => ∃ z5 z6 z7 z8 z9 z10 z11 z12 z13, σ = [some (.ref a), some (.int m), some (.int row), some (.int (lineOf m row)), some (.ref l), z5, z6, z7, z8, z9, z10, z11, z12, z13] ∧ Same H H' ∧ Grow T3 H' l (crossM (pss.take i) m row)) ⟨_, _, _, _, _, _, _, _, _, rfl, s1, Grow.start⟩ (fun i σ H' _ h => ?_) (fun i x σ H' hi h => ?_) (fun σ H' h => ?_)⟩
    · obtain ⟨_, _, _, _, _, _, _, _, _, _, s3, _⟩ := h
      exact .of (s3 _ _ ha)
    · obtain ⟨z5, z6, z7, z8, z9, z10, z11, z12, z13, rfl, s3, g3⟩ := h
      obtain ⟨p, hpi, b, us, rfl, hb, hq⟩ := Paired.get hp hi
      have hpm := List.mem_of_getElem? hpi
      have lq : us.length = p.length := Paired.length hq
      have f2 := (few.each p hpm).2
      have i4 : i ≤ 4 := by
        have := (List.getElem?_eq_some_iff.mp hpi).1
        have := few.most
        omega
      refine ⟨_, rfl, b, us, rfl, .of (s3 _ _ hb), ?_⟩
      refine for_it (walk_enum (K := K) (a := b) (xs := us)) (fun j σ H' => ∃ z6 z7 z8 z9 z10 z11 z12 z13, σ = [some (.ref a), some (.int m), some (.int row), some (.int (lineOf m row)), some (.ref l), some (.ref b), z6, z7, z8, z9, z10, z11, z12, z13] ∧ Same H H' ∧ Grow T3 H' l (crossM (pss.take i) m row ++ ((edges p).take j).flatMap (edgeR m row))) ⟨_, _, _, _, _, _, _, _, rfl, s3, by simpa using g3⟩ (fun j σ H' _ h => ?_) (fun j x σ H' H2 hj h hy => ?_) (fun σ H' h => ?_)
      · obtain ⟨_, _, _, _, _, _, _, _, _, s4, _⟩ := h
        exact .of (s4 _ _ hb)
      · obtain ⟨y6, y7, y8, y9, y10, y11, y12, y13, rfl, s4, g4⟩ := h
        obtain ⟨T, x1, x2, rfl, hT, rfl, e1, hx2⟩ := hy
        cases Option.some.inj e1
        obtain ⟨pt, hpt, c, rfl, hc⟩ := Paired.get hq hx2
        have hptm := List.mem_of_getElem? hpt
        obtain ⟨bx, he, hbk⟩ := edges_at hpt
        obtain ⟨u, hu, c2, rfl, hc2⟩ := paired_back hq hbk
        have s5 : Same H (upd H' T (.tup [.int (j : Int), .ref c])) := s4.trans (same_upd hT)
        have hbm : bx ∈ p := by
          by_cases c : j = 0
          · rw [if_pos c] at hbk
            exact List.mem_of_getLast? hbk
          · rw [if_neg c] at hbk
            exact List.mem_of_getElem? hbk
        obtain ⟨a1, a2, a3, a4⟩ := bnd p hpm pt hptm
        obtain ⟨b1, b2, b3, b4⟩ := bnd p hpm bx hbm
        have g5 := g4.keep mono_t3 (same_upd hT (o := .tup [.int (j : Int), .ref c]))
        have et : ((edges p).take (j + 1)).flatMap (edgeR m row) = ((edges p).take j).flatMap (edgeR m row) ++ edgeR m row (bx, pt) := flat_take (edgeR m row) he
        refine ⟨T, _, rfl, .of upd_same, rfl, _, _, rfl, _, _, rfl, ⟨c, _, rfl, .of (s5 _ _ hc), rfl, _, _, rfl, _, _, rfl, rfl, ?_⟩⟩
        refine ⟨rfl, ?_⟩
        refine ⟨_, rfl, _, rfl, _, _, rfl, rfl, b, us, _, _, rfl, rfl, .of (s5 _ _ hb), atI_back hj hu, c2, _, rfl, .of (s5 _ _ hc2), rfl, _, _, rfl, _, _, rfl, rfl, ?_⟩
        refine ⟨_, rfl, _, rfl, _, _, rfl, rfl, _, rfl, _, rfl, _, _, rfl, rfl, rfl, _, rfl, ite2 (fun e => ?_) (fun e => ?_)⟩
        · have ne : (decide (lineOf m row < bx.2) != decide (lineOf m row < pt.2)) = true := by
            have e' : ¬ V.bl (decide (lineOf m row < bx.2)) = V.bl (decide (lineOf m row < pt.2)) := by simpa using e
            cases h1 : decide (lineOf m row < bx.2) <;> cases h2 : decide (lineOf m row < pt.2) <;> simp [h1, h2] at e' ⊢
          have l1 : Lg 20 bx.1 := lg_of (by omega)
          have l2 : Lg 20 bx.2 := lg_of (by omega)
          have l3 : Lg 20 pt.1 := lg_of (by omega)
          have l4 : Lg 20 pt.2 := lg_of (by omega)
          have l5 : Lg 21 (pt.2 - bx.2) := l4.sub l2
          have l6 : Lg 41 (lineOf m row - bx.2) := ll.sub (l2.mono (by decide))
          have l7 : Lg 21 (pt.1 - bx.1) := l3.sub l1
          have l8 : Lg 63 (bx.1 * (pt.2 - bx.2) + (lineOf m row - bx.2) * (pt.1 - bx.1)) := Lg.add ((l1.mul l5).mono (by decide)) (l6.mul l7)
          have ew : ∀ W : Int, (W = 1 ∨ W = -1) → Lg 20 W := fun W h => lg_of (by omega)
          refine ⟨_, rfl, _, rfl, _, _, rfl, rfl, ?_⟩
          refine ⟨_, rfl, _, rfl, _, _, rfl, rfl, lg_mulW l1 l5 (by decide) (by decide), _, rfl, _, rfl, _, _, rfl, rfl, _, rfl, _, rfl, _, _, rfl, rfl, _, _, rfl, rfl, lg_mulW l6 l7 (by decide) (by decide), _, _, rfl, rfl, ?_⟩
          have er : edgeR m row (bx, pt) = [((bx.1 * (pt.2 - bx.2) + (lineOf m row - bx.2) * (pt.1 - bx.1)) * (if 0 < pt.2 - bx.2 then 1 else -1), (pt.2 - bx.2) * (if 0 < pt.2 - bx.2 then 1 else -1) * m, if 0 < pt.2 - bx.2 then 1 else -1)] := by
            unfold edgeR crossE
            rw [if_pos ne]
            rfl
          have key : ∀ W : Int, (W = 1 ∨ W = -1) → W = (if 0 < pt.2 - bx.2 then 1 else -1) → tSeq (tAsg (L2.tC (.int W)) (gName 13)) (tDrop (tBM K "list" rAppend (tVar 4) (tCons (tTup (tCons (tOp (rI CMulW fun i j => .int (i * j)) (tVar 12) (tVar 13)) (tCons (tOp (rI CMulW fun i j => .int (i * j)) (tOp (rI CMulW fun i j => .int (i * j)) (tVar 11) (tVar 13)) (tVar 1)) (tCons (tVar 13) tNil)))) tNil)))
              { nx := fun σ H' => ∃ z6 z7 z8 z9 z10 z11 z12 z13, σ = [some (.ref a), some (.int m), some (.int row), some (.int (lineOf m row)), some (.ref l), some (.ref b), z6, z7, z8, z9, z10, z11, z12, z13] ∧ Same H H' ∧ Grow T3 H' l (crossM (pss.take i) m row ++ ((edges p).take (j + 1)).flatMap (edgeR m row)), rt := fun _ _ => False }
              [some (.ref a), some (.int m), some (.int row), some (.int (lineOf m row)), some (.ref l), some (.ref b), some (.int (j : Int)), some (.int pt.1), some (.int pt.2), some (.int bx.1), some (.int bx.2), some (.int (pt.2 - bx.2)), some (.int (bx.1 * (pt.2 - bx.2) + (lineOf m row - bx.2) * (pt.1 - bx.1))), y13] (upd H' T (.tup [.int (j : Int), .ref c])) := by
            intro W hW eW
            have lw := ew W hW
            obtain ⟨ws, hws, pws⟩ := id g5
            have lws := g5.len hws
            refine ⟨_, rfl, .inl ⟨rfl, _, .of hws⟩, ?_⟩
            refine ⟨_, rfl, _, rfl, _, _, rfl, rfl, lg_mulW l8 lw (by decide) (by decide), _, rfl, _, rfl, _, _, rfl, rfl, lg_mulW l5 lw (by decide) (by decide), _, rfl, _, _, rfl, rfl, lg_mulW (l5.mul lw) lm (by decide) (by decide), _, rfl, by show 3 ≤ sizeLine; decide, fun p2 hp2 => ?_⟩
            have s6 := same_upd hp2 (o := .tup [.int ((bx.1 * (pt.2 - bx.2) + (lineOf m row - bx.2) * (pt.1 - bx.1)) * W), .int ((pt.2 - bx.2) * W * m), .int W])
            refine ⟨l, ws, .ref p2, rfl, rfl, s6 _ _ hws, ?_, ?_⟩
            · rw [lws, List.length_append]
              have k1 : (crossM (pss.take i) m row).length ≤ (pss.take i).length * 100 := flat_len _ 100 _ fun p' hp' => by
                refine Nat.le_trans (List.length_filterMap_le _ _) ?_
                rw [edges_len]
                exact (few.each p' (List.mem_of_mem_take hp')).2
              have k2 : (((edges p).take j).flatMap (edgeR m row)).length ≤ ((edges p).take j).length * 1 := flat_len _ 1 _ fun e _ => by
                unfold edgeR
                cases crossE m (lineOf m row) e <;> simp
              have k3 : (pss.take i).length ≤ 4 := by rw [List.length_take]; omega
              have k4 : ((edges p).take j).length ≤ 100 := by rw [List.length_take, edges_len]; omega
              exact small1000 (by omega)
            · refine ⟨_, _, _, _, _, _, _, _, rfl, same_mut (s5.trans s6) hl, ?_⟩
              rw [et, er, ← List.append_assoc]
              refine (g5.keep mono_t3 s6).snoc (s6 _ _ hws) (rem_t3 (s6 _ _ hws) ⟨p2, rfl, ?_⟩)
              rw [upd_same, ← eW]
          refine ⟨_, rfl, _, _, rfl, rfl, _, rfl, ite2 (fun c => ?_) (fun c => ?_)⟩
          · have c := of_decide_eq_true c
            exact key 1 (.inl rfl) (by rw [if_pos c])
          · have c : ¬ 0 < pt.2 - bx.2 := fun z => c (decide_eq_true z)
            refine ⟨1, rfl, ?_⟩
            exact key (-1) (.inr rfl) (by rw [if_neg c])
        · have ne : ¬ (decide (lineOf m row < bx.2) != decide (lineOf m row < pt.2)) = true := by
            intro z
            apply e
            cases h1 : decide (lineOf m row < bx.2) <;> cases h2 : decide (lineOf m row < pt.2) <;> simp [h1, h2] at z ⊢
          have er : edgeR m row (bx, pt) = [] := by
            unfold edgeR crossE
            rw [if_neg ne]
            rfl
          refine ⟨_, _, _, _, _, _, _, _, rfl, s5, ?_⟩
          rw [et, er, List.append_nil]
          exact g5
      · obtain ⟨y6, y7, y8, y9, y10, y11, y12, y13, rfl, s4, g4⟩ := h
        refine ⟨_, _, _, _, _, _, _, _, _, rfl, s4, ?_⟩
        have e : crossM (pss.take (i + 1)) m row = crossM (pss.take i) m row ++ (edges p).filterMap (crossE m (lineOf m row)) := flat_take _ hpi
        rw [e, filterMap_flat]
        rw [lq, ← edges_len, List.take_length] at g4
        exact g4
    · obtain ⟨_, _, _, _, _, _, _, _, _, rfl, s3, g3⟩ := h
      refine ⟨_, rfl, q _ _ s3 ?_⟩
      rw [lp, List.take_length] at g3
      exact g3.done mono_t3 hl
end
end K79

/-! #### part K79E -/
/-! sorted(d.items()) of a dict from whole numbers to objects -/
namespace K79
open PySem PySem.Spec PySem.W PySem.Calls PyProof.Rows L2
section
variable {prog : Program} {w : World} {A : Around} {E : Value → Shared → Prop} {s : Shared}
theorem eqBool_self {a : Addr} {Q : Bool → Shared → Prop} (h : Q true s) : wpAny (model prog w) A (eqBool (.ref a) (.ref a)) Q E s := by
  unfold eqBool
  try with_reducible refine wpAny_holding ?_
  show wpAny _ _ (if (Value.ref a == Value.ref a) = true then _ else _) Q E s
  rw [if_pos (beq_self_eq_true _)]
  exact wpAny_bind (wpAny_rule (wpAny_pure h))
/-- v is a pair of the number k and an object -/
def PairO (h : Heap) (v : Value) (k : Int) (b : Addr) : Prop := ∃ (a : Addr) (t : Tok), v = .ref a ∧ IsTup h a #[.int k t, .ref b]
def intOf : Option Value → Int
  | some (.int i _) => i
  | _ => 0
def keyI (h : Heap) (v : Value) : Int := intOf (DT.seqAt0 h (DT.refOf (some v)))
theorem PairO.key {h : Heap} {v : Value} {k : Int} {b : Addr} (x : PairO h v k b) : keyI h v = k := by
  obtain ⟨a, t, rfl, h1⟩ := x
  show intOf (DT.seqAt0 h a) = k
  rw [DT.seqAt0_of h1]
  rfl
theorem firstsO {h : Heap} : ∀ vs : List Value, (∀ v ∈ vs, ∃ k b, PairO h v k b) → ∃ fs : List Value, KatTups h vs fs ∧ fs.length = vs.length ∧ ∀ f ∈ fs, ∃ i t, f = Value.int i t
  | [], _ => ⟨[], .nil, rfl, fun f hf => nomatch hf⟩
  | v :: vs, x => by
    obtain ⟨fs, k, hl, hi⟩ := firstsO vs fun u hu => x u (List.mem_cons_of_mem _ hu)
    obtain ⟨y, b, a, t, rfl, ⟨o, ho, hc, n, hd⟩⟩ := x v List.mem_cons_self
    refine ⟨.int y t :: fs, .cons ho hc hd rfl k, by rw [List.length_cons, List.length_cons, hl], fun f hf => ?_⟩
    rcases List.mem_cons.mp hf with rfl | hf
    · exact ⟨y, t, rfl⟩
    · exact hi f hf
/-- items of unlike keys: equal keys are the same item -/
theorem kindO {vs : List Value} (h2 : 2 ≤ vs.length) (x : ∀ v ∈ vs, ∃ k b, PairO s.heap v k b) (un : ∀ v ∈ vs, ∀ u ∈ vs, keyI s.heap v = keyI s.heap u → v = u) (Q : SortKind → Shared → Prop)
    (h : ∀ κ, TS.Cmp prog w A s κ (pairsOf vs) (fun v => keyI s.heap v) → Q κ s) : wpAny (model prog w) A (keyKind' vs.toArray) Q E s := by
  obtain ⟨fs, k, hl, hi⟩ := firstsO vs x
  refine kat_kind (T := .type "int") k (by omega) (fun f hf => ?_) (by rfl) (h _ ?_)
  · obtain ⟨i, t, rfl⟩ := hi f hf
    exact PySem.W.Looks.now
  · have hb : (Value.type "int" != Value.type "tuple") = true := by first | decide +kernel | rfl | decide
    rw [hb]
    intro p q hp hq Q' E' hQ
    rw [pairsOf_toList] at hp hq
    have mp := (mem_zip_self hp).2
    have mq := (mem_zip_self hq).2
    obtain ⟨y, b, py⟩ := x _ mp
    obtain ⟨z, b', pz⟩ := x _ mq
    have un' := un _ mp _ mq
    have hQ : Q' (decide (keyI s.heap p.1 < keyI s.heap q.1)) s := hQ
    rw [py.key, pz.key] at hQ
    rw [py.key, pz.key] at un'
    obtain ⟨a, t, e1, o, ho, hc, n, hd⟩ := py
    obtain ⟨a', t', e2, o', ho', hc', n', hd'⟩ := pz
    rw [e1, e2] at un'
    rw [e1, e2]
    refine kat_lt ho hd ho' hd' ?_
    show KatLex prog w A true false Q' [(Value.int y t, Value.int z t'), (Value.ref b, Value.ref b')] 0 s
    refine kat_cons (SeqAt.EqAt.int_int y t z t' prog w _ _ ?_)
    refine kat_go (fun e => ?_) (fun e => ?_)
    · have e : y = z := by simpa using e
      have ea := un' e
      injection ea with ea
      subst ea
      rw [ho] at ho'
      cases ho'
      rw [hd] at hd'
      injection hd' with hd1 _
      have eb : b = b' := by
        have z2 := congrArg (fun (a : Array Value) => a[1]?) hd1
        have z3 : some (Value.ref b) = some (Value.ref b') := z2
        injection z3 with z3
        injection z3
      subst eb
      refine kat_yes (kat_cons (eqBool_self ?_))
      show KatGo prog w A true false Q' _ _ [] 1 true s
      refine kat_yes (kat_nil ?_)
      rw [e] at hQ
      have irr : decide (z < z) = false := decide_eq_false (Int.lt_irrefl z)
      rw [irr] at hQ
      exact hQ
    · refine kat_no ?_
      exact oneLt_int hQ
end
end K79
namespace K79
open PySem PySem.Spec PyProof.Rows L2 L2.DX
section
variable {X : Cx}
/-- d.items() of such a dict -/
def rItemsK : V → List V → Hp → VK → Prop := fun x xs H Q => ∃ (a : Addr) (kvs : List (Key × V)), x = .ref a ∧ xs = [] ∧ H a = some (.dK kvs) ∧ ∀ p, H p = none → Q (.ref p) (upd H p (itemsO p a))
theorem mt_itemsK : MtR X "dict.items" rItemsK := by
  intro pins s σ H x xs v us Q I rx rxs h
  obtain ⟨a, kvs, rfl, rfl, ha, q⟩ := h
  cases rx
  cases rxs
  obtain ⟨z, hd, vs, rel, o, es, ep, ho, hx, hdat, _⟩ := I.hok a _ ha
  refine DT.callItems (es := es) (ep := ep) hd ⟨o, ho, hx, hdat⟩ ?_
  have hf : H s.heap.objs.size = none := I.hok.fresh (Nat.le_refl _)
  exact ⟨.ref s.heap.objs.size, upd H s.heap.objs.size (itemsO s.heap.objs.size a), I.laid (t' := s.toks) (fun b u e => Heap.get?_push_of_some _ e) (Nat.le_refl _) (itemsO_ok (Heap.get?_push_size _ rfl)), rfl, q _ hf⟩
abbrev entI (e : Int × Addr) : Key × V := (Sum.inl e.1, V.ref e.2)
/-- the entries by their keys, each as a new pair, in a new list -/
def rSortItK : List V → Hp → VK → Prop := fun vs H Q => ∃ (p a : Addr) (ks : List (Int × Addr)), vs = [.ref p] ∧ H p = some (itemsO p a) ∧ H a = some (.dK (ks.map entI)) ∧ ks.length < 64 ∧
  ∀ (H' : Hp) (l : Addr) (ps : List (Addr × Int × Addr)), Same H H' → H l = none → (ps.map (·.2)).Perm ks → (ps.map (·.2)).Pairwise (fun e f => e.1 ≤ f.1) → H' l = some (.lst (ps.map fun z => V.ref z.1)) →
    (∀ z ∈ ps, H' z.1 = some (.tup [.int z.2.1, .ref z.2.2])) → Q (.ref l) H'
theorem pairs_at {kvs : List (Key × V)} {vs : List (Key × Value)} {es : List DictEntry} {P : Program} {w : World} (r : KV kvs vs) (p : PySem.Pairs (mixKind P w) es vs) {j : Nat} {e : DictEntry} (h : es[j]? = some e) :
    ∃ kv, kvs[j]? = some kv ∧ keyIs kv.1 e.key = true ∧ RelV kv.2 e.val := by
  induction r generalizing es j with
  | nil =>
    cases p
    simp at h
  | cons r1 _ ih =>
    cases p with
    | cons h1 h2 p2 =>
      cases j with
      | zero =>
        simp only [List.getElem?_cons_zero] at h
        cases h
        refine ⟨_, rfl, ?_, ?_⟩
        · rw [r1.1]; exact h1
        · rw [h2]; exact r1.2
      | succ j =>
        simp only [List.getElem?_cons_succ] at h ⊢
        exact ih p2 h
theorem cr_sortedItemsK (hc : X.calm = true) : CallR X (.builtin "sorted") rSortItK := by
  intro pins s σ H xs us Q I r h
  obtain ⟨p, a, ks, rfl, hp, ha, h64, q⟩ := h
  obtain rfl := Vals.ref1 r
  have view : s.heap.IsItemsView p a := (show ObjOk X.prog X.w H s.heap p (itemsO p a) from I.hok p _ hp).1
  obtain ⟨z, hd, vs, rel, o, es, ep, ho, hx, hdat, hko, hpairs, hnd⟩ := (show ObjOk X.prog X.w H s.heap a (.dK (ks.map entI)) from I.hok a _ ha)
  have l1 : (ks.map entI).length = vs.length := Paired.length rel
  rw [List.length_map] at l1
  have l2 : es.size = vs.length := by
    have := PySem.Pairs.length hpairs
    rw [Array.length_toList] at this
    exact this
  have hh : X.A.handled = none := I.ok.hd hc
  refine DT.sortedI (es := es) (ep := ep) hh view ⟨o, ho, hx, hdat⟩ (by rw [sizeLine_eq]; omega) fun h' tk as hk hlt hl hG => ?_
  have lak : as.length = ks.length := by omega
  have nd : as.Nodup := List.Pairwise.imp (fun h => Nat.ne_of_lt h) hG.rise
  have ndk : (ks.map (·.1)).Nodup := by
    have e : vs.map (·.1) = (ks.map (·.1)).map Sum.inl := by
      have : ∀ {kvs : List (Key × V)} {ws : List (Key × Value)}, KV kvs ws → ws.map (·.1) = kvs.map (·.1) := fun r => by
        induction r with
        | nil => rfl
        | cons r1 _ ih => rw [List.map_cons, List.map_cons, ih, r1.1]
      rw [this rel, List.map_map, List.map_map]
      rfl
    rw [e] at hnd
    exact (List.pairwise_map.mp hnd).imp fun {x y} h z => h (by rw [z])
  have pr : ∀ (j : Nat) (b : Addr), as[j]? = some b → ∃ (e : Int × Addr) (t : Tok), ks[j]? = some e ∧ h'.get? b = some { cls := .type "tuple", data := .seq #[Value.int e.1 t, Value.ref e.2] } := by
    intro j b hj
    obtain ⟨en, he, hg⟩ := hG.pairs j b hj
    obtain ⟨kv, hkv, hkey, hval⟩ := pairs_at rel hpairs (j := j) (e := en) (by rw [Array.getElem?_toList]; exact he)
    rw [List.getElem?_map] at hkv
    obtain ⟨e, hke, rfl⟩ := Option.map_eq_some_iff.mp hkv
    obtain ⟨t, ek⟩ := Value.isInt_shape (k := e.1) (v := en.key) hkey
    have ev : en.val = Value.ref e.2 := hval
    exact ⟨e, t, hke, by rw [hg, ek, ev]⟩
  have hob : (h'.push { cls := .type "list", data := .seq (as.map Value.ref).toArray }).get? h'.objs.size = some (seqObj "list" (as.map Value.ref).toArray 0) := Heap.get?_push_size _ rfl
  have kb : ∀ b o, s.heap.get? b = some o → (h'.push { cls := .type "list", data := .seq (as.map Value.ref).toArray }).get? b = some o := fun b o e => Heap.get?_push_of_some _ (hk b o e)
  have ne0 : ∀ b o, h'.get? b = some o → b ≠ h'.objs.size := fun b o e => Nat.ne_of_lt (Heap.lt_size e)
  generalize hh2 : h'.push { cls := .type "list", data := .seq (as.map Value.ref).toArray } = h2 at hob kb ⊢
  have ka : ∀ b o, h'.get? b = some o → h2.get? b = some o := fun b o e => by rw [← hh2]; exact Heap.get?_push_of_some _ e
  have pin : ∀ (j : Nat) (b : Addr), as[j]? = some b → ∃ e : Int × Addr, ks[j]? = some e ∧ PairO (TS.midHeap h2 h'.objs.size (as.map Value.ref)) (.ref b) e.1 e.2 := by
    intro j b hj
    obtain ⟨e, t, he, hg⟩ := pr j b hj
    exact ⟨e, he, b, t, rfl, _, TS.midHeap_old (ne0 _ _ hg) (ka _ _ hg), rfl, 0, rfl⟩
  have at_ : ∀ v ∈ as.map Value.ref, ∃ (j : Nat) (b : Addr), v = .ref b ∧ as[j]? = some b := by
    intro v hv
    obtain ⟨b, hb, rfl⟩ := List.mem_map.mp hv
    obtain ⟨j, hj⟩ := List.mem_iff_getElem?.mp hb
    exact ⟨j, b, rfl, hj⟩
  have tx : ∀ (j : Nat) (b : Addr) (e : Int × Addr), as[j]? = some b → ks[j]? = some e → keyI (TS.midHeap h2 h'.objs.size (as.map Value.ref)) (.ref b) = e.1 := by
    intro j b e hj he
    obtain ⟨e', he', hp'⟩ := pin j b hj
    have ee : e' = e := Option.some.inj (he'.symm.trans he)
    rw [← ee]
    exact hp'.key
  refine wpAny_call_entry PyProof.Rows.slot_list_sort ⟨_, hob, rfl⟩ PyProof.Rows.entry_list_sort
    (SK.plain_sort (s := { s with heap := h2, toks := tk }) (r := fun v => keyI (TS.midHeap h2 h'.objs.size (as.map Value.ref)) v) hob (by rw [List.length_map]; omega) (fun h2' Qk hQk => ?_) fun ps out o1 o2 o3 => ⟨.none, rfl, ?_⟩) (PyProof.Rows.args_list_sort _)
  · refine kindO (s := { s with heap := TS.midHeap h2 h'.objs.size (as.map Value.ref), toks := tk }) h2' (fun v hv => ?_) (fun v hv u hu ek => ?_) Qk hQk
    · obtain ⟨j, b, rfl, hj⟩ := at_ v hv
      obtain ⟨e, _, hp'⟩ := pin j b hj
      exact ⟨e.1, e.2, hp'⟩
    · obtain ⟨j, b, rfl, hj⟩ := at_ v hv
      obtain ⟨i, c, rfl, hi⟩ := at_ u hu
      obtain ⟨e, he, _⟩ := pin j b hj
      obtain ⟨f, hf, _⟩ := pin i c hi
      have ek : keyI (TS.midHeap h2 h'.objs.size (as.map Value.ref)) (.ref b) = keyI (TS.midHeap h2 h'.objs.size (as.map Value.ref)) (.ref c) := ek
      rw [tx j b e hj he, tx i c f hi hf] at ek
      have k1 : (ks.map (·.1))[j]? = some e.1 := by rw [List.getElem?_map, he]; rfl
      have k2 : (ks.map (·.1))[i]? = some f.1 := by rw [List.getElem?_map, hf]; rfl
      have eij : j = i := (List.getElem?_inj (List.getElem?_eq_some_iff.mp k1).1 ndk).mp (by rw [k1, k2, ek])
      subst eij
      rw [hj] at hi
      cases hi
      rfl
  · show EP X pins σ Q (.ref h'.objs.size) { s with heap := sortedHeap h2 h'.objs.size (as.map Value.ref) out, toks := tk }
    obtain ⟨zs, pz, ez⟩ := perm_lift (fun z : Addr × Int × Addr => (Value.ref z.1, Value.ref z.1)) o2 (as.zip ks) (zip_self Value.ref as ks lak)
    have idx : ∀ z ∈ zs, ∃ j : Nat, as[j]? = some z.1 ∧ ks[j]? = some z.2 := by
      intro z' hz'
      obtain ⟨j, hj⟩ := List.mem_iff_getElem?.mp (pz.mem_iff.mp hz')
      exact ⟨j, List.getElem?_zip_eq_some.mp hj⟩
    have hout : out.toList = zs.map fun z => Value.ref z.1 := by
      rw [o1, ← ez, List.map_map]
      all_goals rfl
    have hperm : (zs.map (·.2)).Perm ks := by
      have e := pz.map (·.2)
      have m2 : (as.zip ks).map (·.2) = ks := List.map_snd_zip (by rw [lak]; exact Nat.le_refl _)
      rw [m2] at e
      exact e
    have hsort : (zs.map (·.2)).Pairwise (fun e f => e.1 ≤ f.1) := by
      rw [← ez, List.pairwise_map] at o3
      rw [List.pairwise_map]
      refine List.Pairwise.imp_of_mem (fun {x y} hx hy h => ?_) o3
      obtain ⟨j, j1, j2⟩ := idx x hx
      obtain ⟨i, i1, i2⟩ := idx y hy
      have h' : keyI (TS.midHeap h2 h'.objs.size (as.map Value.ref)) (.ref x.1) ≤ keyI (TS.midHeap h2 h'.objs.size (as.map Value.ref)) (.ref y.1) := h
      rw [tx j _ _ j1 j2, tx i _ _ i1 i2] at h'
      exact h'
    have kF : ∀ b o, b ≠ h'.objs.size → h2.get? b = some o → (sortedHeap h2 h'.objs.size (as.map Value.ref) out).get? b = some o := fun b o hb e => (PyProof.Rows.sortedHeap_old hb (Heap.lt_size e)).trans e
    have kS : ∀ b o, s.heap.get? b = some o → (sortedHeap h2 h'.objs.size (as.map Value.ref) out).get? b = some o := fun b o e => kF b o (ne0 _ _ (hk b o e)) (kb b o e)
    obtain ⟨eF, heF⟩ := PyProof.Rows.sortedHeap_at (vs := as.map Value.ref) (out := out) hob
    have I1 : Inv X pins σ H { s with heap := sortedHeap h2 h'.objs.size (as.map Value.ref) out, toks := tk } := I.kept (t' := tk) kS
    have hn0 : H h'.objs.size = none := I.hok.fresh (Nat.le_of_lt hlt)
    have hlen : (zs.map fun z => V.ref z.1).length ≤ sizeLine := by
      have e := hperm.length_eq
      rw [List.length_map] at e
      rw [List.length_map, sizeLine_eq]
      omega
    have rv : Vals (zs.map fun z => V.ref z.1) out.toList := by
      rw [hout]
      exact vals_maps (fun z : Addr × Int × Addr => V.ref z.1) (fun z => Value.ref z.1) zs fun _ _ => rfl
    have I2 : Inv X pins σ (upd H h'.objs.size (.lst (zs.map fun z => V.ref z.1))) { s with heap := sortedHeap h2 h'.objs.size (as.map Value.ref) out, toks := tk } :=
      I1.take (h' := sortedHeap h2 h'.objs.size (as.map Value.ref) out) (t' := tk) (fun b ob _ e => e) (I.fpOk (Nat.le_of_lt hlt) hn0) ⟨hlen, out.toList, eF, rv, heF⟩
    obtain ⟨H2, I3, g, qt⟩ := takeT (P := fun b vs => ∃ (j : Nat) (e : Int × Addr), as[j]? = some b ∧ ks[j]? = some e ∧ vs = [.int e.1, .ref e.2]) I as _ I2 nd fun b hb => by
      obtain ⟨j, hj⟩ := List.mem_iff_getElem?.mp hb
      obtain ⟨e, t, he, hg⟩ := pr j b hj
      have hbl : s.heap.objs.size ≤ b := Nat.le_of_lt (hG.above b hb)
      refine ⟨hbl, ?_, [.int e.1, .ref e.2], ⟨j, e, hj, he, rfl⟩, fun H3 => ⟨(by rw [sizeLine_eq]; show 2 ≤ 16777216; omega), [Value.int e.1 t, Value.ref e.2], .cons ⟨t, rfl⟩ (.cons rfl .nil), ⟨_, kF _ _ (ne0 _ _ hg) (ka _ _ hg), rfl, 0, rfl⟩⟩⟩
      rw [upd_ne (ne0 _ _ hg)]
      exact I.hok.fresh hbl
    have gr : Same H H2 := fun b o e => g b o (by rw [upd_ne (ne_of_none e hn0)]; exact e)
    refine ⟨.ref h'.objs.size, H2, I3, rfl, q H2 h'.objs.size zs gr hn0 hperm hsort (g _ _ upd_same) fun z' hz' => ?_⟩
    obtain ⟨i, i1, i2⟩ := idx z' hz'
    obtain ⟨ws, ⟨j, e, j1, j2, ev⟩, hH⟩ := qt z'.1 (List.mem_of_getElem? i1)
    have eij : i = j := (List.getElem?_inj (List.getElem?_eq_some_iff.mp i1).1 nd).mp (i1.trans j1.symm)
    subst eij
    have ee : e = z'.2 := Option.some.inj (j2.symm.trans i2)
    rw [ev, ee] at hH
    exact hH
end
end K79

/-! #### part K79W8 -/
namespace K79
open PySem PySem.Spec PyProof.Rows L2 L2.DX
/-! ### the dict of crossings -/
abbrev keysD (d : Dc) : List Int := d.map (·.1)
theorem putD_mem (k : Int) (v : Int × Int) : ∀ (d : Dc) (x : Int), x ∈ keysD (putD' d k v) ↔ x = k ∨ x ∈ keysD d
  | [], x => by simp [putD', keysD]
  | (k', v') :: r, x => by
    unfold putD'
    by_cases e : k' = k
    · rw [if_pos e]
      simp [keysD, e]
    · rw [if_neg e]
      have ih := putD_mem k v r x
      simp only [keysD, List.map_cons, List.mem_cons] at ih ⊢
      rw [ih]
      constructor
      · rintro (h | h | h) <;> simp [h]
      · rintro (h | h | h) <;> simp [h]
theorem putD_nodup (k : Int) (v : Int × Int) : ∀ (d : Dc), (keysD d).Nodup → (keysD (putD' d k v)).Nodup
  | [], _ => by simp [putD', keysD]
  | (k', v') :: r, h => by
    unfold putD'
    obtain ⟨h1, h2⟩ := List.nodup_cons.mp (show (k' :: keysD r).Nodup from h)
    by_cases e : k' = k
    · rw [if_pos e]
      exact h
    · rw [if_neg e]
      refine List.nodup_cons.mpr ⟨fun m => ?_, putD_nodup k v r h2⟩
      rcases (putD_mem k v r k').mp m with z | z
      · exact e z
      · exact h1 z
theorem dict_nodup (w : Int) : ∀ (rows : List Row3) (d : Dc), (keysD d).Nodup → (keysD (rows.foldl (stepD w) d)).Nodup
  | [], d, h => h
  | r :: rs, d, h => dict_nodup w rs _ (putD_nodup _ _ d h)
theorem putD_len (k : Int) (v : Int × Int) : ∀ d : Dc, (putD' d k v).length ≤ d.length + 1
  | [] => Nat.le_refl _
  | (k', v') :: r => by
    unfold putD'
    split
    · simp
    · have := putD_len k v r
      simp only [List.length_cons]
      omega
theorem dict_len (w : Int) : ∀ (rows : List Row3) (d : Dc), (rows.foldl (stepD w) d).length ≤ d.length + rows.length
  | [], d => Nat.le_refl _
  | r :: rs, d => by
    have a := dict_len w rs (stepD w d r)
    have b := putD_len (hereM w r) ((getD' d (hereM w r)).1 + r.2.2, (getD' d (hereM w r)).2 + 1) d
    show (rs.foldl (stepD w) (stepD w d r)).length ≤ d.length + (rs.length + 1)
    have : (stepD w d r).length ≤ d.length + 1 := b
    omega
theorem insK_perm (x : Int × Int × Int) : ∀ l, (insK x l).Perm (x :: l)
  | [] => .refl _
  | y :: r => by
    unfold insK
    split
    · exact .refl _
    · exact ((insK_perm x r).cons y).trans (List.Perm.swap _ _ _)
theorem sortK_perm : ∀ l, (sortK l).Perm l
  | [] => .refl _
  | x :: r => (insK_perm x (sortK r)).trans ((sortK_perm r).cons x)
theorem insK_srt (x : Int × Int × Int) : ∀ l : Dc, l.Pairwise (fun a b => a.1 ≤ b.1) → (insK x l).Pairwise (fun a b => a.1 ≤ b.1)
  | [], _ => List.pairwise_singleton _ _
  | y :: r, h => by
    obtain ⟨h1, h2⟩ := List.pairwise_cons.mp h
    unfold insK
    split
    · rename_i le
      refine List.pairwise_cons.mpr ⟨fun z hz => ?_, h⟩
      rcases List.mem_cons.mp hz with rfl | hz
      · exact le
      · have := h1 z hz; omega
    · rename_i nle
      refine List.pairwise_cons.mpr ⟨fun z hz => ?_, insK_srt x r h2⟩
      rcases List.mem_cons.mp ((insK_perm x r).mem_iff.mp hz) with rfl | hz
      · omega
      · exact h1 z hz
theorem sortK_srt : ∀ l, (sortK l).Pairwise (fun a b => a.1 ≤ b.1)
  | [] => .nil
  | x :: r => insK_srt x _ (sortK_srt r)
theorem srtK_unique : ∀ {l l' : Dc}, (keysD l).Nodup → l.Pairwise (fun a b => a.1 ≤ b.1) → l'.Pairwise (fun a b => a.1 ≤ b.1) → l.Perm l' → l = l'
  | [], l', _, _, _, p => (List.perm_nil.mp p.symm).symm
  | x :: r, [], _, _, _, p => by have := p.length_eq; simp at this
  | x :: r, y :: r', nd, h, h', p => by
    obtain ⟨n1, n2⟩ := List.nodup_cons.mp (show (x.1 :: keysD r).Nodup from nd)
    obtain ⟨h1, h2⟩ := List.pairwise_cons.mp h
    obtain ⟨h1', h2'⟩ := List.pairwise_cons.mp h'
    have e : x = y := by
      rcases List.mem_cons.mp (p.mem_iff.mp (List.mem_cons_self (a := x) (l := r))) with e | mx
      · exact e
      · rcases List.mem_cons.mp (p.mem_iff.mpr (List.mem_cons_self (a := y) (l := r'))) with e | my
        · exact e.symm
        · have a := h1' x mx
          have b := h1 y my
          have e1 : y.1 = x.1 := by omega
          exact (n1 (List.mem_map.mpr ⟨y, my, e1⟩)).elim
    subst e
    rw [srtK_unique n2 h2 h2' ((List.perm_cons x).mp p)]
theorem paired_perm {α β : Type} {R : α → β → Prop} {m n : List α} (h : m.Perm n) : ∀ {l : List β}, Paired R n l → ∃ l' : List β, l'.Perm l ∧ Paired R m l' := by
  induction h with
  | nil => intro l r; cases r; exact ⟨[], .refl _, .nil⟩
  | cons x _ ih =>
    intro l r
    cases r with
    | cons r1 r2 =>
      obtain ⟨l', p, q⟩ := ih r2
      exact ⟨_ :: l', p.cons _, .cons r1 q⟩
  | swap x y t =>
    intro l r
    cases r with
    | cons r1 r2 =>
      cases r2 with
      | cons r2 r3 => exact ⟨_, List.Perm.swap _ _ _, .cons r2 (.cons r1 r3)⟩
  | trans _ _ ih1 ih2 =>
    intro l r
    obtain ⟨l2, p2, q2⟩ := ih2 r
    obtain ⟨l1, p1, q1⟩ := ih1 q2
    exact ⟨l1, p1.trans p2, q1⟩
/-- what stands in the dict -/
abbrev EntR (H : Hp) (kv : Key × V) (e : Int × Int × Int) : Prop := kv.1 = Sum.inl e.1 ∧ T2 H kv.2 e.2
theorem ent_get {H : Hp} {k : Int} : ∀ {kvs : List (Key × V)} {d : Dc}, Paired (EntR H) kvs d → (valV kvs (Sum.inl k : Key) = none ∧ getD' d k = (0, 0)) ∨ ∃ v, valV kvs (Sum.inl k : Key) = some v ∧ T2 H v (getD' d k)
  | _, _, .nil => .inl ⟨rfl, rfl⟩
  | _, _, .cons (a := p) (b := e) r t => by
    obtain ⟨k', v'⟩ := e
    have r1 : p.1 = Sum.inl k' := r.1
    by_cases h : k' = k
    · refine .inr ⟨p.2, valV_pos (by rw [r1, h]), ?_⟩
      unfold getD'
      rw [if_pos h]
      exact r.2
    · have hn : ¬ p.1 = (Sum.inl k : Key) := fun z => h (by rw [r1] at z; exact Sum.inl.inj z)
      rw [valV_neg hn]
      unfold getD'
      rw [if_neg h]
      exact ent_get t
theorem map_id_of {k : Key} {y : V} : ∀ {kvs : List (Key × V)}, (∀ p ∈ kvs, p.1 ≠ k) → (kvs.map fun kv => if kv.1 = k then (kv.1, y) else kv) = kvs
  | [], _ => rfl
  | p :: r, h => by
    rw [List.map_cons, if_neg (h p List.mem_cons_self), map_id_of fun q hq => h q (List.mem_cons_of_mem _ hq)]
theorem ent_keys {H : Hp} : ∀ {kvs : List (Key × V)} {d : Dc}, Paired (EntR H) kvs d → ∀ p ∈ kvs, ∃ x ∈ keysD d, p.1 = Sum.inl x
  | _, _, .nil, _, h => nomatch h
  | _, _, .cons (a := _) (b := e) (l₁ := _) (l₂ := _) r t, _, h => by
    rcases List.mem_cons.mp h with rfl | h
    · exact ⟨e.1, List.mem_cons_self, r.1⟩
    · obtain ⟨x, hx, e⟩ := ent_keys t _ h
      exact ⟨x, List.mem_cons_of_mem _ hx, e⟩
theorem ent_put {H : Hp} {k : Int} {v : V} {q : Int × Int} (hv : T2 H v q) : ∀ {kvs : List (Key × V)} {d : Dc}, Paired (EntR H) kvs d → (keysD d).Nodup → Paired (EntR H) (putK kvs (Sum.inl k : Key) v) (putD' d k q)
  | _, _, .nil, _ => .cons ⟨rfl, hv⟩ .nil
  | _, _, .cons (a := p) (b := e) (l₁ := kvs) (l₂ := d) r t, nd => by
    obtain ⟨k', v'⟩ := e
    have r1 : p.1 = Sum.inl k' := r.1
    obtain ⟨n1, n2⟩ := List.nodup_cons.mp (show (k' :: keysD d).Nodup from nd)
    by_cases h : k' = k
    · have e1 : p.1 = (Sum.inl k : Key) := by rw [r1, h]
      have z : putK (p :: kvs) (Sum.inl k : Key) v = (p.1, v) :: kvs := by
        unfold putK
        rw [if_pos (by simp [e1]), List.map_cons, if_pos e1, map_id_of fun q hq => ?_]
        obtain ⟨x, hx, ex⟩ := ent_keys t q hq
        rw [ex]
        intro z
        have z := Sum.inl.inj z
        rw [z, ← h] at hx
        exact n1 hx
      rw [z]
      unfold putD'
      rw [if_pos h]
      exact .cons ⟨r1, hv⟩ t
    · have hn : ¬ p.1 = (Sum.inl k : Key) := fun z => h (by rw [r1] at z; exact Sum.inl.inj z)
      have ih := ent_put hv (k := k) t n2
      have z : putK (p :: kvs) (Sum.inl k : Key) v = p :: putK kvs (Sum.inl k : Key) v := by
        unfold putK
        have e0 : ((p :: kvs).any fun kv => decide (kv.1 = (Sum.inl k : Key))) = (kvs.any fun kv => decide (kv.1 = (Sum.inl k : Key))) := by
          rw [List.any_cons, decide_eq_false hn, Bool.false_or]
        rw [e0]
        by_cases a : (kvs.any fun kv => decide (kv.1 = (Sum.inl k : Key))) = true
        · rw [if_pos a, if_pos a, List.map_cons, if_neg hn]
        · rw [if_neg a, if_neg a]
          rfl
      rw [z]
      unfold putD'
      rw [if_neg h]
      exact .cons r ih
theorem ent_up {H : Hp} {d : Addr} {kvs' : List (Key × V)} {o : HO} (hd : H d = some (.dK kvs')) {kvs : List (Key × V)} {dc : Dc} (h : Paired (EntR H) kvs dc) : Paired (EntR (upd H d o)) kvs dc := by
  refine Paired.imp (fun kv e ⟨h1, a, h2, h3⟩ => ⟨h1, a, h2, ?_⟩) h
  rw [upd_ne (ne_of h3 hd (fun z => nomatch z))]
  exact h3
theorem ent_keep {H H' : Hp} (s : Same H H') {kvs : List (Key × V)} {dc : Dc} (h : Paired (EntR H) kvs dc) : Paired (EntR H') kvs dc := Paired.imp (fun _ _ ⟨h1, h2⟩ => ⟨h1, mono_t2 _ _ _ _ s h2⟩) h
theorem ent_ks {H : Hp} : ∀ {kvs : List (Key × V)} {dc : Dc}, Paired (EntR H) kvs dc → ∃ ks : List (Int × Addr), kvs = ks.map entI ∧ Paired (fun (x : Int × Addr) (e : Int × Int × Int) => x.1 = e.1 ∧ H x.2 = some (.tup [.int e.2.1, .int e.2.2])) ks dc
  | _, _, .nil => ⟨[], rfl, .nil⟩
  | _, _, .cons (a := p) (b := e) r t => by
    obtain ⟨ks, e1, e2⟩ := ent_ks t
    obtain ⟨r1, a, r2, r3⟩ := r
    refine ⟨(e.1, a) :: ks, ?_, .cons ⟨rfl, r3⟩ e2⟩
    rw [List.map_cons, ← e1]
    obtain ⟨p1, p2⟩ := p
    have r1 : p1 = Sum.inl e.1 := r1
    have r2 : p2 = .ref a := r2
    rw [r1, r2]
theorem lg_lcm {n : Nat} {a b : Int} (ha : 0 < a) (hb : 0 < b) (la : Lg n a) (lb : Lg 20 b) : Lg (n + 20) (lcmI a b) := by
  have h := la.mul lb
  have p := lcmI_pos ha hb
  have g := gcd_pos' (w := a) hb
  have l : lcmI a b ≤ a * b := by
    unfold lcmI
    exact Int.ediv_le_self _ (Int.le_of_lt (Int.mul_pos ha hb))
  unfold Lg at *
  omega
theorem whole_lg {rows : List Row3} (h : ∀ r ∈ rows, 0 < r.2.1 ∧ Lg 20 r.2.1) : ∀ i, i ≤ rows.length → 0 < wholeM (rows.take i) ∧ Lg (1 + 20 * i) (wholeM (rows.take i))
  | 0, _ => ⟨by show (0 : Int) < 1; decide, by show (1 : Int).natAbs < 2 ^ 1; decide⟩
  | i + 1, hi => by
    obtain ⟨a, b⟩ := whole_lg h i (by omega)
    have g : rows[i]? = some rows[i] := List.getElem?_eq_getElem (by omega)
    have e : wholeM (rows.take (i + 1)) = lcmI (wholeM (rows.take i)) rows[i].2.1 := by
      unfold wholeM
      rw [List.take_add_one, g, List.foldl_append]
      rfl
    obtain ⟨c, d⟩ := h rows[i] (List.mem_of_getElem? g)
    rw [e]
    refine ⟨lcmI_pos a c, ?_⟩
    have := lg_lcm a c b d
    rw [show 1 + 20 * (i + 1) = 1 + 20 * i + 20 by omega]
    exact this
section
variable {P : Program} {w : World} {K : PySem.W.Frag} {mg : Str → Option Value} {base : Heap}
abbrev s_in_order : Stmt := topS 33
abbrev n_in_order : List Str := ["rows", "whole", "top", "base", "way", "places", "here", "up", "many"]
theorem sc_in_order : FnScope n_in_order ["rows"] (defScope s_in_order) := ⟨rfl, rfl, rfl, by decide +kernel, rfl, by decide +kernel, by decide +kernel⟩
structure RowsOk (rows : List Row3) : Prop where
  few : rows.length ≤ 8
  each : ∀ r ∈ rows, 0 < r.2.1 ∧ Lg 20 r.2.1 ∧ Lg 100 r.1
def sp_in_order : Sp := fun vs H Q _ => ∃ (v : V) (rows : List Row3), vs = [v] ∧ Lst T3 H v rows ∧ RowsOk rows ∧ ∀ v' H', Same H H' → NewL T4 H H' v' (orderM rows) → Q v' H'
theorem ok_in_order (B : Blt mg) {f : Addr} {fd : FuncData} (F : Fun K "in_order" "in_order" s_in_order f fd)
    (c_common_part : Cal P w K mg base 1 "common_part" ["one", "other"] sp_common_part) : FnOk P w K mg base CX0 2 f fd ["rows"] sp_in_order := by
  refine F.ok sc_in_order (fun vs H Q E h => ?_) (fun cdv A outer s H vs Q E hr h => ?_)
  · obtain ⟨v, _, rfl, _⟩ := h; rfl
  · have hu := hu_of hr
    refine ⟨_, (pss_cons (ps_set (i := 1) sc_in_order.nd rfl (.inr rfl) pe_int)
 (pss_cons (ps_for PassesOwn.never rfl (pi_list (pv 0)) (pg_tup (by rfl) (pgs_cons (pg_name (i := 2) sc_in_order.nd rfl (.inl rfl)) (pgs_cons (pg_name (i := 3) sc_in_order.nd rfl (.inl rfl)) (pgs_cons (pg_name (i := 4) sc_in_order.nd rfl (.inl rfl)) pgs_nil))))
 (pss_one (ps_set (i := 1) sc_in_order.nd rfl (.inr rfl) (pe_op op_fdivW (pe_op op_mulW (pv 1) (pv 3)) (pe_cal c_common_part (hr.mono (by decide)) (by rfl) (pa_cons (pv 1) (pa_cons (pv 3) pa_nil)))))))
 (pss_cons (ps_set (i := 5) sc_in_order.nd rfl (.inl rfl) pe_dnewK)
 (pss_cons (ps_for PassesOwn.never rfl (pi_list (pv 0)) (pg_tup (by rfl) (pgs_cons (pg_name (i := 2) sc_in_order.nd rfl (.inl rfl)) (pgs_cons (pg_name (i := 3) sc_in_order.nd rfl (.inl rfl)) (pgs_cons (pg_name (i := 4) sc_in_order.nd rfl (.inl rfl)) pgs_nil))))
 (pss_cons (ps_set (i := 6) sc_in_order.nd rfl (.inl rfl) (pe_op op_mulW (pv 2) (pe_op op_fdivW (pv 1) (pv 3))))
 (pss_cons (ps_asg (pe_dget2 hu (pv 5) (pv 6) (pe_tup (pa_cons pe_int (pa_cons pe_int pa_nil))) ⟨by rfl, by rfl, by rfl, by rfl⟩) (pg_tup (by rfl) (pgs_cons (pg_name (i := 7) sc_in_order.nd rfl (.inl rfl)) (pgs_cons (pg_name (i := 8) sc_in_order.nd rfl (.inl rfl)) pgs_nil))))
 (pss_one (ps_dput hu (pv 5) (pv 6) (pe_tup (pa_cons (pe_op op_add (pv 7) (pv 4)) (pa_cons (pe_op op_add (pv 8) pe_int) pa_nil))) (by rfl))))))
 (pss_one (ps_ret (pe_lc (own := [("here", 6), ("up", 7), ("many", 8)]) (g := gTup K 2 (gCons (gName 6) (gCons (gTup K 2 (gCons (gName 7) (gCons (gName 8) gNil))) gNil))) rfl sc_in_order.nd (pi_list (pe_callB (cr_sortedItemsK rfl) (by rfl) B.sorted_ (by decide +kernel) (pa_cons (pe_bm0 PySem.F.plainAttrs_dict PySem.F.slot_dict_items PySem.F.type_dict_items mt_itemsK (pv 5)) pa_nil))) (blkOk_by (N := n_in_order) (sc := defScope s_in_order) (own := [("here", 6), ("up", 7), ("many", 8)]) (by decide +kernel)) (fun _ _ _ _ _ => (pg_tup (by rfl) (pgs_cons (pg_name (i := 6) sc_in_order.nd rfl (.inl rfl)) (pgs_cons (pg_tup (by rfl) (pgs_cons (pg_name (i := 7) sc_in_order.nd rfl (.inl rfl)) (pgs_cons (pg_name (i := 8) sc_in_order.nd rfl (.inl rfl)) pgs_nil))) pgs_nil)))) (fun _ _ _ _ _ => pts_nil) (fun _ _ _ _ _ => (pe_tup (pa_cons (pv 6) (pa_cons (pv 1) (pa_cons (pv 7) (pa_cons (pv 8) pa_nil))))))))))))), ?_⟩
    obtain ⟨v, rows, rfl, ⟨a, vs, rfl, ha, hp⟩, ok, q⟩ := h
    have lp : vs.length = rows.length := Paired.length hp
    have few := ok.few
    have hb : ∀ r ∈ rows, 0 < r.2.1 := fun r hr => (ok.each r hr).1
    have hl : ∀ r ∈ rows, 0 < r.2.1 ∧ Lg 20 r.2.1 := fun r hr => ⟨(ok.each r hr).1, (ok.each r hr).2.1⟩
    have wp := wholeM_pos hb
    have wl : Lg 161 (wholeM rows) := by
      have := (whole_lg hl rows.length (Nat.le_refl _)).2
      rw [List.take_length] at this
      exact this.mono (by omega)
    -- the common base
    refine ⟨_, rfl, a, rfl, ⟨_, .of ha⟩, for_list (xs := vs) (fun i σ H' => ∃ z2 z3 z4 z5 z6 z7 z8, σ = [some (.ref a), some (.int (wholeM (rows.take i))), z2, z3, z4, z5, z6, z7, z8] ∧ H' = H) ⟨_, _, _, _, _, _, _, rfl, rfl⟩ (fun i σ H' _ h => ?_) (fun i x σ H' hi h => ?_) (fun σ H' h => ?_)⟩
    · obtain ⟨_, _, _, _, _, _, _, _, rfl⟩ := h
      exact .of ha
    · obtain ⟨z2, z3, z4, z5, z6, z7, z8, rfl, rfl⟩ := h
      obtain ⟨r, hri, b, rfl, hr3⟩ := Paired.get hp hi
      have hrm := List.mem_of_getElem? hri
      have hi2 := (List.getElem?_eq_some_iff.mp hri).1
      obtain ⟨b0, b20, _⟩ := ok.each r hrm
      obtain ⟨w0, w20⟩ := whole_lg hl i (by omega)
      obtain ⟨g0, g1⟩ := gcd_le (t := wholeM (rows.take i)) b0
      refine ⟨b, _, rfl, .of hr3, rfl, _, _, rfl, _, _, rfl, _, _, rfl, rfl, ?_⟩
      refine ⟨_, rfl, _, rfl, _, _, rfl, rfl, lg_mulW w20 b20 (by omega) (by decide), _, rfl, _, rfl, _, _, rfl, _, _, rfl, rfl, sm_divW g0 (sm_le (Int.le_of_lt g0) g1 (b20.sm (by decide))), ?_⟩
      refine ⟨some (.int r.1), some (.int r.2.1), some (.int r.2.2), z5, z6, z7, z8, ?_, rfl⟩
      have e : wholeM (rows.take (i + 1)) = lcmI (wholeM (rows.take i)) r.2.1 := by
        unfold wholeM
        rw [List.take_add_one, hri, List.foldl_append]
        rfl
      rw [e]
      rfl
    · obtain ⟨z2, z3, z4, z5, z6, z7, z8, rfl, rfl⟩ := h
      rw [lp, List.take_length]
      -- the dict
      refine fun d hd => ?_
      have s1 : Same H' (upd H' d (.dK [])) := same_upd hd
      refine ⟨_, rfl, a, rfl, ⟨_, .of (s1 _ _ ha)⟩, for_list (xs := vs) (fun i σ H2 => ∃ z2 z3 z4 z6 z7 z8, σ = [some (.ref a), some (.int (wholeM rows)), z2, z3, z4, some (.ref d), z6, z7, z8] ∧ Same H' H2 ∧ ∃ kvs, H2 d = some (.dK kvs) ∧ Paired (EntR H2) kvs (dictM (wholeM rows) (rows.take i))) ⟨_, _, _, _, _, _, rfl, s1, [], upd_same, .nil⟩ (fun i σ H2 _ h => ?_) (fun i x σ H2 hi h => ?_) (fun σ H2 h => ?_)⟩
      · obtain ⟨_, _, _, _, _, _, _, s2, _⟩ := h
        exact .of (s2 _ _ ha)
      · obtain ⟨z2, z3, z4, z6, z7, z8, rfl, s2, kvs, hkvs, pk⟩ := h
        obtain ⟨r, hri, b, rfl, hr3⟩ := Paired.get hp hi
        have hrm := List.mem_of_getElem? hri
        have hi2 := (List.getElem?_eq_some_iff.mp hri).1
        obtain ⟨b0, b20, t100⟩ := ok.each r hrm
        have ll : kvs.length ≤ 8 := by
          have e1 := Paired.length pk
          have e2 := dict_len (wholeM rows) (rows.take i) []
          have e3 : (rows.take i).length ≤ 8 := by rw [List.length_take]; omega
          have e2 : (dictM (wholeM rows) (rows.take i)).length ≤ ([] : Dc).length + (rows.take i).length := e2
          simp only [List.length_nil] at e2
          omega
        have nd : (keysD (dictM (wholeM rows) (rows.take i))).Nodup := dict_nodup _ _ _ .nil
        refine ⟨b, _, rfl, .of (s2 _ _ hr3), rfl, _, _, rfl, _, _, rfl, _, _, rfl, rfl, ?_⟩
        refine ⟨_, rfl, _, rfl, _, rfl, _, _, rfl, rfl, sm_divW b0 (b20.sm (by decide)), _, _, rfl, rfl, ?_, ?_⟩
        · refine sm_mulW (t100.sm (by decide)) (sm_le (Int.ediv_nonneg (Int.le_of_lt wp) (Int.le_of_lt b0)) (Int.ediv_le_self _ (Int.le_of_lt wp)) (wl.sm (by decide)))
        -- up, many
        refine ⟨_, rfl, d, rfl, .inl ⟨_, .inl hkvs⟩, _, rfl, by show 2 ≤ sizeLine; decide, fun t0 ht0 => ?_⟩
        have s3 : Same H2 (upd H2 t0 (.tup [.int 0, .int 0])) := same_upd ht0
        refine ⟨_, DGet.k (k := Sum.inl (hereM (wholeM rows) r)) (s3 _ _ hkvs), ?_⟩
        have got : ∃ tp, (valV kvs (Sum.inl (hereM (wholeM rows) r) : Key)).getD (.ref t0) = .ref tp ∧ (upd H2 t0 (.tup [.int 0, .int 0])) tp = some (.tup [.int (getD' (dictM (wholeM rows) (rows.take i)) (hereM (wholeM rows) r)).1, .int (getD' (dictM (wholeM rows) (rows.take i)) (hereM (wholeM rows) r)).2]) := by
          rcases ent_get (k := hereM (wholeM rows) r) pk with ⟨e1, e2⟩ | ⟨u, e1, a2, rfl, h2⟩
          · rw [e1, e2]
            exact ⟨t0, rfl, upd_same⟩
          · rw [e1]
            exact ⟨a2, rfl, s3 _ _ h2⟩
        obtain ⟨tp, e1, e2⟩ := got
        refine ⟨tp, _, e1, .of e2, rfl, _, _, rfl, _, _, rfl, rfl, ?_⟩
        -- the store
        refine ⟨_, rfl, _, rfl, _, _, rfl, rfl, _, rfl, _, _, rfl, rfl, by show 2 ≤ sizeLine; decide, fun t1 ht1 => ?_⟩
        have s4 := same_upd ht1 (o := .tup [.int ((getD' (dictM (wholeM rows) (rows.take i)) (hereM (wholeM rows) r)).1 + r.2.2), .int ((getD' (dictM (wholeM rows) (rows.take i)) (hereM (wholeM rows) r)).2 + 1)])
        have hd4 := s4 _ _ (s3 _ _ hkvs)
        refine ⟨_, rfl, _, rfl, d, _, rfl, DPut.k (k := Sum.inl (hereM (wholeM rows) r)) hd4 (small1000 (by omega)), ?_⟩
        refine ⟨_, _, _, _, _, _, rfl, same_mut (s2.trans (s3.trans s4)) hd, _, upd_same, ?_⟩
        have pk4 := ent_keep (s3.trans s4) pk
        have pk5 := ent_put (k := hereM (wholeM rows) r) (v := .ref t1) (q := ((getD' (dictM (wholeM rows) (rows.take i)) (hereM (wholeM rows) r)).1 + r.2.2, (getD' (dictM (wholeM rows) (rows.take i)) (hereM (wholeM rows) r)).2 + 1)) ⟨t1, rfl, upd_same⟩ pk4 nd
        have e : dictM (wholeM rows) (rows.take (i + 1)) = stepD (wholeM rows) (dictM (wholeM rows) (rows.take i)) r := by
          unfold dictM
          rw [List.take_add_one, hri, List.foldl_append]
          rfl
        rw [e]
        exact ent_up hd4 pk5
      · obtain ⟨z2, z3, z4, z6, z7, z8, rfl, s2, kvs, hkvs, pk⟩ := h
        rw [lp, List.take_length] at pk
        -- sorted(places.items())
        obtain ⟨ks, rfl, pks⟩ := ent_ks pk
        have lk : ks.length ≤ 8 := by
          have e1 := Paired.length pks
          have e2 : (dictM (wholeM rows) rows).length ≤ ([] : Dc).length + rows.length := dict_len (wholeM rows) rows []
          simp only [List.length_nil] at e2
          omega
        refine ⟨_, rfl, .inr (.inr (.inl ⟨rfl, .inl ⟨_, hkvs⟩⟩)), d, _, rfl, rfl, hkvs, fun iv hiv => ?_⟩
        have s3 := same_upd hiv (o := itemsO iv d)
        refine ⟨iv, d, ks, rfl, upd_same, s3 _ _ hkvs, by omega, fun H4 l ps s4 hl4 perm srt hl5 hps => ?_⟩
        have s34 := s3.trans s4
        obtain ⟨dc, pdc, rdc⟩ := paired_perm perm pks
        have esort : dc = sortK (dictM (wholeM rows) rows) := by
          refine (srtK_unique ?_ (sortK_srt _) ?_ ((sortK_perm _).trans pdc.symm)).symm
          · have n1 : (keysD (dictM (wholeM rows) rows)).Nodup := dict_nodup _ _ _ .nil
            exact ((sortK_perm (dictM (wholeM rows) rows)).map (·.1)).nodup_iff.mpr n1
          · have : ∀ {xs : List (Int × Addr)} {ds : Dc}, Paired (fun (x : Int × Addr) (e : Int × Int × Int) => x.1 = e.1 ∧ H2 x.2 = some (.tup [.int e.2.1, .int e.2.2])) xs ds → xs.Pairwise (fun e f => e.1 ≤ f.1) → ds.Pairwise (fun e f => e.1 ≤ f.1) := fun {xs ds} r => by
              induction r with
              | nil => intro _; exact .nil
              | cons r1 r2 ih =>
                intro h
                obtain ⟨h1, h2⟩ := List.pairwise_cons.mp h
                refine List.pairwise_cons.mpr ⟨fun z hz => ?_, ih h2⟩
                obtain ⟨j, hj⟩ := List.mem_iff_getElem?.mp hz
                have lj := (List.getElem?_eq_some_iff.mp hj).1
                have ll := Paired.length r2
                obtain ⟨y, hy1, hy2⟩ := Paired.get r2 (List.getElem?_eq_getElem (show j < _ by omega))
                rw [hj] at hy1
                cases hy1
                have := h1 _ (List.getElem_mem (show j < _ by omega))
                rw [← r1.1, ← hy2.1]
                exact this
            exact this rdc srt
        have lps : ps.length ≤ 8 := by
          have e1 := perm.length_eq
          rw [List.length_map] at e1
          omega
        have lpd : ps.length = dc.length := by
          have e1 := Paired.length rdc
          rw [List.length_map] at e1
          exact e1
        refine ⟨l, rfl, ⟨_, .of hl5⟩, fun D hD => ?_⟩
        refine lc_list (K := K) (a := l) (xs := ps.map fun z => V.ref z.1) (fun i H5 => Same H4 H5 ∧ Grow T4 H5 D ((dc.take i).map fun e => (e.1, wholeM rows, e.2.1, e.2.2))) ⟨same_upd hD, Grow.start⟩ (fun i H5 _ h => .of (h.1 _ _ hl5)) (fun i x H5 hi h => ?_) (fun H5 h => ?_)
        · obtain ⟨s5, g5⟩ := h
          rw [List.getElem?_map] at hi
          obtain ⟨z, hzi, rfl⟩ := Option.map_eq_some_iff.mp hi
          have hz2 : (ps.map (·.2))[i]? = some z.2 := by rw [List.getElem?_map, hzi]; rfl
          obtain ⟨e, hei, ez1, ez2⟩ := Paired.get rdc hz2
          have ht := s5 _ _ (hps z (List.mem_of_getElem? hzi))
          have hu2 := (s34.trans s5) _ _ ez2
          have hi2 := (List.getElem?_eq_some_iff.mp hzi).1
          obtain ⟨ds, hds, pds⟩ := id g5
          have lds := g5.len hds
          refine ⟨z.1, _, rfl, .of ht, rfl, _, _, rfl, _, _, rfl, ⟨z.2.2, _, rfl, .of hu2, rfl, _, _, rfl, _, _, rfl, rfl, rfl, ?_⟩⟩
          refine ⟨rfl, _, rfl, _, rfl, _, rfl, _, rfl, by show 4 ≤ sizeLine; decide, fun T hT => ?_⟩
          have s6 := same_upd hT (o := .tup [.int z.2.1, .int (wholeM rows), .int e.2.1, .int e.2.2])
          refine ⟨ds, s6 _ _ hds, ?_, same_mut (s5.trans s6) hD, ?_⟩
          · rw [lds, List.length_map, List.length_take]
            exact small1000 (by omega)
          · have ed : (dc.take (i + 1)).map (fun e => (e.1, wholeM rows, e.2.1, e.2.2)) = (dc.take i).map (fun e => (e.1, wholeM rows, e.2.1, e.2.2)) ++ [(e.1, wholeM rows, e.2.1, e.2.2)] := by
              rw [List.take_add_one, hei, List.map_append]
              rfl
            rw [ed]
            refine (g5.keep mono_t4 s6).snoc (s6 _ _ hds) (rem_t4 (s6 _ _ hds) ⟨T, rfl, ?_⟩)
            rw [upd_same, ez1]
        · obtain ⟨s5, g5⟩ := h
          rw [List.length_map, lpd, List.take_length, esort] at g5
          refine q _ _ (s2.trans (s34.trans s5)) ?_
          exact g5.done mono_t4 ((s2.trans s34).free hD)
end
end K79

/-! #### part K79W9 -/
namespace K79
open PySem PySem.Spec PyProof.Rows L2 L2.DX
theorem edges_ends_mem {p : List Pt} {e : Pt × Pt} (he : e ∈ edges p) : e.1 ∈ p ∧ e.2 ∈ p := by
  obtain ⟨a, b⟩ := e
  have h2 := List.of_mem_zip (show (a, b) ∈ List.zip (p.getLastD (0, 0) :: p) p from he)
  refine ⟨?_, h2.2⟩
  rcases List.mem_cons.mp h2.1 with e | e
  · show a ∈ p
    rw [e]
    cases p with
    | nil => cases h2.2
    | cons x r =>
      rw [List.getLastD_eq_getLast?, List.getLast?_eq_some_getLast (List.cons_ne_nil x r)]
      exact List.getLast_mem _
  · exact e
theorem lg10 {i : Int} (h : -1000 ≤ i ∧ i ≤ 1000) : Lg 10 i := by show i.natAbs < 1024; omega
theorem lg11 {i : Int} (h : -2000 ≤ i ∧ i ≤ 2000) : Lg 11 i := by show i.natAbs < 2048; omega
theorem rows_ok {pss : List (List Pt)} {m row : Int} (bnd : Bnd pss) (m0 : 0 < m) (m1 : m ≤ 100) (len : (crossM pss m row).length ≤ 8) : RowsOk (crossM pss m row) := by
  refine ⟨len, fun r hr => ?_⟩
  have hr0 := hr
  unfold crossM at hr
  obtain ⟨p, hp, hr⟩ := List.mem_flatMap.mp hr
  obtain ⟨⟨a, b⟩, he, hc⟩ := List.mem_filterMap.mp hr
  obtain ⟨ea, eb⟩ := edges_ends_mem he
  obtain ⟨a1, a2, a3, a4⟩ := bnd p hp a ea
  obtain ⟨b1, b2, b3, b4⟩ := bnd p hp b eb
  obtain ⟨lo, hi, hlh, l1, l2, e1, e2⟩ := crossE_form m0 hc
  have hlo : (-1000 ≤ lo.1 ∧ lo.1 ≤ 1000 ∧ -1000 ≤ lo.2 ∧ lo.2 ≤ 1000) ∧ (-1000 ≤ hi.1 ∧ hi.1 ≤ 1000 ∧ -1000 ≤ hi.2 ∧ hi.2 ≤ 1000) := by
    rcases hlh with ⟨rfl, rfl⟩ | ⟨rfl, rfl⟩
    · exact ⟨⟨a1, a2, a3, a4⟩, ⟨b1, b2, b3, b4⟩⟩
    · exact ⟨⟨b1, b2, b3, b4⟩, ⟨a1, a2, a3, a4⟩⟩
  obtain ⟨⟨c1, c2, c3, c4⟩, ⟨d1, d2, d3, d4⟩⟩ := hlo
  refine ⟨(crossM_mem m0 hr0).2, ?_, ?_⟩
  · rw [e2]
    have h1 : Lg 11 (hi.2 - lo.2) := lg11 (by omega)
    have h2 : Lg 7 m := by show m.natAbs < 128; omega
    exact (h1.mul h2).mono (by decide)
  · rw [e1]
    have h1 : Lg 21 (lo.1 * (hi.2 - lineOf m row)) := (lg10 (by omega)).mul (lg11 (by omega))
    have h2 : Lg 21 (hi.1 * (lineOf m row - lo.2)) := (lg10 (by omega)).mul (lg11 (by omega))
    exact (h1.add h2).mono (by decide)
section
variable {P : Program} {w : World} {K : PySem.W.Frag} {mg : Str → Option Value} {base : Heap}
abbrev s_stretches : Stmt := topS 34
abbrev n_stretches : List Str := ["parts", "many", "row", "rule", "found", "begin", "ups", "count", "here", "base", "up", "number", "within"]
theorem sc_stretches : FnScope n_stretches ["parts", "many", "row", "rule"] (defScope s_stretches) := ⟨rfl, rfl, rfl, by decide +kernel, rfl, by decide +kernel, by decide +kernel⟩
structure RowIn (pss : List (List Pt)) (m row : Int) : Prop where
  few : FewP pss
  bnd : Bnd pss
  m0 : 0 < m
  m1 : m ≤ 100
  r0 : -1000 ≤ row
  r1 : row ≤ 1000
  len : (crossM pss m row).length ≤ 8
def sp_stretches : Sp := fun vs H Q _ => ∃ (v : V) (pss : List (List Pt)) (m row : Int) (odd : Bool), vs = [v, .int m, .int row, .str (ruleS odd)] ∧ IParts H v pss ∧ RowIn pss m row ∧ ∀ v' H', Same H H' → NewL T3 H H' v' (stretchM (crossM pss m row) odd) → Q v' H'
def begV : Option Int → V
  | none => .non
  | some b => .int b
def stepWi (wi : Bool) (s : SSt) (e : Row4) : SSt :=
  match wi, s.begin with
  | true, none => ⟨s.found, some e.1, s.ups + e.2.2.1, s.count + e.2.2.2⟩
  | true, some b => ⟨s.found, some b, s.ups + e.2.2.1, s.count + e.2.2.2⟩
  | false, some b => ⟨s.found ++ [(b, e.1, e.2.1)], none, s.ups + e.2.2.1, s.count + e.2.2.2⟩
  | false, none => ⟨s.found, none, s.ups + e.2.2.1, s.count + e.2.2.2⟩
theorem step_wi (odd : Bool) (s : SSt) (e : Row4) : stepS odd s e = stepWi (within odd (s.ups + e.2.2.1) (s.count + e.2.2.2)) s e := rfl
abbrev foldS (odd : Bool) (l : List Row4) : SSt := l.foldl (stepS odd) ⟨[], none, 0, 0⟩
theorem found_len (odd : Bool) : ∀ (l : List Row4) (s : SSt), (l.foldl (stepS odd) s).found.length ≤ s.found.length + l.length
  | [], s => Nat.le_refl _
  | e :: r, s => by
    have a := found_len odd r (stepS odd s e)
    have b : (stepS odd s e).found.length ≤ s.found.length + 1 := by
      unfold stepS
      simp only
      split <;> simp
    show (r.foldl (stepS odd) (stepS odd s e)).found.length ≤ s.found.length + (r.length + 1)
    omega
theorem order_len (rows : List Row3) : (orderM rows).length ≤ rows.length := by
  unfold orderM
  rw [List.length_map, (sortK_perm _).length_eq]
  have e2 : (dictM (wholeM rows) rows).length ≤ ([] : Dc).length + rows.length := dict_len (wholeM rows) rows []
  simp only [List.length_nil] at e2
  omega
theorem ok_stretches {f : Addr} {fd : FuncData} (F : Fun K "stretches" "stretches" s_stretches f fd)
    (c_crossings : Cal P w K mg base 1 "crossings" ["parts", "many", "row"] sp_crossings) (c_in_order : Cal P w K mg base 2 "in_order" ["rows"] sp_in_order) : FnOk P w K mg base CX0 3 f fd ["parts", "many", "row", "rule"] sp_stretches := by
  refine F.ok sc_stretches (fun vs H Q E h => ?_) (fun cdv A outer s H vs Q E hr h => ?_)
  · obtain ⟨v, _, _, _, _, rfl, _⟩ := h; rfl
  · refine ⟨_, (pss_cons (ps_set (i := 4) sc_stretches.nd rfl (.inl rfl) (pe_lst pa_nil))
 (pss_cons (ps_asg (pe_tup (pa_cons pe_non (pa_cons pe_int (pa_cons pe_int pa_nil)))) (pg_tup (by rfl) (pgs_cons (pg_name (i := 5) sc_stretches.nd rfl (.inl rfl)) (pgs_cons (pg_name (i := 6) sc_stretches.nd rfl (.inl rfl)) (pgs_cons (pg_name (i := 7) sc_stretches.nd rfl (.inl rfl)) pgs_nil)))))
 (pss_cons (ps_for PassesOwn.never rfl (pi_list (pe_cal c_in_order (hr.mono (by decide)) (by rfl) (pa_cons (pe_cal c_crossings (hr.mono (by decide)) (by rfl) (pa_cons (pv 0) (pa_cons (pv 1) (pa_cons (pv 2) pa_nil)))) pa_nil))) (pg_tup (by rfl) (pgs_cons (pg_name (i := 8) sc_stretches.nd rfl (.inl rfl)) (pgs_cons (pg_name (i := 9) sc_stretches.nd rfl (.inl rfl)) (pgs_cons (pg_name (i := 10) sc_stretches.nd rfl (.inl rfl)) (pgs_cons (pg_name (i := 11) sc_stretches.nd rfl (.inl rfl)) pgs_nil)))))
 (pss_cons (ps_aug (i := 6) sc_stretches.nd rfl (.inl rfl) (pv 10) ip_add)
 (pss_cons (ps_aug (i := 7) sc_stretches.nd rfl (.inl rfl) (pv 11) ip_add)
 (pss_cons (ps_set (i := 12) sc_stretches.nd rfl (.inl rfl) (pe_ifExp (pt_cmpR op_eq (pv 3) pe_str (nomark _)) (pe_cmpR op_ne (pv 6) pe_int (nomark _)) (pe_cmpR op_eq (pe_op op_modN (pv 7) pe_int) pe_int (nomark _))))
 (pss_one (ps_if (PW.pt (pw_and (pt_val (pv 12)) (pw_and1 (pt_cmpR op_isN (pv 5) pe_non (nomark _)))))
 (pss_one (ps_set (i := 5) sc_stretches.nd rfl (.inl rfl) (pv 8)))
 (pss_one (ps_if (PW.pt (pw_and (pt_not (pt_val (pv 12))) (pw_and1 (pt_cmpR op_notN (pv 5) pe_non (nomark _)))))
 (pss_cons (ps_expr (pe_bm PySem.F.plainAttrs_list PySem.F.slot_list_append PySem.F.type_list_append mt_append (pv 4) (pa_cons (pe_tup (pa_cons (pv 5) (pa_cons (pv 8) (pa_cons (pv 9) pa_nil)))) pa_nil)))
 (pss_one (ps_set (i := 5) sc_stretches.nd rfl (.inl rfl) pe_non)))
 pss_nil))))))))
 (pss_one (ps_ret (pv 4)))))), ?_⟩
    obtain ⟨v, pss, m, row, odd, rfl, hP, rin, q⟩ := h
    have rok := rows_ok rin.bnd rin.m0 rin.m1 rin.len
    refine ⟨Nat.zero_le _, fun l hl => ?_⟩
    have s1 : Same H (upd H l (.lst [])) := same_upd hl
    refine ⟨by show 3 ≤ sizeLine; decide, fun t0 ht0 => ?_⟩
    have s01 := same_upd ht0 (o := .tup [.non, .int 0, .int 0])
    refine ⟨t0, _, rfl, .of upd_same, rfl, _, _, rfl, _, _, rfl, _, _, rfl, rfl, ?_⟩
    have s1' := s1.trans s01
    refine ⟨_, rfl, _, rfl, _, rfl, v, pss, m, row, rfl, mono_lst (mono_lst mono_t2) _ _ _ _ s1' hP, rin.few, rin.bnd, rin.m0, by have := rin.m1; omega, rin.r0, rin.r1, fun v2 H2 s2 n2 => ?_⟩
    refine ⟨v2, crossM pss m row, rfl, n2.lst, rok, fun v3 H3 s3 n3 => ?_⟩
    obtain ⟨a, vs, rfl, na, ha, hp⟩ := n3
    have s13 := s01.trans (s2.trans s3)
    have hl2 : H2 l = some (.lst []) := (s01.trans s2) _ _ upd_same
    have hl3 : H3 l = some (.lst []) := s13 _ _ upd_same
    have ha : rem H3 l a = some (.lst vs) := by
      rw [rem_ne (ne_of_none hl2 na).symm]
      exact ha
    have hp := rem_all tups_t4 hl3 hp
    have sH : Same H (rem H3 l) := same_rem (s1.trans s13) hl
    have lp : vs.length = (orderM (crossM pss m row)).length := Paired.length hp
    have ol := order_len (crossM pss m row)
    have rl := rin.len
    have g0 : Grow T3 H3 l ([] : List Row3) := (Grow.start (R := T3)).keep mono_t3 s13
    refine ⟨a, rfl, ⟨_, .of (rem_same _ _ ha)⟩, for_list (xs := vs) (fun i σ H' => ∃ z8 z9 z10 z11 z12, σ = [some v, some (.int m), some (.int row), some (.str (ruleS odd)), some (.ref l), some (begV (foldS odd ((orderM (crossM pss m row)).take i)).begin), some (.int (foldS odd ((orderM (crossM pss m row)).take i)).ups), some (.int (foldS odd ((orderM (crossM pss m row)).take i)).count), z8, z9, z10, z11, z12] ∧ Same (rem H3 l) H' ∧ Grow T3 H' l (foldS odd ((orderM (crossM pss m row)).take i)).found) ⟨_, _, _, _, _, rfl, rem_same, g0⟩ (fun i σ H' _ h => ?_) (fun i x σ H' hi h => ?_) (fun σ H' h => ?_)⟩
    · obtain ⟨_, _, _, _, _, _, s4, _⟩ := h
      exact .of (s4 _ _ ha)
    · obtain ⟨z8, z9, z10, z11, z12, rfl, s4, g4⟩ := h
      obtain ⟨e, hei, b, rfl, hb⟩ := Paired.get hp hi
      have hi2 := (List.getElem?_eq_some_iff.mp hei).1
      have est : foldS odd ((orderM (crossM pss m row)).take (i + 1)) = stepS odd (foldS odd ((orderM (crossM pss m row)).take i)) e := by
        unfold foldS
        rw [List.take_add_one, hei, List.foldl_append]
        rfl
      have fl : (foldS odd ((orderM (crossM pss m row)).take i)).found.length ≤ 8 := by
        have k : (foldS odd ((orderM (crossM pss m row)).take i)).found.length ≤ ([] : List Row3).length + ((orderM (crossM pss m row)).take i).length := found_len odd _ _
        rw [List.length_take] at k
        simp only [List.length_nil] at k
        omega
      generalize foldS odd ((orderM (crossM pss m row)).take i) = S at *
      obtain ⟨fo, be, up, co⟩ := S
      refine ⟨b, _, rfl, .of (s4 _ _ hb), rfl, _, _, rfl, _, _, rfl, _, _, rfl, _, _, rfl, rfl, ?_⟩
      refine ⟨_, rfl, _, rfl, _, _, rfl, rfl, ?_⟩
      refine ⟨_, rfl, _, rfl, _, _, rfl, rfl, ?_⟩
      -- behind «within»
      have go : ∀ wi : Bool, wi = within odd (up + e.2.2.1) (co + e.2.2.2) →
          tIfS (tAnd (tB (tVar 12)) (tTest (tOp (fun x y H Q => y = .non ∧ Q (.bl (decide (x = .non))) H) (tVar 5) (tC .non)))) (tAsg (tVar 8) (gName 5))
            (tIfS (tAnd (tNot (tB (tVar 12))) (tTest (tOp (fun x y H Q => y = .non ∧ Q (.bl (!decide (x = .non))) H) (tVar 5) (tC .non))))
              (tSeq (tDrop (tBM K "list" rAppend (tVar 4) (tCons (tTup (tCons (tVar 5) (tCons (tVar 8) (tCons (tVar 9) tNil)))) tNil))) (tAsg (tC .non) (gName 5))) tNext)
            { nx := fun σ H' => ∃ z8 z9 z10 z11 z12, σ = [some v, some (.int m), some (.int row), some (.str (ruleS odd)), some (.ref l), some (begV (stepS odd ⟨fo, be, up, co⟩ e).begin), some (.int (stepS odd ⟨fo, be, up, co⟩ e).ups), some (.int (stepS odd ⟨fo, be, up, co⟩ e).count), z8, z9, z10, z11, z12] ∧ Same (rem H3 l) H' ∧ Grow T3 H' l (stepS odd ⟨fo, be, up, co⟩ e).found, rt := fun _ _ => False }
            [some v, some (.int m), some (.int row), some (.str (ruleS odd)), some (.ref l), some (begV be), some (.int (up + e.2.2.1)), some (.int (co + e.2.2.2)), some (.int e.1), some (.int e.2.1), some (.int e.2.2.1), some (.int e.2.2.2), some (.bl wi)] H' := by
        intro wi hwi
        have ws : ∀ b', stepS odd ⟨fo, b', up, co⟩ e = stepWi wi ⟨fo, b', up, co⟩ e := fun b' => by
          rw [step_wi]
          show stepWi (within odd (up + e.2.2.1) (co + e.2.2.2)) _ _ = _
          rw [← hwi]
        cases wi with
        | true =>
          cases be with
          | none =>
            refine ⟨_, rfl, _, rfl, _, rfl, rfl, _, rfl, iteT ⟨_, rfl, ?_⟩⟩
            rw [ws none]
            exact ⟨_, _, _, _, _, rfl, s4, g4⟩
          | some b0 =>
            refine ⟨_, rfl, _, rfl, _, rfl, rfl, _, rfl, iteF ?_⟩
            refine ⟨_, rfl, _, rfl, iteF ?_⟩
            rw [ws (some b0)]
            exact ⟨_, _, _, _, _, rfl, s4, g4⟩
        | false =>
          cases be with
          | none =>
            refine ⟨_, rfl, _, rfl, iteF ?_⟩
            refine ⟨_, rfl, _, rfl, ⟨_, rfl, rfl, _, rfl, iteF ?_⟩⟩
            rw [ws none]
            exact ⟨_, _, _, _, _, rfl, s4, g4⟩
          | some b0 =>
            obtain ⟨ds, hds, pds⟩ := id g4
            have lds := g4.len hds
            refine ⟨_, rfl, _, rfl, iteF ?_⟩
            refine ⟨_, rfl, _, rfl, ⟨_, rfl, rfl, _, rfl, iteT ?_⟩⟩
            refine ⟨_, rfl, .inl ⟨rfl, _, .of hds⟩, _, rfl, _, rfl, _, rfl, by show 3 ≤ sizeLine; decide, fun T hT => ?_⟩
            have s5 := same_upd hT (o := .tup [.int b0, .int e.1, .int e.2.1])
            refine ⟨l, ds, .ref T, rfl, rfl, s5 _ _ hds, by rw [lds]; exact small1000 (by show fo.length ≤ 1000; have : fo.length ≤ 8 := fl; omega), ?_⟩
            rw [ws (some b0)]
            refine ⟨_, _, _, _, _, rfl, ?_, ?_⟩
            · exact same_mut (s4.trans s5) rem_self
            · refine (g4.keep mono_t3 s5).snoc (s5 _ _ hds) (rem_t3 (s5 _ _ hds) ⟨T, rfl, ?_⟩)
              rw [upd_same]
      rw [est]
      cases odd with
      | false =>
        refine ⟨_, rfl, rfl, _, rfl, iteT ?_⟩
        refine ⟨_, rfl, rfl, ?_⟩
        exact go _ (by rw [eqI]; rfl)
      | true =>
        refine ⟨_, rfl, rfl, _, rfl, iteF ?_⟩
        refine ⟨_, rfl, _, _, rfl, rfl, by show (2 : Int) ≠ 0; decide, rfl, ?_⟩
        refine go _ ?_
        rw [eqI, Int.fmod_eq_emod_of_nonneg _ (by decide)]
        rfl
    · obtain ⟨_, _, _, _, _, rfl, s4, g4⟩ := h
      refine ⟨_, rfl, q _ _ ?_ ?_⟩
      · exact sH.trans s4
      · rw [lp, List.take_length] at g4
        exact g4.done mono_t3 hl
end
end K79

/-! #### part K79W10 -/
namespace K79
open PySem PySem.Spec PyProof.Rows L2 L2.DX
/-- two clauses, by the loops' rule -/
def tb2 (wi1 : TI) (g1 : TG) (tt1 : TT) (te : TE) (D : Addr) (vs1 : List Nat) : TBd := fun σ2 H3 Nx => wi1 σ2 H3 fun J1 H4 => tLoop J1 g1 tt1 (tbIn te D) vs1 (wipe σ2 vs1) H4 Nx
theorem lc2_of {wi wi1 : TI} {g g1 : TG} {tt tt1 : TT} {te : TE} {vs vs1 : List Nat} {σ : K79.St} {H : Hp} {Q : VK}
    (h : wi σ H fun J H1 => ∀ D, H1 D = none → tLoop J g tt (tb2 wi1 g1 tt1 te D vs1) vs (wipe σ vs) (upd H1 D (.lst [])) fun H => Q (.ref D) H) : tLc2 wi g tt wi1 g1 tt1 te vs vs1 σ H Q := h
section
variable {P : Program} {w : World} {K : PySem.W.Frag} {mg : Str → Option Value} {base : Heap}
abbrev s_put_together : Stmt := topS 36
abbrev n_put_together : List Str := ["row", "columns", "found", "begin", "end"]
theorem sc_put_together : FnScope n_put_together ["row", "columns"] (defScope s_put_together) := ⟨rfl, rfl, rfl, by decide +kernel, rfl, by decide +kernel, by decide +kernel⟩
/-- of one column at most -/
def sp_put_together : Sp := fun vs H Q _ => ∃ (v : V) (row : Int) (cols : List Pt), vs = [.int row, v] ∧ Lst T2 H v cols ∧ cols.length ≤ 1 ∧ ∀ v' H', Same H H' → NewL T3 H H' v' (cols.filterMap (spanM row)) → Q v' H'
theorem perm_small {α : Type} {xs ys : List α} (h : ys.Perm xs) (l : xs.length ≤ 1) : ys = xs := by
  match xs, l with
  | [], _ => exact List.perm_nil.mp h
  | [x], _ => exact List.perm_singleton.mp h
theorem ok_put_together (B : Blt mg) {f : Addr} {fd : FuncData} (F : Fun K "put_together" "put_together" s_put_together f fd) : FnOk P w K mg base CX0 1 f fd ["row", "columns"] sp_put_together := by
  refine F.ok sc_put_together (fun vs H Q E h => ?_) (fun cdv A outer s H vs Q E hr h => ?_)
  · obtain ⟨v, _, _, rfl, _⟩ := h; rfl
  · refine ⟨_, (pss_cons (ps_set (i := 2) sc_put_together.nd rfl (.inl rfl) (pe_lst pa_nil))
 (pss_cons (ps_for PassesOwn.never rfl (pi_list (pe_callB cr_sortedPO (by rfl) B.sorted_ (by decide +kernel) (pa_cons (pv 1) pa_nil))) (pg_tup (by rfl) (pgs_cons (pg_name (i := 3) sc_put_together.nd rfl (.inl rfl)) (pgs_cons (pg_name (i := 4) sc_put_together.nd rfl (.inl rfl)) pgs_nil)))
 (pss_cons (ps_if (pt_cmpR op_eq (pv 3) (pv 4) (nomark _))
 (pss_one ps_continue)
 pss_nil)
 (pss_one (ps_if (PW.pt (pw_and (pt_cmpR (op_neD hr.units) (pv 2) (pe_lst pa_nil) (nomark _)) (pw_and1 (pt_cmpR op_le (pv 3) (pe_ix ix_tup (pe_ix ix_list (pv 2) (pe_un un_neg pe_int) (fun _ _ => rfl)) pe_int (fun _ _ => rfl)) (nomark _)))))
 (pss_one ps_never)
 (pss_one (ps_expr (pe_bm PySem.F.plainAttrs_list PySem.F.slot_list_append PySem.F.type_list_append mt_append (pv 2) (pa_cons (pe_tup (pa_cons (pv 0) (pa_cons (pv 3) (pa_cons (pv 4) pa_nil)))) pa_nil))))))))
 (pss_one (ps_ret (pv 2))))), ?_⟩
    obtain ⟨v, row, cols, rfl, ⟨a, vs, rfl, ha, hp⟩, few, q⟩ := h
    have lp : vs.length = cols.length := Paired.length hp
    refine ⟨Nat.zero_le _, fun l hl => ?_⟩
    have s1 : Same H (upd H l (.lst [])) := same_upd hl
    let kk : V → Int × Int := fun _ => cols.headD (0, 0)
    have hk : ∀ x ∈ vs, ∃ t, x = .ref t ∧ (upd H l (.lst [])) t = some (.tup [.int (kk x).1, .int (kk x).2]) := by
      intro x hx
      obtain ⟨c, hc, t, e, ht⟩ := Paired.mem hp hx
      have ec : cols.headD (0, 0) = c := by
        match cols, few, hc with
        | [d], _, hc => exact (List.mem_singleton.mp hc).symm
      refine ⟨t, e, ?_⟩
      show (upd H l (.lst [])) t = some (.tup [.int (cols.headD (0, 0)).1, .int (cols.headD (0, 0)).2])
      rw [ec]
      exact s1 _ _ ht
    refine ⟨_, rfl, a, vs, kk, rfl, .of (s1 _ _ ha), hk, fun ys p srt stb hpn => ?_⟩
    have ey : ys = vs := perm_small stb.perm (by omega)
    subst ey
    have s2 := same_upd hpn (o := .lst ys)
    have s12 := s1.trans s2
    have g0 : Grow T3 (upd (upd H l (.lst [])) p (.lst ys)) l ([] : List Row3) := (Grow.start (R := T3)).keep mono_t3 s2
    refine ⟨p, rfl, ⟨_, .of upd_same⟩, for_list (xs := ys) (fun i σ H' => ∃ z3 z4, σ = [some (.int row), some (.ref a), some (.ref l), z3, z4] ∧ Same (rem (upd (upd H l (.lst [])) p (.lst ys)) l) H' ∧ Grow T3 H' l ((cols.take i).filterMap (spanM row))) ⟨_, _, rfl, rem_same, g0⟩ (fun i σ H' _ h => ?_) (fun i x σ H' hi h => ?_) (fun σ H' h => ?_)⟩
    · obtain ⟨_, _, _, s3, _⟩ := h
      refine .of (s3 _ _ ?_)
      rw [rem_ne (ne_of_none (upd_same (H := H) (a := l) (o := .lst [])) hpn).symm]
      exact upd_same
    · obtain ⟨z3, z4, rfl, s3, g3⟩ := h
      obtain ⟨c, hc, t, rfl, ht⟩ := Paired.get hp hi
      have i0 : i = 0 := by
        have := (List.getElem?_eq_some_iff.mp hc).1
        omega
      subst i0
      have htl : t ≠ l := ne_of_none ht hl
      have ht3 := s3 t (.tup [.int c.1, .int c.2]) (by rw [rem_ne htl]; exact s12 _ _ ht)
      have ecols : (cols.take (0 + 1)).filterMap (spanM row) = (spanM row c).toList := by
        have e : cols.take (0 + 1) = [c] := by rw [List.take_add_one, hc]; rfl
        rw [e, List.filterMap_cons]
        cases spanM row c <;> rfl
      have g3 : Grow T3 H' l ([] : List Row3) := g3
      refine ⟨t, _, rfl, .of ht3, rfl, _, _, rfl, _, _, rfl, rfl, ?_⟩
      refine ⟨_, rfl, _, rfl, rfl, _, rfl, ite2 (fun e => ?_) (fun e => ?_)⟩
      · have e := eqI'.mp e
        refine ⟨_, _, rfl, s3, ?_⟩
        rw [ecols]
        unfold spanM
        rw [if_pos e]
        exact g3
      · have e : ¬ c.1 = c.2 := fun z => e (eqI'.mpr z)
        obtain ⟨ds, hds, pds⟩ := id g3
        cases pds
        refine ⟨_, rfl, Nat.zero_le _, fun p2 hp2 => ?_⟩
        have s4 := same_upd hp2 (o := .lst [])
        refine ⟨.list [], .list [], .lst (.of (s4 _ _ hds)) .nil, .lst (.of upd_same) .nil, rfl, rfl, _, rfl, iteF ?_⟩
        refine ⟨_, rfl, .inl ⟨rfl, _, .of (s4 _ _ hds)⟩, _, rfl, _, rfl, _, rfl, by show 3 ≤ sizeLine; decide, fun T hT => ?_⟩
        have s5 := same_upd hT (o := .tup [.int row, .int c.1, .int c.2])
        have h5 := s5 _ _ (s4 _ _ hds)
        refine ⟨l, [], .ref T, rfl, rfl, h5, by decide, ?_⟩
        refine ⟨_, _, rfl, same_mut (s3.trans (s4.trans s5)) rem_self, ?_⟩
        rw [ecols]
        have es : (spanM row c).toList = [] ++ [(row, c.1, c.2)] := by
          unfold spanM
          rw [if_neg e]
          rfl
        rw [es]
        refine ((g3.keep mono_t3 s4).keep mono_t3 s5).snoc h5 (rem_t3 h5 ⟨T, rfl, ?_⟩)
        rw [upd_same]
    · obtain ⟨_, _, rfl, s3, g3⟩ := h
      rw [lp, List.take_length] at g3
      exact ⟨_, rfl, q _ _ ((same_rem s12 hl).trans s3) (g3.done mono_t3 hl)⟩
/-! ### rows_of -/
abbrev s_rows_of : Stmt := topS 37
abbrev n_rows_of : List Str := ["parts", "many", "heights", "first", "part", "x", "y"]
theorem sc_rows_of : FnScope n_rows_of ["parts", "many"] (defScope s_rows_of) := ⟨rfl, rfl, rfl, by decide +kernel, rfl, by decide +kernel, by decide +kernel⟩
def sp_rows_of : Sp := fun vs H Q _ => ∃ (v : V) (pss : List (List Pt)) (m : Int), vs = [v, .int m] ∧ IParts H v pss ∧ FewP pss ∧ 0 < m ∧ m ≤ 1000 ∧ ∀ v' H', Same H H' → T2 H' v' (firstM pss m, countM pss m) → Q v' H'
theorem heights_len {pss : List (List Pt)} (few : FewP pss) (i : Nat) : (heights (pss.take i)).length ≤ 400 := by
  have h := flat_len (fun p : List Pt => p.map (·.2)) 100 (pss.take i) fun p hp => by
    rw [List.length_map]
    exact (few.each p (List.mem_of_mem_take hp)).2
  have l : (pss.take i).length ≤ 4 := by
    rw [List.length_take]
    have := few.most
    omega
  have : (heights (pss.take i)).length ≤ (pss.take i).length * 100 := h
  omega
theorem mnL_is {l : List Int} {m : Int} (h1 : m ∈ l) (h2 : ∀ x ∈ l, m ≤ x) : m = mnL l := by
  obtain ⟨a, b⟩ := mnL_spec (List.ne_nil_of_mem h1)
  have := b m h1
  have := h2 _ a
  omega
theorem mxL_is {l : List Int} {m : Int} (h1 : m ∈ l) (h2 : ∀ x ∈ l, x ≤ m) : m = mxL l := by
  obtain ⟨a, b⟩ := mxL_spec (List.ne_nil_of_mem h1)
  have := b m h1
  have := h2 _ a
  omega
theorem ok_rows_of (B : Blt mg) {f : Addr} {fd : FuncData} (F : Fun K "rows_of" "rows_of" s_rows_of f fd)
    (c_first_middle : Cal P w K mg base 1 "first_middle" ["top", "base"] sp_first_middle) : FnOk P w K mg base CX0 2 f fd ["parts", "many"] sp_rows_of := by
  refine F.ok sc_rows_of (fun vs H Q E h => ?_) (fun cdv A outer s H vs Q E hr h => ?_)
  · obtain ⟨v, _, _, rfl, _⟩ := h; rfl
  · refine ⟨_, (pss_cons (ps_setLc2 (i := 2) (own := [("part", 4), ("x", 5), ("y", 6)]) (vs1 := [5, 6]) (wi1 := iList K (tVar 4)) (g1 := gTup K 2 (gCons (gName 5) (gCons (gName 6) gNil))) rfl sc_rows_of.nd rfl rfl (sw_true rfl rfl rfl (by decide +kernel)) (pi_list (pv 0)) (blkOk_by (N := n_rows_of) (sc := defScope s_rows_of) (own := [("part", 4), ("x", 5), ("y", 6)]) (by decide +kernel)) (by decide) (fun _ _ _ _ _ => (pg_name (i := 4) sc_rows_of.nd rfl (.inl rfl))) (fun _ _ _ _ _ => pts_nil) (fun _ _ _ _ _ => (pi_list (pv 4))) (fun _ _ _ _ _ => (pg_tup (by rfl) (pgs_cons (pg_name (i := 5) sc_rows_of.nd rfl (.inl rfl)) (pgs_cons (pg_name (i := 6) sc_rows_of.nd rfl (.inl rfl)) pgs_nil)))) (fun _ _ _ _ _ => pts_nil) (fun _ _ _ _ _ => (pv 6)))
 (pss_cons (ps_set (i := 3) sc_rows_of.nd rfl (.inl rfl) (pe_cal c_first_middle (hr.mono (by decide)) (by rfl) (pa_cons (pe_callB (cr_min rfl) (by rfl) B.min_ (by decide +kernel) (pa_cons (pv 2) pa_nil)) (pa_cons (pv 1) pa_nil))))
 (pss_one (ps_ret (pe_tup (pa_cons (pv 3) (pa_cons (pe_op op_sub (pe_cal c_first_middle (hr.mono (by decide)) (by rfl) (pa_cons (pe_callB (cr_max rfl) (by rfl) B.max_ (by decide +kernel) (pa_cons (pv 2) pa_nil)) (pa_cons (pv 1) pa_nil))) (pv 3)) pa_nil))))))), ?_⟩
    obtain ⟨v, pss, m, rfl, ⟨a, vs, rfl, ha, hp⟩, few, m0, m1, q⟩ := h
    have lp : vs.length = pss.length := Paired.length hp
    unfold tSeq tAsg
    refine lc2_of ?_
    refine ⟨_, rfl, a, rfl, ⟨_, .of ha⟩, fun D hD => ?_⟩
    refine tLoop_list (K := K) (a := a) (xs := vs) (fun i H' => Same H H' ∧ H' D = some (.lst ((heights (pss.take i)).map V.int))) ⟨same_upd hD, upd_same⟩ (fun i H' _ h => .of (h.1 _ _ ha)) (fun i x H' hi h => ?_) (fun H' h => ?_)
    · obtain ⟨s1, d1⟩ := h
      obtain ⟨p, hpi, b, us, rfl, hb, hq⟩ := Paired.get hp hi
      have lq : us.length = p.length := Paired.length hq
      have g2 := (few.each p (List.mem_of_getElem? hpi)).2
      have hl := heights_len few i
      refine ⟨rfl, ?_⟩
      refine ⟨_, rfl, b, rfl, ⟨_, .of (s1 _ _ hb)⟩, ?_⟩
      refine tLoop_list (K := K) (a := b) (xs := us) (fun j H' => Same H H' ∧ H' D = some (.lst ((heights (pss.take i) ++ (p.take j).map (·.2)).map V.int))) ⟨s1, by rw [d1]; simp⟩ (fun j H' _ h => .of (h.1 _ _ hb)) (fun j x H' hj h => ?_) (fun H' h => ?_)
      · obtain ⟨s2, d2⟩ := h
        obtain ⟨pt, hpt, c, rfl, hc⟩ := Paired.get hq hj
        have hj2 := (List.getElem?_eq_some_iff.mp hpt).1
        refine ⟨c, _, rfl, .of (s2 _ _ hc), rfl, _, _, rfl, _, _, rfl, rfl, ?_⟩
        refine ⟨rfl, _, rfl, _, d2, ?_, same_mut s2 hD, ?_⟩
        · rw [List.length_map, List.length_append, List.length_map, List.length_take]
          exact small1000 (by omega)
        · rw [upd_same, List.take_add_one, hpt]
          simp
      · obtain ⟨s2, d2⟩ := h
        refine ⟨s2, ?_⟩
        have e : heights (pss.take (i + 1)) = heights (pss.take i) ++ p.map (·.2) := flat_take _ hpi
        rw [d2, e, lq, List.take_length]
    · obtain ⟨s1, d1⟩ := h
      rw [lp, List.take_length] at d1
      have ne : 0 < (heights pss).length := by
        have f1 := few.least
        have e : pss = pss[0] :: pss.drop 1 := by
          have := List.drop_eq_getElem_cons (l := pss) (i := 0) (by omega)
          simpa using this
        have g1 := (few.each pss[0] (List.getElem_mem _)).1
        unfold heights
        rw [e, List.flatMap_cons, List.length_append, List.length_map]
        omega
      have sm : Sm m := sm_small (by omega)
      refine ⟨_, rfl, D, heights pss, rfl, .of d1, ne, fun mn h1 h2 => ?_⟩
      have en := mnL_is h1 h2
      subst en
      refine ⟨_, rfl, _, _, rfl, m0, sm, ?_⟩
      refine ⟨_, rfl, _, rfl, D, heights pss, rfl, .of d1, ne, fun mx h3 h4 => ?_⟩
      have ex := mxL_is h3 h4
      subst ex
      refine ⟨_, rfl, _, _, rfl, m0, sm, _, rfl, _, _, rfl, rfl, by show 2 ≤ sizeLine; decide, fun T hT => ?_⟩
      refine q _ _ (s1.trans (same_upd hT)) ⟨T, rfl, ?_⟩
      rw [upd_same]
      rfl
end
end K79

/-! #### part K79F -/
namespace K79
open PySem PySem.Spec PyProof.Rows L2 L2.DX
/-! ### calls that leave keyword-only arguments out, or write them -/
structure CalD (P : Program) (w : World) (K : PySem.W.Frag) (mg : Str → Option Value) (base : Heap) (k : Nat) (x : Str) (ps : List Str) (dvs : List V) (sp : Sp) : Prop where
  ex : ∃ (f : Addr) (fd : FuncData) (ds : List Value), FnOk P w K mg base CX0 k f fd ps sp ∧ mg x = some (.ref f) ∧ PySem.W.keepIn K (.ref f) = true ∧ Vals dvs ds ∧ Binds K fd ps ds
structure CalN (P : Program) (w : World) (K : PySem.W.Frag) (mg : Str → Option Value) (base : Heap) (k : Nat) (x : Str) (ps : List Str) (n : Nat) (ks : List Str) (gV : List V → List V → List V) (sp : Sp) : Prop where
  ex : ∃ (f : Addr) (fd : FuncData) (g : List Value → List Value → List Value), FnOk P w K mg base CX0 k f fd ps sp ∧ mg x = some (.ref f) ∧ PySem.W.keepIn K (.ref f) = true ∧ KBn K fd ps n ks g gV
section
variable {X : Cx} {k n : Nat} {ps ks : List Str} {sp : Sp} {x : Str} {p pos : Pos} {e : Expr} {es : List Expr} {kws : List Keyword} {t tk : TA} {dvs : List V} {gV : List V → List V → List V}
theorem pe_calD (C : CalD X.prog X.w X.K X.mg X.base k x ps dvs sp) (hr : Room k X.A) (hg : Gl X x) (ha : PA X (e :: es) t) (hdb : (x == ("__debug__" : Str)) = false := by decide)
    (he : starEach (e :: es) X.env = (false, eval e X.env) :: starEach es X.env := by rfl) (hpl : (backTo pos (starEach es X.env)).any (·.1) = false := by rfl) : PE X (.Call (.Name x p) (e :: es) [] pos) (tCall sp dvs E0 t) := by
  obtain ⟨f, fd, ds, F, hm, hk, hd, hb⟩ := C.ex
  exact pe_call F hr hg hm hk hb hd pass0 ha hdb he hpl
theorem pe_calN (C : CalN X.prog X.w X.K X.mg X.base k x ps n ks gV sp) (hr : Room k X.A) (hg : Gl X x) (ha : PA X (e :: es) t) (hkw : PK X kws tk)
    (hall : (backToKw pos (keywordEach kws X.env)).all (·.1.isSome) = true := by rfl) (hks : (backToKw pos (keywordEach kws X.env)).filterMap (·.1) = ks := by rfl)
    (hdb : (x == ("__debug__" : Str)) = false := by decide) (he : starEach (e :: es) X.env = (false, eval e X.env) :: starEach es X.env := by rfl)
    (hpl : ((backTo pos (starEach (e :: es) X.env)).any (·.1) || (backToKw pos (keywordEach kws X.env)).any (·.1.isNone)) = false := by rfl) :
    PE X (.Call (.Name x p) (e :: es) kws pos) (tCallN n ks.length sp gV E0 t tk) := by
  obtain ⟨f, fd, g, F, hm, hk, hb⟩ := C.ex
  exact pe_callN F hr hg hm hk hb pass0 ha hkw hall hks hdb he hpl
end
section
variable {P : Program} {w : World} {K : PySem.W.Frag} {mg : Str → Option Value} {base : Heap}
abbrev s_cells : Stmt := topS 38
abbrev s_cell_of : Stmt := topS 39
abbrev dfl2 : List (Str × V) := [("rule", .str "round"), ("drops", .bl true)]
abbrev FunK (K : PySem.W.Frag) (x : Str) (st : Stmt) (f : Addr) (fd : FuncData) : Prop := FunD K x x (defArgs st) (defBody st) (defScope st) [] dfl2 f fd
abbrev ps_cells : List Str := ["parts", "rule", "drops"]
abbrev ps_cell_of : List Str := ["parts", "column", "row", "rule", "drops"]
theorem cells_d {sp : Sp} {k : Nat} {f : Addr} {fd : FuncData} (F : FunK K "cells" s_cells f fd) (ok : FnOk P w K mg base CX0 k f fd ps_cells sp) (hm : mg "cells" = some (.ref f)) :
    CalD P w K mg base k "cells" ps_cells [.str "round", .bl true] sp := by
  obtain ⟨ds, h1, h2⟩ := F.binds0 (ps := ps_cells) 1 (by decide) rfl fun D doc pm an cdv ct us ks l1 l2 => by
    match us, l1, ks, l2 with
    | [u], _, [a, b], _ => exact ⟨_, _, _, _, _, _, rfl, rfl, _, _, _, _, _, _, rfl, rfl, rfl⟩
  exact ⟨f, fd, ds, ok, hm, F.kp, h1, h2⟩
theorem cell_of_d {sp : Sp} {k : Nat} {f : Addr} {fd : FuncData} (F : FunK K "cell_of" s_cell_of f fd) (ok : FnOk P w K mg base CX0 k f fd ps_cell_of sp) (hm : mg "cell_of" = some (.ref f)) :
    CalD P w K mg base k "cell_of" ps_cell_of [.str "round", .bl true] sp := by
  obtain ⟨ds, h1, h2⟩ := F.binds0 (ps := ps_cell_of) 3 (by decide) rfl fun D doc pm an cdv ct us ks l1 l2 => by
    match us, l1, ks, l2 with
    | [u1, u2, u3], _, [a, b], _ => exact ⟨_, _, _, _, _, _, rfl, rfl, _, _, _, _, _, _, rfl, rfl, rfl⟩
  exact ⟨f, fd, ds, ok, hm, F.kp, h1, h2⟩
theorem cells_n1 {sp : Sp} {k : Nat} {f : Addr} {fd : FuncData} (F : FunK K "cells" s_cells f fd) (ok : FnOk P w K mg base CX0 k f fd ps_cells sp) (hm : mg "cells" = some (.ref f)) :
    CalN P w K mg base k "cells" ps_cells 1 ["drops"] (fun vs zs => vs ++ ([.str "round"] ++ zs)) sp := by
  obtain ⟨mv, h⟩ := F.kbinds0 (ps := ps_cells) 1 ["drops"] [("rule", .str "round")] (fun us mv ws => us ++ (mv ++ ws)) (by decide) (fun q hq => by
    rw [List.mem_singleton.mp hq]; exact List.mem_cons_self) (fun r1 r2 r3 => r1.append (r2.append r3)) fun D doc pm an cdv ct us mv ws l1 l2 l3 => by
    match us, l1, mv, l2, ws, l3 with
    | [u], _, [a], _, [b], _ => exact ⟨_, _, _, _, _, _, rfl, rfl, rfl⟩
  exact ⟨f, fd, _, ok, hm, F.kp, h⟩
theorem cells_n2 {sp : Sp} {k : Nat} {f : Addr} {fd : FuncData} (F : FunK K "cells" s_cells f fd) (ok : FnOk P w K mg base CX0 k f fd ps_cells sp) (hm : mg "cells" = some (.ref f)) :
    CalN P w K mg base k "cells" ps_cells 1 ["rule", "drops"] (fun vs zs => vs ++ ([] ++ zs)) sp := by
  obtain ⟨mv, h⟩ := F.kbinds0 (ps := ps_cells) 1 ["rule", "drops"] [] (fun us mv ws => us ++ (mv ++ ws)) (by decide) (fun q hq => nomatch hq) (fun r1 r2 r3 => r1.append (r2.append r3)) fun D doc pm an cdv ct us mv ws l1 l2 l3 => by
    match us, l1, mv, l2, ws, l3 with
    | [u], _, [], _, [a, b], _ => exact rfl
  exact ⟨f, fd, _, ok, hm, F.kp, h⟩
end
end K79

/-! #### part K79W11 -/
namespace K79
open PySem PySem.Spec PyProof.Rows L2 L2.DX
theorem step_base (odd : Bool) (W : Int) (s : SSt) (e : Row4) (he : e.2.1 = W) (h : ∀ r ∈ s.found, r.2.2 = W) : ∀ r ∈ (stepS odd s e).found, r.2.2 = W := by
  unfold stepS
  simp only
  split
  · exact h
  · exact h
  · intro r hr
    rcases List.mem_append.mp hr with hr | hr
    · exact h r hr
    · rw [List.mem_singleton.mp hr]
      exact he
  · exact h
theorem fold_base (odd : Bool) (W : Int) : ∀ (l : List Row4) (s : SSt), (∀ e ∈ l, e.2.1 = W) → (∀ r ∈ s.found, r.2.2 = W) → ∀ r ∈ (l.foldl (stepS odd) s).found, r.2.2 = W
  | [], _, _, h => h
  | e :: l, s, hl, h => fold_base odd W l (stepS odd s e) (fun x hx => hl x (List.mem_cons_of_mem _ hx)) (step_base odd W s e (hl e List.mem_cons_self) h)
theorem stretch_base {rows : List Row3} {odd : Bool} {r : Row3} (h : r ∈ stretchM rows odd) : r.2.2 = wholeM rows := by
  refine fold_base odd (wholeM rows) (orderM rows) ⟨[], none, 0, 0⟩ (fun e he => ?_) (fun _ h => nomatch h) r h
  unfold orderM at he
  obtain ⟨x, _, rfl⟩ := List.mem_map.mp he
  rfl
theorem whole_sm {rows : List Row3} (ok : RowsOk rows) : 0 < wholeM rows ∧ Sm (wholeM rows) := by
  obtain ⟨h1, h2⟩ := whole_lg (fun r hr => ⟨(ok.each r hr).1, (ok.each r hr).2.1⟩) rows.length (Nat.le_refl _)
  rw [List.take_length] at h1 h2
  have := ok.few
  refine ⟨h1, ?_⟩
  have h3 : Lg 161 (wholeM rows) := h2.mono (by omega)
  exact h3.mono (by decide)
theorem few_wholes {B : Int} {pss : List (List Pt)} (h : FewP pss) : FewP (wholesM B pss) := by
  refine ⟨?_, ?_, fun p hp => ?_⟩
  · unfold wholesM; rw [List.length_map]; exact h.least
  · unfold wholesM; rw [List.length_map]; exact h.most
  · unfold wholesM at hp
    obtain ⟨p', hp', rfl⟩ := List.mem_map.mp hp
    rw [List.length_map]
    exact h.each p' hp'
theorem le_mul_pos {k x M : Int} (hk : 0 < k) (h : -M ≤ k * x ∧ k * x ≤ M) : -M ≤ x ∧ x ≤ M := by
  by_cases h0 : 0 ≤ x
  · have := Int.mul_le_mul_of_nonneg_right (show 1 ≤ k by omega) h0
    omega
  · have := Int.mul_le_mul_of_nonpos_right (show 1 ≤ k by omega) (show x ≤ 0 by omega)
    omega
theorem bnd_wholes {B : Int} {pss : List (List Pt)} (hB : 0 < B) (h : Bnd pss) : Bnd (wholesM B pss) := by
  obtain ⟨k, hk, e, ep⟩ := wholes_sc hB pss
  intro p hp q hq
  have hp2 : p.map (sc k) ∈ pss := by
    rw [ep]
    exact List.mem_map.mpr ⟨p, hp, rfl⟩
  obtain ⟨a, b, c, d⟩ := h _ hp2 (sc k q) (List.mem_map.mpr ⟨q, hq, rfl⟩)
  obtain ⟨a', b'⟩ := le_mul_pos hk (x := q.1) (M := 1000) ⟨a, b⟩
  obtain ⟨c', d'⟩ := le_mul_pos hk (x := q.2) (M := 1000) ⟨c, d⟩
  exact ⟨a', b', c', d'⟩
/-- polygons that may be handed in: few, near, and simple in each row -/
structure OkP (B : Int) (pss : List (List Pt)) : Prop where
  b0 : 0 < B
  b1 : B ≤ 12
  few : FewP pss
  bnd : Bnd pss
  like : ∃ o : Int → Rw, ∀ row, RowLike (crossM pss B row) (o row)
section
variable {B : Int} {pss : List (List Pt)}
theorem OkP.m0 (h : OkP B pss) : 0 < scaleM B pss := scaleM_pos h.b0 pss
theorem OkP.m1 (h : OkP B pss) : scaleM B pss ≤ 12 := Int.le_trans (scaleM_le h.b0 pss) h.b1
theorem OkP.wlike (h : OkP B pss) : ∃ o : Int → Rw, ∀ row, RowLike (crossM (wholesM B pss) (scaleM B pss) row) (o row) := let ⟨o, h2⟩ := h.like; ⟨o, fun row => wholes_like h.b0 (h2 row)⟩
theorem like_len {rows : List Row3} {o : Rw} (h : RowLike rows o) : rows.length ≤ 4 := by
  obtain ⟨o', h, _⟩ := h
  cases h <;> exact Nat.le_of_ble_eq_true rfl
theorem OkP.row (h : OkP B pss) {row : Int} (r0 : -1000 ≤ row) (r1 : row ≤ 1000) : RowIn (wholesM B pss) (scaleM B pss) row := by
  obtain ⟨o, ho⟩ := h.wlike
  have := like_len (ho row)
  have := h.m1
  exact ⟨few_wholes h.few, bnd_wholes h.b0 h.bnd, h.m0, by omega, r0, r1, by omega⟩
theorem OkP.cols (h : OkP B pss) (row : Int) (odd drops : Bool) : (colsM (wholesM B pss) (scaleM B pss) row odd drops).length ≤ 1 := by
  obtain ⟨o, ho⟩ := h.wlike
  rw [cols_like (ho row)]
  exact colsO_len drops (o row)
theorem heights_ne (few : FewP pss) : heights pss ≠ [] := by
  have f1 := few.least
  have e : pss = pss[0] :: pss.drop 1 := by
    have := List.drop_eq_getElem_cons (l := pss) (i := 0) (by omega)
    simpa using this
  have g1 := (few.each pss[0] (List.getElem_mem _)).1
  intro z
  have z2 : (heights pss).length = 0 := by rw [z]; rfl
  unfold heights at z2
  rw [e, List.flatMap_cons, List.length_append, List.length_map] at z2
  omega
theorem heights_bnd (bnd : Bnd pss) : ∀ x ∈ heights pss, -1000 ≤ x ∧ x ≤ 1000 := by
  intro x hx
  unfold heights at hx
  obtain ⟨p, hp, hx⟩ := List.mem_flatMap.mp hx
  obtain ⟨q, hq, rfl⟩ := List.mem_map.mp hx
  obtain ⟨_, _, a, b⟩ := bnd p hp q hq
  exact ⟨a, b⟩
theorem fm_bnd {t b : Int} (hb : 0 < b) (h : -1000 ≤ t ∧ t ≤ 1000) : -17 ≤ fm t b ∧ fm t b ≤ 16 := by
  constructor
  · refine Int.not_lt.mp fun z => ?_
    have h1 : fm t b ≤ -18 := by omega
    have h2 := (fm_le hb).mp h1
    omega
  · rw [fm_le hb]
    omega
theorem OkP.rows (h : OkP B pss) : -17 ≤ firstM (wholesM B pss) (scaleM B pss) ∧ firstM (wholesM B pss) (scaleM B pss) ≤ 16 ∧ 0 ≤ countM (wholesM B pss) (scaleM B pss) ∧ countM (wholesM B pss) (scaleM B pss) ≤ 33 := by
  have hb := heights_bnd (bnd_wholes h.b0 h.bnd)
  have ne := heights_ne (few_wholes (B := B) h.few)
  obtain ⟨a, b⟩ := mnL_spec ne
  obtain ⟨c, d⟩ := mxL_spec ne
  have f1 := fm_bnd h.m0 (hb _ a)
  have f2 := fm_bnd h.m0 (hb _ c)
  have f3 := fm_mono (t := mnL (heights (wholesM B pss))) (t' := mxL (heights (wholesM B pss))) h.m0 h.m0 (Int.mul_le_mul_of_nonneg_right (b _ c) (Int.le_of_lt h.m0))
  unfold countM firstM
  omega
end
section
variable {P : Program} {w : World} {K : PySem.W.Frag} {mg : Str → Option Value} {base : Heap}
abbrev n_cells : List Str := ["parts", "rule", "drops", "many", "wholes", "first", "count", "found", "row", "columns", "stretch"]
theorem sc_cells : FnScope n_cells ["parts", "rule", "drops"] (defScope s_cells) := ⟨rfl, rfl, rfl, by decide +kernel, rfl, by decide +kernel, by decide +kernel⟩
def sp_cells : Sp := fun vs H Q _ => ∃ (v : V) (B : Int) (pss : List (List Pt)) (odd drops : Bool), vs = [v, .str (ruleS odd), .bl drops] ∧ Parts B H v pss ∧ OkP B pss ∧ ∀ v' H', Same H H' → NewL T3 H H' v' (cellsM B pss odd drops) → Q v' H'
theorem Grow.app {α : Type} {R : Hp → V → α → Prop} {H : Hp} {D : Addr} {ds ds' : List α} {vs us : List V} (h : Grow R H D ds) (e : H D = some (.lst vs)) (hv : Paired (R (rem H D)) us ds') : Grow R (upd H D (.lst (vs ++ us))) D (ds ++ ds') := by
  obtain ⟨vs', e', p⟩ := h
  rw [e] at e'
  cases e'
  refine ⟨_, upd_same, ?_⟩
  rw [rem_upd]
  exact K79.Paired.app p hv
theorem ok_cells (Bl : Blt mg) {tM : Tok} (k_MOST_ROWS : mg "MOST_ROWS" = some (.int 400 tM)) {f : Addr} {fd : FuncData} (F : FunK K "cells" s_cells f fd)
    (c_need_parts : Cal P w K mg base 4 "need_parts" ["parts"] sp_need_parts) (c_need_rule : Cal P w K mg base 1 "need_rule" ["rule"] sp_need_rule) (c_scale_of : Cal P w K mg base 2 "scale_of" ["parts"] sp_scale_of)
    (c_in_wholes : Cal P w K mg base 3 "in_wholes" ["parts"] sp_in_wholes) (c_rows_of : Cal P w K mg base 2 "rows_of" ["parts", "many"] sp_rows_of) (c_stretches : Cal P w K mg base 3 "stretches" ["parts", "many", "row", "rule"] sp_stretches)
    (c_filled_by : Cal P w K mg base 2 "filled_by" ["stretch", "drops"] sp_filled_by) (c_put_together : Cal P w K mg base 1 "put_together" ["row", "columns"] sp_put_together) : FnOk P w K mg base CX0 5 f fd ps_cells sp_cells := by
  refine F.ok sc_cells (fun vs H Q E h => ?_) (fun cdv A outer s H vs Q E hr h => ?_)
  · obtain ⟨v, _, _, _, _, rfl, _⟩ := h; rfl
  · refine ⟨_, PSs.nox (pss_cons (ps_expr (pe_cal c_need_parts (hr.mono (by decide)) (by rfl) (pa_cons (pv 0) pa_nil)))
 (pss_cons (ps_expr (pe_cal c_need_rule (hr.mono (by decide)) (by rfl) (pa_cons (pv 1) pa_nil)))
 (pss_cons (ps_set (i := 3) sc_cells.nd rfl (.inl rfl) (pe_cal c_scale_of (hr.mono (by decide)) (by rfl) (pa_cons (pv 0) pa_nil)))
 (pss_cons (ps_set (i := 4) sc_cells.nd rfl (.inl rfl) (pe_cal c_in_wholes (hr.mono (by decide)) (by rfl) (pa_cons (pv 0) pa_nil)))
 (pss_cons (ps_asg (pe_cal c_rows_of (hr.mono (by decide)) (by rfl) (pa_cons (pv 4) (pa_cons (pv 3) pa_nil))) (pg_tup (by rfl) (pgs_cons (pg_name (i := 5) sc_cells.nd rfl (.inl rfl)) (pgs_cons (pg_name (i := 6) sc_cells.nd rfl (.inl rfl)) pgs_nil))))
 (pss_cons (ps_if (pt_cmpR op_gt (pv 6) (pe_glob (v := .int 400) (by rfl) k_MOST_ROWS ⟨_, rfl⟩) (nomark _))
 (pss_one ps_never)
 pss_nil)
 (pss_cons (ps_set (i := 7) sc_cells.nd rfl (.inl rfl) (pe_lst pa_nil))
 (pss_cons (ps_for PassesOwn.never rfl (pi_range2 (by rfl) Bl.range_ (pa_cons (pv 5) (pa_cons (pe_op op_add (pv 5) (pv 6)) pa_nil))) (pg_name (i := 8) sc_cells.nd rfl (.inl rfl))
 (pss_cons (ps_setLc (i := 9) (own := [("stretch", 10)]) rfl sc_cells.nd rfl rfl (sw_true rfl rfl rfl (by decide +kernel)) (pi_list (pe_cal c_stretches (hr.mono (by decide)) (by rfl) (pa_cons (pv 4) (pa_cons (pv 3) (pa_cons (pv 8) (pa_cons (pv 1) pa_nil)))))) (blkOk_by (N := n_cells) (sc := defScope s_cells) (own := [("stretch", 10)]) (by decide +kernel)) (fun _ _ _ _ _ => (pg_name (i := 10) sc_cells.nd rfl (.inl rfl))) (fun _ _ _ _ _ => pts_nil) (fun _ _ _ _ _ => (pe_cal c_filled_by (hr.mono (by decide)) (by rfl) (pa_cons (pv 10) (pa_cons (pv 2) pa_nil)))))
 (pss_one (ps_expr (pe_bm PySem.F.plainAttrs_list PySem.F.slot_list_extend PySem.F.type_list_extend mt_extend (pv 7) (pa_cons (pe_cal c_put_together (hr.mono (by decide)) (by rfl) (pa_cons (pv 8) (pa_cons (pv 9) pa_nil))) pa_nil))))))
 (pss_one (ps_ret (pv 7))))))))))), ?_⟩
    obtain ⟨v, B, pss, odd, drops, rfl, hP, ok, q⟩ := h
    have m0 := ok.m0
    have m1 := ok.m1
    have b0 := ok.b0
    have b1 := ok.b1
    obtain ⟨r0, r1, n0, n1⟩ := ok.rows
    obtain ⟨n, hn⟩ : ∃ n : Nat, countM (wholesM B pss) (scaleM B pss) = (n : Int) := ⟨_, (Int.toNat_of_nonneg n0).symm⟩
    refine ⟨_, rfl, v, B, pss, rfl, hP, ok.few, fun H1 s1 => ?_⟩
    have hP1 := mono_parts B _ _ _ _ s1 hP
    refine ⟨_, rfl, odd, rfl, ?_⟩
    refine ⟨_, rfl, v, B, pss, rfl, hP1, ok.few, b0, by omega, fun H2 s2 => ?_⟩
    have hP2 := mono_parts B _ _ _ _ s2 hP1
    refine ⟨_, rfl, v, B, pss, rfl, hP2, ok.few, ok.bnd, b0, by omega, fun vw H3 s3 nw => ?_⟩
    have hW3 := nw.lst
    refine ⟨_, rfl, _, rfl, vw, wholesM B pss, scaleM B pss, rfl, hW3, few_wholes ok.few, m0, by omega, fun vr H4 s4 hr4 => ?_⟩
    obtain ⟨ar, rfl, hr4⟩ := hr4
    have hW4 := mono_lst (mono_lst mono_t2) _ _ _ _ s4 hW3
    refine ⟨ar, _, rfl, .of hr4, rfl, _, _, rfl, _, _, rfl, rfl, ?_⟩
    refine ⟨_, rfl, _, _, rfl, rfl, _, rfl, ite2 (fun z => ?_) (fun _ => ?_)⟩
    · have z := of_decide_eq_true z
      omega
    · refine ⟨Nat.zero_le _, fun l hl => ?_⟩
      have s5 := same_upd hl (o := .lst [])
      have s05 := s1.trans (s2.trans (s3.trans (s4.trans s5)))
      let rowsF : Nat → List Row3 := fun k => (List.range k).flatMap fun (i : Nat) => (colsM (wholesM B pss) (scaleM B pss) (firstM (wholesM B pss) (scaleM B pss) + (i : Int)) odd drops).filterMap (spanM (firstM (wholesM B pss) (scaleM B pss) + (i : Int)))
      have hW5 := mono_lst (mono_lst mono_t2) _ _ _ _ s5 hW4
      refine ⟨_, rfl, _, rfl, _, rfl, _, _, rfl, rfl, _, _, rfl, ⟨by omega, by omega, by omega, by omega⟩, ?_⟩
      rw [show (firstM (wholesM B pss) (scaleM B pss) + countM (wholesM B pss) (scaleM B pss) - firstM (wholesM B pss) (scaleM B pss)).toNat = n by omega]
      refine for_range (fun i σ H' => ∃ z8 z9 z10, σ = [some v, some (.str (ruleS odd)), some (.bl drops), some (.int (scaleM B pss)), some vw, some (.int (firstM (wholesM B pss) (scaleM B pss))), some (.int (countM (wholesM B pss) (scaleM B pss))), some (.ref l), z8, z9, z10] ∧ Same H4 H' ∧ Grow T3 H' l (rowsF i)) ⟨_, _, _, rfl, s5, Grow.start⟩ (fun i σ H' hi h => ?_) (fun σ H' h => ?_)
      · obtain ⟨z8, z9, z10, rfl, s6, g6⟩ := h
        have hW6 := mono_lst (mono_lst mono_t2) _ _ _ _ s6 hW4
        have hrow := ok.row (row := firstM (wholesM B pss) (scaleM B pss) + (i : Int)) (by omega) (by omega)
        have hcols := ok.cols (firstM (wholesM B pss) (scaleM B pss) + (i : Int)) odd drops
        refine ⟨_, rfl, _, rfl, _, rfl, _, rfl, vw, wholesM B pss, scaleM B pss, _, odd, rfl, hW6, hrow, fun vs7 H7 s7 n7 => ?_⟩
        obtain ⟨a7, us7, rfl, na7, ha7, p7⟩ := n7
        have rok := rows_ok hrow.bnd hrow.m0 hrow.m1 hrow.len
        obtain ⟨wp, ws⟩ := whole_sm rok
        have l7 : us7.length = (stretchM (crossM (wholesM B pss) (scaleM B pss) (firstM (wholesM B pss) (scaleM B pss) + (i : Int))) odd).length := Paired.length p7
        have hcols2 := hcols
        unfold colsM at hcols2
        rw [List.length_map] at hcols2
        refine ⟨a7, rfl, ⟨_, .of ha7⟩, fun D hD => ?_⟩
        refine lc_list (K := K) (a := a7) (xs := us7) (fun j H'' => Same H7 H'' ∧ Grow T2 H'' D (((stretchM (crossM (wholesM B pss) (scaleM B pss) (firstM (wholesM B pss) (scaleM B pss) + (i : Int))) odd).take j).map (fillM drops))) ⟨same_upd hD, Grow.start⟩ (fun j H'' _ h => .of (h.1 _ _ ha7)) (fun j x H'' hj h => ?_) (fun H'' h => ?_)
        · obtain ⟨s8, g8⟩ := h
          obtain ⟨r, hrj, ht⟩ := Paired.get p7 hj
          have hj2 := (List.getElem?_eq_some_iff.mp hj).1
          have eb := stretch_base (List.mem_of_getElem? hrj)
          refine ⟨rfl, _, rfl, _, rfl, x, r, drops, rfl, mono_t3 _ _ _ _ s8 ht, by rw [eb]; exact wp, by rw [eb]; exact ws, fun v9 H9 s9 t9 => ?_⟩
          obtain ⟨ds, hds, pds⟩ := id g8
          have lds := g8.len hds
          refine ⟨ds, s9 _ _ hds, ?_, same_mut (s8.trans s9) hD, ?_⟩
          · rw [lds, List.length_map, List.length_take]
            exact small1000 (by omega)
          · have e : ((stretchM (crossM (wholesM B pss) (scaleM B pss) (firstM (wholesM B pss) (scaleM B pss) + (i : Int))) odd).take (j + 1)).map (fillM drops) = ((stretchM (crossM (wholesM B pss) (scaleM B pss) (firstM (wholesM B pss) (scaleM B pss) + (i : Int))) odd).take j).map (fillM drops) ++ [fillM drops r] := by
              rw [List.take_add_one, hrj, List.map_append]
              rfl
            rw [e]
            exact (g8.keep mono_t2 s9).snoc (s9 _ _ hds) (rem_t2 (s9 _ _ hds) t9)
        · obtain ⟨s8, g8⟩ := h
          rw [l7, List.take_length] at g8
          have n8 := g8.done mono_t2 hD
          have g68 := g6.keep mono_t3 (s7.trans s8)
          obtain ⟨ds, hds, pds⟩ := id g68
          have lds := g68.len hds
          refine ⟨_, rfl, .inl ⟨rfl, _, .of hds⟩, ?_⟩
          refine ⟨_, rfl, _, rfl, .ref D, _, _, rfl, n8.lst, hcols, fun v9 H9 s9 n9 => ?_⟩
          have g9 := g68.keep mono_t3 s9
          have l9 := n9.rem tups_t3 hds (s9 _ _ hds)
          obtain ⟨b9, us9, rfl, hb9, p9⟩ := l9
          have hb9' := rem_same _ _ hb9
          refine ⟨l, b9, ds, us9, rfl, rfl, s9 _ _ hds, hb9', ?_, ?_⟩
          · have l1 : ds.length ≤ 33 := by
              rw [lds]
              have := flat_len (fun (i : Nat) => (colsM (wholesM B pss) (scaleM B pss) (firstM (wholesM B pss) (scaleM B pss) + (i : Int)) odd drops).filterMap (spanM (firstM (wholesM B pss) (scaleM B pss) + (i : Int)))) 1 (List.range i) fun j _ => Nat.le_trans (List.length_filterMap_le _ _) (ok.cols _ odd drops)
              rw [List.length_range] at this
              show ((List.range i).flatMap _).length ≤ 33
              omega
            have l2 : us9.length ≤ 1 := by
              rw [Paired.length p9]
              exact Nat.le_trans (List.length_filterMap_le _ _) hcols
            have : sizeLine = 2 ^ 24 := rfl
            omega
          · refine ⟨_, _, _, rfl, same_mut (s6.trans (s7.trans (s8.trans s9))) hl, ?_⟩
            have e : rowsF (i + 1) = rowsF i ++ (colsM (wholesM B pss) (scaleM B pss) (firstM (wholesM B pss) (scaleM B pss) + (i : Int)) odd drops).filterMap (spanM (firstM (wholesM B pss) (scaleM B pss) + (i : Int))) := by
              show (List.range (i + 1)).flatMap _ = _
              rw [List.range_succ, List.flatMap_append]
              simp [rowsF]
            rw [e]
            exact g9.app (s9 _ _ hds) p9
      · obtain ⟨z8, z9, z10, rfl, s6, g6⟩ := h
        refine ⟨_, rfl, q _ _ (s1.trans (s2.trans (s3.trans (s4.trans s6)))) ?_⟩
        have n6 := g6.done mono_t3 ((s1.trans (s2.trans (s3.trans s4))).free hl)
        have e : rowsF n = cellsM B pss odd drops := by
          show _ = (List.range (countM (wholesM B pss) (scaleM B pss)).toNat).flatMap _
          rw [show (countM (wholesM B pss) (scaleM B pss)).toNat = n by omega]
        rw [e] at n6
        exact n6
end
end K79

/-! #### part K79W12 -/
namespace K79
open PySem PySem.Spec PyProof.Rows L2 L2.DX
section
variable {P : Program} {w : World} {K : PySem.W.Frag} {mg : Str → Option Value} {base : Heap}
abbrev n_cell_of : List Str := ["parts", "column", "row", "rule", "drops", "number", "some", "word", "asked", "enter", "leave", "base", "begin", "end"]
theorem sc_cell_of : FnScope n_cell_of ["parts", "column", "row", "rule", "drops"] (defScope s_cell_of) := ⟨rfl, rfl, rfl, by decide +kernel, rfl, by decide +kernel, by decide +kernel⟩
def wordS (n : Nat) : Str := if n = 0 then "in" else if n = 1 then "drop" else "out"
def sp_cell_of : Sp := fun vs H Q _ => ∃ (v : V) (B : Int) (pss : List (List Pt)) (col row : Int), vs = [v, .int col, .int row, .str "round", .bl true] ∧ Parts B H v pss ∧ OkP B pss ∧ -1000 ≤ row ∧ row ≤ 1000 ∧
  ∀ a H' rest, Same H H' → H' a = some (.tup (.str (wordS (wordM B pss col row)) :: rest)) → Q (.ref a) H'
theorem hasC_snoc {l : List Pt} {x : Pt} {c : Int} (h : hasC l c = false) (h2 : ¬ (x.1 ≤ c ∧ c < x.2)) : hasC (l ++ [x]) c = false := by
  unfold hasC at h ⊢
  rw [List.any_append, h]
  simp
  intro a
  exact Int.not_lt.mp fun b => h2 ⟨a, b⟩
theorem hasC_mem {l : List Pt} {x : Pt} {c : Int} (h : x ∈ l) (h2 : x.1 ≤ c ∧ c < x.2) : hasC l c = true := by
  unfold hasC
  rw [List.any_eq_true]
  exact ⟨x, h, by simp [h2]⟩
theorem ok_cell_of (Bl : Blt mg) {f : Addr} {fd : FuncData} (F : FunK K "cell_of" s_cell_of f fd)
    (c_need_parts : Cal P w K mg base 4 "need_parts" ["parts"] sp_need_parts) (c_is_plain : Cal P w K mg base 1 "is_plain" ["thing"] sp_is_plain) (c_need_rule : Cal P w K mg base 1 "need_rule" ["rule"] sp_need_rule) (c_scale_of : Cal P w K mg base 2 "scale_of" ["parts"] sp_scale_of)
    (c_in_wholes : Cal P w K mg base 3 "in_wholes" ["parts"] sp_in_wholes) (c_stretches : Cal P w K mg base 3 "stretches" ["parts", "many", "row", "rule"] sp_stretches)
    (c_filled_by : Cal P w K mg base 2 "filled_by" ["stretch", "drops"] sp_filled_by) (c_fraction : Cal P w K mg base 3 "fraction" ["top", "base"] sp_reckoned) : FnOk P w K mg base CX0 5 f fd ps_cell_of sp_cell_of := by
  refine F.ok sc_cell_of (fun vs H Q E h => ?_) (fun cdv A outer s H vs Q E hr h => ?_)
  · obtain ⟨v, _, _, _, _, rfl, _⟩ := h; rfl
  · refine ⟨_, PSs.nox (pss_cons (ps_expr (pe_cal c_need_parts (hr.mono (by decide)) (by rfl) (pa_cons (pv 0) pa_nil)))
 (pss_cons (ps_for PassesOwn.never rfl (pi_tup (pe_tup (pa_cons (pv 1) (pa_cons (pv 2) pa_nil)))) (pg_name (i := 5) sc_cell_of.nd rfl (.inl rfl))
 (pss_one (ps_if (pt_not (pt_val (pe_cal c_is_plain (hr.mono (by decide)) (by rfl) (pa_cons (pv 5) pa_nil))))
 (pss_one ps_never)
 pss_nil)))
 (pss_cons (ps_expr (pe_cal c_need_rule (hr.mono (by decide)) (by rfl) (pa_cons (pv 3) pa_nil)))
 (pss_cons (ps_set (i := 6) sc_cell_of.nd rfl (.inl rfl) (pe_cal c_stretches (hr.mono (by decide)) (by rfl) (pa_cons (pe_cal c_in_wholes (hr.mono (by decide)) (by rfl) (pa_cons (pv 0) pa_nil)) (pa_cons (pe_cal c_scale_of (hr.mono (by decide)) (by rfl) (pa_cons (pv 0) pa_nil)) (pa_cons (pv 2) (pa_cons (pv 3) pa_nil))))))
 (pss_cons (ps_for PassesOwn.never rfl (pi_tup (pe_tup (pa_cons (pe_tup (pa_cons pe_str (pa_cons pe_bl pa_nil))) (pa_cons (pe_tup (pa_cons pe_str (pa_cons (pv 4) pa_nil))) pa_nil)))) (pg_tup (by rfl) (pgs_cons (pg_name (i := 7) sc_cell_of.nd rfl (.inl rfl)) (pgs_cons (pg_name (i := 8) sc_cell_of.nd rfl (.inl rfl)) pgs_nil)))
 (pss_one (ps_for PassesOwn.never rfl (pi_list (pv 6)) (pg_tup (by rfl) (pgs_cons (pg_name (i := 9) sc_cell_of.nd rfl (.inl rfl)) (pgs_cons (pg_name (i := 10) sc_cell_of.nd rfl (.inl rfl)) (pgs_cons (pg_name (i := 11) sc_cell_of.nd rfl (.inl rfl)) pgs_nil))))
 (pss_cons (ps_asg (pe_cal c_filled_by (hr.mono (by decide)) (by rfl) (pa_cons (pe_tup (pa_cons (pv 9) (pa_cons (pv 10) (pa_cons (pv 11) pa_nil)))) (pa_cons (pv 8) pa_nil))) (pg_tup (by rfl) (pgs_cons (pg_name (i := 12) sc_cell_of.nd rfl (.inl rfl)) (pgs_cons (pg_name (i := 13) sc_cell_of.nd rfl (.inl rfl)) pgs_nil))))
 (pss_one (ps_if (pt_chain op_le op_lt (pv 12) (pv 1) (pv 13))
 (pss_one (ps_ret (pe_tup (pa_cons (pv 7) (pa_cons (pe_cal c_fraction (hr.mono (by decide)) (by rfl) (pa_cons (pv 9) (pa_cons (pv 11) pa_nil))) (pa_cons (pe_cal c_fraction (hr.mono (by decide)) (by rfl) (pa_cons (pv 10) (pa_cons (pv 11) pa_nil))) pa_nil))))))
 pss_nil))))))
 (pss_one (ps_ret (pe_tup (pa_cons pe_str pa_nil))))))))), ?_⟩
    obtain ⟨v, B, pss, col, row, rfl, hP, ok, r0, r1, q⟩ := h
    have m0 := ok.m0
    have m1 := ok.m1
    have b0 := ok.b0
    have b1 := ok.b1
    refine ⟨_, rfl, v, B, pss, rfl, hP, ok.few, fun H1 s1 => ?_⟩
    refine ⟨_, rfl, _, rfl, by show 2 ≤ sizeLine; decide, fun p hp => ?_⟩
    have s2 := same_upd hp (o := .tup [.int col, .int row])
    refine ⟨p, rfl, ⟨_, .of upd_same⟩, for_tup (xs := [.int col, .int row]) (fun i σ H' => ∃ z, σ = [some v, some (.int col), some (.int row), some (.str "round"), some (.bl true), z, none, none, none, none, none, none, none, none] ∧ H' = upd H1 p (.tup [.int col, .int row])) ⟨_, rfl, rfl⟩ (fun i σ H' _ h => ?_) (fun i x σ H' hi h => ?_) (fun σ H' h => ?_)⟩
    · obtain ⟨_, _, rfl⟩ := h
      exact .of upd_same
    · obtain ⟨z, rfl, rfl⟩ := h
      have hx : ∃ n, x = .int n := by
        match i, hi with
        | 0, hi => exact ⟨col, (Option.some.inj hi).symm⟩
        | 1, hi => exact ⟨row, (Option.some.inj hi).symm⟩
      obtain ⟨n, rfl⟩ := hx
      refine ⟨_, rfl, .inl ⟨n, rfl, true, rfl, iteF ?_⟩⟩
      exact ⟨_, rfl, rfl⟩
    · obtain ⟨z, rfl, rfl⟩ := h
      have hP2 := mono_parts B _ _ _ _ (s1.trans s2) hP
      refine ⟨_, rfl, false, rfl, ?_⟩
      refine ⟨_, rfl, v, B, pss, rfl, hP2, ok.few, ok.bnd, b0, by omega, fun vw H3 s3 nw => ?_⟩
      have hP3 := mono_parts B _ _ _ _ s3 hP2
      refine ⟨_, rfl, v, B, pss, rfl, hP3, ok.few, b0, by omega, fun H4 s4 => ?_⟩
      have hW4 := mono_lst (mono_lst mono_t2) _ _ _ _ s4 nw.lst
      have hrow := ok.row r0 r1
      refine ⟨_, rfl, _, rfl, vw, wholesM B pss, scaleM B pss, row, false, rfl, hW4, hrow, fun vs7 H7 s7 n7 => ?_⟩
      obtain ⟨a7, us7, rfl, na7, ha7, p7⟩ := n7
      have rok := rows_ok hrow.bnd hrow.m0 hrow.m1 hrow.len
      obtain ⟨wp, ws⟩ := whole_sm rok
      have l7 : us7.length = (stretchM (crossM (wholesM B pss) (scaleM B pss) row) false).length := Paired.length p7
      let cs : Bool → List Pt := fun asked => colsM (wholesM B pss) (scaleM B pss) row false asked
      refine ⟨by show 2 ≤ sizeLine; decide, fun T1 h1 => ⟨_, rfl, by show 2 ≤ sizeLine; decide, fun T2 h2 => ⟨by show 2 ≤ sizeLine; decide, fun T3 h3 => ?_⟩⟩⟩
      have t1 := same_upd h1 (o := .tup [.str "in", .bl false])
      have t2 := same_upd h2 (o := .tup [.str "drop", .bl true])
      have t3 := same_upd h3 (o := .tup [.ref T1, .ref T2])
      have e1 := t3 _ _ (t2 _ _ (upd_same (H := H7) (a := T1) (o := .tup [.str "in", .bl false])))
      have e2 := t3 _ _ (upd_same (H := upd H7 T1 (.tup [.str "in", .bl false])) (a := T2) (o := .tup [.str "drop", .bl true]))
      have e3 := upd_same (H := upd (upd H7 T1 (.tup [.str "in", .bl false])) T2 (.tup [.str "drop", .bl true])) (a := T3) (o := .tup [.ref T1, .ref T2])
      have s13 := t1.trans (t2.trans t3)
      generalize upd (upd (upd H7 T1 (.tup [.str "in", .bl false])) T2 (.tup [.str "drop", .bl true])) T3 (.tup [.ref T1, .ref T2]) = H10 at e1 e2 e3 s13
      have sall : Same H H10 := s1.trans (s2.trans (s3.trans (s4.trans (s7.trans s13))))
      have ha10 := s13 _ _ ha7
      have p10 := mono_all mono_t3 s13 p7
      refine ⟨T3, rfl, ⟨_, .of e3⟩, for_tup (xs := [.ref T1, .ref T2]) (fun i σ H' => ∃ z5 z7 z8 z9 z10 z11 z12 z13, σ = [some v, some (.int col), some (.int row), some (.str "round"), some (.bl true), z5, some (.ref a7), z7, z8, z9, z10, z11, z12, z13] ∧ Same H10 H' ∧ (1 ≤ i → hasC (cs false) col = false) ∧ (2 ≤ i → hasC (cs true) col = false)) ⟨_, _, _, _, _, _, _, _, rfl, Same.refl _, by omega, by omega⟩ (fun i σ H' _ h => ?_) (fun i x σ H' hi h => ?_) (fun σ H' h => ?_)⟩
      · obtain ⟨_, _, _, _, _, _, _, _, _, s, _⟩ := h
        exact .of (s _ _ e3)
      · obtain ⟨z5, z7, z8, z9, z10, z11, z12, z13, rfl, sh, no1, no2⟩ := h
        have hx : ∃ wd asked T, x = .ref T ∧ H10 T = some (.tup [.str wd, .bl asked]) ∧ (hasC (cs asked) col = true → wordS (wordM B pss col row) = wd) ∧
            (hasC (cs asked) col = false → (1 ≤ i + 1 → hasC (cs false) col = false) ∧ (2 ≤ i + 1 → hasC (cs true) col = false)) := by
          match i, hi with
          | 0, hi => exact ⟨"in", false, T1, (Option.some.inj hi).symm, e1, fun hc => by
              unfold wordM
              rw [if_pos hc]
              rfl, fun hc => ⟨fun _ => hc, by omega⟩⟩
          | 1, hi => exact ⟨"drop", true, T2, (Option.some.inj hi).symm, e2, fun hc => by
              have n1 := no1 (by omega)
              unfold wordM
              rw [if_neg (by rw [Bool.not_eq_true]; exact n1), if_pos hc]
              rfl, fun hc => ⟨fun _ => no1 (by omega), fun _ => hc⟩⟩
        obtain ⟨wd, asked, T, rfl, hT, yes, no⟩ := hx
        refine ⟨T, _, rfl, .of (sh _ _ hT), rfl, _, _, rfl, _, _, rfl, rfl, ?_⟩
        refine ⟨_, rfl, a7, rfl, ⟨_, .of (sh _ _ ha10)⟩, for_list (xs := us7) (fun j σ H' => ∃ z5 z9 z10 z11 z12 z13, σ = [some v, some (.int col), some (.int row), some (.str "round"), some (.bl true), z5, some (.ref a7), some (.str wd), some (.bl asked), z9, z10, z11, z12, z13] ∧ Same H10 H' ∧ hasC (((stretchM (crossM (wholesM B pss) (scaleM B pss) row) false).take j).map (fillM asked)) col = false) ⟨_, _, _, _, _, _, rfl, sh, rfl⟩ (fun j σ H' _ h => ?_) (fun j x σ H' hj h => ?_) (fun σ H' h => ?_)⟩
        · obtain ⟨_, _, _, _, _, _, _, s, _⟩ := h
          exact .of (s _ _ ha10)
        · obtain ⟨z5, z9, z10, z11, z12, z13, rfl, sj, nj⟩ := h
          obtain ⟨r, hrj, ht0⟩ := Paired.get p10 hj
          obtain ⟨t, rfl, ht⟩ := mono_t3 _ _ _ _ sj ht0
          have hrm := List.mem_of_getElem? hrj
          have eb := stretch_base hrm
          refine ⟨t, _, rfl, .of ht, rfl, _, _, rfl, _, _, rfl, _, _, rfl, rfl, ?_⟩
          refine ⟨_, rfl, _, rfl, _, rfl, by show 3 ≤ sizeLine; decide, fun T5 h5 => ?_⟩
          refine ⟨_, rfl, .ref T5, r, asked, rfl, ⟨T5, rfl, upd_same⟩, by rw [eb]; exact wp, by rw [eb]; exact ws, fun v9 H9 s9 t9 => ?_⟩
          obtain ⟨a9, rfl, h9⟩ := t9
          have s11 := sj.trans ((same_upd h5).trans s9)
          refine ⟨a9, _, rfl, .of h9, rfl, _, _, rfl, _, _, rfl, rfl, ?_⟩
          have etake : ((stretchM (crossM (wholesM B pss) (scaleM B pss) row) false).take (j + 1)).map (fillM asked) = ((stretchM (crossM (wholesM B pss) (scaleM B pss) row) false).take j).map (fillM asked) ++ [fillM asked r] := by
            rw [List.take_add_one, hrj, List.map_append]
            rfl
          have fin : ¬ ((fillM asked r).1 ≤ col ∧ col < (fillM asked r).2) → hasC (((stretchM (crossM (wholesM B pss) (scaleM B pss) row) false).take (j + 1)).map (fillM asked)) col = false := fun nin => by
            rw [etake]
            exact hasC_snoc nj nin
          refine ⟨_, rfl, _, rfl, _, _, rfl, rfl, _, rfl, ite2 (fun c1 => ?_) (fun c1 => ?_)⟩
          · have c1 := of_decide_eq_true c1
            refine ⟨_, rfl, _, _, rfl, rfl, _, rfl, ite2 (fun c2 => ?_) (fun c2 => ?_)⟩
            · have c2 := of_decide_eq_true c2
              have yw := yes (hasC_mem (List.mem_map.mpr ⟨r, hrm, rfl⟩) ⟨c1, c2⟩)
              refine ⟨_, rfl, _, rfl, _, rfl, _, _, rfl, by rw [eb]; exact wp, by rw [eb]; exact ws, fun v12 H12 s12 => ?_⟩
              refine ⟨_, rfl, _, rfl, _, _, rfl, by rw [eb]; exact wp, by rw [eb]; exact ws, fun v13 H13 s13 => ?_⟩
              refine ⟨by show 3 ≤ sizeLine; decide, fun T14 h14 => ?_⟩
              refine q T14 _ [v12, v13] (sall.trans (s11.trans (s12.trans (s13.trans (same_upd h14))))) ?_
              rw [upd_same, yw]
            · exact ⟨_, _, _, _, _, _, rfl, s11, fin fun z => c2 (decide_eq_true z.2)⟩
          · exact ⟨_, rfl, iteF ⟨_, _, _, _, _, _, rfl, s11, fin fun z => c1 (decide_eq_true z.1)⟩⟩
        · obtain ⟨z5, z9, z10, z11, z12, z13, rfl, sj, nj⟩ := h
          rw [l7, List.take_length] at nj
          obtain ⟨n1, n2⟩ := no nj
          exact ⟨_, _, _, _, _, _, _, _, rfl, sj, n1, n2⟩
      · obtain ⟨z5, z7, z8, z9, z10, z11, z12, z13, rfl, sh, no1, no2⟩ := h
        have n1 := no1 (by show 1 ≤ 2; decide)
        have n2 := no2 (by show 2 ≤ 2; decide)
        refine ⟨by show 1 ≤ sizeLine; decide, fun T hT => ?_⟩
        refine q T _ [] (sall.trans (sh.trans (same_upd hT))) ?_
        rw [upd_same]
        have : wordS (wordM B pss col row) = "out" := by
          unfold wordM
          rw [if_neg (by rw [Bool.not_eq_true]; exact n1), if_neg (by rw [Bool.not_eq_true]; exact n2)]
          rfl
        rw [this]
end
end K79

/-! #### part K79W13 -/
namespace K79
open PySem PySem.Spec PyProof.Rows L2 L2.DX
/-! ### `>=` of pairs -/
def rGeP (K : PySem.W.Frag) : R2 := fun x y H Q => ∃ (a b : Addr) (p q : Pt), x = .ref a ∧ y = .ref b ∧ SqT K H a [.int p.1, .int p.2] ∧ SqT K H b [.int q.1, .int q.2] ∧ p.1 < q.1 ∧ Q (.bl false) H
theorem op_geP {X : Cx} (hu : X.A.units < cLine) : OpR X (compareOp .GtE) (rGeP X.K) := by
  intro pins s σ H x y v u Q I rx ry h
  obtain ⟨a, b, p, t, rfl, rfl, ha, hb, lt, q⟩ := h
  cases rx
  cases ry
  obtain ⟨its, r1, p1, _⟩ := I.tuple ha
  obtain ⟨its2, r2, p2, _⟩ := I.tuple hb
  have i1 : IntsAre its [p.1, p.2] := Vals.ints r1
  have i2 : IntsAre its2 [t.1, t.2] := Vals.ints r2
  have e1 : its.toArray.size = 2 := by rw [List.size_toArray]; exact i1.length
  have e2 : its2.toArray.size = 2 := by rw [List.size_toArray]; exact i2.length
  have at1 : ∀ j (h1 : j < its.toArray.size), ∃ t, its.toArray[j] = .int ([p.1, p.2].getD j 0) t := fun j h1 => PyProof.Rows.IntsAre.int_at i1 _ _ (by simp at h1; simp [h1])
  have at2 : ∀ j (h1 : j < its2.toArray.size), ∃ t', its2.toArray[j] = .int ([t.1, t.2].getD j 0) t' := fun j h1 => PyProof.Rows.IntsAre.int_at i2 _ _ (by simp at h1; simp [h1])
  have R := Ob.RcOp.tuples_ge (A := X.A) (s := s) (e := fun j => decide ([p.1, p.2].getD j 0 = [t.1, t.2].getD j 0)) (r := fun j => decide ([t.1, t.2].getD j 0 ≤ [p.1, p.2].getD j 0)) p1 p2 hu (fun j h1 h2 => by
    obtain ⟨t1, et⟩ := at1 j h1
    obtain ⟨t2, et'⟩ := at2 j h2
    rw [et, et']
    have z : ([p.1, p.2].getD j 0 == [t.1, t.2].getD j 0) = decide ([p.1, p.2].getD j 0 = [t.1, t.2].getD j 0) := by
      by_cases q : [p.1, p.2].getD j 0 = [t.1, t.2].getD j 0
      · rw [decide_eq_true q]; exact beq_iff_eq.mpr q
      · rw [decide_eq_false q]; exact beq_eq_false_iff_ne.mpr q
    rw [← z]
    exact SeqAt.EqAt.int_int _ _ _ _) (fun j h1 h2 _ => by
    obtain ⟨t1, et⟩ := at1 j h1
    obtain ⟨t2, et'⟩ := at2 j h2
    rw [et, et']
    exact Ob.RcOp.ge_int _ _ _ _)
  rw [e1, e2] at R
  have ev : Ob.lexAt (fun j => decide ([p.1, p.2].getD j 0 = [t.1, t.2].getD j 0)) (fun j => decide ([t.1, t.2].getD j 0 ≤ [p.1, p.2].getD j 0)) (decide (2 ≥ 2)) 0 (min 2 2) = false := by
    show (if decide (p.1 = t.1) = true then _ else decide (t.1 ≤ p.1)) = false
    rw [decide_eq_false (by omega), if_neg (by decide), decide_eq_false (by omega)]
  rw [ev] at R
  have z : wpAny (model X.prog X.w) X.A (compareOp .GtE (.ref a) (.ref b)) (EP X pins σ Q) X.xe s := R X.prog X.w X.xe (EP X pins σ Q) ⟨.bl _, H, I, rfl, q⟩
  exact z
section
variable {P : Program} {w : World} {K : PySem.W.Frag} {mg : Str → Option Value} {base : Heap}
/-! ### is_span -/
abbrev s_is_span : Stmt := topS 40
abbrev n_is_span : List Str := ["thing", "number"]
theorem sc_is_span : FnScope n_is_span ["thing"] (defScope s_is_span) := ⟨rfl, rfl, rfl, by decide +kernel, rfl, by decide +kernel, by decide +kernel⟩
def sp_is_span : Sp := fun vs H Q _ => ∃ (v : V) (r : Row3), vs = [v] ∧ T3 H v r ∧ r.2.1 < r.2.2 ∧ ∀ H', Same H H' → Q (.bl true) H'
theorem ok_is_span (B : Blt mg) {f : Addr} {fd : FuncData} (F : Fun K "is_span" "is_span" s_is_span f fd)
    (c_is_plain : Cal P w K mg base 1 "is_plain" ["thing"] sp_is_plain) : FnOk P w K mg base CX0 2 f fd ["thing"] sp_is_span := by
  refine F.ok sc_is_span (fun vs H Q E h => ?_) (fun cdv A outer s H vs Q E hr h => ?_)
  · obtain ⟨v, _, rfl, _⟩ := h; rfl
  · refine ⟨_, (pss_cons (ps_if (PW.pt (pw_or (pt_not (pt_val (pe_callB call_isi (by rfl) B.isinstance_ (by decide +kernel) (pa_cons (pv 0) (pa_cons (pe_bltn (v := .ty "tuple") (by rfl) B.tuple_ (by decide +kernel) rfl) pa_nil))))) (pw_or (pt_cmpR op_ne (pe_callB call_len_seq (by rfl) B.len_ (by decide +kernel) (pa_cons (pv 0) pa_nil)) pe_int (nomark _)) (pw_or1 (pt_not (pt_val (pe_callB (cr_all rfl) (by rfl) B.all_ (by decide +kernel) (pa_cons (pe_lc (own := [("number", 1)]) rfl sc_is_span.nd (pi_tup (pv 0)) (blkOk_by (N := n_is_span) (sc := defScope s_is_span) (own := [("number", 1)]) (by decide +kernel)) (fun _ _ _ _ _ => (pg_name (i := 1) sc_is_span.nd rfl (.inl rfl))) (fun _ _ _ _ _ => pts_nil) (fun _ _ _ _ _ => (pe_cal c_is_plain (hr.mono (by decide)) (by rfl) (pa_cons (pv 1) pa_nil)))) pa_nil))))))))
 (pss_one (ps_ret pe_bl))
 pss_nil)
 (pss_one (ps_ret (pe_cmpR op_lt (pe_ix ix_tup (pv 0) pe_int (fun _ _ => rfl)) (pe_ix ix_tup (pv 0) pe_int (fun _ _ => rfl)) (nomark _))))), ?_⟩
    obtain ⟨v, ⟨r, b, e⟩, rfl, ⟨c, rfl, hc⟩, lt, q⟩ := h
    refine ⟨_, rfl, ⟨.ref c, .ty "tuple", _, _, true, rfl, .ty _, .base (.tup hc), kit_ty (by decide +kernel), ?_⟩⟩
    refine ⟨true, rfl, iteF ?_⟩
    refine ⟨_, rfl, c, _, rfl, .inr (.of hc), rfl, _, rfl, iteF ?_⟩
    refine ⟨_, rfl, c, rfl, ⟨_, .of hc⟩, fun D hD => ?_⟩
    have s5 : Same H (upd H D (.lst [])) := same_upd hD
    refine lc_tup (K := K) (a := c) (xs := [.int r, .int b, .int e]) (fun i H'' => Same H H'' ∧ H'' D = some (.lst (List.replicate i (.bl true)))) ⟨s5, upd_same⟩ (fun i H'' _ h => .of (h.1 _ _ hc)) (fun i x H'' hi h => ?_) (fun H'' h => ?_)
    · obtain ⟨s6, d6⟩ := h
      have hx : ∃ n, x = .int n := by
        match i, hi with
        | 0, hi => exact ⟨_, (Option.some.inj hi).symm⟩
        | 1, hi => exact ⟨_, (Option.some.inj hi).symm⟩
        | 2, hi => exact ⟨_, (Option.some.inj hi).symm⟩
      obtain ⟨n, rfl⟩ := hx
      have hi2 : i < 3 := (List.getElem?_eq_some_iff.mp hi).1
      refine ⟨rfl, _, rfl, .inl ⟨n, rfl, _, d6, ?_, ?_, ?_⟩⟩
      · rw [List.length_replicate]
        exact small1000 (by omega)
      · exact same_mut s6 hD
      · rw [upd_same, ← List.replicate_succ']
    · obtain ⟨s6, d6⟩ := h
      refine ⟨D, [true, true, true], rfl, .of d6, true, rfl, iteF ?_⟩
      refine ⟨_, rfl, c, _, 1, _, rfl, rfl, .of (s6 _ _ hc), rfl, _, rfl, c, _, 2, _, rfl, rfl, .of (s6 _ _ hc), rfl, ?_⟩
      refine ⟨_, _, rfl, rfl, ?_⟩
      show Q (.bl (decide (b < e))) _
      rw [decide_eq_true lt]
      exact q _ s6
/-! ### need_spans -/
abbrev s_need_spans : Stmt := topS 41
abbrev n_need_spans : List Str := ["spans", "one", "other", "span"]
theorem sc_need_spans : FnScope n_need_spans ["spans"] (defScope s_need_spans) := ⟨rfl, rfl, rfl, by decide +kernel, rfl, by decide +kernel, by decide +kernel⟩
structure SpansOk (spans : List Row3) : Prop where
  rise : Rise spans
  wide : ∀ s ∈ spans, s.2.1 < s.2.2
  few : spans.length ≤ 100
def sp_need_spans : Sp := fun vs H Q _ => ∃ (v : V) (spans : List Row3), vs = [v] ∧ Lst T3 H v spans ∧ SpansOk spans ∧ ∀ H', Same H H' → Q .non H'
theorem kitAny_list' (K : PySem.W.Frag) : PySem.W.kitAny K (.type "list") [.type "list", .type "tuple"] = some true := by rfl
theorem ok_need_spans (B : Blt mg) {f : Addr} {fd : FuncData} (F : Fun K "need_spans" "need_spans" s_need_spans f fd)
    (c_is_span : Cal P w K mg base 2 "is_span" ["thing"] sp_is_span) : FnOk P w K mg base CX0 3 f fd ["spans"] sp_need_spans := by
  refine F.ok sc_need_spans (fun vs H Q E h => ?_) (fun cdv A outer s H vs Q E hr h => ?_)
  · obtain ⟨v, _, rfl, _⟩ := h; rfl
  · have hu := hu_of hr
    refine ⟨_, (pss_cons (ps_if (PW.pt (pw_or (pt_not (pt_val (pe_callB call_isiT (by rfl) B.isinstance_ (by decide +kernel) (pa_cons (pv 0) (pa_cons (pe_tup (pa_cons (pe_bltn (v := .ty "list") (by rfl) B.list_ (by decide +kernel) rfl) (pa_cons (pe_bltn (v := .ty "tuple") (by rfl) B.tuple_ (by decide +kernel) rfl) pa_nil))) pa_nil))))) (pw_or1 (pt_not (pt_val (pe_callB (cr_all rfl) (by rfl) B.all_ (by decide +kernel) (pa_cons (pe_lc (own := [("span", 3)]) rfl sc_need_spans.nd (pi_list (pv 0)) (blkOk_by (N := n_need_spans) (sc := defScope s_need_spans) (own := [("span", 3)]) (by decide +kernel)) (fun _ _ _ _ _ => (pg_name (i := 3) sc_need_spans.nd rfl (.inl rfl))) (fun _ _ _ _ _ => pts_nil) (fun _ _ _ _ _ => (pe_cal c_is_span (hr.mono (by decide)) (by rfl) (pa_cons (pv 3) pa_nil)))) pa_nil)))))))
 (pss_one ps_never)
 pss_nil)
 (pss_one (ps_for PassesOwn.never rfl (pi_zip (by rfl) B.zip_ (pa_cons (pv 0) (pa_cons (pe_slice sl_list (pv 0) (po_some pe_int) po_none) pa_nil))) (pg_tup (by rfl) (pgs_cons (pg_name (i := 1) sc_need_spans.nd rfl (.inl rfl)) (pgs_cons (pg_name (i := 2) sc_need_spans.nd rfl (.inl rfl)) pgs_nil)))
 (pss_one (ps_if (pt_cmpR (op_geP hr.units0) (pe_tup (pa_cons (pe_ix ix_tup (pv 1) pe_int (fun _ _ => rfl)) (pa_cons (pe_ix ix_tup (pv 1) pe_int (fun _ _ => rfl)) pa_nil))) (pe_tup (pa_cons (pe_ix ix_tup (pv 2) pe_int (fun _ _ => rfl)) (pa_cons (pe_ix ix_tup (pv 2) pe_int (fun _ _ => rfl)) pa_nil))) (nomark _))
 (pss_one ps_never)
 pss_nil))))), ?_⟩
    obtain ⟨v, spans, rfl, ⟨a, vs, rfl, ha, hp⟩, ok, q⟩ := h
    have lp : vs.length = spans.length := Paired.length hp
    have few := ok.few
    refine ⟨_, rfl, by show 2 ≤ sizeLine; decide, fun p hpn => ?_⟩
    have s1 : Same H (upd H p (.tup [.ty "list", .ty "tuple"])) := same_upd hpn
    refine ⟨.ref a, p, _, _, [.type "list", .type "tuple"], true, rfl, upd_same, .cons (.ty _) (.cons (.ty _) .nil), .base (.lst (s1 _ _ ha)), kitAny_list K, ?_⟩
    refine ⟨true, rfl, iteF ?_⟩
    refine ⟨_, rfl, a, rfl, ⟨_, .of (s1 _ _ ha)⟩, fun D hD => ?_⟩
    refine lc_list (K := K) (a := a) (xs := vs) (fun i H'' => Same (upd H p (.tup [.ty "list", .ty "tuple"])) H'' ∧ H'' D = some (.lst (List.replicate i (.bl true)))) ⟨same_upd hD, upd_same⟩ (fun i H'' _ h => .of (h.1 _ _ (s1 _ _ ha))) (fun i x H'' hi h => ?_) (fun H'' h => ?_)
    · obtain ⟨s6, d6⟩ := h
      obtain ⟨r, hri, ht⟩ := Paired.get hp hi
      have hi2 := (List.getElem?_eq_some_iff.mp hi).1
      refine ⟨rfl, _, rfl, x, r, rfl, mono_t3 _ _ _ _ (s1.trans s6) ht, ok.wide r (List.mem_of_getElem? hri), fun H7 s7 => ⟨_, s7 _ _ d6, ?_, ?_, ?_⟩⟩
      · rw [List.length_replicate]
        exact small1000 (by omega)
      · exact same_mut (s6.trans s7) hD
      · rw [upd_same, ← List.replicate_succ']
    · obtain ⟨s6, d6⟩ := h
      refine ⟨D, List.replicate vs.length true, rfl, .of ?_, true, ?_, iteF ?_⟩
      · rw [d6, List.map_replicate]
      · exact congrArg V.bl (List.all_eq_true.mpr fun x hx => (List.mem_replicate.mp hx).2)
      have s16 := s1.trans s6
      refine ⟨_, rfl, _, rfl, 1, rfl, a, vs, rfl, .of (s16 _ _ ha), fun b hb => ?_⟩
      have s7 := same_upd hb (o := .lst (cutV vs (some 1) none))
      have s17 := s16.trans s7
      refine ⟨a, b, vs, _, rfl, .of (s17 _ _ ha), .of upd_same, ?_⟩
      have ecut : cutV vs (some 1) none = vs.drop 1 := by
        unfold cutV
        have e1 : HT.sIx vs.length 0 (some 1) = min 1 vs.length := HT.sIx_nat _ _ 1
        have e2 : HT.sIx vs.length vs.length none = vs.length := rfl
        rw [e1, e2]
        by_cases z : vs.length = 0
        · have : vs = [] := List.length_eq_zero_iff.mp z
          subst this
          rfl
        · rw [show min 1 vs.length = 1 by omega]
          exact List.take_of_length_le (by rw [List.length_drop]; omega)
      rw [ecut] at s7 s17 ⊢
      refine for_it (walk_zip (K := K) (a := a) (b := b) (xs := vs) (ys := vs.drop 1) (n := vs.length - 1) (by rw [List.length_drop]; omega)) (fun j σ H' => ∃ z1 z2 z3, σ = [some (.ref a), z1, z2, z3] ∧ Same (upd H'' b (.lst (vs.drop 1))) H') ⟨_, _, _, rfl, .refl _⟩ (fun j σ H' _ h => ?_) (fun j x σ H' H2 hj h hy => ?_) (fun σ H' h => ?_)
      · obtain ⟨_, _, _, _, s8⟩ := h
        exact ⟨.of (s8 _ _ (s17 _ _ ha)), .of (s8 _ _ upd_same)⟩
      · obtain ⟨z1, z2, z3, rfl, s8⟩ := h
        obtain ⟨T, x1, x2, rfl, hT, rfl, e1, e2⟩ := hy
        have e1 : vs[j]? = some x1 := e1
        have e2 : (vs.drop 1)[j]? = some x2 := e2
        rw [List.getElem?_drop] at e2
        obtain ⟨r1, hr1, t1, rfl, ht1⟩ := Paired.get hp e1
        obtain ⟨r2, hr2, t2, rfl, ht2⟩ := Paired.get hp e2
        have s9 := s8.trans (same_upd hT (o := .tup [.ref t1, .ref t2]))
        have k1 := (s17.trans s9) _ _ ht1
        have k2 := (s17.trans s9) _ _ ht2
        have lt : r1.1 < r2.1 := by
          have h1 := (List.getElem?_eq_some_iff.mp hr1)
          have h2 := (List.getElem?_eq_some_iff.mp hr2)
          obtain ⟨l1, g1⟩ := h1
          obtain ⟨l2, g2⟩ := h2
          have := List.pairwise_iff_getElem.mp ok.rise j (1 + j) l1 l2 (by omega)
          rw [g1, g2] at this
          exact this
        refine ⟨T, _, rfl, .of upd_same, rfl, _, _, rfl, _, _, rfl, rfl, ?_⟩
        refine ⟨_, rfl, t1, _, 0, _, rfl, rfl, .of k1, rfl, _, rfl, t1, _, 2, _, rfl, rfl, .of k1, rfl, by show 2 ≤ sizeLine; decide, fun T3 h3 => ?_⟩
        have s10 := same_upd h3 (o := .tup [.int r1.1, .int r1.2.2])
        have k3 := s10 _ _ k2
        refine ⟨_, rfl, t2, _, 0, _, rfl, rfl, .of k3, rfl, _, rfl, t2, _, 1, _, rfl, rfl, .of k3, rfl, by show 2 ≤ sizeLine; decide, fun T4 h4 => ?_⟩
        have s11 := same_upd h4 (o := .tup [.int r2.1, .int r2.2.1])
        refine ⟨T3, T4, (r1.1, r1.2.2), (r2.1, r2.2.1), rfl, rfl, .of (s11 _ _ upd_same), .of upd_same, lt, false, rfl, iteF ?_⟩
        exact ⟨_, _, _, rfl, s9.trans (s10.trans s11)⟩
      · obtain ⟨z1, z2, z3, rfl, s8⟩ := h
        exact q _ (s17.trans s8)
end
end K79

/-! #### part K79W14 -/
namespace K79
open PySem PySem.Spec PyProof.Rows L2 L2.DX
section
variable {P : Program} {w : World} {K : PySem.W.Frag} {mg : Str → Option Value} {base : Heap}
/-! ### in_both -/
abbrev s_in_both : Stmt := topS 42
abbrev n_in_both : List Str := ["spans", "others", "found", "row", "begin", "end", "other", "low", "high"]
theorem sc_in_both : FnScope n_in_both ["spans", "others"] (defScope s_in_both) := ⟨rfl, rfl, rfl, by decide +kernel, rfl, by decide +kernel, by decide +kernel⟩
def sp_in_both : Sp := fun vs H Q _ => ∃ (v1 v2 : V) (s1 s2 : List Row3), vs = [v1, v2] ∧ Lst T3 H v1 s1 ∧ Lst T3 H v2 s2 ∧ SpansOk s1 ∧ SpansOk s2 ∧ ∀ v' H', Same H H' → Lst T3 H' v' (bothM s1 s2) → Q v' H'
def meet1 (s o : Row3) : Option Row3 := if o.1 = s.1 ∧ max s.2.1 o.2.1 < min s.2.2 o.2.2 then some (s.1, max s.2.1 o.2.1, min s.2.2 o.2.2) else none
theorem mx2 (i j : Int) : (if j > i then j else i) = max i j := by split <;> omega
theorem mn2 (i j : Int) : (if j < i then j else i) = min i j := by split <;> omega
theorem bothM_is (l o : List Row3) : bothM l o = l.flatMap fun s => o.filterMap (meet1 s) := rfl
theorem ok_in_both (B : Blt mg) {f : Addr} {fd : FuncData} (F : Fun K "in_both" "in_both" s_in_both f fd)
    (c_need_spans : Cal P w K mg base 3 "need_spans" ["spans"] sp_need_spans) : FnOk P w K mg base CX0 4 f fd ["spans", "others"] sp_in_both := by
  refine F.ok sc_in_both (fun vs H Q E h => ?_) (fun cdv A outer s H vs Q E hr h => ?_)
  · obtain ⟨v, _, _, _, rfl, _⟩ := h; rfl
  · refine ⟨_, (pss_cons (ps_expr (pe_cal c_need_spans (hr.mono (by decide)) (by rfl) (pa_cons (pv 0) pa_nil)))
 (pss_cons (ps_expr (pe_cal c_need_spans (hr.mono (by decide)) (by rfl) (pa_cons (pv 1) pa_nil)))
 (pss_cons (ps_set (i := 2) sc_in_both.nd rfl (.inl rfl) (pe_lst pa_nil))
 (pss_cons (ps_for PassesOwn.never rfl (pi_list (pv 0)) (pg_tup (by rfl) (pgs_cons (pg_name (i := 3) sc_in_both.nd rfl (.inl rfl)) (pgs_cons (pg_name (i := 4) sc_in_both.nd rfl (.inl rfl)) (pgs_cons (pg_name (i := 5) sc_in_both.nd rfl (.inl rfl)) pgs_nil))))
 (pss_one (ps_for PassesOwn.never rfl (pi_list (pv 1)) (pg_tup (by rfl) (pgs_cons (pg_name (i := 6) sc_in_both.nd rfl (.inl rfl)) (pgs_cons (pg_name (i := 7) sc_in_both.nd rfl (.inl rfl)) (pgs_cons (pg_name (i := 8) sc_in_both.nd rfl (.inl rfl)) pgs_nil))))
 (pss_one (ps_if (PW.pt (pw_and (pt_cmpR op_eq (pv 6) (pv 3) (nomark _)) (pw_and1 (pt_cmpR op_lt (pe_callB (call_max2 rfl) (by rfl) B.max_ (by decide +kernel) (pa_cons (pv 4) (pa_cons (pv 7) pa_nil))) (pe_callB (call_min2 rfl) (by rfl) B.min_ (by decide +kernel) (pa_cons (pv 5) (pa_cons (pv 8) pa_nil))) (nomark _)))))
 (pss_one (ps_expr (pe_bm PySem.F.plainAttrs_list PySem.F.slot_list_append PySem.F.type_list_append mt_append (pv 2) (pa_cons (pe_tup (pa_cons (pv 3) (pa_cons (pe_callB (call_max2 rfl) (by rfl) B.max_ (by decide +kernel) (pa_cons (pv 4) (pa_cons (pv 7) pa_nil))) (pa_cons (pe_callB (call_min2 rfl) (by rfl) B.min_ (by decide +kernel) (pa_cons (pv 5) (pa_cons (pv 8) pa_nil))) pa_nil)))) pa_nil))))
 pss_nil)))))
 (pss_one (ps_ret (pv 2))))))), ?_⟩
    obtain ⟨v1, v2, l1, l2, rfl, hl1, hl2, ok1, ok2, q⟩ := h
    have f1 := ok1.few
    have f2 := ok2.few
    refine ⟨_, rfl, v1, l1, rfl, hl1, ok1, fun H1 s1 => ?_⟩
    refine ⟨_, rfl, v2, l2, rfl, mono_lst mono_t3 _ _ _ _ s1 hl2, ok2, fun H2 s2 => ?_⟩
    obtain ⟨a, us, rfl, ha, pa⟩ := mono_lst mono_t3 _ _ _ _ (s1.trans s2) hl1
    obtain ⟨b, ws, rfl, hb, pb⟩ := mono_lst mono_t3 _ _ _ _ (s1.trans s2) hl2
    have lpa : us.length = l1.length := Paired.length pa
    have lpb : ws.length = l2.length := Paired.length pb
    refine ⟨Nat.zero_le _, fun l hl => ?_⟩
    have s3 := same_upd hl (o := .lst [])
    refine ⟨_, rfl, a, rfl, ⟨_, .of (s3 _ _ ha)⟩, for_list (xs := us) (fun i σ H' => ∃ z3 z4 z5 z6 z7 z8, σ = [some (.ref a), some (.ref b), some (.ref l), z3, z4, z5, z6, z7, z8] ∧ Same H2 H' ∧ Grow T3 H' l (bothM (l1.take i) l2)) ⟨_, _, _, _, _, _, rfl, s3, Grow.start⟩ (fun i σ H' _ h => ?_) (fun i x σ H' hi h => ?_) (fun σ H' h => ?_)⟩
    · obtain ⟨_, _, _, _, _, _, _, s4, _⟩ := h
      exact .of (s4 _ _ ha)
    · obtain ⟨z3, z4, z5, z6, z7, z8, rfl, s4, g4⟩ := h
      obtain ⟨⟨r, b1, e1⟩, hri, t, rfl, ht⟩ := Paired.get pa hi
      have hi2 := (List.getElem?_eq_some_iff.mp hi).1
      refine ⟨t, _, rfl, .of (s4 _ _ ht), rfl, _, _, rfl, _, _, rfl, _, _, rfl, rfl, ?_⟩
      refine ⟨_, rfl, b, rfl, ⟨_, .of (s4 _ _ hb)⟩, for_list (xs := ws) (fun j σ H' => ∃ z6 z7 z8, σ = [some (.ref a), some (.ref b), some (.ref l), some (.int r), some (.int b1), some (.int e1), z6, z7, z8] ∧ Same H2 H' ∧ Grow T3 H' l (bothM (l1.take i) l2 ++ (l2.take j).filterMap (meet1 (r, b1, e1)))) ⟨_, _, _, rfl, s4, by simpa using g4⟩ (fun j σ H' _ h => ?_) (fun j x σ H' hj h => ?_) (fun σ H' h => ?_)⟩
      · obtain ⟨_, _, _, _, s5, _⟩ := h
        exact .of (s5 _ _ hb)
      · obtain ⟨z6, z7, z8, rfl, s5, g5⟩ := h
        obtain ⟨⟨o, lo, hg⟩, hrj, t2, rfl, ht2⟩ := Paired.get pb hj
        have hj2 := (List.getElem?_eq_some_iff.mp hj).1
        have etake : (l2.take (j + 1)).filterMap (meet1 (r, b1, e1)) = (l2.take j).filterMap (meet1 (r, b1, e1)) ++ (meet1 (r, b1, e1) (o, lo, hg)).toList := by
          rw [List.take_add_one, hrj, List.filterMap_append]
          congr 1
        have no : meet1 (r, b1, e1) (o, lo, hg) = none → (l2.take (j + 1)).filterMap (meet1 (r, b1, e1)) = (l2.take j).filterMap (meet1 (r, b1, e1)) := fun z => by
          rw [etake, z]
          exact List.append_nil _
        refine ⟨t2, _, rfl, .of (s5 _ _ ht2), rfl, _, _, rfl, _, _, rfl, _, _, rfl, rfl, ?_⟩
        refine ⟨_, rfl, _, rfl, rfl, _, rfl, ite2 (fun c1 => ?_) (fun c1 => ?_)⟩
        · have c1 : o = r := eqI'.mp c1
          subst c1
          refine ⟨_, rfl, _, rfl, _, _, rfl, _, rfl, _, rfl, _, _, rfl, _, _, rfl, rfl, _, rfl, ?_⟩
          rw [mx2, mn2]
          refine ite2 (fun c2 => ?_) (fun c2 => ?_)
          · have c2 := of_decide_eq_true c2
            have em : meet1 (o, b1, e1) (o, lo, hg) = some (o, max b1 lo, min e1 hg) := if_pos ⟨rfl, c2⟩
            obtain ⟨ds, hds, pds⟩ := id g5
            have lds := g5.len hds
            have ld1 : ds.length ≤ 20000 := by
              rw [lds, List.length_append]
              have h1 : ((l2.take j).filterMap (meet1 (o, b1, e1))).length ≤ 100 := by
                have := List.length_filterMap_le (meet1 (o, b1, e1)) (l2.take j)
                rw [List.length_take] at this
                omega
              have h2 : (bothM (l1.take i) l2).length ≤ (l1.take i).length * 100 := flat_len _ 100 (l1.take i) fun y _ => by
                have := List.length_filterMap_le (meet1 y) l2
                have : (l2.filterMap (meet1 y)).length ≤ 100 := by omega
                exact this
              rw [List.length_take] at h2
              have h3 : min i l1.length * 100 ≤ 100 * 100 := Nat.mul_le_mul_right 100 (by omega)
              omega
            refine ⟨_, rfl, .inl ⟨rfl, _, .of hds⟩, ?_⟩
            refine ⟨_, rfl, _, rfl, _, rfl, _, _, rfl, _, rfl, _, rfl, _, _, rfl, by show 3 ≤ sizeLine; decide, fun T hT => ?_⟩
            rw [mx2, mn2] at *
            have s6 := same_upd hT (o := .tup [.int o, .int (max b1 lo), .int (min e1 hg)])
            have h6 := s6 _ _ hds
            refine ⟨l, ds, .ref T, rfl, rfl, h6, by have : sizeLine = 2 ^ 24 := rfl; omega, ?_⟩
            refine ⟨_, _, _, rfl, same_mut (s5.trans s6) hl, ?_⟩
            rw [etake, em, ← List.append_assoc]
            exact (g5.keep mono_t3 s6).snoc h6 (rem_t3 h6 ⟨T, rfl, by rw [upd_same]⟩)
          · have c2 : ¬ max b1 lo < min e1 hg := fun z => c2 (decide_eq_true z)
            refine ⟨_, _, _, rfl, s5, ?_⟩
            rw [no (if_neg fun z => c2 z.2)]
            exact g5
        · have c1 : ¬ o = r := fun z => c1 (eqI'.mpr z)
          refine ⟨_, _, _, rfl, s5, ?_⟩
          rw [no (if_neg fun z => c1 z.1)]
          exact g5
      · obtain ⟨z6, z7, z8, rfl, s5, g5⟩ := h
        refine ⟨_, _, _, _, _, _, rfl, s5, ?_⟩
        rw [lpb, List.take_length] at g5
        have e : bothM (l1.take (i + 1)) l2 = bothM (l1.take i) l2 ++ l2.filterMap (meet1 (r, b1, e1)) := flat_take _ hri
        rw [e]
        exact g5
    · obtain ⟨z3, z4, z5, z6, z7, z8, rfl, s4, g4⟩ := h
      rw [lpa, List.take_length] at g4
      exact ⟨_, rfl, q _ _ (s1.trans (s2.trans s4)) (g4.done mono_t3 hl).lst⟩
end
end K79

/-! #### part K79W15 -/
namespace K79
open PySem PySem.Spec PyProof.Rows L2 L2.DX
section
variable {P : Program} {w : World} {K : PySem.W.Frag} {mg : Str → Option Value} {base : Heap}
/-! ### _law_cell -/
abbrev s_l_cell : Stmt := topS 44
abbrev n_l_cell : List Str := ["_law_script", "_law_k"]
theorem sc_l_cell : FnScope n_l_cell ["_law_script", "_law_k"] (defScope s_l_cell) := ⟨rfl, rfl, rfl, by decide +kernel, rfl, by decide +kernel, by decide +kernel⟩
def sp_l_cell (K : PySem.W.Frag) : Sp := fun vs H Q _ => ∃ (a : Addr) (ns : List Int) (k : Nat), vs = [.ref a, .int k] ∧ SqL K H a (ns.map V.int) ∧ k ≤ 100 ∧ ∀ c, Q (.int c) H
theorem ok_l_cell (B : Blt mg) {f : Addr} {fd : FuncData} (F : Fun K "_law_cell" "_law_cell" s_l_cell f fd) : FnOk P w K mg base CX0 1 f fd ["_law_script", "_law_k"] (sp_l_cell K) := by
  refine F.ok sc_l_cell (fun vs H Q E h => ?_) (fun cdv A outer s H vs Q E hr h => ?_)
  · obtain ⟨a, ns, k, rfl, _⟩ := h; rfl
  · refine ⟨_, (pss_cons (ps_if (pt_cmpR op_lt (pv 1) (pe_callB call_len_seq (by rfl) B.len_ (by decide +kernel) (pa_cons (pv 0) pa_nil)) (nomark _))
 (pss_one (ps_ret (pe_ix ix_list (pv 0) (pv 1) (fun _ _ => rfl))))
 pss_nil)
 (pss_one (ps_ret (pe_op op_add (pe_op op_mulW pe_int (pv 1)) pe_int)))), ?_⟩
    obtain ⟨a, ns, k, rfl, hs, hk, q⟩ := h
    refine ⟨_, rfl, _, rfl, a, _, rfl, .inl hs, _, _, rfl, rfl, _, rfl, ite2 (fun c1 => ?_) (fun c1 => ?_)⟩
    · have c1 := of_decide_eq_true c1
      rw [List.length_map] at c1
      have lt : k < ns.length := by omega
      refine ⟨_, rfl, _, rfl, a, _, _, .int (ns[k]), rfl, rfl, hs, ?_, q _⟩
      refine atI_nat ?_
      rw [List.getElem?_map, List.getElem?_eq_getElem lt]
      rfl
    · exact ⟨_, rfl, _, _, rfl, rfl, sm_mulW (sm_of (by omega)) (sm_of (by omega)), _, _, rfl, rfl, q _⟩
/-! ### _law_box -/
abbrev s_l_box : Stmt := topS 45
abbrev n_l_box : List Str := ["_law_cell_here"]
theorem sc_l_box : FnScope n_l_box ["_law_cell_here"] (defScope s_l_box) := ⟨rfl, rfl, rfl, by decide +kernel, rfl, by decide +kernel, by decide +kernel⟩
/-- what the box holds: t takes at most were made -/
def BoxL (t : Nat) (ls : List V) : Prop := ∃ c0 c1 c2 : Int, ∃ n : Nat, ls = [.int c0, .int c1, .int c2, .int n] ∧ 0 ≤ c1 ∧ c1 < 2 ^ 31 ∧ 0 ≤ c2 ∧ c2 < 2 ^ 31 ∧ n ≤ t
def sp_l_box : Sp := fun vs H Q _ => ∃ c : Int, vs = [.int c] ∧ ∀ l ls, H l = none → BoxL 0 ls → Q (.ref l) (upd H l (.lst ls))
theorem ok_l_box (B : Blt mg) {f : Addr} {fd : FuncData} (F : Fun K "_law_box" "_law_box" s_l_box f fd) : FnOk P w K mg base CX0 1 f fd ["_law_cell_here"] sp_l_box := by
  refine F.ok sc_l_box (fun vs H Q E h => ?_) (fun cdv A outer s H vs Q E hr h => ?_)
  · obtain ⟨c, rfl, _⟩ := h; rfl
  · refine ⟨_, (pss_one (ps_ret (pe_lst (pa_cons (pe_callB (call_max2 rfl) (by rfl) B.max_ (by decide +kernel) (pa_cons pe_int (pa_cons (pe_op op_sub (pv 0) (pe_op op_pow pe_int pe_int)) pa_nil))) (pa_cons (pe_op op_mod (pv 0) pe_int) (pa_cons (pe_op op_mod (pv 0) pe_int) (pa_cons pe_int pa_nil))))))), ?_⟩
    obtain ⟨c, rfl, q⟩ := h
    refine ⟨_, rfl, _, _, rfl, rfl, ⟨by decide, by decide, by decide⟩, _, _, rfl, rfl, _, _, rfl, ?_⟩
    refine ⟨_, rfl, _, _, rfl, rfl, by show (0 : Int) < 2147483629; decide, _, rfl, _, _, rfl, rfl, by show (0 : Int) < 2147483587; decide, by show 4 ≤ sizeLine; decide, fun l hl => ?_⟩
    refine q l _ hl ⟨_, _, _, 0, rfl, ?_, ?_, ?_, ?_, Nat.le_refl _⟩
    · exact Int.emod_nonneg _ (by decide)
    · exact Int.lt_trans (Int.emod_lt_of_pos _ (by decide)) (by decide)
    · exact Int.emod_nonneg _ (by decide)
    · exact Int.lt_trans (Int.emod_lt_of_pos _ (by decide)) (by decide)
/-! ### _law_take -/
abbrev s_l_take : Stmt := topS 46
abbrev n_l_take : List Str := ["_law_box_here", "_law_many", "_law_digit", "_law_turn", "_law_one"]
theorem sc_l_take : FnScope n_l_take ["_law_box_here", "_law_many"] (defScope s_l_take) := ⟨rfl, rfl, rfl, by decide +kernel, rfl, by decide +kernel, by decide +kernel⟩
def sp_l_take : Sp := fun vs H Q _ => ∃ (b : Addr) (ls : List V) (t : Nat) (many : Int), vs = [.ref b, .int many] ∧ H b = some (.lst ls) ∧ BoxL t ls ∧ t ≤ 500 ∧ 0 < many ∧ many ≤ 1000 ∧
  ∀ d ls', 0 ≤ d → d < many → BoxL (t + 1) ls' → Q (.int d) (upd H b (.lst ls'))
theorem pow_ok {i : Int} {k : Nat} (h : i.natAbs < 2 ^ 64) (hk : (k : Int) ≤ 1000000) : CPow i (k : Int) := ⟨by omega, hk, h⟩
theorem ok_l_take (B : Blt mg) {f : Addr} {fd : FuncData} (F : Fun K "_law_take" "_law_take" s_l_take f fd) : FnOk P w K mg base CX0 1 f fd ["_law_box_here", "_law_many"] sp_l_take := by
  refine F.ok sc_l_take (fun vs H Q E h => ?_) (fun cdv A outer s H vs Q E hr h => ?_)
  · obtain ⟨b, ls, t, many, rfl, _⟩ := h; rfl
  · refine ⟨_, (pss_cons (ps_if (pt_cmpR op_gt (pe_ix ix_list (pv 0) pe_int (fun _ _ => rfl)) pe_int (nomark _))
 (pss_cons (ps_set (i := 2) sc_l_take.nd rfl (.inl rfl) (pe_op op_mod (pe_ix ix_list (pv 0) pe_int (fun _ _ => rfl)) (pv 1)))
 (pss_cons (ps_asg (pe_op op_fdivW (pe_ix ix_list (pv 0) pe_int (fun _ _ => rfl)) (pv 1)) (pg_sub (pv 0) pe_int set_list))
 (pss_one (ps_ret (pv 2)))))
 pss_nil)
 (pss_cons (ps_asg (pe_op op_add (pe_ix ix_list (pv 0) pe_int (fun _ _ => rfl)) pe_int) (pg_sub (pv 0) pe_int set_list))
 (pss_cons (ps_set (i := 3) sc_l_take.nd rfl (.inl rfl) (pe_ix ix_list (pv 0) pe_int (fun _ _ => rfl)))
 (pss_cons (ps_set (i := 4) sc_l_take.nd rfl (.inl rfl) (pe_op op_mod (pe_op op_pow (pe_op op_add (pe_op op_add (pe_op op_mulW (pe_ix ix_list (pv 0) pe_int (fun _ _ => rfl)) (pe_op op_add (pe_op op_mulW pe_int (pv 3)) pe_int)) (pe_op op_mulW (pe_op op_mulW pe_int (pv 3)) (pv 3))) pe_int) pe_int) pe_int))
 (pss_one (ps_ret (pe_op op_mod (pe_op op_fdivW (pe_op op_mod (pe_op op_pow (pe_op op_add (pe_op op_add (pv 4) (pe_op op_mulW (pe_ix ix_list (pv 0) pe_int (fun _ _ => rfl)) (pv 3))) pe_int) pe_int) pe_int) pe_int) (pv 1)))))))), ?_⟩
    obtain ⟨b, ls, t, many, rfl, hb, ⟨c0, c1, c2, n, rfl, u0, u1, w0, w1, hn⟩, ht, m0, m1, q⟩ := h
    refine ⟨_, rfl, b, _, 0, .int c0, rfl, rfl, .of hb, rfl, _, _, rfl, rfl, _, rfl, ite2 (fun e1 => ?_) (fun e1 => ?_)⟩
    · refine ⟨_, rfl, b, _, 0, .int c0, rfl, rfl, .of hb, rfl, _, rfl, _, _, rfl, rfl, m0, ?_⟩
      refine ⟨_, rfl, b, _, 0, .int c0, rfl, rfl, .of hb, rfl, _, rfl, _, _, rfl, rfl, sm_divW m0 (sm_small (by omega)), ?_⟩
      refine ⟨_, rfl, b, _, 0, 0, rfl, rfl, hb, rfl, ?_⟩
      refine ⟨_, rfl, ?_⟩
      refine q _ _ (Int.emod_nonneg _ (by omega)) (Int.emod_lt_of_pos _ m0) ⟨_, _, _, n, rfl, u0, u1, w0, w1, by omega⟩
    · refine ⟨_, rfl, b, _, 3, .int n, rfl, rfl, .of hb, rfl, _, _, rfl, rfl, _, rfl, b, _, 3, 3, rfl, rfl, hb, rfl, ?_⟩
      have hb2 : upd H b (.lst [.int c0, .int c1, .int c2, .int ((n : Int) + 1)]) b = some (.lst [.int c0, .int c1, .int c2, .int ((n : Int) + 1)]) := upd_same
      have bk : BoxL (t + 1) [.int c0, .int c1, .int c2, .int ((n : Int) + 1)] := ⟨c0, c1, c2, n + 1, by simp, u0, u1, w0, w1, by omega⟩
      have q2 := fun d h1 h2 => q d _ h1 h2 bk
      refine ⟨_, rfl, b, _, 3, .int ((n : Int) + 1), rfl, rfl, .of hb2, rfl, ?_⟩
      have m2 : 0 ≤ c1 * (2 * ((n : Int) + 1) + 3) ∧ c1 * (2 * ((n : Int) + 1) + 3) ≤ 2 ^ 31 * 1005 := by
        refine ⟨Int.mul_nonneg u0 (by omega), ?_⟩
        exact Int.mul_le_mul (by omega) (by omega) (by omega) (by decide)
      have m3 : 0 ≤ 6427 * ((n : Int) + 1) * ((n : Int) + 1) ∧ 6427 * ((n : Int) + 1) * ((n : Int) + 1) ≤ 6427 * 501 * 501 := by
        refine ⟨Int.mul_nonneg (by omega) (by omega), ?_⟩
        exact Int.mul_le_mul (by omega) (by omega) (by omega) (by omega)
      have m4 : 0 ≤ c2 * ((n : Int) + 1) ∧ c2 * ((n : Int) + 1) ≤ 2 ^ 31 * 501 := by
        refine ⟨Int.mul_nonneg w0 (by omega), ?_⟩
        exact Int.mul_le_mul (by omega) (by omega) (by omega) (by decide)
      have g := fun (i : Int) (h0 : 0 ≤ i) (h1 : i ≤ 2 ^ 60) => (show Sm i from sm_of (by omega))
      refine ⟨_, rfl, b, _, 1, .int c1, rfl, rfl, .of hb2, rfl, _, rfl, _, _, rfl, rfl, sm_mulW (g _ (by omega) (by omega)) (g _ (by omega) (by omega)), ?_⟩
      refine ⟨_, _, rfl, rfl, _, _, rfl, rfl, sm_mulW (g _ u0 (by omega)) (g _ (by omega) (by omega)), ?_⟩
      refine ⟨_, rfl, _, _, rfl, rfl, sm_mulW (g _ (by omega) (by omega)) (g _ (by omega) (by omega)), ?_⟩
      refine ⟨_, rfl, _, _, rfl, rfl, sm_mulW (g _ (by omega) (by omega)) (g _ (by omega) (by omega)), ?_⟩
      refine ⟨_, _, rfl, rfl, _, _, rfl, rfl, ?_⟩
      refine ⟨_, _, rfl, rfl, pow_ok (k := 5) (by omega) (by omega), ?_⟩
      have o1 : 0 ≤ (c1 * (2 * ((n : Int) + 1) + 3) + 6427 * ((n : Int) + 1) * ((n : Int) + 1) + 79) ^ (5 : Int).toNat % 2147483647 := Int.emod_nonneg _ (by decide)
      have o2 : (c1 * (2 * ((n : Int) + 1) + 3) + 6427 * ((n : Int) + 1) * ((n : Int) + 1) + 79) ^ (5 : Int).toNat % 2147483647 < 2147483647 := Int.emod_lt_of_pos _ (by decide)
      refine ⟨_, _, rfl, rfl, by show (0 : Int) < 2147483647; decide, ?_⟩
      generalize (c1 * (2 * ((n : Int) + 1) + 3) + 6427 * ((n : Int) + 1) * ((n : Int) + 1) + 79) ^ (5 : Int).toNat % 2147483647 = o at o1 o2
      refine ⟨_, rfl, _, rfl, b, _, 2, .int c2, rfl, rfl, .of hb2, rfl, _, rfl, _, _, rfl, rfl, sm_mulW (g _ w0 (by omega)) (g _ (by omega) (by omega)), ?_⟩
      refine ⟨_, _, rfl, rfl, _, _, rfl, rfl, ?_⟩
      refine ⟨_, _, rfl, rfl, pow_ok (k := 3) (by omega) (by omega), ?_⟩
      refine ⟨_, _, rfl, rfl, by show (0 : Int) < 2147483579; decide, ?_⟩
      refine ⟨_, _, rfl, rfl, sm_divW (by decide) (sm_small (by omega)), ?_⟩
      refine ⟨_, rfl, _, _, rfl, rfl, m0, ?_⟩
      exact q2 _ (Int.emod_nonneg _ (by omega)) (Int.emod_lt_of_pos _ m0)
end
end K79

/-! #### part K79W16 -/
namespace K79
open PySem PySem.Spec PyProof.Rows L2 L2.DX
theorem num_gcd {B x : Int} (hB : 0 < B) : Int.gcd (numT B x) (numB B x) = 1 := by
  have g := numG_pos (x := x) hB
  have e1 := numT_mul (B := B) (x := x)
  have e2 := numB_mul (B := B) (x := x)
  have e : Int.gcd (numT B x * numG B x) (numB B x * numG B x) = Int.gcd x B := by rw [e1, e2]
  rw [Int.gcd_mul_right] at e
  have e3 : ((Int.gcd x B : Nat) : Int) = numG B x := rfl
  have e4 : (numG B x).natAbs = Int.gcd x B := by omega
  rw [e4] at e
  exact Nat.eq_of_mul_eq_mul_right (by omega) (e.trans (Nat.one_mul _).symm)
theorem numB_one {B x : Int} (hB : 0 < B) : numB B x = 1 ↔ B = numG B x := by
  have e := numB_mul (B := B) (x := x)
  have g := numG_pos (x := x) hB
  constructor
  · intro h
    rw [h] at e
    omega
  · intro h
    have e2 : numB B x * numG B x = 1 * numG B x := by rw [e, Int.one_mul]; exact h
    exact Int.eq_of_mul_eq_mul_right (by omega) e2
section
variable {P : Program} {w : World} {K : PySem.W.Frag} {mg : Str → Option Value} {base : Heap}
abbrev s_l_number : Stmt := topS 47
abbrev n_l_number : List Str := ["_law_top", "_law_base", "_law_one", "_law_other"]
theorem sc_l_number : FnScope n_l_number ["_law_top", "_law_base"] (defScope s_l_number) := ⟨rfl, rfl, rfl, by decide +kernel, rfl, by decide +kernel, by decide +kernel⟩
def sp_l_number : Sp := fun vs H Q _ => ∃ x B : Int, vs = [.int x, .int B] ∧ 0 < B ∧ B ≤ 12 ∧ ∀ v' H', Same H H' → Num H' v' (numT B x, numB B x) → Q v' H'
theorem ok_l_number (Bl : Blt mg) {f : Addr} {fd : FuncData} (F : Fun K "_law_number" "_law_number" s_l_number f fd) : FnOk P w K mg base CX0 1 f fd ["_law_top", "_law_base"] sp_l_number := by
  refine F.ok sc_l_number (fun vs H Q E h => ?_) (fun cdv A outer s H vs Q E hr h => ?_)
  · obtain ⟨i, j, rfl, _⟩ := h; rfl
  · refine ⟨_, (pss_cons (ps_par (i := 2) (j := 3) rfl sc_l_number.nd rfl rfl (by decide) rfl rfl (pa_cons (pe_callB call_abs (by rfl) Bl.abs_ (by decide +kernel) (pa_cons (pv 0) pa_nil)) (pa_cons (pv 1) pa_nil)) (by rfl))
 (pss_cons (ps_while PassesOwn.never (pt_cmpR op_gt (pv 3) pe_int (nomark _))
 (pss_one (ps_par (i := 2) (j := 3) rfl sc_l_number.nd rfl rfl (by decide) rfl rfl (pa_cons (pv 3) (pa_cons (pe_op op_modN (pv 2) (pv 3)) pa_nil)) (by rfl))))
 (pss_one (ps_ret (pe_ifExp (pt_cmpR op_eq (pv 1) (pv 2) (nomark _)) (pe_op op_fdivW (pv 0) (pv 2)) (pe_tup (pa_cons (pe_op op_fdivW (pv 0) (pv 2)) (pa_cons (pe_op op_fdivW (pv 1) (pv 2)) pa_nil)))))))), ?_⟩
    obtain ⟨x, B, rfl, hB, hB2, q⟩ := h
    refine ⟨_, rfl, x, rfl, _, rfl, _, _, rfl, ?_⟩
    rw [abs_nat]
    refine ⟨fun m σ H' => ∃ a b : Nat, σ = [some (.int x), some (.int B), some (.int a), some (.int b)] ∧ m = b ∧ Nat.gcd a b = Int.gcd x B ∧ H' = H, ⟨_, x.natAbs, B.natAbs, by rw [show ((B.natAbs : Nat) : Int) = B by omega]; rfl, rfl, rfl, rfl⟩, ?_⟩
    rintro m σ H' ⟨a, b, rfl, hm, g, rfl⟩
    subst hm
    refine ⟨_, rfl, _, _, rfl, rfl, _, rfl, ite2 (fun e => ?_) (fun e => ?_)⟩
    · have hb := of_decide_eq_true e
      refine ⟨fun σ' H'' => ∃ a' b' : Nat, σ' = [some (.int x), some (.int B), some (.int a'), some (.int b')] ∧ b' < m ∧ Nat.gcd a' b' = Int.gcd x B ∧ H'' = H', ?_, ?_⟩
      · rintro σ' H'' ⟨a', b', e, lt, g', e'⟩
        exact ⟨b', lt, a', b', e, rfl, g', e'⟩
      · refine ⟨_, rfl, _, rfl, _, rfl, _, _, rfl, rfl, by omega, ?_⟩
        refine ⟨_, _, rfl, m, a % m, ?_, Nat.mod_lt _ (by omega), ?_, rfl⟩
        · have e : (a : Int).fmod (m : Int) = ((a % m : Nat) : Int) := by
            rw [Int.fmod_eq_emod_of_nonneg _ (by omega)]
            rfl
          show [some (V.int x), some (V.int B), some (V.int m), some (V.int ((a : Int).fmod m))] = _
          rw [e]
        · rw [← g, Nat.gcd_comm m, ← Nat.gcd_rec, Nat.gcd_comm]
    · have hb : m = 0 := by
        exact Classical.byContradiction fun z => e (decide_eq_true (by omega))
      subst hb
      rw [Nat.gcd_zero_right] at g
      subst g
      have gp := numG_pos (x := x) hB
      have gl : numG B x ≤ B := Int.le_of_dvd hB (Int.gcd_dvd_right x B)
      have gs : Sm (numG B x) := sm_small (by omega)
      refine ⟨_, rfl, _, rfl, rfl, _, rfl, ite2 (fun e => ?_) (fun e => ?_)⟩
      · have e : B = numG B x := eqI'.mp e
        refine ⟨_, rfl, _, rfl, _, _, rfl, rfl, sm_divW gp gs, q _ _ (Same.refl _) (.inl ⟨(numB_one hB).mpr e, rfl⟩)⟩
      · have e : ¬ B = numG B x := fun z => e (eqI'.mpr z)
        refine ⟨_, rfl, _, rfl, _, _, rfl, rfl, sm_divW gp gs, _, rfl, _, rfl, _, _, rfl, rfl, sm_divW gp gs, by show 2 ≤ sizeLine; decide, fun T hT => ?_⟩
        have n0 := numB_pos (x := x) hB
        have n1 : numB B x ≠ 1 := fun z => e ((numB_one hB).mp z)
        exact q _ _ (same_upd hT) (.inr ⟨by show 1 < numB B x; omega, num_gcd hB, T, rfl, upd_same⟩)
end
end K79

/-! #### part K79W17 -/
namespace K79
open PySem PySem.Spec PyProof.Rows L2 L2.DX
/-! ### the box among other things -/
structure OKB (b : Addr) (t : Nat) (H H' : Hp) : Prop where
  same : Same (rem H b) (rem H' b)
  box : ∃ ls, H' b = some (.lst ls) ∧ BoxL t ls
theorem BoxL.mono {t t' : Nat} {ls : List V} (h : BoxL t ls) (l : t ≤ t') : BoxL t' ls := by
  obtain ⟨c0, c1, c2, n, e, a, b, c, d, g⟩ := h
  exact ⟨c0, c1, c2, n, e, a, b, c, d, by omega⟩
section
variable {b : Addr} {t : Nat} {H H' : Hp}
theorem OKB.start {ls : List V} (h : H b = some (.lst ls)) (hb : BoxL t ls) : OKB b t H H := ⟨.refl _, ls, h, hb⟩
theorem OKB.mono {t' : Nat} (h : OKB b t H H') (l : t ≤ t') : OKB b t' H H' := let ⟨ls, a, c⟩ := h.box; ⟨h.same, ls, a, c.mono l⟩
theorem OKB.take {t' : Nat} {ls : List V} (h : OKB b t H H') (hl : BoxL t' ls) : OKB b t' H (upd H' b (.lst ls)) := ⟨by rw [rem_upd]; exact h.same, ls, upd_same, hl⟩
theorem OKB.ne {a : Addr} {o : HO} (h : OKB b t H H') (ha : H' a = none) : a ≠ b := by
  obtain ⟨ls, e, _⟩ := h.box
  exact (ne_of_none e ha).symm
theorem OKB.new {p : Addr} {o : HO} (h : OKB b t H H') (hp : H' p = none) : OKB b t H (upd H' p o) := by
  obtain ⟨ls, e, k⟩ := h.box
  exact ⟨h.same.trans (rem_mono (same_upd hp)), ls, (same_upd hp) _ _ e, k⟩
theorem OKB.keep {H2 : Hp} (h : OKB b t H H') (s : Same H' H2) : OKB b t H H2 := by
  obtain ⟨ls, e, k⟩ := h.box
  exact ⟨h.same.trans (rem_mono s), ls, s _ _ e, k⟩
theorem OKB.trans {t' : Nat} {H2 : Hp} (h : OKB b t H H') (h2 : OKB b t' H' H2) : OKB b t' H H2 := ⟨h.same.trans h2.same, h2.box⟩
/-- a list that H does not know changes -/
theorem OKB.mut {p : Addr} {o : HO} (h : OKB b t H H') (hp : H p = none) (hpb : p ≠ b) : OKB b t H (upd H' p o) := by
  obtain ⟨ls, e, k⟩ := h.box
  refine ⟨fun a u ha => ?_, ls, by rw [upd_ne hpb.symm]; exact e, k⟩
  have hab : a ≠ b := fun z => by rw [z, rem_self] at ha; cases ha
  rw [rem_ne hab] at ha
  have hap : a ≠ p := ne_of_none ha hp
  rw [rem_ne hab, upd_ne hap]
  have := h.same a u (by rw [rem_ne hab]; exact ha)
  rw [rem_ne hab] at this
  exact this
theorem OKB.at {a : Addr} {o : HO} (h : OKB b t H H') (ha : H a = some o) (hab : a ≠ b) : H' a = some o := by
  have := h.same a o (by rw [rem_ne hab]; exact ha)
  rw [rem_ne hab] at this
  exact this
end
theorem OKB.free {b : Addr} {t : Nat} {H H' : Hp} {a : Addr} (h : OKB b t H H') (ha : H' a = none) : H a = none := by
  by_cases z : a = b
  · obtain ⟨ls, e, _⟩ := h.box
    exact absurd z (ne_of_none e ha).symm
  · cases e : H a with
    | none => rfl
    | some o =>
      have := h.at e z
      rw [ha] at this
      cases this
theorem Paired.takeN {α β : Type} {R : α → β → Prop} : ∀ (n : Nat) {xs : List α} {ys : List β}, Paired R xs ys → Paired R (xs.take n) (ys.take n)
  | 0, _, _, _ => by rw [List.take_zero, List.take_zero]; exact .nil
  | _ + 1, _, _, .nil => .nil
  | n + 1, _, _, .cons r t => .cons r (Paired.takeN n t)
theorem Paired.dropN {α β : Type} {R : α → β → Prop} : ∀ (n : Nat) {xs : List α} {ys : List β}, Paired R xs ys → Paired R (xs.drop n) (ys.drop n)
  | 0, _, _, h => h
  | _ + 1, _, _, .nil => .nil
  | n + 1, _, _, .cons r t => Paired.dropN n t
theorem Paired.rev {α β : Type} {R : α → β → Prop} : ∀ {xs : List α} {ys : List β}, Paired R xs ys → Paired R xs.reverse ys.reverse
  | _, _, .nil => .nil
  | _, _, .cons r t => by
    rw [List.reverse_cons, List.reverse_cons]
    exact Paired.snoc (Paired.rev t) r
/-! ### displays of pairs -/
def MkP (ta : TA) (ps : List Pt) : Prop := ∀ (σ : K79.St) (H : Hp) (Q : List V → Hp → Prop), (∀ vs H', Same H H' → Paired (T2 H') vs ps → Q vs H') → ta σ H Q
def GivesI (te : TE) (i : Int) : Prop := ∀ (σ : K79.St) (H : Hp) (Q : VK), Q (.int i) H → te σ H Q
theorem gives_c {i : Int} : GivesI (tC (.int i)) i := fun _ _ _ h => h
theorem MkP.nil : MkP tNil [] := fun _ H _ h => h [] H (.refl _) .nil
theorem MkP.cons {tb tc : TE} {i j : Int} {ta : TA} {ps : List Pt} (hb : GivesI tb i) (hc : GivesI tc j) (h : MkP ta ps) : MkP (tCons (tTup (tCons tb (tCons tc tNil))) ta) ((i, j) :: ps) := fun σ H Q q => by
  refine hb _ _ _ (hc _ _ _ ⟨by show 2 ≤ sizeLine; decide, fun T hT => h _ _ _ fun vs H' s p => ?_⟩)
  exact q _ _ ((same_upd hT).trans s) (.cons ⟨T, rfl, s _ _ upd_same⟩ p)
theorem lst_pairs {ta : TA} {ps : List Pt} (h : MkP ta ps) {σ : K79.St} {H : Hp} {Q : VK} (hn : ps.length ≤ 100) (q : ∀ l vs H', Same H H' → Paired (T2 H') vs ps → H' l = none → Q (.ref l) (upd H' l (.lst vs))) : tLst ta σ H Q :=
  h σ H _ fun vs H' s p => ⟨by
    have := Paired.length p
    have e : sizeLine = 2 ^ 24 := rfl
    omega, fun l hl => q l vs H' s p hl⟩
end K79

/-! #### part K79W18 -/
namespace K79
open PySem PySem.Spec PyProof.Rows L2 L2.DX
theorem gives_n {i : Int} : GivesI (tUn (rU fun i => .int (-i)) (tC (.int i))) (-i) := fun _ _ _ h => ⟨i, rfl, h⟩
theorem atI_in {xs : List V} {d : Int} (h0 : 0 ≤ d) (h1 : d < xs.length) : ∃ v, v ∈ xs ∧ atI xs d = some v := by
  obtain ⟨n, rfl⟩ : ∃ n : Nat, d = (n : Int) := ⟨d.toNat, by omega⟩
  have hn : n < xs.length := by omega
  exact ⟨xs[n], List.getElem_mem hn, atI_nat (List.getElem?_eq_getElem hn)⟩
section
variable {P : Program} {w : World} {K : PySem.W.Frag} {mg : Str → Option Value} {base : Heap}
abbrev s_l_round : Stmt := topS 48
abbrev n_l_round : List Str := ["_law_box_here", "_law_ways", "_law_far", "_law_x", "_law_y", "_law_some", "_law_k", "_law_way", "_law_a", "_law_b"]
theorem sc_l_round : FnScope n_l_round ["_law_box_here"] (defScope s_l_round) := ⟨rfl, rfl, rfl, by decide +kernel, rfl, by decide +kernel, by decide +kernel⟩
def sp_l_pairs : Sp := fun vs H Q _ => ∃ (b : Addr) (ls : List V) (t : Nat), vs = [.ref b] ∧ H b = some (.lst ls) ∧ BoxL t ls ∧ t ≤ 400 ∧ ∀ v' H' L, OKB b (t + 30) H H' → Lst T2 (rem H' b) v' L → Pairs L → Q v' H'
theorem ok_l_round (B : Blt mg) {f : Addr} {fd : FuncData} (F : Fun K "_law_round" "_law_round" s_l_round f fd)
    (c__law_take : Cal P w K mg base 1 "_law_take" ["_law_box_here", "_law_many"] sp_l_take) : FnOk P w K mg base CX0 2 f fd ["_law_box_here"] sp_l_pairs := by
  refine F.ok sc_l_round (fun vs H Q E h => ?_) (fun cdv A outer s H vs Q E hr h => ?_)
  · obtain ⟨b, _, _, rfl, _⟩ := h; rfl
  · refine ⟨_, (pss_cons (ps_set (i := 1) sc_l_round.nd rfl (.inl rfl) (pe_lst (pa_cons (pe_tup (pa_cons pe_int (pa_cons pe_int pa_nil))) (pa_cons (pe_tup (pa_cons pe_int (pa_cons pe_int pa_nil))) (pa_cons (pe_tup (pa_cons pe_int (pa_cons pe_int pa_nil))) (pa_cons (pe_tup (pa_cons pe_int (pa_cons pe_int pa_nil))) (pa_cons (pe_tup (pa_cons pe_int (pa_cons pe_int pa_nil))) (pa_cons (pe_tup (pa_cons (pe_un un_neg pe_int) (pa_cons pe_int pa_nil))) (pa_cons (pe_tup (pa_cons (pe_un un_neg pe_int) (pa_cons pe_int pa_nil))) (pa_cons (pe_tup (pa_cons (pe_un un_neg pe_int) (pa_cons pe_int pa_nil))) (pa_cons (pe_tup (pa_cons (pe_un un_neg pe_int) (pa_cons pe_int pa_nil))) (pa_cons (pe_tup (pa_cons (pe_un un_neg pe_int) (pa_cons (pe_un un_neg pe_int) pa_nil))) (pa_cons (pe_tup (pa_cons (pe_un un_neg pe_int) (pa_cons (pe_un un_neg pe_int) pa_nil))) (pa_cons (pe_tup (pa_cons (pe_un un_neg pe_int) (pa_cons (pe_un un_neg pe_int) pa_nil))) pa_nil))))))))))))))
 (pss_cons (ps_set (i := 1) sc_l_round.nd rfl (.inl rfl) (pe_op op_cat (pv 1) (pe_lst (pa_cons (pe_tup (pa_cons pe_int (pa_cons (pe_un un_neg pe_int) pa_nil))) (pa_cons (pe_tup (pa_cons pe_int (pa_cons (pe_un un_neg pe_int) pa_nil))) (pa_cons (pe_tup (pa_cons pe_int (pa_cons (pe_un un_neg pe_int) pa_nil))) (pa_cons (pe_tup (pa_cons pe_int (pa_cons (pe_un un_neg pe_int) pa_nil))) pa_nil)))))))
 (pss_cons (ps_set (i := 2) sc_l_round.nd rfl (.inr rfl) (pe_ix ix_list (pe_lst (pa_cons pe_int (pa_cons pe_int (pa_cons (pe_op op_add pe_int (pe_cal c__law_take (hr.mono (by decide)) (by rfl) (pa_cons (pv 0) (pa_cons pe_int pa_nil)))) pa_nil)))) (pe_cal c__law_take (hr.mono (by decide)) (by rfl) (pa_cons (pv 0) (pa_cons pe_int pa_nil))) (fun _ _ => rfl)))
 (pss_cons (ps_asg (pe_tup (pa_cons (pe_ix ix_list (pe_lst (pa_cons (pe_op op_mulW pe_int (pe_cal c__law_take (hr.mono (by decide)) (by rfl) (pa_cons (pv 0) (pa_cons pe_int pa_nil)))) (pa_cons (pe_cal c__law_take (hr.mono (by decide)) (by rfl) (pa_cons (pv 0) (pa_cons pe_int pa_nil))) pa_nil))) (pe_cal c__law_take (hr.mono (by decide)) (by rfl) (pa_cons (pv 0) (pa_cons pe_int pa_nil))) (fun _ _ => rfl)) (pa_cons (pe_op op_mulW pe_int (pe_cal c__law_take (hr.mono (by decide)) (by rfl) (pa_cons (pv 0) (pa_cons pe_int pa_nil)))) pa_nil))) (pg_tup (by rfl) (pgs_cons (pg_name (i := 3) sc_l_round.nd rfl (.inr rfl)) (pgs_cons (pg_name (i := 4) sc_l_round.nd rfl (.inr rfl)) pgs_nil))))
 (pss_cons (ps_set (i := 5) sc_l_round.nd rfl (.inl rfl) (pe_slice sl_list (pe_lc (own := [("_law_k", 6), ("_law_way", 7)]) (g := (gTup K 2 (gCons (gName 6) (gCons (gName 7) gNil)))) rfl sc_l_round.nd (pi_enum (by rfl) B.enumerate_ (pa_cons (pv 1) pa_nil)) (blkOk_by (N := n_l_round) (sc := defScope s_l_round) (own := [("_law_k", 6), ("_law_way", 7)]) (by decide +kernel)) (fun _ _ _ _ _ => (pg_tup (by rfl) (pgs_cons (pg_name (i := 6) sc_l_round.nd rfl (.inl rfl)) (pgs_cons (pg_name (i := 7) sc_l_round.nd rfl (.inl rfl)) pgs_nil)))) (fun _ _ _ _ _ => (pts_one (PW.pt (pw_or (pt_cmpR op_eq (pe_op op_mod (pv 6) pe_int) pe_int (nomark _)) (pw_or1 (pt_cmpR op_gt (pe_cal c__law_take (hr.mono (by decide)) (by rfl) (pa_cons (pv 0) (pa_cons pe_int pa_nil))) pe_int (nomark _))))))) (fun _ _ _ _ _ => (pv 7))) po_none (po_some pe_int)))
 (pss_one (ps_ret (pe_lc (own := [("_law_a", 8), ("_law_b", 9)]) (g := (gTup K 2 (gCons (gName 8) (gCons (gName 9) gNil)))) rfl sc_l_round.nd (pi_list (pv 5)) (blkOk_by (N := n_l_round) (sc := defScope s_l_round) (own := [("_law_a", 8), ("_law_b", 9)]) (by decide +kernel)) (fun _ _ _ _ _ => (pg_tup (by rfl) (pgs_cons (pg_name (i := 8) sc_l_round.nd rfl (.inl rfl)) (pgs_cons (pg_name (i := 9) sc_l_round.nd rfl (.inl rfl)) pgs_nil)))) (fun _ _ _ _ _ => pts_nil) (fun _ _ _ _ _ => (pe_tup (pa_cons (pe_op op_add (pv 3) (pe_op op_mulW (pv 8) (pv 2))) (pa_cons (pe_op op_add (pv 4) (pe_op op_mulW (pv 9) (pv 2))) pa_nil)))))))))))), ?_⟩
    obtain ⟨b, ls, t, rfl, hb, bl, ht, q⟩ := h
    unfold tSeq tAsg
    refine lst_pairs (.cons gives_c gives_c (.cons gives_c gives_c (.cons gives_c gives_c (.cons gives_c gives_c (.cons gives_c gives_c (.cons gives_n gives_c (.cons gives_n gives_c (.cons gives_n gives_c (.cons gives_n gives_c (.cons gives_n gives_n (.cons gives_n gives_n (.cons gives_n gives_n .nil)))))))))))) (by decide) fun w1 vs1 H1 s1 p1 hw1 => ?_
    refine ⟨_, rfl, ?_⟩
    refine lst_pairs (.cons gives_c gives_n (.cons gives_c gives_n (.cons gives_c gives_n (.cons gives_c gives_n .nil)))) (by decide) fun w2 vs2 H2 s2 p2 hw2 => ?_
    have l1 : vs1.length = 12 := Paired.length p1
    have l2 : vs2.length = 4 := Paired.length p2
    have e1 := (s2.trans (same_upd hw2 (o := .lst vs2))) _ _ (upd_same (H := H1) (a := w1) (o := .lst vs1))
    refine ⟨w1, w2, vs1, vs2, rfl, rfl, e1, upd_same, by rw [l1, l2]; decide, fun W hW => ?_⟩
    have s02 : Same H (upd (upd H2 w2 (.lst vs2)) W (.lst (vs1 ++ vs2))) := s1.trans ((same_upd hw1).trans (s2.trans ((same_upd hw2).trans (same_upd hW))))
    have pW : Paired (T2 (upd (upd H2 w2 (.lst vs2)) W (.lst (vs1 ++ vs2)))) (vs1 ++ vs2) W16 :=
      K79.Paired.app (mono_all mono_t2 ((same_upd hw1).trans (s2.trans ((same_upd hw2).trans (same_upd hW)))) p1) (mono_all mono_t2 ((same_upd hw2).trans (same_upd hW)) p2)
    have hbW : upd (upd H2 w2 (.lst vs2)) W (.lst (vs1 ++ vs2)) W = some (.lst (vs1 ++ vs2)) := upd_same
    have hWb : W ≠ b := (ne_of_none ((s1.trans ((same_upd hw1).trans (s2.trans (same_upd hw2)))) _ _ hb) hW).symm
    have lW : (vs1 ++ vs2).length = 16 := by rw [List.length_append, l1, l2]
    generalize upd (upd H2 w2 (.lst vs2)) W (.lst (vs1 ++ vs2)) = H3 at s02 pW hbW
    generalize vs1 ++ vs2 = wl at pW hbW lW
    have k0 := OKB.start (s02 _ _ hb) bl
    have kH : OKB b t H H3 := (OKB.start hb bl).keep s02
    have pR := rem_all tups_t2 (s02 _ _ hb) pW
    -- how far
    refine ⟨_, rfl, b, ls, t, 90, rfl, s02 _ _ hb, bl, by omega, by decide, by decide, fun d1 ls1 d10 d11 bl1 => ?_⟩
    have k1 := k0.take bl1
    refine ⟨_, _, rfl, rfl, by show 3 ≤ sizeLine; decide, fun l3 hl3 => ?_⟩
    have k2 := k1.new hl3 (o := .lst [.int 8, .int 16, .int (16 + d1)])
    obtain ⟨ls2, hb2, bl2⟩ := k2.box
    have n3 : l3 ≠ b := k1.ne hl3 (o := .lst [])
    refine ⟨_, rfl, b, ls2, t + 1, 3, rfl, hb2, bl2, by omega, by decide, by decide, fun d2 ls3 d20 d21 bl3 => ?_⟩
    have k3 := k2.take bl3
    obtain ⟨v, hv, av⟩ := atI_in (xs := [.int 8, .int 16, .int (16 + d1)]) d20 d21
    obtain ⟨far, rfl, f0, f1⟩ : ∃ far, v = .int far ∧ 0 < far ∧ far ≤ 110 := by
      simp only [List.mem_cons, List.not_mem_nil, or_false] at hv
      rcases hv with rfl | rfl | rfl
      · exact ⟨_, rfl, by decide, by decide⟩
      · exact ⟨_, rfl, by decide, by decide⟩
      · exact ⟨_, rfl, by omega, by omega⟩
    refine ⟨l3, _, _, .int far, rfl, rfl, .of (by rw [upd_ne n3]; exact upd_same), av, ?_⟩
    generalize upd (upd (upd H3 b (.lst ls1)) l3 (.lst [.int 8, .int 16, .int (16 + d1)])) b (.lst ls3) = H4 at k3
    -- where
    obtain ⟨ls4, hb4, bl4⟩ := k3.box
    refine ⟨_, rfl, b, ls4, t + 2, 9, rfl, hb4, bl4, by omega, by decide, by decide, fun d5 ls5 d50 d51 bl5 => ?_⟩
    have k5 := k3.take bl5
    refine ⟨_, _, rfl, rfl, sm_mulW (sm_small (by omega)) (sm_small (by omega)), ?_⟩
    refine ⟨_, rfl, b, ls5, t + 3, 300, rfl, upd_same, bl5, by omega, by decide, by decide, fun d6 ls6 d60 d61 bl6 => ?_⟩
    have k6 := k5.take bl6
    refine ⟨by show 2 ≤ sizeLine; decide, fun l7 hl7 => ?_⟩
    have k7 := k6.new hl7 (o := .lst [.int (32 * d5), .int d6])
    have n7 : l7 ≠ b := k6.ne hl7 (o := .lst [])
    obtain ⟨ls7, hb7, bl7⟩ := k7.box
    refine ⟨_, rfl, b, ls7, t + 4, 2, rfl, hb7, bl7, by omega, by decide, by decide, fun d8 ls8 d80 d81 bl8 => ?_⟩
    have k8 := k7.take bl8
    obtain ⟨v, hv, av⟩ := atI_in (xs := [.int (32 * d5), .int d6]) d80 d81
    obtain ⟨x, rfl, x0, x1⟩ : ∃ x, v = .int x ∧ 0 ≤ x ∧ x ≤ 300 := by
      simp only [List.mem_cons, List.not_mem_nil, or_false] at hv
      rcases hv with rfl | rfl
      · exact ⟨_, rfl, by omega, by omega⟩
      · exact ⟨_, rfl, by omega, by omega⟩
    refine ⟨l7, _, _, .int x, rfl, rfl, .of (by rw [upd_ne n7]; exact upd_same), av, ?_⟩
    refine ⟨_, rfl, b, ls8, t + 5, 9, rfl, upd_same, bl8, by omega, by decide, by decide, fun d9 ls9 d90 d91 bl9 => ?_⟩
    have k9 := k8.take bl9
    refine ⟨_, _, rfl, rfl, sm_mulW (sm_small (by omega)) (sm_small (by omega)), by show 2 ≤ sizeLine; decide, fun T10 h10 => ?_⟩
    have k10 := k9.new h10 (o := .tup [.int x, .int (32 * d9)])
    refine ⟨T10, _, rfl, .of upd_same, rfl, _, _, rfl, _, _, rfl, rfl, ?_⟩
    have y0 : 0 ≤ 32 * d9 := by omega
    have y1 : 32 * d9 ≤ 300 := by omega
    -- which
    refine ⟨_, rfl, W, wl, rfl, .of (k10.at hbW hWb), fun D hD => ?_⟩
    have nD : D ≠ b := k10.ne hD (o := .lst [])
    have hD3 : H3 D = none := k10.free hD
    refine lc_it (walk_enum (K := K) (a := W) (xs := wl)) (fun i H' => ∃ sel vsel, OKB b (t + 6 + i) H3 H' ∧ H' D = some (.lst vsel) ∧ Paired (T2 (rem H3 b)) vsel sel ∧ sel.Sublist (W16.take i) ∧ i ≤ 4 * sel.length ∧ (1 ≤ i → sel.head? = some (4, 0))) ⟨[], [], (k10.mut hD3 nD).mono (by omega), upd_same, .nil, List.Sublist.slnil, Nat.zero_le _, by omega⟩ (fun i H' _ h => ?_) (fun i x' H' H2' hi h hy => ?_) (fun H' h => ?_)
    · obtain ⟨_, _, k, _⟩ := h
      exact .of (k.at hbW hWb)
    · obtain ⟨sel, vsel, k, hDs, pS, sub, len, hd⟩ := h
      obtain ⟨T, x1, x2, rfl, hT, rfl, e1, hx2⟩ := hy
      cases Option.some.inj e1
      have hx2 : wl[i]? = some x2 := hx2
      obtain ⟨pt, hpt, hx2T⟩ := Paired.get pR hx2
      have kT := k.new hT (o := .tup [.int (i : Int), x2])
      have hDT := (same_upd hT (o := .tup [.int (i : Int), x2])) _ _ hDs
      have hi16 : i < 16 := by omega
      have etake : W16.take (i + 1) = W16.take i ++ [pt] := by
        rw [List.take_add_one, hpt]
        rfl
      have slen : sel.length ≤ i := by
        have := sub.length_le
        rw [List.length_take] at this
        omega
      have vlen : vsel.length = sel.length := Paired.length pS
      have yes : ∀ H7, OKB b (t + 6 + i) H3 H7 ∨ OKB b (t + 6 + (i + 1)) H3 H7 → H7 D = some (.lst vsel) → ∃ acc, H7 D = some (.lst acc) ∧ acc.length < sizeLine ∧ ∃ sel vsel, OKB b (t + 6 + (i + 1)) H3 (upd H7 D (.lst (acc ++ [x2]))) ∧ (upd H7 D (.lst (acc ++ [x2]))) D = some (.lst vsel) ∧ Paired (T2 (rem H3 b)) vsel sel ∧ sel.Sublist (W16.take (i + 1)) ∧ i + 1 ≤ 4 * sel.length ∧ (1 ≤ i + 1 → sel.head? = some (4, 0)) := fun H7 k7 h7 => by
        have k7 : OKB b (t + 6 + (i + 1)) H3 H7 := k7.elim (fun z => z.mono (by omega)) id
        refine ⟨vsel, h7, small1000 (by omega), sel ++ [pt], vsel ++ [x2], k7.mut hD3 nD, upd_same, K79.Paired.snoc pS hx2T, ?_, ?_, fun _ => ?_⟩
        · rw [etake]
          exact sub.append (List.Sublist.refl _)
        · rw [List.length_append]
          show i + 1 ≤ 4 * (sel.length + 1)
          omega
        · by_cases z : i = 0
          · subst z
            have : sel = [] := List.length_eq_zero_iff.mp (by omega)
            subst this
            show some pt = some (4, 0)
            exact hpt.symm
          · rw [List.head?_append, hd (by omega)]
            rfl
      refine ⟨T, _, rfl, .of upd_same, rfl, _, _, rfl, _, _, rfl, rfl, ?_⟩
      refine ⟨rfl, ?_⟩
      refine ⟨_, rfl, _, _, rfl, rfl, by show (0 : Int) < 4; decide, rfl, _, rfl, ite2 (fun c1 => ?_) (fun c1 => ?_)⟩
      · exact iteT ⟨_, rfl, yes _ (.inl kT) hDT⟩
      · obtain ⟨ls11, hb11, bl11⟩ := kT.box
        refine ⟨_, rfl, b, ls11, t + 6 + i, 3, rfl, hb11, bl11, by omega, by decide, by decide, fun d12 ls12 d120 d121 bl12 => ?_⟩
        have k12 := kT.take bl12
        have hD12 : (upd (upd H' T (.tup [.int (i : Int), x2])) b (.lst ls12)) D = some (.lst vsel) := by
          rw [upd_ne nD]
          exact hDT
        refine ⟨_, _, rfl, rfl, _, rfl, ite2 (fun c2 => ?_) (fun c2 => ?_)⟩
        · exact ⟨_, rfl, yes _ (.inr (k12.mono (by omega))) hD12⟩
        · refine ⟨sel, vsel, k12.mono (by omega), hD12, pS, ?_, ?_, fun _ => ?_⟩
          · rw [etake]
            exact sub.trans (List.sublist_append_left _ _)
          · have c1 : ¬ (i : Int) % 4 = 0 := fun z => c1 (eqI'.mpr z)
            omega
          · refine hd ?_
            have c1 : ¬ (i : Int) % 4 = 0 := fun z => c1 (eqI'.mpr z)
            omega
    · obtain ⟨sel, vsel, k, hDs, pS, sub, len, hd⟩ := h
      rw [lW] at k len hd sub
      rw [List.take_of_length_le (by decide)] at sub
      have vlen : vsel.length = sel.length := Paired.length pS
      refine ⟨12, rfl, D, vsel, rfl, .of hDs, fun S hS => ?_⟩
      have kS := k.new hS (o := .lst (cutV vsel none (some 12)))
      have ecut : cutV vsel none (some 12) = vsel.take 12 := by
        unfold cutV
        have e1 : HT.sIx vsel.length vsel.length (some 12) = min 12 vsel.length := HT.sIx_nat _ _ 12
        have e2 : HT.sIx vsel.length 0 none = 0 := rfl
        rw [e1, e2, List.drop_zero, Nat.sub_zero]
        by_cases z : 12 ≤ vsel.length
        · rw [Nat.min_eq_left z]
        · rw [List.take_of_length_le (by omega), List.take_of_length_le (by omega)]
      have nS : S ≠ b := k.ne hS (o := .lst [])
      have hSel : Sel (sel.take 12) := by
        refine ⟨(List.take_sublist _ _).trans sub, ?_, ?_, ?_⟩
        · rw [List.head?_take, if_neg (by decide)]
          exact hd (by decide)
        · rw [List.length_take]
          omega
        · rw [List.length_take]
          omega
      have pS2 : Paired (T2 (rem H3 b)) (vsel.take 12) (sel.take 12) := by
        exact K79.Paired.takeN 12 pS
      rw [ecut] at kS ⊢
      refine ⟨_, rfl, S, rfl, ⟨_, .of upd_same⟩, fun D2 hD2 => ?_⟩
      obtain ⟨lsS, hbS, blS⟩ := kS.box
      have pS3 : Paired (T2 (upd H' S (.lst (vsel.take 12)))) (vsel.take 12) (sel.take 12) := mono_all mono_t2 (kS.same.trans rem_same) pS2
      have hSS : (upd H' S (.lst (vsel.take 12))) S = some (.lst (vsel.take 12)) := upd_same
      generalize upd H' S (.lst (vsel.take 12)) = HS at kS hD2 hbS pS3 hSS
      have lS : (vsel.take 12).length = (sel.take 12).length := Paired.length pS3
      have hy : 0 ≤ 32 * d9 ∧ 32 * d9 ≤ 300 := ⟨y0, y1⟩
      refine lc_list (K := K) (a := S) (xs := vsel.take 12) (fun j H'' => Same HS H'' ∧ Grow T2 H'' D2 (((sel.take 12).take j).map (putR x (32 * d9) far))) ⟨same_upd hD2, Grow.start⟩ (fun j H'' _ h => .of (h.1 _ _ hSS)) (fun j x' H'' hj h => ?_) (fun H'' h => ?_)
      · obtain ⟨s6, g6⟩ := h
        obtain ⟨pt, hpt, T, rfl, hT⟩ := Paired.get pS3 hj
        have hptm := hSel.sub.subset (List.mem_of_getElem? hpt)
        obtain ⟨a0, a1, b0, b1⟩ := w16_bound pt hptm
        obtain ⟨ds, hds, pds⟩ := id g6
        have lds := g6.len hds
        have hmost := hSel.most
        refine ⟨T, _, rfl, .of (s6 _ _ hT), rfl, _, _, rfl, _, _, rfl, rfl, ?_⟩
        refine ⟨rfl, _, rfl, _, rfl, _, rfl, _, _, rfl, rfl, sm_mulW (sm_small (by omega)) (sm_small (by omega)), _, _, rfl, rfl, ?_⟩
        refine ⟨_, rfl, _, rfl, _, rfl, _, _, rfl, rfl, sm_mulW (sm_small (by omega)) (sm_small (by omega)), _, _, rfl, rfl, by show 2 ≤ sizeLine; decide, fun T2' hT2 => ?_⟩
        have s7 := same_upd hT2 (o := .tup [.int (x + pt.1 * far), .int (32 * d9 + pt.2 * far)])
        have h7 := s7 _ _ hds
        refine ⟨ds, h7, ?_, same_mut (s6.trans s7) hD2, ?_⟩
        · rw [lds, List.length_map, List.length_take]
          exact small1000 (by omega)
        · have e : ((sel.take 12).take (j + 1)).map (putR x (32 * d9) far) = ((sel.take 12).take j).map (putR x (32 * d9) far) ++ [putR x (32 * d9) far pt] := by
            rw [List.take_add_one, hpt, List.map_append]
            rfl
          rw [e]
          exact (g6.keep mono_t2 s7).snoc h7 (rem_t2 h7 ⟨T2', rfl, upd_same⟩)
      · obtain ⟨s6, g6⟩ := h
        rw [lS, List.take_length] at g6
        have n6 := (g6.done mono_t2 hD2).rem tups_t2 hbS (s6 _ _ hbS)
        exact q _ _ _ ((kH.trans (kS.keep s6)).mono (by omega)) n6 (.round hSel f0 f1 ⟨x0, x1⟩ hy)
end
end K79

/-! #### part K79W19 -/
namespace K79
open PySem PySem.Spec PyProof.Rows L2 L2.DX
section
variable {P : Program} {w : World} {K : PySem.W.Frag} {mg : Str → Option Value} {base : Heap}
abbrev s_l_boxes : Stmt := topS 49
abbrev n_l_boxes : List Str := ["_law_box_here", "_law_x", "_law_y", "_law_wide", "_law_more", "_law_high", "_law_low", "_law_turn", "_law_a", "_law_b"]
theorem sc_l_boxes : FnScope n_l_boxes ["_law_box_here"] (defScope s_l_boxes) := ⟨rfl, rfl, rfl, by decide +kernel, rfl, by decide +kernel, by decide +kernel⟩
theorem ok_l_boxes (B : Blt mg) {f : Addr} {fd : FuncData} (F : Fun K "_law_boxes" "_law_boxes" s_l_boxes f fd)
    (c__law_take : Cal P w K mg base 1 "_law_take" ["_law_box_here", "_law_many"] sp_l_take) : FnOk P w K mg base CX0 2 f fd ["_law_box_here"] sp_l_pairs := by
  refine F.ok sc_l_boxes (fun vs H Q E h => ?_) (fun cdv A outer s H vs Q E hr h => ?_)
  · obtain ⟨b, _, _, rfl, _⟩ := h; rfl
  · refine ⟨_, (pss_cons (ps_par (i := 1) (j := 2) rfl sc_l_boxes.nd rfl rfl (by decide) rfl rfl (pa_cons (pe_op op_sub (pe_op op_mulW pe_int (pe_cal c__law_take (hr.mono (by decide)) (by rfl) (pa_cons (pv 0) (pa_cons pe_int pa_nil)))) pe_int) (pa_cons (pe_op op_sub (pe_op op_mulW pe_int (pe_cal c__law_take (hr.mono (by decide)) (by rfl) (pa_cons (pv 0) (pa_cons pe_int pa_nil)))) pe_int) pa_nil)) (by rfl))
 (pss_cons (ps_asg (pe_lc (own := [("_law_turn", 7)]) rfl sc_l_boxes.nd (pi_range1 (by rfl) B.range_ (pa_cons pe_int pa_nil)) (blkOk_by (N := n_l_boxes) (sc := defScope s_l_boxes) (own := [("_law_turn", 7)]) (by decide +kernel)) (fun _ _ _ _ _ => (pg_name (i := 7) sc_l_boxes.nd rfl (.inl rfl))) (fun _ _ _ _ _ => pts_nil) (fun _ _ _ _ _ => (pe_ix (r := rIxL K) ix_list (pe_lst (pa_cons pe_int (pa_cons pe_int (pa_cons (pe_op op_add pe_int (pe_cal c__law_take (hr.mono (by decide)) (by rfl) (pa_cons (pv 0) (pa_cons pe_int pa_nil)))) pa_nil)))) (pe_cal c__law_take (hr.mono (by decide)) (by rfl) (pa_cons (pv 0) (pa_cons pe_int pa_nil))) (fun _ _ => rfl)))) (pg_unl (by rfl) (pgs_cons (pg_name (i := 3) sc_l_boxes.nd rfl (.inl rfl)) (pgs_cons (pg_name (i := 4) sc_l_boxes.nd rfl (.inl rfl)) (pgs_cons (pg_name (i := 5) sc_l_boxes.nd rfl (.inr rfl)) pgs_nil)))))
 (pss_cons (ps_set (i := 6) sc_l_boxes.nd rfl (.inl rfl) (pe_lst (pa_cons (pe_tup (pa_cons (pv 1) (pa_cons (pv 2) pa_nil))) (pa_cons (pe_tup (pa_cons (pe_op op_add (pv 1) (pv 3)) (pa_cons (pv 2) pa_nil))) (pa_cons (pe_tup (pa_cons (pe_op op_add (pe_op op_add (pv 1) (pv 3)) (pv 4)) (pa_cons (pv 2) pa_nil))) pa_nil)))))
 (pss_one (ps_ret (pe_op op_cat (pv 6) (pe_lc (own := [("_law_a", 8), ("_law_b", 9)]) (g := (gTup K 2 (gCons (gName 8) (gCons (gName 9) gNil)))) rfl sc_l_boxes.nd (pi_list (pe_revL (pv 6))) (blkOk_by (N := n_l_boxes) (sc := defScope s_l_boxes) (own := [("_law_a", 8), ("_law_b", 9)]) (by decide +kernel)) (fun _ _ _ _ _ => (pg_tup (by rfl) (pgs_cons (pg_name (i := 8) sc_l_boxes.nd rfl (.inl rfl)) (pgs_cons (pg_name (i := 9) sc_l_boxes.nd rfl (.inl rfl)) pgs_nil)))) (fun _ _ _ _ _ => pts_nil) (fun _ _ _ _ _ => (pe_tup (pa_cons (pv 8) (pa_cons (pe_op op_add (pv 9) (pv 5)) pa_nil))))))))))), ?_⟩
    obtain ⟨b, ls, t, rfl, hb, bl, ht, q⟩ := h
    have k0 := OKB.start hb bl
    refine ⟨_, rfl, b, ls, t, 9, rfl, hb, bl, by omega, by decide, by decide, fun d1 ls1 d10 d11 bl1 => ?_⟩
    have k1 := k0.take bl1
    refine ⟨_, _, rfl, rfl, sm_mulW (sm_small (by omega)) (sm_small (by omega)), _, _, rfl, rfl, ?_⟩
    refine ⟨_, rfl, b, ls1, t + 1, 9, rfl, upd_same, bl1, by omega, by decide, by decide, fun d2 ls2 d20 d21 bl2 => ?_⟩
    have k2 := k1.take bl2
    refine ⟨_, _, rfl, rfl, sm_mulW (sm_small (by omega)) (sm_small (by omega)), _, _, rfl, rfl, _, _, rfl, ?_⟩
    have hx : -200 ≤ 32 * d1 - 128 ∧ 32 * d1 - 128 ≤ 200 := by omega
    have hy : -200 ≤ 32 * d2 - 128 ∧ 32 * d2 - 128 ≤ 200 := by omega
    refine ⟨3, rfl, by decide, by decide, fun D hD => ?_⟩
    have nD : D ≠ b := k2.ne hD (o := .lst [])
    have hD0 : H D = none := k2.free hD
    refine lc_range (fun i H' => ∃ acc : List Int, OKB b (t + 2 + 2 * i) H H' ∧ H' D = some (.lst (acc.map V.int)) ∧ acc.length = i ∧ ∀ z ∈ acc, 0 < z ∧ z ≤ 200) ⟨[], (k2.mut hD0 nD).mono (by omega), upd_same, rfl, fun _ h => nomatch h⟩ (fun i H' hi h => ?_) (fun H' h => ?_)
    · obtain ⟨acc, k, hDs, lacc, hacc⟩ := h
      refine ⟨rfl, ?_⟩
      obtain ⟨ls3, hb3, bl3⟩ := k.box
      refine ⟨_, rfl, b, ls3, _, 200, rfl, hb3, bl3, by omega, by decide, by decide, fun d4 ls4 d40 d41 bl4 => ?_⟩
      have k4 := k.take bl4
      refine ⟨_, _, rfl, rfl, by show 3 ≤ sizeLine; decide, fun l5 hl5 => ?_⟩
      have k5 := k4.new hl5 (o := .lst [.int 32, .int 64, .int (1 + d4)])
      have n5 : l5 ≠ b := k4.ne hl5 (o := .lst [])
      obtain ⟨ls5, hb5, bl5⟩ := k5.box
      refine ⟨_, rfl, b, ls5, _, 3, rfl, hb5, bl5, by omega, by decide, by decide, fun d6 ls6 d60 d61 bl6 => ?_⟩
      have k6 := k5.take bl6
      obtain ⟨v, hv, av⟩ := atI_in (xs := [.int 32, .int 64, .int (1 + d4)]) d60 d61
      obtain ⟨z, rfl, z0, z1⟩ : ∃ z, v = .int z ∧ 0 < z ∧ z ≤ 200 := by
        simp only [List.mem_cons, List.not_mem_nil, or_false] at hv
        rcases hv with rfl | rfl | rfl
        · exact ⟨_, rfl, by decide, by decide⟩
        · exact ⟨_, rfl, by decide, by decide⟩
        · exact ⟨_, rfl, by omega, by omega⟩
      refine ⟨l5, _, _, .int z, rfl, rfl, .of (by rw [upd_ne n5]; exact upd_same), av, ?_⟩
      have hD6 : (upd (upd (upd H' b (.lst ls4)) l5 (.lst [.int 32, .int 64, .int (1 + d4)])) b (.lst ls6)) D = some (.lst (acc.map V.int)) := by
        have h1 : (upd H' b (.lst ls4)) D = some (.lst (acc.map V.int)) := by rw [upd_ne nD]; exact hDs
        rw [upd_ne nD, upd_ne (ne_of_none h1 hl5)]
        exact h1
      refine ⟨acc.map V.int, hD6, by rw [List.length_map]; exact small1000 (by omega), acc ++ [z], (k6.mut hD0 nD).mono (by omega), by rw [List.map_append]; exact upd_same, by rw [List.length_append, lacc]; rfl, fun y hy => ?_⟩
      rcases List.mem_append.mp hy with hy | hy
      · exact hacc y hy
      · rw [List.mem_singleton.mp hy]
        exact ⟨z0, z1⟩
    · obtain ⟨acc, k, hDs, lacc, hacc⟩ := h
      match acc, lacc with
      | [wd, mo, hg], _ =>
        obtain ⟨w0, w1⟩ := hacc wd (by simp)
        obtain ⟨m0, m1⟩ := hacc mo (by simp)
        obtain ⟨h0, h1⟩ := hacc hg (by simp)
        refine ⟨D, _, rfl, .of hDs, rfl, _, _, rfl, _, _, rfl, _, _, rfl, rfl, ?_⟩
        obtain ⟨ls7, hb7, bl7⟩ := k.box
        refine ⟨_, rfl, _, rfl, by show 2 ≤ sizeLine; decide, fun T1 h1' => ?_⟩
        refine ⟨_, rfl, _, rfl, _, _, rfl, rfl, _, rfl, by show 2 ≤ sizeLine; decide, fun T2' h2' => ?_⟩
        refine ⟨_, rfl, _, rfl, _, _, rfl, rfl, _, rfl, _, _, rfl, rfl, _, rfl, by show 2 ≤ sizeLine; decide, fun T3' h3' => ?_⟩
        refine ⟨by show 3 ≤ sizeLine; decide, fun W hW => ?_⟩
        have t1 := same_upd h1' (o := .tup [.int (32 * d1 - 128), .int (32 * d2 - 128)])
        have t2 := same_upd h2' (o := .tup [.int (32 * d1 - 128 + wd), .int (32 * d2 - 128)])
        have t3 := same_upd h3' (o := .tup [.int (32 * d1 - 128 + wd + mo), .int (32 * d2 - 128)])
        have t4 := same_upd hW (o := .lst [.ref T1, .ref T2', .ref T3'])
        have u1 := t4 _ _ (t3 _ _ (t2 _ _ (upd_same (H := H') (a := T1) (o := .tup [.int (32 * d1 - 128), .int (32 * d2 - 128)]))))
        have u2 := t4 _ _ (t3 _ _ (upd_same (a := T2') (o := .tup [.int (32 * d1 - 128 + wd), .int (32 * d2 - 128)])))
        have u3 := t4 _ _ (upd_same (a := T3') (o := .tup [.int (32 * d1 - 128 + wd + mo), .int (32 * d2 - 128)]))
        have tt := t1.trans (t2.trans (t3.trans t4))
        have kW := k.keep tt
        have pL : Paired (T2 (upd (upd (upd (upd H' T1 (.tup [.int (32 * d1 - 128), .int (32 * d2 - 128)])) T2' (.tup [.int (32 * d1 - 128 + wd), .int (32 * d2 - 128)])) T3' (.tup [.int (32 * d1 - 128 + wd + mo), .int (32 * d2 - 128)])) W (.lst [.ref T1, .ref T2', .ref T3']))) [.ref T1, .ref T2', .ref T3'] [(32 * d1 - 128, 32 * d2 - 128), (32 * d1 - 128 + wd, 32 * d2 - 128), (32 * d1 - 128 + wd + mo, 32 * d2 - 128)] :=
          .cons ⟨T1, rfl, u1⟩ (.cons ⟨T2', rfl, u2⟩ (.cons ⟨T3', rfl, u3⟩ .nil))
        have kW2 : OKB b (t + 2 + 2 * Int.toNat 3) H (upd (upd (upd (upd H' T1 (.tup [.int (32 * d1 - 128), .int (32 * d2 - 128)])) T2' (.tup [.int (32 * d1 - 128 + wd), .int (32 * d2 - 128)])) T3' (.tup [.int (32 * d1 - 128 + wd + mo), .int (32 * d2 - 128)])) W (.lst [.ref T1, .ref T2', .ref T3'])) := kW
        have hWW : (upd (upd (upd (upd H' T1 (.tup [.int (32 * d1 - 128), .int (32 * d2 - 128)])) T2' (.tup [.int (32 * d1 - 128 + wd), .int (32 * d2 - 128)])) T3' (.tup [.int (32 * d1 - 128 + wd + mo), .int (32 * d2 - 128)])) W (.lst [.ref T1, .ref T2', .ref T3'])) W = some (.lst [.ref T1, .ref T2', .ref T3']) := upd_same
        refine ⟨_, rfl, _, rfl, W, _, rfl, .of upd_same, fun R hR => ?_⟩
        obtain ⟨HW, eHW⟩ : ∃ HW, HW = upd (upd (upd (upd H' T1 (.tup [.int (32 * d1 - 128), .int (32 * d2 - 128)])) T2' (.tup [.int (32 * d1 - 128 + wd), .int (32 * d2 - 128)])) T3' (.tup [.int (32 * d1 - 128 + wd + mo), .int (32 * d2 - 128)])) W (.lst [.ref T1, .ref T2', .ref T3']) := ⟨_, rfl⟩
        rw [← eHW] at pL kW2 hWW
        have hR2 : HW R = none := by rw [eHW]; exact hR
        have s5 := same_upd hR2 (o := .lst [.ref T3', .ref T2', .ref T1])
        refine ⟨R, rfl, ⟨_, .of upd_same⟩, fun D2 hD2 => ?_⟩
        have hD3 : (upd HW R (.lst [.ref T3', .ref T2', .ref T1])) D2 = none := by rw [eHW]; exact hD2
        have pR := mono_all mono_t2 s5 (K79.Paired.rev pL)
        refine lc_list (K := K) (a := R) (xs := [.ref T3', .ref T2', .ref T1]) (fun j H'' => Same (upd HW R (.lst [.ref T3', .ref T2', .ref T1])) H'' ∧ Grow T2 H'' D2 (([(32 * d1 - 128 + wd + mo, 32 * d2 - 128), (32 * d1 - 128 + wd, 32 * d2 - 128), (32 * d1 - 128, 32 * d2 - 128)].take j).map fun p => (p.1, p.2 + hg))) (by rw [eHW]; exact ⟨same_upd hD2, Grow.start⟩) (fun j H'' _ h => .of (h.1 _ _ upd_same)) (fun j x' H'' hj h => ?_) (fun H'' h => ?_)
        · obtain ⟨s6, g6⟩ := h
          obtain ⟨pt, hpt, T, rfl, hT⟩ := Paired.get (mono_all mono_t2 s6 pR) hj
          have hpt : [(32 * d1 - 128 + wd + mo, 32 * d2 - 128), (32 * d1 - 128 + wd, 32 * d2 - 128), (32 * d1 - 128, 32 * d2 - 128)][j]? = some pt := hpt
          have hj3 : j < 3 := (List.getElem?_eq_some_iff.mp hj).1
          obtain ⟨ds, hds, pds⟩ := id g6
          have lds := g6.len hds
          refine ⟨T, _, rfl, .of hT, rfl, _, _, rfl, _, _, rfl, rfl, ?_⟩
          refine ⟨rfl, _, rfl, _, rfl, _, rfl, _, _, rfl, rfl, by show 2 ≤ sizeLine; decide, fun T9 hT9 => ?_⟩
          have s7 := same_upd hT9 (o := .tup [.int pt.1, .int (pt.2 + hg)])
          have h7 := s7 _ _ hds
          refine ⟨ds, h7, ?_, same_mut (s6.trans s7) hD3, ?_⟩
          · rw [lds, List.length_map, List.length_take]
            exact small1000 (by omega)
          · rw [List.take_add_one, hpt, List.map_append]
            exact (g6.keep mono_t2 s7).snoc h7 (rem_t2 h7 ⟨T9, rfl, upd_same⟩)
        · obtain ⟨s6, g6⟩ := h
          obtain ⟨ds, hds, pds⟩ := id g6
          have lds := g6.len hds
          refine ⟨W, D2, _, ds, rfl, rfl, (s5.trans s6) _ _ hWW, hds, by rw [lds]; show 3 + 3 ≤ sizeLine; decide, fun Z hZ => ?_⟩
          have kZ := (kW2.keep (s5.trans s6))
          have nZ : Z ≠ b := kZ.ne hZ (o := .lst [])
          have s8 := same_upd hZ (o := .lst ([.ref T1, .ref T2', .ref T3'] ++ ds))
          have kF := kZ.keep s8
          obtain ⟨lz, hbz, blz⟩ := kF.box
          have pA := mono_all mono_t2 (s5.trans (s6.trans s8)) pL
          have pB := mono_all mono_t2 (rem_same.trans s8) pds
          have pAll := rem_all tups_t2 hbz (K79.Paired.app pA pB)
          refine q _ _ _ ((k0.trans kF).mono (by show t + 2 + 2 * 3 ≤ t + 30; omega)) ⟨Z, _, rfl, by rw [rem_ne nZ]; exact upd_same, pAll⟩ ?_
          exact .boxes hx hy ⟨w0, w1⟩ ⟨m0, m1⟩ ⟨h0, h1⟩
end
end K79

/-! #### part K79G -/
namespace K79
open PySem PySem.Spec PyProof.Rows L2
/-! ### where the spans lie -/
theorem mix_bnd {a b u v : Int} (ha : -1000 ≤ a ∧ a ≤ 1000) (hb : -1000 ≤ b ∧ b ≤ 1000) (hu : 0 ≤ u) (hv : 0 ≤ v) : -(1000 * (u + v)) ≤ a * u + b * v ∧ a * u + b * v ≤ 1000 * (u + v) := by
  have a1 := Int.mul_le_mul_of_nonneg_right ha.1 hu
  have a2 := Int.mul_le_mul_of_nonneg_right ha.2 hu
  have b1 := Int.mul_le_mul_of_nonneg_right hb.1 hv
  have b2 := Int.mul_le_mul_of_nonneg_right hb.2 hv
  omega
theorem cross_bnd {pss : List (List Pt)} {m row : Int} (bnd : Bnd pss) (m0 : 0 < m) {r : Row3} (hr : r ∈ crossM pss m row) : 0 < r.2.1 ∧ -(1000 * r.2.1) ≤ r.1 ∧ r.1 ≤ 1000 * r.2.1 := by
  have hr0 := hr
  unfold crossM at hr
  obtain ⟨p, hp, hr⟩ := List.mem_flatMap.mp hr
  obtain ⟨⟨a, b⟩, he, hc⟩ := List.mem_filterMap.mp hr
  obtain ⟨ea, eb⟩ := edges_ends_mem he
  obtain ⟨a1, a2, a3, a4⟩ := bnd p hp a ea
  obtain ⟨b1, b2, b3, b4⟩ := bnd p hp b eb
  obtain ⟨lo, hi, hlh, l1, l2, e1, e2⟩ := crossE_form m0 hc
  have hlo : (-1000 ≤ lo.1 ∧ lo.1 ≤ 1000) ∧ (-1000 ≤ hi.1 ∧ hi.1 ≤ 1000) := by
    rcases hlh with ⟨rfl, rfl⟩ | ⟨rfl, rfl⟩
    · exact ⟨⟨a1, a2⟩, ⟨b1, b2⟩⟩
    · exact ⟨⟨b1, b2⟩, ⟨a1, a2⟩⟩
  have h := mix_bnd (u := hi.2 - lineOf m row) (v := lineOf m row - lo.2) hlo.1 hlo.2 (by omega) (by omega)
  rw [← e1] at h
  have h2 : (hi.2 - lo.2) * 1 ≤ r.2.1 := by
    rw [e2]
    exact Int.mul_le_mul_of_nonneg_left (show 1 ≤ m by omega) (by omega)
  exact ⟨(crossM_mem m0 hr0).2, by omega, by omega⟩
theorem fm_near {t b : Int} (hb : 0 < b) (h : -(1000 * b) ≤ t ∧ t ≤ 1000 * b) : -17 ≤ fm t b ∧ fm t b ≤ 16 := by
  constructor
  · refine Int.not_lt.mp fun z => ?_
    have h1 : fm t b ≤ -18 := by omega
    have h2 := (fm_le hb).mp h1
    omega
  · rw [fm_le hb]
    omega
theorem colsN_near {t1 b1 t2 b2 : Int} (h1 : 0 < b1) (h2 : 0 < b2) (k1 : -(1000 * b1) ≤ t1 ∧ t1 ≤ 1000 * b1) (k2 : -(1000 * b2) ≤ t2 ∧ t2 ≤ 1000 * b2) (drops : Bool) : ∀ q ∈ colsN drops t1 b1 t2 b2, -20 ≤ q.1 ∧ q.2 ≤ 20 := by
  intro q hq
  have f1 := fm_near h1 k1
  have f2 := fm_near h2 k2
  unfold colsN at hq
  split at hq
  · cases hq
  · have hq := List.mem_singleton.mp hq
    subst hq
    unfold boxB
    split
    · rename_i c
      have e : fm t1 b1 = fm t2 b2 := by
        have := c.1
        omega
      have := dcol_near h1 h2 rfl e.symm
      exact ⟨by show -20 ≤ dcol _ _; omega, by show dcol _ _ + 1 ≤ 20; omega⟩
    · exact ⟨by show -20 ≤ min _ _; omega, by show max _ _ ≤ 20; omega⟩
theorem is_near {rows : List Row3} {o : Rw} (h : RowIs rows o) (hb : ∀ r ∈ rows, 0 < r.2.1 ∧ -(1000 * r.2.1) ≤ r.1 ∧ r.1 ≤ 1000 * r.2.1) (drops : Bool) : ∀ q ∈ colsO drops o, -20 ≤ q.1 ∧ q.2 ≤ 20 := by
  cases h with
  | none => exact fun _ h => nomatch h
  | @two w t1 b1 t2 b2 hw h1 h2 =>
    have a := hb (t1, b1, w) (by simp)
    have b := hb (t2, b2, -w) (by simp)
    exact colsN_near h1 h2 a.2 b.2 drops
  | @four w tc bc t1 b1 t2 b2 hw hc h1 h2 hbb =>
    have a := hb (t1, b1, -w) (by simp)
    have b := hb (t2, b2, w) (by simp)
    exact colsN_near h1 h2 a.2 b.2 drops
structure Near (spans : List Row3) : Prop where
  few : spans.length ≤ 100
  row : ∀ s ∈ spans, -100 ≤ s.1 ∧ s.1 ≤ 100
  col : ∀ s ∈ spans, -20 ≤ s.2.1 ∧ s.2.2 ≤ 20
section
variable {B : Int} {pss : List (List Pt)}
theorem OkP.spans (h : OkP B pss) (odd drops : Bool) : SpansOk (cellsM B pss odd drops) ∧ Near (cellsM B pss odd drops) := by
  obtain ⟨r0, r1, n0, n1⟩ := h.rows
  rw [firstM_eq h.b0] at r0 r1
  rw [countM_eq h.b0] at n0 n1
  obtain ⟨o, ho⟩ := h.like
  rw [cellsM_eq h.b0 ho]
  have few : (spansR (firstM pss B) (countM pss B) o drops).length ≤ 100 := by
    have := flat_len (fun (i : Nat) => (colsO drops (o (firstM pss B + (i : Int)))).filterMap (spanM (firstM pss B + (i : Int)))) 1 (List.range (countM pss B).toNat) fun i _ => row_one drops _ _
    rw [List.length_range] at this
    unfold spansR
    omega
  refine ⟨⟨spansR_rise _ _ _ _, fun s hs => ?_, few⟩, ⟨few, fun s hs => ?_, fun s hs => ?_⟩⟩
  · obtain ⟨r, b, e⟩ := s
    exact spansR_lt hs
  · obtain ⟨r, b, e⟩ := s
    obtain ⟨h1, h2, _, _⟩ := spansR_mem.mp hs
    exact ⟨by show -100 ≤ r; omega, by show r ≤ 100; omega⟩
  · obtain ⟨r, b, e⟩ := s
    obtain ⟨_, _, h3, _⟩ := spansR_mem.mp hs
    obtain ⟨o', ho', hc⟩ := ho r
    rw [← hc] at h3
    exact is_near ho' (fun r hr => cross_bnd h.bnd h.b0 hr) drops _ h3
theorem both_near {l o : List Row3} (h1 : Near l) (h2 : Near o) : (bothM l o).length ≤ 10000 ∧ (∀ s ∈ bothM l o, -100 ≤ s.1 ∧ s.1 ≤ 100) ∧ ∀ s ∈ bothM l o, -20 ≤ s.2.1 ∧ s.2.1 < s.2.2 ∧ s.2.2 ≤ 20 := by
  refine ⟨?_, fun s hs => ?_, fun s hs => ?_⟩
  · have := flat_len (fun s => o.filterMap (meet1 s)) 100 l fun s _ => Nat.le_trans (List.length_filterMap_le _ _) h2.few
    have f := h1.few
    have e : (bothM l o).length ≤ l.length * 100 := this
    have : l.length * 100 ≤ 100 * 100 := Nat.mul_le_mul_right 100 f
    omega
  · obtain ⟨r, b, e⟩ := s
    obtain ⟨b1, e1, b2, e2, k1, k2, _⟩ := bothM_mem.mp hs
    exact h1.row (r, b1, e1) k1
  · obtain ⟨r, b, e⟩ := s
    obtain ⟨b1, e1, b2, e2, k1, k2, rfl, rfl, lt⟩ := bothM_mem.mp hs
    have a := h1.col _ k1
    have c := h2.col _ k2
    dsimp only at a c ⊢
    omega
end
end K79

/-! #### part K79W20 -/
namespace K79
open PySem PySem.Spec PyProof.Rows L2 L2.DX
section
variable {P : Program} {w : World} {K : PySem.W.Frag} {mg : Str → Option Value} {base : Heap}
/-! ### sorted(a list of pairs) -/
def kkOf (H : Hp) (v : V) : Int × Int :=
  match v with
  | .ref t =>
    match H t with
    | some (.tup [.int a, .int b]) => (a, b)
    | _ => (0, 0)
  | _ => (0, 0)
theorem kk_of {H : Hp} {v : V} {q : Pt} (h : T2 H v q) : kkOf H v = q := by
  obtain ⟨t, rfl, ht⟩ := h
  unfold kkOf
  simp only [ht]
theorem kk_map {H : Hp} : ∀ {xs : List V} {ps : List Pt}, Paired (T2 H) xs ps → xs.map (kkOf H) = ps
  | _, _, .nil => rfl
  | _, _, .cons r t => by rw [List.map_cons, kk_of r, kk_map t]
theorem kk_hk {H : Hp} {xs : List V} {ps : List Pt} (hp : Paired (T2 H) xs ps) : ∀ x ∈ xs, ∃ t, x = .ref t ∧ H t = some (.tup [.int (kkOf H x).1, .int (kkOf H x).2]) := fun x hx => by
  obtain ⟨q, _, hq⟩ := Paired.mem hp hx
  have e := kk_of hq
  obtain ⟨t, rfl, ht⟩ := hq
  exact ⟨t, rfl, by rw [e]; exact ht⟩
theorem paired_map {H : Hp} : ∀ {ys : List V}, (∀ y ∈ ys, T2 H y (kkOf H y)) → Paired (T2 H) ys (ys.map (kkOf H))
  | [], _ => .nil
  | y :: r, h => .cons (h y List.mem_cons_self) (paired_map fun z hz => h z (List.mem_cons_of_mem _ hz))
theorem sorted_pairs {H : Hp} {xs ys : List V} {ps : List Pt} (hp : Paired (T2 H) xs ps) (srt : SrtO.Srtd (ltP (kkOf H)) ys) (stb : SrtO.Stb (ltP (kkOf H)) ys xs) : Paired (T2 H) ys (sortP ps) := by
  have h1 : Paired (T2 H) ys (ys.map (kkOf H)) := paired_map fun y hy => by
    obtain ⟨t, e, ht⟩ := kk_hk hp y (stb.perm.mem_iff.mp hy)
    exact ⟨t, e, ht⟩
  have h2 : ys.map (kkOf H) = sortP ps := by
    refine sortP_of ?_ ?_
    · refine List.pairwise_map.mpr (List.Pairwise.imp (fun {x y} h z => ?_) srt)
      have := SrtO.lexB_no.mp h
      unfold ltP2 at z
      omega
    · have := stb.perm.map (kkOf H)
      rw [kk_map hp] at this
      exact this
  rw [h2] at h1
  exact h1
/-! ### _law_cells_of -/
abbrev s_l_cells_of : Stmt := topS 50
abbrev n_l_cells_of : List Str := ["_law_spans", "_law_found", "_law_row", "_law_begin", "_law_end", "_law_column"]
theorem sc_l_cells_of : FnScope n_l_cells_of ["_law_spans"] (defScope s_l_cells_of) := ⟨rfl, rfl, rfl, by decide +kernel, rfl, by decide +kernel, by decide +kernel⟩
def sp_l_cells_of : Sp := fun vs H Q _ => ∃ (v : V) (spans : List Row3), vs = [v] ∧ Lst T3 H v spans ∧ spans.length ≤ 10000 ∧ (∀ s ∈ spans, -20 ≤ s.2.1 ∧ s.2.1 < s.2.2 ∧ s.2.2 ≤ 20) ∧ ∀ v' H', Same H H' → Lst T2 H' v' (cellsOfM spans) → Q v' H'
theorem ok_l_cells_of (B : Blt mg) {f : Addr} {fd : FuncData} (F : Fun K "_law_cells_of" "_law_cells_of" s_l_cells_of f fd) : FnOk P w K mg base CX0 1 f fd ["_law_spans"] sp_l_cells_of := by
  refine F.ok sc_l_cells_of (fun vs H Q E h => ?_) (fun cdv A outer s H vs Q E hr h => ?_)
  · obtain ⟨v, _, rfl, _⟩ := h; rfl
  · refine ⟨_, (pss_cons (ps_set (i := 1) sc_l_cells_of.nd rfl (.inl rfl) (pe_lst pa_nil))
 (pss_cons (ps_for PassesOwn.never rfl (pi_list (pv 0)) (pg_tup (by rfl) (pgs_cons (pg_name (i := 2) sc_l_cells_of.nd rfl (.inr rfl)) (pgs_cons (pg_name (i := 3) sc_l_cells_of.nd rfl (.inl rfl)) (pgs_cons (pg_name (i := 4) sc_l_cells_of.nd rfl (.inl rfl)) pgs_nil))))
 (pss_one (ps_set (i := 1) sc_l_cells_of.nd rfl (.inl rfl) (pe_op op_cat (pv 1) (pe_lc (own := [("_law_column", 5)]) rfl sc_l_cells_of.nd (pi_range2 (by rfl) B.range_ (pa_cons (pv 3) (pa_cons (pv 4) pa_nil))) (blkOk_by (N := n_l_cells_of) (sc := defScope s_l_cells_of) (own := [("_law_column", 5)]) (by decide +kernel)) (fun _ _ _ _ _ => (pg_name (i := 5) sc_l_cells_of.nd rfl (.inl rfl))) (fun _ _ _ _ _ => pts_nil) (fun _ _ _ _ _ => (pe_tup (pa_cons (pv 2) (pa_cons (pv 5) pa_nil)))))))))
 (pss_one (ps_ret (pe_callB cr_sortedPO (by rfl) B.sorted_ (by decide +kernel) (pa_cons (pv 1) pa_nil)))))), ?_⟩
    obtain ⟨v, spans, rfl, ⟨a, vs, rfl, ha, hp⟩, few, near, q⟩ := h
    have lp : vs.length = spans.length := Paired.length hp
    let row1 : Row3 → List Pt := fun s => (rangeI s.2.1 s.2.2).map fun c => (s.1, c)
    have rlen : ∀ s ∈ spans, (row1 s).length ≤ 40 := fun s hs => by
      have := near s hs
      show ((rangeI s.2.1 s.2.2).map _).length ≤ 40
      unfold rangeI
      rw [List.length_map, List.length_map, List.length_range]
      omega
    refine ⟨Nat.zero_le _, fun l hl => ?_⟩
    have s1 := same_upd hl (o := .lst [])
    refine ⟨_, rfl, a, rfl, ⟨_, .of (s1 _ _ ha)⟩, for_list (xs := vs) (fun i σ H' => ∃ l z2 z3 z4 z5, σ = [some (.ref a), some (.ref l), z2, z3, z4, z5] ∧ Same H H' ∧ Lst T2 H' (.ref l) (bareCells (spans.take i))) ⟨l, _, _, _, _, rfl, s1, l, [], rfl, upd_same, .nil⟩ (fun i σ H' _ h => ?_) (fun i x σ H' hi h => ?_) (fun σ H' h => ?_)⟩
    · obtain ⟨_, _, _, _, _, _, s2, _⟩ := h
      exact .of (s2 _ _ ha)
    · obtain ⟨l, z2, z3, z4, z5, rfl, s2, l', us, e, hl2, pu⟩ := h
      cases e
      obtain ⟨⟨r, b, e⟩, hri, t, rfl, ht⟩ := Paired.get hp hi
      have hi2 := (List.getElem?_eq_some_iff.mp hi).1
      have hrm := List.mem_of_getElem? hri
      have nr := near _ hrm
      have rl := rlen _ hrm
      dsimp only at nr
      have ulen : us.length ≤ 400000 := by
        rw [Paired.length pu]
        have h1 : (bareCells (spans.take i)).length ≤ (spans.take i).length * 40 := flat_len row1 40 (spans.take i) fun s hs => rlen s (List.mem_of_mem_take hs)
        rw [List.length_take] at h1
        have : min i spans.length * 40 ≤ 10000 * 40 := Nat.mul_le_mul_right 40 (by omega)
        omega
      refine ⟨t, _, rfl, .of (s2 _ _ ht), rfl, _, _, rfl, _, _, rfl, _, _, rfl, rfl, ?_⟩
      refine ⟨_, rfl, _, rfl, _, rfl, b, e, rfl, ⟨by omega, by omega, by omega, by omega⟩, fun D hD => ?_⟩
      refine lc_range (fun j H'' => Same H' H'' ∧ Grow T2 H'' D (((List.range j).map fun (k : Nat) => b + (k : Int)).map fun c => (r, c))) ⟨same_upd hD, Grow.start⟩ (fun j H'' hj h => ?_) (fun H'' h => ?_)
      · obtain ⟨s3, g3⟩ := h
        obtain ⟨ds, hds, pds⟩ := id g3
        have lds := g3.len hds
        refine ⟨rfl, _, rfl, _, rfl, by show 2 ≤ sizeLine; decide, fun T hT => ?_⟩
        have s4 := same_upd hT (o := .tup [.int r, .int (b + (j : Int))])
        have h4 := s4 _ _ hds
        refine ⟨ds, h4, ?_, same_mut (s3.trans s4) hD, ?_⟩
        · rw [lds, List.length_map, List.length_map, List.length_range]
          exact small1000 (by omega)
        · rw [List.range_succ, List.map_append, List.map_append]
          exact (g3.keep mono_t2 s4).snoc h4 (rem_t2 h4 ⟨T, rfl, upd_same⟩)
      · obtain ⟨s3, g3⟩ := h
        have e3 : ((List.range (e - b).toNat).map fun (k : Nat) => b + (k : Int)).map (fun c => (r, c)) = row1 (r, b, e) := rfl
        rw [e3] at g3
        obtain ⟨ds, hds, pds⟩ := id g3
        have lds := g3.len hds
        have es : sizeLine = 2 ^ 24 := rfl
        refine ⟨l, D, us, ds, rfl, rfl, s3 _ _ hl2, hds, by omega, fun W hW => ?_⟩
        have s4 := same_upd hW (o := .lst (us ++ ds))
        refine ⟨W, _, _, _, _, rfl, s2.trans (s3.trans s4), W, _, rfl, upd_same, ?_⟩
        have ef : bareCells (spans.take (i + 1)) = bareCells (spans.take i) ++ row1 (r, b, e) := flat_take row1 hri
        rw [ef]
        exact K79.Paired.app (mono_all mono_t2 (s3.trans s4) pu) (mono_all mono_t2 (rem_same.trans s4) pds)
    · obtain ⟨l, z2, z3, z4, z5, rfl, s2, l', us, e, hl2, pu⟩ := h
      cases e
      rw [lp, List.take_length] at pu
      refine ⟨_, rfl, l, us, kkOf H', rfl, .of hl2, kk_hk pu, fun ys p srt stb hpn => ?_⟩
      refine q _ _ (s2.trans (same_upd hpn)) ⟨p, ys, rfl, upd_same, ?_⟩
      exact mono_all mono_t2 (same_upd hpn) (sorted_pairs pu srt stb)
end
end K79

/-! #### part K79W21 -/
namespace K79
open PySem PySem.Spec PyProof.Rows L2 L2.DX
theorem lst1 {α : Type} {R : Hp → V → α → Prop} {H : Hp} {v : V} {d : α} (h : Lst R H v [d]) : ∃ a u, v = .ref a ∧ H a = some (.lst [u]) ∧ R H u d := by
  obtain ⟨a, vs, rfl, ha, hp⟩ := h
  cases hp with
  | cons r t =>
    cases t
    exact ⟨a, _, rfl, ha, r⟩
theorem lst2 {α : Type} {R : Hp → V → α → Prop} {H : Hp} {v : V} {d e : α} (h : Lst R H v [d, e]) : ∃ a u w, v = .ref a ∧ H a = some (.lst [u, w]) ∧ R H u d ∧ R H w e := by
  obtain ⟨a, vs, rfl, ha, hp⟩ := h
  cases hp with
  | cons r t =>
    cases t with
    | cons r2 t2 =>
      cases t2
      exact ⟨a, _, _, rfl, ha, r, r2⟩
section
variable {P : Program} {w : World} {K : PySem.W.Frag} {mg : Str → Option Value} {base : Heap}
abbrev s_l_shares_right : Stmt := topS 51
abbrev n_l_shares_right : List Str := ["_law_parts", "_law_row", "_law_column", "_law_words", "_law_places"]
theorem sc_l_shares_right : FnScope n_l_shares_right ["_law_parts"] (defScope s_l_shares_right) := ⟨rfl, rfl, rfl, by decide +kernel, rfl, by decide +kernel, by decide +kernel⟩
def SharesOk (B : Int) (A Q : List Pt) : Prop := ∀ x ∈ cellsOfM (bothM (cellsM B [A] false true) (cellsM B [Q] false true)),
    (wordM B [A] x.2 x.1 = 1 ∨ wordM B [Q] x.2 x.1 = 1) ∧ wordM B [A] x.2 x.1 ≠ 2 ∧ wordM B [Q] x.2 x.1 ≠ 2
def sp_l_shares_right : Sp := fun vs H R _ => ∃ (v : V) (B : Int) (A Q : List Pt), vs = [v] ∧ Lst (Parts B) H v [[A], [Q]] ∧ OkP B [A] ∧ OkP B [Q] ∧ SharesOk B A Q ∧ ∀ H', Same H H' → R (.bl true) H'
theorem ok_l_shares_right (Bl : Blt mg) {f : Addr} {fd : FuncData} (F : Fun K "_law_shares_right" "_law_shares_right" s_l_shares_right f fd)
    (c__law_cells_of : Cal P w K mg base 1 "_law_cells_of" ["_law_spans"] sp_l_cells_of) (c_in_both : Cal P w K mg base 4 "in_both" ["spans", "others"] sp_in_both)
    (c_cells_ : CalD P w K mg base 5 "cells" ps_cells [.str "round", .bl true] sp_cells) (c_cell_of_ : CalD P w K mg base 5 "cell_of" ps_cell_of [.str "round", .bl true] sp_cell_of) :
    FnOk P w K mg base CX0 6 f fd ["_law_parts"] sp_l_shares_right := by
  refine F.ok sc_l_shares_right (fun vs H Q E h => ?_) (fun cdv A outer s H vs Q E hr h => ?_)
  · obtain ⟨v, _, _, _, rfl, _⟩ := h; rfl
  · refine ⟨_, (pss_cons (ps_for PassesOwn.never rfl (pi_list (pe_cal c__law_cells_of (hr.mono (by decide)) (by rfl) (pa_cons (pe_cal c_in_both (hr.mono (by decide)) (by rfl) (pa_cons (pe_calD c_cells_ (hr.mono (by decide)) (by rfl) (pa_cons (pe_ix ix_list (pv 0) pe_int (fun _ _ => rfl)) pa_nil)) (pa_cons (pe_calD c_cells_ (hr.mono (by decide)) (by rfl) (pa_cons (pe_ix ix_list (pv 0) pe_int (fun _ _ => rfl)) pa_nil)) pa_nil))) pa_nil))) (pg_tup (by rfl) (pgs_cons (pg_name (i := 1) sc_l_shares_right.nd rfl (.inr rfl)) (pgs_cons (pg_name (i := 2) sc_l_shares_right.nd rfl (.inr rfl)) pgs_nil)))
 (pss_cons (ps_setLc (i := 3) (own := [("_law_places", 4)]) rfl sc_l_shares_right.nd rfl rfl (sw_true rfl rfl rfl (by decide +kernel)) (pi_list (pe_lst (pa_cons (pe_ix ix_list (pe_ix ix_list (pv 0) pe_int (fun _ _ => rfl)) pe_int (fun _ _ => rfl)) (pa_cons (pe_ix ix_list (pe_ix ix_list (pv 0) pe_int (fun _ _ => rfl)) pe_int (fun _ _ => rfl)) pa_nil)))) (blkOk_by (N := n_l_shares_right) (sc := defScope s_l_shares_right) (own := [("_law_places", 4)]) (by decide +kernel)) (fun _ _ _ _ _ => (pg_name (i := 4) sc_l_shares_right.nd rfl (.inl rfl))) (fun _ _ _ _ _ => pts_nil) (fun _ _ _ _ _ => (pe_ix (r := rIxT K) ix_tup (pe_calD c_cell_of_ (hr.mono (by decide)) (by rfl) (pa_cons (pe_lst (pa_cons (pv 4) pa_nil)) (pa_cons (pv 2) (pa_cons (pv 1) pa_nil)))) pe_int (fun _ _ => rfl))))
 (pss_one (ps_if (PW.pt (pw_or (pt_cmpR op_notIn_seq pe_str (pv 3) (by rfl)) (pw_or1 (pt_cmpR op_in_seq pe_str (pv 3) (by rfl)))))
 (pss_one (ps_ret pe_bl))
 pss_nil))))
 (pss_one (ps_ret pe_bl))), ?_⟩
    obtain ⟨v, B, pA, pQ, rfl, hv, okA, okQ, so, q⟩ := h
    obtain ⟨a, u1, u2, rfl, ha, hu1, hu2⟩ := lst2 hv
    obtain ⟨a1, x1, rfl, ha1, hx1⟩ := lst1 hu1
    obtain ⟨a2, x2, rfl, ha2, hx2⟩ := lst1 hu2
    obtain ⟨sA, nA⟩ := okA.spans false true
    obtain ⟨sQ, nQ⟩ := okQ.spans false true
    obtain ⟨bl1, bl2, bl3⟩ := both_near nA nQ
    refine ⟨_, rfl, a, _, 0, .ref a1, rfl, rfl, .of ha, rfl, .ref a1, B, [pA], false, true, rfl, hu1, okA, fun v1 H1 s1 l1 => ?_⟩
    refine ⟨_, rfl, a, _, 1, .ref a2, rfl, rfl, .of (s1 _ _ ha), rfl, .ref a2, B, [pQ], false, true, rfl, mono_parts B _ _ _ _ s1 hu2, okQ, fun v2 H2 s2 l2 => ?_⟩
    refine ⟨v1, v2, _, _, rfl, mono_lst mono_t3 _ _ _ _ s2 l1.lst, l2.lst, sA, sQ, fun v3 H3 s3 l3 => ?_⟩
    refine ⟨v3, _, rfl, l3, bl1, bl3, fun v4 H4 s4 l4 => ?_⟩
    have s04 := s1.trans (s2.trans (s3.trans s4))
    obtain ⟨c, us, rfl, hc, pc⟩ := l4
    refine ⟨c, rfl, ⟨_, .of hc⟩, for_list (xs := us) (fun i σ H' => ∃ z1 z2 z3 z4, σ = [some (.ref a), z1, z2, z3, z4] ∧ Same H4 H') ⟨_, _, _, _, rfl, .refl _⟩ (fun i σ H' _ h => ?_) (fun i x σ H' hi h => ?_) (fun σ H' h => ?_)⟩
    · obtain ⟨_, _, _, _, _, s5⟩ := h
      exact .of (s5 _ _ hc)
    · obtain ⟨z1, z2, z3, z4, rfl, s5⟩ := h
      obtain ⟨⟨row, col⟩, hpi, T, rfl, hT⟩ := Paired.get pc hi
      have hm := List.mem_of_getElem? hpi
      have hso := so _ hm
      have hrow : -100 ≤ row ∧ row ≤ 100 := by
        obtain ⟨b, e, hs, _⟩ := cellsOf_mem.mp hm
        exact bl2 _ hs
      have s05 := s04.trans s5
      refine ⟨T, _, rfl, .of (s5 _ _ hT), rfl, _, _, rfl, _, _, rfl, rfl, ?_⟩
      refine ⟨_, rfl, a, _, 0, .ref a1, rfl, rfl, .of (s05 _ _ ha), rfl, a1, _, 0, x1, rfl, rfl, .of (s05 _ _ ha1), rfl, ?_⟩
      refine ⟨_, rfl, a, _, 1, .ref a2, rfl, rfl, .of (s05 _ _ ha), rfl, a2, _, 0, x2, rfl, rfl, .of (s05 _ _ ha2), rfl, by show 2 ≤ sizeLine; decide, fun l hl => ?_⟩
      have s6 := same_upd hl (o := .lst [x1, x2])
      refine ⟨l, rfl, ⟨_, .of upd_same⟩, fun D hD => ?_⟩
      let ws : List Str := [wordS (wordM B [pA] col row), wordS (wordM B [pQ] col row)]
      have m1 := mono_lst (mono_pl B) _ _ _ _ (s05.trans s6) hx1
      have m2 := mono_lst (mono_pl B) _ _ _ _ (s05.trans s6) hx2
      refine lc_list (K := K) (a := l) (xs := [x1, x2]) (fun j H'' => Same (upd H' l (.lst [x1, x2])) H'' ∧ H'' D = some (.lst ((ws.take j).map V.str))) ⟨same_upd hD, upd_same⟩ (fun j H'' _ h => .of (h.1 _ _ upd_same)) (fun j x H'' hj h => ?_) (fun H'' h => ?_)
      · obtain ⟨s7, d7⟩ := h
        have hj2 : j < 2 := (List.getElem?_eq_some_iff.mp hj).1
        have hx : ∃ p, OkP B [p] ∧ Lst (Pl B) H'' x p ∧ ws[j]? = some (wordS (wordM B [p] col row)) := by
          match j, hj with
          | 0, hj =>
            have e : x1 = x := Option.some.inj hj
            subst e
            exact ⟨pA, okA, mono_lst (mono_pl B) _ _ _ _ s7 m1, rfl⟩
          | 1, hj =>
            have e : x2 = x := Option.some.inj hj
            subst e
            exact ⟨pQ, okQ, mono_lst (mono_pl B) _ _ _ _ s7 m2, rfl⟩
        obtain ⟨p, okp, hxp, hw⟩ := hx
        refine ⟨rfl, _, rfl, by show 1 ≤ sizeLine; decide, fun T2' hT2 => ?_⟩
        have s8 := same_upd hT2 (o := .lst [x])
        refine ⟨_, rfl, _, rfl, .ref T2', B, [p], col, row, rfl, ⟨T2', _, rfl, upd_same, .cons (mono_lst (mono_pl B) _ _ _ _ s8 hxp) .nil⟩, okp, by omega, by omega, fun a9 H9 rest s9 h9 => ?_⟩
        refine ⟨a9, _, 0, .str (wordS (wordM B [p] col row)), rfl, rfl, .of h9, atI_nat (j := 0) rfl, _, s9 _ _ (s8 _ _ d7), ?_, same_mut (s7.trans (s8.trans s9)) hD, ?_⟩
        · rw [List.length_map, List.length_take]
          exact small1000 (by omega)
        · rw [upd_same, List.take_add_one, hw, List.map_append]
          rfl
      · obtain ⟨s7, d7⟩ := h
        have s07 := s5.trans (s6.trans s7)
        have e7 : H'' D = some (.lst [.str (wordS (wordM B [pA] col row)), .str (wordS (wordM B [pQ] col row))]) := d7
        obtain ⟨k1, k2, k3⟩ := hso
        dsimp only at k1 k2 k3
        have hd1 : wordM B [pA] col row = 0 ∨ wordM B [pA] col row = 1 := by
          have : wordM B [pA] col row = 0 ∨ wordM B [pA] col row = 1 ∨ wordM B [pA] col row = 2 := by
            unfold wordM
            split
            · exact .inl rfl
            · split
              · exact .inr (.inl rfl)
              · exact .inr (.inr rfl)
          omega
        have hd2 : wordM B [pQ] col row = 0 ∨ wordM B [pQ] col row = 1 := by
          have : wordM B [pQ] col row = 0 ∨ wordM B [pQ] col row = 1 ∨ wordM B [pQ] col row = 2 := by
            unfold wordM
            split
            · exact .inl rfl
            · split
              · exact .inr (.inl rfl)
              · exact .inr (.inr rfl)
          omega
        generalize wordM B [pA] col row = n1 at e7 k1 k2 hd1
        generalize wordM B [pQ] col row = n2 at e7 k1 k3 hd2
        have go : ∀ z1 z2 z3 z4, (∃ z1' z2' z3' z4', [some (V.ref a), z1, z2, z3, z4] = [some (V.ref a), z1', z2', z3', z4'] ∧ Same H4 H'') := fun z1 z2 z3 z4 => ⟨_, _, _, _, rfl, s07⟩
        rcases hd1 with rfl | rfl <;> rcases hd2 with rfl | rfl
        · exact absurd k1 (by decide)
        · exact ⟨_, rfl, D, _, rfl, .inl (.of e7), rfl, rfl, _, rfl, iteF ⟨_, rfl, D, _, rfl, .inl (.of e7), rfl, rfl, _, rfl, iteF ⟨_, _, _, _, rfl, s07⟩⟩⟩
        · exact ⟨_, rfl, D, _, rfl, .inl (.of e7), rfl, rfl, _, rfl, iteF ⟨_, rfl, D, _, rfl, .inl (.of e7), rfl, rfl, _, rfl, iteF ⟨_, _, _, _, rfl, s07⟩⟩⟩
        · exact ⟨_, rfl, D, _, rfl, .inl (.of e7), rfl, rfl, _, rfl, iteF ⟨_, rfl, D, _, rfl, .inl (.of e7), rfl, rfl, _, rfl, iteF ⟨_, _, _, _, rfl, s07⟩⟩⟩
    · obtain ⟨_, _, _, _, rfl, s5⟩ := h
      exact q _ (s04.trans s5)
end
end K79

/-! #### part K79H -/
namespace K79
open PySem PySem.Spec PyProof.Rows L2
/-! ### lists of tuples of ints, as data -/
def da2 (p : Pt) : PyData := .tuple [.int p.1, .int p.2]
def da3 (p : Row3) : PyData := .tuple [.int p.1, .int p.2.1, .int p.2.2]
theorem dp2 {K : PySem.W.Frag} {H : Hp} {v : V} {p : Pt} (h : T2 H v p) : Dp K H v (da2 p) := by
  obtain ⟨a, rfl, ha⟩ := h
  exact .tup (.of ha) (.cons (.int _) (.cons (.int _) .nil))
theorem dp3 {K : PySem.W.Frag} {H : Hp} {v : V} {p : Row3} (h : T3 H v p) : Dp K H v (da3 p) := by
  obtain ⟨a, rfl, ha⟩ := h
  exact .tup (.of ha) (.cons (.int _) (.cons (.int _) (.cons (.int _) .nil)))
theorem dp_all {α : Type} {R : Hp → V → α → Prop} {f : α → PyData} {K : PySem.W.Frag} {H : Hp} (hR : ∀ v d, R H v d → Dp K H v (f d)) : ∀ {vs : List V} {ds : List α}, Paired (R H) vs ds → DpAll K H vs (ds.map f)
  | _, _, .nil => .nil
  | _, _, .cons r t => .cons (hR _ _ r) (dp_all hR t)
theorem dp_l2 {K : PySem.W.Frag} {H : Hp} {v : V} {l : List Pt} (h : Lst T2 H v l) : Dp K H v (.list (l.map da2)) := by
  obtain ⟨a, vs, rfl, ha, hp⟩ := h
  exact .lst (.of ha) (dp_all (fun _ _ => dp2) hp)
theorem dp_l3 {K : PySem.W.Frag} {H : Hp} {v : V} {l : List Row3} (h : Lst T3 H v l) : Dp K H v (.list (l.map da3)) := by
  obtain ⟨a, vs, rfl, ha, hp⟩ := h
  exact .lst (.of ha) (dp_all (fun _ _ => dp3) hp)
theorem lay_all {α : Type} {f : α → PyData} (h : ∀ d, (f d).canLay0 = true) : ∀ l : List α, PyData.canLayAll0 (l.map f) = true
  | [] => rfl
  | x :: r => by
    show (PyData.canLay0 (f x) && PyData.canLayAll0 (r.map f)) = true
    rw [h x, lay_all h r]
    rfl
theorem dep_all {α : Type} {f : α → PyData} {n : Nat} (h : ∀ d, (f d).depth ≤ n) : ∀ l : List α, PyData.depthAll (l.map f) ≤ n
  | [] => Nat.zero_le _
  | x :: r => by
    show max (PyData.depth (f x)) (PyData.depthAll (r.map f)) ≤ n
    have := h x
    have := dep_all h r
    omega
theorem shaped_l {α : Type} {f : α → PyData} (h : ∀ d, (f d).canLay0 = true) (h2 : ∀ d, (f d).depth ≤ 2) (l : List α) : SeqAt.shaped (.list (l.map f)) = true := by
  unfold SeqAt.shaped
  rw [Bool.and_eq_true_iff]
  refine ⟨lay_all h l, decide_eq_true ?_⟩
  show PyData.depthAll (l.map f) + 1 ≤ 64
  have := dep_all h2 l
  omega
theorem lay2 (p : Pt) : (da2 p).canLay0 = true := rfl
theorem lay3 (p : Row3) : (da3 p).canLay0 = true := rfl
theorem dep2 (p : Pt) : (da2 p).depth ≤ 2 := by show max 0 (max 0 0) + 1 ≤ 2; decide
theorem dep3 (p : Row3) : (da3 p).depth ≤ 2 := by show max 0 (max 0 (max 0 0)) + 1 ≤ 2; decide
section
variable {K : PySem.W.Frag} {H : Hp} {v u : V} {Q : VK}
theorem ne_self3 {l : List Row3} (h1 : Lst T3 H v l) (h2 : Lst T3 H u l) (q : Q (.bl false) H) : rNeD K v u H Q := by
  refine ⟨_, _, dp_l3 h1, dp_l3 h2, shaped_l lay3 dep3 l, shaped_l lay3 dep3 l, ?_⟩
  rw [SeqAt.eqv_refl _ (SeqAt.canLay_of_shaped (shaped_l lay3 dep3 l))]
  exact q
theorem ne_self2 {l : List Pt} (h1 : Lst T2 H v l) (h2 : Lst T2 H u l) (q : Q (.bl false) H) : rNeD K v u H Q := by
  refine ⟨_, _, dp_l2 h1, dp_l2 h2, shaped_l lay2 dep2 l, shaped_l lay2 dep2 l, ?_⟩
  rw [SeqAt.eqv_refl _ (SeqAt.canLay_of_shaped (shaped_l lay2 dep2 l))]
  exact q
theorem not_in2 {l : List Pt} {p : Pt} (h1 : T2 H v p) (h2 : Lst T2 H u l) (hm : p ∈ l) (q : Q (.bl false) H) : rNotInD K v u H Q := by
  refine ⟨_, _, dp2 h1, dp_l2 h2, ?_, shaped_l lay2 dep2 l, ?_⟩
  · unfold SeqAt.shaped
    rw [Bool.and_eq_true_iff]
    exact ⟨lay2 p, decide_eq_true (Nat.le_trans (dep2 p) (by decide))⟩
  · have e : ((l.map da2).any fun z => PyData.eqv z (da2 p)) = true := List.any_eq_true.mpr ⟨da2 p, List.mem_map.mpr ⟨p, hm, rfl⟩, SeqAt.eqv_refl _ (lay2 p)⟩
    rw [e]
    exact q
end
/-! ### what the law asks of a round that is cut -/
structure RightOk (B : Int) (P A Q : List Pt) : Prop where
  oP : OkP B [P]
  oA : OkP B [A]
  oQ : OkP B [Q]
  oAr : OkP B [A.reverse]
  oQr : OkP B [Q.reverse]
  oB : OkP B [A, Q]
  f1 : (cellsM B [A.reverse] false false = cellsM B [A] false false ∧ cellsM B [A] true false = cellsM B [A] false false) ∧
    (cellsM B [Q.reverse] false false = cellsM B [Q] false false ∧ cellsM B [Q] true false = cellsM B [Q] false false)
  f2 : bothM (cellsM B [A] false false) (cellsM B [Q] false false) = []
  f3 : sortP (cellsOfM (cellsM B [A] false false) ++ cellsOfM (cellsM B [Q] false false)) = cellsOfM (cellsM B [P] false false)
  f4 : ∀ odd, cellsM B [A, Q] odd false = cellsM B [P] false false
  f5 : ∀ x ∈ cellsOfM (cellsM B [P] false true), x ∈ cellsOfM (cellsM B [A] false true) ++ cellsOfM (cellsM B [Q] false true)
  f6 : SharesOk B A Q
theorem okP_of {B : Int} {pss : List (List Pt)} {o : Int → Rw} (hB : 0 < B) (hB2 : B ≤ 12) (few : FewP pss) (bnd : Bnd pss) (h : ∀ row, RowLike (crossM pss B row) (o row)) : OkP B pss := ⟨hB, hB2, few, bnd, o, h⟩
theorem few1 {p : List Pt} (h : 1 ≤ p.length ∧ p.length ≤ 100) : FewP [p] := ⟨Nat.le_refl _, by show 1 ≤ 4; decide, fun q hq => by rw [List.mem_singleton.mp hq]; exact h⟩
theorem bnd1 {p : List Pt} (h : ∀ q ∈ p, -1000 ≤ q.1 ∧ q.1 ≤ 1000 ∧ -1000 ≤ q.2 ∧ q.2 ≤ 1000) : Bnd [p] := fun p' hp q hq => by
  rw [List.mem_singleton.mp hp] at hq
  exact h q hq
theorem right_ok {B : Int} {L : List Pt} (h : Pairs L) (hB : 0 < B) (hB2 : B ≤ 12) {f s : Nat} (hf : f < s) (hs : s < L.length) :
    RightOk B L ((L.drop f).take (s + 1 - f)) (L.drop s ++ L.take (f + 1)) := by
  obtain ⟨oP, oA, oQ, R⟩ := h.rows hB hf hs
  obtain ⟨l1, l2⟩ := h.len
  have lA : ((L.drop f).take (s + 1 - f)).length = s + 1 - f := by
    rw [List.length_take, List.length_drop]
    omega
  have lQ : (L.drop s ++ L.take (f + 1)).length = L.length - s + (f + 1) := by
    rw [List.length_append, List.length_take, List.length_drop]
    omega
  have bA : ∀ q ∈ (L.drop f).take (s + 1 - f), -1000 ≤ q.1 ∧ q.1 ≤ 1000 ∧ -1000 ≤ q.2 ∧ q.2 ≤ 1000 := fun q hq => h.bound q (List.mem_of_mem_drop (List.mem_of_mem_take hq))
  have bQ : ∀ q ∈ L.drop s ++ L.take (f + 1), -1000 ≤ q.1 ∧ q.1 ≤ 1000 ∧ -1000 ≤ q.2 ∧ q.2 ≤ 1000 := fun q hq => by
    rcases List.mem_append.mp hq with hq | hq
    · exact h.bound q (List.mem_of_mem_drop hq)
    · exact h.bound q (List.mem_of_mem_take hq)
  generalize (L.drop f).take (s + 1 - f) = A at *
  generalize L.drop s ++ L.take (f + 1) = Q at *
  refine ⟨okP_of hB hB2 (few1 (by omega)) (bnd1 h.bound) R.whole, okP_of hB hB2 (few1 (by omega)) (bnd1 bA) R.first, okP_of hB hB2 (few1 (by omega)) (bnd1 bQ) R.second,
    okP_of hB hB2 (few1 (by rw [List.length_reverse]; omega)) (bnd1 fun q hq => bA q (List.mem_reverse.mp hq)) R.firstR, okP_of hB hB2 (few1 (by rw [List.length_reverse]; omega)) (bnd1 fun q hq => bQ q (List.mem_reverse.mp hq)) R.secondR,
    okP_of hB hB2 ⟨by show 1 ≤ 2; decide, by show 2 ≤ 4; decide, fun p hp => ?_⟩ (fun p hp q hq => ?_) R.both, R.f1, R.f2, R.f3, R.f4, R.f5, R.f6⟩
  · rcases List.mem_cons.mp hp with rfl | hp
    · omega
    · rw [List.mem_singleton.mp hp]; omega
  · rcases List.mem_cons.mp hp with rfl | hp
    · exact bA q hq
    · rw [List.mem_singleton.mp hp] at hq; exact bQ q hq
end K79

/-! #### part K79W22 -/
namespace K79
open PySem PySem.Spec PyProof.Rows L2 L2.DX
theorem cut_mid {vs : List V} {f s : Nat} (hf : f ≤ s) (hs : s + 1 ≤ vs.length) : cutV vs (some (f : Int)) (some ((s : Int) + 1)) = (vs.drop f).take (s + 1 - f) := by
  unfold cutV
  have e1 : HT.sIx vs.length 0 (some (f : Int)) = min f vs.length := HT.sIx_nat _ _ f
  have e2 : HT.sIx vs.length vs.length (some ((s : Int) + 1)) = min (s + 1) vs.length := HT.sIx_nat _ _ (s + 1)
  rw [e1, e2, Nat.min_eq_left (by omega), Nat.min_eq_left (by omega)]
theorem cut_end {vs : List V} {s : Nat} (hs : s ≤ vs.length) : cutV vs (some (s : Int)) none = vs.drop s := by
  unfold cutV
  have e1 : HT.sIx vs.length 0 (some (s : Int)) = min s vs.length := HT.sIx_nat _ _ s
  have e2 : HT.sIx vs.length vs.length none = vs.length := rfl
  rw [e1, e2, Nat.min_eq_left hs]
  exact List.take_of_length_le (by rw [List.length_drop]; omega)
theorem cut_beg {vs : List V} {f : Nat} (hf : f + 1 ≤ vs.length) : cutV vs none (some ((f : Int) + 1)) = vs.take (f + 1) := by
  unfold cutV
  have e1 : HT.sIx vs.length vs.length (some ((f : Int) + 1)) = min (f + 1) vs.length := HT.sIx_nat _ _ (f + 1)
  have e2 : HT.sIx vs.length 0 none = 0 := rfl
  rw [e1, e2, Nat.min_eq_left hf, List.drop_zero, Nat.sub_zero]
theorem cellsOf_len {spans : List Row3} (few : spans.length ≤ 100) (near : ∀ s ∈ spans, -20 ≤ s.2.1 ∧ s.2.1 < s.2.2 ∧ s.2.2 ≤ 20) : (cellsOfM spans).length ≤ 4000 := by
  have h1 : (bareCells spans).length ≤ spans.length * 40 := flat_len (fun s : Row3 => (rangeI s.2.1 s.2.2).map fun c => (s.1, c)) 40 spans fun s hs => by
    have := near s hs
    unfold rangeI
    rw [List.length_map, List.length_map, List.length_range]
    omega
  have h2 : (cellsOfM spans).length = (bareCells spans).length := (sortP_perm _).length_eq
  have : spans.length * 40 ≤ 100 * 40 := Nat.mul_le_mul_right 40 few
  omega
theorem OkP.near {B : Int} {pss : List (List Pt)} (h : OkP B pss) (odd drops : Bool) : (cellsM B pss odd drops).length ≤ 100 ∧ ∀ s ∈ cellsM B pss odd drops, -20 ≤ s.2.1 ∧ s.2.1 < s.2.2 ∧ s.2.2 ≤ 20 := by
  obtain ⟨a, b⟩ := h.spans odd drops
  exact ⟨b.few, fun s hs => ⟨(b.col s hs).1, a.wide s hs, (b.col s hs).2⟩⟩
theorem units65 {k : Nat} {A : Around} (r : Room k A) : A.units + 65 < cLine := by
  have := r.un
  omega
section
variable {P : Program} {w : World} {K : PySem.W.Frag} {mg : Str → Option Value} {base : Heap}
abbrev s_l_right : Stmt := topS 52
abbrev n_l_right : List Str := ["_law_places", "_law_first", "_law_second", "_law_parts", "_law_whole", "_law_some", "_law_part", "_law_spans", "_law_kind", "_law_both", "_law_cell_here"]
theorem sc_l_right : FnScope n_l_right ["_law_places", "_law_first", "_law_second"] (defScope s_l_right) := ⟨rfl, rfl, rfl, by decide +kernel, rfl, by decide +kernel, by decide +kernel⟩
def sp_l_right : Sp := fun vs H R _ => ∃ (v : V) (B : Int) (L : List Pt) (f s : Nat), vs = [v, .int f, .int s] ∧ Lst (Pl B) H v L ∧ f < s ∧ s < L.length ∧ L.length ≤ 12 ∧
  RightOk B L ((L.drop f).take (s + 1 - f)) (L.drop s ++ L.take (f + 1)) ∧ ∀ H', Same H H' → R (.bl true) H'
theorem ok_l_right (Bl : Blt mg) {f : Addr} {fd : FuncData} (F : Fun K "_law_right" "_law_right" s_l_right f fd)
    (c__law_cells_of : Cal P w K mg base 1 "_law_cells_of" ["_law_spans"] sp_l_cells_of) (c_in_both : Cal P w K mg base 4 "in_both" ["spans", "others"] sp_in_both)
    (c_cells_ : CalD P w K mg base 5 "cells" ps_cells [.str "round", .bl true] sp_cells)
    (c_cells_drops : CalN P w K mg base 5 "cells" ps_cells 1 ["drops"] (fun vs zs => vs ++ ([.str "round"] ++ zs)) sp_cells)
    (c_cells_rule_drops : CalN P w K mg base 5 "cells" ps_cells 1 ["rule", "drops"] (fun vs zs => vs ++ ([] ++ zs)) sp_cells)
    (c__law_shares_right : Cal P w K mg base 6 "_law_shares_right" ["_law_parts"] sp_l_shares_right) :
    FnOk P w K mg base CX0 7 f fd ["_law_places", "_law_first", "_law_second"] sp_l_right := by
  refine F.ok sc_l_right (fun vs H Q E h => ?_) (fun cdv A outer s H vs Q E hr h => ?_)
  · obtain ⟨v, _, _, _, _, rfl, _⟩ := h; rfl
  · refine ⟨_, (pss_cons (ps_set (i := 3) sc_l_right.nd rfl (.inl rfl) (pe_lst (pa_cons (pe_lst (pa_cons (pe_slice sl_list (pv 0) (po_some (pv 1)) (po_some (pe_op op_add (pv 2) pe_int))) pa_nil)) (pa_cons (pe_lst (pa_cons (pe_op op_cat (pe_slice sl_list (pv 0) (po_some (pv 2)) po_none) (pe_slice sl_list (pv 0) po_none (po_some (pe_op op_add (pv 1) pe_int)))) pa_nil)) pa_nil))))
 (pss_cons (ps_set (i := 4) sc_l_right.nd rfl (.inl rfl) (pe_calN c_cells_drops (hr.mono (by decide)) (by rfl) (pa_cons (pe_lst (pa_cons (pv 0) pa_nil)) pa_nil) (pk_cons pe_bl pk_nil)))
 (pss_cons (ps_setLc (i := 5) (own := [("_law_part", 6)]) rfl sc_l_right.nd rfl rfl (sw_true rfl rfl rfl (by decide +kernel)) (pi_list (pv 3)) (blkOk_by (N := n_l_right) (sc := defScope s_l_right) (own := [("_law_part", 6)]) (by decide +kernel)) (fun _ _ _ _ _ => (pg_name (i := 6) sc_l_right.nd rfl (.inl rfl))) (fun _ _ _ _ _ => pts_nil) (fun _ _ _ _ _ => (pe_calN c_cells_drops (hr.mono (by decide)) (by rfl) (pa_cons (pv 6) pa_nil) (pk_cons pe_bl pk_nil))))
 (pss_cons (ps_for PassesOwn.never rfl (pi_zip (by rfl) Bl.zip_ (pa_cons (pv 3) (pa_cons (pv 5) pa_nil))) (pg_tup (by rfl) (pgs_cons (pg_name (i := 6) sc_l_right.nd rfl (.inl rfl)) (pgs_cons (pg_name (i := 7) sc_l_right.nd rfl (.inl rfl)) pgs_nil)))
 (pss_one (ps_if (PW.pt (pw_or (pt_cmpR (op_neD hr.units) (pe_calN c_cells_drops (hr.mono (by decide)) (by rfl) (pa_cons (pe_lst (pa_cons (pe_revL (pe_ix ix_list (pv 6) pe_int (fun _ _ => rfl))) pa_nil)) pa_nil) (pk_cons pe_bl pk_nil)) (pv 7) (nomark _)) (pw_or1 (pt_cmpR (op_neD hr.units) (pe_calN c_cells_rule_drops (hr.mono (by decide)) (by rfl) (pa_cons (pv 6) pa_nil) (pk_cons pe_str (pk_cons pe_bl pk_nil))) (pv 7) (nomark _)))))
 (pss_one (ps_ret pe_bl))
 pss_nil)))
 (pss_cons (ps_if (pt_cmpR (op_neD hr.units) (pe_cal c_in_both (hr.mono (by decide)) (by rfl) (pa_cons (pe_ix ix_list (pv 5) pe_int (fun _ _ => rfl)) (pa_cons (pe_ix ix_list (pv 5) pe_int (fun _ _ => rfl)) pa_nil))) (pe_lst pa_nil) (nomark _))
 (pss_one (ps_ret pe_bl))
 pss_nil)
 (pss_cons (ps_if (pt_cmpR (op_neD hr.units) (pe_callB cr_sortedPO (by rfl) Bl.sorted_ (by decide +kernel) (pa_cons (pe_op op_cat (pe_cal c__law_cells_of (hr.mono (by decide)) (by rfl) (pa_cons (pe_ix ix_list (pv 5) pe_int (fun _ _ => rfl)) pa_nil)) (pe_cal c__law_cells_of (hr.mono (by decide)) (by rfl) (pa_cons (pe_ix ix_list (pv 5) pe_int (fun _ _ => rfl)) pa_nil))) pa_nil)) (pe_cal c__law_cells_of (hr.mono (by decide)) (by rfl) (pa_cons (pv 4) pa_nil)) (nomark _))
 (pss_one (ps_ret pe_bl))
 pss_nil)
 (pss_cons (ps_for PassesOwn.never rfl (pi_list (pe_lst (pa_cons pe_str (pa_cons pe_str pa_nil)))) (pg_name (i := 8) sc_l_right.nd rfl (.inl rfl))
 (pss_one (ps_if (pt_cmpR (op_neD hr.units) (pe_calN c_cells_rule_drops (hr.mono (by decide)) (by rfl) (pa_cons (pe_lst (pa_cons (pe_ix ix_list (pe_ix ix_list (pv 3) pe_int (fun _ _ => rfl)) pe_int (fun _ _ => rfl)) (pa_cons (pe_ix ix_list (pe_ix ix_list (pv 3) pe_int (fun _ _ => rfl)) pe_int (fun _ _ => rfl)) pa_nil))) pa_nil) (pk_cons (pv 8) (pk_cons pe_bl pk_nil))) (pv 4) (nomark _))
 (pss_one (ps_ret pe_bl))
 pss_nil)))
 (pss_cons (ps_set (i := 9) sc_l_right.nd rfl (.inr rfl) (pe_op op_cat (pe_cal c__law_cells_of (hr.mono (by decide)) (by rfl) (pa_cons (pe_calD c_cells_ (hr.mono (by decide)) (by rfl) (pa_cons (pe_ix ix_list (pv 3) pe_int (fun _ _ => rfl)) pa_nil)) pa_nil)) (pe_cal c__law_cells_of (hr.mono (by decide)) (by rfl) (pa_cons (pe_calD c_cells_ (hr.mono (by decide)) (by rfl) (pa_cons (pe_ix ix_list (pv 3) pe_int (fun _ _ => rfl)) pa_nil)) pa_nil))))
 (pss_cons (ps_if (pt_cmpR (op_neD hr.units) (pe_lc (own := [("_law_cell_here", 10)]) rfl sc_l_right.nd (pi_list (pe_cal c__law_cells_of (hr.mono (by decide)) (by rfl) (pa_cons (pe_calD c_cells_ (hr.mono (by decide)) (by rfl) (pa_cons (pe_lst (pa_cons (pv 0) pa_nil)) pa_nil)) pa_nil))) (blkOk_by (N := n_l_right) (sc := defScope s_l_right) (own := [("_law_cell_here", 10)]) (by decide +kernel)) (fun _ _ _ _ _ => (pg_name (i := 10) sc_l_right.nd rfl (.inl rfl))) (fun _ _ _ _ _ => (pts_one (pt_cmpR (r := rNotInD K) (op_notInD (units65 hr)) (pv 10) (pv 9) (by rfl)))) (fun _ _ _ _ _ => (pv 10))) (pe_lst pa_nil) (nomark _))
 (pss_one (ps_ret pe_bl))
 pss_nil)
 (pss_one (ps_ret (pe_cal c__law_shares_right (hr.mono (by decide)) (by rfl) (pa_cons (pv 3) pa_nil))))))))))))), ?_⟩
    obtain ⟨v, B, L, f, s, rfl, ⟨a, vs, rfl, ha, hp⟩, hfs, hsl, hl12, ok, q⟩ := h
    have lvs : vs.length = L.length := Paired.length hp
    have es : sizeLine = 2 ^ 24 := rfl
    have g1 : ∀ R : V → Pt → Prop, Paired R vs L → Paired R (cutV vs (some (f : Int)) (some ((s : Int) + 1))) ((L.drop f).take (s + 1 - f)) := fun R h => by
      rw [cut_mid (by omega) (by omega)]
      exact K79.Paired.takeN _ (K79.Paired.dropN _ h)
    have g2 : ∀ R : V → Pt → Prop, Paired R vs L → Paired R (cutV vs (some (s : Int)) none ++ cutV vs none (some ((f : Int) + 1))) (L.drop s ++ L.take (f + 1)) := fun R h => by
      rw [cut_end (by omega), cut_beg (by omega)]
      exact K79.Paired.app (K79.Paired.dropN _ h) (K79.Paired.takeN _ h)
    -- the two parts
    refine ⟨_, rfl, _, rfl, f, rfl, _, rfl, _, _, rfl, rfl, (s : Int) + 1, rfl, a, vs, rfl, .of ha, fun p1 hp1 => ?_⟩
    refine ⟨by show 1 ≤ sizeLine; decide, fun l1 hl1 => ?_⟩
    have s1 := same_upd hp1 (o := .lst (cutV vs (some (f : Int)) (some ((s : Int) + 1))))
    have s2 := same_upd hl1 (o := .lst [.ref p1])
    have ha2 := (s1.trans s2) _ _ ha
    refine ⟨_, rfl, _, rfl, s, rfl, a, vs, rfl, .of ha2, fun p2 hp2 => ?_⟩
    have s3 := same_upd hp2 (o := .lst (cutV vs (some (s : Int)) none))
    refine ⟨_, rfl, _, rfl, _, _, rfl, rfl, (f : Int) + 1, rfl, a, vs, rfl, .of (s3 _ _ ha2), fun p3 hp3 => ?_⟩
    have s4 := same_upd hp3 (o := .lst (cutV vs none (some ((f : Int) + 1))))
    refine ⟨p2, p3, _, _, rfl, rfl, s4 _ _ upd_same, upd_same, ?_, fun p4 hp4 => ?_⟩
    · have := cutV_length vs (some (s : Int)) none
      have := cutV_length vs none (some ((f : Int) + 1))
      omega
    have s5 := same_upd hp4 (o := .lst (cutV vs (some (s : Int)) none ++ cutV vs none (some ((f : Int) + 1))))
    refine ⟨by show 1 ≤ sizeLine; decide, fun l2 hl2 => ?_⟩
    have s6 := same_upd hl2 (o := .lst [.ref p4])
    refine ⟨by show 2 ≤ sizeLine; decide, fun l3 hl3 => ?_⟩
    have s7 := same_upd hl3 (o := .lst [.ref l1, .ref l2])
    have sA := s1.trans (s2.trans (s3.trans (s4.trans (s5.trans (s6.trans s7)))))
    have pV := mono_all (mono_pl B) sA hp
    have hA : Lst (Parts B) (upd (upd (upd (upd (upd (upd (upd H p1 (.lst (cutV vs (some (f : Int)) (some ((s : Int) + 1))))) l1 (.lst [.ref p1])) p2 (.lst (cutV vs (some (s : Int)) none))) p3 (.lst (cutV vs none (some ((f : Int) + 1))))) p4 (.lst (cutV vs (some (s : Int)) none ++ cutV vs none (some ((f : Int) + 1))))) l2 (.lst [.ref p4])) l3 (.lst [.ref l1, .ref l2])) (.ref l3) [[(L.drop f).take (s + 1 - f)], [L.drop s ++ L.take (f + 1)]] := by
      refine ⟨l3, _, rfl, upd_same, .cons ⟨l1, _, rfl, (s3.trans (s4.trans (s5.trans (s6.trans s7)))) _ _ upd_same, .cons ⟨p1, _, rfl, (s2.trans (s3.trans (s4.trans (s5.trans (s6.trans s7))))) _ _ upd_same, ?_⟩ .nil⟩ (.cons ⟨l2, _, rfl, s7 _ _ upd_same, .cons ⟨p4, _, rfl, (s6.trans s7) _ _ upd_same, ?_⟩ .nil⟩ .nil)⟩
      · exact g1 _ pV
      · exact g2 _ pV
    have haA := sA _ _ ha
    generalize upd (upd (upd (upd (upd (upd (upd H p1 (.lst (cutV vs (some (f : Int)) (some ((s : Int) + 1))))) l1 (.lst [.ref p1])) p2 (.lst (cutV vs (some (s : Int)) none))) p3 (.lst (cutV vs none (some ((f : Int) + 1))))) p4 (.lst (cutV vs (some (s : Int)) none ++ cutV vs none (some ((f : Int) + 1))))) l2 (.lst [.ref p4])) l3 (.lst [.ref l1, .ref l2]) = H1 at sA pV hA haA ⊢
    generalize (L.drop f).take (s + 1 - f) = pA at hA ok
    generalize L.drop s ++ L.take (f + 1) = pQ at hA ok
    clear s1 s2 s3 s4 s5 s6 s7 hp1 hp2 hp3 hp4 hl1 hl2 hl3 ha2
    obtain ⟨c3, w1, w2, e3, h3, hA1, hA2⟩ := lst2 hA
    cases e3
    have hmono := mono_parts B
    -- the whole
    refine ⟨_, rfl, by show 1 ≤ sizeLine; decide, fun l4 hl4 => ?_⟩
    have s4 := same_upd hl4 (o := .lst [.ref a])
    refine ⟨rfl, rfl, .ref l4, B, [L], false, false, rfl, ⟨l4, _, rfl, upd_same, .cons ⟨a, vs, rfl, s4 _ _ haA, mono_all (mono_pl B) s4 pV⟩ .nil⟩, ok.oP, fun vW H2 s5 lW => ?_⟩
    have s12 := s4.trans s5
    clear hl4
    -- each part
    refine ⟨_, rfl, l3, rfl, ⟨_, .of (s12 _ _ h3)⟩, fun D hD => ?_⟩
    let cs : List (List Row3) := [cellsM B [pA] false false, cellsM B [pQ] false false]
    refine lc_list (K := K) (a := l3) (xs := [w1, w2]) (fun j H'' => Same H2 H'' ∧ Grow (Lst T3) H'' D (cs.take j)) ⟨same_upd hD, Grow.start⟩ (fun j H'' _ h => .of ((s12.trans h.1) _ _ h3)) (fun j x H'' hj h => ?_) (fun H3 h => ?_)
    · obtain ⟨s6, g6⟩ := h
      have hj2 : j < 2 := (List.getElem?_eq_some_iff.mp hj).1
      have hx : ∃ p, OkP B [p] ∧ Parts B H'' x [p] ∧ cs[j]? = some (cellsM B [p] false false) := by
        match j, hj with
        | 0, hj =>
          have e : w1 = x := Option.some.inj hj
          subst e
          exact ⟨pA, ok.oA, hmono _ _ _ _ (s12.trans s6) hA1, rfl⟩
        | 1, hj =>
          have e : w2 = x := Option.some.inj hj
          subst e
          exact ⟨pQ, ok.oQ, hmono _ _ _ _ (s12.trans s6) hA2, rfl⟩
      obtain ⟨p, okp, hxp, hw⟩ := hx
      obtain ⟨ds, hds, pds⟩ := id g6
      have lds := g6.len hds
      refine ⟨rfl, _, rfl, rfl, rfl, x, B, [p], false, false, rfl, hxp, okp, fun v7 H7 s7 l7 => ?_⟩
      refine ⟨ds, s7 _ _ hds, ?_, same_mut (s6.trans s7) hD, ?_⟩
      · rw [lds, List.length_take]
        exact small1000 (by omega)
      · rw [List.take_add_one, hw]
        exact (g6.keep (mono_lst mono_t3) s7).snoc (s7 _ _ hds) (l7.rem tups_t3 hds (s7 _ _ hds))
    · obtain ⟨s6, g6⟩ := h
      have g6 : Grow (Lst T3) H3 D cs := g6
      have n6 := (g6.done (mono_lst mono_t3) hD).lst
      have s13 := s12.trans s6
      have lW3 := mono_lst mono_t3 _ _ _ _ s6 lW.lst
      obtain ⟨c5, y1, y2, e5, h5, hY1, hY2⟩ := lst2 n6
      cases e5
      have h33 := s13 _ _ h3
      have pA3 := hmono _ _ _ _ s13 hA1
      have pQ3 := hmono _ _ _ _ s13 hA2
      have pV3 := mono_all (mono_pl B) s13 pV
      have ha3 := s13 _ _ haA
      have sT := sA.trans s13
      clear s4 s5 s12 s6 g6 n6 hD sA s13 hA1 hA2 hA h3 haA pV lW
      -- either way round, by both rules
      refine ⟨_, rfl, _, rfl, l3, D, _, _, rfl, .of h33, .of h5, ?_⟩
      refine for_it (walk_zip (K := K) (a := l3) (b := D) (xs := [w1, w2]) (ys := [y1, y2]) (n := 2) rfl) (fun j σ H' => ∃ z6 z7 z8 z9 z10, σ = [some (.ref a), some (.int f), some (.int s), some (.ref l3), some vW, some (.ref D), z6, z7, z8, z9, z10] ∧ Same H3 H') ⟨_, _, _, _, _, rfl, .refl _⟩ (fun j σ H' _ h => ?_) (fun j x σ H' H4 hj h hy => ?_) (fun σ H4 h => ?_)
      · obtain ⟨_, _, _, _, _, _, s8⟩ := h
        exact ⟨.of (s8 _ _ h33), .of (s8 _ _ h5)⟩
      · obtain ⟨z6, z7, z8, z9, z10, rfl, s8⟩ := h
        obtain ⟨T, x1, x2, rfl, hT, rfl, e1, e2⟩ := hy
        have s9 := s8.trans (same_upd hT (o := .tup [x1, x2]))
        have hx : ∃ p, OkP B [p] ∧ OkP B [p.reverse] ∧ Parts B H3 x1 [p] ∧ Lst T3 H3 x2 (cellsM B [p] false false) ∧ cellsM B [p.reverse] false false = cellsM B [p] false false ∧ cellsM B [p] true false = cellsM B [p] false false := by
          match j, e1, e2 with
          | 0, e1, e2 =>
            have e1 : w1 = x1 := Option.some.inj e1
            have e2 : y1 = x2 := Option.some.inj e2
            subst e1; subst e2
            exact ⟨pA, ok.oA, ok.oAr, pA3, hY1, ok.f1.1.1, ok.f1.1.2⟩
          | 1, e1, e2 =>
            have e1 : w2 = x1 := Option.some.inj e1
            have e2 : y2 = x2 := Option.some.inj e2
            subst e1; subst e2
            exact ⟨pQ, ok.oQ, ok.oQr, pQ3, hY2, ok.f1.2.1, ok.f1.2.2⟩
        obtain ⟨p, okp, okr, hx1, hx2, q1, q2⟩ := hx
        refine ⟨T, _, rfl, .of upd_same, rfl, _, _, rfl, _, _, rfl, rfl, ?_⟩
        obtain ⟨b1, m1, rfl, hb1, hm1⟩ := lst1 hx1
        obtain ⟨b2, us, rfl, hb2, hu2⟩ := hm1
        have kb1 := s9 _ _ hb1
        have kb2 := s9 _ _ hb2
        have ku2 := mono_all (mono_pl B) s9 hu2
        refine ⟨_, rfl, b1, _, 0, .ref b2, rfl, rfl, .of kb1, rfl, b2, us, rfl, .of kb2, fun R hR => ?_⟩
        have s10 := same_upd hR (o := .lst us.reverse)
        refine ⟨by show 1 ≤ sizeLine; decide, fun W hW => ?_⟩
        have s11 := same_upd hW (o := .lst [.ref R])
        refine ⟨rfl, rfl, .ref W, B, [p.reverse], false, false, rfl, ⟨W, _, rfl, upd_same, .cons ⟨R, _, rfl, s11 _ _ upd_same, K79.Paired.rev (mono_all (mono_pl B) (s10.trans s11) ku2)⟩ .nil⟩, okr, fun v12 H12 s12 l12 => ?_⟩
        have s0 := s9.trans (s10.trans (s11.trans s12))
        rw [q1] at l12
        refine ⟨_, rfl, ne_self3 l12.lst (mono_lst mono_t3 _ _ _ _ s0 hx2) ?_⟩
        refine ⟨_, rfl, iteF ?_⟩
        refine ⟨_, rfl, rfl, rfl, .ref b1, B, [p], true, false, rfl, ⟨b1, _, rfl, s0 _ _ hb1, .cons ⟨b2, _, rfl, s0 _ _ hb2, mono_all (mono_pl B) s0 hu2⟩ .nil⟩, okp, fun v13 H13 s13 l13 => ?_⟩
        rw [q2] at l13
        refine ⟨_, rfl, ne_self3 l13.lst (mono_lst mono_t3 _ _ _ _ (s0.trans s13) hx2) ?_⟩
        refine ⟨_, rfl, iteF ?_⟩
        exact ⟨_, _, _, _, _, rfl, s0.trans s13⟩
      · obtain ⟨z6, z7, z8, z9, z10, rfl, s8⟩ := h
        -- they share no cell
        have sp := fun (p : List Pt) (h : OkP B [p]) => h.spans false false
        refine ⟨_, rfl, D, _, 0, y1, rfl, rfl, .of (s8 _ _ h5), rfl, _, rfl, D, _, 1, y2, rfl, rfl, .of (s8 _ _ h5), rfl, ?_⟩
        refine ⟨y1, y2, _, _, rfl, mono_lst mono_t3 _ _ _ _ s8 hY1, mono_lst mono_t3 _ _ _ _ s8 hY2, (sp _ ok.oA).1, (sp _ ok.oQ).1, fun v9 H9 s9 l9 => ?_⟩
        rw [ok.f2] at l9
        refine ⟨Nat.zero_le _, fun E1 hE1 => ?_⟩
        have s10 := same_upd hE1 (o := .lst [])
        refine ne_self3 (l := []) (mono_lst mono_t3 _ _ _ _ s10 l9) ⟨E1, [], rfl, upd_same, .nil⟩ ?_
        refine ⟨_, rfl, iteF ?_⟩
        have s90 := s8.trans (s9.trans s10)
        generalize upd H9 E1 (.lst []) = H10 at s90 ⊢
        clear s8 s9 s10 l9 hE1
        -- together they have the whole's cells
        obtain ⟨nA1, nA2⟩ := ok.oA.near false false
        obtain ⟨nQ1, nQ2⟩ := ok.oQ.near false false
        obtain ⟨nP1, nP2⟩ := ok.oP.near false false
        refine ⟨_, rfl, D, _, 0, y1, rfl, rfl, .of (s90 _ _ h5), rfl, y1, _, rfl, mono_lst mono_t3 _ _ _ _ s90 hY1, by omega, nA2, fun v11 H11 s11 l11 => ?_⟩
        refine ⟨_, rfl, D, _, 1, y2, rfl, rfl, .of ((s90.trans s11) _ _ h5), rfl, y2, _, rfl, mono_lst mono_t3 _ _ _ _ (s90.trans s11) hY2, by omega, nQ2, fun v12 H12 s12 l12 => ?_⟩
        obtain ⟨i11, u11, rfl, h11, p11⟩ := mono_lst mono_t2 _ _ _ _ s12 l11
        obtain ⟨i12, u12, rfl, h12, p12⟩ := l12
        refine ⟨i11, i12, u11, u12, rfl, rfl, h11, h12, ?_, fun i13 h13 => ?_⟩
        · have a1 := Paired.length p11
          have a2 := Paired.length p12
          have a3 := cellsOf_len nA1 nA2
          have a4 := cellsOf_len nQ1 nQ2
          omega
        have s13 := same_upd h13 (o := .lst (u11 ++ u12))
        have p13 := mono_all mono_t2 s13 (K79.Paired.app p11 p12)
        refine ⟨i13, u11 ++ u12, kkOf _, rfl, .of upd_same, kk_hk p13, fun ys i14 srt stb h14 => ?_⟩
        have p14 := sorted_pairs p13 srt stb
        have s14 := same_upd h14 (o := .lst ys)
        have s91 := s90.trans (s11.trans (s12.trans (s13.trans s14)))
        refine ⟨_, rfl, vW, _, rfl, mono_lst mono_t3 _ _ _ _ s91 lW3, by omega, nP2, fun v15 H15 s15 l15 => ?_⟩
        rw [← ok.f3] at l15
        refine ne_self2 ⟨i14, ys, rfl, s15 _ _ upd_same, mono_all mono_t2 (s14.trans s15) p14⟩ l15 ?_
        refine ⟨_, rfl, iteF ?_⟩
        have s92 := s91.trans s15
        clear s11 s12 s13 s14 s15 l15 p14 p13 p12 p11 h11 h12 h13 h14 s91 s90 srt stb l11
        -- both parts handed in together
        refine ⟨by show 2 ≤ sizeLine; decide, fun k1 hk1 => ?_⟩
        have s16 := same_upd hk1 (o := .lst [.str "round", .str "odd"])
        refine ⟨k1, rfl, ⟨_, .of upd_same⟩, for_list (xs := [.str "round", .str "odd"]) (fun j σ H' => ∃ z6 z7 z8 z9 z10, σ = [some (.ref a), some (.int f), some (.int s), some (.ref l3), some vW, some (.ref D), z6, z7, z8, z9, z10] ∧ Same (upd H15 k1 (.lst [.str "round", .str "odd"])) H') ⟨_, _, _, _, _, rfl, .refl _⟩ (fun j σ H' _ h => ?_) (fun j x σ H' hj h => ?_) (fun σ H4 h => ?_)⟩
        · obtain ⟨_, _, _, _, _, _, s17⟩ := h
          exact .of (s17 _ _ upd_same)
        · obtain ⟨z6, z7, z8, z9, z10, rfl, s17⟩ := h
          have s0 := s92.trans (s16.trans s17)
          have hx : ∃ odd, x = .str (ruleS odd) := by
            match j, hj with
            | 0, hj => exact ⟨false, (Option.some.inj hj).symm⟩
            | 1, hj => exact ⟨true, (Option.some.inj hj).symm⟩
          obtain ⟨odd, rfl⟩ := hx
          obtain ⟨b1, m1, rfl, hb1, hm1⟩ := lst1 pA3
          obtain ⟨b2, m2, rfl, hb2, hm2⟩ := lst1 pQ3
          refine ⟨_, rfl, l3, _, 0, .ref b1, rfl, rfl, .of (s0 _ _ h33), rfl, b1, _, 0, m1, rfl, rfl, .of (s0 _ _ hb1), rfl, ?_⟩
          refine ⟨_, rfl, l3, _, 1, .ref b2, rfl, rfl, .of (s0 _ _ h33), rfl, b2, _, 0, m2, rfl, rfl, .of (s0 _ _ hb2), rfl, ?_⟩
          refine ⟨by show 2 ≤ sizeLine; decide, fun W hW => ?_⟩
          have s18 := same_upd hW (o := .lst [m1, m2])
          have s1 := s0.trans s18
          refine ⟨_, rfl, rfl, rfl, .ref W, B, [pA, pQ], odd, false, rfl, ⟨W, _, rfl, upd_same, .cons (mono_lst (mono_pl B) _ _ _ _ s1 hm1) (.cons (mono_lst (mono_pl B) _ _ _ _ s1 hm2) .nil)⟩, ok.oB, fun v19 H19 s19 l19 => ?_⟩
          rw [ok.f4] at l19
          refine ⟨_, rfl, ne_self3 l19.lst (mono_lst mono_t3 _ _ _ _ (s1.trans s19) lW3) ?_⟩
          refine ⟨_, rfl, iteF ?_⟩
          exact ⟨_, _, _, _, _, rfl, s17.trans (s18.trans s19)⟩
        · obtain ⟨z6, z7, z8, z9, z10, rfl, s17⟩ := h
          have s0 := s92.trans (s16.trans s17)
          clear s16 s17 s92 hk1
          obtain ⟨dA1, dA2⟩ := ok.oA.near false true
          obtain ⟨dQ1, dQ2⟩ := ok.oQ.near false true
          obtain ⟨dP1, dP2⟩ := ok.oP.near false true
          -- with drops no cell is lost
          refine ⟨_, rfl, l3, _, 0, w1, rfl, rfl, .of (s0 _ _ h33), rfl, w1, B, [pA], false, true, rfl, hmono _ _ _ _ s0 pA3, ok.oA, fun v20 H20 s20 l20 => ?_⟩
          refine ⟨v20, _, rfl, l20.lst, by omega, dA2, fun v21 H21 s21 l21 => ?_⟩
          have t1 := s0.trans (s20.trans s21)
          refine ⟨_, rfl, l3, _, 1, w2, rfl, rfl, .of (t1 _ _ h33), rfl, w2, B, [pQ], false, true, rfl, hmono _ _ _ _ t1 pQ3, ok.oQ, fun v22 H22 s22 l22 => ?_⟩
          refine ⟨v22, _, rfl, l22.lst, by omega, dQ2, fun v23 H23 s23 l23 => ?_⟩
          obtain ⟨i11, u11, rfl, h11, p11⟩ := mono_lst mono_t2 _ _ _ _ (s22.trans s23) l21
          obtain ⟨i12, u12, rfl, h12, p12⟩ := l23
          refine ⟨i11, i12, u11, u12, rfl, rfl, h11, h12, ?_, fun i13 h13 => ?_⟩
          · have a1 := Paired.length p11
            have a2 := Paired.length p12
            have a3 := cellsOf_len dA1 dA2
            have a4 := cellsOf_len dQ1 dQ2
            omega
          have s13 := same_upd h13 (o := .lst (u11 ++ u12))
          have p13 : Lst T2 (upd H23 i13 (.lst (u11 ++ u12))) (.ref i13) (cellsOfM (cellsM B [pA] false true) ++ cellsOfM (cellsM B [pQ] false true)) := ⟨i13, _, rfl, upd_same, mono_all mono_t2 s13 (K79.Paired.app p11 p12)⟩
          have t2 := t1.trans (s22.trans (s23.trans s13))
          generalize upd H23 i13 (.lst (u11 ++ u12)) = H24 at t2 p13 ⊢
          clear s20 l20 s21 l21 t1 s22 l22 s23 p11 p12 h11 h12 h13 s13 s0
          refine ⟨_, rfl, by show 1 ≤ sizeLine; decide, fun k4 hk4 => ?_⟩
          have s25 := same_upd hk4 (o := .lst [.ref a])
          refine ⟨.ref k4, B, [L], false, true, rfl, ⟨k4, _, rfl, upd_same, .cons ⟨a, vs, rfl, (t2.trans s25) _ _ ha3, mono_all (mono_pl B) (t2.trans s25) pV3⟩ .nil⟩, ok.oP, fun v26 H26 s26 l26 => ?_⟩
          refine ⟨v26, _, rfl, l26.lst, by omega, dP2, fun v27 H27 s27 l27 => ?_⟩
          have t3 := t2.trans (s25.trans (s26.trans s27))
          have p27 := mono_lst mono_t2 _ _ _ _ (s25.trans (s26.trans s27)) p13
          obtain ⟨i28, u28, rfl, h28, p28⟩ := l27
          refine ⟨i28, rfl, ⟨_, .of h28⟩, fun D2 hD2 => ?_⟩
          refine lc_list (K := K) (a := i28) (xs := u28) (fun j H'' => Same H27 H'' ∧ H'' D2 = some (.lst [])) ⟨same_upd hD2, upd_same⟩ (fun j H'' _ h => .of (h.1 _ _ h28)) (fun j x H'' hj h => ?_) (fun H'' h => ?_)
          · obtain ⟨s29, d29⟩ := h
            obtain ⟨pt, hpt, hx⟩ := Paired.get p28 hj
            have hm := ok.f5 pt (List.mem_of_getElem? hpt)
            refine ⟨rfl, _, rfl, _, rfl, not_in2 (mono_t2 _ _ _ _ s29 hx) (mono_lst mono_t2 _ _ _ _ s29 p27) hm ?_⟩
            exact ⟨_, rfl, iteF ⟨s29, d29⟩⟩
          · obtain ⟨s29, d29⟩ := h
            refine ⟨Nat.zero_le _, fun E1 hE1 => ?_⟩
            have s30 := same_upd hE1 (o := .lst [])
            refine ne_self3 (l := []) ⟨D2, [], rfl, s30 _ _ d29, .nil⟩ ⟨E1, [], rfl, upd_same, .nil⟩ ?_
            refine ⟨_, rfl, iteF ?_⟩
            -- what both parts share
            have t4 := t3.trans (s29.trans s30)
            exact ⟨_, rfl, .ref l3, B, pA, pQ, rfl, ⟨l3, _, rfl, t4 _ _ h33, .cons (hmono _ _ _ _ t4 pA3) (.cons (hmono _ _ _ _ t4 pQ3) .nil)⟩, ok.oA, ok.oQ, ok.f6, fun H31 s31 => q _ (sT.trans (t4.trans s31))⟩
end
end K79

/-! #### part K79W23 -/
namespace K79
open PySem PySem.Spec PyProof.Rows L2 L2.DX
/-- what holds between two statements -/
theorem tSeq_cut {t u : TS} {D : Ends} {σ : K79.St} {H : Hp} (J : K79.St → Hp → Prop) (hu : ∀ σ' H', J σ' H' → u D σ' H') (ht : ∀ nx : K79.St → Hp → Prop, (∀ σ' H', J σ' H' → nx σ' H') → t { D with nx := nx } σ H) : tSeq t u D σ H := ht _ hu
section
variable {P : Program} {w : World} {K : PySem.W.Frag} {mg : Str → Option Value} {base : Heap}
abbrev s_law : Stmt := topS 53
abbrev n_law : List Str := ["_law_script", "_law_k", "_law_box_here", "_law_base", "_law_pairs", "_law_first", "_law_second", "_law_places", "_law_x", "_law_y"]
theorem sc_law : FnScope n_law ["_law_script"] (defScope s_law) := ⟨rfl, rfl, rfl, by decide +kernel, rfl, by decide +kernel, by decide +kernel⟩
def sp_law (K : PySem.W.Frag) : Sp := fun vs H Q _ => ∃ (a : Addr) (ns : List Int), vs = [.ref a] ∧ SqL K H a (ns.map V.int) ∧ ∀ H', Q (.bl true) H'
theorem ok_law (Bl : Blt mg) {f : Addr} {fd : FuncData} (F : Fun K "law" "law" s_law f fd)
    (c__law_cell : Cal P w K mg base 1 "_law_cell" ["_law_script", "_law_k"] (sp_l_cell K)) (c__law_box : Cal P w K mg base 1 "_law_box" ["_law_cell_here"] sp_l_box) (c__law_take : Cal P w K mg base 1 "_law_take" ["_law_box_here", "_law_many"] sp_l_take)
    (c__law_boxes : Cal P w K mg base 2 "_law_boxes" ["_law_box_here"] sp_l_pairs) (c__law_round : Cal P w K mg base 2 "_law_round" ["_law_box_here"] sp_l_pairs) (c__law_number : Cal P w K mg base 1 "_law_number" ["_law_top", "_law_base"] sp_l_number)
    (c__law_right : Cal P w K mg base 7 "_law_right" ["_law_places", "_law_first", "_law_second"] sp_l_right) : FnOk P w K mg base CX0 8 f fd ["_law_script"] (sp_law K) := by
  refine F.ok sc_law (fun vs H Q E h => ?_) (fun cdv A outer s H vs Q E hr h => ?_)
  · obtain ⟨a, _, rfl, _⟩ := h; rfl
  · refine ⟨_, (pss_cons (ps_for PassesOwn.never rfl (pi_range1 (by rfl) Bl.range_ (pa_cons (pe_callB (call_max2 rfl) (by rfl) Bl.max_ (by decide +kernel) (pa_cons pe_int (pa_cons (pe_callB (call_min2 rfl) (by rfl) Bl.min_ (by decide +kernel) (pa_cons pe_int (pa_cons (pe_callB call_len_seq (by rfl) Bl.len_ (by decide +kernel) (pa_cons (pv 0) pa_nil)) pa_nil))) pa_nil))) pa_nil)) (pg_name (i := 1) sc_law.nd rfl (.inl rfl))
 (pss_cons (ps_set (i := 2) sc_law.nd rfl (.inl rfl) (pe_cal c__law_box (hr.mono (by decide)) (by rfl) (pa_cons (pe_cal c__law_cell (hr.mono (by decide)) (by rfl) (pa_cons (pv 0) (pa_cons (pv 1) pa_nil))) pa_nil)))
 (pss_cons (ps_set (i := 3) sc_law.nd rfl (.inr rfl) (pe_ix ix_list (pe_lst (pa_cons pe_int (pa_cons pe_int (pa_cons pe_int (pa_cons pe_int (pa_cons (pe_op op_add pe_int (pe_cal c__law_take (hr.mono (by decide)) (by rfl) (pa_cons (pv 2) (pa_cons pe_int pa_nil)))) pa_nil)))))) (pe_cal c__law_take (hr.mono (by decide)) (by rfl) (pa_cons (pv 2) (pa_cons pe_int pa_nil))) (fun _ _ => rfl)))
 (pss_cons (ps_set (i := 4) sc_law.nd rfl (.inl rfl) (pe_ifExp (pt_cmpR op_eq (pe_cal c__law_take (hr.mono (by decide)) (by rfl) (pa_cons (pv 2) (pa_cons pe_int pa_nil))) pe_int (nomark _)) (pe_cal c__law_boxes (hr.mono (by decide)) (by rfl) (pa_cons (pv 2) pa_nil)) (pe_cal c__law_round (hr.mono (by decide)) (by rfl) (pa_cons (pv 2) pa_nil))))
 (pss_cons (ps_set (i := 5) sc_law.nd rfl (.inl rfl) (pe_cal c__law_take (hr.mono (by decide)) (by rfl) (pa_cons (pv 2) (pa_cons (pe_op op_sub (pe_callB call_len_seq (by rfl) Bl.len_ (by decide +kernel) (pa_cons (pv 4) pa_nil)) pe_int) pa_nil))))
 (pss_cons (ps_set (i := 6) sc_law.nd rfl (.inl rfl) (pe_op op_add (pe_op op_add (pv 5) pe_int) (pe_cal c__law_take (hr.mono (by decide)) (by rfl) (pa_cons (pv 2) (pa_cons (pe_op op_sub (pe_op op_sub (pe_callB call_len_seq (by rfl) Bl.len_ (by decide +kernel) (pa_cons (pv 4) pa_nil)) pe_int) (pv 5)) pa_nil)))))
 (pss_cons (ps_if (PW.pt (pw_and (pt_cmpR op_eq (pe_callB call_len_seq (by rfl) Bl.len_ (by decide +kernel) (pa_cons (pv 4) pa_nil)) pe_int (nomark _)) (pw_and1 (pt_cmpR op_eq (pe_ix ix_tup (pe_ix ix_list (pv 4) pe_int (fun _ _ => rfl)) pe_int (fun _ _ => rfl)) (pe_ix ix_tup (pe_ix ix_list (pv 4) pe_int (fun _ _ => rfl)) pe_int (fun _ _ => rfl)) (nomark _)))))
 (pss_one (ps_asg (pe_tup (pa_cons pe_int (pa_cons pe_int pa_nil))) (pg_tup (by rfl) (pgs_cons (pg_name (i := 5) sc_law.nd rfl (.inl rfl)) (pgs_cons (pg_name (i := 6) sc_law.nd rfl (.inl rfl)) pgs_nil)))))
 pss_nil)
 (pss_cons (ps_setLc (i := 7) (own := [("_law_x", 8), ("_law_y", 9)]) (g := (gTup K 2 (gCons (gName 8) (gCons (gName 9) gNil)))) rfl sc_law.nd rfl rfl (sw_true rfl rfl rfl (by decide +kernel)) (pi_list (pv 4)) (blkOk_by (N := n_law) (sc := defScope s_law) (own := [("_law_x", 8), ("_law_y", 9)]) (by decide +kernel)) (fun _ _ _ _ _ => (pg_tup (by rfl) (pgs_cons (pg_name (i := 8) sc_law.nd rfl (.inl rfl)) (pgs_cons (pg_name (i := 9) sc_law.nd rfl (.inl rfl)) pgs_nil)))) (fun _ _ _ _ _ => pts_nil) (fun _ _ _ _ _ => (pe_tup (pa_cons (pe_cal c__law_number (hr.mono (by decide)) (by rfl) (pa_cons (pv 8) (pa_cons (pv 3) pa_nil))) (pa_cons (pe_cal c__law_number (hr.mono (by decide)) (by rfl) (pa_cons (pv 9) (pa_cons (pv 3) pa_nil))) pa_nil)))))
 (pss_one (ps_if (pt_not (pt_val (pe_cal c__law_right (hr.mono (by decide)) (by rfl) (pa_cons (pv 7) (pa_cons (pv 5) (pa_cons (pv 6) pa_nil))))))
 (pss_one (ps_ret pe_bl))
 pss_nil))))))))))
 (pss_one (ps_ret pe_bl))), ?_⟩
    obtain ⟨a, ns, rfl, ha, q⟩ := h
    refine ⟨_, rfl, a, _, rfl, .inl ha, _, _, rfl, _, _, rfl, _, rfl, ?_, ?_, ?_⟩
    · rw [mn2, mx2]
      omega
    · rw [mn2, mx2]
      omega
    rw [mn2, mx2]
    obtain ⟨n, hn, hn5⟩ : ∃ n : Nat, (max 2 (min 5 ((ns.map V.int).length : Int))).toNat = n ∧ n ≤ 5 := ⟨_, rfl, by omega⟩
    refine for_range (lo := 0) (n := (max 2 (min 5 ((ns.map V.int).length : Int))).toNat) (fun i σ H' => ∃ z1 z2 z3 z4 z5 z6 z7 z8 z9, σ = [some (.ref a), z1, z2, z3, z4, z5, z6, z7, z8, z9] ∧ Same H H') ⟨_, _, _, _, _, _, _, _, _, rfl, .refl _⟩ (fun i σ H' hi h => ?_) (fun σ H' h => ?_)
    · obtain ⟨z1, z2, z3, z4, z5, z6, z7, z8, z9, rfl, s1⟩ := h
      have hi5 : i < 5 := by omega
      refine ⟨_, rfl, _, rfl, a, ns, i, by rw [Int.zero_add]; rfl, s1.seq ha, by omega, fun c => ?_⟩
      refine ⟨c, rfl, fun b ls hb bl => ?_⟩
      have sB := same_upd hb (o := .lst ls)
      have k0 : OKB b 0 (upd H' b (.lst ls)) (upd H' b (.lst ls)) := OKB.start upd_same bl
      have sR : Same H (rem (upd H' b (.lst ls)) b) := by
        rw [rem_upd]
        exact same_rem s1 (s1.free hb)
      generalize upd H' b (.lst ls) = H1 at sB k0 sR ⊢
      -- the base
      obtain ⟨ls0, hb0, bl0⟩ := k0.box
      refine ⟨_, rfl, b, ls0, 0, 12, rfl, hb0, bl0, by omega, by decide, by decide, fun d1 ls1 d10 d11 bl1 => ?_⟩
      have k1 := k0.take bl1
      refine ⟨_, _, rfl, rfl, by show 5 ≤ sizeLine; decide, fun l3 hl3 => ?_⟩
      have k2 := k1.new hl3 (o := .lst [.int 1, .int 1, .int 2, .int 3, .int (1 + d1)])
      have n3 : l3 ≠ b := k1.ne hl3 (o := .lst [])
      obtain ⟨ls2, hb2, bl2⟩ := k2.box
      refine ⟨_, rfl, b, ls2, 1, 5, rfl, hb2, bl2, by omega, by decide, by decide, fun d2 ls3 d20 d21 bl3 => ?_⟩
      have k3 := k2.take bl3
      obtain ⟨v, hv, av⟩ := atI_in (xs := [.int 1, .int 1, .int 2, .int 3, .int (1 + d1)]) d20 d21
      obtain ⟨B, rfl, B0, B1⟩ : ∃ B, v = .int B ∧ 0 < B ∧ B ≤ 12 := by
        simp only [List.mem_cons, List.not_mem_nil, or_false] at hv
        rcases hv with rfl | rfl | rfl | rfl | rfl
        · exact ⟨_, rfl, by decide, by decide⟩
        · exact ⟨_, rfl, by decide, by decide⟩
        · exact ⟨_, rfl, by decide, by decide⟩
        · exact ⟨_, rfl, by decide, by decide⟩
        · exact ⟨_, rfl, by omega, by omega⟩
      refine ⟨l3, _, _, .int B, rfl, rfl, .of (by rw [upd_ne n3]; exact upd_same), av, ?_⟩
      generalize upd (upd (upd H1 b (.lst ls1)) l3 (.lst [.int 1, .int 1, .int 2, .int 3, .int (1 + d1)])) b (.lst ls3) = H3 at k3 ⊢
      clear k0 k1 k2 hl3 n3 hb0 hb2 bl0 bl1 bl2 bl3 av hv
      -- the round or the boxes
      refine tSeq_cut (fun σ' H4 => ∃ z1, σ' = [some (.ref a), z1, some (.ref b), some (.int B), z4, z5, z6, z7, z8, z9] ∧ H4 = H3) (fun σ' H4 h => ?_) (fun nx hnx => hnx _ _ ⟨_, rfl, rfl⟩)
      obtain ⟨z1, rfl, rfl⟩ := h
      refine tSeq_cut (fun σ' H4 => ∃ z1 vP L, σ' = [some (.ref a), z1, some (.ref b), some (.int B), some vP, z5, z6, z7, z8, z9] ∧ OKB b 40 H1 H4 ∧ Lst T2 (rem H4 b) vP L ∧ Pairs L) (fun σ' H4 h => ?_) (fun nx hnx => ?_)
      · obtain ⟨z1, vP, L, rfl, k4, ⟨p, us, rfl, hp, pu⟩, hL⟩ := h
        obtain ⟨l0, l1⟩ := hL.len
        have lus : us.length = L.length := Paired.length pu
        have npb : p ≠ b := fun z => by rw [z, rem_self] at hp; cases hp
        have hpr : ∀ t H5, OKB b t H4 H5 → H5 p = some (.lst us) := fun t H5 k => by
          have := k.same p _ hp
          rw [rem_ne npb] at this
          exact this
        obtain ⟨ls4, hb4, bl4⟩ := k4.box
        have k40 : OKB b 40 H4 H4 := OKB.start hb4 bl4
        -- where it is cut
        refine ⟨_, rfl, _, rfl, p, us, rfl, .inl (.of (hpr _ _ k40)), _, _, rfl, rfl, b, ls4, 40, _, rfl, hb4, bl4, by omega, by show (0 : Int) < (us.length : Int) - 2; omega, by show (us.length : Int) - 2 ≤ 1000; omega, fun d5 ls5 d50 d51 bl5 => ?_⟩
        obtain ⟨f, rfl⟩ : ∃ f : Nat, d5 = f := ⟨d5.toNat, by omega⟩
        have k5 := k40.take bl5
        refine ⟨_, rfl, _, _, rfl, rfl, _, rfl, _, rfl, p, us, rfl, .inl (.of (hpr _ _ k5)), _, _, rfl, rfl, _, rfl, _, _, rfl, rfl, b, ls5, 41, _, rfl, upd_same, bl5, by omega, by show (0 : Int) < (us.length : Int) - 2 - (f : Int); omega, by show (us.length : Int) - 2 - (f : Int) ≤ 1000; omega, fun d6 ls6 d60 d61 bl6 => ?_⟩
        obtain ⟨m, rfl⟩ : ∃ m : Nat, d6 = m := ⟨d6.toNat, by omega⟩
        have k6 := k5.take bl6
        have d51 : (f : Int) < (us.length : Int) - 2 := d51
        have d61 : (m : Int) < (us.length : Int) - 2 - (f : Int) := d61
        refine ⟨_, _, rfl, rfl, ?_⟩
        have hp6 := hpr _ _ k6
        have pu6 := mono_all mono_t2 k6.same pu
        refine tSeq_cut (fun σ' H7 => ∃ z1, σ' = [some (.ref a), z1, some (.ref b), some (.int B), some (.ref p), some (.int f), some (.int ((f + 2 + m : Nat) : Int)), z7, z8, z9] ∧ H7 = upd (upd H4 b (.lst ls5)) b (.lst ls6)) (fun σ' H7 h => ?_) (fun nx hnx => hnx _ _ ⟨_, rfl, rfl⟩)
        obtain ⟨z1, rfl, rfl⟩ := h
        refine tSeq_cut (fun σ' H7 => ∃ z1, ∃ f s : Nat, σ' = [some (.ref a), z1, some (.ref b), some (.int B), some (.ref p), some (.int f), some (.int s), z7, z8, z9] ∧ f < s ∧ s < L.length ∧ Same (upd (upd H4 b (.lst ls5)) b (.lst ls6)) H7) (fun σ' H7 h => ?_) (fun nx hnx => ?_)
        · obtain ⟨z1, f, s, rfl, hf, hs, s7⟩ := h
          have hp7 := s7 _ _ hp6
          have pu7 := mono_all mono_t2 (rem_same.trans s7) pu6
          have s07 : Same H H7 := sR.trans (k4.same.trans (k6.same.trans (rem_same.trans s7)))
          refine ⟨_, rfl, p, rfl, ⟨_, .of hp7⟩, fun D hD => ?_⟩
          refine lc_list (K := K) (a := p) (xs := us) (fun j H'' => Same H7 H'' ∧ Grow (Pl B) H'' D (L.take j)) ⟨same_upd hD, Grow.start⟩ (fun j H'' _ h => .of (h.1 _ _ hp7)) (fun j x H'' hj h => ?_) (fun H'' h => ?_)
          · obtain ⟨s8, g8⟩ := h
            obtain ⟨pt, hpt, T, rfl, hT⟩ := Paired.get (mono_all mono_t2 s8 pu7) hj
            have hj2 := (List.getElem?_eq_some_iff.mp hj).1
            refine ⟨T, _, rfl, .of hT, rfl, _, _, rfl, _, _, rfl, rfl, ?_⟩
            refine ⟨rfl, _, rfl, _, rfl, pt.1, B, rfl, B0, B1, fun v1 H9 s9 n9 => ?_⟩
            refine ⟨_, rfl, _, rfl, pt.2, B, rfl, B0, B1, fun v2 H10 s10 n10 => ?_⟩
            refine ⟨by show 2 ≤ sizeLine; decide, fun T2' hT2 => ?_⟩
            have s11 := same_upd hT2 (o := .tup [v1, v2])
            have s12 := s9.trans (s10.trans s11)
            have g11 := g8.keep (mono_pl B) s12
            obtain ⟨ds, hds, pds⟩ := id g11
            have lds := g11.len hds
            refine ⟨ds, hds, ?_, same_mut (s8.trans s12) hD, ?_⟩
            · rw [lds, List.length_take]
              exact small1000 (by omega)
            · rw [List.take_add_one, hpt]
              exact g11.snoc hds (rem_pl hds ⟨T2', v1, v2, rfl, upd_same, mono_num _ _ _ _ (s10.trans s11) n9, mono_num _ _ _ _ s11 n10⟩)
          · obtain ⟨s8, g8⟩ := h
            rw [lus, List.take_length] at g8
            have n8 := (g8.done (mono_pl B) hD).lst
            refine ⟨_, rfl, _, rfl, _, rfl, .ref D, B, L, f, s, rfl, n8, hf, hs, l1, right_ok hL B0 B1 hf hs, fun H9 s9 => ?_⟩
            exact ⟨true, rfl, iteF ⟨_, _, _, _, _, _, _, _, _, rfl, s07.trans (s8.trans s9)⟩⟩
        · refine ⟨_, rfl, p, us, rfl, .inl (.of hp6), rfl, _, rfl, ite2 (fun c1 => ?_) (fun c1 => ?_)⟩
          · have c1 : (us.length : Int) = 6 := eqI'.mp c1
            have h6 : L.length = 6 := by omega
            have e0 : us[0]? = some us[0] := List.getElem?_eq_getElem (by omega)
            have e2 : us[2]? = some us[2] := List.getElem?_eq_getElem (by omega)
            obtain ⟨q0, _, t0, x0, ht0⟩ := Paired.get pu6 e0
            obtain ⟨q2, _, t2, x2, ht2⟩ := Paired.get pu6 e2
            have ht0 := rem_same _ _ ht0
            have ht2 := rem_same _ _ ht2
            refine ⟨_, rfl, p, us, 0, .ref t0, rfl, rfl, .of hp6, by rw [← x0]; exact atI_nat (j := 0) e0, t0, _, 1, .int q0.2, rfl, rfl, .of ht0, rfl, ?_⟩
            refine ⟨_, rfl, p, us, 2, .ref t2, rfl, rfl, .of hp6, by rw [← x2]; exact atI_nat (j := 2) e2, t2, _, 1, .int q2.2, rfl, rfl, .of ht2, rfl, ?_⟩
            refine ⟨rfl, _, rfl, ite2 (fun c2 => ?_) (fun c2 => ?_)⟩
            · refine ⟨by show 2 ≤ sizeLine; decide, fun T hT => ?_⟩
              refine ⟨T, _, rfl, .of upd_same, rfl, _, _, rfl, _, _, rfl, rfl, ?_⟩
              exact hnx _ _ ⟨_, 1, 4, rfl, by omega, by omega, same_upd hT⟩
            · exact hnx _ _ ⟨_, f, f + 2 + m, rfl, by omega, by omega, .refl _⟩
          · exact hnx _ _ ⟨_, f, f + 2 + m, rfl, by omega, by omega, .refl _⟩
      · obtain ⟨ls4, hb4, bl4⟩ := k3.box
        refine ⟨_, rfl, b, ls4, 2, 3, rfl, hb4, bl4, by omega, by decide, by decide, fun d4 ls5 d40 d41 bl5 => ?_⟩
        have k4 := k3.take bl5
        refine ⟨rfl, _, rfl, ite2 (fun c1 => ?_) (fun c1 => ?_)⟩
        · exact ⟨_, rfl, b, ls5, 3, rfl, upd_same, bl5, by omega, fun vP H5 L k5 lP hL => hnx _ _ ⟨_, vP, L, rfl, (k4.trans k5).mono (by omega), lP, hL⟩⟩
        · exact ⟨_, rfl, b, ls5, 3, rfl, upd_same, bl5, by omega, fun vP H5 L k5 lP hL => hnx _ _ ⟨_, vP, L, rfl, (k4.trans k5).mono (by omega), lP, hL⟩⟩
    · exact q _
end
end K79

/-! #### part K79Z -/
namespace K79
open PySem PySem.Spec PyProof.Rows L2
theorem funK_mk {K : PySem.W.Frag} {x : Str} {st : Stmt} {f D : Addr} {oc : Value} {od an : Option Addr} {osl : Array (Option Value)} {doc pm cdv ct : Value} {tR : Tok}
    (l : K.lookup f = some ⟨oc, od, .func (PySem.W.fnOf x x (defArgs st) (defBody st) (defScope st) .none (.ref D) doc pm an cdv ct), osl⟩) (c : PySem.W.codeIn K cdv x = true) (k : PySem.W.keepIn K (.ref f) = true)
    (r1 : PySem.W.nsIn K D "rule" = some (some (.str "round" tR))) (r2 : PySem.W.nsIn K D "drops" = some (some (.bool true))) : FunK K x st f (PySem.W.fnOf x x (defArgs st) (defBody st) (defScope st) .none (.ref D) doc pm an cdv ct) := by
  refine ⟨⟨oc, od, .none, .ref D, doc, pm, an, cdv, ct, osl, rfl, l, c, .inl ⟨rfl, rfl⟩, .inr ⟨D, rfl, fun q hq => ?_⟩⟩, k⟩
  rcases List.mem_cons.mp hq with rfl | hq
  · exact ⟨_, r1, ⟨_, rfl⟩⟩
  · rw [List.mem_singleton.mp hq]
    exact ⟨_, r2, rfl⟩
theorem all_mk {P : Program} {w : World} {K : PySem.W.Frag} {h : Heap} {mg : Str → Option Value} {fa : Addr} (X : K.In h) (G : h.Ns mainGlobals mg) (hfa : mg "law" = some (.ref fa))
    {f0 f1 f2 f3 f4 f5 f6 f7 f8 f9 f10 f11 f12 f13 f14 f15 f16 f17 f18 f19 f20 f21 f22 f23 f24 f25 f26 f27 f28 f29 f30 f31 f32 f33 f34 : Addr}
    {od0 an0 od1 an1 od2 an2 od3 an3 od4 an4 od5 an5 od6 an6 od7 an7 od8 an8 od9 an9 od10 an10 od11 an11 od12 an12 od13 an13 od14 an14 od15 an15 od16 an16 od17 an17 od18 an18 od19 an19 od20 an20 od21 an21 od22 an22 od23 an23 od24 an24 od25 an25 od26 an26 od27 an27 od28 an28 od29 an29 od30 an30 od31 an31 od32 an32 od33 an33 od34 an34 : Option Addr}
    {sl0 sl1 sl2 sl3 sl4 sl5 sl6 sl7 sl8 sl9 sl10 sl11 sl12 sl13 sl14 sl15 sl16 sl17 sl18 sl19 sl20 sl21 sl22 sl23 sl24 sl25 sl26 sl27 sl28 sl29 sl30 sl31 sl32 sl33 sl34 : Array (Option Value)}
    {oc0 kV0 dc0 pm0 cd0 ct0 oc1 kV1 dc1 pm1 cd1 ct1 oc2 kV2 dc2 pm2 cd2 ct2 oc3 kV3 dc3 pm3 cd3 ct3 oc4 kV4 dc4 pm4 cd4 ct4 oc5 kV5 dc5 pm5 cd5 ct5 oc6 kV6 dc6 pm6 cd6 ct6 oc7 kV7 dc7 pm7 cd7 ct7 oc8 kV8 dc8 pm8 cd8 ct8 oc9 kV9 dc9 pm9 cd9 ct9 oc10 kV10 dc10 pm10 cd10 ct10 oc11 kV11 dc11 pm11 cd11 ct11 oc12 kV12 dc12 pm12 cd12 ct12 oc13 kV13 dc13 pm13 cd13 ct13 oc14 kV14 dc14 pm14 cd14 ct14 oc15 kV15 dc15 pm15 cd15 ct15 oc16 kV16 dc16 pm16 cd16 ct16 oc17 kV17 dc17 pm17 cd17 ct17 oc18 kV18 dc18 pm18 cd18 ct18 oc19 kV19 dc19 pm19 cd19 ct19 oc20 kV20 dc20 pm20 cd20 ct20 oc21 kV21 dc21 pm21 cd21 ct21 oc22 kV22 dc22 pm22 cd22 ct22 oc23 kV23 dc23 pm23 cd23 ct23 oc24 kV24 dc24 pm24 cd24 ct24 oc25 kV25 dc25 pm25 cd25 ct25 oc26 kV26 dc26 pm26 cd26 ct26 oc27 kV27 dc27 pm27 cd27 ct27 oc28 kV28 dc28 pm28 cd28 ct28 oc29 kV29 dc29 pm29 cd29 ct29 oc30 kV30 dc30 pm30 cd30 ct30 oc31 kV31 dc31 pm31 cd31 ct31 oc32 kV32 dc32 pm32 cd32 ct32 oc33 dc33 pm33 cd33 ct33 oc34 dc34 pm34 cd34 ct34 : Value}
    {D33 D34 aR : Addr} {tr33 tr34 tR1 tR2 t_MOST_POLYGONS t_MOST_PLACES t_CELL t_HALF t_MOST_ROWS : Tok} {odR : Option Addr} {nR : Nat} {slR : Array (Option Value)}
    (a0 : PySem.W.nsIn K mainGlobals "is_plain" = some (some (.ref f0)))
    (l0 : K.lookup f0 = some ⟨oc0, od0, .func (PySem.W.fnOf "is_plain" "is_plain" (defArgs s_is_plain) (defBody s_is_plain) (defScope s_is_plain) .none kV0 dc0 pm0 an0 cd0 ct0), sl0⟩)
    (c0 : PySem.W.codeIn K cd0 "is_plain" = true)
    (k0 : PySem.W.keepIn K (.ref f0) = true)
    (a1 : PySem.W.nsIn K mainGlobals "common_part" = some (some (.ref f1)))
    (l1 : K.lookup f1 = some ⟨oc1, od1, .func (PySem.W.fnOf "common_part" "common_part" (defArgs s_common_part) (defBody s_common_part) (defScope s_common_part) .none kV1 dc1 pm1 an1 cd1 ct1), sl1⟩)
    (c1 : PySem.W.codeIn K cd1 "common_part" = true)
    (k1 : PySem.W.keepIn K (.ref f1) = true)
    (a2 : PySem.W.nsIn K mainGlobals "is_part" = some (some (.ref f2)))
    (l2 : K.lookup f2 = some ⟨oc2, od2, .func (PySem.W.fnOf "is_part" "is_part" (defArgs s_is_part) (defBody s_is_part) (defScope s_is_part) .none kV2 dc2 pm2 an2 cd2 ct2), sl2⟩)
    (c2 : PySem.W.codeIn K cd2 "is_part" = true)
    (k2 : PySem.W.keepIn K (.ref f2) = true)
    (a3 : PySem.W.nsIn K mainGlobals "is_number" = some (some (.ref f3)))
    (l3 : K.lookup f3 = some ⟨oc3, od3, .func (PySem.W.fnOf "is_number" "is_number" (defArgs s_is_number) (defBody s_is_number) (defScope s_is_number) .none kV3 dc3 pm3 an3 cd3 ct3), sl3⟩)
    (c3 : PySem.W.codeIn K cd3 "is_number" = true)
    (k3 : PySem.W.keepIn K (.ref f3) = true)
    (a4 : PySem.W.nsIn K mainGlobals "reckoned" = some (some (.ref f4)))
    (l4 : K.lookup f4 = some ⟨oc4, od4, .func (PySem.W.fnOf "reckoned" "reckoned" (defArgs s_reckoned) (defBody s_reckoned) (defScope s_reckoned) .none kV4 dc4 pm4 an4 cd4 ct4), sl4⟩)
    (c4 : PySem.W.codeIn K cd4 "reckoned" = true)
    (k4 : PySem.W.keepIn K (.ref f4) = true)
    (a5 : PySem.W.nsIn K mainGlobals "fraction" = some (some (.ref f5)))
    (l5 : K.lookup f5 = some ⟨oc5, od5, .func (PySem.W.fnOf "fraction" "fraction" (defArgs s_fraction) (defBody s_fraction) (defScope s_fraction) .none kV5 dc5 pm5 an5 cd5 ct5), sl5⟩)
    (c5 : PySem.W.codeIn K cd5 "fraction" = true)
    (k5 : PySem.W.keepIn K (.ref f5) = true)
    (a6 : PySem.W.nsIn K mainGlobals "is_list" = some (some (.ref f6)))
    (l6 : K.lookup f6 = some ⟨oc6, od6, .func (PySem.W.fnOf "is_list" "is_list" (defArgs s_is_list) (defBody s_is_list) (defScope s_is_list) .none kV6 dc6 pm6 an6 cd6 ct6), sl6⟩)
    (c6 : PySem.W.codeIn K cd6 "is_list" = true)
    (k6 : PySem.W.keepIn K (.ref f6) = true)
    (a7 : PySem.W.nsIn K mainGlobals "need_parts" = some (some (.ref f7)))
    (l7 : K.lookup f7 = some ⟨oc7, od7, .func (PySem.W.fnOf "need_parts" "need_parts" (defArgs s_need_parts) (defBody s_need_parts) (defScope s_need_parts) .none kV7 dc7 pm7 an7 cd7 ct7), sl7⟩)
    (c7 : PySem.W.codeIn K cd7 "need_parts" = true)
    (k7 : PySem.W.keepIn K (.ref f7) = true)
    (a8 : PySem.W.nsIn K mainGlobals "base_of" = some (some (.ref f8)))
    (l8 : K.lookup f8 = some ⟨oc8, od8, .func (PySem.W.fnOf "base_of" "base_of" (defArgs s_base_of) (defBody s_base_of) (defScope s_base_of) .none kV8 dc8 pm8 an8 cd8 ct8), sl8⟩)
    (c8 : PySem.W.codeIn K cd8 "base_of" = true)
    (k8 : PySem.W.keepIn K (.ref f8) = true)
    (a9 : PySem.W.nsIn K mainGlobals "scale_of" = some (some (.ref f9)))
    (l9 : K.lookup f9 = some ⟨oc9, od9, .func (PySem.W.fnOf "scale_of" "scale_of" (defArgs s_scale_of) (defBody s_scale_of) (defScope s_scale_of) .none kV9 dc9 pm9 an9 cd9 ct9), sl9⟩)
    (c9 : PySem.W.codeIn K cd9 "scale_of" = true)
    (k9 : PySem.W.keepIn K (.ref f9) = true)
    (a10 : PySem.W.nsIn K mainGlobals "in_wholes" = some (some (.ref f10)))
    (l10 : K.lookup f10 = some ⟨oc10, od10, .func (PySem.W.fnOf "in_wholes" "in_wholes" (defArgs s_in_wholes) (defBody s_in_wholes) (defScope s_in_wholes) .none kV10 dc10 pm10 an10 cd10 ct10), sl10⟩)
    (c10 : PySem.W.codeIn K cd10 "in_wholes" = true)
    (k10 : PySem.W.keepIn K (.ref f10) = true)
    (a11 : PySem.W.nsIn K mainGlobals "whole_of" = some (some (.ref f11)))
    (l11 : K.lookup f11 = some ⟨oc11, od11, .func (PySem.W.fnOf "whole_of" "whole_of" (defArgs s_whole_of) (defBody s_whole_of) (defScope s_whole_of) .none kV11 dc11 pm11 an11 cd11 ct11), sl11⟩)
    (c11 : PySem.W.codeIn K cd11 "whole_of" = true)
    (k11 : PySem.W.keepIn K (.ref f11) = true)
    (a12 : PySem.W.nsIn K mainGlobals "need_rule" = some (some (.ref f12)))
    (l12 : K.lookup f12 = some ⟨oc12, od12, .func (PySem.W.fnOf "need_rule" "need_rule" (defArgs s_need_rule) (defBody s_need_rule) (defScope s_need_rule) .none kV12 dc12 pm12 an12 cd12 ct12), sl12⟩)
    (c12 : PySem.W.codeIn K cd12 "need_rule" = true)
    (k12 : PySem.W.keepIn K (.ref f12) = true)
    (a13 : PySem.W.nsIn K mainGlobals "first_middle" = some (some (.ref f13)))
    (l13 : K.lookup f13 = some ⟨oc13, od13, .func (PySem.W.fnOf "first_middle" "first_middle" (defArgs s_first_middle) (defBody s_first_middle) (defScope s_first_middle) .none kV13 dc13 pm13 an13 cd13 ct13), sl13⟩)
    (c13 : PySem.W.codeIn K cd13 "first_middle" = true)
    (k13 : PySem.W.keepIn K (.ref f13) = true)
    (a14 : PySem.W.nsIn K mainGlobals "crossings" = some (some (.ref f14)))
    (l14 : K.lookup f14 = some ⟨oc14, od14, .func (PySem.W.fnOf "crossings" "crossings" (defArgs s_crossings) (defBody s_crossings) (defScope s_crossings) .none kV14 dc14 pm14 an14 cd14 ct14), sl14⟩)
    (c14 : PySem.W.codeIn K cd14 "crossings" = true)
    (k14 : PySem.W.keepIn K (.ref f14) = true)
    (a15 : PySem.W.nsIn K mainGlobals "in_order" = some (some (.ref f15)))
    (l15 : K.lookup f15 = some ⟨oc15, od15, .func (PySem.W.fnOf "in_order" "in_order" (defArgs s_in_order) (defBody s_in_order) (defScope s_in_order) .none kV15 dc15 pm15 an15 cd15 ct15), sl15⟩)
    (c15 : PySem.W.codeIn K cd15 "in_order" = true)
    (k15 : PySem.W.keepIn K (.ref f15) = true)
    (a16 : PySem.W.nsIn K mainGlobals "stretches" = some (some (.ref f16)))
    (l16 : K.lookup f16 = some ⟨oc16, od16, .func (PySem.W.fnOf "stretches" "stretches" (defArgs s_stretches) (defBody s_stretches) (defScope s_stretches) .none kV16 dc16 pm16 an16 cd16 ct16), sl16⟩)
    (c16 : PySem.W.codeIn K cd16 "stretches" = true)
    (k16 : PySem.W.keepIn K (.ref f16) = true)
    (a17 : PySem.W.nsIn K mainGlobals "filled_by" = some (some (.ref f17)))
    (l17 : K.lookup f17 = some ⟨oc17, od17, .func (PySem.W.fnOf "filled_by" "filled_by" (defArgs s_filled_by) (defBody s_filled_by) (defScope s_filled_by) .none kV17 dc17 pm17 an17 cd17 ct17), sl17⟩)
    (c17 : PySem.W.codeIn K cd17 "filled_by" = true)
    (k17 : PySem.W.keepIn K (.ref f17) = true)
    (a18 : PySem.W.nsIn K mainGlobals "put_together" = some (some (.ref f18)))
    (l18 : K.lookup f18 = some ⟨oc18, od18, .func (PySem.W.fnOf "put_together" "put_together" (defArgs s_put_together) (defBody s_put_together) (defScope s_put_together) .none kV18 dc18 pm18 an18 cd18 ct18), sl18⟩)
    (c18 : PySem.W.codeIn K cd18 "put_together" = true)
    (k18 : PySem.W.keepIn K (.ref f18) = true)
    (a19 : PySem.W.nsIn K mainGlobals "rows_of" = some (some (.ref f19)))
    (l19 : K.lookup f19 = some ⟨oc19, od19, .func (PySem.W.fnOf "rows_of" "rows_of" (defArgs s_rows_of) (defBody s_rows_of) (defScope s_rows_of) .none kV19 dc19 pm19 an19 cd19 ct19), sl19⟩)
    (c19 : PySem.W.codeIn K cd19 "rows_of" = true)
    (k19 : PySem.W.keepIn K (.ref f19) = true)
    (a20 : PySem.W.nsIn K mainGlobals "is_span" = some (some (.ref f20)))
    (l20 : K.lookup f20 = some ⟨oc20, od20, .func (PySem.W.fnOf "is_span" "is_span" (defArgs s_is_span) (defBody s_is_span) (defScope s_is_span) .none kV20 dc20 pm20 an20 cd20 ct20), sl20⟩)
    (c20 : PySem.W.codeIn K cd20 "is_span" = true)
    (k20 : PySem.W.keepIn K (.ref f20) = true)
    (a21 : PySem.W.nsIn K mainGlobals "need_spans" = some (some (.ref f21)))
    (l21 : K.lookup f21 = some ⟨oc21, od21, .func (PySem.W.fnOf "need_spans" "need_spans" (defArgs s_need_spans) (defBody s_need_spans) (defScope s_need_spans) .none kV21 dc21 pm21 an21 cd21 ct21), sl21⟩)
    (c21 : PySem.W.codeIn K cd21 "need_spans" = true)
    (k21 : PySem.W.keepIn K (.ref f21) = true)
    (a22 : PySem.W.nsIn K mainGlobals "in_both" = some (some (.ref f22)))
    (l22 : K.lookup f22 = some ⟨oc22, od22, .func (PySem.W.fnOf "in_both" "in_both" (defArgs s_in_both) (defBody s_in_both) (defScope s_in_both) .none kV22 dc22 pm22 an22 cd22 ct22), sl22⟩)
    (c22 : PySem.W.codeIn K cd22 "in_both" = true)
    (k22 : PySem.W.keepIn K (.ref f22) = true)
    (a23 : PySem.W.nsIn K mainGlobals "_law_cell" = some (some (.ref f23)))
    (l23 : K.lookup f23 = some ⟨oc23, od23, .func (PySem.W.fnOf "_law_cell" "_law_cell" (defArgs s_l_cell) (defBody s_l_cell) (defScope s_l_cell) .none kV23 dc23 pm23 an23 cd23 ct23), sl23⟩)
    (c23 : PySem.W.codeIn K cd23 "_law_cell" = true)
    (k23 : PySem.W.keepIn K (.ref f23) = true)
    (a24 : PySem.W.nsIn K mainGlobals "_law_box" = some (some (.ref f24)))
    (l24 : K.lookup f24 = some ⟨oc24, od24, .func (PySem.W.fnOf "_law_box" "_law_box" (defArgs s_l_box) (defBody s_l_box) (defScope s_l_box) .none kV24 dc24 pm24 an24 cd24 ct24), sl24⟩)
    (c24 : PySem.W.codeIn K cd24 "_law_box" = true)
    (k24 : PySem.W.keepIn K (.ref f24) = true)
    (a25 : PySem.W.nsIn K mainGlobals "_law_take" = some (some (.ref f25)))
    (l25 : K.lookup f25 = some ⟨oc25, od25, .func (PySem.W.fnOf "_law_take" "_law_take" (defArgs s_l_take) (defBody s_l_take) (defScope s_l_take) .none kV25 dc25 pm25 an25 cd25 ct25), sl25⟩)
    (c25 : PySem.W.codeIn K cd25 "_law_take" = true)
    (k25 : PySem.W.keepIn K (.ref f25) = true)
    (a26 : PySem.W.nsIn K mainGlobals "_law_number" = some (some (.ref f26)))
    (l26 : K.lookup f26 = some ⟨oc26, od26, .func (PySem.W.fnOf "_law_number" "_law_number" (defArgs s_l_number) (defBody s_l_number) (defScope s_l_number) .none kV26 dc26 pm26 an26 cd26 ct26), sl26⟩)
    (c26 : PySem.W.codeIn K cd26 "_law_number" = true)
    (k26 : PySem.W.keepIn K (.ref f26) = true)
    (a27 : PySem.W.nsIn K mainGlobals "_law_round" = some (some (.ref f27)))
    (l27 : K.lookup f27 = some ⟨oc27, od27, .func (PySem.W.fnOf "_law_round" "_law_round" (defArgs s_l_round) (defBody s_l_round) (defScope s_l_round) .none kV27 dc27 pm27 an27 cd27 ct27), sl27⟩)
    (c27 : PySem.W.codeIn K cd27 "_law_round" = true)
    (k27 : PySem.W.keepIn K (.ref f27) = true)
    (a28 : PySem.W.nsIn K mainGlobals "_law_boxes" = some (some (.ref f28)))
    (l28 : K.lookup f28 = some ⟨oc28, od28, .func (PySem.W.fnOf "_law_boxes" "_law_boxes" (defArgs s_l_boxes) (defBody s_l_boxes) (defScope s_l_boxes) .none kV28 dc28 pm28 an28 cd28 ct28), sl28⟩)
    (c28 : PySem.W.codeIn K cd28 "_law_boxes" = true)
    (k28 : PySem.W.keepIn K (.ref f28) = true)
    (a29 : PySem.W.nsIn K mainGlobals "_law_cells_of" = some (some (.ref f29)))
    (l29 : K.lookup f29 = some ⟨oc29, od29, .func (PySem.W.fnOf "_law_cells_of" "_law_cells_of" (defArgs s_l_cells_of) (defBody s_l_cells_of) (defScope s_l_cells_of) .none kV29 dc29 pm29 an29 cd29 ct29), sl29⟩)
    (c29 : PySem.W.codeIn K cd29 "_law_cells_of" = true)
    (k29 : PySem.W.keepIn K (.ref f29) = true)
    (a30 : PySem.W.nsIn K mainGlobals "_law_shares_right" = some (some (.ref f30)))
    (l30 : K.lookup f30 = some ⟨oc30, od30, .func (PySem.W.fnOf "_law_shares_right" "_law_shares_right" (defArgs s_l_shares_right) (defBody s_l_shares_right) (defScope s_l_shares_right) .none kV30 dc30 pm30 an30 cd30 ct30), sl30⟩)
    (c30 : PySem.W.codeIn K cd30 "_law_shares_right" = true)
    (k30 : PySem.W.keepIn K (.ref f30) = true)
    (a31 : PySem.W.nsIn K mainGlobals "_law_right" = some (some (.ref f31)))
    (l31 : K.lookup f31 = some ⟨oc31, od31, .func (PySem.W.fnOf "_law_right" "_law_right" (defArgs s_l_right) (defBody s_l_right) (defScope s_l_right) .none kV31 dc31 pm31 an31 cd31 ct31), sl31⟩)
    (c31 : PySem.W.codeIn K cd31 "_law_right" = true)
    (k31 : PySem.W.keepIn K (.ref f31) = true)
    (a32 : PySem.W.nsIn K mainGlobals "law" = some (some (.ref f32)))
    (l32 : K.lookup f32 = some ⟨oc32, od32, .func (PySem.W.fnOf "law" "law" (defArgs s_law) (defBody s_law) (defScope s_law) .none kV32 dc32 pm32 an32 cd32 ct32), sl32⟩)
    (c32 : PySem.W.codeIn K cd32 "law" = true)
    (k32 : PySem.W.keepIn K (.ref f32) = true)
    (a33 : PySem.W.nsIn K mainGlobals "cells" = some (some (.ref f33)))
    (l33 : K.lookup f33 = some ⟨oc33, od33, .func (PySem.W.fnOf "cells" "cells" (defArgs s_cells) (defBody s_cells) (defScope s_cells) .none (.ref D33) dc33 pm33 an33 cd33 ct33), sl33⟩)
    (c33 : PySem.W.codeIn K cd33 "cells" = true)
    (k33 : PySem.W.keepIn K (.ref f33) = true)
    (r33 : PySem.W.nsIn K D33 "rule" = some (some (.str "round" tr33)))
    (d33 : PySem.W.nsIn K D33 "drops" = some (some (.bool true)))
    (a34 : PySem.W.nsIn K mainGlobals "cell_of" = some (some (.ref f34)))
    (l34 : K.lookup f34 = some ⟨oc34, od34, .func (PySem.W.fnOf "cell_of" "cell_of" (defArgs s_cell_of) (defBody s_cell_of) (defScope s_cell_of) .none (.ref D34) dc34 pm34 an34 cd34 ct34), sl34⟩)
    (c34 : PySem.W.codeIn K cd34 "cell_of" = true)
    (k34 : PySem.W.keepIn K (.ref f34) = true)
    (r34 : PySem.W.nsIn K D34 "rule" = some (some (.str "round" tr34)))
    (d34 : PySem.W.nsIn K D34 "drops" = some (some (.bool true)))
    (z_abs : PySem.W.nsIn K mainGlobals "abs" = some none)
    (z_len : PySem.W.nsIn K mainGlobals "len" = some none)
    (z_isinstance : PySem.W.nsIn K mainGlobals "isinstance" = some none)
    (z_max : PySem.W.nsIn K mainGlobals "max" = some none)
    (z_min : PySem.W.nsIn K mainGlobals "min" = some none)
    (z_range : PySem.W.nsIn K mainGlobals "range" = some none)
    (z_sorted : PySem.W.nsIn K mainGlobals "sorted" = some none)
    (z_enumerate : PySem.W.nsIn K mainGlobals "enumerate" = some none)
    (z_zip : PySem.W.nsIn K mainGlobals "zip" = some none)
    (z_all : PySem.W.nsIn K mainGlobals "all" = some none)
    (z_int : PySem.W.nsIn K mainGlobals "int" = some none)
    (z_bool : PySem.W.nsIn K mainGlobals "bool" = some none)
    (z_list : PySem.W.nsIn K mainGlobals "list" = some none)
    (z_str : PySem.W.nsIn K mainGlobals "str" = some none)
    (z_tuple : PySem.W.nsIn K mainGlobals "tuple" = some none)
    (m_MOST_POLYGONS : PySem.W.nsIn K mainGlobals "MOST_POLYGONS" = some (some (.int 4 t_MOST_POLYGONS)))
    (m_MOST_PLACES : PySem.W.nsIn K mainGlobals "MOST_PLACES" = some (some (.int 100 t_MOST_PLACES)))
    (m_CELL : PySem.W.nsIn K mainGlobals "CELL" = some (some (.int 64 t_CELL)))
    (m_HALF : PySem.W.nsIn K mainGlobals "HALF" = some (some (.int 32 t_HALF)))
    (m_MOST_ROWS : PySem.W.nsIn K mainGlobals "MOST_ROWS" = some (some (.int 400 t_MOST_ROWS)))
    (m_RULES : PySem.W.nsIn K mainGlobals "RULES" = some (some (.ref aR)))
    (l_RULES : K.lookup aR = some ⟨.type "tuple", odR, .seq #[.str "round" tR1, .str "odd" tR2] nR, slR⟩)
    : ∃ fd : FuncData, (∀ (s : Shared) (v : Value), BindsTo s fd ⟨[v], []⟩ [("_law_script", v)]) ∧ ∀ base : Heap, K.In base → base.Ns mainGlobals mg → FnOk P w K mg base CX0 8 fa fd ["_law_script"] (sp_law K) := by
  have e := hfa.symm.trans (PySem.W.mg_of X G a32)
  cases e
  have B : Blt mg := ⟨PySem.W.mg_none_of X G z_abs, PySem.W.mg_none_of X G z_len, PySem.W.mg_none_of X G z_isinstance, PySem.W.mg_none_of X G z_max, PySem.W.mg_none_of X G z_min, PySem.W.mg_none_of X G z_range, PySem.W.mg_none_of X G z_sorted, PySem.W.mg_none_of X G z_enumerate, PySem.W.mg_none_of X G z_zip, PySem.W.mg_none_of X G z_all, PySem.W.mg_none_of X G z_int, PySem.W.mg_none_of X G z_bool, PySem.W.mg_none_of X G z_list, PySem.W.mg_none_of X G z_str, PySem.W.mg_none_of X G z_tuple⟩
  have k_MOST_POLYGONS := PySem.W.mg_of X G m_MOST_POLYGONS
  have k_MOST_PLACES := PySem.W.mg_of X G m_MOST_PLACES
  have k_CELL := PySem.W.mg_of X G m_CELL
  have k_HALF := PySem.W.mg_of X G m_HALF
  have k_MOST_ROWS := PySem.W.mg_of X G m_MOST_ROWS
  have k_RULES := PySem.W.mg_of X G m_RULES
  have hR : ∀ H, SqT K H aR [.str "round", .str "odd"] := fun H => .inr ⟨_, _, _, l_RULES, rfl, rfl, by show 2 ≤ sizeLine; decide, .cons ⟨_, rfl⟩ (.cons ⟨_, rfl⟩ .nil)⟩
  refine ⟨PySem.W.fnOf "law" "law" (defArgs s_law) (defBody s_law) (defScope s_law) .none kV32 dc32 pm32 an32 cd32 ct32, fun s v => .of_eq rfl, fun base _ _ => ?_⟩
  have F23 := fun_mk (st := s_l_cell) l23 c23 k23
  have o23 := ok_l_cell (P := P) (w := w) (base := base) B F23
  have c__law_cell := Cal.mk' o23 (PySem.W.mg_of X G a23) F23.kp (F23.binds (ps := ["_law_script", "_law_k"]) fun _ _ _ _ _ _ us hl => match us, hl with | [_, _], _ => rfl)
  have F24 := fun_mk (st := s_l_box) l24 c24 k24
  have o24 := ok_l_box (P := P) (w := w) (base := base) B F24
  have c__law_box := Cal.mk' o24 (PySem.W.mg_of X G a24) F24.kp (F24.binds (ps := ["_law_cell_here"]) fun _ _ _ _ _ _ us hl => match us, hl with | [_], _ => rfl)
  have F25 := fun_mk (st := s_l_take) l25 c25 k25
  have o25 := ok_l_take (P := P) (w := w) (base := base) B F25
  have c__law_take := Cal.mk' o25 (PySem.W.mg_of X G a25) F25.kp (F25.binds (ps := ["_law_box_here", "_law_many"]) fun _ _ _ _ _ _ us hl => match us, hl with | [_, _], _ => rfl)
  have F28 := fun_mk (st := s_l_boxes) l28 c28 k28
  have o28 := ok_l_boxes (P := P) (w := w) (base := base) B F28 c__law_take
  have c__law_boxes := Cal.mk' o28 (PySem.W.mg_of X G a28) F28.kp (F28.binds (ps := ["_law_box_here"]) fun _ _ _ _ _ _ us hl => match us, hl with | [_], _ => rfl)
  have F27 := fun_mk (st := s_l_round) l27 c27 k27
  have o27 := ok_l_round (P := P) (w := w) (base := base) B F27 c__law_take
  have c__law_round := Cal.mk' o27 (PySem.W.mg_of X G a27) F27.kp (F27.binds (ps := ["_law_box_here"]) fun _ _ _ _ _ _ us hl => match us, hl with | [_], _ => rfl)
  have F26 := fun_mk (st := s_l_number) l26 c26 k26
  have o26 := ok_l_number (P := P) (w := w) (base := base) B F26
  have c__law_number := Cal.mk' o26 (PySem.W.mg_of X G a26) F26.kp (F26.binds (ps := ["_law_top", "_law_base"]) fun _ _ _ _ _ _ us hl => match us, hl with | [_, _], _ => rfl)
  have F29 := fun_mk (st := s_l_cells_of) l29 c29 k29
  have o29 := ok_l_cells_of (P := P) (w := w) (base := base) B F29
  have c__law_cells_of := Cal.mk' o29 (PySem.W.mg_of X G a29) F29.kp (F29.binds (ps := ["_law_spans"]) fun _ _ _ _ _ _ us hl => match us, hl with | [_], _ => rfl)
  have F0 := fun_mk (st := s_is_plain) l0 c0 k0
  have o0 := ok_is_plain (P := P) (w := w) (base := base) B F0
  have c_is_plain := Cal.mk' o0 (PySem.W.mg_of X G a0) F0.kp (F0.binds (ps := ["thing"]) fun _ _ _ _ _ _ us hl => match us, hl with | [_], _ => rfl)
  have F20 := fun_mk (st := s_is_span) l20 c20 k20
  have o20 := ok_is_span (P := P) (w := w) (base := base) B F20 c_is_plain
  have c_is_span := Cal.mk' o20 (PySem.W.mg_of X G a20) F20.kp (F20.binds (ps := ["thing"]) fun _ _ _ _ _ _ us hl => match us, hl with | [_], _ => rfl)
  have F21 := fun_mk (st := s_need_spans) l21 c21 k21
  have o21 := ok_need_spans (P := P) (w := w) (base := base) B F21 c_is_span
  have c_need_spans := Cal.mk' o21 (PySem.W.mg_of X G a21) F21.kp (F21.binds (ps := ["spans"]) fun _ _ _ _ _ _ us hl => match us, hl with | [_], _ => rfl)
  have F22 := fun_mk (st := s_in_both) l22 c22 k22
  have o22 := ok_in_both (P := P) (w := w) (base := base) B F22 c_need_spans
  have c_in_both := Cal.mk' o22 (PySem.W.mg_of X G a22) F22.kp (F22.binds (ps := ["spans", "others"]) fun _ _ _ _ _ _ us hl => match us, hl with | [_, _], _ => rfl)
  have F6 := fun_mk (st := s_is_list) l6 c6 k6
  have o6 := ok_is_list (P := P) (w := w) (base := base) B F6
  have c_is_list := Cal.mk' o6 (PySem.W.mg_of X G a6) F6.kp (F6.binds (ps := ["thing", "low", "high"]) fun _ _ _ _ _ _ us hl => match us, hl with | [_, _, _], _ => rfl)
  have F1 := fun_mk (st := s_common_part) l1 c1 k1
  have o1 := ok_common_part (P := P) (w := w) (base := base) B F1
  have c_common_part := Cal.mk' o1 (PySem.W.mg_of X G a1) F1.kp (F1.binds (ps := ["one", "other"]) fun _ _ _ _ _ _ us hl => match us, hl with | [_, _], _ => rfl)
  have F2 := fun_mk (st := s_is_part) l2 c2 k2
  have o2 := ok_is_part (P := P) (w := w) (base := base) B F2 c_is_plain c_common_part
  have c_is_part := Cal.mk' o2 (PySem.W.mg_of X G a2) F2.kp (F2.binds (ps := ["thing"]) fun _ _ _ _ _ _ us hl => match us, hl with | [_], _ => rfl)
  have F3 := fun_mk (st := s_is_number) l3 c3 k3
  have o3 := ok_is_number (P := P) (w := w) (base := base) B F3 c_is_plain c_is_part
  have c_is_number := Cal.mk' o3 (PySem.W.mg_of X G a3) F3.kp (F3.binds (ps := ["thing"]) fun _ _ _ _ _ _ us hl => match us, hl with | [_], _ => rfl)
  have F7 := fun_mk (st := s_need_parts) l7 c7 k7
  have o7 := ok_need_parts (P := P) (w := w) (base := base) B k_MOST_POLYGONS k_MOST_PLACES F7 c_is_list c_is_number
  have c_need_parts := Cal.mk' o7 (PySem.W.mg_of X G a7) F7.kp (F7.binds (ps := ["parts"]) fun _ _ _ _ _ _ us hl => match us, hl with | [_], _ => rfl)
  have F12 := fun_mk (st := s_need_rule) l12 c12 k12
  have o12 := ok_need_rule (P := P) (w := w) (base := base) B k_RULES hR F12
  have c_need_rule := Cal.mk' o12 (PySem.W.mg_of X G a12) F12.kp (F12.binds (ps := ["rule"]) fun _ _ _ _ _ _ us hl => match us, hl with | [_], _ => rfl)
  have F8 := fun_mk (st := s_base_of) l8 c8 k8
  have o8 := ok_base_of (P := P) (w := w) (base := base) B F8
  have c_base_of := Cal.mk' o8 (PySem.W.mg_of X G a8) F8.kp (F8.binds (ps := ["number"]) fun _ _ _ _ _ _ us hl => match us, hl with | [_], _ => rfl)
  have F9 := fun_mk (st := s_scale_of) l9 c9 k9
  have o9 := ok_scale_of (P := P) (w := w) (base := base) F9 c_base_of c_common_part
  have c_scale_of := Cal.mk' o9 (PySem.W.mg_of X G a9) F9.kp (F9.binds (ps := ["parts"]) fun _ _ _ _ _ _ us hl => match us, hl with | [_], _ => rfl)
  have F11 := fun_mk (st := s_whole_of) l11 c11 k11
  have o11 := ok_whole_of (P := P) (w := w) (base := base) B F11
  have c_whole_of := Cal.mk' o11 (PySem.W.mg_of X G a11) F11.kp (F11.binds (ps := ["number", "many"]) fun _ _ _ _ _ _ us hl => match us, hl with | [_, _], _ => rfl)
  have F10 := fun_mk (st := s_in_wholes) l10 c10 k10
  have o10 := ok_in_wholes (P := P) (w := w) (base := base) B F10 c_scale_of c_whole_of
  have c_in_wholes := Cal.mk' o10 (PySem.W.mg_of X G a10) F10.kp (F10.binds (ps := ["parts"]) fun _ _ _ _ _ _ us hl => match us, hl with | [_], _ => rfl)
  have F13 := fun_mk (st := s_first_middle) l13 c13 k13
  have o13 := ok_first_middle (P := P) (w := w) (base := base) k_CELL k_HALF F13
  have c_first_middle := Cal.mk' o13 (PySem.W.mg_of X G a13) F13.kp (F13.binds (ps := ["top", "base"]) fun _ _ _ _ _ _ us hl => match us, hl with | [_, _], _ => rfl)
  have F19 := fun_mk (st := s_rows_of) l19 c19 k19
  have o19 := ok_rows_of (P := P) (w := w) (base := base) B F19 c_first_middle
  have c_rows_of := Cal.mk' o19 (PySem.W.mg_of X G a19) F19.kp (F19.binds (ps := ["parts", "many"]) fun _ _ _ _ _ _ us hl => match us, hl with | [_, _], _ => rfl)
  have F14 := fun_mk (st := s_crossings) l14 c14 k14
  have o14 := ok_crossings (P := P) (w := w) (base := base) B k_CELL k_HALF F14
  have c_crossings := Cal.mk' o14 (PySem.W.mg_of X G a14) F14.kp (F14.binds (ps := ["parts", "many", "row"]) fun _ _ _ _ _ _ us hl => match us, hl with | [_, _, _], _ => rfl)
  have F15 := fun_mk (st := s_in_order) l15 c15 k15
  have o15 := ok_in_order (P := P) (w := w) (base := base) B F15 c_common_part
  have c_in_order := Cal.mk' o15 (PySem.W.mg_of X G a15) F15.kp (F15.binds (ps := ["rows"]) fun _ _ _ _ _ _ us hl => match us, hl with | [_], _ => rfl)
  have F16 := fun_mk (st := s_stretches) l16 c16 k16
  have o16 := ok_stretches (P := P) (w := w) (base := base) F16 c_crossings c_in_order
  have c_stretches := Cal.mk' o16 (PySem.W.mg_of X G a16) F16.kp (F16.binds (ps := ["parts", "many", "row", "rule"]) fun _ _ _ _ _ _ us hl => match us, hl with | [_, _, _, _], _ => rfl)
  have F17 := fun_mk (st := s_filled_by) l17 c17 k17
  have o17 := ok_filled_by (P := P) (w := w) (base := base) k_CELL F17 c_first_middle
  have c_filled_by := Cal.mk' o17 (PySem.W.mg_of X G a17) F17.kp (F17.binds (ps := ["stretch", "drops"]) fun _ _ _ _ _ _ us hl => match us, hl with | [_, _], _ => rfl)
  have F18 := fun_mk (st := s_put_together) l18 c18 k18
  have o18 := ok_put_together (P := P) (w := w) (base := base) B F18
  have c_put_together := Cal.mk' o18 (PySem.W.mg_of X G a18) F18.kp (F18.binds (ps := ["row", "columns"]) fun _ _ _ _ _ _ us hl => match us, hl with | [_, _], _ => rfl)
  have F33 := funK_mk (st := s_cells) l33 c33 k33 r33 d33
  have o33 := ok_cells (P := P) (w := w) (base := base) B k_MOST_ROWS F33 c_need_parts c_need_rule c_scale_of c_in_wholes c_rows_of c_stretches c_filled_by c_put_together
  have c_cells_ := cells_d F33 o33 (PySem.W.mg_of X G a33)
  have c_cells_drops := cells_n1 F33 o33 (PySem.W.mg_of X G a33)
  have c_cells_rule_drops := cells_n2 F33 o33 (PySem.W.mg_of X G a33)
  have F4 := fun_mk (st := s_reckoned) l4 c4 k4
  have o4 := ok_reckoned (P := P) (w := w) (base := base) B F4 c_common_part
  have c_reckoned := Cal.mk' o4 (PySem.W.mg_of X G a4) F4.kp (F4.binds (ps := ["top", "base"]) fun _ _ _ _ _ _ us hl => match us, hl with | [_, _], _ => rfl)
  have F5 := fun_mk (st := s_fraction) l5 c5 k5
  have o5 := ok_fraction (P := P) (w := w) (base := base) B F5 c_is_plain c_reckoned
  have c_fraction := Cal.mk' o5 (PySem.W.mg_of X G a5) F5.kp (F5.binds (ps := ["top", "base"]) fun _ _ _ _ _ _ us hl => match us, hl with | [_, _], _ => rfl)
  have F34 := funK_mk (st := s_cell_of) l34 c34 k34 r34 d34
  have o34 := ok_cell_of (P := P) (w := w) (base := base) B F34 c_need_parts c_is_plain c_need_rule c_scale_of c_in_wholes c_stretches c_filled_by c_fraction
  have c_cell_of_ := cell_of_d F34 o34 (PySem.W.mg_of X G a34)
  have F30 := fun_mk (st := s_l_shares_right) l30 c30 k30
  have o30 := ok_l_shares_right (P := P) (w := w) (base := base) B F30 c__law_cells_of c_in_both c_cells_ c_cell_of_
  have c__law_shares_right := Cal.mk' o30 (PySem.W.mg_of X G a30) F30.kp (F30.binds (ps := ["_law_parts"]) fun _ _ _ _ _ _ us hl => match us, hl with | [_], _ => rfl)
  have F31 := fun_mk (st := s_l_right) l31 c31 k31
  have o31 := ok_l_right (P := P) (w := w) (base := base) B F31 c__law_cells_of c_in_both c_cells_ c_cells_drops c_cells_rule_drops c__law_shares_right
  have c__law_right := Cal.mk' o31 (PySem.W.mg_of X G a31) F31.kp (F31.binds (ps := ["_law_places", "_law_first", "_law_second"]) fun _ _ _ _ _ _ us hl => match us, hl with | [_, _, _], _ => rfl)
  have F32 := fun_mk (st := s_law) l32 c32 k32
  exact ok_law B F32 c__law_cell c__law_box c__law_take c__law_boxes c__law_round c__law_number c__law_right
end K79
open PySem PySem.W PyProof.Rows
set_option maxHeartbeats 0 in
theorem PySem.Challenge.cw_hintedpoints_k79_whole_side_by_side_holds : PySem.Challenge.rw_hintedpoints_k79_whole_side_by_side.Holds := by
  w_on; o_law; k_head; (case hw => w_witness2)
  k_fill
  refine L2.walk_of (l := PySem.Challenge.rw_hintedpoints_k79_whole_side_by_side) (n := 63) (k := 8) (x := "_law_script") (CX := fun _ => L2.CX0) (sp := fun w => K79.sp_law _) rfl (by decide) rfl ⟨rfl, by decide, by decide⟩ (fun w h Y => PySem.W.kIn_of Y) ?F (fun _ _ a ns hl _ hS => ⟨a, ns, rfl, hS, fun _ => rfl⟩) (fun _ _ _ _ _ h => h)
  case F =>
    intro w mg fa h KX G hmg
    refine' K79.all_mk KX G hmg ?a0 ?l0 ?c0 ?k0 ?a1 ?l1 ?c1 ?k1 ?a2 ?l2 ?c2 ?k2 ?a3 ?l3 ?c3 ?k3 ?a4 ?l4 ?c4 ?k4 ?a5 ?l5 ?c5 ?k5 ?a6 ?l6 ?c6 ?k6 ?a7 ?l7 ?c7 ?k7 ?a8 ?l8 ?c8 ?k8 ?a9 ?l9 ?c9 ?k9 ?a10 ?l10 ?c10 ?k10 ?a11 ?l11 ?c11 ?k11 ?a12 ?l12 ?c12 ?k12 ?a13 ?l13 ?c13 ?k13 ?a14 ?l14 ?c14 ?k14 ?a15 ?l15 ?c15 ?k15 ?a16 ?l16 ?c16 ?k16 ?a17 ?l17 ?c17 ?k17 ?a18 ?l18 ?c18 ?k18 ?a19 ?l19 ?c19 ?k19 ?a20 ?l20 ?c20 ?k20 ?a21 ?l21 ?c21 ?k21 ?a22 ?l22 ?c22 ?k22 ?a23 ?l23 ?c23 ?k23 ?a24 ?l24 ?c24 ?k24 ?a25 ?l25 ?c25 ?k25 ?a26 ?l26 ?c26 ?k26 ?a27 ?l27 ?c27 ?k27 ?a28 ?l28 ?c28 ?k28 ?a29 ?l29 ?c29 ?k29 ?a30 ?l30 ?c30 ?k30 ?a31 ?l31 ?c31 ?k31 ?a32 ?l32 ?c32 ?k32 ?a33 ?l33 ?c33 ?k33 ?r33 ?d33 ?a34 ?l34 ?c34 ?k34 ?r34 ?d34 ?z_abs ?z_len ?z_isinstance ?z_max ?z_min ?z_range ?z_sorted ?z_enumerate ?z_zip ?z_all ?z_int ?z_bool ?z_list ?z_str ?z_tuple ?m_MOST_POLYGONS ?m_MOST_PLACES ?m_CELL ?m_HALF ?m_MOST_ROWS ?m_RULES ?l_RULES
    (case a0 => k_is); (case l0 => k_is); (case c0 => k_is); (case k0 => k_is)
    (case a1 => k_is); (case l1 => k_is); (case c1 => k_is); (case k1 => k_is)
    (case a2 => k_is); (case l2 => k_is); (case c2 => k_is); (case k2 => k_is)
    (case a3 => k_is); (case l3 => k_is); (case c3 => k_is); (case k3 => k_is)
    (case a4 => k_is); (case l4 => k_is); (case c4 => k_is); (case k4 => k_is)
    (case a5 => k_is); (case l5 => k_is); (case c5 => k_is); (case k5 => k_is)
    (case a6 => k_is); (case l6 => k_is); (case c6 => k_is); (case k6 => k_is)
    (case a7 => k_is); (case l7 => k_is); (case c7 => k_is); (case k7 => k_is)
    (case a8 => k_is); (case l8 => k_is); (case c8 => k_is); (case k8 => k_is)
    (case a9 => k_is); (case l9 => k_is); (case c9 => k_is); (case k9 => k_is)
    (case a10 => k_is); (case l10 => k_is); (case c10 => k_is); (case k10 => k_is)
    (case a11 => k_is); (case l11 => k_is); (case c11 => k_is); (case k11 => k_is)
    (case a12 => k_is); (case l12 => k_is); (case c12 => k_is); (case k12 => k_is)
    (case a13 => k_is); (case l13 => k_is); (case c13 => k_is); (case k13 => k_is)
    (case a14 => k_is); (case l14 => k_is); (case c14 => k_is); (case k14 => k_is)
    (case a15 => k_is); (case l15 => k_is); (case c15 => k_is); (case k15 => k_is)
    (case a16 => k_is); (case l16 => k_is); (case c16 => k_is); (case k16 => k_is)
    (case a17 => k_is); (case l17 => k_is); (case c17 => k_is); (case k17 => k_is)
    (case a18 => k_is); (case l18 => k_is); (case c18 => k_is); (case k18 => k_is)
    (case a19 => k_is); (case l19 => k_is); (case c19 => k_is); (case k19 => k_is)
    (case a20 => k_is); (case l20 => k_is); (case c20 => k_is); (case k20 => k_is)
    (case a21 => k_is); (case l21 => k_is); (case c21 => k_is); (case k21 => k_is)
    (case a22 => k_is); (case l22 => k_is); (case c22 => k_is); (case k22 => k_is)
    (case a23 => k_is); (case l23 => k_is); (case c23 => k_is); (case k23 => k_is)
    (case a24 => k_is); (case l24 => k_is); (case c24 => k_is); (case k24 => k_is)
    (case a25 => k_is); (case l25 => k_is); (case c25 => k_is); (case k25 => k_is)
    (case a26 => k_is); (case l26 => k_is); (case c26 => k_is); (case k26 => k_is)
    (case a27 => k_is); (case l27 => k_is); (case c27 => k_is); (case k27 => k_is)
    (case a28 => k_is); (case l28 => k_is); (case c28 => k_is); (case k28 => k_is)
    (case a29 => k_is); (case l29 => k_is); (case c29 => k_is); (case k29 => k_is)
    (case a30 => k_is); (case l30 => k_is); (case c30 => k_is); (case k30 => k_is)
    (case a31 => k_is); (case l31 => k_is); (case c31 => k_is); (case k31 => k_is)
    (case a32 => k_is); (case l32 => k_is); (case c32 => k_is); (case k32 => k_is)
    (case a33 => k_is); (case l33 => k_is); (case c33 => k_is); (case k33 => k_is)
    (case r33 => k_is); (case d33 => k_is); (case a34 => k_is); (case l34 => k_is)
    (case c34 => k_is); (case k34 => k_is); (case r34 => k_is); (case d34 => k_is)
    (case z_abs => k_is); (case z_len => k_is); (case z_isinstance => k_is); (case z_max => k_is)
    (case z_min => k_is); (case z_range => k_is); (case z_sorted => k_is); (case z_enumerate => k_is)
    (case z_zip => k_is); (case z_all => k_is); (case z_int => k_is); (case z_bool => k_is)
    (case z_list => k_is); (case z_str => k_is); (case z_tuple => k_is); (case m_MOST_POLYGONS => k_is)
    (case m_MOST_PLACES => k_is); (case m_CELL => k_is); (case m_HALF => k_is); (case m_MOST_ROWS => k_is)
    (case m_RULES => k_is); (case l_RULES => k_is)


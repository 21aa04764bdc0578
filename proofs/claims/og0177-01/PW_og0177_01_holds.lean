import PyProof.Rows.All
import Wide.All
import OpenK.AllK
import Wide.FinOn
import PySem.Challenge.RW_og0177_01
set_option Elab.async false
set_option maxRecDepth 100000
set_option maxHeartbeats 8000000
set_option autoImplicit false
set_option linter.unusedVariables false
set_option compiler.extract_closed false
open PySem PySem.W PySem.Calls PyProof.Rows PySem.Spec
namespace Og
/-- the goals that the head leaves are handed on as hypotheses: this lays the written part of the state, hdk.heap_1, without its proof -/
theorem given3 {X Y Z G : Prop} (_ : X) (_ : Y) (_ : Z) (g : G) : G := g
theorem hdk : ∃ X Y Z : Prop, X → Y → Z → PySem.Challenge.rw_og0177_01.row.wellSaid = true → PySem.Challenge.rw_og0177_01.row.Holds := by
  refine' ⟨_, _, _, fun x y z said => given3 ?hl ?hw ?hc ?m⟩; rotate_right
  case m => w_on; k_head
  case hl => exact x
  case hw => exact y
  case hc => exact z
theorem hkeys : ∀ P : Params, [2, 3, 15, 17, 18, 20, 21, 22, 29, 30, 32, 33, 35, 36, 37, 39, 40, 42, 43, 44, 45, 46, 47, 50, 57, 58, 59, 69, 71, 72, 74, 75, 76, 78, 79, 81, 82, 83, 85, 86, 88, 89, 90, 92, 93, 95, 96, 97, 99, 100, 102, 103, 104, 106, 107, 109, 110, 111, 113, 114, 116, 117, 118, 120, 121, 123, 124, 125, 127, 128, 130, 131, 132, 134, 135, 137, 138, 139, 141, 142, 144, 145, 146, 148, 149, 151, 152, 153, 154, 155, 156, 157, 160, 162, 163, 165, 166, 167, 169, 170, 172, 173, 174, 176, 177, 179, 180, 181, 183, 184, 186, 187, 188, 190, 191, 193, 194, 195, 203, 204, 205, 207, 208, 210, 211, 212, 213, 214, 215, 216, 219, 221, 222, 224, 225, 226, 228, 229, 231, 232, 233, 235, 236, 238, 239, 240, 242, 243, 245, 246, 247, 249, 250, 252, 253, 254, 256, 257, 259, 260, 261, 263, 264, 266, 267, 268, 270, 271, 273, 274, 275, 277, 278, 280, 281, 282, 285, 286, 287, 289, 290, 292, 293, 294, 296, 297, 299, 300, 301, 303, 304, 306, 307, 308, 310, 311, 313, 314, 315, 317, 318, 320, 321, 322, 323, 326, 327, 328, 329, 332, 333, 334, 335, 337, 338, 340, 341, 342, 344, 345, 347, 348, 349, 352, 353, 354, 356, 357, 359, 360, 361, 363, 364, 366, 367, 368, 370, 371, 373, 374, 375, 378, 379, 380, 381, 384, 385, 386, 389, 390, 391, 394, 395, 403, 405, 406, 408, 409, 410, 412, 413, 415, 416, 417, 419, 420, 422, 423, 424, 426, 427, 429, 430, 431, 433, 434, 436, 437, 438, 440, 441, 443, 444, 445, 446, 447, 448, 449, 452, 454, 455, 457, 458, 459, 462, 463, 464, 466, 467, 469, 470, 471, 473, 474, 476, 477, 478, 481, 482] = (hdk.heap_1 P).map (·.1) := fun _ => by kernel_rfl
section
abbrev Q2 := Int × Int
abbrev Edge := Int × Int × Int × Int
def corners (ss : List (Option Q2)) : List Q2 := ss.filterMap id
def polys (ps : List (List (Option Q2))) : List (List Q2) := (ps.map corners).filter fun c => decide (1 < c.length)
def edgeAt (row : List Q2) (i : Nat) : Option Edge :=
  if (row.getD (if i = 0 then row.length - 1 else i - 1) (0, 0)).2 ≠ (row.getD i (0, 0)).2 then
    some ((row.getD (if i = 0 then row.length - 1 else i - 1) (0, 0)).1, (row.getD (if i = 0 then row.length - 1 else i - 1) (0, 0)).2, (row.getD i (0, 0)).1, (row.getD i (0, 0)).2) else none
def edgesOf (row : List Q2) : List Edge := (List.range row.length).filterMap (edgeAt row)
def wholeEdges (ps : List (List Q2)) : List Edge := ps.flatMap edgesOf
def side (e : Edge) (x y : Int) : Int := (e.2.2.1 - e.1) * (y - e.2.1) - (x - e.1) * (e.2.2.2 - e.2.1)
def cross (e : Edge) (x y : Int) : Int :=
  if e.2.1 ≤ y ∧ y < e.2.2.2 then (if side e x y * 1 > 0 then 1 else 0)
  else if e.2.2.2 ≤ y ∧ y < e.2.1 then (if side e x y * (-1) > 0 then -1 else 0) else 0
noncomputable def wind : List Edge → Int → Int → Int
  | [], _, _ => 0
  | e :: r, x, y => cross e x y + wind r x y
def filled (ev : Bool) (t : Int) : Bool := if ev then decide (t % 2 = 1) else decide (t ≠ 0)
def nearB (y : Int) (e : Edge) : Bool := decide ((e.2.1 ≤ y ∧ y < e.2.2.2) ∨ (e.2.2.2 ≤ y ∧ y < e.2.1))
noncomputable def rowB (es : List Edge) (ev : Bool) (w : Nat) (y : Int) : List Bool := (List.range w).map fun (c : Nat) => filled ev (wind (es.filter (nearB y)) ((2 * (c : Int) + 1) * 5) y)
def rowY (h i : Nat) : Int := (2 * ((h : Int) - 1 - i) + 1) * 5
noncomputable def rasterB (ps : List (List (Option Q2))) (ev : Bool) (w h : Nat) : List (List Bool) := (List.range h).map fun i => rowB (wholeEdges (polys ps)) ev w (rowY h i)
def metB (a b : List (List Bool)) : List (List Bool) := List.zipWith (fun p q => List.zipWith (fun x y => x && y) p q) a b
def cnt (rows : List (List Bool)) : Nat := (rows.map fun r => r.countP id).sum

theorem wind_append (a b : List Edge) (x y : Int) : wind (a ++ b) x y = wind a x y + wind b x y := by
  induction a with
  | nil => simp [wind]
  | cons e r ih => simp only [List.cons_append, wind, ih]; omega

/-- the path moved -/
def shQ (dx dy : Int) (q : Q2) : Q2 := (q.1 + dx, q.2 + dy)
def shE (dx dy : Int) (e : Edge) : Edge := (e.1 + dx, e.2.1 + dy, e.2.2.1 + dx, e.2.2.2 + dy)
def shP (dx dy : Int) (ps : List (List (Option Q2))) : List (List (Option Q2)) := ps.map fun ss => ss.map fun s => s.map (shQ dx dy)
variable (dx dy : Int)
theorem corners_sh (ss : List (Option Q2)) : corners (ss.map fun s => s.map (shQ dx dy)) = (corners ss).map (shQ dx dy) := by
  unfold corners
  induction ss with
  | nil => rfl
  | cons s r ih => cases s <;> simp_all
theorem polys_sh (ps : List (List (Option Q2))) : polys (shP dx dy ps) = (polys ps).map fun c => c.map (shQ dx dy) := by
  unfold polys shP
  induction ps with
  | nil => rfl
  | cons s r ih =>
    simp only [List.map_cons, List.filter_cons, corners_sh, List.length_map]
    simp only [List.map_map] at ih
    split <;> simp_all [corners_sh]
theorem edgeAt_sh (row : List Q2) (i : Nat) (hi : i < row.length) : edgeAt (row.map (shQ dx dy)) i = (edgeAt row i).map (shE dx dy) := by
  have g : ∀ j, j < row.length → (row.map (shQ dx dy)).getD j (0, 0) = shQ dx dy (row.getD j (0, 0)) := fun j hj => by
    rw [List.getD_eq_getElem?_getD, List.getD_eq_getElem?_getD, List.getElem?_map, List.getElem?_eq_getElem hj]; rfl
  unfold edgeAt
  rw [List.length_map, g i hi, g (if i = 0 then row.length - 1 else i - 1) (by split <;> omega)]
  generalize row.getD (if i = 0 then row.length - 1 else i - 1) (0, 0) = p
  generalize row.getD i (0, 0) = q
  by_cases e : p.2 = q.2
  · rw [if_neg (by simp [shQ, e]), if_neg (by simp [e])]; rfl
  · rw [if_pos (by simp [shQ]; omega), if_pos e]; rfl
theorem edgesOf_sh (row : List Q2) : edgesOf (row.map (shQ dx dy)) = (edgesOf row).map (shE dx dy) := by
  unfold edgesOf
  rw [List.length_map, List.map_filterMap]
  have : ∀ l : List Nat, (∀ i ∈ l, i < row.length) → l.filterMap (edgeAt (row.map (shQ dx dy))) = l.filterMap fun x => Option.map (shE dx dy) (edgeAt row x) := by
    intro l
    induction l with
    | nil => intro _; rfl
    | cons i r ih =>
      intro hl
      rw [List.filterMap_cons, List.filterMap_cons, edgeAt_sh dx dy row i (hl i (.head _)), ih fun j hj => hl j (.tail _ hj)]
  exact this _ fun i hi => List.mem_range.mp hi
theorem wholeEdges_sh (ps : List (List Q2)) : wholeEdges (ps.map fun c => c.map (shQ dx dy)) = (wholeEdges ps).map (shE dx dy) := by
  unfold wholeEdges
  induction ps with
  | nil => rfl
  | cons c r ih => simp only [List.map_cons, List.flatMap_cons, List.map_append, edgesOf_sh, ih]
theorem side_sh (e : Edge) (x y : Int) : side (shE dx dy e) (x + dx) (y + dy) = side e x y := by
  unfold side shE
  simp only
  congr 1 <;> congr 1 <;> omega
theorem cross_sh (e : Edge) (x y : Int) : cross (shE dx dy e) (x + dx) (y + dy) = cross e x y := by
  unfold cross
  rw [side_sh]
  have a : ((shE dx dy e).2.1 ≤ y + dy ∧ y + dy < (shE dx dy e).2.2.2) ↔ (e.2.1 ≤ y ∧ y < e.2.2.2) := by unfold shE; simp only; omega
  have b : ((shE dx dy e).2.2.2 ≤ y + dy ∧ y + dy < (shE dx dy e).2.1) ↔ (e.2.2.2 ≤ y ∧ y < e.2.1) := by unfold shE; simp only; omega
  simp only [a, b]
theorem wind_sh (es : List Edge) (x y : Int) : wind (es.map (shE dx dy)) (x + dx) (y + dy) = wind es x y := by
  induction es with
  | nil => rfl
  | cons e r ih => simp only [List.map_cons, wind, cross_sh, ih]
theorem near_sh (e : Edge) (y : Int) : nearB (y + dy) (shE dx dy e) = nearB y e := by
  unfold nearB shE
  simp only
  congr 1
  apply propext
  omega
theorem filter_sh (es : List Edge) (y : Int) : (es.map (shE dx dy)).filter (nearB (y + dy)) = (es.filter (nearB y)).map (shE dx dy) := by
  rw [List.filter_map]
  congr 1
  apply List.filter_congr
  intro e _
  exact near_sh dx dy e y
theorem rowB_sh (es : List Edge) (ev : Bool) (w a : Nat) (u : Nat) (y : Int) :
    (rowB (es.map (shE (10 * a) (10 * u))) ev (w + a) (y + 10 * u)).drop a = rowB es ev w y := by
  unfold rowB
  rw [filter_sh]
  apply List.ext_getElem
  · simp
  · intro i h1 h2
    simp only [List.getElem_drop, List.getElem_map, List.getElem_range]
    have : (2 * ((a + i : Nat) : Int) + 1) * 5 = (2 * (i : Int) + 1) * 5 + 10 * (a : Int) := by push_cast; omega
    rw [this, wind_sh]
theorem moved_len (ps : List (List (Option Q2))) (ev : Bool) (w h : Nat) : (rasterB ps ev w h).length = h := by simp [rasterB]
theorem moved_eq (ps : List (List (Option Q2))) (ev : Bool) (w h a u : Nat) :
    ((rasterB (shP (10 * a) (10 * u) ps) ev (w + a) (h + u)).take h).map (List.drop a) = rasterB ps ev w h := by
  apply List.ext_getElem
  · simp [rasterB]
  · intro i h1 h2
    have hi : i < h := by simpa [rasterB] using h2
    simp only [List.getElem_map, List.getElem_take, rasterB, List.getElem_range]
    have : rowY (h + u) i = rowY h i + 10 * (u : Int) := by unfold rowY; push_cast; omega
    rw [polys_sh, wholeEdges_sh, this, rowB_sh]
theorem zip_and_self (p : List Bool) : List.zipWith (fun x y => x && y) p p = p := by
  induction p with
  | nil => rfl
  | cons b r ih => simp [ih]
theorem met_self (rows : List (List Bool)) : metB rows rows = rows := by
  unfold metB
  induction rows with
  | nil => rfl
  | cons r rs ih => simp only [List.zipWith_cons_cons, zip_and_self, ih]
theorem filled_zero (ev : Bool) : filled ev 0 = false := by cases ev <;> decide
theorem raster_empty (ev : Bool) (w h : Nat) : rasterB [] ev w h = List.replicate h (List.replicate w false) := by
  apply List.ext_getElem
  · simp [rasterB]
  · intro i h1 h2
    simp only [rasterB, List.getElem_map, List.getElem_replicate, rowB]
    apply List.ext_getElem
    · simp
    · intro j h3 h4
      simp [wholeEdges, polys, wind, filled_zero]
theorem zip_false (p : List Bool) (w : Nat) (e : p.length = w) : List.zipWith (fun x y => x && y) p (List.replicate w false) = List.replicate w false := by
  apply List.ext_getElem
  · simp [e]
  · intro i h1 h2; simp
theorem rows_len (ps : List (List (Option Q2))) (ev : Bool) (w h : Nat) : ∀ r ∈ rasterB ps ev w h, r.length = w := by
  intro r hr
  obtain ⟨i, _, rfl⟩ := List.mem_map.mp hr
  simp [rowB]
theorem met_empty (ps : List (List (Option Q2))) (ev : Bool) (w h : Nat) : metB (rasterB ps ev w h) (List.replicate h (List.replicate w false)) = List.replicate h (List.replicate w false) := by
  apply List.ext_getElem
  · simp [metB, rasterB]
  · intro i h1 h2
    simp only [metB, List.getElem_zipWith, List.getElem_replicate]
    exact zip_false _ _ (rows_len ps ev w h _ (List.getElem_mem _))
theorem cnt_empty (w h : Nat) : cnt (List.replicate h (List.replicate w false)) = 0 := by
  unfold cnt
  simp [List.countP_replicate]
theorem met_odd (ps : List (List (Option Q2))) (w h : Nat) : metB (rasterB ps true w h) (rasterB ps false w h) = rasterB ps true w h := by
  apply List.ext_getElem
  · simp [metB, rasterB]
  · intro i h1 h2
    simp only [metB, List.getElem_zipWith, rasterB, List.getElem_map, List.getElem_range, rowB]
    apply List.ext_getElem
    · simp
    · intro j h3 h4
      simp only [List.getElem_zipWith, List.getElem_map, List.getElem_range]
      generalize wind _ _ _ = t
      unfold filled
      simp only [if_true, Bool.false_eq_true, if_false]
      by_cases e : t % 2 = 1
      · have : t ≠ 0 := by omega
        simp [e, this]
      · simp [e]
/-- the square -/
def squareP (w h : Nat) : List (List (Option Q2)) := [[some (5, 5), some (5 + 10 * w, 5), some (5 + 10 * w, 5 + 10 * h), some (5, 5 + 10 * h), none]]
theorem square_edges (w h : Nat) (hh : 1 ≤ h) : wholeEdges (polys (squareP w h)) = [((5 : Int), 5 + 10 * (h : Int), 5, 5), (5 + 10 * (w : Int), 5, 5 + 10 * (w : Int), 5 + 10 * (h : Int))] := by
  have e1 : polys (squareP w h) = [[((5 : Int), (5 : Int)), (5 + 10 * (w : Int), 5), (5 + 10 * (w : Int), 5 + 10 * (h : Int)), (5, 5 + 10 * (h : Int))]] := by
    simp [polys, squareP, corners]
  rw [e1]
  have e2 : List.range 4 = [0, 1, 2, 3] := by decide
  have n1 : ¬ ((5 : Int) + 10 * (h : Int) = 5) := by omega
  have n2 : ¬ ((5 : Int) = 5 + 10 * (h : Int)) := by omega
  have e3 : wholeEdges [[((5 : Int), (5 : Int)), (5 + 10 * (w : Int), 5), (5 + 10 * (w : Int), 5 + 10 * (h : Int)), (5, 5 + 10 * (h : Int))]] = [0, 1, 2, 3].filterMap (edgeAt [((5 : Int), (5 : Int)), (5 + 10 * (w : Int), 5), (5 + 10 * (w : Int), 5 + 10 * (h : Int)), (5, 5 + 10 * (h : Int))]) := by
    simp [wholeEdges, edgesOf, e2]
  rw [e3]
  simp only [List.filterMap_cons, List.filterMap_nil, edgeAt, List.getD_cons_zero, List.getD_cons_succ, List.length_cons, List.length_nil]
  simp [n1, n2]
theorem square_cell (ev : Bool) (w h : Nat) (hh : 1 ≤ h) (c r : Nat) (hr : r ≤ h) :
    filled ev (wind ((wholeEdges (polys (squareP w h))).filter (nearB ((2 * (r : Int) + 1) * 5))) ((2 * (c : Int) + 1) * 5) ((2 * (r : Int) + 1) * 5)) = (decide (c < w) && decide (r < h)) := by
  rw [square_edges w h hh]
  by_cases hlt : r < h
  · have a : nearB ((2 * (r : Int) + 1) * 5) ((5 : Int), 5 + 10 * (h : Int), 5, 5) = true := by unfold nearB; simp only [decide_eq_true_eq]; omega
    have b : nearB ((2 * (r : Int) + 1) * 5) (5 + 10 * (w : Int), 5, 5 + 10 * (w : Int), 5 + 10 * (h : Int)) = true := by unfold nearB; simp only [decide_eq_true_eq]; omega
    simp only [List.filter_cons, a, b, if_true, List.filter_nil, wind]
    have c1 : cross ((5 : Int), 5 + 10 * (h : Int), 5, 5) ((2 * (c : Int) + 1) * 5) ((2 * (r : Int) + 1) * 5) = 0 := by
      unfold cross side
      simp only
      rw [if_neg (by first | decide | omega), if_pos (by first | decide | omega)]
      rw [if_neg]
      have : (0 : Int) ≤ (c : Int) * (h : Int) := by exact_mod_cast Nat.zero_le _
      rw [show ((5 : Int) - 5) = 0 by omega, Int.zero_mul, show (2 * (c : Int) + 1) * 5 - 5 = 10 * (c : Int) by omega, show (5 : Int) - (5 + 10 * (h : Int)) = -(10 * (h : Int)) by omega, Int.mul_assoc, Int.mul_neg (c : Int), Int.mul_left_comm (c : Int)]
      omega
    have c2 : cross (5 + 10 * (w : Int), 5, 5 + 10 * (w : Int), 5 + 10 * (h : Int)) ((2 * (c : Int) + 1) * 5) ((2 * (r : Int) + 1) * 5) = if c < w then 1 else 0 := by
      unfold cross side
      simp only
      rw [if_pos (by first | decide | omega)]
      have e : ((5 + 10 * (w : Int) - (5 + 10 * (w : Int))) * ((2 * (r : Int) + 1) * 5 - 5) - ((2 * (c : Int) + 1) * 5 - (5 + 10 * (w : Int))) * (5 + 10 * (h : Int) - 5)) * 1 = 100 * (((w : Int) - (c : Int)) * (h : Int)) := by
        rw [show (5 + 10 * (w : Int) - (5 + 10 * (w : Int))) = 0 by omega, Int.zero_mul, show (2 * (c : Int) + 1) * 5 - (5 + 10 * (w : Int)) = -(10 * ((w : Int) - c)) by omega, show (5 + 10 * (h : Int) - 5) = 10 * (h : Int) by omega, Int.neg_mul, Int.mul_assoc, Int.mul_left_comm ((w : Int) - c)]
        omega
      rw [e]
      by_cases hc : c < w
      · rw [if_pos hc, if_pos]
        have : 0 < ((w : Int) - (c : Int)) * (h : Int) := Int.mul_pos (by first | decide | omega) (by first | decide | omega)
        omega
      · rw [if_neg hc, if_neg]
        have : 0 ≤ ((c : Int) - (w : Int)) * (h : Int) := Int.mul_nonneg (by first | decide | omega) (by first | decide | omega)
        have e3 : ((w : Int) - (c : Int)) * (h : Int) = -(((c : Int) - (w : Int)) * (h : Int)) := by rw [← Int.neg_mul]; congr 1; omega
        omega
    rw [c1, c2]
    by_cases hc : c < w <;> cases ev <;> simp [hc, hlt, filled]
  · have a : nearB ((2 * (r : Int) + 1) * 5) ((5 : Int), 5 + 10 * (h : Int), 5, 5) = false := by unfold nearB; simp only [decide_eq_false_iff_not]; omega
    have b : nearB ((2 * (r : Int) + 1) * 5) (5 + 10 * (w : Int), 5, 5 + 10 * (w : Int), 5 + 10 * (h : Int)) = false := by unfold nearB; simp only [decide_eq_false_iff_not]; omega
    simp only [List.filter_cons, a, b, List.filter_nil, wind]
    simp [hlt, wind, filled_zero]
theorem rowY_nat (h i : Nat) (hi : i < h) : rowY h i = (2 * ((h - 1 - i : Nat) : Int) + 1) * 5 := by unfold rowY; omega
theorem square_full (ev : Bool) (w h : Nat) (hh : 1 ≤ h) : rasterB (squareP w h) ev w h = List.replicate h (List.replicate w true) := by
  apply List.ext_getElem
  · simp [rasterB]
  · intro i h1 h2
    have hi : i < h := by simpa using h2
    simp only [rasterB, List.getElem_map, List.getElem_replicate, List.getElem_range]
    unfold rowB
    apply List.ext_getElem
    · simp
    · intro j h3 h4
      have hj : j < w := by simpa using h4
      simp only [List.getElem_map, List.getElem_replicate, List.getElem_range]
      rw [rowY_nat h i hi, square_cell ev w h hh j (h - 1 - i) (by first | decide | omega)]
      simp [hj]; omega
theorem square_top (ev : Bool) (w h : Nat) (hh : 1 ≤ h) : (rasterB (squareP w h) ev (w + 1) (h + 1))[0]? = some (List.replicate (w + 1) false) := by
  simp only [rasterB, List.getElem?_map, List.getElem?_range (by omega : 0 < h + 1), Option.map_some]
  congr 1
  unfold rowB
  apply List.ext_getElem
  · simp
  · intro j h3 h4
    simp only [List.getElem_map, List.getElem_replicate, List.getElem_range]
    rw [rowY_nat (h + 1) 0 (by first | decide | omega), square_cell ev w h hh j (h + 1 - 1 - 0) (by first | decide | omega)]
    simp
end

abbrev Mo (w : World) : Model := model PySem.Challenge.pw_og0177_01 w

/-- the world's facts in a part of the heap -/
structure Wd (w : World) (mg mb : Str → Option Value) (Z : Heap) : Prop where
  K : (hdk.heap_1 w.params).In Z
  g : Z.Ns mainGlobals mg
  b : Z.Ns builtinsNs mb
  bb : ∀ x : Str, x ≠ "__name__" → mb x = bootBuiltins x
  nl : Z.NoLimit
theorem Wd.up {w : World} {mg mb : Str → Option Value} {Z Z' : Heap} (W : Wd w mg mb Z) (k : Z.StaysIn Z') : Wd w mg mb Z' := ⟨W.K.keeps k, W.g.keeps k, W.b.keeps k, W.bb, W.nl.keeps k⟩

structure Fx (n₀ : Nat) (B Z₀ Z : Heap) (L : Addr) (m : Str → Option Value) (mu : List (Addr × Obj)) (h : Heap) : Prop where
  ns : h.Ns L m
  base : B.StaysIn h
  le : Z₀.StaysIn Z
  stay : Z.StaysIn h
  L0 : n₀ ≤ L
  new : ∀ a, a < n₀ → Z₀.get? a = none → Z.get? a = none
  LB : B.get? L = none
  LZ : Z.get? L = none
  mus : ∀ p ∈ mu, h.get? p.1 = some p.2 ∧ B.get? p.1 = none ∧ p.1 ≠ L ∧ Z.get? p.1 = none
  nd : (mu.map (·.1)).Nodup

theorem Heap.ge_none {h : Heap} {a : Addr} (ha : h.objs.size ≤ a) : h.get? a = none := Heap.get?_none_of_le ha
theorem stays_refl {h : Heap} : h.StaysIn h := fun _ _ e => e
theorem stays_trans {a b c : Heap} (x : a.StaysIn b) (y : b.StaysIn c) : a.StaysIn c := fun k o e => y k o (x k o e)
theorem none_of_stays {a b : Heap} (x : a.StaysIn b) {k : Addr} (e : b.get? k = none) : a.get? k = none := by
  cases q : a.get? k with
  | none => rfl
  | some o => rw [x k o q] at e; cases e
theorem ne_of_get {h : Heap} {a b : Addr} {o : Obj} (x : h.get? a = some o) (y : h.get? b = none) : a ≠ b := fun e => by rw [e, y] at x; cases x

/-- the part of a heap at the addresses that P lets through -/
def only (h : Heap) (P : Addr → Bool) : Heap := hideAll h ((List.range h.objs.size).filter fun a => !P a)
theorem only_get {h : Heap} {P : Addr → Bool} {a : Addr} {o : Obj} (e : h.get? a = some o) (p : P a = true) : (only h P).get? a = some o :=
  hideAll_get _ e fun q => by have := (List.mem_filter.mp q).2; rw [p] at this; cases this
theorem of_only {h : Heap} {P : Addr → Bool} {a : Addr} {o : Obj} (e : (only h P).get? a = some o) : h.get? a = some o ∧ P a = true := by
  have e1 := of_hideAll _ e
  refine ⟨e1, ?_⟩
  cases q : P a with
  | true => rfl
  | false =>
    have : (only h P).get? a = none := hideAll_none _ (List.mem_filter.mpr ⟨List.mem_range.mpr (Heap.lt_size e1), by rw [q]; rfl⟩)
    rw [this] at e; cases e
theorem only_none {h : Heap} {P : Addr → Bool} {a : Addr} (p : P a = false) : (only h P).get? a = none := by
  cases q : (only h P).get? a with
  | none => rfl
  | some o => rw [(of_only q).2] at p; cases p

section
variable {n₀ : Nat} {B Z₀ Z Z' : Heap} {L : Addr} {m m' : Str → Option Value} {mu : List (Addr × Obj)} {h h' : Heap}
theorem Fx.set (F : Fx n₀ B Z₀ Z L m mu h) (hn : h'.Ns L m') (hs : Heap.SameBut L h h') : Fx n₀ B Z₀ Z L m' mu h' :=
  ⟨hn, fun a o e => (hs.2 a (ne_of_get e F.LB)).trans (F.base a o e), F.le, fun a o e => (hs.2 a (ne_of_get e F.LZ)).trans (F.stay a o e), F.L0, F.new, F.LB, F.LZ,
    fun p hp => ⟨(hs.2 p.1 (F.mus p hp).2.2.1).trans (F.mus p hp).1, (F.mus p hp).2⟩, F.nd⟩

/-- everything stays, the frozen part grows by new things -/
theorem Fx.n0 (F : Fx n₀ B Z₀ Z L m mu h) : n₀ ≤ h.objs.size := Nat.le_of_lt (Nat.lt_of_le_of_lt F.L0 F.ns.lt)
theorem Fx.grow (F : Fx n₀ B Z₀ Z L m mu h) (k : h.StaysIn h') (l : Z.StaysIn Z') (st : Z'.StaysIn h') (nw : ∀ a, a < h.objs.size → Z.get? a = none → Z'.get? a = none) : Fx n₀ B Z₀ Z' L m mu h' :=
  ⟨F.ns.keeps k, stays_trans F.base k, stays_trans F.le l, st, F.L0, fun a h1 h2 => nw a (Nat.lt_of_lt_of_le h1 F.n0) (F.new a h1 h2), F.LB, nw L F.ns.lt F.LZ,
    fun p hp => ⟨k _ _ (F.mus p hp).1, (F.mus p hp).2.1, (F.mus p hp).2.2.1, nw p.1 (Heap.lt_size (F.mus p hp).1) (F.mus p hp).2.2.2⟩, F.nd⟩

/-- a new object that is frozen at once -/
theorem Fx.alloc (F : Fx n₀ B Z₀ Z L m mu h) (o : Obj) (hf : o.isFreed = false) : ∃ Z', Fx n₀ B Z₀ Z' L m mu (h.push o) ∧ Z.StaysIn Z' ∧ Z'.get? h.objs.size = some o := by
  have kp : h.StaysIn (h.push o) := fun b x e => Heap.get?_push_of_some _ e
  have g : (h.push o).get? h.objs.size = some o := Heap.get?_push_size _ hf
  refine ⟨only (h.push o) fun a => (Z.get? a).isSome || a == h.objs.size, F.grow kp (fun a x e => only_get (kp _ _ (F.stay a x e)) (by simp [e])) (fun a x e => (of_only e).1) (fun a ha e => only_none ?_), fun a x e => only_get (kp _ _ (F.stay a x e)) (by simp [e]), only_get g (by simp)⟩
  simp [e, Nat.ne_of_lt ha]

/-- a new object that may still turn -/
theorem Fx.allocM (F : Fx n₀ B Z₀ Z L m mu h) (o : Obj) (hf : o.isFreed = false) : Fx n₀ B Z₀ Z L m ((h.objs.size, o) :: mu) (h.push o) ∧ n₀ ≤ h.objs.size := by
  have kp : h.StaysIn (h.push o) := fun b x e => Heap.get?_push_of_some _ e
  have nn : h.get? h.objs.size = none := Heap.get?_none_of_le (Nat.le_refl _)
  have G := F.grow kp stays_refl (stays_trans F.stay kp) (fun _ _ e => e)
  refine ⟨⟨G.ns, G.base, G.le, G.stay, G.L0, G.new, G.LB, G.LZ, fun p hp => ?_, ?_⟩, F.n0⟩
  · rcases List.mem_cons.mp hp with rfl | hp
    · exact ⟨Heap.get?_push_size _ hf, none_of_stays F.base nn, Nat.ne_of_gt F.ns.lt, none_of_stays F.stay nn⟩
    · exact G.mus p hp
  · rw [List.map_cons]
    refine List.nodup_cons.mpr ⟨fun hm => ?_, F.nd⟩
    obtain ⟨p, hp, e⟩ := List.mem_map.mp hm
    exact absurd (Heap.lt_size (F.mus p hp).1) (by rw [e]; exact Nat.lt_irrefl _)

/-- the first of the turning things is turned -/
theorem Fx.upd {a : Addr} {o o' : Obj} (F : Fx n₀ B Z₀ Z L m ((a, o) :: mu) h) (g : h'.get? a = some o') (hs : Heap.SameBut a h h') : Fx n₀ B Z₀ Z L m ((a, o') :: mu) h' := by
  have D := F.mus (a, o) (.head _)
  have nd := List.nodup_cons.mp F.nd
  refine ⟨F.ns.sameBut hs (Ne.symm D.2.2.1), fun b x e => (hs.2 b (ne_of_get e D.2.1)).trans (F.base b x e), F.le, fun b x e => (hs.2 b (ne_of_get e D.2.2.2)).trans (F.stay b x e), F.L0, F.new, F.LB, F.LZ, fun p hp => ?_, F.nd⟩
  rcases List.mem_cons.mp hp with rfl | hp
  · exact ⟨g, D.2⟩
  · have P := F.mus p (.tail _ hp)
    exact ⟨(hs.2 p.1 fun q => nd.1 (List.mem_map.mpr ⟨p, hp, q⟩)).trans P.1, P.2⟩
theorem Fx.perm {mu' : List (Addr × Obj)} (F : Fx n₀ B Z₀ Z L m mu h) (p : mu.Perm mu') : Fx n₀ B Z₀ Z L m mu' h :=
  ⟨F.ns, F.base, F.le, F.stay, F.L0, F.new, F.LB, F.LZ, fun q hq => F.mus q (p.mem_iff.mpr hq), (p.map _).nodup_iff.mp F.nd⟩
theorem Fx.swap {p q : Addr × Obj} (F : Fx n₀ B Z₀ Z L m (p :: q :: mu) h) : Fx n₀ B Z₀ Z L m (q :: p :: mu) h := F.perm (List.Perm.swap ..)
theorem Fx.drop {p : Addr × Obj} (F : Fx n₀ B Z₀ Z L m (p :: mu) h) : Fx n₀ B Z₀ Z L m mu h :=
  ⟨F.ns, F.base, F.le, F.stay, F.L0, F.new, F.LB, F.LZ, fun q hq => F.mus q (.tail _ hq), (List.nodup_cons.mp F.nd).2⟩
/-- the first of the turning things is frozen -/
theorem Fx.freeze {a : Addr} {o : Obj} (F : Fx n₀ B Z₀ Z L m ((a, o) :: mu) h) (ha : n₀ ≤ a) : ∃ Z', Fx n₀ B Z₀ Z' L m mu h ∧ Z.StaysIn Z' ∧ Z'.get? a = some o := by
  have D := F.mus (a, o) (.head _)
  have nd := List.nodup_cons.mp F.nd
  refine ⟨only h fun b => (Z.get? b).isSome || b == a, ⟨F.ns, F.base, fun b x e => only_get (F.stay _ _ (F.le _ _ e)) (by simp [F.le _ _ e]), fun b x e => (of_only e).1, F.L0, fun b hb e => only_none ?_, F.LB, only_none ?_, fun p hp => ?_, nd.2⟩, fun b x e => only_get (F.stay b x e) (by simp [e]), only_get D.1 (by simp)⟩
  · simp [F.new b hb e, Nat.ne_of_lt (Nat.lt_of_lt_of_le hb ha)]
  · simp [F.LZ, Ne.symm D.2.2.1]
  · have P := F.mus p (.tail _ hp)
    exact ⟨P.1, P.2.1, P.2.2.1, only_none (by simp [P.2.2.2]; exact fun q => nd.1 (List.mem_map.mpr ⟨p, hp, q⟩))⟩
end

def Cal {α : Type} (w : World) (A : Around) (s : Shared) (c : Sem α) (Z : Heap) (Post : Heap → α → Prop) : Prop :=
  ∀ (Q : α → Shared → Prop) (E : Value → Shared → Prop), (∀ r h' t' Z', s.heap.StaysIn h' → Z.StaysIn Z' → Z'.StaysIn h' → (∀ a, a < s.heap.objs.size → Z.get? a = none → Z'.get? a = none) → Post Z' r →
    Q r { s with heap := h', toks := t' }) → wpAny (Mo w) A c Q E s

section
variable {α : Type} {w : World} {A : Around} {n₀ : Nat} {B Z₀ Z : Heap} {L : Addr} {m : Str → Option Value} {mu : List (Addr × Obj)} {h : Heap} {g : Array GenState} {d : Drawn} {t : Nat} {os : OsState}
theorem Cal.use {c : Sem α} {Post : Heap → α → Prop} {Q : α → Shared → Prop} {E : Value → Shared → Prop} (C : Cal w A ⟨h, g, d, t, os⟩ c Z Post) (F : Fx n₀ B Z₀ Z L m mu h)
    (k : ∀ r h' t' Z', Fx n₀ B Z₀ Z' L m mu h' → Z.StaysIn Z' → Post Z' r → Q r ⟨h', g, d, t', os⟩) : wpAny (Mo w) A c Q E ⟨h, g, d, t, os⟩ :=
  C Q E fun r h' t' Z' a c' d' e p => k r h' t' Z' (F.grow a c' d' e) c' p
theorem Cal.mono {c : Sem α} {s : Shared} {Post Post' : Heap → α → Prop} (C : Cal w A s c Z Post) (k : ∀ Z' r, Z.StaysIn Z' → Post Z' r → Post' Z' r) : Cal w A s c Z Post' :=
  fun Q E q => C Q E fun r h' t' Z' a c' d' e p => q r h' t' Z' a c' d' e (k Z' r c' p)
end

/-- room for k calls, one within the other -/
structure Ok (A : Around) (k : Nat) : Prop where
  hd : A.handled = none
  dp : A.depth + k < recursionLimit
  un : A.units + 8 * k < cLine
theorem Ok.less {A : Around} {k j : Nat} (x : Ok A k) (e : j ≤ k) : Ok A j := ⟨x.hd, by have := x.dp; omega, by have := x.un; omega⟩
theorem Ok.deeper {A : Around} {k : Nat} {env : Env} (x : Ok A (k + 1)) : Ok (A.deeper env) k := ⟨x.hd, by rw [depth_deeper]; have := x.dp; omega, by rw [units_deeper]; have := x.un; omega⟩
theorem Ok.in1 {A : Around} {k : Nat} (x : Ok A (k + 1)) : Ok A.in1 k := ⟨x.hd, by rw [depth_in1]; have := x.dp; omega, by rw [units_in1]; have := x.un; omega⟩
theorem Ok.make {A : Around} {k : Nat} {C : Addr} {vals : List Value} {kw : List (Str × Value)} (x : Ok A (k + 1)) : Ok (A.under (.builtin "type.__call__" ⟨.ref C :: vals, kw⟩)) k := ⟨x.hd, by
  show A.depth + 1 + k < _; have := x.dp; omega, by show A.units + 1 + 8 * k < _; have := x.un; omega⟩
theorem Ok.room {A : Around} {k : Nat} (x : Ok A k) : A.depth < recursionLimit := by have := x.dp; omega
theorem Ok.units {A : Around} {k : Nat} (x : Ok A k) : A.units < cLine := by have := x.un; omega

/-- the end of a body -/
def Ends (n₀ : Nat) (B Z₀ : Heap) (L : Addr) (g : Array GenState) (d : Drawn) (os : OsState) (Post : Heap → Value → Prop) (fl : Flow) (s' : Shared) : Prop :=
  ∃ h' t' Z' m' mu', s' = ⟨h', g, d, t', os⟩ ∧ Fx n₀ B Z₀ Z' L m' mu' h' ∧ Post Z' (match fl with | .ret v => v | _ => .none)

section
variable {w : World} {A : Around} {mg mb : Str → Option Value} {Z : Heap} {h : Heap} {g : Array GenState} {d : Drawn} {t : Nat} {os : OsState} {Post : Heap → Value → Prop}
  {name qual : Str} {params : Arguments} {body : List Stmt} {scope : Scope} {dV kV doc pm cdv ct oc : Value} {an od : Option Addr} {osl : Array (Option Value)} {f : Addr} {args : Args} {binds : List (Str × Value)}
theorem enter (hA : A.depth < recursionLimit) (W : Wd w mg mb Z) (hZ : Z.StaysIn h)
    (ho : (hdk.heap_1 w.params).lookup f = some ⟨oc, od, .func (fnOf name qual params body scope dV kV doc pm an cdv ct), osl⟩) (hcd : codeIn (hdk.heap_1 w.params) cdv qual = true)
    (hbind : BindsTo ⟨h, g, d, t, os⟩ (fnOf name qual params body scope dV kV doc pm an cdv ct) args binds) (hloc : ∀ y ∈ binds, scope.names.lookup y.1 = some .local)
    (hco : scope.isCoroutine = false) (hgen : scope.isGenerator = false) (hk : scope.kind = .function) (hcell : ∀ x ∈ scope.names, x.2 ≠ .cell)
    (k : ∀ L h₁ t₁, Fx h.objs.size h Z Z L (fun y => binds.reverse.lookup y) [] h₁ →
      wpAny (Mo w) (A.deeper (envX qual scope L f cdv [])) (execs body (envX qual scope L f cdv [])) (Ends h.objs.size h Z L g d os Post) (fun _ _ => False) ⟨h₁, g, d, t₁, os⟩) :
    Cal w A ⟨h, g, d, t, os⟩ (call (.ref f) args.pos args.kw) Z Post := by
  intro Q E q
  refine wpAny_call ?_
  have X := W.K.keeps hZ
  refine codeAny_call_def (fd := fnOf name qual params body scope dV kV doc pm an cdv ct) (body := body) (binds := binds) hA (X _ _ ho) rfl (W.nl.keeps hZ) (codeRec_of X hcd) rfl hbind hcell hloc (fun h₁ hns hk₁ => ?_) hco hgen hk
  have nL : h.get? h.objs.size = none := Heap.get?_none_of_le (Nat.le_refl _)
  refine wpAny_mono (k h.objs.size h₁ _ ⟨hns, hk₁, stays_refl, stays_trans hZ hk₁, Nat.le_refl _, fun _ _ e => e, nL, none_of_stays hZ nL, fun _ hp => (nomatch hp), List.nodup_nil⟩) (fun fl s' z => ?_) (fun _ _ z => z.elim)
  obtain ⟨h', t', Z', m', mu', rfl, F', p⟩ := z
  exact q _ h' t' Z' F'.base F'.le F'.stay F'.new p
end

section
variable {w : World} {A : Around} {mg mb : Str → Option Value} {n₀ : Nat} {B Z₀ Z : Heap} {L a : Addr} {m : Str → Option Value} {mu : List (Addr × Obj)} {h : Heap} {g : Array GenState} {d : Drawn} {t : Nat} {os : OsState}
  {x : Str} {pos : Pos} {v : Value} {E : Value → Shared → Prop} {cn : Str} {cs : Scope} {ccd : Value} {cl : List (Str × Addr)} {env : Env}
theorem nm_K {Q : Value → Shared → Prop} (e : nsIn (hdk.heap_1 w.params) mainGlobals x = some (some v)) (F : Fx n₀ B Z₀ Z L m mu h) (W : Wd w mg mb Z) (q : Q v ⟨h, g, d, t, os⟩)
    (hk : env.scope.kind = .function := by rfl) (hg : env.globals = mainGlobals := by rfl) (hx : env.kindOf x = some .globalImplicit := by rfl) (hd : (x == ("__debug__" : Str)) = false := by decide) :
    wpAny (Mo w) A (eval (.Name x pos) env) Q E ⟨h, g, d, t, os⟩ := Name_function_global hk hx (loadGlobal_global (env := env) (by rw [hg]; exact (W.g.keeps F.stay)) (mg_of W.K W.g e) q) hd
theorem nm_B {Q : Value → Shared → Prop} (e : nsIn (hdk.heap_1 w.params) mainGlobals x = some none) (hv : bootBuiltins x = some v) (F : Fx n₀ B Z₀ Z L m mu h) (W : Wd w mg mb Z) (q : Q v ⟨h, g, d, t, os⟩) (hn : x ≠ "__name__" := by decide)
    (hk : env.scope.kind = .function := by rfl) (hg : env.globals = mainGlobals := by rfl) (hb : env.builtins = builtinsNs := by rfl) (hx : env.kindOf x = some .globalImplicit := by rfl) (hd : (x == ("__debug__" : Str)) = false := by decide) :
    wpAny (Mo w) A (eval (.Name x pos) env) Q E ⟨h, g, d, t, os⟩ :=
  Name_function_global hk hx (loadGlobal_builtin (env := env) (by rw [hg]; exact (W.g.keeps F.stay)) (mg_none_of W.K W.g e) (by rw [hb]; exact (W.b.keeps F.stay)) ((W.bb x hn).trans hv) q) hd
theorem nm_L {Q : Value → Shared → Prop} (F : Fx n₀ B Z₀ Z L m mu h) (hv : m x = some v) (q : Q v ⟨h, g, d, t, os⟩)
    (hL : env.locals = L := by rfl) (hk : env.scope.kind = .function := by rfl) (hx : env.kindOf x = some .local := by rfl) (hd : (x == ("__debug__" : Str)) = false := by decide) :
    wpAny (Mo w) A (eval (.Name x pos) env) Q E ⟨h, g, d, t, os⟩ := wpAny_Name (wpAny_loadName_local hk hx (by rw [hL]; exact F.ns) hv q) hd
theorem st_L {Q : Unit → Shared → Prop} (F : Fx n₀ B Z₀ Z L m mu h) (q : ∀ h', Fx n₀ B Z₀ Z L (fun y => if y = x then some v else m y) mu h' → Q () ⟨h', g, d, t + 1, os⟩)
    (hL : env.locals = L := by rfl) (hk : env.scope.kind = .function := by rfl) (hx : env.kindOf x = some .local := by rfl) : wpAny (Mo w) A (storeName env x v) Q E ⟨h, g, d, t, os⟩ := by
  subst hL
  exact wpAny_storeName_local hx F.ns (fun h' hn hs => q h' (F.set hn hs)) (by rw [hk]; rfl)
end

section
variable {w : World} {A : Around} {h : Heap} {g : Array GenState} {d : Drawn} {t : Nat} {os : OsState} {E : Value → Shared → Prop} {env : Env} {a b : Int} {u v : Tok}
theorem c_int {i : Int} {k : Nat} {pos : Pos} {Q : Value → Shared → Prop} (q : Q (.int i t) ⟨h, g, d, t + 1, os⟩) : wpAny (Mo w) A (eval (.Constant (.int i) k pos) env) Q E ⟨h, g, d, t, os⟩ := wpAny_Constant_int q
theorem c_str {x : Str} {k : Nat} {pos : Pos} {Q : Value → Shared → Prop} (q : Q (.str x t) ⟨h, g, d, t + 1, os⟩) : wpAny (Mo w) A (eval (.Constant (.str x) k pos) env) Q E ⟨h, g, d, t, os⟩ := wpAny_Constant_str q
theorem add_ii {Q : Value → Shared → Prop} (q : Q (.int (a + b) t) ⟨h, g, d, t + 1, os⟩) : wpAny (Mo w) A (binaryOp .Add (.int a u) (.int b v)) Q E ⟨h, g, d, t, os⟩ := P.add_int q
theorem sub_ii {Q : Value → Shared → Prop} (q : Q (.int (a - b) t) ⟨h, g, d, t + 1, os⟩) : wpAny (Mo w) A (binaryOp .Sub (.int a u) (.int b v)) Q E ⟨h, g, d, t, os⟩ := P.sub_int q
theorem mul_ii {Q : Value → Shared → Prop} (hm : IntMulOk a b) (q : Q (.int (a * b) t) ⟨h, g, d, t + 1, os⟩) : wpAny (Mo w) A (binaryOp .Mult (.int a u) (.int b v)) Q E ⟨h, g, d, t, os⟩ := P.mul_int q hm
theorem mod_ii {Q : Value → Shared → Prop} (hb : b ≠ 0) (q : Q (.int (a.fmod b) t) ⟨h, g, d, t + 1, os⟩) : wpAny (Mo w) A (binaryOp .Mod (.int a u) (.int b v)) Q E ⟨h, g, d, t, os⟩ := mod_int' hb q
theorem div_ii {Q : Value → Shared → Prop} (hb : b ≠ 0) (hl : b.natAbs.log2 < 9000) (q : Q (.int (a.fdiv b) t) ⟨h, g, d, t + 1, os⟩) : wpAny (Mo w) A (binaryOp .FloorDiv (.int a u) (.int b v)) Q E ⟨h, g, d, t, os⟩ := floordiv_int hb q (Or.inl (PyProof.noPylong_of_log2 hl))
theorem pow_ii {Q : Value → Shared → Prop} (hn : 0 ≤ b) (hn2 : b ≤ 1000000) (ha : a.natAbs < 2 ^ 64) (q : Q (.int (a ^ b.toNat) t) ⟨h, g, d, t + 1, os⟩) : wpAny (Mo w) A (binaryOp .Pow (.int a u) (.int b v)) Q E ⟨h, g, d, t, os⟩ := pow_int_small hn hn2 ha q
theorem neg_i {Q : Value → Shared → Prop} (q : Q (.int (-a) t) ⟨h, g, d, t + 1, os⟩) : wpAny (Mo w) A (unaryOp .USub (.int a u)) Q E ⟨h, g, d, t, os⟩ := P.neg_int q
theorem eq_ii {Q : Value → Shared → Prop} (q : Q (.bool (decide (a = b))) ⟨h, g, d, t, os⟩) : wpAny (Mo w) A (compareOp .Eq (.int a u) (.int b v)) Q E ⟨h, g, d, t, os⟩ := P.eq_int (by
  have : (a == b) = decide (a = b) := by by_cases e : a = b <;> simp [e]
  rw [this]; exact q)
theorem ne_ii {Q : Value → Shared → Prop} (q : Q (.bool (decide (a ≠ b))) ⟨h, g, d, t, os⟩) : wpAny (Mo w) A (compareOp .NotEq (.int a u) (.int b v)) Q E ⟨h, g, d, t, os⟩ := P.ne_int (by
  have : (a != b) = decide (a ≠ b) := by by_cases e : a = b <;> simp [e]
  rw [this]; exact q)
theorem lt_ii {Q : Value → Shared → Prop} (q : Q (.bool (decide (a < b))) ⟨h, g, d, t, os⟩) : wpAny (Mo w) A (compareOp .Lt (.int a u) (.int b v)) Q E ⟨h, g, d, t, os⟩ := P.lt_int q
theorem le_ii {Q : Value → Shared → Prop} (q : Q (.bool (decide (a ≤ b))) ⟨h, g, d, t, os⟩) : wpAny (Mo w) A (compareOp .LtE (.int a u) (.int b v)) Q E ⟨h, g, d, t, os⟩ := P.le_int q
theorem gt_ii {Q : Value → Shared → Prop} (q : Q (.bool (decide (a > b))) ⟨h, g, d, t, os⟩) : wpAny (Mo w) A (compareOp .Gt (.int a u) (.int b v)) Q E ⟨h, g, d, t, os⟩ := P.gt_int q
theorem ge_ii {Q : Value → Shared → Prop} (q : Q (.bool (decide (a ≥ b))) ⟨h, g, d, t, os⟩) : wpAny (Mo w) A (compareOp .GtE (.int a u) (.int b v)) Q E ⟨h, g, d, t, os⟩ := P.ge_int q
theorem eq_ss {x y : Str} {Q : Value → Shared → Prop} (q : Q (.bool (decide (x = y))) ⟨h, g, d, t, os⟩) : wpAny (Mo w) A (compareOp .Eq (.str x u) (.str y v)) Q E ⟨h, g, d, t, os⟩ := PyProof.Rows.eq_str (by
  have : (x == y) = decide (x = y) := by by_cases e : x = y <;> simp [e]
  rw [this]; exact q)
theorem ne_ss {x y : Str} {Q : Value → Shared → Prop} (q : Q (.bool (decide (x ≠ y))) ⟨h, g, d, t, os⟩) : wpAny (Mo w) A (compareOp .NotEq (.str x u) (.str y v)) Q E ⟨h, g, d, t, os⟩ := PyProof.Rows.ne_str (by
  have : (x != y) = decide (x ≠ y) := by by_cases e : x = y <;> simp [e]
  rw [this]; exact q)
end

section
variable {M : Model} {A : Around} {E : Value → Shared → Prop} {s : Shared} {env : Env}
theorem wp_gen {α : Type} {c : Sem α} {Q₀ : α → Shared → Prop} (k : ∀ Q : α → Shared → Prop, (∀ f s, Q₀ f s → Q f s) → wpAny M A c Q E s) : wpAny M A c Q₀ E s := k Q₀ fun _ _ h => h
theorem wp_gen2 {α β : Type} {c : Sem α} {c2 : Sem β} {E₂ : Value → Shared → Prop} {Q₀ : β → Shared → Prop} (k : ∀ Q : β → Shared → Prop, (∀ f s, Q₀ f s → Q f s) → wpAny M A c (fun _ s₂ => wpAny M A c2 Q E₂ s₂) E s) : wpAny M A c (fun _ s₂ => wpAny M A c2 Q₀ E₂ s₂) E s := k Q₀ fun _ _ h => h
theorem s_nil {Q : Flow → Shared → Prop} (q : Q .next s) : wpAny M A (execs [] env) Q E s := wpAny_execs_nil q
theorem s_asn {x : Str} {pos' pos : Pos} {value : Expr} {Q : Flow → Shared → Prop} (hs : swapsWith value (some (.Name x pos')) pos.line env = pure false)
    (q : wpAny M A (eval value env) (fun v s₁ => wpAny M A (storeName env x v) (fun _ => Q .next) E s₁) E s) : wpAny M A (exec (.Assign [.Name x pos'] value pos) env) Q E s := wpAny_Assign_Name q hs
theorem s_cmp {l r : Expr} {op : CmpOp} {pos : Pos} {Q : Value → Shared → Prop} (hm : behindInMarks op r = false)
    (q : wpAny M A (eval l env) (fun a s₁ => wpAny M A (eval r env) (fun b s₂ => wpAny M A (compareOp op a b) Q E s₂) E s₁) E s) : wpAny M A (eval (.Compare l [op] [r] pos) env) Q E s := wpAny_Compare1 q hm
theorem s_tcmp {l r : Expr} {op : CmpOp} {pos : Pos} {whole : Sem Value} {Q : Bool → Shared → Prop} (hm : behindInMarks op r = false)
    (q : wpAny M A (eval l env) (fun a s₁ => wpAny M A (eval r env) (fun b s₂ => wpAny M A (compareOp op a b) (fun c s₃ => wpAny M A (truthy c) Q E s₃) E s₂) E s₁) E s) : wpAny M A (isTrue (.Compare l [op] [r] pos) env whole) Q E s := wpAny_isTrue_Compare1 q hm
theorem s_tt {P Q : Prop} (q : P) : if (true = true) then P else Q := by rw [if_pos rfl]; exact q
theorem s_ff {P Q : Prop} (q : Q) : if (false = true) then P else Q := by rw [if_neg (by decide)]; exact q
theorem s_if {b : Bool} {P Q : Prop} (p : b = true → P) (q : b = false → Q) : if (b = true) then P else Q := by cases b <;> first | (rw [if_pos rfl]; exact p rfl) | (rw [if_neg (by decide)]; exact q rfl)
theorem s_dec {c : Prop} [Decidable c] {P Q : Prop} (p : c → P) (q : ¬ c → Q) : if (decide c = true) then P else Q := by
  by_cases e : c
  · rw [if_pos (by simp [e])]; exact p e
  · rw [if_neg (by simp [e])]; exact q e
theorem s_list {e : Expr} {rest : List Expr} {pos : Pos} {Q : List Value → Shared → Prop} (he : starEach (e :: rest) env = (false, eval e env) :: starEach rest env)
    (q : wpAny M A (eval e env) (fun v s₁ => wpAny M A (spliced (backTo pos (starEach rest env))) (fun vs s₂ => Q (v :: vs) s₂) E s₁) E s) : wpAny M A (spliced (backTo pos (starEach (e :: rest) env))) Q E s := args_cons q he
end

/-- a tuple, a list in a frozen part -/
def Tup (Z : Heap) (v : Value) (vs : List Value) : Prop := ∃ a, v = .ref a ∧ IsTup Z a vs.toArray
def Lst (Z : Heap) (v : Value) (vs : List Value) : Prop := ∃ a, v = .ref a ∧ Z.IsList a vs.toArray
theorem Tup.up {Z Z' : Heap} {v : Value} {vs : List Value} (x : Tup Z v vs) (k : Z.StaysIn Z') : Tup Z' v vs := by
  obtain ⟨a, e, i⟩ := x
  exact ⟨a, e, i.keeps k⟩
theorem Lst.up {Z Z' : Heap} {v : Value} {vs : List Value} (x : Lst Z v vs) (k : Z.StaysIn Z') : Lst Z' v vs := by
  obtain ⟨a, e, o, ho, r⟩ := x
  exact ⟨a, e, o, k _ _ ho, r⟩

section
variable {w : World} {A : Around} {mg mb : Str → Option Value} {n₀ : Nat} {B Z₀ Z : Heap} {L : Addr} {m : Str → Option Value} {mu : List (Addr × Obj)} {h : Heap} {g : Array GenState} {d : Drawn} {t : Nat} {os : OsState} {E : Value → Shared → Prop} {env : Env}
  {x : Str} {pos : Pos} {v : Value}
theorem n_K {Q : Value → Shared → Prop} (F : Fx n₀ B Z₀ Z L m mu h) (W : Wd w mg mb Z₀) (hk : env.scope.kind = .function) (hg : env.globals = mainGlobals) (hx : env.kindOf x = some .globalImplicit) (hdb : (x == ("__debug__" : Str)) = false)
    (e : nsIn (hdk.heap_1 w.params) mainGlobals x = some (some v)) (q : Q v ⟨h, g, d, t, os⟩) : wpAny (Mo w) A (eval (.Name x pos) env) Q E ⟨h, g, d, t, os⟩ := nm_K e F (W.up F.le) q hk hg hx hdb
theorem n_B {Q : Value → Shared → Prop} (F : Fx n₀ B Z₀ Z L m mu h) (W : Wd w mg mb Z₀) (hk : env.scope.kind = .function) (hg : env.globals = mainGlobals) (hb : env.builtins = builtinsNs) (hx : env.kindOf x = some .globalImplicit) (hdb : (x == ("__debug__" : Str)) = false)
    (e : nsIn (hdk.heap_1 w.params) mainGlobals x = some none) (hn : x ≠ "__name__") (hv : bootBuiltins x = some v) (q : Q v ⟨h, g, d, t, os⟩) : wpAny (Mo w) A (eval (.Name x pos) env) Q E ⟨h, g, d, t, os⟩ := nm_B e hv F (W.up F.le) q hn hk hg hb hx hdb
theorem n_L {Q : Value → Shared → Prop} (F : Fx n₀ B Z₀ Z L m mu h) (hL : env.locals = L) (hk : env.scope.kind = .function) (hx : env.kindOf x = some .local) (hdb : (x == ("__debug__" : Str)) = false)
    (hv : m x = some v) (q : Q v ⟨h, g, d, t, os⟩) : wpAny (Mo w) A (eval (.Name x pos) env) Q E ⟨h, g, d, t, os⟩ := nm_L F hv q hL hk hx hdb
theorem n_st {Q : Unit → Shared → Prop} (F : Fx n₀ B Z₀ Z L m mu h) (hL : env.locals = L) (hk : env.scope.kind = .function) (hx : env.kindOf x = some .local)
    (q : ∀ h', Fx n₀ B Z₀ Z L (fun y => if y = x then some v else m y) mu h' → Q () ⟨h', g, d, t + 1, os⟩) : wpAny (Mo w) A (storeName env x v) Q E ⟨h, g, d, t, os⟩ := st_L F q hL hk hx

/-- an item of a tuple -/
theorem i_tup {value slice : Expr} {o : Value} {vs : List Value} {k : Int} {u : Tok} {j : Nat} {Q : Value → Shared → Prop} (F : Fx n₀ B Z₀ Z L m mu h) (T : Tup Z o vs) (hlo : -(2 ^ 63) ≤ k) (hhi : k < 2 ^ 63) (hj : seqIndex? k vs.length = some j) (hx : vs[j]? = some v)
    (hs : ∀ o, subscripted slice false o (.int k u) = operate [o, .int k u] (getItem o (.int k u))) (q : Q v ⟨h, g, d, t, os⟩) : wpAny (Mo w) A (subscriptTail value slice o (.int k u)) Q E ⟨h, g, d, t, os⟩ := by
  obtain ⟨a, rfl, i⟩ := T
  have i' := i.keeps F.stay
  exact tail_any i'.typeIs slot_tuple_getitem.lookup (getItem_tuple i' hlo hhi (by simpa using hj) (by simpa using hx) q) (hs _)
theorem i_lst {value slice : Expr} {o : Value} {vs : List Value} {k : Int} {u : Tok} {Q : Value → Shared → Prop} (F : Fx n₀ B Z₀ Z L m mu h) (T : Lst Z o vs) (h0 : 0 ≤ k) (hhi : k < 2 ^ 63) (hx : vs[k.toNat]? = some v)
    (hs : ∀ o, subscripted slice false o (.int k u) = operate [o, .int k u] (getItem o (.int k u))) (q : Q v ⟨h, g, d, t, os⟩) : wpAny (Mo w) A (subscriptTail value slice o (.int k u)) Q E ⟨h, g, d, t, os⟩ := by
  obtain ⟨a, rfl, o, ho, r⟩ := T
  have i' : h.IsList a vs.toArray := ⟨o, F.stay _ _ ho, r⟩
  exact tail_any i'.typeIs slot_list_getitem.lookup (wpAny_getItem_list i' h0 hhi (by simpa using hx) q) (hs _)
/-- a tuple made -/
theorem k_tup {vs : List Value} {Q : Value → Shared → Prop} (F : Fx n₀ B Z₀ Z L m mu h) (hsz : vs.length ≤ sizeLine) (q : ∀ r h' Z', Fx n₀ B Z₀ Z' L m mu h' → Z.StaysIn Z' → Tup Z' r vs → Q r ⟨h', g, d, t, os⟩) : wpAny (Mo w) A (newTuple vs) Q E ⟨h, g, d, t, os⟩ := by
  obtain ⟨Z', F', l, e⟩ := F.alloc { cls := .type "tuple", data := .seq vs.toArray } rfl
  exact wpAny_newObj_type (q _ _ Z' F' l ⟨_, rfl, _, e, rfl, _, rfl⟩) (by show vs.toArray.size ≤ sizeLine; rw [List.size_toArray]; exact hsz)
/-- a list made, that may turn -/
theorem k_lst {vs : List Value} {Q : Value → Shared → Prop} (F : Fx n₀ B Z₀ Z L m mu h) (hsz : vs.length ≤ sizeLine) (q : ∀ a h', Fx n₀ B Z₀ Z L m ((a, { cls := .type "list", data := .seq vs.toArray }) :: mu) h' → n₀ ≤ a → Q (.ref a) ⟨h', g, d, t, os⟩) : wpAny (Mo w) A (newList vs) Q E ⟨h, g, d, t, os⟩ := by
  obtain ⟨F', l⟩ := F.allocM { cls := .type "list", data := .seq vs.toArray } rfl
  exact wpAny_newObj_type (q _ _ F' l) (by show vs.toArray.size ≤ sizeLine; rw [List.size_toArray]; exact hsz)
/-- a call of a def of the text's top, by its name -/
theorem c_def {f : Value} {e : Expr} {rest : List Expr} {Q : Value → Shared → Prop} (hk : keepIn (hdk.heap_1 w.params) f = true) (he : starEach (e :: rest) env = (false, eval e env) :: starEach rest env) (hp : (backTo pos (starEach rest env)).any (·.1) = false)
    (q : wpAny (Mo w) A (spliced (backTo pos (starEach (e :: rest) env))) (fun vs s₁ => (hdk.heap_1 w.params).In s₁.heap ∧ wpAny (Mo w) A (call f vs) Q E s₁) E ⟨h, g, d, t, os⟩) (F : Fx n₀ B Z₀ Z L m mu h) (W : Wd w mg mb Z₀) :
    wpAny (Mo w) A (callWith pos f [] (backTo pos (starEach (e :: rest) env)) []) Q E ⟨h, g, d, t, os⟩ := callWith_K (first := []) W.K hk q he hp
theorem c_kin {P : Prop} (F : Fx n₀ B Z₀ Z L m mu h) (W : Wd w mg mb Z₀) (p : P) : (hdk.heap_1 w.params).In h ∧ P := ⟨W.K.keeps (stays_trans F.le F.stay), p⟩
end

section
variable {w : World} {A : Around} {mg mb : Str → Option Value} {n₀ : Nat} {B Z₀ Z : Heap} {L : Addr} {m : Str → Option Value} {mu : List (Addr × Obj)} {h : Heap} {g : Array GenState} {d : Drawn} {t : Nat} {os : OsState} {E : Value → Shared → Prop} {env : Env}
  {x dx C : Addr} {name : Str} {v : Value} {es es' : List DictEntry} {n n' : Nat}

/-- an attribute stored in an own object's dict -/
theorem sa_own {Q : Unit → Shared → Prop} (F : Fx n₀ B Z₀ Z L m ((dx, dictOf es n) :: (x, instObj C dx) :: mu) h) (W : Wd w mg mb Z₀)
    (hs : findIn (hdk.heap_1 w.params) (.ref C) "__setattr__" = some (some (.builtin "object.__setattr__"))) (hp : plainOver (hdk.heap_1 w.params) C = true) (ht : takerIn (hdk.heap_1 w.params) C name = some none) (hh : hasDictIn (hdk.heap_1 w.params) C = true)
    (hl : (getL name es).isSome = true) (hz' : Nat.ble (es.length + 1) 1000 = true)
    (q : ∀ h' tk, Fx n₀ B Z₀ Z L m ((dx, dictOf (putL name (PyData.keyHash w.params name) (.str name tk) v es) (putN name es n)) :: (x, instObj C dx) :: mu) h' → Q () ⟨h', g, d, t + 1 + 1, os⟩) :
    wpAny (Mo w) A (setAttr (.ref x) name v) Q E ⟨h, g, d, t, os⟩ := by
  have hz : es.length < 1000 := Nat.le_of_ble_eq_true hz'
  have X : (hdk.heap_1 w.params).In h := W.K.keeps (stays_trans F.le F.stay)
  have hdx : h.get? dx = some (dictOf es n) := (F.mus (dx, dictOf es n) (.head _)).1
  have hx : h.get? x = some (instObj C dx) := (F.mus (x, instObj C dx) (.tail _ (.head _))).1
  have I : InstAt h x (instObj C dx) C (some (dictOf es n)) := ⟨hx, rfl, rfl, hdx⟩
  refine set_plain (s := ⟨h, g, d, t, os⟩) X I hs ?_
  refine osa_open (s := ⟨h, g, d, t + 1, os⟩) X I hp ht fun b => ?_
  obtain ⟨cd, hc, hd'⟩ := any_some hh
  refine wpAny_bind (wpAny_pure (wpAny_bind (wpAny_bind (wpAny_loadPart hx (wpAny_bind ((looks_clsIn X hc).here ?_))))))
  rw [hd']
  refine wpAny_pure (a := some dx) (wpAny_bind (wpAny_pure (wpAny_bind ?_)))
  unfold nsSet
  refine wpAny_bind (wpAny_bind (wpAny_askSetting (wpAny_pure (wpAny_bind (wpAny_mkText (wpAny_bind (wpAny_loadPart hdx ?_)))))))
  have c : (!(es.toArray).any (·.key.isStr name) && (es.toArray).any (·.refKey)) = false := by
    rw [← Array.any_toList, ← Array.any_toList]
    unfold getL at hl
    show (!es.any (·.key.isStr name) && es.any (·.refKey)) = false
    split at hl
    · rename_i en he
      rw [List.any_eq_true.mpr ⟨en, List.mem_of_find?_eq_some he, List.find?_some he⟩]; rfl
    · split at hl
      · cases hl
      · rename_i z; rw [Bool.not_eq_true] at z; rw [z, Bool.and_false]
  dsimp only
  rw [aRefKeyMayBeTheName_at, c]
  have e' : Obj.putName name (PyData.keyHash w.params name) (.str name (t + 1)) v (dictOf es n) = dictOf (putL name (PyData.keyHash w.params name) (.str name (t + 1)) v es) (putN name es n) := putName_dict ..
  have ge := Heap.get?_update_self (Obj.putName name (PyData.keyHash w.params name) (.str name (t + 1)) v) hdx (by rw [e']; rfl)
  rw [e'] at ge
  refine wpAny_updatePart hdx ?_
  have sz : ∀ (k : Value) (l : List DictEntry), (putL name (PyData.keyHash w.params name) k v l).length ≤ l.length + 1 := by
    intro k l
    induction l with
    | nil => simp [putL]
    | cons e r ih =>
      unfold putL
      split
      · simp
      · simpa using ih
  refine wpAny_bind (wpAny_lookBehind ge (pastItsLine_dict (by rw [List.size_toArray, sizeLine_eq]; have := sz (.str name (t + 1)) es; omega)) ?_)
  exact wpAny_pure (q _ (t + 1) (F.upd ge (Heap.SameBut.update ..)))

/-- an attribute read from an own object's dict -/
theorem ga_own {expr : Bool} {Q : Value → Shared → Prop} (F : Fx n₀ B Z₀ Z L m mu h) (W : Wd w mg mb Z₀) (hx : h.get? x = some (instObj C dx)) (hdx : h.get? dx = some (dictOf es n))
    (hg : plainGet (hdk.heap_1 w.params) C name = true) (hh : hasDictIn (hdk.heap_1 w.params) C = true) (ha : findIn (hdk.heap_1 w.params) (.ref C) name = some none) (hl : getL name es = some (some v)) (hv : handedIn v = true)
    (q : Q v ⟨h, g, d, t + 1, os⟩) : wpAny (Mo w) A (getAttr (.ref x) name expr) Q E ⟨h, g, d, t, os⟩ :=
  get_value (od := some (dictOf es n)) (W.K.keeps (stays_trans F.le F.stay)) ⟨hx, rfl, rfl, hdx⟩ (plainGet_of hg).1 (findObj_own (od := dictOf es n) (attr := none) hh ha rfl hl) hv q
end

section
variable {w : World} {A : Around} {mg mb : Str → Option Value} {Z : Heap} {h : Heap} {g : Array GenState} {d : Drawn} {t : Nat} {os : OsState} {Post : Heap → Value → Prop} {C f : Addr} {vals : List Value} {kw : List (Str × Value)}
  {name qual : Str} {params : Arguments} {body : List Stmt} {scope : Scope} {dV kV doc pm cdv ct oc : Value} {an od : Option Addr} {osl : Array (Option Value)}
/-- an own class called: its __init__'s body -/
theorem enterC {k₀ : Nat} (hA : Ok A (k₀ + 1)) (W : Wd w mg mb Z) (hZ : Z.StaysIn h) (hm : makesIn (hdk.heap_1 w.params) C = true) (hi : findIn (hdk.heap_1 w.params) (.ref C) "__init__" = some (some (.ref f))) (hfn : isFn (hdk.heap_1 w.params) (.ref f) = true)
    (ho : (hdk.heap_1 w.params).lookup f = some ⟨oc, od, .func (fnOf name qual params body scope dV kV doc pm an cdv ct), osl⟩) (hcd : codeIn (hdk.heap_1 w.params) cdv qual = true)
    (binds : Addr → List (Str × Value)) (hbind : ∀ (s : Shared) (x : Addr), (hdk.heap_1 w.params).In s.heap → BindsTo s (fnOf name qual params body scope dV kV doc pm an cdv ct) ⟨.ref x :: vals, kw⟩ (binds x)) (hloc : ∀ x, ∀ y ∈ binds x, scope.names.lookup y.1 = some .local)
    (hco : scope.isCoroutine = false) (hgen : scope.isGenerator = false) (hk : scope.kind = .function) (hcell : ∀ x ∈ scope.names, x.2 ≠ .cell)
    (k : ∀ x dx L h₁ t₁ A', Ok A' k₀ → h.objs.size ≤ x → h.objs.size ≤ dx → Fx h.objs.size h Z Z L (fun y => (binds x).reverse.lookup y) [(dx, dictOf [] 0), (x, instObj C dx)] h₁ →
      wpAny (Mo w) (A'.deeper (envX qual scope L f cdv [])) (execs body (envX qual scope L f cdv [])) (fun fl s' => (match fl with | .ret v => v = .none | _ => True) ∧ Ends h.objs.size h Z L g d os (fun Z' _ => Post Z' (.ref x)) fl s') (fun _ _ => False) ⟨h₁, g, d, t₁, os⟩) :
    Cal w A ⟨h, g, d, t, os⟩ (call (.ref C) vals kw) Z Post := by
  intro Q E q
  refine wpAny_call ?_
  have X := W.K.keeps hZ
  have kp : h.StaysIn ((h.push emptyDict).push (instObj C h.objs.size)) := fun b o e => Heap.get?_push_of_some _ (Heap.get?_push_of_some _ e)
  refine make_core (makes_of X hm) (looks_findIn X hi) (fun self => bind_fn X self (beq_iff_eq.mp hfn)) (.inl rfl) ?_
  have hA' : Ok (A.under (.builtin "type.__call__" ⟨.ref C :: vals, kw⟩)) k₀ := hA.make
  refine codeAny_call_def (s := ⟨(h.push emptyDict).push (instObj C h.objs.size), g, d, t, os⟩) (fd := fnOf name qual params body scope dV kV doc pm an cdv ct) (body := body) (binds := binds (h.objs.size + 1)) hA'.room (kp _ _ (X _ _ ho)) rfl ((W.nl.keeps hZ).keeps kp) (codeRec_of (X.keeps kp) hcd) rfl (hbind _ _ (X.keeps kp)) hcell (hloc _) (fun h₁ hns hk₁ => ?_) hco hgen hk
  have sz : ((h.push emptyDict).push (instObj C h.objs.size)).objs.size = h.objs.size + 2 := by rw [Heap.size_push, Heap.size_push]
  have kp₁ := stays_trans kp hk₁
  have no : ∀ a, h.objs.size ≤ a → h.get? a = none := fun a ha => Heap.get?_none_of_le ha
  have g1 : ((h.push emptyDict).push (instObj C h.objs.size)).get? (h.objs.size + 1) = some (instObj C h.objs.size) := by heap_get
  have g2 : ((h.push emptyDict).push (instObj C h.objs.size)).get? h.objs.size = some emptyDict := Heap.get?_push_of_some _ (Heap.get?_push_size _ rfl)
  have hL : h.objs.size ≤ ((h.push emptyDict).push (instObj C h.objs.size)).objs.size := by rw [sz]; omega
  refine wpAny_mono (k (h.objs.size + 1) h.objs.size ((h.push emptyDict).push (instObj C h.objs.size)).objs.size h₁ _ _ hA' (Nat.le_succ _) (Nat.le_refl _)
    ⟨hns, kp₁, stays_refl, stays_trans hZ kp₁, hL, fun _ _ e => e, no _ hL, none_of_stays hZ (no _ hL), fun p hp => ?_, ?_⟩) (fun fl s' z => ?_) (fun _ _ z => z.elim)
  · rcases List.mem_cons.mp hp with rfl | hp
    · exact ⟨hk₁ _ _ g2, no _ (Nat.le_refl _), by rw [sz]; show h.objs.size ≠ _; omega, none_of_stays hZ (no _ (Nat.le_refl _))⟩
    · rcases List.mem_singleton.mp hp with rfl
      exact ⟨hk₁ _ _ g1, no _ (Nat.le_succ _), by rw [sz]; show h.objs.size + 1 ≠ _; omega, none_of_stays hZ (no _ (Nat.le_succ _))⟩
  · simp
  · obtain ⟨hv, h', t', Z', m', mu', rfl, F', p⟩ := z
    have R : Q (.ref (h.objs.size + 1)) ⟨h', g, d, t', os⟩ := q _ h' t' Z' F'.base F'.le F'.stay F'.new p
    cases fl with
    | ret v => exact ⟨hv, R⟩
    | _ => exact ⟨rfl, R⟩
end

section
variable {w : World} {A : Around} {n₀ : Nat} {B Z₀ Z : Heap} {L : Addr} {m : Str → Option Value} {mu : List (Addr × Obj)} {h : Heap} {g : Array GenState} {d : Drawn} {t : Nat} {os : OsState} {env : Env}
def Stands (n₀ : Nat) (B Z₀ : Heap) (L : Addr) (g : Array GenState) (d : Drawn) (os : OsState) (J : Heap → (Str → Option Value) → List (Addr × Obj) → Prop) (s : Shared) : Prop :=
  ∃ h t Z m mu, s = ⟨h, g, d, t, os⟩ ∧ Fx n₀ B Z₀ Z L m mu h ∧ J Z m mu
theorem w_while {test : Expr} {body : List Stmt} {pos : Pos} {Q : Flow → Shared → Prop} (J : Nat → Heap → (Str → Option Value) → List (Addr × Obj) → Prop) (n : Nat) (F : Fx n₀ B Z₀ Z L m mu h) (hJ : J n Z m mu)
    (turn : ∀ n Z m mu h t, Fx n₀ B Z₀ Z L m mu h → J n Z m mu → wpAny (Mo w) A (isTrue test env (eval test env)) (fun b s₂ => if b = true
      then wpAny (Mo w) A (execs body env) (fun f s₃ => f = .next ∧ Stands n₀ B Z₀ L g d os (fun Z' m' mu' => ∃ n', n' < n ∧ J n' Z' m' mu') s₃) (fun _ _ => False) s₂
      else Q .next s₂) (fun _ _ => False) ⟨h, g, d, t, os⟩) :
    wpAny (Mo w) A (exec (.While test body [] pos) env) Q (fun _ _ => False) ⟨h, g, d, t, os⟩ := by
  refine wpAny_While (codeAny_whileLoop (fun n s => Stands n₀ B Z₀ L g d os (J n) s) ?_ n ⟨h, t, Z, m, mu, rfl, F, hJ⟩)
  rintro n s ⟨h, t, Z, m, mu, rfl, F, hJ⟩
  refine wpAny_mono (turn n Z m mu h t F hJ) (fun b s₂ h₂ => ?_) (fun _ _ z => z.elim)
  cases b with
  | true =>
    rw [if_pos rfl] at h₂ ⊢
    refine wpAny_mono h₂ (fun f s₃ h₃ => ?_) (fun _ _ z => z.elim)
    obtain ⟨rfl, h', t', Z', m', mu', rfl, F', n', hn, hj⟩ := h₃
    exact ⟨n', hn, h', t', Z', m', mu', rfl, F', hj⟩
  | false =>
    rw [if_neg (by decide)] at h₂ ⊢
    exact wpAny_execs_nil h₂
end


local macro_rules | `(tactic| tb_rel) => `(tactic| first
  | ((with_reducible show wpAny _ _ (eval _ _) _ _ _); first
    | (with_reducible refine IfExp_ ?_)
    | ((with_reducible refine' s_cmp ?z1 ?_); case z1 => with_unfolding_all rfl)
    | (with_reducible refine BoolOp_and ?_)
    | (with_reducible refine BoolOp_or ?_)
    | (with_reducible refine BoolOp_one ?_)
    | (with_reducible refine Subscript_ ?_)
    | (with_reducible refine UnaryOp_ ?_)
    | (with_reducible refine wpAny_BinOp ?_)
    | ((with_reducible refine' Attribute_any_ ?_ ?z1); case z1 => with_unfolding_all rfl)
    | (with_reducible refine c_int ?_)
    | (with_reducible refine c_str ?_)
    | (with_reducible refine Constant_bool ?_)
    | (with_reducible refine Constant_none ?_)
    | ((with_reducible refine' MethodCall_ (pl := _) ?_ ?z1); case z1 => exact rfl)
    | ((with_reducible refine' Call_ ?_ ?z1); case z1 => exact rfl)
    | (with_reducible refine Tuple_ ?_)
    | (with_reducible refine List_ ?_)
    | ((with_reducible refine' n_L (by assumption) ?z1 ?z2 ?z3 ?z4 ?z5 ?_); (case z1 => exact rfl); (case z2 => exact rfl); (case z3 => exact rfl); (case z4 => decide); (case z5 => first | exact rfl | assumption))
    | ((with_reducible refine' n_K (by assumption) (by assumption) ?z1 ?z2 ?z3 ?z4 ?z5 ?_); (case z1 => exact rfl); (case z2 => exact rfl); (case z3 => exact rfl); (case z4 => decide); (case z5 => k_is))
    | ((with_reducible refine' n_B (by assumption) (by assumption) ?z1 ?z2 ?z3 ?z4 ?z5 ?z6 ?z7 ?z8 ?_); (case z1 => exact rfl); (case z2 => exact rfl); (case z3 => exact rfl); (case z4 => exact rfl); (case z5 => decide); (case z6 => k_is); (case z7 => decide); (case z8 => boot_by_name)))
  | ((with_reducible show wpAny _ _ (exec _ _) _ _ _); first
    | ((with_reducible refine' Assign_Tuple_swapped ?_ ?z1 ?z2); (case z1 => exact rfl); (case z2 => exact rfl))
    | ((with_reducible refine' wpAny_Assign_Subscript ?_ ?z1); case z1 => exact rfl)
    | (with_reducible refine wpAny_Return_some ?_)
    | ((with_reducible refine' s_asn ?z1 ?_); case z1 => exact rfl)
    | ((with_reducible refine' Assign_Tuple ?_ ?z1 ?z2); (case z1 => exact rfl); (case z2 => exact rfl))
    | (with_reducible refine wpAny_If ?_)
    | ((with_reducible refine' plainObj_wpAny_Assign_Attribute ?_ ?z1); case z1 => with_unfolding_all rfl))
  | ((with_reducible show wpAny _ _ (execs _ _) _ _ _); first
    | (with_reducible refine wpAny_execs_cons ?_)
    | (with_reducible refine s_nil ?_))
  | ((with_reducible show wpAny _ _ (isTrue _ _ _) _ _ _); first
    | ((with_reducible refine' isTrue_chain ?_ ?z1); case z1 => with_unfolding_all rfl)
    | ((with_reducible refine' s_tcmp ?z1 ?_); case z1 => with_unfolding_all rfl)
    | (with_reducible refine isTrue_and_nil ?_)
    | (with_reducible refine isTrue_or_nil ?_)
    | (with_reducible refine isTrue_and ?_)
    | (with_reducible refine isTrue_or ?_)
    | (with_reducible refine isTrue_not ?_)
    | ((with_reducible refine' isTrue_plain ?_ ?z1); case z1 => exact rfl))
  | ((with_reducible show wpAny _ _ (callWith _ _ _ _ _) _ _ _); first
    | ((with_reducible refine' c_def ?z1 ?z2 ?z3 ?_ (by assumption) (by assumption)); (case z1 => k_is); (case z2 => exact rfl); (case z3 => exact rfl))
    | ((with_reducible refine' PyProof.Rows.callWith_builtin1 ?_ ?z2 ?z3); (case z2 => exact rfl); (case z3 => exact rfl)))
  | ((with_reducible show wpAny _ _ (spliced _) _ _ _); first
    | ((with_reducible refine' s_list ?z1 ?_); case z1 => exact rfl)
    | (with_reducible refine args_nil ?_))
  | ((with_reducible show wpAny _ _ (binaryOp _ _ _) _ _ _); first
    | ((with_reducible refine' mod_ii ?z1 ?_); (case z1 => omega))
    | (with_reducible refine add_ii ?_)
    | (with_reducible refine sub_ii ?_)
    | ((with_reducible refine' mod_ii ?z1 ?_); (case z1 => decide))
    | ((with_reducible refine' div_ii ?z1 ?z2 ?_); (case z1 => decide); (case z2 => decide +kernel))
    | ((with_reducible refine' pow_ii ?z1 ?z2 ?z3 ?_); (case z1 => omega); (case z2 => omega); (case z3 => decide)))
  | ((with_reducible show wpAny _ _ (compareOp _ _ _) _ _ _); first
    | (with_reducible refine eq_ii ?_)
    | (with_reducible refine ne_ii ?_)
    | (with_reducible refine lt_ii ?_)
    | (with_reducible refine le_ii ?_)
    | (with_reducible refine gt_ii ?_)
    | (with_reducible refine ge_ii ?_)
    | (with_reducible refine eq_ss ?_)
    | (with_reducible refine ne_ss ?_))
  | ((with_reducible show wpAny _ _ (subscriptTail _ _ _ _) _ _ _); first
    | ((with_reducible refine' i_tup (by assumption) ?z0 ?z1 ?z2 ?z3 ?z4 ?z5 ?_); (case z0 => ktr_rel); (case z1 => decide); (case z2 => decide); (case z3 => exact rfl); (case z4 => exact rfl); (case z5 => intro _; with_unfolding_all rfl)))
  | ((with_reducible show wpAny _ _ (storeName _ _ _) _ _ _); first
    | ((with_reducible refine' n_st (by assumption) ?z1 ?z2 ?z3 ?_); (case z1 => exact rfl); (case z2 => exact rfl); (case z3 => exact rfl); intro _ _))
  | ((with_reducible show wpAny _ _ (assign _ _ _) _ _ _); first
    | (with_reducible refine wpAny_assign_Name ?_))
  | ((with_reducible show wpAny _ _ (truthy _) _ _ _); first
    | (with_reducible refine wpAny_truthy_bool ?_))
  | (with_reducible refine test_link ?_)
  | ((with_reducible show wpAny _ _ (testChain _ _ _ _) _ _ _); refine test_last ?_)
  | ((with_reducible refine' sa_own (by assumption) (by assumption) ?z1 ?z2 ?z3 ?z4 ?z5 ?z6 ?_); (case z1 => k_is); (case z2 => k_is); (case z3 => k_is); (case z4 => k_is); (case z5 => exact rfl); (case z6 => exact rfl); intro _ _ _)
  | (with_reducible refine neg_i ?_)
  | (with_reducible refine c_kin (by assumption) (by assumption) ?_)
  | ((with_reducible refine' k_tup (by assumption) ?z1 ?_); (case z1 => exact Nat.le_of_ble_eq_true rfl); intro _ _ _ _ _ _)
  | (with_reducible refine s_tt ?_)
  | (with_reducible refine s_ff ?_)
  | ((with_reducible refine s_dec (fun hc => ?_) (fun hc => ?_)) <;> (try (first | (exfalso; omega) | (exact absurd hc (by assumption)) | (exact absurd (by assumption) hc))))
  | fail "none")
local macro_rules | `(tactic| tb_start) => `(tactic| first | omega | (simp only [List.length_append, List.length_cons, List.length_nil, PySem.sizeLine_eq]; omega) | (simp only [List.length_append, List.length_cons, List.length_nil, PySem.sizeLine_eq] at *; omega))
local macro_rules | `(tactic| kts_caught) => `(tactic| first | assumption | exact stays_refl | (refine stays_trans ?_ (by assumption); kts_caught))
local macro_rules | `(tactic| ktr_rel) => `(tactic| first | assumption | exact Tup.up (by assumption) (by kts_caught) | exact Lst.up (by assumption) (by kts_caught) | fail "none")
def top (N : Int) : Int := if N % 10 = 0 then N / 10 else N
def plc (N : Int) : Int := if N % 10 = 0 then 0 else 1
/-- a Decimal of so many tenths -/
def Dec (w : World) (Z : Heap) (v : Value) (N : Int) : Prop := ∃ x dx n tk pk k1 k2, v = .ref x ∧ Z.get? x = some (instObj 155 dx) ∧
  Z.get? dx = some (dictOf [⟨PyData.keyHash w.params "top", .str "top" k1, .int (top N) tk⟩, ⟨PyData.keyHash w.params "places", .str "places" k2, .int (plc N) pk⟩] n)
theorem Dec.up {w : World} {Z Z' : Heap} {v : Value} {N : Int} (x : Dec w Z v N) (k : Z.StaysIn Z') : Dec w Z' v N := by
  obtain ⟨x, dx, n, tk, pk, k1, k2, e, a, b⟩ := x
  exact ⟨x, dx, n, tk, pk, k1, k2, e, k _ _ a, k _ _ b⟩
theorem Dec.mk {w : World} {Z : Heap} {N a p : Int} {x dx : Addr} {n : Nat} {tk pk k1 k2 : Tok} (e : Z.get? x = some (instObj 155 dx))
    (e' : Z.get? dx = some (dictOf [⟨PyData.keyHash w.params "top", .str "top" k1, .int a tk⟩, ⟨PyData.keyHash w.params "places", .str "places" k2, .int p pk⟩] n)) (ha : top N = a) (hp : plc N = p) : Dec w Z (.ref x) N := by
  subst ha hp
  exact ⟨x, dx, n, tk, pk, k1, k2, rfl, e, e'⟩
theorem norm0 (a : Int) : top (10 * a) = a ∧ plc (10 * a) = 0 := by
  have : (10 * a) % 10 = 0 := by omega
  unfold top plc
  rw [if_pos this, if_pos this]
  exact ⟨by omega, rfl⟩
theorem norm1 {a : Int} (h : ¬ a % 10 = 0) : top a = a ∧ plc a = 1 := by
  unfold top plc
  rw [if_neg h, if_neg h]
  exact ⟨rfl, rfl⟩

section
variable {w : World} {A : Around} {mg mb : Str → Option Value} {Z h : Heap} {g : Array GenState} {d : Drawn} {t : Nat} {os : OsState}
theorem dec_new {a p N : Int} {ta tp : Tok} (hA : Ok A 6) (W : Wd w mg mb Z) (hZ : Z.StaysIn h) (hp : (p = 0 ∧ N = 10 * a) ∨ (p = 1 ∧ N = a)) :
    Cal w A ⟨h, g, d, t, os⟩ (call (.ref 155) [.int a ta, .int p tp]) Z (fun Z' r => Dec w Z' r N) := by
  refine enterC (k₀ := 5) (hA.less (by first | decide | omega)) W hZ (by k_is) (by k_is) (by k_is) (by k_is) (by k_is) (fun x => [("self", .ref x), ("top", .int a ta), ("places", .int p tp)]) (fun _ _ _ => BindsTo.of_eq rfl) (fun _ => locs rfl) rfl rfl rfl (by decide) fun x dx L h₁ t₁ A' hA' hx hdx F => ?_
  tb_rel
  refine w_while (fun n Z' m' mu' => Z' = Z ∧ mu' = [(dx, dictOf [] 0), (x, instObj 155 dx)] ∧ m' "self" = some (.ref x) ∧ ∃ a' p' ta' tp', m' "top" = some (.int a' ta') ∧ m' "places" = some (.int p' tp') ∧ p' = n ∧ ((p' = 0 ∧ N = 10 * a') ∨ (p' = 1 ∧ N = a'))) p.toNat F
    ⟨rfl, rfl, rfl, a, p, ta, tp, rfl, rfl, by omega, hp⟩ ?_
  rintro n Z' m' mu' h' t' F' ⟨rfl, rfl, hm, a', p', ta', tp', h1, h2, h3, h4⟩
  (repeat' tb_rel)
  · rename Fx _ _ _ _ _ _ _ _ => Fe
    exact ⟨rfl, _, _, _, _, _, rfl, Fe, 0, by omega, rfl, rfl, hm, a'.fdiv 10, p' - 1, _, _, rfl, rfl, by omega, Or.inl ⟨by omega, by rw [Int.fmod_eq_emod_of_nonneg _ (by decide)] at *; rw [Int.fdiv_eq_ediv_of_nonneg _ (by decide)]; omega⟩⟩
  all_goals (
    rename Fx _ _ _ _ _ _ _ _ => Fe
    obtain ⟨Z1, F1, l1, e1⟩ := Fe.freeze hdx
    obtain ⟨Z2, F2, l2, e2⟩ := F1.freeze hx
    have key : top N = a' ∧ plc N = p' := by
      rcases h4 with ⟨rfl, rfl⟩ | ⟨rfl, rfl⟩
      · exact norm0 a'
      · refine norm1 fun q => ?_
        first
        | (exfalso; omega)
        | (rename ¬ Int.fmod N 10 = 0 => hq
           rw [Int.fmod_eq_emod_of_nonneg _ (by decide)] at hq
           exact hq q)
    exact ⟨trivial, _, _, _, _, _, rfl, F2, Dec.mk e2 (l2 _ _ e1) key.1 key.2⟩)
end
section
variable {M : Model} {A : Around} {E : Value → Shared → Prop} {s : Shared} {env : Env}
theorem s_nt {P Q : Prop} (q : Q) : if ((!true) = true) then P else Q := by rw [if_neg (by decide)]; exact q
theorem s_nf {P Q : Prop} (q : P) : if ((!false) = true) then P else Q := by rw [if_pos (by decide)]; exact q
theorem u_nil {vs : List Value} {Q : Unit → Shared → Prop} (q : Q () s) : wpAny M A (assignInOrder ((assignEach [] env).map (·.2)) vs) Q E s := assignInOrder_nil q
theorem u_cons {x : Str} {p : Pos} {rest : List Expr} {v : Value} {vs : List Value} {Q : Unit → Shared → Prop} (q : wpAny M A (storeName env x v) (fun _ s₁ => wpAny M A (assignInOrder ((assignEach rest env).map (·.2)) vs) Q E s₁) E s) :
    wpAny M A (assignInOrder ((assignEach (.Name x p :: rest) env).map (·.2)) (v :: vs)) Q E s := assignInOrder_cons (wpAny_assign_Name q)
end
section
variable {w : World} {A : Around} {mg mb : Str → Option Value} {n₀ : Nat} {B Z₀ Z : Heap} {L : Addr} {m : Str → Option Value} {mu : List (Addr × Obj)} {h h' : Heap} {g : Array GenState} {d : Drawn} {t : Nat} {os : OsState} {E : Value → Shared → Prop} {env : Env}
  {v c : Value} {N a b : Int} {u u' : Tok}
theorem Fx.keep (F : Fx n₀ B Z₀ Z L m mu h) (k : h.StaysIn h') : Fx n₀ B Z₀ Z L m mu h' := F.grow k stays_refl (stays_trans F.stay k) fun _ _ e => e
theorem stays_of_ext (k : Heap.ExtBut h.objs.size h h') : h.StaysIn h' := fun b o e => k b o (Nat.ne_of_lt (Heap.lt_size e)) e
theorem u_tup {elts : List Expr} {k : Nat} {pos : Pos} {vs : List Value} {Q : Unit → Shared → Prop} (hA : A.handled = none) (F : Fx n₀ B Z₀ Z L m mu h) (T : Tup Z v vs) (hn : (assignEach elts env).length = vs.length) (hs : (assignEach elts env).findIdx? (·.1) = none)
    (q : ∀ h', Fx n₀ B Z₀ Z L m mu h' → wpAny (Mo w) A (assignInOrder ((assignEach elts env).map (·.2)) vs) Q E ⟨h', g, d, t, os⟩) : wpAny (Mo w) A (assign (.Tuple elts k pos) env v) Q E ⟨h, g, d, t, os⟩ := by
  obtain ⟨a, rfl, i⟩ := T
  exact assign_Tuple_tuple hA (i.keeps F.stay) (by simpa using hn) hs fun h' e => q h' (F.keep (stays_of_ext e))
theorem max2 {Q : Value → Shared → Prop} (hA : A.handled = none) (F : Fx n₀ B Z₀ Z L m mu h) (q : ∀ h' t' u', Fx n₀ B Z₀ Z L m mu h' → Q (.int (max a b) u') ⟨h', g, d, t', os⟩) :
    wpAny (Mo w) A (call (.builtin "max") [.int a u, .int b u']) Q E ⟨h, g, d, t, os⟩ := by
  refine max_two_ints hA fun h' tk k => ?_
  have F' := F.keep k
  by_cases e : b > a
  · rw [if_pos e, show b = max a b by omega]; exact q h' tk _ F'
  · rw [if_neg e]
    have : a = max a b := by omega
    rw [this]; exact q h' tk _ F'
theorem mulok (e : a.natAbs ≤ 1000000000) : IntMulOk a b := IntMulOk.of_left (intBits_le_64 (by first | decide | omega) (by first | decide | omega))
theorem at_top {expr : Bool} {Q : Value → Shared → Prop} (F : Fx n₀ B Z₀ Z L m mu h) (W : Wd w mg mb Z₀) (D : Dec w Z v N) (q : ∀ tk, Q (.int (top N) tk) ⟨h, g, d, t + 1, os⟩) : wpAny (Mo w) A (getAttr v "top" expr) Q E ⟨h, g, d, t, os⟩ := by
  obtain ⟨x, dx, n, tk, pk, k1, k2, rfl, e1, e2⟩ := D
  exact ga_own F W (F.stay _ _ e1) (F.stay _ _ e2) (by k_is) (by k_is) (by k_is) rfl rfl (q tk)
theorem at_plc {expr : Bool} {Q : Value → Shared → Prop} (F : Fx n₀ B Z₀ Z L m mu h) (W : Wd w mg mb Z₀) (D : Dec w Z v N) (q : ∀ tk, Q (.int (plc N) tk) ⟨h, g, d, t + 1, os⟩) : wpAny (Mo w) A (getAttr v "places" expr) Q E ⟨h, g, d, t, os⟩ := by
  obtain ⟨x, dx, n, tk, pk, k1, k2, rfl, e1, e2⟩ := D
  exact ga_own F W (F.stay _ _ e1) (F.stay _ _ e2) (by k_is) (by k_is) (by k_is) rfl rfl (q pk)
theorem top_plc (N : Int) : (plc N = 0 ∧ N = 10 * top N) ∨ (plc N = 1 ∧ N = top N) := by
  unfold top plc
  by_cases e : N % 10 = 0
  · rw [if_pos e, if_pos e]; omega
  · rw [if_neg e, if_neg e]; omega
/-- a Decimal, or an int -/
def Num (w : World) (Z : Heap) (v : Value) (N : Int) : Prop := Dec w Z v N ∨ ∃ a u, v = .int a u ∧ N = 10 * a
theorem Num.up {Z Z' : Heap} (x : Num w Z v N) (k : Z.StaysIn Z') : Num w Z' v N := x.imp (fun y => y.up k) id
end
local macro_rules | `(tactic| tb_rel) => `(tactic| first
  | ((with_reducible show wpAny _ _ (binaryOp _ _ _) _ _ _); first
    | ((with_reducible refine' mul_ii ?z1 ?_); (case z1 => exact mulok (by omega))))
  | ((with_reducible show wpAny _ _ (getAttr _ _ _) _ _ _); first
    | (with_reducible refine at_top (by assumption) (by assumption) (by ktr_rel) fun _ => ?_)
    | (with_reducible refine at_plc (by assumption) (by assumption) (by ktr_rel) fun _ => ?_))
  | ((with_reducible show wpAny _ _ (assign _ _ _) _ _ _); first
    | ((with_reducible refine' u_tup ?z0 (by assumption) (by ktr_rel) ?z1 ?z2 ?_); (case z0 => assumption); (case z1 => exact rfl); (case z2 => exact rfl); intro _ _))
  | ((with_reducible show wpAny _ _ (assignInOrder _ _) _ _ _); first
    | (with_reducible refine u_cons ?_)
    | (with_reducible refine u_nil ?_))
  | (with_reducible refine s_nt ?_)
  | (with_reducible refine s_nf ?_)
  | fail "none")
local macro_rules | `(tactic| ktr_rel) => `(tactic| first | assumption | exact Dec.up (by assumption) (by kts_caught) | exact Num.up (by assumption) (by kts_caught) | fail "none")
section
variable {w : World} {A : Around} {mg mb : Str → Option Value} {n₀ : Nat} {B Z₀ Z : Heap} {L : Addr} {m : Str → Option Value} {mu : List (Addr × Obj)} {h : Heap} {g : Array GenState} {d : Drawn} {t : Nat} {os : OsState} {E : Value → Shared → Prop} {env : Env}
  {v c : Value} {N a : Int} {u : Tok} {b : Bool}
theorem isi_int {Q : Value → Shared → Prop} (F : Fx n₀ B Z₀ Z L m mu h) (W : Wd w mg mb Z₀) (e : kitOne (hdk.heap_1 w.params) (.type "int") c = some b) (q : ∀ t', Q (.bool b) ⟨h, g, d, t', os⟩) :
    wpAny (Mo w) A (call (.builtin "isinstance") [.int a u, c]) Q E ⟨h, g, d, t, os⟩ := kia_one kitx_int (W.K.keeps (stays_trans F.le F.stay)) trivial e (by intro q; cases q) q
theorem isi_dec {Q : Value → Shared → Prop} (F : Fx n₀ B Z₀ Z L m mu h) (W : Wd w mg mb Z₀) (D : Dec w Z v N) (e : isIn (hdk.heap_1 w.params) (.ref 155) 155 = true) (q : Q (.bool true) ⟨h, g, d, t, os⟩) :
    wpAny (Mo w) A (call (.builtin "isinstance") [v, .ref 155]) Q E ⟨h, g, d, t, os⟩ := by
  obtain ⟨x, dx, n, tk, pk, k1, k2, rfl, e1, e2⟩ := D
  have I : InstAt h x (instObj 155 dx) 155 (some _) := ⟨F.stay _ _ e1, rfl, rfl, F.stay _ _ e2⟩
  exact isi_call (s := ⟨h, g, d, t, os⟩) (W.K.keeps (stays_trans F.le F.stay)) (fun M => I.type) e (by intro q; cases q) q
end
section
variable {w : World} {A : Around} {mg mb : Str → Option Value} {Z h : Heap} {g : Array GenState} {d : Drawn} {t : Nat} {os : OsState} {v : Value} {N a : Int} {u : Tok}
theorem decimal_of_dec (hA : Ok A 8) (W : Wd w mg mb Z) (hZ : Z.StaysIn h) (D : Dec w Z v N) :
    Cal w A ⟨h, g, d, t, os⟩ (call (.ref 173) [v]) Z (fun Z' r => Dec w Z' r N) := by
  refine enter (args := ⟨[v], []⟩) (binds := [("value", v)]) hA.room W hZ (by k_is) (by k_is) (BindsTo.of_eq rfl) (locs rfl) rfl rfl rfl (by decide) fun L h₁ t₁ F => ?_
  refine wp_gen fun Qe hQe => ?_
  (repeat' tb_rel)
  refine isi_dec F W D (by k_is) ?_
  (repeat' tb_rel)
  exact hQe _ _ ⟨_, _, _, _, _, rfl, F, D⟩
theorem decimal_of_int (hA : Ok A 8) (W : Wd w mg mb Z) (hZ : Z.StaysIn h) :
    Cal w A ⟨h, g, d, t, os⟩ (call (.ref 173) [.int a u]) Z (fun Z' r => Dec w Z' r (10 * a)) := by
  refine enter (args := ⟨[.int a u], []⟩) (binds := [("value", .int a u)]) hA.room W hZ (by k_is) (by k_is) (BindsTo.of_eq rfl) (locs rfl) rfl rfl rfl (by decide) fun L h₁ t₁ F => ?_
  refine wp_gen fun Qe hQe => ?_
  (repeat' tb_rel)
  refine isi_int F W (b := false) (by kit_is) fun _ => ?_
  (repeat' tb_rel)
  refine isi_int F W (b := false) (by kit_is) fun _ => ?_
  (repeat' tb_rel)
  refine isi_int F W (b := true) (by kit_is) fun _ => ?_
  (repeat' tb_rel)
  exact Cal.use (dec_new (p := 0) (N := 10 * a) (hA.deeper.less (by first | decide | omega)) (W.up F.le) F.stay (Or.inl ⟨rfl, rfl⟩)) F fun r h' t' Z' F' le D => hQe _ _ ⟨_, _, _, _, _, rfl, F', D⟩
theorem decimal_of (hA : Ok A 8) (W : Wd w mg mb Z) (hZ : Z.StaysIn h) (D : Num w Z v N) : Cal w A ⟨h, g, d, t, os⟩ (call (.ref 173) [v]) Z (fun Z' r => Dec w Z' r N) := by
  rcases D with D | ⟨a, u, rfl, rfl⟩
  · exact decimal_of_dec hA W hZ D
  · exact decimal_of_int hA W hZ
theorem at_one_scale {v1 v2 : Value} {N1 N2 : Int} (hA : Ok A 10) (W : Wd w mg mb Z) (hZ : Z.StaysIn h) (D1 : Num w Z v1 N1) (D2 : Num w Z v2 N2) (hb1 : N1.natAbs ≤ 100000) (hb2 : N2.natAbs ≤ 100000) :
    Cal w A ⟨h, g, d, t, os⟩ (call (.ref 180) [v1, v2]) Z (fun Z' r => ∃ a b p u1 u2 u3, Tup Z' r [.int a u1, .int b u2, .int p u3] ∧ ((p = 0 ∧ N1 = 10 * a ∧ N2 = 10 * b) ∨ (p = 1 ∧ N1 = a ∧ N2 = b))) := by
  refine enter (args := ⟨[v1, v2], []⟩) (binds := [("one", v1), ("other", v2)]) hA.room W hZ (by k_is) (by k_is) (BindsTo.of_eq rfl) (locs rfl) rfl rfl rfl (by decide) fun L h₁ t₁ F => ?_
  refine wp_gen fun Qe hQe => ?_
  (repeat' tb_rel)
  refine Cal.use (decimal_of (hA.deeper.less (by first | decide | omega)) (W.up F.le) F.stay D1) F fun r1 h1 t1 Z1 F1 le1 E1 => ?_
  (repeat' tb_rel)
  rename Fx _ _ _ _ _ _ _ _ => F1'
  refine Cal.use (decimal_of (hA.deeper.less (by first | decide | omega)) (W.up F1'.le) F1'.stay (D2.up F1'.le)) F1' fun r2 h2 t2 Z2 F2 le2 E2 => ?_
  have E1 := E1.up le2
  (repeat' tb_rel)
  rename Fx _ _ _ _ _ _ _ _ => F2'
  refine max2 hA.hd F2' fun h3 t3 u3 F3 => ?_
  have p1 := top_plc N1
  have p2 := top_plc N2
  (repeat' tb_rel)
  rename_i T
  rename Fx _ _ _ _ _ _ _ _ => F4
  refine hQe _ _ ⟨_, _, _, _, _, rfl, F4, _, _, _, _, _, _, T, ?_⟩
  rcases p1 with ⟨a1, b1⟩ | ⟨a1, b1⟩ <;> rcases p2 with ⟨a2, b2⟩ | ⟨a2, b2⟩ <;> rw [a1, a2]
  · exact Or.inl ⟨rfl, by show N1 = 10 * (top N1 * 10 ^ 0); omega, by show N2 = 10 * (top N2 * 10 ^ 0); omega⟩
  · exact Or.inr ⟨rfl, by show N1 = top N1 * 10 ^ 1; omega, by show N2 = top N2 * 10 ^ 0; omega⟩
  · exact Or.inr ⟨rfl, by show N1 = top N1 * 10 ^ 0; omega, by show N2 = top N2 * 10 ^ 1; omega⟩
  · exact Or.inr ⟨rfl, by show N1 = top N1 * 10 ^ 0; omega, by show N2 = top N2 * 10 ^ 0; omega⟩
theorem plus_ {v1 v2 : Value} {N1 N2 : Int} (hA : Ok A 12) (W : Wd w mg mb Z) (hZ : Z.StaysIn h) (D1 : Dec w Z v1 N1) (D2 : Num w Z v2 N2) (hb1 : N1.natAbs ≤ 100000) (hb2 : N2.natAbs ≤ 100000) :
    Cal w A ⟨h, g, d, t, os⟩ (call (.ref 82) [v1, v2]) Z (fun Z' r => Dec w Z' r (N1 + N2)) := by
  refine enter (args := ⟨[v1, v2], []⟩) (binds := [("self", v1), ("other", v2)]) hA.room W hZ (by k_is) (by k_is) (BindsTo.of_eq rfl) (locs rfl) rfl rfl rfl (by decide) fun L h₁ t₁ F => ?_
  refine wp_gen fun Qe hQe => ?_
  (repeat' tb_rel)
  refine Cal.use (at_one_scale (hA.deeper.less (by first | decide | omega)) (W.up F.le) F.stay (Or.inl D1) D2 hb1 hb2) F fun r1 h1 t1 Z1 F1 le1 E1 => ?_
  obtain ⟨a, b, p, u1, u2, u3, T, e⟩ := E1
  refine u_tup hA.hd F1 T rfl rfl fun h2 F2 => ?_
  (repeat' tb_rel)
  rename Fx _ _ _ _ _ _ _ _ => F3
  exact Cal.use (dec_new (N := N1 + N2) (hA.deeper.less (by first | decide | omega)) (W.up F3.le) F3.stay (by first | decide | omega)) F3 fun r h' t' Z' F' le D => hQe _ _ ⟨_, _, _, _, _, rfl, F', D⟩
theorem times_ {v1 v2 : Value} {N2 k : Int} (hA : Ok A 12) (W : Wd w mg mb Z) (hZ : Z.StaysIn h) (D1 : Dec w Z v1 (10 * k)) (D2 : Num w Z v2 N2) (hk : k = 0 ∨ k = 1) :
    Cal w A ⟨h, g, d, t, os⟩ (call (.ref 96) [v1, v2]) Z (fun Z' r => Dec w Z' r (k * N2)) := by
  refine enter (args := ⟨[v1, v2], []⟩) (binds := [("self", v1), ("other", v2)]) hA.room W hZ (by k_is) (by k_is) (BindsTo.of_eq rfl) (locs rfl) rfl rfl rfl (by decide) fun L h₁ t₁ F => ?_
  refine wp_gen fun Qe hQe => ?_
  have n0 := norm0 k
  (repeat' tb_rel)
  refine Cal.use (decimal_of (hA.deeper.less (by first | decide | omega)) (W.up F.le) F.stay D2) F fun r1 h1 t1 Z1 F1 le1 E1 => ?_
  have D1 := D1.up le1
  have p2 := top_plc N2
  (repeat' tb_rel)
  rename Fx _ _ _ _ _ _ _ _ => F3
  refine Cal.use (dec_new (N := k * N2) (hA.deeper.less (by first | decide | omega)) (W.up F3.le) F3.stay ?_) F3 fun r h' t' Z' F' le D => hQe _ _ ⟨_, _, _, _, _, rfl, F', D⟩
  rw [n0.1, n0.2]
  rcases hk with rfl | rfl <;> omega
end
section
variable {prog : Program} {w : World} {A : Around} {E : Value → Shared → Prop} {s : Shared}
theorem adjust_butlast (n : Nat) (hn : 1 ≤ n) : Builtin.Slice.sliceAdjust none (some (-1)) 1 (n : Int) = (0, ((n - 1 : Nat) : Int)) := by
  unfold Builtin.Slice.sliceAdjust
  have h1 : ¬ ((1 : Int) < 0) := by omega
  have h2 : ((-1 : Int) < 0) := by omega
  simp only [h1, h2, if_false, if_true]
  congr 1
  omega
theorem places_butlast (n : Nat) : Builtin.Slice.slicePlaces 0 ((n : Nat) : Int) 1 = n := by
  unfold Builtin.Slice.slicePlaces
  have h1 : (1 : Int) > 0 := by omega
  simp only [h1, if_true, Int.ediv_one]
  split <;> omega
theorem pick_butlast (xs : Array Value) (a : Nat) (ha : a ≤ xs.size) : ((List.range a).filterMap fun (k : Nat) => xs[((0 : Int) + (k : Int) * 1).toNat]?).toArray = (xs.toList.take a).toArray := by
  have e : (fun (k : Nat) => xs[((0 : Int) + (k : Int) * 1).toNat]?) = fun k => xs[k]? := by
    funext k
    have : ((0 : Int) + (k : Int) * 1).toNat = k := by omega
    rw [this]
  rw [e]
  congr 1
  induction a with
  | zero => simp
  | succ a ih =>
    rw [List.range_succ, List.filterMap_append, ih (by first | decide | omega), List.take_add_one]
    congr 1
    simp [List.filterMap_cons]
    cases xs[a]? <;> rfl
theorem getItem_tuple_butlast {t sl : Addr} {items : Array Value} {u : Tok} {Q : Value → Shared → Prop} (ht : IsTup s.heap t items) (hs : s.heap.IsSliceOf sl .none (.int (-1) u) .none) (h1 : 1 ≤ items.size)
    (h : Q (.ref s.heap.objs.size) { s with heap := s.heap.push { cls := .type "tuple", data := .seq (items.toList.take (items.size - 1)).toArray } })
    (hsz : items.size ≤ sizeLine) : wpAny (model prog w) A (getItem (.ref t) (.ref sl)) Q E s := by
  have hdrop : sizeOk (.seq (items.toList.take (items.size - 1)).toArray) := by
    show (items.toList.take (items.size - 1)).toArray.size ≤ sizeLine
    rw [List.size_toArray, List.length_take, Array.length_toList]
    omega
  obtain ⟨os, hos, hcs, hds⟩ := id hs
  have hTs : s.TypeIs (.ref sl) "slice" := ⟨os, hos, hcs⟩
  unfold getItem
  try with_reducible refine wpAny_holding ?_
  first | refine wpAny_bind (wpAny_pure ?_) | skip
  refine wpAny_bind (wpAny_sequenceKey ht.typeIs (by decide) ?_)
  refine wpAny_bind (wpAny_callSpecial?_slot (name := Str.ofString "__getitem__") ht.typeIs slot_tuple_getitem
    (wpAny_call_entry slot_tuple_getitem ht.typeIs entry_tuple_getitem ?_ (args_tuple_getitem _ _)))
  show wpAny _ _ (Builtin.Tuple.tupleItemsOf (.ref t) >>= _) _ _ s
  refine wpAny_bind (tupleItemsOf_ ht ?_)
  refine wpAny_bind (wpAny_typeOf hTs ?_)
  rw [if_pos (by decide)]
  have ap : ∀ {A : Around} {Q : Int × Int × Nat → Shared → Prop} {E : Value → Shared → Prop}, Q (0, 1, items.size - 1) s → wpAny (model prog w) A (Builtin.Slice.sliceApplied (.ref sl) (pure (items.size : Int))) Q E s := by
    intro A Q E h
    unfold Builtin.Slice.sliceApplied Builtin.Slice.sliceFields
    refine wpAny_bind (wpAny_bind (wpAny_field hos hds (x := .none) rfl (wpAny_bind (wpAny_field hos hds (x := .int (-1) u) rfl (wpAny_bind (wpAny_field hos hds (x := .none) rfl (wpAny_pure ?_)))))))
    refine wpAny_bind (slicePart_none ?_)
    show wpAny _ _ (if ((1 : Int) == 0) = true then _ else _) _ _ s
    rw [if_neg (by decide)]
    refine wpAny_bind (slicePart_none (wpAny_bind (slicePart_int (wpAny_bind (wpAny_pure ?_)))))
    show wpAny _ _ (match Builtin.Slice.sliceAdjust none (some (-1)) 1 (items.size : Int) with | (lo, hi) => pure (lo, (1 : Int), Builtin.Slice.slicePlaces lo hi 1)) _ _ s
    rw [adjust_butlast _ h1]
    show wpAny _ _ (pure ((0 : Int), (1 : Int), Builtin.Slice.slicePlaces 0 ((items.size - 1 : Nat) : Int) 1)) _ _ s
    rw [places_butlast]
    exact wpAny_pure h
  refine wpAny_bind (ap ?_)
  have hno : ¬ (((0 : Int) == 0 && (1 : Int) == 1 && (items.size - 1) == items.size) = true) := by
    have : ((items.size - 1) == items.size) = false := by rw [beq_eq_false_iff_ne]; omega
    rw [this]; simp
  show wpAny _ _ (if ((0 : Int) == 0 && (1 : Int) == 1 && (items.size - 1) == items.size) = true then _ else _) _ _ s
  rw [if_neg hno, pick_butlast items _ (by first | decide | omega)]
  first
    | exact wpAny_bind (m := Builtin.Tuple.tupleExact _) (wpAny_newObj_type (wpAny_pure ⟨_, rfl, wpAny_pure h⟩) hdrop)
    | exact wpAny_bind (m := Builtin.Tuple.tupleExact _) (wpAny_newObj_type (wpAny_bind (wpAny_pure (wpAny_pure ⟨_, rfl, wpAny_pure h⟩))) hdrop)
    | exact wpAny_bind (wpAny_bind (m := Builtin.Tuple.tupleExact _) (wpAny_newObj_type (wpAny_pure (wpAny_pure ⟨_, rfl, wpAny_pure h⟩)) hdrop))
    | exact wpAny_bind (wpAny_bind (m := Builtin.Tuple.tupleExact _) (wpAny_newObj_type (wpAny_pure ⟨_, rfl, wpAny_pure h⟩) hdrop))
end

def SliceAt (Z : Heap) (v : Value) (a b c : Value) : Prop := ∃ x, v = .ref x ∧ Z.IsSliceOf x a b c
section
variable {w : World} {A : Around} {mg mb : Str → Option Value} {n₀ : Nat} {B Z₀ Z : Heap} {L : Addr} {m : Str → Option Value} {mu : List (Addr × Obj)} {h h' : Heap} {g : Array GenState} {d : Drawn} {t : Nat} {os : OsState} {E : Value → Shared → Prop} {env : Env}
  {v o i : Value} {u : Tok} {vs ws : List Value}
theorem e_none {s : Shared} {Q : Value → Shared → Prop} (q : Q .none s) : wpAny (Mo w) A (evalPart none env) Q E s := wpAny_pure q
theorem e_some {s : Shared} {e : Expr} {Q : Value → Shared → Prop} (q : wpAny (Mo w) A (eval e env) Q E s) : wpAny (Mo w) A (evalPart (some e) env) Q E s := q
theorem e_slice {lower upper step : Option Expr} {p : Pos} {s : Shared} {Q : Value → Shared → Prop}
    (q : wpAny (Mo w) A (evalPart lower env) (fun l s₁ => wpAny (Mo w) A (evalPart upper env) (fun u s₂ => wpAny (Mo w) A (evalPart step env) (fun st s₃ =>
      wpAny (Mo w) A (newObj (.type "slice") (.fields #[l, u, st])) Q E s₃) E s₂) E s₁) E s) : wpAny (Mo w) A (eval (.Slice lower upper step p) env) Q E s := by
  rw [arm_eval_Slice]
  exact wpAny_bind (wpAny_mono q (fun l s₁ h₁ => wpAny_bind (wpAny_holding (wpAny_mono h₁ (fun u s₂ h₂ => wpAny_bind (wpAny_holding (wpAny_mono h₂ (fun st s₃ h₃ => h₃) fun _ _ x => x))) fun _ _ x => x))) fun _ _ x => x)
theorem k_slice {l u st : Value} {Q : Value → Shared → Prop} (F : Fx n₀ B Z₀ Z L m mu h) (q : ∀ r h' Z', Fx n₀ B Z₀ Z' L m mu h' → Z.StaysIn Z' → SliceAt Z' r l u st → Q r ⟨h', g, d, t, os⟩) :
    wpAny (Mo w) A (newObj (.type "slice") (.fields #[l, u, st])) Q E ⟨h, g, d, t, os⟩ := by
  obtain ⟨Z', F', l', e⟩ := F.alloc { cls := .type "slice", data := .fields #[l, u, st] } rfl
  exact wpAny_newObj_type (q _ _ Z' F' l' ⟨_, rfl, _, e, rfl, rfl⟩)
theorem slice_up {Z Z' : Heap} {x : Addr} {a b c : Value} (y : Z.IsSliceOf x a b c) (k : Z.StaysIn Z') : Z'.IsSliceOf x a b c := by
  obtain ⟨o, ho, r⟩ := y
  exact ⟨o, k _ _ ho, r⟩
/-- but the last -/
theorem x_butlast {value slice : Expr} {Q : Value → Shared → Prop} (F : Fx n₀ B Z₀ Z L m mu h) (T : Tup Z o vs) (S : SliceAt Z i .none (.int (-1) u) .none) (h1 : 1 ≤ vs.length) (hz : vs.length ≤ sizeLine)
    (hs : ∀ o i, subscripted slice false o i = operate [i, o] (getItem o i)) (q : ∀ r h' Z', Fx n₀ B Z₀ Z' L m mu h' → Z.StaysIn Z' → Tup Z' r vs.dropLast → Q r ⟨h', g, d, t, os⟩) :
    wpAny (Mo w) A (subscriptTail value slice o i) Q E ⟨h, g, d, t, os⟩ := by
  obtain ⟨a, rfl, ia⟩ := T
  obtain ⟨x, rfl, ix⟩ := S
  have ia' := ia.keeps F.stay
  obtain ⟨Z', F', l', e⟩ := F.alloc { cls := .type "tuple", data := .seq (vs.toArray.toList.take (vs.toArray.size - 1)).toArray } rfl
  refine tail_any ia'.typeIs slot_tuple_getitem.lookup (getItem_tuple_butlast ia' (slice_up ix F.stay) (by simpa using h1) (q _ _ Z' F' l' ⟨_, rfl, _, e, rfl, 0, ?_⟩) (by simpa using hz)) (hs _ _)
  simp [List.dropLast_eq_take]
/-- from the second on -/
theorem x_from1 {value slice : Expr} {Q : Value → Shared → Prop} (F : Fx n₀ B Z₀ Z L m mu h) (T : Tup Z o vs) (S : SliceAt Z i (.int 1 u) .none .none) (h1 : 1 ≤ vs.length) (hz : vs.length ≤ sizeLine)
    (hs : ∀ o i, subscripted slice false o i = operate [i, o] (getItem o i)) (q : ∀ r h' Z', Fx n₀ B Z₀ Z' L m mu h' → Z.StaysIn Z' → Tup Z' r vs.tail → Q r ⟨h', g, d, t, os⟩) :
    wpAny (Mo w) A (subscriptTail value slice o i) Q E ⟨h, g, d, t, os⟩ := by
  obtain ⟨a, rfl, ia⟩ := T
  obtain ⟨x, rfl, ix⟩ := S
  have ia' := ia.keeps F.stay
  obtain ⟨Z', F', l', e⟩ := F.alloc { cls := .type "tuple", data := .seq (vs.toArray.toList.drop 1).toArray } rfl
  refine tail_any ia'.typeIs slot_tuple_getitem.lookup (getItem_tuple_from (a := 1) ia' (slice_up ix F.stay) (by first | decide | omega) (by simpa using h1) (q _ _ Z' F' l' ⟨_, rfl, _, e, rfl, 0, ?_⟩) (by simpa using hz)) (hs _ _)
  simp [List.drop_one]
/-- two tuples put together -/
theorem add_tt {Q : Value → Shared → Prop} (F : Fx n₀ B Z₀ Z L m mu h) (T1 : Tup Z o vs) (T2 : Tup Z v ws) (hz : vs.length + ws.length ≤ sizeLine) (q : ∀ r h' Z', Fx n₀ B Z₀ Z' L m mu h' → Z.StaysIn Z' → Tup Z' r (vs ++ ws) → Q r ⟨h', g, d, t, os⟩) :
    wpAny (Mo w) A (binaryOp .Add o v) Q E ⟨h, g, d, t, os⟩ := by
  obtain ⟨a, rfl, ia⟩ := T1
  obtain ⟨b, rfl, ib⟩ := T2
  obtain ⟨⟨cls, dd, data, sl⟩, ho, hc, n, hd⟩ := id (ia.keeps F.stay)
  obtain ⟨⟨cls2, dd2, data2, sl2⟩, ho2, hc2, n2, hd2⟩ := id (ib.keeps F.stay)
  simp only at hc hd hc2 hd2
  subst hc hd hc2 hd2
  have e : vs.toArray ++ ws.toArray = (vs ++ ws).toArray := by simp
  by_cases hv : vs = []
  · exact concat_meets (s := ⟨h, g, d, t, os⟩) ⟨_, ho, rfl⟩ ⟨_, ho2, rfl⟩ noFill_tuple_add seq_tuple_add PySem.F.slot_tuple_add PySem.F.entry_tuple_add (PySem.F.args_tuple_add_2 _ _)
      (tuple_addW0 a b vs.toArray ws.toArray n n2 dd dd2 sl sl2 (by simp [hv])) ⟨ho, ho2, q _ _ Z F stays_refl ⟨b, rfl, by rw [hv]; exact ib⟩⟩
  · by_cases hw : ws = []
    · exact concat_meets (s := ⟨h, g, d, t, os⟩) ⟨_, ho, rfl⟩ ⟨_, ho2, rfl⟩ noFill_tuple_add seq_tuple_add PySem.F.slot_tuple_add PySem.F.entry_tuple_add (PySem.F.args_tuple_add_2 _ _)
        (tuple_addW1 a b vs.toArray ws.toArray n n2 dd dd2 sl sl2 (by simpa using hv) (by simp [hw])) ⟨ho, ho2, q _ _ Z F stays_refl ⟨a, rfl, by rw [hw, List.append_nil]; exact ia⟩⟩
    · obtain ⟨Z', F', l', e'⟩ := F.alloc { cls := .type "tuple", data := .seq (vs.toArray ++ ws.toArray) } rfl
      exact concat_meets (s := ⟨h, g, d, t, os⟩) ⟨_, ho, rfl⟩ ⟨_, ho2, rfl⟩ noFill_tuple_add seq_tuple_add PySem.F.slot_tuple_add PySem.F.entry_tuple_add (PySem.F.args_tuple_add_2 _ _)
        (tuple_addW2 a b vs.toArray ws.toArray n n2 dd dd2 sl sl2 (by simpa using hv) (by simpa using hw) (by rw [List.size_toArray, List.size_toArray]; exact hz)) ⟨ho, ho2, q _ _ Z' F' l' ⟨_, rfl, _, e', rfl, 0, by rw [← e]⟩⟩
/-- a tuple of a list -/
theorem tup_of {l : Addr} {Q : Value → Shared → Prop} (F : Fx n₀ B Z₀ Z L m mu h) (hl : h.IsList l vs.toArray) (hz : vs.length ≤ sizeLine) (q : ∀ r h' Z', Fx n₀ B Z₀ Z' L m mu h' → Z.StaysIn Z' → Tup Z' r vs → Q r ⟨h', g, d, t, os⟩) :
    wpAny (Mo w) A (call (.type "tuple") [.ref l]) Q E ⟨h, g, d, t, os⟩ := by
  refine call_tuple_list hl (fun h' k => ?_) (by simpa using hz)
  obtain ⟨Z', F', l', e'⟩ := (F.keep k).alloc { cls := .type "tuple", data := .seq vs.toArray } rfl
  exact q _ _ Z' F' l' ⟨_, rfl, _, e', rfl, 0, rfl⟩
/-- a tuple held against the empty one -/
theorem eq_t0 {Q : Value → Shared → Prop} (hu : A.units < cLine) (F : Fx n₀ B Z₀ Z L m mu h) (T1 : Tup Z o vs) (T2 : Tup Z v []) (q : Q (.bool (decide (vs = []))) ⟨h, g, d, t, os⟩) : wpAny (Mo w) A (compareOp .Eq o v) Q E ⟨h, g, d, t, os⟩ := by
  obtain ⟨a, rfl, ia⟩ := T1
  obtain ⟨b, rfl, ib⟩ := T2
  refine (SeqAt.RcAt.tuples (A := A) (s := ⟨h, g, d, t, os⟩) (e := fun _ => true) (ia.keeps F.stay) (ib.keeps F.stay) hu fun j _ h2 => absurd h2 (by simp)) PySem.Challenge.pw_og0177_01 w E Q ?_
  have : ((List.range (min vs.toArray.size ([] : List Value).toArray.size)).all (fun _ => true) && vs.toArray.size == ([] : List Value).toArray.size) = decide (vs = []) := by
    cases vs <;> simp
  rw [this]; exact q
theorem ne_t0 {Q : Value → Shared → Prop} (hu : A.units < cLine) (F : Fx n₀ B Z₀ Z L m mu h) (T1 : Tup Z o vs) (T2 : Tup Z v []) (q : Q (.bool (decide (vs ≠ []))) ⟨h, g, d, t, os⟩) : wpAny (Mo w) A (compareOp .NotEq o v) Q E ⟨h, g, d, t, os⟩ := by
  obtain ⟨a, rfl, ia⟩ := T1
  obtain ⟨b, rfl, ib⟩ := T2
  refine (SeqAt.RcNeAt.tuples (A := A) (s := ⟨h, g, d, t, os⟩) (e := fun _ => true) (ia.keeps F.stay) (ib.keeps F.stay) hu fun j _ h2 => absurd h2 (by simp)) PySem.Challenge.pw_og0177_01 w E Q ?_
  have : (!((List.range (min vs.toArray.size ([] : List Value).toArray.size)).all (fun _ => true) && vs.toArray.size == ([] : List Value).toArray.size)) = decide (vs ≠ []) := by
    cases vs <;> simp
  rw [this]; exact q
theorem len_t {Q : Value → Shared → Prop} (F : Fx n₀ B Z₀ Z L m mu h) (T : Tup Z o vs) (hz : vs.length < 2 ^ 60) (q : ∀ t', Q (.int vs.length t') ⟨h, g, d, t + 1 + 1, os⟩) : wpAny (Mo w) A (call (.builtin "len") [o]) Q E ⟨h, g, d, t, os⟩ := by
  obtain ⟨a, rfl, ia⟩ := T
  refine PyProof.Rows.len_tuple (s := ⟨h, g, d, t, os⟩) (ia.keeps F.stay) (by simp; omega) ?_
  have := q (t + 1)
  simpa using this
theorem is_none {a : Addr} {s : Shared} {Q : Value → Shared → Prop} (q : Q (.bool false) s) : wpAny (Mo w) A (compareOp .Is (.ref a) .none) Q E s := wpAny_is_other rfl (by intro e; cases e) q
/-- the last item -/
theorem i_last {value slice : Expr} {x : Value} {Q : Value → Shared → Prop} (F : Fx n₀ B Z₀ Z L m mu h) (T : Tup Z o (vs ++ [x]))
    (hs : ∀ o, subscripted slice false o (.int (-1) u) = operate [o, .int (-1) u] (getItem o (.int (-1) u))) (q : Q x ⟨h, g, d, t, os⟩) : wpAny (Mo w) A (subscriptTail value slice o (.int (-1) u)) Q E ⟨h, g, d, t, os⟩ := by
  refine i_tup F T (by decide) (by decide) (j := vs.length) ?_ (by simp) hs q
  unfold seqIndex?
  simp
  omega
theorem x_init {value slice : Expr} {x : Value} {Q : Value → Shared → Prop} (F : Fx n₀ B Z₀ Z L m mu h) (T : Tup Z o (vs ++ [x])) (S : SliceAt Z i .none (.int (-1) u) .none) (hz : vs.length + 1 ≤ sizeLine)
    (hs : ∀ o i, subscripted slice false o i = operate [i, o] (getItem o i)) (q : ∀ r h' Z', Fx n₀ B Z₀ Z' L m mu h' → Z.StaysIn Z' → Tup Z' r vs → Q r ⟨h', g, d, t, os⟩) :
    wpAny (Mo w) A (subscriptTail value slice o i) Q E ⟨h, g, d, t, os⟩ := x_butlast F T S (by simp) (by simpa using hz) hs (by simpa using q)
end
inductive All2 {α : Type} (R : Value → α → Prop) : List Value → List α → Prop where
  | nil : All2 R [] []
  | cons {v : Value} {x : α} {vs : List Value} {xs : List α} : R v x → All2 R vs xs → All2 R (v :: vs) (x :: xs)
namespace All2
variable {α β : Type} {R R' : Value → α → Prop} {vs ws : List Value} {xs ys : List α} {v : Value} {x : α}
theorem mono (y : All2 R vs xs) (k : ∀ v x, R v x → R' v x) : All2 R' vs xs := by
  induction y with
  | nil => exact .nil
  | cons a _ ih => exact .cons (k _ _ a) ih
theorem length (y : All2 R vs xs) : vs.length = xs.length := by
  induction y with
  | nil => rfl
  | cons _ _ ih => simp [ih]
theorem append (y : All2 R vs xs) (z : All2 R ws ys) : All2 R (vs ++ ws) (xs ++ ys) := by
  induction y with
  | nil => exact z
  | cons a _ ih => exact .cons a ih
theorem snoc (y : All2 R vs xs) (r : R v x) : All2 R (vs ++ [v]) (xs ++ [x]) := y.append (.cons r .nil)
theorem unsnoc {vs : List Value} {xs : List α} (y : All2 R vs (xs ++ [x])) : ∃ ws v, vs = ws ++ [v] ∧ All2 R ws xs ∧ R v x := by
  induction xs generalizing vs with
  | nil =>
    cases y with
    | cons r y => cases y; exact ⟨[], _, rfl, .nil, r⟩
  | cons a xs ih =>
    cases y with
    | cons r y =>
      obtain ⟨ws, v, rfl, a, b⟩ := ih y
      exact ⟨_ :: ws, v, rfl, .cons r a, b⟩
theorem get (y : All2 R vs xs) {i : Nat} (e : vs[i]? = some v) : ∃ x, xs[i]? = some x ∧ R v x := by
  induction y generalizing i with
  | nil => simp at e
  | cons a _ ih =>
    cases i with
    | zero => simp at e; subst e; exact ⟨_, rfl, a⟩
    | succ i => simpa using ih (by simpa using e)
end All2

def Pt (w : World) (Z : Heap) (v : Value) (q : Int × Int) : Prop := ∃ a b, Tup Z v [a, b] ∧ Dec w Z a q.1 ∧ Dec w Z b q.2
theorem Pt.up {w : World} {Z Z' : Heap} {v : Value} {q : Int × Int} (x : Pt w Z v q) (k : Z.StaysIn Z') : Pt w Z' v q := by
  obtain ⟨a, b, T, D, E⟩ := x
  exact ⟨a, b, T.up k, D.up k, E.up k⟩
/-- a segment: a point that is moved or drawn to; or the closing -/
def Seg (w : World) (Z : Heap) (v : Value) : Option (Int × Int) → Prop
  | some q => ∃ tag tk p, tag ≠ ("curve" : Str) ∧ tag ≠ ("close" : Str) ∧ Tup Z v [.str tag tk, p] ∧ Pt w Z p q
  | none => ∃ tk, Tup Z v [.str "close" tk]
theorem Seg.up {w : World} {Z Z' : Heap} {v : Value} {s : Option (Int × Int)} (x : Seg w Z v s) (k : Z.StaysIn Z') : Seg w Z' v s := by
  cases s with
  | some q => obtain ⟨tag, tk, p, a, b, T, P⟩ := x; exact ⟨tag, tk, p, a, b, T.up k, P.up k⟩
  | none => obtain ⟨tk, T⟩ := x; exact ⟨tk, T.up k⟩
abbrev Part := List (Option (Int × Int))
def PartAt (w : World) (Z : Heap) (v : Value) (ss : Part) : Prop := ∃ vs, Tup Z v vs ∧ All2 (Seg w Z) vs ss ∧ vs.length ≤ 1000
theorem PartAt.up {w : World} {Z Z' : Heap} {v : Value} {ss : Part} (x : PartAt w Z v ss) (k : Z.StaysIn Z') : PartAt w Z' v ss := by
  obtain ⟨vs, T, a, l⟩ := x
  exact ⟨vs, T.up k, a.mono fun _ _ y => y.up k, l⟩
/-- a Path whose parts are the value p -/
def PathV (w : World) (Z : Heap) (v p : Value) : Prop := ∃ x dx n k, v = .ref x ∧ Z.get? x = some (instObj 214 dx) ∧ Z.get? dx = some (dictOf [⟨PyData.keyHash w.params "parts", .str "parts" k, p⟩] n)
theorem PathV.up {w : World} {Z Z' : Heap} {v p : Value} (x : PathV w Z v p) (k : Z.StaysIn Z') : PathV w Z' v p := by
  obtain ⟨x, dx, n, j, e, a, b⟩ := x
  exact ⟨x, dx, n, j, e, k _ _ a, k _ _ b⟩
def PathAt (w : World) (Z : Heap) (v : Value) (ps : List Part) : Prop := ∃ p vs, PathV w Z v p ∧ Tup Z p vs ∧ All2 (PartAt w Z) vs ps ∧ vs.length ≤ 1000
theorem PathAt.up {w : World} {Z Z' : Heap} {v : Value} {ps : List Part} (x : PathAt w Z v ps) (k : Z.StaysIn Z') : PathAt w Z' v ps := by
  obtain ⟨p, vs, P, T, a, l⟩ := x
  exact ⟨p, vs, P.up k, T.up k, a.mono fun _ _ y => y.up k, l⟩

section
variable {w : World} {A : Around} {mg mb : Str → Option Value} {n₀ : Nat} {B Z₀ Z : Heap} {L : Addr} {m : Str → Option Value} {mu : List (Addr × Obj)} {h h' : Heap} {g : Array GenState} {d : Drawn} {t : Nat} {os : OsState} {E : Value → Shared → Prop} {env : Env}
  {v p : Value}
theorem at_parts {expr : Bool} {Q : Value → Shared → Prop} (F : Fx n₀ B Z₀ Z L m mu h) (W : Wd w mg mb Z₀) (P : PathV w Z v p) (hp : handedIn p = true) (q : Q p ⟨h, g, d, t + 1, os⟩) : wpAny (Mo w) A (getAttr v "parts" expr) Q E ⟨h, g, d, t, os⟩ := by
  obtain ⟨x, dx, n, k, rfl, e1, e2⟩ := P
  exact ga_own F W (F.stay _ _ e1) (F.stay _ _ e2) (by k_is) (by k_is) (by k_is) rfl hp q
theorem Tup.handed {Z : Heap} {v : Value} {vs : List Value} (x : Tup Z v vs) : handedIn v = true := by obtain ⟨a, rfl, _⟩ := x; rfl
end

local macro_rules | `(tactic| tb_rel) => `(tactic| first
  | ((with_reducible show wpAny _ _ (eval _ _) _ _ _); first
    | (with_reducible refine e_slice ?_))
  | ((with_reducible show wpAny _ _ (call _ _) _ _ _); first
    | ((with_reducible refine' len_t (by assumption) (by ktr_rel) ?z1 ?_); (case z1 => tb_start); intro _))
  | ((with_reducible show wpAny _ _ (binaryOp _ _ _) _ _ _); first
    | ((with_reducible refine' add_tt (by assumption) (by ktr_rel) (by ktr_rel) ?z1 ?_); (case z1 => tb_start); intro _ _ _ _ _ _))
  | ((with_reducible show wpAny _ _ (compareOp _ _ _) _ _ _); first
    | (with_reducible refine is_none ?_)
    | ((with_reducible refine' eq_t0 ?z1 (by assumption) (by ktr_rel) (by ktr_rel) ?_); (case z1 => assumption))
    | ((with_reducible refine' ne_t0 ?z1 (by assumption) (by ktr_rel) (by ktr_rel) ?_); (case z1 => assumption)))
  | ((with_reducible show wpAny _ _ (getAttr _ _ _) _ _ _); first
    | ((with_reducible refine' at_parts (by assumption) (by assumption) (by ktr_rel) ?z1 ?_); (case z1 => first | assumption | exact Tup.handed (by assumption))))
  | ((with_reducible show wpAny _ _ (subscriptTail _ _ _ _) _ _ _); first
    | ((with_reducible refine' x_init (by assumption) (by ktr_rel) (by assumption) ?z2 ?z3 ?_); (case z2 => tb_start); (case z3 => intro _ _; with_unfolding_all rfl); intro _ _ _ _ _ _)
    | ((with_reducible refine' x_from1 (by assumption) (by ktr_rel) (by assumption) ?z1 ?z2 ?z3 ?_); (case z1 => tb_start); (case z2 => tb_start); (case z3 => intro _ _; with_unfolding_all rfl); intro _ _ _ _ _ _)
    | ((with_reducible refine' i_last (by assumption) (by ktr_rel) ?z1 ?_); (case z1 => intro _; with_unfolding_all rfl)))
  | (with_reducible refine e_none ?_)
  | (with_reducible refine e_some ?_)
  | ((with_reducible refine k_slice (by assumption) ?_); intro _ _ _ _ _ _)
  | fail "none")
local macro_rules | `(tactic| ktr_rel) => `(tactic| first | assumption | exact PathV.up (by assumption) (by kts_caught) | exact Pt.up (by assumption) (by kts_caught) | exact Seg.up (by assumption) (by kts_caught) | exact PartAt.up (by assumption) (by kts_caught) | exact PathAt.up (by assumption) (by kts_caught) | fail "none")
section
variable {w : World} {A : Around} {mg mb : Str → Option Value} {Z h : Heap} {g : Array GenState} {d : Drawn} {t : Nat} {os : OsState} {v p : Value} {X Y : Int}
theorem path_new (hA : Ok A 6) (W : Wd w mg mb Z) (hZ : Z.StaysIn h) : Cal w A ⟨h, g, d, t, os⟩ (call (.ref 214) [p]) Z (fun Z' r => PathV w Z' r p) := by
  refine enterC (k₀ := 5) (hA.less (by first | decide | omega)) W hZ (by k_is) (by k_is) (by k_is) (by k_is) (by k_is) (fun x => [("self", .ref x), ("parts", p)]) (fun _ _ X => binds_K X rfl (by k_is) rfl rfl rfl) (fun _ => locs rfl) rfl rfl rfl (by decide) fun x dx L h₁ t₁ A' hA' hx hdx F => ?_
  (repeat' tb_rel)
  rename Fx _ _ _ _ _ _ _ _ => Fe
  obtain ⟨Z1, F1, l1, e1⟩ := Fe.freeze hdx
  obtain ⟨Z2, F2, l2, e2⟩ := F1.freeze hx
  exact ⟨trivial, _, _, _, _, _, rfl, F2, x, dx, _, _, rfl, e2, l2 _ _ e1⟩
theorem path_none (hA : Ok A 6) (W : Wd w mg mb Z) (hZ : Z.StaysIn h) : Cal w A ⟨h, g, d, t, os⟩ (call (.ref 214) []) Z (fun Z' r => PathAt w Z' r []) := by
  refine enterC (k₀ := 5) (hA.less (by first | decide | omega)) W hZ (by k_is) (by k_is) (by k_is) (by k_is) (by k_is) (fun x => [("self", .ref x), ("parts", .ref 203)]) (fun _ _ X => binds_K X rfl (by k_is) rfl rfl rfl) (fun _ => locs rfl) rfl rfl rfl (by decide) fun x dx L h₁ t₁ A' hA' hx hdx F => ?_
  (repeat' tb_rel)
  rename Fx _ _ _ _ _ _ _ _ => Fe
  obtain ⟨Z1, F1, l1, e1⟩ := Fe.freeze hdx
  obtain ⟨Z2, F2, l2, e2⟩ := F1.freeze hx
  have T : Tup Z (.ref 203) [] := ⟨203, rfl, _, W.K _ _ (by k_is), rfl, _, rfl⟩
  exact ⟨trivial, _, _, _, _, _, rfl, F2, _, [], ⟨x, dx, _, _, rfl, e2, l2 _ _ e1⟩, T.up F2.le, .nil, by simp⟩
theorem pair_of {v1 v2 : Value} (hA : Ok A 12) (W : Wd w mg mb Z) (hZ : Z.StaysIn h) (D1 : Num w Z v1 X) (D2 : Num w Z v2 Y) :
    Cal w A ⟨h, g, d, t, os⟩ (call (.ref 225) [v1, v2]) Z (fun Z' r => Pt w Z' r (X, Y)) := by
  refine enter (args := ⟨[v1, v2], []⟩) (binds := [("x", v1), ("y", v2)]) hA.room W hZ (by k_is) (by k_is) (BindsTo.of_eq rfl) (locs rfl) rfl rfl rfl (by decide) fun L h₁ t₁ F => ?_
  refine wp_gen fun Qe hQe => ?_
  (repeat' tb_rel)
  refine Cal.use (decimal_of (hA.deeper.less (by first | decide | omega)) (W.up F.le) F.stay D1) F fun r1 h1 t1 Z1 F1 le1 E1 => ?_
  (repeat' tb_rel)
  refine Cal.use (decimal_of (hA.deeper.less (by first | decide | omega)) (W.up F1.le) F1.stay (D2.up le1)) F1 fun r2 h2 t2 Z2 F2 le2 E2 => ?_
  (repeat' tb_rel)
  rename Fx _ _ _ _ _ _ _ _ => Fe
  exact hQe _ _ ⟨_, _, _, _, _, rfl, Fe, _, _, by ktr_rel, by ktr_rel, by ktr_rel⟩
theorem is_shut {ss : Part} {s : Option (Int × Int)} (hA : Ok A 12) (W : Wd w mg mb Z) (hZ : Z.StaysIn h) (P : PartAt w Z v (ss ++ [s])) :
    Cal w A ⟨h, g, d, t, os⟩ (call (.ref 232) [v]) Z (fun _ r => r = .bool s.isNone) := by
  obtain ⟨vs, T, a, l⟩ := P
  obtain ⟨ws, sv, rfl, a', S⟩ := a.unsnoc
  refine enter (args := ⟨[v], []⟩) (binds := [("part", v)]) hA.room W hZ (by k_is) (by k_is) (BindsTo.of_eq rfl) (locs rfl) rfl rfl rfl (by decide) fun L h₁ t₁ F => ?_
  refine wp_gen fun Qe hQe => ?_
  (repeat' tb_rel)
  cases s with
  | some q =>
    obtain ⟨tag, tk, p, n1, n2, Ts, Pp⟩ := S
    refine i_tup F Ts (by decide) (by decide) (j := 0) rfl rfl (fun _ => by with_unfolding_all rfl) ?_
    (repeat' tb_rel)
    exact hQe _ _ ⟨_, _, _, _, _, rfl, F, by simp [n2]⟩
  | none =>
    obtain ⟨tk, Ts⟩ := S
    refine i_tup F Ts (by decide) (by decide) (j := 0) rfl rfl (fun _ => by with_unfolding_all rfl) ?_
    (repeat' tb_rel)
    exact hQe _ _ ⟨_, _, _, _, _, rfl, F, by simp⟩
theorem current_point {ps : List Part} {ss : Part} {q : Int × Int} (hA : Ok A 20) (W : Wd w mg mb Z) (hZ : Z.StaysIn h) (P : PathAt w Z v (ps ++ [ss ++ [some q]])) :
    Cal w A ⟨h, g, d, t, os⟩ (call (.ref 239) [v]) Z (fun _ r => ∃ a, r = .ref a) := by
  have hu : A.units + 3 < cLine := (hA.deeper (env := default)).units
  obtain ⟨p, vs, PV, T, a, l⟩ := P
  obtain ⟨ws, sv, rfl, a', S⟩ := a.unsnoc
  refine enter (args := ⟨[v], []⟩) (binds := [("path", v)]) hA.room W hZ (by k_is) (by k_is) (BindsTo.of_eq rfl) (locs rfl) rfl rfl rfl (by decide) fun L h₁ t₁ F => ?_
  refine wp_gen fun Qe hQe => ?_
  (repeat' tb_rel)
  · rename_i hc; exact absurd hc (by simp)
  rename Fx _ _ _ _ _ _ _ _ => F1
  refine Cal.use (is_shut (hA.deeper.less (by first | decide | omega)) (W.up F1.le) F1.stay (S.up F1.le)) F1 fun r2 h2 t2 Z2 F2 le2 E2 => ?_
  subst E2
  obtain ⟨ys, Ty, ay, ly⟩ := S
  obtain ⟨xs, xv, rfl, a2, tag, tk, pt, n1, n2, Tx, q1, q2, Tq, _⟩ := ay.unsnoc
  (repeat' tb_rel)
  refine s_ff ?_
  (repeat' tb_rel)
  obtain ⟨aq, rfl, iq⟩ := Tq
  have Tx' := Tx.up F2.le
  try refine i_last (vs := [.str tag tk]) F2 Tx' (fun _ => by with_unfolding_all rfl) ?_
  exact hQe _ _ ⟨_, _, _, _, _, rfl, F2, _, rfl⟩
theorem drawn_parts {ps : List Part} {vs : List Value} (hA : Ok A 20) (W : Wd w mg mb Z) (hZ : Z.StaysIn h) (P : PathV w Z v p) (T : Tup Z p vs) (a : All2 (PartAt w Z) vs ps) (hz : vs.length ≤ 1000) (hp : ∀ ss, ps.getLast? = some ss → ss.length ≠ 1) :
    Cal w A ⟨h, g, d, t, os⟩ (call (.ref 246) [v]) Z (fun _ r => r = p) := by
  have hu : A.units + 3 < cLine := (hA.deeper (env := default)).units
  refine enter (args := ⟨[v], []⟩) (binds := [("path", v)]) hA.room W hZ (by k_is) (by k_is) (BindsTo.of_eq rfl) (locs rfl) rfl rfl rfl (by decide) fun L h₁ t₁ F => ?_
  refine wp_gen fun Qe hQe => ?_
  rcases List.eq_nil_or_concat ps with rfl | ⟨ps', ss, rfl⟩
  · have : vs = [] := by have := a.length; simpa using this
    subst this
    (repeat' tb_rel)
    all_goals (rename Fx _ _ _ _ _ _ _ _ => Fe; first | exact hQe _ _ ⟨_, _, _, _, _, rfl, Fe, rfl⟩ | exact absurd rfl (by assumption : ([] : List Value) ≠ []))
  · rw [List.concat_eq_append] at a hp
    obtain ⟨ws, sv, rfl, a', S⟩ := a.unsnoc
    obtain ⟨ys, Ty, ay, ly⟩ := S
    have hss : ys.length ≠ 1 := by rw [ay.length]; exact hp ss (by simp)
    (repeat' tb_rel)
    all_goals (rename Fx _ _ _ _ _ _ _ _ => Fe; exact hQe _ _ ⟨_, _, _, _, _, rfl, Fe, rfl⟩)
end
section
variable {w : World} {A : Around} {mg mb : Str → Option Value} {Z h : Heap} {g : Array GenState} {d : Drawn} {t : Nat} {os : OsState} {v p : Value} {X Y : Int}
theorem move_to {ps : List Part} {v1 v2 : Value} (hA : Ok A 30) (W : Wd w mg mb Z) (hZ : Z.StaysIn h) (P : PathAt w Z v ps) (hp : ∀ ss, ps.getLast? = some ss → ss.length ≠ 1) (hl : ps.length ≤ 100) (D1 : Num w Z v1 X) (D2 : Num w Z v2 Y) :
    Cal w A ⟨h, g, d, t, os⟩ (call (.ref 253) [v, v1, v2]) Z (fun Z' r => PathAt w Z' r (ps ++ [[some (X, Y)]])) := by
  obtain ⟨p, vs, PV, T, a, l⟩ := P
  have ln := a.length
  refine enter (args := ⟨[v, v1, v2], []⟩) (binds := [("path", v), ("x", v1), ("y", v2)]) hA.room W hZ (by k_is) (by k_is) (BindsTo.of_eq rfl) (locs rfl) rfl rfl rfl (by decide) fun L h₁ t₁ F => ?_
  refine wp_gen fun Qe hQe => ?_
  (repeat' tb_rel)
  refine Cal.use (drawn_parts (hA.deeper.less (by first | decide | omega)) (W.up F.le) F.stay PV T a l hp) F fun r2 h2 t2 Z2 F2 le2 E2 => ?_
  subst E2
  (repeat' tb_rel)
  rename Fx _ _ _ _ _ _ _ _ => F3
  refine Cal.use (pair_of (hA.deeper.less (by first | decide | omega)) (W.up F3.le) F3.stay (D1.up F3.le) (D2.up F3.le)) F3 fun r4 h4 t4 Z4 F4 le4 E4 => ?_
  (repeat' tb_rel)
  rename Fx _ _ _ _ _ _ _ _ => F5
  refine Cal.use (path_new (hA.deeper.less (by first | decide | omega)) (W.up F5.le) F5.stay) F5 fun r6 h6 t6 Z6 F6 le6 P6 => ?_
  exact hQe _ _ ⟨_, _, _, _, _, rfl, F6, _, _, P6, by ktr_rel, (a.mono fun _ _ y => y.up F6.le).snoc ⟨_, by ktr_rel, .cons ⟨"move", _, _, by decide, by decide, by ktr_rel, by ktr_rel⟩ .nil, by simp⟩, by simp; omega⟩
/-- a segment put behind the last part, which is open -/
theorem path_with {ps : List Part} {ss : Part} {q : Int × Int} {sv : Value} {s : Option (Int × Int)} (hA : Ok A 30) (W : Wd w mg mb Z) (hZ : Z.StaysIn h) (P : PathAt w Z v (ps ++ [ss ++ [some q]])) (hl : ps.length ≤ 100) (hs : ss.length ≤ 100) (S : Seg w Z sv s) :
    Cal w A ⟨h, g, d, t, os⟩ (call (.ref 260) [v, sv]) Z (fun Z' r => PathAt w Z' r (ps ++ [ss ++ [some q] ++ [s]])) := by
  refine enter (args := ⟨[v, sv], []⟩) (binds := [("path", v), ("segment", sv)]) hA.room W hZ (by k_is) (by k_is) (BindsTo.of_eq rfl) (locs rfl) rfl rfl rfl (by decide) fun L h₁ t₁ F => ?_
  refine wp_gen fun Qe hQe => ?_
  (repeat' tb_rel)
  refine Cal.use (current_point (hA.deeper.less (by first | decide | omega)) (W.up F.le) F.stay P) F fun r2 h2 t2 Z2 F2 le2 E2 => ?_
  obtain ⟨a2, rfl⟩ := E2
  obtain ⟨p, vs, PV, T, a, l⟩ := P
  obtain ⟨ws, pv, rfl, a', PA⟩ := a.unsnoc
  (repeat' tb_rel)
  rename Fx _ _ _ _ _ _ _ _ => F3
  refine Cal.use (is_shut (hA.deeper.less (by first | decide | omega)) (W.up F3.le) F3.stay (PA.up F3.le)) F3 fun r4 h4 t4 Z4 F4 le4 E4 => ?_
  subst E4
  obtain ⟨ys, Ty, ay, ly⟩ := PA
  have n1 := a'.length
  have n2 := ay.length
  simp only [List.length_append, List.length_cons, List.length_nil] at n2
  (repeat' tb_rel)
  refine s_ff ?_
  (repeat' tb_rel)
  rename Fx _ _ _ _ _ _ _ _ => F5
  refine Cal.use (path_new (hA.deeper.less (by first | decide | omega)) (W.up F5.le) F5.stay) F5 fun r6 h6 t6 Z6 F6 le6 P6 => ?_
  exact hQe _ _ ⟨_, _, _, _, _, rfl, F6, _, _, P6, by ktr_rel, (a'.mono fun _ _ y => y.up F6.le).snoc ⟨_, by ktr_rel, (ay.mono fun _ _ y => y.up F6.le).snoc (S.up F6.le), by simp; omega⟩, by simp; omega⟩
theorem line_to {ps : List Part} {ss : Part} {q : Int × Int} {v1 v2 : Value} (hA : Ok A 40) (W : Wd w mg mb Z) (hZ : Z.StaysIn h) (P : PathAt w Z v (ps ++ [ss ++ [some q]])) (hl : ps.length ≤ 100) (hs : ss.length ≤ 100) (D1 : Num w Z v1 X) (D2 : Num w Z v2 Y) :
    Cal w A ⟨h, g, d, t, os⟩ (call (.ref 267) [v, v1, v2]) Z (fun Z' r => PathAt w Z' r (ps ++ [ss ++ [some q] ++ [some (X, Y)]])) := by
  refine enter (args := ⟨[v, v1, v2], []⟩) (binds := [("path", v), ("x", v1), ("y", v2)]) hA.room W hZ (by k_is) (by k_is) (BindsTo.of_eq rfl) (locs rfl) rfl rfl rfl (by decide) fun L h₁ t₁ F => ?_
  refine wp_gen fun Qe hQe => ?_
  (repeat' tb_rel)
  refine Cal.use (pair_of (hA.deeper.less (by first | decide | omega)) (W.up F.le) F.stay D1 D2) F fun r4 h4 t4 Z4 F4 le4 E4 => ?_
  (repeat' tb_rel)
  rename Fx _ _ _ _ _ _ _ _ => F5
  refine Cal.use (path_with (hA.deeper.less (by first | decide | omega)) (W.up F5.le) F5.stay (P.up F5.le) hl hs (s := some (X, Y)) ⟨"line", _, _, by decide, by decide, by ktr_rel, by ktr_rel⟩) F5 fun r6 h6 t6 Z6 F6 le6 P6 => ?_
  exact hQe _ _ ⟨_, _, _, _, _, rfl, F6, P6⟩
theorem close_path {ps : List Part} {ss : Part} {q : Int × Int} (hA : Ok A 30) (W : Wd w mg mb Z) (hZ : Z.StaysIn h) (P : PathAt w Z v (ps ++ [ss ++ [some q]])) (hl : ps.length ≤ 100) (hs : ss.length ≤ 100) :
    Cal w A ⟨h, g, d, t, os⟩ (call (.ref 274) [v]) Z (fun Z' r => PathAt w Z' r (ps ++ [ss ++ [some q] ++ [none]])) := by
  have hu : A.units + 3 < cLine := (hA.deeper (env := default)).units
  obtain ⟨p, vs, PV, T, a, l⟩ := P
  obtain ⟨ws, pv, rfl, a', PA⟩ := a.unsnoc
  refine enter (args := ⟨[v], []⟩) (binds := [("path", v)]) hA.room W hZ (by k_is) (by k_is) (BindsTo.of_eq rfl) (locs rfl) rfl rfl rfl (by decide) fun L h₁ t₁ F => ?_
  refine wp_gen fun Qe hQe => ?_
  (repeat' tb_rel)
  · rename_i hc; exact absurd hc (by simp)
  rename Fx _ _ _ _ _ _ _ _ => F3
  refine Cal.use (is_shut (hA.deeper.less (by first | decide | omega)) (W.up F3.le) F3.stay (PA.up F3.le)) F3 fun r4 h4 t4 Z4 F4 le4 E4 => ?_
  subst E4
  obtain ⟨ys, Ty, ay, ly⟩ := PA
  have n1 := a'.length
  have n2 := ay.length
  simp only [List.length_append, List.length_cons, List.length_nil] at n2
  (repeat' tb_rel)
  refine s_ff ?_
  (repeat' tb_rel)
  rename Fx _ _ _ _ _ _ _ _ => F5
  refine Cal.use (path_new (hA.deeper.less (by first | decide | omega)) (W.up F5.le) F5.stay) F5 fun r6 h6 t6 Z6 F6 le6 P6 => ?_
  exact hQe _ _ ⟨_, _, _, _, _, rfl, F6, _, _, P6, by ktr_rel, (a'.mono fun _ _ y => y.up F6.le).snoc ⟨_, by ktr_rel, (ay.mono fun _ _ y => y.up F6.le).snoc ⟨_, by ktr_rel⟩, by simp; omega⟩, by simp; omega⟩
end
section
open PyProof.Rows.LCg
abbrev lo (n : Nat) (ys : List Value) : Obj := { cls := .type "list", data := .seq ys.toArray n }

section
variable {w : World} {A : Around} {n₀ : Nat} {B Z₀ Z Z' : Heap} {L C : Addr} {m mC : Str → Option Value} {mu nu : List (Addr × Obj)} {h h' : Heap} {g : Array GenState} {d : Drawn} {t : Nat} {os : OsState} {env : Env}
/-- a thing that was not there, that may still turn -/
theorem Fx.add (F : Fx n₀ B Z₀ Z L m mu h) (k : h.StaysIn h') {a : Addr} {o : Obj} (e : h.get? a = none) (e' : h'.get? a = some o) : Fx n₀ B Z₀ Z L m ((a, o) :: mu) h' := by
  have G := F.keep k
  refine ⟨G.ns, G.base, G.le, G.stay, G.L0, G.new, G.LB, G.LZ, fun p hp => ?_, ?_⟩
  · rcases List.mem_cons.mp hp with rfl | hp
    · refine ⟨e', none_of_stays F.base e, fun q => ?_, none_of_stays F.stay e⟩
      obtain ⟨o', _, _, ho, _⟩ := F.ns
      rw [show a = L from q, ho] at e; cases e
    · exact G.mus p hp
  · rw [List.map_cons]
    refine List.nodup_cons.mpr ⟨fun hm => ?_, F.nd⟩
    obtain ⟨p, hp, q⟩ := List.mem_map.mp hm
    have := (F.mus p hp).1
    rw [q, e] at this; cases this
/-- the locals change places with a turning names' dict -/
theorem Fx.turnL {oC : Obj} (F : Fx n₀ B Z₀ Z L m ((C, oC) :: mu) h) (hC : NsObj oC mC) (n : n₀ ≤ C) : ∃ oL, NsObj oL m ∧ Fx n₀ B Z₀ Z C mC ((L, oL) :: mu) h := by
  obtain ⟨oL, eL, nL⟩ := ns_obj F.ns
  have D := F.mus (C, oC) (.head _)
  have nd := List.nodup_cons.mp F.nd
  refine ⟨oL, nL, hC.ns D.1, F.base, F.le, F.stay, n, F.new, D.2.1, D.2.2.2, fun p hp => ?_, ?_⟩
  · rcases List.mem_cons.mp hp with rfl | hp
    · exact ⟨eL, F.LB, Ne.symm D.2.2.1, F.LZ⟩
    · have P := F.mus p (.tail _ hp)
      exact ⟨P.1, P.2.1, fun q => nd.1 (List.mem_map.mpr ⟨p, hp, q⟩), P.2.2.2⟩
  · rw [List.map_cons]
    refine List.nodup_cons.mpr ⟨fun hm => ?_, nd.2⟩
    obtain ⟨p, hp, q⟩ := List.mem_map.mp hm
    exact (F.mus p (.tail _ hp)).2.2.1 q
theorem Fx.rebase (F : Fx n₀ B Z₀ Z L m mu h) : Fx n₀ B Z Z L m mu h := ⟨F.ns, F.base, stays_refl, F.stay, F.L0, fun _ _ e => e, F.LB, F.LZ, F.mus, F.nd⟩
theorem Fx.unbase {L' : Addr} {m' : Str → Option Value} {mu' : List (Addr × Obj)} (F : Fx n₀ B Z Z' L m mu h) (G : Fx n₀ B Z₀ Z L' m' mu' h') : Fx n₀ B Z₀ Z' L m mu h :=
  ⟨F.ns, F.base, stays_trans G.le F.le, F.stay, F.L0, fun a ha e => F.new a ha (G.new a ha e), F.LB, F.LZ, F.mus, F.nd⟩
theorem Fx.forget {a : Addr} {o : Obj} (F : Fx n₀ B Z₀ Z L m ((a, o) :: mu) h) (hs : Heap.SameBut a h h') : Fx n₀ B Z₀ Z L m mu h' := by
  have D := F.mus (a, o) (.head _)
  have nd := List.nodup_cons.mp F.nd
  refine ⟨F.ns.sameBut hs (Ne.symm D.2.2.1), fun b x e => (hs.2 b (ne_of_get e D.2.1)).trans (F.base b x e), F.le, fun b x e => (hs.2 b (ne_of_get e D.2.2.2)).trans (F.stay b x e), F.L0, F.new, F.LB, F.LZ, fun p hp => ?_, nd.2⟩
  have P := F.mus p (.tail _ hp)
  exact ⟨(hs.2 p.1 fun q => nd.1 (List.mem_map.mpr ⟨p, hp, q⟩)).trans P.1, P.2⟩
theorem Fx.forgetE {a : Addr} {o : Obj} (F : Fx n₀ B Z₀ Z L m ((a, o) :: mu) h) (hs : Heap.ExtBut a h h') : Fx n₀ B Z₀ Z L m mu h' := by
  have D := F.mus (a, o) (.head _)
  have nd := List.nodup_cons.mp F.nd
  have nsk : h'.Ns L m := by obtain ⟨oL, eL, nL⟩ := ns_obj F.ns; exact nL.ns (hs L _ (Ne.symm D.2.2.1) eL)
  refine ⟨nsk, fun b x e => hs b _ (ne_of_get e D.2.1) (F.base b x e), F.le, fun b x e => hs b _ (ne_of_get e D.2.2.2) (F.stay b x e), F.L0, F.new, F.LB, F.LZ, fun p hp => ?_, nd.2⟩
  have P := F.mus p (.tail _ hp)
  exact ⟨hs p.1 _ (fun q => nd.1 (List.mem_map.mpr ⟨p, hp, q⟩)) P.1, P.2⟩
theorem Fx.last {a : Addr} {o : Obj} (F : Fx n₀ B Z₀ Z L m (mu ++ [(a, o)]) h) : Fx n₀ B Z₀ Z L m ((a, o) :: mu) h := F.perm List.perm_append_comm
theorem Fx.tolast {a : Addr} {o : Obj} (F : Fx n₀ B Z₀ Z L m ((a, o) :: mu) h) : Fx n₀ B Z₀ Z L m (mu ++ [(a, o)]) h := F.perm (List.perm_append_comm (l₁ := [(a, o)]) (l₂ := mu))
theorem Fx.dropR (F : Fx n₀ B Z₀ Z L m (mu ++ nu) h) : Fx n₀ B Z₀ Z L m mu h :=
  ⟨F.ns, F.base, F.le, F.stay, F.L0, F.new, F.LB, F.LZ, fun q hq => F.mus q (List.mem_append.mpr (Or.inl hq)), by have := F.nd; rw [List.map_append] at this; exact (List.nodup_append.mp this).1⟩
end

/-- a walk over so many items -/
structure Itr (w : World) (A : Around) (Z₁ : Heap) (I : Addr) (n : Nat) (P : List (Addr × Obj) → Nat → Value → Prop) (tgt : Expr) (St : Nat → List (Addr × Obj) → Prop) : Prop where
  item : ∀ {n₀ : Nat} {B Z₀ Z : Heap} {L : Addr} {m : Str → Option Value} {nu mu : List (Addr × Obj)} {h : Heap} {g : Array GenState} {d : Drawn} {t : Nat} {os : OsState} {i : Nat} {Q : Value → Shared → Prop} {E E' : Value → Shared → Prop}, Z₁.StaysIn Z →
    Fx n₀ B Z₀ Z L m (mu ++ nu) h → St i nu → i < n → (∀ v h' t' nu', P nu' i v → St (i + 1) nu' → Fx n₀ B Z₀ Z L m (mu ++ nu') h' → Q v ⟨h', g, d, t', os⟩) →
    wpAny (Mo w) A (pyNext (.ref I)) (fun r s => ∃ v, r = some v ∧ wpAny (Mo w) A (letOwnedTupleGo tgt (.ref I) v) (fun _ s' => Q v s') E' s) E ⟨h, g, d, t, os⟩
  done : ∀ {n₀ : Nat} {B Z₀ Z : Heap} {L : Addr} {m : Str → Option Value} {nu mu : List (Addr × Obj)} {h : Heap} {g : Array GenState} {d : Drawn} {t : Nat} {os : OsState} {Q : Option Value → Shared → Prop} {E : Value → Shared → Prop}, Z₁.StaysIn Z →
    Fx n₀ B Z₀ Z L m (mu ++ nu) h → St n nu → (∀ h' t', Fx n₀ B Z₀ Z L m mu h' → Q none ⟨h', g, d, t', os⟩) → wpAny (Mo w) A (pyNext (.ref I)) Q E ⟨h, g, d, t, os⟩
  self : ∀ {n₀ : Nat} {B Z₀ Z : Heap} {L : Addr} {m : Str → Option Value} {nu mu : List (Addr × Obj)} {h : Heap} {g : Array GenState} {d : Drawn} {t : Nat} {os : OsState} {Q : Value → Shared → Prop} {E : Value → Shared → Prop}, Z₁.StaysIn Z →
    Fx n₀ B Z₀ Z L m (mu ++ nu) h → St 0 nu → Q (.ref I) ⟨h, g, d, t, os⟩ → wpAny (Mo w) A (pyIter (.ref I)) Q E ⟨h, g, d, t, os⟩

section
variable {w : World} {A : Around} {n₀ : Nat} {B Z₀ Z Z₁ : Heap} {L : Addr} {m : Str → Option Value} {mu nu : List (Addr × Obj)} {h : Heap} {g : Array GenState} {d : Drawn} {t : Nat} {os : OsState} {env : Env} {E : Value → Shared → Prop}
theorem go_plain {M : Model} {s : Shared} {tgt : Expr} {I : Addr} {v : Value} {o : Obj} {n : String} {Q : Unit → Shared → Prop} (e : s.heap.get? I = some o) (hc : o.cls = .type n)
    (hn : (["enumerate", "zip", "dict_itemiterator", "dict_reverseitemiterator", "odict_iterator", "itertools.zip_longest", "itertools.pairwise"] : List String).contains n = false) (q : Q () s) : wpAny M A (letOwnedTupleGo tgt (.ref I) v) Q E s := by
  unfold letOwnedTupleGo
  split
  · split
    · rename_i heq
      cases heq
      refine wpAny_bind (wpAny_load e ?_)
      rw [hc]
      split
      · rename_i h1 _
        cases h1
        rw [hn, Bool.false_and, if_neg (by decide)]
        exact wpAny_pure q
      · exact wpAny_pure q
    · exact wpAny_pure q
  · split
    · rename_i heq
      cases heq
      refine wpAny_bind (wpAny_load e ?_)
      rw [hc]
      split
      · rename_i h1 _
        cases h1
        rw [hn, Bool.false_and, if_neg (by decide)]
        exact wpAny_pure q
      · exact wpAny_pure q
    · exact wpAny_pure q
  · exact wpAny_pure q

abbrev itO (c : String) (ax : Addr) (i : Nat) (o : Obj) : Prop := o.cls = .type c ∧ o.data = .fields #[.ref ax, .int i 0]
theorem itr_tup {Z : Heap} {ax I : Addr} {vs : List Value} {tgt : Expr} (hA : A.handled = none) (T : IsTup Z ax vs.toArray) : Itr w A Z I vs.length (fun _ i v => vs[i]? = some v) tgt (fun i nu => ∃ o, nu = [(I, o)] ∧ itO "tuple_iterator" ax i o) where
  item := by
    rintro n₀ B Z₀ Z' L m nu mu h g d t os i Q E E' hz F ⟨o, rfl, hc, hd⟩ hi q
    have F1 := F.last
    have D := F1.mus (I, o) (.head _)
    refine wpAny_pyNext_tuple_item (s := ⟨h, g, d, t, os⟩) (i := i) (x := vs[i]) ⟨o, D.1, hc, hd⟩ ((T.keeps hz).keeps F1.stay) (by simp [hi]) fun h' hit' hs' => ?_
    obtain ⟨o', e', c', d'⟩ := hit'
    exact ⟨_, rfl, go_plain (n := "tuple_iterator") e' c' (by decide) (q _ _ _ _ (by simp [hi]) ⟨o', rfl, c', d'⟩ (F1.upd e' hs').tolast)⟩
  done := by
    rintro n₀ B Z₀ Z' L m nu mu h g d t os Q E hz F ⟨o, rfl, hc, hd⟩ q
    have F1 := F.last
    have D := F1.mus (I, o) (.head _)
    exact wpAny_pyNext_tuple_end (s := ⟨h, g, d, t, os⟩) (i := vs.length) hA ⟨o, D.1, hc, hd⟩ ((T.keeps hz).keeps F1.stay) (by simp) fun h' hs' => q _ _ (F1.forgetE hs')
  self := by
    rintro n₀ B Z₀ Z' L m nu mu h g d t os Q E hz F ⟨o, rfl, hc, hd⟩ q
    exact wpAny_pyIter_tupleiter (s := ⟨h, g, d, t, os⟩) ⟨o, (F.last.mus (I, o) (.head _)).1, hc, hd⟩ q
theorem itr_lst {Z : Heap} {ax I : Addr} {vs : List Value} {tgt : Expr} (hA : A.handled = none) (T : Z.IsList ax vs.toArray) : Itr w A Z I vs.length (fun _ i v => vs[i]? = some v) tgt (fun i nu => ∃ o, nu = [(I, o)] ∧ itO "list_iterator" ax i o) where
  item := by
    rintro n₀ B Z₀ Z' L m nu mu h g d t os i Q E E' hz F ⟨o, rfl, hc, hd⟩ hi q
    have F1 := F.last
    have D := F1.mus (I, o) (.head _)
    refine wpAny_pyNext_list_item (s := ⟨h, g, d, t, os⟩) (i := i) (x := vs[i]) ⟨o, D.1, hc, hd⟩ (T.at fun o e => F1.stay _ _ (hz _ _ e)) (by simp [hi]) fun h' hit' hs' => ?_
    obtain ⟨o', e', c', d'⟩ := hit'
    exact ⟨_, rfl, go_plain (n := "list_iterator") e' c' (by decide) (q _ _ _ _ (by simp [hi]) ⟨o', rfl, c', d'⟩ (F1.upd e' hs').tolast)⟩
  done := by
    rintro n₀ B Z₀ Z' L m nu mu h g d t os Q E hz F ⟨o, rfl, hc, hd⟩ q
    have F1 := F.last
    have D := F1.mus (I, o) (.head _)
    exact wpAny_pyNext_list_end (s := ⟨h, g, d, t, os⟩) (i := vs.length) hA ⟨o, D.1, hc, hd⟩ (T.at fun o e => F1.stay _ _ (hz _ _ e)) (by simp) fun h' hs' => q _ _ (F1.forgetE hs')
  self := by
    rintro n₀ B Z₀ Z' L m nu mu h g d t os Q E hz F ⟨o, rfl, hc, hd⟩ q
    exact wpAny_pyIter_listiter (s := ⟨h, g, d, t, os⟩) ⟨o, (F.last.mus (I, o) (.head _)).1, hc, hd⟩ q
abbrev riO (x left step : Int) : Obj := { cls := .type "range_iterator", dict := none, data := .fields #[rawInt x, rawInt left, rawInt step], slots := #[] }
theorem itr_range {Z : Heap} {I : Addr} {a c : Int} {n : Nat} {tgt : Expr} (hA : A.handled = none) : Itr w A Z I n (fun _ i v => ∃ u, v = .int (a + i * c) u) tgt (fun i nu => nu = [(I, riO (a + (i : Nat) * c) ((n : Int) - (i : Nat)) c)]) where
  item := by
    rintro n₀ B Z₀ Z' L m nu mu h g d t os i Q E E' hz F rfl hi q
    have F1 := F.last
    have D := F1.mus _ (.head _)
    refine wpAny_pyNext_range_item (s := ⟨h, g, d, t, os⟩) D.1 (by first | decide | omega) fun h' hit' hs' => ?_
    refine ⟨_, rfl, go_plain (n := "range_iterator") hit' rfl (by decide) (q _ _ _ _ ⟨_, rfl⟩ ?_ (F1.upd hit' hs').tolast)⟩
    have e1 : a + ((i + 1 : Nat) : Int) * c = a + (i : Int) * c + c := by push_cast; rw [Int.add_mul, Int.one_mul, Int.add_assoc]
    have e2 : (n : Int) - ((i + 1 : Nat) : Int) = (n : Int) - (i : Int) - 1 := by push_cast; omega
    rw [e1, e2]
  done := by
    rintro n₀ B Z₀ Z' L m nu mu h g d t os Q E hz F rfl q
    have F1 := F.last
    have D := F1.mus _ (.head _)
    exact wpAny_pyNext_range_end (s := ⟨h, g, d, t, os⟩) hA D.1 (by first | decide | omega) fun h' hs' => q _ _ (F1.forgetE hs')
  self := by
    rintro n₀ B Z₀ Z' L m nu mu h g d t os Q E hz F rfl q
    exact wpAny_pyIter_rangeiter (s := ⟨h, g, d, t, os⟩) (F.last.mus _ (.head _)).1 q

theorem it_tup {v : Value} {vs : List Value} {Q : Value → Shared → Prop} (hA : A.handled = none) (F : Fx n₀ B Z₀ Z L m mu h) (T : Tup Z v vs)
    (q : ∀ I h' nu St, (∀ tgt, Itr w A Z I vs.length (fun _ i v => vs[i]? = some v) tgt St) → St 0 nu → Fx n₀ B Z₀ Z L m (mu ++ nu) h' → Q (.ref I) ⟨h', g, d, t, os⟩) : wpAny (Mo w) A (pyIter v) Q E ⟨h, g, d, t, os⟩ := by
  obtain ⟨ax, rfl, T⟩ := T
  refine wpAny_pyIter_tuple (s := ⟨h, g, d, t, os⟩) (T.keeps F.stay) ?_
  exact q _ _ _ _ (fun tgt => itr_tup hA T) ⟨_, rfl, rfl, rfl⟩ (F.allocM _ rfl).1.tolast
theorem it_lst {v : Value} {vs : List Value} {Q : Value → Shared → Prop} (hA : A.handled = none) (F : Fx n₀ B Z₀ Z L m mu h) (T : Lst Z v vs)
    (q : ∀ I h' nu St, (∀ tgt, Itr w A Z I vs.length (fun _ i v => vs[i]? = some v) tgt St) → St 0 nu → Fx n₀ B Z₀ Z L m (mu ++ nu) h' → Q (.ref I) ⟨h', g, d, t, os⟩) : wpAny (Mo w) A (pyIter v) Q E ⟨h, g, d, t, os⟩ := by
  obtain ⟨ax, rfl, T⟩ := T
  refine wpAny_pyIter_list (s := ⟨h, g, d, t, os⟩) (T.at fun o e => F.stay _ _ e) ?_
  exact q _ _ _ _ (fun tgt => itr_lst hA T) ⟨_, rfl, rfl, rfl⟩ (F.allocM _ rfl).1.tolast
/-- a range in a frozen part -/
def Rng (Z : Heap) (v : Value) (a b c : Int) : Prop := ∃ r t u x, v = .ref r ∧ IsRange Z r a b c t u x
theorem it_range {v : Value} {a b c : Int} {k : Nat} {Q : Value → Shared → Prop} (hA : A.handled = none) (F : Fx n₀ B Z₀ Z L m mu h) (T : Rng Z v a b c) (hs : Builtin.Range.small a b c = true) (hk : Builtin.Range.rangeSize a b c = k)
    (q : ∀ I h' nu St, (∀ tgt, Itr w A Z I k (fun _ i v => ∃ u, v = .int (a + i * c) u) tgt St) → St 0 nu → Fx n₀ B Z₀ Z L m (mu ++ nu) h' → Q (.ref I) ⟨h', g, d, t, os⟩) : wpAny (Mo w) A (pyIter v) Q E ⟨h, g, d, t, os⟩ := by
  obtain ⟨r, t1, u1, x1, rfl, T⟩ := T
  refine wpAny_pyIter_range (s := ⟨h, g, d, t, os⟩) (F.stay _ _ T) hs ?_
  exact q _ _ _ _ (fun tgt => itr_range hA) (by rw [hk]; simp [riO]) (F.allocM _ rfl).1.tolast

theorem w_for {target : Expr} {body : List Stmt} {I : Addr} {n : Nat} {P : List (Addr × Obj) → Nat → Value → Prop} {St : Nat → List (Addr × Obj) → Prop} {R : Result → Shared → Prop} (It : Itr w A Z₁ I n P target St) (J : Nat → Heap → (Str → Option Value) → List (Addr × Obj) → Prop)
    (F : Fx n₀ B Z₀ Z L m (mu ++ nu) h) (hz : Z₁.StaysIn Z) (hs : St 0 nu) (hJ : J 0 Z m mu)
    (turn : ∀ i v Z m mu nu h t, i < n → Z₁.StaysIn Z → Fx n₀ B Z₀ Z L m (mu ++ nu) h → P nu i v → J i Z m mu → wpAny (Mo w) A (assign target env v) (fun _ s₂ => wpAny (Mo w) A (execs body env) (fun f s₃ => f = .next ∧
      ∃ h t Z' m' mu', s₃ = ⟨h, g, d, t, os⟩ ∧ Fx n₀ B Z₀ Z' L m' (mu' ++ nu) h ∧ Z.StaysIn Z' ∧ J (i + 1) Z' m' mu') (fun _ _ => False) s₂) (fun _ _ => False) ⟨h, g, d, t, os⟩)
    (fin : ∀ Z m mu h t, Fx n₀ B Z₀ Z L m mu h → J n Z m mu → R (.ok .next) ⟨h, g, d, t, os⟩) : codeAny (Mo w) A (.forLoop target (.ref I) body [] env) R ⟨h, g, d, t, os⟩ := by
  refine codeAny_forLoop_any (fun k s => ∃ i h t Z m mu nu, k = n - i ∧ i ≤ n ∧ s = ⟨h, g, d, t, os⟩ ∧ Z₁.StaysIn Z ∧ Fx n₀ B Z₀ Z L m (mu ++ nu) h ∧ St i nu ∧ J i Z m mu) ?_ n ⟨0, h, t, Z, m, mu, nu, rfl, Nat.zero_le _, rfl, hz, F, hs, hJ⟩
  rintro k s ⟨i, h, t, Z, m, mu, nu, rfl, hi, rfl, hz, F, hs, hJ⟩
  by_cases hlt : i < n
  · refine wpAny_mono (It.item (Q := fun v s' => wpAny (Mo w) A (assign target env v) (fun _ s₂ => wpAny (Mo w) A (execs body env) (fun f s₃ => f = .next ∧ ∃ m, m < n - i ∧ ∃ i h t Z m' mu nu, m = n - i ∧ i ≤ n ∧ s₃ = ⟨h, g, d, t, os⟩ ∧ Z₁.StaysIn Z ∧ Fx n₀ B Z₀ Z L m' (mu ++ nu) h ∧ St i nu ∧ J i Z m' mu) (fun _ _ => False) s₂) (fun _ _ => False) s') (E := fun _ _ => False) (E' := fun _ _ => False) hz F hs hlt fun v h' t' nu' hP hs' F' => ?_) (fun r s₁ h₁ => ?_) (fun _ _ z => z.elim)
    · refine wpAny_mono (turn i v Z m mu nu' h' t' hlt hz F' hP hJ) (fun _ s₂ h₂ => wpAny_mono h₂ (fun f s₃ h₃ => ?_) (fun _ _ z => z.elim)) (fun _ _ z => z.elim)
      obtain ⟨rfl, h3, t3, Z3, m3, mu3, rfl, F3, z3, j3⟩ := h₃
      exact ⟨rfl, n - (i + 1), by omega, i + 1, h3, t3, Z3, m3, mu3, nu', rfl, hlt, rfl, stays_trans hz z3, F3, hs', j3⟩
    · obtain ⟨v, rfl, h₁⟩ := h₁
      refine wpAny_mono h₁ (fun _ s₂ h₂ => wpAny_mono h₂ (fun _ s₃ h₃ => wpAny_mono h₃ (fun f s₄ h₄ => ?_) (fun _ _ z => z.elim)) (fun _ _ z => z.elim)) (fun _ _ z => z.elim)
      obtain ⟨rfl, h₄⟩ := h₄
      exact h₄
  · have : i = n := by omega
    subst this
    exact It.done hz F hs fun h' t' F' => wpAny_execs_nil (fin _ _ _ _ _ F' hJ)

theorem compLoop_go {RR : Result → Shared → Prop} {elt target iter : Expr} {ifs : List Expr} {scope : Scope} {pos : Pos} {it acc : Value} {s : Shared} (I : Nat → Shared → Prop)
    (turn : ∀ n s, I n s → wpAny (Mo w) A (pyNext it) (fun r s₁ => match r with
      | none => RR (.ok .next) s₁
      | some v => wpAny (Mo w) A (letOwnedTupleGo target it v) (fun _ s₁' => wpAny (Mo w) A (assign target env v) (fun _ s₂ =>
          wpAny (Mo w) A (forIn ifs true fun c r => if r = true then do let ok ← isTrue c env (eval c env); pure (ForInStep.yield ok) else pure (ForInStep.yield r)) (fun ok s₃ =>
            if ok = true then wpAny (Mo w) A (eval elt env) (fun x s₄ =>
              wpAny (Mo w) A (call (.builtin "list.append") [acc, x]) (fun _ s₅ => ∃ m, m < n ∧ I m s₅) (fun _ _ => False) s₄) (fun _ _ => False) s₃
            else ∃ m, m < n ∧ I m s₃) (fun _ _ => False) s₂) (fun _ _ => False) s₁') (fun _ _ => False) s₁) (fun _ _ => False) s)
    (n : Nat) (h : I n s) : codeAny (Mo w) A (.compLoop (.ListComp elt [⟨target, iter, ifs, 0⟩] scope pos) 0 it acc env) RR s := by
  refine codeAny_loop rfl I (fun n s hI => ?_) n h
  show wpAny _ A ((compTurn (.ListComp elt [⟨target, iter, ifs, 0⟩] scope pos) 0 it acc env).onRaise (fun x => do noteFrame x env; theTreesLotGoes x)) _ _ s
  refine wpAny_noted ?_
  rw [compTurn_list]
  refine wpAny_bind (wpAny_standAt (wpAny_bind (wpAny_mono (turn n s hI) (fun r s₁ h₁ => ?_) fun _ _ h' => h'.elim)))
  cases r with
  | none => exact wpAny_pure h₁
  | some v =>
    refine wpAny_bind (wpAny_mono h₁ (fun _ s₁' h₁' => ?_) fun _ _ h' => h'.elim)
    refine wpAny_bind (wpAny_mono h₁' (fun _ s₂ h₂ => wpAny_bind (wpAny_mono h₂ (fun ok s₃ h₃ => ?_) fun _ _ h' => h'.elim)) fun _ _ h' => h'.elim)
    cases ok with
    | false => exact wpAny_pure ⟨rfl, h₃⟩
    | true =>
      exact wpAny_bind (wpAny_bind (wpAny_mono h₃ (fun x s₄ h₄ => wpAny_bind (wpAny_mono h₄ (fun _ s₅ h₅ => wpAny_pure (wpAny_pure ⟨rfl, h₅⟩)) fun _ _ h' => h'.elim)) fun _ _ h' => h'.elim))
theorem fm_step {α : Type} (f : Nat → Option α) (i : Nat) : (List.range (i + 1)).filterMap f = (List.range i).filterMap f ++ (f i).toList := by
  rw [List.range_succ, List.filterMap_append]
  cases e : f i <;> simp [e]
theorem w_compLoop {target elt iter : Expr} {ifs : List Expr} {scope : Scope} {pos : Pos} {cenv : Env} {C D : Addr} {k0 : Nat} {α : Type} {I : Addr} {n : Nat} {P : List (Addr × Obj) → Nat → Value → Prop} {St : Nat → List (Addr × Obj) → Prop} {RR : Result → Shared → Prop} (It : Itr w A Z₁ I n P target St)
    (R : Heap → Value → α → Prop) (Rm : ∀ Z Z' v x, Z.StaysIn Z' → R Z v x → R Z' v x) (f : Nat → Option α)
    (F : Fx n₀ B Z₁ Z₁ C m ((D, lo k0 []) :: mu ++ nu) h) (hs : St 0 nu) (hn : n ≤ sizeLine)
    (turn : ∀ i v Z mC mu' h t, i < n → Z₁.StaysIn Z → Fx n₀ B Z₁ Z C mC mu' h → (∃ nu, P nu i v ∧ ∀ p ∈ nu, p ∈ mu') → wpAny (Mo w) A (assign target cenv v) (fun _ s₂ => wpAny (Mo w) A (forIn ifs true fun c r => if r = true then do let ok ← isTrue c cenv (eval c cenv); pure (ForInStep.yield ok) else pure (ForInStep.yield r))
      (fun ok s₃ => if ok = true then wpAny (Mo w) A (eval elt cenv) (fun y s₄ => ∃ h t Z' mC', s₄ = ⟨h, g, d, t, os⟩ ∧ Fx n₀ B Z₁ Z' C mC' mu' h ∧ Z.StaysIn Z' ∧ ∃ x, f i = some x ∧ R Z' y x) (fun _ _ => False) s₃
        else ∃ h t Z' mC', s₃ = ⟨h, g, d, t, os⟩ ∧ Fx n₀ B Z₁ Z' C mC' mu' h ∧ Z.StaysIn Z' ∧ f i = none) (fun _ _ => False) s₂) (fun _ _ => False) ⟨h, g, d, t, os⟩)
    (fin : ∀ h t Z m k ys, Fx n₀ B Z₁ Z C m ((D, lo k ys) :: mu) h → All2 (R Z) ys ((List.range n).filterMap f) → RR (.ok .next) ⟨h, g, d, t, os⟩) :
    codeAny (Mo w) A (.compLoop (.ListComp elt [⟨target, iter, ifs, 0⟩] scope pos) 0 (.ref I) (.ref D) cenv) RR ⟨h, g, d, t, os⟩ := by
  refine compLoop_go (fun k s => ∃ i h t Z m j nu ys, k = n - i ∧ i ≤ n ∧ s = ⟨h, g, d, t, os⟩ ∧ Z₁.StaysIn Z ∧ Fx n₀ B Z₁ Z C m (((D, lo j ys) :: mu) ++ nu) h ∧ St i nu ∧ All2 (R Z) ys ((List.range i).filterMap f) ∧ ys.length ≤ i) ?_ n ⟨0, h, t, Z₁, m, k0, nu, [], rfl, Nat.zero_le _, rfl, stays_refl, F, hs, .nil, Nat.le_refl _⟩
  rintro k s ⟨i, h, t, Z, m, j, nu, ys, rfl, hi, rfl, hz, F, hs, hR, hl⟩
  by_cases hlt : i < n
  · refine wpAny_mono (It.item (Q := fun v s' => wpAny (Mo w) A (assign target cenv v) (fun _ s₂ => wpAny (Mo w) A (forIn ifs true fun c r => if r = true then do let ok ← isTrue c cenv (eval c cenv); pure (ForInStep.yield ok) else pure (ForInStep.yield r))
      (fun ok s₃ => if ok = true then wpAny (Mo w) A (eval elt cenv) (fun x s₄ => wpAny (Mo w) A (call (.builtin "list.append") [.ref D, x]) (fun _ s₅ => ∃ m, m < n - i ∧ ∃ i h t Z m' j nu ys, m = n - i ∧ i ≤ n ∧ s₅ = ⟨h, g, d, t, os⟩ ∧ Z₁.StaysIn Z ∧ Fx n₀ B Z₁ Z C m' (((D, lo j ys) :: mu) ++ nu) h ∧ St i nu ∧ All2 (R Z) ys ((List.range i).filterMap f) ∧ ys.length ≤ i) (fun _ _ => False) s₄) (fun _ _ => False) s₃
        else ∃ m, m < n - i ∧ ∃ i h t Z m' j nu ys, m = n - i ∧ i ≤ n ∧ s₃ = ⟨h, g, d, t, os⟩ ∧ Z₁.StaysIn Z ∧ Fx n₀ B Z₁ Z C m' (((D, lo j ys) :: mu) ++ nu) h ∧ St i nu ∧ All2 (R Z) ys ((List.range i).filterMap f) ∧ ys.length ≤ i) (fun _ _ => False) s₂) (fun _ _ => False) s') (E := fun _ _ => False) (E' := fun _ _ => False) hz F hs hlt fun v h' t' nu' hP hs' F' => ?_) (fun r s₁ h₁ => ?_) (fun _ _ z => z.elim)
    · refine wpAny_mono (turn i v Z m _ h' t' hlt hz F' ⟨nu', hP, fun p hp => List.mem_append.mpr (Or.inr hp)⟩) (fun _ s₂ h₂ => wpAny_mono h₂ (fun ok s₃ h₃ => ?_) (fun _ _ z => z.elim)) (fun _ _ z => z.elim)
      cases ok with
      | false =>
        rw [if_neg (by decide)] at h₃ ⊢
        obtain ⟨h3, t3, Z3, m3, rfl, F3, z3, e3⟩ := h₃
        exact ⟨n - (i + 1), by omega, i + 1, h3, t3, Z3, m3, j, nu', ys, rfl, hlt, rfl, stays_trans hz z3, F3, hs', by rw [fm_step, e3]; simpa using hR.mono fun _ _ => Rm _ _ _ _ z3, by omega⟩
      | true =>
        rw [if_pos rfl] at h₃ ⊢
        refine wpAny_mono h₃ (fun y s₄ h₄ => ?_) (fun _ _ z => z.elim)
        obtain ⟨h3, t3, Z3, m3, rfl, F3, z3, x, e3, r3⟩ := h₄
        have D3 := F3.mus (D, lo j ys) (.head _)
        refine wpAny_list_append_plain (s := ⟨h3, g, d, t3, os⟩) (items := ys.toArray) ⟨j, D3.1⟩ (fun h4 p4 s4 => ?_) (by rw [List.size_toArray]; omega)
        obtain ⟨j4, p4⟩ := p4
        rw [show ys.toArray.push y = (ys ++ [y]).toArray by simp] at p4
        exact ⟨n - (i + 1), by omega, i + 1, h4, t3, Z3, m3, j4, nu', ys ++ [y], rfl, hlt, rfl, stays_trans hz z3, Fx.upd F3 p4 s4, hs', by rw [fm_step, e3]; exact (hR.mono fun _ _ => Rm _ _ _ _ z3).snoc r3, by simp; omega⟩
    · obtain ⟨v, rfl, h₁⟩ := h₁
      exact h₁
  · have : i = n := by omega
    subst this
    exact It.done hz F hs fun h' t' F' => fin _ _ _ _ _ _ F' hR

section
variable {target elt iter : Expr} {ifs : List Expr} {scope : Scope} {pos : Pos} {cl : List (Str × Addr)} {α : Type} {I : Addr} {n : Nat} {P : List (Addr × Obj) → Nat → Value → Prop} {St : Nat → List (Addr × Obj) → Prop}
/-- the turn of a comprehension -/
abbrev CTurn (w : World) (A : Around) (n₀ : Nat) (B Z₁ : Heap) (g : Array GenState) (d : Drawn) (os : OsState) (n : Nat) (P : List (Addr × Obj) → Nat → Value → Prop) (target elt : Expr) (ifs : List Expr) (cenv : Addr → Env) (R : Heap → Value → α → Prop) (f : Nat → Option α) : Prop :=
  ∀ C i v Z mC mu' h t, i < n → Z₁.StaysIn Z → Fx n₀ B Z₁ Z C mC mu' h → (∃ nu, P nu i v ∧ ∀ p ∈ nu, p ∈ mu') → wpAny (Mo w) A (assign target (cenv C) v) (fun _ s₂ => wpAny (Mo w) A (forIn ifs true fun c r => if r = true then do let ok ← isTrue c (cenv C) (eval c (cenv C)); pure (ForInStep.yield ok) else pure (ForInStep.yield r))
      (fun ok s₃ => if ok = true then wpAny (Mo w) A (eval elt (cenv C)) (fun y s₄ => ∃ h t Z' mC', s₄ = ⟨h, g, d, t, os⟩ ∧ Fx n₀ B Z₁ Z' C mC' mu' h ∧ Z.StaysIn Z' ∧ ∃ x, f i = some x ∧ R Z' y x) (fun _ _ => False) s₃
        else ∃ h t Z' mC', s₃ = ⟨h, g, d, t, os⟩ ∧ Fx n₀ B Z₁ Z' C mC' mu' h ∧ Z.StaysIn Z' ∧ f i = none) (fun _ _ => False) s₂) (fun _ _ => False) ⟨h, g, d, t, os⟩
theorem w_compBlock {RR : Value → Addr → Result → Shared → Prop} (It : Itr w A Z I n P target St) (hcell : ∀ y ∈ scope.names, y.2 ≠ .cell) (hkind : scope.kind = .function)
    (R : Heap → Value → α → Prop) (f : Nat → Option α) (F : Fx n₀ B Z₀ Z L m (mu ++ nu) h) (hs : St 0 nu) (hn : n ≤ sizeLine) (Rm : ∀ Z Z' v x, Z.StaysIn Z' → R Z v x → R Z' v x)
    (turn : CTurn w A n₀ B Z g d os n P target elt ifs (fun C => compEnvC scope cl C env) R f)
    (fin : ∀ v C oC mC h t Z' ys, NsObj oC mC → Fx n₀ B Z₀ Z' L m ((C, oC) :: mu) h → Z.StaysIn Z' → Lst Z' v ys → All2 (R Z') ys ((List.range n).filterMap f) → RR v C (.ok .next) ⟨h, g, d, t, os⟩) :
    wpAny (Mo w) A (newList []) (fun acc s₃ => wpAny (Mo w) A (newFunctionEnv scope env.globals cl [] env.qual none .none (some env)) (fun cenv s₄ =>
      codeAny (Mo w) A (.compStart (.ListComp elt [⟨target, iter, ifs, 0⟩] scope pos) 0 (.ref I) acc { cenv with scope := relabel scope env }) (RR acc cenv.locals) s₄) E s₃) E ⟨h, g, d, t, os⟩ := by
  obtain ⟨F1, l1⟩ := F.allocM (lo 0 []) rfl
  refine wpAny_newObj_type (wpAny_newFunctionEnv hcell (by intro y hy; simp at hy) (fun h₁ hns₁ hsb₁ => ?_) hkind)
  dsimp only at hns₁ hsb₁ ⊢
  change Fx n₀ B Z₀ Z L m _ (h.push { cls := .type "list", dict := none, data := .seq ([] : List Value).toArray }) at F1
  generalize h.push { cls := .type "list", dict := none, data := .seq ([] : List Value).toArray } = H2 at hns₁ hsb₁ F1 ⊢
  have kp : H2.StaysIn h₁ := fun b o e => hsb₁.extBut b o (Nat.ne_of_lt (Heap.lt_size e)) (Heap.get?_push_of_some _ e)
  obtain ⟨oC, eC, nC⟩ := ns_obj hns₁
  have F2 := F1.add kp (Heap.get?_none_of_le (Nat.le_refl _)) eC
  have nn : n₀ ≤ H2.objs.size := F1.n0
  obtain ⟨oL, nL, F3⟩ := F2.turnL nC nn
  have F4 : Fx n₀ B Z Z H2.objs.size _ ((h.objs.size, lo 0 []) :: ((L, oL) :: mu) ++ nu) h₁ := F3.rebase.swap
  have loop : ∀ t, codeAny (Mo w) A (.compLoop (.ListComp elt [⟨target, iter, ifs, 0⟩] scope pos) 0 (.ref I) (.ref h.objs.size) (compEnvC scope cl H2.objs.size env)) (RR (.ref h.objs.size) H2.objs.size) ⟨h₁, g, d, t, os⟩ := by
    intro t
    refine w_compLoop It R Rm f F4 hs hn (fun i v Z mC mu' h t => turn _ i v Z mC mu' h t) fun h' t' Z' m' k ys G hR => ?_
    obtain ⟨oC', nC', G2⟩ := G.swap.turnL nL F.L0
    obtain ⟨Z2, G3, l3, e3⟩ := (G2.unbase F).swap.freeze (show n₀ ≤ h.objs.size from l1)
    exact fin _ _ oC' m' _ _ Z2 ys nC' G3 (stays_trans G.le l3) ⟨_, rfl, _, e3, rfl, _, rfl⟩ (hR.mono fun _ _ => Rm _ _ _ _ l3)
  refine codeAny_compStart_list (loop _) ?_
  exact It.self (L := H2.objs.size) (mu := (h.objs.size, lo 0 []) :: (L, oL) :: mu) stays_refl F4 hs (loop _)

theorem w_comp {Q : Value → Shared → Prop} (It : Itr w A Z I n P target St) (hcell : ∀ y ∈ scope.names, y.2 ≠ .cell) (hkind : scope.kind = .function)
    (R : Heap → Value → α → Prop) (f : Nat → Option α) (F : Fx n₀ B Z₀ Z L m (mu ++ nu) h) (hs : St 0 nu) (hn : n ≤ sizeLine) (Rm : ∀ Z Z' v x, Z.StaysIn Z' → R Z v x → R Z' v x)
    (turn : CTurn w A n₀ B Z g d os n P target elt ifs (fun C => compEnvC scope cl C env) R f)
    (fin : ∀ v h t Z' ys, Fx n₀ B Z₀ Z' L m mu h → Z.StaysIn Z' → Lst Z' v ys → All2 (R Z') ys ((List.range n).filterMap f) → Q v ⟨h, g, d, t, os⟩) :
    wpAny (Mo w) A (newList []) (fun acc s₃ => wpAny (Mo w) A (newFunctionEnv scope env.globals cl [] env.qual none .none (some env)) (fun cenv s₄ =>
      codeAny (Mo w) A (.compStart (.ListComp elt [⟨target, iter, ifs, 0⟩] scope pos) 0 (.ref I) acc { cenv with scope := relabel scope env }) (compPost (Mo w) A E none Q acc cenv.locals) s₄) E s₃) E ⟨h, g, d, t, os⟩ := by
  refine w_compBlock (RR := fun acc C => compPost (Mo w) A E none Q acc C) It hcell hkind R f F hs hn Rm turn fun v C oC mC h t Z' ys nC G l T hR => ?_
  exact ⟨mC, nC.ns (G.mus _ (.head _)).1, fun h' hs' => fin v h' t Z' ys (G.forget hs') l T hR⟩
theorem w_compA {y : Str} {py : Pos} {Q : Value → Shared → Prop} (It : Itr w A Z I n P target St) (hcell : ∀ y ∈ scope.names, y.2 ≠ .cell) (hkind : scope.kind = .function)
    (R : Heap → Value → α → Prop) (f : Nat → Option α) (F : Fx n₀ B Z₀ Z L m (mu ++ nu) h) (hs : St 0 nu) (hn : n ≤ sizeLine) (Rm : ∀ Z Z' v x, Z.StaysIn Z' → R Z v x → R Z' v x) (hL : env.locals = L) (hk : env.scope.kind = .function) (hx : env.kindOf y = some .local)
    (turn : CTurn w A n₀ B Z g d os n P target elt ifs (fun C => compEnvC scope cl C env) R f)
    (fin : ∀ v h t Z' ys, Fx n₀ B Z₀ Z' L (fun z => if z = y then some v else m z) mu h → Z.StaysIn Z' → Lst Z' v ys → All2 (R Z') ys ((List.range n).filterMap f) → Q .none ⟨h, g, d, t, os⟩) :
    wpAny (Mo w) A (newList []) (fun acc s₃ => wpAny (Mo w) A (newFunctionEnv scope env.globals cl [] env.qual none .none (some env)) (fun cenv s₄ =>
      codeAny (Mo w) A (.compStart (.ListComp elt [⟨target, iter, ifs, 0⟩] scope pos) 0 (.ref I) acc { cenv with scope := relabel scope env }) (compPost (Mo w) A E (some (assign (.Name y py) env)) Q acc cenv.locals) s₄) E s₃) E ⟨h, g, d, t, os⟩ := by
  refine w_compBlock (RR := fun acc C => compPost (Mo w) A E (some (assign (.Name y py) env)) Q acc C) It hcell hkind R f F hs hn Rm turn fun v C oC mC h t Z' ys nC G l T hR => ?_
  show wpAny _ A (assign (.Name y py) env v) _ _ _
  refine wpAny_assign_Name (n_st G hL hk hx fun h' G' => ?_)
  exact ⟨mC, nC.ns (G'.mus _ (.head _)).1, fun h'' hs' => fin v h'' _ Z' ys (G'.forget hs') l T hR⟩
end
theorem s_asnC {elt target iter : Expr} {ifs : List Expr} {y : Str} {py : Pos} {scope : Scope} {cl : List (Str × Addr)} {pos spos : Pos} {s : Shared} {Q : Flow → Shared → Prop}
    (hsw : swapsWith (.ListComp elt [⟨target, iter, ifs, 0⟩] scope pos) (some (.Name y py)) spos.line env = pure true) (hclos : closureFor scope env = pure cl) (hkind : scope.kind = .function) (hnames : ∀ z ∈ scope.names, z.2 = .local → scope.names.lookup z.1 = some .local)
    (hs : ∀ x, foldedSetIterable iter env x = pure x)
    (q : wpAny (Mo w) A (eval iter env) (fun x s₁ => wpAny (Mo w) A (pyIter x) (fun it s₂ => wpAny (Mo w) A (newList []) (fun acc s₃ =>
      wpAny (Mo w) A (newFunctionEnv scope env.globals cl [] env.qual none .none (some env)) (fun cenv s₄ =>
        codeAny (Mo w) A (.compStart (.ListComp elt [⟨target, iter, ifs, 0⟩] scope pos) 0 it acc { cenv with scope := relabel scope env }) (compPost (Mo w) A E (some (assign (.Name y py) env)) (fun _ s' => Q .next s') acc cenv.locals) s₄) E s₃) E s₂) E s₁) E s) :
    wpAny (Mo w) A (exec (.Assign [.Name y py] (.ListComp elt [⟨target, iter, ifs, 0⟩] scope pos) spos) env) Q E s := by
  rw [exec_Assign_Name_used _ _ _ _ hsw]
  refine wpAny_bind (wpAny_standAt (wpAny_bind ?_))
  show wpAny _ A (do let _ ← comprehension (.ListComp elt [⟨target, iter, ifs, 0⟩] scope pos) scope env _ (newList []) false (eval iter env) (some (assign (.Name y py) env))) _ _ s
  exact wpAny_bind (wpAny_mono (wpAny_comprehension_free (use := some (assign (.Name y py) env)) (Q := fun _ s' => Q .next s') rfl hs hclos hkind hnames q) (fun _ s' hq => wpAny_pure (wpAny_pure hq)) fun _ _ e => e)
theorem s_comp {elt target iter : Expr} {ifs : List Expr} {scope : Scope} {cl : List (Str × Addr)} {pos : Pos} {s : Shared} {Q : Value → Shared → Prop}
    (hclos : closureFor scope env = pure cl) (hkind : scope.kind = .function) (hnames : ∀ z ∈ scope.names, z.2 = .local → scope.names.lookup z.1 = some .local)
    (hs : ∀ x, foldedSetIterable iter env x = pure x)
    (q : wpAny (Mo w) A (eval iter env) (fun x s₁ => wpAny (Mo w) A (pyIter x) (fun it s₂ => wpAny (Mo w) A (newList []) (fun acc s₃ =>
      wpAny (Mo w) A (newFunctionEnv scope env.globals cl [] env.qual none .none (some env)) (fun cenv s₄ =>
        codeAny (Mo w) A (.compStart (.ListComp elt [⟨target, iter, ifs, 0⟩] scope pos) 0 it acc { cenv with scope := relabel scope env }) (compPost (Mo w) A E none Q acc cenv.locals) s₄) E s₃) E s₂) E s₁) E s) :
    wpAny (Mo w) A (eval (.ListComp elt [⟨target, iter, ifs, 0⟩] scope pos) env) Q E s := by
  rw [eval_ListComp]
  exact wpAny_comprehension_free (use := none) rfl hs hclos hkind hnames q
end
end
section
variable {w : World} {A : Around} {mg mb : Str → Option Value} {n₀ : Nat} {B Z₀ Z : Heap} {L : Addr} {m : Str → Option Value} {mu : List (Addr × Obj)} {h h' : Heap} {g : Array GenState} {d : Drawn} {t : Nat} {os : OsState} {E : Value → Shared → Prop} {env : Env}
  {v c : Value} {N a b : Int} {u u' : Tok} {name : Str} {pl : Sem Bool} {pos : Pos}
theorem s_for {s : Shared} {target iter : Expr} {body orelse : List Stmt} {p : Pos} {Q : Flow → Shared → Prop} (hs : ∀ x, foldedSetIterable iter env x = pure x)
    (q : wpAny (Mo w) A (eval iter env) (fun x s₁ => wpAny (Mo w) A (pyIter x) (fun it s₂ => codeAny (Mo w) A (.forLoop target it body orelse env) (fun r s' => match r with | .ok f => Q f s' | .error e => cameBackBy (Mo w) A env E e s') s₂) E s₁) E s) :
    wpAny (Mo w) A (exec (.For target iter body orelse p) env) Q E s := wpAny_For q hs
theorem s_expr {s : Shared} {e : Expr} {p : Pos} {Q : Flow → Shared → Prop} (hi : interactive env = false) (hs : swapsWith e none p.line env = pure false) (q : wpAny (Mo w) A (eval e env) (fun _ => Q .next) E s) : wpAny (Mo w) A (exec (.Expr e p) env) Q E s := wpAny_Expr_any q hi hs
theorem m_dec {f : Addr} {Q : Value × List Value → Shared → Prop} (F : Fx n₀ B Z₀ Z L m mu h) (W : Wd w mg mb Z₀) (D : Dec w Z v N) (hg : plainGet (hdk.heap_1 w.params) 155 name = true)
    (hf : findIn (hdk.heap_1 w.params) (.ref 155) name = some (some (.ref f))) (ht : isFn (hdk.heap_1 w.params) (.ref f) = true) (hl : ∀ a b k1 k2, getL name [⟨PyData.keyHash w.params "top", .str "top" k1, a⟩, ⟨PyData.keyHash w.params "places", .str "places" k2, b⟩] = some none) (q : Q (.ref f, [v]) ⟨h, g, d, t, os⟩) :
    wpAny (Mo w) A (getMethod v name pl) Q E ⟨h, g, d, t, os⟩ := by
  obtain ⟨x, dx, n, tk, pk, k1, k2, rfl, e1, e2⟩ := D
  refine method_fn (s := ⟨h, g, d, t, os⟩) (od := some (dictOf _ n)) (W.K.keeps (stays_trans F.le F.stay)) ⟨F.stay _ _ e1, rfl, rfl, F.stay _ _ e2⟩ (plainGet_of hg).1 (plainGet_of hg).2 hf (beq_iff_eq.mp ht) ?_ q
  show (lookIn name (dictOf _ n)).map _ = _
  rw [lookIn_dict, hl]
  rfl
theorem m_app {D : Addr} {k : Nat} {ys : List Value} {Q : Value × List Value → Shared → Prop} (F : Fx n₀ B Z₀ Z L m ((D, lo k ys) :: mu) h) (q : Q (.builtin "list.append", [.ref D]) ⟨h, g, d, t, os⟩) : wpAny (Mo w) A (getMethod (.ref D) "append" pl) Q E ⟨h, g, d, t, os⟩ :=
  Calls.getMethod_list_append (s := ⟨h, g, d, t, os⟩) (F.mus _ (.head _)).1 rfl rfl q
theorem k_app {D : Addr} {k : Nat} {ys : List Value} {Q : Value → Shared → Prop} (F : Fx n₀ B Z₀ Z L m ((D, lo k ys) :: mu) h) (hz : ys.length ≤ sizeLine) (q : ∀ h' k', Fx n₀ B Z₀ Z L m ((D, lo k' (ys ++ [v])) :: mu) h' → Q .none ⟨h', g, d, t, os⟩) :
    wpAny (Mo w) A (call (.builtin "list.append") [.ref D, v]) Q E ⟨h, g, d, t, os⟩ := by
  refine wpAny_list_append_plain (s := ⟨h, g, d, t, os⟩) (items := ys.toArray) ⟨k, (F.mus _ (.head _)).1⟩ (fun h4 p4 s4 => ?_) (by rw [List.size_toArray]; exact hz)
  obtain ⟨j4, p4⟩ := p4
  rw [show ys.toArray.push v = (ys ++ [v]).toArray by simp] at p4
  exact q h4 j4 (F.upd p4 s4)
/-- a call of an own function with the receiver before the arguments -/
theorem c_meth {f : Value} {first : List Value} {e : Expr} {rest : List Expr} {Q : Value → Shared → Prop} (hk : keepIn (hdk.heap_1 w.params) f = true) (he : starEach (e :: rest) env = (false, eval e env) :: starEach rest env) (hp : (backTo pos (starEach rest env)).any (·.1) = false)
    (q : wpAny (Mo w) A (spliced (backTo pos (starEach (e :: rest) env))) (fun vs s₁ => (hdk.heap_1 w.params).In s₁.heap ∧ wpAny (Mo w) A (call f (first ++ vs)) Q E s₁) E ⟨h, g, d, t, os⟩) (F : Fx n₀ B Z₀ Z L m mu h) (W : Wd w mg mb Z₀) :
    wpAny (Mo w) A (callWith pos f first (backTo pos (starEach (e :: rest) env)) []) Q E ⟨h, g, d, t, os⟩ := callWith_K W.K hk q he hp
theorem c_bi {s : Shared} {id : String} {first : List Value} {e : Expr} {rest : List Expr} {Q : Value → Shared → Prop} (he : starEach (e :: rest) env = (false, eval e env) :: starEach rest env) (hp : (backTo pos (starEach rest env)).any (·.1) = false)
    (q : wpAny (Mo w) A (spliced (backTo pos (starEach (e :: rest) env))) (fun vs s₁ => wpAny (Mo w) A (call (.builtin id) (first ++ vs)) Q E s₁) E s) :
    wpAny (Mo w) A (callWith pos (.builtin id) first (backTo pos (starEach (e :: rest) env)) []) Q E s := by
  rw [he] at q ⊢
  exact Calls.callWith_builtin (by show (false || (backTo pos (starEach rest env)).any (·.1)) = false; rw [hp]; rfl) (Calls.evalArgs_plain q)
theorem c_bi1 {s : Shared} {id : String} {x : Value} {e : Expr} {rest : List Expr} {Q : Value → Shared → Prop} (he : starEach (e :: rest) env = (false, eval e env) :: starEach rest env) (hp : (backTo pos (starEach rest env)).any (·.1) = false)
    (q : wpAny (Mo w) A (spliced (backTo pos (starEach (e :: rest) env))) (fun vs s₁ => wpAny (Mo w) A (call (.builtin id) (x :: vs)) Q E s₁) E s) :
    wpAny (Mo w) A (callWith pos (.builtin id) [x] (backTo pos (starEach (e :: rest) env)) []) Q E s := c_bi he hp q
theorem c_meth1 {f x : Value} {e : Expr} {rest : List Expr} {Q : Value → Shared → Prop} (hk : keepIn (hdk.heap_1 w.params) f = true) (he : starEach (e :: rest) env = (false, eval e env) :: starEach rest env) (hp : (backTo pos (starEach rest env)).any (·.1) = false)
    (q : wpAny (Mo w) A (spliced (backTo pos (starEach (e :: rest) env))) (fun vs s₁ => (hdk.heap_1 w.params).In s₁.heap ∧ wpAny (Mo w) A (call f (x :: vs)) Q E s₁) E ⟨h, g, d, t, os⟩) (F : Fx n₀ B Z₀ Z L m mu h) (W : Wd w mg mb Z₀) :
    wpAny (Mo w) A (callWith pos f [x] (backTo pos (starEach (e :: rest) env)) []) Q E ⟨h, g, d, t, os⟩ := callWith_K W.K hk q he hp
theorem c_none {f : Value} {first : List Value} {Q : Value → Shared → Prop} (hk : keepIn (hdk.heap_1 w.params) f = true) (F : Fx n₀ B Z₀ Z L m mu h) (W : Wd w mg mb Z₀) (q : wpAny (Mo w) A (call f (first ++ [])) Q E ⟨h, g, d, t, os⟩) :
    wpAny (Mo w) A (callWith pos f first (backTo pos (starEach [] env)) []) Q E ⟨h, g, d, t, os⟩ := callWith_K0 (s := ⟨h, g, d, t, os⟩) (W.K.keeps (stays_trans F.le F.stay)) hk q
theorem c_typ {s : Shared} {T : String} {e : Expr} {rest : List Expr} {Q : Value → Shared → Prop} (he : starEach (e :: rest) env = (false, eval e env) :: starEach rest env) (hp : (backTo pos (starEach rest env)).any (·.1) = false)
    (q : wpAny (Mo w) A (spliced (backTo pos (starEach (e :: rest) env))) (fun vs s₁ => wpAny (Mo w) A (call (.type T) vs) Q E s₁) E s) :
    wpAny (Mo w) A (callWith pos (.type T) [] (backTo pos (starEach (e :: rest) env)) []) Q E s := PyProof.Rows.callWith_type1 q he hp
theorem Rng.up {Z Z' : Heap} {a b c : Int} (x : Rng Z v a b c) (k : Z.StaysIn Z') : Rng Z' v a b c := by
  obtain ⟨r, t, u, y, e, i⟩ := x
  exact ⟨r, t, u, y, e, k _ _ i⟩
theorem rng1 {Q : Value → Shared → Prop} (F : Fx n₀ B Z₀ Z L m mu h) (q : ∀ r h' t' Z', Fx n₀ B Z₀ Z' L m mu h' → Z.StaysIn Z' → Rng Z' r 0 a 1 → Q r ⟨h', g, d, t', os⟩) : wpAny (Mo w) A (call (.type "range") [.int a u]) Q E ⟨h, g, d, t, os⟩ := by
  obtain ⟨Z', F', l, e⟩ := F.alloc { cls := .type "range", data := .fields #[.int 0 t, .int a u, .int 1 (t + 1)] } rfl
  exact call_range_1 (s := ⟨h, g, d, t, os⟩) (q _ _ _ Z' F' l ⟨_, _, _, _, rfl, e⟩)
theorem rng3 {Q : Value → Shared → Prop} {t1 t2 t3 : Tok} (hc : c = .int (-1) t3) (F : Fx n₀ B Z₀ Z L m mu h) (q : ∀ r h' t' Z', Fx n₀ B Z₀ Z' L m mu h' → Z.StaysIn Z' → Rng Z' r a b (-1) → Q r ⟨h', g, d, t', os⟩) : wpAny (Mo w) A (call (.type "range") [.int a t1, .int b t2, c]) Q E ⟨h, g, d, t, os⟩ := by
  subst hc
  obtain ⟨Z', F', l, e⟩ := F.alloc { cls := .type "range", data := .fields #[.int a t1, .int b t2, .int (-1) t3] } rfl
  exact call_range_3 (s := ⟨h, g, d, t, os⟩) (by decide) (q _ _ _ Z' F' l ⟨_, _, _, _, rfl, e⟩) (Or.inl (PyProof.noPylong_small (by decide)))
theorem it_rng1 {Q : Value → Shared → Prop} (hA : A.handled = none) (F : Fx n₀ B Z₀ Z L m mu h) (T : Rng Z v 0 N 1) (h0 : 0 ≤ N) (h1 : N < 2 ^ 62)
    (q : ∀ I h' nu St, (∀ tgt, Itr w A Z I N.toNat (fun _ i v => ∃ u, v = .int i u) tgt St) → St 0 nu → Fx n₀ B Z₀ Z L m (mu ++ nu) h' → Q (.ref I) ⟨h', g, d, t, os⟩) : wpAny (Mo w) A (pyIter v) Q E ⟨h, g, d, t, os⟩ := by
  refine it_range (k := N.toNat) hA F T (small_one (by first | decide | omega) (by first | decide | omega) (by first | decide | omega) h1) (by rw [rangeSize_one]; split <;> omega) fun I h' nu St X S F' => q I h' nu St (fun tgt => ?_) S F'
  have := X tgt
  simpa using this
theorem si_nat {k : Int} {n : Nat} (h0 : 0 ≤ k) (h1 : k.toNat < n) : seqIndex? k n = some k.toNat := by
  unfold seqIndex?
  rw [if_neg (Int.not_lt.mpr h0)]
  simp only
  rw [if_pos (by simp; omega)]
theorem i_tk {value slice : Expr} {o : Value} {vs : List Value} {k : Int} {u : Tok} {Q : Value → Shared → Prop} (F : Fx n₀ B Z₀ Z L m mu h) (T : Tup Z o vs) (h0 : 0 ≤ k) (hhi : k < 2 ^ 63) (hx : vs[k.toNat]? = some v)
    (hs : ∀ o, subscripted slice false o (.int k u) = operate [o, .int k u] (getItem o (.int k u))) (q : Q v ⟨h, g, d, t, os⟩) : wpAny (Mo w) A (subscriptTail value slice o (.int k u)) Q E ⟨h, g, d, t, os⟩ :=
  i_tup F T (by first | decide | omega) hhi (si_nat h0 (by have := List.getElem?_eq_some_iff.mp hx; exact this.1)) hx hs q
theorem tup_mu {D : Addr} {k : Nat} {ys : List Value} {Q : Value → Shared → Prop} (F : Fx n₀ B Z₀ Z L m ((D, lo k ys) :: mu) h) (hz : ys.length ≤ sizeLine) (q : ∀ r h' Z', Fx n₀ B Z₀ Z' L m ((D, lo k ys) :: mu) h' → Z.StaysIn Z' → Tup Z' r ys → Q r ⟨h', g, d, t, os⟩) :
    wpAny (Mo w) A (call (.type "tuple") [.ref D]) Q E ⟨h, g, d, t, os⟩ := tup_of F ⟨_, (F.mus _ (.head _)).1, rfl, _, rfl⟩ hz q
/-- a list literal that may turn -/
theorem l_nil {Q : Value → Shared → Prop} (F : Fx n₀ B Z₀ Z L m mu h) (q : ∀ a h', Fx n₀ B Z₀ Z L m ((a, lo 0 []) :: mu) h' → n₀ ≤ a → Q (.ref a) ⟨h', g, d, t, os⟩) : wpAny (Mo w) A (newList []) Q E ⟨h, g, d, t, os⟩ := k_lst F (Nat.le_of_ble_eq_true rfl) q
end
local macro_rules | `(tactic| tb_rel) => `(tactic| first
  | ((with_reducible show wpAny _ _ (eval _ _) _ _ _); first
    | ((with_reducible refine' s_comp ?z2 ?z3 ?z4 ?z5 ?_); (case z2 => exact rfl); (case z3 => exact rfl); (case z4 => decide); (case z5 => exact fun _ => rfl)))
  | ((with_reducible show wpAny _ _ (exec _ _) _ _ _); first
    | ((with_reducible refine' s_asnC ?z1 ?z2 ?z3 ?z4 ?z5 ?_); (case z1 => exact rfl); (case z2 => exact rfl); (case z3 => exact rfl); (case z4 => decide); (case z5 => exact fun _ => rfl))
    | ((with_reducible refine' s_for ?z1 ?_); case z1 => exact fun _ => rfl)
    | ((with_reducible refine' s_expr ?z1 ?z2 ?_); (case z1 => exact rfl); (case z2 => exact rfl)))
  | ((with_reducible show wpAny _ _ (callWith _ _ _ _ _) _ _ _); first
    | ((with_reducible refine' c_meth1 ?z1 ?z2 ?z3 ?_ (by assumption) (by assumption)); (case z1 => k_is); (case z2 => exact rfl); (case z3 => exact rfl))
    | ((with_reducible refine' c_bi1 ?z2 ?z3 ?_); (case z2 => exact rfl); (case z3 => exact rfl))
    | ((with_reducible refine' c_typ ?z2 ?z3 ?_); (case z2 => exact rfl); (case z3 => exact rfl))
    | ((with_reducible refine' c_none ?z1 (by assumption) (by assumption) ?_); (case z1 => k_is)))
  | ((with_reducible show wpAny _ _ (call _ _) _ _ _); first
    | ((with_reducible refine' tup_mu (by assumption) ?z1 ?_); (case z1 => tb_start); intro _ _ _ _ _ _)
    | ((with_reducible refine' k_app (by assumption) ?z1 ?_); (case z1 => tb_start); intro _ _ _)
    | ((with_reducible refine rng1 (by assumption) ?_); intro _ _ _ _ _ _ _)
    | ((with_reducible refine' rng3 ?z1 (by assumption) ?_); (case z1 => exact rfl); intro _ _ _ _ _ _ _))
  | ((with_reducible show wpAny _ _ (getMethod _ _ _) _ _ _); first
    | ((with_reducible refine' m_app (by assumption) ?_))
    | ((with_reducible refine' m_dec (by assumption) (by assumption) (by ktr_rel) ?z1 ?z2 ?z3 ?z4 ?_); (case z1 => k_is); (case z2 => k_is); (case z3 => k_is); (case z4 => exact fun _ _ _ _ => rfl)))
  | ((with_reducible refine' l_nil (by assumption) ?_); intro _ _ _ _)
  | fail "none")
local macro_rules | `(tactic| ktr_rel) => `(tactic| first | assumption | exact Rng.up (by assumption) (by kts_caught) | fail "none")
section
variable {w : World} {A : Around} {mg mb : Str → Option Value} {Z h : Heap} {g : Array GenState} {d : Drawn} {t : Nat} {os : OsState} {v p : Value} {X Y : Int}
theorem flat_part {ss : Part} {u : Tok} (hA : Ok A 20) (W : Wd w mg mb Z) (hZ : Z.StaysIn h) (P : PartAt w Z v ss) :
    Cal w A ⟨h, g, d, t, os⟩ (call (.ref 321) [v, .int 3 u]) Z (fun Z' r => PartAt w Z' r ss) := by
  obtain ⟨vs, T, a, l⟩ := P
  refine enter (args := ⟨[v, .int 3 u], []⟩) (binds := [("part", v), ("depth", .int 3 u)]) hA.room W hZ (by k_is) (by k_is) (BindsTo.of_eq rfl) (locs rfl) rfl rfl rfl (by decide) fun L h₁ t₁ F => ?_
  refine wp_gen fun Qe hQe => ?_
  (repeat' tb_rel)
  rename_i D _ _ hD _ F1
  refine it_tup hA.hd F1 T fun I h2 nu St It hs F2 => ?_
  refine w_for (It _) (fun i Z' m mu => ∃ k ys, mu = [(D, lo k ys)] ∧ ys = vs.take i ∧ m "found" = some (.ref D)) F2 stays_refl hs ⟨_, _, rfl, by simp, rfl⟩ ?_ ?_
  · rintro i v Z' m mu nu h t hi hz F3 hP ⟨k, ys, rfl, rfl, hm⟩
    refine wp_gen2 fun Qf hQf => ?_
    obtain ⟨s, hs, S⟩ := a.get hP
    have S0 : ∃ tag tk ws, Tup Z v (.str tag tk :: ws) ∧ tag ≠ "curve" := by
      cases s with
      | some q => obtain ⟨tag, tk, p, n1, n2, T, _⟩ := S; exact ⟨tag, tk, _, T, n1⟩
      | none => obtain ⟨tk, T⟩ := S; exact ⟨_, tk, _, T, by decide⟩
    obtain ⟨tag, tk, ws, T0, n0⟩ := S0
    simp only [List.cons_append, List.nil_append] at F3
    have hlt : (vs.take i).length ≤ 1000 := by simp; omega
    (repeat' tb_rel)
    refine i_tk (by assumption) (T0.up hz) (by decide) (by decide) rfl (fun _ => by with_unfolding_all rfl) ?_
    (repeat' tb_rel)
    rename Fx _ _ _ _ _ _ _ _ => Fe
    exact hQf _ _ ⟨rfl, _, _, _, _, [(D, lo _ (vs.take i ++ [v]))], rfl, Fe, stays_refl, _, _, rfl, by simp [List.take_succ, hP], hm⟩
  · rintro Z' m mu h t F3 ⟨k, ys, rfl, rfl, hm⟩
    rw [List.take_length] at F3
    (repeat' tb_rel)
    rename Tup _ _ _ => Te
    rename Fx _ _ _ _ _ _ _ _ => Fe
    exact hQe _ _ ⟨_, _, _, _, _, rfl, Fe, _, Te, (a.mono fun _ _ y => y.up Fe.le), l⟩
end
section
variable {w : World} {A : Around} {mg mb : Str → Option Value} {n₀ : Nat} {B Z₀ Z : Heap} {L : Addr} {m : Str → Option Value} {mu : List (Addr × Obj)} {h h' : Heap} {g : Array GenState} {d : Drawn} {t : Nat} {os : OsState} {E : Value → Shared → Prop} {env : Env}
  {v : Value} {x : Str} {pos : Pos}
theorem Fx.adds {h' : Heap} (F : Fx n₀ B Z₀ Z L m mu h) (k : h.StaysIn h') : ∀ (ps : List (Addr × Obj)), (∀ p ∈ ps, h.get? p.1 = none ∧ h'.get? p.1 = some p.2) → (ps.map (·.1)).Nodup → Fx n₀ B Z₀ Z L m (ps ++ mu) h' := by
  intro ps hp nd
  have G := F.keep k
  have nl : ∀ p ∈ ps, p.1 ≠ L := fun p hm q => by
    obtain ⟨oL, eL, _⟩ := PyProof.Rows.LCg.ns_obj F.ns
    rw [← q, (hp p hm).1] at eL; cases eL
  refine ⟨G.ns, G.base, G.le, G.stay, G.L0, G.new, G.LB, G.LZ, fun p hm => ?_, ?_⟩
  · rcases List.mem_append.mp hm with hm | hm
    · exact ⟨(hp p hm).2, none_of_stays F.base (hp p hm).1, nl p hm, none_of_stays F.stay (hp p hm).1⟩
    · exact G.mus p hm
  · rw [List.map_append]
    refine List.nodup_append.mpr ⟨nd, F.nd, fun a ha b hb q => ?_⟩
    obtain ⟨p, hm, rfl⟩ := List.mem_map.mp ha
    obtain ⟨p', hm', rfl⟩ := List.mem_map.mp hb
    have := (F.mus p' hm').1
    rw [← q, (hp p hm).1] at this; cases this
theorem mem_lookup_nodup {α : Type} : ∀ {l : List (Str × α)} {n : Str} {c : α}, (l.map (·.1)).Nodup → (n, c) ∈ l → l.lookup n = some c
  | (k, v) :: r, n, c, nd, hm => by
    rw [List.map_cons] at nd
    obtain ⟨h1, h2⟩ := List.nodup_cons.mp nd
    rw [List.lookup_cons]
    rcases List.mem_cons.mp hm with e | hm
    · cases e; simp
    · have : n ≠ k := fun q => h1 (q ▸ List.mem_map.mpr ⟨(n, c), hm, rfl⟩)
      rw [beq_eq_false_iff_ne.mpr this]
      exact mem_lookup_nodup h2 hm
theorem enterCells {Post : Heap → Value → Prop} {name qual : Str} {params : Arguments} {body : List Stmt} {scope : Scope} {dV kV doc pm cdv ct oc : Value} {an od : Option Addr} {osl : Array (Option Value)} {f : Addr} {args : Args} {binds : List (Str × Value)} (cs : Addr → List (Str × Addr))
    (hA : A.depth < recursionLimit) (W : Wd w mg mb Z) (hZ : Z.StaysIn h)
    (ho : (hdk.heap_1 w.params).lookup f = some ⟨oc, od, .func (fnOf name qual params body scope dV kV doc pm an cdv ct), osl⟩) (hcd : codeIn (hdk.heap_1 w.params) cdv qual = true)
    (hbind : BindsTo ⟨h, g, d, t, os⟩ (fnOf name qual params body scope dV kV doc pm an cdv ct) args binds) (hcs : ∀ L, cellsFrom (L + 1) scope.names [] = cs L)
    (hloc : ∀ L, ∀ y ∈ binds, scope.names.lookup y.1 = some .local ∨ (scope.names.lookup y.1 = some .cell ∧ ((cs L).lookup y.1).isSome = true)) (hnd : ∀ L, ((cs L).map (·.1)).Nodup)
    (hco : scope.isCoroutine = false) (hgen : scope.isGenerator = false) (hk : scope.kind = .function)
    (k : ∀ L h₁ t₁ (obs : Str → Obj), (∀ p ∈ cs L, (obs p.1).data = .cell (bindC (envX qual scope L f cdv (cs L)).kindOf binds (fun _ => none) p.1)) → (∀ p ∈ cs L, h.objs.size ≤ p.2) →
      Fx h.objs.size h Z Z L (bindL (envX qual scope L f cdv (cs L)).kindOf binds fun _ => none) ((cs L).map fun p => (p.2, obs p.1)) h₁ →
      wpAny (Mo w) (A.deeper (envX qual scope L f cdv (cs L))) (execs body (envX qual scope L f cdv (cs L))) (Ends h.objs.size h Z L g d os Post) (fun _ _ => False) ⟨h₁, g, d, t₁, os⟩) :
    Cal w A ⟨h, g, d, t, os⟩ (call (.ref f) args.pos args.kw) Z Post := by
  intro Q E q
  refine wpAny_call ?_
  have X := W.K.keeps hZ
  refine codeAny_call_function (fd := fnOf name qual params body scope dV kV doc pm an cdv ct) (body := body) hA (X _ _ ho) rfl hco hgen rfl (codeRec_of X hcd) (hbind _ _ _ _ ?_)
  refine wpAny_newFunctionEnv_cells hk (fun x hx => by rw [hcs]; exact hloc _ x hx) fun env' he s' x => ?_
  subst he
  refine ⟨(W.nl.keeps hZ).keeps x.toInCall.keep, codeAny_func ?_⟩
  obtain ⟨h₁, tk, rfl, hk₁⟩ := x.done
  have nL : h.get? h.objs.size = none := Heap.get?_none_of_le (Nat.le_refl _)
  have xa := x.above
  have xc := x.cell
  have xp := x.apart
  have xn := x.toInCall.ns
  change ∀ n c, (n, c) ∈ cellsFrom (h.objs.size + 1) scope.names [] → h.objs.size < c at xa
  change ∀ n c, (cellsFrom (h.objs.size + 1) scope.names []).lookup n = some c → h₁.IsCell c (bindC (envX qual scope h.objs.size f cdv (cellsFrom (h.objs.size + 1) scope.names [])).kindOf binds (fun _ => none) n) at xc
  change (cellsFrom (h.objs.size + 1) scope.names []).Pairwise fun x y => x.2 ≠ y.2 at xp
  change h₁.Ns h.objs.size (bindL (envX qual scope h.objs.size f cdv (cellsFrom (h.objs.size + 1) scope.names [])).kindOf binds fun _ => none) at xn
  show wpAny (Mo w) (A.deeper (envX qual scope h.objs.size f cdv (cellsFrom (h.objs.size + 1) scope.names []))) (execs body (envX qual scope h.objs.size f cdv (cellsFrom (h.objs.size + 1) scope.names []))) _ _ _
  rw [hcs] at xa xc xp xn ⊢
  have F₀ : Fx h.objs.size h Z Z h.objs.size (bindL (envX qual scope h.objs.size f cdv (cs h.objs.size)).kindOf binds fun _ => none) [] h₁ := ⟨xn, hk₁, stays_refl, stays_trans hZ hk₁, Nat.le_refl _, fun _ _ e => e, nL, none_of_stays hZ nL, fun _ hp => (nomatch hp), List.nodup_nil⟩
  have hob : ∀ n, ∃ o : Obj, ∀ c, (n, c) ∈ cs h.objs.size → h₁.get? c = some o ∧ o.data = .cell (bindC (envX qual scope h.objs.size f cdv (cs h.objs.size)).kindOf binds (fun _ => none) n) := fun n => by
    cases e : (cs h.objs.size).lookup n with
    | none => exact ⟨emptyDict, fun c hm => by rw [mem_lookup_nodup (hnd _) hm] at e; cases e⟩
    | some c =>
      obtain ⟨o, ho, hd⟩ := xc n c e
      exact ⟨o, fun c' hm => by rw [mem_lookup_nodup (hnd _) hm] at e; cases e; exact ⟨ho, hd⟩⟩
  have sizeN : ∀ c, h.objs.size < c → h.get? c = none := fun c hc => Heap.get?_none_of_le (Nat.le_of_lt hc)
  refine wpAny_mono (k h.objs.size h₁ _ (fun n => (hob n).choose) (fun p hp => ((hob p.1).choose_spec p.2 hp).2) (fun p hp => Nat.le_of_lt (xa p.1 p.2 hp)) ?_) (fun fl s' z => ?_) (fun _ _ z => z.elim)
  · refine ⟨xn, hk₁, stays_refl, stays_trans hZ hk₁, Nat.le_refl _, fun _ _ e => e, nL, none_of_stays hZ nL, fun p hp => ?_, ?_⟩
    · obtain ⟨q', hq, rfl⟩ := List.mem_map.mp hp
      have a := xa q'.1 q'.2 hq
      exact ⟨((hob q'.1).choose_spec q'.2 hq).1, sizeN _ a, Nat.ne_of_gt a, none_of_stays hZ (sizeN _ a)⟩
    · rw [List.map_map]
      exact List.pairwise_map.mpr xp
  · obtain ⟨h', t', Z', m', mu', rfl, F', p⟩ := z
    exact q _ h' t' Z' F'.base F'.le F'.stay F'.new p
/-- a cell that holds v, in a frozen part -/
def CellZ (Z : Heap) (c : Addr) (v : Value) : Prop := Z.IsCell c (some v)
theorem CellZ.up {Z Z' : Heap} {c : Addr} (x : CellZ Z c v) (k : Z.StaysIn Z') : CellZ Z' c v := Heap.IsCell.keeps x k
theorem n_C {c : Addr} {Q : Value → Shared → Prop} (F : Fx n₀ B Z₀ Z L m mu h) (hk : env.scope.kind = .function) (hx : env.kindOf x = some .cell) (hdb : (x == ("__debug__" : Str)) = false) (hc : env.cells.lookup x = some c) (T : CellZ Z c v) (q : Q v ⟨h, g, d, t, os⟩) :
    wpAny (Mo w) A (eval (.Name x pos) env) Q E ⟨h, g, d, t, os⟩ := wpAny_Name (wpAny_loadName_cell hk hx hc (T.up F.stay) q) hdb
theorem n_F {c : Addr} {Q : Value → Shared → Prop} (F : Fx n₀ B Z₀ Z L m mu h) (hk : env.scope.kind = .function) (hx : env.kindOf x = some .free) (hdb : (x == ("__debug__" : Str)) = false) (hcd : (x == ("__classdict__" : Str)) = false) (hc : env.cells.lookup x = some c) (T : CellZ Z c v) (q : Q v ⟨h, g, d, t, os⟩) :
    wpAny (Mo w) A (eval (.Name x pos) env) Q E ⟨h, g, d, t, os⟩ := wpAny_Name (wpAny_loadName_free hk hx hc (T.up F.stay) q hcd) hdb
theorem st_C {c : Addr} {o : Obj} {v₀ : Option Value} {Q : Unit → Shared → Prop} (F : Fx n₀ B Z₀ Z L m ((c, o) :: mu) h) (ho : o.data = .cell v₀) (hk : env.scope.kind = .function) (hx : env.kindOf x = some .cell) (hc : env.cells.lookup x = some c)
    (q : ∀ h' o', Fx n₀ B Z₀ Z L m ((c, o') :: mu) h' → o'.data = .cell (some v) → Q () ⟨h', g, d, t, os⟩) : wpAny (Mo w) A (storeName env x v) Q E ⟨h, g, d, t, os⟩ := by
  refine wpAny_storeName_cell (s := ⟨h, g, d, t, os⟩) hk hx hc ⟨o, (F.mus _ (.head _)).1, ho⟩ fun h' hc' hs' => ?_
  obtain ⟨o', e', d'⟩ := hc'
  exact q h' o' (F.upd e' hs') d'
end
def MatV (w : World) (Z : Heap) (v va vb vc vd ve vf : Value) : Prop := ∃ x dx n k1 k2 k3 k4 k5 k6, v = .ref x ∧ Z.get? x = some (instObj 447 dx) ∧
  Z.get? dx = some (dictOf [⟨PyData.keyHash w.params "a", .str "a" k1, va⟩, ⟨PyData.keyHash w.params "b", .str "b" k2, vb⟩, ⟨PyData.keyHash w.params "c", .str "c" k3, vc⟩, ⟨PyData.keyHash w.params "d", .str "d" k4, vd⟩, ⟨PyData.keyHash w.params "e", .str "e" k5, ve⟩, ⟨PyData.keyHash w.params "f", .str "f" k6, vf⟩] n)
theorem MatV.up {w : World} {Z Z' : Heap} {v va vb vc vd ve vf : Value} (x : MatV w Z v va vb vc vd ve vf) (k : Z.StaysIn Z') : MatV w Z' v va vb vc vd ve vf := by
  obtain ⟨x, dx, n, k1, k2, k3, k4, k5, k6, e, a, b⟩ := x
  exact ⟨x, dx, n, k1, k2, k3, k4, k5, k6, e, k _ _ a, k _ _ b⟩
/-- a Matrix that moves by (X, Y) tenths -/
def Mat (w : World) (Z : Heap) (v : Value) (X Y : Int) : Prop := ∃ va vb vc vd ve vf, MatV w Z v va vb vc vd ve vf ∧ Dec w Z va (10 * 1) ∧ Dec w Z vb (10 * 0) ∧ Dec w Z vc (10 * 0) ∧ Dec w Z vd (10 * 1) ∧ Dec w Z ve X ∧ Dec w Z vf Y
theorem Mat.up {w : World} {Z Z' : Heap} {v : Value} {X Y : Int} (x : Mat w Z v X Y) (k : Z.StaysIn Z') : Mat w Z' v X Y := by
  obtain ⟨va, vb, vc, vd, ve, vf, M, a, b, c, d, e, f⟩ := x
  exact ⟨va, vb, vc, vd, ve, vf, M.up k, a.up k, b.up k, c.up k, d.up k, e.up k, f.up k⟩
theorem Dec.handed {w : World} {Z : Heap} {v : Value} {N : Int} (x : Dec w Z v N) : handedIn v = true := by obtain ⟨_, _, _, _, _, _, _, rfl, _⟩ := x; rfl
section
variable {w : World} {A : Around} {mg mb : Str → Option Value} {n₀ : Nat} {B Z₀ Z : Heap} {L : Addr} {m : Str → Option Value} {mu : List (Addr × Obj)} {h h' : Heap} {g : Array GenState} {d : Drawn} {t : Nat} {os : OsState} {E : Value → Shared → Prop} {env : Env}
  {v p va vb vc vd ve vf : Value} {name : Str}
theorem at_mat {expr : Bool} {val : Value} {Q : Value → Shared → Prop} (F : Fx n₀ B Z₀ Z L m mu h) (W : Wd w mg mb Z₀) (M : MatV w Z v va vb vc vd ve vf) (hg : plainGet (hdk.heap_1 w.params) 447 name = true) (ha : findIn (hdk.heap_1 w.params) (.ref 447) name = some none)
    (hh : hasDictIn (hdk.heap_1 w.params) 447 = true)
    (hl : ∀ k1 k2 k3 k4 k5 k6, getL name [⟨PyData.keyHash w.params "a", .str "a" k1, va⟩, ⟨PyData.keyHash w.params "b", .str "b" k2, vb⟩, ⟨PyData.keyHash w.params "c", .str "c" k3, vc⟩, ⟨PyData.keyHash w.params "d", .str "d" k4, vd⟩, ⟨PyData.keyHash w.params "e", .str "e" k5, ve⟩, ⟨PyData.keyHash w.params "f", .str "f" k6, vf⟩] = some (some val))
    (hv : handedIn val = true) (q : Q val ⟨h, g, d, t + 1, os⟩) : wpAny (Mo w) A (getAttr v name expr) Q E ⟨h, g, d, t, os⟩ := by
  obtain ⟨x, dx, n, k1, k2, k3, k4, k5, k6, rfl, e1, e2⟩ := M
  exact ga_own F W (F.stay _ _ e1) (F.stay _ _ e2) hg hh ha (hl _ _ _ _ _ _) hv q
theorem m_mat {f : Addr} {Q : Value × List Value → Shared → Prop} {pl : Sem Bool} (F : Fx n₀ B Z₀ Z L m mu h) (W : Wd w mg mb Z₀) (M : MatV w Z v va vb vc vd ve vf) (hg : plainGet (hdk.heap_1 w.params) 447 name = true)
    (hf : findIn (hdk.heap_1 w.params) (.ref 447) name = some (some (.ref f))) (ht : isFn (hdk.heap_1 w.params) (.ref f) = true) (hl : ∀ k1 k2 k3 k4 k5 k6, getL name [⟨PyData.keyHash w.params "a", .str "a" k1, va⟩, ⟨PyData.keyHash w.params "b", .str "b" k2, vb⟩, ⟨PyData.keyHash w.params "c", .str "c" k3, vc⟩, ⟨PyData.keyHash w.params "d", .str "d" k4, vd⟩, ⟨PyData.keyHash w.params "e", .str "e" k5, ve⟩, ⟨PyData.keyHash w.params "f", .str "f" k6, vf⟩] = some none) (q : Q (.ref f, [v]) ⟨h, g, d, t, os⟩) :
    wpAny (Mo w) A (getMethod v name pl) Q E ⟨h, g, d, t, os⟩ := by
  obtain ⟨x, dx, n, k1, k2, k3, k4, k5, k6, rfl, e1, e2⟩ := M
  refine method_fn (s := ⟨h, g, d, t, os⟩) (od := some (dictOf _ n)) (W.K.keeps (stays_trans F.le F.stay)) ⟨F.stay _ _ e1, rfl, rfl, F.stay _ _ e2⟩ (plainGet_of hg).1 (plainGet_of hg).2 hf (beq_iff_eq.mp ht) ?_ q
  show (lookIn name (dictOf _ n)).map _ = _
  rw [lookIn_dict, hl]
  rfl
end
local macro_rules | `(tactic| tb_rel) => `(tactic| first
  | ((with_reducible show wpAny _ _ (eval _ _) _ _ _); first
    | ((with_reducible refine' n_C (by assumption) ?z1 ?z2 ?z3 ?z4 ?z6 ?_); (case z1 => exact rfl); (case z2 => exact rfl); (case z3 => decide); (case z4 => exact rfl); (case z6 => exact CellZ.up (by assumption) (by kts_caught)))
    | ((with_reducible refine' n_F (by assumption) ?z1 ?z2 ?z3 ?z4 ?z5 ?z6 ?_); (case z1 => exact rfl); (case z2 => exact rfl); (case z3 => decide); (case z4 => decide); (case z5 => exact rfl); (case z6 => exact CellZ.up (by assumption) (by kts_caught))))
  | fail "none")
local macro_rules | `(tactic| tb_rel) => `(tactic| first | ((with_reducible refine' at_mat (by assumption) (by assumption) (MatV.up (by assumption) (by kts_caught)) ?z1 ?z2 ?z3 ?z4 ?z5 ?_); (case z1 => k_is); (case z2 => k_is); (case z3 => k_is); (case z4 => exact fun _ _ _ _ _ _ => rfl); (case z5 => exact Dec.handed (by assumption))) | fail "none")
section
variable {w : World} {A : Around} {mg mb : Str → Option Value} {Z h : Heap} {g : Array GenState} {d : Drawn} {t : Nat} {os : OsState} {v p : Value} {X Y : Int}
theorem mat_new {v1 v2 v3 v4 v5 v6 : Value} (hA : Ok A 12) (W : Wd w mg mb Z) (hZ : Z.StaysIn h) (D1 : Num w Z v1 (10 * 1)) (D2 : Num w Z v2 (10 * 0)) (D3 : Num w Z v3 (10 * 0)) (D4 : Num w Z v4 (10 * 1)) (D5 : Num w Z v5 X) (D6 : Num w Z v6 Y) :
    Cal w A ⟨h, g, d, t, os⟩ (call (.ref 447) [v1, v2, v3, v4, v5, v6]) Z (fun Z' r => Mat w Z' r X Y) := by
  refine enterC (k₀ := 11) (hA.less (by first | decide | omega)) W hZ (by k_is) (by k_is) (by k_is) (by k_is) (by k_is) (fun x => [("self", .ref x), ("a", v1), ("b", v2), ("c", v3), ("d", v4), ("e", v5), ("f", v6)]) (fun _ _ _ => BindsTo.of_eq rfl) (fun _ => locs rfl) rfl rfl rfl (by decide) fun x dx L h₁ t₁ A' hA' hx hdx F => ?_
  (repeat' tb_rel)
  refine Cal.use (decimal_of (hA'.deeper.less (by first | decide | omega)) (W.up F.le) F.stay D1) F fun r1 h1 t1 Z1 F1 le1 E1 => ?_
  (repeat' tb_rel)
  rename Fx _ _ _ _ _ _ _ _ => G1
  refine Cal.use (decimal_of (hA'.deeper.less (by first | decide | omega)) (W.up G1.le) G1.stay (D2.up G1.le)) G1 fun r2 h2 t2 Z2 F2 le2 E2 => ?_
  (repeat' tb_rel)
  rename Fx _ _ _ _ _ _ _ _ => G2
  refine Cal.use (decimal_of (hA'.deeper.less (by first | decide | omega)) (W.up G2.le) G2.stay (D3.up G2.le)) G2 fun r3 h3 t3 Z3 F3 le3 E3 => ?_
  (repeat' tb_rel)
  rename Fx _ _ _ _ _ _ _ _ => G3
  refine Cal.use (decimal_of (hA'.deeper.less (by first | decide | omega)) (W.up G3.le) G3.stay (D4.up G3.le)) G3 fun r4 h4 t4 Z4 F4 le4 E4 => ?_
  (repeat' tb_rel)
  rename Fx _ _ _ _ _ _ _ _ => G4
  refine Cal.use (decimal_of (hA'.deeper.less (by first | decide | omega)) (W.up G4.le) G4.stay (D5.up G4.le)) G4 fun r5 h5 t5 Z5 F5 le5 E5 => ?_
  (repeat' tb_rel)
  rename Fx _ _ _ _ _ _ _ _ => G5
  refine Cal.use (decimal_of (hA'.deeper.less (by first | decide | omega)) (W.up G5.le) G5.stay (D6.up G5.le)) G5 fun r6 h6 t6 Z6 F6 le6 E6 => ?_
  (repeat' tb_rel)
  rename Fx _ _ _ _ _ _ _ _ => G6
  obtain ⟨Z7, F7, l7, e7⟩ := G6.freeze hdx
  obtain ⟨Z8, F8, l8, e8⟩ := F7.freeze hx
  exact ⟨trivial, _, _, _, _, _, rfl, F8, _, _, _, _, _, _, ⟨x, dx, _, _, _, _, _, _, _, rfl, e8, l8 _ _ e7⟩, E1.up (by kts_caught), E2.up (by kts_caught), E3.up (by kts_caught), E4.up (by kts_caught), E5.up (by kts_caught), E6.up (by kts_caught)⟩
theorem translation {a b : Int} {u1 u2 : Tok} (hA : Ok A 14) (W : Wd w mg mb Z) (hZ : Z.StaysIn h) : Cal w A ⟨h, g, d, t, os⟩ (call (.ref 458) [.int a u1, .int b u2]) Z (fun Z' r => Mat w Z' r (10 * a) (10 * b)) := by
  refine enter (args := ⟨[.int a u1, .int b u2], []⟩) (binds := [("x", .int a u1), ("y", .int b u2)]) hA.room W hZ (by k_is) (by k_is) (BindsTo.of_eq rfl) (locs rfl) rfl rfl rfl (by decide) fun L h₁ t₁ F => ?_
  refine wp_gen fun Qe hQe => ?_
  (repeat' tb_rel)
  exact Cal.use (mat_new (hA.deeper.less (by first | decide | omega)) (W.up F.le) F.stay (Or.inr ⟨1, _, rfl, rfl⟩) (Or.inr ⟨0, _, rfl, rfl⟩) (Or.inr ⟨0, _, rfl, rfl⟩) (Or.inr ⟨1, _, rfl, rfl⟩) (Or.inr ⟨a, _, rfl, rfl⟩) (Or.inr ⟨b, _, rfl, rfl⟩)) F fun r h' t' Z' F' le D => hQe _ _ ⟨_, _, _, _, _, rfl, F', D⟩
theorem applied {v1 v2 : Value} {P Q : Int} (hA : Ok A 20) (W : Wd w mg mb Z) (hZ : Z.StaysIn h) (M : Mat w Z v X Y) (D1 : Dec w Z v1 P) (D2 : Dec w Z v2 Q) (hP : P.natAbs ≤ 10000) (hQ : Q.natAbs ≤ 10000) (hX : X.natAbs ≤ 10000) (hY : Y.natAbs ≤ 10000) :
    Cal w A ⟨h, g, d, t, os⟩ (call (.ref 423) [v, v1, v2]) Z (fun Z' r => Pt w Z' r (P + X, Q + Y)) := by
  obtain ⟨va, vb, vc, vd, ve, vf, M, Da, Db, Dc, Dd, De, Df⟩ := M
  refine enter (args := ⟨[v, v1, v2], []⟩) (binds := [("self", v), ("x", v1), ("y", v2)]) hA.room W hZ (by k_is) (by k_is) (BindsTo.of_eq rfl) (locs rfl) rfl rfl rfl (by decide) fun L h₁ t₁ F => ?_
  refine wp_gen fun Qe hQe => ?_
  (repeat' tb_rel)
  refine Cal.use (times_ (k := 1) (hA.deeper.less (by first | decide | omega)) (W.up F.le) F.stay (Dec.up Da (by kts_caught)) (Or.inl (Dec.up D1 (by kts_caught))) (Or.inr rfl)) F fun r0 h0 t0 Z0 F0 le0 A1 => ?_
  (repeat' tb_rel)
  rename Fx _ _ _ _ _ _ _ _ => G1
  refine Cal.use (times_ (k := 0) (hA.deeper.less (by first | decide | omega)) (W.up G1.le) G1.stay (Dec.up Dc (by kts_caught)) (Or.inl (Dec.up D2 (by kts_caught))) (Or.inl rfl)) G1 fun r1 h1 t1 Z1 F1 le1 A2 => ?_
  (repeat' tb_rel)
  rename Fx _ _ _ _ _ _ _ _ => G2
  refine Cal.use (plus_ (hA.deeper.less (by first | decide | omega)) (W.up G2.le) G2.stay (Dec.up A1 (by kts_caught)) (Or.inl (Dec.up A2 (by kts_caught))) (by first | decide | omega) (by first | decide | omega)) G2 fun r2 h2 t2 Z2 F2 le2 A3 => ?_
  (repeat' tb_rel)
  rename Fx _ _ _ _ _ _ _ _ => G3
  refine Cal.use (plus_ (hA.deeper.less (by first | decide | omega)) (W.up G3.le) G3.stay (Dec.up A3 (by kts_caught)) (Or.inl (Dec.up De (by kts_caught))) (by first | decide | omega) (by first | decide | omega)) G3 fun r3 h3 t3 Z3 F3 le3 A4 => ?_
  (repeat' tb_rel)
  rename Fx _ _ _ _ _ _ _ _ => G4
  refine Cal.use (times_ (k := 0) (hA.deeper.less (by first | decide | omega)) (W.up G4.le) G4.stay (Dec.up Db (by kts_caught)) (Or.inl (Dec.up D1 (by kts_caught))) (Or.inl rfl)) G4 fun r4 h4 t4 Z4 F4 le4 B1 => ?_
  (repeat' tb_rel)
  rename Fx _ _ _ _ _ _ _ _ => G5
  refine Cal.use (times_ (k := 1) (hA.deeper.less (by first | decide | omega)) (W.up G5.le) G5.stay (Dec.up Dd (by kts_caught)) (Or.inl (Dec.up D2 (by kts_caught))) (Or.inr rfl)) G5 fun r5 h5 t5 Z5 F5 le5 B2 => ?_
  (repeat' tb_rel)
  rename Fx _ _ _ _ _ _ _ _ => G6
  refine Cal.use (plus_ (hA.deeper.less (by first | decide | omega)) (W.up G6.le) G6.stay (Dec.up B1 (by kts_caught)) (Or.inl (Dec.up B2 (by kts_caught))) (by first | decide | omega) (by first | decide | omega)) G6 fun r6 h6 t6 Z6 F6 le6 B3 => ?_
  (repeat' tb_rel)
  rename Fx _ _ _ _ _ _ _ _ => G7
  refine Cal.use (plus_ (hA.deeper.less (by first | decide | omega)) (W.up G7.le) G7.stay (Dec.up B3 (by kts_caught)) (Or.inl (Dec.up Df (by kts_caught))) (by first | decide | omega) (by first | decide | omega)) G7 fun r7 h7 t7 Z7 F7 le7 B4 => ?_
  (repeat' tb_rel)
  rename Tup _ _ _ => Te
  rename Fx _ _ _ _ _ _ _ _ => Fe
  have e1 : 1 * P + 0 * Q + X = P + X := by omega
  have e2 : 0 * P + 1 * Q + Y = Q + Y := by omega
  rw [e1] at A4
  rw [e2] at B4
  exact hQe _ _ ⟨_, _, _, _, _, rfl, Fe, _, _, Te, A4.up (by kts_caught), B4.up (by kts_caught)⟩
end
def EdgeAt (Z : Heap) (v : Value) (e : Edge) : Prop := (∃ u1 u2 u3 u4, Tup Z v [.int e.1 u1, .int e.2.1 u2, .int e.2.2.1 u3, .int e.2.2.2 u4]) ∧ e.1.natAbs ≤ 10000 ∧ e.2.1.natAbs ≤ 10000 ∧ e.2.2.1.natAbs ≤ 10000 ∧ e.2.2.2.natAbs ≤ 10000
theorem EdgeAt.up {Z Z' : Heap} {v : Value} {e : Edge} (x : EdgeAt Z v e) (k : Z.StaysIn Z') : EdgeAt Z' v e := by
  obtain ⟨⟨u1, u2, u3, u4, T⟩, r⟩ := x
  exact ⟨⟨u1, u2, u3, u4, T.up k⟩, r⟩
def ruleOf (ev : Bool) : Str := if ev then "evenodd" else "nonzero"
/-- a list of edges -/
def EdgesAt (Z : Heap) (v : Value) (es : List Edge) : Prop := ∃ vs, Lst Z v vs ∧ All2 (EdgeAt Z) vs es ∧ vs.length ≤ 1000
theorem EdgesAt.up {Z Z' : Heap} {v : Value} {es : List Edge} (x : EdgesAt Z v es) (k : Z.StaysIn Z') : EdgesAt Z' v es := by
  obtain ⟨vs, T, a, l⟩ := x
  exact ⟨vs, T.up k, a.mono fun _ _ y => y.up k, l⟩
theorem mulok' {a b : Int} (e : b.natAbs ≤ 1000000000) : IntMulOk a b := IntMulOk.of_right (intBits_le_64 (by first | decide | omega) (by first | decide | omega))
theorem wind_snoc (es : List Edge) (e : Edge) (x y : Int) : wind (es ++ [e]) x y = wind es x y + cross e x y := by rw [wind_append]; simp [wind]
local macro_rules | `(tactic| tb_rel) => `(tactic| first
  | ((with_reducible show wpAny _ _ (binaryOp _ _ _) _ _ _); first
    | ((with_reducible refine' mul_ii ?z1 ?_); (case z1 => exact mulok' (by omega))))
  | fail "none")
section
variable {w : World} {A : Around} {mg mb : Str → Option Value} {Z h : Heap} {g : Array GenState} {d : Drawn} {t : Nat} {os : OsState} {v p : Value} {X Y : Int}
theorem crossing {e : Edge} {u1 u2 : Tok} (hA : Ok A 3) (W : Wd w mg mb Z) (hZ : Z.StaysIn h) (Ee : EdgeAt Z v e) (hX : X.natAbs ≤ 10000) (hY : Y.natAbs ≤ 10000) :
    Cal w A ⟨h, g, d, t, os⟩ (call (.ref 360) [v, .int X u1, .int Y u2]) Z (fun _ r => ∃ u, r = .int (cross e X Y) u) := by
  obtain ⟨⟨t1, t2, t3, t4, T⟩, b1, b2, b3, b4⟩ := Ee
  refine enter (args := ⟨[v, .int X u1, .int Y u2], []⟩) (binds := [("edge", v), ("x", .int X u1), ("y", .int Y u2)]) hA.room W hZ (by k_is) (by k_is) (BindsTo.of_eq rfl) (locs rfl) rfl rfl rfl (by decide) fun L h₁ t₁ F => ?_
  refine wp_gen fun Qe hQe => ?_
  (repeat' tb_rel)
  all_goals (
    rename Fx _ _ _ _ _ _ _ _ => Fe
    refine hQe _ _ ⟨_, _, _, _, _, rfl, Fe, _, congrArg (fun z => Value.int z _) ?_⟩
    unfold cross side
    (repeat' split) <;> first | rfl | omega)
end
section
variable {w : World} {A : Around} {mg mb : Str → Option Value} {Z h : Heap} {g : Array GenState} {d : Drawn} {t : Nat} {os : OsState} {v p : Value} {X Y : Int}
theorem is_filled {ev : Bool} {T : Int} {u1 u2 : Tok} (hA : Ok A 3) (W : Wd w mg mb Z) (hZ : Z.StaysIn h) :
    Cal w A ⟨h, g, d, t, os⟩ (call (.ref 374) [.int T u1, .str (ruleOf ev) u2]) Z (fun _ r => r = .bool (filled ev T)) := by
  refine enter (args := ⟨[.int T u1, .str (ruleOf ev) u2], []⟩) (binds := [("total", .int T u1), ("rule", .str (ruleOf ev) u2)]) hA.room W hZ (by k_is) (by k_is) (BindsTo.of_eq rfl) (locs rfl) rfl rfl rfl (by decide) fun L h₁ t₁ F => ?_
  refine wp_gen fun Qe hQe => ?_
  (repeat' tb_rel)
  have T5 : ∃ t1 t2, Tup Z (.ref 195) [.str "nonzero" t1, .str "evenodd" t2] := ⟨_, _, 195, rfl, _, W.K _ _ (by k_is), rfl, _, rfl⟩
  obtain ⟨t1, t2, a5, e5, i5⟩ := T5
  cases e5
  refine notin_tuple_strs (i5.keeps F.stay) (.cons _ _ (.cons _ _ .nil)) ?_
  have e : (!([("nonzero" : Str), "evenodd"].any (· == ruleOf ev))) = false := by cases ev <;> decide
  rw [e]
  (repeat' tb_rel)
  · rename ruleOf ev = _ => hc
    have : ev = false := by
      cases ev with
      | true => exact absurd hc (by decide)
      | false => rfl
    subst this
    exact hQe _ _ ⟨_, _, _, _, _, rfl, F, rfl⟩
  · rename ¬ ruleOf ev = _ => hc
    have : ev = true := by
      cases ev with
      | false => exact absurd rfl hc
      | true => rfl
    subst this
    rename Fx _ _ _ _ _ _ _ _ => Fe
    refine hQe _ _ ⟨_, _, _, _, _, rfl, Fe, ?_⟩
    show Value.bool (decide (T.fmod 2 = 1)) = Value.bool (decide (T % 2 = 1))
    rw [Int.fmod_eq_emod_of_nonneg _ (by decide)]
theorem winding_number {es : List Edge} {u1 u2 : Tok} (hA : Ok A 5) (W : Wd w mg mb Z) (hZ : Z.StaysIn h) (Ee : EdgesAt Z v es) (hX : X.natAbs ≤ 10000) (hY : Y.natAbs ≤ 10000) :
    Cal w A ⟨h, g, d, t, os⟩ (call (.ref 367) [v, .int X u1, .int Y u2]) Z (fun _ r => ∃ u, r = .int (wind es X Y) u) := by
  obtain ⟨vs, T, a, l⟩ := Ee
  refine enter (args := ⟨[v, .int X u1, .int Y u2], []⟩) (binds := [("edges", v), ("x", .int X u1), ("y", .int Y u2)]) hA.room W hZ (by k_is) (by k_is) (BindsTo.of_eq rfl) (locs rfl) rfl rfl rfl (by decide) fun L h₁ t₁ F => ?_
  refine wp_gen fun Qe hQe => ?_
  (repeat' tb_rel)
  rename Fx _ _ _ _ _ _ _ _ => F1
  refine it_lst hA.hd F1 T fun I h2 nu St It hs F2 => ?_
  refine w_for (It _) (fun i Z' m mu => mu = [] ∧ m "x" = some (.int X u1) ∧ m "y" = some (.int Y u2) ∧ ∃ u, m "total" = some (.int (wind (es.take i) X Y) u)) F2 stays_refl hs ⟨rfl, rfl, rfl, _, rfl⟩ ?_ ?_
  · rintro i v Z' m mu nu h t hi hz F3 hP ⟨rfl, hx, hy, u, hm⟩
    refine wp_gen2 fun Qf hQf => ?_
    obtain ⟨e, he, S⟩ := a.get hP
    simp only [List.nil_append] at F3
    (repeat' tb_rel)
    rename Fx _ _ _ _ _ _ _ _ => F4
    refine Cal.use (crossing (hA.deeper.less (by first | decide | omega)) (W.up F4.le) F4.stay (S.up (stays_trans F1.le hz)) hX hY) F4 fun r5 h5 t5 Z5 F5 le5 E5 => ?_
    obtain ⟨u5, rfl⟩ := E5
    (repeat' tb_rel)
    rename Fx _ _ _ _ _ _ _ _ => Fe
    have e1 : wind (es.take i) X Y + cross e X Y = wind (es.take (i + 1)) X Y := by rw [List.take_add_one, he]; exact (wind_snoc _ _ _ _).symm
    exact hQf _ _ ⟨rfl, _, _, _, _, [], rfl, Fe, le5, rfl, hx, hy, _, congrArg (fun z => some (Value.int z _)) e1⟩
  · rintro Z' m mu h t F3 ⟨rfl, hx, hy, u, hm⟩
    have e1 : es.take vs.length = es := by rw [a.length, List.take_length]
    rw [e1] at hm
    (repeat' tb_rel)
    rename Fx _ _ _ _ _ _ _ _ => Fe
    exact hQe _ _ ⟨_, _, _, _, _, rfl, Fe, _, rfl⟩
end
def sgn (b : Bool) : Str := if b then "x" else "."
def txt (r : List Bool) : Str := ⟨(r.map fun b => if b then 120 else 46).toArray⟩
theorem sgn_len (b : Bool) : (sgn b).length = 1 := by cases b <;> decide
theorem sgn_cps (b : Bool) : (sgn b).cps = #[if b then 120 else 46] := by cases b <;> decide
theorem join_sgn (r : List Bool) : Txt.join (Str.ofString "") (r.map sgn) = txt r := by
  rw [show Txt.join (Str.ofString "") (r.map sgn) = Str.join (Str.ofString "") (r.map sgn) from PySem.StrLaws.glued_eq_join _ _]
  have e0 : ∀ a b : Str, a ++ Str.ofString "" ++ b = ⟨a.cps ++ b.cps⟩ := fun a b => by
    show (⟨(a.cps ++ (Str.ofString "").cps) ++ b.cps⟩ : Str) = _
    rw [show (Str.ofString "").cps = #[] by decide, Array.append_empty]
  induction r with
  | nil => rfl
  | cons b r ih =>
    cases r with
    | nil => cases b <;> decide
    | cons c r =>
      rw [List.map_cons] at ih
      rw [List.map_cons, List.map_cons, Str.join, ih, e0, sgn_cps]
      · simp [txt]
      · simp
theorem strs_sum (r : List Bool) : ((r.map sgn).map (·.length)).sum = r.length := by
  induction r with
  | nil => rfl
  | cons b r ih => simp only [List.map_cons, List.sum_cons, ih, sgn_len, List.length_cons]; omega
theorem strs_snoc {vs : List Value} {ss : List Str} {y : Str} {t : Tok} (a : StrsAre vs ss) : StrsAre (vs ++ [.str y t]) (ss ++ [y]) := a.append' (.cons _ _ .nil)
theorem locsC {scope : Scope} {cs : Addr → List (Str × Addr)} {binds : List (Str × Value)} (ns : List Str) (e : binds.map (·.1) = ns) (hc : ∀ L, (cs L).map (·.1) = (cs 0).map (·.1))
    (hh : ∀ x ∈ ns, scope.names.lookup x = some .local ∨ (scope.names.lookup x = some .cell ∧ x ∈ (cs 0).map (·.1))) : ∀ L, ∀ y ∈ binds, scope.names.lookup y.1 = some .local ∨ (scope.names.lookup y.1 = some .cell ∧ ((cs L).lookup y.1).isSome = true) := by
  intro L y hy
  have hm : y.1 ∈ ns := e ▸ List.mem_map_of_mem hy
  rcases hh _ hm with a | ⟨a, b⟩
  · exact Or.inl a
  · refine Or.inr ⟨a, ?_⟩
    rw [← hc L] at b
    obtain ⟨p, hp, hx⟩ := List.mem_map.mp b
    cases q : (cs L).lookup y.1 with
    | some _ => rfl
    | none =>
      have := List.lookup_eq_none_iff.mp q p hp
      rw [hx] at this
      simp at this
theorem nodup_of {α : Type} {l ns : List α} (e : l = ns) (k : ns.Nodup) : l.Nodup := e ▸ k
theorem fm_filter {α : Type} (p : α → Bool) (es : List α) : (List.range es.length).filterMap (fun i => (es[i]?).filter p) = es.filter p := by
  induction es with
  | nil => rfl
  | cons e r ih =>
    rw [List.length_cons, List.range_succ_eq_map, List.filterMap_cons, List.filterMap_map]
    have : (List.range r.length).filterMap ((fun i => ((e :: r)[i]?).filter p) ∘ Nat.succ) = r.filter p := by
      rw [← ih]; rfl
    rw [this]
    cases hp : p e <;> simp [hp, Option.filter]
theorem fm_some {α : Type} (es : List α) : (List.range es.length).filterMap (fun i => es[i]?) = es := by
  have := fm_filter (fun _ => true) es
  rw [List.filter_eq_self.mpr (fun _ _ => rfl)] at this
  have e : (fun (i : Nat) => Option.filter (fun _ => true) es[i]?) = fun (i : Nat) => es[i]? := by funext i; cases es[i]? <;> rfl
  rw [e] at this
  exact this
theorem filt_pos {α : Type} {p : α → Bool} {o : Option α} {a : α} (e : o = some a) (h : p a = true) : o.filter p = some a := by subst e; simp [Option.filter, h]
theorem filt_neg {α : Type} {p : α → Bool} {o : Option α} {a : α} (e : o = some a) (h : p a = false) : o.filter p = none := by subst e; simp [Option.filter, h]
theorem near_t {e : Edge} {y : Int} (h : (e.2.1 ≤ y ∧ y < e.2.2.2) ∨ (e.2.2.2 ≤ y ∧ y < e.2.1)) : nearB y e = true := decide_eq_true h
theorem near_f {e : Edge} {y : Int} (h : ¬ ((e.2.1 ≤ y ∧ y < e.2.2.2) ∨ (e.2.2.2 ≤ y ∧ y < e.2.1))) : nearB y e = false := decide_eq_false h
theorem take_map_range {α : Type} (f : Nat → α) (n i : Nat) (hi : i < n) : ((List.range n).map f).take (i + 1) = ((List.range n).map f).take i ++ [f i] := by
  rw [List.take_add_one]; simp [hi]
section
variable {M : Model} {A : Around} {E : Value → Shared → Prop} {s : Shared} {cenv : Env}
theorem if_none {Q : Bool → Shared → Prop} (q : Q true s) : wpAny M A (forIn ([] : List Expr) true fun c r => if r = true then do let ok ← isTrue c cenv (eval c cenv); pure (ForInStep.yield ok) else pure (ForInStep.yield r)) Q E s := by
  rw [List.forIn_nil]; exact wpAny_pure q
theorem if_one {c : Expr} {Q : Bool → Shared → Prop} (q : wpAny M A (isTrue c cenv (eval c cenv)) Q E s) : wpAny M A (forIn [c] true fun c r => if r = true then do let ok ← isTrue c cenv (eval c cenv); pure (ForInStep.yield ok) else pure (ForInStep.yield r)) Q E s := by
  rw [List.forIn_cons]
  simp only [if_true]
  refine wpAny_bind (wpAny_bind (wpAny_mono q (fun b s₁ h₁ => wpAny_pure ?_) fun _ _ x => x))
  simp only [List.forIn_nil]
  exact wpAny_pure h₁
end
section
variable {w : World} {A : Around} {mg mb : Str → Option Value} {n₀ : Nat} {B Z₀ Z : Heap} {L : Addr} {m : Str → Option Value} {mu : List (Addr × Obj)} {h h' : Heap} {g : Array GenState} {d : Drawn} {t : Nat} {os : OsState} {E : Value → Shared → Prop} {env : Env}
  {v c : Value} {N a b : Int} {u u' : Tok} {name : Str} {pl : Sem Bool} {pos : Pos}
theorem m_join {s : Shared} {x : Str} {Q : Value × List Value → Shared → Prop} (q : Q (.builtin "str.join", [.str x u]) s) : wpAny (Mo w) A (getMethod (.str x u) "join" pl) Q E s := GM.join q
theorem k_join {D : Addr} {k : Nat} {ys : List Value} {r : List Bool} {Q : Value → Shared → Prop} (F : Fx n₀ B Z₀ Z L m ((D, lo k ys) :: mu) h) (hi : StrsAre ys (r.map sgn)) (hz : r.length ≤ 1000) (q : ∀ t' k, Q (.str (txt r) t') ⟨h, g, d, k, os⟩) :
    wpAny (Mo w) A (call (.builtin "str.join") [.str (Str.ofString "") u, .ref D]) Q E ⟨h, g, d, t, os⟩ := by
  have hl : h.IsList D ys.toArray := ⟨_, (F.mus _ (.head _)).1, rfl, _, rfl⟩
  refine join_listW (s := ⟨h, g, d, t, os⟩) hl hi (by decide) (by rw [strs_sum, List.length_map]; omega) fun t' k => ?_
  rw [join_sgn]
  exact q t' k
end
local macro_rules | `(tactic| tb_rel) => `(tactic| first
  | ((with_reducible show wpAny _ _ (getMethod _ _ _) _ _ _); first
    | (with_reducible refine m_join ?_))
  | (with_reducible refine if_none ?_)
  | (with_reducible refine if_one ?_)
  | fail "none")
section
variable {w : World} {A : Around} {mg mb : Str → Option Value} {Z h : Heap} {g : Array GenState} {d : Drawn} {t : Nat} {os : OsState} {v p : Value} {X Y : Int}
theorem row_text {es : List Edge} {ev : Bool} {W' : Nat} {u1 u2 u3 u4 : Tok} (hA : Ok A 9) (W : Wd w mg mb Z) (hZ : Z.StaysIn h) (Ee : EdgesAt Z v es) (hW : W' ≤ 20) (hY : Y.natAbs ≤ 10000) :
    Cal w A ⟨h, g, d, t, os⟩ (call (.ref 379) [v, .str (ruleOf ev) u1, .int W' u2, .int Y u3, .int 5 u4]) Z (fun _ r => ∃ u, r = .str (txt (rowB es ev W' Y)) u) := by
  obtain ⟨vs, T, a, l⟩ := Ee
  refine enterCells (args := ⟨[v, .str (ruleOf ev) u1, .int W' u2, .int Y u3, .int 5 u4], []⟩) (binds := [("edges", v), ("rule", .str (ruleOf ev) u1), ("width", .int W' u2), ("y", .int Y u3), ("unit", .int 5 u4)]) (fun L => [("y", L + 1)]) hA.room W hZ (by k_is) (by k_is) (BindsTo.of_eq rfl) (fun _ => rfl) (locsC ["edges", "rule", "width", "y", "unit"] rfl (fun _ => rfl) (by decide)) (fun _ => nodup_of (ns := ["y"]) rfl (by decide)) rfl rfl rfl fun L h₁ t₁ obs hob hL F => ?_
  refine wp_gen fun Qe hQe => ?_
  have hob := hob ("y", L + 1) (.head _)
  have hL := hL ("y", L + 1) (.head _)
  obtain ⟨Z1, F, l1, e1⟩ := Fx.freeze F hL
  have C : CellZ Z1 (L + 1) (.int Y u3) := ⟨_, e1, hob⟩
  (repeat' tb_rel)
  refine it_lst hA.hd F (T.up l1) fun I h2 nu St It hs F2 => ?_
  refine w_compA (It _) (by decide) rfl (fun Z v e => EdgeAt Z v e) (fun i => (es[i]?).filter (nearB Y)) F2 hs (by rw [PySem.sizeLine_eq]; omega) (fun _ _ _ _ k x => x.up k) rfl rfl rfl ?_ ?_
  · rintro C' i v' Z2 mC mu' h3 t3 hi hz F3 ⟨nu', hP, -⟩
    obtain ⟨e, he, S⟩ := a.get hP
    have S := S.up (stays_trans l1 hz)
    have C2 := C.up hz
    obtain ⟨⟨w1, w2, w3, w4, Te⟩, b1, b2, b3, b4⟩ := id S
    (repeat' tb_rel)
    all_goals (
      rename Fx _ _ _ _ _ _ _ _ => Fe
      first
      | exact ⟨_, _, _, _, rfl, Fe, stays_refl, e, filt_pos he (near_t (by first | decide | omega)), S⟩
      | exact ⟨_, _, _, _, rfl, Fe, stays_refl, filt_neg he (near_f (by first | decide | omega))⟩)
  · intro nv h3 t3 Z3 ys F3 l3 T3 R3
    have hlen : vs.length = es.length := a.length
    rw [hlen, fm_filter] at R3
    have Ne : EdgesAt Z3 nv (es.filter (nearB Y)) := ⟨ys, T3, R3, by have := R3.length; have := List.length_filter_le (nearB Y) es; omega⟩
    have C3 := C.up l3
    have q3 := stays_trans l1 l3
    (repeat' tb_rel)
    rename Rng _ _ _ _ _ => Rg
    rename Fx _ _ _ _ _ _ _ _ => F4
    refine it_rng1 hA.hd F4 Rg (by first | decide | omega) (by first | decide | omega) fun I5 h5 nu5 St5 It5 hs5 F5 => ?_

    rename_i D _ _ hD _ _ _ _ _ Zr l4
    rw [Int.toNat_natCast] at It5
    have Ne := Ne.up l4
    have C3 := C3.up l4
    refine w_for (It5 _) (fun i Z' m mu => ∃ k ys, mu = [(D, lo k ys)] ∧ StrsAre ys (((rowB es ev W' Y).take i).map sgn) ∧ m "signs" = some (.ref D) ∧ m "near" = some nv ∧ m "unit" = some (.int 5 u4) ∧ m "rule" = some (.str (ruleOf ev) u1)) F5 stays_refl hs5 ⟨_, _, rfl, .nil, rfl, rfl, rfl, rfl⟩ ?_ ?_
    · rintro i v6 Z6 m mu nu6 h6 t6 hi hz6 F6 ⟨u6, rfl⟩ ⟨k, ys6, rfl, S6, m1, m2, m3, m4⟩
      refine wp_gen2 fun Qf hQf => ?_
      have Ne := Ne.up hz6
      have C3 := C3.up hz6
      simp only [List.cons_append, List.nil_append] at F6
      (repeat' tb_rel)
      rename Fx _ _ _ _ _ _ _ _ => F7
      refine Cal.use (winding_number (hA.deeper.less (by first | decide | omega)) (W.up F7.le) F7.stay Ne (by first | decide | omega) hY) F7 fun r8 h8 t8 Z8 F8 l8 E8 => ?_
      obtain ⟨u8, rfl⟩ := E8
      (repeat' tb_rel)
      rename Fx _ _ _ _ _ _ _ _ => F9
      refine Cal.use (is_filled (ev := ev) (hA.deeper.less (by first | decide | omega)) (W.up F9.le) F9.stay) F9 fun r10 h10 t10 Z10 F10 l10 E10 => ?_
      subst E10
      have eqn : (rowB es ev W' Y).take (i + 1) = (rowB es ev W' Y).take i ++ [filled ev (wind (es.filter (nearB Y)) ((2 * (i : Int) + 1) * 5) Y)] := take_map_range _ _ _ hi
      have hys : ys6.length ≤ 1000 := by
        have := S6.len_eq
        simp at this
        omega
      cases hf : filled ev (wind (es.filter (nearB Y)) ((2 * (i : Int) + 1) * 5) Y)
      all_goals (
        rw [hf] at eqn
        (repeat' tb_rel)
        rename Fx _ _ _ _ _ _ _ _ => Fe
        exact hQf _ _ ⟨rfl, _, _, _, _, [(D, lo _ _)], rfl, Fe, by kts_caught, _, _, rfl, by rw [eqn, List.map_append]; exact strs_snoc S6, m1, m2, m3, m4⟩)
    · rintro Z6 m mu h6 t6 F6 ⟨k, ys6, rfl, S6, m1, m2, m3, m4⟩
      rw [List.take_of_length_le (by simp [rowB])] at S6
      (repeat' tb_rel)
      rename Fx _ _ _ _ _ _ _ _ => F7
      refine k_join F7 S6 (by simp [rowB]; omega) fun t8 k8 => ?_
      exact hQe _ _ ⟨_, _, _, _, _, rfl, F7, _, rfl⟩
end
/-- a list of points; a list of such lists -/
def PolyAt (w : World) (Z : Heap) (v : Value) (c : List Q2) : Prop := ∃ vs, Lst Z v vs ∧ All2 (Pt w Z) vs c ∧ vs.length ≤ 20
theorem PolyAt.up {w : World} {Z Z' : Heap} {v : Value} {c : List Q2} (x : PolyAt w Z v c) (k : Z.StaysIn Z') : PolyAt w Z' v c := by
  obtain ⟨vs, T, a, l⟩ := x
  exact ⟨vs, T.up k, a.mono fun _ _ y => y.up k, l⟩
def PolysAt (w : World) (Z : Heap) (v : Value) (cs : List (List Q2)) : Prop := ∃ vs, Lst Z v vs ∧ All2 (PolyAt w Z) vs cs ∧ vs.length ≤ 20
theorem PolysAt.up {w : World} {Z Z' : Heap} {v : Value} {cs : List (List Q2)} (x : PolysAt w Z v cs) (k : Z.StaysIn Z') : PolysAt w Z' v cs := by
  obtain ⟨vs, T, a, l⟩ := x
  exact ⟨vs, T.up k, a.mono fun _ _ y => y.up k, l⟩
def BndQ (q : Q2) : Prop := q.1.natAbs ≤ 10000 ∧ q.2.natAbs ≤ 10000
def Bnd (cs : List (List Q2)) : Prop := ∀ c ∈ cs, ∀ q ∈ c, BndQ q
section
variable {w : World} {A : Around} {mg mb : Str → Option Value} {n₀ : Nat} {B Z₀ Z : Heap} {L : Addr} {m : Str → Option Value} {mu : List (Addr × Obj)} {h h' : Heap} {g : Array GenState} {d : Drawn} {t : Nat} {os : OsState} {E : Value → Shared → Prop} {env : Env}
  {v o : Value} {N a b c : Int} {u u' u'' : Tok} {name : Str} {pl : Sem Bool} {pos : Pos} {vs : List Value}
theorem max3 {Q : Value → Shared → Prop} (hA : A.handled = none) (F : Fx n₀ B Z₀ Z L m mu h) (q : ∀ h' t' u', Fx n₀ B Z₀ Z L m mu h' → Q (.int (max a (max b c)) u') ⟨h', g, d, t', os⟩) :
    wpAny (Mo w) A (call (.builtin "max") [.int a u, .int b u', .int c u'']) Q E ⟨h, g, d, t, os⟩ := by
  refine max_three_ints hA fun h' tk k => ?_
  have F' := F.keep k
  by_cases e : b > a
  · rw [if_pos e]
    by_cases e2 : c > b
    · rw [if_pos e2, show c = max a (max b c) by omega]; exact q h' tk _ F'
    · rw [if_neg e2]
      have : b = max a (max b c) := by omega
      rw [this]; exact q h' tk _ F'
  · rw [if_neg e]
    by_cases e2 : c > a
    · rw [if_pos e2, show c = max a (max b c) by omega]; exact q h' tk _ F'
    · rw [if_neg e2]
      have : a = max a (max b c) := by omega
      rw [this]; exact q h' tk _ F'
theorem i_lh {value slice : Expr} {l : Addr} {k : Int} {Q : Value → Shared → Prop} (hl : h.IsList l vs.toArray) (h0 : -(vs.length : Int) ≤ k) (h1 : k < vs.length) (hz : vs.length ≤ 100000) (hx : vs[(if k < 0 then k + vs.length else k).toNat]? = some v)
    (hs : ∀ o, subscripted slice false o (.int k u) = operate [o, .int k u] (getItem o (.int k u))) (q : Q v ⟨h, g, d, t, os⟩) : wpAny (Mo w) A (subscriptTail value slice (.ref l) (.int k u)) Q E ⟨h, g, d, t, os⟩ := by
  refine tail_any (s := ⟨h, g, d, t, os⟩) hl.typeIs slot_list_getitem.lookup ?_ (hs _)
  by_cases e : k < 0
  · rw [if_pos e] at hx
    exact wpAny_getItem_list_neg (s := ⟨h, g, d, t, os⟩) hl e (by simpa using h0) (by first | decide | omega) (by simpa using hx) q
  · rw [if_neg e] at hx
    exact wpAny_getItem_list (s := ⟨h, g, d, t, os⟩) hl (by first | decide | omega) (by first | decide | omega) (by simpa using hx) q
theorem Lst.in {Q : Value → Prop} (T : Lst Z v vs) (F : Fx n₀ B Z₀ Z L m mu h) (q : ∀ a, h.IsList a vs.toArray → Q (.ref a)) : Q v := by
  obtain ⟨a, rfl, o, ho, r⟩ := T
  exact q a ⟨o, F.stay _ _ ho, r⟩
theorem i_lz {value slice : Expr} {k : Int} {Q : Value → Shared → Prop} (F : Fx n₀ B Z₀ Z L m mu h) (T : Lst Z o vs) (h0 : -(vs.length : Int) ≤ k) (h1 : k < vs.length) (hz : vs.length ≤ 100000) (hx : vs[(if k < 0 then k + vs.length else k).toNat]? = some v)
    (hs : ∀ o, subscripted slice false o (.int k u) = operate [o, .int k u] (getItem o (.int k u))) (q : Q v ⟨h, g, d, t, os⟩) : wpAny (Mo w) A (subscriptTail value slice o (.int k u)) Q E ⟨h, g, d, t, os⟩ := by
  obtain ⟨a, rfl, o, ho, r⟩ := T
  exact i_lh ⟨o, F.stay _ _ ho, r⟩ h0 h1 hz hx hs q
theorem len_l {Q : Value → Shared → Prop} (F : Fx n₀ B Z₀ Z L m mu h) (T : Lst Z o vs) (hz : vs.length < 2 ^ 60) (q : ∀ t' t'', Q (.int vs.length t') ⟨h, g, d, t'', os⟩) : wpAny (Mo w) A (call (.builtin "len") [o]) Q E ⟨h, g, d, t, os⟩ := by
  obtain ⟨a, rfl, o, ho, r⟩ := T
  have hl : h.IsList a vs.toArray := ⟨o, F.stay _ _ ho, r⟩
  refine PyProof.Rows.len_list (s := ⟨h, g, d, t, os⟩) hl (by simp; omega) ?_
  have := q (t + 1) (t + 1 + 1)
  simpa using this
theorem top_bnd (hN : N.natAbs ≤ 100000) : (top N).natAbs ≤ 100000 := by have := top_plc N; omega
theorem scale1 {N : Int} : top N * 10 ^ (1 - plc N).toNat = N := by
  rcases top_plc N with ⟨e, f⟩ | ⟨e, f⟩
  · rw [e, show (1 - (0 : Int)).toNat = 1 by decide]; omega
  · rw [e, show (1 - (1 : Int)).toNat = 0 by decide]; omega
end
local macro_rules | `(tactic| tb_rel) => `(tactic| first
  | ((with_reducible show wpAny _ _ (call _ _) _ _ _); first
    | ((with_reducible refine' len_l (by assumption) (by ktr_rel) ?z1 ?_); (case z1 => tb_start); intro _ _))
  | fail "none")
section
variable {w : World} {A : Around} {mg mb : Str → Option Value} {Z h : Heap} {g : Array GenState} {d : Drawn} {t : Nat} {os : OsState} {v p : Value} {X Y N : Int}
theorem at_places {u : Tok} (hA : Ok A 3) (W : Wd w mg mb Z) (hZ : Z.StaysIn h) (D : Dec w Z v N) (hN : N.natAbs ≤ 100000) :
    Cal w A ⟨h, g, d, t, os⟩ (call (.ref 348) [v, .int 1 u]) Z (fun _ r => ∃ u, r = .int N u) := by
  have p1 := top_plc N
  have p2 := top_bnd hN
  refine enter (args := ⟨[v, .int 1 u], []⟩) (binds := [("value", v), ("places", .int 1 u)]) hA.room W hZ (by k_is) (by k_is) (BindsTo.of_eq rfl) (locs rfl) rfl rfl rfl (by decide) fun L h₁ t₁ F => ?_
  refine wp_gen fun Qe hQe => ?_
  (repeat' tb_rel)
  rename Fx _ _ _ _ _ _ _ _ => Fe
  exact hQe _ _ ⟨_, _, _, _, _, rfl, Fe, _, congrArg (fun z => Value.int z _) scale1⟩
theorem places_of {c : List Q2} {u : Tok} (hA : Ok A 3) (W : Wd w mg mb Z) (hZ : Z.StaysIn h) (P : PolyAt w Z v c) :
    Cal w A ⟨h, g, d, t, os⟩ (call (.ref 341) [v, .int 1 u]) Z (fun _ r => ∃ u, r = .int 1 u) := by
  obtain ⟨vs, T, a, l⟩ := P
  refine enter (args := ⟨[v, .int 1 u], []⟩) (binds := [("points", v), ("known", .int 1 u)]) hA.room W hZ (by k_is) (by k_is) (binds_K (W.K.keeps hZ) rfl (by k_is) rfl rfl rfl) (locs rfl) rfl rfl rfl (by decide) fun L h₁ t₁ F => ?_
  refine wp_gen fun Qe hQe => ?_
  have hh : (A.deeper (envX "places_of" default 0 0 .none [])).handled = none := hA.hd
  (repeat' tb_rel)
  rename Fx _ _ _ _ _ _ _ _ => F1
  refine it_lst hA.hd F1 T fun I h2 nu St It hs F2 => ?_
  refine w_for (It _) (fun i Z' m mu => mu = [] ∧ ∃ u, m "most" = some (.int 1 u)) F2 stays_refl hs ⟨rfl, _, rfl⟩ ?_ ?_
  · rintro i v Z' m mu nu h t hi hz F3 hP ⟨rfl, u, hm⟩
    refine wp_gen2 fun Qf hQf => ?_
    obtain ⟨q, hq, va, vb, Tp, Da, Db⟩ := a.get hP
    have Tp := Tp.up (stays_trans F1.le hz)
    have Da := Da.up (stays_trans F1.le hz)
    have Db := Db.up (stays_trans F1.le hz)
    simp only [List.nil_append] at F3
    refine u_tup hA.hd F3 Tp rfl rfl fun h4 F4 => ?_
    (repeat' tb_rel)
    rename Fx _ _ _ _ _ _ _ _ => F5
    refine max3 hA.hd F5 fun h6 t6 u6 F6 => ?_
    (repeat' tb_rel)
    rename Fx _ _ _ _ _ _ _ _ => Fe
    have e1 : max 1 (max (plc q.1) (plc q.2)) = 1 := by have := top_plc q.1; have := top_plc q.2; omega
    exact hQf _ _ ⟨rfl, _, _, _, _, [], rfl, Fe, stays_refl, rfl, _, congrArg (fun z => some (Value.int z _)) e1⟩
  · rintro Z' m mu h t F3 ⟨rfl, u, hm⟩
    (repeat' tb_rel)
    rename Fx _ _ _ _ _ _ _ _ => Fe
    exact hQe _ _ ⟨_, _, _, _, _, rfl, Fe, _, rfl⟩
end
def IPt (Z : Heap) (v : Value) (q : Q2) : Prop := ∃ u1 u2, Tup Z v [.int q.1 u1, .int q.2 u2]
theorem IPt.up {Z Z' : Heap} {v : Value} {q : Q2} (x : IPt Z v q) (k : Z.StaysIn Z') : IPt Z' v q := by
  obtain ⟨u1, u2, T⟩ := x
  exact ⟨u1, u2, T.up k⟩
theorem edgeAt_some {c : List Q2} {j : Nat} {p q : Q2} (hp : c[if j = 0 then c.length - 1 else j - 1]? = some p) (hq : c[j]? = some q) (hn : p.2 ≠ q.2) : edgeAt c j = some (p.1, p.2, q.1, q.2) := by
  unfold edgeAt
  rw [List.getD_eq_getElem?_getD, List.getD_eq_getElem?_getD, hp, hq, Option.getD_some, Option.getD_some, if_pos hn]
theorem edgeAt_none {c : List Q2} {j : Nat} {p q : Q2} (hp : c[if j = 0 then c.length - 1 else j - 1]? = some p) (hq : c[j]? = some q) (hn : ¬ p.2 ≠ q.2) : edgeAt c j = none := by
  unfold edgeAt
  rw [List.getD_eq_getElem?_getD, List.getD_eq_getElem?_getD, hp, hq, Option.getD_some, Option.getD_some, if_neg hn]
theorem idx_eq (j n : Nat) (hn : j < n) : (if (j : Int) - 1 < 0 then (j : Int) - 1 + n else (j : Int) - 1).toNat = if j = 0 then n - 1 else j - 1 := by
  by_cases e : j = 0
  · rw [if_pos (by first | decide | omega), if_pos e]; omega
  · rw [if_neg (by first | decide | omega), if_neg e]; omega
theorem whole_take {cs : List (List Q2)} {i : Nat} {c : List Q2} (e : cs[i]? = some c) : wholeEdges (cs.take (i + 1)) = wholeEdges (cs.take i) ++ edgesOf c := by
  rw [List.take_add_one, e]
  simp [wholeEdges]
section
variable {w : World} {A : Around} {mg mb : Str → Option Value} {Z h : Heap} {g : Array GenState} {d : Drawn} {t : Nat} {os : OsState} {v p : Value} {X Y N : Int}
theorem whole_edges {cs : List (List Q2)} {u : Tok} (hA : Ok A 9) (W : Wd w mg mb Z) (hZ : Z.StaysIn h) (P : PolysAt w Z v cs) (hb : Bnd cs) :
    Cal w A ⟨h, g, d, t, os⟩ (call (.ref 353) [v, .int 1 u]) Z (fun Z' r => EdgesAt Z' r (wholeEdges cs)) := by
  obtain ⟨vs, T, a, l⟩ := P
  refine enterCells (args := ⟨[v, .int 1 u], []⟩) (binds := [("polygons", v), ("places", .int 1 u)]) (fun L => [("places", L + 1)]) hA.room W hZ (by k_is) (by k_is) (BindsTo.of_eq rfl) (fun _ => rfl) (locsC ["polygons", "places"] rfl (fun _ => rfl) (by decide)) (fun _ => nodup_of (ns := ["places"]) rfl (by decide)) rfl rfl rfl fun L h₁ t₁ obs hob hL F => ?_
  refine wp_gen fun Qe hQe => ?_
  have hob := hob ("places", L + 1) (.head _)
  have hL := hL ("places", L + 1) (.head _)
  obtain ⟨Z1, F, l1, e1⟩ := Fx.freeze F hL
  have C : CellZ Z1 (L + 1) (.int 1 u) := ⟨_, e1, hob⟩
  (repeat' tb_rel)
  rename_i D _ _ hD _ F1
  have hh := hA.hd
  refine it_lst hA.hd F1 (T.up l1) fun I h2 nu St It hs F2 => ?_
  refine w_for (It _) (fun i Z' m mu => ∃ k ys, mu = [(D, lo k ys)] ∧ All2 (EdgeAt Z') ys (wholeEdges (cs.take i)) ∧ ys.length ≤ 20 * i ∧ m "found" = some (.ref D)) F2 stays_refl hs ⟨_, _, rfl, .nil, by simp, rfl⟩ ?_ ?_
  · rintro i v Z' m mu nu h t hi hz F3 hP ⟨k, ys, rfl, R, hly, hm⟩
    refine wp_gen2 fun Qf hQf => ?_
    obtain ⟨c, hc, Pc⟩ := a.get hP
    obtain ⟨ps, Tp, ap, lp⟩ := Pc.up (stays_trans l1 hz)
    have C' := C.up hz
    have hbc : ∀ q ∈ c, BndQ q := hb c (List.mem_of_getElem? hc)
    have hpc := ap.length
    simp only [List.cons_append, List.nil_append] at F3
    (repeat' tb_rel)
    rename Fx _ _ _ _ _ _ _ _ => F4
    refine it_lst hA.hd F4 Tp fun I5 h5 nu5 St5 It5 hs5 F5 => ?_
    refine w_compA (It5 _) (by decide) rfl (fun Z v q => IPt Z v q) (fun i => c[i]?) F5 hs5 (by rw [PySem.sizeLine_eq]; omega) (fun _ _ _ _ k x => x.up k) rfl rfl rfl ?_ ?_
    · rintro C6 i6 v6 Z6 mC mu6 h6 t6 hi6 hz6 F6 ⟨nu6, hP6, -⟩
      obtain ⟨q, hq, va, vb, Tq, Da, Db⟩ := ap.get hP6
      have Tq := Tq.up hz6
      have Da := Da.up hz6
      have Db := Db.up hz6
      have C6 := C'.up hz6
      have hbq := hbc q (List.mem_of_getElem? hq)
      have W1 := W.up (stays_trans l1 hz)
      refine u_tup hA.hd F6 Tq rfl rfl fun h7 F7 => ?_
      (repeat' tb_rel)
      rename Fx _ _ _ _ _ _ _ _ => F8
      refine Cal.use (at_places (hA.deeper.less (by first | decide | omega)) (W1.up F8.le) F8.stay Da (by have := hbq.1; omega)) F8 fun r9 h9 t9 Z9 F9 l9 E9 => ?_
      obtain ⟨u9, rfl⟩ := E9
      (repeat' tb_rel)
      refine Cal.use (at_places (hA.deeper.less (by first | decide | omega)) (W1.up F9.le) F9.stay (Db.up l9) (by have := hbq.2; omega)) F9 fun r10 h10 t10 Z10 F10 l10 E10 => ?_
      obtain ⟨u10, rfl⟩ := E10
      (repeat' tb_rel)
      rename Tup _ _ _ => Te
      rename Fx _ _ _ _ _ _ _ _ => Fe
      exact ⟨_, _, _, _, rfl, Fe, by kts_caught, q, hq, _, _, Te⟩
    · intro rv h6 t6 Z6 rs F6 l6 T6 R6
      rw [hpc, fm_some] at R6
      have hrc := R6.length
      (repeat' tb_rel)
      rename Rng _ _ _ _ _ => Rg
      rename Fx _ _ _ _ _ _ _ _ => F7
      rename Heap.StaysIn Z6 _ => l7
      refine it_rng1 hA.hd F7 Rg (by first | decide | omega) (by first | decide | omega) fun I8 h8 nu8 St8 It8 hs8 F8 => ?_
      rw [Int.toNat_natCast] at It8
      have T6 := T6.up l7
      have R6 := R6.mono fun _ _ y => IPt.up y l7
      refine w_for (It8 _) (fun j Z' m mu => ∃ k ys, mu = (D, lo k ys) :: nu ∧ All2 (EdgeAt Z') ys (wholeEdges (cs.take i) ++ (List.range j).filterMap (edgeAt c)) ∧ ys.length ≤ 20 * i + j ∧ m "found" = some (.ref D) ∧ m "row" = some rv ∧ Z6.StaysIn Z') F8 stays_refl hs8 ⟨_, _, rfl, by simpa using R.mono fun _ _ y => y.up (stays_trans l6 l7), by omega, hm, rfl, l7⟩ ?_ ?_
      · rintro j v9 Z9 m9 mu9 nu9 h9 t9 hj hz9 F9 ⟨u9, rfl⟩ ⟨k9, ys9, rfl, R9, hly9, hm9, hr9, l9⟩
        refine wp_gen2 fun Qf hQf => ?_
        have T9 := T6.up hz9
        have hx1 : rs[if j = 0 then c.length - 1 else j - 1]? = some (rs[if j = 0 then c.length - 1 else j - 1]'(by split <;> omega)) := List.getElem?_eq_getElem _
        have hx2 : rs[j]? = some (rs[j]'hj) := List.getElem?_eq_getElem _
        obtain ⟨p, hp, u1, u2, Tp⟩ := R6.get hx1
        obtain ⟨q, hq, u3, u4, Tq⟩ := R6.get hx2
        have bp := hbc p (List.mem_of_getElem? hp)
        have bq := hbc q (List.mem_of_getElem? hq)
        have Tp := Tp.up hz9
        have Tq := Tq.up hz9
        simp only [List.cons_append] at F9
        (repeat' tb_rel)
        refine i_lz (by assumption) T9 (by first | decide | omega) (by first | decide | omega) (by first | decide | omega) (by rw [idx_eq j rs.length hj, hrc]; exact hx1) (fun _ => by with_unfolding_all rfl) ?_
        (repeat' tb_rel)
        refine i_lz (by assumption) T9 (by first | decide | omega) (by first | decide | omega) (by first | decide | omega) (by rw [if_neg (by first | decide | omega)]; exact hx2) (fun _ => by with_unfolding_all rfl) ?_
        (repeat' tb_rel)
        · rename p.2 ≠ q.2 => hc1
          rename Tup _ _ [_, _, _, _] => Te
          rename Heap.StaysIn Z9 _ => le9
          rename Fx _ _ _ _ _ _ _ _ => Fe
          refine hQf _ _ ⟨rfl, _, _, _, _, (D, lo _ _) :: nu, rfl, Fe, le9, _, _, rfl, ?_, ?_, hm9, hr9, stays_trans l9 le9⟩
          · rw [fm_step, edgeAt_some hp hq hc1, ← List.append_assoc]
            exact (R9.mono fun _ _ y => y.up le9).snoc ⟨⟨_, _, _, _, Te⟩, bp.1, bp.2, bq.1, bq.2⟩
          · simp; omega
        · rename ¬ p.2 ≠ q.2 => hc1
          rename Fx _ _ _ _ _ _ _ _ => Fe
          refine hQf _ _ ⟨rfl, _, _, _, _, (D, lo _ _) :: nu, rfl, Fe, stays_refl, _, _, rfl, ?_, by omega, hm9, hr9, l9⟩
          rw [fm_step, edgeAt_none hp hq hc1]
          simpa using R9
      · rintro Z9 m9 mu9 h9 t9 F9 ⟨k9, ys9, rfl, R9, hly9, hm9, hr9, l9⟩
        (repeat' tb_rel)
        rename Fx _ _ _ _ _ _ _ _ => Fe
        refine hQf _ _ ⟨rfl, _, _, _, _, [_], rfl, Fe, stays_trans l6 l9, k9, ys9, rfl, ?_, by omega, hm9⟩
        rw [whole_take hc]
        rw [hrc] at R9
        exact R9
  · rintro Z' m mu h t F3 ⟨k, ys, rfl, R, hly, hm⟩
    rw [a.length, List.take_length] at R
    (repeat' tb_rel)
    rename Fx _ _ _ _ _ _ _ _ => F4
    obtain ⟨Zf, Ff, lf, ef⟩ := F4.freeze hD
    exact hQe _ _ ⟨_, _, _, _, _, rfl, Ff, ys, ⟨D, rfl, _, ef, rfl, _, rfl⟩, R.mono fun _ _ y => y.up lf, by omega⟩
end
theorem fm_corners (ss : List (Option Q2)) : (List.range ss.length).filterMap (fun i => (ss[i]?).join) = corners ss := by
  unfold corners
  induction ss with
  | nil => rfl
  | cons e r ih =>
    rw [List.length_cons, List.range_succ_eq_map, List.filterMap_cons, List.filterMap_map]
    have : (List.range r.length).filterMap ((fun i => ((e :: r)[i]?).join) ∘ Nat.succ) = r.filterMap id := by
      rw [← ih]; rfl
    rw [this]
    cases e <;> simp
theorem polys_take {ps : List Part} {i : Nat} {ss : Part} (e : ps[i]? = some ss) : polys (ps.take (i + 1)) = polys (ps.take i) ++ if 1 < (corners ss).length then [corners ss] else [] := by
  rw [List.take_add_one, e]
  unfold polys
  rw [List.map_append, List.filter_append]
  congr 1
  simp only [Option.toList_some, List.map_cons, List.map_nil, List.filter_cons, List.filter_nil, decide_eq_true_eq]
theorem corners_len (ss : Part) : (corners ss).length ≤ ss.length := List.length_filterMap_le _ _
section
variable {w : World} {A : Around} {mg mb : Str → Option Value} {n₀ : Nat} {B Z₀ Z : Heap} {L : Addr} {m : Str → Option Value} {mu : List (Addr × Obj)} {h h' : Heap} {g : Array GenState} {d : Drawn} {t : Nat} {os : OsState} {E : Value → Shared → Prop} {env : Env}
  {v o : Value} {vs : List Value}
theorem tup_l {Q : Value → Shared → Prop} (F : Fx n₀ B Z₀ Z L m mu h) (T : Lst Z o vs) (hz : vs.length ≤ sizeLine) (q : ∀ r h' Z', Fx n₀ B Z₀ Z' L m mu h' → Z.StaysIn Z' → Tup Z' r vs → Q r ⟨h', g, d, t, os⟩) :
    wpAny (Mo w) A (call (.type "tuple") [o]) Q E ⟨h, g, d, t, os⟩ := by
  obtain ⟨a, rfl, o, ho, r⟩ := T
  exact tup_of F ⟨o, F.stay _ _ ho, r⟩ hz q
end
section
variable {w : World} {A : Around} {mg mb : Str → Option Value} {Z h : Heap} {g : Array GenState} {d : Drawn} {t : Nat} {os : OsState} {v p : Value} {X Y N : Int}
theorem flattened {ps : List Part} {u : Tok} (hA : Ok A 30) (W : Wd w mg mb Z) (hZ : Z.StaysIn h) (P : PathAt w Z v ps) :
    Cal w A ⟨h, g, d, t, os⟩ (call (.ref 327) [v, .int 3 u]) Z (fun Z' r => PathAt w Z' r ps) := by
  obtain ⟨p, vs, PV, T, a, l⟩ := P
  refine enterCells (args := ⟨[v, .int 3 u], []⟩) (binds := [("path", v), ("depth", .int 3 u)]) (fun L => [("depth", L + 1)]) hA.room W hZ (by k_is) (by k_is) (binds_K (W.K.keeps hZ) rfl (by k_is) rfl rfl rfl) (fun _ => rfl) (locsC ["path", "depth"] rfl (fun _ => rfl) (by decide)) (fun _ => nodup_of (ns := ["depth"]) rfl (by decide)) rfl rfl rfl fun L h₁ t₁ obs hob hL F => ?_
  refine wp_gen fun Qe hQe => ?_
  have hob := hob ("depth", L + 1) (.head _)
  have hL := hL ("depth", L + 1) (.head _)
  obtain ⟨Z1, F, l1, e1⟩ := Fx.freeze F hL
  have C : CellZ Z1 (L + 1) (.int 3 u) := ⟨_, e1, hob⟩
  have PV := PV.up l1
  (repeat' tb_rel)
  refine it_tup hA.hd (by assumption) (T.up l1) fun I h2 nu St It hs F2 => ?_
  refine w_comp (It _) (by decide) rfl (fun Z v ss => PartAt w Z v ss) (fun i => ps[i]?) F2 hs (by rw [PySem.sizeLine_eq]; omega) (fun _ _ _ _ k x => x.up k) ?_ ?_
  · rintro C' i' v' Z2 mC mu' h3 t3 hi hz F3 ⟨nu', hP, -⟩
    obtain ⟨ss, hss, S⟩ := a.get hP
    have W1 := W.up l1
    have C2 := C.up hz
    (repeat' tb_rel)
    rename Fx _ _ _ _ _ _ _ _ => F4
    refine Cal.use (flat_part (hA.deeper.less (by first | decide | omega)) (W1.up F4.le) F4.stay (S.up (stays_trans l1 hz))) F4 fun r9 h9 t9 Z9 F9 l9 E9 => ?_
    exact ⟨_, _, _, _, rfl, F9, l9, ss, hss, E9⟩
  · intro rv h6 t6 Z6 rs F6 l6 T6 R6
    rw [a.length, fm_some] at R6
    have hrl := R6.length
    have hal := a.length
    (repeat' tb_rel)
    refine tup_l F6 T6 (by rw [PySem.sizeLine_eq]; omega) fun r7 h7 Z7 F7 l7 T7 => ?_
    (repeat' tb_rel)
    refine Cal.use (path_new (hA.deeper.less (by first | decide | omega)) (W.up F7.le) F7.stay) F7 fun r8 h8 t8 Z8 F8 l8 P8 => ?_
    exact hQe _ _ ⟨_, _, _, _, _, rfl, F8, _, _, P8, T7.up l8, R6.mono fun _ _ y => y.up (stays_trans l7 l8), by omega⟩
theorem lines_of {ps : List Part} {u : Tok} (hA : Ok A 35) (W : Wd w mg mb Z) (hZ : Z.StaysIn h) (P : PathAt w Z v ps) (hl : ps.length ≤ 20) (hs : ∀ ss ∈ ps, ss.length ≤ 20) :
    Cal w A ⟨h, g, d, t, os⟩ (call (.ref 333) [v, .int 3 u]) Z (fun Z' r => PolysAt w Z' r (polys ps)) := by
  refine enter (args := ⟨[v, .int 3 u], []⟩) (binds := [("path", v), ("depth", .int 3 u)]) hA.room W hZ (by k_is) (by k_is) (binds_K (W.K.keeps hZ) rfl (by k_is) rfl rfl rfl) (locs rfl) rfl rfl rfl (by decide) fun L h₁ t₁ F => ?_
  refine wp_gen fun Qe hQe => ?_
  (repeat' tb_rel)
  rename_i D _ _ hD _ F1
  refine Cal.use (flattened (hA.deeper.less (by first | decide | omega)) (W.up F1.le) F1.stay (P.up F1.le)) F1 fun r9 h9 t9 Z9 F9 l9 P9 => ?_
  obtain ⟨p, vs, PV, T, a, l⟩ := P9
  (repeat' tb_rel)
  refine it_tup hA.hd F9 T fun I h2 nu St It hs2 F2 => ?_
  refine w_for (It _) (fun i Z' m mu => ∃ k ys, mu = [(D, lo k ys)] ∧ All2 (PolyAt w Z') ys (polys (ps.take i)) ∧ ys.length ≤ i ∧ m "found" = some (.ref D)) F2 stays_refl hs2 ⟨_, _, rfl, .nil, by simp, rfl⟩ ?_ ?_
  · rintro i v Z' m mu nu h t hi hz F3 hP ⟨k, ys, rfl, R, hly, hm⟩
    refine wp_gen2 fun Qf hQf => ?_
    obtain ⟨ss, hss, xs, Tx, ax, lx⟩ := a.get hP
    have hsl := hs ss (List.mem_of_getElem? hss)
    have hxl := ax.length
    have hal := a.length
    have Tx := Tx.up hz
    simp only [List.cons_append, List.nil_append] at F3
    (repeat' tb_rel)
    rename Fx _ _ _ _ _ _ _ _ => F4
    refine it_tup hA.hd F4 Tx fun I5 h5 nu5 St5 It5 hs5 F5 => ?_
    refine w_compA (It5 _) (by decide) rfl (fun Z v q => Pt w Z v q) (fun i => (ss[i]?).join) F5 hs5 (by rw [PySem.sizeLine_eq]; omega) (fun _ _ _ _ k x => x.up k) rfl rfl rfl ?_ ?_
    · rintro C6 i6 v6 Z6 mC mu6 h6 t6 hi6 hz6 F6 ⟨nu6, hP6, -⟩
      obtain ⟨s, hse, S⟩ := ax.get hP6
      have W1 := W.up (stays_trans l9 hz)
      cases s with
      | some q =>
        obtain ⟨tag, tk, pv, n1, n2, Tg, Pp⟩ := S
        have Tg := Tg.up (stays_trans hz hz6)
        have Pp := Pp.up (stays_trans hz hz6)
        (repeat' tb_rel)
        rename Fx _ _ _ _ _ _ _ _ => Fe
        exact ⟨_, _, _, _, rfl, Fe, stays_refl, q, by show (ss[i6]?).join = _; rw [hse]; rfl, Pp⟩
      | none =>
        obtain ⟨tk, Tg⟩ := S
        have Tg := Tg.up (stays_trans hz hz6)
        (repeat' tb_rel)
        · exact absurd rfl (by assumption : ¬ (("close" : Str) = "close"))
        · rename Fx _ _ _ _ _ _ _ _ => Fe
          exact ⟨_, _, _, _, rfl, Fe, stays_refl, by show (ss[i6]?).join = _; rw [hse]; rfl⟩
    · intro rv h6 t6 Z6 rs F6 l6 T6 R6
      rw [hxl, fm_corners] at R6
      have hrc := R6.length
      have hcl := corners_len ss
      have Pn : PolyAt w Z6 rv (corners ss) := ⟨rs, T6, R6, by omega⟩
      (repeat' tb_rel)
      · rename (rs.length : Int) > 1 => hc1
        rename Fx _ _ _ _ _ _ _ _ => Fe
        refine hQf _ _ ⟨rfl, _, _, _, _, [(D, lo _ _)], rfl, Fe, l6, _, _, rfl, ?_, by simp; omega, hm⟩
        rw [polys_take hss, if_pos (by first | decide | omega)]
        exact (R.mono fun _ _ y => y.up l6).snoc Pn
      · rename ¬ (rs.length : Int) > 1 => hc1
        rename Fx _ _ _ _ _ _ _ _ => Fe
        refine hQf _ _ ⟨rfl, _, _, _, _, [(D, lo _ _)], rfl, Fe, l6, _, _, rfl, ?_, by omega, hm⟩
        rw [polys_take hss, if_neg (by first | decide | omega), List.append_nil]
        exact R.mono fun _ _ y => y.up l6
  · rintro Z' m mu h t F3 ⟨k, ys, rfl, R, hly, hm⟩
    have hal := a.length
    rw [hal, List.take_length] at R
    (repeat' tb_rel)
    rename Fx _ _ _ _ _ _ _ _ => F4
    obtain ⟨Zf, Ff, lf, ef⟩ := F4.freeze hD
    exact hQe _ _ ⟨_, _, _, _, _, rfl, Ff, ys, ⟨D, rfl, _, ef, rfl, _, rfl⟩, R.mono fun _ _ y => y.up lf, by omega⟩
end
/-- rows of signs -/
def RowV (v : Value) (r : List Bool) : Prop := ∃ u, v = .str (txt r) u
def RowsAt (Z : Heap) (v : Value) (rows : List (List Bool)) : Prop := ∃ vs, Lst Z v vs ∧ All2 RowV vs rows
theorem RowsAt.up {Z Z' : Heap} {v : Value} {rows : List (List Bool)} (x : RowsAt Z v rows) (k : Z.StaysIn Z') : RowsAt Z' v rows := by
  obtain ⟨vs, T, a⟩ := x
  exact ⟨vs, T.up k, a⟩
theorem fm_range {α : Type} (f : Nat → α) (n : Nat) : (List.range n).filterMap (fun i => some (f i)) = (List.range n).map f := by
  rw [← List.filterMap_eq_map]; rfl
theorem wholeEdges_len (cs : List (List Q2)) (hc : ∀ c ∈ cs, c.length ≤ 20) : (wholeEdges cs).length ≤ 20 * cs.length := by
  induction cs with
  | nil => simp [wholeEdges]
  | cons c r ih =>
    have h1 := ih fun c hc' => hc c (.tail _ hc')
    have h2 := hc c (.head _)
    have h3 : (edgesOf c).length ≤ c.length := by unfold edgesOf; have := List.length_filterMap_le (edgeAt c) (List.range c.length); simpa using this
    unfold wholeEdges at *
    simp only [List.flatMap_cons, List.length_append, List.length_cons]
    omega
section
variable {w : World} {A : Around} {n₀ : Nat} {B Z₀ Z : Heap} {L : Addr} {m : Str → Option Value} {mu : List (Addr × Obj)} {h h' : Heap} {g : Array GenState} {d : Drawn} {t : Nat} {os : OsState} {E : Value → Shared → Prop} {env : Env} {v : Value}
theorem it_down {N : Nat} {Q : Value → Shared → Prop} {a b : Int} (hA : A.handled = none) (F : Fx n₀ B Z₀ Z L m mu h) (T : Rng Z v a b (-1)) (ha : a = (N : Int) - 1) (hb : b = -1) (h1 : N < 1000)
    (q : ∀ I h' nu St, (∀ tgt, Itr w A Z I N (fun _ i v => ∃ u, v = .int ((N : Int) - 1 + i * (-1)) u) tgt St) → St 0 nu → Fx n₀ B Z₀ Z L m (mu ++ nu) h' → Q (.ref I) ⟨h', g, d, t, os⟩) : wpAny (Mo w) A (pyIter v) Q E ⟨h, g, d, t, os⟩ := by
  subst ha hb
  exact it_range (k := N) hA F T (small_down (by first | decide | omega) (by first | decide | omega) (by first | decide | omega) (by first | decide | omega)) (by rw [rangeSize_down]; split <;> omega) q
end
section
variable {w : World} {A : Around} {mg mb : Str → Option Value} {Z h : Heap} {g : Array GenState} {d : Drawn} {t : Nat} {os : OsState} {v p : Value} {X Y N : Int}
theorem raster {ps : List Part} {ev : Bool} {W' H' : Nat} {u1 u2 u3 : Tok} (hA : Ok A 40) (W : Wd w mg mb Z) (hZ : Z.StaysIn h) (P : PathAt w Z v ps) (hl : ps.length ≤ 20) (hs : ∀ ss ∈ ps, ss.length ≤ 20) (hb : Bnd (polys ps)) (hW : W' ≤ 20) (hH : H' ≤ 20) :
    Cal w A ⟨h, g, d, t, os⟩ (call (.ref 385) [v, .str (ruleOf ev) u1, .int W' u2, .int H' u3]) Z (fun Z' r => RowsAt Z' r (rasterB ps ev W' H')) := by
  refine enterCells (args := ⟨[v, .str (ruleOf ev) u1, .int W' u2, .int H' u3], []⟩) (binds := [("path", v), ("rule", .str (ruleOf ev) u1), ("width", .int W' u2), ("height", .int H' u3), ("depth", .int 3 416)]) (fun L => [("unit", L + 1 + 1 + 1 + 1), ("edges", L + 1 + 1 + 1), ("width", L + 1 + 1), ("rule", L + 1)]) hA.room W hZ (by k_is) (by k_is) (binds_K (W.K.keeps hZ) rfl (by k_is) rfl rfl rfl) (fun _ => rfl) (locsC ["path", "rule", "width", "height", "depth"] rfl (fun _ => rfl) (by decide)) (fun _ => nodup_of (ns := ["unit", "edges", "width", "rule"]) rfl (by decide)) rfl rfl rfl fun L h₁ t₁ obs hob hL F => ?_
  refine wp_gen fun Qe hQe => ?_
  have o1 := hob ("unit", L + 1 + 1 + 1 + 1) (.head _)
  have o2 := hob ("edges", L + 1 + 1 + 1) (.tail _ (.head _))
  have o3 := hob ("width", L + 1 + 1) (.tail _ (.tail _ (.head _)))
  have o4 := hob ("rule", L + 1) (.tail _ (.tail _ (.tail _ (.head _))))
  have b1 := hL ("unit", L + 1 + 1 + 1 + 1) (.head _)
  have b2 := hL ("edges", L + 1 + 1 + 1) (.tail _ (.head _))
  have b3 := hL ("width", L + 1 + 1) (.tail _ (.tail _ (.head _)))
  have b4 := hL ("rule", L + 1) (.tail _ (.tail _ (.tail _ (.head _))))
  clear hob hL
  have F0 : Fx _ _ _ _ _ _ ([(L + 1, obs "rule"), (L + 1 + 1, obs "width"), (L + 1 + 1 + 1, obs "edges"), (L + 1 + 1 + 1 + 1, obs "unit")] : List (Addr × Obj)) h₁ := F.perm (List.reverse_perm _).symm
  obtain ⟨Z1, F1, l1, e1⟩ := F0.freeze b4
  obtain ⟨Z2, F2, l2, e2⟩ := F1.freeze b3
  have C1 : CellZ Z2 (L + 1) (.str (ruleOf ev) u1) := ⟨_, l2 _ _ e1, o4⟩
  have C2 : CellZ Z2 (L + 1 + 1) (.int W' u2) := ⟨_, e2, o3⟩
  have l2 := stays_trans l1 l2
  clear F F0 F1
  (repeat' tb_rel)
  refine Cal.use (lines_of (hA.deeper.less (by first | decide | omega)) (W.up F2.le) F2.stay (P.up F2.le) hl hs) F2 fun r3 h3 t3 Z3 F3 l3 P3 => ?_
  (repeat' tb_rel)
  rename Fx _ _ _ _ _ _ _ _ => F4
  obtain ⟨pvs, Tp, ap, lp⟩ := id P3
  refine it_lst hA.hd F4 Tp fun I h5 nu St It hs5 F5 => ?_
  refine w_for (It _) (fun i Z' m mu => mu = [(L + 1 + 1 + 1, obs "edges"), (L + 1 + 1 + 1 + 1, obs "unit")] ∧ Z3.StaysIn Z' ∧ (∃ u, m "places" = some (.int 1 u)) ∧ m "polygons" = some r3 ∧ m "height" = some (.int H' u3)) F5 stays_refl hs5 ⟨rfl, stays_refl, ⟨_, rfl⟩, rfl, rfl⟩ ?_ ?_
  · rintro i v6 Z6 m6 mu6 nu6 h6 t6 hi hz6 F6 hP6 ⟨rfl, q6, ⟨u6, m1⟩, m2, m3⟩
    refine wp_gen2 fun Qf hQf => ?_
    obtain ⟨c, hc, Pc⟩ := ap.get hP6
    (repeat' tb_rel)
    rename Fx _ _ _ _ _ _ _ _ => F7
    refine Cal.use (places_of (hA.deeper.less (by first | decide | omega)) (W.up F7.le) F7.stay (Pc.up hz6)) F7 fun r8 h8 t8 Z8 F8 l8 E8 => ?_
    obtain ⟨u8, rfl⟩ := E8
    (repeat' tb_rel)
    rename Fx _ _ _ _ _ _ _ _ => Fe
    exact hQf _ _ ⟨rfl, _, _, _, _, _, rfl, Fe, l8, rfl, stays_trans q6 l8, ⟨_, rfl⟩, m2, m3⟩
  · rintro Z6 m6 mu6 h6 t6 F6 ⟨rfl, q6, ⟨u6, m1⟩, m2, m3⟩
    (repeat' tb_rel)
    refine Cal.use (whole_edges (hA.deeper.less (by first | decide | omega)) (W.up F6.le) F6.stay (P3.up q6) hb) F6 fun r7 h7 t7 Z7 F7 l7 E7 => ?_
    (repeat' tb_rel)
    refine st_C F7 o2 rfl rfl rfl fun h8 o8 F8 d8 => ?_
    obtain ⟨Z9, F9, l9, e9⟩ := F8.freeze b2
    have C3 : CellZ Z9 (L + 1 + 1 + 1) r7 := ⟨_, e9, d8⟩
    (repeat' tb_rel)
    have e5 : (5 : Int) * 10 ^ ((1 : Int) - 1).toNat = 5 := by decide
    refine st_C F9 o1 rfl rfl rfl fun h10 o10 F10 d10 => ?_
    rw [e5] at d10
    obtain ⟨Z11, F11, l11, e11⟩ := F10.freeze b1
    have C4 := (show CellZ Z11 (L + 1 + 1 + 1 + 1) (.int 5 _) from ⟨_, e11, d10⟩)
    have C3 := C3.up l11
    have q11 := stays_trans l7 (stays_trans l9 l11)
    have q12 := stays_trans l3 (stays_trans q6 q11)
    have C1 := C1.up q12
    have C2 := C2.up q12
    (repeat' tb_rel)
    rename Rng _ _ _ _ _ => Rg
    rename Heap.StaysIn Z11 _ => l12
    rename Fx _ _ _ _ _ _ _ _ => F12
    refine it_down hA.hd F12 Rg rfl rfl (by first | decide | omega) fun I13 h13 nu13 St13 It13 hs13 F13 => ?_
    refine w_comp (It13 _) (by decide) rfl (fun _ v r => RowV v r) (fun i => some (rowB (wholeEdges (polys ps)) ev W' (rowY H' i))) F13 hs13 (by rw [PySem.sizeLine_eq]; omega) (fun _ _ _ _ k x => x) ?_ ?_
    · rintro C14 i14 v14 Z14 mC mu14 h14 t14 hi14 hz14 F14 ⟨nu14, ⟨u14, rfl⟩, -⟩
      have W1 := W.up F12.le
      have q14 := stays_trans l12 hz14
      have C1 := C1.up q14
      have C2 := C2.up q14
      have C3 := C3.up q14
      have C4 := C4.up q14
      have eY : (2 * ((H' : Int) - 1 + i14 * (-1)) + 1) * 5 = rowY H' i14 := by unfold rowY; omega
      (repeat' tb_rel)
      rename Fx _ _ _ _ _ _ _ _ => F15
      rw [eY]
      refine Cal.use (row_text (hA.deeper.less (by first | decide | omega)) (W1.up F15.le) F15.stay (E7.up (stays_trans l9 (stays_trans l11 q14))) hW (by unfold rowY; omega)) F15 fun r16 h16 t16 Z16 F16 l16 E16 => ?_
      exact ⟨_, _, _, _, rfl, F16, l16, _, rfl, E16⟩
    · intro rv h14 t14 Z14 rs F14 l14 T14 R14
      rw [fm_range] at R14
      exact hQe _ _ ⟨_, _, _, _, _, rfl, F14, _, T14, R14⟩
end
abbrev AI : String := "str_ascii_iterator"
structure ZApart (z TI TO i1 i2 : Addr) : Prop where
  TIz : TI ≠ z
  TOz : TO ≠ z
  i1z : i1 ≠ z
  i2z : i2 ≠ z
  TITO : TI ≠ TO
  TIi1 : TI ≠ i1
  TIi2 : TI ≠ i2
  TOi1 : TO ≠ i1
  TOi2 : TO ≠ i2
  i12 : i1 ≠ i2
theorem sit_at {h h' : Heap} {a : Addr} {ty : String} {x : Str} {t : Tok} {i : Nat} (y : h.IsStrIter a ty x t i) (hs : ∀ o, h.get? a = some o → h'.get? a = some o) : h'.IsStrIter a ty x t i := by
  obtain ⟨o, ho, r⟩ := y
  exact ⟨o, hs o ho, r⟩
section
variable {prog : Program} {w : World} {A : Around} {E : Value → Shared → Prop} {s : Shared}
theorem zs_next_item {z TI TO i1 i2 : Addr} {k1 k2 : Nat} {x y : Str} {tx ty : Tok} {c1 c2 : Nat} {a b : Value} {Q : Value → Shared → Prop} (D : ZApart z TI TO i1 i2)
    (hz : IsZip s.heap z TI TO .none) (hTI : IsPair s.heap TI (.ref i1) (.ref i2)) (hTO : IsPair s.heap TO a b)
    (h1 : s.heap.IsStrIter i1 AI x tx k1) (h2 : s.heap.IsStrIter i2 AI y ty k2) (hx : x.cps[k1]? = some c1) (hy : y.cps[k2]? = some c2)
    (hQ : ∀ h' u1 u2, IsZip h' z TI TO (rawInt s.heap.objs.size) → IsPair h' TO (.str ⟨#[c1]⟩ u1) (.str ⟨#[c2]⟩ u2) → h'.IsStrIter i1 AI x tx (k1 + 1) → h'.IsStrIter i2 AI y ty (k2 + 1) → IsPair h' s.heap.objs.size (.str ⟨#[c1]⟩ u1) (.str ⟨#[c2]⟩ u2) →
      (∀ c o, c ≠ z → c ≠ TO → c ≠ i1 → c ≠ i2 → s.heap.get? c = some o → h'.get? c = some o) → Q (.ref s.heap.objs.size) { s with heap := h', toks := s.toks + 1 + 1 }) :
    wpAny (model prog w) A (Builtin.«zip.__next__» ⟨[.ref z], []⟩) (fun fin s' => ∃ v, fin = .done (.ret v) ∧ Q v s') E s := by
  show wpAny _ _ (field (.ref z) 2 >>= _) _ _ _
  refine wpAny_bind (wpAny_field hz rfl (x := .bool false) rfl ?_)
  show wpAny _ _ (field (.ref z) 3 >>= _) _ _ _
  refine wpAny_bind (wpAny_field hz rfl (x := .ref TI) rfl ?_)
  refine wpAny_bind (wpAny_seqItems hTI rfl ?_)
  show wpAny _ _ (Builtin.SmallTypes.ownedTupleIsFree (.ref z) >>= _) _ _ _
  refine wpAny_bind ?_
  unfold Builtin.SmallTypes.ownedTupleIsFree
  refine wpAny_bind (wpAny_field hz rfl (x := .none) rfl (wpAny_pure ?_))
  simp only [if_true]
  refine wpAny_bind (wpAny_rule ?_)
  refine wpAny_bind (wpAny_field hz rfl (x := .ref TO) rfl ?_)
  refine wpAny_bind (wpAny_setField_rec hz (by simp) fun h₁ hz₁ hs₁ => ?_)
  replace hz₁ : IsZip h₁ z TI TO .ellipsis := hz₁
  refine wpAny_bind ?_
  simp only [List.zipIdx_cons, List.zipIdx_nil, List.forIn_cons, List.forIn_nil]
  refine wpAny_bind (wpAny_bind (wpAny_onRaise ?_))
  show wpAny _ _ (Builtin.SmallTypes.nextOf (.ref i1) >>= _) _ _ _
  refine wpAny_bind (wpAny_nextOf_ascii_item (h1.extBut hs₁.extBut D.i1z) hx fun h₂ h1₂ hs₂ => wpAny_pure ?_)
  have hTO₂ : IsPair h₂ TO a b := hs₂.extBut _ _ D.TOi1 (hs₁.extBut _ _ D.TOz hTO)
  refine wpAny_bind (wpAny_seqItems hTO₂ rfl ?_)
  refine wpAny_bind (wpAny_updateSeq_pair hTO₂ fun h₃ hTO₃ hs₃ => ?_)
  replace hTO₃ : IsPair h₃ TO (.str ⟨#[c1]⟩ _) b := hTO₃
  refine wpAny_bind (wpAny_letGo (wpAny_pure ?_))
  refine wpAny_bind (wpAny_bind (wpAny_onRaise ?_))
  show wpAny _ _ (Builtin.SmallTypes.nextOf (.ref i2) >>= _) _ _ _
  refine wpAny_bind (wpAny_nextOf_ascii_item (((h2.extBut hs₁.extBut D.i2z).extBut hs₂.extBut D.i12.symm).extBut hs₃.extBut D.TOi2.symm) hy fun h₄ h2₄ hs₄ => wpAny_pure ?_)
  have hTO₄ := hs₄.extBut _ _ D.TOi2 hTO₃
  refine wpAny_bind (wpAny_seqItems hTO₄ rfl ?_)
  refine wpAny_bind (wpAny_updateSeq_pair hTO₄ fun h₅ hTO₅ hs₅ => ?_)
  replace hTO₅ : IsPair h₅ TO (.str ⟨#[c1]⟩ _) (.str ⟨#[c2]⟩ _) := hTO₅
  refine wpAny_bind (wpAny_letGo (wpAny_pure (wpAny_pure ?_)))
  refine wpAny_bind (wpAny_seqItems hTO₅ rfl ?_)
  refine wpAny_bind (wpAny_newTuple ?_)
  have hsz : h₅.objs.size = s.heap.objs.size := by rw [hs₅.1, hs₄.1, hs₃.1, hs₂.1, hs₁.1]
  have hz₅ : IsZip h₅ z TI TO .ellipsis := hs₅.extBut _ _ D.TOz.symm (hs₄.extBut _ _ D.i2z.symm (hs₃.extBut _ _ D.TOz.symm (hs₂.extBut _ _ D.i1z.symm hz₁)))
  have hk₅ : ∀ c o, c ≠ z → c ≠ TO → c ≠ i1 → c ≠ i2 → s.heap.get? c = some o → h₅.get? c = some o := fun c o c1 c2 c3 c4 e =>
    hs₅.extBut _ _ c2 (hs₄.extBut _ _ c4 (hs₃.extBut _ _ c2 (hs₂.extBut _ _ c3 (hs₁.extBut _ _ c1 e))))
  have h1₅ : h₅.IsStrIter i1 AI x tx (k1 + 1) := ((h1₂.extBut hs₃.extBut D.TOi1.symm).extBut hs₄.extBut D.i12).extBut hs₅.extBut D.TOi1.symm
  have h2₅ : h₅.IsStrIter i2 AI y ty (k2 + 1) := h2₄.extBut hs₅.extBut D.TOi2.symm
  have hzlt : z < h₅.objs.size := Heap.lt_size hz₅
  show wpAny _ _ (Builtin.SmallTypes.ownedTupleHandOut (.ref z) (.ref h₅.objs.size) >>= _) _ _ _
  refine wpAny_bind ?_
  unfold Builtin.SmallTypes.ownedTupleHandOut
  generalize hpo : ({ cls := .type "tuple", data := .seq #[.str ⟨#[c1]⟩ _, .str ⟨#[c2]⟩ _] } : Obj) = po at *
  have hz₆ : IsZip (h₅.push po) z TI TO .ellipsis := Heap.get?_push_of_some _ hz₅
  refine wpAny_bind (wpAny_setField_rec hz₆ (by simp) fun h₇ hz₇ hs₇ => ?_)
  replace hz₇ : IsZip h₇ z TI TO (rawInt h₅.objs.size) := hz₇
  refine wpAny_setField_rec hz₇ (by simp) fun h₈ hz₈ hs₈ => ?_
  replace hz₈ : IsZip h₈ z TI TO (rawInt h₅.objs.size) := hz₈
  have up : ∀ c o, c ≠ z → h₅.get? c = some o → h₈.get? c = some o := fun c o c1 e => hs₈.extBut _ _ c1 (hs₇.extBut _ _ c1 (Heap.get?_push_of_some _ e))
  have hT₈ : h₈.get? h₅.objs.size = some po := hs₈.extBut _ _ (Nat.ne_of_gt hzlt) (hs₇.extBut _ _ (Nat.ne_of_gt hzlt) (Heap.get?_push_size _ (by rw [← hpo]; rfl)))
  rw [hsz] at hz₈ hT₈
  refine wpAny_pure ⟨_, rfl, ?_⟩
  show Q (.ref h₅.objs.size) _
  rw [hsz]
  subst hpo
  exact hQ h₈ _ _ hz₈ (up _ _ D.TOz hTO₅) (sit_at h1₅ fun o e => up _ o D.i1z e) (sit_at h2₅ fun o e => up _ o D.i2z e) hT₈ fun c o c1 c2 c3 c4 e => up c o c1 (hk₅ c o c1 c2 c3 c4 e)
theorem zs_pyNext_item {z TI TO i1 i2 : Addr} {k1 k2 : Nat} {x y : Str} {tx ty : Tok} {c1 c2 : Nat} {a b : Value} {Q : Option Value → Shared → Prop} (D : ZApart z TI TO i1 i2)
    (hz : IsZip s.heap z TI TO .none) (hTI : IsPair s.heap TI (.ref i1) (.ref i2)) (hTO : IsPair s.heap TO a b)
    (h1 : s.heap.IsStrIter i1 AI x tx k1) (h2 : s.heap.IsStrIter i2 AI y ty k2) (hx : x.cps[k1]? = some c1) (hy : y.cps[k2]? = some c2)
    (hQ : ∀ h' u1 u2, IsZip h' z TI TO (rawInt s.heap.objs.size) → IsPair h' TO (.str ⟨#[c1]⟩ u1) (.str ⟨#[c2]⟩ u2) → h'.IsStrIter i1 AI x tx (k1 + 1) → h'.IsStrIter i2 AI y ty (k2 + 1) → IsPair h' s.heap.objs.size (.str ⟨#[c1]⟩ u1) (.str ⟨#[c2]⟩ u2) →
      (∀ c o, c ≠ z → c ≠ TO → c ≠ i1 → c ≠ i2 → s.heap.get? c = some o → h'.get? c = some o) → Q (some (.ref s.heap.objs.size)) { s with heap := h', toks := s.toks + 1 + 1 }) :
    wpAny (model prog w) A (pyNext (.ref z)) Q E s := by
  have hT : s.TypeIs (.ref z) "zip" := ⟨_, hz, rfl⟩
  unfold pyNext
  exact wpAny_bind (wpAny_attempt (wpAny_callSpecial?_slot (name := Str.ofString "__next__") hT F.slot_zip_next
    (wpAny_call_entry F.slot_zip_next hT F.entry_zip_next
      (zs_next_item D hz hTI hTO h1 h2 hx hy fun h' u1 u2 a1 a2 a3 a4 a5 a6 => wpAny_pure (hQ h' u1 u2 a1 a2 a3 a4 a5 a6)) (F.args_zip_next_1 _))))
theorem zs_next_end {z TI TO i1 i2 : Addr} {k1 k2 : Nat} {x y : Str} {tx ty : Tok} {a b : Value} {Q : Fin → Shared → Prop} (hh : A.handled = none) (D : ZApart z TI TO i1 i2)
    (hz : IsZip s.heap z TI TO .none) (hTI : IsPair s.heap TI (.ref i1) (.ref i2)) (hTO : IsPair s.heap TO a b)
    (h1 : s.heap.IsStrIter i1 AI x tx k1) (hx : x.cps[k1]? = none)
    (hE : ∀ h' e, (∀ c o, c ≠ z → c ≠ TO → c ≠ i1 → c ≠ i2 → s.heap.get? c = some o → h'.get? c = some o) → (∃ o, h'.get? e = some o ∧ o.cls = .type "StopIteration") → E (.ref e) { s with heap := h' }) :
    wpAny (model prog w) A (Builtin.«zip.__next__» ⟨[.ref z], []⟩) Q E s := by
  show wpAny _ _ (field (.ref z) 2 >>= _) _ _ _
  refine wpAny_bind (wpAny_field hz rfl (x := .bool false) rfl ?_)
  show wpAny _ _ (field (.ref z) 3 >>= _) _ _ _
  refine wpAny_bind (wpAny_field hz rfl (x := .ref TI) rfl ?_)
  refine wpAny_bind (wpAny_seqItems hTI rfl ?_)
  show wpAny _ _ (Builtin.SmallTypes.ownedTupleIsFree (.ref z) >>= _) _ _ _
  refine wpAny_bind ?_
  unfold Builtin.SmallTypes.ownedTupleIsFree
  refine wpAny_bind (wpAny_field hz rfl (x := .none) rfl (wpAny_pure ?_))
  simp only [if_true]
  refine wpAny_bind (wpAny_rule ?_)
  refine wpAny_bind (wpAny_field hz rfl (x := .ref TO) rfl ?_)
  refine wpAny_bind (wpAny_setField_rec hz (by simp) fun h₁ hz₁ hs₁ => ?_)
  replace hz₁ : IsZip h₁ z TI TO .ellipsis := hz₁
  refine wpAny_bind ?_
  simp only [List.zipIdx_cons, List.zipIdx_nil, List.forIn_cons, List.forIn_nil]
  refine wpAny_bind (wpAny_bind (wpAny_onRaise ?_))
  show wpAny _ _ (Builtin.SmallTypes.nextOf (.ref i1) >>= _) _ _ _
  refine wpAny_bind (wpAny_nextOf_ascii_end hh (h1.extBut hs₁.extBut D.i1z) hx fun h₂ e hs₂ he => ?_)
  obtain ⟨oe, hoe, hce⟩ := he
  have hz₂ : IsZip h₂ z TI TO .ellipsis := hs₂ _ _ D.i1z.symm hz₁
  have hez : e ≠ z := fun x => by subst x; rw [hz₂] at hoe; cases hoe; simp at hce
  refine wpAny_setField_rec hz₂ (by simp) fun h₃ _ hs₃ => hE h₃ e (fun c o c1 c2 c3 c4 x => hs₃.extBut _ _ c1 (hs₂ _ _ c3 (hs₁.extBut _ _ c1 x))) ⟨oe, hs₃.extBut _ _ hez hoe, hce⟩
theorem zs_pyNext_end {z TI TO i1 i2 : Addr} {k1 k2 : Nat} {x y : Str} {tx ty : Tok} {a b : Value} {Q : Option Value → Shared → Prop} (hh : A.handled = none) (D : ZApart z TI TO i1 i2)
    (hz : IsZip s.heap z TI TO .none) (hTI : IsPair s.heap TI (.ref i1) (.ref i2)) (hTO : IsPair s.heap TO a b)
    (h1 : s.heap.IsStrIter i1 AI x tx k1) (hx : x.cps[k1]? = none)
    (hQ : ∀ h', (∀ c o, c ≠ z → c ≠ TO → c ≠ i1 → c ≠ i2 → s.heap.get? c = some o → h'.get? c = some o) → Q none { s with heap := h' }) : wpAny (model prog w) A (pyNext (.ref z)) Q E s := by
  have hT : s.TypeIs (.ref z) "zip" := ⟨_, hz, rfl⟩
  unfold pyNext
  refine wpAny_bind (wpAny_attempt (wpAny_callSpecial?_slot (name := Str.ofString "__next__") hT F.slot_zip_next
    (wpAny_call_entry F.slot_zip_next hT F.entry_zip_next (zs_next_end (k2 := k2) (y := y) (ty := ty) hh D hz hTI hTO h1 hx fun h' e hk he => ?_) (F.args_zip_next_1 _))))
  obtain ⟨o, ho, hc⟩ := he
  refine wpAny_bind (wpAny_isInstance (T := "StopIteration") (b := true) ⟨o, ho, hc⟩ isSubtype_stop ?_)
  exact wpAny_pure (hQ _ hk)
end
abbrev zI (x : Str) (t : Tok) : Obj := { cls := .type AI, data := .fields #[.str x t, .int 0 0] }
abbrev zA1 (h : Heap) (x : Str) (t : Tok) : Heap := h.push (zI x t)
abbrev zA2 (h : Heap) (x y : Str) (t u : Tok) : Heap := (zA1 h x t).push (zI y u)
abbrev zA3 (h : Heap) (x y : Str) (t u : Tok) : Heap := (zA2 h x y t u).push { cls := .type "tuple", data := .seq #[.ref h.objs.size, .ref (zA1 h x t).objs.size] }
abbrev zA4 (h : Heap) (x y : Str) (t u : Tok) : Heap := (zA3 h x y t u).push { cls := .type "tuple", data := .seq #[.none, .none] }
abbrev zA5 (h : Heap) (x y : Str) (t u : Tok) : Heap := (zA4 h x y t u).push { cls := .type "zip", data := .fields #[.none, .bool false, .bool false, .ref (zA2 h x y t u).objs.size, .ref (zA3 h x y t u).objs.size] }
theorem meets_zip_strs (x y : Str) (t u : Tok) (hx : x.cps.all (· < 128) = true) (hy : y.cps.all (· < 128) = true) :
    Meets (Builtin.«zip.__new__» ⟨[.type "zip", .str x t, .str y u], []⟩) (fun _ R s =>
      R (.ok (.ret (.ref (zA4 s.heap x y t u).objs.size))) { s with heap := zA5 s.heap x y t u }) :=
  .of_wp fun prog w A R s h => by
    obtain ⟨hp, g, d, tk, os⟩ := s
    have hsub := sub_zip
    wp_walk using wpAny_pyIter_ascii hx, wpAny_pyIter_ascii hy
    exact ⟨_, rfl, h⟩
section
variable {w : World} {A : Around} {n₀ : Nat} {B Z₀ Z : Heap} {L : Addr} {m : Str → Option Value} {mu : List (Addr × Obj)} {h h' : Heap} {g : Array GenState} {d : Drawn} {t : Nat} {os : OsState} {E : Value → Shared → Prop} {env : Env} {v : Value}
theorem call_zip_strs {x y : Str} {tx ty : Tok} {Q : Value → Shared → Prop} {s : Shared} (hx : x.cps.all (· < 128) = true) (hy : y.cps.all (· < 128) = true)
    (q : ∀ h' z TI TO i1 i2, ZApart z TI TO i1 i2 → IsZip h' z TI TO .none → IsPair h' TI (.ref i1) (.ref i2) → IsPair h' TO .none .none → h'.IsStrIter i1 AI x tx 0 → h'.IsStrIter i2 AI y ty 0 →
      (∀ c ∈ [z, TI, TO, i1, i2], s.heap.get? c = none) → s.heap.StaysIn h' → Q (.ref z) { s with heap := h' }) : wpAny (Mo w) A (call (.type "zip") [.str x tx, .str y ty]) Q E s := by
  refine callType_new F.called_zip (by decide) (F.typeCall_zip_2 _ _) (F.newCall_zip_2 _ _) (fun obj => F.args_object_init_3 obj _ _) F.entry_zip_new (meets_zip_strs x y tx ty hx hy) ?_
  have z1 : (zA1 s.heap x tx).objs.size = s.heap.objs.size + 1 := Heap.size_push ..
  have z2 : (zA2 s.heap x y tx ty).objs.size = s.heap.objs.size + 2 := by rw [Heap.size_push, z1]
  have z3 : (zA3 s.heap x y tx ty).objs.size = s.heap.objs.size + 3 := by rw [Heap.size_push, z2]
  have z4 : (zA4 s.heap x y tx ty).objs.size = s.heap.objs.size + 4 := by rw [Heap.size_push, z3]
  have g5 : (zA5 s.heap x y tx ty).get? (zA4 s.heap x y tx ty).objs.size = some _ := Heap.get?_push_size _ rfl
  have g4 : (zA5 s.heap x y tx ty).get? (zA3 s.heap x y tx ty).objs.size = some _ := Heap.get?_push_of_some _ (Heap.get?_push_size _ rfl)
  have g3 : (zA5 s.heap x y tx ty).get? (zA2 s.heap x y tx ty).objs.size = some _ := Heap.get?_push_of_some _ (Heap.get?_push_of_some _ (Heap.get?_push_size _ rfl))
  have g2 : (zA5 s.heap x y tx ty).get? (zA1 s.heap x tx).objs.size = some _ := Heap.get?_push_of_some _ (Heap.get?_push_of_some _ (Heap.get?_push_of_some _ (Heap.get?_push_size _ rfl)))
  have g1 : (zA5 s.heap x y tx ty).get? s.heap.objs.size = some _ := Heap.get?_push_of_some _ (Heap.get?_push_of_some _ (Heap.get?_push_of_some _ (Heap.get?_push_of_some _ (Heap.get?_push_size _ rfl))))
  show _ ∧ _
  rw [z2, z3, z4] at g5
  rw [z1, z2] at g3
  rw [z3] at g4
  rw [z1] at g2
  rw [z4]
  refine ⟨⟨_, g5, rfl⟩, q _ _ _ _ _ _ ⟨?_, ?_, ?_, ?_, ?_, ?_, ?_, ?_, ?_, ?_⟩ g5 g3 g4 ⟨_, g1, rfl, rfl⟩ ⟨_, g2, rfl, rfl⟩ (fun c hc => Heap.get?_none_of_le ?_) fun c o x =>
    Heap.get?_push_of_some _ (Heap.get?_push_of_some _ (Heap.get?_push_of_some _ (Heap.get?_push_of_some _ (Heap.get?_push_of_some _ x))))⟩
  all_goals first
  | (have hc' := hc
     simp only [List.mem_cons, List.not_mem_nil, or_false] at hc'
     show (s.heap.objs.size : Nat) ≤ (c : Nat)
     rcases hc' with e | e | e | e | e <;> rw [e] <;> first | exact Nat.le_refl _ | exact Nat.le_add_right _ _)
  | (show ((_ : Nat) ≠ (_ : Nat)); omega)
end
section
variable {w : World} {A : Around} {n₀ : Nat} {B Z₀ Z : Heap} {L : Addr} {m : Str → Option Value} {mu nu nu' : List (Addr × Obj)} {h h' : Heap} {g : Array GenState} {d : Drawn} {t : Nat} {os : OsState} {E : Value → Shared → Prop} {env : Env} {v o : Value}
/-- some of the turning things turn -/
theorem Fx.updN (F : Fx n₀ B Z₀ Z L m (mu ++ nu) h) (hk : ∀ c o, c ∉ nu.map (·.1) → h.get? c = some o → h'.get? c = some o) (he : nu'.map (·.1) = nu.map (·.1)) (hn : ∀ p ∈ nu', h'.get? p.1 = some p.2) : Fx n₀ B Z₀ Z L m (mu ++ nu') h' := by
  have out : ∀ p ∈ nu', ∃ q ∈ nu, q.1 = p.1 := fun p hp => by
    have : p.1 ∈ nu.map (·.1) := he ▸ List.mem_map_of_mem hp
    obtain ⟨q, hq, e⟩ := List.mem_map.mp this
    exact ⟨q, hq, e⟩
  have nd := F.nd
  rw [List.map_append] at nd
  have nsk : h'.Ns L m := by
    obtain ⟨oL, eL, nL⟩ := PyProof.Rows.LCg.ns_obj F.ns
    refine nL.ns (hk L _ (fun hm => ?_) eL)
    obtain ⟨q, hq, e⟩ := List.mem_map.mp hm
    exact (F.mus q (List.mem_append_right _ hq)).2.2.1 e
  refine ⟨nsk, fun b x e => hk b x (fun hm => ?_) (F.base b x e), F.le, fun b x e => hk b x (fun hm => ?_) (F.stay b x e), F.L0, F.new, F.LB, F.LZ, fun p hp => ?_, ?_⟩
  · obtain ⟨q, hq, e'⟩ := List.mem_map.mp hm
    have := (F.mus q (List.mem_append_right _ hq)).2.1
    rw [e', e] at this; cases this
  · obtain ⟨q, hq, e'⟩ := List.mem_map.mp hm
    have := (F.mus q (List.mem_append_right _ hq)).2.2.2
    rw [e', e] at this; cases this
  · rcases List.mem_append.mp hp with hp | hp
    · have P := F.mus p (List.mem_append_left _ hp)
      refine ⟨hk _ _ (fun hm => ?_) P.1, P.2⟩
      exact (List.nodup_append.mp nd).2.2 p.1 (List.mem_map_of_mem hp) p.1 hm rfl
    · obtain ⟨q, hq, e'⟩ := out p hp
      have P := F.mus q (List.mem_append_right _ hq)
      rw [e'] at P
      exact ⟨hn p hp, P.2⟩
  · rw [List.map_append, he]; exact nd
theorem Fx.dropN (F : Fx n₀ B Z₀ Z L m (mu ++ nu) h) (hk : ∀ c o, c ∉ nu.map (·.1) → h.get? c = some o → h'.get? c = some o) : Fx n₀ B Z₀ Z L m mu h' := by
  have nd := F.nd
  rw [List.map_append] at nd
  have nsk : h'.Ns L m := by
    obtain ⟨oL, eL, nL⟩ := PyProof.Rows.LCg.ns_obj F.ns
    refine nL.ns (hk L _ (fun hm => ?_) eL)
    obtain ⟨q, hq, e⟩ := List.mem_map.mp hm
    exact (F.mus q (List.mem_append_right _ hq)).2.2.1 e
  refine ⟨nsk, fun b x e => hk b x (fun hm => ?_) (F.base b x e), F.le, fun b x e => hk b x (fun hm => ?_) (F.stay b x e), F.L0, F.new, F.LB, F.LZ, fun p hp => ?_, (List.nodup_append.mp nd).1⟩
  · obtain ⟨q, hq, e'⟩ := List.mem_map.mp hm
    have := (F.mus q (List.mem_append_right _ hq)).2.1
    rw [e', e] at this; cases this
  · obtain ⟨q, hq, e'⟩ := List.mem_map.mp hm
    have := (F.mus q (List.mem_append_right _ hq)).2.2.2
    rw [e', e] at this; cases this
  · have P := F.mus p (List.mem_append_left _ hp)
    refine ⟨hk _ _ (fun hm => ?_) P.1, P.2⟩
    exact (List.nodup_append.mp nd).2.2 p.1 (List.mem_map_of_mem hp) p.1 hm rfl
abbrev zO (f : Value) (TI TO : Addr) : Obj := { cls := .type "zip", dict := none, data := .fields #[f, .bool false, .bool false, .ref TI, .ref TO], slots := #[] }
abbrev pO (a b : Value) : Obj := { cls := .type "tuple", data := .seq #[a, b] }
theorem sgn_eq (b : Bool) : (⟨#[if b then 120 else 46]⟩ : Str) = sgn b := by cases b <;> decide
theorem txt_at {r : List Bool} {i : Nat} {b : Bool} (e : r[i]? = some b) : (txt r).cps[i]? = some (if b then 120 else 46) := by simp [txt, e]
theorem txt_end (r : List Bool) : (txt r).cps[r.length]? = none := by simp [txt]
theorem txt_ascii (r : List Bool) : (txt r).cps.all (· < 128) = true := by
  rw [Array.all_eq_true']
  intro x hx
  simp only [txt, List.mem_toArray, List.mem_map] at hx
  obtain ⟨b, _, rfl⟩ := hx
  cases b <;> decide
def ZSt (z : Addr) (x y : List Bool) (i : Nat) (nu : List (Addr × Obj)) : Prop := ∃ TI TO i1 i2 tx ty a b o1 o2 rest, ZApart z TI TO i1 i2 ∧ nu = rest ++ [(z, zO .none TI TO), (TI, pO (.ref i1) (.ref i2)), (TO, pO a b), (i1, o1), (i2, o2)] ∧
  (o1.cls = .type AI ∧ o1.data = .fields #[.str (txt x) tx, .int i 0]) ∧ (o2.cls = .type AI ∧ o2.data = .fields #[.str (txt y) ty, .int i 0])
def ZP (x y : List Bool) (nu : List (Addr × Obj)) (i : Nat) (v : Value) : Prop := ∃ T u1 u2 b1 b2, v = .ref T ∧ x[i]? = some b1 ∧ y[i]? = some b2 ∧ (T, pO (.str (sgn b1) u1) (.str (sgn b2) u2)) ∈ nu
theorem itr_zip {z : Addr} {x y : List Bool} {elts : List Expr} {x1 : Nat} {pos : Pos} (hA : A.handled = none) (hxy : x.length = y.length) : Itr w A Z z x.length (ZP x y) (.Tuple elts x1 pos) (ZSt z x y) where
  item := by
    rintro n₀ B Z₀ Z' L m nu mu h g d t os i Q E E' hz F ⟨TI, TO, i1, i2, tx, ty, a, b, o1, o2, rest, D, rfl, ho1, ho2⟩ hi q
    rw [← List.append_assoc] at F
    have M := fun p hp => F.mus p (List.mem_append_right _ hp)
    have gz := (M (z, _) (.head _)).1
    have gTI := (M (TI, _) (.tail _ (.head _))).1
    have gTO := (M (TO, _) (.tail _ (.tail _ (.head _)))).1
    have g1 := (M (i1, _) (.tail _ (.tail _ (.tail _ (.head _))))).1
    have g2 := (M (i2, _) (.tail _ (.tail _ (.tail _ (.tail _ (.head _)))))).1
    have hb1 : x[i]? = some x[i] := List.getElem?_eq_getElem hi
    have hb2 : y[i]? = some (y[i]'(hxy ▸ hi)) := List.getElem?_eq_getElem _
    generalize x[i] = b1 at hb1
    generalize (y[i]'(hxy ▸ hi)) = b2 at hb2
    have fresh : h.get? h.objs.size = none := Heap.get?_none_of_le (Nat.le_refl _)
    refine zs_pyNext_item (s := ⟨h, g, d, t, os⟩) D gz gTI gTO ⟨o1, g1, ho1⟩ ⟨o2, g2, ho2⟩ (txt_at hb1) (txt_at hb2) fun h' u1 u2 a1 a2 a3 a4 a5 a6 => ⟨_, rfl, wpAny_letOwnedTupleGo_zip a1 fun h'' c1 c2 => ?_⟩
    rw [sgn_eq, sgn_eq] at a2 a5
    obtain ⟨o1', e1, k1⟩ := a3
    obtain ⟨o2', e2, k2⟩ := a4
    have nz : ∀ c o, c ≠ z → h'.get? c = some o → h''.get? c = some o := fun c o hc e => (c2.2 c hc).trans e
    have hTz : h.objs.size ≠ z := fun q => absurd (Heap.lt_size gz) (by rw [← q]; exact Nat.lt_irrefl _)
    have keep : ∀ c o, c ∉ ([(z, zO .none TI TO), (TI, pO (.ref i1) (.ref i2)), (TO, pO a b), (i1, o1), (i2, o2)] : List (Addr × Obj)).map (·.1) → h.get? c = some o → h''.get? c = some o := fun c o hc e => by
      simp only [List.map_cons, List.map_nil, List.mem_cons, List.not_mem_nil, or_false, not_or] at hc
      exact nz c o hc.1 (a6 c o hc.1 hc.2.2.1 hc.2.2.2.1 hc.2.2.2.2 e)
    have hTIs : h''.get? TI = some (pO (.ref i1) (.ref i2)) := nz _ _ D.TIz (a6 _ _ D.TIz D.TITO D.TIi1 D.TIi2 gTI)
    have F1 := Fx.updN (nu' := [(z, zO .none TI TO), (TI, pO (.ref i1) (.ref i2)), (TO, pO (.str (sgn b1) u1) (.str (sgn b2) u2)), (i1, o1'), (i2, o2')]) F keep rfl (fun p hp => by
      simp only [List.mem_cons, List.not_mem_nil, or_false] at hp
      rcases hp with rfl | rfl | rfl | rfl | rfl
      · exact c1
      · exact hTIs
      · exact nz _ _ D.TOz a2
      · exact nz _ _ D.i1z e1
      · exact nz _ _ D.i2z e2)
    have gT := nz _ _ hTz a5
    have nT : ∀ p ∈ mu ++ rest ++ [(z, zO .none TI TO), (TI, pO (.ref i1) (.ref i2)), (TO, pO (.str (sgn b1) u1) (.str (sgn b2) u2)), (i1, o1'), (i2, o2')], p.1 ≠ h.objs.size := fun p hp q => by
      have hp' : p.1 ∈ (mu ++ rest ++ [(z, zO .none TI TO), (TI, pO (.ref i1) (.ref i2)), (TO, pO (.str (sgn b1) u1) (.str (sgn b2) u2)), (i1, o1'), (i2, o2')]).map (·.1) := List.mem_map_of_mem hp
      have he : (mu ++ rest ++ [(z, zO .none TI TO), (TI, pO (.ref i1) (.ref i2)), (TO, pO (.str (sgn b1) u1) (.str (sgn b2) u2)), (i1, o1'), (i2, o2')]).map (·.1) = (mu ++ rest ++ [(z, zO .none TI TO), (TI, pO (.ref i1) (.ref i2)), (TO, pO a b), (i1, o1), (i2, o2)]).map (·.1) := by simp
      rw [he] at hp'
      obtain ⟨r, hr, e⟩ := List.mem_map.mp hp'
      have := (F.mus r hr).1
      rw [e, q, fresh] at this; cases this
    have nB : B.get? h.objs.size = none := none_of_stays F.base fresh
    have nZ : Z'.get? h.objs.size = none := none_of_stays F.stay fresh
    have nL : h.objs.size ≠ L := fun q => absurd F.ns.lt (by rw [← q]; exact Nat.lt_irrefl _)
    have F2 : Fx n₀ B Z₀ Z' L m (mu ++ ((h.objs.size, pO (.str (sgn b1) u1) (.str (sgn b2) u2)) :: rest ++ [(z, zO .none TI TO), (TI, pO (.ref i1) (.ref i2)), (TO, pO (.str (sgn b1) u1) (.str (sgn b2) u2)), (i1, o1'), (i2, o2')])) h'' := by
      have P : (mu ++ ((h.objs.size, pO (.str (sgn b1) u1) (.str (sgn b2) u2)) :: rest ++ [(z, zO .none TI TO), (TI, pO (.ref i1) (.ref i2)), (TO, pO (.str (sgn b1) u1) (.str (sgn b2) u2)), (i1, o1'), (i2, o2')])).Perm ((h.objs.size, pO (.str (sgn b1) u1) (.str (sgn b2) u2)) :: (mu ++ rest ++ [(z, zO .none TI TO), (TI, pO (.ref i1) (.ref i2)), (TO, pO (.str (sgn b1) u1) (.str (sgn b2) u2)), (i1, o1'), (i2, o2')])) := by
        rw [List.append_assoc, List.cons_append]
        exact List.perm_middle
      refine Fx.perm ⟨F1.ns, F1.base, F1.le, F1.stay, F1.L0, F1.new, F1.LB, F1.LZ, fun p hp => ?_, ?_⟩ P.symm
      · rcases List.mem_cons.mp hp with rfl | hp
        · exact ⟨gT, nB, nL, nZ⟩
        · exact F1.mus p hp
      · rw [List.map_cons]
        refine List.nodup_cons.mpr ⟨fun hm => ?_, F1.nd⟩
        obtain ⟨p, hp, e⟩ := List.mem_map.mp hm
        exact nT p hp e
    exact q _ _ _ _ ⟨_, u1, u2, b1, b2, rfl, hb1, hb2, .head _⟩ ⟨TI, TO, i1, i2, tx, ty, _, _, o1', o2', (h.objs.size, pO (.str (sgn b1) u1) (.str (sgn b2) u2)) :: rest, D, rfl, k1, k2⟩ F2
  done := by
    rintro n₀ B Z₀ Z' L m nu mu h g d t os Q E hz F ⟨TI, TO, i1, i2, tx, ty, a, b, o1, o2, rest, D, rfl, ho1, ho2⟩ q
    have M := fun p hp => F.mus p (List.mem_append_right _ (List.mem_append_right _ hp))
    have gz := (M (z, _) (.head _)).1
    have gTI := (M (TI, _) (.tail _ (.head _))).1
    have gTO := (M (TO, _) (.tail _ (.tail _ (.head _)))).1
    have g1 := (M (i1, _) (.tail _ (.tail _ (.tail _ (.head _))))).1
    refine zs_pyNext_end (s := ⟨h, g, d, t, os⟩) (k2 := 0) (y := txt y) (ty := ty) hA D gz gTI gTO ⟨o1, g1, ho1⟩ (txt_end x) fun h' hk => q h' t (Fx.dropN F fun c o hc e => ?_)
    simp only [List.map_append, List.map_cons, List.map_nil, List.mem_append, List.mem_cons, List.not_mem_nil, or_false, not_or] at hc
    exact hk c o hc.2.1 hc.2.2.2.1 hc.2.2.2.2.1 hc.2.2.2.2.2 e
  self := by
    rintro n₀ B Z₀ Z' L m nu mu h g d t os Q E hz F ⟨TI, TO, i1, i2, tx, ty, a, b, o1, o2, rest, D, rfl, ho1, ho2⟩ q
    exact wpAny_pyIter_zip (s := ⟨h, g, d, t, os⟩) (F.mus (z, _) (List.mem_append_right _ (List.mem_append_right _ (.head _)))).1 q
theorem k_zip {x y : List Bool} {tx ty : Tok} {Q : Value → Shared → Prop} (hA : A.handled = none) (hxy : x.length = y.length) (F : Fx n₀ B Z₀ Z L m mu h)
    (q : ∀ z h' nu, (∀ (elts : List Expr) (x1 : Nat) (pos : Pos), Itr w A Z z x.length (ZP x y) (.Tuple elts x1 pos) (ZSt z x y)) → ZSt z x y 0 nu → Fx n₀ B Z₀ Z L m (mu ++ nu) h' → Q (.ref z) ⟨h', g, d, t, os⟩) : wpAny (Mo w) A (call (.type "zip") [.str (txt x) tx, .str (txt y) ty]) Q E ⟨h, g, d, t, os⟩ := by
  refine call_zip_strs (s := ⟨h, g, d, t, os⟩) (txt_ascii x) (txt_ascii y) fun h' z TI TO i1 i2 D a1 a2 a3 a4 a5 fr st => ?_
  obtain ⟨o1, e1, k1⟩ := a4
  obtain ⟨o2, e2, k2⟩ := a5
  have F1 := Fx.adds F st [(z, zO .none TI TO), (TI, pO (.ref i1) (.ref i2)), (TO, pO .none .none), (i1, o1), (i2, o2)] (fun p hp => by
    simp only [List.mem_cons, List.not_mem_nil, or_false] at hp
    rcases hp with rfl | rfl | rfl | rfl | rfl
    · exact ⟨fr z (by simp), a1⟩
    · exact ⟨fr TI (by simp), a2⟩
    · exact ⟨fr TO (by simp), a3⟩
    · exact ⟨fr i1 (by simp), e1⟩
    · exact ⟨fr i2 (by simp), e2⟩) (by
    simp only [List.map_cons, List.map_nil, List.nodup_cons, List.mem_cons, List.not_mem_nil, or_false, not_or, not_false_eq_true, and_true, List.nodup_nil]
    exact ⟨⟨D.TIz.symm, D.TOz.symm, D.i1z.symm, D.i2z.symm⟩, ⟨D.TITO, D.TIi1, D.TIi2⟩, ⟨D.TOi1, D.TOi2⟩, D.i12⟩)
  exact q z h' _ (fun _ _ _ => itr_zip hA hxy) ⟨TI, TO, i1, i2, _, _, _, _, o1, o2, [], D, rfl, k1, k2⟩ (F1.perm List.perm_append_comm)
theorem u_tupM {elts : List Expr} {k : Nat} {pos : Pos} {T : Addr} {a b : Value} {Q : Unit → Shared → Prop} (hA : A.handled = none) (F : Fx n₀ B Z₀ Z L m mu h) (hm : (T, pO a b) ∈ mu) (hn : (assignEach elts env).length = 2) (hs : (assignEach elts env).findIdx? (·.1) = none)
    (q : ∀ h', Fx n₀ B Z₀ Z L m mu h' → wpAny (Mo w) A (assignInOrder ((assignEach elts env).map (·.2)) [a, b]) Q E ⟨h', g, d, t, os⟩) : wpAny (Mo w) A (assign (.Tuple elts k pos) env (.ref T)) Q E ⟨h, g, d, t, os⟩ := by
  have i : IsTup h T #[a, b] := ⟨_, (F.mus _ hm).1, rfl, _, rfl⟩
  exact assign_Tuple_tuple (s := ⟨h, g, d, t, os⟩) hA i (by simpa using hn) hs fun h' e => q h' (F.keep (stays_of_ext e))
def SgV (v : Value) (b : Bool) : Prop := ∃ u, v = .str (sgn b) u
theorem strs_all {vs : List Value} {r : List Bool} (a : All2 SgV vs r) : StrsAre vs (r.map sgn) := by
  induction a with
  | nil => exact .nil
  | cons s _ ih => obtain ⟨u, rfl⟩ := s; exact .cons _ _ ih
theorem k_joinL {u : Tok} {ys : List Value} {r : List Bool} {Q : Value → Shared → Prop} (F : Fx n₀ B Z₀ Z L m mu h) (T : Lst Z v ys) (a : All2 SgV ys r) (hz : r.length ≤ 1000) (q : ∀ t' k, Q (.str (txt r) t') ⟨h, g, d, k, os⟩) :
    wpAny (Mo w) A (call (.builtin "str.join") [.str (Str.ofString "") u, v]) Q E ⟨h, g, d, t, os⟩ := by
  obtain ⟨D, rfl, o, ho, r'⟩ := T
  refine join_listW (s := ⟨h, g, d, t, os⟩) ⟨o, F.stay _ _ ho, r'⟩ (strs_all a) (by decide) (by rw [strs_sum, List.length_map]; omega) fun t' k => ?_
  rw [join_sgn]
  exact q t' k
def CntV (v : Value) (n : Nat) : Prop := ∃ u, v = .int n u
theorem ints_all {vs : List Value} {ns : List Nat} (a : All2 CntV vs ns) : IntsAre vs (ns.map fun (n : Nat) => (n : Int)) := by
  induction a with
  | nil => exact .nil
  | cons s _ ih => obtain ⟨u, rfl⟩ := s; exact .cons _ _ ih
theorem sum_cast (ns : List Nat) : (ns.map fun (n : Nat) => (n : Int)).sum = (ns.sum : Nat) := by
  induction ns with
  | nil => rfl
  | cons n r ih => simp only [List.map_cons, List.sum_cons, ih]; omega
theorem k_sum {ys : List Value} {ns : List Nat} {Q : Value → Shared → Prop} (hA : A.handled = none) (F : Fx n₀ B Z₀ Z L m mu h) (T : Lst Z v ys) (a : All2 CntV ys ns) (q : ∀ h' t' k, Fx n₀ B Z₀ Z L m mu h' → Q (.int (ns.sum : Nat) t') ⟨h', g, d, k, os⟩) :
    wpAny (Mo w) A (call (.builtin "sum") [v]) Q E ⟨h, g, d, t, os⟩ := by
  obtain ⟨D, rfl, o, ho, r'⟩ := T
  have hi := ints_all a
  have hl : h.IsList D ys.toArray := ⟨o, F.stay _ _ ho, r'⟩
  obtain ⟨xs, hx⟩ := hi.allInts.items
  have hl' : h.IsList D (intItems xs) := hx ▸ hl
  refine sum_intListG (s := ⟨h, g, d, t, os⟩) hA hl' fun h' tk t' hk => ?_
  have e1 : (ns.map fun (n : Nat) => (n : Int)) = xs.toList.map (·.1) := by
    rw [← nums_intItems, ← hx]
    exact (show numsOf ys.toArray.toList = _ from hi.numsOf).symm
  have e2 : preSum (numAt xs) xs.size = (ns.sum : Nat) := by
    rw [preSum_eq, List.take_of_length_le (by simp), ← e1, sum_cast]
  rw [e2]
  exact q h' t' tk (F.keep hk)
theorem cnt_txt (r : List Bool) : Txt.count (txt r) (Str.ofString "x") = (r.countP id : Nat) := by
  have e : (Str.ofString "x") = ⟨#[120]⟩ := by decide
  rw [e, count_cnt]
  show PyProof.Rows.cnt 120 ((r.map fun b => if b then 120 else 46)) = _
  unfold PyProof.Rows.cnt
  induction r with
  | nil => rfl
  | cons b r ih =>
    simp only [List.map_cons]
    rw [PySem.Spec.countIn, ih]
    cases b <;> simp [PySem.Spec.same]

    omega
theorem m_count {s : Shared} {x : Str} {u : Tok} {pl : Sem Bool} {Q : Value × List Value → Shared → Prop} (q : Q (.builtin "str.count", [.str x u]) s) : wpAny (Mo w) A (getMethod (.str x u) "count" pl) Q E s := GM.count q
theorem k_count {s : Shared} {r : List Bool} {u u' : Tok} {Q : Value → Shared → Prop} (q : ∀ t', Q (.int (r.countP id : Nat) t') { s with toks := s.toks + 1 }) : wpAny (Mo w) A (call (.builtin "str.count") [.str (txt r) u, .str (Str.ofString "x") u']) Q E s := by
  refine SC.count ?_
  rw [cnt_txt]
  exact q _
end
theorem met_take {a b : List (List Bool)} {i : Nat} {p q : List Bool} (ha : a[i]? = some p) (hb : b[i]? = some q) : (metB a b).take (i + 1) = (metB a b).take i ++ [List.zipWith (fun x y => x && y) p q] := by
  rw [List.take_add_one]
  unfold metB
  rw [List.getElem?_zipWith, ha, hb]
  rfl
local macro_rules | `(tactic| tb_rel) => `(tactic| first
  | ((with_reducible show wpAny _ _ (getMethod _ _ _) _ _ _); first
    | (with_reducible refine m_count ?_))
  | fail "none")
section
variable {w : World} {A : Around} {mg mb : Str → Option Value} {Z h : Heap} {g : Array GenState} {d : Drawn} {t : Nat} {os : OsState} {v v2 p : Value} {X Y N : Int}
theorem met_rows {a b : List (List Bool)} (hA : Ok A 9) (W : Wd w mg mb Z) (hZ : Z.StaysIn h) (R1 : RowsAt Z v a) (R2 : RowsAt Z v2 b) (hab : a.length = b.length) (hl : a.length ≤ 100) (hw : ∀ (i : Nat) (p q : List Bool), a[i]? = some p → b[i]? = some q → p.length = q.length ∧ p.length ≤ 100) :
    Cal w A ⟨h, g, d, t, os⟩ (call (.ref 390) [v, v2]) Z (fun Z' r => RowsAt Z' r (metB a b)) := by
  obtain ⟨vs, T, av⟩ := R1
  obtain ⟨ws, T2, aw⟩ := R2
  have la := av.length
  have lb := aw.length
  refine enter (args := ⟨[v, v2], []⟩) (binds := [("one", v), ("other", v2)]) hA.room W hZ (by k_is) (by k_is) (BindsTo.of_eq rfl) (locs rfl) rfl rfl rfl (by decide) fun L h₁ t₁ F => ?_
  refine wp_gen fun Qe hQe => ?_
  (repeat' tb_rel)
  rename Rng _ _ _ _ _ => Rg
  rename Fx _ _ _ _ _ _ _ _ => F4
  rename_i D _ _ hD _ _ _ _ _ _ _ Zr l4
  refine it_rng1 hA.hd F4 Rg (by first | decide | omega) (by first | decide | omega) fun I5 h5 nu5 St5 It5 hs5 F5 => ?_
  rw [Int.toNat_natCast] at It5
  refine w_for (It5 _) (fun i Z' m mu => ∃ k ys, mu = [(D, lo k ys)] ∧ All2 RowV ys ((metB a b).take i) ∧ ys.length ≤ i ∧ m "found" = some (.ref D) ∧ m "one" = some v ∧ m "other" = some v2) F5 stays_refl hs5 ⟨_, _, rfl, .nil, by simp, rfl, rfl, rfl⟩ ?_ ?_
  · rintro i v6 Z6 m mu nu6 h6 t6 hi hz6 F6 ⟨u6, rfl⟩ ⟨k, ys6, rfl, S6, hly, m1, m2, m3⟩
    refine wp_gen2 fun Qf hQf => ?_
    have T' := T.up (stays_trans l4 hz6)
    have T2' := T2.up (stays_trans l4 hz6)
    have hx1 : vs[i]? = some (vs[i]'hi) := List.getElem?_eq_getElem _
    have hx2 : ws[i]? = some (ws[i]'(by first | decide | omega)) := List.getElem?_eq_getElem _
    obtain ⟨p, hp, u1, E1⟩ := av.get hx1
    obtain ⟨q, hq, u2, E2⟩ := aw.get hx2
    rw [E1] at hx1
    rw [E2] at hx2
    obtain ⟨hpq, hp100⟩ := hw i p q hp hq
    simp only [List.cons_append, List.nil_append] at F6
    (repeat' tb_rel)
    refine i_lz (by assumption) T' (by first | decide | omega) (by first | decide | omega) (by first | decide | omega) (by rw [if_neg (by first | decide | omega)]; exact hx1) (fun _ => by with_unfolding_all rfl) ?_
    (repeat' tb_rel)
    refine i_lz (by assumption) T2' (by first | decide | omega) (by first | decide | omega) (by first | decide | omega) (by rw [if_neg (by first | decide | omega)]; exact hx2) (fun _ => by with_unfolding_all rfl) ?_
    (repeat' tb_rel)
    rename Fx _ _ _ _ _ _ _ _ => F7
    refine k_zip hA.hd hpq F7 fun z h8 nu8 It8 hs8 F8 => ?_
    refine (It8 [] 0 default).self (L := L) stays_refl F8 hs8 ?_
    have hzl : (List.zipWith (fun x y => x && y) p q).length = p.length := by simp [hpq]
    refine w_comp (It8 _ _ _) (by decide) rfl (fun _ v b => SgV v b) (fun i => (List.zipWith (fun x y => x && y) p q)[i]?) F8 hs8 (by rw [PySem.sizeLine_eq]; omega) (fun _ _ _ _ k x => x) ?_ ?_
    · rintro C9 i9 v9 Z9 mC mu9 h9 t9 hi9 hz9 F9 ⟨nu9, ⟨Ta, u3, u4, b1, b2, rfl, e1, e2, hm⟩, hsub⟩
      have W1 := W.up (stays_trans l4 hz6)
      have ez : (List.zipWith (fun x y => x && y) p q)[i9]? = some (b1 && b2) := by rw [List.getElem?_zipWith, e1, e2]
      refine u_tupM hA.hd F9 (hsub _ hm) rfl rfl fun h10 F10 => ?_
      cases b1 <;> cases b2
      all_goals (
        (repeat' tb_rel)
        all_goals first
        | (exfalso; exact absurd (by assumption : sgn false = ("x" : Str)) (by decide))
        | (exfalso; exact absurd (by decide : sgn true = ("x" : Str)) (by assumption))
        | (rename Fx _ _ _ _ _ _ _ _ => Fe
           exact ⟨_, _, _, _, rfl, Fe, stays_refl, _, ez, _, rfl⟩))
    · intro rv h9 t9 Z9 rs F9 l9 T9 R9
      rw [← hzl, fm_some] at R9
      (repeat' tb_rel)
      refine k_joinL F9 T9 R9 (by first | decide | omega) fun t10 k10 => ?_
      (repeat' tb_rel)
      rename Fx _ _ _ _ _ _ _ _ => Fe
      exact hQf _ _ ⟨rfl, _, _, _, _, [(D, lo _ _)], rfl, Fe, l9, _, _, rfl, by rw [met_take hp hq]; exact S6.snoc ⟨_, rfl⟩, by simp; omega, m1, m2, m3⟩
  · rintro Z6 m mu h6 t6 F6 ⟨k, ys6, rfl, S6, hly, m1, m2, m3⟩
    rw [List.take_of_length_le (by simp [metB]; omega)] at S6
    (repeat' tb_rel)
    rename Fx _ _ _ _ _ _ _ _ => F7
    obtain ⟨Zf, Ff, lf, ef⟩ := F7.freeze hD
    exact hQe _ _ ⟨_, _, _, _, _, rfl, Ff, ys6, ⟨D, rfl, _, ef, rfl, _, rfl⟩, S6⟩
end
section
variable {w : World} {A : Around} {mg mb : Str → Option Value} {Z h : Heap} {g : Array GenState} {d : Drawn} {t : Nat} {os : OsState} {v v2 p : Value} {X Y N : Int}
theorem fm_map {α β : Type} (xs : List α) (f : α → β) : (List.range xs.length).filterMap (fun i => (xs[i]?).map f) = xs.map f := by
  have := fm_some (xs.map f)
  rw [List.length_map] at this
  have e : (fun (i : Nat) => (xs.map f)[i]?) = fun (i : Nat) => (xs[i]?).map f := by funext i; simp
  rw [e] at this
  exact this
theorem filled_count {a : List (List Bool)} (hA : Ok A 9) (W : Wd w mg mb Z) (hZ : Z.StaysIn h) (R1 : RowsAt Z v a) (hl : a.length ≤ 100) :
    Cal w A ⟨h, g, d, t, os⟩ (call (.ref 395) [v]) Z (fun Z' r => ∃ u, r = .int (cnt a : Nat) u) := by
  obtain ⟨vs, T, av⟩ := R1
  have la := av.length
  refine enter (args := ⟨[v], []⟩) (binds := [("rows", v)]) hA.room W hZ (by k_is) (by k_is) (BindsTo.of_eq rfl) (locs rfl) rfl rfl rfl (by decide) fun L h₁ t₁ F => ?_
  refine wp_gen fun Qe hQe => ?_
  (repeat' tb_rel)
  refine it_lst hA.hd F T fun I h2 nu St It hs F2 => ?_
  refine w_comp (It _) (by decide) rfl (fun _ v n => CntV v n) (fun i => (a[i]?).map fun r => r.countP id) F2 hs (by rw [PySem.sizeLine_eq]; omega) (fun _ _ _ _ k x => x) ?_ ?_
  · rintro C3 i3 v3 Z3 mC mu3 h3 t3 hi hz F3 ⟨nu3, hP, -⟩
    obtain ⟨r, hr, u, rfl⟩ := av.get hP
    (repeat' tb_rel)
    refine k_count fun t4 => ?_
    rename Fx _ _ _ _ _ _ _ _ => Fe
    exact ⟨_, _, _, _, rfl, Fe, stays_refl, _, by show (a[i3]?).map _ = _; rw [hr]; rfl, _, rfl⟩
  · intro rv h3 t3 Z3 ys F3 l3 T3 R3
    rw [la, fm_map] at R3
    (repeat' tb_rel)
    refine k_sum hA.hd F3 T3 R3 fun h4 t4 k4 F4 => ?_
    exact hQe _ _ ⟨_, _, _, _, _, rfl, F4, _, rfl⟩
theorem open_end (x : Q2) (l : List Q2) : ∃ ss q, (some x :: l.map some : Part) = ss ++ [some q] ∧ ss.length = l.length := by
  rcases List.eq_nil_or_concat l with rfl | ⟨l', y, rfl⟩
  · exact ⟨[], x, rfl, rfl⟩
  · exact ⟨some x :: l'.map some, y, by simp, by simp⟩
theorem rectangle {W' H' : Nat} {u1 u2 : Tok} (hA : Ok A 50) (W : Wd w mg mb Z) (hZ : Z.StaysIn h) (P : PathAt w Z v []) (D1 : Dec w Z p 5) (D2 : Dec w Z v2 5) (hW : W' ≤ 20) (hH : H' ≤ 20) :
    Cal w A ⟨h, g, d, t, os⟩ (call (.ref 281) [v, p, v2, .int W' u1, .int H' u2]) Z (fun Z' r => PathAt w Z' r (squareP W' H')) := by
  refine enter (args := ⟨[v, p, v2, .int W' u1, .int H' u2], []⟩) (binds := [("path", v), ("x", p), ("y", v2), ("width", .int W' u1), ("height", .int H' u2)]) hA.room W hZ (by k_is) (by k_is) (BindsTo.of_eq rfl) (locs rfl) rfl rfl rfl (by decide) fun L h₁ t₁ F => ?_
  refine wp_gen fun Qe hQe => ?_
  have hh := hA.hd
  (repeat' tb_rel)
  refine Cal.use (pair_of (hA.deeper.less (by first | decide | omega)) (W.up F.le) F.stay (Or.inl D1) (Or.inl D2)) F fun r1 h1 t1 Z1 F1 le1 E1 => ?_
  obtain ⟨va, vb, Tp, Da, Db⟩ := E1
  refine u_tup hA.hd F1 Tp rfl rfl fun h2 F2 => ?_
  (repeat' tb_rel)
  rename Fx _ _ _ _ _ _ _ _ => F3
  refine Cal.use (plus_ (hA.deeper.less (by first | decide | omega)) (W.up F3.le) F3.stay Da (Or.inr ⟨_, _, rfl, rfl⟩) (by decide) (by first | decide | omega)) F3 fun r4 h4 t4 Z4 F4 le4 Dr => ?_
  (repeat' tb_rel)
  rename Fx _ _ _ _ _ _ _ _ => F5
  refine Cal.use (plus_ (hA.deeper.less (by first | decide | omega)) (W.up F5.le) F5.stay (Db.up le4) (Or.inr ⟨_, _, rfl, rfl⟩) (by decide) (by first | decide | omega)) F5 fun r6 h6 t6 Z6 F6 le6 Dh => ?_
  have Da := Da.up (stays_trans le4 le6)
  have Db := Db.up (stays_trans le4 le6)
  have Dr := Dr.up le6
  (repeat' tb_rel)
  rename Fx _ _ _ _ _ _ _ _ => F7
  refine Cal.use (move_to (hA.deeper.less (by first | decide | omega)) (W.up F7.le) F7.stay (P.up (stays_trans le1 (stays_trans le4 le6))) (by simp) (by simp) (Or.inl Da) (Or.inl Db)) F7 fun r8 h8 t8 Z8 F8 le8 P8 => ?_
  (repeat' tb_rel)
  rename Tup _ _ [_, _, _] => T3
  rename Tup _ _ [r4, vb] => Ta
  rename Tup _ _ [r4, r6] => Tb
  rename Tup _ _ [va, r6] => Tc
  rename Fx _ _ _ _ _ _ _ _ => F9
  rename Heap.StaysIn _ _ => l9
  rename_i r9 h9 Z9
  have Pa : Pt w Z9 _ (5 + 10 * (W' : Int), 5) := ⟨_, _, Ta.up (by kts_caught), Dr.up (by kts_caught), Db.up (by kts_caught)⟩
  have Pb : Pt w Z9 _ (5 + 10 * (W' : Int), 5 + 10 * (H' : Int)) := ⟨_, _, Tb.up (by kts_caught), Dr.up (by kts_caught), Dh.up (by kts_caught)⟩
  have Pc : Pt w Z9 _ ((5 : Int), 5 + 10 * (H' : Int)) := ⟨_, _, Tc.up (by kts_caught), Da.up (by kts_caught), Dh.up (by kts_caught)⟩
  have P9 := P8.up (show Z8.StaysIn Z9 by kts_caught)
  have a3 : All2 (Pt w Z9) _ [(5 + 10 * (W' : Int), (5 : Int)), (5 + 10 * (W' : Int), 5 + 10 * (H' : Int)), ((5 : Int), 5 + 10 * (H' : Int))] := .cons Pa (.cons Pb (.cons Pc .nil))
  generalize hpt : [(5 + 10 * (W' : Int), (5 : Int)), (5 + 10 * (W' : Int), 5 + 10 * (H' : Int)), ((5 : Int), 5 + 10 * (H' : Int))] = pts at a3
  have hp3 : pts.length = 3 := by rw [← hpt]; rfl
  refine it_tup hA.hd F9 T3 fun I h10 nu St It hs F10 => ?_
  refine w_for (It _) (fun i Z' m mu => mu = [] ∧ ∃ pv, m "path" = some pv ∧ PathAt w Z' pv [some (5, 5) :: (pts.take i).map some]) F10 stays_refl hs ⟨rfl, _, rfl, P9⟩ ?_ ?_
  · rintro i v11 Z11 m11 mu11 nu11 h11 t11 hi hz F11 hP ⟨rfl, pv, m1, P11⟩
    refine wp_gen2 fun Qf hQf => ?_
    obtain ⟨q, hq, xa, xb, Tq, Dx, Dy⟩ := a3.get hP
    have Tq := Tq.up hz
    have Dx := Dx.up hz
    have Dy := Dy.up hz
    obtain ⟨ss, q0, hss, hlen⟩ := open_end (5, 5) (pts.take i)
    rw [hss] at P11
    simp only [List.nil_append] at F11
    (repeat' tb_rel)
    rename Fx _ _ _ _ _ _ _ _ => F12
    refine Cal.use (line_to (ps := []) (hA.deeper.less (by first | decide | omega)) (W.up F12.le) F12.stay P11 (by simp) (by rw [hlen, List.length_take]; omega) (Or.inl Dx) (Or.inl Dy)) F12 fun r13 h13 t13 Z13 F13 le13 P13 => ?_
    (repeat' tb_rel)
    rename Fx _ _ _ _ _ _ _ _ => Fe
    refine hQf _ _ ⟨rfl, _, _, _, _, [], rfl, Fe, le13, rfl, _, rfl, ?_⟩
    rw [← hss] at P13
    have e : (pts.take (i + 1)).map some = (pts.take i).map some ++ [some q] := by rw [List.take_add_one, hq]; simp
    rw [e]
    exact P13
  · rintro Z11 m11 mu11 h11 t11 F11 ⟨rfl, pv, m1, P11⟩
    rw [List.take_of_length_le (by rw [hp3]; exact Nat.le_refl 3)] at P11
    obtain ⟨ss, q0, hss, hlen⟩ := open_end (5, 5) pts
    rw [hss] at P11
    (repeat' tb_rel)
    refine Cal.use (close_path (ps := []) (hA.deeper.less (by first | decide | omega)) (W.up F11.le) F11.stay P11 (by simp) (by rw [hlen]; omega)) F11 fun r12 h12 t12 Z12 F12 le12 P12 => ?_
    rw [← hss, ← hpt] at P12
    exact hQe _ _ ⟨_, _, _, _, _, rfl, F12, P12⟩
end
/-- a call that may turn some things -/
def CalM (w : World) (A : Around) (s : Shared) (c : Sem Value) (Z : Heap) (mx : List (Addr × Obj)) (Post : Heap → Value → List (Addr × Obj) → Prop) : Prop :=
  ∀ (Q : Value → Shared → Prop) (E : Value → Shared → Prop), (∀ r h' t' Z' mx', mx'.map (·.1) = mx.map (·.1) → (∀ a o, a ∉ mx.map (·.1) → s.heap.get? a = some o → h'.get? a = some o) → (∀ p ∈ mx', h'.get? p.1 = some p.2) →
    Z.StaysIn Z' → Z'.StaysIn h' → (∀ a, a < s.heap.objs.size → Z.get? a = none → Z'.get? a = none) → Post Z' r mx' → Q r { s with heap := h', toks := t' }) → wpAny (Mo w) A c Q E s
/-- a call that hands back a new thing that may still turn -/
def CalN (w : World) (A : Around) (s : Shared) (c : Sem Value) (Z : Heap) (Post : Heap → Obj → Prop) : Prop :=
  ∀ (Q : Value → Shared → Prop) (E : Value → Shared → Prop), (∀ D o h' t' Z', s.heap.StaysIn h' → Z.StaysIn Z' → Z'.StaysIn h' → (∀ a, a < s.heap.objs.size → Z.get? a = none → Z'.get? a = none) → s.heap.objs.size ≤ D → h'.get? D = some o → Z'.get? D = none → Post Z' o →
    Q (.ref D) { s with heap := h', toks := t' }) → wpAny (Mo w) A c Q E s
section
variable {w : World} {A : Around} {n₀ : Nat} {B Z₀ Z Z' : Heap} {L : Addr} {m : Str → Option Value} {mu mx mx' : List (Addr × Obj)} {h h' : Heap} {g : Array GenState} {d : Drawn} {t : Nat} {os : OsState} {E : Value → Shared → Prop} {Q : Value → Shared → Prop} {c : Sem Value}
theorem CalM.use {Post : Heap → Value → List (Addr × Obj) → Prop} (C : CalM w A ⟨h, g, d, t, os⟩ c Z mx Post) (F : Fx n₀ B Z₀ Z L m (mx ++ mu) h)
    (k : ∀ r h' t' Z' mx', Fx n₀ B Z₀ Z' L m (mx' ++ mu) h' → Z.StaysIn Z' → Post Z' r mx' → Q r ⟨h', g, d, t', os⟩) : wpAny (Mo w) A c Q E ⟨h, g, d, t, os⟩ := by
  refine C Q E fun r h' t' Z' mx' he hk hn zz zh zn hp => k r h' t' Z' mx' ?_ zz hp
  have G : Fx n₀ B Z₀ Z L m (mx' ++ mu) h' := (Fx.updN (F.perm List.perm_append_comm) hk he hn).perm List.perm_append_comm
  have sz : ∀ a o, h.get? a = some o → a < h.objs.size := fun a o e => Heap.lt_size e
  refine ⟨G.ns, G.base, stays_trans G.le zz, zh, G.L0, fun a ha e => zn a (Nat.lt_of_lt_of_le ha F.n0) (F.new a ha e), G.LB, zn L F.ns.lt F.LZ, fun p hp => ?_, G.nd⟩
  have P := G.mus p hp
  refine ⟨P.1, P.2.1, P.2.2.1, ?_⟩
  have hm : p.1 ∈ (mx ++ mu).map (·.1) := by
    have := List.mem_map_of_mem (f := (·.1)) hp
    rw [List.map_append, he, ← List.map_append] at this
    exact this
  obtain ⟨q, hq, e⟩ := List.mem_map.mp hm
  have q1 := (F.mus q hq).1
  rw [e] at q1
  exact zn p.1 (sz _ _ q1) P.2.2.2
theorem CalN.use {Post : Heap → Obj → Prop} (C : CalN w A ⟨h, g, d, t, os⟩ c Z Post) (F : Fx n₀ B Z₀ Z L m mu h)
    (k : ∀ D o h' t' Z', Fx n₀ B Z₀ Z' L m ((D, o) :: mu) h' → Z.StaysIn Z' → n₀ ≤ D → Post Z' o → Q (.ref D) ⟨h', g, d, t', os⟩) : wpAny (Mo w) A c Q E ⟨h, g, d, t, os⟩ := by
  refine C Q E fun D o h' t' Z' hk zz zh zn f0 f2 f3 hp => k D o h' t' Z' ?_ zz (Nat.le_trans F.n0 f0) hp
  · have f1 : h.get? D = none := Heap.get?_none_of_le f0
    have G := F.grow hk zz zh zn
    refine ⟨G.ns, G.base, G.le, G.stay, G.L0, G.new, G.LB, G.LZ, fun p hp => ?_, ?_⟩
    · rcases List.mem_cons.mp hp with rfl | hp
      · refine ⟨f2, none_of_stays F.base f1, fun q => ?_, f3⟩
        obtain ⟨oL, eL, _⟩ := PyProof.Rows.LCg.ns_obj F.ns
        rw [← q] at eL
        rw [show h.get? D = none from f1] at eL; cases eL
      · exact G.mus p hp
    · rw [List.map_cons]
      refine List.nodup_cons.mpr ⟨fun hm => ?_, F.nd⟩
      obtain ⟨p, hp, q⟩ := List.mem_map.mp hm
      have := (F.mus p hp).1
      rw [q, show h.get? D = none from f1] at this; cases this
end
section
variable {w : World} {A : Around} {mg mb : Str → Option Value} {Z : Heap} {h : Heap} {g : Array GenState} {d : Drawn} {t : Nat} {os : OsState}
  {name qual : Str} {params : Arguments} {body : List Stmt} {scope : Scope} {dV kV doc pm cdv ct oc : Value} {an od : Option Addr} {osl : Array (Option Value)} {f : Addr} {args : Args} {binds : List (Str × Value)}
/-- a def's body, some things turning -/
theorem enterG {Q : Value → Shared → Prop} {E : Value → Shared → Prop} (cs : Addr → List (Str × Addr)) (mx : List (Addr × Obj)) (hmx : ∀ p ∈ mx, h.get? p.1 = some p.2 ∧ Z.get? p.1 = none) (hmd : (mx.map (·.1)).Nodup)
    (hA : A.depth < recursionLimit) (W : Wd w mg mb Z) (hZ : Z.StaysIn h)
    (ho : (hdk.heap_1 w.params).lookup f = some ⟨oc, od, .func (fnOf name qual params body scope dV kV doc pm an cdv ct), osl⟩) (hcd : codeIn (hdk.heap_1 w.params) cdv qual = true)
    (hbind : BindsTo ⟨h, g, d, t, os⟩ (fnOf name qual params body scope dV kV doc pm an cdv ct) args binds) (hcs : ∀ L, cellsFrom (L + 1) scope.names [] = cs L)
    (hloc : ∀ L, ∀ y ∈ binds, scope.names.lookup y.1 = some .local ∨ (scope.names.lookup y.1 = some .cell ∧ ((cs L).lookup y.1).isSome = true)) (hnd : ∀ L, ((cs L).map (·.1)).Nodup)
    (hco : scope.isCoroutine = false) (hgen : scope.isGenerator = false) (hk : scope.kind = .function)
    (k : ∀ L h₁ t₁ (obs : Str → Obj), (∀ p ∈ cs L, (obs p.1).data = .cell (bindC (envX qual scope L f cdv (cs L)).kindOf binds (fun _ => none) p.1)) → (∀ p ∈ cs L, h.objs.size ≤ p.2) → L = h.objs.size →
      Fx h.objs.size (hideAll h (mx.map (·.1))) Z Z L (bindL (envX qual scope L f cdv (cs L)).kindOf binds fun _ => none) (mx ++ (cs L).map fun p => (p.2, obs p.1)) h₁ →
      wpAny (Mo w) (A.deeper (envX qual scope L f cdv (cs L))) (execs body (envX qual scope L f cdv (cs L))) (fun fl s' => Q (match fl with | .ret v => v | _ => .none) s') (fun _ _ => False) ⟨h₁, g, d, t₁, os⟩) :
    wpAny (Mo w) A (call (.ref f) args.pos args.kw) Q E ⟨h, g, d, t, os⟩ := by
  refine wpAny_call ?_
  have X := W.K.keeps hZ
  refine codeAny_call_function (fd := fnOf name qual params body scope dV kV doc pm an cdv ct) (body := body) hA (X _ _ ho) rfl hco hgen rfl (codeRec_of X hcd) (hbind _ _ _ _ ?_)
  refine wpAny_newFunctionEnv_cells hk (fun x hx => by rw [hcs]; exact hloc _ x hx) fun env' he s' x => ?_
  subst he
  refine ⟨(W.nl.keeps hZ).keeps x.toInCall.keep, codeAny_func ?_⟩
  obtain ⟨h₁, tk, rfl, hk₁⟩ := x.done
  have nL : h.get? h.objs.size = none := Heap.get?_none_of_le (Nat.le_refl _)
  have xa := x.above
  have xc := x.cell
  have xp := x.apart
  have xn := x.toInCall.ns
  change ∀ n c, (n, c) ∈ cellsFrom (h.objs.size + 1) scope.names [] → h.objs.size < c at xa
  change ∀ n c, (cellsFrom (h.objs.size + 1) scope.names []).lookup n = some c → h₁.IsCell c (bindC (envX qual scope h.objs.size f cdv (cellsFrom (h.objs.size + 1) scope.names [])).kindOf binds (fun _ => none) n) at xc
  change (cellsFrom (h.objs.size + 1) scope.names []).Pairwise fun x y => x.2 ≠ y.2 at xp
  change h₁.Ns h.objs.size (bindL (envX qual scope h.objs.size f cdv (cellsFrom (h.objs.size + 1) scope.names [])).kindOf binds fun _ => none) at xn
  show wpAny (Mo w) (A.deeper (envX qual scope h.objs.size f cdv (cellsFrom (h.objs.size + 1) scope.names []))) (execs body (envX qual scope h.objs.size f cdv (cellsFrom (h.objs.size + 1) scope.names []))) _ _ _
  rw [hcs] at xa xc xp xn ⊢
  have hob : ∀ n, ∃ o : Obj, ∀ c, (n, c) ∈ cs h.objs.size → h₁.get? c = some o ∧ o.data = .cell (bindC (envX qual scope h.objs.size f cdv (cs h.objs.size)).kindOf binds (fun _ => none) n) := fun n => by
    cases e : (cs h.objs.size).lookup n with
    | none => exact ⟨emptyDict, fun c hm => by rw [mem_lookup_nodup (hnd _) hm] at e; cases e⟩
    | some c =>
      obtain ⟨o, ho, hd⟩ := xc n c e
      exact ⟨o, fun c' hm => by rw [mem_lookup_nodup (hnd _) hm] at e; cases e; exact ⟨ho, hd⟩⟩
  have sizeN : ∀ c, h.objs.size < c → h.get? c = none := fun c hc => Heap.get?_none_of_le (Nat.le_of_lt hc)
  have hid : ∀ a, h.get? a = none → (hideAll h (mx.map (·.1))).get? a = none := fun a e => by
    cases q : (hideAll h (mx.map (·.1))).get? a with
    | none => rfl
    | some o => rw [of_hideAll _ q] at e; cases e
  refine wpAny_mono (k h.objs.size h₁ _ (fun n => (hob n).choose) (fun p hp => ((hob p.1).choose_spec p.2 hp).2) (fun p hp => Nat.le_of_lt (xa p.1 p.2 hp)) rfl ?_) (fun fl s' z => z) (fun _ _ z => z.elim)
  refine ⟨xn, fun a o e => hk₁ a o (of_hideAll _ e), stays_refl, stays_trans hZ hk₁, Nat.le_refl _, fun _ _ e => e, hid _ nL, none_of_stays hZ nL, fun p hp => ?_, ?_⟩
  · rcases List.mem_append.mp hp with hp | hp
    · have M := hmx p hp
      exact ⟨hk₁ _ _ M.1, hideAll_none _ (List.mem_map_of_mem hp), Nat.ne_of_lt (Heap.lt_size M.1), M.2⟩
    · obtain ⟨q', hq, rfl⟩ := List.mem_map.mp hp
      have a := xa q'.1 q'.2 hq
      exact ⟨((hob q'.1).choose_spec q'.2 hq).1, hid _ (sizeN _ a), Nat.ne_of_gt a, none_of_stays hZ (sizeN _ a)⟩
  · rw [List.map_append, List.map_map]
    refine List.nodup_append.mpr ⟨hmd, List.pairwise_map.mpr xp, fun a ha b hb q => ?_⟩
    obtain ⟨p, hp, rfl⟩ := List.mem_map.mp ha
    obtain ⟨q', hq, rfl⟩ := List.mem_map.mp hb
    have a1 := Heap.lt_size (hmx p hp).1
    have a2 := xa q'.1 q'.2 hq
    rw [q] at a1
    exact Nat.lt_asymm a1 a2
def EndsM (n₀ : Nat) (B Z₀ : Heap) (L : Addr) (g : Array GenState) (d : Drawn) (os : OsState) (mx : List (Addr × Obj)) (Post : Heap → Value → List (Addr × Obj) → Prop) (fl : Flow) (s' : Shared) : Prop :=
  ∃ h' t' Z' m' mu' mx', s' = ⟨h', g, d, t', os⟩ ∧ Fx n₀ B Z₀ Z' L m' (mx' ++ mu') h' ∧ mx'.map (·.1) = mx.map (·.1) ∧ Post Z' (match fl with | .ret v => v | _ => .none) mx'
theorem enterM {Post : Heap → Value → List (Addr × Obj) → Prop} (cs : Addr → List (Str × Addr)) (mx : List (Addr × Obj)) (hmx : ∀ p ∈ mx, h.get? p.1 = some p.2 ∧ Z.get? p.1 = none) (hmd : (mx.map (·.1)).Nodup)
    (hA : A.depth < recursionLimit) (W : Wd w mg mb Z) (hZ : Z.StaysIn h)
    (ho : (hdk.heap_1 w.params).lookup f = some ⟨oc, od, .func (fnOf name qual params body scope dV kV doc pm an cdv ct), osl⟩) (hcd : codeIn (hdk.heap_1 w.params) cdv qual = true)
    (hbind : BindsTo ⟨h, g, d, t, os⟩ (fnOf name qual params body scope dV kV doc pm an cdv ct) args binds) (hcs : ∀ L, cellsFrom (L + 1) scope.names [] = cs L)
    (hloc : ∀ L, ∀ y ∈ binds, scope.names.lookup y.1 = some .local ∨ (scope.names.lookup y.1 = some .cell ∧ ((cs L).lookup y.1).isSome = true)) (hnd : ∀ L, ((cs L).map (·.1)).Nodup)
    (hco : scope.isCoroutine = false) (hgen : scope.isGenerator = false) (hk : scope.kind = .function)
    (k : ∀ L h₁ t₁ (obs : Str → Obj), (∀ p ∈ cs L, (obs p.1).data = .cell (bindC (envX qual scope L f cdv (cs L)).kindOf binds (fun _ => none) p.1)) → (∀ p ∈ cs L, h.objs.size ≤ p.2) →
      Fx h.objs.size (hideAll h (mx.map (·.1))) Z Z L (bindL (envX qual scope L f cdv (cs L)).kindOf binds fun _ => none) (mx ++ (cs L).map fun p => (p.2, obs p.1)) h₁ →
      wpAny (Mo w) (A.deeper (envX qual scope L f cdv (cs L))) (execs body (envX qual scope L f cdv (cs L))) (EndsM h.objs.size (hideAll h (mx.map (·.1))) Z L g d os mx Post) (fun _ _ => False) ⟨h₁, g, d, t₁, os⟩) :
    CalM w A ⟨h, g, d, t, os⟩ (call (.ref f) args.pos args.kw) Z mx Post := by
  intro Q E q
  refine enterG cs mx hmx hmd hA W hZ ho hcd hbind hcs hloc hnd hco hgen hk fun L h₁ t₁ obs hob hL _ F => ?_
  refine wpAny_mono (k L h₁ t₁ obs hob hL F) (fun fl s' z => ?_) (fun _ _ z => z)
  obtain ⟨h', t', Z', m', mu', mx', rfl, F', e, p⟩ := z
  exact q _ h' t' Z' mx' e (fun a o ha hh => F'.base a o (hideAll_get _ hh ha)) (fun p hp => (F'.mus p (List.mem_append_left _ hp)).1) F'.le F'.stay F'.new p
def EndsN (n₀ : Nat) (B Z₀ : Heap) (L : Addr) (g : Array GenState) (d : Drawn) (os : OsState) (Post : Heap → Obj → Prop) (fl : Flow) (s' : Shared) : Prop :=
  ∃ h' t' Z' m' mu' D o, s' = ⟨h', g, d, t', os⟩ ∧ Fx n₀ B Z₀ Z' L m' ((D, o) :: mu') h' ∧ n₀ ≤ D ∧ Post Z' o ∧ (match fl with | .ret v => v | _ => .none) = .ref D
theorem enterN {Post : Heap → Obj → Prop} (cs : Addr → List (Str × Addr))
    (hA : A.depth < recursionLimit) (W : Wd w mg mb Z) (hZ : Z.StaysIn h)
    (ho : (hdk.heap_1 w.params).lookup f = some ⟨oc, od, .func (fnOf name qual params body scope dV kV doc pm an cdv ct), osl⟩) (hcd : codeIn (hdk.heap_1 w.params) cdv qual = true)
    (hbind : BindsTo ⟨h, g, d, t, os⟩ (fnOf name qual params body scope dV kV doc pm an cdv ct) args binds) (hcs : ∀ L, cellsFrom (L + 1) scope.names [] = cs L)
    (hloc : ∀ L, ∀ y ∈ binds, scope.names.lookup y.1 = some .local ∨ (scope.names.lookup y.1 = some .cell ∧ ((cs L).lookup y.1).isSome = true)) (hnd : ∀ L, ((cs L).map (·.1)).Nodup)
    (hco : scope.isCoroutine = false) (hgen : scope.isGenerator = false) (hk : scope.kind = .function)
    (k : ∀ B L h₁ t₁ (obs : Str → Obj), (∀ p ∈ cs L, (obs p.1).data = .cell (bindC (envX qual scope L f cdv (cs L)).kindOf binds (fun _ => none) p.1)) → (∀ p ∈ cs L, h.objs.size ≤ p.2) →
      Fx h.objs.size B Z Z L (bindL (envX qual scope L f cdv (cs L)).kindOf binds fun _ => none) ((cs L).map fun p => (p.2, obs p.1)) h₁ →
      wpAny (Mo w) (A.deeper (envX qual scope L f cdv (cs L))) (execs body (envX qual scope L f cdv (cs L))) (EndsN h.objs.size B Z L g d os Post) (fun _ _ => False) ⟨h₁, g, d, t₁, os⟩) :
    CalN w A ⟨h, g, d, t, os⟩ (call (.ref f) args.pos args.kw) Z Post := by
  intro Q E q
  refine enterG cs [] (fun _ hp => nomatch hp) List.nodup_nil hA W hZ ho hcd hbind hcs hloc hnd hco hgen hk fun L h₁ t₁ obs hob hL _ F => ?_
  refine wpAny_mono (k (hideAll h []) L h₁ t₁ obs hob hL F) (fun fl s' z => ?_) (fun _ _ z => z)
  obtain ⟨h', t', Z', m', mu', D, o, rfl, F', hD, p, e⟩ := z
  rw [e]
  have M := F'.mus (D, o) (.head _)
  exact q D o h' t' Z' (fun a o hh => F'.base a o (hideAll_get _ hh (fun hm => nomatch hm))) F'.le F'.stay F'.new hD M.1 M.2.2.2 p
end
section
variable {w : World} {A : Around} {mg mb : Str → Option Value} {Z : Heap} {h : Heap} {g : Array GenState} {d : Drawn} {t : Nat} {os : OsState} {Post : Heap → Value → Prop}
  {name qual : Str} {params : Arguments} {body : Expr} {scope : Scope} {cl : List (Str × Addr)} {pm ctv cv : Value} {f : Addr} {args : Args} {binds : List (Str × Value)}
/-- a lambda's body -/
theorem enterL (hA : A.depth < recursionLimit) (W : Wd w mg mb Z) (hZ : Z.StaysIn h)
    (ho : Z.get? f = some { cls := .type "function", data := .func (kla_fn name qual params body scope cl pm cv ctv) }) (hcd : Z.CodeRec cv qual)
    (hbind : bindArgs (kla_fn name qual params body scope cl pm cv ctv) args = pure binds) (hloc : ∀ y ∈ binds, scope.names.lookup y.1 = some .local)
    (hco : scope.isCoroutine = false) (hgen : scope.isGenerator = false) (hk : scope.kind = .function) (hcell : ∀ x ∈ scope.names, x.2 ≠ .cell)
    (k : ∀ L h₁ t₁, Fx h.objs.size h Z Z L (fun y => binds.reverse.lookup y) [] h₁ →
      wpAny (Mo w) (A.deeper (envX qual scope L f cv cl)) (eval body (envX qual scope L f cv cl)) (fun v s' => ∃ h' t' Z' m' mu', s' = ⟨h', g, d, t', os⟩ ∧ Fx h.objs.size h Z Z' L m' mu' h' ∧ Post Z' v) (fun _ _ => False) ⟨h₁, g, d, t₁, os⟩) :
    Cal w A ⟨h, g, d, t, os⟩ (call (.ref f) args.pos args.kw) Z Post := by
  intro Q E q
  refine wpAny_call ?_
  have hcd' : h.CodeRec cv qual := by obtain ⟨c, oc, vs, tq, hc, hoc, r⟩ := hcd; exact ⟨c, oc, vs, tq, hc, hZ _ _ hoc, r⟩
  refine kla_callFunE (s := ⟨h, g, d, t, os⟩) hA (hZ _ _ ho) rfl hco hgen rfl hcd' ?_
  rw [hbind]
  refine wpAny_pure (wpAny_newFunctionEnv hcell hloc (fun h₁ hns hsb => ⟨(W.nl.keeps hZ).fresh _ hsb, ?_⟩) hk)
  show codeAny _ _ (.expr body (envX qual scope h.objs.size f cv cl)) _ _
  have hk₁ : h.StaysIn h₁ := fun b o e => hsb.extBut b o (Nat.ne_of_lt (Heap.lt_size e)) (Heap.get?_push_of_some _ e)
  have nL : h.get? h.objs.size = none := Heap.get?_none_of_le (Nat.le_refl _)
  refine kla_codeExpr (wpAny_mono (k h.objs.size h₁ _ ⟨hns, hk₁, stays_refl, stays_trans hZ hk₁, Nat.le_refl _, fun _ _ e => e, nL, none_of_stays hZ nL, fun _ hp => (nomatch hp), List.nodup_nil⟩) (fun v s' z => ?_) fun _ _ z => z.elim)
  obtain ⟨h', t', Z', m', mu', rfl, F', p⟩ := z
  exact q _ h' t' Z' F'.base F'.le F'.stay F'.new p
end
section
variable {w : World} {A : Around} {mg mb : Str → Option Value} {n₀ : Nat} {B Z₀ Z : Heap} {L : Addr} {m : Str → Option Value} {mu : List (Addr × Obj)} {h h' : Heap} {g : Array GenState} {d : Drawn} {t : Nat} {os : OsState} {E : Value → Shared → Prop} {env : Env}
/-- a call of a function that is at hand as a value -/
def FnV (Z : Heap) (v : Value) : Prop := ∃ f o fd, v = .ref f ∧ Z.get? f = some o ∧ o.data = .func fd
theorem FnV.up {Z Z' : Heap} {v : Value} (x : FnV Z v) (k : Z.StaysIn Z') : FnV Z' v := by
  obtain ⟨f, o, fd, e, a, b⟩ := x
  exact ⟨f, o, fd, e, k _ _ a, b⟩
theorem c_fun {v : Value} {s : Shared} {pos : Pos} {e : Expr} {rest : List Expr} {Q : Value → Shared → Prop} (V : FnV Z v) (he : starEach (e :: rest) env = (false, eval e env) :: starEach rest env) (hp : (backTo pos (starEach rest env)).any (·.1) = false)
    (q : wpAny (Mo w) A (spliced (backTo pos (starEach (e :: rest) env))) (fun vs s₁ => Z.StaysIn s₁.heap ∧ wpAny (Mo w) A (call v vs) Q E s₁) E s) :
    wpAny (Mo w) A (callWith pos v [] (backTo pos (starEach (e :: rest) env)) []) Q E s := by
  obtain ⟨f, o, fd, rfl, ho, hd⟩ := V
  rw [he] at q ⊢
  refine Calls.callWith_function (o := o) (fd := fd) (Calls.evalArgs_plain (wpAny_mono q (fun vs s₁ z => ?_) fun _ _ z => z))
  exact ⟨⟨z.1 _ _ ho, hd⟩, z.2⟩
end
theorem seg_u {w : World} {Z : Heap} {v : Value} {s : Option Q2} (S : Seg w Z v s) : ∃ tag tk ws, Tup Z v (.str tag tk :: ws) ∧ All2 (Pt w Z) ws s.toList ∧ ws.length ≤ 1 ∧
    ∀ (f : Q2 → Q2) (Z' : Heap) (v' : Value) (ws' : List Value), Tup Z' v' (.str tag tk :: ws') → All2 (Pt w Z') ws' (s.toList.map f) → Seg w Z' v' (s.map f) := by
  cases s with
  | some q =>
    obtain ⟨tag, tk, p, n1, n2, T, P⟩ := S
    refine ⟨tag, tk, [p], T, .cons P .nil, by simp, fun f Z' v' ws' T' a' => ?_⟩
    cases a' with
    | cons r a'' => cases a''; exact ⟨tag, tk, _, n1, n2, T', r⟩
  | none =>
    obtain ⟨tk, T⟩ := S
    refine ⟨"close", tk, [], T, .nil, by simp, fun f Z' v' ws' T' a' => ?_⟩
    cases a'
    exact ⟨tk, T'⟩
def BndR (q : Q2) : Prop := q.1.natAbs ≤ 100 ∧ q.2.natAbs ≤ 100
def BndP (ps : List Part) : Prop := ∀ ss ∈ ps, ∀ q, some q ∈ ss → BndR q
section
variable {w : World} {A : Around} {mg mb : Str → Option Value} {Z h : Heap} {g : Array GenState} {d : Drawn} {t : Nat} {os : OsState} {v v2 p : Value} {X Y N : Int}
theorem each_point {ps : List Part} (hA : Ok A 60) (W : Wd w mg mb Z) (hZ : Z.StaysIn h) (P : PathAt w Z v ps) (hf : FnV Z v2) (hl : ps.length ≤ 20) (hs : ∀ ss ∈ ps, ss.length ≤ 20) (hb : BndP ps)
    (hT : ∀ {A' : Around} {h' : Heap} {g' : Array GenState} {d' : Drawn} {t' : Nat} {os' : OsState} {Zx : Heap} {pv : Value} {q : Q2}, Ok A' 25 → Z.StaysIn Zx → Zx.StaysIn h' → Pt w Zx pv q → BndR q → Cal w A' ⟨h', g', d', t', os'⟩ (call v2 [pv]) Zx (fun Z' r => Pt w Z' r (shQ X Y q))) :
    Cal w A ⟨h, g, d, t, os⟩ (call (.ref 286) [v, v2]) Z (fun Z' r => PathAt w Z' r (shP X Y ps)) := by
  obtain ⟨p, vs, PV, T, a, l⟩ := P
  refine enterCells (args := ⟨[v, v2], []⟩) (binds := [("path", v), ("turn", v2)]) (fun L => [("turn", L + 1)]) hA.room W hZ (by k_is) (by k_is) (BindsTo.of_eq rfl) (fun _ => rfl) (locsC ["path", "turn"] rfl (fun _ => rfl) (by decide)) (fun _ => nodup_of (ns := ["turn"]) rfl (by decide)) rfl rfl rfl fun L h₁ t₁ obs hob hL F => ?_
  refine wp_gen fun Qe hQe => ?_
  have hob := hob ("turn", L + 1) (.head _)
  have hL := hL ("turn", L + 1) (.head _)
  obtain ⟨Z1, F, l1, e1⟩ := Fx.freeze F hL
  have C : CellZ Z1 (L + 1) v2 := ⟨_, e1, hob⟩
  have PV := PV.up l1
  have T := T.up l1
  have hf := hf.up l1
  have W1 := W.up l1
  have hal := a.length
  (repeat' tb_rel)
  rename_i D _ _ hD _ F1
  refine it_tup hA.hd F1 T fun I h2 nu St It hs2 F2 => ?_
  refine w_for (It _) (fun i Z' m mu => ∃ k ys, mu = [(D, lo k ys)] ∧ All2 (PartAt w Z') ys (shP X Y (ps.take i)) ∧ ys.length ≤ i ∧ m "parts" = some (.ref D)) F2 stays_refl hs2 ⟨_, _, rfl, .nil, by simp, rfl⟩ ?_ ?_
  · rintro i v3 Z3 m mu nu h3 t3 hi hz3 F3 hP ⟨k, ys, rfl, R, hly, hm⟩
    refine wp_gen2 fun Qf hQf => ?_
    obtain ⟨ss, hss, xs, Tx, ax, lx⟩ := a.get hP
    have Tx := Tx.up (stays_trans l1 hz3)
    have hsl := hs ss (List.mem_of_getElem? hss)
    have hxl := ax.length
    simp only [List.cons_append, List.nil_append] at F3
    (repeat' tb_rel)
    rename Fx _ _ _ _ _ _ _ _ => F4
    refine it_tup hA.hd F4 Tx fun I5 h5 nu5 St5 It5 hs5 F5 => ?_
    refine w_comp (It5 _) (by decide) rfl (fun Z v s => Seg w Z v s) (fun i => (ss[i]?).map (Option.map (shQ X Y))) F5 hs5 (by rw [PySem.sizeLine_eq]; omega) (fun _ _ _ _ k x => x.up k) ?_ ?_
    · rintro C6 i6 v6 Z6 mC mu6 h6 t6 hi6 hz6 F6 ⟨nu6, hP6, -⟩
      obtain ⟨s, hse, S⟩ := ax.get hP6
      obtain ⟨tag, tk, ws, Tw, aw, lw, back⟩ := seg_u S
      have hlw := aw.length
      have q6 := stays_trans l1 (stays_trans hz3 hz6)
      have Tw := Tw.up q6
      have C6' := C.up (stays_trans hz3 hz6)
      have W6 := W1.up hz3
      (repeat' tb_rel)
      refine i_tk (by assumption) Tw (by decide) (by decide) rfl (fun _ => by with_unfolding_all rfl) ?_
      (repeat' tb_rel)
      rename Tup _ _ [Value.str tag tk] => T7
      rename Tup _ _ (List.tail _) => T8
      rename Fx _ _ _ _ _ _ _ _ => F8
      have T8 : Tup _ _ ws := T8
      rename Heap.StaysIn _ _ => l8
      rename_i r8 h8 Z8 _
      have q8 : Z6.StaysIn Z8 := by kts_caught
      have W8 := W6.up F8.le
      have aw8 := aw.mono fun _ _ y => Pt.up y (stays_trans q6 q8)
      refine it_tup hA.hd F8 T8 fun I9 h9 nu9 St9 It9 hs9 F9 => ?_
      refine w_comp (It9 _) (by decide) rfl (fun Z v q => Pt w Z v q) (fun i => (s.toList[i]?).map (shQ X Y)) F9 hs9 (by rw [PySem.sizeLine_eq]; omega) (fun _ _ _ _ k x => x.up k) ?_ ?_
      · rintro C10 i10 v10 Z10 mC10 mu10 h10 t10 hi10 hz10 F10 ⟨nu10, hP10, -⟩
        obtain ⟨q, hq, Pq⟩ := aw8.get hP10
        have hsq : s = some q := by cases s <;> cases i10 <;> simp_all
        have C10' := C6'.up (stays_trans q8 hz10)
        have q10 := stays_trans hz3 (stays_trans hz6 (stays_trans q8 hz10))
        have hf10 := hf.up q10
        have hbq : BndR q := hb ss (List.mem_of_getElem? hss) q (by rw [← hsq]; exact List.mem_of_getElem? hse)
        (repeat' tb_rel)
        refine c_fun hf10 rfl rfl ?_
        (repeat' tb_rel)
        rename Fx _ _ _ _ _ _ _ _ => F11
        refine ⟨F11.stay, ?_⟩
        refine Cal.use (hT (hA.deeper.less (by first | decide | omega)) (stays_trans l1 q10) F11.stay (Pq.up hz10) hbq) F11 fun r12 h12 t12 Z12 F12 l12 P12 => ?_
        exact ⟨_, _, _, _, rfl, F12, l12, _, by show (s.toList[i10]?).map _ = _; rw [hq]; rfl, P12⟩
      · intro rv9 h10 t10 Z10 rs9 F10 l10 T10 R10
        clear q8
        rw [hlw, fm_map] at R10
        have hr10 := R10.length
        rw [List.length_map] at hr10
        (repeat' tb_rel)
        refine tup_l F10 T10 (by rw [PySem.sizeLine_eq]; omega) fun r11 h11 Z11 F11 l11 T11 => ?_
        (repeat' tb_rel)
        rename Tup _ _ (_ ++ _) => Te
        rename Fx _ _ _ _ _ _ _ _ => Fe
        exact ⟨_, _, _, _, rfl, Fe, by kts_caught, _, by show (ss[i6]?).map _ = _; rw [hse]; rfl, back (shQ X Y) _ _ _ Te (R10.mono fun _ _ y => Pt.up y (by kts_caught))⟩
    · intro rv h6 t6 Z6 rs F6 l6 T6 R6
      rw [hxl, fm_map] at R6
      have hrl := R6.length
      rw [List.length_map] at hrl
      (repeat' tb_rel)
      refine tup_l F6 T6 (by rw [PySem.sizeLine_eq]; omega) fun r7 h7 Z7 F7 l7 T7 => ?_
      (repeat' tb_rel)
      rename Fx _ _ _ _ _ _ _ _ => Fe
      refine hQf _ _ ⟨rfl, _, _, _, _, [(D, lo _ _)], rfl, Fe, stays_trans l6 l7, _, _, rfl, ?_, by simp; omega, hm⟩
      have e : shP X Y (ps.take (i + 1)) = shP X Y (ps.take i) ++ [ss.map (Option.map (shQ X Y))] := by unfold shP; rw [List.take_add_one, hss]; simp
      rw [e]
      exact (R.mono fun _ _ y => y.up (stays_trans l6 l7)).snoc ⟨rs, T7, R6.mono fun _ _ y => y.up l7, by omega⟩
  · rintro Z3 m mu h3 t3 F3 ⟨k, ys, rfl, R, hly, hm⟩
    rw [hal, List.take_length] at R
    have hrl := R.length
    (repeat' tb_rel)
    rename Tup _ _ ys => Te
    rename Fx _ _ _ _ _ _ _ _ => F4
    refine Cal.use (path_new (hA.deeper.less (by first | decide | omega)) (W.up F4.le) F4.stay) F4 fun r8 h8 t8 Z8 F8 l8 P8 => ?_
    exact hQe _ _ ⟨_, _, _, _, _, rfl, F8, _, _, P8, Te.up l8, R.mono fun _ _ y => y.up (by kts_caught), by omega⟩
end
section
variable {w : World} {A : Around} {mg mb : Str → Option Value} {n₀ : Nat} {B Z₀ Z Z' : Heap} {L : Addr} {m : Str → Option Value} {mu : List (Addr × Obj)} {h h' : Heap} {g : Array GenState} {d : Drawn} {t : Nat} {os : OsState} {E : Value → Shared → Prop} {env : Env}
theorem Fx.updE {a : Addr} {o o' : Obj} (F : Fx n₀ B Z₀ Z L m ((a, o) :: mu) h) (e : h'.get? a = some o') (hs : Heap.ExtBut a h h') : Fx n₀ B Z₀ Z L m ((a, o') :: mu) h' := by
  have G := Fx.updN (nu := [(a, o)]) (nu' := [(a, o')]) (F.perm (List.perm_append_comm (l₁ := [(a, o)]) (l₂ := mu))) (h' := h') (fun c x hc ex => hs c x (fun q => hc (by simp [q])) ex) rfl (fun p hp => by rcases List.mem_singleton.mp hp with rfl; exact e)
  exact G.perm List.perm_append_comm
/-- a thing that lies there is frozen -/
theorem Fx.grab {c : Addr} {o : Obj} (F : Fx n₀ B Z₀ Z L m mu h) (e : h.get? c = some o) (hc : n₀ ≤ c) (hL : c ≠ L) (hm : ∀ p ∈ mu, p.1 ≠ c) : ∃ Z', Fx n₀ B Z₀ Z' L m mu h ∧ Z.StaysIn Z' ∧ Z'.get? c = some o := by
  refine ⟨only h fun b => (Z.get? b).isSome || b == c, ⟨F.ns, F.base, fun b x e => only_get (F.stay _ _ (F.le _ _ e)) (by simp [F.le _ _ e]), fun b x e => (of_only e).1, F.L0, fun b hb e => only_none ?_, F.LB, only_none ?_, fun p hp => ?_, F.nd⟩, fun b x e => only_get (F.stay b x e) (by simp [e]), only_get e (by simp)⟩
  · simp [F.new b hb e, Nat.ne_of_lt (Nat.lt_of_lt_of_le hb hc)]
  · simp [F.LZ, Ne.symm hL]
  · have P := F.mus p hp
    exact ⟨P.1, P.2.1, P.2.2.1, only_none (by simp [P.2.2.2, hm p hp])⟩
theorem ba_up {mg : Str → Option Value} {P : Addr} (x : Z.BuiltinsAt mg P) (k : Z.StaysIn Z') : Z'.BuiltinsAt mg P := by
  obtain ⟨bm, ob, a1, a2, a3, a4, a5, r⟩ := x
  exact ⟨bm, ob, a1, a2, a3, a4, k _ _ a5, r⟩
/-- a lambda made where none was made before -/
theorem k_lam {params : Arguments} {body : Expr} {scope : Scope} {pos : Pos} {c P : Addr} {clos : List (Str × Addr)} {Q : Value → Shared → Prop} (hdef : defaultsOf params env = ([], [])) (F : Fx n₀ B Z₀ Z L m ((P, tabObj #[]) :: mu) h) (W : Wd w mg mb Z₀) (hC : CodeHd Z c P) (hB : Z.BuiltinsAt mg P) (hgP : mainGlobals ≠ P)
    (hcl : closureFor scope env = pure clos) (hge0 : env.globals = mainGlobals) (hcode : env.code = .ref c)
    (q : ∀ f c' ctv tb h' t' Z', Fx n₀ B Z₀ Z' L m ((P, tabObj tb) :: mu) h' → Z.StaysIn Z' → Z'.get? f = some (kla_obj "<lambda>" (env.qual ++ "<lambda>") params body scope clos ((mg "__name__").getD .none) c' ctv) → Z'.CodeRec (.ref c') (env.qual ++ "<lambda>") → Q (.ref f) ⟨h', g, d, t', os⟩) :
    wpAny (Mo w) A (eval (.Lambda params body scope pos) env) Q E ⟨h, g, d, t, os⟩ := by
  have D := F.mus (P, tabObj #[]) (.head _)
  refine kla_eval hdef (kla_makeFunction (s := ⟨h, g, d, t, os⟩) (mg := mg) (ps := #[]) hcl hge0 ((W.up F.le).g.keeps F.stay) hcode (hC.keeps F.stay) D.1 (by exact ⟨⟩) (by rfl) hgP (ba_up hB F.stay) fun c' ctv h' tk hx hge hlt hrec htb => ?_)
  have F1 := F.updE htb hx
  obtain ⟨c₂, oc, vs, tq, e2, hoc, r⟩ := hrec
  cases e2
  have hlt2 : ∀ {a o}, h.get? a = some o → a ≠ c' := fun e q => absurd (Heap.lt_size e) (by rw [q]; exact Nat.not_lt.mpr hge)
  obtain ⟨Z1, F2, l1, e1⟩ := F1.grab hoc (Nat.le_trans F.n0 hge) (fun q => absurd F.ns.lt (by rw [← q]; exact Nat.not_lt.mpr hge)) (fun p hp => by
    rcases List.mem_cons.mp hp with rfl | hp
    · exact hlt2 D.1
    · exact hlt2 (F.mus p (.tail _ hp)).1)
  obtain ⟨Z2, F3, l2, e3⟩ := F2.alloc (kla_obj "<lambda>" (env.qual ++ "<lambda>") params body scope clos ((mg "__name__").getD .none) c' ctv) rfl
  exact q _ c' ctv _ _ _ Z2 F3 (stays_trans l1 l2) e3 ⟨c', oc, vs, tq, rfl, l2 _ _ e1, r⟩
end
local macro_rules | `(tactic| tb_rel) => `(tactic| first | ((with_reducible refine' m_mat (by assumption) (by assumption) (MatV.up (by assumption) (by kts_caught)) ?z1 ?z2 ?z3 ?z4 ?_); (case z1 => k_is); (case z2 => k_is); (case z3 => k_is); (case z4 => exact fun _ _ _ _ _ _ => rfl)) | fail "none")
section
variable {w : World} {A : Around} {mg mb : Str → Option Value} {Z h : Heap} {g : Array GenState} {d : Drawn} {t : Nat} {os : OsState} {v v2 p : Value} {X Y N : Int}
theorem transformed {ps : List Part} (hA : Ok A 70) (W : Wd w mg mb Z) (hZ : Z.StaysIn h) (P : PathAt w Z v ps) (M : Mat w Z v2 X Y) (hl : ps.length ≤ 20) (hs : ∀ ss ∈ ps, ss.length ≤ 20) (hb : BndP ps) (hX : X.natAbs ≤ 1000) (hY : Y.natAbs ≤ 1000)
    (hC : CodeHd Z 292 288) (hB : Z.BuiltinsAt mg 288) (hP : h.get? 288 = some (tabObj #[])) (hPZ : Z.get? 288 = none) :
    CalM w A ⟨h, g, d, t, os⟩ (call (.ref 293) [v, v2]) Z [(288, tabObj #[])] (fun Z' r mx' => ∃ tb, mx' = [(288, tabObj tb)] ∧ PathAt w Z' r (shP X Y ps)) := by
  refine enterM (args := ⟨[v, v2], []⟩) (binds := [("path", v), ("matrix", v2)]) (fun L => [("matrix", L + 1)]) [(288, tabObj #[])] (fun p hp => by rcases List.mem_singleton.mp hp with rfl; exact ⟨hP, hPZ⟩) (by simp) hA.room W hZ (by k_is) (by k_is) (BindsTo.of_eq rfl) (fun _ => rfl) (locsC ["path", "matrix"] rfl (fun _ => rfl) (by decide)) (fun _ => nodup_of (ns := ["matrix"]) rfl (by decide)) rfl rfl rfl fun L h₁ t₁ obs hob hL F => ?_
  have hob := hob ("matrix", L + 1) (.head _)
  have hL := hL ("matrix", L + 1) (.head _)
  have F0 : Fx _ _ _ _ _ _ ([(L + 1, obs "matrix"), (288, tabObj #[])] : List (Addr × Obj)) h₁ := F.perm (List.Perm.swap ..)
  clear F
  obtain ⟨Z1, F, l1, e1⟩ := Fx.freeze F0 hL
  clear F0
  have C : CellZ Z1 (L + 1) v2 := ⟨_, e1, hob⟩
  (repeat' tb_rel)
  refine k_lam rfl F W (hC.keeps l1) (ba_up hB l1) (by decide) rfl rfl rfl fun f c' ctv tb h2 t2 Z2 F2 l2 ef hrec => ?_
  (repeat' tb_rel)
  have q2 := stays_trans l1 l2
  have M2 := M.up q2
  have C2 := C.up l2
  have hh := hA.hd
  refine Cal.use (each_point (X := X) (Y := Y) (hA.deeper.less (by first | decide | omega)) (W.up F2.le) F2.stay (P.up q2) ⟨f, _, _, rfl, ef, rfl⟩ hl hs hb ?_) F2 fun r3 h3 t3 Z3 F3 l3 P3 => ?_
  · intro A' h' g' d' t' os' Zx pv q hA' hz hzh Pq hbq
    refine enterL (args := ⟨[pv], []⟩) (binds := [("p", pv)]) hA'.room (W.up (stays_trans q2 hz)) hzh (hz _ _ ef) (by obtain ⟨c, oc, vs, tq, hc, hoc, r⟩ := hrec; exact ⟨c, oc, vs, tq, hc, hz _ _ hoc, r⟩) rfl (locs rfl) rfl rfl rfl (by decide) fun L4 h4 t4 F4 => ?_
    have W4 := W.up (stays_trans q2 hz)
    have C4 := C2.up hz
    obtain ⟨va, vb, vc, vd, ve, vf, Mv, Mr⟩ := M2.up hz
    obtain ⟨xa, xb, Tq, Da, Db⟩ := Pq
    (repeat' tb_rel)
    rename Fx _ _ _ _ _ _ _ _ => F5
    refine Cal.use (applied (hA'.deeper.less (by first | decide | omega)) (W4.up F5.le) F5.stay (M2.up (stays_trans hz F5.le)) (Da.up F5.le) (Db.up F5.le) (by have := hbq.1; omega) (by have := hbq.2; omega) (by first | decide | omega) (by first | decide | omega)) F5 fun r6 h6 t6 Z6 F6 l6 P6 => ?_
    exact ⟨_, _, _, _, _, rfl, F6, P6⟩
  · exact ⟨_, _, _, _, [], [(288, tabObj tb)], rfl, F3, rfl, tb, rfl, P3⟩
end
theorem log_small {b : Int} (h : b.natAbs < 2 ^ 64) : b.natAbs.log2 < 9000 := by
  rcases Nat.eq_zero_or_pos b.natAbs with e | e
  · rw [e]; decide
  · exact Nat.lt_trans ((Nat.log2_lt (Nat.ne_of_gt e)).mpr h) (by decide)
def IsL (o : Obj) (ys : List Value) : Prop := o.cls = .type "list" ∧ ∃ n, o.data = .seq ys.toArray n
section
variable {w : World} {A : Around} {n₀ : Nat} {B Z₀ Z : Heap} {L D : Addr} {m : Str → Option Value} {mu : List (Addr × Obj)} {h h' : Heap} {g : Array GenState} {d : Drawn} {t : Nat} {os : OsState} {E : Value → Shared → Prop} {env : Env} {o : Obj} {ys : List Value} {k a : Int} {u : Tok} {v : Value}
theorem IsL.at (F : Fx n₀ B Z₀ Z L m ((D, o) :: mu) h) (I : IsL o ys) : h.IsList D ys.toArray := ⟨o, (F.mus (D, o) (.head _)).1, I.1, I.2⟩
theorem i_mu {value slice : Expr} {Q : Value → Shared → Prop} (F : Fx n₀ B Z₀ Z L m ((D, o) :: mu) h) (I : IsL o ys) (h0 : 0 ≤ k) (h1 : k < ys.length) (hz : ys.length ≤ 100000) (hx : ys[k.toNat]? = some v)
    (hs : ∀ o, subscripted slice false o (.int k u) = operate [o, .int k u] (getItem o (.int k u))) (q : Q v ⟨h, g, d, t, os⟩) : wpAny (Mo w) A (subscriptTail value slice (.ref D) (.int k u)) Q E ⟨h, g, d, t, os⟩ :=
  i_lh (I.at F) (by first | decide | omega) h1 hz (by rw [if_neg (by first | decide | omega)]; exact hx) hs q
theorem set_mu {Q : Unit → Shared → Prop} (F : Fx n₀ B Z₀ Z L m ((D, o) :: mu) h) (I : IsL o ys) (h0 : 0 ≤ k) (hf : k < 2 ^ 63) (h1 : k < ys.length)
    (q : ∀ h' o', Fx n₀ B Z₀ Z L m ((D, o') :: mu) h' → IsL o' (ys.set k.toNat v) → Q () ⟨h', g, d, t, os⟩) : wpAny (Mo w) A (setItem (.ref D) (.int k u) v) Q E ⟨h, g, d, t, os⟩ := by
  refine wpAny_setItem_list (s := ⟨h, g, d, t, os⟩) (I.at F) h0 hf (by simpa using h1) fun h' hl hs => ?_
  obtain ⟨o', e, c, n, dd⟩ := hl
  refine q h' o' (F.upd e hs) ⟨c, n, ?_⟩
  rw [dd]
  congr 1
  simp
theorem abs_i {Q : Value → Shared → Prop} (q : ∀ t' k, Q (.int (if a < 0 then -a else a) t') ⟨h, g, d, k, os⟩) : wpAny (Mo w) A (call (.builtin "abs") [.int a u]) Q E ⟨h, g, d, t, os⟩ := call_abs_int (s := ⟨h, g, d, t, os⟩) fun u tk => q u tk
theorem int_i {Q : Value → Shared → Prop} {s : Shared} (q : Q (.int a u) s) : wpAny (Mo w) A (call (.type "int") [.int a u]) Q E s := call_int_int q
theorem ints_get {vs : List Value} {ns : List Int} {i : Nat} (x : IntsAre vs ns) (e : vs[i]? = some v) : ∃ n t, v = .int n t := by
  induction x generalizing i with
  | nil => simp at e
  | cons n t _ ih =>
    cases i with
    | zero => simp at e; exact ⟨n, t, e.symm⟩
    | succ i => exact ih (by simpa using e)
/-- the pool, so many draws made -/
def PoolO (Z : Heap) (o : Obj) (n : Nat) : Prop := ∃ cv cs ns great state tg ts tp, IsL o [cv, .int great tg, .int state ts, .int n tp] ∧ Lst Z cv cs ∧ IntsAre cs ns ∧ cs.length ≤ 40
theorem PoolO.up {Z Z' : Heap} {n : Nat} (x : PoolO Z o n) (k : Z.StaysIn Z') : PoolO Z' o n := by
  obtain ⟨cv, cs, ns, gr, st, tg, ts, tp, I, T, J, l⟩ := x
  exact ⟨cv, cs, ns, gr, st, tg, ts, tp, I, T.up k, J, l⟩
end
local macro_rules | `(tactic| tb_rel) => `(tactic| first
  | ((with_reducible show wpAny _ _ (call _ _) _ _ _); first
    | ((with_reducible refine' abs_i ?_); intro _ _)
    | ((with_reducible refine' int_i ?_)))
  | ((with_reducible show wpAny _ _ (binaryOp _ _ _) _ _ _); first
    | ((with_reducible refine' div_ii ?z1 ?z2 ?_); (case z1 => omega); (case z2 => exact log_small (by omega))))
  | ((with_reducible show wpAny _ _ (subscriptTail _ _ _ _) _ _ _); first
    | ((with_reducible refine' i_mu (by assumption) (by assumption) ?z1 ?z2 ?z3 ?z4 ?z5 ?_); (case z1 => decide); (case z2 => simp only [List.length_set, List.length_cons, List.length_nil]; omega); (case z3 => simp only [List.length_set, List.length_cons, List.length_nil]; omega); (case z4 => exact rfl); (case z5 => intro _; with_unfolding_all rfl)))
  | ((with_reducible refine' set_mu (by assumption) (by assumption) ?z1 ?z2 ?z3 ?_); (case z1 => decide); (case z2 => decide); (case z3 => simp only [List.length_set, List.length_cons, List.length_nil]; omega); intro _ _ _ _)
  | fail "none")
section
variable {w : World} {A : Around} {mg mb : Str → Option Value} {Z h : Heap} {g : Array GenState} {d : Drawn} {t : Nat} {os : OsState} {v v2 p : Value} {X Y N : Int}
theorem draw {D : Addr} {o : Obj} {n : Nat} {most : Int} {u : Tok} (hA : Ok A 3) (W : Wd w mg mb Z) (hZ : Z.StaysIn h) (P : PoolO Z o n) (ho : h.get? D = some o) (hoZ : Z.get? D = none) (hn : n ≤ 10000) (h0 : 0 < most) (h1 : most ≤ 100) :
    CalM w A ⟨h, g, d, t, os⟩ (call (.ref 470) [.ref D, .int most u]) Z [(D, o)] (fun Z' r mx' => ∃ o' x u', mx' = [(D, o')] ∧ PoolO Z' o' (n + 1) ∧ r = .int x u' ∧ 0 ≤ x ∧ x < most) := by
  obtain ⟨cv, cs, ns, great, state, tg, ts, tp, I, T, J, l⟩ := P
  refine enterM (args := ⟨[.ref D, .int most u], []⟩) (binds := [("pool", .ref D), ("most", .int most u)]) (fun L => []) [(D, o)] (fun p hp => by rcases List.mem_singleton.mp hp with rfl; exact ⟨ho, hoZ⟩) (by simp) hA.room W hZ (by k_is) (by k_is) (BindsTo.of_eq rfl) (fun _ => rfl) (locsC ["pool", "most"] rfl (fun _ => rfl) (by decide)) (fun _ => List.nodup_nil) rfl rfl rfl fun L h₁ t₁ obs hob hL F => ?_
  refine wp_gen fun Qe hQe => ?_
  have F0 : Fx _ _ _ _ _ _ ([(D, o)] : List (Addr × Obj)) h₁ := F
  clear F
  (repeat' tb_rel)
  · rename IsL _ ((List.set _ _ _).set _ _) => Ie
    rename Fx _ _ _ _ _ _ _ _ => Fe
    exact hQe _ _ ⟨_, _, _, _, [], [(D, _)], rfl, Fe, rfl, _, _, _, rfl, ⟨cv, cs, ns, _, _, _, _, _, Ie, T, J, l⟩, rfl, Int.fmod_nonneg_of_pos _ h0, Int.fmod_lt_of_pos _ h0⟩
  · rename (n : Int) < _ => hc
    have hg := List.getElem?_eq_getElem (by omega : n < cs.length)
    obtain ⟨c, tc, e⟩ := ints_get J hg
    rw [e] at hg
    refine i_lz (by assumption) T (by first | decide | omega) (by first | decide | omega) (by first | decide | omega) (by rw [if_neg (by first | decide | omega)]; exact hg) (fun _ => by with_unfolding_all rfl) ?_
    (repeat' tb_rel)
    rename IsL _ ((List.set _ _ _).set _ _) => Ie
    rename Fx _ _ _ _ _ _ _ _ => Fe
    exact hQe _ _ ⟨_, _, _, _, [], [(D, _)], rfl, Fe, rfl, _, _, _, rfl, ⟨cv, cs, ns, _, _, _, _, _, Ie, T, J, l⟩, rfl, Int.fmod_nonneg_of_pos _ h0, Int.fmod_lt_of_pos _ h0⟩
  · rename IsL _ ((List.set _ _ _).set _ _) => Ie
    rename Fx _ _ _ _ _ _ _ _ => Fe
    exact hQe _ _ ⟨_, _, _, _, [], [(D, _)], rfl, Fe, rfl, _, _, _, rfl, ⟨cv, cs, ns, _, _, _, _, _, Ie, T, J, l⟩, rfl, Int.fmod_nonneg_of_pos _ h0, Int.fmod_lt_of_pos _ h0⟩
end
section
variable {w : World} {A : Around} {n₀ : Nat} {B Z₀ Z : Heap} {L D : Addr} {m : Str → Option Value} {mu : List (Addr × Obj)} {h h' : Heap} {g : Array GenState} {d : Drawn} {t : Nat} {os : OsState} {E : Value → Shared → Prop} {env : Env} {vs : List Value} {k a : Int} {u : Tok} {v o i : Value}
theorem pick_upto (vs : List Value) (h0 : 0 ≤ k) : slicePick vs.toArray none (some k) none = (vs.take k.toNat).toArray := by
  rw [kms_pick_eq]
  unfold kms_pick kms_lo kms_hi
  simp only [if_neg (Int.not_lt.mpr h0), List.drop_zero, Nat.sub_zero]
  rw [← List.take_eq_take_min]
/-- the first k of a list -/
theorem x_upto {value slice : Expr} {Q : Value → Shared → Prop} (F : Fx n₀ B Z₀ Z L m mu h) (T : Lst Z o vs) (S : SliceAt Z i .none (.int k u) .none) (h0 : 0 ≤ k) (hz : vs.length ≤ sizeLine)
    (hs : ∀ o i, subscripted slice false o i = operate [i, o] (getItem o i)) (q : ∀ r h' Z', Fx n₀ B Z₀ Z' L m mu h' → Z.StaysIn Z' → Lst Z' r (vs.take k.toNat) → Q r ⟨h', g, d, t, os⟩) :
    wpAny (Mo w) A (subscriptTail value slice o i) Q E ⟨h, g, d, t, os⟩ := by
  obtain ⟨a, rfl, ob, ho, r⟩ := T
  obtain ⟨x, rfl, ix⟩ := S
  have hl : h.IsList a vs.toArray := ⟨ob, F.stay _ _ ho, r⟩
  obtain ⟨Z', F', l', e⟩ := F.alloc { cls := .type "list", data := .seq (slicePick vs.toArray none (some k) none) } rfl
  refine tail_any (s := ⟨h, g, d, t, os⟩) hl.typeIs slot_list_getitem.lookup (wpAny_getItem_list_slice (s := ⟨h, g, d, t, os⟩) (lo := none) (hi := some k) (st := none) hl (slice_up ix F.stay) .none (.int _ _) .none (by simp) ?_ (by simpa using hz)) (hs _ _)
  refine q _ _ Z' F' l' ⟨_, rfl, _, e, rfl, 0, ?_⟩
  rw [pick_upto _ h0]
theorem tr_lst {Q : Bool → Shared → Prop} (F : Fx n₀ B Z₀ Z L m mu h) (T : Lst Z o vs) (hz : vs.length ≤ 100000) (q : ∀ k, Q (!vs.isEmpty) ⟨h, g, d, k, os⟩) : wpAny (Mo w) A (truthy o) Q E ⟨h, g, d, t, os⟩ := by
  obtain ⟨a, rfl, ob, ho, r⟩ := T
  have hl : h.IsList a vs.toArray := ⟨ob, F.stay _ _ ho, r⟩
  refine wpAny_truthy_list (s := ⟨h, g, d, t, os⟩) hl (by rw [List.size_toArray]; omega) ?_
  rw [List.isEmpty_toArray]
  exact q _
theorem ints_take {vs : List Value} {ns : List Int} (n : Nat) (x : IntsAre vs ns) : IntsAre (vs.take n) (ns.take n) := by
  induction x generalizing n with
  | nil => simp; exact .nil
  | cons a t _ ih =>
    cases n with
    | zero => simp; exact .nil
    | succ n => simp; exact .cons _ _ (ih n)
end
section
variable {w : World} {A : Around} {mg mb : Str → Option Value} {Z h : Heap} {g : Array GenState} {d : Drawn} {t : Nat} {os : OsState} {v v2 p : Value} {X Y N : Int}
def IntV (v : Value) (n : Int) : Prop := ∃ u, v = .int n u
theorem ints_of {vs : List Value} {ns : List Int} (a : All2 IntV vs ns) : IntsAre vs ns := by
  induction a with
  | nil => exact .nil
  | cons s _ ih => obtain ⟨u, rfl⟩ := s; exact .cons _ _ ih
theorem of_ints {vs : List Value} {ns : List Int} (a : IntsAre vs ns) : All2 IntV vs ns := by
  induction a with
  | nil => exact .nil
  | cons n t _ ih => exact .cons ⟨t, rfl⟩ ih
theorem box {vs : List Value} {ns : List Int} (hA : Ok A 3) (W : Wd w mg mb Z) (hZ : Z.StaysIn h) (T : Lst Z v vs) (J : IntsAre vs ns) (hl : vs.length ≤ 1000) :
    CalN w A ⟨h, g, d, t, os⟩ (call (.ref 463) [v]) Z (fun Z' o => PoolO Z' o 0) := by
  refine enterN (args := ⟨[v], []⟩) (binds := [("script", v)]) (fun L => []) hA.room W hZ (by k_is) (by k_is) (BindsTo.of_eq rfl) (fun _ => rfl) (locsC ["script"] rfl (fun _ => rfl) (by decide)) (fun _ => List.nodup_nil) rfl rfl rfl fun B L h₁ t₁ obs hob hL F => ?_
  refine wp_gen fun Qe hQe => ?_
  have F0 : Fx _ _ _ _ _ _ ([] : List (Addr × Obj)) h₁ := F
  clear F
  (repeat' tb_rel)
  rename SliceAt _ _ _ _ _ => S1
  rename Heap.StaysIn Z _ => l1
  rename Fx _ _ _ _ _ _ _ _ => F1
  refine x_upto F1 (T.up l1) S1 (by decide) (by rw [PySem.sizeLine_eq]; omega) (fun _ _ => by with_unfolding_all rfl) fun r2 h2 Z2 F2 l2 T2 => ?_
  (repeat' tb_rel)
  have J2 := of_ints (ints_take (Int.toNat 40) J)
  refine it_lst hA.hd F2 T2 fun I h3 nu St It hs F3 => ?_
  have hlen := J2.length
  refine w_compA (It _) (by decide) rfl (fun _ v n => IntV v n) (fun i => (ns.take (Int.toNat 40))[i]?) F3 hs (by rw [PySem.sizeLine_eq, List.length_take]; omega) (fun _ _ _ _ k x => x) rfl rfl rfl ?_ ?_
  · rintro C4 i4 v4 Z4 mC mu4 h4 t4 hi4 hz4 F4 ⟨nu4, hP, -⟩
    obtain ⟨n, hn, u4, rfl⟩ := J2.get hP
    have W1 := W.up (stays_trans l1 l2)
    (repeat' tb_rel)
    rename Fx _ _ _ _ _ _ _ _ => Fe
    exact ⟨_, _, _, _, rfl, Fe, stays_refl, _, hn, _, rfl⟩
  · intro cv h4 t4 Z4 cs F4 l4 T4 R4
    rw [hlen, fm_some] at R4
    have J4 := ints_of R4
    have hcl := R4.length
    have hc40 : cs.length ≤ 40 := by rw [hcl, List.length_take]; exact Nat.le_trans (Nat.min_le_left _ _) (Nat.le_refl 40)
    (iterate 5 tb_rel)
    refine wpAny_mono (Q := fun f s => f = .next ∧ ∃ h' t' m' G tg, s = ⟨h', g, d, t', os⟩ ∧ Fx h.objs.size B Z Z4 L m' [] h' ∧ m' "great" = some (.int G tg) ∧ m' "cells" = some cv) (E := fun _ _ => False) ?_ (fun f s z => ?_) (fun _ _ z => z)
    · (repeat' tb_rel)
      rename Fx _ _ _ _ _ _ _ _ => F5
      refine tr_lst F5 T4 (by first | decide | omega) fun k5 => ?_
      cases cs with
      | nil =>
        refine s_ff ?_
        (repeat' tb_rel)
        exact ⟨rfl, _, _, _, _, _, rfl, F5, rfl, rfl⟩
      | cons c0 cr =>
        obtain ⟨c, tc, e⟩ := ints_get J4 (i := 0) rfl
        subst e
        have hz0 : (-((Value.int c tc :: cr).length : Int) ≤ 0) ∧ (0 : Int) < ((Value.int c tc :: cr).length : Int) := by simp only [List.length_cons]; omega
        refine s_tt ?_
        (repeat' tb_rel)
        refine i_lz F5 T4 hz0.1 hz0.2 (by first | decide | omega) rfl (fun _ => by with_unfolding_all rfl) ?_
        (repeat' tb_rel)
        · refine i_lz F5 T4 hz0.1 hz0.2 (by first | decide | omega) rfl (fun _ => by with_unfolding_all rfl) ?_
          (repeat' tb_rel)
          rename Fx _ _ _ _ _ _ _ _ => F6
          exact ⟨rfl, _, _, _, _, _, rfl, F6, rfl, rfl⟩
        · exact ⟨rfl, _, _, _, _, _, rfl, F5, rfl, rfl⟩
    · obtain ⟨rfl, h5, t5, m5, G, tg, rfl, F5, g1, g2⟩ := z
      (repeat' tb_rel)
      rename Fx _ _ _ _ _ _ _ _ => F6
      refine it_lst hA.hd F6 T4 fun I7 h7 nu7 St7 It7 hs7 F7 => ?_
      refine w_for (It7 _) (fun i Z' m mu => mu = [] ∧ Z4.StaysIn Z' ∧ m "great" = some (.int G tg) ∧ m "cells" = some cv ∧ ∃ x u, m "state" = some (.int x u)) F7 stays_refl hs7 ⟨rfl, stays_refl, g1, g2, _, _, rfl⟩ ?_ ?_
      · rintro i8 v8 Z8 m8 mu8 nu8 h8 t8 hi8 hz8 F8 hP8 ⟨rfl, q8, k1, k2, x, u, k3⟩
        refine wp_gen2 fun Qf hQf => ?_
        obtain ⟨c, tc, rfl⟩ := ints_get J4 hP8
        simp only [List.nil_append] at F8
        (repeat' tb_rel)
        rename Fx _ _ _ _ _ _ _ _ => Fe
        exact hQf _ _ ⟨rfl, _, _, _, _, [], rfl, Fe, stays_refl, rfl, q8, k1, k2, _, _, rfl⟩
      · rintro Z8 m8 mu8 h8 t8 F8 ⟨rfl, q8, k1, k2, x, u, k3⟩
        (repeat' tb_rel)
        refine k_lst F8 (Nat.le_of_ble_eq_true rfl) fun a h9 F9 ha => ?_
        exact hQe _ _ ⟨_, _, _, _, _, _, _, rfl, F9, ha, ⟨cv, cs, _, _, _, _, _, _, ⟨rfl, _, rfl⟩, T4.up q8, J4, hc40⟩, rfl⟩
end
def GoodS (ss : Part) : Prop := 2 ≤ ss.length ∧ ss.length ≤ 8 ∧ ∀ q, some q ∈ ss → q.1.natAbs ≤ 60 ∧ q.2.natAbs ≤ 60
def GoodP (ps : List Part) : Prop := ∀ ss ∈ ps, GoodS ss
section
variable {w : World} {A : Around} {mg mb : Str → Option Value} {n₀ : Nat} {B Z₀ Z : Heap} {L D : Addr} {m : Str → Option Value} {mu : List (Addr × Obj)} {h h' : Heap} {g : Array GenState} {d : Drawn} {t : Nat} {os : OsState} {E : Value → Shared → Prop} {o : Obj} {n : Nat} {most : Int} {u : Tok}
theorem k_draw {Q : Value → Shared → Prop} (hA : Ok A 3) (W : Wd w mg mb Z₀) (F : Fx n₀ B Z₀ Z L m ((D, o) :: mu) h) (P : PoolO Z o n) (hn : n ≤ 10000) (h0 : 0 < most) (h1 : most ≤ 100)
    (q : ∀ x u h' t' Z' o', Fx n₀ B Z₀ Z' L m ((D, o') :: mu) h' → Z.StaysIn Z' → PoolO Z' o' (n + 1) → 0 ≤ x → x < most → Q (.int x u) ⟨h', g, d, t', os⟩) : wpAny (Mo w) A (call (.ref 470) [.ref D, .int most u]) Q E ⟨h, g, d, t, os⟩ := by
  have M := F.mus (D, o) (.head _)
  refine CalM.use (mu := mu) (draw hA (W.up F.le) F.stay P M.1 M.2.2.2 hn h0 h1) F fun r h' t' Z' mx' F' l' p => ?_
  obtain ⟨o', x, u', rfl, P', rfl, a, b⟩ := p
  exact q x u' h' t' Z' o' F' l' P' a b
end
section
variable {w : World} {A : Around} {mg mb : Str → Option Value} {Z h : Heap} {g : Array GenState} {d : Drawn} {t : Nat} {os : OsState} {v v2 p : Value} {X Y N : Int}
theorem law_path {D : Addr} {o : Obj} (hA : Ok A 60) (W : Wd w mg mb Z) (hZ : Z.StaysIn h) (P : PoolO Z o 0) (ho : h.get? D = some o) (hoZ : Z.get? D = none) :
    CalM w A ⟨h, g, d, t, os⟩ (call (.ref 477) [.ref D]) Z [(D, o)] (fun Z' r mx' => ∃ o' n ps, mx' = [(D, o')] ∧ PoolO Z' o' n ∧ n ≤ 100 ∧ PathAt w Z' r ps ∧ ps.length ≤ 2 ∧ GoodP ps) := by
  refine enterM (args := ⟨[.ref D], []⟩) (binds := [("pool", .ref D)]) (fun L => []) [(D, o)] (fun p hp => by rcases List.mem_singleton.mp hp with rfl; exact ⟨ho, hoZ⟩) (by simp) hA.room W hZ (by k_is) (by k_is) (BindsTo.of_eq rfl) (fun _ => rfl) (locsC ["pool"] rfl (fun _ => rfl) (by decide)) (fun _ => List.nodup_nil) rfl rfl rfl fun L h₁ t₁ obs hob hL F => ?_
  refine wp_gen fun Qe hQe => ?_
  have F0 : Fx _ _ _ _ _ _ ([(D, o)] : List (Addr × Obj)) h₁ := F
  clear F
  (repeat' tb_rel)
  refine Cal.use (path_none (hA.deeper.less (by first | decide | omega)) (W.up F0.le) F0.stay) F0 fun r1 h1 t1 Z1 F1 l1 P1 => ?_
  have P := P.up l1
  (repeat' tb_rel)
  rename Fx _ _ _ _ _ _ _ _ => F2
  refine k_draw (hA.deeper.less (by first | decide | omega)) W F2 P (by first | decide | omega) (by decide) (by decide) fun x3 u3 h3 t3 Z3 o3 F3 l3 P3 a3 b3 => ?_
  have P1 := P1.up l3
  (repeat' tb_rel)
  rename Rng _ _ _ _ _ => Rg
  rename Heap.StaysIn Z3 _ => l4
  rename Fx _ _ _ _ _ _ _ _ => F4
  refine it_rng1 hA.hd F4 Rg (by first | decide | omega) (by first | decide | omega) fun I5 h5 nu5 St5 It5 hs5 F5 => ?_
  refine w_for (It5 _) (fun i Z' m mu => ∃ o' n', mu = [(D, o')] ∧ PoolO Z' o' n' ∧ n' ≤ 1 + 20 * i ∧ m "pool" = some (.ref D) ∧ ∃ pv ps, m "path" = some pv ∧ PathAt w Z' pv ps ∧ ps.length = i ∧ GoodP ps) F5 stays_refl hs5 ⟨o3, 1, rfl, P3.up l4, by omega, rfl, _, [], rfl, P1.up l4, rfl, fun _ hm => nomatch hm⟩ ?_ ?_
  · rintro i v6 Z6 m6 mu6 nu6 h6 t6 hi hz6 F6 ⟨u6, rfl⟩ ⟨o6, n6, rfl, P6, hn6, m1, pv, ps, m2, Pp, hpl, hg⟩
    refine wp_gen2 fun Qf hQf => ?_
    simp only [List.cons_append, List.nil_append] at F6
    (repeat' tb_rel)
    rename Fx _ _ _ _ _ _ _ _ => F7
    refine k_draw (hA.deeper.less (by first | decide | omega)) W F7 P6 (by first | decide | omega) (by decide) (by decide) fun x8 u8 h8 t8 Z8 o8 F8 l8 P8 a8 b8 => ?_
    (repeat' tb_rel)
    refine Cal.use (dec_new (p := 1) (N := 5 * x8) (hA.deeper.less (by first | decide | omega)) (W.up F8.le) F8.stay (Or.inr ⟨rfl, rfl⟩)) F8 fun r9 h9 t9 Z9 F9 l9 D9 => ?_
    have P9 := P8.up l9
    (repeat' tb_rel)
    refine k_draw (hA.deeper.less (by first | decide | omega)) W F9 P9 (by first | decide | omega) (by decide) (by decide) fun x10 u10 h10 t10 Z10 o10 F10 l10 P10 a10 b10 => ?_
    (repeat' tb_rel)
    refine Cal.use (dec_new (p := 1) (N := 5 * x10) (hA.deeper.less (by first | decide | omega)) (W.up F10.le) F10.stay (Or.inr ⟨rfl, rfl⟩)) F10 fun r11 h11 t11 Z11 F11 l11 D11 => ?_
    have D9 := D9.up (stays_trans l10 l11)
    have P11 := P10.up l11
    have Pp := Pp.up (stays_trans l8 (stays_trans l9 (stays_trans l10 l11)))
    (repeat' tb_rel)
    have hlast : ∀ ss, ps.getLast? = some ss → ss.length ≠ 1 := fun ss e => by have := (hg ss (List.mem_of_getLast? e)).1; omega
    refine Cal.use (move_to (hA.deeper.less (by first | decide | omega)) (W.up F11.le) F11.stay Pp hlast (by first | decide | omega) (Or.inl D9) (Or.inl D11)) F11 fun r12 h12 t12 Z12 F12 l12 P12 => ?_
    have P11 := P11.up l12
    (repeat' tb_rel)
    rename Fx _ _ _ _ _ _ _ _ => F13
    refine k_draw (hA.deeper.less (by first | decide | omega)) W F13 P11 (by first | decide | omega) (by decide) (by decide) fun x14 u14 h14 t14 Z14 o14 F14 l14 P14 a14 b14 => ?_
    have P12 := P12.up l14
    (repeat' tb_rel)
    rename Rng _ _ _ _ _ => Rg15
    rename Heap.StaysIn Z14 _ => l15
    rename Fx _ _ _ _ _ _ _ _ => F15
    refine it_rng1 hA.hd F15 Rg15 (by first | decide | omega) (by first | decide | omega) fun I16 h16 nu16 St16 It16 hs16 F16 => ?_
    have l17 : Z6.StaysIn _ := stays_trans l8 (stays_trans l9 (stays_trans l10 (stays_trans l11 (stays_trans l12 (stays_trans l14 l15)))))
    refine w_for (It16 _) (fun j Z' m mu => Z6.StaysIn Z' ∧ ∃ o' n', mu = (D, o') :: nu6 ∧ PoolO Z' o' n' ∧ n' ≤ 4 + 20 * i + 2 * j ∧ m "pool" = some (.ref D) ∧ ∃ pv ss q, m "path" = some pv ∧ PathAt w Z' pv (ps ++ [ss ++ [some q]]) ∧ ss.length = j ∧ ∀ q', some q' ∈ (ss ++ [some q] : Part) → q'.1.natAbs ≤ 60 ∧ q'.2.natAbs ≤ 60) F16 stays_refl hs16
      ⟨l17, o14, n6 + 1 + 1 + 1, rfl, P14.up l15, by omega, m1, _, [], (5 * x8, 5 * x10), rfl, P12.up l15, rfl, fun q' hq => by
        simp only [List.nil_append, List.mem_singleton, Option.some.injEq] at hq
        subst hq
        exact ⟨by show (5 * x8).natAbs ≤ 60; omega, by show (5 * x10).natAbs ≤ 60; omega⟩⟩ ?_ ?_
    · rintro j v18 Z18 m18 mu18 nu18 h18 t18 hj hz18 F18 ⟨u18, rfl⟩ ⟨q18, o18, n18, rfl, P18, hn18, k1, pv18, ss, q, k2, Pq, hsl, hbq⟩
      refine wp_gen2 fun Qf hQf => ?_
      simp only [List.cons_append] at F18
      (repeat' tb_rel)
      rename Fx _ _ _ _ _ _ _ _ => F19
      refine k_draw (hA.deeper.less (by first | decide | omega)) W F19 P18 (by first | decide | omega) (by decide) (by decide) fun x20 u20 h20 t20 Z20 o20 F20 l20 P20 a20 b20 => ?_
      (repeat' tb_rel)
      refine Cal.use (dec_new (p := 1) (N := x20) (hA.deeper.less (by first | decide | omega)) (W.up F20.le) F20.stay (Or.inr ⟨rfl, rfl⟩)) F20 fun r21 h21 t21 Z21 F21 l21 D21 => ?_
      have P21 := P20.up l21
      (repeat' tb_rel)
      refine k_draw (hA.deeper.less (by first | decide | omega)) W F21 P21 (by first | decide | omega) (by decide) (by decide) fun x22 u22 h22 t22 Z22 o22 F22 l22 P22 a22 b22 => ?_
      (repeat' tb_rel)
      refine Cal.use (dec_new (p := 1) (N := 5 * x22) (hA.deeper.less (by first | decide | omega)) (W.up F22.le) F22.stay (Or.inr ⟨rfl, rfl⟩)) F22 fun r23 h23 t23 Z23 F23 l23 D23 => ?_
      have D21 := D21.up (stays_trans l22 l23)
      have P23 := P22.up l23
      have l24 := stays_trans l20 (stays_trans l21 (stays_trans l22 l23))
      have Pq := Pq.up l24
      (repeat' tb_rel)
      refine Cal.use (line_to (hA.deeper.less (by first | decide | omega)) (W.up F23.le) F23.stay Pq (by first | decide | omega) (by first | decide | omega) (Or.inl D21) (Or.inl D23)) F23 fun r25 h25 t25 Z25 F25 l25 P25 => ?_
      have P23 := P23.up l25
      (repeat' tb_rel)
      rename Fx _ _ _ _ _ _ _ _ => Fe
      refine hQf _ _ ⟨rfl, _, _, _, _, (D, o22) :: nu6, rfl, Fe, stays_trans l24 l25, stays_trans q18 (stays_trans l24 l25), _, _, rfl, P23, by omega, k1, _, _, _, rfl, P25, by simp; omega, fun q' hq => ?_⟩
      rcases List.mem_append.mp hq with hq | hq
      · exact hbq q' hq
      · simp only [List.mem_singleton, Option.some.injEq] at hq
        subst hq
        exact ⟨by show x20.natAbs ≤ 60; omega, by show (5 * x22).natAbs ≤ 60; omega⟩
    · rintro Z18 m18 mu18 h18 t18 F18 ⟨q18, o18, n18, rfl, P18, hn18, k1, pv18, ss, q, k2, Pq, hsl, hbq⟩
      (repeat' tb_rel)
      refine Cal.use (close_path (hA.deeper.less (by first | decide | omega)) (W.up F18.le) F18.stay Pq (by first | decide | omega) (by first | decide | omega)) F18 fun r19 h19 t19 Z19 F19 l19 P19 => ?_
      have P18 := P18.up l19
      (repeat' tb_rel)
      rename Fx _ _ _ _ _ _ _ _ => Fe
      refine hQf _ _ ⟨rfl, _, _, _, _, [(D, o18)], rfl, Fe, stays_trans q18 l19, o18, n18, rfl, P18, by omega, k1, _, _, rfl, P19, by simp; omega, fun s hs => ?_⟩
      rcases List.mem_append.mp hs with hs | hs
      · exact hg s hs
      · rw [List.mem_singleton] at hs
        subst hs
        refine ⟨by simp, by simp; omega, fun q' hq => ?_⟩
        rcases List.mem_append.mp hq with hq | hq
        · exact hbq q' hq
        · simp at hq
  · rintro Z6 m6 mu6 h6 t6 F6 ⟨o6, n6, rfl, P6, hn6, m1, pv, ps, m2, Pp, hpl, hg⟩
    (repeat' tb_rel)
    exact hQe _ _ ⟨_, _, _, _, [], [(D, _)], rfl, F6, rfl, _, _, _, rfl, P6, by omega, Pp, by omega, hg⟩
end
section
open PyProof.Rows.LCg
theorem compTurn_in (elt target iter : Expr) (g0 : Comprehension) (ifs : List Expr) (scope : Scope) (pos : Pos) (it acc : Value) (env : Env) :
    compTurn (.ListComp elt [g0, ⟨target, iter, ifs, 0⟩] scope pos) 1 it acc env = (do
      standAt iter.pos
      match ← pyNext it with
      | none => pure (.done .next)
      | some v =>
        letOwnedTupleGo target it v
        assign target env v
        let mut ok := true
        for c in ifs do
          if ok then ok ← isTrue c env (eval c env)
        if ok then
          (do let _ ← call (.builtin "list.append") [acc, ← eval elt env])
        again (.compLoop (.ListComp elt [g0, ⟨target, iter, ifs, 0⟩] scope pos) 1 it acc env)) := by rfl
theorem compTurn_out (elt t0 i0 target iter : Expr) (ifs : List Expr) (scope : Scope) (pos : Pos) (it acc : Value) (env : Env) :
    compTurn (.ListComp elt [⟨t0, i0, [], 0⟩, ⟨target, iter, ifs, 0⟩] scope pos) 0 it acc env = (do
      standAt i0.pos
      match ← pyNext it with
      | none => pure (.done .next)
      | some v =>
        letOwnedTupleGo t0 it v
        assign t0 env v
        let x ← eval iter env
        standAt iter.pos
        let x ← foldedSetIterable iter env x
        let _ ← runOwn (.compStart (.ListComp elt [⟨t0, i0, [], 0⟩, ⟨target, iter, ifs, 0⟩] scope pos) 1 (← holding [x] (pyIter x)) acc env) env
        again (.compLoop (.ListComp elt [⟨t0, i0, [], 0⟩, ⟨target, iter, ifs, 0⟩] scope pos) 0 it acc env)) := by rfl
section
variable {w : World} {A : Around} {n₀ : Nat} {B Z₀ Z Z₁ : Heap} {L : Addr} {m : Str → Option Value} {mu nu : List (Addr × Obj)} {h : Heap} {g : Array GenState} {d : Drawn} {t : Nat} {os : OsState} {env : Env} {E : Value → Shared → Prop}
theorem compLoop_in {RR : Result → Shared → Prop} {elt target iter : Expr} {g0 : Comprehension} {ifs : List Expr} {scope : Scope} {pos : Pos} {it acc : Value} {s : Shared} (I : Nat → Shared → Prop)
    (turn : ∀ n s, I n s → wpAny (Mo w) A (pyNext it) (fun r s₁ => match r with
      | none => RR (.ok .next) s₁
      | some v => wpAny (Mo w) A (letOwnedTupleGo target it v) (fun _ s₁' => wpAny (Mo w) A (assign target env v) (fun _ s₂ =>
          wpAny (Mo w) A (forIn ifs true fun c r => if r = true then do let ok ← isTrue c env (eval c env); pure (ForInStep.yield ok) else pure (ForInStep.yield r)) (fun ok s₃ =>
            if ok = true then wpAny (Mo w) A (eval elt env) (fun x s₄ =>
              wpAny (Mo w) A (call (.builtin "list.append") [acc, x]) (fun _ s₅ => ∃ m, m < n ∧ I m s₅) (fun _ _ => False) s₄) (fun _ _ => False) s₃
            else ∃ m, m < n ∧ I m s₃) (fun _ _ => False) s₂) (fun _ _ => False) s₁') (fun _ _ => False) s₁) (fun _ _ => False) s)
    (n : Nat) (h : I n s) : codeAny (Mo w) A (.compLoop (.ListComp elt [g0, ⟨target, iter, ifs, 0⟩] scope pos) 1 it acc env) RR s := by
  refine codeAny_loop rfl I (fun n s hI => ?_) n h
  show wpAny _ A ((compTurn (.ListComp elt [g0, ⟨target, iter, ifs, 0⟩] scope pos) 1 it acc env).onRaise (fun x => do noteFrame x env; theTreesLotGoes x)) _ _ s
  refine wpAny_noted ?_
  rw [compTurn_in]
  refine wpAny_bind (wpAny_standAt (wpAny_bind (wpAny_mono (turn n s hI) (fun r s₁ h₁ => ?_) fun _ _ h' => h'.elim)))
  cases r with
  | none => exact wpAny_pure h₁
  | some v =>
    refine wpAny_bind (wpAny_mono h₁ (fun _ s₁' h₁' => ?_) fun _ _ h' => h'.elim)
    refine wpAny_bind (wpAny_mono h₁' (fun _ s₂ h₂ => wpAny_bind (wpAny_mono h₂ (fun ok s₃ h₃ => ?_) fun _ _ h' => h'.elim)) fun _ _ h' => h'.elim)
    cases ok with
    | false => exact wpAny_pure ⟨rfl, h₃⟩
    | true =>
      exact wpAny_bind (wpAny_bind (wpAny_mono h₃ (fun x s₄ h₄ => wpAny_bind (wpAny_mono h₄ (fun _ s₅ h₅ => wpAny_pure (wpAny_pure ⟨rfl, h₅⟩)) fun _ _ h' => h'.elim)) fun _ _ h' => h'.elim))
theorem compLoop_out {RR : Result → Shared → Prop} {elt t0 i0 target iter : Expr} {ifs : List Expr} {scope : Scope} {pos : Pos} {it acc : Value} {s : Shared} (hf : ∀ x, foldedSetIterable iter env x = pure x) (I : Nat → Shared → Prop)
    (turn : ∀ n s, I n s → wpAny (Mo w) A (pyNext it) (fun r s₁ => match r with
      | none => RR (.ok .next) s₁
      | some v => wpAny (Mo w) A (letOwnedTupleGo t0 it v) (fun _ s₁' => wpAny (Mo w) A (assign t0 env v) (fun _ s₂ =>
          wpAny (Mo w) A (eval iter env) (fun x s₃ => wpAny (Mo w) A (pyIter x) (fun it1 s₄ =>
            codeAny (Mo w) A (.compStart (.ListComp elt [⟨t0, i0, [], 0⟩, ⟨target, iter, ifs, 0⟩] scope pos) 1 it1 acc env) (fun r s₅ => r = .ok .next ∧ ∃ m, m < n ∧ I m s₅) s₄) (fun _ _ => False) s₃) (fun _ _ => False) s₂) (fun _ _ => False) s₁') (fun _ _ => False) s₁) (fun _ _ => False) s)
    (n : Nat) (h : I n s) : codeAny (Mo w) A (.compLoop (.ListComp elt [⟨t0, i0, [], 0⟩, ⟨target, iter, ifs, 0⟩] scope pos) 0 it acc env) RR s := by
  refine codeAny_loop rfl I (fun n s hI => ?_) n h
  show wpAny _ A ((compTurn (.ListComp elt [⟨t0, i0, [], 0⟩, ⟨target, iter, ifs, 0⟩] scope pos) 0 it acc env).onRaise (fun x => do noteFrame x env; theTreesLotGoes x)) _ _ s
  refine wpAny_noted ?_
  rw [compTurn_out]
  refine wpAny_bind (wpAny_standAt (wpAny_bind (wpAny_mono (turn n s hI) (fun r s₁ h₁ => ?_) fun _ _ h' => h'.elim)))
  cases r with
  | none => exact wpAny_pure h₁
  | some v =>
    refine wpAny_bind (wpAny_mono h₁ (fun _ s₁' h₁' => ?_) fun _ _ h' => h'.elim)
    refine wpAny_bind (wpAny_mono h₁' (fun _ s₂ h₂ => ?_) fun _ _ h' => h'.elim)
    refine wpAny_bind (wpAny_mono h₂ (fun x s₃ h₃ => wpAny_bind (wpAny_standAt (wpAny_bind (wpAny_of_eq (hf x) (wpAny_bind (wpAny_holding (wpAny_mono h₃ (fun it1 s₄ h₄ => ?_) fun _ _ h' => h'.elim))))))) fun _ _ h' => h'.elim)
    refine wpAny_bind (wpAny_runOwn (codeAny_mono h₄ fun r s₅ h₅ => ?_))
    obtain ⟨rfl, h₆⟩ := h₅
    exact wpAny_pure ⟨rfl, h₆⟩
theorem compStart_in {R : Result → Shared → Prop} {elt target iter : Expr} {g0 : Comprehension} {ifs : List Expr} {scope : Scope} {pos : Pos} {it acc : Value} {s : Shared}
    (h0 : codeAny (Mo w) A (.compLoop (.ListComp elt [g0, ⟨target, iter, ifs, 0⟩] scope pos) 1 it acc env) R s)
    (h : wpAny (Mo w) A (pyIter it) (fun it' s' => codeAny (Mo w) A (.compLoop (.ListComp elt [g0, ⟨target, iter, ifs, 0⟩] scope pos) 1 it' acc env) R s') (notedBy (Mo w) A env fun x s' => R (.error x) s') s) :
    codeAny (Mo w) A (.compStart (.ListComp elt [g0, ⟨target, iter, ifs, 0⟩] scope pos) 1 it acc env) R s := by
  refine codeAny_of_tree ?_
  show wpAny _ _ ((compStart (.ListComp elt [g0, ⟨target, iter, ifs, 0⟩] scope pos) 1 it acc env).onRaise (fun x => do noteFrame x env; standAt theWindowsPlace)) _ _ s
  refine wpAny_notedAt ?_
  unfold compStart
  show wpAny _ _ (ask >>= _) _ _ s
  refine wpAny_bind (wpAny_askSetting (wpAny_ite ?_))
  split
  · first
      | exact wpAny_bind (wpAny_pure (wpAny_pure (And.intro rfl h0)))
      | exact wpAny_pure (And.intro rfl h0)
  · first
      | exact wpAny_bind (wpAny_rule (wpAny_bind (wpAny_standAt (wpAny_bind (wpAny_mono h (fun it' s' h' => wpAny_pure (And.intro rfl h')) fun _ _ x => x)))))
      | (refine wpAny_bind (wpAny_rule ?_); show wpAny _ _ (standAt iter.pos >>= _) _ _ s; exact wpAny_bind (wpAny_standAt (wpAny_bind (wpAny_mono h (fun it' s' h' => wpAny_pure (And.intro rfl h')) fun _ _ x => x))))
end
end
section
open PyProof.Rows.LCg
theorem filt_take {r : List Bool} {j : Nat} {b : Bool} (e : r[j]? = some b) : (r.take (j + 1)).filter id = (r.take j).filter id ++ if b then [b] else [] := by
  rw [List.take_add_one, e, List.filter_append]
  cases b <;> simp
theorem flat_take {rs : List (List Bool)} {i : Nat} {r : List Bool} (e : rs[i]? = some r) : (rs.take (i + 1)).flatMap (·.filter id) = (rs.take i).flatMap (·.filter id) ++ r.filter id := by
  rw [List.take_add_one, e]; simp
section
variable {w : World} {A : Around} {n₀ : Nat} {B Z₀ Z : Heap} {L : Addr} {m : Str → Option Value} {mu nu : List (Addr × Obj)} {h : Heap} {g : Array GenState} {d : Drawn} {t : Nat} {os : OsState} {env : Env} {E : Value → Shared → Prop}
  {x0 x1 : Str} {p0 p1 p2 p3 pos : Pos} {i0 c : Expr} {scope : Scope} {cl : List (Str × Addr)} {I : Addr} {n : Nat} {P : List (Addr × Obj) → Nat → Value → Prop} {St : Nat → List (Addr × Obj) → Prop}
theorem w_comp2 {Q : Value → Shared → Prop} {rs : List (List Bool)} (hA : A.handled = none) (It : Itr w A Z I rs.length P (.Name x0 p0) St) (hP : ∀ nu i v, P nu i v → ∃ r, rs[i]? = some r ∧ ∃ u, v = .str (txt r) u) (hcell : ∀ y ∈ scope.names, y.2 ≠ .cell) (hkind : scope.kind = .function)
    (F : Fx n₀ B Z₀ Z L m (mu ++ nu) h) (hs : St 0 nu) (hn : rs.length ≤ 100) (hr : ∀ r ∈ rs, r.length ≤ 100)
    (k0 : ∀ C, (compEnvC scope cl C env).kindOf x0 = some .local) (k1 : ∀ C, (compEnvC scope cl C env).kindOf x1 = some .local) (kf : ∀ C, (compEnvC scope cl C env).scope.kind = .function) (kl : ∀ C, (compEnvC scope cl C env).locals = C)
    (d0 : (x0 == ("__debug__" : Str)) = false) (d1 : (x1 == ("__debug__" : Str)) = false) (hf : ∀ C x, foldedSetIterable (.Name x0 p2) (compEnvC scope cl C env) x = pure x)
    (test : ∀ C Z' mC mu' h t b u, Fx n₀ B Z Z' C mC mu' h → mC x1 = some (.str (sgn b) u) → wpAny (Mo w) A (isTrue c (compEnvC scope cl C env) (eval c (compEnvC scope cl C env))) (fun ok s₃ => ok = b ∧ ∃ h t, s₃ = ⟨h, g, d, t, os⟩ ∧ Fx n₀ B Z Z' C mC mu' h) (fun _ _ => False) ⟨h, g, d, t, os⟩)
    (fin : ∀ v h t Z' ys, Fx n₀ B Z₀ Z' L m mu h → Z.StaysIn Z' → Lst Z' v ys → All2 SgV ys (rs.flatMap (·.filter id)) → Q v ⟨h, g, d, t, os⟩) :
    wpAny (Mo w) A (newList []) (fun acc s₃ => wpAny (Mo w) A (newFunctionEnv scope env.globals cl [] env.qual none .none (some env)) (fun cenv s₄ =>
      codeAny (Mo w) A (.compStart (.ListComp (.Name x1 p3) [⟨.Name x0 p0, i0, [], 0⟩, ⟨.Name x1 p1, .Name x0 p2, [c], 0⟩] scope pos) 0 (.ref I) acc { cenv with scope := relabel scope env }) (compPost (Mo w) A E none Q acc cenv.locals) s₄) E s₃) E ⟨h, g, d, t, os⟩ := by
  obtain ⟨F1, l1⟩ := F.allocM (lo 0 []) rfl
  refine wpAny_newObj_type (wpAny_newFunctionEnv hcell (by intro y hy; simp at hy) (fun h₁ hns₁ hsb₁ => ?_) hkind)
  dsimp only at hns₁ hsb₁ ⊢
  change Fx n₀ B Z₀ Z L m _ (h.push { cls := .type "list", dict := none, data := .seq ([] : List Value).toArray }) at F1
  generalize h.push { cls := .type "list", dict := none, data := .seq ([] : List Value).toArray } = H2 at hns₁ hsb₁ F1 ⊢
  have kp : H2.StaysIn h₁ := fun b o e => hsb₁.extBut b o (Nat.ne_of_lt (Heap.lt_size e)) (Heap.get?_push_of_some _ e)
  obtain ⟨oC, eC, nC⟩ := ns_obj hns₁
  have F2 := F1.add kp (Heap.get?_none_of_le (Nat.le_refl _)) eC
  have nn : n₀ ≤ H2.objs.size := F1.n0
  obtain ⟨oL, nL, F3⟩ := F2.turnL nC nn
  have F4 : Fx n₀ B Z Z H2.objs.size _ ((h.objs.size, lo 0 []) :: ((L, oL) :: mu) ++ nu) h₁ := F3.rebase.swap
  generalize h.objs.size = D at F4 l1 ⊢
  generalize H2.objs.size = C at F4 nn ⊢
  have loop : ∀ t, codeAny (Mo w) A (.compLoop (.ListComp (.Name x1 p3) [⟨.Name x0 p0, i0, [], 0⟩, ⟨.Name x1 p1, .Name x0 p2, [c], 0⟩] scope pos) 0 (.ref I) (.ref D) (compEnvC scope cl C env)) (compPost (Mo w) A E none Q (.ref D) C) ⟨h₁, g, d, t, os⟩ := by
    intro t
    refine compLoop_out (hf C) (fun k s => ∃ i h t Z' mC j nu ys, k = rs.length - i ∧ i ≤ rs.length ∧ s = ⟨h, g, d, t, os⟩ ∧ Z.StaysIn Z' ∧ Fx n₀ B Z Z' C mC (((D, lo j ys) :: ((L, oL) :: mu)) ++ nu) h ∧ St i nu ∧ All2 SgV ys ((rs.take i).flatMap (·.filter id)) ∧ ys.length ≤ 100 * i) ?_ rs.length
      ⟨0, h₁, t, Z, _, 0, nu, [], rfl, Nat.zero_le _, rfl, stays_refl, F4, hs, .nil, by simp⟩
    rintro k s ⟨i, h, t, Z', mC, j, nu, ys, rfl, hi, rfl, hz, F, hs, hR, hly⟩
    by_cases hlt : i < rs.length
    · refine wpAny_mono (It.item (Q := fun v s' => wpAny (Mo w) A (assign (.Name x0 p0) (compEnvC scope cl C env) v) (fun _ s₂ => wpAny (Mo w) A (eval (.Name x0 p2) (compEnvC scope cl C env)) (fun x s₃ => wpAny (Mo w) A (pyIter x) (fun it1 s₄ =>
          codeAny (Mo w) A (.compStart (.ListComp (.Name x1 p3) [⟨.Name x0 p0, i0, [], 0⟩, ⟨.Name x1 p1, .Name x0 p2, [c], 0⟩] scope pos) 1 it1 (.ref D) (compEnvC scope cl C env)) (fun r s₅ => r = .ok .next ∧ ∃ m, m < rs.length - i ∧ ∃ i h t Z' mC j nu ys, m = rs.length - i ∧ i ≤ rs.length ∧ s₅ = ⟨h, g, d, t, os⟩ ∧ Z.StaysIn Z' ∧ Fx n₀ B Z Z' C mC (((D, lo j ys) :: ((L, oL) :: mu)) ++ nu) h ∧ St i nu ∧ All2 SgV ys ((rs.take i).flatMap (·.filter id)) ∧ ys.length ≤ 100 * i) s₄) (fun _ _ => False) s₃) (fun _ _ => False) s₂) (fun _ _ => False) s')
          (E := fun _ _ => False) (E' := fun _ _ => False) hz F hs hlt fun v h' t' nu' hPv hs' F' => ?_) (fun r s₁ h₁ => ?_) (fun _ _ z => z.elim)
      · obtain ⟨r, hri, u, rfl⟩ := hP _ _ _ hPv
        have hrl := hr r (List.mem_of_getElem? hri)
        refine wpAny_assign_Name (n_st F' (kl C) (kf C) (k0 C) fun h2 F2 => ?_)
        refine n_L F2 (kl C) (kf C) (k0 C) d0 (if_pos rfl) ?_
        refine wpAny_pyIter_ascii (s := ⟨h2, g, d, t' + 1, os⟩) (txt_ascii r) ?_
        obtain ⟨F5, l5⟩ := F2.allocM { cls := .type "str_ascii_iterator", data := .fields #[.str (txt r) u, .int 0 0] } rfl
        have E5 := F5.mus (h2.objs.size, _) (.head _)
        show codeAny _ _ _ _ ⟨h2.push _, g, d, t' + 1, os⟩
        generalize h2.push { cls := .type "str_ascii_iterator", data := .fields #[.str (txt r) u, .int 0 0] } = h5 at F5 E5 ⊢
        generalize h2.objs.size = I1 at F5 E5 ⊢
        have inner : codeAny (Mo w) A (.compLoop (.ListComp (.Name x1 p3) [⟨.Name x0 p0, i0, [], 0⟩, ⟨.Name x1 p1, .Name x0 p2, [c], 0⟩] scope pos) 1 (.ref I1) (.ref D) (compEnvC scope cl C env)) (fun r s₅ => r = .ok .next ∧ ∃ m, m < rs.length - i ∧ ∃ i h t Z' mC j nu ys, m = rs.length - i ∧ i ≤ rs.length ∧ s₅ = ⟨h, g, d, t, os⟩ ∧ Z.StaysIn Z' ∧ Fx n₀ B Z Z' C mC (((D, lo j ys) :: ((L, oL) :: mu)) ++ nu) h ∧ St i nu ∧ All2 SgV ys ((rs.take i).flatMap (·.filter id)) ∧ ys.length ≤ 100 * i) ⟨h5, g, d, t' + 1, os⟩ := by
          refine compLoop_in (fun k s => ∃ a h t mC j o ys, k = r.length - a ∧ a ≤ r.length ∧ s = ⟨h, g, d, t, os⟩ ∧ Fx n₀ B Z Z' C mC ((I1, o) :: (D, lo j ys) :: ((L, oL) :: mu) ++ nu') h ∧ (o.cls = .type "str_ascii_iterator" ∧ o.data = .fields #[.str (txt r) u, .int a 0]) ∧ All2 SgV ys ((rs.take i).flatMap (·.filter id) ++ (r.take a).filter id) ∧ ys.length ≤ 100 * i + a) ?_ r.length
            ⟨0, h5, _, _, j, _, ys, rfl, Nat.zero_le _, rfl, F5, ⟨rfl, rfl⟩, by simpa using hR, by omega⟩
          rintro k s ⟨a, h6, t6, mC6, j6, o6, ys6, rfl, ha, rfl, F6, ho6, hR6, hl6⟩
          have G6 := F6.mus (I1, o6) (.head _)
          by_cases hal : a < r.length
          · have hb : r[a]? = some r[a] := List.getElem?_eq_getElem hal
            generalize r[a] = b at hb
            refine wpAny_pyNext_ascii_item (s := ⟨h6, g, d, t6, os⟩) ⟨o6, G6.1, ho6⟩ (txt_at hb) fun h7 hit7 hs7 => ?_
            obtain ⟨o7, e7, c7, dd7⟩ := hit7
            have F7 := F6.upd e7 hs7
            refine go_plain (n := "str_ascii_iterator") e7 c7 (by decide) ?_
            rw [sgn_eq]
            refine wpAny_assign_Name (n_st F7 (kl C) (kf C) (k1 C) fun h8 F8 => ?_)
            refine if_one (wpAny_mono (test C Z' _ _ h8 _ b t6 F8 (if_pos rfl)) (fun ok s₃ hk => ?_) (fun _ _ z => z))
            obtain ⟨rfl, h9, t9, rfl, F9⟩ := hk
            cases ok with
            | false =>
              rw [if_neg (by decide)]
              exact ⟨r.length - (a + 1), by omega, a + 1, h9, t9, _, j6, o7, ys6, rfl, hal, rfl, F9, ⟨c7, dd7⟩, by rw [filt_take hb]; simpa using hR6, by omega⟩
            | true =>
              rw [if_pos rfl]
              refine n_L F9 (kl C) (kf C) (k1 C) d1 (if_pos rfl) ?_
              have F10 : Fx n₀ B Z Z' C _ ((D, lo j6 ys6) :: (I1, o7) :: ((L, oL) :: mu) ++ nu') h9 := F9.swap
              have D3 := F10.mus (D, lo j6 ys6) (.head _)
              refine wpAny_list_append_plain (s := ⟨h9, g, d, t9, os⟩) (items := ys6.toArray) ⟨j6, D3.1⟩ (fun h11 p11 s11 => ?_) (by rw [List.size_toArray, PySem.sizeLine_eq]; omega)
              obtain ⟨j11, p11⟩ := p11
              simp only [List.push_toArray] at p11
              have F11 : Fx n₀ B Z Z' C _ ((I1, o7) :: (D, lo j11 (ys6 ++ [Value.str (sgn true) t6])) :: ((L, oL) :: mu) ++ nu') h11 := (Fx.upd F10 p11 s11).swap
              exact ⟨r.length - (a + 1), by omega, a + 1, h11, t9, _, j11, o7, ys6 ++ [Value.str (sgn true) t6], rfl, hal, rfl, F11, ⟨c7, dd7⟩, by rw [filt_take hb, ← List.append_assoc]; exact hR6.snoc ⟨_, rfl⟩, by simp; omega⟩
          · have : a = r.length := by omega
            subst this
            refine wpAny_pyNext_ascii_end (s := ⟨h6, g, d, t6, os⟩) hA ⟨o6, G6.1, ho6⟩ (txt_end r) fun h7 hs7 => ?_
            rw [List.take_length] at hR6
            exact ⟨rfl, rs.length - (i + 1), by omega, i + 1, h7, t6, Z', _, j6, nu', ys6, rfl, hlt, rfl, hz, F6.forgetE hs7, hs', by rw [flat_take hri]; exact hR6, by omega⟩
        exact compStart_in inner (wpAny_pyIter_striter_ascii (s := ⟨h5, g, d, t' + 1, os⟩) ⟨_, E5.1, rfl, rfl⟩ inner)
      · obtain ⟨v, rfl, h₁⟩ := h₁
        exact h₁
    · have : i = rs.length := by omega
      subst this
      refine It.done hz F hs fun h' t' F' => ?_
      rw [List.take_length] at hR
      obtain ⟨oC', nC', G2⟩ := F'.swap.turnL nL F1.L0
      obtain ⟨Z2, G3, l3, e3⟩ := (G2.unbase F1).swap.freeze l1
      exact ⟨_, nC'.ns (G3.mus _ (.head _)).1, fun h'' hs'' => fin _ h'' t' Z2 ys (G3.forget hs'') (stays_trans hz l3) ⟨_, rfl, _, e3, rfl, _, rfl⟩ hR⟩
  refine codeAny_compStart_list (loop _) ?_
  exact It.self (L := C) (mu := (D, lo 0 []) :: (L, oL) :: mu) stays_refl F4 hs (loop _)
end
end
section
variable {w : World} {A : Around} {n₀ : Nat} {B Z₀ Z : Heap} {L D : Addr} {m : Str → Option Value} {mu : List (Addr × Obj)} {h h' : Heap} {g : Array GenState} {d : Drawn} {t : Nat} {os : OsState} {E : Value → Shared → Prop} {env : Env} {vs : List Value} {k a : Int} {u : Tok} {v v2 o i : Value}
theorem txt_len (r : List Bool) : (txt r).length = r.length := by simp [txt, Str.length]
theorem rows_eqAt {s : Shared} {rows : List (List Bool)} {xs ys : List Value} (a : All2 RowV xs rows) (b : All2 RowV ys rows) : ∀ j (h1 : j < xs.toArray.size) (h2 : j < ys.toArray.size), SeqAt.EqAt A s xs.toArray[j] ys.toArray[j] true := by
  intro j h1 h2
  have e1 : xs[j]? = some (xs.toArray[j]) := by simp at h1 ⊢
  have e2 : ys[j]? = some (ys.toArray[j]) := by simp at h2 ⊢
  obtain ⟨r, hr, u1, x1⟩ := a.get e1
  obtain ⟨r', hr', u2, x2⟩ := b.get e2
  rw [hr] at hr'
  cases hr'
  rw [x1, x2]
  have := SeqAt.EqAt.str_str (A := A) (s := s) (txt r) u1 (txt r) u2
  rw [show (txt r == txt r) = true by simp] at this
  exact this
theorem ne_rows {rows : List (List Bool)} {Q : Value → Shared → Prop} (hu : A.units < cLine) (F : Fx n₀ B Z₀ Z L m mu h) (R1 : RowsAt Z v rows) (R2 : RowsAt Z v2 rows) (q : Q (.bool false) ⟨h, g, d, t, os⟩) : wpAny (Mo w) A (compareOp .NotEq v v2) Q E ⟨h, g, d, t, os⟩ := by
  obtain ⟨xs, ⟨l1, rfl, o1, g1, k1⟩, a⟩ := R1
  obtain ⟨ys, ⟨l2, rfl, o2, g2, k2⟩, b⟩ := R2
  have la := a.length
  have lb := b.length
  refine (SeqAt.RcNeAt.lists (A := A) (s := ⟨h, g, d, t, os⟩) (e := fun _ => true) ⟨o1, F.stay _ _ g1, k1⟩ ⟨o2, F.stay _ _ g2, k2⟩ (by simp; omega) hu (rows_eqAt a b)) PySem.Challenge.pw_og0177_01 w E Q ?_
  have : (!((List.range xs.toArray.size).all fun _ => true)) = false := by simp
  rw [this]; exact q
theorem eq_rows {rows : List (List Bool)} {Q : Value → Shared → Prop} (hu : A.units < cLine) (F : Fx n₀ B Z₀ Z L m mu h) (R1 : RowsAt Z v rows) (R2 : RowsAt Z v2 rows) (q : Q (.bool true) ⟨h, g, d, t, os⟩) : wpAny (Mo w) A (compareOp .Eq v v2) Q E ⟨h, g, d, t, os⟩ := by
  obtain ⟨xs, ⟨l1, rfl, o1, g1, k1⟩, a⟩ := R1
  obtain ⟨ys, ⟨l2, rfl, o2, g2, k2⟩, b⟩ := R2
  have la := a.length
  have lb := b.length
  refine (SeqAt.RcAt.lists (A := A) (s := ⟨h, g, d, t, os⟩) (e := fun _ => true) ⟨o1, F.stay _ _ g1, k1⟩ ⟨o2, F.stay _ _ g2, k2⟩ (by simp; omega) hu (rows_eqAt a b)) PySem.Challenge.pw_og0177_01 w E Q ?_
  have : ((List.range xs.toArray.size).all fun _ => true) = true := by simp
  rw [this]; exact q
/-- a text from its k-th sign on -/
theorem x_sfrom {value slice : Expr} {r : List Bool} {tr : Tok} {Q : Value → Shared → Prop} (F : Fx n₀ B Z₀ Z L m mu h) (S : SliceAt Z i (.int k u) .none .none) (h0 : 0 ≤ k) (h1 : k ≤ r.length) (hr : r.length ≤ 1000)
    (hs : ∀ o i, subscripted slice false o i = operate [i, o] (getItem o i)) (q : ∀ t' k', Q (.str (txt (r.drop k.toNat)) t') ⟨h, g, d, k', os⟩) :
    wpAny (Mo w) A (subscriptTail value slice (.str (txt r) tr) i) Q E ⟨h, g, d, t, os⟩ := by
  obtain ⟨x, rfl, ob, ho, hc, hd⟩ := S
  have hl := txt_len r
  refine PyProof.Rows.tail_any (s := ⟨h, g, d, t, os⟩) (typeIs_str _ _ _) PySem.F.slot_str_getitem.lookup (wpAny_getItem_str_slice (s := ⟨h, g, d, t, os⟩) (l := some (k, u)) (u := none) (st := none) ⟨ob, F.stay _ _ ho, hc, hd⟩ rfl (post_val_or_str ⟨?_, fun t' k' => ?_⟩)) (hs _ _)
  · exact Nat.le_trans (Txt.slice_le (txt r) (some k) none) (by rw [hl, PySem.sizeLine_eq]; omega)
  · have e : Txt.slice (txt r) (some k) none = txt (r.drop k.toNat) := by
      rw [slice_from_eq h0 (by rw [hl]; exact h1) rfl, hl]
      unfold txt
      congr 1
      have : ((r.length : Int) - k).toNat = r.length - k.toNat := by omega
      rw [this]
      simp [List.map_drop]
      exact List.take_of_length_le (by simp)
    have := q t' k'
    rw [← e] at this
    exact this
theorem mul_all : ∀ b : Bool, ∀ j : Fin 21, Txt.mul (sgn b) (j.val : Int) = txt (List.replicate j.val b) := by decide +kernel
theorem mul_okk : ∀ b : Bool, ∀ j : Fin 21, (decide ((j.val : Int) < -(2 ^ 63 : Int)) || decide ((j.val : Int) ≥ 2 ^ 63)) = false ∧ (¬ (j.val : Int) < 1 → ¬ (((sgn b).length : Int) > (2 ^ 63 - 1) / (j.val : Int))) ∧ PySem.Builtin.Str.tooLong ((sgn b).length * (j.val : Int).toNat) = false := by decide +kernel
/-- a sign so many times -/
theorem mul_s {b : Bool} {n : Nat} {ts tn : Tok} {x : Str} {N : Int} {Q : Value → Shared → Prop} (hx : x = sgn b) (hN : N = n) (hn : n ≤ 20) (q : ∀ t' k, Q (.str (txt (List.replicate n b)) t') ⟨h, g, d, k, os⟩) : wpAny (Mo w) A (binaryOp .Mult (.str x ts) (.int N tn)) Q E ⟨h, g, d, t, os⟩ := by
  subst hx hN
  have k := mul_okk b ⟨n, by omega⟩
  refine SB.mul (s := ⟨h, g, d, t, os⟩) ⟨k.1, fun a _ => k.2.1 a, fun _ _ => k.2.2⟩ fun t' k' => ?_
  rw [mul_all b ⟨n, by omega⟩]
  exact q t' k'
theorem mul_gen {s : Shared} {l : Addr} {items : Array Value} {k : Nat} {x : Int} {Q : Value → Shared → Prop} (hl : s.heap.get? l = some { cls := .type "list", dict := none, data := .seq items k, slots := #[] })
    (c0 : ¬ (!Builtin.List.listFitsIndex x) = true) (c1 : ¬ items.size * x.toNat > (2 ^ 63 - 1) / 8) (c2 : ¬ Builtin.List.listTooLong (items.size * x.toNat) = true)
    (q : Q (.ref s.heap.objs.size) { s with heap := s.heap.push { cls := .type "list", data := .seq (List.foldl (fun x1 x2 => x1 ++ x2) #[] (List.replicate (if items.isEmpty = true then 0 else x.toNat) items)) } }) : wpAny (Mo w) A (binaryOp .Mult (.ref l) (.int x u)) Q E s :=
  wpAny_binaryOp_repeat_ref (T := "list") (U := "int") (by decide) ⟨_, hl, rfl⟩ (fun s' => typeIs_int s' x u) noFill_list_mul PySem.F.fills_int_mul PySem.F.slot_int_rmul repeat_list PySem.F.slot_int_index.lookup
    (call_meets PySem.F.slot_int_rmul (typeIs_int s x u) PySem.F.entry_int_rmul (PySem.F.args_int_rmul_2 _ _) (int___rmul___int_list x u l items k)
      ⟨hl, rfl, ⟨_, hl, rfl⟩, call_meets PySem.F.slot_list_mul ⟨_, hl, rfl⟩ PySem.F.entry_list_mul (PySem.F.args_list_mul_2 _ _)
        (AutoListH.list___mul___list_int_3 l items k x u c0 c1 c2) ⟨hl, q⟩⟩)
/-- a list of one, so many times -/
theorem mul_l {n : Nat} {tn : Tok} {N : Int} {Q : Value → Shared → Prop} (hN : N = n) (hn : n ≤ 20) (F : Fx n₀ B Z₀ Z L m ((D, lo 0 [v]) :: mu) h) (q : ∀ r h' Z', Fx n₀ B Z₀ Z' L m mu h' → Z.StaysIn Z' → Lst Z' r (List.replicate n v) → Q r ⟨h', g, d, t, os⟩) :
    wpAny (Mo w) A (binaryOp .Mult (.ref D) (.int N tn)) Q E ⟨h, g, d, t, os⟩ := by
  subst hN
  have hl : h.get? D = some { cls := .type "list", dict := none, data := .seq [v].toArray 0, slots := #[] } := (F.mus (D, lo 0 [v]) (.head _)).1
  obtain ⟨Z', F', l', e⟩ := F.alloc { cls := .type "list", data := .seq (List.foldl (fun x1 x2 => x1 ++ x2) #[] (List.replicate (if ([v].toArray).isEmpty = true then 0 else ((n : Int)).toNat) [v].toArray)) } rfl
  have hq : Q (.ref h.objs.size) ⟨h.push { cls := .type "list", data := .seq (List.foldl (fun x1 x2 => x1 ++ x2) #[] (List.replicate (if ([v].toArray).isEmpty = true then 0 else ((n : Int)).toNat) [v].toArray)) }, g, d, t, os⟩ := by
    refine q _ _ Z' F'.drop l' ⟨_, rfl, _, e, rfl, 0, ?_⟩
    have fold : ∀ (j : Nat) (acc : Array Value), List.foldl (fun x1 x2 => x1 ++ x2) acc (List.replicate j #[v]) = acc ++ (List.replicate j v).toArray := by
      intro j
      induction j with
      | zero => intro acc; simp
      | succ j ih => intro acc; rw [List.replicate_succ, List.foldl_cons, ih]; apply Array.ext'; simp [List.replicate_succ]
    have e0 : (if ([v].toArray).isEmpty = true then 0 else ((n : Int)).toNat) = n := by simp
    rw [e0]
    have := fold n #[]
    rw [show ([v].toArray) = #[v] from rfl, this]
    simp
  have sz1 : [v].toArray.size * (n : Int).toNat = n := by simp
  have c0 : ¬ (!Builtin.List.listFitsIndex (n : Int)) = true := by unfold Builtin.List.listFitsIndex; simp; omega
  have c1 : ¬ [v].toArray.size * (n : Int).toNat > (2 ^ 63 - 1) / 8 := by rw [sz1]; omega
  have c2 : ¬ Builtin.List.listTooLong ([v].toArray.size * (n : Int).toNat) = true := by rw [sz1]; unfold Builtin.List.listTooLong; rw [PySem.sizeLine_eq]; simp; omega
  exact mul_gen (s := ⟨h, g, d, t, os⟩) hl c0 c1 c2 hq
theorem u_items {n : Nat} {Q : List Value → Shared → Prop} (hA : A.handled = none) (F : Fx n₀ B Z₀ Z L m mu h) (T : Tup Z v vs) (hn : n = vs.length) (q : ∀ h', Fx n₀ B Z₀ Z L m mu h' → Q vs ⟨h', g, d, t, os⟩) : wpAny (Mo w) A (unpackItems v n none) Q E ⟨h, g, d, t, os⟩ := by
  obtain ⟨a, rfl, i⟩ := T
  have i' := i.keeps F.stay
  subst hn
  rw [show vs.length = vs.toArray.size by simp]
  refine wpAny_unpackItems_tuple (s := ⟨h, g, d, t, os⟩) hA i' fun h' e => ?_
  exact q h' (F.keep (stays_of_ext e))
theorem u_swap2 {x y : Str} {a b : Value} {s : Shared} {Q : Unit → Shared → Prop} (q : wpAny (Mo w) A (storeName env y b) (fun _ s₁ => wpAny (Mo w) A (storeName env x a) Q E s₁) E s) :
    wpAny (Mo w) A (assignInOrder (([x, y] : List Str).reverse.map fun n => bindName env n) ([a, b] : List Value).reverse) Q E s := by
  show wpAny (Mo w) A (assignInOrder [bindName env y, bindName env x] [b, a]) Q E s
  exact assignInOrder_cons (wpAny_bindName (wpAny_mono q (fun _ _ z => assignInOrder_cons (wpAny_bindName (wpAny_mono z (fun _ _ z' => assignInOrder_nil z') fun _ _ z' => z'))) fun _ _ z => z))
theorem rows_rep {v : Value} {r : List Bool} (n : Nat) (x : RowV v r) : All2 RowV (List.replicate n v) (List.replicate n r) := by
  induction n with
  | zero => exact .nil
  | succ n ih => exact .cons x ih
end
theorem Fx_of {G h : Heap} {L : Addr} {m : Str → Option Value} {news : List (Addr × Obj)} (F : Fr G L h m) (N : News G L h news) (nd : (news.map (·.1)).Nodup) : Fx L G G G L m news h :=
  have n : G.get? L = none := Heap.get?_none_of_le F.above
  ⟨F.ns, F.keep, stays_refl, F.keep, Nat.le_refl _, fun _ _ e => e, n, n, fun p hp => ⟨(N p hp).1, (N p hp).2.2, (N p hp).2.1, (N p hp).2.2⟩, nd⟩
theorem ba_of {p : Program} {loose : List Str} {mean : ExcName → Option Value} {mg mb : Str → Option Value} {G : Heap} {P : Addr} (T : Top p loose mean mg mb G) (hP : G.get? P = none) : G.BuiltinsAt mg P := by
  obtain ⟨bm, ob, b1, b2, b3, b4, b5, b6⟩ := T.bmain
  refine ⟨bm, ob, b1, b2, fun q => ?_, fun q => ?_, b3, b4, b5, b6⟩
  · obtain ⟨o, es, ep, e, hd, _⟩ := T.g
    rw [q, e] at b3; cases b3; rw [hd] at b6; cases b6
  · rw [q, hP] at b3; cases b3
theorem nd2 {n : Nat} {a b : Obj} (h : 288 < n) : (([(n + 1, a), (288, b)] : List (Nat × Obj)).map (·.1)).Nodup := by
  refine List.nodup_cons.mpr ⟨fun hm => ?_, by simp⟩
  have e : n + 1 = 288 := List.mem_singleton.mp hm
  omega
theorem ok_caller : Ok callerA 81 := ⟨rfl, by decide +kernel, by decide +kernel⟩
theorem ok_law {env : Env} : Ok (callerA.deeper env) 80 := ok_caller.deeper
section
variable {w : World} {A : Around} {mg mb : Str → Option Value} {n₀ : Nat} {B Z₀ Z : Heap} {L D : Addr} {m : Str → Option Value} {mu : List (Addr × Obj)} {h h' : Heap} {g : Array GenState} {d : Drawn} {t : Nat} {os : OsState} {E : Value → Shared → Prop} {o : Obj} {n k : Nat} {most : Int} {u : Tok}
theorem k_drawN {Q : Value → Shared → Prop} (hA : Ok A 3) (W : Wd w mg mb Z₀) (F : Fx n₀ B Z₀ Z L m ((D, o) :: mu) h) (P : PoolO Z o n) (hn : n ≤ 10000) (h0 : 0 < most) (h1 : most ≤ 100) (hk : most = k)
    (q : ∀ (x : Nat) u h' t' Z' o', Fx n₀ B Z₀ Z' L m ((D, o') :: mu) h' → Z.StaysIn Z' → PoolO Z' o' (n + 1) → x < k → Q (.int (x : Int) u) ⟨h', g, d, t', os⟩) : wpAny (Mo w) A (call (.ref 470) [.ref D, .int most u]) Q E ⟨h, g, d, t, os⟩ := by
  refine k_draw hA W F P hn h0 h1 fun x u' h' t' Z' o' F' l' P' a b => ?_
  obtain ⟨y, rfl⟩ := Int.eq_ofNat_of_zero_le a
  exact q y u' h' t' Z' o' F' l' P' (by first | decide | omega)
theorem rule_at {t1 t2 : Tok} {x : Nat} (hx : x < 2) : ∃ ev tv, ([.str "nonzero" t1, .str "evenodd" t2] : List Value)[(x : Int).toNat]? = some (.str (ruleOf ev) tv) := by
  have : x = 0 ∨ x = 1 := by omega
  rcases this with rfl | rfl
  · exact ⟨false, t1, rfl⟩
  · exact ⟨true, t2, rfl⟩
end
theorem good_len {ps : List Part} (hg : GoodP ps) : ∀ ss ∈ ps, ss.length ≤ 20 := fun ss h => by have := (hg ss h).2.1; omega
theorem good_bnd {ps : List Part} (hg : GoodP ps) : BndP ps := fun ss h q hq => by have := (hg ss h).2.2 q hq; exact ⟨by have := this.1; omega, by have := this.2; omega⟩
theorem polys_mem {ps : List Part} {c : List Q2} {q : Q2} (hc : c ∈ polys ps) (hq : q ∈ c) : ∃ ss ∈ ps, some q ∈ ss := by
  obtain ⟨ss, hss, rfl⟩ := List.mem_map.mp (List.mem_filter.mp hc).1
  obtain ⟨s, hs, e⟩ := List.mem_filterMap.mp hq
  exact ⟨ss, hss, by rw [← show s = some q from e]; exact hs⟩
theorem bnd_good {ps : List Part} (hb : BndP ps) : Bnd (polys ps) := fun c hc q hq => by
  obtain ⟨ss, hss, h⟩ := polys_mem hc hq
  have := hb ss hss q h
  exact ⟨by have := this.1; omega, by have := this.2; omega⟩
theorem bnd_sh {ps : List Part} {X Y : Int} (hb : BndP ps) (hX : X.natAbs ≤ 1000) (hY : Y.natAbs ≤ 1000) : Bnd (polys (shP X Y ps)) := fun c hc q hq => by
  obtain ⟨ss, hss, h⟩ := polys_mem hc hq
  obtain ⟨s0, h0, rfl⟩ := List.mem_map.mp hss
  obtain ⟨o, ho, e⟩ := List.mem_map.mp h
  cases o with
  | none => cases e
  | some q0 =>
    cases e
    have := hb s0 h0 q0 ho
    exact ⟨by have := this.1; show (q0.1 + X).natAbs ≤ 10000; omega, by have := this.2; show (q0.2 + Y).natAbs ≤ 10000; omega⟩
theorem len_sh {ps : List Part} {X Y : Int} (hs : ∀ ss ∈ ps, ss.length ≤ 20) : ∀ ss ∈ shP X Y ps, ss.length ≤ 20 := fun ss h => by
  obtain ⟨s0, h0, rfl⟩ := List.mem_map.mp h
  rw [List.length_map]; exact hs s0 h0
theorem flat_len (rs : List (List Bool)) : (rs.flatMap (·.filter id)).length = cnt rs := by
  unfold cnt
  induction rs with
  | nil => rfl
  | cons r rs ih => rw [List.flatMap_cons, List.length_append, ih, List.map_cons, List.sum_cons, List.countP_eq_length_filter]
theorem s_comp2 {w : World} {A : Around} {env : Env} {E : Value → Shared → Prop} {elt t0 i0 t1 i1 : Expr} {ifs0 ifs1 : List Expr} {scope : Scope} {cl : List (Str × Addr)} {pos : Pos} {s : Shared} {Q : Value → Shared → Prop}
    (hclos : closureFor scope env = pure cl) (hkind : scope.kind = .function) (hnames : ∀ z ∈ scope.names, z.2 = .local → scope.names.lookup z.1 = some .local)
    (hs : ∀ x, foldedSetIterable i0 env x = pure x)
    (q : wpAny (Mo w) A (eval i0 env) (fun x s₁ => wpAny (Mo w) A (pyIter x) (fun it s₂ => wpAny (Mo w) A (newList []) (fun acc s₃ =>
      wpAny (Mo w) A (newFunctionEnv scope env.globals cl [] env.qual none .none (some env)) (fun cenv s₄ =>
        codeAny (Mo w) A (.compStart (.ListComp elt [⟨t0, i0, ifs0, 0⟩, ⟨t1, i1, ifs1, 0⟩] scope pos) 0 it acc { cenv with scope := relabel scope env }) (compPost (Mo w) A E none Q acc cenv.locals) s₄) E s₃) E s₂) E s₁) E s) :
    wpAny (Mo w) A (eval (.ListComp elt [⟨t0, i0, ifs0, 0⟩, ⟨t1, i1, ifs1, 0⟩] scope pos) env) Q E s := by
  rw [eval_ListComp]
  exact wpAny_comprehension_free (use := none) rfl hs hclos hkind hnames q
theorem All2.take {α : Type} {R : Value → α → Prop} {vs : List Value} {xs : List α} (a : All2 R vs xs) (n : Nat) : All2 R (vs.take n) (xs.take n) := by
  induction a generalizing n with
  | nil => simp; exact .nil
  | cons r _ ih =>
    cases n with
    | zero => exact .nil
    | succ n => exact .cons r (ih n)
theorem cnt_le {rs : List (List Bool)} {n : Nat} (h : ∀ r ∈ rs, r.length ≤ n) : cnt rs ≤ n * rs.length := by
  unfold cnt
  induction rs with
  | nil => simp
  | cons r rs ih =>
    rw [List.map_cons, List.sum_cons, List.length_cons, Nat.mul_succ]
    have := ih fun r hr => h r (.tail _ hr)
    have := h r (.head _)
    have := List.countP_le_length (p := id) (l := r)
    omega
theorem square_len (w h : Nat) : ∀ ss ∈ squareP w h, ss.length ≤ 20 := fun ss hs => by
  rcases List.mem_singleton.mp hs with rfl
  show 5 ≤ 20; decide
theorem square_bnd {w h : Nat} (hw : w ≤ 20) (hh : h ≤ 20) : Bnd (polys (squareP w h)) := fun c hc q hq => by
  obtain ⟨ss, hss, hm⟩ := polys_mem hc hq
  rcases List.mem_singleton.mp hss with rfl
  simp only [List.mem_cons, Option.some.injEq, List.not_mem_nil, or_false, reduceCtorEq] at hm
  rcases hm with rfl | rfl | rfl | rfl
  · exact ⟨by decide, by decide⟩
  · exact ⟨by show (5 + 10 * (w : Int)).natAbs ≤ 10000; omega, by show (5 : Int).natAbs ≤ 10000; decide⟩
  · exact ⟨by show (5 + 10 * (w : Int)).natAbs ≤ 10000; omega, by show (5 + 10 * (h : Int)).natAbs ≤ 10000; omega⟩
  · exact ⟨by show (5 : Int).natAbs ≤ 10000; decide, by show (5 + 10 * (h : Int)).natAbs ≤ 10000; omega⟩
local macro_rules | `(tactic| tb_rel) => `(tactic| first
  | ((with_reducible show wpAny _ _ (assignInOrder _ _) _ _ _); first
    | (with_reducible refine u_swap2 ?_))
  | ((with_reducible refine' u_items ?z0 (by assumption) (by ktr_rel) ?z1 ?_); (case z0 => assumption); (case z1 => exact rfl); intro _ _)
  | fail "none")
theorem holds.tw10030716655951765446 : True := trivial
theorem holds.tw10048799482557390123 : True := trivial
theorem holds.tw10050826709573001563 : True := trivial
theorem holds.tw10055628384439202563 : True := trivial
theorem holds.tw10072808459709533991 : True := trivial
theorem holds.tw10073805292237281485 : True := trivial
theorem holds.tw10098346817235371451 : True := trivial
theorem holds.tw10120971951782348405 : True := trivial
theorem holds.tw10143858866070948794 : True := trivial
theorem holds.tw10147138523864380204 : True := trivial
theorem holds.tw10155594366521415682 : True := trivial
theorem holds.tw1015930355010638097 : True := trivial
theorem holds.tw10193733329530872169 : True := trivial
theorem holds.tw10211872770139688401 : True := trivial
theorem holds.tw10254979915581867673 : True := trivial
theorem holds.tw1029608912340064494 : True := trivial
theorem holds.tw10346118204781825906 : True := trivial
theorem holds.tw10357613424006517115 : True := trivial
theorem holds.tw10391021648125756431 : True := trivial
theorem holds.tw10450795591916673737 : True := trivial
theorem holds.tw10644056668084219943 : True := trivial
theorem holds.tw10644905667699274273 : True := trivial
theorem holds.tw10694574240528231383 : True := trivial
theorem holds.tw10709214342346031908 : True := trivial
theorem holds.tw10752590720486195447 : True := trivial
theorem holds.tw10860535477770398416 : True := trivial
theorem holds.tw10869071244328125824 : True := trivial
theorem holds.tw10904858193895489680 : True := trivial
theorem holds.tw11093642950731244729 : True := trivial
theorem holds.tw11094978858687976557 : True := trivial
theorem holds.tw11097645297266010338 : True := trivial
theorem holds.tw11151812467129394968 : True := trivial
theorem holds.tw1115835790948679039 : True := trivial
theorem holds.tw11339107652522314736 : True := trivial
theorem holds.tw11409768777174593008 : True := trivial
theorem holds.tw11421630351931438735 : True := trivial
theorem holds.tw11466332490285896790 : True := trivial
theorem holds.tw11468158767806619700 : True := trivial
theorem holds.tw11498462051167265379 : True := trivial
theorem holds.tw11634243790085144243 : True := trivial
theorem holds.tw11642536386995543304 : True := trivial
theorem holds.tw11651635114987444210 : True := trivial
theorem holds.tw11684625098725261628 : True := trivial
theorem holds.tw11723510835159617721 : True := trivial
theorem holds.tw11733339265961082847 : True := trivial
theorem holds.tw11748091942048174562 : True := trivial
theorem holds.tw11755808453740910850 : True := trivial
theorem holds.tw11788268532923037799 : True := trivial
theorem holds.tw11812416626155119251 : True := trivial
theorem holds.tw11832899046865324087 : True := trivial
theorem holds.tw11905339627829284267 : True := trivial
theorem holds.tw11926395886862168948 : True := trivial
theorem holds.tw11958971541114802557 : True := trivial
theorem holds.tw1195997400964187053 : True := trivial
theorem holds.tw11967054377727045612 : True := trivial
theorem holds.tw11983546227468715003 : True := trivial
theorem holds.tw1202033094421581648 : True := trivial
theorem holds.tw12160694672140902697 : True := trivial
theorem holds.tw12200827009508281896 : True := trivial
theorem holds.tw12219214686802354806 : True := trivial
theorem holds.tw12290198431001072401 : True := trivial
theorem holds.tw12401802957424566222 : True := trivial
theorem holds.tw1241368192694491993 : True := trivial
theorem holds.tw12448674404780767061 : True := trivial
theorem holds.tw12469365143005559966 : True := trivial
theorem holds.tw12497178404915015395 : True := trivial
theorem holds.tw12552111672215783589 : True := trivial
theorem holds.tw12580987588090918260 : True := trivial
theorem holds.tw12587484170766471165 : True := trivial
theorem holds.tw1262288863709160274 : True := trivial
theorem holds.tw12634205001640717970 : True := trivial
theorem holds.tw12679441132457272004 : True := trivial
theorem holds.tw1269949302830808846 : True := trivial
theorem holds.tw12709328620547065830 : True := trivial
theorem holds.tw12818695124515507727 : True := trivial
theorem holds.tw12819711708579983252 : True := trivial
theorem holds.tw12859474505837269921 : True := trivial
theorem holds.tw12876096994388049117 : True := trivial
theorem holds.tw13013750801845669467 : True := trivial
theorem holds.tw13043364937024661017 : True := trivial
theorem holds.tw13062754385988593028 : True := trivial
theorem holds.tw13195950575833030024 : True := trivial
theorem holds.tw13210718477732486432 : True := trivial
theorem holds.tw13214236716718723944 : True := trivial
theorem holds.tw13225834196235510661 : True := trivial
theorem holds.tw13359202807719842780 : True := trivial
theorem holds.tw13367679216743340844 : True := trivial
theorem holds.tw13399758804931562509 : True := trivial
theorem holds.tw13517130152489738315 : True := trivial
theorem holds.tw13582762631632246182 : True := trivial
theorem holds.tw13609026821360104252 : True := trivial
theorem holds.tw13632034837420255770 : True := trivial
theorem holds.tw13695734325194430844 : True := trivial
theorem holds.tw13756557581842296257 : True := trivial
theorem holds.tw13760133557355274585 : True := trivial
theorem holds.tw13790875095901632565 : True := trivial
theorem holds.tw13797513640830479700 : True := trivial
theorem holds.tw13811504348821340563 : True := trivial
theorem holds.tw13823847672765189843 : True := trivial
theorem holds.tw13898133273518580685 : True := trivial
theorem holds.tw13961973963789077692 : True := trivial
theorem holds.tw14029959683676629453 : True := trivial
theorem holds.tw14077317526854726426 : True := trivial
theorem holds.tw14096040006324133245 : True := trivial
theorem holds.tw14142428557128227934 : True := trivial
theorem holds.tw14150210511503776533 : True := trivial
theorem holds.tw14207457141949627571 : True := trivial
theorem holds.tw14239293597659678539 : True := trivial
theorem holds.tw14274130104969840282 : True := trivial
theorem holds.tw14274835796525804684 : True := trivial
theorem holds.tw14310410291650319404 : True := trivial
theorem holds.tw14316456735784570046 : True := trivial
theorem holds.tw14341160871369143014 : True := trivial
theorem holds.tw14346741805708967743 : True := trivial
theorem holds.tw14363180051185019485 : True := trivial
theorem holds.tw1446634180188602686 : True := trivial
theorem holds.tw14488955795381742808 : True := trivial
theorem holds.tw14503570037876473459 : True := trivial
theorem holds.tw14510443626953369013 : True := trivial
theorem holds.tw14576010700553128916 : True := trivial
theorem holds.tw14653617520545540921 : True := trivial
theorem holds.tw1466782190571436368 : True := trivial
theorem holds.tw14686800262919428230 : True := trivial
theorem holds.tw14697324747280795543 : True := trivial
theorem holds.tw14774955550279963107 : True := trivial
theorem holds.tw1489436936078521443 : True := trivial
theorem holds.tw14935553146917283440 : True := trivial
theorem holds.tw15080318401497587356 : True := trivial
theorem holds.tw15088429389243177116 : True := trivial
theorem holds.tw15119380105439164660 : True := trivial
theorem holds.tw15126519624419535572 : True := trivial
theorem holds.tw15137416763018940234 : True := trivial
theorem holds.tw15148656224811074773 : True := trivial
theorem holds.tw15313066836824434010 : True := trivial
theorem holds.tw1532535382161151438 : True := trivial
theorem holds.tw15343209273672714447 : True := trivial
theorem holds.tw15360145049097216713 : True := trivial
theorem holds.tw15371751557241654638 : True := trivial
theorem holds.tw1537865149585272555 : True := trivial
theorem holds.tw15392834671839922704 : True := trivial
theorem holds.tw15452330824440776113 : True := trivial
theorem holds.tw15605642906499841042 : True := trivial
theorem holds.tw15628472923954051255 : True := trivial
theorem holds.tw1563025132162023081 : True := trivial
theorem holds.tw15659511010251078028 : True := trivial
theorem holds.tw15790357111134204007 : True := trivial
theorem holds.tw15793771975083690228 : True := trivial
theorem holds.tw15799880997548242276 : True := trivial
theorem holds.tw15814601880685971302 : True := trivial
theorem holds.tw15820204256216972066 : True := trivial
theorem holds.tw15939270461862152166 : True := trivial
theorem holds.tw15973015997446978684 : True := trivial
theorem holds.tw16078607626189354624 : True := trivial
theorem holds.tw1617645671196811960 : True := trivial
theorem holds.tw16219446670371377459 : True := trivial
theorem holds.tw1624764846356418914 : True := trivial
theorem holds.tw16275416173289843590 : True := trivial
theorem holds.tw16350953022352968836 : True := trivial
theorem holds.tw1642287966270068909 : True := trivial
theorem holds.tw16489304102336760813 : True := trivial
theorem holds.tw16582466188147381719 : True := trivial
theorem holds.tw16661171891914636726 : True := trivial
theorem holds.tw16773300172687373527 : True := trivial
theorem holds.tw16799748904174341985 : True := trivial
theorem holds.tw16802735208824835519 : True := trivial
theorem holds.tw16810924434752407155 : True := trivial
theorem holds.tw16855575385844838636 : True := trivial
theorem holds.tw16863207589198459289 : True := trivial
theorem holds.tw16892860449176264565 : True := trivial
theorem holds.tw16910932339967516506 : True := trivial
theorem holds.tw16943660150547294125 : True := trivial
theorem holds.tw16947001338884855528 : True := trivial
theorem holds.tw16958474331969312180 : True := trivial
theorem holds.tw16982158468143859378 : True := trivial
theorem holds.tw17015190074537385077 : True := trivial
theorem holds.tw17015501564520010958 : True := trivial
theorem holds.tw17043740688006342959 : True := trivial
theorem holds.tw17056605927768521872 : True := trivial
theorem holds.tw17138425426071489645 : True := trivial
theorem holds.tw17183908754278177668 : True := trivial
theorem holds.tw17198695587853421107 : True := trivial
theorem holds.tw17201439076820006432 : True := trivial
theorem holds.tw17202251228780619401 : True := trivial
theorem holds.tw17255307303494935148 : True := trivial
theorem holds.tw17283244810167442113 : True := trivial
theorem holds.tw17293538895362959379 : True := trivial
theorem holds.tw17306747000353551235 : True := trivial
theorem holds.tw17350334001816582195 : True := trivial
theorem holds.tw17389693977477240414 : True := trivial
theorem holds.tw17431095687407681345 : True := trivial
theorem holds.tw17449197012308036484 : True := trivial
theorem holds.tw17509674038599419204 : True := trivial
theorem holds.tw17529813859474907437 : True := trivial
theorem holds.tw17666659845282860691 : True := trivial
theorem holds.tw17681080420830800801 : True := trivial
theorem holds.tw17697912712050680051 : True := trivial
theorem holds.tw17707201425385568220 : True := trivial
theorem holds.tw17707741193156157933 : True := trivial
theorem holds.tw17734063602936010158 : True := trivial
theorem holds.tw17848742591477711269 : True := trivial
theorem holds.tw17880984488247500219 : True := trivial
theorem holds.tw18129281087176961019 : True := trivial
theorem holds.tw18168147856517698606 : True := trivial
theorem holds.tw18214957755958109590 : True := trivial
theorem holds.tw18216130167251382920 : True := trivial
theorem holds.tw18251973493859475757 : True := trivial
theorem holds.tw18272521206532295114 : True := trivial
theorem holds.tw18277078562906230226 : True := trivial
theorem holds.tw18278276539108611348 : True := trivial
theorem holds.tw18357922187700629032 : True := trivial
theorem holds.tw18425530061838256833 : True := trivial
theorem holds.tw1847390102301453423 : True := trivial
theorem holds.tw1876414543498299124 : True := trivial
theorem holds.tw1903127979770546062 : True := trivial
theorem holds.tw1939605613712722849 : True := trivial
theorem holds.tw2029444746374654339 : True := trivial
theorem holds.tw2049808489102561163 : True := trivial
theorem holds.tw2058540898419122805 : True := trivial
theorem holds.tw2100738890870232442 : True := trivial
theorem holds.tw2105166117897926425 : True := trivial
theorem holds.tw2199389737640659016 : True := trivial
theorem holds.tw2253302623821627179 : True := trivial
theorem holds.tw2274145465674516089 : True := trivial
theorem holds.tw2353881948887302330 : True := trivial
theorem holds.tw2474576322954469499 : True := trivial
theorem holds.tw2526528757594445138 : True := trivial
theorem holds.tw2527008612364911965 : True := trivial
theorem holds.tw2540111670371167369 : True := trivial
theorem holds.tw2551699337904964739 : True := trivial
theorem holds.tw2560879597675543630 : True := trivial
theorem holds.tw2561402170226765465 : True := trivial
theorem holds.tw2561761912368670884 : True := trivial
theorem holds.tw2641948960887594224 : True := trivial
theorem holds.tw2680047708886684618 : True := trivial
theorem holds.tw2702268268173709728 : True := trivial
theorem holds.tw2792409234558701674 : True := trivial
theorem holds.tw2805377692631664884 : True := trivial
theorem holds.tw2843291916289193828 : True := trivial
theorem holds.tw2849155272749616090 : True := trivial
theorem holds.tw2923310060377701760 : True := trivial
theorem holds.tw2938976128795157090 : True := trivial
theorem holds.tw2952441783515901439 : True := trivial
theorem holds.tw3004103879428539272 : True := trivial
theorem holds.tw3014756043927854386 : True := trivial
theorem holds.tw3082818186576849561 : True := trivial
theorem holds.tw3094789099633294432 : True := trivial
theorem holds.tw3141095759482928523 : True := trivial
theorem holds.tw3154462031582028050 : True := trivial
theorem holds.tw3186999977536273094 : True := trivial
theorem holds.tw3201673895743746753 : True := trivial
theorem holds.tw3275466583795421173 : True := trivial
theorem holds.tw3330289844635996026 : True := trivial
theorem holds.tw3393378264928007664 : True := trivial
theorem holds.tw3395580205791890402 : True := trivial
theorem holds.tw3452594671146609155 : True := trivial
theorem holds.tw3480285041793064869 : True := trivial
theorem holds.tw3545095352195059700 : True := trivial
theorem holds.tw3650970435146761230 : True := trivial
theorem holds.tw3654183217935405784 : True := trivial
theorem holds.tw3674790921327036791 : True := trivial
theorem holds.tw3748627565724698235 : True := trivial
theorem holds.tw3767291076973383115 : True := trivial
theorem holds.tw3837693456177718937 : True := trivial
theorem holds.tw3841658822956714687 : True := trivial
theorem holds.tw3877214369946817656 : True := trivial
theorem holds.tw3951922868775637771 : True := trivial
theorem holds.tw3974465376709263929 : True := trivial
theorem holds.tw3986743291075414921 : True := trivial
theorem holds.tw40313206769693490 : True := trivial
theorem holds.tw4179099874445386117 : True := trivial
theorem holds.tw4192350703843197520 : True := trivial
theorem holds.tw4271078293194303813 : True := trivial
theorem holds.tw4273739050593422434 : True := trivial
theorem holds.tw4301892016061833239 : True := trivial
theorem holds.tw4345871877160560961 : True := trivial
theorem holds.tw4432194861663360282 : True := trivial
theorem holds.tw4470976424593640729 : True := trivial
theorem holds.tw4474301237872616171 : True := trivial
theorem holds.tw460395936904649191 : True := trivial
theorem holds.tw4611455066193965452 : True := trivial
theorem holds.tw4614204224447480470 : True := trivial
theorem holds.tw4617616310221022271 : True := trivial
theorem holds.tw4631405131418156215 : True := trivial
theorem holds.tw4665905825242890566 : True := trivial
theorem holds.tw4700493562412850539 : True := trivial
theorem holds.tw4722856415442554627 : True := trivial
theorem holds.tw4740441526477502103 : True := trivial
theorem holds.tw4745043864708143370 : True := trivial
theorem holds.tw4750683839069563207 : True := trivial
theorem holds.tw478872284939702901 : True := trivial
theorem holds.tw4797318139641990625 : True := trivial
theorem holds.tw4860851084537461349 : True := trivial
theorem holds.tw4875334941340208639 : True := trivial
theorem holds.tw4903155824035736689 : True := trivial
theorem holds.tw493054267389390368 : True := trivial
theorem holds.tw4964016498539210948 : True := trivial
theorem holds.tw4965466562522791990 : True := trivial
theorem holds.tw4970886232725511550 : True := trivial
theorem holds.tw4979136469324131730 : True := trivial
theorem holds.tw4995830449515781519 : True := trivial
theorem holds.tw4999449236135246763 : True := trivial
theorem holds.tw5003661389865313235 : True := trivial
theorem holds.tw5022709344016879283 : True := trivial
theorem holds.tw5049256370076695261 : True := trivial
theorem holds.tw5093075918686404443 : True := trivial
theorem holds.tw5096070311238676358 : True := trivial
theorem holds.tw5106422183597005335 : True := trivial
theorem holds.tw513049040770379899 : True := trivial
theorem holds.tw5180087609566854459 : True := trivial
theorem holds.tw5210936747131389070 : True := trivial
theorem holds.tw5241104363974997537 : True := trivial
theorem holds.tw5255687353685828486 : True := trivial
theorem holds.tw5271516917413979382 : True := trivial
theorem holds.tw5274490229762150204 : True := trivial
theorem holds.tw5275079693813502040 : True := trivial
theorem holds.tw5346105616426790634 : True := trivial
theorem holds.tw5366708456170709238 : True := trivial
theorem holds.tw5439286833295319741 : True := trivial
theorem holds.tw5448918486238094192 : True := trivial
theorem holds.tw5465212030764379557 : True := trivial
theorem holds.tw5488423409152793128 : True := trivial
theorem holds.tw5489234934667043708 : True := trivial
theorem holds.tw5502917880784401446 : True := trivial
theorem holds.tw551873637081141402 : True := trivial
theorem holds.tw5524939577239196288 : True := trivial
theorem holds.tw5600692535607555790 : True := trivial
theorem holds.tw5628935944226374593 : True := trivial
theorem holds.tw5656371207442675343 : True := trivial
theorem holds.tw5662502314394643963 : True := trivial
theorem holds.tw5695699840230629722 : True := trivial
theorem holds.tw5802931203507971230 : True := trivial
theorem holds.tw5813813418347578584 : True := trivial
theorem holds.tw5835145032379825627 : True := trivial
theorem holds.tw5835446048565592325 : True := trivial
theorem holds.tw5845342645921219848 : True := trivial
theorem holds.tw5850784739670317668 : True := trivial
theorem holds.tw5850969045804811826 : True := trivial
theorem holds.tw5853410440361033542 : True := trivial
theorem holds.tw5873747358221813776 : True := trivial
theorem holds.tw5895610010607579328 : True := trivial
theorem holds.tw5940642599476487278 : True := trivial
theorem holds.tw5980941714614472209 : True := trivial
theorem holds.tw601160543686568709 : True := trivial
theorem holds.tw6030556396474449474 : True := trivial
theorem holds.tw6101240160778093228 : True := trivial
theorem holds.tw6110900625412170201 : True := trivial
theorem holds.tw6191945798425457591 : True := trivial
theorem holds.tw6215364045569763053 : True := trivial
theorem holds.tw6222177862719471361 : True := trivial
theorem holds.tw6264741960485028577 : True := trivial
theorem holds.tw6310952767442109413 : True := trivial
theorem holds.tw6403814840159551952 : True := trivial
theorem holds.tw6443258025254966807 : True := trivial
theorem holds.tw6461257773044739765 : True := trivial
theorem holds.tw6495909464401731306 : True := trivial
theorem holds.tw6521648769282346727 : True := trivial
theorem holds.tw6529945985432028398 : True := trivial
theorem holds.tw6541887797953015408 : True := trivial
theorem holds.tw656415326588585857 : True := trivial
theorem holds.tw6591425125573616597 : True := trivial
theorem holds.tw659425208447675807 : True := trivial
theorem holds.tw6600299763104899922 : True := trivial
theorem holds.tw6665377986905111404 : True := trivial
theorem holds.tw6666157485571942845 : True := trivial
theorem holds.tw669239763928023827 : True := trivial
theorem holds.tw6783833769466783195 : True := trivial
theorem holds.tw687562300686569793 : True := trivial
theorem holds.tw6885518787596744040 : True := trivial
theorem holds.tw6888343139062981242 : True := trivial
theorem holds.tw6911922835757086587 : True := trivial
theorem holds.tw696835537062298276 : True := trivial
theorem holds.tw6981000220373140145 : True := trivial
theorem holds.tw69890555491049855 : True := trivial
theorem holds.tw6997455364798138066 : True := trivial
theorem holds.tw7011015064693918612 : True := trivial
theorem holds.tw7027562711449304313 : True := trivial
theorem holds.tw7051569403052615811 : True := trivial
theorem holds.tw7143151070631756919 : True := trivial
theorem holds.tw7169649888935140525 : True := trivial
theorem holds.tw7264605435004778772 : True := trivial
theorem holds.tw7271063937183179486 : True := trivial
theorem holds.tw7324410965461097507 : True := trivial
theorem holds.tw7326257940701932 : True := trivial
theorem holds.tw7394529521576616490 : True := trivial
theorem holds.tw7402864222323822445 : True := trivial
theorem holds.tw7422845418471568336 : True := trivial
theorem holds.tw7472988835170081915 : True := trivial
theorem holds.tw7517187036755896769 : True := trivial
theorem holds.tw756917038744741383 : True := trivial
theorem holds.tw7593284745373123870 : True := trivial
theorem holds.tw7630069740122693322 : True := trivial
theorem holds.tw7669254857533766299 : True := trivial
theorem holds.tw7733590487071393829 : True := trivial
theorem holds.tw7785991466963307767 : True := trivial
theorem holds.tw7813084844271951086 : True := trivial
theorem holds.tw7827966411027734958 : True := trivial
theorem holds.tw7881284160935637664 : True := trivial
theorem holds.tw7918611418522640311 : True := trivial
theorem holds.tw7922827657035213932 : True := trivial
theorem holds.tw7924681409276312044 : True := trivial
theorem holds.tw7954595375487774329 : True := trivial
theorem holds.tw7975186948364232716 : True := trivial
theorem holds.tw8017972184371985951 : True := trivial
theorem holds.tw8091427787579545693 : True := trivial
theorem holds.tw8096582910810780354 : True := trivial
theorem holds.tw8161001390927338188 : True := trivial
theorem holds.tw8189171359387148985 : True := trivial
theorem holds.tw8263966749072320484 : True := trivial
theorem holds.tw8359498905247605612 : True := trivial
theorem holds.tw8532325837534966689 : True := trivial
theorem holds.tw8563328845860720041 : True := trivial
theorem holds.tw8606346823167209142 : True := trivial
theorem holds.tw8631293267585830163 : True := trivial
theorem holds.tw8670152064196188889 : True := trivial
theorem holds.tw8754940849202951624 : True := trivial
theorem holds.tw8961302451562723428 : True := trivial
theorem holds.tw9005373214850903855 : True := trivial
theorem holds.tw903324121998579969 : True := trivial
theorem holds.tw9082308606872025214 : True := trivial
theorem holds.tw9095495336217524622 : True := trivial
theorem holds.tw9161474310487814163 : True := trivial
theorem holds.tw9292234046247565904 : True := trivial
theorem holds.tw9295115029187253011 : True := trivial
theorem holds.tw9315829020231614093 : True := trivial
theorem holds.tw9316153807938059996 : True := trivial
theorem holds.tw932101026474436930 : True := trivial
theorem holds.tw9378720747156416557 : True := trivial
theorem holds.tw9388427707856587618 : True := trivial
theorem holds.tw9392040673282146505 : True := trivial
theorem holds.tw9503211384664753163 : True := trivial
theorem holds.tw9546431293828347407 : True := trivial
theorem holds.tw957958058360222109 : True := trivial
theorem holds.tw9598098773424522262 : True := trivial
theorem holds.tw9636834319650176099 : True := trivial
theorem holds.tw9642176337656801295 : True := trivial
theorem holds.tw9743181943436277730 : True := trivial
theorem holds.tw9754577232786029207 : True := trivial
theorem holds.tw9786645631245622359 : True := trivial
theorem holds.tw9811586380247139175 : True := trivial
theorem holds.tw9893385683673782993 : True := trivial
theorem holds.tw9958061993832716352 : True := trivial
theorem holds.tw9975498690158550811 : True := trivial
theorem holds.tw9986506278012714487 : True := trivial
set_option Elab.async true in
theorem holds : PySem.Challenge.rw_og0177_01.Holds := by
  w_on; o_law; o_head (kmHook hdk.heap_1 [2, 3, 15, 17, 18, 20, 21, 22, 29, 30, 32, 33, 35, 36, 37, 39, 40, 42, 43, 44, 45, 46, 47, 50, 57, 58, 59, 69, 71, 72, 74, 75, 76, 78, 79, 81, 82, 83, 85, 86, 88, 89, 90, 92, 93, 95, 96, 97, 99, 100, 102, 103, 104, 106, 107, 109, 110, 111, 113, 114, 116, 117, 118, 120, 121, 123, 124, 125, 127, 128, 130, 131, 132, 134, 135, 137, 138, 139, 141, 142, 144, 145, 146, 148, 149, 151, 152, 153, 154, 155, 156, 157, 160, 162, 163, 165, 166, 167, 169, 170, 172, 173, 174, 176, 177, 179, 180, 181, 183, 184, 186, 187, 188, 190, 191, 193, 194, 195, 203, 204, 205, 207, 208, 210, 211, 212, 213, 214, 215, 216, 219, 221, 222, 224, 225, 226, 228, 229, 231, 232, 233, 235, 236, 238, 239, 240, 242, 243, 245, 246, 247, 249, 250, 252, 253, 254, 256, 257, 259, 260, 261, 263, 264, 266, 267, 268, 270, 271, 273, 274, 275, 277, 278, 280, 281, 282, 285, 286, 287, 289, 290, 292, 293, 294, 296, 297, 299, 300, 301, 303, 304, 306, 307, 308, 310, 311, 313, 314, 315, 317, 318, 320, 321, 322, 323, 326, 327, 328, 329, 332, 333, 334, 335, 337, 338, 340, 341, 342, 344, 345, 347, 348, 349, 352, 353, 354, 356, 357, 359, 360, 361, 363, 364, 366, 367, 368, 370, 371, 373, 374, 375, 378, 379, 380, 381, 384, 385, 386, 389, 390, 391, 394, 395, 403, 405, 406, 408, 409, 410, 412, 413, 415, 416, 417, 419, 420, 422, 423, 424, 426, 427, 429, 430, 431, 433, 434, 436, 437, 438, 440, 441, 443, 444, 445, 446, 447, 448, 449, 452, 454, 455, 457, 458, 459, 462, 463, 464, 466, 467, 469, 470, 471, 473, 474, 476, 477, 478, 481, 482] hkeys [288])
  case hw => w_witness2
  case hc =>
    k_go0
    rename CodeHd _ _ _ => hC
    rename News _ _ _ _ => N
    rename Fr _ _ _ _ => Fr0
    rename Frag.In _ _ => K0
    rename Top topProg _ _ _ _ _ => T
    rename IntsAre _ _ => J
    rename Heap.IsList (ghostOf _ _) _ _ => T0
    rename Obj.data _ = _ => hcell
    rename ¬ _ < _ => hlen
    rename _ < (_ : Nat) => h288
    rename Shared => s1
    rename World => w
    obtain ⟨m0, F, hm⟩ : ∃ m0, Fx _ _ _ _ _ m0 _ _ ∧ m0 "script" = some (.ref _) := ⟨_, Fx_of Fr0 N (nd2 h288), by with_unfolding_all rfl⟩
    have hcell := hcell.trans (b := Data.cell none) (by with_unfolding_all rfl)
    have hB := ba_of T (N (288, tabObj #[]) (.tail _ (.head _))).2.2
    have W : Wd _ _ _ _ := ⟨K0, T.g, T.b, T.builtins, T.nolimit⟩
    have TL : Lst _ _ _ := ⟨_, rfl, T0⟩
    have hab := Fr0.above
    clear Fr0 N
    refine wpAny_mono (Q := fun f s' => ∃ h' t' Z' m' mu' tb, s' = ⟨h', s1.gens, s1.drawn, t', s1.os⟩ ∧ Fx s1.heap.objs.size (ghostOf s1.heap [(292, 288)]) (ghostOf s1.heap [(292, 288)]) Z' s1.heap.objs.size m' ((288, tabObj tb) :: mu') h' ∧ f = .ret (.bool true)) (E := fun _ _ => False) ?_ (fun f s' z => ?_) (fun _ _ z => z.elim)
    · dsimp only
      have hlen2 : ∀ {vs : List Value} {ns : List Int}, IntsAre vs ns → ¬ (↑63 : Int) < (ns.length : Int) → vs.length ≤ 1000 := fun x y => by have := x.length; omega
      have hl1000 := hlen2 J hlen
      clear hlen2 hlen
      generalize ghostOf s1.heap [(292, 288)] = G at F hB W TL hC ⊢
      show wpAny (Mo w) _ _ _ _ _
      refine wp_gen fun Qe hQe => ?_
      (repeat' tb_rel)
      refine CalN.use (box (ok_law.less (by first | decide | omega)) W F.stay TL J hl1000) F fun D o1 h1 t1 Z1 F1 l1 hD P1 => ?_
      (repeat' tb_rel)
      rename Fx _ _ _ _ _ _ _ _ => F2
      have M := F2.mus (D, o1) (.head _)
      refine CalM.use (mx := [(D, o1)]) (law_path (ok_law.less (by first | decide | omega)) (W.up F2.le) F2.stay P1 M.1 M.2.2.2) F2 fun r3 h3 t3 Z3 mx3 F3 l3 p3 => ?_
      obtain ⟨o3, n3, ps, rfl, P3, hn3, Pp, hpl, hg⟩ := p3
      simp only [List.cons_append, List.nil_append] at F3
      clear F1 M F
      (repeat' tb_rel)
      rename Tup _ _ _ => T4
      rename Heap.StaysIn Z3 _ => l4
      rename Fx _ _ _ _ _ _ _ _ => F4
      refine k_drawN (k := 2) (ok_law.less (by first | decide | omega)) W F4 (P3.up l4) (by first | decide | omega) (by decide) (by decide) rfl fun x5 u5 h5 t5 Z5 o5 F5 l5 P5 b5 => ?_
      obtain ⟨ev, tv, hev⟩ := rule_at b5
      refine i_tk F5 (T4.up l5) (by first | decide | omega) (by first | decide | omega) hev (fun _ => by with_unfolding_all rfl) ?_
      have hh : (callerA.deeper (envOfC "law" default 0 0 .none)).handled = none := rfl
      (repeat' tb_rel)
      rename Fx _ _ _ _ _ _ _ _ => F6
      refine k_drawN (k := 6) (ok_law.less (by first | decide | omega)) W F6 P5 (by first | decide | omega) (by decide) (by decide) rfl fun x7 u7 h7 t7 Z7 o7 F7 l7 P7 b7 => ?_
      (repeat' tb_rel)
      refine k_drawN (k := 6) (ok_law.less (by first | decide | omega)) W F7 P7 (by first | decide | omega) (by decide) (by decide) rfl fun x8 u8 h8 t8 Z8 o8 F8 l8 P8 b8 => ?_
      (repeat' tb_rel)
      rw [show (1 : Int) + (x7 : Int) = ((1 + x7 : Nat) : Int) by push_cast; rfl, show (1 : Int) + (x8 : Int) = ((1 + x8 : Nat) : Int) by push_cast; rfl]
      have hW : 1 ≤ 1 + x7 ∧ 1 + x7 ≤ 6 := by omega
      have hH : 1 ≤ 1 + x8 ∧ 1 + x8 ≤ 6 := by omega
      generalize 1 + x7 = W1 at hW ⊢
      generalize 1 + x8 = H1 at hH ⊢
      refine u_swap2 (x := "width") (y := "height") ?_
      (repeat' tb_rel)
      rename Heap.StaysIn Z8 _ => l9
      rename Fx _ _ _ _ _ _ _ _ => F9
      refine k_drawN (k := 4) (ok_law.less (by first | decide | omega)) W F9 (P8.up l9) (by first | decide | omega) (by decide) (by decide) rfl fun x10 u10 h10 t10 Z10 o10 F10 l10 P10 b10 => ?_
      (repeat' tb_rel)
      refine k_drawN (k := 4) (ok_law.less (by first | decide | omega)) W F10 P10 (by first | decide | omega) (by decide) (by decide) rfl fun x11 u11 h11 t11 Z11 o11 F11 l11 P11 b11 => ?_
      (repeat' tb_rel)
      rename Heap.StaysIn Z11 _ => l12
      rename Fx _ _ _ _ _ _ _ _ => F12
      refine st_C F12.drop hcell rfl rfl rfl fun h13 o13 F13 d13 => ?_
      obtain ⟨Z14, F14, l14, e14⟩ := F13.freeze (Nat.le_succ _)
      have C : CellZ Z14 _ (.int (x10 : Int) u10) := ⟨_, e14, d13⟩
      replace Pp := Pp.up (stays_trans l4 (stays_trans l5 (stays_trans l7 (stays_trans l8 (stays_trans l9 (stays_trans l10 (stays_trans l11 (stays_trans l12 l14))))))))
      have hgl := good_len hg
      have hgb := good_bnd hg
      have hgp := bnd_good hgb
      clear F13 F12 F11 F10 F9 F8 F7 F6 F5 F4 F3 F2 l1 l3 l4 l5 l7 l8 l9 l10 l11 l12 l14 P1 P3 P5 P7 P8 P10 P11 T4 e14 d13
      (repeat' tb_rel)
      rename Fx _ _ _ _ _ _ _ _ => F15
      refine Cal.use (raster (ev := ev) (W' := W1) (H' := H1) (ok_law.less (by first | decide | omega)) (W.up F15.le) F15.stay Pp (by first | decide | omega) hgl hgp (by first | decide | omega) (by first | decide | omega)) F15 fun r16 h16 t16 Z16 F16 l16 R16 => ?_
      replace C := C.up l16
      replace Pp := Pp.up l16
      (repeat' tb_rel)
      rename Fx _ _ _ _ _ _ _ _ => F17
      refine Cal.use (translation (ok_law.less (by first | decide | omega)) (W.up F17.le) F17.stay) F17 fun r18 h18 t18 Z18 F18 l18 M18 => ?_
      replace C := C.up l18
      replace Pp := Pp.up l18
      replace R16 := R16.up l18
      (repeat' tb_rel)
      have M288 := F18.mus (288, tabObj #[]) (.head _)
      refine CalM.use (mx := [(288, tabObj #[])]) (mu := []) (transformed (ok_law.less (by first | decide | omega)) (W.up F18.le) F18.stay Pp M18 (by first | decide | omega) hgl hgb (by first | decide | omega) (by first | decide | omega) (hC.keeps F18.le) (ba_up hB F18.le) M288.1 M288.2.2.2) F18 fun r19 h19 t19 Z19 mx19 F19 l19 p19 => ?_
      obtain ⟨tb, rfl, P19⟩ := p19
      simp only [List.append_nil] at F19
      replace C := C.up l19
      replace Pp := Pp.up l19
      replace R16 := R16.up l19
      (repeat' tb_rel)
      rw [show (W1 : Int) + (x10 : Int) = ((W1 + x10 : Nat) : Int) by push_cast; rfl, show (H1 : Int) + (x11 : Int) = ((H1 + x11 : Nat) : Int) by push_cast; rfl]
      refine Cal.use (raster (ev := ev) (W' := W1 + x10) (H' := H1 + x11) (ok_law.less (by first | decide | omega)) (W.up F19.le) F19.stay P19 (by show (List.map _ ps).length ≤ 20; rw [List.length_map]; omega) (len_sh hgl) (bnd_sh hgb (by first | decide | omega) (by first | decide | omega)) (by first | decide | omega) (by first | decide | omega)) F19 fun r20 h20 t20 Z20 F20 l20 R20 => ?_
      replace C := C.up l20
      replace Pp := Pp.up l20
      replace R16 := R16.up l20
      obtain ⟨ms, Tm, am⟩ := R20
      have hml : ms.length = H1 + x11 := by rw [am.length, moved_len]
      clear F19 F18 F17 F16 F15 F14 M288
      (repeat' tb_rel)
      rename SliceAt _ _ _ _ _ => S21
      rename Heap.StaysIn Z20 _ => l21
      rename Fx _ _ _ _ _ _ _ _ => F21
      refine x_upto F21 (Tm.up l21) S21 (by first | decide | omega) (by rw [PySem.sizeLine_eq]; omega) (fun _ _ => by with_unfolding_all rfl) fun r22 h22 Z22 F22 l22 T22 => ?_
      (repeat' tb_rel)
      have am22 := am.take (Int.toNat (H1 : Int))
      refine it_lst (by exact hh) F22 T22 fun I23 h23 nu23 St23 It23 hs23 F23 => ?_
      refine w_comp (It23 _) (by decide) rfl (fun _ v r => RowV v r) (fun i => (((rasterB (shP (10 * (x10 : Int)) (10 * (x11 : Int)) ps) ev (W1 + x10) (H1 + x11)).take (Int.toNat (H1 : Int)))[i]?).map (List.drop x10)) F23 hs23 (by rw [PySem.sizeLine_eq, List.length_take]; omega) (fun _ _ _ _ k x => x) ?_ ?_
      · rintro C24 i24 v24 Z24 mC mu24 h24 t24 hi24 hz24 F24 ⟨nu24, hP24, -⟩
        obtain ⟨r, hr, ur, rfl⟩ := am22.get hP24
        have hrl : r.length = W1 + x10 := rows_len _ _ _ _ r (List.mem_of_mem_take (List.mem_of_getElem? hr))
        have C24' := C.up (stays_trans l21 (stays_trans l22 hz24))
        have W24 := W.up F22.le
        (repeat' tb_rel)
        rename SliceAt _ _ _ _ _ => S25
        rename Heap.StaysIn Z24 _ => l25
        rename Fx _ _ _ _ _ _ _ _ => F25
        refine x_sfrom F25 S25 (by first | decide | omega) (by rw [hrl]; push_cast; omega) (by first | decide | omega) (fun _ _ => by with_unfolding_all rfl) fun t26 k26 => ?_
        exact ⟨_, _, _, _, rfl, F25, l25, _, by show (_[i24]?).map _ = _; rw [hr]; rfl, t26, rfl⟩
      · intro rv h24 t24 Z24 rs F24 l24 T24 R24
        rw [am22.length, fm_map] at R24
        rw [show Int.toNat (H1 : Int) = H1 from rfl, moved_eq] at R24
        have R24' : RowsAt Z24 rv (rasterB ps ev W1 H1) := ⟨rs, T24, R24⟩
        replace R16 := R16.up (stays_trans l21 (stays_trans l22 l24))
        replace Pp := Pp.up (stays_trans l21 (stays_trans l22 l24))
        have hrows : (rasterB ps ev W1 H1).length = H1 := moved_len _ _ _ _
        have hrw := rows_len ps ev W1 H1
        clear F23 F22 F21 F20 It23 hs23 am22 T22 Tm am S21 T24 R24 C
        (repeat' tb_rel)
        refine ne_rows ok_law.units F24 R24' R16 ?_
        (repeat' tb_rel)
        as_aux_lemma =>
          refine Cal.use (filled_count (ok_law.less (by first | decide | omega)) (W.up F24.le) F24.stay R16 (by first | decide | omega)) F24 fun r27 h27 t27 Z27 F27 l27 E27 => ?_
          obtain ⟨u27, rfl⟩ := E27
          replace R16 := R16.up l27
          replace Pp := Pp.up l27
          (repeat' tb_rel)
          refine s_comp2 rfl rfl (by decide) (fun _ => rfl) ?_
          (repeat' tb_rel)
          obtain ⟨vs16, T16, a16⟩ := id R16
          refine it_lst (by exact hh) F27 T16 fun I28 h28 nu28 St28 It28 hs28 F28 => ?_
          rw [a16.length] at It28
          refine w_comp2 (rs := rasterB ps ev W1 H1) (by exact hh) (It28 _) (fun nu i v hv => by obtain ⟨r, hr, hu⟩ := a16.get hv; exact ⟨r, hr, hu⟩) (by decide) rfl F28 hs28 (by first | decide | omega) (fun r hr => by have := hrw r hr; omega)
            (fun _ => rfl) (fun _ => rfl) (fun _ => rfl) (fun _ => rfl) (by decide) (by decide) (fun _ _ => rfl) ?_ ?_
          · intro C29 Z29 mC29 mu29 h29 t29 b u F29 hm29
            (repeat' tb_rel)
            exact ⟨by cases b <;> decide, _, _, rfl, F29⟩
          · intro v h29 t29 Z29 ys F29 l29 T29 R29
            have hyc : ys.length = cnt (rasterB ps ev W1 H1) := by rw [R29.length, flat_len]
            have hyb := cnt_le (n := 6) (rs := rasterB ps ev W1 H1) fun r hr => by have := hrw r hr; omega
            rw [hrows] at hyb
            replace R16 := R16.up l29
            replace Pp := Pp.up l29
            (repeat' tb_rel)
            have hmw : ∀ (i : Nat) (p q : List Bool), (rasterB ps ev W1 H1)[i]? = some p → (rasterB ps ev W1 H1)[i]? = some q → p.length = q.length ∧ p.length ≤ 100 := fun i p q hp hq => by
              have := hrw p (List.mem_of_getElem? hp)
              have := hrw q (List.mem_of_getElem? hq)
              omega
            refine Cal.use (met_rows (ok_law.less (by first | decide | omega)) (W.up F29.le) F29.stay R16 R16 rfl (by first | decide | omega) hmw) F29 fun r30 h30 t30 Z30 F30 l30 R30 => ?_
            rw [met_self] at R30
            replace R16 := R16.up l30
            replace Pp := Pp.up l30
            (repeat' tb_rel)
            refine ne_rows ok_law.units F30 R30 R16 ?_
            (repeat' tb_rel)
            clear R30 F29 T29 R29 F28 It28 hs28 T16 a16
            refine Cal.use (path_none (ok_law.less (by first | decide | omega)) (W.up F30.le) F30.stay) F30 fun r31 h31 t31 Z31 F31 l31 P31 => ?_
            replace R16 := R16.up l31
            replace Pp := Pp.up l31
            (repeat' tb_rel)
            refine Cal.use (raster (ev := ev) (W' := W1) (H' := H1) (ok_law.less (by first | decide | omega)) (W.up F31.le) F31.stay P31 (by simp) (fun _ hm => nomatch hm) (fun _ hm => nomatch hm) (by first | decide | omega) (by first | decide | omega)) F31 fun r32 h32 t32 Z32 F32 l32 R32 => ?_
            rw [raster_empty] at R32
            replace R16 := R16.up l32
            replace Pp := Pp.up l32
            (repeat' tb_rel)
            clear F30 F31 P31 l30 l31 l32
            as_aux_lemma =>
              rename Fx _ _ _ _ _ _ _ _ => F33
              refine mul_s (b := false) (n := W1) (by decide) rfl (by first | decide | omega) fun t34 k34 => ?_
              (repeat' tb_rel)
              refine k_lst F33 (Nat.le_of_ble_eq_true rfl) fun a35 h35 F35 ha35 => ?_
              (repeat' tb_rel)
              refine mul_l (n := H1) rfl (by first | decide | omega) F35 fun r36 h36 Z36 F36 l36 T36 => ?_
              have R36 : RowsAt Z36 r36 (List.replicate H1 (List.replicate W1 false)) := ⟨_, T36, rows_rep H1 ⟨_, rfl⟩⟩
              replace R32 := R32.up l36
              replace R16 := R16.up l36
              replace Pp := Pp.up l36
              refine ne_rows ok_law.units F36 R32 R36 ?_
              clear T36 R36 F35 F33
              (repeat' tb_rel)
              have hmw2 : ∀ (i : Nat) (p q : List Bool), (rasterB ps ev W1 H1)[i]? = some p → (List.replicate H1 (List.replicate W1 false))[i]? = some q → p.length = q.length ∧ p.length ≤ 100 := fun i p q hp hq => by
                have h1 := hrw p (List.mem_of_getElem? hp)
                have h2 := List.eq_of_mem_replicate (List.mem_of_getElem? hq)
                subst h2
                rw [List.length_replicate]
                omega
              refine Cal.use (met_rows (ok_law.less (by first | decide | omega)) (W.up F36.le) F36.stay R16 R32 (by rw [List.length_replicate]; omega) (by first | decide | omega) hmw2) F36 fun r37 h37 t37 Z37 F37 l37 R37 => ?_
              rw [met_empty] at R37
              replace R32 := R32.up l37
              replace R16 := R16.up l37
              replace Pp := Pp.up l37
              (repeat' tb_rel)
              refine ne_rows ok_law.units F37 R37 R32 ?_
              (repeat' tb_rel)
              refine Cal.use (filled_count (ok_law.less (by first | decide | omega)) (W.up F37.le) F37.stay R32 (by rw [List.length_replicate]; omega)) F37 fun r38 h38 t38 Z38 F38 l38 E38 => ?_
              obtain ⟨u38, rfl⟩ := E38
              rw [cnt_empty]
              replace Pp := Pp.up l38
              (repeat' tb_rel)
              clear R32 R16 R37 F37
              refine Cal.use (raster (ev := true) (W' := W1) (H' := H1) (ok_law.less (by first | decide | omega)) (W.up F38.le) F38.stay Pp (by first | decide | omega) hgl hgp (by first | decide | omega) (by first | decide | omega)) F38 fun r39 h39 t39 Z39 F39 l39 R39 => ?_
              replace Pp := Pp.up l39
              (repeat' tb_rel)
              refine Cal.use (raster (ev := false) (W' := W1) (H' := H1) (ok_law.less (by first | decide | omega)) (W.up F39.le) F39.stay Pp (by first | decide | omega) hgl hgp (by first | decide | omega) (by first | decide | omega)) F39 fun r40 h40 t40 Z40 F40 l40 R40 => ?_
              replace R39 := R39.up l40
              clear F38 F39 l38 l39 l40 l37 l36
              (repeat' tb_rel)
              refine u_swap2 (x := "odd") (y := "nought") ?_
              (repeat' tb_rel)
              rename Fx _ _ _ _ _ _ _ _ => F41
              rename Heap.StaysIn Z40 _ => l41
              replace R39 := R39.up l41
              replace R40 := R40.up l41
              have hmw3 : ∀ (i : Nat) (p q : List Bool), (rasterB ps true W1 H1)[i]? = some p → (rasterB ps false W1 H1)[i]? = some q → p.length = q.length ∧ p.length ≤ 100 := fun i p q hp hq => by
                have h1 := rows_len _ _ _ _ p (List.mem_of_getElem? hp)
                have h2 := rows_len _ _ _ _ q (List.mem_of_getElem? hq)
                omega
              refine Cal.use (met_rows (ok_law.less (by first | decide | omega)) (W.up F41.le) F41.stay R39 R40 (by rw [moved_len, moved_len]) (by rw [moved_len]; omega) hmw3) F41 fun r42 h42 t42 Z42 F42 l42 R42 => ?_
              rw [met_odd] at R42
              replace R39 := R39.up l42
              (repeat' tb_rel)
              refine ne_rows ok_law.units F42 R42 R39 ?_
              clear R42 R39 R40 F41 Pp
              (repeat' tb_rel)
              refine Cal.use (path_none (ok_law.less (by first | decide | omega)) (W.up F42.le) F42.stay) F42 fun r43 h43 t43 Z43 F43 l43 P43 => ?_
              (repeat' tb_rel)
              refine Cal.use (dec_new (p := 1) (N := 5) (ok_law.less (by first | decide | omega)) (W.up F43.le) F43.stay (Or.inr ⟨rfl, rfl⟩)) F43 fun r44 h44 t44 Z44 F44 l44 D44 => ?_
              (repeat' tb_rel)
              refine Cal.use (dec_new (p := 1) (N := 5) (ok_law.less (by first | decide | omega)) (W.up F44.le) F44.stay (Or.inr ⟨rfl, rfl⟩)) F44 fun r45 h45 t45 Z45 F45 l45 D45 => ?_
              (repeat' tb_rel)
              refine Cal.use (rectangle (W' := W1) (H' := H1) (ok_law.less (by first | decide | omega)) (W.up F45.le) F45.stay (P43.up (stays_trans l44 l45)) (D44.up l45) D45 (by first | decide | omega) (by first | decide | omega)) F45 fun r46 h46 t46 Z46 F46 l46 P46 => ?_
              clear F42 F43 F44 F45 P43 D44 D45 l42 l43 l44 l45 l46
              (repeat' tb_rel)
              rename Fx _ _ _ _ _ _ _ _ => F47
              refine mul_s (b := true) (n := W1) (by decide) rfl (by first | decide | omega) fun t48 k48 => ?_
              (repeat' tb_rel)
              refine k_lst F47 (Nat.le_of_ble_eq_true rfl) fun a48 h48 F48 ha48 => ?_
              (repeat' tb_rel)
              refine mul_l (n := H1) rfl (by first | decide | omega) F48 fun r49 h49 Z49 F49 l49 T49 => ?_
              have R49 : RowsAt Z49 r49 (List.replicate H1 (List.replicate W1 true)) := ⟨_, T49, rows_rep H1 ⟨_, rfl⟩⟩
              replace P46 := P46.up l49
              clear F46 F47 F48 T49 l49
              (repeat' tb_rel)
              rename Fx _ _ _ _ _ _ _ _ => F50
              refine Cal.use (raster (ev := ev) (W' := W1) (H' := H1) (ok_law.less (by first | decide | omega)) (W.up F50.le) F50.stay P46 (by show 1 ≤ 20; decide) (square_len _ _) (square_bnd (by first | decide | omega) (by first | decide | omega)) (by first | decide | omega) (by first | decide | omega)) F50 fun r51 h51 t51 Z51 F51 l51 R51 => ?_
              rw [square_full ev W1 H1 (by first | decide | omega)] at R51
              replace P46 := P46.up l51
              replace R49 := R49.up l51
              (repeat' tb_rel)
              refine eq_rows ok_law.units F51 R51 R49 ?_
              clear R51 R49 F50 l51
              (repeat' tb_rel)
              rw [show (W1 : Int) + 1 = ((W1 + 1 : Nat) : Int) by push_cast; rfl, show (H1 : Int) + 1 = ((H1 + 1 : Nat) : Int) by push_cast; rfl]
              refine Cal.use (raster (ev := ev) (W' := W1 + 1) (H' := H1 + 1) (ok_law.less (by first | decide | omega)) (W.up F51.le) F51.stay P46 (by show 1 ≤ 20; decide) (square_len _ _) (square_bnd (by first | decide | omega) (by first | decide | omega)) (by first | decide | omega) (by first | decide | omega)) F51 fun r52 h52 t52 Z52 F52 l52 R52 => ?_
              obtain ⟨vs52, T52, a52⟩ := R52
              have hl52 : vs52.length = H1 + 1 := by rw [a52.length, moved_len]
              have hx52 : vs52[0]? = some (vs52[0]'(by first | decide | omega)) := List.getElem?_eq_getElem _
              obtain ⟨r53, hr53, u53, e53⟩ := a52.get hx52
              rw [square_top ev W1 H1 (by first | decide | omega)] at hr53
              cases hr53
              rw [e53] at hx52
              (repeat' tb_rel)
              refine i_lz F52 T52 (by first | decide | omega) (by first | decide | omega) (by first | decide | omega) hx52 (fun _ => by with_unfolding_all rfl) ?_
              (repeat' tb_rel)
              refine mul_s (b := false) (n := W1 + 1) (by decide) (by push_cast; rfl) (by first | decide | omega) fun t54 k54 => ?_
              (repeat' tb_rel)
              exact hQe _ _ ⟨_, _, _, _, _, _, rfl, F52, by rw [decide_eq_true rfl]⟩
    · obtain ⟨h', t', Z', m', mu', tb, rfl, F', rfl⟩ := z
      refine ⟨goodW_bool ⟨F'.ns, F'.base, hab⟩ (by assumption) (raisesW_false ?_) ?_, ⟨tb, (F'.mus (288, tabObj tb) (.head _)).1⟩, trivial⟩
      · wrow_none_raised
      · wrow_post
end Og
theorem PySem.Challenge.cw_og0177_01_holds : PySem.Challenge.rw_og0177_01.Holds :=
  Og.holds

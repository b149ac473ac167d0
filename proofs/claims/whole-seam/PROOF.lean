import PyProof.Rows.All
import Wide.All
import OpenK.AllK
import Wide.FinOn
import HandS.ForMost
import HandS.Wide
import PySem.Challenge.RW_nearlands_k44_whole_seam_never_goes_down
import HandS.Deep
import HandS.IsInst
import HandS.More
import HandS.TupSets
import KE.SortData
import KE.SortKeyHeap
import HandS.SortInts
import HandS.Lambda
import HandS.Conv
import HandS.Sort
import HandS.TupLe
import Lean
import KE.KStateDown
import HandS.Head0
import HandS.Head1
import HandS.Head2
import HandS.HeadEnd
import HandS.HeadHook1
import HandS.HeadHook2
import HandS.HeadHook3
import HandS.HeadHook4
import HandS.EndTab
import HandS.HeadWalk
/-! The mathematics: lands of spots in a box, cut by cut; the seam. -/
set_option linter.all false
set_option maxHeartbeats 4000000
namespace SM
/-! ### points and lines -/
structure Pt where
  x : Int
  y : Int
  w : Int
deriving DecidableEq
structure Ln where
  a : Int
  b : Int
  c : Int
deriving DecidableEq
def hgt (l : Ln) (p : Pt) : Int := l.a * p.x + l.b * p.y - l.c * p.w
def dir (l : Ln) (p q : Pt) : Int := l.a * (q.y * p.w - p.y * q.w) - l.b * (q.x * p.w - p.x * q.w)
def crs (l m : Ln) : Int := l.a * m.b - l.b * m.a
def nrm (l : Ln) : Int := l.a * l.a + l.b * l.b
/-! ### signs -/
theorem pos_of {g u : Int} (hg : 0 < g) (h : 0 < g * u) : 0 < u := by
  rcases Int.lt_or_le 0 u with q | q
  · exact q
  · have := Int.mul_nonneg (Int.le_of_lt hg) (show 0 ≤ -u by omega)
    rw [Int.mul_neg] at this
    omega
theorem nonneg_of {g u : Int} (hg : 0 < g) (h : 0 ≤ g * u) : 0 ≤ u := by
  rcases Int.lt_or_le u 0 with q | q
  · have := Int.mul_pos hg (show 0 < -u by omega)
    rw [Int.mul_neg] at this
    omega
  · exact q
theorem neg_of {g u : Int} (hg : 0 < g) (h : g * u < 0) : u < 0 := by
  have := pos_of (u := -u) hg (by rw [Int.mul_neg]; omega)
  omega
theorem nonpos_of {g u : Int} (hg : 0 < g) (h : g * u ≤ 0) : u ≤ 0 := by
  have := nonneg_of (u := -u) hg (by rw [Int.mul_neg]; omega)
  omega
theorem zero_of {g u : Int} (hg : 0 < g) (h : g * u = 0) : u = 0 := by
  have h1 := nonpos_of hg (Int.le_of_eq h)
  have h2 := nonneg_of hg (Int.le_of_eq h.symm)
  omega
theorem mulnp {a b : Int} (ha : 0 ≤ a) (hb : b ≤ 0) : a * b ≤ 0 := by
  have := Int.mul_nonneg ha (show 0 ≤ -b by omega)
  rw [Int.mul_neg] at this
  omega
theorem muln {a b : Int} (ha : 0 < a) (hb : b < 0) : a * b < 0 := by
  have := Int.mul_pos ha (show 0 < -b by omega)
  rw [Int.mul_neg] at this
  omega
/-! ### identities -/
theorem id_key (e l : Ln) (p q : Pt) (h1 : hgt e p = 0) (h2 : hgt e q = 0) : nrm e * (hgt l q * p.w - hgt l p * q.w) = crs e l * dir e p q := by
  simp only [hgt, nrm, crs, dir] at *
  grind
theorem id_comb (e l : Ln) (p q a : Pt) (h1 : hgt e p = 0) (h2 : hgt e q = 0) (h3 : hgt e a = 0) : dir e p q * hgt l a = dir e a q * hgt l p + dir e p a * hgt l q := by
  simp only [hgt, nrm, crs, dir] at *
  grind
theorem id_tr (e : Ln) (p q r : Pt) : dir e p r * q.w = dir e p q * r.w + dir e q r * p.w := by
  simp only [dir]
  grind
theorem dir_self (e : Ln) (p : Pt) : dir e p p = 0 := by
  simp only [dir]
  grind
theorem dir_swap (e : Ln) (p q : Pt) : dir e q p = - dir e p q := by
  simp only [dir]
  grind
/-- p and q on e, none ahead: the same place -/
theorem same_place {e : Ln} {p q : Pt} (hn : 0 < nrm e) (h1 : hgt e p = 0) (h2 : hgt e q = 0) (hd : dir e p q = 0) : p.x * q.w = q.x * p.w ∧ p.y * q.w = q.y * p.w := by
  have e1 : nrm e * (p.x * q.w - q.x * p.w) = 0 := by
    simp only [hgt, nrm, crs, dir] at *
    grind
  have e2 : nrm e * (p.y * q.w - q.y * p.w) = 0 := by
    simp only [hgt, nrm, crs, dir] at *
    grind
  have := zero_of hn e1
  have := zero_of hn e2
  constructor <;> omega
theorem same_hgt {p q : Pt} (h1 : p.x * q.w = q.x * p.w) (h2 : p.y * q.w = q.y * p.w) (l : Ln) : hgt l p * q.w = hgt l q * p.w := by
  simp only [hgt] at *
  grind
/-! ### mixtures -/
structure Mix (g α : Int) (p : Pt) (β : Int) (q : Pt) (X : Pt) : Prop where
  x : g * X.x = α * p.x + β * q.x
  y : g * X.y = α * p.y + β * q.y
  w : g * X.w = α * p.w + β * q.w
theorem Mix.hgt {g α β : Int} {p q X : Pt} (m : Mix g α p β q X) (l : Ln) : g * hgt l X = α * hgt l p + β * hgt l q := by
  obtain ⟨h1, h2, h3⟩ := m
  simp only [SM.hgt] at *
  grind
theorem Mix.dirL {g α β : Int} {p q X : Pt} (m : Mix g α p β q X) (l : Ln) (a : Pt) : g * dir l X a = α * dir l p a + β * dir l q a := by
  obtain ⟨h1, h2, h3⟩ := m
  simp only [SM.dir] at *
  grind
theorem Mix.dirR {g α β : Int} {p q X : Pt} (m : Mix g α p β q X) (l : Ln) (a : Pt) : g * dir l a X = α * dir l a p + β * dir l a q := by
  obtain ⟨h1, h2, h3⟩ := m
  simp only [SM.dir] at *
  grind
/-! ### normal points -/
def Nrm (p : Pt) : Prop := 0 < p.w ∧ Int.gcd (Int.gcd p.x p.y) p.w = 1
theorem dvd_w {p q : Pt} (hp : Nrm p) (h1 : p.x * q.w = q.x * p.w) (h2 : p.y * q.w = q.y * p.w) : p.w ∣ q.w := by
  have d1 : p.w ∣ p.x * q.w := ⟨q.x, by rw [h1, Int.mul_comm]⟩
  have d2 : p.w ∣ p.y * q.w := ⟨q.y, by rw [h2, Int.mul_comm]⟩
  have d3 : p.w ∣ p.w * q.w := ⟨q.w, rfl⟩
  have e1 : (p.w.natAbs : Int) ∣ ((Int.gcd (Int.gcd (p.x * q.w) (p.y * q.w)) (p.w * q.w) : Nat) : Int) := by
    refine Int.natCast_dvd_natCast.mpr (Nat.dvd_gcd ?_ (Int.natAbs_dvd_natAbs.mpr d3))
    exact Nat.dvd_gcd (Int.natAbs_dvd_natAbs.mpr d1) (Int.natAbs_dvd_natAbs.mpr d2)
  have e2 : Int.gcd (Int.gcd (p.x * q.w) (p.y * q.w)) (p.w * q.w) = q.w.natAbs := by
    rw [Int.gcd_mul_right, Int.natCast_mul]
    have e3 : ((q.w.natAbs : Nat) : Int) = q.w ∨ ((q.w.natAbs : Nat) : Int) = - q.w := by omega
    rcases e3 with e3 | e3
    · rw [e3, Int.gcd_mul_right, hp.2, Nat.one_mul]
    · rw [e3, Int.mul_neg, Int.neg_gcd, Int.gcd_mul_right, hp.2, Nat.one_mul]
  rw [e2] at e1
  exact Int.dvd_natAbs.mp (Int.natAbs_dvd.mp e1)
theorem Nrm.eq {p q : Pt} (hp : Nrm p) (hq : Nrm q) (h1 : p.x * q.w = q.x * p.w) (h2 : p.y * q.w = q.y * p.w) : p = q := by
  have d1 := dvd_w hp h1 h2
  have d2 := dvd_w hq h1.symm h2.symm
  have ew : p.w = q.w := Int.dvd_antisymm (Int.le_of_lt hp.1) (Int.le_of_lt hq.1) d1 d2
  have hw := hp.1
  rw [← ew] at h1 h2
  have hne : p.w ≠ 0 := by omega
  have ex := Int.eq_of_mul_eq_mul_right hne h1
  have ey := Int.eq_of_mul_eq_mul_right hne h2
  cases p; cases q
  simp only at ex ey ew
  rw [ex, ey, ew]
/-! ### what the program reckons -/
def gcd3 (x y w : Int) : Int := Int.gcd (Int.gcd x y) w
def ptOf (x y w : Int) : Pt := ⟨x / gcd3 x y w, y / gcd3 x y w, w / gcd3 x y w⟩
def lnOf (a b c : Int) : Ln := ⟨a / gcd3 a b c, b / gcd3 a b c, c / gcd3 a b c⟩
theorem gcd3_dvd (x y w : Int) : gcd3 x y w ∣ x ∧ gcd3 x y w ∣ y ∧ gcd3 x y w ∣ w := by
  have h1 : gcd3 x y w ∣ ((Int.gcd x y : Nat) : Int) := Int.gcd_dvd_left _ _
  refine ⟨Int.dvd_trans h1 (Int.gcd_dvd_left _ _), Int.dvd_trans h1 (Int.gcd_dvd_right _ _), Int.gcd_dvd_right _ _⟩
theorem gcd3_pos {x y w : Int} (h : x ≠ 0 ∨ y ≠ 0 ∨ w ≠ 0) : 0 < gcd3 x y w := by
  have h0 : 0 ≤ gcd3 x y w := Int.natCast_nonneg _
  rcases Int.lt_or_le 0 (gcd3 x y w) with q | q
  · exact q
  · have e : gcd3 x y w = 0 := by omega
    obtain ⟨d1, d2, d3⟩ := gcd3_dvd x y w
    rw [e] at d1 d2 d3
    have := Int.zero_dvd.mp d1
    have := Int.zero_dvd.mp d2
    have := Int.zero_dvd.mp d3
    omega
theorem ptOf_mul (x y w : Int) : gcd3 x y w * (ptOf x y w).x = x ∧ gcd3 x y w * (ptOf x y w).y = y ∧ gcd3 x y w * (ptOf x y w).w = w := by
  obtain ⟨d1, d2, d3⟩ := gcd3_dvd x y w
  exact ⟨Int.mul_ediv_cancel' d1, Int.mul_ediv_cancel' d2, Int.mul_ediv_cancel' d3⟩
theorem lnOf_mul (x y w : Int) : gcd3 x y w * (lnOf x y w).a = x ∧ gcd3 x y w * (lnOf x y w).b = y ∧ gcd3 x y w * (lnOf x y w).c = w := by
  obtain ⟨d1, d2, d3⟩ := gcd3_dvd x y w
  exact ⟨Int.mul_ediv_cancel' d1, Int.mul_ediv_cancel' d2, Int.mul_ediv_cancel' d3⟩
theorem ptOf_nrm {x y w : Int} (hw : 0 < w) : Nrm (ptOf x y w) := by
  have hg := gcd3_pos (x := x) (y := y) (w := w) (.inr (.inr (by omega)))
  obtain ⟨h1, h2, h3⟩ := ptOf_mul x y w
  refine ⟨pos_of hg (by rw [h3]; exact hw), ?_⟩
  have e : gcd3 x y w = gcd3 x y w * (Int.gcd (Int.gcd (ptOf x y w).x (ptOf x y w).y) (ptOf x y w).w : Nat) := by
    generalize (ptOf x y w).x = X at *
    generalize (ptOf x y w).y = Y at *
    generalize (ptOf x y w).w = W at *
    have e0 : gcd3 x y w = ((Int.gcd (Int.gcd x y) w : Nat) : Int) := rfl
    generalize gcd3 x y w = g at *
    subst h1 h2 h3
    rw [Int.gcd_mul_left, Int.natCast_mul, Int.natAbs_of_nonneg (Int.le_of_lt hg), Int.gcd_mul_left, Int.natCast_mul, Int.natAbs_of_nonneg (Int.le_of_lt hg)] at e0
    exact e0
  have e2 : gcd3 x y w * ((Int.gcd (Int.gcd (ptOf x y w).x (ptOf x y w).y) (ptOf x y w).w : Nat) : Int) = gcd3 x y w * 1 := by
    rw [Int.mul_one]
    exact e.symm
  have e3 := Int.eq_of_mul_eq_mul_left (show gcd3 x y w ≠ 0 by omega) e2
  omega
def crossing (p q : Pt) (here there : Int) : Pt :=
  ptOf (p.x * (there.natAbs : Int) + q.x * (here.natAbs : Int)) (p.y * (there.natAbs : Int) + q.y * (here.natAbs : Int)) (p.w * (there.natAbs : Int) + q.w * (here.natAbs : Int))
theorem crossing_spec {p q : Pt} {here there : Int} (hp : 0 < p.w) (hq : 0 < q.w) (h0 : here ≠ 0) (h1 : there ≠ 0) :
    Nrm (crossing p q here there) ∧ ∃ g, 0 < g ∧ Mix g (there.natAbs : Int) p (here.natAbs : Int) q (crossing p q here there) := by
  have a : 0 < p.w * (there.natAbs : Int) := Int.mul_pos hp (by omega)
  have b : 0 < q.w * (here.natAbs : Int) := Int.mul_pos hq (by omega)
  have hw : 0 < p.w * (there.natAbs : Int) + q.w * (here.natAbs : Int) := by omega
  refine ⟨ptOf_nrm hw, gcd3 (p.x * (there.natAbs : Int) + q.x * (here.natAbs : Int)) (p.y * (there.natAbs : Int) + q.y * (here.natAbs : Int)) (p.w * (there.natAbs : Int) + q.w * (here.natAbs : Int)), gcd3_pos (.inr (.inr (by omega))), ⟨?_, ?_, ?_⟩⟩
  · rw [crossing, (ptOf_mul _ _ _).1, Int.mul_comm, Int.mul_comm q.x]
  · rw [crossing, (ptOf_mul _ _ _).2.1, Int.mul_comm, Int.mul_comm q.y]
  · rw [crossing, (ptOf_mul _ _ _).2.2, Int.mul_comm, Int.mul_comm q.w]
end SM
set_option linter.all false
set_option maxHeartbeats 4000000
namespace SM
/-! ### a field's rows and its edges -/
abbrev Row := Pt × Int
structure Tri where
  p : Pt
  e : Int
  q : Pt
deriving DecidableEq
def hd : List Row → Pt → Pt
  | [], z => z
  | (p, _) :: _, _ => p
def edg : List Row → Pt → List Tri
  | [], _ => []
  | (p, e) :: r, z => ⟨p, e, hd r z⟩ :: edg r z
def E (F : List Row) : List Tri := edg F (hd F ⟨0, 0, 1⟩)
theorem hd_app (A B : List Row) (z : Pt) : hd (A ++ B) z = hd A (hd B z) := by
  cases A with
  | nil => rfl
  | cons r A => obtain ⟨p, e⟩ := r; rfl
theorem edg_app : ∀ (A B : List Row) (z : Pt), edg (A ++ B) z = edg A (hd B z) ++ edg B z
  | [], B, z => rfl
  | (p, e) :: A, B, z => by
    show Tri.mk p e (hd (A ++ B) z) :: edg (A ++ B) z = Tri.mk p e (hd A (hd B z)) :: (edg A (hd B z) ++ edg B z)
    rw [hd_app, edg_app A B z]
theorem hd_ne {A : List Row} (h : A ≠ []) (y z : Pt) : hd A y = hd A z := by
  cases A with
  | nil => exact absurd rfl h
  | cons r A => obtain ⟨p, e⟩ := r; rfl
theorem E_app {A B : List Row} (hA : A ≠ []) (hB : B ≠ []) : E (A ++ B) = edg A (hd B ⟨0, 0, 1⟩) ++ edg B (hd A ⟨0, 0, 1⟩) := by
  unfold E
  rw [edg_app, hd_app, hd_ne hB _ ⟨0, 0, 1⟩, hd_ne hA _ ⟨0, 0, 1⟩]
theorem E_rot (A B : List Row) : (E (A ++ B)).Perm (E (B ++ A)) := by
  by_cases hA : A = []
  · subst hA
    rw [List.nil_append, List.append_nil]
  · by_cases hB : B = []
    · subst hB
      rw [List.nil_append, List.append_nil]
    · rw [E_app hA hB, E_app hB hA]
      exact List.perm_append_comm
theorem edg_rows : ∀ (L : List Row) (z : Pt), (edg L z).map (fun t => (t.p, t.e)) = L
  | [], _ => rfl
  | (p, e) :: r, z => by
    show (p, e) :: (edg r z).map (fun t => (t.p, t.e)) = (p, e) :: r
    rw [edg_rows r z]
theorem E_rows (F : List Row) : (E F).map (fun t => (t.p, t.e)) = F := edg_rows F _
theorem E_lab (F : List Row) : (E F).map (fun t => t.e) = F.map (·.2) := by
  have := congrArg (List.map (fun r : Row => r.2)) (E_rows F)
  rw [List.map_map] at this
  exact this
theorem mem_row_of {F : List Row} {t : Tri} (h : t ∈ E F) : (t.p, t.e) ∈ F := by
  have : (t.p, t.e) ∈ (E F).map (fun t => (t.p, t.e)) := List.mem_map.mpr ⟨t, h, rfl⟩
  rwa [E_rows] at this
theorem tri_of_row {F : List Row} {r : Row} (h : r ∈ F) : ∃ t ∈ E F, t.p = r.1 ∧ t.e = r.2 := by
  rw [← E_rows F] at h
  obtain ⟨t, ht, e⟩ := List.mem_map.mp h
  exact ⟨t, ht, by rw [← e], by rw [← e]⟩
theorem hd_mem {L : List Row} (h : L ≠ []) (z : Pt) : ∃ e, (hd L z, e) ∈ L := by
  cases L with
  | nil => exact absurd rfl h
  | cons r A => obtain ⟨p, e⟩ := r; exact ⟨e, List.mem_cons_self⟩
theorem edg_q : ∀ (L : List Row) (z : Pt) (t : Tri), t ∈ edg L z → t.q = z ∨ ∃ e, (t.q, e) ∈ L
  | [], _, t, h => absurd h (by simp [edg])
  | (p, e) :: r, z, t, h => by
    rcases List.mem_cons.mp h with h | h
    · subst h
      by_cases hr : r = []
      · subst hr
        exact .inl rfl
      · obtain ⟨e', h'⟩ := hd_mem hr z
        exact .inr ⟨e', List.mem_cons_of_mem _ h'⟩
    · rcases edg_q r z t h with q | ⟨e', q⟩
      · exact .inl q
      · exact .inr ⟨e', List.mem_cons_of_mem _ q⟩
theorem E_q {F : List Row} {t : Tri} (h : t ∈ E F) : ∃ e, (t.q, e) ∈ F := by
  rcases edg_q F _ t h with q | q
  · rw [q]
    refine hd_mem (fun c => ?_) _
    subst c
    simp [E, edg] at h
  · exact q
theorem edg_get : ∀ (L : List Row) (z : Pt) (k : Nat) (p : Pt) (e : Int), L[k]? = some (p, e) → (edg L z)[k]? = some ⟨p, e, hd (L.drop (k + 1)) z⟩
  | [], _, k, _, _, h => by simp at h
  | (p', e') :: r, z, 0, p, e, h => by
    simp at h
    obtain ⟨rfl, rfl⟩ := h
    rfl
  | (p', e') :: r, z, k + 1, p, e, h => by
    have h' : r[k]? = some (p, e) := by simpa using h
    have := edg_get r z k p e h'
    simpa [edg] using this
theorem edg_len : ∀ (L : List Row) (z : Pt), (edg L z).length = L.length
  | [], _ => rfl
  | (p, e) :: r, z => by simp [edg, edg_len r z]
/-- the edges by places, round -/
theorem E_get {F : List Row} {k : Nat} {r r' : Row} (h : F[k]? = some r) (h' : F[(k + 1) % F.length]? = some r') : (E F)[k]? = some ⟨r.1, r.2, r'.1⟩ := by
  have hk : k < F.length := (List.getElem?_eq_some_iff.mp h).1
  have e := edg_get F (hd F ⟨0, 0, 1⟩) k r.1 r.2 h
  unfold E
  rw [e]
  congr 2
  by_cases hl : k + 1 < F.length
  · rw [Nat.mod_eq_of_lt hl] at h'
    rw [List.drop_eq_getElem_cons hl]
    have : F[k + 1] = r' := by
      have := List.getElem?_eq_getElem hl
      rw [this] at h'
      exact Option.some.inj h'
    rw [this]
    obtain ⟨a, b⟩ := r'
    rfl
  · have e1 : k + 1 = F.length := by omega
    rw [e1, Nat.mod_self] at h'
    rw [e1, List.drop_length]
    cases F with
    | nil => simp at h'
    | cons r0 F =>
      have : r0 = r' := by simpa using h'
      subst this
      obtain ⟨a, b⟩ := r0
      rfl
/-! ### what a cut gives of an edge -/
section cut
variable (l : Ln) (m : Int)
def cutp (p q : Pt) : Pt := crossing p q (hgt l p) (hgt l q)
def em (t : Tri) : List Row :=
  (if hgt l t.p < 0 ∨ (hgt l t.p = 0 ∧ hgt l t.q < 0) then [(t.p, t.e)] else if hgt l t.p = 0 then [(t.p, m)] else []) ++
  (if hgt l t.p < 0 ∧ 0 < hgt l t.q then [(cutp l t.p t.q, m)] else if 0 < hgt l t.p ∧ hgt l t.q < 0 then [(cutp l t.p t.q, t.e)] else [])
def cutRows (F : List Row) : List Row := (E F).flatMap (em l m)
theorem cutRows_rot (A B : List Row) (hA : A ≠ []) (hB : B ≠ []) : ∃ C D, cutRows l m (A ++ B) = C ++ D ∧ cutRows l m (B ++ A) = D ++ C := by
  unfold cutRows
  rw [E_app hA hB, E_app hB hA, List.flatMap_append, List.flatMap_append]
  exact ⟨_, _, rfl, rfl⟩
/-- where the border leaves what is behind the line -/
def xo (p q : Pt) : Pt := if hgt l p = 0 then p else cutp l p q
/-- where it comes back -/
def xi (p q : Pt) : Pt := if hgt l q = 0 then q else cutp l p q
structure Exit (t : Tri) (X : Pt) : Prop where
  here : hgt l t.p ≤ 0
  there : 0 < hgt l t.q
  at_ : X = xo l t.p t.q
structure Entry (t : Tri) (X : Pt) : Prop where
  here : 0 < hgt l t.p
  there : hgt l t.q ≤ 0
  at_ : X = xi l t.p t.q
structure Kept (o t : Tri) : Prop where
  lab : t.e = o.e
  some_ : hgt l o.p < 0 ∨ hgt l o.q < 0
  p_ : t.p = if hgt l o.p ≤ 0 then o.p else cutp l o.p o.q
  q_ : t.q = if hgt l o.q ≤ 0 then o.q else cutp l o.p o.q
def Good (T0 : List Tri) (t : Tri) : Prop := (∃ o ∈ T0, Kept l o t) ∨ (t.e = m ∧ (∃ o ∈ T0, Exit l o t.p) ∧ ∃ o ∈ T0, Entry l o t.q)
theorem em_nn {t : Tri} (h1 : hgt l t.p < 0) (h2 : hgt l t.q ≤ 0) : em l m t = [(t.p, t.e)] := by
  unfold em
  rw [if_pos (.inl h1), if_neg (by omega), if_neg (by omega)]
  rfl
theorem em_np {t : Tri} (h1 : hgt l t.p < 0) (h2 : 0 < hgt l t.q) : em l m t = [(t.p, t.e), (cutp l t.p t.q, m)] := by
  unfold em
  rw [if_pos (.inl h1), if_pos ⟨h1, h2⟩]
  rfl
theorem em_zn {t : Tri} (h1 : hgt l t.p = 0) (h2 : hgt l t.q < 0) : em l m t = [(t.p, t.e)] := by
  unfold em
  rw [if_pos (.inr ⟨h1, h2⟩), if_neg (by omega), if_neg (by omega)]
  rfl
theorem em_zp {t : Tri} (h1 : hgt l t.p = 0) (h2 : 0 ≤ hgt l t.q) : em l m t = [(t.p, m)] := by
  unfold em
  rw [if_neg (by omega), if_pos h1, if_neg (by omega), if_neg (by omega)]
  rfl
theorem em_pp {t : Tri} (h1 : 0 < hgt l t.p) (h2 : 0 ≤ hgt l t.q) : em l m t = [] := by
  unfold em
  rw [if_neg (by omega), if_neg (by omega), if_neg (by omega), if_neg (by omega)]
  rfl
theorem em_pn {t : Tri} (h1 : 0 < hgt l t.p) (h2 : hgt l t.q < 0) : em l m t = [(cutp l t.p t.q, t.e)] := by
  unfold em
  rw [if_neg (by omega), if_neg (by omega), if_neg (by omega), if_pos ⟨h1, h2⟩]
  rfl
/-- inside: begun at a point that isn't before the line; outside: begun before it, having left at X -/
theorem path (T0 : List Tri) : ∀ (L : List Row) (z : Pt), hgt l z < 0 → (∀ t ∈ edg L z, t ∈ T0) → (∀ t ∈ edg L z, ¬ (hgt l t.p = 0 ∧ hgt l t.q = 0)) →
    (hgt l (hd L z) ≤ 0 → hd ((edg L z).flatMap (em l m)) z = hd L z ∧ ∀ t ∈ edg ((edg L z).flatMap (em l m)) z, Good l m T0 t) ∧
    (0 < hgt l (hd L z) → ∀ X, (∃ o ∈ T0, Exit l o X) → ∀ t ∈ edg ((X, m) :: (edg L z).flatMap (em l m)) z, Good l m T0 t)
  | [], z, hz, _, _ => by
    refine ⟨fun _ => ⟨rfl, fun t h => absurd h (by simp [edg])⟩, fun h => ?_⟩
    have : hgt l z > 0 := h
    omega
  | (p, e) :: r, z, hz, hT, hno => by
    have ih := path T0 r z hz (fun t h => hT t (List.mem_cons_of_mem _ h)) (fun t h => hno t (List.mem_cons_of_mem _ h))
    have t0 : (⟨p, e, hd r z⟩ : Tri) ∈ T0 := hT _ List.mem_cons_self
    have n0 := hno ⟨p, e, hd r z⟩ List.mem_cons_self
    show (hgt l p ≤ 0 → hd ((em l m ⟨p, e, hd r z⟩) ++ (edg r z).flatMap (em l m)) z = p ∧ ∀ t ∈ edg ((em l m ⟨p, e, hd r z⟩) ++ (edg r z).flatMap (em l m)) z, Good l m T0 t) ∧
      (0 < hgt l p → ∀ X, (∃ o ∈ T0, Exit l o X) → ∀ t ∈ edg ((X, m) :: ((em l m ⟨p, e, hd r z⟩) ++ (edg r z).flatMap (em l m))) z, Good l m T0 t)
    generalize hq : hd r z = q at *
    have kq := id hq
    refine ⟨fun hp => ?_, fun hp X hX => ?_⟩
    · rcases Int.lt_or_le (hgt l p) 0 with h1 | h1
      · rcases Int.lt_or_le 0 (hgt l q) with h2 | h2
        · rw [em_np (t := ⟨p, e, q⟩) l m h1 h2]
          refine ⟨rfl, fun t ht => ?_⟩
          have ht' : t ∈ (⟨p, e, cutp l p q⟩ : Tri) :: edg ((cutp l p q, m) :: (edg r z).flatMap (em l m)) z := ht
          rcases List.mem_cons.mp ht' with c | c
          · subst c
            exact .inl ⟨_, t0, rfl, .inl h1, (if_pos hp).symm, (if_neg (by show ¬ hgt l q ≤ 0; omega)).symm⟩
          · exact ih.2 h2 _ ⟨_, t0, hp, h2, (if_neg (by show ¬ hgt l p = 0; omega)).symm⟩ t c
        · rw [em_nn (t := ⟨p, e, q⟩) l m h1 h2]
          refine ⟨rfl, fun t ht => ?_⟩
          have ht' : t ∈ (⟨p, e, hd ((edg r z).flatMap (em l m)) z⟩ : Tri) :: edg ((edg r z).flatMap (em l m)) z := ht
          rw [(ih.1 h2).1] at ht'
          rcases List.mem_cons.mp ht' with c | c
          · subst c
            exact .inl ⟨_, t0, rfl, .inl h1, (if_pos hp).symm, (if_pos h2).symm⟩
          · exact (ih.1 h2).2 t c
      · have h0 : hgt l p = 0 := by omega
        rcases Int.lt_or_le (hgt l q) 0 with h2 | h2
        · rw [em_zn (t := ⟨p, e, q⟩) l m h0 h2]
          refine ⟨rfl, fun t ht => ?_⟩
          have ht' : t ∈ (⟨p, e, hd ((edg r z).flatMap (em l m)) z⟩ : Tri) :: edg ((edg r z).flatMap (em l m)) z := ht
          have h3 : hgt l q ≤ 0 := by omega
          rw [(ih.1 h3).1] at ht'
          rcases List.mem_cons.mp ht' with c | c
          · subst c
            exact .inl ⟨_, t0, rfl, .inr h2, (if_pos hp).symm, (if_pos h3).symm⟩
          · exact (ih.1 h3).2 t c
        · rw [em_zp (t := ⟨p, e, q⟩) l m h0 h2]
          have h3 : 0 < hgt l q := by
            have : ¬ hgt l q = 0 := fun c => n0 ⟨h0, c⟩
            omega
          refine ⟨rfl, fun t ht => ?_⟩
          exact ih.2 h3 _ ⟨_, t0, hp, h3, (if_pos h0).symm⟩ t ht
    · rcases Int.lt_or_le (hgt l q) 0 with h2 | h2
      · rw [em_pn (t := ⟨p, e, q⟩) l m hp h2]
        intro t ht
        have h3 : hgt l q ≤ 0 := by omega
        have ht' : t ∈ (⟨X, m, cutp l p q⟩ : Tri) :: (⟨cutp l p q, e, hd ((edg r z).flatMap (em l m)) z⟩ : Tri) :: edg ((edg r z).flatMap (em l m)) z := ht
        rw [(ih.1 h3).1] at ht'
        rcases List.mem_cons.mp ht' with c | c
        · subst c
          exact .inr ⟨rfl, hX, ⟨_, t0, hp, h3, (if_neg (by show ¬ hgt l q = 0; omega)).symm⟩⟩
        · rcases List.mem_cons.mp c with c | c
          · subst c
            exact .inl ⟨_, t0, rfl, .inr h2, (if_neg (by show ¬ hgt l p ≤ 0; omega)).symm, (if_pos h3).symm⟩
          · exact (ih.1 h3).2 t c
      · rw [em_pp (t := ⟨p, e, q⟩) l m hp h2]
        rcases Int.lt_or_le 0 (hgt l q) with h3 | h3
        · exact ih.2 h3 X hX
        · have h0 : hgt l q = 0 := by omega
          intro t ht
          have ht' : t ∈ (⟨X, m, hd ((edg r z).flatMap (em l m)) z⟩ : Tri) :: edg ((edg r z).flatMap (em l m)) z := ht
          rw [(ih.1 h3).1] at ht'
          rcases List.mem_cons.mp ht' with c | c
          · subst c
            exact .inr ⟨rfl, hX, ⟨_, t0, hp, h3, (if_pos h0).symm⟩⟩
          · exact (ih.1 h3).2 t c
theorem good_all {F : List Row} (hz : hgt l (hd F ⟨0, 0, 1⟩) < 0) (hno : ∀ t ∈ E F, ¬ (hgt l t.p = 0 ∧ hgt l t.q = 0)) : ∀ t ∈ E (cutRows l m F), Good l m (E F) t := by
  intro t ht
  have q := (path l m (E F) F (hd F ⟨0, 0, 1⟩) hz (fun t h => h) hno).1 (by
    cases F with
    | nil => exact Int.le_of_lt hz
    | cons r F => obtain ⟨p, e⟩ := r; exact Int.le_of_lt hz)
  refine q.2 t ?_
  unfold E at ht
  have e1 : cutRows l m F = (edg F (hd F ⟨0, 0, 1⟩)).flatMap (em l m) := rfl
  rw [e1] at ht
  by_cases hne : (edg F (hd F ⟨0, 0, 1⟩)).flatMap (em l m) = []
  · rw [hne] at ht
    simp [edg] at ht
  · rw [hd_ne hne _ (hd F ⟨0, 0, 1⟩), q.1] at ht
    have e2 : hd F (hd F ⟨0, 0, 1⟩) = hd F ⟨0, 0, 1⟩ := by
      cases F with
      | nil => rfl
      | cons r F => obtain ⟨p, e⟩ := r; rfl
    rw [e2] at ht
    exact ht
/-- there is a way out, if there is a corner behind and one before -/
theorem exit_of : ∀ (L : List Row) (z : Pt), hgt l z < 0 → hgt l (hd L z) ≤ 0 → (∃ r ∈ L, 0 < hgt l r.1) → ∃ t ∈ edg L z, hgt l t.p ≤ 0 ∧ 0 < hgt l t.q
  | [], z, _, _, h => by
    obtain ⟨r, h, _⟩ := h
    simp at h
  | (p, e) :: r, z, hz, hp, ⟨s, hs, h⟩ => by
    rcases List.mem_cons.mp hs with c | c
    · subst c
      have : hgt l p ≤ 0 := hp
      have : 0 < hgt l p := h
      omega
    · rcases Int.lt_or_le 0 (hgt l (hd r z)) with q | q
      · exact ⟨⟨p, e, hd r z⟩, List.mem_cons_self, hp, q⟩
      · obtain ⟨t, ht, h'⟩ := exit_of r z hz q ⟨s, c, h⟩
        exact ⟨t, List.mem_cons_of_mem _ ht, h'⟩
end cut
end SM
set_option linter.all false
set_option maxHeartbeats 4000000
namespace SM
/-! ### the region, and what a field is of it -/
def RD (ln : Int → Ln) (D : List Int) (p : Pt) : Prop := 0 < p.w ∧ ∀ d ∈ D, hgt (ln d) p ≤ 0
structure Inv (ln : Int → Ln) (D : List Int) (F : List Row) : Prop where
  ne : F ≠ []
  lab : ∀ r ∈ F, r.2 ∈ D
  reg : ∀ r ∈ F, RD ln D r.1
  on1 : ∀ t ∈ E F, hgt (ln t.e) t.p = 0
  on2 : ∀ t ∈ E F, hgt (ln t.e) t.q = 0
  fwd : ∀ t ∈ E F, 0 < dir (ln t.e) t.p t.q
  seg : ∀ t ∈ E F, ∀ A, RD ln D A → hgt (ln t.e) A = 0 → 0 ≤ dir (ln t.e) t.p A ∧ 0 ≤ dir (ln t.e) A t.q
  nod : (F.map (·.2)).Nodup
  gen : ∀ e ∈ D, ∀ A : Pt, 0 < A.w → hgt (ln e) A = 0 → (∀ d ∈ D, d ≠ e → hgt (ln d) A < 0) → e ∈ F.map (·.2)
  ext : ∀ L : Ln, (∀ r ∈ F, hgt L r.1 ≤ 0) → ∀ A, RD ln D A → hgt L A ≤ 0
  nrmd : ∀ r ∈ F, Nrm r.1
  vert : ∀ r ∈ F, ∃ d1 ∈ D, ∃ d2 ∈ D, hgt (ln d1) r.1 = 0 ∧ hgt (ln d2) r.1 = 0 ∧ crs (ln d1) (ln d2) ≠ 0
structure Sys (ln : Int → Ln) (All : List Int) (z : Pt) : Prop where
  nz : ∀ d ∈ All, 0 < nrm (ln d)
  dist : ∀ d1 ∈ All, ∀ d2 ∈ All, d1 ≠ d2 → ∀ P Q : Pt, 0 < P.w → 0 < Q.w → hgt (ln d1) P = 0 → hgt (ln d1) Q = 0 → hgt (ln d2) P = 0 → hgt (ln d2) Q = 0 → dir (ln d1) P Q = 0
  zw : 0 < z.w
  zin : ∀ d ∈ All, hgt (ln d) z < 0
theorem crs_swap (a b : Ln) : crs b a = - crs a b := by
  simp only [crs]
  grind
section
variable {ln : Int → Ln} {D : List Int} {F : List Row}
theorem Inv.rp (I : Inv ln D F) {t : Tri} (h : t ∈ E F) : RD ln D t.p := I.reg _ (mem_row_of h)
theorem Inv.rq (I : Inv ln D F) {t : Tri} (h : t ∈ E F) : RD ln D t.q := by
  obtain ⟨e, he⟩ := E_q h
  exact I.reg _ he
theorem Inv.np (I : Inv ln D F) {t : Tri} (h : t ∈ E F) : Nrm t.p := I.nrmd _ (mem_row_of h)
theorem Inv.nq (I : Inv ln D F) {t : Tri} (h : t ∈ E F) : Nrm t.q := by
  obtain ⟨e, he⟩ := E_q h
  exact I.nrmd _ he
theorem Inv.el (I : Inv ln D F) {t : Tri} (h : t ∈ E F) : t.e ∈ D := I.lab _ (mem_row_of h)
/-- a field begun at another corner -/
theorem Inv.rot {A B : List Row} (I : Inv ln D (A ++ B)) : Inv ln D (B ++ A) := by
  have hE : ∀ t, t ∈ E (B ++ A) → t ∈ E (A ++ B) := fun t h => (E_rot A B).mem_iff.mpr h
  have hF : ∀ r : Row, r ∈ B ++ A → r ∈ A ++ B := fun r h => List.perm_append_comm.mem_iff.mp h
  have hF' : ∀ r : Row, r ∈ A ++ B → r ∈ B ++ A := fun r h => List.perm_append_comm.mem_iff.mp h
  have pm : ((A ++ B).map (·.2)).Perm ((B ++ A).map (·.2)) := List.perm_append_comm.map _
  refine ⟨fun c => ?_, fun r h => I.lab r (hF r h), fun r h => I.reg r (hF r h), fun t h => I.on1 t (hE t h), fun t h => I.on2 t (hE t h), fun t h => I.fwd t (hE t h), fun t h => I.seg t (hE t h), pm.nodup_iff.mp I.nod, fun e he A hA h1 h2 => pm.mem_iff.mp (I.gen e he A hA h1 h2), fun L h => I.ext L fun r hr => h r (hF' r hr), fun r h => I.nrmd r (hF r h), fun r h => I.vert r (hF r h)⟩
  obtain ⟨c1, c2⟩ := List.append_eq_nil_iff.mp c
  exact I.ne (by rw [c1, c2] <;> rfl)
/-- points of a mixture -/
theorem RD.mix (ln : Int → Ln) (D : List Int) {g α β : Int} {p q X : Pt} (hg : 0 < g) (ha : 0 ≤ α) (hb : 0 ≤ β) (hX : 0 < X.w) (m : Mix g α p β q X) (hp : RD ln D p) (hq : RD ln D q) : RD ln D X := by
  refine ⟨hX, fun d hd => nonpos_of hg ?_⟩
  rw [m.hgt]
  have := mulnp ha (hp.2 d hd)
  have := mulnp hb (hq.2 d hd)
  omega
structure CutPt (ln : Int → Ln) (D : List Int) (m : Int) (o : Tri) (X : Pt) : Prop where
  nrm : Nrm X
  rd : RD ln D X
  one : hgt (ln o.e) X = 0
  onm : hgt (ln m) X = 0
theorem exit_mix {l : Ln} {o : Tri} {X : Pt} (hp : Nrm o.p) (hq : Nrm o.q) (h : Exit l o X) : Nrm X ∧ ∃ g, 0 < g ∧ Mix g (hgt l o.q) o.p (-(hgt l o.p)) o.q X := by
  obtain ⟨h1, h2, rfl⟩ := h
  unfold xo
  by_cases e : hgt l o.p = 0
  · rw [if_pos e, e]
    refine ⟨hp, hgt l o.q, h2, ?_, ?_, ?_⟩ <;> omega
  · rw [if_neg e]
    obtain ⟨a, g, hg, mx⟩ := crossing_spec hp.1 hq.1 (here := hgt l o.p) (there := hgt l o.q) e (by omega)
    have e1 : ((hgt l o.q).natAbs : Int) = hgt l o.q := by omega
    have e2 : ((hgt l o.p).natAbs : Int) = -(hgt l o.p) := by omega
    rw [e1, e2] at mx
    exact ⟨a, g, hg, mx⟩
theorem entry_mix {l : Ln} {o : Tri} {X : Pt} (hp : Nrm o.p) (hq : Nrm o.q) (h : Entry l o X) : Nrm X ∧ ∃ g, 0 < g ∧ Mix g (-(hgt l o.q)) o.p (hgt l o.p) o.q X := by
  obtain ⟨h1, h2, rfl⟩ := h
  unfold xi
  by_cases e : hgt l o.q = 0
  · rw [if_pos e, e]
    refine ⟨hq, hgt l o.p, h1, ?_, ?_, ?_⟩ <;> omega
  · rw [if_neg e]
    obtain ⟨a, g, hg, mx⟩ := crossing_spec hp.1 hq.1 (here := hgt l o.p) (there := hgt l o.q) (by omega) e
    have e1 : ((hgt l o.q).natAbs : Int) = -(hgt l o.q) := by omega
    have e2 : ((hgt l o.p).natAbs : Int) = hgt l o.p := by omega
    rw [e1, e2] at mx
    exact ⟨a, g, hg, mx⟩
variable {m : Int}
theorem Inv.exitPt (I : Inv ln D F) {o : Tri} (ho : o ∈ E F) {X : Pt} (h : Exit (ln m) o X) : CutPt ln D m o X := by
  obtain ⟨a, g, hg, mx⟩ := exit_mix (I.np ho) (I.nq ho) h
  refine ⟨a, RD.mix ln D hg (Int.le_of_lt h.there) (by have := h.here; omega) a.1 mx (I.rp ho) (I.rq ho), zero_of hg ?_, zero_of hg ?_⟩
  · rw [mx.hgt, I.on1 o ho, I.on2 o ho]
    omega
  · rw [mx.hgt]
    grind
theorem Inv.entryPt (I : Inv ln D F) {o : Tri} (ho : o ∈ E F) {X : Pt} (h : Entry (ln m) o X) : CutPt ln D m o X := by
  obtain ⟨a, g, hg, mx⟩ := entry_mix (I.np ho) (I.nq ho) h
  refine ⟨a, RD.mix ln D hg (by have := h.there; omega) (Int.le_of_lt h.here) a.1 mx (I.rp ho) (I.rq ho), zero_of hg ?_, zero_of hg ?_⟩
  · rw [mx.hgt, I.on1 o ho, I.on2 o ho]
    omega
  · rw [mx.hgt]
    grind
theorem CutPt.rd' {o : Tri} {X : Pt} (c : CutPt ln D m o X) : RD ln (m :: D) X := by
  refine ⟨c.rd.1, fun d hd => ?_⟩
  rcases List.mem_cons.mp hd with e | e
  · rw [e, c.onm]
    exact Int.le_refl 0
  · exact c.rd.2 d e
section sys
variable {All : List Int} {z : Pt} (S : Sys ln All z) (hD : ∀ d ∈ D, d ∈ All) (hm : m ∈ All)
include S hD hm
theorem exit_crs (I : Inv ln D F) {o : Tri} (ho : o ∈ E F) (h1 : hgt (ln m) o.p ≤ 0) (h2 : 0 < hgt (ln m) o.q) : 0 < crs (ln o.e) (ln m) := by
  have k := id_key (ln o.e) (ln m) o.p o.q (I.on1 o ho) (I.on2 o ho)
  have a := Int.mul_pos h2 (I.rp ho).1
  have b := mulnp (Int.le_of_lt (I.rq ho).1) h1
  have c := Int.mul_pos (S.nz o.e (hD _ (I.el ho))) (show 0 < hgt (ln m) o.q * o.p.w - hgt (ln m) o.p * o.q.w by rw [Int.mul_comm (hgt (ln m) o.p)]; omega)
  rw [k, Int.mul_comm] at c
  exact pos_of (I.fwd o ho) c
theorem entry_crs (I : Inv ln D F) {o : Tri} (ho : o ∈ E F) (h1 : 0 < hgt (ln m) o.p) (h2 : hgt (ln m) o.q ≤ 0) : crs (ln o.e) (ln m) < 0 := by
  have k := id_key (ln o.e) (ln m) o.p o.q (I.on1 o ho) (I.on2 o ho)
  have a := Int.mul_pos h1 (I.rq ho).1
  have b := mulnp (Int.le_of_lt (I.rp ho).1) h2
  have c := muln (S.nz o.e (hD _ (I.el ho))) (show hgt (ln m) o.q * o.p.w - hgt (ln m) o.p * o.q.w < 0 by rw [Int.mul_comm (hgt (ln m) o.q)]; omega)
  rw [k, Int.mul_comm] at c
  exact neg_of (I.fwd o ho) c
/-- on the line m all that is behind the edge that leaves lies ahead of where it leaves -/
theorem exit_ord (I : Inv ln D F) {o : Tri} (ho : o ∈ E F) {X A : Pt} (h : Exit (ln m) o X) (hA : 0 < A.w) (hm0 : hgt (ln m) A = 0) (he : hgt (ln o.e) A ≤ 0) :
    0 ≤ dir (ln m) X A ∧ (hgt (ln o.e) A < 0 → 0 < dir (ln m) X A) := by
  have c := exit_crs S hD hm I ho h.here h.there
  have P := I.exitPt ho h
  have k := id_key (ln m) (ln o.e) X A P.onm hm0
  rw [P.one, crs_swap (ln o.e)] at k
  have hn := S.nz m hm
  refine ⟨nonneg_of c ?_, fun he => pos_of c ?_⟩
  · have := mulnp (Int.le_of_lt hn) (mulnp (Int.le_of_lt P.rd.1) he)
    grind
  · have := muln hn (muln P.rd.1 he)
    grind
theorem entry_ord (I : Inv ln D F) {o : Tri} (ho : o ∈ E F) {X A : Pt} (h : Entry (ln m) o X) (hA : 0 < A.w) (hm0 : hgt (ln m) A = 0) (he : hgt (ln o.e) A ≤ 0) :
    0 ≤ dir (ln m) A X ∧ (hgt (ln o.e) A < 0 → 0 < dir (ln m) A X) := by
  have c := entry_crs S hD hm I ho h.here h.there
  have P := I.entryPt ho h
  have k := id_key (ln m) (ln o.e) A X hm0 P.onm
  rw [P.one, crs_swap (ln o.e)] at k
  have hn := S.nz m hm
  have c' : 0 < - crs (ln o.e) (ln m) := by omega
  refine ⟨nonneg_of c' ?_, fun he => pos_of c' ?_⟩
  · have := mulnp (Int.le_of_lt hn) (mulnp (Int.le_of_lt P.rd.1) he)
    grind
  · have := muln hn (muln P.rd.1 he)
    grind
theorem inner (I : Inv ln D F) {q : Pt} (hq : RD ln D q) (h : 0 < hgt (ln m) q) : ∃ Y : Pt, 0 < Y.w ∧ hgt (ln m) Y = 0 ∧ ∀ d ∈ D, hgt (ln d) Y < 0 := by
  have hz := S.zin m hm
  let Y : Pt := ⟨hgt (ln m) q * z.x + -(hgt (ln m) z) * q.x, hgt (ln m) q * z.y + -(hgt (ln m) z) * q.y, hgt (ln m) q * z.w + -(hgt (ln m) z) * q.w⟩
  have mx : Mix 1 (hgt (ln m) q) z (-(hgt (ln m) z)) q Y := ⟨Int.one_mul _, Int.one_mul _, Int.one_mul _⟩
  refine ⟨Y, ?_, ?_, fun d hd => ?_⟩
  · have := Int.mul_pos h S.zw
    have := Int.mul_pos (show 0 < -(hgt (ln m) z) by omega) hq.1
    show 0 < hgt (ln m) q * z.w + -(hgt (ln m) z) * q.w
    omega
  · have k := mx.hgt (ln m)
    grind
  · have k := mx.hgt (ln d)
    have := muln h (S.zin d (hD d hd))
    have := mulnp (show 0 ≤ -(hgt (ln m) z) by omega) (hq.2 d hd)
    omega
theorem two_exits (I : Inv ln D F) {o1 o2 : Tri} (h1 : o1 ∈ E F) (h2 : o2 ∈ E F) (hne : o1.e ≠ o2.e) (a1 : hgt (ln m) o1.p ≤ 0) (b1 : 0 < hgt (ln m) o1.q) (a2 : hgt (ln m) o2.p ≤ 0) (b2 : 0 < hgt (ln m) o2.q) : False := by
  have x1 : Exit (ln m) o1 (xo (ln m) o1.p o1.q) := ⟨a1, b1, rfl⟩
  have x2 : Exit (ln m) o2 (xo (ln m) o2.p o2.q) := ⟨a2, b2, rfl⟩
  generalize xo (ln m) o1.p o1.q = X1 at x1
  generalize xo (ln m) o2.p o2.q = X2 at x2
  have P1 := I.exitPt h1 x1
  have P2 := I.exitPt h2 x2
  have d12 := (exit_ord S hD hm I h1 x1 P2.rd.1 P2.onm (P2.rd.2 _ (I.el h1))).1
  have d21 := (exit_ord S hD hm I h2 x2 P1.rd.1 P1.onm (P1.rd.2 _ (I.el h2))).1
  rw [dir_swap (ln m) X1] at d21
  have d0 : dir (ln m) X1 X2 = 0 := by omega
  obtain ⟨s1, s2⟩ := same_place (S.nz m hm) P1.onm P2.onm d0
  have e : X1 = X2 := P1.nrm.eq P2.nrm s1 s2
  subst e
  obtain ⟨_, g1, hg1, m1⟩ := exit_mix (I.np h1) (I.nq h1) x1
  obtain ⟨_, g2, hg2, m2⟩ := exit_mix (I.np h2) (I.nq h2) x2
  have f1 : 0 < dir (ln o1.e) X1 o1.q := pos_of hg1 (by
    rw [m1.dirL, dir_self]
    have := Int.mul_pos b1 (I.fwd o1 h1)
    omega)
  have f2 : 0 < dir (ln o2.e) X1 o2.q := pos_of hg2 (by
    rw [m2.dirL, dir_self]
    have := Int.mul_pos b2 (I.fwd o2 h2)
    omega)
  have k1 := id_key (ln o1.e) (ln o2.e) X1 o1.q P1.one (I.on2 o1 h1)
  have k2 := id_key (ln o2.e) (ln o1.e) X1 o2.q P2.one (I.on2 o2 h2)
  rw [P2.one] at k1
  rw [P1.one, crs_swap (ln o1.e)] at k2
  have n1 := mulnp (Int.le_of_lt (S.nz o1.e (hD _ (I.el h1)))) (mulnp (Int.le_of_lt P1.rd.1) ((I.rq h1).2 _ (I.el h2)))
  have n2 := mulnp (Int.le_of_lt (S.nz o2.e (hD _ (I.el h2)))) (mulnp (Int.le_of_lt P1.rd.1) ((I.rq h2).2 _ (I.el h1)))
  have c1 : crs (ln o1.e) (ln o2.e) ≤ 0 := nonpos_of f1 (by grind)
  have c2 : - crs (ln o1.e) (ln o2.e) ≤ 0 := nonpos_of f2 (by grind)
  have c0 : crs (ln o1.e) (ln o2.e) = 0 := by omega
  rw [c0] at k1
  have z1 : hgt (ln o2.e) o1.q * X1.w - 0 * o1.q.w = 0 := zero_of (S.nz o1.e (hD _ (I.el h1))) (by rw [k1]; omega)
  have z2 : hgt (ln o2.e) o1.q = 0 := zero_of P1.rd.1 (by rw [Int.mul_comm]; omega)
  have := S.dist _ (hD _ (I.el h1)) _ (hD _ (I.el h2)) hne X1 o1.q P1.rd.1 (I.rq h1).1 P1.one (I.on2 o1 h1) P2.one z2
  omega
/-- no edge lies along the line, where a corner lies before it or behind it -/
theorem no_along (I : Inv ln D F) (hmD : m ∉ D) : ∀ t ∈ E F, ¬ (hgt (ln m) t.p = 0 ∧ hgt (ln m) t.q = 0) := by
  rintro t ht ⟨h1, h2⟩
  have hne : t.e ≠ m := fun c => hmD (c ▸ I.el ht)
  have := S.dist _ (hD _ (I.el ht)) _ hm hne t.p t.q (I.rp ht).1 (I.rq ht).1 (I.on1 t ht) (I.on2 t ht) h1 h2
  have := I.fwd t ht
  omega
/-- some corner lies behind the line -/
theorem some_behind (I : Inv ln D F) : ∃ r ∈ F, hgt (ln m) r.1 < 0 := by
  apply Classical.byContradiction
  intro c
  have h : ∀ r ∈ F, hgt ⟨-(ln m).a, -(ln m).b, -(ln m).c⟩ r.1 ≤ 0 := fun r hr => by
    have : ¬ hgt (ln m) r.1 < 0 := fun q => c ⟨r, hr, q⟩
    simp only [hgt] at *
    rw [Int.neg_mul, Int.neg_mul, Int.neg_mul]
    omega
  have k := I.ext _ h z ⟨S.zw, fun d hd => Int.le_of_lt (S.zin d (hD d hd))⟩
  have := S.zin m hm
  simp only [hgt] at *
  rw [Int.neg_mul, Int.neg_mul, Int.neg_mul] at k
  omega
end sys
end
end SM
set_option linter.all false
set_option maxHeartbeats 4000000
namespace SM
section
variable {ln : Int → Ln} {D : List Int} {F : List Row} {m : Int} {All : List Int} {z : Pt}
/-- a bound for finitely many numbers -/
theorem big_of (f : Int → Int) : ∀ D : List Int, ∃ N : Int, 0 < N ∧ ∀ d ∈ D, f d < N
  | [] => ⟨1, by decide, fun d h => absurd h (by simp)⟩
  | a :: D => by
    obtain ⟨N, h0, h⟩ := big_of f D
    refine ⟨N + (f a).natAbs + 1, by omega, fun d hd => ?_⟩
    rcases List.mem_cons.mp hd with e | e
    · rw [e]
      omega
    · have := h d e
      omega
/-- the line has the whole field behind it: the same field -/
theorem Inv.keep (S : Sys ln All z) (hD : ∀ d ∈ D, d ∈ All) (hm : m ∈ All) (I : Inv ln D F) (hmD : m ∉ D) (hb : ∀ r ∈ F, hgt (ln m) r.1 ≤ 0) : Inv ln (m :: D) F := by
  have sub : ∀ A, RD ln (m :: D) A → RD ln D A := fun A h => ⟨h.1, fun d hd => h.2 d (List.mem_cons_of_mem _ hd)⟩
  refine ⟨I.ne, fun r h => List.mem_cons_of_mem _ (I.lab r h), fun r h => ⟨(I.reg r h).1, fun d hd => ?_⟩, I.on1, I.on2, I.fwd, fun t ht A hA h => I.seg t ht A (sub A hA) h, I.nod, fun e he A hA h1 h2 => ?_, fun L h A hA => I.ext L h A (sub A hA), I.nrmd, fun r h => ?_⟩
  · rcases List.mem_cons.mp hd with e | e
    · rw [e]
      exact hb r h
    · exact (I.reg r h).2 d e
  · rcases List.mem_cons.mp he with c | c
    · subst c
      exfalso
      obtain ⟨N, n0, hN⟩ := big_of (fun d => (ln e).a * (ln d).a + (ln e).b * (ln d).b) D
      have k := I.ext (ln e) hb ⟨N * A.x + (ln e).a, N * A.y + (ln e).b, N * A.w⟩ ⟨Int.mul_pos n0 hA, fun d hd => ?_⟩
      · have := S.nz e hm
        have q : hgt (ln e) ⟨N * A.x + (ln e).a, N * A.y + (ln e).b, N * A.w⟩ = N * hgt (ln e) A + nrm (ln e) := by
          simp only [hgt, nrm]
          grind
        rw [q, h1] at k
        omega
      · have h3 := h2 d (List.mem_cons_of_mem _ hd) (fun q => hmD (q ▸ hd))
        have h4 := hN d hd
        have h5 := Int.mul_le_mul_of_nonneg_left (show hgt (ln d) A ≤ -1 by omega) (Int.le_of_lt n0)
        have q : hgt (ln d) ⟨N * A.x + (ln e).a, N * A.y + (ln e).b, N * A.w⟩ = N * hgt (ln d) A + ((ln e).a * (ln d).a + (ln e).b * (ln d).b) := by
          simp only [hgt]
          grind
        rw [q]
        have h4' : (ln e).a * (ln d).a + (ln e).b * (ln d).b < N := h4
        omega
    · exact I.gen e c A hA h1 fun d hd hne => h2 d (List.mem_cons_of_mem _ hd) hne
  · obtain ⟨d1, h1, d2, h2, k⟩ := I.vert r h
    exact ⟨d1, List.mem_cons_of_mem _ h1, d2, List.mem_cons_of_mem _ h2, k⟩
theorem Kept.ends {l : Ln} {o t : Tri} (k : Kept l o t) : ((t.p = o.p ∧ hgt l o.p ≤ 0) ∨ Entry l o t.p) ∧ ((t.q = o.q ∧ hgt l o.q ≤ 0) ∨ Exit l o t.q) := by
  obtain ⟨k1, k2, k3, k4⟩ := k
  constructor
  · by_cases h : hgt l o.p ≤ 0
    · rw [if_pos h] at k3
      exact .inl ⟨k3, h⟩
    · rw [if_neg h] at k3
      refine .inr ⟨by omega, by omega, ?_⟩
      rw [k3, xi, if_neg (by omega)]
  · by_cases h : hgt l o.q ≤ 0
    · rw [if_pos h] at k4
      exact .inl ⟨k4, h⟩
    · rw [if_neg h] at k4
      refine .inr ⟨by omega, by omega, ?_⟩
      rw [k4, xo, if_neg (by omega)]
theorem em_mem {l : Ln} {t : Tri} {r : Row} (h : r ∈ em l m t) : r.2 = t.e ∨ (r.2 = m ∧ hgt l t.p ≤ 0 ∧ (0 < hgt l t.q ∨ (hgt l t.p = 0 ∧ hgt l t.q = 0))) := by
  unfold em at h
  rcases List.mem_append.mp h with h | h
  · split at h
    · simp at h
      exact .inl (by rw [h])
    · split at h
      · simp at h
        refine .inr ⟨by rw [h], by omega, by omega⟩
      · simp at h
  · split at h
    · simp at h
      exact .inr ⟨by rw [h], by omega, by omega⟩
    · split at h
      · simp at h
        exact .inl (by rw [h])
      · simp at h
theorem em_exit {l : Ln} {t : Tri} (h1 : hgt l t.p ≤ 0) (h2 : 0 < hgt l t.q) : ∃ r ∈ em l m t, r.2 = m := by
  rcases Int.lt_or_le (hgt l t.p) 0 with h | h
  · rw [em_np l m h h2]
    exact ⟨_, List.mem_cons_of_mem _ List.mem_cons_self, rfl⟩
  · rw [em_zp l m (by omega) (by omega)]
    exact ⟨_, List.mem_cons_self, rfl⟩
theorem em_keeps {l : Ln} {t : Tri} (h : hgt l t.p < 0 ∨ hgt l t.q < 0) : ∃ r ∈ em l m t, r.2 = t.e := by
  rcases Int.lt_or_le (hgt l t.p) 0 with h1 | h1
  · rcases Int.lt_or_le 0 (hgt l t.q) with h2 | h2
    · rw [em_np l m h1 h2]
      exact ⟨_, List.mem_cons_self, rfl⟩
    · rw [em_nn l m h1 h2]
      exact ⟨_, List.mem_cons_self, rfl⟩
  · have h2 : hgt l t.q < 0 := by omega
    by_cases h0 : hgt l t.p = 0
    · rw [em_zn l m h0 h2]
      exact ⟨_, List.mem_cons_self, rfl⟩
    · rw [em_pn l m (by omega) h2]
      exact ⟨_, List.mem_cons_self, rfl⟩
theorem em_corner {l : Ln} {t : Tri} (h : hgt l t.p ≤ 0) : ∃ r ∈ em l m t, r.1 = t.p := by
  unfold em
  by_cases h1 : hgt l t.p < 0 ∨ (hgt l t.p = 0 ∧ hgt l t.q < 0)
  · rw [if_pos h1]
    exact ⟨_, List.mem_append_left _ List.mem_cons_self, rfl⟩
  · rw [if_neg h1, if_pos (by omega)]
    exact ⟨_, List.mem_append_left _ List.mem_cons_self, rfl⟩
theorem em_nodup {l : Ln} {t : Tri} (h : t.e ≠ m) : ((em l m t).map (·.2)).Nodup := by
  rcases Int.lt_or_le (hgt l t.p) 0 with h1 | h1
  · rcases Int.lt_or_le 0 (hgt l t.q) with h2 | h2
    · rw [em_np l m h1 h2]
      simp [h]
    · rw [em_nn l m h1 h2]
      simp
  · by_cases h0 : hgt l t.p = 0
    · rcases Int.lt_or_le (hgt l t.q) 0 with h2 | h2
      · rw [em_zn l m h0 h2]
        simp
      · rw [em_zp l m h0 h2]
        simp
    · rcases Int.lt_or_le (hgt l t.q) 0 with h2 | h2
      · rw [em_pn l m (by omega) h2]
        simp
      · rw [em_pp l m (by omega) h2]
        simp
/-- the rows of a cut, the field begun behind the line -/
theorem Inv.cut0 (S : Sys ln All z) (hD : ∀ d ∈ D, d ∈ All) (hm : m ∈ All) (I : Inv ln D F) (hmD : m ∉ D) (hz : hgt (ln m) (hd F ⟨0, 0, 1⟩) < 0) (hp : ∃ r ∈ F, 0 < hgt (ln m) r.1) : Inv ln (m :: D) (cutRows (ln m) m F) := by
  have no := no_along S hD hm I hmD
  have G := good_all (ln m) m hz no
  have sub : ∀ A, RD ln (m :: D) A → RD ln D A := fun A h => ⟨h.1, fun d hd => h.2 d (List.mem_cons_of_mem _ hd)⟩
  have cons_rd : ∀ A, RD ln D A → hgt (ln m) A ≤ 0 → RD ln (m :: D) A := fun A h h' => ⟨h.1, fun d hd => by
    rcases List.mem_cons.mp hd with e | e
    · rw [e]
      exact h'
    · exact h.2 d e⟩
  obtain ⟨x0, hx0, hx1, hx2⟩ : ∃ t ∈ E F, hgt (ln m) t.p ≤ 0 ∧ 0 < hgt (ln m) t.q := by
    refine exit_of (ln m) F (hd F ⟨0, 0, 1⟩) hz ?_ hp
    rw [hd_ne I.ne _ ⟨0, 0, 1⟩]
    exact Int.le_of_lt hz
  have labm : m ∈ (cutRows (ln m) m F).map (·.2) := by
    obtain ⟨r, hr, e⟩ := em_exit (m := m) hx1 hx2
    exact List.mem_map.mpr ⟨r, List.mem_flatMap.mpr ⟨x0, hx0, hr⟩, e⟩
  obtain ⟨Y, y0, y1, y2⟩ := inner S hD hm I (I.rq hx0) hx2
  -- the two kinds of new edges
  have kp : ∀ o ∈ E F, ∀ t, Kept (ln m) o t → RD ln (m :: D) t.p ∧ RD ln (m :: D) t.q ∧ hgt (ln o.e) t.p = 0 ∧ hgt (ln o.e) t.q = 0 ∧ Nrm t.p ∧ (∃ d1 ∈ m :: D, ∃ d2 ∈ m :: D, hgt (ln d1) t.p = 0 ∧ hgt (ln d2) t.p = 0 ∧ crs (ln d1) (ln d2) ≠ 0) := by
    intro o ho t k
    obtain ⟨kp, kq⟩ := k.ends
    have P : RD ln (m :: D) t.p ∧ hgt (ln o.e) t.p = 0 ∧ Nrm t.p ∧ (∃ d1 ∈ m :: D, ∃ d2 ∈ m :: D, hgt (ln d1) t.p = 0 ∧ hgt (ln d2) t.p = 0 ∧ crs (ln d1) (ln d2) ≠ 0) := by
      rcases kp with ⟨e, h⟩ | h
      · rw [e]
        obtain ⟨d1, h1, d2, h2, h3⟩ := I.vert _ (mem_row_of ho)
        exact ⟨cons_rd _ (I.rp ho) h, I.on1 o ho, I.np ho, d1, List.mem_cons_of_mem _ h1, d2, List.mem_cons_of_mem _ h2, h3⟩
      · have c := I.entryPt ho h
        have q := entry_crs S hD hm I ho h.here h.there
        exact ⟨c.rd', c.one, c.nrm, o.e, List.mem_cons_of_mem _ (I.el ho), m, List.mem_cons_self, c.one, c.onm, by omega⟩
    have Q : RD ln (m :: D) t.q ∧ hgt (ln o.e) t.q = 0 := by
      rcases kq with ⟨e, h⟩ | h
      · rw [e]
        exact ⟨cons_rd _ (I.rq ho) h, I.on2 o ho⟩
      · have c := I.exitPt ho h
        exact ⟨c.rd', c.one⟩
    exact ⟨P.1, Q.1, P.2.1, Q.2, P.2.2.1, P.2.2.2⟩
  have seg' : ∀ t ∈ E (cutRows (ln m) m F), ∀ A, RD ln (m :: D) A → hgt (ln t.e) A = 0 → 0 ≤ dir (ln t.e) t.p A ∧ 0 ≤ dir (ln t.e) A t.q := by
    intro t ht A hA h
    rcases G t ht with ⟨o, ho, k⟩ | ⟨e, ⟨o1, h1, x1⟩, o2, h2, x2⟩
    · obtain ⟨kp', kq'⟩ := k.ends
      rw [k.lab] at h ⊢
      have sg := I.seg o ho A (sub A hA) h
      have hAm := hA.2 m List.mem_cons_self
      constructor
      · rcases kp' with ⟨e, _⟩ | x
        · rw [e]
          exact sg.1
        · have c := I.entryPt ho x
          have q := entry_crs S hD hm I ho x.here x.there
          have k2 := id_key (ln o.e) (ln m) t.p A c.one h
          rw [c.onm] at k2
          have := mulnp (Int.le_of_lt (S.nz o.e (hD _ (I.el ho)))) (mulnp (Int.le_of_lt c.rd.1) hAm)
          exact nonneg_of (show 0 < - crs (ln o.e) (ln m) by omega) (by grind)
      · rcases kq' with ⟨e, _⟩ | x
        · rw [e]
          exact sg.2
        · have c := I.exitPt ho x
          have q := exit_crs S hD hm I ho x.here x.there
          have k2 := id_key (ln o.e) (ln m) A t.q h c.one
          rw [c.onm] at k2
          have := mulnp (Int.le_of_lt (S.nz o.e (hD _ (I.el ho)))) (mulnp (Int.le_of_lt c.rd.1) hAm)
          exact nonneg_of q (by grind)
    · rw [e] at h ⊢
      exact ⟨(exit_ord S hD hm I h1 x1 hA.1 h (hA.2 _ (List.mem_cons_of_mem _ (I.el h1)))).1, (entry_ord S hD hm I h2 x2 hA.1 h (hA.2 _ (List.mem_cons_of_mem _ (I.el h2)))).1⟩
  have fwd' : ∀ t ∈ E (cutRows (ln m) m F), 0 < dir (ln t.e) t.p t.q := by
    intro t ht
    rcases G t ht with ⟨o, ho, k⟩ | ⟨e, ⟨o1, h1, x1⟩, o2, h2, x2⟩
    · obtain ⟨kp', kq'⟩ := k.ends
      rw [k.lab]
      have f := I.fwd o ho
      rcases kp' with ⟨e, hp1⟩ | x
      · rcases kq' with ⟨e', _⟩ | y
        · rw [e, e']
          exact f
        · obtain ⟨_, g, hg, mx⟩ := exit_mix (I.np ho) (I.nq ho) y
          rw [e]
          refine pos_of hg ?_
          rw [mx.dirR, dir_self]
          have hs := k.some_
          have := y.there
          have := Int.mul_pos (show 0 < -(hgt (ln m) o.p) by omega) f
          omega
      · rcases kq' with ⟨e', _⟩ | y
        · obtain ⟨_, g, hg, mx⟩ := entry_mix (I.np ho) (I.nq ho) x
          rw [e']
          refine pos_of hg ?_
          rw [mx.dirL, dir_self]
          have hs := k.some_
          have := x.here
          have := Int.mul_pos (show 0 < -(hgt (ln m) o.q) by omega) f
          omega
        · have := x.here
          have := y.here
          omega
    · rw [e]
      have a := (exit_ord S hD hm I h1 x1 y0 y1 (Int.le_of_lt (y2 _ (I.el h1)))).2 (y2 _ (I.el h1))
      have b := (entry_ord S hD hm I h2 x2 y0 y1 (Int.le_of_lt (y2 _ (I.el h2)))).2 (y2 _ (I.el h2))
      have c := id_tr (ln m) t.p Y t.q
      have d1 := Int.mul_pos a (I.entryPt h2 x2).rd.1
      have d2 := Int.mul_pos b (I.exitPt h1 x1).rd.1
      refine pos_of y0 ?_
      rw [Int.mul_comm, c]
      omega
  have on' : ∀ t ∈ E (cutRows (ln m) m F), hgt (ln t.e) t.p = 0 ∧ hgt (ln t.e) t.q = 0 ∧ RD ln (m :: D) t.p ∧ Nrm t.p ∧ (∃ d1 ∈ m :: D, ∃ d2 ∈ m :: D, hgt (ln d1) t.p = 0 ∧ hgt (ln d2) t.p = 0 ∧ crs (ln d1) (ln d2) ≠ 0) ∧ t.e ∈ m :: D := by
    intro t ht
    rcases G t ht with ⟨o, ho, k⟩ | ⟨e, ⟨o1, h1, x1⟩, o2, h2, x2⟩
    · obtain ⟨a, b, c, d, e, f⟩ := kp o ho t k
      rw [k.lab]
      exact ⟨c, d, a, e, f, List.mem_cons_of_mem _ (I.el ho)⟩
    · have c1 := I.exitPt h1 x1
      have c2 := I.entryPt h2 x2
      have q := exit_crs S hD hm I h1 x1.here x1.there
      rw [e]
      exact ⟨c1.onm, c2.onm, c1.rd', c1.nrm, ⟨o1.e, List.mem_cons_of_mem _ (I.el h1), m, List.mem_cons_self, c1.one, c1.onm, by omega⟩, List.mem_cons_self⟩
  have row' : ∀ r ∈ cutRows (ln m) m F, ∃ t ∈ E (cutRows (ln m) m F), t.p = r.1 ∧ t.e = r.2 := fun r h => tri_of_row h
  refine ⟨fun c => ?_, fun r h => ?_, fun r h => ?_, fun t h => (on' t h).1, fun t h => (on' t h).2.1, fwd', seg', ?_, fun e he A hA h1 h2 => ?_, fun L hL A hA => ?_, fun r h => ?_, fun r h => ?_⟩
  · rw [c] at labm
    simp at labm
  · obtain ⟨t, ht, e1, e2⟩ := row' r h
    rw [← e2]
    exact (on' t ht).2.2.2.2.2
  · obtain ⟨t, ht, e1, e2⟩ := row' r h
    rw [← e1]
    exact (on' t ht).2.2.1
  · unfold cutRows
    rw [List.map_flatMap]
    refine List.pairwise_flatMap.mpr ⟨fun t ht => em_nodup fun c => hmD (c ▸ I.el ht), ?_⟩
    have nd : (E F).Pairwise fun a b => a.e ≠ b.e := by
      have := I.nod
      rw [← E_lab] at this
      exact List.pairwise_map.mp this
    refine nd.imp_of_mem fun {a b} ha hb hne x hx y hy => ?_
    obtain ⟨r1, hr1, rfl⟩ := List.mem_map.mp hx
    obtain ⟨r2, hr2, rfl⟩ := List.mem_map.mp hy
    have am : a.e ≠ m := fun c => hmD (c ▸ I.el ha)
    have bm : b.e ≠ m := fun c => hmD (c ▸ I.el hb)
    rcases em_mem hr1 with q1 | ⟨q1, p1, p1'⟩
    · rcases em_mem hr2 with q2 | ⟨q2, p2, p2'⟩
      · rw [q1, q2]
        exact hne
      · rw [q1, q2]
        exact am
    · rcases em_mem hr2 with q2 | ⟨q2, p2, p2'⟩
      · rw [q1, q2]
        exact fun c => bm c.symm
      · exfalso
        have n1 := no a ha
        have n2 := no b hb
        exact two_exits S hD hm I ha hb hne p1 (by rcases p1' with h | h; exact h; exact absurd h n1) p2 (by rcases p2' with h | h; exact h; exact absurd h n2)
  · by_cases c : e = m
    · rw [c]
      exact labm
    · have he' : e ∈ D := by
        rcases List.mem_cons.mp he with q | q
        · exact absurd q c
        · exact q
      have hAm : hgt (ln m) A < 0 := h2 m List.mem_cons_self fun q => c q.symm
      have ol := I.gen e he' A hA h1 fun d hd hne => h2 d (List.mem_cons_of_mem _ hd) hne
      rw [← E_lab] at ol
      obtain ⟨o, ho, e1⟩ := List.mem_map.mp ol
      have e1 : o.e = e := e1
      subst e1
      have hAD : RD ln D A := ⟨hA, fun d hd => by
        by_cases q : d = o.e
        · rw [q, h1]
          exact Int.le_refl 0
        · exact Int.le_of_lt (h2 d (List.mem_cons_of_mem _ hd) q)⟩
      have sg := I.seg o ho A hAD h1
      have k := id_comb (ln o.e) (ln m) o.p o.q A (I.on1 o ho) (I.on2 o ho) h1
      have f := muln (I.fwd o ho) hAm
      have hs : hgt (ln m) o.p < 0 ∨ hgt (ln m) o.q < 0 := by
        rcases Int.lt_or_le (hgt (ln m) o.p) 0 with q | q
        · exact .inl q
        · rcases Int.lt_or_le (hgt (ln m) o.q) 0 with q' | q'
          · exact .inr q'
          · have := Int.mul_nonneg sg.2 q
            have := Int.mul_nonneg sg.1 q'
            omega
      obtain ⟨r, hr, er⟩ := em_keeps (m := m) hs
      exact List.mem_map.mpr ⟨r, List.mem_flatMap.mpr ⟨o, ho, hr⟩, er⟩
  · -- ext
    apply Classical.byContradiction
    intro hc
    have hLA : 0 < hgt L A := by omega
    have ex : ∃ r ∈ F, 0 < hgt L r.1 := by
      apply Classical.byContradiction
      intro c
      have := I.ext L (fun r hr => by
        have : ¬ 0 < hgt L r.1 := fun q => c ⟨r, hr, q⟩
        omega) A (sub A hA)
      omega
    obtain ⟨r, hr, hLr⟩ := ex
    obtain ⟨t, ht, e1, e2⟩ := tri_of_row hr
    rcases Int.lt_or_le 0 (hgt (ln m) r.1) with q | q
    · obtain ⟨t', ht', et'⟩ : ∃ t' ∈ E (cutRows (ln m) m F), t'.e = m := by
        rw [← E_lab] at labm
        obtain ⟨t', h, e⟩ := List.mem_map.mp labm
        exact ⟨t', h, e⟩
      have hAm := hA.2 m List.mem_cons_self
      have hrD := I.reg r hr
      let X : Pt := ⟨hgt (ln m) r.1 * A.x + -(hgt (ln m) A) * r.1.x, hgt (ln m) r.1 * A.y + -(hgt (ln m) A) * r.1.y, hgt (ln m) r.1 * A.w + -(hgt (ln m) A) * r.1.w⟩
      have mx : Mix 1 (hgt (ln m) r.1) A (-(hgt (ln m) A)) r.1 X := ⟨Int.one_mul _, Int.one_mul _, Int.one_mul _⟩
      have hXw : 0 < X.w := by
        have := Int.mul_pos q hA.1
        have := Int.mul_nonneg (show 0 ≤ -(hgt (ln m) A) by omega) (Int.le_of_lt hrD.1)
        show 0 < hgt (ln m) r.1 * A.w + -(hgt (ln m) A) * r.1.w
        omega
      have hXm : hgt (ln m) X = 0 := by
        have k := mx.hgt (ln m)
        grind
      have hXD : RD ln D X := RD.mix ln D (by decide) (Int.le_of_lt q) (by omega) hXw mx (sub A hA) hrD
      have hXL : 0 < hgt L X := by
        have k := mx.hgt L
        have := Int.mul_pos q hLA
        have := Int.mul_nonneg (show 0 ≤ -(hgt (ln m) A) by omega) (Int.le_of_lt hLr)
        omega
      have o' := on' t' ht'
      have sg := seg' t' ht' X (cons_rd X hXD (Int.le_of_eq hXm)) (by rw [et']; exact hXm)
      have k := id_comb (ln t'.e) L t'.p t'.q X o'.1 o'.2.1 (by rw [et']; exact hXm)
      have f := Int.mul_pos (fwd' t' ht') hXL
      have w1 : hgt L t'.p ≤ 0 := hL _ (mem_row_of ht')
      obtain ⟨e', he'⟩ := E_q ht'
      have w2 : hgt L t'.q ≤ 0 := hL _ he'
      have := mulnp sg.2 w1
      have := mulnp sg.1 w2
      omega
    · rw [← e1] at q hLr
      obtain ⟨s, hs, es⟩ := em_corner (m := m) q
      have := hL s (List.mem_flatMap.mpr ⟨t, ht, hs⟩)
      rw [es] at this
      omega
  · obtain ⟨t, ht, e1, e2⟩ := row' r h
    rw [← e1]
    exact (on' t ht).2.2.2.1
  · obtain ⟨t, ht, e1, e2⟩ := row' r h
    rw [← e1]
    exact (on' t ht).2.2.2.2.1
/-- the rows of a cut, begun anywhere -/
theorem Inv.cut (S : Sys ln All z) (hD : ∀ d ∈ D, d ∈ All) (hm : m ∈ All) (I : Inv ln D F) (hmD : m ∉ D) (hp : ∃ r ∈ F, 0 < hgt (ln m) r.1) : Inv ln (m :: D) (cutRows (ln m) m F) := by
  obtain ⟨r, hr, hn⟩ := some_behind S hD hm I
  obtain ⟨A, B, rfl⟩ := List.append_of_mem hr
  by_cases hA : A = []
  · subst hA
    refine I.cut0 S hD hm hmD ?_ hp
    obtain ⟨a, b⟩ := r
    exact hn
  · have hB : (r :: B) ≠ [] := by simp
    have I' : Inv ln (m :: D) (cutRows (ln m) m ((r :: B) ++ A)) := by
      refine I.rot.cut0 S hD hm hmD ?_ ?_
      · obtain ⟨a, b⟩ := r
        exact hn
      · obtain ⟨s, hs, h⟩ := hp
        exact ⟨s, List.perm_append_comm.mem_iff.mp hs, h⟩
    obtain ⟨C, C', e1, e2⟩ := cutRows_rot (ln m) m A (r :: B) hA hB
    rw [e2] at I'
    rw [e1]
    exact I'.rot
end
end SM
set_option linter.all false
set_option maxHeartbeats 4000000
namespace SM
/-! ### a box and its spots -/
structure Wd where
  x : Int
  y : Int
  u : Int
  v : Int
  s : List (Int × Int)
abbrev CB : Nat := 90
structure Wd.Ok (W : Wd) : Prop where
  xu : W.x < W.u
  yv : W.y < W.v
  two : 2 ≤ W.s.length
  most : W.s.length ≤ 12
  nod : W.s.Nodup
  inb : ∀ p ∈ W.s, W.x ≤ p.1 ∧ p.1 ≤ W.u ∧ W.y ≤ p.2 ∧ p.2 ≤ W.v
  bx : W.x.natAbs < 2 ^ CB
  by_ : W.y.natAbs < 2 ^ CB
  bu : W.u.natAbs < 2 ^ CB
  bv : W.v.natAbs < 2 ^ CB
def Wd.sp (W : Wd) (d : Int) : Int × Int := W.s.getD d.toNat (0, 0)
def btw (s t : Int × Int) : Ln := lnOf (2 * (t.1 - s.1)) (2 * (t.2 - s.2)) (t.1 * t.1 + t.2 * t.2 - s.1 * s.1 - s.2 * s.2)
def Wd.side (W : Wd) (d : Int) : Ln := if d = -1 then ⟨0, -1, -W.y⟩ else if d = -2 then ⟨1, 0, W.u⟩ else if d = -3 then ⟨0, 1, W.v⟩ else ⟨-1, 0, -W.x⟩
def Wd.ln (W : Wd) (i : Nat) (d : Int) : Ln := if d < 0 then W.side d else btw (W.sp i) (W.sp d)
def sides : List Int := [-1, -2, -3, -4]
def Dk (i : Nat) : Nat → List Int
  | 0 => sides
  | k + 1 => if k = i then Dk i k else (k : Int) :: Dk i k
theorem mem_Dk {i : Nat} {d : Int} : ∀ {k : Nat}, d ∈ Dk i k ↔ d ∈ sides ∨ ∃ j : Nat, j < k ∧ j ≠ i ∧ d = (j : Int)
  | 0 => by
    constructor
    · exact fun h => .inl h
    · rintro (h | ⟨j, h, _⟩)
      · exact h
      · omega
  | k + 1 => by
    have ih := @mem_Dk i d k
    show d ∈ (if k = i then Dk i k else (k : Int) :: Dk i k) ↔ _
    by_cases e : k = i
    · rw [if_pos e, ih]
      constructor
      · rintro (h | ⟨j, h1, h2, h3⟩)
        · exact .inl h
        · exact .inr ⟨j, by omega, h2, h3⟩
      · rintro (h | ⟨j, h1, h2, h3⟩)
        · exact .inl h
        · exact .inr ⟨j, by omega, h2, h3⟩
    · rw [if_neg e, List.mem_cons, ih]
      constructor
      · rintro (h | h | ⟨j, h1, h2, h3⟩)
        · exact .inr ⟨k, by omega, e, h⟩
        · exact .inl h
        · exact .inr ⟨j, by omega, h2, h3⟩
      · rintro (h | ⟨j, h1, h2, h3⟩)
        · exact .inr (.inl h)
        · by_cases q : j = k
          · exact .inl (by rw [h3, q])
          · exact .inr (.inr ⟨j, by omega, h2, h3⟩)
theorem mem_sides {d : Int} : d ∈ sides ↔ d = -1 ∨ d = -2 ∨ d = -3 ∨ d = -4 := by simp [sides]
theorem neg_sides {d : Int} (h : d ∈ sides) : d < 0 := by
  rw [mem_sides] at h
  omega
theorem Dk_new {i k : Nat} : (k : Int) ∉ Dk i k := fun h => by
  rcases mem_Dk.mp h with h | ⟨j, h1, h2, h3⟩
  · have := neg_sides h
    omega
  · omega
theorem Dk_sub {i k n : Nat} (h : k ≤ n) : ∀ d ∈ Dk i k, d ∈ Dk i n := fun d hd => by
  rcases mem_Dk.mp hd with h' | ⟨j, h1, h2, h3⟩
  · exact mem_Dk.mpr (.inl h')
  · exact mem_Dk.mpr (.inr ⟨j, by omega, h2, h3⟩)
/-! ### the measure of a point by a spot, less what all have in common -/
def dlt (s : Int × Int) (A : Pt) : Int := A.w * (s.1 * s.1 + s.2 * s.2) - 2 * (A.x * s.1 + A.y * s.2)
def btg (s t : Int × Int) : Int := gcd3 (2 * (t.1 - s.1)) (2 * (t.2 - s.2)) (t.1 * t.1 + t.2 * t.2 - s.1 * s.1 - s.2 * s.2)
theorem btw_mul (s t : Int × Int) : btg s t * (btw s t).a = 2 * (t.1 - s.1) ∧ btg s t * (btw s t).b = 2 * (t.2 - s.2) ∧ btg s t * (btw s t).c = t.1 * t.1 + t.2 * t.2 - s.1 * s.1 - s.2 * s.2 := lnOf_mul _ _ _
theorem btg_pos {s t : Int × Int} (h : s ≠ t) : 0 < btg s t := by
  refine gcd3_pos ?_
  by_cases h1 : s.1 = t.1
  · by_cases h2 : s.2 = t.2
    · exact absurd (Prod.ext h1 h2) h
    · right; left; omega
  · left; omega
theorem btw_hgt (s t : Int × Int) (A : Pt) : btg s t * hgt (btw s t) A = dlt s A - dlt t A := by
  obtain ⟨h1, h2, h3⟩ := btw_mul s t
  simp only [hgt, dlt]
  generalize (btw s t).a = a at *
  generalize (btw s t).b = b at *
  generalize (btw s t).c = c at *
  generalize btg s t = g at *
  grind
theorem btw_dir (s t : Int × Int) (P Q : Pt) : btg s t * dir (btw s t) P Q = 2 * (t.1 - s.1) * (Q.y * P.w - P.y * Q.w) - 2 * (t.2 - s.2) * (Q.x * P.w - P.x * Q.w) := by
  obtain ⟨h1, h2, h3⟩ := btw_mul s t
  simp only [dir]
  generalize (btw s t).a = a at *
  generalize (btw s t).b = b at *
  generalize (btw s t).c = c at *
  generalize btg s t = g at *
  grind
theorem hgt_le {s t : Int × Int} (h : s ≠ t) (A : Pt) : hgt (btw s t) A ≤ 0 ↔ dlt s A ≤ dlt t A := by
  have g := btg_pos h
  have k := btw_hgt s t A
  constructor
  · intro q
    have := mulnp (Int.le_of_lt g) q
    omega
  · intro q
    exact nonpos_of g (by omega)
theorem hgt_lt {s t : Int × Int} (h : s ≠ t) (A : Pt) : hgt (btw s t) A < 0 ↔ dlt s A < dlt t A := by
  have g := btg_pos h
  have k := btw_hgt s t A
  constructor
  · intro q
    have := muln g q
    omega
  · intro q
    exact neg_of g (by omega)
theorem hgt_eq {s t : Int × Int} (h : s ≠ t) (A : Pt) : hgt (btw s t) A = 0 ↔ dlt s A = dlt t A := by
  have g := btg_pos h
  have k := btw_hgt s t A
  constructor
  · intro q
    rw [q] at k
    omega
  · intro q
    exact zero_of g (by omega)
theorem btw_nz {s t : Int × Int} (h : s ≠ t) : 0 < nrm (btw s t) := by
  have g := btg_pos h
  obtain ⟨h1, h2, _⟩ := btw_mul s t
  have sq : ∀ z : Int, 0 ≤ z * z := fun z => by
    rcases Int.lt_or_le z 0 with q | q
    · have := Int.mul_pos (show 0 < -z by omega) (show 0 < -z by omega)
      rw [Int.neg_mul_neg] at this
      omega
    · exact Int.mul_nonneg q q
  have sq' : ∀ z : Int, z ≠ 0 → 0 < z * z := fun z h => by
    rcases Int.lt_or_le z 0 with q | q
    · have := Int.mul_pos (show 0 < -z by omega) (show 0 < -z by omega)
      rw [Int.neg_mul_neg] at this
      omega
    · exact Int.mul_pos (by omega) (by omega)
  unfold nrm
  have a := sq (btw s t).a
  have b := sq (btw s t).b
  by_cases h3 : s.1 = t.1
  · have h4 : s.2 ≠ t.2 := fun c => h (Prod.ext h3 c)
    have : (btw s t).b ≠ 0 := fun c => by
      rw [c] at h2
      omega
    have := sq' _ this
    omega
  · have : (btw s t).a ≠ 0 := fun c => by
      rw [c] at h1
      omega
    have := sq' _ this
    omega
theorem sq_nonneg (z : Int) : 0 ≤ z * z := by
  rcases Int.lt_or_le z 0 with q | q
  · have := Int.mul_pos (show 0 < -z by omega) (show 0 < -z by omega)
    rw [Int.neg_mul_neg] at this
    omega
  · exact Int.mul_nonneg q q
theorem sq_zero {z : Int} (h : z * z ≤ 0) : z = 0 := by
  have := sq_nonneg z
  rcases Int.mul_eq_zero.mp (show z * z = 0 by omega) with h | h <;> exact h
theorem sq2_pos {a b : Int} (h : ¬ (a = 0 ∧ b = 0)) : 0 < a * a + b * b := by
  rcases Int.lt_or_le 0 (a * a + b * b) with q | q
  · exact q
  · have h1 := sq_nonneg a
    have h2 := sq_nonneg b
    exact absurd ⟨sq_zero (by omega), sq_zero (by omega)⟩ h
theorem mul_cancel_pos {g a b : Int} (hg : 0 < g) (h : g * a = g * b) : a = b := by
  have := zero_of (g := g) (u := a - b) hg (by rw [Int.mul_sub]; omega)
  omega
theorem par_same {X Y w a b c d : Int} (hw : 0 < w) (x1 : 2 * (X * a + Y * b) = w * (a * a + b * b)) (x3 : 2 * (X * c + Y * d) = w * (c * c + d * d)) (hc : a * d - b * c = 0) (h1 : ¬ (a = 0 ∧ b = 0)) (h2 : ¬ (c = 0 ∧ d = 0)) : a = c ∧ b = d := by
  have p1 := sq2_pos h1
  have p2 := sq2_pos h2
  have e1 : (c * c + d * d) * a = (a * c + b * d) * c := by grind
  have e2 : (c * c + d * d) * b = (a * c + b * d) * d := by grind
  have e3 : (a * a + b * b) * c = (a * c + b * d) * a := by grind
  have e4 : (a * a + b * b) * d = (a * c + b * d) * b := by grind
  have f1 : (w * (c * c + d * d)) * (a * c + b * d) = (w * (c * c + d * d)) * (a * a + b * b) := by grind
  have f2 : (w * (a * a + b * b)) * (a * c + b * d) = (w * (a * a + b * b)) * (c * c + d * d) := by grind
  have k1 := mul_cancel_pos (Int.mul_pos hw p2) f1
  have k2 := mul_cancel_pos (Int.mul_pos hw p1) f2
  have y3 : (a - c) * (a - c) + (b - d) * (b - d) = 0 := by grind
  have z1 := sq_nonneg (a - c)
  have z2 := sq_nonneg (b - d)
  have := sq_zero (z := a - c) (by omega)
  have := sq_zero (z := b - d) (by omega)
  omega
theorem cross_zero {a b c d U V : Int} (h1 : a * U + b * V = 0) (h2 : c * U + d * V = 0) : (a * d - b * c) * U = 0 ∧ (a * d - b * c) * V = 0 := by
  constructor <;> grind
theorem along {a b K px py pw qx qy qw : Int} (e1 : 2 * (a * px + b * py) = pw * K) (e2 : 2 * (a * qx + b * qy) = qw * K) : a * (qx * pw - px * qw) + b * (qy * pw - py * qw) = 0 := by
  have : 2 * (a * (qx * pw - px * qw) + b * (qy * pw - py * qw)) = 0 := by
    have k1 : 2 * (a * (qx * pw - px * qw) + b * (qy * pw - py * qw)) = (2 * (a * qx + b * qy)) * pw - (2 * (a * px + b * py)) * qw := by grind
    rw [k1, e1, e2]
    grind
  omega
/-- two bisectors of one spot are two lines -/
theorem dist_bb {s t r : Int × Int} (h1 : s ≠ t) (h2 : s ≠ r) (h3 : t ≠ r) {P Q : Pt} (hP : 0 < P.w) (a1 : hgt (btw s t) P = 0) (a2 : hgt (btw s t) Q = 0) (b1 : hgt (btw s r) P = 0) (b2 : hgt (btw s r) Q = 0) : dir (btw s t) P Q = 0 := by
  have e1 := (hgt_eq h1 P).mp a1
  have e2 := (hgt_eq h1 Q).mp a2
  have e3 := (hgt_eq h2 P).mp b1
  have e4 := (hgt_eq h2 Q).mp b2
  have g := btg_pos h1
  refine zero_of g ?_
  rw [btw_dir]
  obtain ⟨s1, s2⟩ := s
  obtain ⟨t1, t2⟩ := t
  obtain ⟨r1, r2⟩ := r
  obtain ⟨px, py, pw⟩ := P
  obtain ⟨qx, qy, qw⟩ := Q
  simp only [dlt] at *
  clear a1 a2 b1 b2 g
  have n1 : ¬ (t1 - s1 = 0 ∧ t2 - s2 = 0) := fun ⟨c1, c2⟩ => h1 (by rw [show t1 = s1 by omega, show t2 = s2 by omega])
  have n2 : ¬ (r1 - s1 = 0 ∧ r2 - s2 = 0) := fun ⟨c1, c2⟩ => h2 (by rw [show r1 = s1 by omega, show r2 = s2 by omega])
  have x1 : 2 * ((px - pw * s1) * (t1 - s1) + (py - pw * s2) * (t2 - s2)) = pw * ((t1 - s1) * (t1 - s1) + (t2 - s2) * (t2 - s2)) := by grind
  have x3 : 2 * ((px - pw * s1) * (r1 - s1) + (py - pw * s2) * (r2 - s2)) = pw * ((r1 - s1) * (r1 - s1) + (r2 - s2) * (r2 - s2)) := by grind
  have u1 : (t1 - s1) * (qx * pw - px * qw) + (t2 - s2) * (qy * pw - py * qw) = 0 := along (K := t1 * t1 + t2 * t2 - s1 * s1 - s2 * s2) (by grind) (by grind)
  have u2 : (r1 - s1) * (qx * pw - px * qw) + (r2 - s2) * (qy * pw - py * qw) = 0 := along (K := r1 * r1 + r2 * r2 - s1 * s1 - s2 * s2) (by grind) (by grind)
  obtain ⟨c1, c2⟩ := cross_zero u1 u2
  by_cases hc : (t1 - s1) * (r2 - s2) - (t2 - s2) * (r1 - s1) = 0
  · have := par_same hP x1 x3 hc n1 n2
    exact absurd (show ((t1, t2) : Int × Int) = (r1, r2) by rw [show t1 = r1 by omega, show t2 = r2 by omega]) h3
  · have z1 := (Int.mul_eq_zero.mp c1).resolve_left hc
    have z2 := (Int.mul_eq_zero.mp c2).resolve_left hc
    rw [z1, z2]
    omega
end SM
set_option linter.all false
set_option maxHeartbeats 4000000
namespace SM
/-! ### the sides -/
section
variable {W : Wd}
theorem side1 (W : Wd) : W.side (-1) = ⟨0, -1, -W.y⟩ := rfl
theorem side2 (W : Wd) : W.side (-2) = ⟨1, 0, W.u⟩ := rfl
theorem side3 (W : Wd) : W.side (-3) = ⟨0, 1, W.v⟩ := rfl
theorem side4 (W : Wd) : W.side (-4) = ⟨-1, 0, -W.x⟩ := rfl
theorem h1 (W : Wd) (P : Pt) : hgt (W.side (-1)) P = W.y * P.w - P.y := by rw [side1]; simp only [hgt]; grind
theorem h2 (W : Wd) (P : Pt) : hgt (W.side (-2)) P = P.x - W.u * P.w := by rw [side2]; simp only [hgt]; grind
theorem h3 (W : Wd) (P : Pt) : hgt (W.side (-3)) P = P.y - W.v * P.w := by rw [side3]; simp only [hgt]; grind
theorem h4 (W : Wd) (P : Pt) : hgt (W.side (-4)) P = W.x * P.w - P.x := by rw [side4]; simp only [hgt]; grind
theorem d1 (W : Wd) (P Q : Pt) : dir (W.side (-1)) P Q = Q.x * P.w - P.x * Q.w := by rw [side1]; simp only [dir]; grind
theorem d2 (W : Wd) (P Q : Pt) : dir (W.side (-2)) P Q = Q.y * P.w - P.y * Q.w := by rw [side2]; simp only [dir]; grind
theorem d3 (W : Wd) (P Q : Pt) : dir (W.side (-3)) P Q = -(Q.x * P.w - P.x * Q.w) := by rw [side3]; simp only [dir]; grind
theorem d4 (W : Wd) (P Q : Pt) : dir (W.side (-4)) P Q = -(Q.y * P.w - P.y * Q.w) := by rw [side4]; simp only [dir]; grind
theorem ln_side {i : Nat} {d : Int} (h : d ∈ sides) : W.ln i d = W.side d := if_pos (neg_sides h)
theorem ln_btw {i j : Nat} : W.ln i (j : Int) = btw (W.sp i) (W.sp j) := if_neg (by omega)
theorem sp_nat (j : Nat) : W.sp (j : Int) = W.s.getD j (0, 0) := rfl
theorem sp_mem {j : Nat} (h : j < W.s.length) : W.sp (j : Int) ∈ W.s := by
  rw [sp_nat, List.getD_eq_getElem?_getD, List.getElem?_eq_getElem h]
  exact List.getElem_mem h
theorem sp_get {j : Nat} (h : j < W.s.length) : W.s[j]? = some (W.sp (j : Int)) := by
  rw [sp_nat, List.getD_eq_getElem?_getD, List.getElem?_eq_getElem h]
  rfl
theorem sp_ne (ok : W.Ok) {i j : Nat} (hi : i < W.s.length) (hj : j < W.s.length) (h : i ≠ j) : W.sp (i : Int) ≠ W.sp (j : Int) := by
  intro e
  have a := sp_get hi
  have b := sp_get hj
  rw [e] at a
  exact h ((List.getElem?_inj hi ok.nod).mp (a.trans b.symm))
theorem zz {k a : Int} (h : k * a = 0) (hk : k ≠ 0) : a = 0 := (Int.mul_eq_zero.mp h).resolve_left hk
/-- a side and a bisector of two spots of the box are two lines -/
theorem dist_sb {s t : Int × Int} (hs : W.x ≤ s.1 ∧ s.1 ≤ W.u ∧ W.y ≤ s.2 ∧ s.2 ≤ W.v) (ht : W.x ≤ t.1 ∧ t.1 ≤ W.u ∧ W.y ≤ t.2 ∧ t.2 ≤ W.v) (hne : s ≠ t) {d : Int} (hd : d ∈ sides) {P Q : Pt} (hP : 0 < P.w)
    (a1 : hgt (W.side d) P = 0) (a2 : hgt (W.side d) Q = 0) (b1 : hgt (btw s t) P = 0) (b2 : hgt (btw s t) Q = 0) : Q.x * P.w - P.x * Q.w = 0 ∧ Q.y * P.w - P.y * Q.w = 0 := by
  have e1 := (hgt_eq hne P).mp b1
  have e2 := (hgt_eq hne Q).mp b2
  obtain ⟨s1, s2⟩ := s
  obtain ⟨t1, t2⟩ := t
  obtain ⟨px, py, pw⟩ := P
  obtain ⟨qx, qy, qw⟩ := Q
  have hne' : ¬ (t1 = s1 ∧ t2 = s2) := fun ⟨c1, c2⟩ => hne (by rw [c1, c2])
  simp only [dlt] at *
  clear b1 b2 hne
  have u1 : (t1 - s1) * (qx * pw - px * qw) + (t2 - s2) * (qy * pw - py * qw) = 0 := along (K := t1 * t1 + t2 * t2 - s1 * s1 - s2 * s2) (by grind) (by grind)
  rcases mem_sides.mp hd with c | c | c | c
  · subst c
    rw [h1] at a1 a2
    simp only at a1 a2
    have v1 : qy * pw - py * qw = 0 := by grind
    refine ⟨?_, v1⟩
    rw [v1] at u1
    apply Classical.byContradiction
    intro hc
    have e : t1 - s1 = 0 := zz (k := qx * pw - px * qw) (a := t1 - s1) (by rw [Int.mul_comm]; omega) hc
    have e3 : t1 = s1 := by omega
    subst e3
    have k : pw * ((t2 - s2) * ((t2 - W.y) + (s2 - W.y))) = 0 := by grind
    have k2 := zz k (by omega)
    have k3 := zz k2 (by omega)
    omega
  · subst c
    rw [h2] at a1 a2
    simp only at a1 a2
    have v1 : qx * pw - px * qw = 0 := by grind
    refine ⟨v1, ?_⟩
    rw [v1] at u1
    apply Classical.byContradiction
    intro hc
    have e : t2 - s2 = 0 := zz (k := qy * pw - py * qw) (a := t2 - s2) (by rw [Int.mul_comm]; omega) hc
    have e3 : t2 = s2 := by omega
    subst e3
    have k : pw * ((t1 - s1) * ((t1 - W.u) + (s1 - W.u))) = 0 := by grind
    have k2 := zz k (by omega)
    have k3 := zz k2 (by omega)
    omega
  · subst c
    rw [h3] at a1 a2
    simp only at a1 a2
    have v1 : qy * pw - py * qw = 0 := by grind
    refine ⟨?_, v1⟩
    rw [v1] at u1
    apply Classical.byContradiction
    intro hc
    have e : t1 - s1 = 0 := zz (k := qx * pw - px * qw) (a := t1 - s1) (by rw [Int.mul_comm]; omega) hc
    have e3 : t1 = s1 := by omega
    subst e3
    have k : pw * ((t2 - s2) * ((t2 - W.v) + (s2 - W.v))) = 0 := by grind
    have k2 := zz k (by omega)
    have k3 := zz k2 (by omega)
    omega
  · subst c
    rw [h4] at a1 a2
    simp only at a1 a2
    have v1 : qx * pw - px * qw = 0 := by grind
    refine ⟨v1, ?_⟩
    rw [v1] at u1
    apply Classical.byContradiction
    intro hc
    have e : t2 - s2 = 0 := zz (k := qy * pw - py * qw) (a := t2 - s2) (by rw [Int.mul_comm]; omega) hc
    have e3 : t2 = s2 := by omega
    subst e3
    have k : pw * ((t1 - s1) * ((t1 - W.x) + (s1 - W.x))) = 0 := by grind
    have k2 := zz k (by omega)
    have k3 := zz k2 (by omega)
    omega
theorem dir_of_zero (l : Ln) {P Q : Pt} (h : Q.x * P.w - P.x * Q.w = 0 ∧ Q.y * P.w - P.y * Q.w = 0) : dir l P Q = 0 := by
  unfold dir
  rw [h.1, h.2]
  omega
theorem dist_ss (ok : W.Ok) {d e : Int} (hd : d ∈ sides) (he : e ∈ sides) (hne : d ≠ e) {P Q : Pt} (hP : 0 < P.w) (a1 : hgt (W.side d) P = 0) (a2 : hgt (W.side d) Q = 0) (b1 : hgt (W.side e) P = 0) (b2 : hgt (W.side e) Q = 0) : dir (W.side d) P Q = 0 := by
  have no1 : W.y * P.w = W.v * P.w → False := fun c => by
    have := Int.eq_of_mul_eq_mul_right (show P.w ≠ 0 by omega) c
    have := ok.yv
    omega
  have no2 : W.x * P.w = W.u * P.w → False := fun c => by
    have := Int.eq_of_mul_eq_mul_right (show P.w ≠ 0 by omega) c
    have := ok.xu
    omega
  apply dir_of_zero
  obtain ⟨px, py, pw⟩ := P
  obtain ⟨qx, qy, qw⟩ := Q
  simp only at *
  rcases mem_sides.mp hd with c | c | c | c <;> rcases mem_sides.mp he with c' | c' | c' | c' <;> subst c <;> subst c' <;> first | exact absurd rfl hne | skip
  all_goals
    simp only [h1, h2, h3, h4] at a1 a2 b1 b2
    first
      | exact absurd (no1 (by omega)) id
      | exact absurd (no2 (by omega)) id
      | (constructor <;> grind)
theorem Wd.sys (ok : W.Ok) {i : Nat} (hi : i < W.s.length) : ∃ z, Sys (W.ln i) (Dk i W.s.length) z := by
  have si := ok.inb _ (sp_mem hi)
  let f : Int → Int := fun d => (((W.sp d).1 - (W.sp (i : Int)).1) * (W.x + W.u - 2 * (W.sp (i : Int)).1) + ((W.sp d).2 - (W.sp (i : Int)).2) * (W.y + W.v - 2 * (W.sp (i : Int)).2))
  obtain ⟨N0, n0, hN0⟩ := big_of f (Dk i W.s.length)
  -- N s + (c - 2 s), N
  let N := 2 * N0 + 3
  refine ⟨⟨N * (W.sp (i : Int)).1 + (W.x + W.u - 2 * (W.sp (i : Int)).1), N * (W.sp (i : Int)).2 + (W.y + W.v - 2 * (W.sp (i : Int)).2), N⟩, ⟨fun d hd => ?_, fun d hd e he hne P Q hP hQ a1 a2 b1 b2 => ?_, (by show 0 < N; omega), fun d hd => ?_⟩⟩
  · rcases mem_Dk.mp hd with h | ⟨j, j1, j2, rfl⟩
    · rw [ln_side h]
      rcases mem_sides.mp h with c | c | c | c <;> subst c <;> simp [side1, side2, side3, side4, nrm]
    · rw [ln_btw]
      exact btw_nz (sp_ne ok hi j1 (fun c => j2 c.symm))
  · rcases mem_Dk.mp hd with h | ⟨j, j1, j2, rfl⟩
    · rcases mem_Dk.mp he with h' | ⟨k, k1, k2, rfl⟩
      · rw [ln_side h] at *
        rw [ln_side h'] at *
        exact dist_ss ok h h' hne hP a1 a2 b1 b2
      · rw [ln_side h] at *
        rw [ln_btw] at b1 b2
        exact dir_of_zero _ (dist_sb si (ok.inb _ (sp_mem k1)) (sp_ne ok hi k1 fun c => k2 c.symm) h hP a1 a2 b1 b2)
    · rcases mem_Dk.mp he with h' | ⟨k, k1, k2, rfl⟩
      · rw [ln_side h'] at *
        rw [ln_btw] at a1 a2
        exact dir_of_zero _ (dist_sb si (ok.inb _ (sp_mem j1)) (sp_ne ok hi j1 fun c => j2 c.symm) h' hP b1 b2 a1 a2)
      · rw [ln_btw] at *
        exact dist_bb (sp_ne ok hi j1 fun c => j2 c.symm) (sp_ne ok hi k1 fun c => k2 c.symm) (sp_ne ok j1 k1 fun c => hne (by rw [c])) hP a1 a2 b1 b2
  · rcases mem_Dk.mp hd with h | ⟨j, j1, j2, rfl⟩
    · rw [ln_side h]
      have xu := ok.xu
      have yv := ok.yv
      have N3 : 0 ≤ N - 2 := by omega
      have m1 := Int.mul_nonneg N3 (show 0 ≤ (W.sp (i : Int)).1 - W.x by omega)
      have m2 := Int.mul_nonneg N3 (show 0 ≤ W.u - (W.sp (i : Int)).1 by omega)
      have m3 := Int.mul_nonneg N3 (show 0 ≤ (W.sp (i : Int)).2 - W.y by omega)
      have m4 := Int.mul_nonneg N3 (show 0 ≤ W.v - (W.sp (i : Int)).2 by omega)
      generalize N = n at *
      rcases mem_sides.mp h with c | c | c | c <;> subst c
      · rw [h1]
        show W.y * n - (n * (W.sp (i : Int)).2 + (W.y + W.v - 2 * (W.sp (i : Int)).2)) < 0
        rw [Int.sub_mul, Int.mul_sub, Int.mul_sub] at m3
        rw [Int.mul_comm W.y]
        omega
      · rw [h2]
        show (n * (W.sp (i : Int)).1 + (W.x + W.u - 2 * (W.sp (i : Int)).1)) - W.u * n < 0
        rw [Int.sub_mul, Int.mul_sub, Int.mul_sub] at m2
        rw [Int.mul_comm W.u]
        omega
      · rw [h3]
        show (n * (W.sp (i : Int)).2 + (W.y + W.v - 2 * (W.sp (i : Int)).2)) - W.v * n < 0
        rw [Int.sub_mul, Int.mul_sub, Int.mul_sub] at m4
        rw [Int.mul_comm W.v]
        omega
      · rw [h4]
        show W.x * n - (n * (W.sp (i : Int)).1 + (W.x + W.u - 2 * (W.sp (i : Int)).1)) < 0
        rw [Int.sub_mul, Int.mul_sub, Int.mul_sub] at m1
        rw [Int.mul_comm W.x]
        omega
    · rw [ln_btw]
      have ne := sp_ne ok hi j1 fun c => j2 c.symm
      rw [hgt_lt ne]
      have hf := hN0 _ hd
      have hf : ((W.sp (j : Int)).1 - (W.sp (i : Int)).1) * (W.x + W.u - 2 * (W.sp (i : Int)).1) + ((W.sp (j : Int)).2 - (W.sp (i : Int)).2) * (W.y + W.v - 2 * (W.sp (i : Int)).2) < N0 := hf
      show dlt (W.sp (i : Int)) ⟨N * (W.sp (i : Int)).1 + (W.x + W.u - 2 * (W.sp (i : Int)).1), N * (W.sp (i : Int)).2 + (W.y + W.v - 2 * (W.sp (i : Int)).2), N⟩ < dlt (W.sp (j : Int)) ⟨N * (W.sp (i : Int)).1 + (W.x + W.u - 2 * (W.sp (i : Int)).1), N * (W.sp (i : Int)).2 + (W.y + W.v - 2 * (W.sp (i : Int)).2), N⟩
      have q : 0 < ((W.sp (j : Int)).1 - (W.sp (i : Int)).1) * ((W.sp (j : Int)).1 - (W.sp (i : Int)).1) + ((W.sp (j : Int)).2 - (W.sp (i : Int)).2) * ((W.sp (j : Int)).2 - (W.sp (i : Int)).2) := sq2_pos fun ⟨c1, c2⟩ => ne (Prod.ext (by omega) (by omega))
      have hNN : N = 2 * N0 + 3 := rfl
      generalize N = n at *
      generalize W.sp (j : Int) = t at *
      generalize W.sp (i : Int) = s at *
      have id0 : dlt t ⟨n * s.1 + (W.x + W.u - 2 * s.1), n * s.2 + (W.y + W.v - 2 * s.2), n⟩ - dlt s ⟨n * s.1 + (W.x + W.u - 2 * s.1), n * s.2 + (W.y + W.v - 2 * s.2), n⟩ =
          n * ((t.1 - s.1) * (t.1 - s.1) + (t.2 - s.2) * (t.2 - s.2)) - 2 * ((t.1 - s.1) * (W.x + W.u - 2 * s.1) + (t.2 - s.2) * (W.y + W.v - 2 * s.2)) := by
        simp only [dlt]
        grind
      have q2 := Int.mul_le_mul_of_nonneg_left (show 1 ≤ (t.1 - s.1) * (t.1 - s.1) + (t.2 - s.2) * (t.2 - s.2) by omega) (show 0 ≤ n by omega)
      omega
/-! ### the box's own field -/
def Wd.boxF (W : Wd) : List Row := [(⟨W.x, W.y, 1⟩, -1), (⟨W.u, W.y, 1⟩, -2), (⟨W.u, W.v, 1⟩, -3), (⟨W.x, W.v, 1⟩, -4)]
theorem E_box (W : Wd) : E W.boxF = [⟨⟨W.x, W.y, 1⟩, -1, ⟨W.u, W.y, 1⟩⟩, ⟨⟨W.u, W.y, 1⟩, -2, ⟨W.u, W.v, 1⟩⟩, ⟨⟨W.u, W.v, 1⟩, -3, ⟨W.x, W.v, 1⟩⟩, ⟨⟨W.x, W.v, 1⟩, -4, ⟨W.x, W.y, 1⟩⟩] := rfl
theorem rd_sides {i : Nat} {A : Pt} : RD (W.ln i) sides A ↔ 0 < A.w ∧ W.y * A.w ≤ A.y ∧ A.x ≤ W.u * A.w ∧ A.y ≤ W.v * A.w ∧ W.x * A.w ≤ A.x := by
  constructor
  · rintro ⟨h0, h⟩
    have a1 := h (-1) (by simp [sides])
    have a2 := h (-2) (by simp [sides])
    have a3 := h (-3) (by simp [sides])
    have a4 := h (-4) (by simp [sides])
    rw [ln_side (by simp [sides])] at a1 a2 a3 a4
    rw [h1] at a1
    rw [h2] at a2
    rw [h3] at a3
    rw [h4] at a4
    exact ⟨h0, by omega, by omega, by omega, by omega⟩
  · rintro ⟨h0, a1, a2, a3, a4⟩
    refine ⟨h0, fun d hd => ?_⟩
    rw [ln_side hd]
    rcases mem_sides.mp hd with c | c | c | c <;> subst c
    · rw [h1]; omega
    · rw [h2]; omega
    · rw [h3]; omega
    · rw [h4]; omega
theorem nrm1 (x y : Int) : Nrm ⟨x, y, 1⟩ := ⟨(by decide : (0 : Int) < 1), Int.gcd_one_right _⟩
theorem Wd.base (ok : W.Ok) (i : Nat) : Inv (W.ln i) sides W.boxF := by
  have xu := ok.xu
  have yv := ok.yv
  have s1 : (-1 : Int) ∈ sides := by simp [sides]
  have s2 : (-2 : Int) ∈ sides := by simp [sides]
  have s3 : (-3 : Int) ∈ sides := by simp [sides]
  have s4 : (-4 : Int) ∈ sides := by simp [sides]
  have hE : ∀ (p : Tri → Prop), p ⟨⟨W.x, W.y, 1⟩, -1, ⟨W.u, W.y, 1⟩⟩ → p ⟨⟨W.u, W.y, 1⟩, -2, ⟨W.u, W.v, 1⟩⟩ → p ⟨⟨W.u, W.v, 1⟩, -3, ⟨W.x, W.v, 1⟩⟩ → p ⟨⟨W.x, W.v, 1⟩, -4, ⟨W.x, W.y, 1⟩⟩ → ∀ t ∈ E W.boxF, p t := by
    intro p a b c d t ht
    rw [E_box] at ht
    simp only [List.mem_cons, List.not_mem_nil, or_false] at ht
    rcases ht with e | e | e | e <;> subst e <;> assumption
  have hF : ∀ (p : Row → Prop), p (⟨W.x, W.y, 1⟩, -1) → p (⟨W.u, W.y, 1⟩, -2) → p (⟨W.u, W.v, 1⟩, -3) → p (⟨W.x, W.v, 1⟩, -4) → ∀ t ∈ W.boxF, p t := by
    intro p a b c d t ht
    unfold Wd.boxF at ht
    simp only [List.mem_cons, List.not_mem_nil, or_false] at ht
    rcases ht with e | e | e | e <;> subst e <;> assumption
  refine ⟨by simp [Wd.boxF], hF _ s1 s2 s3 s4, hF _ ?_ ?_ ?_ ?_, hE _ ?_ ?_ ?_ ?_, hE _ ?_ ?_ ?_ ?_, hE _ ?_ ?_ ?_ ?_, hE _ ?_ ?_ ?_ ?_, by simp [Wd.boxF], fun e he A _ _ _ => ?_, fun L h A hA => ?_, hF _ (nrm1 _ _) (nrm1 _ _) (nrm1 _ _) (nrm1 _ _), hF _ ?_ ?_ ?_ ?_⟩
  · exact rd_sides.mpr ⟨by simp only; omega, by simp only; omega, by simp only; omega, by simp only; omega, by simp only; omega⟩
  · exact rd_sides.mpr ⟨by simp only; omega, by simp only; omega, by simp only; omega, by simp only; omega, by simp only; omega⟩
  · exact rd_sides.mpr ⟨by simp only; omega, by simp only; omega, by simp only; omega, by simp only; omega, by simp only; omega⟩
  · exact rd_sides.mpr ⟨by simp only; omega, by simp only; omega, by simp only; omega, by simp only; omega, by simp only; omega⟩
  · rw [ln_side s1, h1]; simp only; omega
  · rw [ln_side s2, h2]; simp only; omega
  · rw [ln_side s3, h3]; simp only; omega
  · rw [ln_side s4, h4]; simp only; omega
  · rw [ln_side s1, h1]; simp only; omega
  · rw [ln_side s2, h2]; simp only; omega
  · rw [ln_side s3, h3]; simp only; omega
  · rw [ln_side s4, h4]; simp only; omega
  · rw [ln_side s1, d1]; simp only; omega
  · rw [ln_side s2, d2]; simp only; omega
  · rw [ln_side s3, d3]; simp only; omega
  · rw [ln_side s4, d4]; simp only; omega
  · intro A hA _
    obtain ⟨a0, a1, a2, a3, a4⟩ := rd_sides.mp hA
    rw [ln_side s1, d1, d1]
    simp only
    omega
  · intro A hA _
    obtain ⟨a0, a1, a2, a3, a4⟩ := rd_sides.mp hA
    rw [ln_side s2, d2, d2]
    simp only
    omega
  · intro A hA _
    obtain ⟨a0, a1, a2, a3, a4⟩ := rd_sides.mp hA
    rw [ln_side s3, d3, d3]
    simp only
    omega
  · intro A hA _
    obtain ⟨a0, a1, a2, a3, a4⟩ := rd_sides.mp hA
    rw [ln_side s4, d4, d4]
    simp only
    omega
  · rcases mem_sides.mp he with c | c | c | c <;> subst c <;> simp [Wd.boxF]
  · obtain ⟨a0, a1, a2, a3, a4⟩ := rd_sides.mp hA
    have c1 := h _ (List.mem_cons_self : _ ∈ W.boxF)
    have c2 := h (⟨W.u, W.y, 1⟩, -2) (by simp [Wd.boxF])
    have c3 := h (⟨W.u, W.v, 1⟩, -3) (by simp [Wd.boxF])
    have c4 := h (⟨W.x, W.v, 1⟩, -4) (by simp [Wd.boxF])
    have key : ∀ X Y : Int, hgt L ⟨X, Y, 1⟩ ≤ 0 → L.a * A.x ≤ L.a * (X * A.w) → L.b * A.y ≤ L.b * (Y * A.w) → hgt L A ≤ 0 := by
      intro X Y q qx qy
      have := mulnp (Int.le_of_lt a0) q
      have id0 : A.w * hgt L ⟨X, Y, 1⟩ = L.a * (X * A.w) + L.b * (Y * A.w) - L.c * A.w := by
        simp only [hgt]
        grind
      rw [id0] at this
      unfold hgt
      omega
    have up : ∀ {k p q : Int}, 0 ≤ k → p ≤ q → k * p ≤ k * q := fun h1 h2 => Int.mul_le_mul_of_nonneg_left h2 h1
    have dn : ∀ {k p q : Int}, k ≤ 0 → q ≤ p → k * p ≤ k * q := fun h1 h2 => Int.mul_le_mul_of_nonpos_left h1 h2
    rcases Int.le_total 0 L.a with qa | qa
    · rcases Int.le_total 0 L.b with qb | qb
      · exact key _ _ c3 (up qa a2) (up qb a3)
      · exact key _ _ c2 (up qa a2) (dn qb a1)
    · rcases Int.le_total 0 L.b with qb | qb
      · exact key _ _ c4 (dn qa a4) (up qb a3)
      · exact key _ _ c1 (dn qa a4) (dn qb a1)
  · refine ⟨-4, s4, -1, s1, ?_, ?_, ?_⟩
    · rw [ln_side s4, h4]; simp only; omega
    · rw [ln_side s1, h1]; simp only; omega
    · rw [ln_side s4, ln_side s1]; simp [side1, side2, side3, side4, crs]
  · refine ⟨-1, s1, -2, s2, ?_, ?_, ?_⟩
    · rw [ln_side s1, h1]; simp only; omega
    · rw [ln_side s2, h2]; simp only; omega
    · rw [ln_side s1, ln_side s2]; simp [side1, side2, side3, side4, crs]
  · refine ⟨-2, s2, -3, s3, ?_, ?_, ?_⟩
    · rw [ln_side s2, h2]; simp only; omega
    · rw [ln_side s3, h3]; simp only; omega
    · rw [ln_side s2, ln_side s3]; simp [side1, side2, side3, side4, crs]
  · refine ⟨-3, s3, -4, s4, ?_, ?_, ?_⟩
    · rw [ln_side s3, h3]; simp only; omega
    · rw [ln_side s4, h4]; simp only; omega
    · rw [ln_side s3, ln_side s4]; simp [side1, side2, side3, side4, crs]
end
end SM
set_option linter.all false
set_option maxHeartbeats 4000000
namespace SM
section
variable {W : Wd}
def LandOk (W : Wd) (i : Nat) (F : List Row) : Prop := Inv (W.ln i) (Dk i W.s.length) F
/-! ### one cut -/
theorem Dk_succ {i k : Nat} (h : k ≠ i) : Dk i (k + 1) = (k : Int) :: Dk i k := if_neg h
theorem Dk_same {i k : Nat} (h : k = i) : Dk i (k + 1) = Dk i k := if_pos h
theorem k_in {i k n : Nat} (hk : k < n) (h : k ≠ i) : (k : Int) ∈ Dk i n := mem_Dk.mpr (.inr ⟨k, hk, h, rfl⟩)
theorem step_keep (ok : W.Ok) {i k : Nat} {F : List Row} (hi : i < W.s.length) (hk : k < W.s.length) (h : k ≠ i) (I : Inv (W.ln i) (Dk i k) F) (hb : ∀ r ∈ F, hgt (btw (W.sp (i : Int)) (W.sp (k : Int))) r.1 ≤ 0) : Inv (W.ln i) (Dk i (k + 1)) F := by
  obtain ⟨z, S⟩ := Wd.sys ok hi
  rw [Dk_succ h]
  refine I.keep S (Dk_sub (Nat.le_of_lt hk)) (k_in hk h) Dk_new ?_
  rw [ln_btw]
  exact hb
theorem step_cut (ok : W.Ok) {i k : Nat} {F : List Row} (hi : i < W.s.length) (hk : k < W.s.length) (h : k ≠ i) (I : Inv (W.ln i) (Dk i k) F) (hp : ∃ r ∈ F, 0 < hgt (btw (W.sp (i : Int)) (W.sp (k : Int))) r.1) :
    (∃ r ∈ F, hgt (btw (W.sp (i : Int)) (W.sp (k : Int))) r.1 < 0) ∧ Inv (W.ln i) (Dk i (k + 1)) (cutRows (btw (W.sp (i : Int)) (W.sp (k : Int))) (k : Int) F) := by
  obtain ⟨z, S⟩ := Wd.sys ok hi
  rw [Dk_succ h]
  have e : W.ln i (k : Int) = btw (W.sp (i : Int)) (W.sp (k : Int)) := ln_btw
  rw [← e]
  rw [← e] at hp
  exact ⟨some_behind S (Dk_sub (Nat.le_of_lt hk)) (k_in hk h) I, I.cut S (Dk_sub (Nat.le_of_lt hk)) (k_in hk h) Dk_new hp⟩
/-! ### the two lands at an edge -/
theorem rd_land {i : Nat} {A : Pt} (ok : W.Ok) (hi : i < W.s.length) : RD (W.ln i) (Dk i W.s.length) A ↔ RD (W.ln i) sides A ∧ ∀ k, k < W.s.length → dlt (W.sp (i : Int)) A ≤ dlt (W.sp (k : Int)) A := by
  constructor
  · rintro ⟨h0, h⟩
    refine ⟨⟨h0, fun d hd => h d (mem_Dk.mpr (.inl hd))⟩, fun k hk => ?_⟩
    by_cases e : k = i
    · rw [e]
      exact Int.le_refl _
    · have := h k (k_in hk e)
      rw [ln_btw] at this
      exact (hgt_le (sp_ne ok hi hk fun c => e c.symm) A).mp this
  · rintro ⟨⟨h0, h⟩, h'⟩
    refine ⟨h0, fun d hd => ?_⟩
    rcases mem_Dk.mp hd with q | ⟨k, hk, e, rfl⟩
    · exact h d q
    · rw [ln_btw]
      exact (hgt_le (sp_ne ok hi hk fun c => e c.symm) A).mpr (h' k hk)
theorem rd_side {i j : Nat} {A : Pt} : RD (W.ln i) sides A ↔ RD (W.ln j) sides A := by
  rw [rd_sides, rd_sides]
theorem rd_pass (ok : W.Ok) {i j : Nat} (hi : i < W.s.length) (hj : j < W.s.length) {A : Pt} (h : RD (W.ln i) (Dk i W.s.length) A) (e : dlt (W.sp (i : Int)) A = dlt (W.sp (j : Int)) A) : RD (W.ln j) (Dk j W.s.length) A := by
  obtain ⟨a, b⟩ := (rd_land ok hi).mp h
  refine (rd_land ok hj).mpr ⟨rd_side.mp a, fun k hk => ?_⟩
  rw [← e]
  exact b k hk
theorem dir_back {s t : Int × Int} (h : s ≠ t) (P Q : Pt) (hd : 0 ≤ dir (btw t s) P Q) : dir (btw s t) P Q ≤ 0 := by
  have g1 := btg_pos h
  have g2 := btg_pos fun c => h c.symm
  have k1 := btw_dir s t P Q
  have k2 := btw_dir t s P Q
  have := Int.mul_nonneg (Int.le_of_lt g2) hd
  have e : btg s t * dir (btw s t) P Q = -(btg t s * dir (btw t s) P Q) := by
    rw [k1, k2]
    grind
  exact nonpos_of g1 (by omega)
theorem pair (ok : W.Ok) {i j : Nat} (hi : i < W.s.length) (hj : j < W.s.length) (hne : i ≠ j) {F G : List Row} (I : LandOk W i F) (J : LandOk W j G) {P Q : Pt} (ht : ⟨P, (j : Int), Q⟩ ∈ E F) : ⟨Q, (i : Int), P⟩ ∈ E G := by
  obtain ⟨z, S⟩ := Wd.sys ok hi
  have nij := sp_ne ok hi hj hne
  have nji : W.sp (j : Int) ≠ W.sp (i : Int) := fun c => nij c.symm
  have jD : (j : Int) ∈ Dk i W.s.length := k_in hj fun c => hne c.symm
  have iD : (i : Int) ∈ Dk j W.s.length := k_in hi hne
  have eij : W.ln i (j : Int) = btw (W.sp (i : Int)) (W.sp (j : Int)) := ln_btw
  have eji : W.ln j (i : Int) = btw (W.sp (j : Int)) (W.sp (i : Int)) := ln_btw
  have oP : hgt (W.ln i (j : Int)) P = 0 := I.on1 _ ht
  have oQ : hgt (W.ln i (j : Int)) Q = 0 := I.on2 _ ht
  have fw : 0 < dir (W.ln i (j : Int)) P Q := I.fwd _ ht
  have rP : RD (W.ln i) (Dk i W.s.length) P := I.rp ht
  have rQ : RD (W.ln i) (Dk i W.s.length) Q := I.rq ht
  have dP := (hgt_eq nij P).mp (by rw [← eij]; exact oP)
  have dQ := (hgt_eq nij Q).mp (by rw [← eij]; exact oQ)
  let A : Pt := ⟨P.x + Q.x, P.y + Q.y, P.w + Q.w⟩
  have hA : ∀ l, hgt l A = hgt l P + hgt l Q := fun l => by
    simp only [hgt, A]
    grind
  have A0 : 0 < A.w := by
    have := rP.1
    have := rQ.1
    show 0 < P.w + Q.w
    omega
  have oA : hgt (W.ln i (j : Int)) A = 0 := by
    rw [hA, oP, oQ]
    rfl
  have gA : ∀ d ∈ Dk i W.s.length, d ≠ (j : Int) → hgt (W.ln i d) A < 0 := by
    intro d hd hdj
    have p := rP.2 d hd
    have q := rQ.2 d hd
    rw [hA]
    apply Classical.byContradiction
    intro c
    have := S.dist (j : Int) jD d hd (fun c => hdj c.symm) P Q rP.1 rQ.1 oP oQ (by omega) (by omega)
    omega
  have dA := (hgt_eq nij A).mp (by rw [← eij]; exact oA)
  have il : (i : Int) ∈ G.map (·.2) := by
    refine J.gen _ iD A A0 ?_ fun d hd hdi => ?_
    · rw [eji]
      exact (hgt_eq nji A).mpr dA.symm
    · rcases mem_Dk.mp hd with q | ⟨k, hk, e, rfl⟩
      · have := gA d (mem_Dk.mpr (.inl q)) (by have := neg_sides q; omega)
        rw [ln_side q] at *
        exact this
      · have ki : k ≠ i := fun c => hdi (by rw [c])
        have := gA (k : Int) (k_in hk ki) (by omega)
        rw [ln_btw] at this ⊢
        have := (hgt_lt (sp_ne ok hi hk fun c => ki c.symm) A).mp this
        refine (hgt_lt (sp_ne ok hj hk fun c => e c.symm) A).mpr ?_
        omega
  rw [← E_lab] at il
  obtain ⟨t, ht', et⟩ := List.mem_map.mp il
  have et : t.e = (i : Int) := et
  have oP' := J.on1 t ht'
  have oQ' := J.on2 t ht'
  rw [et, eji] at oP' oQ'
  have rP' : RD (W.ln j) (Dk j W.s.length) t.p := J.rp ht'
  have rQ' : RD (W.ln j) (Dk j W.s.length) t.q := J.rq ht'
  have dP' := (hgt_eq nji t.p).mp oP'
  have dQ' := (hgt_eq nji t.q).mp oQ'
  have sP := J.seg t ht' P (rd_pass ok hi hj rP dP) (by rw [et, eji]; exact (hgt_eq nji P).mpr dP.symm)
  have sQ := J.seg t ht' Q (rd_pass ok hi hj rQ dQ) (by rw [et, eji]; exact (hgt_eq nji Q).mpr dQ.symm)
  have sP' := I.seg _ ht t.p (rd_pass ok hj hi rP' dP') (by rw [eij]; exact (hgt_eq nij t.p).mpr dP'.symm)
  have sQ' := I.seg _ ht t.q (rd_pass ok hj hi rQ' dQ') (by rw [eij]; exact (hgt_eq nij t.q).mpr dQ'.symm)
  simp only [et, eji] at sP sQ
  simp only [eij] at sP' sQ' oP oQ
  have b1 := dir_back nij _ _ sQ.1
  have b2 := dir_back nij _ _ sP.2
  have z1 : dir (btw (W.sp (i : Int)) (W.sp (j : Int))) t.p Q = 0 := by
    have := sP'.2
    omega
  have z2 : dir (btw (W.sp (i : Int)) (W.sp (j : Int))) P t.q = 0 := by
    have := sQ'.1
    omega
  have nz := btw_nz nij
  obtain ⟨x1, x2⟩ := same_place nz ((hgt_eq nij t.p).mpr dP'.symm) oQ z1
  obtain ⟨y1, y2⟩ := same_place nz oP ((hgt_eq nij t.q).mpr dQ'.symm) z2
  have e1 : t.p = Q := (J.np ht').eq (I.nq ht) x1 x2
  have e2 : P = t.q := (I.np ht).eq (J.nq ht') y1 y2
  have : t = ⟨Q, (i : Int), P⟩ := by
    obtain ⟨a, b, c⟩ := t
    simp only at e1 e2 et
    rw [e1, ← e2, et]
  rw [← this]
  exact ht'
/-! ### the way an edge goes -/
def rises (P Q : Pt) : Bool := if P.y * Q.w ≠ Q.y * P.w then decide (P.y * Q.w < Q.y * P.w) else decide (Q.x * P.w < P.x * Q.w)
theorem goes_up (ok : W.Ok) {i j : Nat} (hi : i < W.s.length) (hj : j < W.s.length) (hne : i ≠ j) {F : List Row} (I : LandOk W i F) {P Q : Pt} (ht : ⟨P, (j : Int), Q⟩ ∈ E F)
    (hl : (W.sp (i : Int)).1 < (W.sp (j : Int)).1 ∨ ((W.sp (i : Int)).1 = (W.sp (j : Int)).1 ∧ (W.sp (i : Int)).2 < (W.sp (j : Int)).2)) : rises P Q = true := by
  have nij := sp_ne ok hi hj hne
  have eij : W.ln i (j : Int) = btw (W.sp (i : Int)) (W.sp (j : Int)) := ln_btw
  have oP : hgt (W.ln i (j : Int)) P = 0 := I.on1 _ ht
  have oQ : hgt (W.ln i (j : Int)) Q = 0 := I.on2 _ ht
  have fw : 0 < dir (W.ln i (j : Int)) P Q := I.fwd _ ht
  rw [eij] at oP oQ fw
  have dP := (hgt_eq nij P).mp oP
  have dQ := (hgt_eq nij Q).mp oQ
  have g := Int.mul_pos (btg_pos nij) fw
  rw [btw_dir] at g
  generalize W.sp (i : Int) = s at *
  generalize W.sp (j : Int) = t at *
  obtain ⟨s1, s2⟩ := s
  obtain ⟨t1, t2⟩ := t
  simp only [dlt] at *
  have u1 : (t1 - s1) * (Q.x * P.w - P.x * Q.w) + (t2 - s2) * (Q.y * P.w - P.y * Q.w) = 0 := along (K := t1 * t1 + t2 * t2 - s1 * s1 - s2 * s2) (by grind) (by grind)
  unfold rises
  rcases hl with h | ⟨h, h'⟩
  · have k : ((t1 - s1) * (t1 - s1) + (t2 - s2) * (t2 - s2)) * (2 * (Q.y * P.w - P.y * Q.w)) = (t1 - s1) * (2 * (t1 - s1) * (Q.y * P.w - P.y * Q.w) - 2 * (t2 - s2) * (Q.x * P.w - P.x * Q.w)) := by grind
    have p := Int.mul_pos (show 0 < t1 - s1 by omega) g
    rw [← k] at p
    have p2 := pos_of (sq2_pos fun c => by omega) p
    rw [if_pos (by omega)]
    exact decide_eq_true (by omega)
  · have e : t1 - s1 = 0 := by omega
    rw [e] at u1 g
    have z : Q.y * P.w - P.y * Q.w = 0 := zz (k := t2 - s2) (by omega) (by omega)
    rw [if_neg (by omega)]
    have g2 : 0 < (t2 - s2) * (-(2 * (Q.x * P.w - P.x * Q.w))) := by
      have : (t2 - s2) * (-(2 * (Q.x * P.w - P.x * Q.w))) = 2 * 0 * (Q.y * P.w - P.y * Q.w) - 2 * (t2 - s2) * (Q.x * P.w - P.x * Q.w) := by grind
      omega
    have := pos_of (show 0 < t2 - s2 by omega) g2
    exact decide_eq_true (by omega)
end
end SM
set_option linter.all false
set_option maxHeartbeats 4000000
namespace SM
section
variable {W : Wd}
/-! ### some edge lies between the two lots -/
theorem least_of {α : Type} (f : α → Int) : ∀ l : List α, l ≠ [] → ∃ a ∈ l, ∀ b ∈ l, f a ≤ f b
  | [], h => absurd rfl h
  | [a], _ => ⟨a, List.mem_cons_self, fun b hb => by
    rw [List.mem_singleton.mp hb]
    exact Int.le_refl _⟩
  | a :: c :: l, _ => by
    obtain ⟨m, hm, h⟩ := least_of f (c :: l) (by simp)
    by_cases q : f a ≤ f m
    · refine ⟨a, List.mem_cons_self, fun b hb => ?_⟩
      rcases List.mem_cons.mp hb with e | e
      · rw [e]
        exact Int.le_refl _
      · exact Int.le_trans q (h b e)
    · refine ⟨m, List.mem_cons_of_mem _ hm, fun b hb => ?_⟩
      rcases List.mem_cons.mp hb with e | e
      · rw [e]
        omega
      · exact h b e
def far2 (s t : Int × Int) : Int := (t.1 - s.1) * (t.1 - s.1) + (t.2 - s.2) * (t.2 - s.2)
theorem far2_pos {s t : Int × Int} (h : s ≠ t) : 0 < far2 s t := sq2_pos fun c => h (Prod.ext (by omega) (by omega))
theorem mid_dlt (s t r : Int × Int) : dlt r ⟨s.1 + t.1, s.2 + t.2, 2⟩ - dlt s ⟨s.1 + t.1, s.2 + t.2, 2⟩ = far2 s r + far2 t r - far2 s t := by
  simp only [dlt, far2]
  grind
/-- a way along the bisector that goes into the box -/
theorem into_box {s t : Int × Int} (xu : W.x < W.u) (yv : W.y < W.v) (hs : W.x ≤ s.1 ∧ s.1 ≤ W.u ∧ W.y ≤ s.2 ∧ s.2 ≤ W.v) (ht : W.x ≤ t.1 ∧ t.1 ≤ W.u ∧ W.y ≤ t.2 ∧ t.2 ≤ W.v) (hne : s ≠ t) :
    ∃ k : Int, ∀ d ∈ sides, hgt (W.side d) ⟨s.1 + t.1, s.2 + t.2, 2⟩ < 0 ∨ (hgt (W.side d) ⟨s.1 + t.1, s.2 + t.2, 2⟩ = 0 ∧ (W.side d).a * (-(k * (t.2 - s.2))) + (W.side d).b * (k * (t.1 - s.1)) < 0) := by
  have al : ∀ k : Int, (W.y * 2 < s.2 + t.2 ∨ (W.y * 2 = s.2 + t.2 ∧ 0 < k * (t.1 - s.1))) → (s.1 + t.1 < W.u * 2 ∨ (s.1 + t.1 = W.u * 2 ∧ 0 < k * (t.2 - s.2))) →
      (s.2 + t.2 < W.v * 2 ∨ (s.2 + t.2 = W.v * 2 ∧ k * (t.1 - s.1) < 0)) → (W.x * 2 < s.1 + t.1 ∨ (W.x * 2 = s.1 + t.1 ∧ k * (t.2 - s.2) < 0)) →
      ∀ d ∈ sides, hgt (W.side d) ⟨s.1 + t.1, s.2 + t.2, 2⟩ < 0 ∨ (hgt (W.side d) ⟨s.1 + t.1, s.2 + t.2, 2⟩ = 0 ∧ (W.side d).a * (-(k * (t.2 - s.2))) + (W.side d).b * (k * (t.1 - s.1)) < 0) := by
    intro k a1 a2 a3 a4 d hd
    rcases mem_sides.mp hd with c | c | c | c <;> subst c
    · rw [h1, side1]
      simp only
      omega
    · rw [h2, side2]
      simp only
      omega
    · rw [h3, side3]
      simp only
      omega
    · rw [h4, side4]
      simp only
      omega
  by_cases e1 : t.1 = s.1
  · have e2 : t.2 - s.2 ≠ 0 := fun c => hne (Prod.ext e1.symm (by omega))
    have p : 0 < (t.2 - s.2) * (t.2 - s.2) := by
      have := sq2_pos (a := t.2 - s.2) (b := 0) (fun c => e2 c.1)
      omega
    by_cases e3 : s.1 = W.x
    · refine ⟨-(t.2 - s.2), al _ ?_ ?_ ?_ ?_⟩
      · left; omega
      · left; omega
      · left; omega
      · right
        refine ⟨by omega, ?_⟩
        rw [Int.neg_mul]
        omega
    · refine ⟨t.2 - s.2, al _ ?_ ?_ ?_ ?_⟩
      · left; omega
      · by_cases e4 : s.1 = W.u
        · right
          exact ⟨by omega, p⟩
        · left; omega
      · left; omega
      · left; omega
  · by_cases e2 : t.2 = s.2
    · have p : 0 < (t.1 - s.1) * (t.1 - s.1) := by
        have := sq2_pos (a := t.1 - s.1) (b := 0) (fun c => by omega)
        omega
      by_cases e3 : s.2 = W.y
      · refine ⟨t.1 - s.1, al _ ?_ ?_ ?_ ?_⟩
        · right
          exact ⟨by omega, p⟩
        · left; omega
        · left; omega
        · left; omega
      · refine ⟨-(t.1 - s.1), al _ ?_ ?_ ?_ ?_⟩
        · left; omega
        · left; omega
        · by_cases e4 : s.2 = W.v
          · right
            refine ⟨by omega, ?_⟩
            rw [Int.neg_mul]
            omega
          · left; omega
        · left; omega
    · exact ⟨0, al _ (by left; omega) (by left; omega) (by left; omega) (by left; omega)⟩
theorem close_edge (ok : W.Ok) {i j : Nat} (hi : i < W.s.length) (hj : j < W.s.length) (hne : i ≠ j)
    (hc : ∀ k, k < W.s.length → k ≠ i → k ≠ j → far2 (W.sp (i : Int)) (W.sp (j : Int)) < far2 (W.sp (i : Int)) (W.sp (k : Int)) + far2 (W.sp (j : Int)) (W.sp (k : Int))) {F : List Row} (I : LandOk W i F) : (j : Int) ∈ F.map (·.2) := by
  have nij := sp_ne ok hi hj hne
  have jD : (j : Int) ∈ Dk i W.s.length := k_in hj fun c => hne c.symm
  have si := ok.inb _ (sp_mem hi)
  have sj := ok.inb _ (sp_mem hj)
  obtain ⟨k, hk⟩ := into_box ok.xu ok.yv si sj nij
  let px : Int := -(k * ((W.sp (j : Int)).2 - (W.sp (i : Int)).2))
  let py : Int := k * ((W.sp (j : Int)).1 - (W.sp (i : Int)).1)
  obtain ⟨N, n0, hN⟩ := big_of (fun d => (W.ln i d).a * px + (W.ln i d).b * py) (Dk i W.s.length)
  let M : Pt := ⟨(W.sp (i : Int)).1 + (W.sp (j : Int)).1, (W.sp (i : Int)).2 + (W.sp (j : Int)).2, 2⟩
  let A : Pt := ⟨N * M.x + px, N * M.y + py, N * 2⟩
  have hA : ∀ l : Ln, hgt l A = N * hgt l M + (l.a * px + l.b * py) := fun l => by
    simp only [hgt, A, M]
    grind
  have hM : ∀ d ∈ Dk i W.s.length, d ≠ (j : Int) → hgt (W.ln i d) M < 0 ∨ (hgt (W.ln i d) M = 0 ∧ (W.ln i d).a * px + (W.ln i d).b * py < 0) := by
    intro d hd hdj
    rcases mem_Dk.mp hd with q | ⟨r, hr, e, rfl⟩
    · rw [ln_side q]
      exact hk d q
    · left
      rw [ln_btw]
      refine (hgt_lt (sp_ne ok hi hr fun c => e c.symm) M).mpr ?_
      have := mid_dlt (W.sp (i : Int)) (W.sp (j : Int)) (W.sp (r : Int))
      have := hc r hr e (fun c => hdj (by rw [c]))
      show dlt (W.sp (i : Int)) ⟨(W.sp (i : Int)).1 + (W.sp (j : Int)).1, (W.sp (i : Int)).2 + (W.sp (j : Int)).2, 2⟩ < dlt (W.sp (r : Int)) ⟨(W.sp (i : Int)).1 + (W.sp (j : Int)).1, (W.sp (i : Int)).2 + (W.sp (j : Int)).2, 2⟩
      omega
  refine I.gen _ jD A (by show 0 < N * 2; omega) ?_ fun d hd hdj => ?_
  · rw [ln_btw]
    refine (hgt_eq nij A).mpr ?_
    simp only [dlt, A, M, px, py]
    generalize W.sp (i : Int) = s
    generalize W.sp (j : Int) = t
    grind
  · rw [hA]
    have h1 := hN d hd
    have h1' : (W.ln i d).a * px + (W.ln i d).b * py < N := h1
    rcases hM d hd hdj with h2 | ⟨h2, h3⟩
    · have := Int.mul_le_mul_of_nonneg_left (show hgt (W.ln i d) M ≤ -1 by omega) (Int.le_of_lt n0)
      omega
    · rw [h2]
      omega
/-- two lots that share nothing and leave nothing out -/
structure Lots (W : Wd) (low high : List Int) : Prop where
  ndl : low.Nodup
  ndh : high.Nodup
  inl : ∀ d ∈ low, 0 ≤ d ∧ d < (W.s.length : Int)
  inh : ∀ d ∈ high, 0 ≤ d ∧ d < (W.s.length : Int)
  all : ∀ d : Int, 0 ≤ d → d < (W.s.length : Int) → d ∈ low ∨ d ∈ high
  apart : ∀ d ∈ low, d ∉ high
  nel : low ≠ []
  neh : high ≠ []
  lex : ∀ i ∈ low, ∀ j ∈ high, (W.sp i).1 < (W.sp j).1 ∨ ((W.sp i).1 = (W.sp j).1 ∧ (W.sp i).2 < (W.sp j).2)
theorem seam_edge (ok : W.Ok) {low high : List Int} (L : Lots W low high) : ∃ i j : Nat, (i : Int) ∈ low ∧ (j : Int) ∈ high ∧ ∀ F, LandOk W i F → (j : Int) ∈ F.map (·.2) := by
  have hne : low.flatMap (fun i => high.map fun j => (i, j)) ≠ [] := by
    obtain ⟨a, l, e⟩ := List.exists_cons_of_ne_nil L.nel
    obtain ⟨b, h, e'⟩ := List.exists_cons_of_ne_nil L.neh
    rw [e, e']
    simp
  obtain ⟨⟨i, j⟩, hm, hmin⟩ := least_of (fun p : Int × Int => far2 (W.sp p.1) (W.sp p.2)) _ hne
  have mm : ∀ a b, (a, b) ∈ low.flatMap (fun i => high.map fun j => (i, j)) ↔ a ∈ low ∧ b ∈ high := fun a b => by
    simp [List.mem_flatMap, List.mem_map]
  obtain ⟨hi, hj⟩ := (mm i j).mp hm
  obtain ⟨i0, i1⟩ := L.inl i hi
  obtain ⟨j0, j1⟩ := L.inh j hj
  have ei : ((i.toNat : Nat) : Int) = i := by omega
  have ej : ((j.toNat : Nat) : Int) = j := by omega
  refine ⟨i.toNat, j.toNat, by rw [ei]; exact hi, by rw [ej]; exact hj, fun F I => ?_⟩
  have sy : ∀ s t, far2 s t = far2 t s := fun s t => by
    simp only [far2]
    grind
  refine close_edge ok (by omega) (by omega) (fun c => L.apart i hi (by rw [← ei, c, ej]; exact hj)) (fun k hk ki kj => ?_) I
  rw [ei, ej]
  rcases L.all (k : Int) (by omega) (by omega) with q | q
  · have := hmin ((k : Int), j) ((mm _ _).mpr ⟨q, hj⟩)
    have h2 : far2 (W.sp i) (W.sp j) ≤ far2 (W.sp (k : Int)) (W.sp j) := this
    have h3 := far2_pos (sp_ne ok (show i.toNat < W.s.length by omega) hk fun c => ki c.symm)
    rw [ei] at h3
    rw [sy (W.sp j)]
    omega
  · have := hmin (i, (k : Int)) ((mm _ _).mpr ⟨hi, q⟩)
    have h2 : far2 (W.sp i) (W.sp j) ≤ far2 (W.sp i) (W.sp (k : Int)) := this
    have h3 := far2_pos (sp_ne ok (show j.toNat < W.s.length by omega) hk fun c => kj c.symm)
    rw [ej] at h3
    omega
/-! ### the seam -/
structure SRow where
  p : Pt
  q : Pt
  i : Int
  j : Int
deriving DecidableEq
def SRow.swap (r : SRow) : SRow := ⟨r.q, r.p, r.j, r.i⟩
def seamOf1 (lot : List Int) (F : List Row) (i : Int) : List SRow := ((E F).filter fun t => decide (0 ≤ t.e) && !lot.contains t.e).map fun t => ⟨t.p, t.q, i, t.e⟩
def seamOf (lot : List Int) (F : Int → List Row) : List SRow := lot.flatMap fun i => seamOf1 lot (F i) i
theorem mem_seam {lot : List Int} {F : Int → List Row} {r : SRow} : r ∈ seamOf lot F ↔ r.i ∈ lot ∧ ⟨r.p, r.j, r.q⟩ ∈ E (F r.i) ∧ 0 ≤ r.j ∧ r.j ∉ lot := by
  unfold seamOf seamOf1
  simp only [List.mem_flatMap, List.mem_map, List.mem_filter, Bool.and_eq_true, decide_eq_true_eq, Bool.not_eq_true', List.contains_eq_mem, decide_eq_false_iff_not]
  constructor
  · rintro ⟨i, hi, t, ⟨ht, h0, h1⟩, rfl⟩
    exact ⟨hi, ht, h0, h1⟩
  · rintro ⟨hi, ht, h0, h1⟩
    exact ⟨r.i, hi, ⟨r.p, r.j, r.q⟩, ⟨ht, h0, h1⟩, rfl⟩
theorem seam_nodup {lot : List Int} {F : Int → List Row} (hl : lot.Nodup) (hF : ∀ i ∈ lot, LandOk W i.toNat (F i)) : (seamOf lot F).Nodup := by
  unfold seamOf seamOf1
  refine List.pairwise_flatMap.mpr ⟨fun i hi => ?_, hl.imp fun {a b} hab x hx y hy => ?_⟩
  · have nd := (hF i hi).nod
    rw [← E_lab] at nd
    have nd2 : (E (F i)).Pairwise fun a b => a.e ≠ b.e := List.pairwise_map.mp nd
    refine List.pairwise_map.mpr ((nd2.filter _).imp fun {a b} h c => h ?_)
    exact congrArg SRow.j c
  · obtain ⟨t, _, rfl⟩ := List.mem_map.mp hx
    obtain ⟨u, _, rfl⟩ := List.mem_map.mp hy
    exact fun c => hab (congrArg SRow.i c)
theorem edge_label {i : Nat} {F : List Row} (I : LandOk W i F) {t : Tri} (ht : t ∈ E F) (h0 : 0 ≤ t.e) : ∃ j : Nat, j < W.s.length ∧ j ≠ i ∧ t.e = (j : Int) := by
  rcases mem_Dk.mp (I.el ht) with q | q
  · have := neg_sides q
    omega
  · exact q
theorem seam_sym (ok : W.Ok) {A B : List Int} (hA : ∀ d ∈ A, 0 ≤ d ∧ d < (W.s.length : Int)) (hAB : ∀ d : Int, 0 ≤ d → d < (W.s.length : Int) → d ∈ A ∨ d ∈ B) (hd : ∀ d ∈ A, d ∉ B)
    {F G : Int → List Row} (hF : ∀ i ∈ A, LandOk W i.toNat (F i)) (hG : ∀ i ∈ B, LandOk W i.toNat (G i)) {r : SRow} (h : r ∈ seamOf A F) : r.swap ∈ seamOf B G := by
  obtain ⟨h1, h2, h3, h4⟩ := mem_seam.mp h
  obtain ⟨i0, i1⟩ := hA r.i h1
  obtain ⟨j, hj, hji, ej⟩ := edge_label (hF r.i h1) h2 h3
  have ej : r.j = (j : Int) := ej
  have ei : ((r.i.toNat : Nat) : Int) = r.i := by omega
  have hB : r.j ∈ B := (hAB r.j h3 (by omega)).resolve_left h4
  have J := hG r.j hB
  have ejj : r.j.toNat = j := by omega
  rw [ejj] at J
  refine mem_seam.mpr ⟨hB, ?_, i0, hd r.i h1⟩
  have k := pair ok (show r.i.toNat < W.s.length by omega) hj (fun c => hji c.symm) (hF r.i h1) J (P := r.p) (Q := r.q) (by rw [← ej]; exact h2)
  rw [ei] at k
  exact k
/-- what the law asks -/
theorem law_seam (ok : W.Ok) {low high : List Int} (L : Lots W low high) {F G : Int → List Row} (hF : ∀ i ∈ low, LandOk W i.toNat (F i)) (hG : ∀ i ∈ high, LandOk W i.toNat (G i)) {ours others : List SRow}
    (h1 : ours.Perm (seamOf low F)) (h2 : others.Perm (seamOf high G)) :
    (∀ r ∈ ours, rises r.p r.q = true ∧ (0 ≤ r.i ∧ r.i < (W.s.length : Int)) ∧ (0 ≤ r.j ∧ r.j < (W.s.length : Int)) ∧ ((W.sp r.i).1 < (W.sp r.j).1 ∨ ((W.sp r.i).1 = (W.sp r.j).1 ∧ (W.sp r.i).2 < (W.sp r.j).2))) ∧
    (∀ r ∈ others, rises r.q r.p = true) ∧ ours ≠ [] ∧ (others.map SRow.swap).Perm ours := by
  have up : ∀ r ∈ seamOf low F, rises r.p r.q = true ∧ (0 ≤ r.i ∧ r.i < (W.s.length : Int)) ∧ (0 ≤ r.j ∧ r.j < (W.s.length : Int)) ∧ ((W.sp r.i).1 < (W.sp r.j).1 ∨ ((W.sp r.i).1 = (W.sp r.j).1 ∧ (W.sp r.i).2 < (W.sp r.j).2)) := by
    intro r hr
    obtain ⟨a1, a2, a3, a4⟩ := mem_seam.mp hr
    obtain ⟨i0, i1⟩ := L.inl r.i a1
    obtain ⟨j, hj, hji, ej⟩ := edge_label (hF r.i a1) a2 a3
    have ej : r.j = (j : Int) := ej
    have ei : ((r.i.toNat : Nat) : Int) = r.i := by omega
    have hB : r.j ∈ high := (L.all r.j a3 (by omega)).resolve_left a4
    have lx := L.lex r.i a1 r.j hB
    refine ⟨goes_up ok (show r.i.toNat < W.s.length by omega) hj (fun c => hji c.symm) (hF r.i a1) (P := r.p) (Q := r.q) (by rw [← ej]; exact a2) ?_, ⟨i0, i1⟩, ⟨a3, by omega⟩, lx⟩
    rw [ei, ← ej]
    exact lx
  have all' : ∀ d : Int, 0 ≤ d → d < (W.s.length : Int) → d ∈ high ∨ d ∈ low := fun d a b => (L.all d a b).symm
  have ap' : ∀ d ∈ high, d ∉ low := fun d a b => L.apart d b a
  have sw : ∀ r : SRow, r.swap.swap = r := fun r => rfl
  refine ⟨fun r hr => up r (h1.mem_iff.mp hr), fun r hr => ?_, fun c => ?_, ?_⟩
  · exact (up r.swap (seam_sym ok L.inh all' ap' hG hF (h2.mem_iff.mp hr))).1
  · obtain ⟨i, j, hi, hj, h⟩ := seam_edge ok L
    have I := hF (i : Int) hi
    have I' : LandOk W i (F (i : Int)) := I
    have lb := h _ I'
    rw [← E_lab] at lb
    obtain ⟨t, ht, e⟩ := List.mem_map.mp lb
    have e : t.e = (j : Int) := e
    have : (⟨t.p, t.q, (i : Int), (j : Int)⟩ : SRow) ∈ seamOf low F := mem_seam.mpr ⟨hi, by rw [← e]; exact ht, by show (0 : Int) ≤ (j : Int); omega, fun c => L.apart _ c hj⟩
    have := h1.mem_iff.mpr this
    rw [c] at this
    simp at this
  · have n1 : (others.map SRow.swap).Nodup := by
      refine List.pairwise_map.mpr ((h2.nodup_iff.mpr (seam_nodup L.ndh hG)).imp fun {a b} h c => h ?_)
      rw [← sw a, c, sw]
    have n2 : ours.Nodup := h1.nodup_iff.mpr (seam_nodup L.ndl hF)
    refine (List.perm_ext_iff_of_nodup n1 n2).mpr fun r => ?_
    constructor
    · intro hr
      obtain ⟨o, ho, rfl⟩ := List.mem_map.mp hr
      exact h1.mem_iff.mpr (seam_sym ok L.inh all' ap' hG hF (h2.mem_iff.mp ho))
    · intro hr
      refine List.mem_map.mpr ⟨r.swap, h2.mem_iff.mpr (seam_sym ok L.inl L.all L.apart hF hG (h1.mem_iff.mp hr)), sw r⟩
/-! ### sizes -/
theorem nodup_le : ∀ {l m : List Int}, l.Nodup → (∀ x ∈ l, x ∈ m) → l.length ≤ m.length
  | [], m, _, _ => Nat.zero_le _
  | a :: l, m, hn, h => by
    have ha := h a List.mem_cons_self
    obtain ⟨h1, h2⟩ := List.nodup_cons.mp hn
    have k := nodup_le (m := m.erase a) h2 fun x hx => (List.mem_erase_of_ne (fun c : x = a => h1 (by rw [← c]; exact hx))).mpr (h x (List.mem_cons_of_mem _ hx))
    rw [List.length_erase_of_mem ha] at k
    have : 0 < m.length := List.length_pos_of_mem ha
    rw [List.length_cons]
    omega
theorem Dk_len (i : Nat) : ∀ k, (Dk i k).length ≤ 4 + k
  | 0 => Nat.le_refl 4
  | k + 1 => by
    have := Dk_len i k
    by_cases h : k = i
    · rw [Dk_same h]
      omega
    · rw [Dk_succ h, List.length_cons]
      omega
theorem Inv.len {i k : Nat} {F : List Row} (I : Inv (W.ln i) (Dk i k) F) : F.length ≤ 4 + k := by
  have h1 := nodup_le I.nod fun x hx => by
    obtain ⟨r, hr, rfl⟩ := List.mem_map.mp hx
    exact I.lab r hr
  rw [List.length_map] at h1
  exact Nat.le_trans h1 (Dk_len i k)
theorem nat_of_div {g u : Int} {n : Nat} (hg : 0 < g) (h : (g * u).natAbs < n) : u.natAbs < n := by
  rw [Int.natAbs_mul] at h
  have : 1 * u.natAbs ≤ g.natAbs * u.natAbs := Nat.mul_le_mul_right _ (by omega)
  omega
theorem sp_lt (ok : W.Ok) {j : Nat} (h : j < W.s.length) : (W.sp (j : Int)).1.natAbs < 2 ^ CB ∧ (W.sp (j : Int)).2.natAbs < 2 ^ CB := by
  obtain ⟨a, b, c, d⟩ := ok.inb _ (sp_mem h)
  have h1 := ok.bx
  have h2 := ok.by_
  have h3 := ok.bu
  have h4 := ok.bv
  constructor <;> omega
theorem sub_lt {a b : Int} {n : Nat} (ha : a.natAbs < 2 ^ n) (hb : b.natAbs < 2 ^ n) : (a - b).natAbs < 2 ^ (n + 1) := by
  rw [Nat.pow_succ]
  omega
theorem add_lt {a b : Int} {n : Nat} (ha : a.natAbs < 2 ^ n) (hb : b.natAbs < 2 ^ n) : (a + b).natAbs < 2 ^ (n + 1) := by
  rw [Nat.pow_succ]
  omega
theorem mul_lt {a b : Int} {n m : Nat} (ha : a.natAbs < 2 ^ n) (hb : b.natAbs < 2 ^ m) : (a * b).natAbs < 2 ^ (n + m) := by
  rw [Int.natAbs_mul, Nat.pow_add]
  exact Nat.mul_lt_mul'' ha hb
theorem up_lt {a : Int} {n m : Nat} (h : n ≤ m) (ha : a.natAbs < 2 ^ n) : a.natAbs < 2 ^ m := Nat.lt_of_lt_of_le ha (Nat.pow_le_pow_right (by decide) h)
/-- the numbers of a line, of a corner -/
abbrev LB : Nat := 184
abbrev PB : Nat := 370
theorem raw_lt {s t : Int × Int} (hs : s.1.natAbs < 2 ^ CB ∧ s.2.natAbs < 2 ^ CB) (ht : t.1.natAbs < 2 ^ CB ∧ t.2.natAbs < 2 ^ CB) :
    (2 * (t.1 - s.1)).natAbs < 2 ^ LB ∧ (2 * (t.2 - s.2)).natAbs < 2 ^ LB ∧ (t.1 * t.1 + t.2 * t.2 - s.1 * s.1 - s.2 * s.2).natAbs < 2 ^ LB := by
  have two : ((2 : Int)).natAbs < 2 ^ 2 := by decide
  refine ⟨up_lt (by decide) (mul_lt two (sub_lt ht.1 hs.1)), up_lt (by decide) (mul_lt two (sub_lt ht.2 hs.2)), ?_⟩
  exact up_lt (by decide) (sub_lt (sub_lt (add_lt (mul_lt ht.1 ht.1) (mul_lt ht.2 ht.2)) (up_lt (Nat.le_succ _) (mul_lt hs.1 hs.1))) (up_lt (Nat.le_add_right _ 2) (mul_lt hs.2 hs.2)))
def LnLt (l : Ln) : Prop := l.a.natAbs < 2 ^ LB ∧ l.b.natAbs < 2 ^ LB ∧ l.c.natAbs < 2 ^ LB
def PtLt (p : Pt) : Prop := p.x.natAbs < 2 ^ PB ∧ p.y.natAbs < 2 ^ PB ∧ p.w.natAbs < 2 ^ PB
theorem btw_lt {s t : Int × Int} (h : s ≠ t) (hs : s.1.natAbs < 2 ^ CB ∧ s.2.natAbs < 2 ^ CB) (ht : t.1.natAbs < 2 ^ CB ∧ t.2.natAbs < 2 ^ CB) : LnLt (btw s t) := by
  obtain ⟨r1, r2, r3⟩ := raw_lt hs ht
  obtain ⟨m1, m2, m3⟩ := btw_mul s t
  have g := btg_pos h
  exact ⟨nat_of_div g (by rw [m1]; exact r1), nat_of_div g (by rw [m2]; exact r2), nat_of_div g (by rw [m3]; exact r3)⟩
theorem side_lt (ok : W.Ok) {d : Int} (h : d ∈ sides) : LnLt (W.side d) := by
  have z : (0 : Int).natAbs < 2 ^ LB := by decide
  have o : (1 : Int).natAbs < 2 ^ LB := by decide
  have o' : (-1 : Int).natAbs < 2 ^ LB := by decide
  have u : ∀ {a : Int}, a.natAbs < 2 ^ CB → a.natAbs < 2 ^ LB := fun h => up_lt (by decide) h
  have n : ∀ {a : Int}, a.natAbs < 2 ^ LB → (-a).natAbs < 2 ^ LB := fun h => by rw [Int.natAbs_neg]; exact h
  rcases mem_sides.mp h with c | c | c | c <;> subst c
  · rw [side1]
    exact ⟨z, o', n (u ok.by_)⟩
  · rw [side2]
    exact ⟨o, z, u ok.bu⟩
  · rw [side3]
    exact ⟨z, o, u ok.bv⟩
  · rw [side4]
    exact ⟨o', z, n (u ok.bx)⟩
theorem ln_lt (ok : W.Ok) {i k : Nat} (hi : i < W.s.length) (hk : k ≤ W.s.length) {d : Int} (h : d ∈ Dk i k) : LnLt (W.ln i d) := by
  rcases mem_Dk.mp h with q | ⟨j, h1, h2, rfl⟩
  · rw [ln_side q]
    exact side_lt ok q
  · rw [ln_btw]
    exact btw_lt (sp_ne ok hi (by omega) fun c => h2 c.symm) (sp_lt ok hi) (sp_lt ok (by omega))
theorem corner_lt (ok : W.Ok) {i k : Nat} (hi : i < W.s.length) (hk : k ≤ W.s.length) {F : List Row} (I : Inv (W.ln i) (Dk i k) F) {r : Row} (hr : r ∈ F) : PtLt r.1 := by
  obtain ⟨d1, m1, d2, m2, e1, e2, hc⟩ := I.vert r hr
  have l1 := ln_lt ok hi hk m1
  have l2 := ln_lt ok hi hk m2
  have nn := I.nrmd r hr
  generalize W.ln i d1 = l at *
  generalize W.ln i d2 = m at *
  let X : Int := l.c * m.b - m.c * l.b
  let Y : Int := l.a * m.c - m.a * l.c
  have q1 : r.1.x * crs l m = X * r.1.w := by
    simp only [hgt, crs, X] at *
    grind
  have q2 : r.1.y * crs l m = Y * r.1.w := by
    simp only [hgt, crs, Y] at *
    grind
  have dv : r.1.w ∣ crs l m := dvd_w (q := ⟨X, Y, crs l m⟩) nn q1 q2
  have bc : (crs l m).natAbs < 2 ^ PB := up_lt (by decide) (sub_lt (mul_lt l1.1 l2.2.1) (mul_lt l1.2.1 l2.1))
  have bX : X.natAbs < 2 ^ PB := up_lt (by decide) (sub_lt (mul_lt l1.2.2 l2.2.1) (mul_lt l2.2.2 l1.2.1))
  have bY : Y.natAbs < 2 ^ PB := up_lt (by decide) (sub_lt (mul_lt l1.1 l2.2.2) (mul_lt l2.1 l1.2.2))
  have cp : 0 < (crs l m).natAbs := by omega
  have bw : r.1.w.natAbs ≤ (crs l m).natAbs := Nat.le_of_dvd cp (Int.natAbs_dvd_natAbs.mpr dv)
  have le : ∀ {a b : Int}, a * crs l m = b * r.1.w → a.natAbs ≤ b.natAbs := fun {a b} h => by
    have k := congrArg Int.natAbs h
    rw [Int.natAbs_mul, Int.natAbs_mul] at k
    have k2 : b.natAbs * r.1.w.natAbs ≤ b.natAbs * (crs l m).natAbs := Nat.mul_le_mul_left _ bw
    rw [← k] at k2
    exact Nat.le_of_mul_le_mul_right k2 cp
  exact ⟨Nat.lt_of_le_of_lt (le q1) bX, Nat.lt_of_le_of_lt (le q2) bY, Nat.lt_of_le_of_lt bw bc⟩
end
end SM

set_option Elab.async false
set_option linter.all false
set_option maxRecDepth 100000
set_option maxHeartbeats 4000000
namespace Wk
open PySem PySem.Spec PyProof.Rows L2
/-! ### the text by places -/
def topS (i : Nat) : Stmt := PySem.Challenge.pw_nearlands_k44_whole_seam_never_goes_down.main.body.getD i (.Pass ⟨0, 0, 0, 0⟩)
abbrev sDivisor : Stmt := topS 9
abbrev sPointOf : Stmt := topS 10
abbrev sAhead : Stmt := topS 11
abbrev sLineOf : Stmt := topS 13
abbrev sAxis : Stmt := topS 14
abbrev sBetween : Stmt := topS 15
abbrev sHeightOf : Stmt := topS 16
abbrev sIsWhole : Stmt := topS 19
abbrev sLookBox : Stmt := topS 20
abbrev sBoxField : Stmt := topS 21
abbrev sBegun : Stmt := topS 22
abbrev sCrossing : Stmt := topS 23
abbrev sCut : Stmt := topS 24
abbrev sLiesIn : Stmt := topS 27
abbrev sLookSpots : Stmt := topS 28
abbrev sLookCount : Stmt := topS 29
abbrev sLookAt : Stmt := topS 30
abbrev sLandAmong : Stmt := topS 32
abbrev sLookLot : Stmt := topS 34
abbrev sIsSooner : Stmt := topS 35
abbrev sSeam : Stmt := topS 36
abbrev sHalves : Stmt := topS 37
abbrev sFeed : Stmt := topS 39
abbrev sDraw : Stmt := topS 40
abbrev sGreat : Stmt := topS 41
abbrev sScale : Stmt := topS 42
abbrev sSpot : Stmt := topS 43
abbrev sDozen : Stmt := topS 44
abbrev sSpots : Stmt := topS 45
abbrev sWorld : Stmt := topS 46
abbrev sRises : Stmt := topS 47
abbrev sLaw : Stmt := topS 48
/-! ### a def that stands behind the top and keeps its promise -/
structure Def (P : Program) (w : World) (K : PySem.W.Frag) (mg : Str → Option Value) (base : Heap) (k : Nat) (x : Str) (ps : List Str) (sp : Sp) : Prop where
  ex : ∃ f fd, mg x = some (.ref f) ∧ PySem.W.keepIn K (.ref f) = true ∧ Binds K fd ps [] ∧ FnOk P w K mg base CX0 k f fd ps sp
theorem Def.mono {P : Program} {w : World} {K : PySem.W.Frag} {mg : Str → Option Value} {base : Heap} {j k : Nat} {x : Str} {ps : List Str} {sp : Sp} (D : Def P w K mg base j x ps sp) (h : j ≤ k) : Def P w K mg base k x ps sp := by
  obtain ⟨f, fd, a, b, c, d⟩ := D.ex
  exact ⟨f, fd, a, b, c, d.mono h⟩
theorem pe_def {X : Cx} {k : Nat} {x : Str} {ps : List Str} {sp : Sp} {p pos : Pos} {e : Expr} {es : List Expr} {t : TA} (D : Def X.prog X.w X.K X.mg X.base k x ps sp) (hr : Room k X.A) (ha : PA X (e :: es) t) (hg : Gl X x := by rfl)
    (he : starEach (e :: es) X.env = (false, eval e X.env) :: starEach es X.env := by rfl)
    (hpl : (backTo pos (starEach es X.env)).any (·.1) = false := by rfl)
    (hdb : (x == ("__debug__" : Str)) = false := by decide) :
    PE X (.Call (.Name x p) (e :: es) [] pos) (tCall sp [] E0 t) := by
  obtain ⟨f, fd, a, b, c, d⟩ := D.ex
  exact pe_call d hr hg a b c .nil pass0 ha hdb he hpl
/-! ### objects that stand as they are -/
section
variable {H H' : Hp}
/-- a tuple of whole numbers -/
def TI (H : Hp) (v : V) (ns : List Int) : Prop := ∃ t, v = .ref t ∧ H t = some (.tup (ns.map V.int))
def IsPt (H : Hp) (v : V) (p : SM.Pt) : Prop := TI H v [p.x, p.y, p.w]
def IsLn (H : Hp) (v : V) (l : SM.Ln) : Prop := TI H v [l.a, l.b, l.c]
def IsSp (H : Hp) (v : V) (s : Int × Int) : Prop := TI H v [s.1, s.2]
theorem TI.keep {v : V} {ns : List Int} (s : Same H H') (h : TI H v ns) : TI H' v ns := by
  obtain ⟨t, e, h⟩ := h
  exact ⟨t, e, s _ _ h⟩
/-- a list of objects, one for each datum -/
def Each {α : Type} (R : Hp → V → α → Prop) (H : Hp) : List V → List α → Prop
  | [], [] => True
  | v :: vs, x :: xs => R H v x ∧ Each R H vs xs
  | _, _ => False
theorem Each.keep {α : Type} {R : Hp → V → α → Prop} (hR : ∀ v x, R H v x → R H' v x) : ∀ {vs : List V} {xs : List α}, Each R H vs xs → Each R H' vs xs
  | [], [], _ => trivial
  | _ :: _, _ :: _, h => ⟨hR _ _ h.1, Each.keep hR h.2⟩
  | [], _ :: _, h => h.elim
  | _ :: _, [], h => h.elim
theorem Each.len {α : Type} {R : Hp → V → α → Prop} : ∀ {vs : List V} {xs : List α}, Each R H vs xs → vs.length = xs.length
  | [], [], _ => rfl
  | _ :: _, _ :: _, h => congrArg (· + 1) h.2.len
  | [], _ :: _, h => h.elim
  | _ :: _, [], h => h.elim
theorem Each.get {α : Type} {R : Hp → V → α → Prop} : ∀ {vs : List V} {xs : List α} {i : Nat} {x : α}, Each R H vs xs → xs[i]? = some x → ∃ v, vs[i]? = some v ∧ R H v x
  | [], [], _, _, _, e => by simp at e
  | v :: _, y :: _, 0, x, h, e => by
    simp at e
    subst e
    exact ⟨v, rfl, h.1⟩
  | _ :: vs, _ :: xs, i + 1, x, h, e => by
    have e' : xs[i]? = some x := by simpa using e
    obtain ⟨v, a, b⟩ := Each.get h.2 e'
    exact ⟨v, by simpa using a, b⟩
  | [], _ :: _, _, _, h, _ => h.elim
  | _ :: _, [], _, _, h, _ => h.elim
theorem Each.getV {α : Type} {R : Hp → V → α → Prop} : ∀ {vs : List V} {xs : List α} {i : Nat} {v : V}, Each R H vs xs → vs[i]? = some v → ∃ x, xs[i]? = some x ∧ R H v x
  | [], [], _, _, _, e => by simp at e
  | v :: _, y :: _, 0, x, h, e => by
    simp at e
    subst e
    exact ⟨y, rfl, h.1⟩
  | _ :: vs, _ :: xs, i + 1, x, h, e => by
    have e' : vs[i]? = some x := by simpa using e
    obtain ⟨v, a, b⟩ := Each.getV h.2 e'
    exact ⟨v, by simpa using a, b⟩
  | [], _ :: _, _, _, h, _ => h.elim
  | _ :: _, [], _, _, h, _ => h.elim
theorem Each.app {α : Type} {R : Hp → V → α → Prop} : ∀ {vs ws : List V} {xs ys : List α}, Each R H vs xs → Each R H ws ys → Each R H (vs ++ ws) (xs ++ ys)
  | [], _, [], _, _, h => h
  | _ :: _, _, _ :: _, _, h, h' => ⟨h.1, Each.app h.2 h'⟩
  | [], _, _ :: _, _, h, _ => h.elim
  | _ :: _, _, [], _, h, _ => h.elim
theorem Each.drop {α : Type} {R : Hp → V → α → Prop} : ∀ {vs : List V} {xs : List α} (n : Nat), Each R H vs xs → Each R H (vs.drop n) (xs.drop n)
  | _, _, 0, h => h
  | [], [], _ + 1, _ => trivial
  | _ :: _, _ :: _, n + 1, h => Each.drop n h.2
  | [], _ :: _, _, h => h.elim
  | _ :: _, [], _, h => h.elim
theorem Each.take {α : Type} {R : Hp → V → α → Prop} : ∀ {vs : List V} {xs : List α} (n : Nat), Each R H vs xs → Each R H (vs.take n) (xs.take n)
  | _, _, 0, _ => trivial
  | [], [], _ + 1, _ => trivial
  | _ :: _, _ :: _, n + 1, h => ⟨h.1, Each.take n h.2⟩
  | [], _ :: _, _, h => h.elim
  | _ :: _, [], _, h => h.elim
theorem same_upd {p : Addr} {o : HO} (h : H p = none) : Same H (upd H p o) := fun b x e => by
  rw [upd_ne (ne_of_none e h)]
  exact e
theorem IsPt.keep {v : V} {p : SM.Pt} (s : Same H H') (h : IsPt H v p) : IsPt H' v p := TI.keep s h
theorem IsLn.keep {v : V} {p : SM.Ln} (s : Same H H') (h : IsLn H v p) : IsLn H' v p := TI.keep s h
theorem IsSp.keep {v : V} {p : Int × Int} (s : Same H H') (h : IsSp H v p) : IsSp H' v p := TI.keep s h
end
end Wk

set_option Elab.async false
set_option linter.all false
set_option maxRecDepth 100000
set_option maxHeartbeats 4000000
namespace Wk
open PySem PySem.Spec PyProof.Rows L2
theorem gcd_mod {a b : Int} (ha : 0 ≤ a) (hb : 0 < b) : Int.gcd b (a.fmod b) = Int.gcd a b := by
  rw [Int.fmod_eq_emod_of_nonneg a (Int.le_of_lt hb)]
  obtain ⟨m, rfl⟩ := Int.eq_ofNat_of_zero_le ha
  obtain ⟨n, rfl⟩ := Int.eq_ofNat_of_zero_le (Int.le_of_lt hb)
  rw [← Int.natCast_emod]
  show Nat.gcd n (m % n) = Nat.gcd m n
  rw [Nat.gcd_comm m n, Nat.gcd_rec n m, Nat.gcd_comm]
theorem gcd_abs (a b : Int) : Int.gcd (if a < 0 then -a else a) (if b < 0 then -b else b) = Int.gcd a b := by
  split <;> split <;> simp
section
variable {P : Program} {w : World} {K : PySem.W.Frag} {mg : Str → Option Value} {base : Heap} {f : Addr} {fd : FuncData}
/-! ### divisor -/
theorem scDivisor : FnScope ["one", "other"] ["one", "other"] (defScope sDivisor) := ⟨rfl, rfl, rfl, by decide +kernel, rfl, by decide +kernel, by decide +kernel⟩
def spDivisor : Sp := fun vs H Q _ => ∃ a b : Int, vs = [.int a, .int b] ∧ Q (.int (Int.gcd a b : Nat)) H
theorem d_divisor (F : Fun K "divisor" "divisor" sDivisor f fd) (g : mg "divisor" = some (.ref f)) (mabs : mg "abs" = none) : Def P w K mg base 1 "divisor" ["one", "other"] spDivisor := by
  refine ⟨f, fd, g, F.kp, F.binds (ps := ["one", "other"]) fun _ _ _ _ _ _ us hl => match us, hl with | [_, _], _ => rfl, ?_⟩
  refine F.ok scDivisor (fun vs H Q E h => ?_) (fun cdv A outer s H vs Q E hr h => ?_)
  · obtain ⟨a, b, rfl, _⟩ := h
    rfl
  · obtain ⟨a, b, rfl, q⟩ := h
    refine ⟨_, pss_cons (ps_par (i := 0) (j := 1) rfl scDivisor.nd rfl rfl (by decide) rfl rfl (pa_cons (pe_callB call_abs (by rfl) mabs (by decide +kernel) (pa_cons (pv 0) pa_nil)) (pa_cons (pe_callB call_abs (by rfl) mabs (by decide +kernel) (pa_cons (pv 1) pa_nil)) pa_nil)) (by rfl))
      (pss_cons (ps_while PassesOwn.never (pt_cmpR op_gt (pv 1) pe_int (nomark _)) (pss_one (ps_par (i := 0) (j := 1) rfl scDivisor.nd rfl rfl (by decide) rfl rfl (pa_cons (pv 1) (pa_cons (pe_op op_modN (pv 0) (pv 1)) pa_nil)) (by rfl))))
      (pss_one (ps_ret (pv 0)))), ?_⟩
    refine ⟨_, rfl, _, rfl, _, rfl, _, rfl, _, _, rfl, ?_⟩
    refine ⟨fun m σ H' => H' = H ∧ ∃ x y : Int, σ = [some (.int x), some (.int y)] ∧ 0 ≤ x ∧ 0 ≤ y ∧ Int.gcd x y = Int.gcd a b ∧ m = y.toNat, ⟨_, rfl, _, _, rfl, by split <;> omega, by split <;> omega, gcd_abs a b, rfl⟩, ?_⟩
    rintro m σ H' ⟨rfl, x, y, rfl, hx, hy, hg, rfl⟩
    refine ⟨_, rfl, _, _, rfl, rfl, _, rfl, ite2 (fun c => ?_) (fun c => ?_)⟩
    · have hp : 0 < y := of_decide_eq_true c
      refine ⟨fun σ' H'' => H'' = H' ∧ σ' = [some (.int y), some (.int (x.fmod y))], ?_, ?_⟩
      · rintro σ' H'' ⟨rfl, rfl⟩
        have h1 := Int.fmod_nonneg_of_pos x hp
        have h2 := Int.fmod_lt_of_pos x hp
        exact ⟨(x.fmod y).toNat, by omega, rfl, _, _, rfl, hy, h1, by rw [gcd_mod hx hp, hg], rfl⟩
      · exact ⟨_, rfl, _, rfl, _, rfl, _, _, rfl, rfl, (by omega), _, _, rfl, rfl, rfl⟩
    · have h0 : y = 0 := by
        have : ¬ 0 < y := fun h => c (decide_eq_true h)
        omega
      refine ⟨_, rfl, ?_⟩
      have e : x = ((Int.gcd a b : Nat) : Int) := by
        rw [← hg, h0, Int.gcd_zero_right]
        omega
      rw [e]
      exact q
/-! ### point_of, line_of -/
theorem scPointOf : FnScope ["x", "y", "w", "by"] ["x", "y", "w"] (defScope sPointOf) := ⟨rfl, rfl, rfl, by decide +kernel, rfl, by decide +kernel, by decide +kernel⟩
abbrev DB : Nat := 2000
def spPointOf : Sp := fun vs H Q _ => ∃ x y w : Int, vs = [.int x, .int y, .int w] ∧ 0 < w ∧ w.natAbs < 2 ^ DB ∧ ∀ p, H p = none → Q (.ref p) (upd H p (.tup [.int (SM.ptOf x y w).x, .int (SM.ptOf x y w).y, .int (SM.ptOf x y w).w]))
theorem gcd_lt {a b : Int} {n : Nat} (hb : b ≠ 0) (h : b.natAbs < 2 ^ n) : ((Int.gcd a b : Nat) : Int).natAbs < 2 ^ n := by
  have : Int.gcd a b ≤ b.natAbs := Nat.le_of_dvd (by omega) (Nat.gcd_dvd_right _ _)
  omega
theorem d_pointOf (F : Fun K "point_of" "point_of" sPointOf f fd) (g : mg "point_of" = some (.ref f)) (dd : Def P w K mg base 1 "divisor" ["one", "other"] spDivisor) : Def P w K mg base 2 "point_of" ["x", "y", "w"] spPointOf := by
  refine ⟨f, fd, g, F.kp, F.binds (ps := ["x", "y", "w"]) fun _ _ _ _ _ _ us hl => match us, hl with | [_, _, _], _ => rfl, ?_⟩
  refine F.ok scPointOf (fun vs H Q E h => ?_) (fun cdv A outer s H vs Q E hr h => ?_)
  · obtain ⟨a, b, c, rfl, _⟩ := h
    rfl
  · obtain ⟨x, y, w, rfl, hw, hl, q⟩ := h
    refine ⟨_, pss_cons (ps_if (pt_cmpR op_eq (pv 2) pe_int (nomark _)) (pss_one ps_never) pss_nil)
      (pss_cons (ps_set (i := 3) scPointOf.nd rfl (Or.inl rfl) (pe_def dd hr (pa_cons (pe_def dd hr (pa_cons (pv 0) (pa_cons (pv 1) pa_nil))) (pa_cons (pv 2) pa_nil))))
      (pss_cons (ps_if (pt_cmpR op_lt (pv 2) pe_int (nomark _)) (pss_one (ps_set (i := 3) scPointOf.nd rfl (Or.inl rfl) (pe_op op_sub pe_int (pv 3)))) pss_nil)
      (pss_one (ps_ret (pe_tup (pa_cons (pe_op op_fdivW (pv 0) (pv 3)) (pa_cons (pe_op op_fdivW (pv 1) (pv 3)) (pa_cons (pe_op op_fdivW (pv 2) (pv 3)) pa_nil)))))))), ?_⟩
    refine ⟨_, rfl, rfl, _, rfl, ite2 (fun c => ?_) (fun _ => ?_)⟩
    · have : V.int w = V.int 0 := of_decide_eq_true c
      have : w = 0 := by injection this
      omega
    refine ⟨_, rfl, _, rfl, _, _, rfl, _, rfl, _, _, rfl, ?_⟩
    refine ⟨_, rfl, _, _, rfl, rfl, _, rfl, ite2 (fun c => ?_) (fun _ => ?_)⟩
    · have : w < 0 := of_decide_eq_true c
      omega
    have gp : 0 < SM.gcd3 x y w := SM.gcd3_pos (.inr (.inr (by omega)))
    have gl : (SM.gcd3 x y w).natAbs < 2 ^ DB := gcd_lt (by omega) hl
    have cd : ∀ i, CDivW i (SM.gcd3 x y w) := fun i => wide_div gp gl (by decide) (by decide)
    refine ⟨_, rfl, _, rfl, _, _, rfl, rfl, cd _, _, rfl, _, rfl, _, _, rfl, rfl, cd _, _, rfl, _, rfl, _, _, rfl, rfl, cd _, (by show 3 ≤ sizeLine; decide), fun p hp => ?_⟩
    exact q p hp
theorem scLineOf : FnScope ["a", "b", "c", "by"] ["a", "b", "c"] (defScope sLineOf) := ⟨rfl, rfl, rfl, by decide +kernel, rfl, by decide +kernel, by decide +kernel⟩
def spLineOf : Sp := fun vs H Q _ => ∃ a b c : Int, vs = [.int a, .int b, .int c] ∧ ¬ (a = 0 ∧ b = 0) ∧ a.natAbs < 2 ^ DB ∧ b.natAbs < 2 ^ DB ∧ ∀ p, H p = none → Q (.ref p) (upd H p (.tup [.int (SM.lnOf a b c).a, .int (SM.lnOf a b c).b, .int (SM.lnOf a b c).c]))
theorem gcd3_lt {a b c : Int} {n : Nat} (h : ¬ (a = 0 ∧ b = 0)) (ha : a.natAbs < 2 ^ n) (hb : b.natAbs < 2 ^ n) : (SM.gcd3 a b c).natAbs < 2 ^ n := by
  obtain ⟨d1, d2, _⟩ := SM.gcd3_dvd a b c
  by_cases h1 : a = 0
  · have := Nat.le_of_dvd (by omega) (Int.natAbs_dvd_natAbs.mpr d2)
    omega
  · have := Nat.le_of_dvd (by omega) (Int.natAbs_dvd_natAbs.mpr d1)
    omega
theorem d_lineOf (F : Fun K "line_of" "line_of" sLineOf f fd) (g : mg "line_of" = some (.ref f)) (dd : Def P w K mg base 1 "divisor" ["one", "other"] spDivisor) : Def P w K mg base 2 "line_of" ["a", "b", "c"] spLineOf := by
  refine ⟨f, fd, g, F.kp, F.binds (ps := ["a", "b", "c"]) fun _ _ _ _ _ _ us hl => match us, hl with | [_, _, _], _ => rfl, ?_⟩
  refine F.ok scLineOf (fun vs H Q E h => ?_) (fun cdv A outer s H vs Q E hr h => ?_)
  · obtain ⟨a, b, c, rfl, _⟩ := h
    rfl
  · obtain ⟨a, b, c, rfl, h0, ha, hb, q⟩ := h
    refine ⟨_, pss_cons (ps_if (PW.pt (pw_and (pt_cmpR op_eq (pv 0) pe_int (nomark _)) (pw_and1 (pt_cmpR op_eq (pv 1) pe_int (nomark _))))) (pss_one ps_never) pss_nil)
      (pss_cons (ps_set (i := 3) scLineOf.nd rfl (Or.inl rfl) (pe_def dd hr (pa_cons (pe_def dd hr (pa_cons (pv 0) (pa_cons (pv 1) pa_nil))) (pa_cons (pv 2) pa_nil))))
      (pss_one (ps_ret (pe_tup (pa_cons (pe_op op_fdivW (pv 0) (pv 3)) (pa_cons (pe_op op_fdivW (pv 1) (pv 3)) (pa_cons (pe_op op_fdivW (pv 2) (pv 3)) pa_nil))))))), ?_⟩
    have rest : ∀ (t : Prop), t → t := fun _ h => h
    have gp : 0 < SM.gcd3 a b c := SM.gcd3_pos (by omega)
    have gl : (SM.gcd3 a b c).natAbs < 2 ^ DB := gcd3_lt h0 ha hb
    have cd : ∀ i, CDivW i (SM.gcd3 a b c) := fun i => wide_div gp gl (by decide) (by decide)
    refine ⟨_, rfl, rfl, _, rfl, ite2 (fun c1 => ?_) (fun c1 => ?_)⟩
    · refine ⟨_, rfl, rfl, _, rfl, ite2 (fun c2 => ?_) (fun c2 => ?_)⟩
      · have e1 : V.int a = V.int 0 := of_decide_eq_true c1
        have e2 : V.int b = V.int 0 := of_decide_eq_true c2
        injection e1 with e1
        injection e2 with e2
        exact absurd ⟨e1, e2⟩ h0
      · refine ⟨_, rfl, _, rfl, _, _, rfl, _, rfl, _, _, rfl, ?_⟩
        refine ⟨_, rfl, _, rfl, _, _, rfl, rfl, cd _, _, rfl, _, rfl, _, _, rfl, rfl, cd _, _, rfl, _, rfl, _, _, rfl, rfl, cd _, (by show 3 ≤ sizeLine; decide), fun p hp => ?_⟩
        exact q p hp
    · refine iteF ?_
      refine ⟨_, rfl, _, rfl, _, _, rfl, _, rfl, _, _, rfl, ?_⟩
      refine ⟨_, rfl, _, rfl, _, _, rfl, rfl, cd _, _, rfl, _, rfl, _, _, rfl, rfl, cd _, _, rfl, _, rfl, _, _, rfl, rfl, cd _, (by show 3 ≤ sizeLine; decide), fun p hp => ?_⟩
      exact q p hp
end
end Wk

set_option Elab.async false
set_option linter.all false
set_option maxRecDepth 100000
set_option maxHeartbeats 4000000
namespace Wk
open PySem PySem.Spec PyProof.Rows L2
theorem ixT {K : PySem.W.Frag} {H : Hp} {t : Addr} {xs : List V} {v : V} {i : Int} {Q : VK} (j : Nat) (h : H t = some (.tup xs)) (hv : xs[j]? = some v) (q : Q v H) (e : i = (j : Int) := by rfl) : rIxT K (.ref t) (.int i) H Q := ⟨t, xs, i, v, rfl, rfl, SqT.of h, at_of e hv, q⟩
theorem ixL {K : PySem.W.Frag} {H : Hp} {t : Addr} {xs : List V} {v : V} {i : Int} {Q : VK} (j : Nat) (h : H t = some (.lst xs)) (e : i = (j : Int)) (hv : xs[j]? = some v) (q : Q v H) : rIxL K (.ref t) (.int i) H Q := ⟨t, xs, i, v, rfl, rfl, SqL.of h, at_of e hv, q⟩
abbrev MW (i j : Int) : Prop := CMulW i j
theorem mw {i j : Int} {a : Nat} (hi : i.natAbs < 2 ^ a) (hj : j.natAbs < 2 ^ a) (h0 : 0 < a) (h : a ≤ 5000) : CMulW i j := wide_mul hi hj h0 h0 (by omega)
section
variable {P : Program} {w : World} {K : PySem.W.Frag} {mg : Str → Option Value} {base : Heap} {f : Addr} {fd : FuncData}
def PtS (n : Nat) (p : SM.Pt) : Prop := p.x.natAbs < 2 ^ n ∧ p.y.natAbs < 2 ^ n ∧ p.w.natAbs < 2 ^ n
/-! ### ahead -/
theorem scAhead : FnScope ["one", "other", "left", "right"] ["one", "other"] (defScope sAhead) := ⟨rfl, rfl, rfl, by decide +kernel, rfl, by decide +kernel, by decide +kernel⟩
def spAhead : Sp := fun vs H Q _ => ∃ (v u : V) (p q : SM.Pt), vs = [v, u] ∧ IsPt H v p ∧ IsPt H u q ∧ PtS 1000 p ∧ PtS 1000 q ∧ ∀ b, Q (.bl b) H
theorem d_ahead (F : Fun K "ahead" "ahead" sAhead f fd) (g : mg "ahead" = some (.ref f)) : Def P w K mg base 1 "ahead" ["one", "other"] spAhead := by
  refine ⟨f, fd, g, F.kp, F.binds (ps := ["one", "other"]) fun _ _ _ _ _ _ us hl => match us, hl with | [_, _], _ => rfl, ?_⟩
  refine F.ok scAhead (fun vs H Q E h => ?_) (fun cdv A outer s H vs Q E hr h => ?_)
  · obtain ⟨a, b, _, _, rfl, _⟩ := h
    rfl
  · obtain ⟨_, _, p, q, rfl, ⟨t, rfl, hp⟩, ⟨u, rfl, hq⟩, sp, sq, k⟩ := h
    have ix : ∀ (i : Nat) (j : Nat), True := fun _ _ => trivial
    refine ⟨_, pss_cons (ps_set (i := 2) scAhead.nd rfl (Or.inl rfl) (pe_op op_mulW (pe_ix ix_tup (pv 0) pe_int (fun _ _ => rfl)) (pe_ix ix_tup (pv 1) pe_int (fun _ _ => rfl))))
      (pss_cons (ps_set (i := 3) scAhead.nd rfl (Or.inl rfl) (pe_op op_mulW (pe_ix ix_tup (pv 1) pe_int (fun _ _ => rfl)) (pe_ix ix_tup (pv 0) pe_int (fun _ _ => rfl))))
      (pss_cons (ps_if (pt_cmpR op_ne (pv 2) (pv 3) (nomark _)) (pss_one (ps_ret (pe_cmpR op_lt (pv 2) (pv 3) (nomark _)))) pss_nil)
      (pss_one (ps_ret (pe_cmpR op_lt (pe_op op_mulW (pe_ix ix_tup (pv 0) pe_int (fun _ _ => rfl)) (pe_ix ix_tup (pv 1) pe_int (fun _ _ => rfl))) (pe_op op_mulW (pe_ix ix_tup (pv 1) pe_int (fun _ _ => rfl)) (pe_ix ix_tup (pv 0) pe_int (fun _ _ => rfl))) (nomark _)))))), ?_⟩
    refine ⟨.ref t, rfl, t, _, 0, _, rfl, rfl, SqT.of hp, atI_nat (j := 0) rfl, .ref u, rfl, u, _, 2, _, rfl, rfl, SqT.of hq, atI_nat (j := 2) rfl, _, _, rfl, rfl, mw sp.1 sq.2.2 (by decide) (by decide), ?_⟩
    refine ⟨.ref u, rfl, u, _, 0, _, rfl, rfl, SqT.of hq, atI_nat (j := 0) rfl, .ref t, rfl, t, _, 2, _, rfl, rfl, SqT.of hp, atI_nat (j := 2) rfl, _, _, rfl, rfl, mw sq.1 sp.2.2 (by decide) (by decide), ?_⟩
    refine ⟨_, rfl, _, rfl, rfl, _, rfl, ite2 (fun _ => ?_) (fun _ => ?_)⟩
    · exact ⟨_, rfl, _, rfl, _, _, rfl, rfl, k _⟩
    · exact ⟨.ref t, rfl, t, _, 1, _, rfl, rfl, SqT.of hp, atI_nat (j := 1) rfl, .ref u, rfl, u, _, 2, _, rfl, rfl, SqT.of hq, atI_nat (j := 2) rfl, _, _, rfl, rfl, mw sp.2.1 sq.2.2 (by decide) (by decide), .ref u, rfl, u, _, 1, _, rfl, rfl, SqT.of hq, atI_nat (j := 1) rfl, .ref t, rfl, t, _, 2, _, rfl, rfl, SqT.of hp, atI_nat (j := 2) rfl, _, _, rfl, rfl, mw sq.2.1 sp.2.2 (by decide) (by decide), _, _, rfl, rfl, k _⟩
/-! ### axis, between -/
theorem scAxis : FnScope ["one", "weight", "other", "weight_there", "across", "upward", "squares"] ["one", "weight", "other", "weight_there"] (defScope sAxis) := ⟨rfl, rfl, rfl, by decide +kernel, rfl, by decide +kernel, by decide +kernel⟩
abbrev SpS (s : Int × Int) : Prop := s.1.natAbs < 2 ^ SM.CB ∧ s.2.natAbs < 2 ^ SM.CB
def spAxis : Sp := fun vs H Q _ => ∃ (v u : V) (s t : Int × Int), vs = [v, .int 0, u, .int 0] ∧ IsSp H v s ∧ IsSp H u t ∧ SpS s ∧ SpS t ∧ s ≠ t ∧ ∀ p, H p = none → Q (.ref p) (upd H p (.tup [.int (SM.btw s t).a, .int (SM.btw s t).b, .int (SM.btw s t).c]))
theorem d_axis (F : Fun K "axis" "axis" sAxis f fd) (g : mg "axis" = some (.ref f)) (dl : Def P w K mg base 2 "line_of" ["a", "b", "c"] spLineOf) : Def P w K mg base 3 "axis" ["one", "weight", "other", "weight_there"] spAxis := by
  refine ⟨f, fd, g, F.kp, F.binds (ps := ["one", "weight", "other", "weight_there"]) fun _ _ _ _ _ _ us hl => match us, hl with | [_, _, _, _], _ => rfl, ?_⟩
  refine F.ok scAxis (fun vs H Q E h => ?_) (fun cdv A outer s H vs Q E hr h => ?_)
  · obtain ⟨a, b, _, _, rfl, _⟩ := h
    rfl
  · obtain ⟨_, _, ⟨s1, s2⟩, ⟨t1, t2⟩, rfl, ⟨t, rfl, hp⟩, ⟨u, rfl, hq⟩, ss, st, hne, k⟩ := h
    have two : (2 : Int).natAbs < 2 ^ SM.LB := by decide
    refine ⟨_, pss_cons (ps_set (i := 4) scAxis.nd rfl (Or.inl rfl) (pe_op op_sub (pe_ix ix_tup (pv 2) pe_int (fun _ _ => rfl)) (pe_ix ix_tup (pv 0) pe_int (fun _ _ => rfl))))
      (pss_cons (ps_set (i := 5) scAxis.nd rfl (Or.inl rfl) (pe_op op_sub (pe_ix ix_tup (pv 2) pe_int (fun _ _ => rfl)) (pe_ix ix_tup (pv 0) pe_int (fun _ _ => rfl))))
      (pss_cons (ps_set (i := 6) scAxis.nd rfl (Or.inl rfl) (pe_op op_sub (pe_op op_sub (pe_op op_add (pe_op op_mulW (pe_ix ix_tup (pv 2) pe_int (fun _ _ => rfl)) (pe_ix ix_tup (pv 2) pe_int (fun _ _ => rfl))) (pe_op op_mulW (pe_ix ix_tup (pv 2) pe_int (fun _ _ => rfl)) (pe_ix ix_tup (pv 2) pe_int (fun _ _ => rfl)))) (pe_op op_mulW (pe_ix ix_tup (pv 0) pe_int (fun _ _ => rfl)) (pe_ix ix_tup (pv 0) pe_int (fun _ _ => rfl)))) (pe_op op_mulW (pe_ix ix_tup (pv 0) pe_int (fun _ _ => rfl)) (pe_ix ix_tup (pv 0) pe_int (fun _ _ => rfl)))))
      (pss_one (ps_ret (pe_def dl hr (pa_cons (pe_op op_mul pe_int (pv 4)) (pa_cons (pe_op op_mul pe_int (pv 5)) (pa_cons (pe_op op_add (pe_op op_sub (pv 6) (pv 3)) (pv 1)) pa_nil)))))))), ?_⟩
    refine ⟨.ref u, rfl, u, _, 0, _, rfl, rfl, SqT.of hq, atI_nat (j := 0) rfl, .ref t, rfl, t, _, 0, _, rfl, rfl, SqT.of hp, atI_nat (j := 0) rfl, _, _, rfl, rfl, ?_⟩
    refine ⟨.ref u, rfl, u, _, 1, _, rfl, rfl, SqT.of hq, atI_nat (j := 1) rfl, .ref t, rfl, t, _, 1, _, rfl, rfl, SqT.of hp, atI_nat (j := 1) rfl, _, _, rfl, rfl, ?_⟩
    refine ⟨.ref u, rfl, u, _, 0, _, rfl, rfl, SqT.of hq, atI_nat (j := 0) rfl, .ref u, rfl, u, _, 0, _, rfl, rfl, SqT.of hq, atI_nat (j := 0) rfl, _, _, rfl, rfl, mw st.1 st.1 (by decide) (by decide), ?_⟩
    refine ⟨.ref u, rfl, u, _, 1, _, rfl, rfl, SqT.of hq, atI_nat (j := 1) rfl, .ref u, rfl, u, _, 1, _, rfl, rfl, SqT.of hq, atI_nat (j := 1) rfl, _, _, rfl, rfl, mw st.2 st.2 (by decide) (by decide), _, _, rfl, rfl, ?_⟩
    refine ⟨.ref t, rfl, t, _, 0, _, rfl, rfl, SqT.of hp, atI_nat (j := 0) rfl, .ref t, rfl, t, _, 0, _, rfl, rfl, SqT.of hp, atI_nat (j := 0) rfl, _, _, rfl, rfl, mw ss.1 ss.1 (by decide) (by decide), _, _, rfl, rfl, ?_⟩
    refine ⟨.ref t, rfl, t, _, 1, _, rfl, rfl, SqT.of hp, atI_nat (j := 1) rfl, .ref t, rfl, t, _, 1, _, rfl, rfl, SqT.of hp, atI_nat (j := 1) rfl, _, _, rfl, rfl, mw ss.2 ss.2 (by decide) (by decide), _, _, rfl, rfl, ?_⟩
    have small : ∀ j : Int, CMul 2 j := fun j => .inl ⟨by decide, by decide⟩
    refine ⟨_, rfl, _, _, rfl, rfl, small _, _, rfl, _, _, rfl, rfl, small _, _, rfl, _, rfl, _, _, rfl, rfl, _, rfl, _, _, rfl, rfl, ?_⟩
    obtain ⟨r1, r2, r3⟩ := SM.raw_lt ss st
    have hne' : ¬ (t1 - s1 = 0 ∧ t2 - s2 = 0) := fun ⟨c1, c2⟩ => hne (by rw [show s1 = t1 by omega, show s2 = t2 by omega])
    have e3 : t1 * t1 + t2 * t2 - s1 * s1 - s2 * s2 - 0 + 0 = t1 * t1 + t2 * t2 - s1 * s1 - s2 * s2 := by omega
    refine ⟨_, _, _, rfl, fun ⟨c1, c2⟩ => hne' ⟨by simp only at c1; omega, by simp only at c2; omega⟩, SM.up_lt (by decide) r1, SM.up_lt (by decide) r2, fun p hp => ?_⟩
    have := k p hp
    unfold SM.btw at this
    simp only at this ⊢
    rw [e3]
    exact this
theorem scBetween : FnScope ["one", "other"] ["one", "other"] (defScope sBetween) := ⟨rfl, rfl, rfl, by decide +kernel, rfl, by decide +kernel, by decide +kernel⟩
def spBetween : Sp := fun vs H Q _ => ∃ (v u : V) (s t : Int × Int), vs = [v, u] ∧ IsSp H v s ∧ IsSp H u t ∧ SpS s ∧ SpS t ∧ s ≠ t ∧ ∀ p, H p = none → Q (.ref p) (upd H p (.tup [.int (SM.btw s t).a, .int (SM.btw s t).b, .int (SM.btw s t).c]))
theorem d_between (F : Fun K "between" "between" sBetween f fd) (g : mg "between" = some (.ref f)) (dl : Def P w K mg base 3 "axis" ["one", "weight", "other", "weight_there"] spAxis) : Def P w K mg base 4 "between" ["one", "other"] spBetween := by
  refine ⟨f, fd, g, F.kp, F.binds (ps := ["one", "other"]) fun _ _ _ _ _ _ us hl => match us, hl with | [_, _], _ => rfl, ?_⟩
  refine F.ok scBetween (fun vs H Q E h => ?_) (fun cdv A outer s H vs Q E hr h => ?_)
  · obtain ⟨a, b, _, _, rfl, _⟩ := h
    rfl
  · obtain ⟨v, u, s1, t1, rfl, hs, ht, ss, st, hne, k⟩ := h
    refine ⟨_, pss_one (ps_ret (pe_def dl hr (pa_cons (pv 0) (pa_cons pe_int (pa_cons (pv 1) (pa_cons pe_int pa_nil)))))), ?_⟩
    exact ⟨_, rfl, _, rfl, v, u, s1, t1, rfl, hs, ht, ss, st, hne, k⟩
/-! ### height_of -/
theorem scHeightOf : FnScope ["line", "point"] ["line", "point"] (defScope sHeightOf) := ⟨rfl, rfl, rfl, by decide +kernel, rfl, by decide +kernel, by decide +kernel⟩
def spHeightOf : Sp := fun vs H Q _ => ∃ (v u : V) (l : SM.Ln) (p : SM.Pt), vs = [v, u] ∧ IsLn H v l ∧ IsPt H u p ∧ SM.LnLt l ∧ SM.PtLt p ∧ Q (.int (SM.hgt l p)) H
theorem d_heightOf (F : Fun K "height_of" "height_of" sHeightOf f fd) (g : mg "height_of" = some (.ref f)) : Def P w K mg base 1 "height_of" ["line", "point"] spHeightOf := by
  refine ⟨f, fd, g, F.kp, F.binds (ps := ["line", "point"]) fun _ _ _ _ _ _ us hl => match us, hl with | [_, _], _ => rfl, ?_⟩
  refine F.ok scHeightOf (fun vs H Q E h => ?_) (fun cdv A outer s H vs Q E hr h => ?_)
  · obtain ⟨a, b, _, _, rfl, _⟩ := h
    rfl
  · obtain ⟨_, _, l, p, rfl, ⟨t, rfl, hl⟩, ⟨u, rfl, hp⟩, sl, sp, k⟩ := h
    refine ⟨_, pss_one (ps_ret (pe_op op_sub (pe_op op_add (pe_op op_mulW (pe_ix ix_tup (pv 0) pe_int (fun _ _ => rfl)) (pe_ix ix_tup (pv 1) pe_int (fun _ _ => rfl))) (pe_op op_mulW (pe_ix ix_tup (pv 0) pe_int (fun _ _ => rfl)) (pe_ix ix_tup (pv 1) pe_int (fun _ _ => rfl)))) (pe_op op_mulW (pe_ix ix_tup (pv 0) pe_int (fun _ _ => rfl)) (pe_ix ix_tup (pv 1) pe_int (fun _ _ => rfl))))), ?_⟩
    have m : ∀ {i j : Int}, i.natAbs < 2 ^ SM.LB → j.natAbs < 2 ^ SM.PB → CMulW i j := fun h1 h2 => wide_mul h1 h2 (by decide) (by decide) (by decide)
    refine ⟨.ref t, rfl, t, _, 0, _, rfl, rfl, SqT.of hl, atI_nat (j := 0) rfl, .ref u, rfl, u, _, 0, _, rfl, rfl, SqT.of hp, atI_nat (j := 0) rfl, _, _, rfl, rfl, m sl.1 sp.1, ?_⟩
    refine ⟨.ref t, rfl, t, _, 1, _, rfl, rfl, SqT.of hl, atI_nat (j := 1) rfl, .ref u, rfl, u, _, 1, _, rfl, rfl, SqT.of hp, atI_nat (j := 1) rfl, _, _, rfl, rfl, m sl.2.1 sp.2.1, _, _, rfl, rfl, ?_⟩
    exact ⟨.ref t, rfl, t, _, 2, _, rfl, rfl, SqT.of hl, atI_nat (j := 2) rfl, .ref u, rfl, u, _, 2, _, rfl, rfl, SqT.of hp, atI_nat (j := 2) rfl, _, _, rfl, rfl, m sl.2.2 sp.2.2, _, _, rfl, rfl, k⟩
/-! ### crossing -/
theorem scCrossing : FnScope ["one", "other", "here", "there"] ["one", "other", "here", "there"] (defScope sCrossing) := ⟨rfl, rfl, rfl, by decide +kernel, rfl, by decide +kernel, by decide +kernel⟩
def spCrossing : Sp := fun vs H Q _ => ∃ (v u : V) (p q : SM.Pt) (a b : Int), vs = [v, u, .int a, .int b] ∧ IsPt H v p ∧ IsPt H u q ∧ SM.PtLt p ∧ SM.PtLt q ∧ a.natAbs < 2 ^ 600 ∧ b.natAbs < 2 ^ 600 ∧ 0 < p.w ∧ 0 < q.w ∧ a ≠ 0 ∧ b ≠ 0 ∧
  ∀ t, H t = none → Q (.ref t) (upd H t (.tup [.int (SM.crossing p q a b).x, .int (SM.crossing p q a b).y, .int (SM.crossing p q a b).w]))
theorem abs_if (a : Int) : (if a < 0 then -a else a) = (a.natAbs : Int) := by
  split <;> omega
theorem d_crossing (F : Fun K "crossing" "crossing" sCrossing f fd) (g : mg "crossing" = some (.ref f)) (mabs : mg "abs" = none) (dp : Def P w K mg base 2 "point_of" ["x", "y", "w"] spPointOf) : Def P w K mg base 3 "crossing" ["one", "other", "here", "there"] spCrossing := by
  refine ⟨f, fd, g, F.kp, F.binds (ps := ["one", "other", "here", "there"]) fun _ _ _ _ _ _ us hl => match us, hl with | [_, _, _, _], _ => rfl, ?_⟩
  refine F.ok scCrossing (fun vs H Q E h => ?_) (fun cdv A outer s H vs Q E hr h => ?_)
  · obtain ⟨a, b, _, _, _, _, rfl, _⟩ := h
    rfl
  · obtain ⟨_, _, p, q, a, b, rfl, ⟨t, rfl, hp⟩, ⟨u, rfl, hq⟩, sp, sq, sa, sb, pw, qw, a0, b0, k⟩ := h
    refine ⟨_, pss_cons (ps_par (i := 2) (j := 3) rfl scCrossing.nd rfl rfl (by decide) rfl rfl (pa_cons (pe_callB call_abs (by rfl) mabs (by decide +kernel) (pa_cons (pv 2) pa_nil)) (pa_cons (pe_callB call_abs (by rfl) mabs (by decide +kernel) (pa_cons (pv 3) pa_nil)) pa_nil)) (by rfl))
      (pss_one (ps_ret (pe_def dp hr
        (pa_cons (pe_op op_add (pe_op op_mulW (pe_ix ix_tup (pv 0) pe_int (fun _ _ => rfl)) (pv 3)) (pe_op op_mulW (pe_ix ix_tup (pv 1) pe_int (fun _ _ => rfl)) (pv 2)))
        (pa_cons (pe_op op_add (pe_op op_mulW (pe_ix ix_tup (pv 0) pe_int (fun _ _ => rfl)) (pv 3)) (pe_op op_mulW (pe_ix ix_tup (pv 1) pe_int (fun _ _ => rfl)) (pv 2)))
        (pa_cons (pe_op op_add (pe_op op_mulW (pe_ix ix_tup (pv 0) pe_int (fun _ _ => rfl)) (pv 3)) (pe_op op_mulW (pe_ix ix_tup (pv 1) pe_int (fun _ _ => rfl)) (pv 2))) pa_nil)))))), ?_⟩
    refine ⟨_, rfl, _, rfl, _, rfl, _, rfl, _, _, rfl, ?_⟩
    rw [abs_if, abs_if]
    have sa' : ((a.natAbs : Nat) : Int).natAbs < 2 ^ 600 := by rw [Int.natAbs_natCast]; exact sa
    have sb' : ((b.natAbs : Nat) : Int).natAbs < 2 ^ 600 := by rw [Int.natAbs_natCast]; exact sb
    have m : ∀ {i j : Int}, i.natAbs < 2 ^ SM.PB → j.natAbs < 2 ^ 600 → CMulW i j := fun h1 h2 => wide_mul h1 h2 (by decide) (by decide) (by decide)
    refine ⟨.ref t, rfl, t, _, 0, _, rfl, rfl, SqT.of hp, atI_nat (j := 0) rfl, _, rfl, _, _, rfl, rfl, m sp.1 sb', .ref u, rfl, u, _, 0, _, rfl, rfl, SqT.of hq, atI_nat (j := 0) rfl, _, rfl, _, _, rfl, rfl, m sq.1 sa', _, _, rfl, rfl, ?_⟩
    refine ⟨.ref t, rfl, t, _, 1, _, rfl, rfl, SqT.of hp, atI_nat (j := 1) rfl, _, rfl, _, _, rfl, rfl, m sp.2.1 sb', .ref u, rfl, u, _, 1, _, rfl, rfl, SqT.of hq, atI_nat (j := 1) rfl, _, rfl, _, _, rfl, rfl, m sq.2.1 sa', _, _, rfl, rfl, ?_⟩
    refine ⟨.ref t, rfl, t, _, 2, _, rfl, rfl, SqT.of hp, atI_nat (j := 2) rfl, _, rfl, _, _, rfl, rfl, m sp.2.2 sb', .ref u, rfl, u, _, 2, _, rfl, rfl, SqT.of hq, atI_nat (j := 2) rfl, _, rfl, _, _, rfl, rfl, m sq.2.2 sa', _, _, rfl, rfl, ?_⟩
    have w1 : 0 < p.w * (b.natAbs : Int) := Int.mul_pos pw (by omega)
    have w2 : 0 < q.w * (a.natAbs : Int) := Int.mul_pos qw (by omega)
    refine ⟨_, _, _, rfl, by show 0 < p.w * (b.natAbs : Int) + q.w * (a.natAbs : Int); omega, ?_, k⟩
    exact SM.up_lt (by decide) (SM.add_lt (SM.mul_lt sp.2.2 sb') (SM.mul_lt sq.2.2 sa'))
end
end Wk

set_option Elab.async false
set_option linter.all false
set_option maxRecDepth 100000
set_option maxHeartbeats 4000000
namespace Wk
open PySem PySem.Spec PyProof.Rows L2
/-! ### data -/
def intsD (ns : List Int) : PyData := .tuple (ns.map .int)
theorem ints_lay : ∀ ns : List Int, PyData.canLayAll0 (ns.map .int) = true
  | [] => by simp [PyData.canLayAll0]
  | n :: ns => by
    have := ints_lay ns
    simp [PyData.canLayAll0, PyData.canLay0, this]
theorem ints_depth : ∀ ns : List Int, PyData.depthAll (ns.map .int) = 0
  | [] => by simp [PyData.depthAll]
  | n :: ns => by
    have := ints_depth ns
    simp [PyData.depthAll, PyData.depth, this]
theorem intsD_depth (ns : List Int) : (intsD ns).depth = 1 := by
  simp only [intsD, PyData.depth, ints_depth]
theorem intsD_lay (ns : List Int) : (intsD ns).canLay0 = true := by
  simp only [intsD, PyData.canLay0, ints_lay]
theorem shaped_of {d : PyData} (h1 : d.canLay0 = true) (h2 : d.depth ≤ 64) : SeqAt.shaped d = true := by
  show (d.canLay0 && decide (d.depth ≤ 64)) = true
  rw [Bool.and_eq_true]
  exact ⟨h1, decide_eq_true h2⟩
theorem intsD_shaped (ns : List Int) : SeqAt.shaped (intsD ns) = true := shaped_of (intsD_lay ns) (by rw [intsD_depth]; decide)
theorem intsDs_lay : ∀ zs : List (List Int), PyData.canLayAll0 (zs.map intsD) = true
  | [] => by simp [PyData.canLayAll0]
  | z :: zs => by simp [PyData.canLayAll0, intsD_lay z, intsDs_lay zs]
theorem intsDs_depth : ∀ zs : List (List Int), PyData.depthAll (zs.map intsD) ≤ 1
  | [] => by simp [PyData.depthAll]
  | z :: zs => by
    have h1 := intsDs_depth zs
    have h2 := intsD_depth z
    simp only [List.map_cons, PyData.depthAll]
    omega
theorem intsDs_shaped (zs : List (List Int)) : SeqAt.shaped (.list (zs.map intsD)) = true := by
  have h1 := intsDs_depth zs
  refine shaped_of (by simp only [PyData.canLay0]; exact intsDs_lay zs) ?_
  simp only [PyData.depth]
  omega
theorem eqvAll_ints : ∀ ns ms : List Int, PyData.eqvAll (ns.map .int) (ms.map .int) = decide (ns = ms)
  | [], [] => by simp [PyData.eqvAll]
  | [], _ :: _ => by simp [PyData.eqvAll]
  | _ :: _, [] => by simp [PyData.eqvAll]
  | n :: ns, m :: ms => by
    have := eqvAll_ints ns ms
    simp only [List.map_cons, PyData.eqvAll, PyData.eqv, this]
    by_cases h : n = m
    · simp [h]
    · simp [h]
theorem intsD_eqv (ns ms : List Int) : PyData.eqv (intsD ns) (intsD ms) = decide (ns = ms) := by
  simp only [intsD, PyData.eqv, eqvAll_ints]
section
variable {K : PySem.W.Frag} {H : Hp}
theorem dpAll_ints : ∀ ns : List Int, DpAll K H (ns.map V.int) (ns.map .int)
  | [] => .nil
  | n :: ns => .cons (.int n) (dpAll_ints ns)
theorem TI.dp {v : V} {ns : List Int} (h : TI H v ns) : Dp K H v (intsD ns) := by
  obtain ⟨t, rfl, h⟩ := h
  exact .tup (SqT.of h) (dpAll_ints ns)
theorem each_dp : ∀ {vs : List V} {xs : List (List Int)}, Each TI H vs xs → DpAll K H vs (xs.map intsD)
  | [], [], _ => .nil
  | _ :: _, _ :: _, h => .cons h.1.dp (each_dp h.2)
  | [], _ :: _, h => h.elim
  | _ :: _, [], h => h.elim
def spL (s : Int × Int) : List Int := [s.1, s.2]
theorem spL_inj {s t : Int × Int} (h : spL s = spL t) : s = t := by
  simp only [spL, List.cons.injEq] at h
  exact Prod.ext h.1 h.2.1
theorem each_sp : ∀ {vs : List V} {xs : List (Int × Int)}, Each IsSp H vs xs → Each TI H vs (xs.map spL)
  | [], [], _ => trivial
  | _ :: _, _ :: _, h => ⟨h.1, each_sp h.2⟩
  | [], _ :: _, h => h.elim
  | _ :: _, [], h => h.elim
end
theorem cut_to (xs : List V) (n : Nat) : cutV xs none (some (n : Int)) = xs.take n := by
  unfold cutV
  rw [HT.sIx_none, HT.sIx_nat]
  show ((xs.drop 0).take (min n xs.length - 0)) = xs.take n
  rw [List.drop_zero, Nat.sub_zero]
  by_cases h : n ≤ xs.length
  · rw [Nat.min_eq_left h]
  · have hm : min n xs.length = xs.length := Nat.min_eq_right (by omega)
    rw [hm, List.take_of_length_le (Nat.le_refl _), List.take_of_length_le (by omega)]
theorem cut_from (xs : List V) (n : Nat) : cutV xs (some (n : Int)) none = xs.drop n := by
  unfold cutV
  rw [HT.sIx_none, HT.sIx_nat]
  by_cases h : n ≤ xs.length
  · rw [Nat.min_eq_left h, List.take_of_length_le (by rw [List.length_drop]; omega)]
  · rw [Nat.min_eq_right (by omega), List.drop_of_length_le (Nat.le_refl _), List.drop_of_length_le (by omega), List.take_nil]
theorem hu65 {A : Around} {k : Nat} (hr : Room k A) : A.units + 65 < cLine := by
  have := hr.un
  omega
theorem blT {p : Prop} [Decidable p] (h : p) : V.bl (decide p) = V.bl true := congrArg V.bl (decide_eq_true h)
theorem blF {p : Prop} [Decidable p] (h : ¬ p) : V.bl (decide p) = V.bl false := congrArg V.bl (decide_eq_false h)
/-- a list of spots -/
def SpotsAt (H : Hp) (v : V) (S : List (Int × Int)) : Prop := ∃ l vs, v = .ref l ∧ H l = some (.lst vs) ∧ Each IsSp H vs S
theorem SpotsAt.keep {H H' : Hp} {v : V} {S : List (Int × Int)} (s : Same H H') (h : SpotsAt H v S) : SpotsAt H' v S := by
  obtain ⟨l, vs, e, a, b⟩ := h
  exact ⟨l, vs, e, s _ _ a, b.keep fun v x => IsSp.keep s⟩
def IsBox (H : Hp) (v : V) (W : SM.Wd) : Prop := TI H v [W.x, W.y, W.u, W.v]
theorem any_eqv {S : List (Int × Int)} {s : Int × Int} (h : s ∉ S) : ((S.map fun z => intsD (spL z)).any fun z => PyData.eqv z (intsD (spL s))) = false := by
  rw [List.any_eq_false]
  intro d hd
  obtain ⟨z, hz, rfl⟩ := List.mem_map.mp hd
  rw [intsD_eqv]
  have : spL z ≠ spL s := fun c => h (by rw [← spL_inj c]; exact hz)
  simp [this]
section
variable {P : Program} {w : World} {K : PySem.W.Frag} {mg : Str → Option Value} {base : Heap} {f : Addr} {fd : FuncData}
/-! ### lies_in -/
theorem scLiesIn : FnScope ["box", "spot"] ["box", "spot"] (defScope sLiesIn) := ⟨rfl, rfl, rfl, by decide +kernel, rfl, by decide +kernel, by decide +kernel⟩
def spLiesIn : Sp := fun vs H Q _ => ∃ (v u : V) (W : SM.Wd) (s : Int × Int), vs = [v, u] ∧ IsBox H v W ∧ IsSp H u s ∧ (W.x ≤ s.1 ∧ s.1 ≤ W.u ∧ W.y ≤ s.2 ∧ s.2 ≤ W.v) ∧ Q (.bl true) H
theorem d_liesIn (F : Fun K "lies_in" "lies_in" sLiesIn f fd) (g : mg "lies_in" = some (.ref f)) : Def P w K mg base 1 "lies_in" ["box", "spot"] spLiesIn := by
  refine ⟨f, fd, g, F.kp, F.binds (ps := ["box", "spot"]) fun _ _ _ _ _ _ us hl => match us, hl with | [_, _], _ => rfl, ?_⟩
  refine F.ok scLiesIn (fun vs H Q E h => ?_) (fun cdv A outer s H vs Q E hr h => ?_)
  · obtain ⟨a, b, _, _, rfl, _⟩ := h
    rfl
  · obtain ⟨_, _, W, z, rfl, ⟨t, rfl, hb⟩, ⟨u, rfl, hs⟩, ⟨c1, c2, c3, c4⟩, k⟩ := h
    refine ⟨_, pss_one (ps_ret (pe_and (pe_chain op_le op_le (pe_ix ix_tup (pv 0) pe_int (fun _ _ => rfl)) (pe_ix ix_tup (pv 1) pe_int (fun _ _ => rfl)) (pe_ix ix_tup (pv 0) pe_int (fun _ _ => rfl))) (pe_one (pe_chain op_le op_le (pe_ix ix_tup (pv 0) pe_int (fun _ _ => rfl)) (pe_ix ix_tup (pv 1) pe_int (fun _ _ => rfl)) (pe_ix ix_tup (pv 0) pe_int (fun _ _ => rfl)))))), ?_⟩
    refine ⟨.ref t, rfl, t, _, 0, _, rfl, rfl, SqT.of hb, atI_nat (j := 0) rfl, .ref u, rfl, u, _, 0, _, rfl, rfl, SqT.of hs, atI_nat (j := 0) rfl, _, _, rfl, rfl, true, blT c1, iteT ?_⟩
    refine ⟨.ref t, rfl, t, _, 2, _, rfl, rfl, SqT.of hb, atI_nat (j := 2) rfl, _, _, rfl, rfl, true, blT c2, iteT ?_⟩
    refine ⟨.ref t, rfl, t, _, 1, _, rfl, rfl, SqT.of hb, atI_nat (j := 1) rfl, .ref u, rfl, u, _, 1, _, rfl, rfl, SqT.of hs, atI_nat (j := 1) rfl, _, _, rfl, rfl, true, blT c3, iteT ?_⟩
    refine ⟨.ref t, rfl, t, _, 3, _, rfl, rfl, SqT.of hb, atI_nat (j := 3) rfl, _, _, rfl, rfl, ?_⟩
    show Q (V.bl (decide (z.2 ≤ W.v))) H
    rw [blT c4]
    exact k
/-! ### is_whole, look_box -/
theorem scIsWhole : FnScope ["thing"] ["thing"] (defScope sIsWhole) := ⟨rfl, rfl, rfl, by decide +kernel, rfl, by decide +kernel, by decide +kernel⟩
def spIsWhole : Sp := fun vs H Q _ => ∃ n : Int, vs = [.int n] ∧ Q (.bl true) H
theorem d_isWhole (F : Fun K "is_whole" "is_whole" sIsWhole f fd) (g : mg "is_whole" = some (.ref f)) (mi : mg "isinstance" = none) (mint : mg "int" = none) (mb : mg "bool" = none) : Def P w K mg base 1 "is_whole" ["thing"] spIsWhole := by
  refine ⟨f, fd, g, F.kp, F.binds (ps := ["thing"]) fun _ _ _ _ _ _ us hl => match us, hl with | [_], _ => rfl, ?_⟩
  refine F.ok scIsWhole (fun vs H Q E h => ?_) (fun cdv A outer s H vs Q E hr h => ?_)
  · obtain ⟨a, rfl, _⟩ := h
    rfl
  · obtain ⟨n, rfl, k⟩ := h
    refine ⟨_, pss_one (ps_ret (pe_and (pe_callB call_isi (by rfl) mi (by decide +kernel) (pa_cons (pv 0) (pa_cons (pe_bltn (v := .ty "int") (by rfl) mint (by decide +kernel) rfl) pa_nil)))
      (pe_one (pe_not (pe_callB call_isi (by rfl) mi (by decide +kernel) (pa_cons (pv 0) (pa_cons (pe_bltn (v := .ty "bool") (by rfl) mb (by decide +kernel) rfl) pa_nil))))))), ?_⟩
    refine ⟨.int n, rfl, .int n, .ty "int", .type "int", .type "int", true, rfl, .ty "int", .base (.int n), kit_ty (by decide +kernel), true, rfl, iteT ?_⟩
    exact ⟨.int n, rfl, .int n, .ty "bool", .type "int", .type "bool", false, rfl, .ty "bool", .base (.int n), kit_ty (by decide +kernel), false, rfl, k⟩
theorem scLookBox : FnScope ["box", "number"] ["box"] (defScope sLookBox) := ⟨rfl, rfl, rfl, by decide +kernel, rfl, by decide +kernel, by decide +kernel⟩
def spLookBox : Sp := fun vs H Q _ => ∃ (v : V) (W : SM.Wd), vs = [v] ∧ IsBox H v W ∧ W.x < W.u ∧ W.y < W.v ∧ ∀ H', Same H H' → Q .non H'
theorem d_lookBox (F : Fun K "look_box" "look_box" sLookBox f fd) (g : mg "look_box" = some (.ref f)) (mi : mg "isinstance" = none) (mt : mg "tuple" = none) (ml : mg "len" = none) (ma : mg "all" = none) (dw : Def P w K mg base 1 "is_whole" ["thing"] spIsWhole) : Def P w K mg base 2 "look_box" ["box"] spLookBox := by
  refine ⟨f, fd, g, F.kp, F.binds (ps := ["box"]) fun _ _ _ _ _ _ us hl => match us, hl with | [_], _ => rfl, ?_⟩
  refine F.ok scLookBox (fun vs H Q E h => ?_) (fun cdv A outer s H vs Q E hr h => ?_)
  · obtain ⟨a, _, rfl, _⟩ := h
    rfl
  · obtain ⟨_, W, rfl, ⟨t, rfl, hb⟩, xu, yv, k⟩ := h
    refine ⟨_, pss_cons (ps_if (PW.pt (pw_or (pt_not (pt_val (pe_callB call_isi (by rfl) mi (by decide +kernel) (pa_cons (pv 0) (pa_cons (pe_bltn (v := .ty "tuple") (by rfl) mt (by decide +kernel) rfl) pa_nil)))))
        (pw_or (pt_cmpR op_ne (pe_callB call_len_seq (by rfl) ml PySem.boot_len (pa_cons (pv 0) pa_nil)) pe_int (nomark _))
        (pw_or1 (pt_not (pt_val (pe_callB (cr_all rfl) (by rfl) ma (by decide +kernel) (pa_cons
          (pe_lc (own := [("number", 1)]) (g := gName 1) (by rfl) scLookBox.nd (pi_tup (pv 0)) (blkOk_by (own := [("number", 1)]) (N := ["box", "number"]) (sc := defScope sLookBox) (by decide +kernel)) (fun _ _ _ _ _ => pg_name (i := 1) scLookBox.nd rfl (Or.inl rfl)) (fun _ _ _ _ _ => pts_nil)
            (fun _ _ _ _ _ => pe_def dw hr (pa_cons (pv 1) pa_nil))) pa_nil)))))))) (pss_one ps_never) pss_nil)
      (pss_one (ps_if (PW.pt (pw_or (pt_cmpR op_ge (pe_ix ix_tup (pv 0) pe_int (fun _ _ => rfl)) (pe_ix ix_tup (pv 0) pe_int (fun _ _ => rfl)) (nomark _)) (pw_or1 (pt_cmpR op_ge (pe_ix ix_tup (pv 0) pe_int (fun _ _ => rfl)) (pe_ix ix_tup (pv 0) pe_int (fun _ _ => rfl)) (nomark _))))) (pss_one ps_never) pss_nil)), ?_⟩
    refine ⟨.ref t, rfl, .ref t, .ty "tuple", .type "tuple", .type "tuple", true, rfl, .ty "tuple", .base (.tup hb), kit_ty (by decide +kernel), true, rfl, iteF ?_⟩
    refine ⟨.ref t, rfl, t, _, rfl, .inr (SqT.of hb), rfl, false, rfl, iteF ?_⟩
    refine ⟨.ref t, rfl, t, rfl, ⟨_, SqT.of hb⟩, fun D hD => ?_⟩
    refine lc_tup (K := K) (a := t) (xs := [W.x, W.y, W.u, W.v].map V.int) (fun i H' => Same H H' ∧ H' D = some (.lst (List.replicate i (.bl true)))) ⟨same_upd hD, upd_same⟩ (fun i H' _ ⟨s1, _⟩ => SqT.of (s1 _ _ hb)) ?_ ?_
    · rintro i x H' hi ⟨s1, hD'⟩
      obtain ⟨n, rfl⟩ : ∃ n, x = V.int n := by
        rw [List.getElem?_map] at hi
        cases e : ([W.x, W.y, W.u, W.v] : List Int)[i]? with
        | none => rw [e] at hi; cases hi
        | some n => rw [e] at hi; exact ⟨n, (Option.some.inj hi).symm⟩
      have i4 : i < 4 := by
        have := (List.getElem?_eq_some_iff.mp hi).1
        simpa using this
      refine ⟨rfl, _, rfl, n, rfl, _, hD', by rw [List.length_replicate]; exact small1000 (by omega), fun b o e => ?_, ?_⟩
      · rw [upd_ne (ne_of_none e hD)]
        exact s1 _ _ e
      · rw [upd_same, List.replicate_succ']
    · rintro H' ⟨s1, hD'⟩
      refine ⟨D, List.replicate 4 true, rfl, SqL.of hD', true, rfl, iteF ?_⟩
      have hb' := s1 _ _ hb
      refine ⟨.ref t, rfl, t, _, 0, _, rfl, rfl, SqT.of hb', atI_nat (j := 0) rfl, .ref t, rfl, t, _, 2, _, rfl, rfl, SqT.of hb', atI_nat (j := 2) rfl, _, _, rfl, rfl, false, blF (by omega), iteF ?_⟩
      refine ⟨.ref t, rfl, t, _, 1, _, rfl, rfl, SqT.of hb', atI_nat (j := 1) rfl, .ref t, rfl, t, _, 3, _, rfl, rfl, SqT.of hb', atI_nat (j := 3) rfl, _, _, rfl, rfl, false, blF (by omega), iteF ?_⟩
      exact k _ s1
/-! ### look_count, look_spots, look_at -/
theorem scLookCount : FnScope ["spots"] ["spots"] (defScope sLookCount) := ⟨rfl, rfl, rfl, by decide +kernel, rfl, by decide +kernel, by decide +kernel⟩
def spLookCount : Sp := fun vs H Q _ => ∃ (v : V) (S : List (Int × Int)), vs = [v] ∧ SpotsAt H v S ∧ 0 < S.length ∧ S.length ≤ 12 ∧ Q .non H
theorem d_lookCount {tm : Tok} (F : Fun K "look_count" "look_count" sLookCount f fd) (g : mg "look_count" = some (.ref f)) (ml : mg "len" = none) (mm : mg "MOST_SPOTS" = some (.int 12 tm)) : Def P w K mg base 1 "look_count" ["spots"] spLookCount := by
  refine ⟨f, fd, g, F.kp, F.binds (ps := ["spots"]) fun _ _ _ _ _ _ us hl => match us, hl with | [_], _ => rfl, ?_⟩
  refine F.ok scLookCount (fun vs H Q E h => ?_) (fun cdv A outer s H vs Q E hr h => ?_)
  · obtain ⟨a, _, rfl, _⟩ := h
    rfl
  · obtain ⟨_, S, rfl, ⟨l, vs, rfl, hl, he⟩, h0, h12, k⟩ := h
    have lv := he.len
    refine ⟨_, pss_one (ps_if (PW.pt (pw_or (pt_cmpR op_eq (pe_callB call_len_seq (by rfl) ml PySem.boot_len (pa_cons (pv 0) pa_nil)) pe_int (nomark _)) (pw_or1 (pt_cmpR op_gt (pe_callB call_len_seq (by rfl) ml PySem.boot_len (pa_cons (pv 0) pa_nil)) (pe_glob (v := .int 12) rfl mm ⟨_, rfl⟩) (nomark _))))) (pss_one ps_never) pss_nil), ?_⟩
    refine ⟨.ref l, rfl, l, _, rfl, .inl (SqL.of hl), rfl, false, ?_, iteF ?_⟩
    · have : ¬ (V.int ((vs.length : Nat) : Int) = V.int 0) := fun c => by
        injection c with c
        omega
      rw [decide_eq_false this]
    refine ⟨.ref l, rfl, l, _, rfl, .inl (SqL.of hl), _, _, rfl, rfl, false, ?_, iteF ?_⟩
    · exact blF (by omega)
    exact k
theorem scLookSpots : FnScope ["spots", "at"] ["spots"] (defScope sLookSpots) := ⟨rfl, rfl, rfl, by decide +kernel, rfl, by decide +kernel, by decide +kernel⟩
def spLookSpots : Sp := fun vs H Q _ => ∃ (v : V) (S : List (Int × Int)), vs = [v] ∧ SpotsAt H v S ∧ 0 < S.length ∧ S.length ≤ 12 ∧ S.Nodup ∧ ∀ H', Same H H' → Q .non H'
theorem not_before {S : List (Int × Int)} (hn : S.Nodup) {i : Nat} {s : Int × Int} (h : S[i]? = some s) : s ∉ S.take i := by
  intro c
  obtain ⟨j, hj⟩ := List.mem_iff_getElem?.mp c
  have hji : j < i := by
    have := (List.getElem?_eq_some_iff.mp hj).1
    rw [List.length_take] at this
    omega
  rw [List.getElem?_take_of_lt hji] at hj
  have hl : j < S.length := (List.getElem?_eq_some_iff.mp hj).1
  have := (List.getElem?_inj hl hn).mp (hj.trans h.symm)
  omega
theorem cLen {n : Nat} (h : n ≤ 1000) : -(2 ^ 62) ≤ ((n : Nat) : Int) ∧ ((n : Nat) : Int) < 2 ^ 62 := by omega
theorem d_lookSpots (F : Fun K "look_spots" "look_spots" sLookSpots f fd) (g : mg "look_spots" = some (.ref f)) (ml : mg "len" = none) (mr : mg "range" = none) (dc : Def P w K mg base 1 "look_count" ["spots"] spLookCount) : Def P w K mg base 2 "look_spots" ["spots"] spLookSpots := by
  refine ⟨f, fd, g, F.kp, F.binds (ps := ["spots"]) fun _ _ _ _ _ _ us hl => match us, hl with | [_], _ => rfl, ?_⟩
  refine F.ok scLookSpots (fun vs H Q E h => ?_) (fun cdv A outer s H vs Q E hr h => ?_)
  · obtain ⟨a, _, rfl, _⟩ := h
    rfl
  · obtain ⟨_, S, rfl, hS, h0, h12, hn, k⟩ := h
    have hS0 := hS
    obtain ⟨l, vs, rfl, hl, he⟩ := hS
    have lv := he.len
    refine ⟨_, pss_cons (ps_expr (pe_def dc hr (pa_cons (pv 0) pa_nil)))
      (pss_one (ps_for PassesOwn.never rfl (pi_range1 rfl mr (pa_cons (pe_callB call_len_seq (by rfl) ml PySem.boot_len (pa_cons (pv 0) pa_nil)) pa_nil)) (pg_name (i := 1) scLookSpots.nd rfl (Or.inl rfl))
        (pss_one (ps_if (pt_cmpR (op_inD (hu65 hr)) (pe_ix ix_list (pv 0) (pv 1) (fun _ _ => rfl)) (pe_slice sl_list (pv 0) po_none (po_some (pv 1))) (by rfl)) (pss_one ps_never) pss_nil)))), ?_⟩
    refine ⟨_, rfl, _, S, rfl, hS0, h0, h12, ?_⟩
    refine ⟨.ref l, rfl, l, _, rfl, .inl (SqL.of hl), _, rfl, by omega, by omega, for_range (lo := 0) (n := ((vs.length : Nat) : Int).toNat) (fun i σ H' => Same H H' ∧ ∃ y, σ = [some (.ref l), y]) ⟨Same.refl H, _, rfl⟩ ?_ ?_⟩
    · rintro i σ H' hi ⟨s1, y, rfl⟩
      have hiS : i < S.length := by omega
      obtain ⟨v, hv, hsp⟩ := he.get (List.getElem?_eq_getElem hiS)
      have hl' := s1 _ _ hl
      have hz : (0 : Int) + (i : Int) = (i : Int) := by omega
      refine ⟨.ref l, rfl, _, rfl, l, vs, _, v, rfl, rfl, SqL.of hl', at_of hz hv, ?_⟩
      refine ⟨.ref l, rfl, _, rfl, _, rfl, l, vs, rfl, SqL.of hl', fun p np => ?_⟩
      have s2 : Same H' (upd H' p (.lst (cutV vs none (some ((0 : Int) + (i : Int)))))) := same_upd np
      rw [hz, cut_to]
      rw [hz, cut_to] at s2
      have e2 : Each IsSp H' vs S := he.keep fun v x => IsSp.keep s1
      have e3 := (e2.keep fun v x => IsSp.keep s2).take i
      refine ⟨intsD (spL S[i]), (S.take i).map fun z => intsD (spL z), TI.dp (TI.keep (s1.trans s2) hsp), .lst (SqL.of upd_same) ?_, intsD_shaped _, ?_, _, rfl, ?_⟩
      · have := each_dp (K := K) (each_sp e3)
        rw [List.map_map] at this
        exact this
      · have := intsDs_shaped ((S.take i).map spL)
        rw [List.map_map] at this
        exact this
      rw [any_eqv (not_before hn (List.getElem?_eq_getElem hiS))]
      refine iteF ?_
      exact ⟨s1.trans s2, _, rfl⟩
    · rintro σ H' ⟨s1, y, rfl⟩
      exact k _ s1
theorem scLookAt : FnScope ["box", "spots", "at"] ["box", "spots"] (defScope sLookAt) := ⟨rfl, rfl, rfl, by decide +kernel, rfl, by decide +kernel, by decide +kernel⟩
def spLookAt : Sp := fun vs H Q _ => ∃ (v u : V) (W : SM.Wd), vs = [v, u] ∧ IsBox H v W ∧ SpotsAt H u W.s ∧ W.Ok ∧ ∀ H', Same H H' → Q .non H'
theorem d_lookAt (F : Fun K "look_at" "look_at" sLookAt f fd) (g : mg "look_at" = some (.ref f)) (ml : mg "len" = none) (mr : mg "range" = none) (db : Def P w K mg base 2 "look_box" ["box"] spLookBox) (dc : Def P w K mg base 1 "look_count" ["spots"] spLookCount) (dl : Def P w K mg base 1 "lies_in" ["box", "spot"] spLiesIn) : Def P w K mg base 3 "look_at" ["box", "spots"] spLookAt := by
  refine ⟨f, fd, g, F.kp, F.binds (ps := ["box", "spots"]) fun _ _ _ _ _ _ us hl => match us, hl with | [_, _], _ => rfl, ?_⟩
  refine F.ok scLookAt (fun vs H Q E h => ?_) (fun cdv A outer s H vs Q E hr h => ?_)
  · obtain ⟨a, _, _, rfl, _⟩ := h
    rfl
  · obtain ⟨_, _, W, rfl, hB, hS, ok, k⟩ := h
    have hS0 := hS
    have hB0 := hB
    obtain ⟨l, vs, rfl, hl, he⟩ := hS
    obtain ⟨t, rfl, hb⟩ := hB
    have lv := he.len
    have h2 := ok.two
    have h12 := ok.most
    refine ⟨_, pss_cons (ps_expr (pe_def db hr (pa_cons (pv 0) pa_nil))) (pss_cons (ps_expr (pe_def dc (hr.mono (by decide)) (pa_cons (pv 1) pa_nil)))
      (pss_one (ps_for PassesOwn.never rfl (pi_range1 rfl mr (pa_cons (pe_callB call_len_seq (by rfl) ml PySem.boot_len (pa_cons (pv 1) pa_nil)) pa_nil)) (pg_name (i := 2) scLookAt.nd rfl (Or.inl rfl))
        (pss_one (ps_if (PW.pt (pw_or (pt_not (pt_val (pe_def dl (hr.mono (by decide)) (pa_cons (pv 0) (pa_cons (pe_ix ix_list (pv 1) (pv 2) (fun _ _ => rfl)) pa_nil))))) (pw_or1 (pt_cmpR (op_inD (hu65 hr)) (pe_ix ix_list (pv 1) (pv 2) (fun _ _ => rfl)) (pe_slice sl_list (pv 1) po_none (po_some (pv 2))) (by rfl))))) (pss_one ps_never) pss_nil))))), ?_⟩
    refine ⟨_, rfl, _, W, rfl, hB0, ok.xu, ok.yv, fun H1 s0 => ?_⟩
    refine ⟨_, rfl, _, W.s, rfl, hS0.keep s0, by omega, h12, ?_⟩
    refine ⟨.ref l, rfl, l, _, rfl, .inl (SqL.of (s0 _ _ hl)), _, rfl, by omega, by omega, for_range (lo := 0) (n := ((vs.length : Nat) : Int).toNat) (fun i σ H' => Same H H' ∧ ∃ y, σ = [some (.ref t), some (.ref l), y]) ⟨s0, _, rfl⟩ ?_ ?_⟩
    · rintro i σ H' hi ⟨s1, y, rfl⟩
      have hiS : i < W.s.length := by omega
      obtain ⟨v, hv, hsp⟩ := he.get (List.getElem?_eq_getElem hiS)
      have hl' := s1 _ _ hl
      have hz : (0 : Int) + (i : Int) = (i : Int) := by omega
      refine ⟨.ref t, rfl, .ref l, rfl, _, rfl, l, vs, _, v, rfl, rfl, SqL.of hl', at_of hz hv, ?_⟩
      refine ⟨_, _, W, _, rfl, TI.keep s1 hB0, TI.keep s1 hsp, ok.inb _ (List.getElem_mem hiS), true, rfl, iteF ?_⟩
      refine ⟨.ref l, rfl, _, rfl, l, vs, _, v, rfl, rfl, SqL.of hl', at_of hz hv, ?_⟩
      refine ⟨.ref l, rfl, _, rfl, _, rfl, l, vs, rfl, SqL.of hl', fun p np => ?_⟩
      have s2 : Same H' (upd H' p (.lst (cutV vs none (some ((0 : Int) + (i : Int)))))) := same_upd np
      rw [hz, cut_to]
      rw [hz, cut_to] at s2
      have e2 : Each IsSp H' vs W.s := he.keep fun v x => IsSp.keep s1
      have e3 := (e2.keep fun v x => IsSp.keep s2).take i
      refine ⟨intsD (spL W.s[i]), (W.s.take i).map fun z => intsD (spL z), TI.dp (TI.keep (s1.trans s2) hsp), .lst (SqL.of upd_same) ?_, intsD_shaped _, ?_, _, rfl, ?_⟩
      · have := each_dp (K := K) (each_sp e3)
        rw [List.map_map] at this
        exact this
      · have := intsDs_shaped ((W.s.take i).map spL)
        rw [List.map_map] at this
        exact this
      rw [any_eqv (not_before ok.nod (List.getElem?_eq_getElem hiS))]
      refine iteF ?_
      exact ⟨s1.trans s2, _, rfl⟩
    · rintro σ H' ⟨s1, y, rfl⟩
      exact k _ s1
end
end Wk

set_option Elab.async false
set_option linter.all false
set_option maxRecDepth 100000
set_option exponentiation.threshold 10000
set_option maxHeartbeats 4000000
namespace Wk
open PySem PySem.Spec PyProof.Rows L2
/-! ### fields, rows -/
def IsRow (H : Hp) (v : V) (r : SM.Row) : Prop := ∃ t c, v = .ref t ∧ H t = some (.tup [c, .int r.2]) ∧ IsPt H c r.1
theorem IsRow.keep {H H' : Hp} {v : V} {r : SM.Row} (s : Same H H') (h : IsRow H v r) : IsRow H' v r := by
  obtain ⟨t, c, e, a, b⟩ := h
  exact ⟨t, c, e, s _ _ a, b.keep s⟩
def FieldAt (H : Hp) (v : V) (F : List SM.Row) : Prop := ∃ t cl el cs, v = .ref t ∧ H t = some (.tup [.ref cl, .ref el]) ∧ H cl = some (.lst cs) ∧ Each IsPt H cs (F.map (·.1)) ∧ H el = some (.lst ((F.map (·.2)).map V.int))
theorem FieldAt.keep {H H' : Hp} {v : V} {F : List SM.Row} (s : Same H H') (h : FieldAt H v F) : FieldAt H' v F := by
  obtain ⟨t, cl, el, cs, e, a, b, c, d⟩ := h
  exact ⟨t, cl, el, cs, e, s _ _ a, s _ _ b, c.keep fun v x => IsPt.keep s, s _ _ d⟩
theorem rows_split {H : Hp} : ∀ {vs : List V} {R : List SM.Row}, Each IsRow H vs R → ∃ cs : List V, Each IsPt H cs (R.map (·.1)) ∧ ∀ (i : Nat) v, vs[i]? = some v → ∃ t c r, v = .ref t ∧ H t = some (.tup [c, .int r.2]) ∧ cs[i]? = some c ∧ R[i]? = some r
  | [], [], _ => ⟨[], trivial, fun i v e => by simp at e⟩
  | v :: vs, r :: R, h => by
    obtain ⟨⟨t, c, e, a, b⟩, h2⟩ := h
    obtain ⟨cs, hc, hh⟩ := rows_split h2
    refine ⟨c :: cs, ⟨b, hc⟩, fun i u hu => ?_⟩
    cases i with
    | zero =>
      have : v = u := by simpa using hu
      subst this
      exact ⟨t, c, r, e, a, rfl, rfl⟩
    | succ i =>
      have : vs[i]? = some u := by simpa using hu
      obtain ⟨t', c', r', q1, q2, q3, q4⟩ := hh i u this
      exact ⟨t', c', r', q1, q2, by simpa using q3, by simpa using q4⟩
  | [], _ :: _, h => h.elim
  | _ :: _, [], h => h.elim
theorem take_snoc {α : Type} {l : List α} {i : Nat} {x : α} (h : l[i]? = some x) : l.take (i + 1) = l.take i ++ [x] := by
  rw [List.take_add_one, h]
  rfl
section
variable {P : Program} {w : World} {K : PySem.W.Frag} {mg : Str → Option Value} {base : Heap} {f : Addr} {fd : FuncData}
/-! ### box_field -/
theorem scBoxField : FnScope ["box", "x", "y", "u", "v"] ["box"] (defScope sBoxField) := ⟨rfl, rfl, rfl, by decide +kernel, rfl, by decide +kernel, by decide +kernel⟩
def spBoxField : Sp := fun vs H Q _ => ∃ (v : V) (W : SM.Wd), vs = [v] ∧ IsBox H v W ∧ W.Ok ∧ ∀ H' v', Same H H' → FieldAt H' v' W.boxF → Q v' H'
theorem d_boxField {aS : Addr} (F : Fun K "box_field" "box_field" sBoxField f fd) (g : mg "box_field" = some (.ref f)) (mgS : mg "SIDES" = some (.ref aS)) (hS : ∀ H, SqT K H aS ([-1, -2, -3, -4].map V.int)) (mli : mg "list" = none) (db : Def P w K mg base 2 "look_box" ["box"] spLookBox) : Def P w K mg base 3 "box_field" ["box"] spBoxField := by
  refine ⟨f, fd, g, F.kp, F.binds (ps := ["box"]) fun _ _ _ _ _ _ us hl => match us, hl with | [_], _ => rfl, ?_⟩
  refine F.ok scBoxField (fun vs H Q E h => ?_) (fun cdv A outer s H vs Q E hr h => ?_)
  · obtain ⟨a, _, rfl, _⟩ := h
    rfl
  · obtain ⟨_, W, rfl, hB, ok, k⟩ := h
    have hB0 := hB
    obtain ⟨t, rfl, hb⟩ := hB
    refine ⟨_, pss_cons (ps_expr (pe_def db hr (pa_cons (pv 0) pa_nil)))
      (pss_cons (ps_asg (pv 0) (pg_tup rfl (pgs_cons (pg_name (i := 1) scBoxField.nd rfl (Or.inl rfl)) (pgs_cons (pg_name (i := 2) scBoxField.nd rfl (Or.inl rfl)) (pgs_cons (pg_name (i := 3) scBoxField.nd rfl (Or.inl rfl)) (pgs_cons (pg_name (i := 4) scBoxField.nd rfl (Or.inl rfl)) pgs_nil))))))
      (pss_one (ps_ret (pe_tup (pa_cons (pe_lst (pa_cons (pe_tup (pa_cons (pv 1) (pa_cons (pv 2) (pa_cons pe_int pa_nil)))) (pa_cons (pe_tup (pa_cons (pv 3) (pa_cons (pv 2) (pa_cons pe_int pa_nil)))) (pa_cons (pe_tup (pa_cons (pv 3) (pa_cons (pv 4) (pa_cons pe_int pa_nil)))) (pa_cons (pe_tup (pa_cons (pv 1) (pa_cons (pv 4) (pa_cons pe_int pa_nil)))) pa_nil)))))
        (pa_cons (pe_callTy call_list_of (by rfl) mli (by decide +kernel) (pa_cons (pe_glob (v := .ref aS) rfl mgS rfl) pa_nil)) pa_nil)))))), ?_⟩
    refine ⟨_, rfl, _, W, rfl, hB0, ok.xu, ok.yv, fun H1 s0 => ?_⟩
    refine ⟨.ref t, rfl, t, _, rfl, SqT.of (s0 _ _ hb), rfl, _, _, rfl, _, _, rfl, _, _, rfl, _, _, rfl, rfl, ?_⟩
    refine ⟨_, rfl, _, rfl, (by show 3 ≤ sizeLine; decide), fun p1 n1 => ?_⟩
    refine ⟨_, rfl, _, rfl, (by show 3 ≤ sizeLine; decide), fun p2 n2 => ?_⟩
    refine ⟨_, rfl, _, rfl, (by show 3 ≤ sizeLine; decide), fun p3 n3 => ?_⟩
    refine ⟨_, rfl, _, rfl, (by show 3 ≤ sizeLine; decide), fun p4 n4 => ?_⟩
    refine ⟨(by show 4 ≤ sizeLine; decide), fun l nl => ?_⟩
    refine ⟨aS, _, rfl, .inr (hS _), fun el nel => ?_⟩
    refine ⟨(by show 2 ≤ sizeLine; decide), fun r nr => ?_⟩
    have s1 := s0.trans (same_upd (o := .tup [.int W.x, .int W.y, .int 1]) n1)
    have s2 := same_upd (o := .tup [.int W.u, .int W.y, .int 1]) n2
    have s3 := same_upd (o := .tup [.int W.u, .int W.v, .int 1]) n3
    have s4 := same_upd (o := .tup [.int W.x, .int W.v, .int 1]) n4
    have s5 := same_upd (o := .lst [.ref p1, .ref p2, .ref p3, .ref p4]) nl
    have s6 := same_upd (o := .lst ([-1, -2, -3, -4].map V.int)) nel
    have s7 := same_upd (o := .tup [.ref l, .ref el]) nr
    have t7 := s7
    have t6 := s6.trans t7
    have t5 := s5.trans t6
    have t4 := s4.trans t5
    have t3 := s3.trans t4
    have t2 := s2.trans t3
    refine k _ _ (s1.trans t2) ⟨r, l, el, [.ref p1, .ref p2, .ref p3, .ref p4], rfl, upd_same, t6 _ _ upd_same, ⟨⟨p1, rfl, t2 _ _ upd_same⟩, ⟨p2, rfl, t3 _ _ upd_same⟩, ⟨p3, rfl, t4 _ _ upd_same⟩, ⟨p4, rfl, t5 _ _ upd_same⟩, trivial⟩, t7 _ _ upd_same⟩
/-! ### begun -/
theorem scBegun : FnScope ["rows", "at", "k", "corner", "edge"] ["rows"] (defScope sBegun) := ⟨rfl, rfl, rfl, by decide +kernel, rfl, by decide +kernel, by decide +kernel⟩
def spBegun : Sp := fun vs H Q _ => ∃ (l : Addr) (rs : List V) (R : List SM.Row), vs = [.ref l] ∧ H l = some (.lst rs) ∧ Each IsRow H rs R ∧ R ≠ [] ∧ R.length ≤ 500 ∧ (∀ r ∈ R, SM.PtLt r.1) ∧ ∀ H' v A B, Same H H' → R = A ++ B → FieldAt H' v (B ++ A) → Q v H'
theorem pts_of {p : SM.Pt} (h : SM.PtLt p) : PtS 1000 p := ⟨SM.up_lt (by decide) h.1, SM.up_lt (by decide) h.2.1, SM.up_lt (by decide) h.2.2⟩
theorem d_begun (F : Fun K "begun" "begun" sBegun f fd) (g : mg "begun" = some (.ref f)) (ml : mg "len" = none) (mr : mg "range" = none) (da : Def P w K mg base 1 "ahead" ["one", "other"] spAhead) : Def P w K mg base 2 "begun" ["rows"] spBegun := by
  refine ⟨f, fd, g, F.kp, F.binds (ps := ["rows"]) fun _ _ _ _ _ _ us hl => match us, hl with | [_], _ => rfl, ?_⟩
  refine F.ok scBegun (fun vs H Q E h => ?_) (fun cdv A outer s H vs Q E hr h => ?_)
  · obtain ⟨a, _, _, rfl, _⟩ := h
    rfl
  · obtain ⟨l, rs, R, rfl, hl, he, hne, h500, hlt, k⟩ := h
    have lr := he.len
    have h0 : 0 < R.length := List.length_pos_iff.mpr hne
    refine ⟨_, pss_cons (ps_set (i := 1) scBegun.nd rfl (Or.inl rfl) pe_int)
      (pss_cons (ps_for PassesOwn.never rfl (pi_range2 (by rfl) mr (pa_cons pe_int (pa_cons (pe_callB call_len_seq (by rfl) ml PySem.boot_len (pa_cons (pv 0) pa_nil)) pa_nil))) (pg_name (i := 2) scBegun.nd rfl (Or.inl rfl))
        (pss_one (ps_if (pt_val (pe_def da hr (pa_cons (pe_ix ix_tup (pe_ix ix_list (pv 0) (pv 2) (fun _ _ => rfl)) pe_int (fun _ _ => rfl)) (pa_cons (pe_ix ix_tup (pe_ix ix_list (pv 0) (pv 1) (fun _ _ => rfl)) pe_int (fun _ _ => rfl)) pa_nil)))) (pss_one (ps_set (i := 1) scBegun.nd rfl (Or.inl rfl) (pv 2))) pss_nil)))
      (pss_cons (ps_set (i := 0) scBegun.nd rfl (Or.inl rfl) (pe_op op_cat (pe_slice sl_list (pv 0) (po_some (pv 1)) po_none) (pe_slice sl_list (pv 0) po_none (po_some (pv 1)))))
      (pss_one (ps_ret (pe_tup (pa_cons (pe_lc (own := [("corner", 3), ("edge", 4)]) (g := gTup K 2 (gCons (gName 3) (gCons (gName 4) gNil))) (by rfl) scBegun.nd (pi_list (pv 0)) (blkOk_by (own := [("corner", 3), ("edge", 4)]) (N := ["rows", "at", "k", "corner", "edge"]) (sc := defScope sBegun) (by decide +kernel)) (fun _ _ _ _ _ => pg_tup rfl (pgs_cons (pg_name (i := 3) scBegun.nd rfl (Or.inl rfl)) (pgs_cons (pg_name (i := 4) scBegun.nd rfl (Or.inl rfl)) pgs_nil))) (fun _ _ _ _ _ => pts_nil) (fun _ _ _ _ _ => pv 3))
        (pa_cons (pe_lc (own := [("corner", 3), ("edge", 4)]) (g := gTup K 2 (gCons (gName 3) (gCons (gName 4) gNil))) (by rfl) scBegun.nd (pi_list (pv 0)) (blkOk_by (own := [("corner", 3), ("edge", 4)]) (N := ["rows", "at", "k", "corner", "edge"]) (sc := defScope sBegun) (by decide +kernel)) (fun _ _ _ _ _ => pg_tup rfl (pgs_cons (pg_name (i := 3) scBegun.nd rfl (Or.inl rfl)) (pgs_cons (pg_name (i := 4) scBegun.nd rfl (Or.inl rfl)) pgs_nil))) (fun _ _ _ _ _ => pts_nil) (fun _ _ _ _ _ => pv 4)) pa_nil))))))), ?_⟩
    have item : ∀ i : Nat, i < R.length → ∃ (t : Addr) (c : V) (r : SM.Row), rs[i]? = some (.ref t) ∧ H t = some (.tup [c, .int r.2]) ∧ IsPt H c r.1 ∧ SM.PtLt r.1 := fun i hi => by
      obtain ⟨v, hv, t, c, rfl, a, b⟩ := he.get (List.getElem?_eq_getElem hi)
      exact ⟨t, c, _, hv, a, b, hlt _ (List.getElem_mem hi)⟩
    refine ⟨.ref l, rfl, l, _, rfl, .inl (SqL.of hl), _, _, rfl, ⟨by decide, by decide, by omega, by omega⟩, for_range (lo := 1) (n := (((rs.length : Nat) : Int) - 1).toNat) (fun i σ H' => H' = H ∧ ∃ (a : Nat) (y : Option V), a < R.length ∧ σ = [some (.ref l), some (.int (a : Int)), y, none, none]) ⟨rfl, 0, none, h0, rfl⟩ ?_ ?_⟩
    · rintro i σ H' hi ⟨rfl, a, y, ha, rfl⟩
      obtain ⟨t1, c1, r1, v1, a1, b1, e1⟩ := item (i + 1) (by omega)
      obtain ⟨t2, c2, r2, v2, a2, b2, e2⟩ := item a ha
      refine ⟨.ref l, rfl, _, rfl, l, rs, _, _, rfl, rfl, SqL.of hl, at_of (j := i + 1) (by omega) v1, t1, _, 0, c1, rfl, rfl, SqT.of a1, atI_nat (j := 0) rfl, ?_⟩
      refine ⟨.ref l, rfl, _, rfl, l, rs, _, _, rfl, rfl, SqL.of hl, atI_nat v2, t2, _, 0, c2, rfl, rfl, SqT.of a2, atI_nat (j := 0) rfl, ?_⟩
      refine ⟨_, _, _, _, rfl, b1, b2, pts_of e1, pts_of e2, fun b => ⟨b, rfl, ?_⟩⟩
      cases b with
      | true =>
        refine iteT ⟨_, rfl, rfl, i + 1, some (.int (1 + (i : Int))), by omega, ?_⟩
        rw [show ((i + 1 : Nat) : Int) = 1 + (i : Int) by omega]
        rfl
      | false => exact iteF ⟨rfl, a, _, ha, rfl⟩
    · rintro σ H' ⟨rfl, a, y, ha, rfl⟩
      refine ⟨.ref l, rfl, _, rfl, _, rfl, l, rs, rfl, SqL.of hl, fun p1 n1 => ?_⟩
      rw [cut_from]
      have s1 := same_upd (o := .lst (rs.drop a)) n1
      refine ⟨.ref l, rfl, _, rfl, _, rfl, l, rs, rfl, SqL.of (s1 _ _ hl), fun p2 n2 => ?_⟩
      rw [cut_to]
      have s2 := same_upd (o := .lst (rs.take a)) n2
      refine ⟨p1, p2, _, _, rfl, rfl, s2 _ _ upd_same, upd_same, ?_, fun p3 n3 => ?_⟩
      · rw [List.length_drop, List.length_take]
        exact Nat.le_of_lt (small1000 (by omega))
      have s3 := same_upd (o := .lst (rs.drop a ++ rs.take a)) n3
      have e3 : Each IsRow _ (rs.drop a ++ rs.take a) (R.drop a ++ R.take a) := ((he.drop a).app (he.take a)).keep fun v x => IsRow.keep ((s1.trans s2).trans s3)
      obtain ⟨cs, hc, hh⟩ := rows_split e3
      have lc := hc.len
      have le3 := e3.len
      have l5 : (R.drop a ++ R.take a).length = R.length := by
        rw [List.length_append, List.length_drop, List.length_take]
        omega
      have l6 : ((R.drop a ++ R.take a).map (·.1)).length = R.length := by rw [List.length_map, l5]
      generalize hR : R.drop a ++ R.take a = R' at *
      generalize hrs : rs.drop a ++ rs.take a = rs' at *
      generalize hH3 : upd (upd (upd H' p1 (.lst (rs.drop a))) p2 (.lst (rs.take a))) p3 (.lst rs') = H3 at *
      have h3 : H3 p3 = some (.lst rs') := by rw [← hH3]; exact upd_same
      -- the corners
      refine ⟨.ref p3, rfl, p3, rfl, ⟨_, SqL.of h3⟩, fun D1 nD1 => ?_⟩
      refine lc_list (K := K) (a := p3) (xs := rs') (fun i Hh => Same H3 Hh ∧ Hh D1 = some (.lst (cs.take i))) ⟨same_upd nD1, upd_same⟩ (fun i Hh _ ⟨q, _⟩ => SqL.of (q _ _ h3)) ?_ ?_
      · rintro i x Hh hx ⟨q, hD⟩
        obtain ⟨t, c, r, rfl, ht, hci, hri⟩ := hh i x hx
        refine ⟨t, _, rfl, SqT.of (q _ _ ht), rfl, _, _, rfl, _, _, rfl, rfl, rfl, _, rfl, cs.take i, hD, ?_, fun b o e => ?_, ?_⟩
        · rw [List.length_take]
          exact small1000 (by omega)
        · rw [upd_ne (ne_of_none e nD1)]
          exact q _ _ e
        · rw [upd_same, take_snoc hci]
      rintro H4 ⟨q4, hD1⟩
      rw [List.take_of_length_le (by omega)] at hD1
      -- the edges
      refine ⟨.ref p3, rfl, p3, rfl, ⟨_, SqL.of (q4 _ _ h3)⟩, fun D2 nD2 => ?_⟩
      refine lc_list (K := K) (a := p3) (xs := rs') (fun i Hh => Same H4 Hh ∧ Hh D2 = some (.lst (((R'.map (·.2)).map V.int).take i))) ⟨same_upd nD2, upd_same⟩ (fun i Hh _ ⟨q, _⟩ => SqL.of (q _ _ (q4 _ _ h3))) ?_ ?_
      · rintro i x Hh hx ⟨q, hD⟩
        obtain ⟨t, c, r, rfl, ht, hci, hri⟩ := hh i x hx
        refine ⟨t, _, rfl, SqT.of (q _ _ (q4 _ _ ht)), rfl, _, _, rfl, _, _, rfl, rfl, rfl, _, rfl, _, hD, ?_, fun b o e => ?_, ?_⟩
        · rw [List.length_take, List.length_map, List.length_map]
          exact small1000 (by omega)
        · rw [upd_ne (ne_of_none e nD2)]
          exact q _ _ e
        · rw [upd_same, take_snoc (x := V.int r.2) (by rw [List.getElem?_map, List.getElem?_map, hri]; rfl)]
      rintro H5 ⟨q5, hD2⟩
      rw [List.take_of_length_le (by rw [List.length_map, List.length_map]; omega)] at hD2
      refine ⟨(by show 2 ≤ sizeLine; decide), fun r nr => ?_⟩
      have s7 := same_upd (o := .tup [.ref D1, .ref D2]) nr
      have sAll : Same H' H3 := (s1.trans s2).trans s3
      refine k _ _ (R.take a) (R.drop a) ((sAll.trans (q4.trans q5)).trans s7) (List.take_append_drop a R).symm ?_
      rw [hR]
      exact ⟨r, D1, D2, cs, rfl, upd_same, s7 _ _ (q5 _ _ hD1), hc.keep fun v x => IsPt.keep ((q4.trans q5).trans s7), s7 _ _ hD2⟩
end
end Wk

set_option Elab.async false
set_option linter.all false
set_option maxRecDepth 100000
set_option exponentiation.threshold 10000
set_option maxHeartbeats 8000000
namespace Wk
open PySem PySem.Spec PyProof.Rows L2
theorem hgt_bound {l : SM.Ln} {p : SM.Pt} (hl : SM.LnLt l) (hp : SM.PtLt p) : (SM.hgt l p).natAbs < 2 ^ 600 := by
  unfold SM.hgt
  exact SM.up_lt (by decide) (SM.sub_lt (SM.add_lt (SM.mul_lt hl.1 hp.1) (SM.mul_lt hl.2.1 hp.2.1)) (SM.up_lt (Nat.le_succ _) (SM.mul_lt hl.2.2 hp.2.2)))
theorem neI {a b : Int} (h : a ≠ b) : ¬ V.int a = V.int b := fun c => h (by injection c)
/-- the edge at a place -/
theorem tri_at {F : List SM.Row} {k : Nat} (hk : k < F.length) : ∃ r r', F[k]? = some r ∧ F[(k + 1) % F.length]? = some r' ∧ (SM.E F)[k]? = some ⟨r.1, r.2, r'.1⟩ := by
  have h2 : (k + 1) % F.length < F.length := Nat.mod_lt _ (by omega)
  exact ⟨F[k], F[(k + 1) % F.length], List.getElem?_eq_getElem hk, List.getElem?_eq_getElem h2, SM.E_get (List.getElem?_eq_getElem hk) (List.getElem?_eq_getElem h2)⟩
section
variable {P : Program} {w : World} {K : PySem.W.Frag} {mg : Str → Option Value} {base : Heap} {f : Addr} {fd : FuncData}
theorem scCut : FnScope ["field", "line", "number", "corners", "edges", "heights", "rows", "k", "behind", "here", "there", "corner"] ["field", "line", "number"] (defScope sCut) := ⟨rfl, rfl, rfl, by decide +kernel, rfl, by decide +kernel, by decide +kernel⟩
def spCut : Sp := fun vs H Q _ => ∃ (fv lv : V) (m : Int) (F : List SM.Row) (l : SM.Ln), vs = [fv, lv, .int m] ∧ FieldAt H fv F ∧ IsLn H lv l ∧ F ≠ [] ∧ F.length ≤ 100 ∧ SM.LnLt l ∧ (∀ r ∈ F, SM.PtLt r.1 ∧ 0 < r.1.w) ∧
  ((∀ r ∈ F, SM.hgt l r.1 ≤ 0) → ∀ H' v, Same H H' → FieldAt H' v F → Q v H') ∧
  ((∃ r ∈ F, 0 < SM.hgt l r.1) → (∃ r ∈ F, SM.hgt l r.1 < 0) ∧ SM.cutRows l m F ≠ [] ∧ (∀ r ∈ SM.cutRows l m F, SM.PtLt r.1) ∧ ∀ H' v A B, Same H H' → SM.cutRows l m F = A ++ B → FieldAt H' v (B ++ A) → Q v H')
def E2 (F : List SM.Row) (l : SM.Ln) (m : Int) (i : Nat) : List SM.Row := ((SM.E F).take i).flatMap (SM.em l m)
theorem em_len (l : SM.Ln) (m : Int) (t : SM.Tri) : (SM.em l m t).length ≤ 2 := by
  unfold SM.em
  rw [List.length_append]
  have h1 : (if SM.hgt l t.p < 0 ∨ (SM.hgt l t.p = 0 ∧ SM.hgt l t.q < 0) then [(t.p, t.e)] else if SM.hgt l t.p = 0 then [(t.p, m)] else []).length ≤ 1 := by
    split
    · exact Nat.le_refl 1
    · split
      · exact Nat.le_refl 1
      · exact Nat.zero_le 1
  have h2 : (if SM.hgt l t.p < 0 ∧ 0 < SM.hgt l t.q then [(SM.cutp l t.p t.q, m)] else if 0 < SM.hgt l t.p ∧ SM.hgt l t.q < 0 then [(SM.cutp l t.p t.q, t.e)] else []).length ≤ 1 := by
    split
    · exact Nat.le_refl 1
    · split
      · exact Nat.le_refl 1
      · exact Nat.zero_le 1
  omega
theorem fm_len (l : SM.Ln) (m : Int) : ∀ ts : List SM.Tri, (ts.flatMap (SM.em l m)).length ≤ 2 * ts.length
  | [] => Nat.zero_le _
  | t :: ts => by
    have ih := fm_len l m ts
    have := em_len l m t
    rw [List.flatMap_cons, List.length_append, List.length_cons]
    omega
theorem E2_len (F : List SM.Row) (l : SM.Ln) (m : Int) (i : Nat) : (E2 F l m i).length ≤ 2 * i := by
  have := fm_len l m ((SM.E F).take i)
  rw [List.length_take] at this
  unfold E2
  omega
theorem E2_succ {F : List SM.Row} {l : SM.Ln} {m : Int} {i : Nat} {t : SM.Tri} (h : (SM.E F)[i]? = some t) : E2 F l m (i + 1) = E2 F l m i ++ SM.em l m t := by
  unfold E2
  rw [take_snoc h, List.flatMap_append]
  simp
/-- the list of rows that grows -/
structure JJ (H1 : Hp) (rl : Addr) (Hh : Hp) (vs : List V) (R : List SM.Row) : Prop where
  same : Same H1 Hh
  at_ : Hh rl = some (.lst vs)
  rows : Each IsRow Hh vs R
theorem JJ.mono {H1 Hh Hq : Hp} {rl : Addr} {vs : List V} {R : List SM.Row} (j : JJ H1 rl Hh vs R) (s : Same Hh Hq) : JJ H1 rl Hq vs R :=
  ⟨j.same.trans s, s _ _ j.at_, j.rows.keep fun v x => IsRow.keep s⟩
theorem TI.keepT {H H' : Hp} (s : ∀ b xs, H b = some (.tup xs) → H' b = some (.tup xs)) {v : V} {ns : List Int} (h : TI H v ns) : TI H' v ns := by
  obtain ⟨t, e, h⟩ := h
  exact ⟨t, e, s _ _ h⟩
theorem IsRow.keepT {H H' : Hp} (s : ∀ b xs, H b = some (.tup xs) → H' b = some (.tup xs)) {v : V} {r : SM.Row} (h : IsRow H v r) : IsRow H' v r := by
  obtain ⟨t, c, e, a, b⟩ := h
  exact ⟨t, c, e, s _ _ a, TI.keepT s b⟩
theorem tup_keep {H : Hp} {l : Addr} {vs ws : List V} (h : H l = some (.lst vs)) : ∀ b xs, H b = some (.tup xs) → upd H l (.lst ws) b = some (.tup xs) := fun b xs e => by
  rw [upd_ne (ne_of e h (by intro z; cases z))]
  exact e
theorem JJ.push {H1 Hq : Hp} {rl : Addr} {vs : List V} {R : List SM.Row} (nrl : H1 rl = none) (j : JJ H1 rl Hq vs R) {p : Addr} {c : V} {e : Int} {pt : SM.Pt} (np : Hq p = none) (hc : IsPt Hq c pt) :
    JJ H1 rl (upd (upd Hq p (.tup [c, .int e])) rl (.lst (vs ++ [.ref p]))) (vs ++ [.ref p]) (R ++ [(pt, e)]) := by
  have s1 := same_upd (o := .tup [c, .int e]) np
  have j1 := j.mono s1
  have tk := tup_keep (ws := vs ++ [.ref p]) j1.at_
  refine ⟨fun b o hb => ?_, upd_same, (j1.rows.keep fun v x => IsRow.keepT tk).app ⟨⟨p, c, rfl, tk _ _ upd_same, TI.keepT tk (hc.keep s1)⟩, trivial⟩⟩
  rw [upd_ne (ne_of_none hb nrl)]
  exact j1.same _ _ hb
abbrev σcut (fv lv : V) (m : Int) (cl el hl rl : Addr) (a b c d : Option V) : L2.St := [some fv, some lv, some (.int m), some (.ref cl), some (.ref el), some (.ref hl), some (.ref rl), a, b, c, d, none]
theorem d_cut (F : Fun K "cut" "cut" sCut f fd) (g : mg "cut" = some (.ref f)) (ml : mg "len" = none) (mr : mg "range" = none) (mx : mg "max" = none) (mn : mg "min" = none) (mli : mg "list" = none)
    (dh : Def P w K mg base 1 "height_of" ["line", "point"] spHeightOf) (dc : Def P w K mg base 3 "crossing" ["one", "other", "here", "there"] spCrossing) (db : Def P w K mg base 2 "begun" ["rows"] spBegun) : Def P w K mg base 4 "cut" ["field", "line", "number"] spCut := by
  refine ⟨f, fd, g, F.kp, F.binds (ps := ["field", "line", "number"]) fun _ _ _ _ _ _ us hl => match us, hl with | [_, _, _], _ => rfl, ?_⟩
  refine F.ok scCut (fun vs H Q E h => ?_) (fun cdv A outer s H vs Q E hr h => ?_)
  · obtain ⟨a, _, _, _, _, rfl, _⟩ := h
    rfl
  · obtain ⟨_, lv, m, G, l, rfl, ⟨t, cl, el, cs, rfl, ht, hcl, hcs, hel⟩, hL, hne, h100, hll, hpt, k1, k2⟩ := h
    have lc := hcs.len
    rw [List.length_map] at lc
    have h0 : 0 < G.length := List.length_pos_iff.mpr hne
    have hr1 : Room 1 _ := hr.mono (by decide)
    have hr2 : Room 2 _ := hr.mono (by decide)
    refine ⟨_, pss_cons (ps_asg (pv 0) (pg_tup rfl (pgs_cons (pg_name (i := 3) scCut.nd rfl (Or.inl rfl)) (pgs_cons (pg_name (i := 4) scCut.nd rfl (Or.inl rfl)) pgs_nil))))
      (pss_cons (ps_setLc (i := 5) (own := [("corner", 11)]) (g := gName 11) (by rfl) scCut.nd rfl rfl (sw_true rfl rfl rfl (by decide +kernel)) (pi_list (pv 3)) (blkOk_by (own := [("corner", 11)]) (N := ["field", "line", "number", "corners", "edges", "heights", "rows", "k", "behind", "here", "there", "corner"]) (sc := defScope sCut) (by decide +kernel)) (fun _ _ _ _ _ => pg_name (i := 11) scCut.nd rfl (Or.inl rfl)) (fun _ _ _ _ _ => pts_nil)
          (fun _ _ _ _ _ => pe_def dh hr1 (pa_cons (pv 1) (pa_cons (pv 11) pa_nil))))
      (pss_cons (ps_if (pt_cmpR op_le (pe_callB (cr_max rfl) (by rfl) mx (by decide +kernel) (pa_cons (pv 5) pa_nil)) pe_int (nomark _)) (pss_one (ps_ret (pe_tup (pa_cons (pe_callTy call_list_of (by rfl) mli (by decide +kernel) (pa_cons (pv 3) pa_nil)) (pa_cons (pe_callTy call_list_of (by rfl) mli (by decide +kernel) (pa_cons (pv 4) pa_nil)) pa_nil))))) pss_nil)
      (pss_cons (ps_if (pt_cmpR op_ge (pe_callB (cr_min rfl) (by rfl) mn (by decide +kernel) (pa_cons (pv 5) pa_nil)) pe_int (nomark _)) (pss_one ps_never) pss_nil)
      (pss_cons (ps_set (i := 6) scCut.nd rfl (Or.inl rfl) (pe_lst pa_nil))
      (pss_cons (ps_for PassesOwn.never rfl (pi_range1 rfl mr (pa_cons (pe_callB call_len_seq (by rfl) ml PySem.boot_len (pa_cons (pv 3) pa_nil)) pa_nil)) (pg_name (i := 7) scCut.nd rfl (Or.inl rfl))
        (pss_cons (ps_set (i := 8) scCut.nd rfl (Or.inl rfl) (pe_op op_modN (pe_op op_add (pv 7) pe_int) (pe_callB call_len_seq (by rfl) ml PySem.boot_len (pa_cons (pv 3) pa_nil))))
        (pss_cons (ps_par (i := 9) (j := 10) rfl scCut.nd rfl rfl (by decide) rfl rfl (pa_cons (pe_ix ix_list (pv 5) (pv 7) (fun _ _ => rfl)) (pa_cons (pe_ix ix_list (pv 5) (pv 8) (fun _ _ => rfl)) pa_nil)) (by rfl))
        (pss_cons (ps_if (PW.pt (pw_or (pt_cmpR op_lt (pv 9) pe_int (nomark _)) (pw_or1 (PW.pt (pw_and (pt_cmpR op_eq (pv 9) pe_int (nomark _)) (pw_and1 (pt_cmpR op_lt (pv 10) pe_int (nomark _))))))))
            (pss_one (ps_expr (pe_bm PySem.F.plainAttrs_list PySem.F.slot_list_append PySem.F.type_list_append mt_append (pv 6) (pa_cons (pe_tup (pa_cons (pe_ix ix_list (pv 3) (pv 7) (fun _ _ => rfl)) (pa_cons (pe_ix ix_list (pv 4) (pv 7) (fun _ _ => rfl)) pa_nil))) pa_nil))))
            (pss_one (ps_if (pt_cmpR op_eq (pv 9) pe_int (nomark _)) (pss_one (ps_expr (pe_bm PySem.F.plainAttrs_list PySem.F.slot_list_append PySem.F.type_list_append mt_append (pv 6) (pa_cons (pe_tup (pa_cons (pe_ix ix_list (pv 3) (pv 7) (fun _ _ => rfl)) (pa_cons (pv 2) pa_nil))) pa_nil)))) pss_nil)))
        (pss_one (ps_if (PW.pt (pw_and (pt_cmpR op_lt (pv 9) pe_int (nomark _)) (pw_and1 (pt_cmpR op_gt (pv 10) pe_int (nomark _)))))
            (pss_one (ps_expr (pe_bm PySem.F.plainAttrs_list PySem.F.slot_list_append PySem.F.type_list_append mt_append (pv 6) (pa_cons (pe_tup (pa_cons (pe_def dc hr (pa_cons (pe_ix ix_list (pv 3) (pv 7) (fun _ _ => rfl)) (pa_cons (pe_ix ix_list (pv 3) (pv 8) (fun _ _ => rfl)) (pa_cons (pv 9) (pa_cons (pv 10) pa_nil))))) (pa_cons (pv 2) pa_nil))) pa_nil))))
            (pss_one (ps_if (PW.pt (pw_and (pt_cmpR op_gt (pv 9) pe_int (nomark _)) (pw_and1 (pt_cmpR op_lt (pv 10) pe_int (nomark _)))))
              (pss_one (ps_expr (pe_bm PySem.F.plainAttrs_list PySem.F.slot_list_append PySem.F.type_list_append mt_append (pv 6) (pa_cons (pe_tup (pa_cons (pe_def dc hr (pa_cons (pe_ix ix_list (pv 3) (pv 7) (fun _ _ => rfl)) (pa_cons (pe_ix ix_list (pv 3) (pv 8) (fun _ _ => rfl)) (pa_cons (pv 9) (pa_cons (pv 10) pa_nil))))) (pa_cons (pe_ix ix_list (pv 4) (pv 7) (fun _ _ => rfl)) pa_nil))) pa_nil)))) pss_nil))))))))
      (pss_one (ps_ret (pe_def db hr2 (pa_cons (pv 6) pa_nil))))))))), ?_⟩
    have hts : ∀ i, i < G.length → True := fun _ _ => trivial
    refine ⟨.ref t, rfl, t, _, rfl, SqT.of ht, rfl, _, _, rfl, _, _, rfl, rfl, ?_⟩
    -- heights
    refine ⟨.ref cl, rfl, cl, rfl, ⟨_, SqL.of hcl⟩, fun D hD => ?_⟩
    refine lc_list (K := K) (a := cl) (xs := cs) (fun i Hh => Same H Hh ∧ Hh D = some (.lst (((G.map fun r => SM.hgt l r.1).take i).map V.int))) ⟨same_upd hD, upd_same⟩ (fun i Hh _ ⟨q, _⟩ => SqL.of (q _ _ hcl)) ?_ ?_
    · rintro i x Hh hx ⟨q, hDh⟩
      obtain ⟨pt, hpi, hip⟩ := hcs.getV hx
      obtain ⟨r, hri, rfl⟩ : ∃ r, G[i]? = some r ∧ r.1 = pt := by
        rw [List.getElem?_map] at hpi
        cases e : G[i]? with
        | none => rw [e] at hpi; cases hpi
        | some r => rw [e] at hpi; exact ⟨r, rfl, Option.some.inj hpi⟩
      have hb := hpt r (List.mem_of_getElem? hri)
      refine ⟨rfl, _, rfl, _, rfl, _, _, l, _, rfl, hL.keep q, hip.keep q, hll, hb.1, _, hDh, ?_, fun b o e => ?_, ?_⟩
      · rw [List.length_map, List.length_take, List.length_map]
        exact small1000 (by omega)
      · rw [upd_ne (ne_of_none e hD)]
        exact q _ _ e
      · rw [upd_same, take_snoc (x := SM.hgt l r.1) (by rw [List.getElem?_map, hri]; rfl), List.map_append]
        rfl
    rintro H1 ⟨q1, hD1⟩
    rw [List.take_of_length_le (by rw [List.length_map]; omega)] at hD1
    have hmem : ∀ r ∈ G, SM.hgt l r.1 ∈ G.map fun r => SM.hgt l r.1 := fun r hr => List.mem_map.mpr ⟨r, hr, rfl⟩
    -- max
    refine ⟨.ref D, rfl, D, G.map (fun r => SM.hgt l r.1), rfl, SqL.of hD1, by rw [List.length_map]; exact h0, fun mM hM1 hM2 => ?_⟩
    refine ⟨_, _, rfl, rfl, _, rfl, ite2 (fun c => ?_) (fun c => ?_)⟩
    · have c' : mM ≤ 0 := of_decide_eq_true c
      refine ⟨.ref cl, rfl, cl, _, rfl, .inl (SqL.of (q1 _ _ hcl)), fun p1 n1 => ?_⟩
      have s1 := same_upd (o := .lst cs) n1
      refine ⟨.ref el, rfl, el, _, rfl, .inl (SqL.of (s1 _ _ (q1 _ _ hel))), fun p2 n2 => ?_⟩
      have s2 := same_upd (o := .lst ((G.map (·.2)).map V.int)) n2
      refine ⟨(by show 2 ≤ sizeLine; decide), fun p3 n3 => ?_⟩
      have s3 := same_upd (o := .tup [.ref p1, .ref p2]) n3
      have sA := ((q1.trans s1).trans s2).trans s3
      refine k1 (fun r hr => Int.le_trans (hM2 _ (hmem r hr)) c') _ _ sA ⟨p3, p1, p2, cs, rfl, upd_same, (s2.trans s3) _ _ upd_same, hcs.keep fun v x => IsPt.keep sA, s3 _ _ upd_same⟩
    have c0 : 0 < mM := by
      have : ¬ mM ≤ 0 := fun h => c (decide_eq_true h)
      omega
    obtain ⟨rM, hrM, eM⟩ := List.mem_map.mp hM1
    obtain ⟨⟨rN, hrN, hN⟩, cne, cpt, k3⟩ := k2 ⟨rM, hrM, by show 0 < SM.hgt l rM.1; have eM : SM.hgt l rM.1 = mM := eM; omega⟩
    -- min
    refine ⟨.ref D, rfl, D, G.map (fun r => SM.hgt l r.1), rfl, SqL.of hD1, by rw [List.length_map]; exact h0, fun mN hN1 hN2 => ?_⟩
    refine ⟨_, _, rfl, rfl, false, ?_, iteF ?_⟩
    · have := hN2 _ (hmem rN hrN)
      exact blF (by omega)
    refine ⟨Nat.zero_le _, fun rl nrl => ?_⟩
    have srl := same_upd (o := .lst []) nrl
    refine ⟨.ref cl, rfl, cl, _, rfl, .inl (SqL.of (srl _ _ (q1 _ _ hcl))), _, rfl, by omega, by omega, ?_⟩
    refine for_range (lo := 0) (n := ((cs.length : Nat) : Int).toNat) (fun i σ Hh => ∃ vs, JJ H1 rl Hh vs (E2 G l m i) ∧ ∃ a b c d, σ = σcut (.ref t) lv m cl el D rl a b c d) ⟨[], ⟨srl, upd_same, trivial⟩, _, _, _, _, rfl⟩ ?_ ?_
    · rintro i σ Hh hi ⟨vs, j, sa, sb, sc, sd, rfl⟩
      have hiG : i < G.length := by omega
      obtain ⟨r, r', g1, g2, g3⟩ := tri_at hiG
      have lvs : vs.length ≤ 200 := by
        have := E2_len G l m i
        have := j.rows.len
        omega
      have sz : vs.length < sizeLine := small1000 (by omega)
      have hb := hpt r (List.mem_of_getElem? g1)
      have hb' := hpt r' (List.mem_of_getElem? g2)
      obtain ⟨v, hv, hvp⟩ := hcs.get (i := i) (x := r.1) (by rw [List.getElem?_map, g1]; rfl)
      obtain ⟨v', hv', hvp'⟩ := hcs.get (i := (i + 1) % G.length) (x := r'.1) (by rw [List.getElem?_map, g2]; rfl)
      have hedge : ((G.map (·.2)).map V.int)[i]? = some (.int r.2) := by rw [List.getElem?_map, List.getElem?_map, g1]; rfl
      have hhs : ((G.map fun r => SM.hgt l r.1).map V.int)[i]? = some (.int (SM.hgt l r.1)) := by rw [List.getElem?_map, List.getElem?_map, g1]; rfl
      have hhs' : ((G.map fun r => SM.hgt l r.1).map V.int)[(i + 1) % G.length]? = some (.int (SM.hgt l r'.1)) := by rw [List.getElem?_map, List.getElem?_map, g2]; rfl
      have zk : (0 : Int) + (i : Int) = (i : Int) := by omega
      have zb : ((0 : Int) + (i : Int) + 1).fmod ((cs.length : Nat) : Int) = (((i + 1) % G.length : Nat) : Int) := by
        rw [Int.fmod_eq_emod_of_nonneg _ (Int.natCast_nonneg _), lc, zk]
        rfl
      have cl' := j.same _ _ (q1 _ _ hcl)
      have D' := j.same _ _ hD1
      have el' := j.same _ _ (q1 _ _ hel)
      have bnd := hgt_bound hll hb.1
      have bnd' := hgt_bound hll hb'.1
      have esucc := E2_succ (l := l) (m := m) g3
      refine ⟨_, rfl, _, _, rfl, rfl, .ref cl, rfl, cl, _, rfl, .inl (SqL.of cl'), _, _, rfl, rfl, (by omega), ?_⟩
      refine ⟨.ref D, rfl, _, rfl, D, _, _, _, rfl, rfl, SqL.of D', at_of zk hhs, .ref D, rfl, _, rfl, D, _, _, _, rfl, rfl, SqL.of D', at_of zb hhs', _, _, rfl, ?_⟩
      rcases Int.lt_or_le (SM.hgt l r.1) 0 with h1 | h1
      · rcases Int.lt_or_le 0 (SM.hgt l r'.1) with h2 | h2
        · skip
          refine ⟨_, rfl, _, _, rfl, rfl, true, blT h1, iteT (iteT ?_)⟩
          refine ⟨.ref rl, rfl, .inl ⟨rfl, _, SqL.of j.at_⟩, .ref cl, rfl, _, rfl, cl, _, _, v, rfl, rfl, SqL.of (j.same _ _ (q1 _ _ hcl)), at_of zk hv, .ref el, rfl, _, rfl, el, _, _, _, rfl, rfl, SqL.of (j.same _ _ (q1 _ _ hel)), at_of zk hedge, (by show 2 ≤ sizeLine; decide), fun p np => ⟨rl, vs, _, rfl, rfl, (same_upd np) _ _ j.at_, sz, ?_⟩⟩
          have j2 := j.push nrl np (e := r.2) (hvp.keep (q1.trans j.same))
          have sz2 : (vs ++ [V.ref p]).length < sizeLine := small1000 (by rw [List.length_append, List.length_singleton]; omega)
          refine ⟨_, rfl, _, _, rfl, rfl, true, blT h1, iteT ⟨_, rfl, _, _, rfl, rfl, true, blT h2, iteT ?_⟩⟩
          refine ⟨.ref rl, rfl, .inl ⟨rfl, _, SqL.of j2.at_⟩, .ref cl, rfl, _, rfl, cl, _, _, v, rfl, rfl, SqL.of (j2.same _ _ (q1 _ _ hcl)), at_of zk hv, .ref cl, rfl, _, rfl, cl, _, _, v', rfl, rfl, SqL.of (j2.same _ _ (q1 _ _ hcl)), at_of zb hv', _, rfl, _, rfl, _, _, r.1, r'.1, _, _, rfl, hvp.keep (q1.trans j2.same), hvp'.keep (q1.trans j2.same), hb.1, hb'.1, bnd, bnd', hb.2, hb'.2, (by omega), (by omega), fun px nx => ⟨_, rfl, (by show 2 ≤ sizeLine; decide), fun p2 np2 => ⟨rl, _, _, rfl, rfl, (same_upd np2) _ _ ((same_upd nx) _ _ j2.at_), sz2, ?_⟩⟩⟩
          have j3 := (j2.mono (same_upd nx)).push nrl np2 (e := m) (pt := SM.cutp l r.1 r'.1) ⟨px, rfl, upd_same⟩
          have em0 : SM.em l m ⟨r.1, r.2, r'.1⟩ = ([(r.1, r.2), (SM.cutp l r.1 r'.1, m)] : List SM.Row) := SM.em_np (t := ⟨r.1, r.2, r'.1⟩) l m h1 h2
          have e5 : E2 G l m (i + 1) = E2 G l m i ++ [(r.1, r.2)] ++ [(SM.cutp l r.1 r'.1, m)] := by
            rw [esucc, em0, List.append_assoc]
            rfl
          rw [← e5] at j3
          exact ⟨_, j3, _, _, _, _, rfl⟩
        · skip
          refine ⟨_, rfl, _, _, rfl, rfl, true, blT h1, iteT (iteT ?_)⟩
          refine ⟨.ref rl, rfl, .inl ⟨rfl, _, SqL.of j.at_⟩, .ref cl, rfl, _, rfl, cl, _, _, v, rfl, rfl, SqL.of (j.same _ _ (q1 _ _ hcl)), at_of zk hv, .ref el, rfl, _, rfl, el, _, _, _, rfl, rfl, SqL.of (j.same _ _ (q1 _ _ hel)), at_of zk hedge, (by show 2 ≤ sizeLine; decide), fun p np => ⟨rl, vs, _, rfl, rfl, (same_upd np) _ _ j.at_, sz, ?_⟩⟩
          have j2 := j.push nrl np (e := r.2) (hvp.keep (q1.trans j.same))
          have sz2 : (vs ++ [V.ref p]).length < sizeLine := small1000 (by rw [List.length_append, List.length_singleton]; omega)
          refine ⟨_, rfl, _, _, rfl, rfl, true, blT h1, iteT ⟨_, rfl, _, _, rfl, rfl, false, blF (by omega), iteF ?_⟩⟩
          refine ⟨_, rfl, _, _, rfl, rfl, false, blF (by omega), iteF (iteF ?_)⟩
          have em0 : SM.em l m ⟨r.1, r.2, r'.1⟩ = ([(r.1, r.2)] : List SM.Row) := SM.em_nn (t := ⟨r.1, r.2, r'.1⟩) l m h1 h2
          have e5 : E2 G l m (i + 1) = E2 G l m i ++ [(r.1, r.2)] := by
            rw [esucc, em0]
          rw [← e5] at j2
          exact ⟨_, j2, _, _, _, _, rfl⟩
      · rcases Int.lt_or_le 0 (SM.hgt l r.1) with h1' | h1'
        · clear h1
          have h1 := h1'
          rcases Int.lt_or_le (SM.hgt l r'.1) 0 with h2 | h2
          · skip
            refine ⟨_, rfl, _, _, rfl, rfl, false, blF (by omega), iteF ⟨_, rfl, rfl, false, blF (neI (by omega)), iteF (iteF ?_)⟩⟩
            refine ⟨_, rfl, rfl, false, blF (neI (by omega)), iteF ?_⟩
            refine ⟨_, rfl, _, _, rfl, rfl, false, blF (by omega), iteF (iteF ?_)⟩
            refine ⟨_, rfl, _, _, rfl, rfl, true, blT h1, iteT ⟨_, rfl, _, _, rfl, rfl, true, blT h2, iteT ?_⟩⟩
            refine ⟨.ref rl, rfl, .inl ⟨rfl, _, SqL.of j.at_⟩, .ref cl, rfl, _, rfl, cl, _, _, v, rfl, rfl, SqL.of (j.same _ _ (q1 _ _ hcl)), at_of zk hv, .ref cl, rfl, _, rfl, cl, _, _, v', rfl, rfl, SqL.of (j.same _ _ (q1 _ _ hcl)), at_of zb hv', _, rfl, _, rfl, _, _, r.1, r'.1, _, _, rfl, hvp.keep (q1.trans j.same), hvp'.keep (q1.trans j.same), hb.1, hb'.1, bnd, bnd', hb.2, hb'.2, (by omega), (by omega), fun px nx => ⟨.ref el, rfl, _, rfl, el, _, _, _, rfl, rfl, SqL.of ((j.mono (same_upd nx)).same _ _ (q1 _ _ hel)), at_of zk hedge, (by show 2 ≤ sizeLine; decide), fun p2 np2 => ⟨rl, _, _, rfl, rfl, (same_upd np2) _ _ ((same_upd nx) _ _ j.at_), sz, ?_⟩⟩⟩
            have j3 := (j.mono (same_upd nx)).push nrl np2 (e := r.2) (pt := SM.cutp l r.1 r'.1) ⟨px, rfl, upd_same⟩
            have em0 : SM.em l m ⟨r.1, r.2, r'.1⟩ = ([(SM.cutp l r.1 r'.1, r.2)] : List SM.Row) := SM.em_pn (t := ⟨r.1, r.2, r'.1⟩) l m h1 h2
            have e5 : E2 G l m (i + 1) = E2 G l m i ++ [(SM.cutp l r.1 r'.1, r.2)] := by
              rw [esucc, em0]
            rw [← e5] at j3
            exact ⟨_, j3, _, _, _, _, rfl⟩
          · skip
            refine ⟨_, rfl, _, _, rfl, rfl, false, blF (by omega), iteF ⟨_, rfl, rfl, false, blF (neI (by omega)), iteF (iteF ?_)⟩⟩
            refine ⟨_, rfl, rfl, false, blF (neI (by omega)), iteF ?_⟩
            refine ⟨_, rfl, _, _, rfl, rfl, false, blF (by omega), iteF (iteF ?_)⟩
            refine ⟨_, rfl, _, _, rfl, rfl, true, blT h1, iteT ⟨_, rfl, _, _, rfl, rfl, false, blF (by omega), iteF ?_⟩⟩
            have em0 : SM.em l m ⟨r.1, r.2, r'.1⟩ = ([] : List SM.Row) := SM.em_pp (t := ⟨r.1, r.2, r'.1⟩) l m h1 h2
            have e5 : E2 G l m (i + 1) = E2 G l m i := by
              rw [esucc, em0, List.append_nil]
            rw [← e5] at j
            exact ⟨_, j, _, _, _, _, rfl⟩
        · have h1 : SM.hgt l r.1 = 0 := by omega
          rcases Int.lt_or_le (SM.hgt l r'.1) 0 with h2 | h2
          · skip
            refine ⟨_, rfl, _, _, rfl, rfl, false, blF (by omega), iteF ⟨_, rfl, rfl, true, blT (congrArg V.int h1), iteT ⟨_, rfl, _, _, rfl, rfl, true, blT h2, iteT ?_⟩⟩⟩
            refine ⟨.ref rl, rfl, .inl ⟨rfl, _, SqL.of j.at_⟩, .ref cl, rfl, _, rfl, cl, _, _, v, rfl, rfl, SqL.of (j.same _ _ (q1 _ _ hcl)), at_of zk hv, .ref el, rfl, _, rfl, el, _, _, _, rfl, rfl, SqL.of (j.same _ _ (q1 _ _ hel)), at_of zk hedge, (by show 2 ≤ sizeLine; decide), fun p np => ⟨rl, vs, _, rfl, rfl, (same_upd np) _ _ j.at_, sz, ?_⟩⟩
            have j2 := j.push nrl np (e := r.2) (hvp.keep (q1.trans j.same))
            have sz2 : (vs ++ [V.ref p]).length < sizeLine := small1000 (by rw [List.length_append, List.length_singleton]; omega)
            refine ⟨_, rfl, _, _, rfl, rfl, false, blF (by omega), iteF (iteF ?_)⟩
            refine ⟨_, rfl, _, _, rfl, rfl, false, blF (by omega), iteF (iteF ?_)⟩
            have em0 : SM.em l m ⟨r.1, r.2, r'.1⟩ = ([(r.1, r.2)] : List SM.Row) := SM.em_zn (t := ⟨r.1, r.2, r'.1⟩) l m h1 h2
            have e5 : E2 G l m (i + 1) = E2 G l m i ++ [(r.1, r.2)] := by
              rw [esucc, em0]
            rw [← e5] at j2
            exact ⟨_, j2, _, _, _, _, rfl⟩
          · skip
            refine ⟨_, rfl, _, _, rfl, rfl, false, blF (by omega), iteF ⟨_, rfl, rfl, true, blT (congrArg V.int h1), iteT ⟨_, rfl, _, _, rfl, rfl, false, blF (by omega), iteF ?_⟩⟩⟩
            refine ⟨_, rfl, rfl, true, blT (congrArg V.int h1), iteT ?_⟩
            refine ⟨.ref rl, rfl, .inl ⟨rfl, _, SqL.of j.at_⟩, .ref cl, rfl, _, rfl, cl, _, _, v, rfl, rfl, SqL.of (j.same _ _ (q1 _ _ hcl)), at_of zk hv, _, rfl, (by show 2 ≤ sizeLine; decide), fun p np => ⟨rl, vs, _, rfl, rfl, (same_upd np) _ _ j.at_, sz, ?_⟩⟩
            have j2 := j.push nrl np (e := m) (hvp.keep (q1.trans j.same))
            have sz2 : (vs ++ [V.ref p]).length < sizeLine := small1000 (by rw [List.length_append, List.length_singleton]; omega)
            refine ⟨_, rfl, _, _, rfl, rfl, false, blF (by omega), iteF (iteF ?_)⟩
            refine ⟨_, rfl, _, _, rfl, rfl, false, blF (by omega), iteF (iteF ?_)⟩
            have em0 : SM.em l m ⟨r.1, r.2, r'.1⟩ = ([(r.1, m)] : List SM.Row) := SM.em_zp (t := ⟨r.1, r.2, r'.1⟩) l m h1 h2
            have e5 : E2 G l m (i + 1) = E2 G l m i ++ [(r.1, m)] := by
              rw [esucc, em0]
            rw [← e5] at j2
            exact ⟨_, j2, _, _, _, _, rfl⟩
    · rintro σ Hh ⟨vs, j, a, b, c, d, rfl⟩
      have eE : E2 G l m ((cs.length : Nat) : Int).toNat = SM.cutRows l m G := by
        unfold E2 SM.cutRows
        rw [List.take_of_length_le]
        unfold SM.E
        rw [SM.edg_len]
        omega
      rw [eE] at j
      have hlen : (SM.cutRows l m G).length ≤ 500 := by
        have := E2_len G l m ((cs.length : Nat) : Int).toNat
        rw [eE] at this
        omega
      refine ⟨.ref rl, rfl, rl, vs, _, rfl, j.at_, j.rows, cne, hlen, cpt, fun H2 v A B s2 e hf => k3 _ _ A B ((q1.trans j.same).trans s2) e hf⟩
end
end Wk

set_option Elab.async false
set_option linter.all false
set_option maxRecDepth 100000
set_option exponentiation.threshold 10000
set_option maxHeartbeats 8000000
namespace Wk
open PySem PySem.Spec PyProof.Rows L2
section
variable {P : Program} {w : World} {K : PySem.W.Frag} {mg : Str → Option Value} {base : Heap} {f : Addr} {fd : FuncData}
/-! ### land_among -/
theorem scLandAmong : FnScope ["box", "spots", "number", "field", "other"] ["box", "spots", "number"] (defScope sLandAmong) := ⟨rfl, rfl, rfl, by decide +kernel, rfl, by decide +kernel, by decide +kernel⟩
def spLandAmong : Sp := fun vs H Q _ => ∃ (v u : V) (W : SM.Wd) (i : Nat), vs = [v, u, .int (i : Int)] ∧ IsBox H v W ∧ SpotsAt H u W.s ∧ W.Ok ∧ i < W.s.length ∧ ∀ H' v' F, Same H H' → SM.LandOk W i F → FieldAt H' v' F → Q v' H'
theorem sp_get' {W : SM.Wd} {j : Nat} (h : j < W.s.length) : W.s[j]? = some (W.sp (j : Int)) := SM.sp_get h
theorem d_landAmong (F : Fun K "land_among" "land_among" sLandAmong f fd) (g : mg "land_among" = some (.ref f)) (ml : mg "len" = none) (mr : mg "range" = none)
    (dbf : Def P w K mg base 3 "box_field" ["box"] spBoxField) (dc : Def P w K mg base 4 "cut" ["field", "line", "number"] spCut) (db : Def P w K mg base 4 "between" ["one", "other"] spBetween) : Def P w K mg base 5 "land_among" ["box", "spots", "number"] spLandAmong := by
  refine ⟨f, fd, g, F.kp, F.binds (ps := ["box", "spots", "number"]) fun _ _ _ _ _ _ us hl => match us, hl with | [_, _, _], _ => rfl, ?_⟩
  refine F.ok scLandAmong (fun vs H Q E h => ?_) (fun cdv A outer s H vs Q E hr h => ?_)
  · obtain ⟨a, _, _, _, rfl, _⟩ := h
    rfl
  · obtain ⟨bv, _, W, n, rfl, hB, ⟨sl, ss, rfl, hsl, hss⟩, ok, hn, k⟩ := h
    have hr3 : Room 3 _ := hr.mono (by decide)
    have lss := hss.len
    have h12 := ok.most
    refine ⟨_, pss_cons (ps_set (i := 3) scLandAmong.nd rfl (Or.inl rfl) (pe_def dbf hr3 (pa_cons (pv 0) pa_nil)))
      (pss_cons (ps_for PassesOwn.never rfl (pi_range1 rfl mr (pa_cons (pe_callB call_len_seq (by rfl) ml PySem.boot_len (pa_cons (pv 1) pa_nil)) pa_nil)) (pg_name (i := 4) scLandAmong.nd rfl (Or.inl rfl))
        (pss_one (ps_if (pt_cmpR op_ne (pv 4) (pv 2) (nomark _)) (pss_one (ps_set (i := 3) scLandAmong.nd rfl (Or.inl rfl) (pe_def dc hr (pa_cons (pv 3) (pa_cons (pe_def db hr (pa_cons (pe_ix ix_list (pv 1) (pv 2) (fun _ _ => rfl)) (pa_cons (pe_ix ix_list (pv 1) (pv 4) (fun _ _ => rfl)) pa_nil))) (pa_cons (pv 4) pa_nil)))))) pss_nil)))
      (pss_one (ps_ret (pv 3)))), ?_⟩
    refine ⟨_, rfl, _, W, rfl, hB, ok, fun H1 v1 s1 f1 => ?_⟩
    refine ⟨.ref sl, rfl, sl, _, rfl, .inl (SqL.of (s1 _ _ hsl)), _, rfl, by omega, by omega, ?_⟩
    refine for_range (lo := 0) (n := ((ss.length : Nat) : Int).toNat) (fun i σ Hh => Same H Hh ∧ ∃ (fv : V) (y : Option V) (G : List SM.Row), FieldAt Hh fv G ∧ SM.Inv (W.ln n) (SM.Dk n i) G ∧ σ = [some bv, some (.ref sl), some (.int (n : Int)), some fv, y]) ⟨s1, v1, _, _, f1, SM.Wd.base ok n, rfl⟩ ?_ ?_
    · rintro i σ Hh hi ⟨sh, fv, y, G, hf, I, rfl⟩
      have hi' : i < W.s.length := by omega
      have zk : (0 : Int) + (i : Int) = (i : Int) := by omega
      refine ⟨_, rfl, _, rfl, rfl, ?_⟩
      by_cases e : i = n
      · refine ⟨false, ?_, iteF ?_⟩
        · show V.bl (!decide (V.int (0 + (i : Int)) = V.int (n : Int))) = V.bl false
          rw [decide_eq_true (by rw [zk, e])]
          rfl
        · refine ⟨sh, fv, _, G, hf, ?_, rfl⟩
          rw [SM.Dk_same e]
          exact I
      · refine ⟨true, ?_, iteT ?_⟩
        · show V.bl (!decide (V.int (0 + (i : Int)) = V.int (n : Int))) = V.bl true
          rw [decide_eq_false (neI (by omega))]
          rfl
        obtain ⟨va, hva, pa⟩ := hss.get (sp_get' hn)
        obtain ⟨vb, hvb, pb⟩ := hss.get (sp_get' hi')
        have hsl' := sh _ _ hsl
        have ne := SM.sp_ne ok hn hi' (fun c => e c.symm)
        refine ⟨_, rfl, .ref sl, rfl, _, rfl, sl, ss, _, va, rfl, rfl, SqL.of hsl', atI_nat hva, .ref sl, rfl, _, rfl, sl, ss, _, vb, rfl, rfl, SqL.of hsl', at_of zk hvb, ?_⟩
        refine ⟨va, vb, _, _, rfl, pa.keep sh, pb.keep sh, SM.sp_lt ok hn, SM.sp_lt ok hi', ne, fun lp nlp => ?_⟩
        have s2 := same_upd (o := .tup [.int (SM.btw (W.sp (n : Int)) (W.sp (i : Int))).a, .int (SM.btw (W.sp (n : Int)) (W.sp (i : Int))).b, .int (SM.btw (W.sp (n : Int)) (W.sp (i : Int))).c]) nlp
        have hlen := I.len
        refine ⟨_, rfl, fv, .ref lp, (0 : Int) + (i : Int), G, SM.btw (W.sp (n : Int)) (W.sp (i : Int)), rfl, hf.keep s2, ⟨lp, rfl, upd_same⟩, I.ne, by omega, SM.btw_lt ne (SM.sp_lt ok hn) (SM.sp_lt ok hi'), fun r hr => ⟨SM.corner_lt ok hn (Nat.le_of_lt hi') I hr, (I.reg r hr).1⟩, fun hb H3 v3 s3 f3 => ?_, fun hp => ?_⟩
        · exact ⟨(sh.trans s2).trans s3, v3, _, G, f3, SM.step_keep ok hn hi' e I hb, rfl⟩
        · obtain ⟨c1, I2⟩ := SM.step_cut ok hn hi' e I hp
          rw [zk]
          refine ⟨c1, I2.ne, fun r hr => SM.corner_lt ok hn hi' I2 hr, fun H3 v3 A B s3 eq f3 => ?_⟩
          rw [eq] at I2
          exact ⟨(sh.trans s2).trans s3, v3, _, _, f3, I2.rot, rfl⟩
    · rintro σ Hh ⟨sh, fv, y, G, hf, I, rfl⟩
      refine ⟨_, rfl, k _ _ G sh ?_ hf⟩
      have e : ((ss.length : Nat) : Int).toNat = W.s.length := by omega
      rw [e] at I
      exact I
/-! ### look_lot -/
theorem scLookLot : FnScope ["spots", "lot"] ["spots", "lot"] (defScope sLookLot) := ⟨rfl, rfl, rfl, by decide +kernel, rfl, by decide +kernel, by decide +kernel⟩
def spLookLot : Sp := fun vs H Q _ => ∃ (u : V) (S : List (Int × Int)) (a : Addr) (lot : List Int), vs = [u, .ref a] ∧ SpotsAt H u S ∧ H a = some (.lst (lot.map V.int)) ∧ lot ≠ [] ∧ lot.length < S.length ∧ S.length ≤ 12 ∧ lot.Nodup ∧ (∀ d ∈ lot, 0 ≤ d ∧ d < (S.length : Int)) ∧ Q .non H
theorem d_lookLot (F : Fun K "look_lot" "look_lot" sLookLot f fd) (g : mg "look_lot" = some (.ref f)) (ml : mg "len" = none) (ms : mg "set" = none) (mx : mg "max" = none) (mn : mg "min" = none) : Def P w K mg base 1 "look_lot" ["spots", "lot"] spLookLot := by
  refine ⟨f, fd, g, F.kp, F.binds (ps := ["spots", "lot"]) fun _ _ _ _ _ _ us hl => match us, hl with | [_, _], _ => rfl, ?_⟩
  refine F.ok scLookLot (fun vs H Q E h => ?_) (fun cdv A outer s H vs Q E hr h => ?_)
  · obtain ⟨a, _, _, _, rfl, _⟩ := h
    rfl
  · obtain ⟨_, S, a, lot, rfl, ⟨sl, ss, rfl, hsl, hss⟩, ha, hne, hlt, h12, nd, hin, k⟩ := h
    have lss := hss.len
    have h0 : 0 < lot.length := List.length_pos_iff.mpr hne
    refine ⟨_, pss_cons (ps_if (PW.pt (pw_or (pt_cmpR op_eq (pe_callB call_len_seq (by rfl) ml PySem.boot_len (pa_cons (pv 1) pa_nil)) pe_int (nomark _))
        (pw_or (pt_cmpR op_ge (pe_callB call_len_seq (by rfl) ml PySem.boot_len (pa_cons (pv 1) pa_nil)) (pe_callB call_len_seq (by rfl) ml PySem.boot_len (pa_cons (pv 0) pa_nil)) (nomark _))
        (pw_or1 (pt_cmpR op_lt (pe_lenSetI rfl (by rfl) ml (by rfl) ms (pv 1)) (pe_callB call_len_seq (by rfl) ml PySem.boot_len (pa_cons (pv 1) pa_nil)) (nomark _)))))) (pss_one ps_never) pss_nil)
      (pss_one (ps_if (PW.pt (pw_or (pt_cmpR op_lt (pe_callB (cr_min rfl) (by rfl) mn (by decide +kernel) (pa_cons (pv 1) pa_nil)) pe_int (nomark _))
        (pw_or1 (pt_cmpR op_ge (pe_callB (cr_max rfl) (by rfl) mx (by decide +kernel) (pa_cons (pv 1) pa_nil)) (pe_callB call_len_seq (by rfl) ml PySem.boot_len (pa_cons (pv 0) pa_nil)) (nomark _))))) (pss_one ps_never) pss_nil)), ?_⟩
    have lm : (lot.map V.int).length = lot.length := List.length_map _
    refine ⟨.ref a, rfl, a, _, rfl, .inl (SqL.of ha), rfl, false, blF (neI (by omega)), iteF ?_⟩
    refine ⟨.ref a, rfl, a, _, rfl, .inl (SqL.of ha), .ref sl, rfl, sl, _, rfl, .inl (SqL.of hsl), _, _, rfl, rfl, false, blF (by omega), iteF ?_⟩
    refine ⟨.ref a, rfl, a, lot, rfl, SqL.of ha, by omega, nd, .ref a, rfl, a, _, rfl, .inl (SqL.of ha), _, _, rfl, rfl, false, blF (by omega), iteF ?_⟩
    refine ⟨.ref a, rfl, a, lot, rfl, SqL.of ha, h0, fun mN hN _ => ⟨_, _, rfl, rfl, false, blF (by have := hin mN hN; omega), iteF ?_⟩⟩
    refine ⟨.ref a, rfl, a, lot, rfl, SqL.of ha, h0, fun mM hM _ => ⟨.ref sl, rfl, sl, _, rfl, .inl (SqL.of hsl), _, _, rfl, rfl, false, blF (by have := hin mM hM; omega), iteF ?_⟩⟩
    exact k
/-! ### is_sooner -/
def IsSR (H : Hp) (v : V) (r : SM.SRow) : Prop := ∃ t c d, v = .ref t ∧ H t = some (.tup [c, d, .int r.i, .int r.j]) ∧ IsPt H c r.p ∧ IsPt H d r.q
theorem IsSR.keepT {H H' : Hp} (s : ∀ b xs, H b = some (.tup xs) → H' b = some (.tup xs)) {v : V} {r : SM.SRow} (h : IsSR H v r) : IsSR H' v r := by
  obtain ⟨t, c, d, e, a, b, b'⟩ := h
  exact ⟨t, c, d, e, s _ _ a, TI.keepT s b, TI.keepT s b'⟩
theorem IsSR.keep {H H' : Hp} {v : V} {r : SM.SRow} (s : Same H H') (h : IsSR H v r) : IsSR H' v r := h.keepT fun b xs e => s _ _ e
theorem scIsSooner : FnScope ["one", "other"] ["one", "other"] (defScope sIsSooner) := ⟨rfl, rfl, rfl, by decide +kernel, rfl, by decide +kernel, by decide +kernel⟩
def spIsSooner : Sp := fun vs H Q _ => ∃ (v u : V) (a b : SM.SRow), vs = [v, u] ∧ IsSR H v a ∧ IsSR H u b ∧ (SM.PtLt a.p ∧ SM.PtLt a.q) ∧ (SM.PtLt b.p ∧ SM.PtLt b.q) ∧ ∀ c, Q (.bl c) H
theorem d_isSooner (F : Fun K "is_sooner" "is_sooner" sIsSooner f fd) (g : mg "is_sooner" = some (.ref f)) (da : Def P w K mg base 1 "ahead" ["one", "other"] spAhead) : Def P w K mg base 2 "is_sooner" ["one", "other"] spIsSooner := by
  refine ⟨f, fd, g, F.kp, F.binds (ps := ["one", "other"]) fun _ _ _ _ _ _ us hl => match us, hl with | [_, _], _ => rfl, ?_⟩
  refine F.ok scIsSooner (fun vs H Q E h => ?_) (fun cdv A outer s H vs Q E hr h => ?_)
  · obtain ⟨a, _, _, _, rfl, _⟩ := h
    rfl
  · obtain ⟨_, _, a, b, rfl, ⟨t, c, d, rfl, ht, hc, hd⟩, ⟨u, c', d', rfl, hu, hc', hd'⟩, la, lb, k⟩ := h
    refine ⟨_, pss_cons (ps_if (pt_cmpR (op_neD hr.units) (pe_ix ix_tup (pv 0) pe_int (fun _ _ => rfl)) (pe_ix ix_tup (pv 1) pe_int (fun _ _ => rfl)) (nomark _)) (pss_one (ps_ret (pe_def da hr (pa_cons (pe_ix ix_tup (pv 0) pe_int (fun _ _ => rfl)) (pa_cons (pe_ix ix_tup (pv 1) pe_int (fun _ _ => rfl)) pa_nil))))) pss_nil)
      (pss_one (ps_ret (pe_def da hr (pa_cons (pe_ix ix_tup (pv 0) pe_int (fun _ _ => rfl)) (pa_cons (pe_ix ix_tup (pv 1) pe_int (fun _ _ => rfl)) pa_nil))))), ?_⟩
    refine ⟨.ref t, rfl, t, _, 0, _, rfl, rfl, SqT.of ht, atI_nat (j := 0) rfl, .ref u, rfl, u, _, 0, _, rfl, rfl, SqT.of hu, atI_nat (j := 0) rfl, _, _, TI.dp hc, TI.dp hc', intsD_shaped _, intsD_shaped _, _, rfl, ite2 (fun _ => ?_) (fun _ => ?_)⟩
    · exact ⟨.ref t, rfl, t, _, 0, _, rfl, rfl, SqT.of ht, atI_nat (j := 0) rfl, .ref u, rfl, u, _, 0, _, rfl, rfl, SqT.of hu, atI_nat (j := 0) rfl, _, _, _, _, rfl, hc, hc', pts_of la.1, pts_of lb.1, k⟩
    · exact ⟨.ref t, rfl, t, _, 1, _, rfl, rfl, SqT.of ht, atI_nat (j := 1) rfl, .ref u, rfl, u, _, 1, _, rfl, rfl, SqT.of hu, atI_nat (j := 1) rfl, _, _, _, _, rfl, hd, hd', pts_of la.2, pts_of lb.2, k⟩
end
end Wk

set_option Elab.async false
set_option linter.all false
set_option maxRecDepth 100000
set_option exponentiation.threshold 10000
set_option maxHeartbeats 8000000
namespace Wk
open PySem PySem.Spec PyProof.Rows L2
/-- the list of the seam's rows as it grows -/
structure JS (H0 : Hp) (fl : Addr) (Hh : Hp) (vs : List V) (R : List SM.SRow) : Prop where
  same : Same H0 Hh
  at_ : Hh fl = some (.lst vs)
  rows : Each IsSR Hh vs R
theorem JS.mono {H0 Hh Hq : Hp} {fl : Addr} {vs : List V} {R : List SM.SRow} (j : JS H0 fl Hh vs R) (s : Same Hh Hq) : JS H0 fl Hq vs R :=
  ⟨j.same.trans s, s _ _ j.at_, j.rows.keep fun v x => IsSR.keep s⟩
theorem JS.ins {H0 Hq : Hp} {fl : Addr} {vs : List V} {R : List SM.SRow} (nfl : H0 fl = none) (j : JS H0 fl Hq vs R) {v : V} {r : SM.SRow} (hr : IsSR Hq v r) (n : Nat) :
    JS H0 fl (upd Hq fl (.lst (vs.take n ++ [v] ++ vs.drop n))) (vs.take n ++ [v] ++ vs.drop n) (R.take n ++ [r] ++ R.drop n) := by
  have tk := tup_keep (ws := vs.take n ++ [v] ++ vs.drop n) j.at_
  refine ⟨fun b o hb => ?_, upd_same, (Each.app (Each.app (j.rows.take n) (show Each IsSR Hq [v] [r] from ⟨hr, trivial⟩)) (j.rows.drop n)).keep fun v x => IsSR.keepT tk⟩
  rw [upd_ne (ne_of_none hb nfl)]
  exact j.same _ _ hb
theorem ins_perm {α : Type} (R : List α) (r : α) (n : Nat) : (R.take n ++ [r] ++ R.drop n).Perm (r :: R) := by
  have : (R.take n ++ [r] ++ R.drop n).Perm (r :: (R.take n ++ R.drop n)) := by
    rw [List.append_assoc]
    exact List.perm_middle
  rw [List.take_append_drop] at this
  exact this
theorem inV_ints (e : Int) : ∀ lot : List Int, inV (.int e) (lot.map V.int) = lot.contains e
  | [] => rfl
  | d :: lot => by
    have ih := inV_ints e lot
    show (eqV (.int d) (.int e) || inV (.int e) (lot.map V.int)) = _
    rw [ih, List.contains_cons]
    show ((d == e) || lot.contains e) = ((e == d) || lot.contains e)
    rw [show (d == e) = (e == d) from Bool.beq_comm]
theorem flat_ints : ∀ lot : List Int, (lot.map V.int).all flatV = true
  | [] => rfl
  | _ :: lot => flat_ints lot
/-- the rows of one land, so far -/
def S1 (lot : List Int) (F : List SM.Row) (i : Int) (k : Nat) : List SM.SRow := (((SM.E F).take k).filter fun t => decide (0 ≤ t.e) && !lot.contains t.e).map fun t => ⟨t.p, t.q, i, t.e⟩
theorem S1_yes {lot : List Int} {F : List SM.Row} {i : Int} {k : Nat} {t : SM.Tri} (h : (SM.E F)[k]? = some t) (c : (decide (0 ≤ t.e) && !lot.contains t.e) = true) : S1 lot F i (k + 1) = S1 lot F i k ++ [⟨t.p, t.q, i, t.e⟩] := by
  unfold S1
  rw [take_snoc h, List.filter_append, List.map_append, List.filter_cons, if_pos c]
  rfl
theorem S1_no {lot : List Int} {F : List SM.Row} {i : Int} {k : Nat} {t : SM.Tri} (h : (SM.E F)[k]? = some t) (c : ¬ (decide (0 ≤ t.e) && !lot.contains t.e) = true) : S1 lot F i (k + 1) = S1 lot F i k := by
  unfold S1
  rw [take_snoc h, List.filter_append, List.map_append, List.filter_cons, if_neg c]
  simp
theorem S1_all {lot : List Int} {F : List SM.Row} {i : Int} {k : Nat} (h : F.length ≤ k) : S1 lot F i k = SM.seamOf1 lot F i := by
  unfold S1 SM.seamOf1
  rw [List.take_of_length_le]
  unfold SM.E
  rw [SM.edg_len]
  exact h
theorem S1_len {lot : List Int} {F : List SM.Row} {i : Int} {k : Nat} : (S1 lot F i k).length ≤ F.length := by
  unfold S1
  rw [List.length_map]
  refine Nat.le_trans (List.length_filter_le _ _) ?_
  rw [List.length_take]
  unfold SM.E
  rw [SM.edg_len]
  omega
def SO (lot : List Int) (G : Int → List SM.Row) (i : Nat) : List SM.SRow := (lot.take i).flatMap fun d => SM.seamOf1 lot (G d) d
theorem SO_congr {lot : List Int} {G G' : Int → List SM.Row} {i : Nat} (h : ∀ d ∈ lot.take i, G d = G' d) : SO lot G i = SO lot G' i := by
  unfold SO
  rw [List.flatMap_def, List.flatMap_def]
  congr 1
  exact List.map_congr_left fun d hd => by rw [h d hd]
theorem SO_succ {lot : List Int} {G : Int → List SM.Row} {i : Nat} {d : Int} (h : lot[i]? = some d) : SO lot G (i + 1) = SO lot G i ++ SM.seamOf1 lot (G d) d := by
  unfold SO
  rw [take_snoc h, List.flatMap_append]
  simp
theorem seam1_pt {W : SM.Wd} (ok : W.Ok) {lot : List Int} {F : List SM.Row} {n : Nat} (hn : n < W.s.length) (I : SM.LandOk W n F) {r : SM.SRow} {i : Int} (h : r ∈ SM.seamOf1 lot F i) : SM.PtLt r.p ∧ SM.PtLt r.q := by
  unfold SM.seamOf1 at h
  obtain ⟨t, ht, rfl⟩ := List.mem_map.mp h
  have ht := (List.mem_filter.mp ht).1
  obtain ⟨e, he⟩ := SM.E_q ht
  exact ⟨SM.corner_lt ok hn (Nat.le_refl _) I (SM.mem_row_of ht), SM.corner_lt ok hn (Nat.le_refl _) I he⟩
theorem S1_sub {lot : List Int} {F : List SM.Row} {i : Int} {k : Nat} {r : SM.SRow} (h : r ∈ S1 lot F i k) : r ∈ SM.seamOf1 lot F i := by
  unfold S1 at h
  obtain ⟨t, ht, rfl⟩ := List.mem_map.mp h
  obtain ⟨h1, h2⟩ := List.mem_filter.mp ht
  exact List.mem_map.mpr ⟨t, List.mem_filter.mpr ⟨List.mem_of_mem_take h1, h2⟩, rfl⟩
section
variable {P : Program} {w : World} {K : PySem.W.Frag} {mg : Str → Option Value} {base : Heap} {f : Addr} {fd : FuncData}
theorem scSeam : FnScope ["box", "spots", "lot", "found", "one", "corners", "edges", "k", "row", "at"] ["box", "spots", "lot"] (defScope sSeam) := ⟨rfl, rfl, rfl, by decide +kernel, rfl, by decide +kernel, by decide +kernel⟩
def spSeam : Sp := fun vs H Q _ => ∃ (v u : V) (W : SM.Wd) (a : Addr) (lot : List Int), vs = [v, u, .ref a] ∧ IsBox H v W ∧ SpotsAt H u W.s ∧ W.Ok ∧ H a = some (.lst (lot.map V.int)) ∧ lot ≠ [] ∧ lot.length < W.s.length ∧ lot.Nodup ∧ (∀ d ∈ lot, 0 ≤ d ∧ d < (W.s.length : Int)) ∧
  ∀ H' p ws R G, Same H H' → H' p = some (.lst ws) → Each IsSR H' ws R → (∀ r ∈ R, SM.PtLt r.p ∧ SM.PtLt r.q) → R.length ≤ 300 → (∀ i ∈ lot, SM.LandOk W i.toNat (G i)) → R.Perm (SM.seamOf lot G) → H p = none → Q (.ref p) H'
abbrev σseam (bv : V) (sl a fl : Addr) (x4 x5 x6 x7 x8 x9 : Option V) : L2.St := [some bv, some (.ref sl), some (.ref a), some (.ref fl), x4, x5, x6, x7, x8, x9]
theorem d_seam (F : Fun K "seam" "seam" sSeam f fd) (g : mg "seam" = some (.ref f)) (ml : mg "len" = none) (mr : mg "range" = none)
    (da : Def P w K mg base 3 "look_at" ["box", "spots"] spLookAt) (dl : Def P w K mg base 1 "look_lot" ["spots", "lot"] spLookLot) (dn : Def P w K mg base 5 "land_among" ["box", "spots", "number"] spLandAmong) (ds : Def P w K mg base 2 "is_sooner" ["one", "other"] spIsSooner) : Def P w K mg base 6 "seam" ["box", "spots", "lot"] spSeam := by
  refine ⟨f, fd, g, F.kp, F.binds (ps := ["box", "spots", "lot"]) fun _ _ _ _ _ _ us hl => match us, hl with | [_, _, _], _ => rfl, ?_⟩
  refine F.ok scSeam (fun vs H Q E h => ?_) (fun cdv A outer s H vs Q E hr h => ?_)
  · obtain ⟨a, _, _, _, _, rfl, _⟩ := h
    rfl
  · obtain ⟨bv, _, W, a, lot, rfl, hB, hS0, ok, ha, hne, hlt, nd, hin, k⟩ := h
    have hS := hS0
    obtain ⟨sl, ss, rfl, hsl, hss⟩ := hS
    have h12 := ok.most
    have hr1 : Room 1 _ := hr.mono (by decide)
    have hr2 : Room 2 _ := hr.mono (by decide)
    have hr3 : Room 3 _ := hr.mono (by decide)
    refine ⟨_, pss_cons (ps_expr (pe_def da hr3 (pa_cons (pv 0) (pa_cons (pv 1) pa_nil)))) (pss_cons (ps_expr (pe_def dl hr1 (pa_cons (pv 1) (pa_cons (pv 2) pa_nil))))
      (pss_cons (ps_set (i := 3) scSeam.nd rfl (Or.inl rfl) (pe_lst pa_nil))
      (pss_cons (ps_for PassesOwn.never rfl (pi_list (pv 2)) (pg_name (i := 4) scSeam.nd rfl (Or.inl rfl))
        (pss_cons (ps_asg (pe_def dn hr (pa_cons (pv 0) (pa_cons (pv 1) (pa_cons (pv 4) pa_nil)))) (pg_tup rfl (pgs_cons (pg_name (i := 5) scSeam.nd rfl (Or.inl rfl)) (pgs_cons (pg_name (i := 6) scSeam.nd rfl (Or.inl rfl)) pgs_nil))))
        (pss_one (ps_for PassesOwn.never rfl (pi_range1 rfl mr (pa_cons (pe_callB call_len_seq (by rfl) ml PySem.boot_len (pa_cons (pv 6) pa_nil)) pa_nil)) (pg_name (i := 7) scSeam.nd rfl (Or.inl rfl))
          (pss_one (ps_if (PW.pt (pw_and (pt_cmpR op_ge (pe_ix ix_list (pv 6) (pv 7) (fun _ _ => rfl)) pe_int (nomark _)) (pw_and1 (pt_cmpR op_notIn_seq (pe_ix ix_list (pv 6) (pv 7) (fun _ _ => rfl)) (pv 2) (by rfl)))))
            (pss_cons (ps_set (i := 8) scSeam.nd rfl (Or.inl rfl) (pe_tup (pa_cons (pe_ix ix_list (pv 5) (pv 7) (fun _ _ => rfl)) (pa_cons (pe_ix ix_list (pv 5) (pe_op op_modN (pe_op op_add (pv 7) pe_int) (pe_callB call_len_seq (by rfl) ml PySem.boot_len (pa_cons (pv 5) pa_nil))) (fun _ _ => rfl)) (pa_cons (pv 4) (pa_cons (pe_ix ix_list (pv 6) (pv 7) (fun _ _ => rfl)) pa_nil))))))
            (pss_cons (ps_set (i := 9) scSeam.nd rfl (Or.inl rfl) (pe_callB call_len_seq (by rfl) ml PySem.boot_len (pa_cons (pv 3) pa_nil)))
            (pss_cons (ps_while PassesOwn.never (PW.pt (pw_and (pt_cmpR op_gt (pv 9) pe_int (nomark _)) (pw_and1 (pt_val (pe_def ds hr2 (pa_cons (pv 8) (pa_cons (pe_ix ix_list (pv 3) (pe_op op_sub (pv 9) pe_int) (fun _ _ => rfl)) pa_nil))))))) (pss_one (ps_aug (i := 9) scSeam.nd rfl (Or.inl rfl) pe_int ip_sub)))
            (pss_one (ps_expr (pe_bm PySem.F.plainAttrs_list PySem.F.slot_list_insert PySem.F.type_list_insert mt_insert (pv 3) (pa_cons (pv 9) (pa_cons (pv 8) pa_nil)))))))) pss_nil))))))
      (pss_one (ps_ret (pv 3)))))), ?_⟩
    refine ⟨_, rfl, _, rfl, bv, _, W, rfl, hB, hS0, ok, fun H1 s1 => ?_⟩
    refine ⟨_, rfl, _, rfl, _, W.s, a, lot, rfl, hS0.keep s1, s1 _ _ ha, hne, hlt, h12, nd, hin, ?_⟩
    refine ⟨Nat.zero_le _, fun fl nfl => ?_⟩
    have ha1 := s1 _ _ ha
    have sf := same_upd (o := .lst []) nfl
    refine ⟨.ref a, rfl, a, rfl, ⟨_, SqL.of (sf _ _ ha1)⟩, ?_⟩
    refine for_list (K := K) (a := a) (xs := lot.map V.int) (fun i σ Hh => ∃ (G : Int → List SM.Row) (ws : List V) (R : List SM.SRow), JS H1 fl Hh ws R ∧ (∀ d ∈ lot.take i, SM.LandOk W d.toNat (G d)) ∧ R.Perm (SO lot G i) ∧ R.length ≤ 16 * i ∧ (∀ r ∈ R, SM.PtLt r.p ∧ SM.PtLt r.q) ∧ ∃ x4 x5 x6 x7 x8 x9, σ = σseam bv sl a fl x4 x5 x6 x7 x8 x9)
      ⟨fun _ => [], [], [], ⟨sf, upd_same, trivial⟩, fun d hd => absurd hd (by simp), .nil, Nat.le_refl _, fun r hr => absurd hr (by simp), _, _, _, _, _, _, rfl⟩ (fun i σ Hh _ ⟨_, _, _, j, _⟩ => SqL.of (j.same _ _ ha1)) ?_ ?_
    · rintro i x σ Hh hx ⟨G, ws, R, j, hG, hperm, hlen, hpt, x4, x5, x6, x7, x8, x9, rfl⟩
      obtain ⟨d, hd, rfl⟩ : ∃ d, lot[i]? = some d ∧ V.int d = x := by
        rw [List.getElem?_map] at hx
        cases e : lot[i]? with
        | none => rw [e] at hx; cases hx
        | some d => rw [e] at hx; exact ⟨d, rfl, Option.some.inj hx⟩
      have hdm := List.mem_of_getElem? hd
      obtain ⟨d0, d1⟩ := hin d hdm
      have hi12 : i < 12 := by
        have := (List.getElem?_eq_some_iff.mp hd).1
        omega
      have ed : d = ((d.toNat : Nat) : Int) := by omega
      refine ⟨_, rfl, _, rfl, _, rfl, bv, .ref sl, W, d.toNat, congrArg (fun z => [bv, V.ref sl, V.int z]) ed, TI.keep (s1.trans j.same) hB, hS0.keep (s1.trans j.same), ok, by omega, fun H2 v2 T s2 I hf => ?_⟩
      obtain ⟨t, cl, el, cs, rfl, ht, hcl, hcs, hel⟩ := hf
      have lcs := hcs.len
      rw [List.length_map] at lcs
      have hT := I.len
      have T0 : 0 < T.length := List.length_pos_iff.mpr I.ne
      have j2 := j.mono s2
      have nfl2 : H1 fl = none := nfl
      obtain ⟨c0, cs', ecs⟩ : ∃ c0 cs', cs = c0 :: cs' := by
        cases cs with
        | nil => simp at lcs; omega
        | cons c0 cs' => exact ⟨c0, cs', rfl⟩
      have ncl : cl ≠ fl := fun c => by
        have e : ws = cs := by
          have h1 := j2.at_
          rw [← c, hcl] at h1
          injection h1 with h1
          injection h1 with h1
          exact h1.symm
        obtain ⟨p0, _, ip⟩ := hcs.getV (i := 0) (v := c0) (by rw [ecs]; rfl)
        obtain ⟨x0, _, ix⟩ := j2.rows.getV (i := 0) (v := c0) (by rw [e, ecs]; rfl)
        obtain ⟨t1, e1, h1⟩ := ip
        obtain ⟨t2, _, _, e2, h2, _⟩ := ix
        rw [e1] at e2
        injection e2 with e2
        rw [e2, h2] at h1
        injection h1 with h1
        injection h1 with h1
        have := congrArg List.length h1
        simp at this
      have nel : el ≠ fl := fun c => by
        have e : ws = (T.map (·.2)).map V.int := by
          have h1 := j2.at_
          rw [← c, hel] at h1
          injection h1 with h1
          injection h1 with h1
          exact h1.symm
        have hv0 : ws[0]? = some (V.int (T[0]'T0).2) := by rw [e, List.getElem?_map, List.getElem?_map, List.getElem?_eq_getElem T0]; rfl
        obtain ⟨x0, _, ix⟩ := j2.rows.getV hv0
        obtain ⟨t2, _, _, e2, _⟩ := ix
        cases e2
      refine ⟨t, _, rfl, SqT.of ht, rfl, _, _, rfl, _, _, rfl, rfl, ?_⟩
      refine ⟨.ref el, rfl, el, _, rfl, .inl (SqL.of hel), _, rfl, by rw [List.length_map, List.length_map]; omega, by rw [List.length_map, List.length_map]; omega, ?_⟩
      have lel : ((T.map (·.2)).map V.int).length = T.length := by rw [List.length_map, List.length_map]
      refine for_range (lo := 0) (n := ((((T.map (·.2)).map V.int).length : Nat) : Int).toNat) (fun q σ Hh => ∃ (ws : List V) (R' : List SM.SRow), JS H1 fl Hh ws R' ∧ (∀ b xs, H2 b = some (.tup xs) → Hh b = some (.tup xs)) ∧ Hh cl = some (.lst cs) ∧ Hh el = some (.lst ((T.map (·.2)).map V.int)) ∧ R'.Perm (SO lot G i ++ S1 lot T d q) ∧ R'.length ≤ 16 * i + q ∧ (∀ r ∈ R', SM.PtLt r.p ∧ SM.PtLt r.q) ∧ ∃ x7 x8 x9, σ = σseam bv sl a fl (some (.int d)) (some (.ref cl)) (some (.ref el)) x7 x8 x9)
        ⟨ws, R, j2, fun _ _ h => h, hcl, hel, by rw [show S1 lot T d 0 = [] from rfl, List.append_nil]; exact hperm, by omega, hpt, _, _, _, rfl⟩ ?_ ?_
      · rintro q σ Hh' hq ⟨ws, R', j, tk, hcl', hel', hp', hl', hpt', y7, y8, y9, rfl⟩
        have hqT : q < T.length := by omega
        obtain ⟨r, r', g1, g2, g3⟩ := tri_at hqT
        obtain ⟨v, hv, hvp⟩ := hcs.get (i := q) (x := r.1) (by rw [List.getElem?_map, g1]; rfl)
        obtain ⟨v', hv', hvp'⟩ := hcs.get (i := (q + 1) % T.length) (x := r'.1) (by rw [List.getElem?_map, g2]; rfl)
        have hedge : ((T.map (·.2)).map V.int)[q]? = some (.int r.2) := by rw [List.getElem?_map, List.getElem?_map, g1]; rfl
        have zk : (0 : Int) + (q : Int) = (q : Int) := by omega
        have zb : ((0 : Int) + (q : Int) + 1).fmod ((cs.length : Nat) : Int) = (((q + 1) % T.length : Nat) : Int) := by
          rw [Int.fmod_eq_emod_of_nonneg _ (Int.natCast_nonneg _), lcs, zk]
          rfl
        have cn : ¬ (((cs.length : Nat) : Int) = 0) := by omega
        by_cases c1 : (0 : Int) ≤ r.2
        · refine ⟨.ref el, rfl, _, rfl, el, _, _, _, rfl, rfl, SqL.of hel', at_of zk hedge, _, _, rfl, rfl, true, blT c1, iteT ?_⟩
          cases c2 : lot.contains r.2 with
          | true =>
            refine ⟨.ref el, rfl, _, rfl, el, _, _, _, rfl, rfl, SqL.of hel', at_of zk hedge, .ref a, rfl, a, _, rfl, .inl (SqL.of (j.same _ _ ha1)), rfl, flat_ints lot, false, ?_, iteF ?_⟩
            · show V.bl (!inV (.int r.2) (lot.map V.int)) = V.bl false
              rw [inV_ints, c2]
              rfl
            · have cc : ¬ (decide (0 ≤ r.2) && !lot.contains r.2) = true := by rw [c2]; simp
              refine ⟨ws, R', j, tk, hcl', hel', ?_, by omega, hpt', _, _, _, rfl⟩
              rw [S1_no g3 cc]
              exact hp'
          | false =>
            have cc : (decide (0 ≤ r.2) && !lot.contains r.2) = true := by rw [c2, decide_eq_true c1]; rfl
            refine ⟨.ref el, rfl, _, rfl, el, _, _, _, rfl, rfl, SqL.of hel', at_of zk hedge, .ref a, rfl, a, _, rfl, .inl (SqL.of (j.same _ _ ha1)), rfl, flat_ints lot, true, ?_, iteT ?_⟩
            · show V.bl (!inV (.int r.2) (lot.map V.int)) = V.bl true
              rw [inV_ints, c2]
              rfl
            refine ⟨.ref cl, rfl, _, rfl, cl, cs, _, v, rfl, rfl, SqL.of hcl', at_of zk hv, .ref cl, rfl, _, rfl, _, _, rfl, rfl, .ref cl, rfl, cl, _, rfl, .inl (SqL.of hcl'), _, _, rfl, rfl, cn, cl, cs, _, v', rfl, rfl, SqL.of hcl', at_of zb hv', _, rfl, .ref el, rfl, _, rfl, el, _, _, _, rfl, rfl, SqL.of hel', at_of zk hedge, (by show 4 ≤ sizeLine; decide), fun p np => ?_⟩
            have sp := same_upd (o := .tup [v, v', .int d, .int r.2]) np
            have j2 := j.mono sp
            have hrow : IsSR (upd Hh' p (.tup [v, v', .int d, .int r.2])) (.ref p) ⟨r.1, r'.1, d, r.2⟩ := ⟨p, v, v', rfl, upd_same, (TI.keepT tk hvp).keep sp, (TI.keepT tk hvp').keep sp⟩
            have lw := j2.rows.len
            have sz : ws.length < sizeLine := small1000 (by omega)
            have hq1 : SM.PtLt r.1 := SM.corner_lt ok (by omega) (Nat.le_refl _) I (List.mem_of_getElem? g1)
            have hq2 : SM.PtLt r'.1 := SM.corner_lt ok (by omega) (Nat.le_refl _) I (List.mem_of_getElem? g2)
            have fin : ∀ (m : Nat) {H6 : Hp} {ws6 : List V} (j6 : JS H1 fl H6 ws6 (R'.take m ++ [⟨r.1, r'.1, d, r.2⟩] ++ R'.drop m)) (tk6 : ∀ b xs, upd Hh' p (.tup [v, v', .int d, .int r.2]) b = some (.tup xs) → H6 b = some (.tup xs)) (c6 : H6 cl = some (.lst cs)) (e6 : H6 el = some (.lst ((T.map (·.2)).map V.int))) (z8 z9 : Option V),
                ∃ (ws : List V) (R' : List SM.SRow), JS H1 fl H6 ws R' ∧ (∀ b xs, H2 b = some (.tup xs) → H6 b = some (.tup xs)) ∧ H6 cl = some (.lst cs) ∧ H6 el = some (.lst ((T.map (·.2)).map V.int)) ∧ R'.Perm (SO lot G i ++ S1 lot T d (q + 1)) ∧ R'.length ≤ 16 * i + (q + 1) ∧ (∀ r ∈ R', SM.PtLt r.p ∧ SM.PtLt r.q) ∧ ∃ x7 x8 x9, σseam bv sl a fl (some (.int d)) (some (.ref cl)) (some (.ref el)) (some (.int ((0 : Int) + (q : Int)))) z8 z9 = σseam bv sl a fl (some (.int d)) (some (.ref cl)) (some (.ref el)) x7 x8 x9 := by
              intro m H6 ws6 j6 tk6 c6 e6 z8 z9
              have pm := ins_perm R' (⟨r.1, r'.1, d, r.2⟩ : SM.SRow) m
              refine ⟨ws6, _, j6, fun b xs e => tk6 b xs (sp _ _ (tk b xs e)), c6, e6, ?_, ?_, fun x hx => ?_, _, _, _, rfl⟩
              · rw [S1_yes g3 cc, ← List.append_assoc]
                refine pm.trans ((List.Perm.cons _ hp').trans ?_)
                exact (List.perm_append_comm (l₁ := [_])).trans (List.Perm.refl _)
              · rw [pm.length_eq, List.length_cons]
                omega
              · rcases List.mem_cons.mp (pm.mem_iff.mp hx) with e | e
                · rw [e]
                  exact ⟨hq1, hq2⟩
                · exact hpt' x e
            have ex : ∀ m : Nat, (∀ b xs, upd Hh' p (.tup [v, v', .int d, .int r.2]) b = some (.tup xs) → upd (upd Hh' p (.tup [v, v', .int d, .int r.2])) fl (.lst (ws.take m ++ [.ref p] ++ ws.drop m)) b = some (.tup xs)) ∧ upd (upd Hh' p (.tup [v, v', .int d, .int r.2])) fl (.lst (ws.take m ++ [.ref p] ++ ws.drop m)) cl = some (.lst cs) ∧ upd (upd Hh' p (.tup [v, v', .int d, .int r.2])) fl (.lst (ws.take m ++ [.ref p] ++ ws.drop m)) el = some (.lst ((T.map (·.2)).map V.int)) := fun m =>
              ⟨tup_keep j2.at_, by rw [upd_ne ncl]; exact sp _ _ hcl', by rw [upd_ne nel]; exact sp _ _ hel'⟩
            refine ⟨.ref fl, rfl, fl, _, rfl, .inl (SqL.of j2.at_), ?_⟩
            refine ⟨fun m σ H'' => H'' = upd Hh' p (.tup [v, v', .int d, .int r.2]) ∧ m ≤ ws.length ∧ σ = σseam bv sl a fl (some (.int d)) (some (.ref cl)) (some (.ref el)) (some (.int ((0 : Int) + (q : Int)))) (some (.ref p)) (some (.int (m : Int))), ⟨ws.length, rfl, Nat.le_refl _, rfl⟩, ?_⟩
            rintro m σ H'' ⟨rfl, hm, rfl⟩
            by_cases hm0 : 0 < m
            · obtain ⟨u, hu, hus⟩ : ∃ u, ws[m - 1]? = some u ∧ ∃ x, x ∈ R' ∧ IsSR (upd Hh' p (.tup [v, v', .int d, .int r.2])) u x := by
                have hl : m - 1 < R'.length := by omega
                obtain ⟨u, h1, h2⟩ := j2.rows.get (List.getElem?_eq_getElem hl)
                exact ⟨u, h1, _, List.getElem_mem hl, h2⟩
              obtain ⟨x, hx, hux⟩ := hus
              refine ⟨_, rfl, _, _, rfl, rfl, true, blT (by omega), iteT ?_⟩
              refine ⟨.ref p, rfl, .ref fl, rfl, _, rfl, _, _, rfl, rfl, fl, ws, _, u, rfl, rfl, SqL.of j2.at_, at_of (j := m - 1) (by omega) hu, _, _, _, x, rfl, hrow, hux, ⟨hq1, hq2⟩, hpt' x hx, fun c => ⟨c, rfl, ?_⟩⟩
              cases c with
              | true =>
                refine iteT ⟨fun σ' H' => H' = upd Hh' p (.tup [v, v', .int d, .int r.2]) ∧ σ' = σseam bv sl a fl (some (.int d)) (some (.ref cl)) (some (.ref el)) (some (.int ((0 : Int) + (q : Int)))) (some (.ref p)) (some (.int ((m : Int) - 1))), ?_, ?_⟩
                · rintro σ' H' ⟨rfl, rfl⟩
                  exact ⟨m - 1, by omega, rfl, by omega, by rw [show ((m - 1 : Nat) : Int) = (m : Int) - 1 by omega]⟩
                · exact ⟨_, rfl, _, _, rfl, rfl, rfl, rfl⟩
              | false =>
                refine iteF ?_
                refine ⟨.ref fl, rfl, .inl ⟨rfl, _, SqL.of j2.at_⟩, _, rfl, .ref p, rfl, fl, ws, _, _, rfl, rfl, j2.at_, sz, by omega, by omega, ?_⟩
                exact fin m (j2.ins nfl2 hrow m) (ex m).1 (ex m).2.1 (ex m).2.2 _ _
            · refine ⟨_, rfl, _, _, rfl, rfl, false, blF (by omega), iteF (iteF ?_)⟩
              refine ⟨.ref fl, rfl, .inl ⟨rfl, _, SqL.of j2.at_⟩, _, rfl, .ref p, rfl, fl, ws, _, _, rfl, rfl, j2.at_, sz, by omega, by omega, ?_⟩
              exact fin m (j2.ins nfl2 hrow m) (ex m).1 (ex m).2.1 (ex m).2.2 _ _
        · refine ⟨.ref el, rfl, _, rfl, el, _, _, _, rfl, rfl, SqL.of hel', at_of zk hedge, _, _, rfl, rfl, false, blF c1, iteF (iteF ?_)⟩
          have cc : ¬ (decide (0 ≤ r.2) && !lot.contains r.2) = true := by rw [decide_eq_false c1]; simp
          refine ⟨ws, R', j, tk, hcl', hel', ?_, by omega, hpt', _, _, _, rfl⟩
          rw [S1_no g3 cc]
          exact hp'
      · rintro σ H5 ⟨ws', R', j5, _, _, _, hp5, hl5, hpt5, y7, y8, y9, rfl⟩
        have e0 : ((((T.map (·.2)).map V.int).length : Nat) : Int).toNat = T.length := by rw [lel]; omega
        rw [e0] at hp5 hl5
        rw [S1_all (Nat.le_refl _)] at hp5
        have ndi : ∀ d' ∈ lot.take i, d' ≠ d := fun d' hd' c => by
          obtain ⟨jx, hjx⟩ := List.mem_iff_getElem?.mp hd'
          have hjl : jx < i := by
            have := (List.getElem?_eq_some_iff.mp hjx).1
            rw [List.length_take] at this
            omega
          rw [List.getElem?_take_of_lt hjl, c] at hjx
          have hl : jx < lot.length := (List.getElem?_eq_some_iff.mp hjx).1
          have := (List.getElem?_inj hl nd).mp (hjx.trans hd.symm)
          omega
        refine ⟨fun e => if e = d then T else G e, ws', R', j5, fun d' hd' => ?_, ?_, by omega, hpt5, _, _, _, _, _, _, rfl⟩
        · rw [take_snoc hd] at hd'
          rcases List.mem_append.mp hd' with q | q
          · show SM.LandOk W d'.toNat (if d' = d then T else G d')
            rw [if_neg (ndi d' q)]
            exact hG d' q
          · show SM.LandOk W d'.toNat (if d' = d then T else G d')
            rw [List.mem_singleton.mp q, if_pos rfl]
            exact I
        · rw [SO_succ hd, SO_congr (G' := G) (fun d' hd' => if_neg (ndi d' hd')), show (if d = d then T else G d) = T from if_pos rfl]
          exact hp5
    · rintro σ Hh ⟨G, ws, R, j, hG, hperm, hlen, hpt, x4, x5, x6, x7, x8, x9, rfl⟩
      have e1 : (lot.map V.int).length = lot.length := List.length_map _
      rw [e1] at hG hperm hlen
      rw [List.take_of_length_le (Nat.le_refl _)] at hG
      have e2 : SO lot G lot.length = SM.seamOf lot G := by
        unfold SO SM.seamOf
        rw [List.take_of_length_le (Nat.le_refl _)]
      rw [e2] at hperm
      refine ⟨_, rfl, k Hh fl ws R G (s1.trans j.same) j.at_ j.rows hpt (by omega) hG hperm (s1.free nfl)⟩
end
end Wk

set_option Elab.async false
set_option linter.all false
set_option maxRecDepth 100000
set_option exponentiation.threshold 10000
set_option maxHeartbeats 8000000
namespace Wk
open PySem PySem.Spec PyProof.Rows L2
/-! ### the seam's rows as data, sorted -/
def srD (r : SM.SRow) : PyData := .tuple [intsD [r.p.x, r.p.y, r.p.w], intsD [r.q.x, r.q.y, r.q.w], .int r.i, .int r.j]
theorem IsSR.dp {K : PySem.W.Frag} {H : Hp} {v : V} {r : SM.SRow} (h : IsSR H v r) : Dp K H v (srD r) := by
  obtain ⟨t, c, d, rfl, ht, hc, hd⟩ := h
  exact .tup (SqT.of ht) (.cons (TI.dp hc) (.cons (TI.dp hd) (.cons (.int _) (.cons (.int _) .nil))))
theorem alikeI (a b : Int) : PySem.W.alike (.int a) (.int b) = true := by simp [PySem.W.alike]
theorem alike_intsD (ns ms : List Int) : PySem.W.alike (intsD ns) (intsD ms) = true := by
  simp only [intsD, PySem.W.alike]
  exact PySem.W.alike_ints ns ms
theorem srD_alike (a b : SM.SRow) : PySem.W.alike (srD a) (srD b) = true := by
  simp only [srD, PySem.W.alike, PySem.W.alikeAll, alike_intsD, Bool.and_self]
theorem srD_depth (r : SM.SRow) : (srD r).depth = 2 := by
  simp [srD, PyData.depth, PyData.depthAll, intsD_depth]
theorem srD_lay (r : SM.SRow) : (srD r).canLay0 = true := by
  simp [srD, PyData.canLay0, PyData.canLayAll0, intsD_lay]
theorem srDs_lay : ∀ zs : List SM.SRow, PyData.canLayAll0 (zs.map srD) = true
  | [] => by simp [PyData.canLayAll0]
  | z :: zs => by simp [PyData.canLayAll0, srD_lay z, srDs_lay zs]
theorem srDs_depth : ∀ zs : List SM.SRow, PyData.depthAll (zs.map srD) ≤ 2
  | [] => by simp [PyData.depthAll]
  | z :: zs => by
    have h1 := srDs_depth zs
    have h2 := srD_depth z
    simp only [List.map_cons, PyData.depthAll]
    omega
theorem srDs_shaped (zs : List SM.SRow) : SeqAt.shaped (.list (zs.map srD)) = true := by
  have h1 := srDs_depth zs
  refine shaped_of (by simp only [PyData.canLay0]; exact srDs_lay zs) ?_
  simp only [PyData.depth]
  omega
theorem srD_eqv {a b : SM.SRow} (h : PyData.eqv (srD a) (srD b) = true) : a = b := by
  simp only [srD, PyData.eqv, PyData.eqvAll, intsD_eqv, Bool.and_eq_true, decide_eq_true_eq, List.cons.injEq, beq_iff_eq, and_true] at h
  obtain ⟨⟨a1, a2, a3⟩, ⟨b1, b2, b3⟩, c, d⟩ := h
  obtain ⟨⟨p1, p2, p3⟩, ⟨q1, q2, q3⟩, i, j⟩ := a
  obtain ⟨⟨p1', p2', p3'⟩, ⟨q1', q2', q3'⟩, i', j'⟩ := b
  simp only at *
  subst a1 a2 a3 b1 b2 b3 c d
  rfl
theorem srD_eqv_self (a : SM.SRow) : PyData.eqv (srD a) (srD a) = true := PySem.W.eqv_refl_alike _ (srD_alike a a)
theorem srDs_eqv_self : ∀ R : List SM.SRow, PyData.eqvAll (R.map srD) (R.map srD) = true
  | [] => by simp [PyData.eqvAll]
  | r :: R => by
    simp only [List.map_cons, PyData.eqvAll, srD_eqv_self r, srDs_eqv_self R, Bool.and_self]
abbrev srLe : SM.SRow → SM.SRow → Bool := PySem.W.dataLe false srD
theorem srLe_total : PySem.W.TotalLe srLe := PySem.W.sortLe_total _ _ _
theorem srLe_antisymm {a b : SM.SRow} (h1 : srLe a b = true) (h2 : srLe b a = true) : a = b := by
  have e1 : PyProof.Rows.lexLt itemOrd (PySem.W.keyToks (srD b)) (PySem.W.keyToks (srD a)) = false := by simpa [PySem.W.dataLe, PySem.W.sortLe] using h1
  have e2 : PyProof.Rows.lexLt itemOrd (PySem.W.keyToks (srD a)) (PySem.W.keyToks (srD b)) = false := by simpa [PySem.W.dataLe, PySem.W.sortLe] using h2
  have e := lex_total (O := itemOrd) _ _ e2 e1
  cases q : PyData.eqv (srD a) (srD b) with
  | true => exact srD_eqv q
  | false =>
    have k := (PySem.W.toks_eqv _ _ (srD_alike a b)).2 q [] [Sum.inl 0]
    rw [e, PySem.W.lex_pre, lex_irrefl] at k
    simp [PyProof.Rows.lexLt] at k
/-- two arrangements of the same rows are sorted alike -/
theorem sort_same {R S : List SM.SRow} (h : R.Perm S) : R.mergeSort srLe = S.mergeSort srLe := by
  have p : (R.mergeSort srLe).Perm (S.mergeSort srLe) := ((List.mergeSort_perm R srLe).trans h).trans (List.mergeSort_perm S srLe).symm
  exact List.Perm.eq_of_pairwise (le := fun a b => srLe a b = true) (fun a b _ _ h1 h2 => srLe_antisymm h1 h2) (PySem.W.sort_pairwise srLe_total R) (PySem.W.sort_pairwise srLe_total S) p
/-- what a value stands for -/
def SRat (H : Hp) (u : Value) (r : SM.SRow) : Prop := ∃ v, RelV v u ∧ IsSR H v r
theorem each_sr {H : Hp} : ∀ {vs : List V} {us : List Value} {R : List SM.SRow}, Vals vs us → Each IsSR H vs R → PySem.W.EachIs (SRat H) us R
  | _, _, [], .nil, _ => .nil
  | _, _, r :: R, .cons r1 r2, h => .cons ⟨_, r1, h.1⟩ (each_sr r2 h.2)
  | _, _, _ :: _, .nil, h => h.elim
  | _, _, [], .cons _ _, h => h.elim
theorem sr_each {H : Hp} : ∀ {us : List Value} {R : List SM.SRow}, PySem.W.EachIs (SRat H) us R → ∃ vs, Vals vs us ∧ Each IsSR H vs R
  | _, _, .nil => ⟨[], .nil, trivial⟩
  | _, _, .cons ⟨v, a, b⟩ t => by
    obtain ⟨vs, h1, h2⟩ := sr_each t
    exact ⟨v :: vs, .cons a h1, b, h2⟩
/-- sorted(xs), xs the seam's rows -/
def rSortSR : List V → Hp → VK → Prop := fun vs H Q => ∃ (a : Addr) (xs : List V) (R : List SM.SRow), vs = [V.ref a] ∧ H a = some (.lst xs) ∧ Each IsSR H xs R ∧
  ∀ ys p, Each IsSR H ys (R.mergeSort srLe) → H p = none → Q (.ref p) (upd H p (.lst ys))
theorem cr_sortSR {X : Cx} (hu : X.A.units + 10 < cLine) : CallR X (.builtin "sorted") rSortSR := by
  intro pins s σ H vs us Q I r h
  obtain ⟨a, xs, R, rfl, ha, he, q⟩ := h
  obtain ⟨its, rv, hl, hz⟩ := I.list (SqL.of ha)
  rw [Vals.ref1 r]
  have e := each_sr rv he
  have lx := he.len
  have li := rv.length
  refine PySem.W.sorted_data (bs := R) (enc := srD) (R := SRat H) hl.isList e (e.mono fun u b ⟨v, r1, r2⟩ => Dp.reads I _ v u r2.dp r1) (PySem.W.AllAlike.of srD_alike) (PySem.W.Sortable.tuples fun b => ⟨_, _, rfl⟩) (by omega) (fun b _ => by rw [srD_depth]; omega) fun out hlo ho => ?_
  obtain ⟨ys, hy1, hy2⟩ := sr_each ho
  obtain ⟨ep, he'⟩ := PyProof.Rows.sortedAll_at s.heap its (List.toArray out)
  have ly := hy1.length
  have hlen : ys.length ≤ sizeLine := by omega
  exact ⟨.ref _, upd H (s.heap.objs.size + 1) (.lst ys), I.laid (t' := s.toks) (fun _ _ => PyProof.Rows.sortedAll_old) (Nat.le_succ _) ⟨hlen, out, ep, hy1, he'⟩, rfl, q _ _ hy2 (I.hok.fresh (Nat.le_succ _))⟩
end Wk

set_option Elab.async false
set_option linter.all false
set_option maxRecDepth 100000
set_option exponentiation.threshold 10000
set_option maxHeartbeats 8000000
namespace Wk
open PySem PySem.Spec PyProof.Rows L2
section
variable {s : Shared} {A : Around} {w : World} {prog : Program}
/-- a lambda of one parameter that takes an item of a captured list -/
theorem lam_run {f c' c0 sl : Addr} {qual nS nN : Str} {params : Arguments} {p1 p2 p3 : Pos} {scope : Scope} {cl : List (Str × Addr)} {pm ctv : Value} {i : Int} {t : Tok} {its : Array Value} {wv : Value} {k : PyData}
    (hf : s.heap.get? f = some (PySem.W.kla_obj "<lambda>" qual params (.Subscript (.Name nS p1) (.Name nN p2) p3) scope cl pm c' ctv)) (hrec : s.heap.CodeRec (.ref c') qual) (lim : s.heap.NoLimit) (hd : A.depth < recursionLimit)
    (hbind : bindArgs (PySem.W.kla_fn "<lambda>" qual params (.Subscript (.Name nS p1) (.Name nN p2) p3) scope cl pm (.ref c') ctv) ⟨[.int i t], []⟩ = pure [(nN, .int i t)])
    (hk : scope.kind = .function) (hco : scope.isCoroutine = false) (hgen : scope.isGenerator = false) (hnc : ∀ x ∈ scope.names, x.2 ≠ .cell) (hN : scope.names.lookup nN = some .local) (hS : scope.names.lookup nS = some .free)
    (hcl : cl.lookup nS = some c0) (hcell : s.heap.IsCell c0 (some (.ref sl))) (hl : s.heap.IsList sl its) (h0 : 0 ≤ i) (h1 : i < 2 ^ 63) (hw : its[i.toNat]? = some wv) (hr : Reads s.heap wv k [])
    (dS : (nS == ("__debug__" : Str)) = false) (dN : (nN == ("__debug__" : Str)) = false) (cS : (nS == ("__classdict__" : Str)) = false) :
    wpAny (model prog w) A (call (.ref f) [.int i t]) (PySem.W.KeyPure k s) (fun _ _ => False) s := by
  refine wpAny_call ?_
  refine PySem.W.kla_callFunE hd hf rfl hco hgen rfl hrec ?_
  rw [hbind]
  refine wpAny_pure (wpAny_newFunctionEnv hnc (fun x hx => ?_) (fun h₁ hns hsb => ⟨lim.fresh _ hsb, ?_⟩) hk)
  · rw [List.mem_singleton.mp hx]
    exact hN
  show codeAny _ _ (.expr (.Subscript (.Name nS p1) (.Name nN p2) p3) (PySem.W.envX qual scope s.heap.objs.size f (.ref c') cl)) _ _
  have stays : ∀ (b : Addr) (u : Obj), s.heap.get? b = some u → h₁.get? b = some u := by
    intro b u e
    exact hsb.extBut b u (Nat.ne_of_lt (Heap.lt_size e)) (Heap.get?_push_of_some _ e)
  refine PySem.W.kla_codeExpr ?_
  have hcell1 : h₁.IsCell c0 (some (.ref sl)) := by
    obtain ⟨u, hu, hv⟩ := hcell
    exact ⟨u, stays _ _ hu, hv⟩
  have hl1 : h₁.IsList sl its := by
    obtain ⟨u, hu, hc, m, hv⟩ := hl
    exact ⟨u, stays _ _ hu, hc, m, hv⟩
  refine Subscript_ ?_
  refine wpAny_Name (wpAny_loadName_free (env := PySem.W.envX qual scope s.heap.objs.size f (.ref c') cl) hk hS hcl hcell1 ?_ cS) dS
  refine wpAny_Name (wpAny_loadName_local (env := PySem.W.envX qual scope s.heap.objs.size f (.ref c') cl) (v := .int i t) hk hN hns (by simp) ?_) dN
  refine item_listR (x := wv) hl1 h0 h1 hw ?_ (by rfl)
  exact ⟨h₁, _, rfl, stays, PyProof.Rows.Reads.keeps stays hr⟩
variable {E : Value → Shared → Prop}
/-- sorted(range(n), key=f) -/
theorem sorted_key_range {r q : Addr} {n : Nat} {tu : Tok × Tok × Tok} {Q : Value → Shared → Prop} (k : Int → PyData) (hh : A.in1.in1.handled = none) (hr : IsRange s.heap r 0 (n : Int) 1 tu.1 tu.2.1 tu.2.2) (hn : n ≤ 100)
    (hal : PySem.W.AllAlike (((List.range n).map fun i : Nat => (i : Int)).map k)) (hk : PySem.W.Sortable (((List.range n).map fun i : Nat => (i : Int)).map k)) (hu : ∀ i : Int, A.units + 2 + (k i).depth < cLine)
    (turn : ∀ (i : Int) (t : Tok), 0 ≤ i → i < (n : Int) → ∀ (h : Heap) (tk : Nat), (∀ b o, s.heap.get? b = some o → h.get? b = some o) →
      wpAny (model prog w) A.in1.in1 (call (.ref q) [.int i t]) (PySem.W.KeyPure (k i) { s with heap := h, toks := tk }) (fun _ _ => False) { s with heap := h, toks := tk })
    (h : ∀ (out : List Value) (c : Nat) (g h' : Heap) (tk : Nat) (d : Addr), (∀ b o, s.heap.get? b = some o → g.get? b = some o) → (∀ b o, g.get? b = some o → h'.get? b = some o) → g.objs.size ≤ d → h'.get? d = some (seqObj "list" (List.toArray out) c) →
      PySem.W.EachIs (fun v (i : Int) => ∃ t, v = Value.int i t) out (((List.range n).map fun i : Nat => (i : Int)).mergeSort (PySem.W.dataLe false k)) → Q (.ref d) { s with heap := h', toks := tk }) :
    wpAny (model prog w) A (call (.builtin "sorted") [.ref r] [(Str.ofString "key", .ref q)]) Q E s := by
  refine call_function_entry_kw kind_sorted plain_sorted entry_sorted (ksk_s1 _ _) ?_
  unfold Builtin.«sorted»
  apply wpAny_bind (m := checkCount "sorted" 1 1 _)
  apply wpAny_pure
  refine wpAny_bind (collect_range hh hr ?_ (n := n) ?_ (by omega) fun h1 tk1 acc k1 ia => ?_)
  · exact small_one (by decide) (by decide) (by omega) (by omega)
  · rw [rangeSize_one]
    split <;> omega
  have la : acc.toList.length = n := by rw [Array.length_toList]; exact ia.1
  refine wpAny_bind (wpAny_newList ?_ (by rw [la]; exact Nat.le_of_lt (small1000 (by omega))))
  have ea : PySem.W.EachIs (fun v (i : Int) => ∃ t, v = Value.int i t) acc.toList ((List.range n).map fun i : Nat => (i : Int)) := by
    refine PySem.W.EachIs.of_zip (by rw [la, List.length_map, List.length_range]) fun p hp => ?_
    obtain ⟨j, at_j⟩ := List.mem_iff_getElem?.mp hp
    obtain ⟨h1, h2⟩ := List.getElem?_zip_eq_some.mp at_j
    rw [Array.getElem?_toList] at h1
    obtain ⟨t, e⟩ := ia.2 j _ h1
    rw [List.getElem?_map] at h2
    cases q : (List.range n)[j]? with
    | none => rw [q] at h2; cases h2
    | some z =>
      rw [q] at h2
      have hz : z = j := by
        have := (List.getElem?_eq_some_iff.mp q).2
        rw [List.getElem_range] at this
        exact this.symm
      have h2 : ((z : Nat) : Int) = p.2 := Option.some.inj h2
      refine ⟨t, ?_⟩
      rw [e, ← h2, hz]
      congr 1
      omega
  have ho : (h1.push (seqObj "list" acc.toList.toArray 0)).get? h1.objs.size = some (seqObj "list" acc.toList.toArray 0) := Heap.get?_push_size _ rfl
  have k2 : ∀ b o, s.heap.get? b = some o → (h1.push (seqObj "list" acc.toList.toArray 0)).get? b = some o := fun b o e => Heap.get?_push_of_some _ (k1 b o e)
  have up : ∀ {g : Heap}, PySem.W.KeepsBut h1.objs.size (h1.push (seqObj "list" acc.toList.toArray 0)) g → ∀ b o, s.heap.get? b = some o → g.get? b = some o := fun {g} kp b o e =>
    kp b o (Nat.ne_of_lt (Heap.lt_size (k1 b o e))) (k2 b o e)
  refine wpAny_bind (wpAny_holding (wpAny_call_entry_kw slot_list_sort ⟨_, ho, rfl⟩ entry_list_sort ?_ (ksk_l1 _ _)))
  rw [ksk_t1]
  refine PySem.W.keyH_tree (kz := ((List.range n).map fun i : Nat => (i : Int)).map k) (s := { s with heap := h1.push (seqObj "list" acc.toList.toArray 0), toks := tk1 }) ho (by rw [List.length_map, List.length_map, List.length_range, la]) (by rw [la]; exact Nat.le_of_lt (small1000 (by omega))) hal hk (fun d hd => ?_)
    (PySem.W.keyH_turns (s := { s with heap := h1.push (seqObj "list" acc.toList.toArray 0), toks := tk1 }) ea fun v i hR hi g tk kp => ?_) fun h' tk out c kp hD ko => ⟨_, rfl, ?_⟩
  · obtain ⟨i, _, rfl⟩ := List.mem_map.mp hd
    exact hu i
  · obtain ⟨t, rfl⟩ := hR
    obtain ⟨z, hz, e⟩ := List.mem_map.mp hi
    have hz := List.mem_range.mp hz
    exact turn i t (by omega) (by omega) g tk (up kp)
  · refine wpAny_pure ⟨_, rfl, ?_⟩
    exact h out c h1 h' tk _ k1 (fun b o e => kp b o (Nat.ne_of_lt (Heap.lt_size e)) (Heap.get?_push_of_some _ e)) (Nat.le_refl _) hD (PySem.W.keyedOut_each k ko ea)
end
/-! ### the sort by a lambda's key, as a rule of an expression -/
theorem readsAll_nil {h : Heap} : ∀ {ns : List Int} {vs : List Value} {as : List Addr}, ReadsAll h vs (ns.map .int) as → as = []
  | [], _, _, .nil => rfl
  | _ :: ns, _, _, r => by
    have r' : ReadsAll h _ (.int _ :: ns.map .int) _ := r
    cases r' with
    | cons h1 h2 =>
      cases h1
      exact readsAll_nil h2
theorem reads_nil {h : Heap} {ns : List Int} {v : Value} {as : List Addr} (r : Reads h v (intsD ns) as) : as = [] := by
  unfold intsD at r
  cases r with
  | tuple h1 h2 h3 h4 => exact readsAll_nil h4
theorem ints_vals : ∀ {out : List Value} {ns : List Int}, PySem.W.EachIs (fun v (i : Int) => ∃ t, v = Value.int i t) out ns → Vals (ns.map V.int) out
  | _, _, .nil => .nil
  | _, _, .cons ⟨t, e⟩ h => .cons ⟨t, e⟩ (ints_vals h)
theorem cr_range1 {X : Cx} : CallR X (.type "range") (fun vs H Q => ∃ j : Int, vs = [V.int j] ∧ ∀ p, H p = none → Q (.ref p) (upd H p (.rng 0 j))) := by
  intro pins s σ H vs us Q I r h
  obtain ⟨j, rfl, q⟩ := h
  obtain ⟨u, rfl, ru⟩ := vals1 r
  obtain ⟨t, rfl⟩ := ru
  refine call_range_1 ⟨.ref s.heap.objs.size, upd H s.heap.objs.size (.rng 0 j), I.laid (t' := s.toks + 1 + 1) (fun b o e => Heap.get?_push_of_some _ e) (Nat.le_refl _) ?_, rfl, q _ (I.hok.fresh (Nat.le_refl _))⟩
  exact ⟨_, _, _, Heap.get?_push_size _ rfl⟩
def spKey (S : List (Int × Int)) (i : Int) : PyData := intsD (spL (S.getD i.toNat (0, 0)))
/-- the numbers by their spots -/
def byKey (S : List (Int × Int)) : List Int := ((List.range S.length).map fun i : Nat => (i : Int)).mergeSort (PySem.W.dataLe false (spKey S))
def tSK (T : List (Addr × Str)) (te : TE) : TE := fun σ H Q => te σ H fun x H1 => ∃ (r sl : Addr) (ss : List V) (S : List (Int × Int)), x = .ref r ∧ H1 r = some (.rng 0 (S.length : Int)) ∧ LamX.Tabs T H1 ∧ S.length ≤ 100 ∧ H1 sl = some (.lst ss) ∧ Each IsSp H1 ss S ∧ σ[0]? = some (some (.ref sl)) ∧
  ∀ H2 p, LamX.ExtN H1 H2 → H2 p = none → Q (.ref p) (upd H2 p (.lst ((byKey S).map V.int)))
theorem pe_sortedLam {X : Cx} {T : List (Addr × Str)} {c P : Addr} {e : Expr} {te : TE} {params : Arguments} {p1 p2 p3 p kpos lpos pos : Pos} {scope : Scope} {nS nN : Str} {k : Nat} (hr : Room k X.A) (ha : PA X [e] (tCons te tNil)) (hg : Gl X "sorted") (hm : X.mg "sorted" = none)
    (TB : LamX.TabB X.base X.mg c P) (hcode : X.env.code = .ref c) (hmT : (P, X.env.qual ++ "<lambda>") ∈ T) (hu : ∀ p ∈ T, p.1 = P → p.2 = X.env.qual ++ "<lambda>") (hdef : defaultsOf params X.env = ([], []))
    (hfree : ∀ y ∈ scope.names, y.2 = .free → X.env.scope.names.lookup y.1 = some .cell) (hX : X.N[0]? = some nS) (hXc : X.env.scope.names.lookup nS = some .cell)
    (hbind : ∀ (q : Str) (cl : List (Str × Addr)) (pm cv ctv v : Value), bindArgs (PySem.W.kla_fn "<lambda>" q params (.Subscript (.Name nS p1) (.Name nN p2) p3) scope cl pm cv ctv) ⟨[v], []⟩ = pure [(nN, v)])
    (hk : scope.kind = .function) (hco : scope.isCoroutine = false) (hgen : scope.isGenerator = false) (hnc : ∀ x ∈ scope.names, x.2 ≠ .cell) (hN : scope.names.lookup nN = some .local) (hS : scope.names.lookup nS = some .free)
    (dS : (nS == ("__debug__" : Str)) = false) (dN : (nN == ("__debug__" : Str)) = false) (cS : (nS == ("__classdict__" : Str)) = false)
    (h1 : backTo pos (starEach [e] X.env) = (false, eval e X.env) :: backTo pos (starEach [] X.env) := by rfl) (h2 : (backTo pos (starEach [e] X.env)).any (·.1) = false := by rfl) :
    PE X (.Call (.Name "sorted" p) [e] [⟨some "key", .Lambda params (.Subscript (.Name nS p1) (.Name nN p2) p3) scope lpos, kpos⟩] pos) (tSK T te) := by
  refine ⟨fun pins s σ H Q I h => ?_⟩
  refine wpAny_Call_Name_kw (ld_blt I hg hm (by decide +kernel : bootBuiltins "sorted" = some (.builtin "sorted")) ?_)
  refine PyProof.Rows.callWith_kw (thn (ha.run pos pins s σ H (fun vs H1 => match vs with
    | [x] => ∃ (r sl : Addr) (ss : List V) (S : List (Int × Int)), x = .ref r ∧ H1 r = some (.rng 0 (S.length : Int)) ∧ LamX.Tabs T H1 ∧ S.length ≤ 100 ∧ H1 sl = some (.lst ss) ∧ Each IsSp H1 ss S ∧ σ[0]? = some (some (.ref sl)) ∧
      ∀ H2 p, LamX.ExtN H1 H2 → H2 p = none → Q (.ref p) (upd H2 p (.lst ((byKey S).map V.int)))
    | _ => False) I h) fun us s1 ⟨vs, H1, I1, r1, q1⟩ => ?_) h1 h2 (by rfl) (by rfl)
  match vs, r1, q1 with
  | [x], r1, q1 =>
    obtain ⟨r, sl, ss, S, rfl, hrng, hT, h100, hsl, hss, hσ, q⟩ := q1
    obtain rfl := Vals.ref1 r1
    show wpAny _ _ (evalAll ((do let v ← eval (.Lambda params (.Subscript (.Name nS p1) (.Name nN p2) p3) scope lpos) X.env; standAt pos; pure v) :: [])) _ _ s1
    have hfree' : ∀ y ∈ scope.names, y.2 = .free → ∃ c, X.env.cells.lookup y.1 = some c := fun y hy e => I1.ok.has _ (.inl (hfree y hy e))
    refine wpAny_evalAll_cons (wpAny_bind (LamX.lam_make2 I1 TB hcode hmT hu hT hdef hfree' fun f c' pm ctv H2 s2 I2 eN T2 hf hfn hfr hco2 => wpAny_bind (wpAny_standAt (wpAny_pure ?_))))
    refine wpAny_evalAll_nil ?_
    show wpAny _ _ (call (.builtin "sorted") [.ref r] [(Str.ofString "key", .ref f)]) _ _ _
    obtain ⟨t1, t2, t3, hrange⟩ := I2.hok r _ (eN _ _ hrng (by intro ps z; cases z))
    have hsl2 : H2 sl = some (.lst ss) := eN _ _ hsl (by intro ps z; cases z)
    have hss2 : Each IsSp H2 ss S := hss.keep fun v x (h : IsSp H1 v x) => (show IsSp H2 v x from TI.keepT (fun b xs e => eN _ _ e (by intro ps z; cases z)) h)
    obtain ⟨its, rv, hl, hz⟩ := I2.list (SqL.of hsl2)
    obtain ⟨⟨oc, cvs, ct, e1, e2, e3⟩, _, _⟩ := I2.hok c' _ hco2
    -- the cell
    obtain ⟨m, hn, hloc⟩ := I2.loc
    obtain ⟨w', rw', lw⟩ := hloc 0 nS _ hX hσ (.inr (.inl hXc))
    obtain rfl : w' = Value.ref sl := rw'
    obtain ⟨c0, hc0, hcell⟩ : ∃ c0, X.env.cells.lookup nS = some c0 ∧ s2.heap.IsCell c0 (some (.ref sl)) := by
      rcases lw with ⟨k', _⟩ | ⟨_, c3, e', z⟩
      · have k' : X.env.scope.names.lookup nS = some .local := k'
        rw [hXc] at k'
        cases k'
      · exact ⟨c3, e', z⟩
    obtain ⟨c4, hc4⟩ : ∃ c, (cloFrom X.env.cells scope.names []).lookup nS = some c := mem_lookup (cloFrom_has (cells := X.env.cells) (acc := []) (PySem.mem_of_lookup hS))
    have hc5 : c4 = c0 := by
      rcases cloFrom_mem (PySem.mem_of_lookup hc4) with hm | ⟨h1, h2⟩
      · cases hm
      · rw [h2, hc0]
        rfl
    rw [hc5] at hc4
    have lss := hss2.len
    have lits := rv.length
    have un := hr.un
    have dk : ∀ i, (spKey S i).depth = 1 := fun i => intsD_depth _
    have ak : ∀ i j : Int, PySem.W.alike (spKey S i) (spKey S j) = true := fun i j => alike_intsD _ _
    refine sorted_key_range (n := S.length) (tu := (t1, t2, t3)) (spKey S) hr.hd hrange h100 (PySem.W.AllAlike.of ak) (PySem.W.Sortable.tuples fun b => ⟨_, _, rfl⟩) (fun i => by rw [dk]; omega) (fun i t i0 i1 hh tk hk2 => ?_) fun out c1 g h' tk d k1 k2 hd hD ho => ?_
    · have hi : i.toNat < S.length := by omega
      obtain ⟨v, hv, hsp⟩ := hss2.get (List.getElem?_eq_getElem hi)
      obtain ⟨u, hu1, hu2⟩ := rv.get hv
      obtain ⟨as, hrd⟩ := Dp.reads I2 _ v u (TI.dp hsp) hu2
      have ek : spKey S i = intsD [S[i.toNat].1, S[i.toNat].2] := by
        unfold spKey spL
        rw [List.getD_eq_getElem?_getD, List.getElem?_eq_getElem hi]
        rfl
      rw [reads_nil hrd] at hrd
      refine lam_run (sl := sl) (c0 := c0) (s := { s2 with heap := hh, toks := tk }) (its := its.toArray) (wv := u) (hk2 _ _ hf) ⟨c', oc, cvs, ct, rfl, hk2 _ _ e1, e2, e3⟩ (I2.nolimit.keeps hk2) hr.depth (hbind _ _ _ _ _ _) hk hco hgen hnc hN hS hc4 ?_ ?_ i0 (by omega) ?_ ?_ dS dN cS
      · obtain ⟨o, ho, hd⟩ := hcell
        exact ⟨o, hk2 _ _ ho, hd⟩
      · obtain ⟨o, ho, hc, n, hd⟩ := hl.isList
        exact ⟨o, hk2 _ _ ho, hc, n, hd⟩
      · simpa using hu1
      · rw [ek]
        exact PyProof.Rows.Reads.keeps hk2 hrd
    · have I3 : Inv X pins σ H2 { s2 with heap := g, toks := tk } := I2.kept k1
      have lo := ho.length
      have vo : Vals ((byKey S).map V.int) out := ints_vals ho
      have lb : ((byKey S).map V.int).length ≤ sizeLine := by
        rw [vo.length, lo]
        rw [(List.mergeSort_perm _ _).length_eq, List.length_map, List.length_range]
        exact Nat.le_of_lt (small1000 (by omega))
      exact ⟨.ref d, upd H2 d (.lst ((byKey S).map V.int)), I3.laid (t' := tk) k2 hd ⟨lb, out, c1, vo, hD⟩, rfl, q H2 d eN (I3.hok.fresh hd)⟩
end Wk

set_option Elab.async false
set_option linter.all false
set_option maxRecDepth 100000
set_option exponentiation.threshold 10000
set_option maxHeartbeats 8000000
namespace Wk
open PySem PySem.Spec PyProof.Rows L2
/-! ### the halves as lots -/
theorem spKey_eq (W : SM.Wd) (i : Int) : spKey W.s i = .tuple [.int (W.sp i).1, .int (W.sp i).2] := rfl
theorem byKey_mem {W : SM.Wd} {d : Int} : d ∈ byKey W.s ↔ 0 ≤ d ∧ d < (W.s.length : Int) := by
  unfold byKey
  rw [(List.mergeSort_perm _ _).mem_iff, List.mem_map]
  constructor
  · rintro ⟨z, hz, rfl⟩
    have := List.mem_range.mp hz
    omega
  · rintro ⟨h0, h1⟩
    exact ⟨d.toNat, List.mem_range.mpr (by omega), by omega⟩
theorem byKey_len (W : SM.Wd) : (byKey W.s).length = W.s.length := by
  unfold byKey
  rw [(List.mergeSort_perm _ _).length_eq, List.length_map, List.length_range]
theorem byKey_nodup (W : SM.Wd) : (byKey W.s).Nodup := by
  unfold byKey
  refine (List.mergeSort_perm _ _).nodup_iff.mpr ?_
  refine List.pairwise_map.mpr (List.nodup_range.imp fun {a b} h c => h (by omega))
theorem byKey_pair (W : SM.Wd) : (byKey W.s).Pairwise fun i j => (W.sp i).1 < (W.sp j).1 ∨ ((W.sp i).1 = (W.sp j).1 ∧ (W.sp i).2 ≤ (W.sp j).2) := by
  have e : PySem.W.dataLe false (spKey W.s) = fun p q => decide ((W.sp p).1 < (W.sp q).1 ∨ ((W.sp p).1 = (W.sp q).1 ∧ (W.sp p).2 ≤ (W.sp q).2)) :=
    PySem.W.dataLe_ii (fun i => (W.sp i).1) (fun i => (W.sp i).2)
  have h := PySem.W.sort_pairwise (le := PySem.W.dataLe false (spKey W.s)) (PySem.W.sortLe_total _ _ _) ((List.range W.s.length).map fun i : Nat => (i : Int))
  rw [e] at h
  unfold byKey
  rw [e]
  exact h.imp fun {a b} q => of_decide_eq_true q
theorem lots_of {W : SM.Wd} (ok : W.Ok) {low high : List Int} (hl : low.Perm ((byKey W.s).take (W.s.length / 2))) (hh : high.Perm ((byKey W.s).drop (W.s.length / 2))) : SM.Lots W low high := by
  have two := ok.two
  have bl := byKey_len W
  have nd := byKey_nodup W
  have pw := byKey_pair W
  have split := List.take_append_drop (W.s.length / 2) (byKey W.s)
  rw [← split] at nd pw
  obtain ⟨n1, n2, n3⟩ := List.nodup_append.mp nd
  obtain ⟨_, _, p3⟩ := List.pairwise_append.mp pw
  have ml : ∀ d, d ∈ low ↔ d ∈ (byKey W.s).take (W.s.length / 2) := fun d => hl.mem_iff
  have mh : ∀ d, d ∈ high ↔ d ∈ (byKey W.s).drop (W.s.length / 2) := fun d => hh.mem_iff
  have ap : ∀ d ∈ low, d ∉ high := fun d h1 h2 => n3 d ((ml d).mp h1) d ((mh d).mp h2) rfl
  have inl : ∀ d ∈ low, 0 ≤ d ∧ d < (W.s.length : Int) := fun d h => byKey_mem.mp (List.mem_of_mem_take ((ml d).mp h))
  have inh : ∀ d ∈ high, 0 ≤ d ∧ d < (W.s.length : Int) := fun d h => byKey_mem.mp (List.mem_of_mem_drop ((mh d).mp h))
  refine ⟨hl.nodup_iff.mpr n1, hh.nodup_iff.mpr n2, inl, inh, fun d h0 h1 => ?_, ap, fun c => ?_, fun c => ?_, fun i hi j hj => ?_⟩
  · have := byKey_mem.mpr ⟨h0, h1⟩
    rw [← split] at this
    rcases List.mem_append.mp this with q | q
    · exact .inl ((ml d).mpr q)
    · exact .inr ((mh d).mpr q)
  · have := hl.length_eq
    rw [c, List.length_take] at this
    simp at this
    omega
  · have := hh.length_eq
    rw [c, List.length_drop] at this
    simp at this
    omega
  · have q := p3 i ((ml i).mp hi) j ((mh j).mp hj)
    obtain ⟨i0, i1⟩ := inl i hi
    obtain ⟨j0, j1⟩ := inh j hj
    have ne : W.sp i ≠ W.sp j := by
      have k := SM.sp_ne ok (i := i.toNat) (j := j.toNat) (by omega) (by omega) (fun c => ap i hi (by rw [show i = j by omega]; exact hj))
      rw [show ((i.toNat : Nat) : Int) = i by omega, show ((j.toNat : Nat) : Int) = j by omega] at k
      exact k
    have ne2 : ¬ ((W.sp i).1 = (W.sp j).1 ∧ (W.sp i).2 = (W.sp j).2) := fun c => ne (Prod.ext c.1 c.2)
    omega
/-! ### the def -/
def kwScope : Stmt → Scope
  | .Assign _ (.Call _ _ [⟨_, .Lambda _ _ sc _, _⟩] _) _ => sc
  | _ => { kind := .module, names := [], isGenerator := false, isCoroutine := false }
abbrev lamScope : Scope := kwScope ((defBody sHalves).getD 2 (.Pass ⟨0, 0, 0, 0⟩))
theorem lam_free : ∀ y ∈ lamScope.names, y.2 = .free → (defScope sHalves).names.lookup y.1 = some .cell := by decide +kernel
theorem lam_nocell : ∀ y ∈ lamScope.names, y.2 ≠ .cell := by decide +kernel
abbrev qLam : Str := ((Str.ofString "halves" ++ ".<locals>.") ++ "<lambda>")
section
variable {P : Program} {w : World} {K : PySem.W.Frag} {mg : Str → Option Value} {base : Heap} {f : Addr}
theorem scHalves : FnScope ["spots", "order", "many"] ["spots"] (defScope sHalves) := ⟨rfl, rfl, rfl, by decide +kernel, rfl, by decide +kernel, by decide +kernel⟩
def spHalves (Tb : Addr) : Sp := fun vs H Q _ => ∃ (u : V) (W : SM.Wd), vs = [u] ∧ SpotsAt H u W.s ∧ W.Ok ∧ LamX.Tabs [(Tb, qLam)] H ∧
  ∀ H' t a b low high, LamX.ExtN H H' → H' t = some (.tup [.ref a, .ref b]) → H' a = some (.lst (low.map V.int)) → H' b = some (.lst (high.map V.int)) → SM.Lots W low high → Q (.ref t) H'
theorem ext_same {H H' : Hp} (s : Same H H') : LamX.ExtN H H' := fun b o e _ => s b o e
theorem SpotsAt.ext {H H' : Hp} {u : V} {S : List (Int × Int)} (e : LamX.ExtN H H') (h : SpotsAt H u S) : SpotsAt H' u S := by
  obtain ⟨l, vs, e1, a, b⟩ := h
  exact ⟨l, vs, e1, e _ _ a (by intro ps z; cases z), b.keep fun v x (h : IsSp H v x) => (show IsSp H' v x from TI.keepT (fun b xs q => e _ _ q (by intro ps z; cases z)) h)⟩
theorem d_halves {Tb c : Addr} {od an : Option Addr} {osl : Array (Option Value)} {oc kV doc pm ct : Value} (lk : K.lookup f = some ⟨oc, od, .func (PySem.W.fnOf "halves" "halves" (defArgs sHalves) (defBody sHalves) (defScope sHalves) .none kV doc pm an (.ref c) ct), osl⟩)
    (hcd : PySem.W.codeIn K (.ref c) "halves" = true) (kp : PySem.W.keepIn K (.ref f) = true) (g : mg "halves" = some (.ref f)) (TB : LamX.TabB base mg c Tb)
    (ml : mg "len" = none) (mr : mg "range" = none) (ms : mg "sorted" = none) (dl : Def P w K mg base 2 "look_spots" ["spots"] spLookSpots) : Def P w K mg base 3 "halves" ["spots"] (spHalves Tb) := by
  have F : Fun K "halves" "halves" sHalves f _ := fun_mk lk hcd kp
  refine ⟨f, _, g, kp, F.binds (ps := ["spots"]) fun _ _ _ _ _ _ us hl => match us, hl with | [_], _ => rfl, ?_⟩
  refine fn_of lk hcd scHalves (fun vs H Q E h => ?_) fun A outer s H vs Q E hr h => ?_
  · obtain ⟨a, _, rfl, _⟩ := h
    rfl
  · obtain ⟨_, W, rfl, hS, ok, hT, k⟩ := h
    have two := ok.two
    have h12 := ok.most
    suffices hh : ∃ t, PSs (cxOf CX0 P w K mg base ["spots", "order", "many"] "halves" (defScope sHalves) f (.ref c) A outer s H E).nox (defBody sHalves) t ∧ t { nx := fun _ H' => Q .non H', rt := Q } (start ["spots", "order", "many"] _) H by
      obtain ⟨t, h, q⟩ := hh
      exact ⟨t, h.nox, q⟩
    refine ⟨_, pss_cons (ps_expr (pe_def dl hr (pa_cons (pv 0) pa_nil)))
      (pss_cons (ps_if (pt_cmpR op_eq (pe_callB call_len_seq (by rfl) ml PySem.boot_len (pa_cons (pv 0) pa_nil)) pe_int (nomark _)) (pss_one ps_never) pss_nil)
      (pss_cons (ps_set (i := 1) scHalves.nd rfl (Or.inl rfl) (pe_sortedLam (T := [(Tb, qLam)]) hr (pa_cons (pe_callTy cr_range1 (by rfl) mr (by decide +kernel) (pa_cons (pe_callB call_len_seq (by rfl) ml PySem.boot_len (pa_cons (pv 0) pa_nil)) pa_nil)) pa_nil) (by rfl) ms TB rfl List.mem_cons_self (fun p hp _ => by rw [List.mem_singleton.mp hp]; rfl) rfl lam_free rfl rfl
          (fun _ _ _ _ _ _ => rfl) rfl rfl rfl lam_nocell rfl rfl (by decide) (by decide) (by decide)))
      (pss_cons (ps_set (i := 2) scHalves.nd rfl (Or.inl rfl) (pe_op op_fdivN (pe_callB call_len_seq (by rfl) ml PySem.boot_len (pa_cons (pv 0) pa_nil)) pe_int))
      (pss_one (ps_ret (pe_tup (pa_cons (pe_callB cr_sorted (by rfl) ms (by decide +kernel) (pa_cons (pe_slice sl_list (pv 1) po_none (po_some (pv 2))) pa_nil))
        (pa_cons (pe_callB cr_sorted (by rfl) ms (by decide +kernel) (pa_cons (pe_slice sl_list (pv 1) (po_some (pv 2)) po_none) pa_nil)) pa_nil)))))))), ?_⟩
    refine ⟨_, rfl, _, W.s, rfl, hS, by omega, h12, ok.nod, fun H1 s1 => ?_⟩
    obtain ⟨sl, ss, rfl, hsl, hss⟩ := hS.keep s1
    have lss := hss.len
    refine ⟨.ref sl, rfl, sl, _, rfl, .inl (SqL.of hsl), rfl, false, blF (neI (by omega)), iteF ?_⟩
    refine ⟨.ref sl, rfl, sl, _, rfl, .inl (SqL.of hsl), _, rfl, fun r nr => ?_⟩
    have s2 := same_upd (o := .rng 0 ((ss.length : Nat) : Int)) nr
    refine ⟨r, sl, ss, W.s, rfl, by rw [← lss]; exact upd_same, ((hT.ext s1).ext s2), by omega, s2 _ _ hsl, hss.keep fun v x => IsSp.keep s2, rfl, fun H2 p e2 np => ?_⟩
    have s3 := same_upd (o := .lst ((byKey W.s).map V.int)) np
    have hsl3 : upd H2 p (.lst ((byKey W.s).map V.int)) sl = some (.lst ss) := s3 _ _ (e2 _ _ (s2 _ _ hsl) (by intro ps z; cases z))
    refine ⟨.ref sl, rfl, sl, _, rfl, .inl (SqL.of hsl3), _, _, rfl, rfl, ⟨by decide, by decide⟩, ?_⟩
    have ed : ((ss.length : Nat) : Int).fdiv 2 = ((W.s.length / 2 : Nat) : Int) := by
      rw [lss, Int.fdiv_eq_ediv_of_nonneg _ (by decide)]
      rfl
    refine ⟨.ref p, rfl, .int ((W.s.length / 2 : Nat) : Int), by rw [← ed]; rfl, _, rfl, p, _, rfl, SqL.of upd_same, fun q nq => ?_⟩
    rw [cut_to, ← List.map_take]
    have s4 := same_upd (o := .lst (((byKey W.s).take (W.s.length / 2)).map V.int)) nq
    have bl := byKey_len W
    refine ⟨q, _, rfl, SqL.of upd_same, by rw [List.length_take]; omega, fun low a pl _ na => ?_⟩
    have s5 := same_upd (o := .lst (low.map V.int)) na
    refine ⟨.ref p, rfl, .int ((W.s.length / 2 : Nat) : Int), by rw [← ed]; rfl, _, rfl, p, _, rfl, SqL.of (s5 _ _ (s4 _ _ upd_same)), fun q2 nq2 => ?_⟩
    rw [cut_from, ← List.map_drop]
    have s6 := same_upd (o := .lst (((byKey W.s).drop (W.s.length / 2)).map V.int)) nq2
    refine ⟨q2, _, rfl, SqL.of upd_same, by rw [List.length_drop]; omega, fun high b ph _ nb => ?_⟩
    have s7 := same_upd (o := .lst (high.map V.int)) nb
    refine ⟨(by show 2 ≤ sizeLine; decide), fun t nt => ?_⟩
    have s8 := same_upd (o := .tup [.ref a, .ref b]) nt
    refine k _ t a b low high ?_ upd_same (s8 _ _ (s7 _ _ (s6 _ _ upd_same))) (s8 _ _ upd_same) (lots_of ok pl ph)
    exact (ext_same (s1.trans s2)).trans (e2.trans (ext_same ((((s3.trans s4).trans s5).trans s6).trans (s7.trans s8))))
end
end Wk

set_option Elab.async false
set_option linter.all false
set_option maxRecDepth 100000
set_option exponentiation.threshold 10000
set_option maxHeartbeats 8000000
namespace Wk
open PySem PySem.Spec PyProof.Rows L2
/-! ### the feed -/
/-- all that is no dict stands as it was -/
def Bt (H H' : Hp) : Prop := ∀ b o, (∀ kvs, o ≠ HO.dK kvs) → H b = some o → H' b = some o
theorem Bt.refl (H : Hp) : Bt H H := fun _ _ _ h => h
theorem Bt.trans {H H' Hq : Hp} (a : Bt H H') (b : Bt H' Hq) : Bt H Hq := fun x o n h => b x o n (a x o n h)
theorem Bt.of {H H' : Hp} (s : Same H H') : Bt H H' := fun b o _ h => s b o h
theorem Bt.put {H : Hp} {d : Addr} {kvs : List (Key × V)} {o' : HO} (h : H d = some (.dK kvs)) : Bt H (upd H d o') := fun b o n e => by
  rw [upd_ne fun c => ?_]
  · exact e
  · rw [c, h] at e
    injection e with e
    exact n kvs e.symm
def feedK (l : Addr) (a z : Int) : List (Key × V) := [(.inr "cells", .ref l), (.inr "at", .int a), (.inr "left", .int z)]
theorem nCA : ¬ ((.inr "cells" : Key) = .inr "at") := by decide
theorem nCL : ¬ ((.inr "cells" : Key) = .inr "left") := by decide
theorem nAL : ¬ ((.inr "at" : Key) = .inr "left") := by decide
theorem nLA : ¬ ((.inr "left" : Key) = .inr "at") := by decide
theorem feed_cells {l : Addr} {a z : Int} : valV (feedK l a z) (.inr "cells") = some (.ref l) := valV_pos rfl
theorem feed_at {l : Addr} {a z : Int} : valV (feedK l a z) (.inr "at") = some (.int a) := (valV_neg nCA).trans (valV_pos rfl)
theorem feed_left {l : Addr} {a z : Int} : valV (feedK l a z) (.inr "left") = some (.int z) := (valV_neg nCL).trans ((valV_neg nAL).trans (valV_pos rfl))
theorem put_left {l : Addr} {a z y : Int} : putK (feedK l a z) (.inr "left") (.int y) = feedK l a y := by
  unfold putK
  rw [if_pos (by rw [valV_any, feed_left]; rfl)]
  show [if (Sum.inr (Str.ofString "cells") : Key) = Sum.inr (Str.ofString "left") then ((Sum.inr (Str.ofString "cells") : Key), V.int y) else ((Sum.inr (Str.ofString "cells") : Key), V.ref l), if (Sum.inr (Str.ofString "at") : Key) = Sum.inr (Str.ofString "left") then ((Sum.inr (Str.ofString "at") : Key), V.int y) else ((Sum.inr (Str.ofString "at") : Key), V.int a), if (Sum.inr (Str.ofString "left") : Key) = Sum.inr (Str.ofString "left") then ((.inr (Str.ofString "left") : Key), V.int y) else ((Sum.inr (Str.ofString "left") : Key), V.int z)] = _
  rw [if_neg nCL, if_neg nAL, if_pos rfl]
  rfl
theorem put_at {l : Addr} {a z y : Int} : putK (feedK l a z) (.inr "at") (.int y) = feedK l y z := by
  unfold putK
  rw [if_pos (by rw [valV_any, feed_at]; rfl)]
  show [if (Sum.inr (Str.ofString "cells") : Key) = Sum.inr (Str.ofString "at") then ((Sum.inr (Str.ofString "cells") : Key), V.int y) else ((Sum.inr (Str.ofString "cells") : Key), V.ref l), if (Sum.inr (Str.ofString "at") : Key) = Sum.inr (Str.ofString "at") then ((Sum.inr (Str.ofString "at") : Key), V.int y) else ((Sum.inr (Str.ofString "at") : Key), V.int a), if (Sum.inr (Str.ofString "left") : Key) = Sum.inr (Str.ofString "at") then ((.inr (Str.ofString "left") : Key), V.int y) else ((Sum.inr (Str.ofString "left") : Key), V.int z)] = _
  rw [if_neg nCA, if_pos rfl, if_neg nLA]
  rfl
theorem merge_feed {l : Addr} {a z : Int} : mergeK [] (feedK l a z) = feedK l a z := by
  show putK (putK (putK [] (Sum.inr (Str.ofString "cells") : Key) (.ref l)) (Sum.inr (Str.ofString "at") : Key) (.int a)) (Sum.inr (Str.ofString "left") : Key) (.int z) = _
  have e1 : putK ([] : List (Key × V)) (.inr "cells") (.ref l) = [(.inr "cells", .ref l)] := putK_new _ valV_nil
  have e2 : putK ([(.inr "cells", .ref l)] : List (Key × V)) (.inr "at") (.int a) = [(.inr "cells", .ref l), (.inr "at", .int a)] := putK_new _ ((valV_neg nCA).trans valV_nil)
  have e3 : putK ([(.inr "cells", .ref l), (.inr "at", .int a)] : List (Key × V)) (.inr "left") (.int z) = feedK l a z := putK_new _ ((valV_neg nCL).trans ((valV_neg nAL).trans valV_nil))
  rw [e1, e2, e3]
theorem sql_same {K : PySem.W.Frag} {H H' : Hp} {a : Addr} {xs : List V} (s : Same H H') (h : SqL K H a xs) : SqL K H' a xs := by
  rcases h with (h | ⟨o, h⟩) | h
  · exact .inl (.inl (s _ _ h))
  · exact .inl (.inr ⟨o, s _ _ h⟩)
  · exact .inr h
structure FeedIs (H : Hp) (d l : Addr) (cells : List Int) (a z : Int) : Prop where
  d : H d = some (.dK (feedK l a z))
  l : H l = some (.lst (cells.map V.int))
  n : cells.length ≤ 63
def FeedAt (H : Hp) (d l : Addr) (B : Nat) : Prop := ∃ cells a z, FeedIs H d l cells a z ∧ 0 ≤ a ∧ a ≤ (B : Int)
theorem FeedIs.getL {H : Hp} {d l : Addr} {cells : List Int} {a z : Int} (h : FeedIs H d l cells a z) : DGet H d (.str "left") (some (.int z)) := by
  have := DGet.k (k := .inr "left") h.d
  rw [feed_left] at this
  exact this
theorem FeedIs.getA {H : Hp} {d l : Addr} {cells : List Int} {a z : Int} (h : FeedIs H d l cells a z) : DGet H d (.str "at") (some (.int a)) := by
  have := DGet.k (k := .inr "at") h.d
  rw [feed_at] at this
  exact this
theorem FeedIs.getC {H : Hp} {d l : Addr} {cells : List Int} {a z : Int} (h : FeedIs H d l cells a z) : DGet H d (.str "cells") (some (.ref l)) := by
  have := DGet.k (k := .inr "cells") h.d
  rw [feed_cells] at this
  exact this
theorem feed_size {l : Addr} {a z : Int} : (feedK l a z).length < sizeLine := by
  rw [sizeLine_eq]
  show 3 < _
  omega
theorem FeedIs.putL {H : Hp} {d l : Addr} {cells : List Int} {a z : Int} (h : FeedIs H d l cells a z) (y : Int) : DPut H d (.str "left") (.int y) (upd H d (.dK (feedK l a y))) := by
  have := DPut.k (k := .inr "left") (v := .int y) h.d feed_size
  rw [put_left] at this
  exact this
theorem FeedIs.putA {H : Hp} {d l : Addr} {cells : List Int} {a z : Int} (h : FeedIs H d l cells a z) (y : Int) : DPut H d (.str "at") (.int y) (upd H d (.dK (feedK l y z))) := by
  have := DPut.k (k := .inr "at") (v := .int y) h.d feed_size
  rw [put_at] at this
  exact this
theorem FeedIs.upd {H : Hp} {d l : Addr} {cells : List Int} {a z : Int} (h : FeedIs H d l cells a z) (b y : Int) : FeedIs (upd H d (.dK (feedK l b y))) d l cells b y :=
  ⟨upd_same, Bt.put h.d _ _ (fun _ c => by cases c) h.l, h.n⟩
theorem FeedIs.bt {H : Hp} {d l : Addr} {cells : List Int} {a z : Int} (h : FeedIs H d l cells a z) (b y : Int) : Bt H (L2.upd H d (.dK (feedK l b y))) := Bt.put h.d
theorem FeedAt.same {H H' : Hp} {d l : Addr} {B : Nat} (s : Same H H') (h : FeedAt H d l B) : FeedAt H' d l B := by
  obtain ⟨cells, a, z, h, q⟩ := h
  exact ⟨cells, a, z, ⟨s _ _ h.d, s _ _ h.l, h.n⟩, q⟩
theorem FeedAt.mono {H : Hp} {d l : Addr} {B C : Nat} (h : FeedAt H d l B) (q : B ≤ C) : FeedAt H d l C := by
  obtain ⟨cells, a, z, h, q1, q2⟩ := h
  exact ⟨cells, a, z, h, q1, by omega⟩
/-- another object may change -/
theorem FeedAt.other {H0 H : Hp} {d l : Addr} {B0 B : Nat} (h0 : FeedAt H0 d l B0) (h : FeedAt H d l B) {p : Addr} (np : H0 p = none) (o : HO) : FeedAt (upd H p o) d l B := by
  obtain ⟨_, _, _, h0, _⟩ := h0
  obtain ⟨cells, a, z, h, q⟩ := h
  exact ⟨cells, a, z, ⟨by rw [upd_ne (ne_of_none h0.d np)]; exact h.d, by rw [upd_ne (ne_of_none h0.l np)]; exact h.l, h.n⟩, q⟩
theorem Bt.new {H0 H : Hp} (s : Bt H0 H) {p : Addr} (np : H0 p = none) (o : HO) : Bt H0 (upd H p o) := fun b u n e => by
  rw [upd_ne (ne_of_none e np)]
  exact s b u n e
theorem hu1 {A : Around} {k : Nat} (hr : Room k A) : A.units + 1 < cLine := by
  have := hr.un
  omega
section
variable {P : Program} {w : World} {K : PySem.W.Frag} {mg : Str → Option Value} {base : Heap} {f : Addr} {fd : FuncData}
/-! ### _law_feed -/
theorem scFeed : FnScope ["_law_script"] ["_law_script"] (defScope sFeed) := ⟨rfl, rfl, rfl, by decide +kernel, rfl, by decide +kernel, by decide +kernel⟩
def spFeed (K : PySem.W.Frag) : Sp := fun vs H Q _ => ∃ (a : Addr) (ns : List Int), vs = [.ref a] ∧ SqL K H a (ns.map V.int) ∧ ∀ H' d l, Same H H' → FeedAt H' d l 0 → Q (.ref d) H'
theorem take_ints (ns : List Int) (n : Nat) : cutV (ns.map V.int) none (some (n : Int)) = (ns.take n).map V.int := by
  rw [cut_to, List.map_take]
theorem d_feed (F : Fun K "_law_feed" "_law_feed" sFeed f fd) (g : mg "_law_feed" = some (.ref f)) (mli : mg "list" = none) : Def P w K mg base 1 "_law_feed" ["_law_script"] (spFeed K) := by
  refine ⟨f, fd, g, F.kp, F.binds (ps := ["_law_script"]) fun _ _ _ _ _ _ us hl => match us, hl with | [_], _ => rfl, ?_⟩
  refine F.ok scFeed (fun vs H Q E h => ?_) (fun cdv A outer s H vs Q E hr h => ?_)
  · obtain ⟨a, _, rfl, _⟩ := h
    rfl
  · obtain ⟨a, ns, rfl, ha, k⟩ := h
    refine ⟨_, pss_one (ps_ret (pe_disp (pps_cons pe_str (pe_callTy call_list_of (by rfl) mli (by decide +kernel) (pa_cons (pe_slice sl_list (pv 0) po_none (po_some pe_int)) pa_nil)) (pps_cons pe_str pe_int (pps_cons pe_str pe_int pps_nil))) rfl rfl (by simp) (by decide))), ?_⟩
    intro d nd
    have s1 := same_upd (o := HO.dK []) nd
    refine ⟨.ref a, rfl, _, rfl, a, ns.map V.int, rfl, ?_, fun p np => ?_⟩
    · exact sql_same s1 ha
    rw [show ((63 : Int)) = ((63 : Nat) : Int) from rfl, take_ints]
    have s2 := same_upd (o := .lst ((ns.take 63).map V.int)) np
    refine ⟨p, _, rfl, .inl (SqL.of upd_same), fun l nl => ?_⟩
    have s3 := same_upd (o := .lst ((ns.take 63).map V.int)) nl
    have hd := s3 _ _ (s2 _ _ (upd_same (H := H) (a := d) (o := .dK [])))
    refine ⟨hd, feedK l 0 0, rfl, (by show 3 ≤ 15; decide), ?_⟩
    rw [merge_feed]
    have hd2 := s2 _ _ (upd_same (H := H) (a := d) (o := .dK []))
    have hdl : d ≠ l := fun c => by
      subst c
      exact absurd (nl.symm.trans hd2) (by simp)
    refine k _ _ l (fun b o e => ?_) ⟨ns.take 63, 0, 0, ⟨upd_same, ?_, ?_⟩, by decide, by decide⟩
    · rw [upd_ne (ne_of_none e nd)]
      exact s3 _ _ (s2 _ _ (s1 _ _ e))
    · rw [upd_ne (Ne.symm hdl)]
      exact upd_same
    · rw [List.length_take]
      omega
/-! ### _law_draw -/
theorem later0 {G T : Prop} (h1 : T → G) (h2 : T) : G := h1 h2
theorem later {G : Prop} {T : Int → Prop} (h1 : (∀ c, T c) → G) (h2 : ∀ c, T c) : G := h1 h2

theorem scDraw : FnScope ["_law_feed_here", "_law_many", "_law_found", "_law_at", "_law_cell", "_law_number"] ["_law_feed_here", "_law_many"] (defScope sDraw) := ⟨rfl, rfl, rfl, by decide +kernel, rfl, by decide +kernel, by decide +kernel⟩
def spDraw : Sp := fun vs H Q _ => ∃ (d l : Addr) (m : Int) (B : Nat), vs = [.ref d, .int m] ∧ FeedAt H d l B ∧ 0 < m ∧ m ≤ 100000 ∧ B ≤ 10000 ∧
  ∀ H' r, Bt H H' → FeedAt H' d l (B + 1) → 0 ≤ r → r < m → Q (.int r) H'
theorem d_draw (F : Fun K "_law_draw" "_law_draw" sDraw f fd) (g : mg "_law_draw" = some (.ref f)) (ml : mg "len" = none) : Def P w K mg base 1 "_law_draw" ["_law_feed_here", "_law_many"] spDraw := by
  refine ⟨f, fd, g, F.kp, F.binds (ps := ["_law_feed_here", "_law_many"]) fun _ _ _ _ _ _ us hl => match us, hl with | [_, _], _ => rfl, ?_⟩
  refine F.ok scDraw (fun vs H Q E h => ?_) (fun cdv A outer s H vs Q E hr h => ?_)
  · obtain ⟨a, _, _, _, rfl, _⟩ := h
    rfl
  · obtain ⟨d, l, m, B, rfl, ⟨cells, a, z, hF, a0, aB⟩, m0, m1, hB, k⟩ := h
    have hm : m ≠ 0 := by omega
    have hdiv : CDiv z m := ⟨m0, by omega⟩
    have ni := @nomark
    refine ⟨_, pss_cons (ps_if (pt_cmpR op_gt (pe_dget (hu1 hr) (pv 0) pe_str (fun _ _ => rfl)) pe_int (nomark _))
        (pss_cons (ps_set (i := 2) scDraw.nd rfl (Or.inl rfl) (pe_op op_mod (pe_dget (hu1 hr) (pv 0) pe_str (fun _ _ => rfl)) (pv 1)))
        (pss_cons (ps_dput (hu1 hr) (pv 0) pe_str (pe_op op_fdiv (pe_dget (hu1 hr) (pv 0) pe_str (fun _ _ => rfl)) (pv 1)) rfl)
        (pss_one (ps_ret (pv 2))))) pss_nil)
      (pss_cons (ps_set (i := 3) scDraw.nd rfl (Or.inl rfl) (pe_dget (hu1 hr) (pv 0) pe_str (fun _ _ => rfl)))
      (pss_cons (ps_dput (hu1 hr) (pv 0) pe_str (pe_op op_add (pv 3) pe_int) rfl)
      (pss_cons (ps_set (i := 4) scDraw.nd rfl (Or.inl rfl) (pv 3))
      (pss_cons (ps_if (pt_cmpR op_gt (pe_callB call_len_seq (by rfl) ml PySem.boot_len (pa_cons (pe_dget (hu1 hr) (pv 0) pe_str (fun _ _ => rfl)) pa_nil)) pe_int (nomark _))
        (pss_one (ps_set (i := 4) scDraw.nd rfl (Or.inl rfl) (pe_ix ix_list (pe_dget (hu1 hr) (pv 0) pe_str (fun _ _ => rfl)) (pe_op op_mod (pv 3) (pe_callB call_len_seq (by rfl) ml PySem.boot_len (pa_cons (pe_dget (hu1 hr) (pv 0) pe_str (fun _ _ => rfl)) pa_nil))) (fun _ _ => rfl)))) pss_nil)
      (pss_cons (ps_if (PW.pt (pw_and (pt_cmpR op_ge (pv 4) (pe_op op_pow pe_int pe_int) (nomark _)) (pw_and1 (pt_cmpR op_lt (pv 3) (pe_callB call_len_seq (by rfl) ml PySem.boot_len (pa_cons (pe_dget (hu1 hr) (pv 0) pe_str (fun _ _ => rfl)) pa_nil)) (nomark _)))))
        (pss_cons (ps_dput (hu1 hr) (pv 0) pe_str (pe_op op_fdiv (pv 4) (pv 1)) rfl)
        (pss_one (ps_ret (pe_op op_mod (pv 4) (pv 1))))) pss_nil)
      (pss_cons (ps_set (i := 5) scDraw.nd rfl (Or.inl rfl) (pe_op op_mod (pe_op op_mul (pe_op op_add (pe_op op_add (pe_op op_add (pe_op op_mod (pv 4) pe_int) (pe_op op_mul (pe_op op_mul pe_int (pv 3)) (pv 3))) (pe_op op_mul pe_int (pv 3))) pe_int) pe_int) pe_int))
      (pss_one (ps_ret (pe_op op_mod (pe_op op_fdiv (pe_op op_mod (pe_op op_mul (pe_op op_mod (pe_op op_add (pe_op op_mul (pv 5) pe_int) (pe_op op_mul pe_int (pv 3))) pe_int) pe_int) pe_int) pe_int) (pv 1)))))))))), ?_⟩
    refine ⟨.ref d, rfl, d, _, rfl, hF.getL, _, _, rfl, rfl, ?_⟩
    by_cases c : 0 < z
    · refine ⟨true, blT c, iteT ?_⟩
      refine ⟨.ref d, rfl, d, _, rfl, hF.getL, _, rfl, _, _, rfl, rfl, m0, ?_⟩
      refine ⟨.ref d, rfl, d, _, rfl, hF.getL, _, rfl, _, _, rfl, rfl, hdiv, _, rfl, d, _, rfl, hF.putL _, ?_⟩
      refine ⟨_, rfl, k _ _ (hF.bt _ _) ⟨cells, _, _, hF.upd _ _, a0, by omega⟩ (Int.emod_nonneg _ hm) (Int.emod_lt_of_pos _ m0)⟩
    · refine ⟨false, blF c, iteF ?_⟩
      refine ⟨.ref d, rfl, d, _, rfl, hF.getA, ?_⟩
      refine ⟨_, rfl, _, _, rfl, rfl, .ref d, rfl, d, _, rfl, hF.putA _, ?_⟩
      have hF1 := hF.upd (a + 1) z
      have s1 := hF.bt (a + 1) z
      refine ⟨_, rfl, ?_⟩
      have lc : (cells.map V.int).length = cells.length := List.length_map _
      apply later
      · intro fin
        refine ⟨.ref d, rfl, d, _, rfl, hF1.getC, l, _, rfl, .inl (SqL.of hF1.l), _, _, rfl, rfl, ?_⟩
        rw [lc]
        rcases Nat.lt_or_ge 0 cells.length with c2 | c2
        · have hi : (a % ((cells.length : Nat) : Int)).toNat < cells.length := by
            have h1 := Int.emod_nonneg a (show ((cells.length : Nat) : Int) ≠ 0 by omega)
            have h2 := Int.emod_lt_of_pos a (show (0 : Int) < ((cells.length : Nat) : Int) by omega)
            omega
          have hi0 := Int.emod_nonneg a (show ((cells.length : Nat) : Int) ≠ 0 by omega)
          have hv : (cells.map V.int)[(a % ((cells.length : Nat) : Int)).toNat]? = some (.int cells[(a % ((cells.length : Nat) : Int)).toNat]) := by rw [List.getElem?_map, List.getElem?_eq_getElem hi]; rfl
          refine ⟨true, blT (by omega), iteT ?_⟩
          refine ⟨.ref d, rfl, d, _, rfl, hF1.getC, _, rfl, .ref d, rfl, d, _, rfl, hF1.getC, l, _, rfl, .inl (SqL.of hF1.l), _, _, rfl, rfl, by rw [lc]; omega, l, _, _, _, rfl, rfl, SqL.of hF1.l, at_of (by rw [lc]; omega) hv, ?_⟩
          generalize cells[(a % ((cells.length : Nat) : Int)).toNat] = cell
          exact fin cell
        · exact ⟨false, blF (by omega), iteF (fin a)⟩
      intro cell
      have hp : CPow 10 18 := by unfold CPow; decide
      have hdc : CDiv cell m := ⟨m0, by omega⟩
      have ha2 : FeedAt (upd H d (.dK (feedK l (a + 1) (cell / m)))) d l (B + 1) := ⟨cells, _, _, hF.upd _ _, by omega, by omega⟩
      apply later0
      · intro fin
        by_cases c3 : (10 : Int) ^ (18 : Int).toNat ≤ cell
        · refine ⟨_, rfl, _, _, rfl, rfl, hp, _, _, rfl, rfl, true, blT c3, iteT ?_⟩
          refine ⟨_, rfl, .ref d, rfl, d, _, rfl, hF1.getC, l, _, rfl, .inl (SqL.of hF1.l), _, _, rfl, rfl, ?_⟩
          rw [lc]
          by_cases c4 : a < ((cells.length : Nat) : Int)
          · refine ⟨true, blT c4, iteT ?_⟩
            refine ⟨_, rfl, _, rfl, _, _, rfl, rfl, hdc, _, rfl, d, _, rfl, hF1.putL _, ?_⟩
            refine ⟨_, rfl, _, rfl, _, _, rfl, rfl, m0, ?_⟩
            rw [upd_upd]
            refine k _ _ (hF.bt _ _) ha2 (Int.emod_nonneg _ hm) (Int.emod_lt_of_pos _ m0)
          · refine ⟨false, blF c4, iteF ?_⟩
            exact fin
        · refine ⟨_, rfl, _, _, rfl, rfl, hp, _, _, rfl, rfl, false, blF c3, iteF ?_⟩
          exact fin
      · have ca : CMul 61 a := .inl ⟨by decide, by decide⟩
        have caa : ∀ x : Int, CMul x a := fun x => .inr ⟨by omega, by omega⟩
        have cs : ∀ x y : Int, 0 ≤ y → y < 100000 → CMul x y := fun x y h1 h2 => .inr ⟨by omega, by omega⟩
        refine ⟨_, rfl, _, _, rfl, rfl, (show (0 : Int) < 1000003 by decide), ?_⟩
        refine ⟨_, rfl, _, _, rfl, rfl, caa _, _, rfl, _, _, rfl, rfl, caa _, _, _, rfl, rfl, ?_⟩
        refine ⟨_, rfl, _, _, rfl, rfl, caa _, _, _, rfl, rfl, _, _, rfl, rfl, _, _, rfl, rfl, cs _ _ (by decide) (by decide), _, _, rfl, rfl, (show (0 : Int) < 999983 by decide), ?_⟩
        refine ⟨_, rfl, _, _, rfl, rfl, cs _ _ (by decide) (by decide), _, rfl, _, _, rfl, rfl, caa _, _, _, rfl, rfl, _, _, rfl, rfl, (show (0 : Int) < 1999993 by decide), _, _, rfl, rfl, cs _ _ (by decide) (by decide), _, _, rfl, rfl, (show (0 : Int) < 524287 by decide), _, _, rfl, rfl, ⟨by decide, by decide⟩, _, rfl, _, _, rfl, rfl, m0, ?_⟩
        exact k _ _ s1 ⟨cells, _, _, hF1, by omega, by omega⟩ (Int.emod_nonneg _ hm) (Int.emod_lt_of_pos _ m0)
end
end Wk

set_option Elab.async false
set_option linter.all false
set_option maxRecDepth 100000
set_option exponentiation.threshold 10000
set_option maxHeartbeats 8000000
namespace Wk
open PySem PySem.Spec PyProof.Rows L2
theorem eT {i j : Int} (h : i = j) : V.bl (decide (V.int i = V.int j)) = V.bl true := blT (congrArg V.int h)
theorem eF {i j : Int} (h : ¬ i = j) : V.bl (decide (V.int i = V.int j)) = V.bl false := blF fun c => h (by injection c)
section
variable {P : Program} {w : World} {K : PySem.W.Frag} {mg : Str → Option Value} {base : Heap} {f : Addr} {fd : FuncData}
/-! ### _law_great -/
theorem scGreat : FnScope ["_law_feed_here", "_law_pieces", "_law_number", "_law_k"] ["_law_feed_here", "_law_pieces"] (defScope sGreat) := ⟨rfl, rfl, rfl, by decide +kernel, rfl, by decide +kernel, by decide +kernel⟩
def spGreat : Sp := fun vs H Q _ => ∃ (d l : Addr) (n B : Nat), vs = [.ref d, .int n] ∧ FeedAt H d l B ∧ n ≤ 5 ∧ B ≤ 9000 ∧
  ∀ H' r, Bt H H' → FeedAt H' d l (B + n) → 0 ≤ r → r < 100000 ^ n → Q (.int r) H'
theorem great_step {N r : Int} {i : Nat} (h0 : 0 ≤ N) (h1 : N < 100000 ^ i) (r0 : 0 ≤ r) (r1 : r < 100000) : 0 ≤ N * 100000 + r ∧ N * 100000 + r < 100000 ^ (i + 1) := by
  rw [Int.pow_succ]
  generalize (100000 : Int) ^ i = M at *
  omega
theorem great_cap {N : Int} {i : Nat} (h1 : N < 100000 ^ i) (hi : i ≤ 5) : N < 10000000000000000000000000 := by
  have : (100000 : Int) ^ i ≤ 100000 ^ 5 := by
    have h : (100000 : Nat) ^ i ≤ 100000 ^ 5 := Nat.pow_le_pow_right (by decide) hi
    have h2 : (((100000 : Nat) ^ i : Nat) : Int) ≤ ((100000 ^ 5 : Nat) : Int) := Int.ofNat_le.mpr h
    rw [Int.natCast_pow, Int.natCast_pow] at h2
    exact h2
  have e : (100000 : Int) ^ 5 = 10000000000000000000000000 := by decide
  omega
theorem d_great (F : Fun K "_law_great" "_law_great" sGreat f fd) (g : mg "_law_great" = some (.ref f)) (mr : mg "range" = none) (dd : Def P w K mg base 1 "_law_draw" ["_law_feed_here", "_law_many"] spDraw) : Def P w K mg base 2 "_law_great" ["_law_feed_here", "_law_pieces"] spGreat := by
  refine ⟨f, fd, g, F.kp, F.binds (ps := ["_law_feed_here", "_law_pieces"]) fun _ _ _ _ _ _ us hl => match us, hl with | [_, _], _ => rfl, ?_⟩
  refine F.ok scGreat (fun vs H Q E h => ?_) (fun cdv A outer s H vs Q E hr h => ?_)
  · obtain ⟨a, _, _, _, rfl, _⟩ := h
    rfl
  · obtain ⟨d, l, n, B, rfl, hF, hn, hB, k⟩ := h
    refine ⟨_, pss_cons (ps_set (i := 2) scGreat.nd rfl (Or.inl rfl) pe_int)
      (pss_cons (ps_for PassesOwn.never rfl (pi_range1 rfl mr (pa_cons (pv 1) pa_nil)) (pg_name (i := 3) scGreat.nd rfl (Or.inl rfl))
        (pss_one (ps_set (i := 2) scGreat.nd rfl (Or.inl rfl) (pe_op op_add (pe_op op_mul (pv 2) pe_int) (pe_def dd hr (pa_cons (pv 0) (pa_cons pe_int pa_nil)))))))
      (pss_one (ps_ret (pv 2)))), ?_⟩
    refine ⟨_, rfl, _, rfl, by omega, by omega, for_range (lo := 0) (n := ((n : Nat) : Int).toNat) (fun i σ H' => Bt H H' ∧ FeedAt H' d l (B + i) ∧ ∃ (N : Int) (y : Option V), 0 ≤ N ∧ N < 100000 ^ i ∧ σ = [some (.ref d), some (.int n), some (.int N), y]) ⟨Bt.refl H, hF, 0, _, by decide, by decide, rfl⟩ ?_ ?_⟩
    · rintro i σ H' hi ⟨s1, hF1, N, y, N0, N1, rfl⟩
      refine ⟨_, rfl, _, _, rfl, rfl, .inr ⟨by decide, by decide⟩, _, rfl, d, l, _, B + i, rfl, hF1, by decide, by decide, by omega, fun H2 r s2 hF2 r0 r1 => ?_⟩
      obtain ⟨q0, q1⟩ := great_step N0 N1 r0 r1
      exact ⟨_, _, rfl, rfl, s1.trans s2, hF2, _, _, q0, q1, rfl⟩
    · rintro σ H' ⟨s1, hF1, N, y, N0, N1, rfl⟩
      have e : ((n : Nat) : Int).toNat = n := by omega
      rw [e] at hF1 N1
      exact ⟨_, rfl, k _ _ s1 hF1 N0 N1⟩
/-! ### _law_scale -/
theorem scScale : FnScope ["_law_feed_here", "_law_way"] ["_law_feed_here"] (defScope sScale) := ⟨rfl, rfl, rfl, by decide +kernel, rfl, by decide +kernel, by decide +kernel⟩
def spScale : Sp := fun vs H Q _ => ∃ (d l : Addr) (B : Nat), vs = [.ref d] ∧ FeedAt H d l B ∧ B ≤ 8000 ∧
  ∀ H' v t r u, Bt H H' → FeedAt H' d l (B + 30) → TI H' v [t, r, u] → 1 ≤ t → t ≤ 10000000000000000000000000 → -10000000000000000000000000 ≤ r → r ≤ 10000000000000000000000000 → -10000000000000000000000000 ≤ u → u ≤ 10000000000000000000000000 → Q v H'
theorem d_scale (F : Fun K "_law_scale" "_law_scale" sScale f fd) (g : mg "_law_scale" = some (.ref f)) (dd : Def P w K mg base 1 "_law_draw" ["_law_feed_here", "_law_many"] spDraw) (dg : Def P w K mg base 2 "_law_great" ["_law_feed_here", "_law_pieces"] spGreat) : Def P w K mg base 3 "_law_scale" ["_law_feed_here"] spScale := by
  refine ⟨f, fd, g, F.kp, F.binds (ps := ["_law_feed_here"]) fun _ _ _ _ _ _ us hl => match us, hl with | [_], _ => rfl, ?_⟩
  refine F.ok scScale (fun vs H Q E h => ?_) (fun cdv A outer s H vs Q E hr h => ?_)
  · obtain ⟨a, _, _, rfl, _⟩ := h
    rfl
  · obtain ⟨d, l, B, rfl, hF, hB, k⟩ := h
    have hr1 : Room 1 _ := hr.mono (by decide)
    refine ⟨_, pss_cons (ps_set (i := 1) scScale.nd rfl (Or.inl rfl) (pe_def dd hr1 (pa_cons (pv 0) (pa_cons pe_int pa_nil))))
      (pss_cons (ps_if (pt_cmpR op_lt (pv 1) pe_int (nomark _)) (pss_one (ps_ret (pe_tup (pa_cons pe_int (pa_cons pe_int (pa_cons pe_int pa_nil)))))) pss_nil)
      (pss_cons (ps_if (pt_cmpR op_eq (pv 1) pe_int (nomark _)) (pss_one (ps_ret (pe_tup (pa_cons (pe_op op_add pe_int (pe_def dd hr1 (pa_cons (pv 0) (pa_cons pe_int pa_nil)))) (pa_cons (pe_op op_sub (pe_def dd hr1 (pa_cons (pv 0) (pa_cons pe_int pa_nil))) pe_int) (pa_cons (pe_op op_sub (pe_def dd hr1 (pa_cons (pv 0) (pa_cons pe_int pa_nil))) pe_int) pa_nil)))))) pss_nil)
      (pss_one (ps_ret (pe_tup (pa_cons (pe_op op_add pe_int (pe_def dg hr (pa_cons (pv 0) (pa_cons pe_int pa_nil)))) (pa_cons (pe_op op_sub (pe_def dg hr (pa_cons (pv 0) (pa_cons pe_int pa_nil))) (pe_def dg hr (pa_cons (pv 0) (pa_cons pe_int pa_nil)))) (pa_cons (pe_op op_sub (pe_def dg hr (pa_cons (pv 0) (pa_cons pe_int pa_nil))) (pe_def dg hr (pa_cons (pv 0) (pa_cons pe_int pa_nil)))) pa_nil)))))))), ?_⟩
    refine ⟨_, rfl, d, l, _, B, rfl, hF, by decide, by decide, by omega, fun H1 way s1 hF1 w0 w1 => ?_⟩
    refine ⟨_, rfl, _, _, rfl, rfl, ?_⟩
    by_cases c1 : way < 2
    · refine ⟨true, blT c1, iteT ⟨(by show 3 ≤ sizeLine; decide), fun p np => ?_⟩⟩
      have sp := same_upd (o := .tup ([1, 0, 0].map V.int)) np
      exact k _ _ 1 0 0 (s1.trans (Bt.of sp)) ((hF1.same sp).mono (by omega)) ⟨p, rfl, upd_same⟩ (by decide) (by decide) (by decide) (by decide) (by decide) (by decide)
    · refine ⟨false, blF c1, iteF ?_⟩
      by_cases c2 : way = 2
      · refine ⟨_, rfl, rfl, true, ?_, iteT ?_⟩
        · exact eT c2
        refine ⟨_, rfl, d, l, _, B + 1, rfl, hF1, by decide, by decide, by omega, fun H2 x2 s2 hF2 x20 x21 => ?_⟩
        refine ⟨_, _, rfl, rfl, _, rfl, d, l, _, B + 2, rfl, hF2, by decide, by decide, by omega, fun H3 x3 s3 hF3 x30 x31 => ?_⟩
        refine ⟨_, _, rfl, rfl, _, rfl, d, l, _, B + 3, rfl, hF3, by decide, by decide, by omega, fun H4 x4 s4 hF4 x40 x41 => ?_⟩
        refine ⟨_, _, rfl, rfl, (by show 3 ≤ sizeLine; decide), fun p np => ?_⟩
        have sp := same_upd (o := .tup ([1 + x2, x3 - 100, x4 - 100].map V.int)) np
        exact k _ _ _ _ _ ((((s1.trans s2).trans s3).trans s4).trans (Bt.of sp)) ((hF4.same sp).mono (by omega)) ⟨p, rfl, upd_same⟩ (by omega) (by omega) (by omega) (by omega) (by omega) (by omega)
      · refine ⟨_, rfl, rfl, false, ?_, iteF ?_⟩
        · exact eF c2
        refine ⟨_, rfl, d, l, 4, B + 1, rfl, hF1, by decide, by omega, fun H2 x2 s2 hF2 x20 x21 => ?_⟩
        refine ⟨_, _, rfl, rfl, _, rfl, d, l, 5, B + 5, rfl, hF2, by decide, by omega, fun H3 x3 s3 hF3 x30 x31 => ?_⟩
        refine ⟨_, rfl, d, l, 5, B + 10, rfl, hF3, by decide, by omega, fun H4 x4 s4 hF4 x40 x41 => ?_⟩
        refine ⟨_, _, rfl, rfl, _, rfl, d, l, 5, B + 15, rfl, hF4, by decide, by omega, fun H5 x5 s5 hF5 x50 x51 => ?_⟩
        refine ⟨_, rfl, d, l, 5, B + 20, rfl, hF5, by decide, by omega, fun H6 x6 s6 hF6 x60 x61 => ?_⟩
        refine ⟨_, _, rfl, rfl, (by show 3 ≤ sizeLine; decide), fun p np => ?_⟩
        have sp := same_upd (o := .tup ([1 + x2, x3 - x4, x5 - x6].map V.int)) np
        have y2 : x2 < 1000000000000000000000000 := by
          have e : (100000 : Int) ^ 4 = 100000000000000000000 := by decide
          omega
        have y3 := great_cap x31 (by decide)
        have y4 := great_cap x41 (by decide)
        have y5 := great_cap x51 (by decide)
        have y6 := great_cap x61 (by decide)
        exact k _ _ _ _ _ ((((((s1.trans s2).trans s3).trans s4).trans s5).trans s6).trans (Bt.of sp)) ((hF6.same sp).mono (by omega)) ⟨p, rfl, upd_same⟩ (by omega) (by omega) (by omega) (by omega) (by omega) (by omega)
/-! ### _law_spot -/
theorem lit_at {L : List Int} {k : Int} {b : Int} (hL : ∀ x ∈ L, 0 ≤ x ∧ x ≤ b) (h0 : 0 ≤ k) (h1 : k < (L.length : Int)) : ∃ x, (L.map V.int)[k.toNat]? = some (.int x) ∧ 0 ≤ x ∧ x ≤ b := by
  have hi : k.toNat < L.length := by omega
  refine ⟨L[k.toNat], ?_, hL _ (List.getElem_mem hi)⟩
  rw [List.getElem?_map, List.getElem?_eq_getElem hi]
  rfl
abbrev ringX : List Int := [10, 9, 8, 5, 2, 1, 0, 1, 2, 5, 8, 9]
abbrev ringY : List Int := [5, 8, 9, 10, 9, 8, 5, 2, 1, 0, 1, 2]
theorem ringX_ok : ∀ x ∈ ringX, 0 ≤ x ∧ x ≤ 11 := by decide
theorem ringY_ok : ∀ x ∈ ringY, 0 ≤ x ∧ x ≤ 11 := by decide
theorem scSpot : FnScope ["_law_feed_here", "_law_style", "_law_k"] ["_law_feed_here", "_law_style"] (defScope sSpot) := ⟨rfl, rfl, rfl, by decide +kernel, rfl, by decide +kernel, by decide +kernel⟩
def Lil (s : Int × Int) : Prop := 0 ≤ s.1 ∧ s.1 ≤ 11 ∧ 0 ≤ s.2 ∧ s.2 ≤ 11
def spSpot : Sp := fun vs H Q _ => ∃ (d l : Addr) (y : Int) (B : Nat), vs = [.ref d, .int y] ∧ FeedAt H d l B ∧ 0 ≤ y ∧ y ≤ 5 ∧ B ≤ 9000 ∧
  ∀ H' v s, Bt H H' → FeedAt H' d l (B + 2) → IsSp H' v s → Lil s → Q v H'
theorem d_spot (F : Fun K "_law_spot" "_law_spot" sSpot f fd) (g : mg "_law_spot" = some (.ref f)) (dd : Def P w K mg base 1 "_law_draw" ["_law_feed_here", "_law_many"] spDraw) : Def P w K mg base 2 "_law_spot" ["_law_feed_here", "_law_style"] spSpot := by
  refine ⟨f, fd, g, F.kp, F.binds (ps := ["_law_feed_here", "_law_style"]) fun _ _ _ _ _ _ us hl => match us, hl with | [_, _], _ => rfl, ?_⟩
  refine F.ok scSpot (fun vs H Q E h => ?_) (fun cdv A outer s H vs Q E hr h => ?_)
  · obtain ⟨a, _, _, _, rfl, _⟩ := h
    rfl
  · obtain ⟨d, l, y, B, rfl, hF, y0, y5, hB, k⟩ := h
    refine ⟨_, pss_cons (ps_if (pt_cmpR op_eq (pv 1) pe_int (nomark _)) (pss_one (ps_ret (pe_tup (pa_cons (pe_def dd hr (pa_cons (pv 0) (pa_cons pe_int pa_nil))) (pa_cons (pe_def dd hr (pa_cons (pv 0) (pa_cons pe_int pa_nil))) pa_nil))))) pss_nil)
      (pss_cons (ps_if (pt_cmpR op_eq (pv 1) pe_int (nomark _)) (pss_one (ps_ret (pe_tup (pa_cons (pe_def dd hr (pa_cons (pv 0) (pa_cons pe_int pa_nil))) (pa_cons (pe_def dd hr (pa_cons (pv 0) (pa_cons pe_int pa_nil))) pa_nil))))) pss_nil)
      (pss_cons (ps_set (i := 2) scSpot.nd rfl (Or.inl rfl) (pe_def dd hr (pa_cons (pv 0) (pa_cons pe_int pa_nil))))
      (pss_cons (ps_if (pt_cmpR op_eq (pv 1) pe_int (nomark _)) (pss_one (ps_ret (pe_tup (pa_cons (pe_ix ix_list (pe_lst (pa_cons pe_int (pa_cons pe_int (pa_cons pe_int (pa_cons pe_int (pa_cons pe_int (pa_cons pe_int (pa_cons pe_int (pa_cons pe_int (pa_cons pe_int (pa_cons pe_int (pa_cons pe_int (pa_cons pe_int (pa_nil)))))))))))))) (pv 2) (fun _ _ => rfl)) (pa_cons (pe_ix ix_list (pe_lst (pa_cons pe_int (pa_cons pe_int (pa_cons pe_int (pa_cons pe_int (pa_cons pe_int (pa_cons pe_int (pa_cons pe_int (pa_cons pe_int (pa_cons pe_int (pa_cons pe_int (pa_cons pe_int (pa_cons pe_int (pa_nil)))))))))))))) (pv 2) (fun _ _ => rfl)) pa_nil))))) pss_nil)
      (pss_one (ps_ret (pe_ix ix_list (pe_lst (pa_cons (pe_tup (pa_cons (pv 2) (pa_cons pe_int pa_nil))) (pa_cons (pe_tup (pa_cons pe_int (pa_cons (pv 2) pa_nil))) (pa_cons (pe_tup (pa_cons (pv 2) (pa_cons (pv 2) pa_nil))) pa_nil)))) (pe_op op_sub (pv 1) pe_int) (fun _ _ => rfl))))))), ?_⟩
    refine ⟨_, rfl, rfl, ?_⟩
    by_cases c0 : y = 0
    · refine ⟨true, eT c0, iteT ?_⟩
      refine ⟨_, rfl, d, l, _, B, rfl, hF, by decide, by decide, by omega, fun H1 x s1 hF1 x0 x1 => ?_⟩
      refine ⟨_, rfl, d, l, _, B + 1, rfl, hF1, by decide, by decide, by omega, fun H2 z s2 hF2 z0 z1 => ?_⟩
      refine ⟨(by show 2 ≤ sizeLine; decide), fun p np => ?_⟩
      have sp := same_upd (o := .tup ([x, z].map V.int)) np
      exact k _ _ (x, z) ((s1.trans s2).trans (Bt.of sp)) (hF2.same sp) ⟨p, rfl, upd_same⟩ ⟨x0, by simp only; omega, z0, by simp only; omega⟩
    refine ⟨false, eF c0, iteF ?_⟩
    refine ⟨_, rfl, rfl, ?_⟩
    by_cases c1 : y = 1
    · refine ⟨true, eT c1, iteT ?_⟩
      refine ⟨_, rfl, d, l, _, B, rfl, hF, by decide, by decide, by omega, fun H1 x s1 hF1 x0 x1 => ?_⟩
      refine ⟨_, rfl, d, l, _, B + 1, rfl, hF1, by decide, by decide, by omega, fun H2 z s2 hF2 z0 z1 => ?_⟩
      refine ⟨(by show 2 ≤ sizeLine; decide), fun p np => ?_⟩
      have sp := same_upd (o := .tup ([x, z].map V.int)) np
      exact k _ _ (x, z) ((s1.trans s2).trans (Bt.of sp)) (hF2.same sp) ⟨p, rfl, upd_same⟩ ⟨x0, by simp only; omega, z0, by simp only; omega⟩
    refine ⟨false, eF c1, iteF ?_⟩
    refine ⟨_, rfl, d, l, _, B, rfl, hF, by decide, by decide, by omega, fun H1 q s1 hF1 q0 q1 => ?_⟩
    have fin : ∀ (H2 : Hp) (p : Addr) (x z : Int), Same H1 H2 → H2 p = some (.tup [.int x, .int z]) → 0 ≤ x → x ≤ 11 → 0 ≤ z → z ≤ 11 → Q (.ref p) H2 := fun H2 p x z s2 hp a1 a2 a3 a4 =>
      k _ _ (x, z) (s1.trans (Bt.of s2)) ((hF1.same s2).mono (by omega)) ⟨p, rfl, hp⟩ ⟨a1, a2, a3, a4⟩
    refine ⟨_, rfl, rfl, ?_⟩
    by_cases c2 : y = 2
    · obtain ⟨x, hx, x0, x1⟩ := lit_at (L := ringX) ringX_ok q0 (show q < 12 from q1)
      obtain ⟨z, hz, z0, z1⟩ := lit_at (L := ringY) ringY_ok q0 (show q < 12 from q1)
      refine ⟨true, eT c2, iteT ?_⟩
      refine ⟨(by show 12 ≤ sizeLine; decide), fun p1 n1 => ?_⟩
      refine ⟨_, rfl, p1, _, _, _, rfl, rfl, SqL.of upd_same, at_of (by omega) hx, ?_⟩
      refine ⟨(by show 12 ≤ sizeLine; decide), fun p2 n2 => ?_⟩
      refine ⟨_, rfl, p2, _, _, _, rfl, rfl, SqL.of upd_same, at_of (by omega) hz, ?_⟩
      refine ⟨(by show 2 ≤ sizeLine; decide), fun p np => ?_⟩
      exact fin _ p x z (((same_upd n1).trans (same_upd n2)).trans (same_upd np)) upd_same x0 x1 z0 z1
    refine ⟨false, eF c2, iteF ?_⟩
    refine ⟨_, rfl, (by show 2 ≤ sizeLine; decide), fun p1 n1 => ?_⟩
    refine ⟨_, rfl, (by show 2 ≤ sizeLine; decide), fun p2 n2 => ?_⟩
    refine ⟨_, rfl, _, rfl, (by show 2 ≤ sizeLine; decide), fun p3 n3 => ?_⟩
    refine ⟨(by show 3 ≤ sizeLine; decide), fun p4 n4 => ?_⟩
    have t1 := same_upd (o := .tup [.int q, .int 4]) n1
    have t2 := same_upd (o := .tup [.int 5, .int q]) n2
    have t3 := same_upd (o := .tup [.int q, .int q]) n3
    have t4 := same_upd (o := .lst [.ref p1, .ref p2, .ref p3]) n4
    have e3 := t4 _ _ (upd_same (a := p3) (o := .tup [.int q, .int q]))
    have e2 := t4 _ _ (t3 _ _ (upd_same (a := p2) (o := .tup [.int 5, .int q])))
    have e1 := t4 _ _ (t3 _ _ (t2 _ _ (upd_same (a := p1) (o := .tup [.int q, .int 4]))))
    have tt := ((t1.trans t2).trans t3).trans t4
    have h3 : y = 3 ∨ y = 4 ∨ y = 5 := by omega
    rcases h3 with rfl | rfl | rfl
    · refine ⟨_, rfl, _, _, rfl, rfl, p4, _, _, .ref p1, rfl, rfl, SqL.of upd_same, at_of (j := 0) (by decide) rfl, ?_⟩
      exact fin _ p1 _ _ tt e1 q0 (by omega) (by decide) (by decide)
    · refine ⟨_, rfl, _, _, rfl, rfl, p4, _, _, .ref p2, rfl, rfl, SqL.of upd_same, at_of (j := 1) (by decide) rfl, ?_⟩
      exact fin _ p2 _ _ tt e2 (by decide) (by decide) q0 (by omega)
    · refine ⟨_, rfl, _, _, rfl, rfl, p4, _, _, .ref p3, rfl, rfl, SqL.of upd_same, at_of (j := 2) (by decide) rfl, ?_⟩
      exact fin _ p3 _ _ tt e3 q0 (by omega) q0 (by omega)
end
end Wk

set_option Elab.async false
set_option linter.all false
set_option maxRecDepth 100000
set_option exponentiation.threshold 10000
set_option maxHeartbeats 8000000
namespace Wk
open PySem PySem.Spec PyProof.Rows L2
theorem IsSp.keepT {H H' : Hp} (s : ∀ b xs, H b = some (.tup xs) → H' b = some (.tup xs)) {v : V} {p : Int × Int} (h : IsSp H v p) : IsSp H' v p := TI.keepT s h
structure GL (H0 H : Hp) (d l fl : Addr) (B : Nat) (vs : List V) (S : List (Int × Int)) : Prop where
  bt : Bt H0 H
  feed : FeedAt H d l B
  at_ : H fl = some (.lst vs)
  sp : Each IsSp H vs S
theorem tup_bt {H H' : Hp} (s : Bt H H') : ∀ b xs, H b = some (.tup xs) → H' b = some (.tup xs) := fun b xs e => s b _ (fun _ c => by cases c) e
theorem lst_bt {H H' : Hp} (s : Bt H H') {b : Addr} {xs : List V} (e : H b = some (.lst xs)) : H' b = some (.lst xs) := s b _ (fun _ c => by cases c) e
theorem GL.draw {H0 H H' : Hp} {d l fl : Addr} {B B' : Nat} {vs : List V} {S : List (Int × Int)} (g : GL H0 H d l fl B vs S) (s : Bt H H') (f : FeedAt H' d l B') : GL H0 H' d l fl B' vs S :=
  ⟨g.bt.trans s, f, lst_bt s g.at_, g.sp.keep fun v x => IsSp.keepT (tup_bt s)⟩
theorem GL.same {H0 H H' : Hp} {d l fl : Addr} {B : Nat} {vs : List V} {S : List (Int × Int)} (g : GL H0 H d l fl B vs S) (s : Same H H') : GL H0 H' d l fl B vs S :=
  g.draw (Bt.of s) (g.feed.same s)
theorem GL.app {H0 H : Hp} {d l fl : Addr} {B0 B : Nat} {vs : List V} {S : List (Int × Int)} (h0 : FeedAt H0 d l B0) (nfl : H0 fl = none) (g : GL H0 H d l fl B vs S) {v : V} {s : Int × Int} (hs : IsSp H v s) :
    GL H0 (upd H fl (.lst (vs ++ [v]))) d l fl B (vs ++ [v]) (S ++ [s]) := by
  have tk := tup_keep (ws := vs ++ [v]) g.at_
  exact ⟨g.bt.new nfl _, h0.other g.feed nfl _, upd_same, Each.app (g.sp.keep fun v x => IsSp.keepT tk) ⟨TI.keepT tk hs, trivial⟩⟩
structure SOk (S : List (Int × Int)) : Prop where
  lo : 2 ≤ S.length
  hi : S.length ≤ 12
  nd : S.Nodup
  lil : ∀ s ∈ S, 0 ≤ s.1 ∧ s.1 ≤ 12 ∧ 0 ≤ s.2 ∧ s.2 ≤ 12
/-- what the dozen's way lays at place j -/
def Fits (way : Int) (j : Nat) (s : Int × Int) : Prop :=
  (way = 0 → s = ((j : Int) % 4, (j : Int) / 4)) ∧ (way = 1 → s = (ringX.getD j 0, ringY.getD j 0)) ∧ (2 ≤ way → s.1 = (j : Int))
theorem ring_inj : ∀ i j : Fin 12, ringX.getD i.val 0 = ringX.getD j.val 0 → ringY.getD i.val 0 = ringY.getD j.val 0 → i = j := by decide
theorem fits_inj {way : Int} {i j : Nat} {s : Int × Int} (hw : 0 ≤ way) (hi : i < 12) (hj : j < 12) (a : Fits way i s) (b : Fits way j s) : i = j := by
  have h3 : way = 0 ∨ way = 1 ∨ 2 ≤ way := by omega
  rcases h3 with h | h | h
  · have e := (a.1 h).symm.trans (b.1 h)
    injection e with e1 e2
    omega
  · have e := (a.2.1 h).symm.trans (b.2.1 h)
    injection e with e1 e2
    have := ring_inj ⟨i, hi⟩ ⟨j, hj⟩ e1 e2
    exact congrArg Fin.val this
  · have e1 := a.2.2 h
    have e2 := b.2.2 h
    omega
/-- the dozen so far -/
structure Doz (way : Int) (S : List (Int × Int)) (n : Nat) : Prop where
  len : S.length = n
  fits : ∀ s ∈ S, ∃ j, j < n ∧ Fits way j s
  nd : S.Nodup
  lil : ∀ s ∈ S, 0 ≤ s.1 ∧ s.1 ≤ 12 ∧ 0 ≤ s.2 ∧ s.2 ≤ 12
theorem nodup_snoc {α : Type} {S : List α} {s : α} (h : S.Nodup) (q : s ∉ S) : (S ++ [s]).Nodup :=
  List.nodup_append.mpr ⟨h, List.nodup_cons.mpr ⟨by simp, List.nodup_nil⟩, fun a ha b hb c => q (by rw [← List.mem_singleton.mp hb, ← c]; exact ha)⟩
theorem Doz.snoc {way : Int} {S : List (Int × Int)} {n : Nat} {s : Int × Int} (hw : 0 ≤ way) (hn : n < 12) (D : Doz way S n) (h : Fits way n s) (q : 0 ≤ s.1 ∧ s.1 ≤ 12 ∧ 0 ≤ s.2 ∧ s.2 ≤ 12) : Doz way (S ++ [s]) (n + 1) := by
  refine ⟨by rw [List.length_append, D.len]; rfl, fun x hx => ?_, nodup_snoc D.nd fun c => ?_, fun x hx => ?_⟩
  · rcases List.mem_append.mp hx with e | e
    · obtain ⟨j, a, b⟩ := D.fits x e
      exact ⟨j, by omega, b⟩
    · rw [List.mem_singleton.mp e]
      exact ⟨n, by omega, h⟩
  · obtain ⟨j, a, b⟩ := D.fits s c
    have := fits_inj hw (by omega) hn b h
    omega
  · rcases List.mem_append.mp hx with e | e
    · exact D.lil x e
    · rw [List.mem_singleton.mp e]
      exact q
theorem ring_at {i : Nat} (h : i < 12) : (ringX.map V.int)[i]? = some (.int (ringX.getD i 0)) ∧ (ringY.map V.int)[i]? = some (.int (ringY.getD i 0)) := by
  have hx : i < ringX.length := h
  have hy : i < ringY.length := h
  constructor
  · rw [List.getElem?_map, List.getElem?_eq_getElem hx, List.getD_eq_getElem?_getD, List.getElem?_eq_getElem hx]
    rfl
  · rw [List.getElem?_map, List.getElem?_eq_getElem hy, List.getD_eq_getElem?_getD, List.getElem?_eq_getElem hy]
    rfl
theorem ring_lil : ∀ i : Fin 12, 0 ≤ ringX.getD i.val 0 ∧ ringX.getD i.val 0 ≤ 12 ∧ 0 ≤ ringY.getD i.val 0 ∧ ringY.getD i.val 0 ≤ 12 := by decide
section
variable {P : Program} {w : World} {K : PySem.W.Frag} {mg : Str → Option Value} {base : Heap} {f : Addr} {fd : FuncData}
/-! ### _law_dozen -/
theorem scDozen : FnScope ["_law_feed_here", "_law_way", "_law_found", "_law_k", "_law_at"] ["_law_feed_here"] (defScope sDozen) := ⟨rfl, rfl, rfl, by decide +kernel, rfl, by decide +kernel, by decide +kernel⟩
def spDozen : Sp := fun vs H Q _ => ∃ (d l : Addr) (B : Nat), vs = [.ref d] ∧ FeedAt H d l B ∧ B ≤ 8000 ∧
  ∀ H' v S, Bt H H' → FeedAt H' d l (B + 20) → SpotsAt H' v S → SOk S → Q v H'
abbrev σdoz (d : Addr) (way : Int) (fl : Addr) (x3 : Option V) : L2.St := [some (.ref d), some (.int way), some (.ref fl), x3, none]
theorem d_dozen (F : Fun K "_law_dozen" "_law_dozen" sDozen f fd) (g : mg "_law_dozen" = some (.ref f)) (mr : mg "range" = none) (ml : mg "len" = none) (dd : Def P w K mg base 1 "_law_draw" ["_law_feed_here", "_law_many"] spDraw) : Def P w K mg base 2 "_law_dozen" ["_law_feed_here"] spDozen := by
  refine ⟨f, fd, g, F.kp, F.binds (ps := ["_law_feed_here"]) fun _ _ _ _ _ _ us hl => match us, hl with | [_], _ => rfl, ?_⟩
  refine F.ok scDozen (fun vs H Q E h => ?_) (fun cdv A outer s H vs Q E hr h => ?_)
  · obtain ⟨a, _, _, rfl, _⟩ := h
    rfl
  · obtain ⟨d, l, B, rfl, hF, hB, k⟩ := h
    refine ⟨_, pss_cons (ps_set (i := 1) scDozen.nd rfl (Or.inl rfl) (pe_def dd hr (pa_cons (pv 0) (pa_cons pe_int pa_nil))))
      (pss_cons (ps_set (i := 2) scDozen.nd rfl (Or.inl rfl) (pe_lst pa_nil))
      (pss_cons (ps_for PassesOwn.never rfl (pi_range1 rfl mr (pa_cons (pe_op op_add pe_int (pe_def dd hr (pa_cons (pv 0) (pa_cons pe_int pa_nil)))) pa_nil)) (pg_name (i := 3) scDozen.nd rfl (Or.inl rfl))
        (pss_one (ps_if (pt_cmpR op_eq (pv 1) pe_int (nomark _))
          (pss_one (ps_expr (pe_bm PySem.F.plainAttrs_list PySem.F.slot_list_append PySem.F.type_list_append mt_append (pv 2) (pa_cons (pe_tup (pa_cons (pe_op op_mod (pv 3) pe_int) (pa_cons (pe_op op_fdiv (pv 3) pe_int) pa_nil))) pa_nil))))
          (pss_one (ps_if (pt_cmpR op_eq (pv 1) pe_int (nomark _))
            (pss_one (ps_expr (pe_bm PySem.F.plainAttrs_list PySem.F.slot_list_append PySem.F.type_list_append mt_append (pv 2) (pa_cons (pe_tup (pa_cons (pe_ix ix_list (pe_lst (pa_cons pe_int (pa_cons pe_int (pa_cons pe_int (pa_cons pe_int (pa_cons pe_int (pa_cons pe_int (pa_cons pe_int (pa_cons pe_int (pa_cons pe_int (pa_cons pe_int (pa_cons pe_int (pa_cons pe_int (pa_nil)))))))))))))) (pv 3) (fun _ _ => rfl)) (pa_cons (pe_ix ix_list (pe_lst (pa_cons pe_int (pa_cons pe_int (pa_cons pe_int (pa_cons pe_int (pa_cons pe_int (pa_cons pe_int (pa_cons pe_int (pa_cons pe_int (pa_cons pe_int (pa_cons pe_int (pa_cons pe_int (pa_cons pe_int (pa_nil)))))))))))))) (pv 3) (fun _ _ => rfl)) pa_nil))) pa_nil))))
            (pss_one (ps_expr (pe_bm PySem.F.plainAttrs_list PySem.F.slot_list_append PySem.F.type_list_append mt_append (pv 2) (pa_cons (pe_tup (pa_cons (pv 3) (pa_cons (pe_ix ix_list (pe_lst (pa_cons pe_int (pa_cons (pe_def dd hr (pa_cons (pv 0) (pa_cons pe_int pa_nil))) pa_nil))) (pe_op op_sub (pv 1) pe_int) (fun _ _ => rfl)) pa_nil))) pa_nil)))))))))
      (pss_cons (ps_set (i := 4) scDozen.nd rfl (Or.inl rfl) (pe_def dd hr (pa_cons (pv 0) (pa_cons (pe_callB call_len_seq (by rfl) ml PySem.boot_len (pa_cons (pv 2) pa_nil)) pa_nil))))
      (pss_one (ps_ret (pe_op op_cat (pe_slice sl_list (pv 2) (po_some (pv 4)) po_none) (pe_slice sl_list (pv 2) po_none (po_some (pv 4))))))))), ?_⟩
    refine ⟨_, rfl, d, l, _, B, rfl, hF, by decide, by decide, by omega, fun H1 way s1 hF1 w0 w4 => ?_⟩
    refine ⟨Nat.zero_le _, fun fl nfl => ?_⟩
    have sf := same_upd (o := .lst []) nfl
    refine ⟨_, rfl, d, l, _, B + 1, rfl, hF1.same sf, by decide, by decide, by omega, fun H2 e s2 hF2 e0 e3 => ?_⟩
    have g0 : GL H1 H2 d l fl (B + 2) [] [] := ⟨(Bt.of sf).trans s2, hF2, lst_bt s2 upd_same, trivial⟩
    obtain ⟨n, hn⟩ : ∃ n : Nat, ((10 + e) - 0).toNat = n := ⟨_, rfl⟩
    have n10 : 10 ≤ n ∧ n ≤ 12 := by omega
    refine ⟨_, _, rfl, rfl, _, rfl, by omega, by omega, ?_⟩
    refine for_range (lo := 0) (n := (10 + e).toNat) (fun i σ H' => ∃ vs S, GL H1 H' d l fl (B + 2 + i) vs S ∧ Doz way S i ∧ ∃ x3, σ = σdoz d way fl x3) ⟨_, _, g0, ⟨rfl, fun s h => absurd h (by simp), List.nodup_nil, fun s h => absurd h (by simp)⟩, _, rfl⟩ ?_ ?_
    · rintro i σ H' hi ⟨vs, S, j, D, x3, rfl⟩
      have lv := j.sp.len
      have lS := D.len
      have i12 : i < 12 := by omega
      have sz : vs.length < sizeLine := small1000 (by omega)
      have zk : (0 : Int) + (i : Int) = (i : Int) := by omega
      have fin : ∀ (H3 : Hp) (p : Addr) (s : Int × Int) (B3 : Nat), GL H1 H3 d l fl B3 vs S → B3 ≤ B + 2 + (i + 1) → H3 p = some (.tup ((spL s).map V.int)) → Fits way i s → (0 ≤ s.1 ∧ s.1 ≤ 12 ∧ 0 ≤ s.2 ∧ s.2 ≤ 12) → ∀ y, ∃ vs S, GL H1 (upd H3 fl (.lst (_ ++ [V.ref p]))) d l fl (B + 2 + (i + 1)) vs S ∧ Doz way S (i + 1) ∧ ∃ x3, σdoz d way fl y = σdoz d way fl x3 := fun H3 p s B3 j3 hB3 hp hf hl y =>
        have j4 := j3.app hF1 nfl (v := .ref p) (s := s) ⟨p, rfl, hp⟩
        ⟨_, _, ⟨j4.bt, j4.feed.mono hB3, j4.at_, j4.sp⟩, D.snoc w0 i12 hf hl, _, rfl⟩
      refine ⟨_, rfl, rfl, ?_⟩
      by_cases c0 : way = 0
      · refine ⟨true, eT c0, iteT ?_⟩
        refine ⟨.ref fl, rfl, .inl ⟨rfl, _, SqL.of j.at_⟩, _, rfl, _, _, rfl, rfl, (show (0 : Int) < 4 by decide), _, rfl, _, _, rfl, rfl, ⟨by decide, by decide⟩, (by show 2 ≤ sizeLine; decide), fun p np => ⟨fl, vs, _, rfl, rfl, (same_upd np) _ _ j.at_, sz, ?_⟩⟩
        refine fin _ p (((0 : Int) + i) % 4, ((0 : Int) + i) / 4) _ (j.same (same_upd np)) (by omega) upd_same ⟨fun _ => by rw [zk], fun c => by omega, fun c => by omega⟩ (by simp only; omega) _
      refine ⟨false, eF c0, iteF ?_⟩
      refine ⟨_, rfl, rfl, ?_⟩
      by_cases c1 : way = 1
      · obtain ⟨rx, ry⟩ := ring_at i12
        refine ⟨true, eT c1, iteT ?_⟩
        refine ⟨.ref fl, rfl, .inl ⟨rfl, _, SqL.of j.at_⟩, ?_⟩
        refine ⟨(by show 12 ≤ sizeLine; decide), fun p1 n1 => ?_⟩
        refine ⟨_, rfl, p1, _, _, _, rfl, rfl, SqL.of upd_same, at_of zk rx, ?_⟩
        refine ⟨(by show 12 ≤ sizeLine; decide), fun p2 n2 => ?_⟩
        refine ⟨_, rfl, p2, _, _, _, rfl, rfl, SqL.of upd_same, at_of zk ry, ?_⟩
        refine ⟨(by show 2 ≤ sizeLine; decide), fun p np => ?_⟩
        have j3 := ((j.same (same_upd n1)).same (same_upd n2)).same (same_upd (o := .tup [.int (ringX.getD i 0), .int (ringY.getD i 0)]) np)
        refine ⟨fl, vs, _, rfl, rfl, j3.at_, sz, ?_⟩
        refine fin _ p (ringX.getD i 0, ringY.getD i 0) _ j3 (by omega) upd_same ⟨fun c => by omega, fun _ => rfl, fun c => by omega⟩ (ring_lil ⟨i, i12⟩) _
      refine ⟨false, eF c1, iteF ?_⟩
      refine ⟨.ref fl, rfl, .inl ⟨rfl, _, SqL.of j.at_⟩, _, rfl, ?_⟩
      refine ⟨_, rfl, d, l, _, B + 2 + i, rfl, j.feed, by decide, by decide, by omega, fun H3 r s3 hF3 r0 r1 => ?_⟩
      have j3 := j.draw s3 hF3
      refine ⟨(by show 2 ≤ sizeLine; decide), fun p1 n1 => ?_⟩
      have j4 := j3.same (same_upd (o := .lst [.int 4, .int r]) n1)
      have h2 : way = 2 ∨ way = 3 := by omega
      rcases h2 with rfl | rfl
      · refine ⟨_, rfl, _, _, rfl, rfl, p1, _, _, .int 4, rfl, rfl, SqL.of upd_same, at_of (j := 0) (by decide) rfl, (by show 2 ≤ sizeLine; decide), fun p np => ?_⟩
        have j5 := j4.same (same_upd (o := .tup [.int ((0 : Int) + i), .int 4]) np)
        refine ⟨fl, vs, _, rfl, rfl, j5.at_, sz, ?_⟩
        refine fin _ p ((0 : Int) + i, 4) _ j5 (by omega) upd_same ⟨fun c => by omega, fun c => by omega, fun _ => zk⟩ (by simp only; omega) _
      · refine ⟨_, rfl, _, _, rfl, rfl, p1, _, _, .int r, rfl, rfl, SqL.of upd_same, at_of (j := 1) (by decide) rfl, (by show 2 ≤ sizeLine; decide), fun p np => ?_⟩
        have j5 := j4.same (same_upd (o := .tup [.int ((0 : Int) + i), .int r]) np)
        refine ⟨fl, vs, _, rfl, rfl, j5.at_, sz, ?_⟩
        refine fin _ p ((0 : Int) + i, r) _ j5 (by omega) upd_same ⟨fun c => by omega, fun c => by omega, fun _ => zk⟩ (by simp only; omega) _
    · rintro σ H' ⟨vs, S, j, D, x3, rfl⟩
      have e1 : (10 + e).toNat = n := by omega
      rw [e1] at j D
      have lv := j.sp.len
      have lS := D.len
      refine ⟨_, rfl, .ref fl, rfl, fl, _, rfl, .inl (SqL.of j.at_), d, l, _, B + 2 + n, rfl, j.feed, by omega, by omega, by omega, fun H3 r s3 hF3 r0 r1 => ?_⟩
      have j3 := j.draw s3 hF3
      obtain ⟨a, rfl⟩ : ∃ a : Nat, r = (a : Int) := ⟨r.toNat, by omega⟩
      refine ⟨.ref fl, rfl, _, rfl, _, rfl, fl, vs, rfl, SqL.of j3.at_, fun p1 n1 => ?_⟩
      rw [cut_from]
      have t1 := same_upd (o := .lst (vs.drop a)) n1
      have j4 := j3.same t1
      refine ⟨.ref fl, rfl, _, rfl, _, rfl, fl, vs, rfl, SqL.of j4.at_, fun p2 n2 => ?_⟩
      rw [cut_to]
      have t2 := same_upd (o := .lst (vs.take a)) n2
      refine ⟨p1, p2, _, _, rfl, rfl, t2 _ _ upd_same, upd_same, ?_, fun p3 n3 => ?_⟩
      · rw [List.length_drop, List.length_take]
        exact Nat.le_of_lt (small1000 (by omega))
      have t3 := same_upd (o := .lst (vs.drop a ++ vs.take a)) n3
      have j5 := (j4.same t2).same t3
      have pm : (S.drop a ++ S.take a).Perm S := (List.perm_append_comm).trans (by rw [List.take_append_drop])
      refine k _ _ (S.drop a ++ S.take a) (s1.trans j5.bt) (j5.feed.mono (by omega)) ⟨p3, _, rfl, upd_same, (j5.sp.drop a).app (j5.sp.take a)⟩ ⟨?_, ?_, ?_, fun s hs => ?_⟩
      · rw [pm.length_eq]; omega
      · rw [pm.length_eq]; omega
      · exact pm.nodup_iff.mpr D.nd
      · exact D.lil s (pm.mem_iff.mp hs)
end
end Wk

set_option Elab.async false
set_option linter.all false
set_option maxRecDepth 100000
set_option exponentiation.threshold 10000
set_option maxHeartbeats 8000000
namespace Wk
open PySem PySem.Spec PyProof.Rows L2
theorem notin_eqv {S : List (Int × Int)} {s : Int × Int} : (!(S.map fun z => intsD (spL z)).any fun z => PyData.eqv z (intsD (spL s))) = decide (s ∉ S) := by
  by_cases h : s ∈ S
  · rw [decide_eq_false (by simpa using h)]
    have : ((S.map fun z => intsD (spL z)).any fun z => PyData.eqv z (intsD (spL s))) = true := by
      rw [List.any_eq_true]
      exact ⟨_, List.mem_map.mpr ⟨s, h, rfl⟩, by rw [intsD_eqv]; simp⟩
    rw [this]
    rfl
  · rw [decide_eq_true h, any_eqv h]
    rfl
theorem spD_all {K : PySem.W.Frag} {H : Hp} {vs : List V} {S : List (Int × Int)} (h : Each IsSp H vs S) : DpAll K H vs (S.map fun z => intsD (spL z)) := by
  have := each_dp (K := K) (each_sp h)
  rw [List.map_map] at this
  exact this
theorem spD_shaped (S : List (Int × Int)) : SeqAt.shaped (.list (S.map fun z => intsD (spL z))) = true := by
  have := intsDs_shaped (S.map spL)
  rw [List.map_map] at this
  exact this
/-- the spots so far -/
structure Spo (S : List (Int × Int)) (n b : Nat) : Prop where
  len : S.length ≤ n
  nd : S.Nodup
  lil : ∀ s ∈ S, 0 ≤ s.1 ∧ s.1 ≤ (b : Int) ∧ 0 ≤ s.2 ∧ s.2 ≤ 11
theorem Spo.snoc {S : List (Int × Int)} {n b : Nat} {s : Int × Int} (D : Spo S n b) (h : s ∉ S) (q : 0 ≤ s.1 ∧ s.1 ≤ (b : Int) ∧ 0 ≤ s.2 ∧ s.2 ≤ 11) : Spo (S ++ [s]) (n + 1) b := by
  refine ⟨?_, nodup_snoc D.nd h, fun x hx => ?_⟩
  · have := D.len
    rw [List.length_append]
    show S.length + 1 ≤ n + 1
    omega
  · rcases List.mem_append.mp hx with e | e
    · exact D.lil x e
    · rw [List.mem_singleton.mp e]
      exact q
section
variable {P : Program} {w : World} {K : PySem.W.Frag} {mg : Str → Option Value} {base : Heap} {f : Addr} {fd : FuncData}
theorem later2 {G : Prop} {T C : Int → Hp → Prop} (h1 : (∀ c H, C c H → T c H) → G) (h2 : ∀ c H, C c H → T c H) : G := h1 h2
/-! ### _law_spots -/
abbrev nSpots : List Str := ["_law_feed_here", "_law_least", "_law_most", "_law_style", "_law_found", "_law_k", "_law_kind", "_law_spot_here", "_law_x", "_law_y"]
theorem scSpots : FnScope nSpots ["_law_feed_here", "_law_least", "_law_most"] (defScope sSpots) := ⟨rfl, rfl, rfl, by decide +kernel, rfl, by decide +kernel, by decide +kernel⟩
def spSpots : Sp := fun vs H Q _ => ∃ (d l : Addr) (B : Nat), vs = [.ref d, .int 2, .int 9] ∧ FeedAt H d l B ∧ B ≤ 7000 ∧
  ∀ H' v S, Bt H H' → FeedAt H' d l (B + 40) → SpotsAt H' v S → SOk S → Q v H'
abbrev σsp (d : Addr) (y : Int) (fl : Addr) (x5 x6 x7 : Option V) : L2.St := [some (.ref d), some (.int 2), some (.int 9), some (.int y), some (.ref fl), x5, x6, x7, none, none]
theorem d_spots (F : Fun K "_law_spots" "_law_spots" sSpots f fd) (g : mg "_law_spots" = some (.ref f)) (mr : mg "range" = none) (ml : mg "len" = none) (mx : mg "max" = none)
    (dd : Def P w K mg base 1 "_law_draw" ["_law_feed_here", "_law_many"] spDraw) (ds : Def P w K mg base 2 "_law_spot" ["_law_feed_here", "_law_style"] spSpot) (dz : Def P w K mg base 2 "_law_dozen" ["_law_feed_here"] spDozen) : Def P w K mg base 3 "_law_spots" ["_law_feed_here", "_law_least", "_law_most"] spSpots := by
  refine ⟨f, fd, g, F.kp, F.binds (ps := ["_law_feed_here", "_law_least", "_law_most"]) fun _ _ _ _ _ _ us hl => match us, hl with | [_, _, _], _ => rfl, ?_⟩
  refine F.ok scSpots (fun vs H Q E h => ?_) (fun cdv A outer s H vs Q E hr h => ?_)
  · obtain ⟨a, _, _, rfl, _⟩ := h
    rfl
  · obtain ⟨d, l, B, rfl, hF, hB, k⟩ := h
    have hr1 : Room 1 _ := hr.mono (by decide)
    refine ⟨_, pss_cons (ps_if (PW.pt (pw_and (pt_cmpR op_gt (pv 2) pe_int (nomark _)) (pw_and1 (pt_cmpR op_eq (pe_def dd hr1 (pa_cons (pv 0) (pa_cons pe_int pa_nil))) pe_int (nomark _)))))
        (pss_one (ps_ret (pe_def dz hr (pa_cons (pv 0) pa_nil)))) pss_nil)
      (pss_cons (ps_set (i := 3) scSpots.nd rfl (Or.inl rfl) (pe_def dd hr1 (pa_cons (pv 0) (pa_cons pe_int pa_nil))))
      (pss_cons (ps_set (i := 4) scSpots.nd rfl (Or.inl rfl) (pe_lst pa_nil))
      (pss_cons (ps_for PassesOwn.never rfl (pi_range1 rfl mr (pa_cons (pe_op op_add (pv 1) (pe_def dd hr1 (pa_cons (pv 0) (pa_cons (pe_op op_add (pe_op op_sub (pv 2) (pv 1)) pe_int) pa_nil)))) pa_nil)) (pg_name (i := 5) scSpots.nd rfl (Or.inl rfl))
        (pss_cons (ps_set (i := 6) scSpots.nd rfl (Or.inl rfl) (pv 3))
        (pss_cons (ps_if (pt_cmpR op_eq (pv 3) pe_int (nomark _)) (pss_one (ps_set (i := 6) scSpots.nd rfl (Or.inl rfl) (pe_def dd hr1 (pa_cons (pv 0) (pa_cons pe_int pa_nil))))) pss_nil)
        (pss_cons (ps_set (i := 7) scSpots.nd rfl (Or.inl rfl) (pe_def ds hr (pa_cons (pv 0) (pa_cons (pv 6) pa_nil))))
        (pss_one (ps_if (pt_cmpR (op_notInD (hu65 hr)) (pv 7) (pv 4) (by rfl))
          (pss_one (ps_expr (pe_bm PySem.F.plainAttrs_list PySem.F.slot_list_append PySem.F.type_list_append mt_append (pv 4) (pa_cons (pv 7) pa_nil)))) pss_nil))))))
      (pss_cons (ps_while PassesOwn.never (pt_cmpR op_lt (pe_callB call_len_seq (by rfl) ml PySem.boot_len (pa_cons (pv 4) pa_nil)) (pv 1) (nomark _))
        (pss_one (ps_expr (pe_bm PySem.F.plainAttrs_list PySem.F.slot_list_append PySem.F.type_list_append mt_append (pv 4) (pa_cons (pe_tup (pa_cons (pe_op op_add pe_int (pe_callB (cr_max rfl) (by rfl) mx (by decide +kernel) (pa_cons (pe_lc (own := [("_law_x", 8), ("_law_y", 9)]) (g := gTup K 2 (gCons (gName 8) (gCons (gName 9) gNil))) (by rfl) scSpots.nd (pi_list (pv 4)) (blkOk_by (own := [("_law_x", 8), ("_law_y", 9)]) (N := nSpots) (sc := defScope sSpots) (by decide +kernel)) (fun _ _ _ _ _ => pg_tup rfl (pgs_cons (pg_name (i := 8) scSpots.nd rfl (Or.inl rfl)) (pgs_cons (pg_name (i := 9) scSpots.nd rfl (Or.inl rfl)) pgs_nil))) (fun _ _ _ _ _ => pts_nil) (fun _ _ _ _ _ => pv 8)) pa_nil)))
          (pa_cons (pe_ix ix_tup (pe_ix ix_list (pv 4) pe_int (fun _ _ => rfl)) pe_int (fun _ _ => rfl)) pa_nil))) pa_nil)))))
      (pss_one (ps_ret (pv 4))))))), ?_⟩
    refine ⟨_, rfl, _, _, rfl, rfl, true, rfl, iteT ?_⟩
    refine ⟨_, rfl, d, l, _, B, rfl, hF, by decide, by decide, by omega, fun H1 q s1 hF1 q0 q6 => ?_⟩
    refine ⟨rfl, ?_⟩
    by_cases cz : q = 0
    · refine ⟨true, eT cz, iteT ?_⟩
      exact ⟨_, rfl, d, l, B + 1, rfl, hF1, by omega, fun H2 v S s2 hF2 hS ok => k _ _ S (s1.trans s2) (hF2.mono (by omega)) hS ok⟩
    refine ⟨false, eF cz, iteF ?_⟩
    refine ⟨_, rfl, d, l, _, B + 1, rfl, hF1, by decide, by decide, by omega, fun H2 y s2 hF2 y0 y7 => ?_⟩
    refine ⟨Nat.zero_le _, fun fl nfl => ?_⟩
    have sf := same_upd (o := .lst []) nfl
    refine ⟨_, rfl, _, rfl, _, rfl, _, rfl, _, _, rfl, rfl, _, _, rfl, rfl, d, l, _, B + 2, rfl, hF2.same sf, by decide, by decide, by omega, fun H3 e s3 hF3 e0 e8 => ?_⟩
    have g0 : GL H2 H3 d l fl (B + 3) [] [] := ⟨(Bt.of sf).trans s3, hF3, lst_bt s3 upd_same, trivial⟩
    have e8' : e < 8 := e8
    refine ⟨_, _, rfl, rfl, _, rfl, by omega, by omega, ?_⟩
    refine for_range (lo := 0) (n := (2 + e).toNat) (fun i σ H' => ∃ vs S, GL H2 H' d l fl (B + 3 + 3 * i) vs S ∧ Spo S i 11 ∧ (0 < i → S ≠ []) ∧ ∃ x5 x6 x7, σ = σsp d y fl x5 x6 x7) ⟨_, _, g0, ⟨Nat.le_refl _, List.nodup_nil, fun s h => absurd h (by simp)⟩, fun h => absurd h (by omega), _, _, _, rfl⟩ ?_ ?_
    · rintro i σ H' hi ⟨vs, S, j, D, hne, x5, x6, x7, rfl⟩
      refine ⟨_, rfl, ?_⟩
      have lv := j.sp.len
      have lS := D.len
      have i9 : i < 9 := by omega
      have sz : vs.length < sizeLine := small1000 (by omega)
      have hcalc : B + 3 + 3 * (i + 1) = B + 3 + 3 * i + 3 := by omega
      apply later2 (C := fun kind H4 => 0 ≤ kind ∧ kind ≤ 5 ∧ GL H2 H4 d l fl (B + 3 + 3 * i + 1) vs S)
      · intro fin
        by_cases c6 : y = 6
        · refine ⟨_, rfl, rfl, true, eT c6, iteT ?_⟩
          refine ⟨_, rfl, d, l, _, _, rfl, j.feed, by decide, by decide, by omega, fun H4 kind s4 hF4 k0 k3 => ?_⟩
          exact fin kind H4 ⟨k0, Int.le_trans (Int.le_of_lt k3) (by decide), j.draw s4 hF4⟩
        · refine ⟨_, rfl, rfl, false, eF c6, iteF ?_⟩
          exact fin y H' ⟨y0, by omega, j.draw (Bt.refl _) (j.feed.mono (by omega))⟩
      rintro kind H4 ⟨k0, k5, j4⟩
      refine ⟨_, rfl, _, rfl, d, l, _, _, rfl, j4.feed, k0, k5, by omega, fun H5 v s s5 hF5 hv hl => ?_⟩
      have j5 := j4.draw s5 hF5
      refine ⟨_, rfl, _, rfl, intsD (spL s), S.map fun z => intsD (spL z), TI.dp hv, .lst (SqL.of j5.at_) (spD_all j5.sp), intsD_shaped _, spD_shaped S, ?_⟩
      rw [notin_eqv]
      by_cases cn : s ∉ S
      · refine ⟨true, blT cn, iteT ?_⟩
        refine ⟨.ref fl, rfl, .inl ⟨rfl, _, SqL.of j5.at_⟩, _, rfl, fl, vs, v, rfl, rfl, j5.at_, sz, ?_⟩
        have j6 := j5.app hF2 nfl hv
        refine ⟨_, _, ⟨j6.bt, j6.feed.mono (by omega), j6.at_, j6.sp⟩, D.snoc cn hl, fun _ => by simp, _, _, _, rfl⟩
      · have hm : s ∈ S := Classical.not_not.mp cn
        refine ⟨false, blF cn, iteF ?_⟩
        refine ⟨_, _, ⟨j5.bt, j5.feed.mono (by omega), j5.at_, j5.sp⟩, ⟨by omega, D.nd, D.lil⟩, fun _ c => ?_, _, _, _, rfl⟩
        rw [c] at hm
        simp at hm
    · rintro σ H' ⟨vs, S, j, D, hne, x5, x6, x7, rfl⟩
      have lv := j.sp.len
      have lS := D.len
      have hne := hne (by omega)
      have l9 : S.length ≤ 9 := by omega
      have hpos : 0 < S.length := List.length_pos_iff.mpr hne
      have fb : FeedAt H' d l (B + 30) := j.feed.mono (by omega)
      have j0 := GL.draw j (Bt.refl _) fb
      refine ⟨fun m σ Hh => ∃ vs S, GL H2 Hh d l fl (B + 30) vs S ∧ S.Nodup ∧ 0 < S.length ∧ S.length ≤ 9 ∧ m = 9 - S.length ∧ ((∀ s ∈ S, 0 ≤ s.1 ∧ s.1 ≤ 12 ∧ 0 ≤ s.2 ∧ s.2 ≤ 12) ∧ (S.length = 1 → ∀ s ∈ S, 0 ≤ s.1 ∧ s.1 ≤ 11 ∧ 0 ≤ s.2 ∧ s.2 ≤ 11)) ∧ σ = σsp d y fl x5 x6 x7, ⟨_, vs, S, j0, D.nd, hpos, l9, rfl, ⟨fun s hs => ?_, fun _ s hs => ?_⟩, rfl⟩, ?_⟩
      · have := D.lil s hs
        omega
      · exact D.lil s hs
      rintro m σ H' ⟨vs, S, j, nd, hpos, l9, rfl, ⟨lil, lil1⟩, rfl⟩
      have lv := j.sp.len
      refine ⟨.ref fl, rfl, fl, _, rfl, .inl (SqL.of j.at_), _, rfl, _, _, rfl, rfl, ?_⟩
      by_cases c : ((vs.length : Nat) : Int) < 2
      · refine ⟨true, blT c, iteT ⟨fun σ' H' => ∃ vs S, GL H2 H' d l fl (B + 30) vs S ∧ S.Nodup ∧ S.length = 2 ∧ (∀ s ∈ S, 0 ≤ s.1 ∧ s.1 ≤ 12 ∧ 0 ≤ s.2 ∧ s.2 ≤ 12) ∧ σ' = σsp d y fl x5 x6 x7, ?_, ?_⟩⟩
        · rintro σ' H' ⟨vs', S', j', nd', l2, lil', rfl⟩
          exact ⟨9 - S'.length, by omega, vs', S', j', nd', by omega, by omega, rfl, ⟨lil', fun c => by omega⟩, rfl⟩
        · obtain ⟨s0, rfl⟩ : ∃ s0, S = [s0] := by
            match S, hpos, lv with
            | [s0], _, _ => exact ⟨s0, rfl⟩
            | _ :: _ :: _, _, lv => simp at lv; omega
          obtain ⟨v0, rfl⟩ : ∃ v0, vs = [v0] := by
            match vs, lv with
            | [v0], _ => exact ⟨v0, rfl⟩
          refine ⟨.ref fl, rfl, .inl ⟨rfl, _, SqL.of j.at_⟩, ?_⟩
          refine ⟨_, rfl, fl, rfl, ⟨_, SqL.of j.at_⟩, fun D1 nD1 => ?_⟩
          obtain ⟨⟨t, rfl, ht⟩, _⟩ := j.sp
          refine lc_list (K := K) (a := fl) (xs := [.ref t]) (fun i Hh => Same H' Hh ∧ Hh D1 = some (.lst (([s0.1].take i).map V.int))) ⟨same_upd nD1, upd_same⟩ (fun i Hh _ ⟨q, _⟩ => SqL.of (q _ _ j.at_)) ?_ ?_
          · rintro i x Hh hx ⟨q, hD⟩
            have i0 : i = 0 := by
              have := (List.getElem?_eq_some_iff.mp hx).1
              simpa using this
            subst i0
            cases hx
            refine ⟨t, _, rfl, SqT.of (q _ _ ht), rfl, _, _, rfl, _, _, rfl, rfl, rfl, _, rfl, _, hD, small1000 (by simp), fun b o e => ?_, ?_⟩
            · rw [upd_ne (ne_of_none e nD1)]
              exact q _ _ e
            · rw [upd_same]
              rfl
          · rintro H4 ⟨q4, hD1⟩
            have j4 := j.same q4
            refine ⟨D1, [s0.1], rfl, SqL.of hD1, by simp, fun mM hM1 hM2 => ?_⟩
            rw [List.mem_singleton.mp hM1]
            refine ⟨_, _, rfl, rfl, .ref fl, rfl, fl, _, _, .ref t, rfl, rfl, SqL.of j4.at_, at_of (j := 0) rfl rfl, ?_⟩
            refine ⟨t, _, _, _, rfl, rfl, SqT.of (q4 _ _ ht), atI_nat (j := 1) rfl, (by show 2 ≤ sizeLine; decide), fun p np => ?_⟩
            have j5 := j4.same (same_upd (o := .tup [.int (1 + s0.1), .int s0.2]) np)
            refine ⟨fl, _, _, rfl, rfl, j5.at_, small1000 (by simp), ?_⟩
            have j6 := j5.app hF2 nfl (v := .ref p) (s := (1 + s0.1, s0.2)) ⟨p, rfl, upd_same⟩
            have q0 := lil1 rfl s0 (List.mem_singleton.mpr rfl)
            refine ⟨_, _, j6, nodup_snoc nd fun c => ?_, rfl, fun s hs => ?_, rfl⟩
            · have := congrArg Prod.fst (List.mem_singleton.mp c)
              simp only at this
              omega
            · rcases List.mem_append.mp hs with e | e
              · exact lil s e
              · rw [List.mem_singleton.mp e]
                simp only
                omega
      · refine ⟨false, blF c, iteF ?_⟩
        exact ⟨_, rfl, k _ _ S ((s1.trans s2).trans j.bt) (j.feed.mono (by omega)) ⟨fl, vs, rfl, j.at_, j.sp⟩ ⟨by omega, by omega, nd, lil⟩⟩
end
end Wk

set_option Elab.async false
set_option linter.all false
set_option maxRecDepth 100000
set_option exponentiation.threshold 10000
set_option maxHeartbeats 8000000
namespace Wk
open PySem PySem.Spec PyProof.Rows L2
/-! ### the world by numbers -/
def mkW (S : List (Int × Int)) (mx Wx my Wy t r u : Int) : SM.Wd := ⟨mx * t + r, my * t + u, Wx * t + r, Wy * t + u, S.map fun s => (s.1 * t + r, s.2 * t + u)⟩
theorem mul_cap {a t : Int} (a0 : -30 ≤ a) (a1 : a ≤ 30) (t1 : 1 ≤ t) (t2 : t ≤ 10000000000000000000000000) : -300000000000000000000000000 ≤ a * t ∧ a * t ≤ 300000000000000000000000000 := by
  have h1 : -30 * t ≤ a * t := Int.mul_le_mul_of_nonneg_right a0 (by omega)
  have h2 : a * t ≤ 30 * t := Int.mul_le_mul_of_nonneg_right a1 (by omega)
  omega
theorem cap_abs {z r : Int} (h1 : -300000000000000000000000000 ≤ z) (h2 : z ≤ 300000000000000000000000000) (r1 : -10000000000000000000000000 ≤ r) (r2 : r ≤ 10000000000000000000000000) : (z + r).natAbs < 2 ^ SM.CB := by
  have e : (2 : Nat) ^ SM.CB = 1237940039285380274899124224 := by decide
  omega
theorem mkW_ok {S : List (Int × Int)} {mx Wx my Wy t r u : Int} (ok : SOk S) (hx : ∀ s ∈ S, mx ≤ s.1 ∧ s.1 ≤ Wx) (hy : ∀ s ∈ S, my ≤ s.2 ∧ s.2 ≤ Wy) (x1 : mx < Wx) (y1 : my < Wy) (bx : -30 ≤ mx) (bX : Wx ≤ 30) (by_ : -30 ≤ my) (bY : Wy ≤ 30)
    (t1 : 1 ≤ t) (t2 : t ≤ 10000000000000000000000000) (r1 : -10000000000000000000000000 ≤ r) (r2 : r ≤ 10000000000000000000000000) (u1 : -10000000000000000000000000 ≤ u) (u2 : u ≤ 10000000000000000000000000) : (mkW S mx Wx my Wy t r u).Ok := by
  have t0 : (0 : Int) < t := by omega
  have inj : ∀ a b : Int, a * t = b * t → a = b := fun a b h => Int.eq_of_mul_eq_mul_right (by omega) h
  have mono : ∀ a b : Int, a ≤ b → a * t ≤ b * t := fun a b h => Int.mul_le_mul_of_nonneg_right h (by omega)
  have ax := mul_cap bx (by omega) t1 t2
  have aX := mul_cap (a := Wx) (by omega) bX t1 t2
  have ay := mul_cap by_ (by omega) t1 t2
  have aY := mul_cap (a := Wy) (by omega) bY t1 t2
  refine ⟨?_, ?_, ?_, ?_, ?_, ?_, cap_abs ax.1 ax.2 r1 r2, cap_abs ay.1 ay.2 u1 u2, cap_abs aX.1 aX.2 r1 r2, cap_abs aY.1 aY.2 u1 u2⟩
  · have := Int.mul_lt_mul_of_pos_right x1 t0
    show mx * t + r < Wx * t + r
    omega
  · have := Int.mul_lt_mul_of_pos_right y1 t0
    show my * t + u < Wy * t + u
    omega
  · show 2 ≤ (S.map _).length
    rw [List.length_map]
    exact ok.lo
  · show (S.map _).length ≤ 12
    rw [List.length_map]
    exact ok.hi
  · show (S.map _).Nodup
    have := ok.nd
    unfold List.Nodup at this ⊢
    rw [List.pairwise_map]
    refine this.imp fun {a b} h c => h ?_
    injection c with c1 c2
    exact Prod.ext (inj _ _ (by omega)) (inj _ _ (by omega))
  · intro p hp
    obtain ⟨s, hs, rfl⟩ := List.mem_map.mp hp
    have a1 := mono _ _ (hx s hs).1
    have a2 := mono _ _ (hx s hs).2
    have a3 := mono _ _ (hy s hs).1
    have a4 := mono _ _ (hy s hs).2
    show mx * t + r ≤ s.1 * t + r ∧ s.1 * t + r ≤ Wx * t + r ∧ my * t + u ≤ s.2 * t + u ∧ s.2 * t + u ≤ Wy * t + u
    omega
theorem maxU {ns : List Int} {a b : Int} (h1 : a ∈ ns) (h2 : ∀ y, y ∈ ns → y ≤ a) (h3 : b ∈ ns) (h4 : ∀ y, y ∈ ns → y ≤ b) : a = b := Int.le_antisymm (h4 a h1) (h2 b h3)
theorem minU {ns : List Int} {a b : Int} (h1 : a ∈ ns) (h2 : ∀ y, y ∈ ns → a ≤ y) (h3 : b ∈ ns) (h4 : ∀ y, y ∈ ns → b ≤ y) : a = b := Int.le_antisymm (h2 b h3) (h4 a h1)
theorem max_ex : ∀ ns : List Int, 0 < ns.length → ∃ m, m ∈ ns ∧ ∀ y, y ∈ ns → y ≤ m
  | [], h => absurd h (by simp)
  | [a], _ => ⟨a, by simp, fun y hy => by rw [List.mem_singleton.mp hy]; exact Int.le_refl _⟩
  | a :: b :: r, _ => by
    obtain ⟨m, h1, h2⟩ := max_ex (b :: r) (by simp)
    by_cases c : m ≤ a
    · exact ⟨a, by simp, fun y hy => (List.mem_cons.mp hy).elim (fun e => by rw [e]; exact Int.le_refl _) fun h => Int.le_trans (h2 y h) c⟩
    · exact ⟨m, List.mem_cons_of_mem _ h1, fun y hy => (List.mem_cons.mp hy).elim (fun e => by rw [e]; omega) fun h => h2 y h⟩
theorem min_ex : ∀ ns : List Int, 0 < ns.length → ∃ m, m ∈ ns ∧ ∀ y, y ∈ ns → m ≤ y
  | [], h => absurd h (by simp)
  | [a], _ => ⟨a, by simp, fun y hy => by rw [List.mem_singleton.mp hy]; exact Int.le_refl _⟩
  | a :: b :: r, _ => by
    obtain ⟨m, h1, h2⟩ := min_ex (b :: r) (by simp)
    by_cases c : a ≤ m
    · exact ⟨a, by simp, fun y hy => (List.mem_cons.mp hy).elim (fun e => by rw [e]; exact Int.le_refl _) fun h => Int.le_trans c (h2 y h)⟩
    · exact ⟨m, List.mem_cons_of_mem _ h1, fun y hy => (List.mem_cons.mp hy).elim (fun e => by rw [e]; omega) fun h => h2 y h⟩
section
variable {P : Program} {w : World} {K : PySem.W.Frag} {mg : Str → Option Value} {base : Heap} {f : Addr} {fd : FuncData}
/-! ### _law_world -/
abbrev nWorld : List Str := ["_law_feed_here", "_law_least", "_law_most", "_law_small", "_law_times", "_law_right", "_law_up", "_law_edge", "_law_xs", "_law_ys", "_law_wide", "_law_high", "_law_box", "_law_k", "_law_x", "_law_y"]
theorem scWorld : FnScope nWorld ["_law_feed_here", "_law_least", "_law_most"] (defScope sWorld) := ⟨rfl, rfl, rfl, by decide +kernel, rfl, by decide +kernel, by decide +kernel⟩
def spWorld : Sp := fun vs H Q _ => ∃ (d l : Addr) (B : Nat), vs = [.ref d, .int 2, .int 9] ∧ FeedAt H d l B ∧ B ≤ 5000 ∧
  ∀ H' v b s (W : SM.Wd), Bt H H' → W.Ok → (∃ t, v = .ref t ∧ H' t = some (.tup [b, s])) → IsBox H' b W → SpotsAt H' s W.s → Q v H'
theorem d_world (F : Fun K "_law_world" "_law_world" sWorld f fd) (g : mg "_law_world" = some (.ref f)) (mr : mg "range" = none) (mx : mg "max" = none) (mn : mg "min" = none) (mi : mg "int" = none)
    (dd : Def P w K mg base 1 "_law_draw" ["_law_feed_here", "_law_many"] spDraw) (ds : Def P w K mg base 3 "_law_spots" ["_law_feed_here", "_law_least", "_law_most"] spSpots) (dc : Def P w K mg base 3 "_law_scale" ["_law_feed_here"] spScale) : Def P w K mg base 4 "_law_world" ["_law_feed_here", "_law_least", "_law_most"] spWorld := by
  refine ⟨f, fd, g, F.kp, F.binds (ps := ["_law_feed_here", "_law_least", "_law_most"]) fun _ _ _ _ _ _ us hl => match us, hl with | [_, _, _], _ => rfl, ?_⟩
  refine F.ok scWorld (fun vs H Q E h => ?_) (fun cdv A outer s H vs Q E hr h => ?_)
  · obtain ⟨a, _, _, rfl, _⟩ := h
    rfl
  · obtain ⟨d, l, B, rfl, hF, hB, k⟩ := h
    have hr1 : Room 1 _ := hr.mono (by decide)
    refine ⟨_, pss_cons (ps_set (i := 3) scWorld.nd rfl (Or.inl rfl) (pe_def ds hr (pa_cons (pv 0) (pa_cons (pv 1) (pa_cons (pv 2) pa_nil)))))
      (pss_cons (ps_asg (pe_def dc hr (pa_cons (pv 0) pa_nil)) (pg_tup rfl (pgs_cons (pg_name (i := 4) scWorld.nd rfl (Or.inr rfl)) (pgs_cons (pg_name (i := 5) scWorld.nd rfl (Or.inr rfl)) (pgs_cons (pg_name (i := 6) scWorld.nd rfl (Or.inr rfl)) pgs_nil)))))
      (pss_cons (ps_setLc (i := 7) (own := [("_law_k", 13)]) (g := gName 13) (by rfl) scWorld.nd rfl rfl (sw_true rfl rfl rfl (by decide +kernel)) (pi_range1 rfl mr (pa_cons pe_int pa_nil)) (blkOk_by (own := [("_law_k", 13)]) (N := nWorld) (sc := defScope sWorld) (by decide +kernel)) (fun _ _ _ _ _ => pg_name (i := 13) scWorld.nd rfl (Or.inl rfl)) (fun _ _ _ _ _ => pts_nil)
          (fun _ _ _ _ _ => pe_ix (r := rIxL K) ix_list (pe_lst (pa_cons pe_int (pa_cons pe_int (pa_cons pe_int (pa_cons pe_int pa_nil))))) (pe_def dd hr1 (pa_cons (pv 0) (pa_cons pe_int pa_nil))) (fun _ _ => rfl)))
      (pss_cons (ps_setLc (i := 8) (own := [("_law_x", 14), ("_law_y", 15)]) (g := gTup K 2 (gCons (gName 14) (gCons (gName 15) gNil))) (by rfl) scWorld.nd rfl rfl (sw_true rfl rfl rfl (by decide +kernel)) (pi_list (pv 3)) (blkOk_by (own := [("_law_x", 14), ("_law_y", 15)]) (N := nWorld) (sc := defScope sWorld) (by decide +kernel)) (fun _ _ _ _ _ => pg_tup rfl (pgs_cons (pg_name (i := 14) scWorld.nd rfl (Or.inl rfl)) (pgs_cons (pg_name (i := 15) scWorld.nd rfl (Or.inl rfl)) pgs_nil))) (fun _ _ _ _ _ => pts_nil) (fun _ _ _ _ _ => pv 14))
      (pss_cons (ps_setLc (i := 9) (own := [("_law_x", 14), ("_law_y", 15)]) (g := gTup K 2 (gCons (gName 14) (gCons (gName 15) gNil))) (by rfl) scWorld.nd rfl rfl (sw_true rfl rfl rfl (by decide +kernel)) (pi_list (pv 3)) (blkOk_by (own := [("_law_x", 14), ("_law_y", 15)]) (N := nWorld) (sc := defScope sWorld) (by decide +kernel)) (fun _ _ _ _ _ => pg_tup rfl (pgs_cons (pg_name (i := 14) scWorld.nd rfl (Or.inl rfl)) (pgs_cons (pg_name (i := 15) scWorld.nd rfl (Or.inl rfl)) pgs_nil))) (fun _ _ _ _ _ => pts_nil) (fun _ _ _ _ _ => pv 15))
      (pss_cons (ps_set (i := 10) scWorld.nd rfl (Or.inl rfl) (pe_op op_add (pe_op op_add (pe_callB (cr_max rfl) (by rfl) mx (by decide +kernel) (pa_cons (pv 8) pa_nil)) (pe_ix ix_list (pv 7) pe_int (fun _ _ => rfl))) (pe_callTy call_int1 (by rfl) mi (by decide +kernel) (pa_cons (pe_cmpR op_eq (pe_op op_add (pe_callB (cr_max rfl) (by rfl) mx (by decide +kernel) (pa_cons (pv 8) pa_nil)) (pe_ix ix_list (pv 7) pe_int (fun _ _ => rfl))) (pe_op op_sub (pe_callB (cr_min rfl) (by rfl) mn (by decide +kernel) (pa_cons (pv 8) pa_nil)) (pe_ix ix_list (pv 7) pe_int (fun _ _ => rfl))) (nomark _)) pa_nil))))
      (pss_cons (ps_set (i := 11) scWorld.nd rfl (Or.inl rfl) (pe_op op_add (pe_op op_add (pe_callB (cr_max rfl) (by rfl) mx (by decide +kernel) (pa_cons (pv 9) pa_nil)) (pe_ix ix_list (pv 7) pe_int (fun _ _ => rfl))) (pe_callTy call_int1 (by rfl) mi (by decide +kernel) (pa_cons (pe_cmpR op_eq (pe_op op_add (pe_callB (cr_max rfl) (by rfl) mx (by decide +kernel) (pa_cons (pv 9) pa_nil)) (pe_ix ix_list (pv 7) pe_int (fun _ _ => rfl))) (pe_op op_sub (pe_callB (cr_min rfl) (by rfl) mn (by decide +kernel) (pa_cons (pv 9) pa_nil)) (pe_ix ix_list (pv 7) pe_int (fun _ _ => rfl))) (nomark _)) pa_nil))))
      (pss_cons (ps_set (i := 12) scWorld.nd rfl (Or.inl rfl) (pe_tup (pa_cons (pe_op op_add (pe_op op_mul (pe_op op_sub (pe_callB (cr_min rfl) (by rfl) mn (by decide +kernel) (pa_cons (pv 8) pa_nil)) (pe_ix ix_list (pv 7) pe_int (fun _ _ => rfl))) (pv 4)) (pv 5)) (pa_cons (pe_op op_add (pe_op op_mul (pe_op op_sub (pe_callB (cr_min rfl) (by rfl) mn (by decide +kernel) (pa_cons (pv 9) pa_nil)) (pe_ix ix_list (pv 7) pe_int (fun _ _ => rfl))) (pv 4)) (pv 6)) (pa_cons (pe_op op_add (pe_op op_mul (pv 10) (pv 4)) (pv 5)) (pa_cons (pe_op op_add (pe_op op_mul (pv 11) (pv 4)) (pv 6)) pa_nil))))))
      (pss_one (ps_ret (pe_tup (pa_cons (pv 12) (pa_cons (pe_lc (own := [("_law_x", 14), ("_law_y", 15)]) (g := gTup K 2 (gCons (gName 14) (gCons (gName 15) gNil))) (by rfl) scWorld.nd (pi_list (pv 3)) (blkOk_by (own := [("_law_x", 14), ("_law_y", 15)]) (N := nWorld) (sc := defScope sWorld) (by decide +kernel)) (fun _ _ _ _ _ => pg_tup rfl (pgs_cons (pg_name (i := 14) scWorld.nd rfl (Or.inl rfl)) (pgs_cons (pg_name (i := 15) scWorld.nd rfl (Or.inl rfl)) pgs_nil))) (fun _ _ _ _ _ => pts_nil)
          (fun _ _ _ _ _ => pe_tup (pa_cons (pe_op op_add (pe_op op_mul (pv 14) (pv 4)) (pv 5)) (pa_cons (pe_op op_add (pe_op op_mul (pv 15) (pv 4)) (pv 6)) pa_nil)))) pa_nil)))))))))))), ?_⟩
    refine ⟨_, rfl, _, rfl, _, rfl, d, l, B, rfl, hF, by omega, fun H1 sv S s1 hF1 hS ok => ?_⟩
    refine ⟨_, rfl, d, l, B + 40, rfl, hF1, by omega, fun H2 cv t r u s2 hF2 hT t1 t2 r1 r2 u1 u2 => ?_⟩
    obtain ⟨ta, rfl, hta⟩ := hT
    refine ⟨ta, _, rfl, SqT.of hta, rfl, _, _, rfl, _, _, rfl, _, _, rfl, rfl, ?_⟩
    -- the edges
    refine ⟨_, rfl, by omega, by omega, fun ea nea => ?_⟩
    have hS2 : SpotsAt H2 sv S := by
      obtain ⟨sl, ss, e1, e2, e3⟩ := hS
      exact ⟨sl, ss, e1, lst_bt s2 e2, e3.keep fun v x => IsSp.keepT (tup_bt s2)⟩
    refine lc_range (lo := 0) (n := 4) (fun i Hh => ∃ E : List Int, E.length = i ∧ (∀ e ∈ E, 0 ≤ e ∧ e ≤ 11) ∧ Bt H2 Hh ∧ FeedAt Hh d l (B + 70 + i) ∧ Hh ea = some (.lst (E.map V.int)))
      ⟨[], rfl, fun e h => absurd h (by simp), Bt.of (same_upd nea), hF2.same (same_upd nea), upd_same⟩ ?_ ?_
    · rintro i Hh hi ⟨E, hE, hEb, bt, hFh, hea⟩
      refine ⟨rfl, ?_⟩
      refine ⟨(by show 4 ≤ sizeLine; decide), fun p np => ?_⟩
      have t1 := same_upd (o := .lst ([0, 1, 0, 7].map V.int)) np
      refine ⟨_, rfl, d, l, _, _, rfl, hFh.same t1, by decide, by decide, by omega, fun H3 r s3 hF3 r0 r4 => ?_⟩
      obtain ⟨x, hx, x0, x1⟩ := lit_at (L := [0, 1, 0, 7]) (b := 11) (by decide) r0 (show r < 4 from r4)
      refine ⟨p, _, _, _, rfl, rfl, SqL.of (lst_bt s3 (upd_same (a := p) (o := .lst ([0, 1, 0, 7].map V.int)))), at_of (by omega) hx, ?_⟩
      have b3 : Bt H2 H3 := (bt.trans (Bt.of t1)).trans s3
      have e3 := lst_bt s3 (t1 _ _ hea)
      refine ⟨_, e3, by rw [List.length_map]; exact small1000 (by omega), E ++ [x], by rw [List.length_append, hE]; rfl, fun e he => ?_, b3.new nea _, hF2.other hF3 nea _, ?_⟩
      · rcases List.mem_append.mp he with q | q
        · exact hEb e q
        · rw [List.mem_singleton.mp q]
          exact ⟨x0, x1⟩
      · rw [upd_same, List.map_append]
        rfl
    rintro H3 ⟨E, hE, hEb, bt3, hF3, hea⟩
    obtain ⟨e0, e1, e2, e3, rfl⟩ : ∃ e0 e1 e2 e3, E = [e0, e1, e2, e3] := by
      match E, hE with
      | [e0, e1, e2, e3], _ => exact ⟨e0, e1, e2, e3, rfl⟩
    have b0 := hEb e0 (by simp)
    have b1 := hEb e1 (by simp)
    have b2 := hEb e2 (by simp)
    have b3 := hEb e3 (by simp)
    have hS3 : SpotsAt H3 sv S := by
      obtain ⟨sl, ss, e1, e2, e3⟩ := hS2
      exact ⟨sl, ss, e1, lst_bt bt3 e2, e3.keep fun v x => IsSp.keepT (tup_bt bt3)⟩
    obtain ⟨sl, ss, rfl, hsl, hss⟩ := hS3
    have ls := hss.len
    have hhi := ok.hi
    have hlo := ok.lo
    -- xs
    refine ⟨_, rfl, sl, rfl, ⟨_, SqL.of hsl⟩, fun xa nxa => ?_⟩
    refine lc_list (K := K) (a := sl) (xs := ss) (fun i Hh => Same H3 Hh ∧ Hh xa = some (.lst (((S.map (·.1)).take i).map V.int))) ⟨same_upd nxa, upd_same⟩ (fun i Hh _ ⟨q, _⟩ => SqL.of (q _ _ hsl)) ?_ ?_
    · rintro i x Hh hx ⟨q, hD⟩
      obtain ⟨z, hz, t', rfl, ht'⟩ := hss.getV hx
      refine ⟨t', _, rfl, SqT.of (q _ _ ht'), rfl, _, _, rfl, _, _, rfl, rfl, rfl, _, rfl, _, hD, ?_, fun b o e => ?_, ?_⟩
      · rw [List.length_map, List.length_take, List.length_map]
        exact small1000 (by omega)
      · rw [upd_ne (ne_of_none e nxa)]
        exact q _ _ e
      · rw [upd_same, take_snoc (x := z.1) (by rw [List.getElem?_map, hz]; rfl), List.map_append]
        rfl
    rintro H4 ⟨q4, hxa⟩
    rw [List.take_of_length_le (by rw [List.length_map]; omega)] at hxa
    -- ys
    have hsl4 := q4 _ _ hsl
    refine ⟨_, rfl, sl, rfl, ⟨_, SqL.of hsl4⟩, fun ya nya => ?_⟩
    refine lc_list (K := K) (a := sl) (xs := ss) (fun i Hh => Same H4 Hh ∧ Hh ya = some (.lst (((S.map (·.2)).take i).map V.int))) ⟨same_upd nya, upd_same⟩ (fun i Hh _ ⟨q, _⟩ => SqL.of (q _ _ hsl4)) ?_ ?_
    · rintro i x Hh hx ⟨q, hD⟩
      obtain ⟨z, hz, t', rfl, ht'⟩ := hss.getV hx
      refine ⟨t', _, rfl, SqT.of (q _ _ (q4 _ _ ht')), rfl, _, _, rfl, _, _, rfl, rfl, rfl, _, rfl, _, hD, ?_, fun b o e => ?_, ?_⟩
      · rw [List.length_map, List.length_take, List.length_map]
        exact small1000 (by omega)
      · rw [upd_ne (ne_of_none e nya)]
        exact q _ _ e
      · rw [upd_same, take_snoc (x := z.2) (by rw [List.getElem?_map, hz]; rfl), List.map_append]
        rfl
    rintro H5 ⟨q5, hya⟩
    rw [List.take_of_length_le (by rw [List.length_map]; omega)] at hya
    rw [show ((((((List.set (L2.start nWorld [V.ref d, V.int 2, V.int 9]) 3 (some (V.ref sl))).set 4 (some (V.int t))).set 5 (some (V.int r))).set 6 (some (V.int u))).set 7 (some (V.ref ea))).set 8 (some (V.ref xa))) = [some (.ref d), some (.int 2), some (.int 9), some (.ref sl), some (.int t), some (.int r), some (.int u), some (.ref ea), some (.ref xa), none, none, none, none, none, none, none] from rfl]
    have hxa := q5 _ _ hxa
    have hea := q5 _ _ (q4 _ _ hea)
    have lx : 0 < (S.map (·.1)).length := by rw [List.length_map]; omega
    have ly : 0 < (S.map (·.2)).length := by rw [List.length_map]; omega
    obtain ⟨Mx, Mx1, Mx2⟩ := max_ex _ lx
    obtain ⟨My, My1, My2⟩ := max_ex _ ly
    obtain ⟨mX, mX1, mX2⟩ := min_ex _ lx
    obtain ⟨mY, mY1, mY2⟩ := min_ex _ ly
    have memX : ∀ s ∈ S, s.1 ∈ S.map (·.1) := fun s hs => List.mem_map.mpr ⟨s, hs, rfl⟩
    have memY : ∀ s ∈ S, s.2 ∈ S.map (·.2) := fun s hs => List.mem_map.mpr ⟨s, hs, rfl⟩
    have hmM : mX ≤ Mx := Mx2 mX mX1
    have hmN : mY ≤ My := My2 mY mY1
    have inX : ∀ a ∈ S.map (·.1), 0 ≤ a ∧ a ≤ 12 := fun a ha => by
      obtain ⟨s, hs, rfl⟩ := List.mem_map.mp ha
      have := ok.lil s hs
      exact ⟨this.1, this.2.1⟩
    have inY : ∀ a ∈ S.map (·.2), 0 ≤ a ∧ a ≤ 12 := fun a ha => by
      obtain ⟨s, hs, rfl⟩ := List.mem_map.mp ha
      have := ok.lil s hs
      exact ⟨this.2.2.1, this.2.2.2⟩
    have iMx := inX _ Mx1
    have imX := inX _ mX1
    have iMy := inY _ My1
    have imY := inY _ mY1
    obtain ⟨kx, hkx⟩ : ∃ k, decide (V.int (Mx + e2) = V.int (mX - e0)) = k := ⟨_, rfl⟩
    obtain ⟨ky, hky⟩ : ∃ k, decide (V.int (My + e3) = V.int (mY - e1)) = k := ⟨_, rfl⟩
    -- wide
    refine ⟨_, rfl, xa, _, rfl, SqL.of hxa, lx, fun m1 g1 g2 => ?_⟩
    rw [maxU g1 g2 Mx1 Mx2]
    refine ⟨_, rfl, ea, _, _, _, rfl, rfl, SqL.of hea, at_of (j := 2) rfl rfl, _, _, rfl, rfl, ?_⟩
    refine ⟨_, rfl, xa, _, rfl, SqL.of hxa, lx, fun m2 g3 g4 => ?_⟩
    rw [maxU g3 g4 Mx1 Mx2]
    refine ⟨_, rfl, ea, _, _, _, rfl, rfl, SqL.of hea, at_of (j := 2) rfl rfl, _, _, rfl, rfl, ?_⟩
    refine ⟨_, rfl, xa, _, rfl, SqL.of hxa, lx, fun m3 g5 g6 => ?_⟩
    rw [minU g5 g6 mX1 mX2]
    refine ⟨_, rfl, ea, _, _, _, rfl, rfl, SqL.of hea, at_of (j := 0) rfl rfl, _, _, rfl, rfl, rfl, ?_⟩
    refine .inr ⟨kx, congrArg (fun z => [V.bl z]) hkx, _, _, rfl, rfl, ?_⟩
    -- high
    refine ⟨_, rfl, ya, _, rfl, SqL.of hya, ly, fun m1 g1 g2 => ?_⟩
    rw [maxU g1 g2 My1 My2]
    refine ⟨_, rfl, ea, _, _, _, rfl, rfl, SqL.of hea, at_of (j := 3) rfl rfl, _, _, rfl, rfl, ?_⟩
    refine ⟨_, rfl, ya, _, rfl, SqL.of hya, ly, fun m2 g3 g4 => ?_⟩
    rw [maxU g3 g4 My1 My2]
    refine ⟨_, rfl, ea, _, _, _, rfl, rfl, SqL.of hea, at_of (j := 3) rfl rfl, _, _, rfl, rfl, ?_⟩
    refine ⟨_, rfl, ya, _, rfl, SqL.of hya, ly, fun m3 g5 g6 => ?_⟩
    rw [minU g5 g6 mY1 mY2]
    refine ⟨_, rfl, ea, _, _, _, rfl, rfl, SqL.of hea, at_of (j := 1) rfl rfl, _, _, rfl, rfl, rfl, ?_⟩
    refine .inr ⟨ky, congrArg (fun z => [V.bl z]) hky, _, _, rfl, rfl, ?_⟩
    obtain ⟨Wx, hWx⟩ : ∃ Wx, Mx + e2 + (if kx = true then 1 else 0) = Wx := ⟨_, rfl⟩
    obtain ⟨Wy, hWy⟩ : ∃ Wy, My + e3 + (if ky = true then 1 else 0) = Wy := ⟨_, rfl⟩
    have wx : mX - e0 < Wx ∧ Mx ≤ Wx ∧ Wx ≤ 30 := by
      rw [← hWx]
      by_cases c : Mx + e2 = mX - e0
      · rw [if_pos (by rw [← hkx]; exact decide_eq_true (congrArg V.int c))]
        omega
      · rw [if_neg (by rw [← hkx, decide_eq_true_eq]; exact fun h => c (by injection h))]
        omega
    have wy : mY - e1 < Wy ∧ My ≤ Wy ∧ Wy ≤ 30 := by
      rw [← hWy]
      by_cases c : My + e3 = mY - e1
      · rw [if_pos (by rw [← hky]; exact decide_eq_true (congrArg V.int c))]
        omega
      · rw [if_neg (by rw [← hky, decide_eq_true_eq]; exact fun h => c (by injection h))]
        omega
    have cm : ∀ a z : Int, -100 ≤ a → a ≤ 100 → CMul a z := fun a z h1 h2 => .inl ⟨by omega, by omega⟩
    have hW := mkW_ok (mx := mX - e0) (Wx := Wx) (my := mY - e1) (Wy := Wy) (t := t) (r := r) (u := u) ok (fun s hs => ⟨by have := mX2 _ (memX s hs); omega, Int.le_trans (Mx2 _ (memX s hs)) wx.2.1⟩) (fun s hs => ⟨by have := mY2 _ (memY s hs); omega, Int.le_trans (My2 _ (memY s hs)) wy.2.1⟩)
      wx.1 wy.1 (by omega) wx.2.2 (by omega) wy.2.2 t1 t2 r1 r2 u1 u2
    -- box
    refine ⟨_, rfl, xa, _, rfl, SqL.of hxa, lx, fun m3 g5 g6 => ?_⟩
    rw [minU g5 g6 mX1 mX2]
    refine ⟨_, rfl, ea, _, _, _, rfl, rfl, SqL.of hea, at_of (j := 0) rfl rfl, _, _, rfl, rfl, _, rfl, _, _, rfl, rfl, cm _ _ (by omega) (by omega), _, rfl, _, _, rfl, rfl, ?_⟩
    refine ⟨_, rfl, ya, _, rfl, SqL.of hya, ly, fun m3 g5 g6 => ?_⟩
    rw [minU g5 g6 mY1 mY2]
    refine ⟨_, rfl, ea, _, _, _, rfl, rfl, SqL.of hea, at_of (j := 1) rfl rfl, _, _, rfl, rfl, _, rfl, _, _, rfl, rfl, cm _ _ (by omega) (by omega), _, rfl, _, _, rfl, rfl, ?_⟩
    refine ⟨.int Wx, by rw [← hWx]; rfl, _, rfl, _, _, rfl, rfl, cm _ _ (by omega) (by omega), _, rfl, _, _, rfl, rfl, ?_⟩
    refine ⟨.int Wy, by rw [← hWy]; rfl, _, rfl, _, _, rfl, rfl, cm _ _ (by omega) (by omega), _, rfl, _, _, rfl, rfl, ?_⟩
    refine ⟨(by show 4 ≤ sizeLine; decide), fun bp nbp => ?_⟩
    obtain ⟨H6, hH6⟩ : ∃ H6, H6 = upd H5 bp (.tup ([(mX - e0) * t + r, (mY - e1) * t + u, Wx * t + r, Wy * t + u].map V.int)) := ⟨_, rfl⟩
    have t6 : Same H5 H6 := by
      rw [hH6]
      exact same_upd nbp
    have hbp : H6 bp = some (.tup ([(mX - e0) * t + r, (mY - e1) * t + u, Wx * t + r, Wy * t + u].map V.int)) := by
      rw [hH6]
      exact upd_same
    have q6 : Same H3 H6 := (q4.trans q5).trans t6
    -- spots
    have hsl6 := q6 _ _ hsl
    refine ⟨.ref bp, rfl, _, rfl, sl, rfl, ⟨ss, SqL.of (by rw [hH6] at hsl6; exact hsl6)⟩, fun pa npa => ?_⟩
    have npa6 : H6 pa = none := by
      rw [hH6]
      exact npa
    refine lc_list (K := K) (a := sl) (xs := ss) (fun i Hh => ∃ vs, Same H6 Hh ∧ Hh pa = some (.lst vs) ∧ Each IsSp Hh vs ((S.take i).map fun s => (s.1 * t + r, s.2 * t + u))) ⟨[], by rw [hH6]; exact same_upd npa, upd_same, trivial⟩ (fun i Hh _ ⟨_, q, _⟩ => SqL.of (q _ _ hsl6)) ?_ ?_
    · rintro i x Hh hx ⟨vs, q, hD, hE⟩
      obtain ⟨z, hz, t', rfl, ht'⟩ := hss.getV hx
      have hzm := List.mem_of_getElem? hz
      have lz := ok.lil z hzm
      have lE := hE.len
      rw [List.length_map, List.length_take] at lE
      refine ⟨t', _, rfl, SqT.of (q _ _ (q6 _ _ ht')), rfl, _, _, rfl, _, _, rfl, rfl, rfl, ?_⟩
      refine ⟨_, rfl, _, rfl, _, _, rfl, rfl, cm _ _ (by omega) (by omega), _, rfl, _, _, rfl, rfl, ?_⟩
      refine ⟨_, rfl, _, rfl, _, _, rfl, rfl, cm _ _ (by omega) (by omega), _, rfl, _, _, rfl, rfl, ?_⟩
      refine ⟨(by show 2 ≤ sizeLine; decide), fun p np => ?_⟩
      have tp := same_upd (o := .tup ([z.1 * t + r, z.2 * t + u].map V.int)) np
      refine ⟨vs, tp _ _ hD, small1000 (by omega), vs ++ [.ref p], fun b o e => ?_, upd_same, ?_⟩
      · rw [upd_ne (ne_of_none e npa6)]
        exact tp _ _ (q _ _ e)
      · rw [take_snoc hz, List.map_append]
        have tk := tup_keep (ws := vs ++ [.ref p]) (tp _ _ hD)
        exact Each.app (hE.keep fun v x hh => IsSp.keepT tk (IsSp.keep tp hh)) ⟨IsSp.keepT tk ⟨p, rfl, upd_same⟩, trivial⟩
    rintro H7 ⟨vs, q7, hD, hE⟩
    rw [List.take_of_length_le (by omega)] at hE
    refine ⟨(by show 2 ≤ sizeLine; decide), fun p np => ?_⟩
    have tp := same_upd (o := .tup [.ref bp, .ref pa]) np
    refine k _ _ (.ref bp) (.ref pa) _ ((((s1.trans s2).trans bt3).trans (Bt.of q6)).trans (Bt.of (q7.trans tp))) hW ⟨p, rfl, upd_same⟩ ⟨bp, rfl, tp _ _ (q7 _ _ hbp)⟩ ⟨pa, vs, rfl, tp _ _ hD, hE.keep fun v x => IsSp.keep tp⟩
end
end Wk

set_option Elab.async false
set_option linter.all false
set_option maxRecDepth 100000
set_option exponentiation.threshold 10000
set_option maxHeartbeats 8000000
namespace Wk
open PySem PySem.Spec PyProof.Rows L2
/-! ### >= of two spots, the first the lesser -/
/-- s >= t of spots as tuples, where s comes ahead of t: False -/
def rGeLess (K : PySem.W.Frag) : R2 := fun x y H Q => ∃ (a b : Addr) (s t : Int × Int), x = .ref a ∧ y = .ref b ∧ SqT K H a ((spL s).map V.int) ∧ SqT K H b ((spL t).map V.int) ∧ (s.1 < t.1 ∨ (s.1 = t.1 ∧ s.2 < t.2)) ∧ Q (.bl false) H
theorem vals_two {i j : Int} {us : List Value} (r : Vals ([i, j].map V.int) us) : ∃ t u, us = [Value.int i t, Value.int j u] := Vals.int2 r
theorem op_geLess {X : Cx} (room : X.A.units < cLine) : OpR X (compareOp .GtE) (rGeLess X.K) := by
  intro pins sh σ H x y v u Q I rx ry hq
  obtain ⟨a, b, s, t, rfl, rfl, atA, atB, less, q⟩ := hq
  cases rx
  cases ry
  obtain ⟨us, ru, tupA, _⟩ := I.tuple atA
  obtain ⟨ws, rw', tupB, _⟩ := I.tuple atB
  obtain ⟨k1, k2, rfl⟩ := vals_two ru
  obtain ⟨m1, m2, rfl⟩ := vals_two rw'
  have both : ∀ j : Nat, j < 2 → j = 0 ∨ j = 1 := fun j h => by omega
  have eqAt : ∀ {i j : Int} {p q : Tok}, SeqAt.EqAt X.A.in1 sh (.int i p) (.int j q) (decide (i = j)) := fun {i j p q} => by
    have e : decide (i = j) = (i == j) := by
      rw [Bool.eq_iff_iff, decide_eq_true_eq, beq_iff_eq]
    rw [e]
    exact SeqAt.EqAt.int_int _ _ _ _
  have R := Ob.RcOp.tuples_ge (A := X.A) (s := sh) (e := fun j => if j = 0 then decide (s.1 = t.1) else decide (s.2 = t.2)) (r := fun j => if j = 0 then decide (t.1 ≤ s.1) else decide (t.2 ≤ s.2)) tupA tupB room
    (fun j h1 _ => by
      rcases both j h1 with rfl | rfl
      · exact eqAt
      · exact eqAt)
    (fun j h1 _ _ => by
      rcases both j h1 with rfl | rfl
      · exact Ob.RcOp.ge_int _ _ _ _
      · exact Ob.RcOp.ge_int _ _ _ _)
  have no : (if decide (s.1 = t.1) = true then (if decide (s.2 = t.2) = true then decide (2 ≥ 2) else decide (t.2 ≤ s.2)) else decide (t.1 ≤ s.1)) = false := by
    rcases less with h | ⟨h1, h2⟩
    · rw [if_neg (by rw [decide_eq_true_eq]; omega), decide_eq_false (by omega)]
    · rw [if_pos (decide_eq_true h1), if_neg (by rw [decide_eq_true_eq]; omega), decide_eq_false (by omega)]
  exact R X.prog X.w X.xe (EP X pins σ Q) ⟨.bl false, H, I, congrArg Value.bool no, q⟩
theorem huA {A : Around} {k : Nat} (hr : Room k A) : A.units < cLine := by
  have := hr.un
  omega
theorem hu10 {A : Around} {k : Nat} (hr : Room k A) : A.units + 10 < cLine := by
  have := hr.un
  omega
theorem hu64 {A : Around} {k : Nat} (hr : Room k A) : A.units + 64 < cLine := by
  have := hr.un
  omega
theorem lot_lt {W : SM.Wd} {lot : List Int} {j : Int} (nd : lot.Nodup) (hin : ∀ d ∈ lot, 0 ≤ d ∧ d < (W.s.length : Int)) (hj : j ∉ lot) (h0 : 0 ≤ j) (h1 : j < (W.s.length : Int)) : lot.length < W.s.length := by
  have h := SM.nodup_le (l := j :: lot) (m := (List.range W.s.length).map fun i : Nat => (i : Int)) (List.nodup_cons.mpr ⟨hj, nd⟩) (fun x hx => ?_)
  · rw [List.length_cons, List.length_map, List.length_range] at h
    omega
  · refine List.mem_map.mpr ⟨x.toNat, List.mem_range.mpr ?_, ?_⟩
    · rcases List.mem_cons.mp hx with e | e
      · omega
      · have := hin x e
        omega
    · rcases List.mem_cons.mp hx with e | e
      · omega
      · have := hin x e
        omega
section
variable {P : Program} {w : World} {K : PySem.W.Frag} {mg : Str → Option Value} {base : Heap} {f : Addr} {fd : FuncData}
/-! ### _law_rises -/
theorem scRises : FnScope ["_law_start", "_law_end", "_law_low", "_law_high"] ["_law_start", "_law_end"] (defScope sRises) := ⟨rfl, rfl, rfl, by decide +kernel, rfl, by decide +kernel, by decide +kernel⟩
def spRises : Sp := fun vs H Q _ => ∃ (v u : V) (p q : SM.Pt), vs = [v, u] ∧ IsPt H v p ∧ IsPt H u q ∧ SM.PtLt p ∧ SM.PtLt q ∧ Q (.bl (SM.rises p q)) H
theorem d_rises (F : Fun K "_law_rises" "_law_rises" sRises f fd) (g : mg "_law_rises" = some (.ref f)) : Def P w K mg base 1 "_law_rises" ["_law_start", "_law_end"] spRises := by
  refine ⟨f, fd, g, F.kp, F.binds (ps := ["_law_start", "_law_end"]) fun _ _ _ _ _ _ us hl => match us, hl with | [_, _], _ => rfl, ?_⟩
  refine F.ok scRises (fun vs H Q E h => ?_) (fun cdv A outer s H vs Q E hr h => ?_)
  · obtain ⟨a, b, _, _, rfl, _⟩ := h
    rfl
  · obtain ⟨_, _, p, q, rfl, ⟨t, rfl, ht⟩, ⟨u, rfl, hu⟩, hp, hq, k⟩ := h
    obtain ⟨p1, p2, p3⟩ := pts_of hp
    obtain ⟨q1, q2, q3⟩ := pts_of hq
    have M : ∀ {i j : Int}, i.natAbs < 2 ^ 1000 → j.natAbs < 2 ^ 1000 → CMulW i j := fun a b => mw a b (by decide) (by decide)
    refine ⟨_, pss_cons (ps_set (i := 2) scRises.nd rfl (Or.inl rfl) (pe_op op_mulW (pe_ix ix_tup (pv 0) pe_int (fun _ _ => rfl)) (pe_ix ix_tup (pv 1) pe_int (fun _ _ => rfl))))
      (pss_cons (ps_set (i := 3) scRises.nd rfl (Or.inl rfl) (pe_op op_mulW (pe_ix ix_tup (pv 1) pe_int (fun _ _ => rfl)) (pe_ix ix_tup (pv 0) pe_int (fun _ _ => rfl))))
      (pss_cons (ps_if (pt_cmpR op_ne (pv 2) (pv 3) (nomark _)) (pss_one (ps_ret (pe_cmpR op_lt (pv 2) (pv 3) (nomark _)))) pss_nil)
      (pss_one (ps_ret (pe_cmpR op_lt (pe_op op_mulW (pe_ix ix_tup (pv 1) pe_int (fun _ _ => rfl)) (pe_ix ix_tup (pv 0) pe_int (fun _ _ => rfl))) (pe_op op_mulW (pe_ix ix_tup (pv 0) pe_int (fun _ _ => rfl)) (pe_ix ix_tup (pv 1) pe_int (fun _ _ => rfl))) (nomark _)))))), ?_⟩
    refine ⟨.ref t, rfl, t, _, 1, _, rfl, rfl, SqT.of ht, atI_nat (j := 1) rfl, .ref u, rfl, u, _, 2, _, rfl, rfl, SqT.of hu, atI_nat (j := 2) rfl, _, _, rfl, rfl, M p2 q3, ?_⟩
    refine ⟨.ref u, rfl, u, _, 1, _, rfl, rfl, SqT.of hu, atI_nat (j := 1) rfl, .ref t, rfl, t, _, 2, _, rfl, rfl, SqT.of ht, atI_nat (j := 2) rfl, _, _, rfl, rfl, M q2 p3, ?_⟩
    refine ⟨_, rfl, _, rfl, rfl, ?_⟩
    by_cases c : p.y * q.w = q.y * p.w
    · refine ⟨false, ?_, iteF ?_⟩
      · show V.bl (!decide (V.int (p.y * q.w) = V.int (q.y * p.w))) = V.bl false
        rw [decide_eq_true (congrArg V.int c)]
        rfl
      refine ⟨.ref u, rfl, u, _, 0, _, rfl, rfl, SqT.of hu, atI_nat (j := 0) rfl, .ref t, rfl, t, _, 2, _, rfl, rfl, SqT.of ht, atI_nat (j := 2) rfl, _, _, rfl, rfl, M q1 p3, .ref t, rfl, t, _, 0, _, rfl, rfl, SqT.of ht, atI_nat (j := 0) rfl, .ref u, rfl, u, _, 2, _, rfl, rfl, SqT.of hu, atI_nat (j := 2) rfl, _, _, rfl, rfl, M p1 q3, _, _, rfl, rfl, ?_⟩
      have e : SM.rises p q = decide (q.x * p.w < p.x * q.w) := by
        unfold SM.rises
        rw [if_neg (by simpa using c)]
      rw [e] at k
      exact k
    · refine ⟨true, ?_, iteT ?_⟩
      · show V.bl (!decide (V.int (p.y * q.w) = V.int (q.y * p.w))) = V.bl true
        rw [decide_eq_false fun h => c (by injection h)]
        rfl
      refine ⟨_, rfl, _, rfl, _, _, rfl, rfl, ?_⟩
      have e : SM.rises p q = decide (p.y * q.w < q.y * p.w) := by
        unfold SM.rises
        rw [if_pos c]
      rw [e] at k
      exact k
end
end Wk

set_option Elab.async false
set_option linter.all false
set_option maxRecDepth 100000
set_option exponentiation.threshold 10000
set_option maxHeartbeats 8000000
namespace Wk
open PySem PySem.Spec PyProof.Rows L2
theorem tabs_bt {T : List (Addr × Str)} {H H' : Hp} (t : LamX.Tabs T H) (s : Bt H H') : LamX.Tabs T H' := fun p hp => by
  obtain ⟨ps, h1, h2, h3⟩ := t p hp
  refine ⟨ps, s _ _ (fun _ c => by cases c) h1, h2, fun pos cv among => ?_⟩
  obtain ⟨co, e1, e2⟩ := h3 pos cv among
  exact ⟨co, e1, s _ _ (fun _ c => by cases c) e2⟩
theorem TI.ext {H H' : Hp} (e : LamX.ExtN H H') {v : V} {ns : List Int} (h : TI H v ns) : TI H' v ns :=
  TI.keepT (fun b xs q => e _ _ q (by intro ps z; cases z)) h
theorem dp_srs {K : PySem.W.Frag} {H : Hp} : ∀ {vs : List V} {R : List SM.SRow}, Each IsSR H vs R → DpAll K H vs (R.map srD)
  | [], [], _ => .nil
  | _ :: _, _ :: _, h => .cons h.1.dp (dp_srs h.2)
  | [], _ :: _, h => h.elim
  | _ :: _, [], h => h.elim
theorem sp_at {W : SM.Wd} {d : Int} (h0 : 0 ≤ d) (h1 : d < (W.s.length : Int)) : W.s[d.toNat]? = some (W.sp d) := by
  have hl : d.toNat < W.s.length := by omega
  unfold SM.Wd.sp
  rw [List.getD_eq_getElem?_getD, List.getElem?_eq_getElem hl]
  rfl
section
variable {P : Program} {w : World} {K : PySem.W.Frag} {mg : Str → Option Value} {base : Heap} {f : Addr} {fd : FuncData}
/-! ### the law -/
abbrev nLaw : List Str := ["_law_script", "_law_feed_here", "_law_box", "_law_spots_here", "_law_low", "_law_high", "_law_ours", "_law_others", "_law_start", "_law_end", "_law_one", "_law_other", "_law_back"]
theorem scLaw : FnScope nLaw ["_law_script"] (defScope sLaw) := ⟨rfl, rfl, rfl, by decide +kernel, rfl, by decide +kernel, by decide +kernel⟩
def spLaw (K : PySem.W.Frag) (Tb : Addr) : Sp := fun vs H Q _ => ∃ (a : Addr) (ns : List Int), vs = [.ref a] ∧ SqL K H a (ns.map V.int) ∧ LamX.Tabs [(Tb, qLam)] H ∧ ∀ H', Q (.bl true) H'
theorem law_ok {Tb : Addr} (F : Fun K "law" "law" sLaw f fd) (mli : mg "list" = none) (ml : mg "len" = none) (ms : mg "sorted" = none)
    (df : Def P w K mg base 1 "_law_feed" ["_law_script"] (spFeed K)) (dw : Def P w K mg base 4 "_law_world" ["_law_feed_here", "_law_least", "_law_most"] spWorld)
    (dh : Def P w K mg base 3 "halves" ["spots"] (spHalves Tb)) (ds : Def P w K mg base 6 "seam" ["box", "spots", "lot"] spSeam) (dr : Def P w K mg base 1 "_law_rises" ["_law_start", "_law_end"] spRises) :
    FnOk P w K mg base CX0 7 f fd ["_law_script"] (spLaw K Tb) := by
  refine F.ok scLaw (fun vs H Q E h => ?_) (fun cdv A outer s H vs Q E hr h => ?_)
  · obtain ⟨a, _, rfl, _⟩ := h
    rfl
  · obtain ⟨a, ns, rfl, ha, hT, k⟩ := h
    have hr1 : Room 1 _ := hr.mono (by decide)
    have hr3 : Room 3 _ := hr.mono (by decide)
    have hr4 : Room 4 _ := hr.mono (by decide)
    refine ⟨_, pss_cons (ps_set (i := 1) scLaw.nd rfl (Or.inl rfl) (pe_def df hr1 (pa_cons (pv 0) pa_nil)))
      (pss_cons (ps_asg (pe_def dw hr4 (pa_cons (pv 1) (pa_cons pe_int (pa_cons pe_int pa_nil)))) (pg_tup rfl (pgs_cons (pg_name (i := 2) scLaw.nd rfl (Or.inl rfl)) (pgs_cons (pg_name (i := 3) scLaw.nd rfl (Or.inl rfl)) pgs_nil))))
      (pss_cons (ps_asg (pe_def dh hr3 (pa_cons (pe_callTy call_list_of (by rfl) mli (by decide +kernel) (pa_cons (pv 3) pa_nil)) pa_nil)) (pg_tup rfl (pgs_cons (pg_name (i := 4) scLaw.nd rfl (Or.inl rfl)) (pgs_cons (pg_name (i := 5) scLaw.nd rfl (Or.inl rfl)) pgs_nil))))
      (pss_cons (ps_set (i := 6) scLaw.nd rfl (Or.inl rfl) (pe_def ds hr (pa_cons (pv 2) (pa_cons (pe_callTy call_list_of (by rfl) mli (by decide +kernel) (pa_cons (pv 3) pa_nil)) (pa_cons (pe_callTy call_list_of (by rfl) mli (by decide +kernel) (pa_cons (pv 4) pa_nil)) pa_nil)))))
      (pss_cons (ps_set (i := 7) scLaw.nd rfl (Or.inl rfl) (pe_def ds hr (pa_cons (pv 2) (pa_cons (pe_callTy call_list_of (by rfl) mli (by decide +kernel) (pa_cons (pv 3) pa_nil)) (pa_cons (pe_callTy call_list_of (by rfl) mli (by decide +kernel) (pa_cons (pv 5) pa_nil)) pa_nil)))))
      (pss_cons (ps_for PassesOwn.never rfl (pi_list (pv 6)) (pg_tup rfl (pgs_cons (pg_name (i := 8) scLaw.nd rfl (Or.inl rfl)) (pgs_cons (pg_name (i := 9) scLaw.nd rfl (Or.inl rfl)) (pgs_cons (pg_name (i := 10) scLaw.nd rfl (Or.inl rfl)) (pgs_cons (pg_name (i := 11) scLaw.nd rfl (Or.inl rfl)) pgs_nil)))))
        (pss_one (ps_if (PW.pt (pw_or (pt_not (pt_val (pe_def dr hr1 (pa_cons (pv 8) (pa_cons (pv 9) pa_nil))))) (pw_or1 (pt_cmpR (op_geLess (huA hr)) (pe_ix ix_list (pv 3) (pv 10) (fun _ _ => rfl)) (pe_ix ix_list (pv 3) (pv 11) (fun _ _ => rfl)) (nomark _))))) (pss_one ps_never) pss_nil)))
      (pss_cons (ps_for PassesOwn.never rfl (pi_list (pv 7)) (pg_tup rfl (pgs_cons (pg_name (i := 8) scLaw.nd rfl (Or.inl rfl)) (pgs_cons (pg_name (i := 9) scLaw.nd rfl (Or.inl rfl)) (pgs_cons (pg_name (i := 10) scLaw.nd rfl (Or.inl rfl)) (pgs_cons (pg_name (i := 11) scLaw.nd rfl (Or.inl rfl)) pgs_nil)))))
        (pss_one (ps_if (pt_not (pt_val (pe_def dr hr1 (pa_cons (pv 9) (pa_cons (pv 8) pa_nil))))) (pss_one ps_never) pss_nil)))
      (pss_cons (ps_setLc (i := 12) (own := [("_law_start", 8), ("_law_end", 9), ("_law_one", 10), ("_law_other", 11)]) (g := gTup K 4 (gCons (gName 8) (gCons (gName 9) (gCons (gName 10) (gCons (gName 11) gNil))))) (by rfl) scLaw.nd rfl rfl (sw_true rfl rfl rfl (by decide +kernel)) (pi_list (pv 7)) (blkOk_by (own := [("_law_start", 8), ("_law_end", 9), ("_law_one", 10), ("_law_other", 11)]) (N := nLaw) (sc := defScope sLaw) (by decide +kernel))
          (fun _ _ _ _ _ => pg_tup rfl (pgs_cons (pg_name (i := 8) scLaw.nd rfl (Or.inl rfl)) (pgs_cons (pg_name (i := 9) scLaw.nd rfl (Or.inl rfl)) (pgs_cons (pg_name (i := 10) scLaw.nd rfl (Or.inl rfl)) (pgs_cons (pg_name (i := 11) scLaw.nd rfl (Or.inl rfl)) pgs_nil))))) (fun _ _ _ _ _ => pts_nil)
          (fun _ _ _ _ _ => pe_tup (pa_cons (pv 9) (pa_cons (pv 8) (pa_cons (pv 11) (pa_cons (pv 10) pa_nil))))))
      (pss_one (ps_ret (pe_and (pe_cmpR op_gt (pe_callB call_len_seq (by rfl) ml PySem.boot_len (pa_cons (pv 6) pa_nil)) pe_int (nomark _))
        (pe_one (pe_cmpR (op_eqD (hu64 hr)) (pe_callB (cr_sortSR (hu10 hr)) (by rfl) ms (by decide +kernel) (pa_cons (pv 12) pa_nil)) (pe_callB (cr_sortSR (hu10 hr)) (by rfl) ms (by decide +kernel) (pa_cons (pv 6) pa_nil)) (nomark _))))))))))))), ?_⟩
    refine ⟨_, rfl, a, ns, rfl, ha, fun H1 d l s1 hF => ?_⟩
    refine ⟨_, rfl, d, l, 0, rfl, hF, by decide, fun H2 v b sv W b2 ok hv hB hS => ?_⟩
    obtain ⟨t, rfl, ht⟩ := hv
    obtain ⟨sl, ss, rfl, hsl, hss⟩ := hS
    have hT2 := tabs_bt hT ((Bt.of s1).trans b2)
    refine ⟨t, _, rfl, SqT.of ht, rfl, _, _, rfl, _, _, rfl, rfl, ?_⟩
    -- the halves
    refine ⟨.ref sl, rfl, sl, _, rfl, .inl (SqL.of hsl), fun c nc => ?_⟩
    have s3 := same_upd (o := .lst ss) nc
    refine ⟨_, W, rfl, ⟨c, ss, rfl, upd_same, hss.keep fun v x => IsSp.keep s3⟩, ok, hT2.ext s3, fun H4 t2 la lb low high e4 ht2 hla hlb L => ?_⟩
    have E4 := (ext_same s3).trans e4
    have hsl4 : H4 sl = some (.lst ss) := E4 _ _ hsl (by intro ps z; cases z)
    have hss4 : Each IsSp H4 ss W.s := hss.keep fun v x h => (show IsSp H4 v x from TI.ext E4 h)
    have hB4 : IsBox H4 b W := TI.ext E4 hB
    clear hss hB hsl ht
    refine ⟨t2, _, rfl, SqT.of ht2, rfl, _, _, rfl, _, _, rfl, rfl, ?_⟩
    -- ours
    refine ⟨_, rfl, .ref sl, rfl, sl, _, rfl, .inl (SqL.of hsl4), fun c1 n1 => ?_⟩
    have u1 := same_upd (o := .lst ss) n1
    refine ⟨.ref la, rfl, la, _, rfl, .inl (SqL.of (u1 _ _ hla)), fun c2 n2 => ?_⟩
    have u2 := same_upd (o := .lst (low.map V.int)) n2
    have u12 := u1.trans u2
    obtain ⟨jh, hjh⟩ := List.exists_mem_of_ne_nil _ L.neh
    obtain ⟨jl, hjl⟩ := List.exists_mem_of_ne_nil _ L.nel
    refine ⟨b, .ref c1, W, c2, low, rfl, TI.keep u12 hB4, ⟨c1, ss, rfl, u2 _ _ upd_same, hss4.keep fun v x => IsSp.keep u12⟩, ok, upd_same, L.nel, lot_lt L.ndl L.inl (fun q => L.apart jh q hjh) (L.inh jh hjh).1 (L.inh jh hjh).2, L.ndl, L.inl, fun H5 po wo R G s5 hpo hwo hpR lR hG hpm _ => ?_⟩
    have S5 := u12.trans s5
    -- others
    have hsl5 := S5 _ _ hsl4
    refine ⟨_, rfl, .ref sl, rfl, sl, _, rfl, .inl (SqL.of hsl5), fun c3 n3 => ?_⟩
    have u3 := same_upd (o := .lst ss) n3
    refine ⟨.ref lb, rfl, lb, _, rfl, .inl (SqL.of (u3 _ _ (S5 _ _ hlb))), fun c4 n4 => ?_⟩
    have u4 := same_upd (o := .lst (high.map V.int)) n4
    have u34 := u3.trans u4
    refine ⟨b, .ref c3, W, c4, high, rfl, TI.keep (S5.trans u34) hB4, ⟨c3, ss, rfl, u4 _ _ upd_same, hss4.keep fun v x => IsSp.keep (S5.trans u34)⟩, ok, upd_same, L.neh, lot_lt L.ndh L.inh (fun q => L.apart jl hjl q) (L.inl jl hjl).1 (L.inl jl hjl).2, L.ndh, L.inh, fun H6 pq wq R2 G2 s6 hpq hwq hpR2 lR2 hG2 hpm2 _ => ?_⟩
    have S6 := u34.trans s6
    obtain ⟨fa, fb, fc, fe⟩ := SM.law_seam ok L hG hG2 hpm hpm2
    have hpo6 := S6 _ _ hpo
    have hwo6 : Each IsSR H6 wo R := hwo.keep fun v x => IsSR.keep S6
    have hsl6 := S6 _ _ hsl5
    have hss6 : Each IsSp H6 ss W.s := hss4.keep fun v x => IsSp.keep (S5.trans S6)
    have lwo := hwo.len
    have lwq := hwq.len
    clear hwo hpo hss4 hB4 hT2
    -- each of ours rises
    refine ⟨.ref po, rfl, po, rfl, ⟨_, SqL.of hpo6⟩, ?_⟩
    refine for_list (K := K) (a := po) (xs := wo) (fun i σ Hh => Hh = H6 ∧ ∃ x8 x9 x10 x11, σ = [some (.ref a), some (.ref d), some b, some (.ref sl), some (.ref la), some (.ref lb), some (.ref po), some (.ref pq), x8, x9, x10, x11, none])
      ⟨rfl, _, _, _, _, rfl⟩ (fun i σ Hh _ ⟨e, _⟩ => SqL.of (by rw [e]; exact hpo6)) ?_ ?_
    · rintro i x σ Hh hx ⟨rfl, x8, x9, x10, x11, rfl⟩
      obtain ⟨r, hri, t3, cp, cq, rfl, ht3, hcp, hcq⟩ := hwo6.getV hx
      have hrm := List.mem_of_getElem? hri
      obtain ⟨f1, ⟨i0, i1⟩, ⟨j0, j1⟩, f4⟩ := fa r hrm
      obtain ⟨b1, b2⟩ := hpR r hrm
      obtain ⟨vi, hvi, ti, rfl, hti⟩ := hss6.get (sp_at i0 i1)
      obtain ⟨vj, hvj, tj, rfl, htj⟩ := hss6.get (sp_at j0 j1)
      refine ⟨t3, _, rfl, SqT.of ht3, rfl, _, _, rfl, _, _, rfl, _, _, rfl, _, _, rfl, rfl, ?_⟩
      refine ⟨_, rfl, _, rfl, cp, cq, r.p, r.q, rfl, hcp, hcq, b1, b2, true, congrArg V.bl f1, iteF ?_⟩
      refine ⟨.ref sl, rfl, _, rfl, sl, ss, _, _, rfl, rfl, SqL.of hsl6, at_of (j := r.i.toNat) (by omega) hvi, .ref sl, rfl, _, rfl, sl, ss, _, _, rfl, rfl, SqL.of hsl6, at_of (j := r.j.toNat) (by omega) hvj, ?_⟩
      refine ⟨ti, tj, W.sp r.i, W.sp r.j, rfl, rfl, SqT.of hti, SqT.of htj, f4, false, rfl, iteF ?_⟩
      exact ⟨rfl, _, _, _, _, rfl⟩
    rintro σ Hh ⟨rfl, x8, x9, x10, x11, rfl⟩
    -- each of the others falls
    refine ⟨.ref pq, rfl, pq, rfl, ⟨_, SqL.of hpq⟩, ?_⟩
    refine for_list (K := K) (a := pq) (xs := wq) (fun i σ H' => H' = Hh ∧ ∃ x8 x9 x10 x11, σ = [some (.ref a), some (.ref d), some b, some (.ref sl), some (.ref la), some (.ref lb), some (.ref po), some (.ref pq), x8, x9, x10, x11, none])
      ⟨rfl, _, _, _, _, rfl⟩ (fun i σ Hh _ ⟨e, _⟩ => SqL.of (by rw [e]; exact hpq)) ?_ ?_
    · rintro i x σ H' hx ⟨rfl, y8, y9, y10, y11, rfl⟩
      obtain ⟨r, hri, t3, cp, cq, rfl, ht3, hcp, hcq⟩ := hwq.getV hx
      have hrm := List.mem_of_getElem? hri
      obtain ⟨b1, b2⟩ := hpR2 r hrm
      refine ⟨t3, _, rfl, SqT.of ht3, rfl, _, _, rfl, _, _, rfl, _, _, rfl, _, _, rfl, rfl, ?_⟩
      refine ⟨_, rfl, _, rfl, cq, cp, r.q, r.p, rfl, hcq, hcp, b2, b1, true, congrArg V.bl (fb r hrm), iteF ?_⟩
      exact ⟨rfl, _, _, _, _, rfl⟩
    rintro σ H' ⟨rfl, y8, y9, y10, y11, rfl⟩
    -- back
    refine ⟨.ref pq, rfl, pq, rfl, ⟨_, SqL.of hpq⟩, fun D nD => ?_⟩
    refine lc_list (K := K) (a := pq) (xs := wq) (fun i Hh => ∃ vs, Same H' Hh ∧ Hh D = some (.lst vs) ∧ Each IsSR Hh vs ((R2.take i).map SM.SRow.swap)) ⟨[], same_upd nD, upd_same, trivial⟩ (fun i Hh _ ⟨_, q, _⟩ => SqL.of (q _ _ hpq)) ?_ ?_
    · rintro i x Hh hx ⟨vs, q, hD, hE⟩
      obtain ⟨r, hri, t3, cp, cq, rfl, ht3, hcp, hcq⟩ := hwq.getV hx
      have lE := hE.len
      rw [List.length_map, List.length_take] at lE
      refine ⟨t3, _, rfl, SqT.of (q _ _ ht3), rfl, _, _, rfl, _, _, rfl, _, _, rfl, _, _, rfl, rfl, rfl, ?_⟩
      refine ⟨_, rfl, _, rfl, _, rfl, _, rfl, (by show 4 ≤ sizeLine; decide), fun p np => ?_⟩
      have tp := same_upd (o := .tup [cq, cp, .int r.j, .int r.i]) np
      refine ⟨vs, tp _ _ hD, small1000 (by omega), vs ++ [.ref p], fun b o e => ?_, upd_same, ?_⟩
      · rw [upd_ne (ne_of_none e nD)]
        exact tp _ _ (q _ _ e)
      · rw [take_snoc hri, List.map_append]
        have tk := tup_keep (ws := vs ++ [.ref p]) (tp _ _ hD)
        exact Each.app (hE.keep fun v x hh => IsSR.keepT tk (IsSR.keep tp hh)) ⟨IsSR.keepT tk ⟨p, cq, cp, rfl, upd_same, hcq.keep (q.trans tp), hcp.keep (q.trans tp)⟩, trivial⟩
    rintro H7 ⟨vs, s7, hD, hE⟩
    rw [List.take_of_length_le (by omega)] at hE
    -- the answer
    have lR0 : 0 < R.length := List.length_pos_iff.mpr fc
    refine ⟨.ref po, rfl, po, _, rfl, .inl (SqL.of (s7 _ _ hpo6)), _, _, rfl, rfl, true, blT (by omega), iteT ?_⟩
    refine ⟨.ref D, rfl, D, vs, _, rfl, hD, hE, fun ys p1 hys m1 => ?_⟩
    have s8 := same_upd (o := .lst ys) m1
    refine ⟨.ref po, rfl, po, wo, R, rfl, s8 _ _ (s7 _ _ hpo6), hwo6.keep fun v x => IsSR.keep (s7.trans s8), fun zs p2 hzs m2 => ?_⟩
    have s9 := same_upd (o := .lst zs) m2
    rw [sort_same fe] at hys
    refine ⟨.list ((R.mergeSort srLe).map srD), .list ((R.mergeSort srLe).map srD), .lst (SqL.of (s9 _ _ upd_same)) (dp_srs (hys.keep fun v x => IsSR.keep (s8.trans s9))), .lst (SqL.of upd_same) (dp_srs (hzs.keep fun v x => IsSR.keep s9)), srDs_shaped _, srDs_shaped _, ?_⟩
    have e : PyData.eqv (.list ((R.mergeSort srLe).map srD)) (.list ((R.mergeSort srLe).map srD)) = true := by
      simp only [PyData.eqv]
      exact srDs_eqv_self _
    rw [e]
    exact k _
end
end Wk

set_option Elab.async false
set_option linter.all false
set_option maxRecDepth 100000
set_option maxHeartbeats 0
namespace Wk
open PySem PySem.Spec PyProof.Rows L2
/-! ### the end: what the top leaves, told by names; its run -/
theorem fun_of {K : PySem.W.Frag} {x : Str} {st : Stmt} {f : Addr} {fd : FuncData} (F : FunD K x x (defArgs st) (defBody st) (defScope st) [] [] f fd) : Fun K x x st f fd := by
  obtain ⟨oc, od, dV, kV, doc, pm, an, cdv, ct, osl, e, lk, hcd, hd, _⟩ := F.ex
  rcases hd with ⟨_, rfl⟩ | ⟨h, _⟩
  · exact ⟨⟨oc, od, kV, doc, pm, an, cdv, ct, osl, e, lk, hcd⟩, F.kp⟩
  · exact (h rfl).elim
def dd (x : Str) (st : Stmt) : He.DefD := ⟨(x, none), x, x, defArgs st, defBody st, defScope st, [], []⟩
def fnL : List He.DefD := [dd "divisor" sDivisor, dd "point_of" sPointOf, dd "ahead" sAhead, dd "line_of" sLineOf, dd "axis" sAxis, dd "between" sBetween, dd "height_of" sHeightOf, dd "is_whole" sIsWhole, dd "look_box" sLookBox, dd "box_field" sBoxField, dd "begun" sBegun, dd "crossing" sCrossing, dd "cut" sCut, dd "lies_in" sLiesIn, dd "look_spots" sLookSpots, dd "look_count" sLookCount, dd "look_at" sLookAt, dd "land_among" sLandAmong, dd "look_lot" sLookLot, dd "is_sooner" sIsSooner, dd "seam" sSeam, dd "halves" sHalves, dd "_law_feed" sFeed, dd "_law_draw" sDraw, dd "_law_great" sGreat, dd "_law_scale" sScale, dd "_law_spot" sSpot, dd "_law_dozen" sDozen, dd "_law_spots" sSpots, dd "_law_world" sWorld, dd "_law_rises" sRises, dd "law" sLaw]
def faG : List He.Fa := [.glo "divisor", .glo "point_of", .glo "ahead", .glo "line_of", .glo "axis", .glo "between", .glo "height_of", .glo "is_whole", .glo "look_box", .glo "box_field", .glo "begun", .glo "crossing", .glo "cut", .glo "lies_in", .glo "look_spots", .glo "look_count", .glo "look_at", .glo "land_among", .glo "look_lot", .glo "is_sooner", .glo "seam", .glo "halves", .glo "_law_feed", .glo "_law_draw", .glo "_law_great", .glo "_law_scale", .glo "_law_spot", .glo "_law_dozen", .glo "_law_spots", .glo "_law_world", .glo "_law_rises", .glo "law"]
def faF : List He.Fa := [.free "abs", .free "isinstance", .free "int", .free "bool", .free "tuple", .free "len", .free "all", .free "range", .free "list", .free "max", .free "min", .free "set", .free "sorted", .int "MOST_SPOTS" 12, .glo "SIDES"]
def faL : List He.Fa := faG ++ faF
def tfL : List He.Defn := [("halves", none)]
def exL (K : PySem.W.Frag) : Bool := He.tupB K "SIDES" [.int (-1), .int (-2), .int (-3), .int (-4)]
def looseA : List Str := ["LandError", "NoNumber", "NoLine", "NoBox", "TooMany", "NoSpot", "NoLot", "SIDES", "MOST_SPOTS", "divisor", "point_of", "ahead", "line_of", "axis", "between", "height_of", "is_whole", "look_box", "box_field", "begun"]
def looseB : List Str := ["crossing", "cut", "lies_in", "look_spots", "look_count", "look_at", "land_among", "look_lot", "is_sooner", "seam", "halves", "_law_feed", "_law_draw", "_law_great", "_law_scale", "_law_spot", "_law_dozen", "_law_spots", "_law_world", "_law_rises"]
def looseL : List Str := looseA ++ looseB
abbrev RR : PySem.W.OpenRow := PySem.W.OpenLaw.row PySem.Challenge.rw_nearlands_k44_whole_seam_never_goes_down
abbrev hk : PySem.W.Hook := He.hookX 4 faL fnL [] tfL exL
def ob (s : PySem.W.SharedT) : He.AlX := He.obsX 4 faL fnL [] tfL exL (HandSHeadRun.getT s)
theorem ob_eq (s : PySem.W.SharedT) : ob s = hk.obs s.abs := He.obsX_eq (HandSHeadRun.getT_eq s)
theorem run (w : World) : HandSHeadRun.RunEq RR (PySem.W.view RR.prog [48]) hk ob 4000 looseL w := by
  intro os
  kernel_rfl
theorem facts {w : World} {K : PySem.W.Frag} {h : Heap} {mg : Str → Option Value} {f : Addr} (X : K.In h) (G : h.Ns mainGlobals mg) (hfa : mg ("law" : Str) = some (.ref f)) (c : He.SaysX faL fnL [] tfL exL w h K) :
    LamX.LawAtS PySem.Challenge.rw_nearlands_k44_whole_seam_never_goes_down w K CX0 7 63 "_law_script" mg f h := by
  have d := c.t.d
  obtain ⟨q0, F0⟩ := d.def_ 0 (d := dd "divisor" sDivisor) rfl
  obtain ⟨q1, F1⟩ := d.def_ 1 (d := dd "point_of" sPointOf) rfl
  obtain ⟨q2, F2⟩ := d.def_ 2 (d := dd "ahead" sAhead) rfl
  obtain ⟨q3, F3⟩ := d.def_ 3 (d := dd "line_of" sLineOf) rfl
  obtain ⟨q4, F4⟩ := d.def_ 4 (d := dd "axis" sAxis) rfl
  obtain ⟨q5, F5⟩ := d.def_ 5 (d := dd "between" sBetween) rfl
  obtain ⟨q6, F6⟩ := d.def_ 6 (d := dd "height_of" sHeightOf) rfl
  obtain ⟨q7, F7⟩ := d.def_ 7 (d := dd "is_whole" sIsWhole) rfl
  obtain ⟨q8, F8⟩ := d.def_ 8 (d := dd "look_box" sLookBox) rfl
  obtain ⟨q9, F9⟩ := d.def_ 9 (d := dd "box_field" sBoxField) rfl
  obtain ⟨q10, F10⟩ := d.def_ 10 (d := dd "begun" sBegun) rfl
  obtain ⟨q11, F11⟩ := d.def_ 11 (d := dd "crossing" sCrossing) rfl
  obtain ⟨q12, F12⟩ := d.def_ 12 (d := dd "cut" sCut) rfl
  obtain ⟨q13, F13⟩ := d.def_ 13 (d := dd "lies_in" sLiesIn) rfl
  obtain ⟨q14, F14⟩ := d.def_ 14 (d := dd "look_spots" sLookSpots) rfl
  obtain ⟨q15, F15⟩ := d.def_ 15 (d := dd "look_count" sLookCount) rfl
  obtain ⟨q16, F16⟩ := d.def_ 16 (d := dd "look_at" sLookAt) rfl
  obtain ⟨q17, F17⟩ := d.def_ 17 (d := dd "land_among" sLandAmong) rfl
  obtain ⟨q18, F18⟩ := d.def_ 18 (d := dd "look_lot" sLookLot) rfl
  obtain ⟨q19, F19⟩ := d.def_ 19 (d := dd "is_sooner" sIsSooner) rfl
  obtain ⟨q20, F20⟩ := d.def_ 20 (d := dd "seam" sSeam) rfl
  obtain ⟨q21, F21⟩ := d.def_ 21 (d := dd "halves" sHalves) rfl
  obtain ⟨q22, F22⟩ := d.def_ 22 (d := dd "_law_feed" sFeed) rfl
  obtain ⟨q23, F23⟩ := d.def_ 23 (d := dd "_law_draw" sDraw) rfl
  obtain ⟨q24, F24⟩ := d.def_ 24 (d := dd "_law_great" sGreat) rfl
  obtain ⟨q25, F25⟩ := d.def_ 25 (d := dd "_law_scale" sScale) rfl
  obtain ⟨q26, F26⟩ := d.def_ 26 (d := dd "_law_spot" sSpot) rfl
  obtain ⟨q27, F27⟩ := d.def_ 27 (d := dd "_law_dozen" sDozen) rfl
  obtain ⟨q28, F28⟩ := d.def_ 28 (d := dd "_law_spots" sSpots) rfl
  obtain ⟨q29, F29⟩ := d.def_ 29 (d := dd "_law_world" sWorld) rfl
  obtain ⟨q30, F30⟩ := d.def_ 30 (d := dd "_law_rises" sRises) rfl
  obtain ⟨q31, F31⟩ := d.def_ 31 (d := dd "law" sLaw) rfl
  have g0 : mg "divisor" = some (.ref (He.ga K "divisor")) := He.glo_ok X G (d.fact 0 (f := .glo "divisor") rfl)
  have g1 : mg "point_of" = some (.ref (He.ga K "point_of")) := He.glo_ok X G (d.fact 1 (f := .glo "point_of") rfl)
  have g2 : mg "ahead" = some (.ref (He.ga K "ahead")) := He.glo_ok X G (d.fact 2 (f := .glo "ahead") rfl)
  have g3 : mg "line_of" = some (.ref (He.ga K "line_of")) := He.glo_ok X G (d.fact 3 (f := .glo "line_of") rfl)
  have g4 : mg "axis" = some (.ref (He.ga K "axis")) := He.glo_ok X G (d.fact 4 (f := .glo "axis") rfl)
  have g5 : mg "between" = some (.ref (He.ga K "between")) := He.glo_ok X G (d.fact 5 (f := .glo "between") rfl)
  have g6 : mg "height_of" = some (.ref (He.ga K "height_of")) := He.glo_ok X G (d.fact 6 (f := .glo "height_of") rfl)
  have g7 : mg "is_whole" = some (.ref (He.ga K "is_whole")) := He.glo_ok X G (d.fact 7 (f := .glo "is_whole") rfl)
  have g8 : mg "look_box" = some (.ref (He.ga K "look_box")) := He.glo_ok X G (d.fact 8 (f := .glo "look_box") rfl)
  have g9 : mg "box_field" = some (.ref (He.ga K "box_field")) := He.glo_ok X G (d.fact 9 (f := .glo "box_field") rfl)
  have g10 : mg "begun" = some (.ref (He.ga K "begun")) := He.glo_ok X G (d.fact 10 (f := .glo "begun") rfl)
  have g11 : mg "crossing" = some (.ref (He.ga K "crossing")) := He.glo_ok X G (d.fact 11 (f := .glo "crossing") rfl)
  have g12 : mg "cut" = some (.ref (He.ga K "cut")) := He.glo_ok X G (d.fact 12 (f := .glo "cut") rfl)
  have g13 : mg "lies_in" = some (.ref (He.ga K "lies_in")) := He.glo_ok X G (d.fact 13 (f := .glo "lies_in") rfl)
  have g14 : mg "look_spots" = some (.ref (He.ga K "look_spots")) := He.glo_ok X G (d.fact 14 (f := .glo "look_spots") rfl)
  have g15 : mg "look_count" = some (.ref (He.ga K "look_count")) := He.glo_ok X G (d.fact 15 (f := .glo "look_count") rfl)
  have g16 : mg "look_at" = some (.ref (He.ga K "look_at")) := He.glo_ok X G (d.fact 16 (f := .glo "look_at") rfl)
  have g17 : mg "land_among" = some (.ref (He.ga K "land_among")) := He.glo_ok X G (d.fact 17 (f := .glo "land_among") rfl)
  have g18 : mg "look_lot" = some (.ref (He.ga K "look_lot")) := He.glo_ok X G (d.fact 18 (f := .glo "look_lot") rfl)
  have g19 : mg "is_sooner" = some (.ref (He.ga K "is_sooner")) := He.glo_ok X G (d.fact 19 (f := .glo "is_sooner") rfl)
  have g20 : mg "seam" = some (.ref (He.ga K "seam")) := He.glo_ok X G (d.fact 20 (f := .glo "seam") rfl)
  have g21 : mg "halves" = some (.ref (He.ga K "halves")) := He.glo_ok X G (d.fact 21 (f := .glo "halves") rfl)
  have g22 : mg "_law_feed" = some (.ref (He.ga K "_law_feed")) := He.glo_ok X G (d.fact 22 (f := .glo "_law_feed") rfl)
  have g23 : mg "_law_draw" = some (.ref (He.ga K "_law_draw")) := He.glo_ok X G (d.fact 23 (f := .glo "_law_draw") rfl)
  have g24 : mg "_law_great" = some (.ref (He.ga K "_law_great")) := He.glo_ok X G (d.fact 24 (f := .glo "_law_great") rfl)
  have g25 : mg "_law_scale" = some (.ref (He.ga K "_law_scale")) := He.glo_ok X G (d.fact 25 (f := .glo "_law_scale") rfl)
  have g26 : mg "_law_spot" = some (.ref (He.ga K "_law_spot")) := He.glo_ok X G (d.fact 26 (f := .glo "_law_spot") rfl)
  have g27 : mg "_law_dozen" = some (.ref (He.ga K "_law_dozen")) := He.glo_ok X G (d.fact 27 (f := .glo "_law_dozen") rfl)
  have g28 : mg "_law_spots" = some (.ref (He.ga K "_law_spots")) := He.glo_ok X G (d.fact 28 (f := .glo "_law_spots") rfl)
  have g29 : mg "_law_world" = some (.ref (He.ga K "_law_world")) := He.glo_ok X G (d.fact 29 (f := .glo "_law_world") rfl)
  have g30 : mg "_law_rises" = some (.ref (He.ga K "_law_rises")) := He.glo_ok X G (d.fact 30 (f := .glo "_law_rises") rfl)
  have g31 : mg "law" = some (.ref (He.ga K "law")) := He.glo_ok X G (d.fact 31 (f := .glo "law") rfl)
  have n_abs : mg "abs" = none := He.free_ok X G (d.fact 32 (f := .free "abs") rfl)
  have n_isinstance : mg "isinstance" = none := He.free_ok X G (d.fact 33 (f := .free "isinstance") rfl)
  have n_int : mg "int" = none := He.free_ok X G (d.fact 34 (f := .free "int") rfl)
  have n_bool : mg "bool" = none := He.free_ok X G (d.fact 35 (f := .free "bool") rfl)
  have n_tuple : mg "tuple" = none := He.free_ok X G (d.fact 36 (f := .free "tuple") rfl)
  have n_len : mg "len" = none := He.free_ok X G (d.fact 37 (f := .free "len") rfl)
  have n_all : mg "all" = none := He.free_ok X G (d.fact 38 (f := .free "all") rfl)
  have n_range : mg "range" = none := He.free_ok X G (d.fact 39 (f := .free "range") rfl)
  have n_list : mg "list" = none := He.free_ok X G (d.fact 40 (f := .free "list") rfl)
  have n_max : mg "max" = none := He.free_ok X G (d.fact 41 (f := .free "max") rfl)
  have n_min : mg "min" = none := He.free_ok X G (d.fact 42 (f := .free "min") rfl)
  have n_set : mg "set" = none := He.free_ok X G (d.fact 43 (f := .free "set") rfl)
  have n_sorted : mg "sorted" = none := He.free_ok X G (d.fact 44 (f := .free "sorted") rfl)
  obtain ⟨tm, n_most⟩ : ∃ t, mg "MOST_SPOTS" = some (.int 12 t) := He.int_ok X G (d.fact 45 (f := .int "MOST_SPOTS" 12) rfl)
  have n_sides : mg "SIDES" = some (.ref (He.ga K "SIDES")) := He.glo_ok X G (d.fact 46 (f := .glo "SIDES") rfl)
  have hS : ∀ H, SqT K H (He.ga K "SIDES") ([-1, -2, -3, -4].map V.int) := fun H => He.tupB_ok c.more H
  have e := hfa.symm.trans g31
  injection e with e
  injection e with e
  subst e
  obtain ⟨oc, od, dV, kV, doc, pm, an, cdv, ct, osl, eF, lk, hcd, hd, _⟩ := F21.ex
  obtain ⟨cc, rfl⟩ := He.codeIn_ref hcd
  subst eF
  have hdV : dV = .none := by
    rcases hd with ⟨_, e⟩ | ⟨h, _⟩
    · exact e
    · exact (h rfl).elim
  subst hdV
  have ec : He.codeOf K ("halves", none) = cc := He.codeOf_eq lk rfl
  have mem : (("halves", none) : He.Defn) ∈ tfL := List.mem_singleton.mpr rfl
  have b := FunD.bindsA (ps := ["_law_script"]) F31 fun _ _ _ _ _ _ us hl => match us, hl with | [_], _ => rfl
  refine ⟨q31, [He.cT K ("halves", none)], spLaw K (He.cT K ("halves", none)).2, fun p hp => ?_, fun p hp => ?_, fun p hp => ?_, fun s u => b s [u] rfl, fun H a ns hl _ hT hS2 => ⟨a, ns, rfl, hS2, fun p hp => ?_, fun _ => rfl⟩, fun base hK hN hTB => ?_⟩
  · rw [List.mem_singleton.mp hp]
    exact c.empty _ mem
  · rw [List.mem_singleton.mp hp]
    exact c.out _ mem
  · rw [List.mem_singleton.mp hp]
    exact PySem.W.codeHd_of_K X (c.hd _ mem)
  · rw [List.mem_singleton.mp hp]
    exact LamX.TabS.nil (hT _ (List.mem_singleton.mpr rfl))
  have TB : LamX.TabB base mg cc (He.cT K ("halves", none)).2 := by
    have := hTB _ (List.mem_singleton.mpr rfl)
    rw [show (He.cT K ("halves", none)).1 = cc from ec] at this
    exact this
  have D_divisor := d_divisor (P := (PySem.Challenge.rw_nearlands_k44_whole_seam_never_goes_down).prog) (w := w) (base := base) (fun_of F0) g0 n_abs
  have D_point_of := d_pointOf (P := (PySem.Challenge.rw_nearlands_k44_whole_seam_never_goes_down).prog) (w := w) (base := base) (fun_of F1) g1 D_divisor
  have D_line_of := d_lineOf (P := (PySem.Challenge.rw_nearlands_k44_whole_seam_never_goes_down).prog) (w := w) (base := base) (fun_of F3) g3 D_divisor
  have D_ahead := d_ahead (P := (PySem.Challenge.rw_nearlands_k44_whole_seam_never_goes_down).prog) (w := w) (base := base) (fun_of F2) g2
  have D_axis := d_axis (P := (PySem.Challenge.rw_nearlands_k44_whole_seam_never_goes_down).prog) (w := w) (base := base) (fun_of F4) g4 D_line_of
  have D_between := d_between (P := (PySem.Challenge.rw_nearlands_k44_whole_seam_never_goes_down).prog) (w := w) (base := base) (fun_of F5) g5 D_axis
  have D_height_of := d_heightOf (P := (PySem.Challenge.rw_nearlands_k44_whole_seam_never_goes_down).prog) (w := w) (base := base) (fun_of F6) g6
  have D_crossing := d_crossing (P := (PySem.Challenge.rw_nearlands_k44_whole_seam_never_goes_down).prog) (w := w) (base := base) (fun_of F11) g11 n_abs D_point_of
  have D_lies_in := d_liesIn (P := (PySem.Challenge.rw_nearlands_k44_whole_seam_never_goes_down).prog) (w := w) (base := base) (fun_of F13) g13
  have D_is_whole := d_isWhole (P := (PySem.Challenge.rw_nearlands_k44_whole_seam_never_goes_down).prog) (w := w) (base := base) (fun_of F7) g7 n_isinstance n_int n_bool
  have D_look_box := d_lookBox (P := (PySem.Challenge.rw_nearlands_k44_whole_seam_never_goes_down).prog) (w := w) (base := base) (fun_of F8) g8 n_isinstance n_tuple n_len n_all D_is_whole
  have D_look_count := d_lookCount (P := (PySem.Challenge.rw_nearlands_k44_whole_seam_never_goes_down).prog) (w := w) (base := base) (fun_of F15) g15 n_len n_most
  have D_look_spots := d_lookSpots (P := (PySem.Challenge.rw_nearlands_k44_whole_seam_never_goes_down).prog) (w := w) (base := base) (fun_of F14) g14 n_len n_range D_look_count
  have D_look_at := d_lookAt (P := (PySem.Challenge.rw_nearlands_k44_whole_seam_never_goes_down).prog) (w := w) (base := base) (fun_of F16) g16 n_len n_range D_look_box D_look_count D_lies_in
  have D_box_field := d_boxField (P := (PySem.Challenge.rw_nearlands_k44_whole_seam_never_goes_down).prog) (w := w) (base := base) (fun_of F9) g9 n_sides hS n_list D_look_box
  have D_begun := d_begun (P := (PySem.Challenge.rw_nearlands_k44_whole_seam_never_goes_down).prog) (w := w) (base := base) (fun_of F10) g10 n_len n_range D_ahead
  have D_cut := d_cut (P := (PySem.Challenge.rw_nearlands_k44_whole_seam_never_goes_down).prog) (w := w) (base := base) (fun_of F12) g12 n_len n_range n_max n_min n_list D_height_of D_crossing D_begun
  have D_land_among := d_landAmong (P := (PySem.Challenge.rw_nearlands_k44_whole_seam_never_goes_down).prog) (w := w) (base := base) (fun_of F17) g17 n_len n_range D_box_field D_cut D_between
  have D_look_lot := d_lookLot (P := (PySem.Challenge.rw_nearlands_k44_whole_seam_never_goes_down).prog) (w := w) (base := base) (fun_of F18) g18 n_len n_set n_max n_min
  have D_is_sooner := d_isSooner (P := (PySem.Challenge.rw_nearlands_k44_whole_seam_never_goes_down).prog) (w := w) (base := base) (fun_of F19) g19 D_ahead
  have D_seam := d_seam (P := (PySem.Challenge.rw_nearlands_k44_whole_seam_never_goes_down).prog) (w := w) (base := base) (fun_of F20) g20 n_len n_range D_look_at D_look_lot D_land_among D_is_sooner
  have D__law_feed := d_feed (P := (PySem.Challenge.rw_nearlands_k44_whole_seam_never_goes_down).prog) (w := w) (base := base) (fun_of F22) g22 n_list
  have D__law_draw := d_draw (P := (PySem.Challenge.rw_nearlands_k44_whole_seam_never_goes_down).prog) (w := w) (base := base) (fun_of F23) g23 n_len
  have D__law_great := d_great (P := (PySem.Challenge.rw_nearlands_k44_whole_seam_never_goes_down).prog) (w := w) (base := base) (fun_of F24) g24 n_range D__law_draw
  have D__law_scale := d_scale (P := (PySem.Challenge.rw_nearlands_k44_whole_seam_never_goes_down).prog) (w := w) (base := base) (fun_of F25) g25 D__law_draw D__law_great
  have D__law_spot := d_spot (P := (PySem.Challenge.rw_nearlands_k44_whole_seam_never_goes_down).prog) (w := w) (base := base) (fun_of F26) g26 D__law_draw
  have D__law_dozen := d_dozen (P := (PySem.Challenge.rw_nearlands_k44_whole_seam_never_goes_down).prog) (w := w) (base := base) (fun_of F27) g27 n_range n_len D__law_draw
  have D__law_spots := d_spots (P := (PySem.Challenge.rw_nearlands_k44_whole_seam_never_goes_down).prog) (w := w) (base := base) (fun_of F28) g28 n_range n_len n_max D__law_draw D__law_spot D__law_dozen
  have D__law_world := d_world (P := (PySem.Challenge.rw_nearlands_k44_whole_seam_never_goes_down).prog) (w := w) (base := base) (fun_of F29) g29 n_range n_max n_min n_int D__law_draw D__law_spots D__law_scale
  have D__law_rises := d_rises (P := (PySem.Challenge.rw_nearlands_k44_whole_seam_never_goes_down).prog) (w := w) (base := base) (fun_of F30) g30
  have D_halves := d_halves (P := (PySem.Challenge.rw_nearlands_k44_whole_seam_never_goes_down).prog) (w := w) (base := base) lk hcd F21.kp g21 TB n_len n_range n_sorted D_look_spots
  exact law_ok (fun_of F31) n_list n_len n_sorted D__law_feed D__law_world D_halves D_seam D__law_rises
end Wk
open PySem PySem.W PySem.Calls PyProof.Rows
theorem PySem.Challenge.cw_nearlands_k44_whole_seam_never_goes_down_holds : PySem.Challenge.rw_nearlands_k44_whole_seam_never_goes_down.Holds := by
  w_on; o_law
  refine HandSHeadRun.head_any (r := OpenLaw.row PySem.Challenge.rw_nearlands_k44_whole_seam_never_goes_down) (q := view (OpenLaw.row PySem.Challenge.rw_nearlands_k44_whole_seam_never_goes_down).prog [48]) (H := Wk.hk) (ob := Wk.ob) (M := 4000) (loose := Wk.looseL) (d := HandSHeadRun.topDef (OpenLaw.row PySem.Challenge.rw_nearlands_k44_whole_seam_never_goes_down).prog 48) (kwd := []) Wk.ob_eq
    (by kernel_rfl) (fun s => by kernel_rfl) Wk.run (by kernel_rfl) (by kernel_rfl) (by kernel_rfl) (by rfl) (by first | assumption | decide +kernel) (by decide +kernel) ⟨rfl, rfl, rfl, rfl, rfl, by decide +kernel⟩ ?hw ?hc
  case hw => w_witness2
  case hc =>
    refine LamX.walk_ofTsE (l := PySem.Challenge.rw_nearlands_k44_whole_seam_never_goes_down) (n := 63) (k := 7) (x := "_law_script") (CX := fun _ => L2.CX0) rfl (by decide) (by kernel_rfl) ⟨rfl, by decide, by decide⟩ ?F (fun _ _ _ _ _ z => z)
    intro w mg fa h Y G hmg0
    obtain ⟨K, KX, c⟩ := Y
    have at_law : mg ("law" : PySem.Str) = some (.ref fa) := by
      have e : (HandSHeadRun.topDef (OpenLaw.row PySem.Challenge.rw_nearlands_k44_whole_seam_never_goes_down).prog 48).name = ("law" : PySem.Str) := by kernel_rfl
      rw [← e]
      exact hmg0
    exact ⟨K, KX, Wk.facts KX G at_law c⟩

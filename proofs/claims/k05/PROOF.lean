import PyProof.Rows.All
import Wide.All
import OpenK.AllK
import Wide.FinOn
import Lean
import HandS.ForMost
import HandS.ForExc
import HandS.ExcInit
import HandS.Defaults
import HandS.Head0
import HandS.Head1
import HandS.Head2
import HandS.HeadEnd
import HandS.HeadHook1
import HandS.HeadHook2
import HandS.HeadHook3
import HandS.HeadHook4
import HandS.HeadWalk
import PySem.Challenge.RW_rowalone_k05_whole_other_unknowns
import HandS.Zip
import HandS.TupAny
import KE.SortData
import KE.LtData
import KE.GoesEnum
import PyProof.ReprRoads
import HandS.IsInst
import HandS.HeadNt
import HandS.Walk
import HandS.Codes
import HandS.OwnEq
import KE.KEqDeep
import KE.KFromBytes
import KE.KSuper
import HandS.ExcSuper
import HandS.ExcField
import HandS.TryMany
import HandS.Strs
import HandS.ReCall
import HandS.Dict
import HandS.ListItems
import KE.KDictPairs
import KE.KDictCopyH
import KE.KEqDict
import HandS.Lambda
import HandS.Style
import KE.KDictKeyed
import PyProof.StrBlock2
import HandS.EndTab
section
set_option autoImplicit false
set_option maxHeartbeats 4000000
set_option linter.all false
/-! Rows as plain lists of whole numbers: least form, turning, scaling, keeping. No program in sight. -/
namespace K5

abbrev Row := List Int × Int

/-- the greatest common divisor, from the left -/
def gcdF (g : Nat) (l : List Int) : Nat := l.foldl (fun g x => Nat.gcd g x.natAbs) g
def gcdL (l : List Int) : Nat := gcdF 0 l

theorem gcdF_cons (g : Nat) (x : Int) (l : List Int) : gcdF g (x :: l) = gcdF (Nat.gcd g x.natAbs) l := rfl
theorem gcdF_append (g : Nat) (l m : List Int) : gcdF g (l ++ m) = gcdF (gcdF g l) m := by
  unfold gcdF; rw [List.foldl_append]
theorem gcdF_dvd : ∀ (l : List Int) (g : Nat), gcdF g l ∣ g ∧ ∀ x ∈ l, gcdF g l ∣ x.natAbs
  | [], g => ⟨Nat.dvd_refl _, fun _ h => nomatch h⟩
  | x :: l, g => by
    obtain ⟨h1, h2⟩ := gcdF_dvd l (Nat.gcd g x.natAbs)
    rw [gcdF_cons]
    refine ⟨Nat.dvd_trans h1 (Nat.gcd_dvd_left _ _), fun y hy => ?_⟩
    rcases List.mem_cons.mp hy with e | hy
    · rw [e]; exact Nat.dvd_trans h1 (Nat.gcd_dvd_right _ _)
    · exact h2 y hy
theorem gcdF_great : ∀ (l : List Int) (g d : Nat), d ∣ g → (∀ x ∈ l, d ∣ x.natAbs) → d ∣ gcdF g l
  | [], _, _, h, _ => h
  | x :: l, g, d, h, hl => by
    rw [gcdF_cons]
    exact gcdF_great l _ d (Nat.dvd_gcd h (hl x List.mem_cons_self)) fun y hy => hl y (List.mem_cons_of_mem _ hy)
theorem gcdL_dvd {l : List Int} {x : Int} (h : x ∈ l) : ((gcdL l : Nat) : Int) ∣ x := Int.ofNat_dvd_left.mpr ((gcdF_dvd l 0).2 x h)
theorem gcdF_mul (k : Int) : ∀ (l : List Int) (g : Nat), gcdF (k.natAbs * g) (l.map (k * ·)) = k.natAbs * gcdF g l
  | [], _ => rfl
  | x :: l, g => by
    rw [List.map_cons, gcdF_cons, gcdF_cons, Int.natAbs_mul, Nat.gcd_mul_left]
    exact gcdF_mul k l _
theorem gcdL_mul (k : Int) (l : List Int) : gcdL (l.map (k * ·)) = k.natAbs * gcdL l := by
  have h := gcdF_mul k l 0
  rw [Nat.mul_zero] at h
  exact h
theorem gcdL_congr {l m : List Int} (h : ∀ d : Nat, (∀ x ∈ l, d ∣ x.natAbs) ↔ ∀ x ∈ m, d ∣ x.natAbs) : gcdL l = gcdL m :=
  Nat.dvd_antisymm (gcdF_great m 0 _ (Nat.dvd_zero _) ((h _).mp (gcdF_dvd l 0).2)) (gcdF_great l 0 _ (Nat.dvd_zero _) ((h _).mpr (gcdF_dvd m 0).2))
theorem gcdL_perm {l m : List Int} (h : l.Perm m) : gcdL l = gcdL m := gcdL_congr fun d => ⟨fun a x hx => a x (h.mem_iff.mpr hx), fun a x hx => a x (h.mem_iff.mp hx)⟩
theorem gcdL_pos {l : List Int} {x : Int} (h : x ∈ l) (hx : x ≠ 0) : 0 < gcdL l := by
  rcases Nat.eq_zero_or_pos (gcdL l) with e | e
  · have d := (gcdF_dvd l 0).2 x h
    rw [show gcdF 0 l = 0 from e] at d
    have := Nat.eq_zero_of_zero_dvd d
    omega
  · exact e
theorem gcdL_zero {l : List Int} : gcdL l = 0 ↔ ∀ x ∈ l, x = 0 := by
  constructor
  · intro h x hx
    by_cases e : x = 0
    · exact e
    · have := gcdL_pos hx e; omega
  · intro h
    have d : (0 : Nat) ∣ gcdL l := gcdF_great l 0 0 (Nat.dvd_refl _) fun x hx => by rw [h x hx]; exact Nat.dvd_refl _
    exact Nat.eq_zero_of_zero_dvd d

/-! ### the least form -/
def ents (r : Row) : List Int := r.1 ++ [r.2]
def least (r : Row) : Row := (r.1.map fun x => x / (gcdL (ents r) : Int), r.2 / (gcdL (ents r) : Int))
/-- p times r is q times r', p and q above 0 -/
def Pr (r r' : Row) : Prop := ∃ p q : Int, 0 < p ∧ 0 < q ∧ r.1.map (p * ·) = r'.1.map (q * ·) ∧ p * r.2 = q * r'.2
def NZ (c : List Int) : Prop := ∃ x ∈ c, x ≠ 0
/-- a row in least form for n names -/
structure RowOk (n : Nat) (r : Row) : Prop where
  len : r.1.length = n
  nz : NZ r.1
  one : gcdL (ents r) = 1

theorem ents_map (p : Int) (r : Row) : (ents r).map (p * ·) = r.1.map (p * ·) ++ [p * r.2] := by unfold ents; simp
theorem NZ.ents {r : Row} (h : NZ r.1) : 0 < gcdL (ents r) := by
  obtain ⟨x, hx, hn⟩ := h
  exact gcdL_pos (List.mem_append_left _ hx) hn
theorem Pr.symm {r s : Row} (h : Pr r s) : Pr s r := by
  obtain ⟨p, q, hp, hq, e1, e2⟩ := h
  exact ⟨q, p, hq, hp, e1.symm, e2.symm⟩
theorem Pr.refl (r : Row) : Pr r r := ⟨1, 1, by decide, by decide, rfl, rfl⟩
theorem map_mul_mul (a b : Int) (l : List Int) : (l.map (b * ·)).map (a * ·) = l.map ((a * b) * ·) := by
  rw [List.map_map]; apply List.map_congr_left; intro x _; show a * (b * x) = a * b * x; rw [Int.mul_assoc]
theorem Pr.trans {r s t : Row} (h : Pr r s) (k : Pr s t) : Pr r t := by
  obtain ⟨p, q, hp, hq, e1, e2⟩ := h
  obtain ⟨p', q', hp', hq', f1, f2⟩ := k
  refine ⟨p' * p, q * q', Int.mul_pos hp' hp, Int.mul_pos hq hq', ?_, ?_⟩
  · rw [← map_mul_mul, e1, map_mul_mul, Int.mul_comm p' q, ← map_mul_mul, f1, map_mul_mul]
  · grind
theorem map_mul_inj {k : Int} (hk : k ≠ 0) {l m : List Int} (h : l.map (k * ·) = m.map (k * ·)) : l = m :=
  (List.map_inj_right (f := fun x => k * x) (fun x y e => Int.eq_of_mul_eq_mul_left hk e)).mp h
/-- two proportional rows without a common divisor are one -/
theorem Pr.eq {r s : Row} (h : Pr r s) (h1 : gcdL (ents r) = 1) (h2 : gcdL (ents s) = 1) : r = s := by
  obtain ⟨p, q, hp, hq, e1, e2⟩ := h
  have e : (ents r).map (p * ·) = (ents s).map (q * ·) := by rw [ents_map, ents_map, e1, e2]
  have g := congrArg gcdL e
  rw [gcdL_mul, gcdL_mul, h1, h2] at g
  have pq : p = q := by omega
  subst pq
  have hp' : p ≠ 0 := by omega
  exact Prod.ext (map_mul_inj hp' e1) (Int.eq_of_mul_eq_mul_left hp' e2)
theorem least_ents (r : Row) : (ents (least r)).map ((gcdL (ents r) : Int) * ·) = ents r := by
  have key : ∀ x ∈ ents r, (gcdL (ents r) : Int) * (x / (gcdL (ents r) : Int)) = x := fun x hx => Int.mul_ediv_cancel' (gcdL_dvd hx)
  have e : ents (least r) = (ents r).map fun x => x / (gcdL (ents r) : Int) := by unfold ents least; simp [ents]
  rw [e, List.map_map]
  exact (List.map_congr_left key).trans (List.map_id' _)
theorem least_one {r : Row} (h : 0 < gcdL (ents r)) : gcdL (ents (least r)) = 1 := by
  have g := congrArg gcdL (least_ents r)
  rw [gcdL_mul] at g
  have z : (gcdL (ents r) : Int).natAbs = gcdL (ents r) := Int.natAbs_natCast _
  rw [z] at g
  exact Nat.eq_of_mul_eq_mul_left h (by rw [g, Nat.mul_one])
theorem least_pr {r : Row} (h : 0 < gcdL (ents r)) : Pr (least r) r := by
  have e := least_ents r
  rw [ents_map] at e
  unfold ents at e
  obtain ⟨e1, e2⟩ := List.append_inj e (by simp [least])
  refine ⟨(gcdL (ents r) : Int), 1, by omega, by decide, ?_, ?_⟩
  · have : r.1.map ((1 : Int) * ·) = r.1 := by
      rw [show (fun x : Int => 1 * x) = id from funext fun x => Int.one_mul x, List.map_id]
    rw [this]; exact e1
  · rw [Int.one_mul]; exact (List.cons.inj e2).1
theorem least_len (r : Row) : (least r).1.length = r.1.length := by unfold least; simp
theorem NZ.of_pr {r s : Row} (h : Pr r s) (z : NZ s.1) : NZ r.1 := by
  obtain ⟨p, q, hp, hq, e1, _⟩ := h
  obtain ⟨x, hx, hn⟩ := z
  have m : q * x ∈ r.1.map (p * ·) := by rw [e1]; exact List.mem_map.mpr ⟨x, hx, rfl⟩
  obtain ⟨y, hy, e⟩ := List.mem_map.mp m
  refine ⟨y, hy, fun y0 => hn ?_⟩
  rw [y0] at e
  have : q * x = 0 := by rw [← e]; simp
  rcases Int.mul_eq_zero.mp this with z | z
  · omega
  · exact z
theorem least_ok {n : Nat} {r : Row} (hl : r.1.length = n) (hz : NZ r.1) : RowOk n (least r) :=
  ⟨(least_len r).trans hl, NZ.of_pr (least_pr hz.ents) hz, least_one hz.ents⟩
theorem least_self {r : Row} (h : gcdL (ents r) = 1) : least r = r := by
  unfold least
  rw [h]
  simp

/-! ### weights -/
/-- each coefficient times its weight, the bound times a weight -/
def app (W : Nat → Int) (wb : Int) (r : Row) : Row := (r.1.mapIdx fun k x => x * W k, r.2 * wb)
theorem app_len (W : Nat → Int) (wb : Int) (r : Row) : (app W wb r).1.length = r.1.length := by unfold app; simp
theorem list_ext {l m : List Int} (hl : l.length = m.length) (h : ∀ (i : Nat) (x y : Int), l[i]? = some x → m[i]? = some y → x = y) : l = m := by
  apply List.ext_getElem hl
  intro i h1 h2
  exact h i _ _ (List.getElem?_eq_getElem h1) (List.getElem?_eq_getElem h2)
theorem mapIdx_congr {c : List Int} {f g : Nat → Int → Int} (h : ∀ k x, f k x = g k x) : c.mapIdx f = c.mapIdx g := by
  rw [show f = g from funext fun k => funext fun x => h k x]
theorem map_mapIdx_ (g : Int → Int) : ∀ (c : List Int) (f : Nat → Int → Int), (c.mapIdx f).map g = c.mapIdx fun k x => g (f k x)
  | [], _ => rfl
  | x :: c, f => by
    rw [List.mapIdx_cons, List.mapIdx_cons, List.map_cons, map_mapIdx_ g c]
theorem mapIdx_map_ (g : Int → Int) : ∀ (c : List Int) (f : Nat → Int → Int), (c.map g).mapIdx f = c.mapIdx fun k x => f k (g x)
  | [], _ => rfl
  | x :: c, f => by
    rw [List.map_cons, List.mapIdx_cons, List.mapIdx_cons, mapIdx_map_ g c]
theorem app_app (W V : Nat → Int) (wb vb : Int) (r : Row) : app V vb (app W wb r) = app (fun k => W k * V k) (wb * vb) r := by
  unfold app
  rw [List.mapIdx_mapIdx]
  exact Prod.ext (mapIdx_congr fun k x => Int.mul_assoc _ _ _) (Int.mul_assoc _ _ _)
theorem app_one (r : Row) : app (fun _ => 1) 1 r = r := by
  unfold app
  refine Prod.ext (list_ext (by simp) fun i x y h1 h2 => ?_) (Int.mul_one _)
  rw [List.getElem?_mapIdx] at h1
  rw [h2] at h1
  simp at h1
  exact h1.symm
theorem app_map (W : Nat → Int) (wb p : Int) (r : Row) : (app W wb r).1.map (p * ·) = (r.1.map (p * ·)).mapIdx (fun k x => x * W k) := by
  unfold app
  rw [mapIdx_map_]
  show (r.1.mapIdx fun k x => x * W k).map (p * ·) = _
  rw [map_mapIdx_]
  exact mapIdx_congr fun k x => (Int.mul_assoc p x (W k)).symm
theorem Pr.app {r s : Row} (h : Pr r s) (W : Nat → Int) (wb : Int) : Pr (app W wb r) (app W wb s) := by
  obtain ⟨p, q, hp, hq, e1, e2⟩ := h
  refine ⟨p, q, hp, hq, ?_, ?_⟩
  · rw [app_map, app_map, e1]
  · show p * (r.2 * wb) = q * (s.2 * wb)
    rw [← Int.mul_assoc, ← Int.mul_assoc, e2]
theorem app_scale {W V : Nat → Int} {wb vb p q : Int} (hp : 0 < p) (hq : 0 < q) (h : ∀ k, p * W k = q * V k) (hb : p * wb = q * vb) (r : Row) : Pr (app W wb r) (app V vb r) := by
  refine ⟨p, q, hp, hq, ?_, ?_⟩
  · unfold app
    show (r.1.mapIdx fun k x => x * W k).map (p * ·) = (r.1.mapIdx fun k x => x * V k).map (q * ·)
    rw [map_mapIdx_, map_mapIdx_]
    refine mapIdx_congr fun k x => ?_
    have := h k
    show p * (x * W k) = q * (x * V k)
    grind
  · show p * (r.2 * wb) = q * (r.2 * vb)
    grind
theorem app_nz {W : Nat → Int} {wb : Int} {r : Row} (hW : ∀ k, W k ≠ 0) (h : NZ r.1) : NZ (app W wb r).1 := by
  obtain ⟨x, hx, hn⟩ := h
  obtain ⟨i, hi, e⟩ := List.mem_iff_getElem.mp hx
  refine ⟨x * W i, List.mem_iff_getElem.mpr ⟨i, by rw [app_len]; exact hi, ?_⟩, fun z => ?_⟩
  · unfold app; simp [e]
  · rcases Int.mul_eq_zero.mp z with z | z
    · exact hn z
    · exact hW i z

/-- r' is r with the weights W, wb, up to a factor above 0, without a common divisor -/
structure IsL (W : Nat → Int) (wb : Int) (r r' : Row) : Prop where
  one : gcdL (ents r') = 1
  pr : Pr r' (app W wb r)
theorem IsL.self {r : Row} (h : gcdL (ents r) = 1) : IsL (fun _ => 1) 1 r r := ⟨h, by rw [app_one]; exact Pr.refl r⟩
theorem IsL.comp {W V : Nat → Int} {wb vb : Int} {r s t : Row} (a : IsL W wb r s) (b : IsL V vb s t) : IsL (fun k => W k * V k) (wb * vb) r t :=
  ⟨b.one, b.pr.trans (by rw [← app_app]; exact a.pr.app V vb)⟩
theorem IsL.uniq {W V : Nat → Int} {wb vb p q : Int} {r s t : Row} (a : IsL W wb r s) (b : IsL V vb r t) (hp : 0 < p) (hq : 0 < q) (h : ∀ k, p * W k = q * V k) (hb : p * wb = q * vb) : s = t :=
  (a.pr.trans ((app_scale hp hq h hb r).trans b.pr.symm)).eq a.one b.one

/-! ### turning and scaling -/
def wT (at_ : Nat) (k : Nat) : Int := if k = at_ then -1 else 1
def wS (at_ : Nat) (t d : Int) (k : Nat) : Int := if k = at_ then t else d
def turnR (at_ : Nat) (r : Row) : Row := app (wT at_) 1 r
def scaleR (at_ : Nat) (t d : Int) (r : Row) : Row := least (app (wS at_ t d) d r)

theorem turn_one {r : Row} (at_ : Nat) (h : gcdL (ents r) = 1) : gcdL (ents (turnR at_ r)) = 1 := by
  rw [← h]
  refine gcdL_congr fun d => ?_
  have key : ∀ (i : Nat) (x y : Int), (turnR at_ r).1[i]? = some x → r.1[i]? = some y → x.natAbs = y.natAbs := by
    intro i x y h1 h2
    unfold turnR app at h1
    rw [List.getElem?_mapIdx, h2] at h1
    have e : y * wT at_ i = x := by simpa using h1
    rw [← e, Int.natAbs_mul]
    unfold wT
    split <;> simp
  have len : (turnR at_ r).1.length = r.1.length := app_len _ _ _
  have b : (turnR at_ r).2 = r.2 := Int.mul_one _
  constructor
  · intro a x hx
    rcases List.mem_append.mp hx with hx | hx
    · obtain ⟨i, hi, e⟩ := List.mem_iff_getElem.mp hx
      have hi' : i < (turnR at_ r).1.length := by rw [len]; exact hi
      have := a _ (List.mem_append_left _ (List.getElem_mem hi'))
      rw [key i _ x (List.getElem?_eq_getElem hi') (by rw [← e]; exact List.getElem?_eq_getElem hi)] at this
      exact this
    · exact a x (List.mem_append_right _ (by rw [b]; exact hx))
  · intro a x hx
    rcases List.mem_append.mp hx with hx | hx
    · obtain ⟨i, hi, e⟩ := List.mem_iff_getElem.mp hx
      have hi' : i < r.1.length := by rw [← len]; exact hi
      have := a _ (List.mem_append_left _ (List.getElem_mem hi'))
      rw [key i x _ (by rw [← e]; exact List.getElem?_eq_getElem hi) (List.getElem?_eq_getElem hi')]
      exact this
    · exact a x (List.mem_append_right _ (by rw [b] at hx; exact hx))
theorem turn_is {r : Row} (at_ : Nat) (h : gcdL (ents r) = 1) : IsL (wT at_) 1 r (turnR at_ r) := ⟨turn_one at_ h, Pr.refl _⟩
theorem turn_ok {n : Nat} {r : Row} (at_ : Nat) (h : RowOk n r) : RowOk n (turnR at_ r) :=
  ⟨(app_len _ _ _).trans h.len, app_nz (fun k => by unfold wT; split <;> decide) h.nz, turn_one at_ h.one⟩
theorem wS_ne {at_ : Nat} {t d : Int} (ht : 0 < t) (hd : 0 < d) (k : Nat) : wS at_ t d k ≠ 0 := by unfold wS; split <;> omega
theorem scale_is {n : Nat} {r : Row} {t d : Int} (at_ : Nat) (ht : 0 < t) (hd : 0 < d) (h : RowOk n r) : IsL (wS at_ t d) d r (scaleR at_ t d r) :=
  have z : NZ (app (wS at_ t d) d r).1 := app_nz (wS_ne ht hd) h.nz
  ⟨least_one z.ents, least_pr z.ents⟩
theorem scale_ok {n : Nat} {r : Row} {t d : Int} (at_ : Nat) (ht : 0 < t) (hd : 0 < d) (h : RowOk n r) : RowOk n (scaleR at_ t d r) :=
  least_ok ((app_len _ _ _).trans h.len) (app_nz (wS_ne ht hd) h.nz)

theorem turn_turn {n : Nat} {r : Row} (at_ : Nat) (h : RowOk n r) : turnR at_ (turnR at_ r) = r :=
  ((turn_is at_ h.one).comp (turn_is at_ (turn_ok at_ h).one)).uniq (IsL.self h.one) (p := 1) (q := 1) (by decide) (by decide)
    (fun k => by unfold wT; split <;> rfl) rfl
theorem scale_back {n : Nat} {r : Row} {t d : Int} (at_ : Nat) (ht : 0 < t) (hd : 0 < d) (h : RowOk n r) : scaleR at_ d t (scaleR at_ t d r) = r :=
  ((scale_is at_ ht hd h).comp (scale_is at_ hd ht (scale_ok at_ ht hd h))).uniq (IsL.self h.one) (p := 1) (q := t * d) (by decide) (Int.mul_pos ht hd)
    (fun k => by unfold wS; split <;> grind) (by grind)
/-- two factors, and their product in lowest terms -/
theorem scale_scale {n : Nat} {r : Row} {t d c e x y g : Int} (at_ : Nat) (ht : 0 < t) (hd : 0 < d) (hc : 0 < c) (he : 0 < e) (hx : 0 < x) (hy : 0 < y) (hg : 0 < g) (e1 : t * c = g * x) (e2 : d * e = g * y) (h : RowOk n r) :
    scaleR at_ c e (scaleR at_ t d r) = scaleR at_ x y r :=
  ((scale_is at_ ht hd h).comp (scale_is at_ hc he (scale_ok at_ ht hd h))).uniq (scale_is at_ hx hy h) (p := 1) (q := g) (by decide) hg
    (fun k => by unfold wS; split <;> grind) (by grind)
theorem turn_scale {n : Nat} {r : Row} {t d : Int} (at_ : Nat) (ht : 0 < t) (hd : 0 < d) (h : RowOk n r) : turnR at_ (scaleR at_ t d r) = scaleR at_ t d (turnR at_ r) :=
  ((scale_is at_ ht hd h).comp (turn_is at_ (scale_ok at_ ht hd h).one)).uniq ((turn_is at_ h.one).comp (scale_is at_ ht hd (turn_ok at_ h))) (p := 1) (q := 1) (by decide) (by decide)
    (fun k => by grind) (by grind)
theorem turn_scale_scale {n : Nat} {r : Row} {t d c e : Int} (i j : Nat) (ht : 0 < t) (hd : 0 < d) (hc : 0 < c) (he : 0 < e) (h : RowOk n r) :
    turnR j (scaleR j c e (scaleR i t d r)) = scaleR i t d (scaleR j c e (turnR j r)) :=
  have o1 := scale_ok i ht hd h
  have o2 := scale_ok j hc he o1
  have p1 := turn_ok j h
  have p2 := scale_ok j hc he p1
  (((scale_is i ht hd h).comp (scale_is j hc he o1)).comp (turn_is j o2.one)).uniq (((turn_is j h.one).comp (scale_is j hc he p1)).comp (scale_is i ht hd p2)) (p := 1) (q := 1) (by decide) (by decide)
    (fun k => by grind) (by grind)

/-! ### keeping a row: what the law reckons -/
/-- the law's own loop: (top, bottom) -/
def keepF : List Int → List (Int × Int) → Int → Int → Int × Int
  | c :: cs, p :: ps, T, B => keepF cs ps (T * p.2 + c * p.1 * B) (B * p.2)
  | _, _, T, B => (T, B)
def kept (r : Row) (ps : List (Int × Int)) : Bool := decide (0 ≤ (keepF r.1 ps (0 - r.2) 1).1)
/-- the product of the bottoms, the sum's top over it -/
def bots : List Int → List (Int × Int) → Int
  | _ :: cs, p :: ps => p.2 * bots cs ps
  | _, _ => 1
def sumT : List Int → List (Int × Int) → Int
  | c :: cs, p :: ps => c * p.1 * bots cs ps + p.2 * sumT cs ps
  | _, _ => 0
theorem keepF_eq : ∀ (cs : List Int) (ps : List (Int × Int)) (T B : Int), (keepF cs ps T B).1 = T * bots cs ps + B * sumT cs ps
  | [], [], T, B => by simp [keepF, bots, sumT]
  | [], _ :: _, T, B => by simp [keepF, bots, sumT]
  | _ :: _, [], T, B => by simp [keepF, bots, sumT]
  | c :: cs, p :: ps, T, B => by
    rw [keepF, keepF_eq cs ps, bots, sumT]
    grind
theorem kept_eq (r : Row) (ps : List (Int × Int)) : kept r ps = decide (r.2 * bots r.1 ps ≤ sumT r.1 ps) := by
  unfold kept
  rw [keepF_eq]
  apply decide_eq_decide.mpr
  constructor <;> intro h <;> grind
theorem bots_pos : ∀ (cs : List Int) (ps : List (Int × Int)), (∀ p ∈ ps, 0 < p.2) → 0 < bots cs ps
  | [], [], _ => by simp [bots]
  | [], _ :: _, _ => by simp [bots]
  | _ :: _, [], _ => by simp [bots]
  | c :: cs, p :: ps, h => by
    rw [bots]
    exact Int.mul_pos (h p List.mem_cons_self) (bots_pos cs ps fun q hq => h q (List.mem_cons_of_mem _ hq))
theorem bots_len : ∀ (cs ds : List Int) (ps : List (Int × Int)), cs.length = ds.length → bots cs ps = bots ds ps
  | [], [], _, _ => rfl
  | _ :: cs, _ :: ds, [], _ => rfl
  | _ :: cs, _ :: ds, p :: ps, h => by
    rw [bots, bots, bots_len cs ds ps (by simpa using h)]
theorem sumT_map (k : Int) : ∀ (cs : List Int) (ps : List (Int × Int)), sumT (cs.map (k * ·)) ps = k * sumT cs ps
  | [], ps => by cases ps <;> simp [sumT]
  | _ :: _, [] => by simp [sumT]
  | c :: cs, p :: ps => by
    rw [List.map_cons, sumT, sumT, sumT_map k cs ps, bots_len (cs.map (k * ·)) cs ps (by simp)]
    grind
theorem kept_pr {r s : Row} (h : Pr r s) (hl : r.1.length = s.1.length) (ps : List (Int × Int)) : kept r ps = kept s ps := by
  obtain ⟨p, q, hp, hq, e1, e2⟩ := h
  rw [kept_eq, kept_eq, bots_len r.1 s.1 ps hl]
  have e := congrArg (fun c => sumT c ps) e1
  simp only [sumT_map] at e
  have f : p * (r.2 * bots s.1 ps) = q * (s.2 * bots s.1 ps) := by rw [← Int.mul_assoc, e2, Int.mul_assoc]
  apply decide_eq_decide.mpr
  constructor
  · intro z
    have z1 : p * (r.2 * bots s.1 ps) ≤ p * sumT r.1 ps := Int.mul_le_mul_of_nonneg_left z (Int.le_of_lt hp)
    rw [f, e] at z1
    exact Int.le_of_mul_le_mul_left z1 hq
  · intro z
    have z1 : q * (s.2 * bots s.1 ps) ≤ q * sumT s.1 ps := Int.mul_le_mul_of_nonneg_left z (Int.le_of_lt hq)
    rw [← f, ← e] at z1
    exact Int.le_of_mul_le_mul_left z1 hp
/-- a row with weights at a moved point: each weight times the moved fraction is d times the fraction -/
theorem sum_moved (d : Int) : ∀ (cs : List Int) (ps qs : List (Int × Int)) (W : Nat → Int), ps.length = qs.length →
    (∀ i p q, ps[i]? = some p → qs[i]? = some q → W i * q.1 * p.2 = d * p.1 * q.2) →
    bots cs ps * sumT (cs.mapIdx fun k x => x * W k) qs = d * bots cs qs * sumT cs ps
  | [], ps, qs, W, _, _ => by cases ps <;> cases qs <;> simp [sumT, bots]
  | _ :: _, [], [], _, _, _ => by simp [sumT, bots]
  | _ :: _, [], _ :: _, _, h, _ => by simp at h
  | _ :: _, _ :: _, [], _, h, _ => by simp at h
  | c :: cs, p :: ps, q :: qs, W, hl, h => by
    have ih := sum_moved d cs ps qs (fun k => W (k + 1)) (by simpa using hl) (fun i p' q' h1 h2 => h (i + 1) p' q' (by simpa using h1) (by simpa using h2))
    have h0 := h 0 p q rfl rfl
    rw [List.mapIdx_cons, sumT, sumT, bots, bots, bots_len (cs.mapIdx fun k x => x * W (k + 1)) cs qs (by simp)]
    grind
theorem kept_moved {d : Int} {r : Row} {W : Nat → Int} {ps qs : List (Int × Int)} (hd : 0 < d) (hl : ps.length = qs.length) (hp : ∀ p ∈ ps, 0 < p.2) (hq : ∀ p ∈ qs, 0 < p.2)
    (h : ∀ i p q, ps[i]? = some p → qs[i]? = some q → W i * q.1 * p.2 = d * p.1 * q.2) : kept (app W d r) qs = kept r ps := by
  rw [kept_eq, kept_eq]
  have e := sum_moved d r.1 ps qs W hl h
  have b1 := bots_pos r.1 ps hp
  have b2 := bots_pos r.1 qs hq
  have eb : bots (app W d r).1 qs = bots r.1 qs := bots_len _ _ _ (app_len _ _ _)
  rw [eb]
  show decide (r.2 * d * bots r.1 qs ≤ sumT (r.1.mapIdx fun k x => x * W k) qs) = _
  apply decide_eq_decide.mpr
  have hdq : 0 < d * bots r.1 qs := Int.mul_pos hd b2
  constructor
  · intro z
    have z1 := Int.mul_le_mul_of_nonneg_left z (Int.le_of_lt b1)
    rw [e] at z1
    refine Int.le_of_mul_le_mul_left (a := d * bots r.1 qs) ?_ hdq
    calc d * bots r.1 qs * (r.2 * bots r.1 ps) = bots r.1 ps * (r.2 * d * bots r.1 qs) := by grind
      _ ≤ _ := z1
  · intro z
    have z1 := Int.mul_le_mul_of_nonneg_left z (Int.le_of_lt hdq)
    rw [← e] at z1
    refine Int.le_of_mul_le_mul_left (a := bots r.1 ps) ?_ b1
    calc bots r.1 ps * (r.2 * d * bots r.1 qs) = d * bots r.1 qs * (r.2 * bots r.1 ps) := by grind
      _ ≤ _ := z1
theorem kept_is {d : Int} {n : Nat} {r r' : Row} {W : Nat → Int} {ps qs : List (Int × Int)} (a : IsL W d r r') (l1 : r.1.length = n) (l2 : r'.1.length = n) (hd : 0 < d) (hl : ps.length = qs.length) (hp : ∀ p ∈ ps, 0 < p.2) (hq : ∀ p ∈ qs, 0 < p.2)
    (h : ∀ i p q, ps[i]? = some p → qs[i]? = some q → W i * q.1 * p.2 = d * p.1 * q.2) : kept r' qs = kept r ps :=
  (kept_pr a.pr (by rw [app_len, l1, l2]) qs).trans (kept_moved hd hl hp hq h)
end K5
end

section
set_option Elab.async false
set_option linter.all false
set_option maxRecDepth 100000
set_option maxHeartbeats 0
/-! The text by places; what the run of the top leaves, told by names. -/
namespace K5
open PySem PySem.Spec PyProof.Rows L2
def top (i : Nat) : Stmt := PySem.Challenge.pw_rowalone_k05_whole_other_unknowns.main.body.getD i (.Pass ⟨0, 0, 0, 0⟩)
def dF (x : Str) (s : Stmt) : He.DefD := ⟨(x, none), x, x, defArgs s, defBody s, defScope s, [], []⟩
def dM (C m q : Str) (s : Stmt) : He.DefD := ⟨(C, some m), m, q, defArgs s, defBody s, defScope s, [], []⟩
def fn : List He.DefD :=
  [dF "is_integer" (top 10), dF "is_name" (top 11), dF "is_name_lot" (top 12), dF "divisor_of" (top 14), dF "is_fraction" (top 15), dF "common_divisor" (top 17), dF "is_row" (top 18), dF "check_system" (top 19),
   dM "System" "__init__" "System.__init__" (inClass (top 20) 0), dM "System" "__eq__" "System.__eq__" (inClass (top 20) 1),
   dF "least_form" (top 21), dF "renamed" (top 22), dF "place_of" (top 23), dF "turned" (top 24), dF "scaled" (top 25),
   dF "_law_box" (top 27), dF "_law_take" (top 28), dF "_law_pick" (top 29), dF "_law_names" (top 30), dF "_law_common" (top 31), dF "_law_least" (top 32), dF "_law_rows" (top 33), dF "_law_fraction" (top 34),
   dF "_law_kept" (top 35), dF "_law_put" (top 36), dF "_law_scaled" (top 37), dF "_law_heard" (top 38), dF "_law_odd" (top 39), dF "_law_renamed_right" (top 40), dF "_law_refused_right" (top 41), dF "law" (top 42)]
/-- an own exception class, over another own one over ValueError -/
def oexB (K : PySem.W.Frag) (C : Addr) : Bool := (match K.lookup C with
  | some ⟨.type t, _, .cls cd, sl⟩ => (match cd.mro, sl.toList with
    | .ref C' :: bm, [_, _, _, _, some (.builtin n), _] => decide (t = "type") && (C' == C && (n == "ValueError.__new__" && (!cd.hasDel && (cd.hasDict && PySem.HandSPX.refsVE bm))))
    | _, _ => false)
  | _ => false) && (He.eqO (PySem.W.findIn K (.ref C) "__setattr__") (some (some (.builtin "object.__setattr__"))) && (decide (PySem.W.subIn K (.ref C) (.type "BaseException") = some true) && (decide (PySem.W.typeIn K (.ref C) = some (.type "type")) && PySem.W.keepIn K (.ref C))))
def ex (K : PySem.W.Frag) : Bool := oexB K (He.ga K "Refused") && oexB K (He.ga K "InvalidNumber")
def fa : List He.Fa :=
  [.glo "InvalidNumber", .glo "Refused", .glo "System", .int "LONGEST_NAME" 5, .int "MOST_NAMES" 6, .int "MOST_ROWS" 60, .str "LETTERS" "abcdefghijklmnopqrstuvwxyz", .cls "System", .mkr "System", .meth "System" "__eq__", .noat "System" "names", .noat "System" "rows",
   .exm "Refused" "Refused" true, .exm "Refused" "InvalidNumber" false, .exm "InvalidNumber" "Refused" false, .exm "InvalidNumber" "InvalidNumber" true]
  ++ ((["is_integer", "is_name", "is_name_lot", "divisor_of", "is_fraction", "common_divisor", "is_row", "check_system", "least_form", "renamed", "place_of", "turned", "scaled",
    "_law_box", "_law_take", "_law_pick", "_law_names", "_law_common", "_law_least", "_law_rows", "_law_fraction", "_law_kept", "_law_put", "_law_scaled", "_law_heard", "_law_odd", "_law_renamed_right", "_law_refused_right", "law"] : List Str).map He.Fa.glo)
  ++ ((["len", "abs", "isinstance", "int", "str", "bool", "tuple", "all", "any", "enumerate", "zip", "range", "sorted", "list", "dict", "set", "repr", "super", "ValueError"] : List Str).map He.Fa.free)
def tf : List He.Defn := [("_law_renamed_right", none), ("_law_refused_right", none)]
abbrev R : PySem.W.OpenRow := PySem.W.OpenLaw.row PySem.Challenge.rw_rowalone_k05_whole_other_unknowns
abbrev hk : PySem.W.Hook := He.hookX 5 fa fn [] tf ex
def ob (s : PySem.W.SharedT) : He.AlX := He.obsX 5 fa fn [] tf ex (HandSHeadRun.getT s)
theorem ob_eq (s : PySem.W.SharedT) : ob s = hk.obs s.abs := He.obsX_eq (HandSHeadRun.getT_eq s)
def loose : List Str := (["RowError", "InvalidSystem", "InvalidNumber", "Refused", "LETTERS", "LONGEST_NAME", "MOST_NAMES", "MOST_ROWS", "is_integer", "is_name", "is_name_lot", "divisor_of", "is_fraction", "common_divisor", "is_row", "check_system", "System", "least_form", "renamed"] : List Str)
  ++ (["place_of", "turned", "scaled", "_law_box", "_law_take", "_law_pick", "_law_names", "_law_common", "_law_least", "_law_rows", "_law_fraction", "_law_kept", "_law_put", "_law_scaled", "_law_heard", "_law_odd", "_law_renamed_right", "_law_refused_right"] : List Str)
end K5
end

section
set_option Elab.async false
set_option linter.all false
set_option maxRecDepth 100000
set_option maxHeartbeats 4000000
/-! Data that never change (tuples of tuples), as plain Lean data; what stays of the tracked heap; sorting, order, repr of such data. -/
namespace K5
open PySem PySem.Spec PyProof.Rows L2

/-! ### what stays -/
/-- what is never written once it stands -/
def fixB : HO → Bool
  | .tup _ => true
  | .frz _ _ => true
  | .ins _ _ _ => true
  | .own _ => true
  | .xd _ => true
  | .met _ _ => true
  | .rng _ _ => true
  | _ => false
def Fx (H H' : Hp) : Prop := ∀ a o, fixB o = true → H a = some o → H' a = some o
theorem Fx.refl (H : Hp) : Fx H H := fun _ _ _ e => e
theorem Fx.trans {H H1 H2 : Hp} (a : Fx H H1) (b : Fx H1 H2) : Fx H H2 := fun c o f e => b c o f (a c o f e)
theorem fx_same {H H' : Hp} (s : Same H H') : Fx H H' := fun a o _ e => s a o e
theorem Fx.upd {H : Hp} {p : Addr} {o : HO} (h : ∀ u, H p = some u → fixB u = false) : Fx H (upd H p o) := fun a u f e => by
  rw [upd_ne (fun z => by rw [z] at e; rw [h u e] at f; cases f)]
  exact e
theorem same_new {H : Hp} {p : Addr} {o : HO} (h : H p = none) : Same H (upd H p o) := fun a u e => by
  rw [upd_ne (ne_of_none e h)]
  exact e
/-- all that was tracked stays, but for b -/
def Kb (b : Addr) (H H' : Hp) : Prop := ∀ a o, a ≠ b → H a = some o → H' a = some o
theorem Kb.refl (b : Addr) (H : Hp) : Kb b H H := fun _ _ _ e => e
theorem Kb.trans {b : Addr} {H H1 H2 : Hp} (x : Kb b H H1) (y : Kb b H1 H2) : Kb b H H2 := fun a o n e => y a o n (x a o n e)
theorem Kb.of_same {b : Addr} {H H' : Hp} (s : Same H H') : Kb b H H' := fun a o _ e => s a o e
theorem Kb.put {b : Addr} {H : Hp} {o : HO} : Kb b H (upd H b o) := fun a u n e => by
  rw [upd_ne n]
  exact e
theorem Kb.fx {b : Addr} {H H' : Hp} (x : Kb b H H') (h : ∀ u, H b = some u → fixB u = false) : Fx H H' := fun a o f e =>
  x a o (fun z => by rw [z] at e; rw [h o e] at f; cases f) e

/-! ### data without lists -/
mutual
def tupD : PyData → Bool
  | .none => true
  | .bool _ => true
  | .int _ => true
  | .str _ => true
  | .tuple ds => tupDs ds
  | .list _ => false
  | .dict _ => false
def tupDs : List PyData → Bool
  | [] => true
  | d :: ds => tupD d && tupDs ds
end
theorem tupDs_all : ∀ {ds : List PyData}, (∀ d ∈ ds, tupD d = true) → tupDs ds = true
  | [], _ => rfl
  | d :: ds, h => by
    rw [tupDs, h d List.mem_cons_self, tupDs_all fun e he => h e (List.mem_cons_of_mem _ he)]
    rfl
theorem tupDs_mem : ∀ {ds : List PyData} {d : PyData}, tupDs ds = true → d ∈ ds → tupD d = true
  | [], _, _, h => nomatch h
  | e :: ds, d, t, h => by
    rw [tupDs, Bool.and_eq_true] at t
    rcases List.mem_cons.mp h with z | z
    · rw [z]; exact t.1
    · exact tupDs_mem t.2 z
section
variable {K : PySem.W.Frag} {H H' : Hp}
theorem SqT.fx {a : Addr} {xs : List V} (x : Fx H H') (h : SqT K H a xs) : SqT K H' a xs := by
  rcases h with (h | ⟨o, h⟩) | h
  · exact .inl (.inl (x _ _ rfl h))
  · exact .inl (.inr ⟨o, x _ _ rfl h⟩)
  · exact .inr h
mutual
theorem Dp.fx (x : Fx H H') : ∀ {d : PyData} {v : V}, tupD d = true → Dp K H v d → Dp K H' v d
  | .none, _, _, h => by cases h; exact .non
  | .bool _, _, _, h => by cases h; exact .bl _
  | .int _, _, _, h => by cases h; exact .int _
  | .str _, _, _, h => by cases h; exact .str _
  | .tuple ds, _, t, h => by
    cases h with
    | tup hs ha => exact .tup (SqT.fx x hs) (DpAll.fx x (by rw [tupD] at t; exact t) ha)
  | .list _, _, t, _ => by rw [tupD] at t; cases t
  | .dict _, _, t, _ => by rw [tupD] at t; cases t
theorem DpAll.fx (x : Fx H H') : ∀ {ds : List PyData} {vs : List V}, tupDs ds = true → DpAll K H vs ds → DpAll K H' vs ds
  | [], _, _, h => by cases h; exact .nil
  | d :: ds, _, t, h => by
    rw [tupDs, Bool.and_eq_true] at t
    cases h with
    | cons h1 h2 => exact .cons (Dp.fx x t.1 h1) (DpAll.fx x t.2 h2)
end
mutual
theorem Dp.same (x : Same H H') : ∀ {d : PyData} {v : V}, Dp K H v d → Dp K H' v d
  | .none, _, h => by cases h; exact .non
  | .bool _, _, h => by cases h; exact .bl _
  | .int _, _, h => by cases h; exact .int _
  | .str _, _, h => by cases h; exact .str _
  | .tuple ds, _, h => by
    cases h with
    | tup hs ha => exact .tup (SqT.fx (fx_same x) hs) (DpAll.same x ha)
  | .list _, _, h => by
    cases h with
    | lst hs ha => exact .lst (x.seq hs) (DpAll.same x ha)
  | .dict _, _, h => by cases h
theorem DpAll.same (x : Same H H') : ∀ {ds : List PyData} {vs : List V}, DpAll K H vs ds → DpAll K H' vs ds
  | [], _, h => by cases h; exact .nil
  | d :: ds, _, h => by
    cases h with
    | cons h1 h2 => exact .cons (Dp.same x h1) (DpAll.same x h2)
end
theorem DpAll.length : ∀ {ds : List PyData} {vs : List V}, DpAll K H vs ds → vs.length = ds.length
  | [], _, h => by cases h; rfl
  | d :: ds, _, h => by
    cases h with
    | cons _ h2 => rw [List.length_cons, List.length_cons, DpAll.length h2]
theorem DpAll.get : ∀ {ds : List PyData} {vs : List V} {i : Nat} {v : V}, DpAll K H vs ds → vs[i]? = some v → ∃ d, ds[i]? = some d ∧ Dp K H v d
  | [], _, _, _, h, e => by cases h; simp at e
  | d :: ds, _, 0, v, h, e => by
    cases h with
    | cons h1 h2 =>
      have z : _ = v := Option.some.inj e
      subst z
      exact ⟨d, rfl, h1⟩
  | d :: ds, _, i + 1, v, h, e => by
    cases h with
    | cons h1 h2 =>
      obtain ⟨d', e1, e2⟩ := DpAll.get (i := i) (v := v) h2 (by simpa using e)
      exact ⟨d', by simpa using e1, e2⟩
theorem DpAll.get' : ∀ {ds : List PyData} {vs : List V} {i : Nat} {d : PyData}, DpAll K H vs ds → ds[i]? = some d → ∃ v, vs[i]? = some v ∧ Dp K H v d
  | [], _, _, _, h, e => by simp at e
  | d :: ds, _, 0, d', h, e => by
    cases h with
    | cons h1 h2 =>
      have z : d = d' := Option.some.inj e
      subst z
      exact ⟨_, rfl, h1⟩
  | d :: ds, _, i + 1, d', h, e => by
    cases h with
    | cons h1 h2 =>
      obtain ⟨v, e1, e2⟩ := DpAll.get' (i := i) (d := d') h2 (by simpa using e)
      exact ⟨v, by simpa using e1, e2⟩
theorem DpAll.append : ∀ {ds es : List PyData} {vs ws : List V}, DpAll K H vs ds → DpAll K H ws es → DpAll K H (vs ++ ws) (ds ++ es)
  | [], _, _, _, h, k => by cases h; exact k
  | d :: ds, _, _, _, h, k => by
    cases h with
    | cons h1 h2 => exact .cons h1 (DpAll.append h2 k)
theorem DpAll.snoc {ds : List PyData} {vs : List V} {d : PyData} {v : V} (h : DpAll K H vs ds) (k : Dp K H v d) : DpAll K H (vs ++ [v]) (ds ++ [d]) := DpAll.append h (.cons k .nil)
theorem DpAll.take : ∀ {ds : List PyData} {vs : List V} (n : Nat), DpAll K H vs ds → DpAll K H (vs.take n) (ds.take n)
  | _, _, 0, _ => by rw [List.take_zero, List.take_zero]; exact .nil
  | [], _, n + 1, h => by cases h; exact .nil
  | d :: ds, _, n + 1, h => by
    cases h with
    | cons h1 h2 => exact .cons h1 (DpAll.take n h2)
theorem DpAll.drop : ∀ {ds : List PyData} {vs : List V} (n : Nat), DpAll K H vs ds → DpAll K H (vs.drop n) (ds.drop n)
  | _, _, 0, h => h
  | [], _, n + 1, h => by cases h; exact .nil
  | d :: ds, _, n + 1, h => by
    cases h with
    | cons h1 h2 => exact DpAll.drop n h2
theorem DpAll.set : ∀ {ds : List PyData} {vs : List V} {d : PyData} {v : V} (n : Nat), DpAll K H vs ds → Dp K H v d → DpAll K H (vs.set n v) (ds.set n d)
  | [], _, _, _, _, h, _ => by cases h; exact .nil
  | d :: ds, _, _, _, 0, h, k => by
    cases h with
    | cons h1 h2 => exact .cons k h2
  | d :: ds, _, _, _, n + 1, h, k => by
    cases h with
    | cons h1 h2 => exact .cons h1 (DpAll.set n h2 k)

/-! ### ints, texts -/
theorem Dp.int_inv {v : V} {i : Int} (h : Dp K H v (.int i)) : v = .int i := by cases h; rfl
theorem Dp.str_inv {v : V} {x : Str} (h : Dp K H v (.str x)) : v = .str x := by cases h; rfl
theorem DpAll.ints : ∀ (c : List Int), DpAll K H (c.map V.int) (c.map PyData.int)
  | [] => .nil
  | x :: c => .cons (.int x) (DpAll.ints c)
theorem DpAll.ints_inv : ∀ {c : List Int} {vs : List V}, DpAll K H vs (c.map PyData.int) → vs = c.map V.int
  | [], _, h => by cases h; rfl
  | x :: c, _, h => by
    cases h with
    | cons h1 h2 => rw [Dp.int_inv h1, DpAll.ints_inv h2]; rfl
theorem DpAll.strs : ∀ (c : List Str), DpAll K H (c.map V.str) (c.map PyData.str)
  | [] => .nil
  | x :: c => .cons (.str x) (DpAll.strs c)
theorem DpAll.strs_inv : ∀ {c : List Str} {vs : List V}, DpAll K H vs (c.map PyData.str) → vs = c.map V.str
  | [], _, h => by cases h; rfl
  | x :: c, _, h => by
    cases h with
    | cons h1 h2 => rw [Dp.str_inv h1, DpAll.strs_inv h2]; rfl
theorem Dp.tup_inv {v : V} {ds : List PyData} (h : Dp K H v (.tuple ds)) : ∃ a vs, v = .ref a ∧ SqT K H a vs ∧ DpAll K H vs ds := by
  cases h with
  | tup hs ha => exact ⟨_, _, rfl, hs, ha⟩
end

/-! ### rows, systems, as data -/
def encI (c : List Int) : PyData := .tuple (c.map .int)
def encR (r : List Int × Int) : PyData := .tuple [encI r.1, .int r.2]
def encRs (rs : List (List Int × Int)) : PyData := .tuple (rs.map encR)
def encN (ns : List Str) : PyData := .tuple (ns.map .str)
def encF (q : Int × Int) : PyData := .tuple [.int q.1, .int q.2]
theorem tup_ints (c : List Int) : tupDs (c.map PyData.int) = true := tupDs_all fun d hd => by
  obtain ⟨x, _, rfl⟩ := List.mem_map.mp hd
  rfl
theorem tup_strs (c : List Str) : tupDs (c.map PyData.str) = true := tupDs_all fun d hd => by
  obtain ⟨x, _, rfl⟩ := List.mem_map.mp hd
  rfl
theorem tup_I (c : List Int) : tupD (encI c) = true := by unfold encI; rw [tupD]; exact tup_ints c
theorem tup_R (r : List Int × Int) : tupD (encR r) = true := by unfold encR; rw [tupD, tupDs, tup_I, tupDs, tupDs, tupD]; rfl
theorem tup_Rl (rs : List (List Int × Int)) : tupDs (rs.map encR) = true := tupDs_all fun d hd => by
  obtain ⟨x, _, rfl⟩ := List.mem_map.mp hd
  exact tup_R x
theorem tup_Rs (rs : List (List Int × Int)) : tupD (encRs rs) = true := by unfold encRs; rw [tupD]; exact tup_Rl rs
theorem tup_N (ns : List Str) : tupD (encN ns) = true := by unfold encN; rw [tupD]; exact tup_strs ns
theorem tup_F (q : Int × Int) : tupD (encF q) = true := by unfold encF; rw [tupD, tupDs, tupD, tupDs, tupD, tupDs]; rfl
section
variable {K : PySem.W.Frag} {H : Hp}
theorem Dp.I_inv {v : V} {c : List Int} (h : Dp K H v (encI c)) : ∃ a, v = .ref a ∧ SqT K H a (c.map V.int) := by
  obtain ⟨a, vs, e, hs, ha⟩ := Dp.tup_inv h
  rw [DpAll.ints_inv ha] at hs
  exact ⟨a, e, hs⟩
theorem Dp.N_inv {v : V} {c : List Str} (h : Dp K H v (encN c)) : ∃ a, v = .ref a ∧ SqT K H a (c.map V.str) := by
  obtain ⟨a, vs, e, hs, ha⟩ := Dp.tup_inv h
  rw [DpAll.strs_inv ha] at hs
  exact ⟨a, e, hs⟩
theorem Dp.R_inv {v : V} {r : List Int × Int} (h : Dp K H v (encR r)) : ∃ a v1, v = .ref a ∧ SqT K H a [v1, .int r.2] ∧ Dp K H v1 (encI r.1) := by
  obtain ⟨a, vs, e, hs, ha⟩ := Dp.tup_inv h
  cases ha with
  | cons h1 h2 =>
    cases h2 with
    | cons h3 h4 =>
      cases h4
      rw [Dp.int_inv h3] at hs
      exact ⟨a, _, e, hs, h1⟩
theorem Dp.F_inv {v : V} {q : Int × Int} (h : Dp K H v (encF q)) : ∃ a, v = .ref a ∧ SqT K H a [.int q.1, .int q.2] := by
  obtain ⟨a, vs, e, hs, ha⟩ := Dp.tup_inv h
  cases ha with
  | cons h1 h2 =>
    cases h2 with
    | cons h3 h4 =>
      cases h4
      rw [Dp.int_inv h1, Dp.int_inv h3] at hs
      exact ⟨a, e, hs⟩
theorem Dp.I_of {a : Addr} {c : List Int} (h : SqT K H a (c.map V.int)) : Dp K H (.ref a) (encI c) := .tup h (DpAll.ints c)
theorem Dp.N_of {a : Addr} {c : List Str} (h : SqT K H a (c.map V.str)) : Dp K H (.ref a) (encN c) := .tup h (DpAll.strs c)
theorem Dp.R_of {a : Addr} {v1 : V} {c : List Int} {b : Int} (h : SqT K H a [v1, .int b]) (k : Dp K H v1 (encI c)) : Dp K H (.ref a) (encR (c, b)) := .tup h (.cons k (.cons (.int b) .nil))
theorem Dp.F_of {a : Addr} {p q : Int} (h : SqT K H a [.int p, .int q]) : Dp K H (.ref a) (encF (p, q)) := .tup h (.cons (.int p) (.cons (.int q) .nil))
end

/-! ### alike, of one shape -/
open PySem.W in
theorem alikeAll_of : ∀ {xs ys : List PyData}, (∀ x ∈ xs, ∀ y ∈ ys, alike x y = true) → alikeAll xs ys = true
  | [], [], _ => by rw [alikeAll]
  | [], _ :: _, _ => by rw [alikeAll]
  | _ :: _, [], _ => by rw [alikeAll]
  | x :: xs, y :: ys, h => by
    rw [alikeAll, h x List.mem_cons_self y List.mem_cons_self, alikeAll_of fun a ha b hb => h a (List.mem_cons_of_mem _ ha) b (List.mem_cons_of_mem _ hb)]
    rfl
open PySem.W in
theorem alike_I (c d : List Int) : alike (encI c) (encI d) = true := by
  unfold encI
  rw [alike]
  exact alike_ints c d
open PySem.W in
theorem alike_R (r s : List Int × Int) : alike (encR r) (encR s) = true := by
  unfold encR
  rw [alike, alikeAll, alike_I, alikeAll, alikeAll, alike]
  rfl
theorem depth_I (c : List Int) : (encI c).depth ≤ 1 := by
  unfold encI
  rw [PyData.depth, PySem.W.depth_ints]
  omega
theorem depthAll_le {n : Nat} : ∀ {ds : List PyData}, (∀ d ∈ ds, d.depth ≤ n) → PyData.depthAll ds ≤ n
  | [], _ => by rw [PyData.depthAll]; exact Nat.zero_le _
  | d :: ds, h => by
    rw [PyData.depthAll]
    have h1 := h d List.mem_cons_self
    have h2 := depthAll_le (n := n) fun e he => h e (List.mem_cons_of_mem _ he)
    omega
theorem depth_R (r : List Int × Int) : (encR r).depth ≤ 2 := by
  unfold encR
  rw [PyData.depth, PyData.depthAll, PyData.depthAll, PyData.depthAll, PyData.depth]
  have := depth_I r.1
  omega

/-! ### the order of alike data -/
section
variable {X : Cx}
/-- a < b of alike data -/
def rLtD (K : PySem.W.Frag) : R2 := fun x y H Q => ∃ d e, Dp K H x d ∧ Dp K H y e ∧ PySem.W.alike d e = true ∧ d ≠ .none ∧ d.depth ≤ 64 ∧ Q (.bl (PySem.W.dataLt d e)) H
theorem op_ltD (hu : X.A.units + 64 < cLine) : OpR X (compareOp .Lt) (rLtD X.K) := by
  intro pins s σ H x y v u Q I rx ry h
  obtain ⟨d, e, hd, he, al, nn, dp, q⟩ := h
  obtain ⟨as, r1⟩ := L2.Dp.reads I d x v hd rx
  obtain ⟨bs, r2⟩ := L2.Dp.reads I e y u he ry
  have hm : min d.depth e.depth ≤ d.depth := Nat.min_le_left _ _
  exact PySem.W.rcLt_alike d e X.A s v u as bs r1 r2 al nn (by omega) X.prog X.w X.xe (EP X pins σ Q) ⟨.bl _, H, I, rfl, q⟩

/-! ### sorted -/
theorem each_of {β : Type} {K : PySem.W.Frag} {H : Hp} (enc : β → PyData) : ∀ {bs : List β} {vs : List V} {us : List Value}, DpAll K H vs (bs.map enc) → Vals vs us →
    PySem.W.EachIs (fun u b => ∃ x, RelV x u ∧ Dp K H x (enc b)) us bs
  | [], _, _, h, r => by
    have h' : DpAll K H _ [] := h
    cases h'
    cases r
    exact .nil
  | b :: bs, _, _, h, r => by
    have h' : DpAll K H _ (enc b :: bs.map enc) := h
    cases h' with
    | cons h1 h2 =>
      cases r with
      | cons r1 r2 => exact .cons ⟨_, r1, h1⟩ (each_of enc h2 r2)
theorem of_each {β : Type} {K : PySem.W.Frag} {H : Hp} (enc : β → PyData) : ∀ {bs : List β} {us : List Value}, PySem.W.EachIs (fun u b => ∃ x, RelV x u ∧ Dp K H x (enc b)) us bs →
    ∃ vs, Vals vs us ∧ DpAll K H vs (bs.map enc)
  | _, _, .nil => ⟨[], .nil, .nil⟩
  | _, _, .cons ⟨x, r, d⟩ t => by
    obtain ⟨vs, r2, d2⟩ := of_each enc t
    exact ⟨x :: vs, .cons r r2, .cons d d2⟩
def rSortedD {β : Type} (K : PySem.W.Frag) (enc : β → PyData) : List V → Hp → VK → Prop := fun xs H Q => ∃ (a : Addr) (vs : List V) (bs : List β), xs = [.ref a] ∧ SqL K H a vs ∧ DpAll K H vs (bs.map enc) ∧
  PySem.W.AllAlike (bs.map enc) ∧ PySem.W.Sortable (bs.map enc) ∧ (∀ b ∈ bs, (enc b).depth ≤ 32) ∧ bs.length ≤ sizeLine ∧
  ∀ ws p, H p = none → DpAll K H ws ((bs.mergeSort (PySem.W.dataLe false enc)).map enc) → Q (.ref p) (upd H p (.lst ws))
theorem cr_sortedD {β : Type} (enc : β → PyData) (hu : X.A.units + 64 < cLine) : CallR X (.builtin "sorted") (rSortedD X.K enc) := by
  intro pins s σ H xs us Q I r h
  obtain ⟨a, vs, bs, rfl, hs, hd, al, so, dp, hz, q⟩ := h
  obtain ⟨its, rv, hl, _⟩ := I.list hs
  rw [Vals.ref1 r]
  have e := each_of enc hd rv
  refine PySem.W.sorted_data (vs := its) (bs := bs) (enc := enc) (R := fun u b => ∃ x, RelV x u ∧ Dp X.K H x (enc b)) hl.isList e (e.mono fun u b ⟨x, r1, d1⟩ => L2.Dp.reads I _ _ _ d1 r1) al so hz (fun b hb => ?_) fun out ho eo => ?_
  · have := dp b hb
    omega
  · obtain ⟨ws, r2, d2⟩ := of_each enc eo
    obtain ⟨ep, he'⟩ := PyProof.Rows.sortedAll_at s.heap its out.toArray
    have hlen : ws.length ≤ sizeLine := by rw [Paired.length r2, ho]; exact hz
    exact ⟨.ref _, upd H (s.heap.objs.size + 1) (.lst ws), I.laid (t' := s.toks) (fun _ _ => PyProof.Rows.sortedAll_old) (Nat.le_succ _) ⟨hlen, out, ep, r2, he'⟩, rfl, q ws _ (I.hok.fresh (Nat.le_succ _)) d2⟩
end
end K5
end

section
set_option Elab.async false
set_option linter.all false
set_option maxRecDepth 100000
set_option maxHeartbeats 4000000
/-! Defs by name, what they lean on; a comprehension that makes data; odd values. -/
namespace K5
open PySem PySem.Spec PyProof.Rows L2

/-! ### defs by name -/
def Def (K : PySem.W.Frag) (mg : Str → Option Value) (x : Str) (st : Stmt) (ps : List Str) : Prop :=
  ∃ f fd, mg x = some (.ref f) ∧ Fun K x x st f fd ∧ Binds K fd ps []
/-- a def that keeps a promise -/
def Ok (P : Program) (w : World) (K : PySem.W.Frag) (mg : Str → Option Value) (base : Heap) (CX : CXT) (k : Nat) (x : Str) (st : Stmt) (ps : List Str) (sp : Sp) : Prop :=
  ∃ f fd, mg x = some (.ref f) ∧ Fun K x x st f fd ∧ Binds K fd ps [] ∧ FnOk P w K mg base CX k f fd ps sp
theorem Ok.of {P : Program} {w : World} {K : PySem.W.Frag} {mg : Str → Option Value} {base : Heap} {CX : CXT} {k : Nat} {x : Str} {st : Stmt} {ps : List Str} {sp : Sp} (D : Def K mg x st ps)
    (h : ∀ f fd, Fun K x x st f fd → FnOk P w K mg base CX k f fd ps sp) : Ok P w K mg base CX k x st ps sp :=
  let ⟨f, fd, g, F, b⟩ := D
  ⟨f, fd, g, F, b, h f fd F⟩
theorem pe_c {X : Cx} {k : Nat} {x : Str} {st : Stmt} {ps : List Str} {sp : Sp} {e : Expr} {es : List Expr} {p pos : Pos} {t : TA} (O : Ok X.prog X.w X.K X.mg X.base CX0 k x st ps sp) (hr : Room k X.A) (ha : PA X (e :: es) t) (hg : Gl X x := by rfl)
    (hdb : (x == ("__debug__" : Str)) = false := by decide) (he : starEach (e :: es) X.env = (false, eval e X.env) :: starEach es X.env := by rfl) (hpl : (backTo pos (starEach es X.env)).any (·.1) = false := by rfl) :
    PE X (.Call (.Name x p) (e :: es) [] pos) (tCall sp [] E0 t) :=
  let ⟨_, _, g, F, b, G⟩ := O
  pe_call G hr hg g F.kp b .nil pass0 ha hdb he hpl
/-- .. of a def that may raise, where it does not -/
theorem pe_cN {X : Cx} {k : Nat} {x : Str} {st : Stmt} {ps : List Str} {sp : Sp} {e : Expr} {es : List Expr} {p pos : Pos} {t : TA} (O : Ok X.prog X.w X.K X.mg X.base (L2.CX X.prog X.w) k x st ps sp) (hr : Room k X.A) (ha : PA X (e :: es) t) (hg : Gl X x := by rfl)
    (hdb : (x == ("__debug__" : Str)) = false := by decide) (he : starEach (e :: es) X.env = (false, eval e X.env) :: starEach es X.env := by rfl) (hpl : (backTo pos (starEach es X.env)).any (·.1) = false := by rfl) :
    PE X (.Call (.Name x p) (e :: es) [] pos) (tCall sp [] E0 t) :=
  let ⟨_, _, g, F, b, G⟩ := O
  pe_call G hr hg g F.kp b .nil passL ha hdb he hpl
/-- .. where what it raises leaves this def -/
theorem pe_cE {X : Cx} {W : WX} {E : XK} {k : Nat} {x : Str} {st : Stmt} {ps : List Str} {sp : Sp} {e : Expr} {es : List Expr} {p pos : Pos} {t : TA} (O : Ok X.prog X.w X.K X.mg X.base (L2.CX X.prog X.w) k x st ps sp) (hr : Room k X.A) (tk : Takes X W) (hW : ∀ cls d σ H, E cls d H → W cls d σ H) (ha : PA X (e :: es) t) (hg : Gl X x := by rfl)
    (hdb : (x == ("__debug__" : Str)) = false := by decide) (he : starEach (e :: es) X.env = (false, eval e X.env) :: starEach es X.env := by rfl) (hpl : (backTo pos (starEach es X.env)).any (·.1) = false := by rfl) :
    PE X (.Call (.Name x p) (e :: es) [] pos) (tCall sp [] E t) :=
  let ⟨_, _, g, F, b, G⟩ := O
  pe_call G hr hg g F.kp b .nil (passes_call tk hW) ha hdb he hpl

/-- what stands free of the module: built-in names -/
structure Bl (mg : Str → Option Value) : Prop where
  len : mg "len" = none
  abs : mg "abs" = none
  isi : mg "isinstance" = none
  int : mg "int" = none
  str : mg "str" = none
  bool : mg "bool" = none
  tuple : mg "tuple" = none
  all : mg "all" = none
  any : mg "any" = none
  enumerate : mg "enumerate" = none
  zip : mg "zip" = none
  range : mg "range" = none
  sorted : mg "sorted" = none
  list : mg "list" = none
  dict : mg "dict" = none
  set : mg "set" = none
  repr : mg "repr" = none
  letters : ∃ t, mg "LETTERS" = some (.str "abcdefghijklmnopqrstuvwxyz" t)
  longest : ∃ t, mg "LONGEST_NAME" = some (.int 5 t)
  names : ∃ t, mg "MOST_NAMES" = some (.int 6 t)
  rows : ∃ t, mg "MOST_ROWS" = some (.int 60 t)

/-! ### a comprehension that makes data, out of a tuple or a list -/
section
variable {K : PySem.W.Frag} {a : Addr} {xs : List V} {g : TG} {tt : TT} {te : TE} {vs : List Nat} {σ : L2.St} {H1 : Hp} {D : Addr} {Qd : Hp → Prop}
theorem Kb.same_new {H H' : Hp} (h : Kb D H H') (n : H D = none) : Same H H' := fun b o e => h b o (ne_of_none e n) e
theorem kb_upd {H H' : Hp} {o : HO} (h : Kb D H H') : Kb D H (upd H' D o) := fun b u n e => by
  rw [upd_ne n]
  exact h b u n e
theorem lc_itD {J : It} {n : Nat} {G : Hp → Prop} {Y : Nat → Hp → V → Hp → Prop} (wk : Walk J n G Y) (ds : List PyData) (hds : tupDs ds = true) (hl : ds.length = n) (hz : n ≤ sizeLine) (nD : H1 D = none) (hG : ∀ H, Same H1 H → G H)
    (turn : ∀ (i : Nat) (x : V) (d : PyData) (H H' : Hp) (R : V → Hp → Prop) (N : Hp → Prop), i < n → ds[i]? = some d → Same H1 H → Y i H x H' → (∀ y H4, Same H H4 → Dp K H4 y d → R y H4) →
      g x (wipe σ vs) H' fun σ2 H2 => wipe σ2 vs = wipe σ vs ∧ tt σ2 H2 fun b H3 => if b = true then te σ2 H3 R else N H3)
    (done : ∀ H ys, Same H1 H → H D = some (.lst ys) → DpAll K H ys ds → Qd H) :
    ∃ W : Nat → Nat → Hp → Prop, (∃ m, W 0 m (upd H1 D (.lst []))) ∧ ∀ i m H, W i m H →
      (J.stop i H ∧ Qd H) ∨ (J.go i H ∧ ∃ Nx : Hp → Prop, (∀ H', Nx H' → ∃ m', m' < m ∧ W (i + 1) m' H') ∧ ∀ x H', J.yld i H x H' → g x (wipe σ vs) H' fun σ2 H2 => wipe σ2 vs = wipe σ vs ∧ tt σ2 H2 fun b H3 =>
        if b = true then te σ2 H3 fun y H4 => ∃ acc, H4 D = some (.lst acc) ∧ acc.length < sizeLine ∧ Nx (upd H4 D (.lst (acc ++ [y]))) else Nx H3) := by
  refine lc_it wk (fun i H => ∃ ys, Kb D H1 H ∧ H D = some (.lst ys) ∧ ys.length = i ∧ DpAll K H ys (ds.take i)) ⟨[], kb_upd (Kb.refl D H1), upd_same, rfl, by rw [List.take_zero]; exact .nil⟩
    (fun i H _ ⟨ys, kb, _, _, _⟩ => hG H (Kb.same_new kb nD)) (fun i x H H' hi ⟨ys, kb, hD, hy, hd⟩ hY => ?_) (fun H ⟨ys, kb, hD, hy, hd⟩ => ?_)
  · obtain ⟨d, hdi⟩ : ∃ d, ds[i]? = some d := ⟨ds[i]'(by omega), List.getElem?_eq_getElem _⟩
    refine turn i x d H H' _ _ hi hdi (Kb.same_new kb nD) hY fun y H4 s4 dy => ⟨ys, s4 _ _ hD, by omega, ys ++ [y], ?_, upd_same, by rw [List.length_append, hy]; rfl, ?_⟩
    · exact kb_upd fun b o n e => s4 _ _ (kb b o n e)
    · have e1 : ds.take (i + 1) = ds.take i ++ [d] := by
        rw [List.take_succ, hdi]
        rfl
      rw [e1]
      have fx : Fx H4 (upd H4 D (.lst (ys ++ [y]))) := Fx.upd fun u e => by
        rw [s4 _ _ hD] at e
        cases e
        rfl
      exact DpAll.snoc (DpAll.fx fx (tupDs_all fun q hq => tupDs_mem hds (List.mem_of_mem_take hq)) (DpAll.same s4 hd)) (Dp.fx fx (tupDs_mem hds (List.mem_of_getElem? hdi)) dy)
  · rw [← hl, List.take_length] at hd
    exact done H ys (Kb.same_new kb nD) hD hd
end
end K5
namespace K5
open PySem PySem.Spec PyProof.Rows L2
/-! ### short words for built-ins -/
section
variable {X : Cx} {e a b : Expr} {te ta tb : TE} {p p' pos : Pos}
theorem b_len : bootBuiltins "len" = some (.builtin "len") := by decide +kernel
theorem b_abs : bootBuiltins "abs" = some (.builtin "abs") := by decide +kernel
theorem b_isi : bootBuiltins "isinstance" = some (.builtin "isinstance") := by decide +kernel
theorem b_all : bootBuiltins "all" = some (.builtin "all") := by decide +kernel
theorem b_any : bootBuiltins "any" = some (.builtin "any") := by decide +kernel
theorem b_sorted : bootBuiltins "sorted" = some (.builtin "sorted") := by decide +kernel
theorem b_repr : bootBuiltins "repr" = some (.builtin "repr") := by decide +kernel
theorem b_int : bootBuiltins "int" = some (.type "int") := by decide +kernel
theorem b_str : bootBuiltins "str" = some (.type "str") := by decide +kernel
theorem b_bool : bootBuiltins "bool" = some (.type "bool") := by decide +kernel
theorem b_tuple : bootBuiltins "tuple" = some (.type "tuple") := by decide +kernel
theorem b_list : bootBuiltins "list" = some (.type "list") := by decide +kernel
theorem b_dict : bootBuiltins "dict" = some (.type "dict") := by decide +kernel
theorem b_set : bootBuiltins "set" = some (.type "set") := by decide +kernel
theorem pe_b {f : String} {r : List V → Hp → VK → Prop} {es : List Expr} {t : TA} (hc : CallR X (.builtin f) r) (hm : X.mg (Str.ofString f) = none) (hv : bootBuiltins (Str.ofString f) = some (.builtin f)) (ha : PA X (e :: es) t) (hg : Gl X (Str.ofString f) := by rfl) (hn : (Str.ofString f) ≠ "__name__" := by decide +kernel)
    (hdb : ((Str.ofString f) == ("__debug__" : Str)) = false := by decide +kernel) (he : starEach (e :: es) X.env = (false, eval e X.env) :: starEach es X.env := by rfl) (hpl : (backTo pos (starEach es X.env)).any (·.1) = false := by rfl) :
    PE X (.Call (.Name (Str.ofString f) p) (e :: es) [] pos) (tCB r t) := pe_callB hc hg hm hv ha hn hdb he hpl
theorem pe_t {f : String} {r : List V → Hp → VK → Prop} {es : List Expr} {t : TA} (hc : CallR X (.type f) r) (hm : X.mg (Str.ofString f) = none) (hv : bootBuiltins (Str.ofString f) = some (.type f)) (ha : PA X (e :: es) t) (hg : Gl X (Str.ofString f) := by rfl) (hn : (Str.ofString f) ≠ "__name__" := by decide +kernel)
    (hdb : ((Str.ofString f) == ("__debug__" : Str)) = false := by decide +kernel) (he : starEach (e :: es) X.env = (false, eval e X.env) :: starEach es X.env := by rfl) (hpl : (backTo pos (starEach es X.env)).any (·.1) = false := by rfl) :
    PE X (.Call (.Name (Str.ofString f) p) (e :: es) [] pos) (tCB r t) := pe_callTy hc hg hm hv ha hn hdb he hpl
/-- a built-in class as a value -/
theorem pe_cls {f : String} (hm : X.mg (Str.ofString f) = none) (hv : bootBuiltins (Str.ofString f) = some (.type f)) (hg : Gl X (Str.ofString f) := by rfl) (hn : (Str.ofString f) ≠ "__name__" := by decide +kernel) (hdb : ((Str.ofString f) == ("__debug__" : Str)) = false := by decide +kernel) :
    PE X (.Name (Str.ofString f) p) (tC (.ty f)) := pe_bltn hg hm hv rfl hn hdb
end

/-! ### odd values -/
/-- data; or some list, some dict -/
def Av (K : PySem.W.Frag) (H : Hp) (v : V) (d : PyData) : Prop :=
  (tupD d = true ∧ Dp K H v d) ∨ (d = .list [] ∧ ∃ a xs, v = .ref a ∧ H a = some (.lst xs)) ∨ (d = .dict [] ∧ ∃ a kvs, v = .ref a ∧ H a = some (.dK kvs))
def tyN : PyData → String
  | .none => "NoneType"
  | .bool _ => "bool"
  | .int _ => "int"
  | .str _ => "str"
  | .tuple _ => "tuple"
  | .list _ => "list"
  | .dict _ => "dict"
theorem SqT.ty {K : PySem.W.Frag} {H : Hp} {a : Addr} {xs : List V} (h : SqT K H a xs) : TyX K H (.ref a) (.type "tuple") := by
  rcases h with (h | ⟨o, h⟩) | ⟨o, its, n, hk, hc, _⟩
  · exact .base (.tup h)
  · exact .fTuple h
  · exact .kTuple hk hc
theorem SqL.ty {K : PySem.W.Frag} {H : Hp} {a : Addr} {xs : List V} (h : SqL K H a xs) : TyX K H (.ref a) (.type "list") := by
  rcases h with (h | ⟨o, h⟩) | ⟨o, its, n, hk, hc, _⟩
  · exact .base (.lst h)
  · exact .base (.frz h)
  · exact .kList hk hc
theorem Dp.ty {K : PySem.W.Frag} {H : Hp} {v : V} {d : PyData} (h : Dp K H v d) : TyX K H v (.type (tyN d)) := by
  cases h with
  | non => exact .base .non
  | bl b => exact .base (.bl b)
  | int i => exact .base (.int i)
  | str x => exact .base (.str x)
  | lst hs _ => exact SqL.ty hs
  | tup hs _ => exact SqT.ty hs
theorem Av.ty {K : PySem.W.Frag} {H : Hp} {v : V} {d : PyData} (h : Av K H v d) : TyX K H v (.type (tyN d)) := by
  rcases h with ⟨_, h⟩ | ⟨rfl, a, xs, rfl, h⟩ | ⟨rfl, a, kvs, rfl, h⟩
  · exact Dp.ty h
  · exact .base (.lst h)
  · exact .base (.dK h)
theorem Av.same {K : PySem.W.Frag} {H H' : Hp} {v : V} {d : PyData} (h : Av K H v d) (s : Same H H') : Av K H' v d := by
  rcases h with ⟨t, h⟩ | ⟨rfl, a, xs, rfl, h⟩ | ⟨rfl, a, kvs, rfl, h⟩
  · exact .inl ⟨t, Dp.same s h⟩
  · exact .inr (.inl ⟨rfl, a, xs, rfl, s _ _ h⟩)
  · exact .inr (.inr ⟨rfl, a, kvs, rfl, s _ _ h⟩)
theorem Av.kb {K : PySem.W.Frag} {H H' : Hp} {v : V} {d : PyData} {b : Addr} (h : Av K H v d) (s : Kb b H H') (nf : ∀ u, H b = some u → fixB u = false) (n : v ≠ .ref b) : Av K H' v d := by
  rcases h with ⟨t, h⟩ | ⟨rfl, a, xs, rfl, h⟩ | ⟨rfl, a, kvs, rfl, h⟩
  · exact .inl ⟨t, Dp.fx (s.fx nf) t h⟩
  · exact .inr (.inl ⟨rfl, a, xs, rfl, s _ _ (fun z => n (by rw [z])) h⟩)
  · exact .inr (.inr ⟨rfl, a, kvs, rfl, s _ _ (fun z => n (by rw [z])) h⟩)
def isIntD : PyData → Bool
  | .int _ => true
  | _ => false
def isIB : PyData → Bool
  | .int _ => true
  | .bool _ => true
  | _ => false
def isBoolD : PyData → Bool
  | .bool _ => true
  | _ => false
def isStrD : PyData → Bool
  | .str _ => true
  | _ => false
def isTupD : PyData → Bool
  | .tuple _ => true
  | _ => false
theorem kit_int (K : PySem.W.Frag) : ∀ d : PyData, PySem.W.kitOne K (.type (tyN d)) (.type "int") = some (isIB d)
  | .none => kit_ty (show kitB "NoneType" "int" = some false by decide +kernel)
  | .bool _ => kit_ty (show kitB "bool" "int" = some true by decide +kernel)
  | .int _ => kit_ty (show kitB "int" "int" = some true by decide +kernel)
  | .str _ => kit_ty (show kitB "str" "int" = some false by decide +kernel)
  | .tuple _ => kit_ty (show kitB "tuple" "int" = some false by decide +kernel)
  | .list _ => kit_ty (show kitB "list" "int" = some false by decide +kernel)
  | .dict _ => kit_ty (show kitB "dict" "int" = some false by decide +kernel)
theorem kit_bool (K : PySem.W.Frag) : ∀ d : PyData, PySem.W.kitOne K (.type (tyN d)) (.type "bool") = some (isBoolD d)
  | .none => kit_ty (show kitB "NoneType" "bool" = some false by decide +kernel)
  | .bool _ => kit_ty (show kitB "bool" "bool" = some true by decide +kernel)
  | .int _ => kit_ty (show kitB "int" "bool" = some false by decide +kernel)
  | .str _ => kit_ty (show kitB "str" "bool" = some false by decide +kernel)
  | .tuple _ => kit_ty (show kitB "tuple" "bool" = some false by decide +kernel)
  | .list _ => kit_ty (show kitB "list" "bool" = some false by decide +kernel)
  | .dict _ => kit_ty (show kitB "dict" "bool" = some false by decide +kernel)
theorem kit_str (K : PySem.W.Frag) : ∀ d : PyData, PySem.W.kitOne K (.type (tyN d)) (.type "str") = some (isStrD d)
  | .none => kit_ty (show kitB "NoneType" "str" = some false by decide +kernel)
  | .bool _ => kit_ty (show kitB "bool" "str" = some false by decide +kernel)
  | .int _ => kit_ty (show kitB "int" "str" = some false by decide +kernel)
  | .str _ => kit_ty (show kitB "str" "str" = some true by decide +kernel)
  | .tuple _ => kit_ty (show kitB "tuple" "str" = some false by decide +kernel)
  | .list _ => kit_ty (show kitB "list" "str" = some false by decide +kernel)
  | .dict _ => kit_ty (show kitB "dict" "str" = some false by decide +kernel)
theorem kit_tup (K : PySem.W.Frag) : ∀ d : PyData, PySem.W.kitOne K (.type (tyN d)) (.type "tuple") = some (isTupD d)
  | .none => kit_ty (show kitB "NoneType" "tuple" = some false by decide +kernel)
  | .bool _ => kit_ty (show kitB "bool" "tuple" = some false by decide +kernel)
  | .int _ => kit_ty (show kitB "int" "tuple" = some false by decide +kernel)
  | .str _ => kit_ty (show kitB "str" "tuple" = some false by decide +kernel)
  | .tuple _ => kit_ty (show kitB "tuple" "tuple" = some true by decide +kernel)
  | .list _ => kit_ty (show kitB "list" "tuple" = some false by decide +kernel)
  | .dict _ => kit_ty (show kitB "dict" "tuple" = some false by decide +kernel)
end K5
namespace K5
open PySem PySem.Spec PyProof.Rows L2
theorem DpAll.bools : ∀ (c : List Bool) {K : PySem.W.Frag} {H : Hp}, DpAll K H (c.map V.bl) (c.map PyData.bool)
  | [], _, _ => .nil
  | x :: c, _, _ => .cons (.bl x) (DpAll.bools c)
theorem DpAll.bools_inv {K : PySem.W.Frag} {H : Hp} : ∀ {c : List Bool} {vs : List V}, DpAll K H vs (c.map PyData.bool) → vs = c.map V.bl
  | [], _, h => by cases h; rfl
  | x :: c, _, h => by
    cases h with
    | cons h1 h2 =>
      cases h1
      rw [DpAll.bools_inv h2]
      rfl
theorem tup_bools (c : List Bool) : tupDs (c.map PyData.bool) = true := tupDs_all fun d hd => by
  obtain ⟨x, _, rfl⟩ := List.mem_map.mp hd
  rfl
theorem map_get {α β : Type} {f : α → β} {l : List α} {i : Nat} {y : β} (h : (l.map f)[i]? = some y) : ∃ x, l[i]? = some x ∧ f x = y := by
  rw [List.getElem?_map] at h
  cases e : l[i]? with
  | none =>
    rw [e] at h
    cases h
  | some x =>
    rw [e] at h
    exact ⟨x, rfl, Option.some.inj h⟩
end K5
end

section
set_option Elab.async false
set_option linter.all false
set_option maxRecDepth 100000
set_option maxHeartbeats 4000000
/-! is_integer, is_name, is_name_lot -/
namespace K5
open PySem PySem.Spec PyProof.Rows L2
abbrev sIsInt : Stmt := top 10
abbrev sIsName : Stmt := top 11
abbrev sIsNameLot : Stmt := top 12
section
variable {P : Program} {w : World} {K : PySem.W.Frag} {mg : Str → Option Value} {base : Heap}
def spIsInt (K : PySem.W.Frag) : Sp := fun vs H Q _ => ∃ v d, vs = [v] ∧ Av K H v d ∧ Q (.bl (isIntD d)) H
theorem scIsInt : FnScope ["value"] ["value"] (defScope sIsInt) := ⟨rfl, rfl, rfl, by decide +kernel, rfl, by decide +kernel, by decide +kernel⟩
theorem ok_isInt (B : Bl mg) (D : Def K mg "is_integer" sIsInt ["value"]) : Ok P w K mg base CX0 1 "is_integer" sIsInt ["value"] (spIsInt K) := by
  refine .of D fun f fd F => F.ok scIsInt (fun vs H Q E h => ?_) (fun cdv A outer s H vs Q E hr h => ?_)
  · obtain ⟨v, d, rfl, _⟩ := h
    rfl
  · obtain ⟨v, d, rfl, hv, q⟩ := h
    refine ⟨_, pss_one (ps_ret (pe_and (pe_b (f := "isinstance") call_isi B.isi b_isi (pa_cons (pv 0) (pa_cons (pe_cls (f := "int") B.int b_int) pa_nil)))
      (pe_one (pe_not (pe_b (f := "isinstance") call_isi B.isi b_isi (pa_cons (pv 0) (pa_cons (pe_cls (f := "bool") B.bool b_bool) pa_nil))))))), ?_⟩
    refine ⟨_, rfl, _, _, _, _, _, rfl, .ty "int", hv.ty, kit_int K d, _, rfl, ?_⟩
    cases d with
    | int i => exact iteT ⟨_, rfl, _, _, _, _, _, rfl, .ty "bool", hv.ty, kit_bool K _, _, rfl, q⟩
    | bool b => exact iteT ⟨_, rfl, _, _, _, _, _, rfl, .ty "bool", hv.ty, kit_bool K _, _, rfl, q⟩
    | _ => exact iteF q

/-! ### names -/
def letB (c : Nat) : Bool := decide (c ∈ ("abcdefghijklmnopqrstuvwxyz" : Str).cps.toList)
def nameB (x : Str) : Bool := decide (1 ≤ x.length) && (decide (x.length ≤ 5) && x.cps.toList.all letB)
def nameD : PyData → Bool
  | .str x => nameB x
  | _ => false
def spIsName (K : PySem.W.Frag) : Sp := fun vs H Q _ => ∃ v d, vs = [v] ∧ Av K H v d ∧ (∀ x, d = .str x → x.length ≤ sizeLine) ∧ ∀ H', Same H H' → Q (.bl (nameD d)) H'
theorem scIsName : FnScope ["value", "sign"] ["value"] (defScope sIsName) := ⟨rfl, rfl, rfl, by decide +kernel, rfl, by decide +kernel, by decide +kernel⟩

theorem letters_glob {X : Cx} {p : Pos} (h : ∃ t, X.mg "LETTERS" = some (.str "abcdefghijklmnopqrstuvwxyz" t)) (hg : Gl X "LETTERS" := by rfl) : PE X (.Name "LETTERS" p) (tC (.str "abcdefghijklmnopqrstuvwxyz")) :=
  let ⟨t, e⟩ := h
  pe_glob hg e ⟨t, rfl⟩
theorem int_glob {X : Cx} {p : Pos} {x : Str} {i : Int} (h : ∃ t, X.mg x = some (.int i t)) (hg : Gl X x := by rfl) (hd : (x == ("__debug__" : Str)) = false := by decide +kernel) : PE X (.Name x p) (tC (.int i)) :=
  let ⟨t, e⟩ := h
  pe_glob hg e ⟨t, rfl⟩ hd
theorem cps_len (x : Str) : x.cps.size = x.length := rfl
theorem ok_isName (B : Bl mg) (D : Def K mg "is_name" sIsName ["value"]) : Ok P w K mg base CX0 1 "is_name" sIsName ["value"] (spIsName K) := by
  refine .of D fun f fd F => F.ok scIsName (fun vs H Q E h => ?_) (fun cdv A outer s H vs Q E hr h => ?_)
  · obtain ⟨v, d, rfl, _⟩ := h
    rfl
  · obtain ⟨v, d, rfl, hv, hlen, q⟩ := h
    refine ⟨_, pss_cons (ps_if (PW.pt (pw_or (pt_not (pt_val (pe_b (f := "isinstance") call_isi B.isi b_isi (pa_cons (pv 0) (pa_cons (pe_cls (f := "str") B.str b_str) pa_nil)))))
        (pw_or1 (pt_not (pt_chain op_le op_le pe_int (pe_b (f := "len") call_len_str B.len b_len (pa_cons (pv 0) pa_nil)) (int_glob B.longest)))))) (pss_one (ps_ret pe_bl)) pss_nil)
      (pss_one (ps_ret (pe_b (f := "all") (cr_all rfl) B.all b_all (pa_cons (pe_lc (own := [("sign", 1)]) (g := gName 1) (tt := tYes) rfl scIsName.nd (pi_str (pv 0)) (blkOk_by (N := ["value", "sign"]) (sc := defScope sIsName) (by decide +kernel))
        (fun _ _ _ _ _ => pg_name (i := 1) scIsName.nd rfl (Or.inl rfl)) (fun _ _ _ _ _ => pts_nil) (fun _ _ _ _ _ => pe_cmpR op_in_sign (pv 1) (letters_glob B.letters) rfl)) pa_nil)))), ?_⟩
    refine ⟨_, rfl, _, _, _, _, _, rfl, .ty "str", hv.ty, kit_str K d, _, rfl, ?_⟩
    cases d with
    | str x =>
      have hx := hlen x rfl
      have ev : v = .str x := by
        rcases hv with ⟨_, hv⟩ | ⟨e, _⟩ | ⟨e, _⟩
        · exact Dp.str_inv hv
        · cases e
        · cases e
      subst ev
      refine iteF ?_
      refine ⟨_, rfl, x, rfl, hx, _, _, rfl, rfl, _, rfl, ?_⟩
      have all_ : ∀ (Hc : Hp), Same H Hc → (1 ≤ x.length ∧ x.length ≤ 5) → Q (.bl (x.cps.toList.all letB)) Hc := fun Hc sc hb => by
        have e : nameD (.str x) = x.cps.toList.all letB := by
          show nameB x = _
          unfold nameB
          rw [decide_eq_true hb.1, decide_eq_true hb.2]
          rfl
        rw [← e]
        exact q Hc sc
      refine ite2 (fun h1 => ⟨_, _, rfl, rfl, ?_⟩) (fun h1 => ?_)
      · refine ⟨_, rfl, ?_⟩
        by_cases h2 : ((x.length : Nat) : Int) ≤ 5
        · rw [decide_eq_true h2]
          refine iteF ?_
          refine ⟨_, rfl, x, rfl, fun Dn nD => lc_itD (K := K) walk_str ((x.cps.toList.map letB).map PyData.bool) (tup_bools _) (by simp) (by rw [cps_len]; exact hx) nD (fun _ _ => trivial) ?_ ?_⟩
          · intro i y d Ha Hb R N hi hd sa hY hR
            obtain ⟨rfl, c, hc, rfl⟩ := hY
            refine ⟨rfl, _, rfl, c, _, rfl, rfl, hR _ _ (Same.refl _) ?_⟩
            obtain ⟨b, hb, rfl⟩ := map_get hd
            obtain ⟨c', hc', rfl⟩ := map_get hb
            have ec : c' = c := by
              rw [Array.getElem?_toList, hc] at hc'
              exact (Option.some.inj hc').symm
            rw [ec]
            exact .bl _
          · intro Hc ys sc hD hd
            rw [DpAll.bools_inv hd] at hD
            refine ⟨_, _, rfl, SqL.of hD, ?_⟩
            have e2 : (x.cps.toList.map letB).all id = x.cps.toList.all letB := by
              rw [List.all_map]
              rfl
            rw [e2]
            exact all_ Hc sc ⟨by have := of_decide_eq_true h1; omega, by omega⟩
        · rw [decide_eq_false h2]
          refine iteT ?_
          have e : nameD (.str x) = false := by
            show nameB x = _
            unfold nameB
            rw [decide_eq_false (show ¬ x.length ≤ 5 by omega)]
            simp
          have := q H (Same.refl H)
          rw [e] at this
          exact this
      · refine ⟨_, rfl, iteT ?_⟩
        have e : nameD (.str x) = false := by
          show nameB x = _
          unfold nameB
          rw [decide_eq_false (show ¬ 1 ≤ x.length from fun z => h1 (decide_eq_true (by omega)))]
          simp
        have := q H (Same.refl H)
        rw [e] at this
        exact this
    | _ => exact iteT (iteT (q H (Same.refl H)))
end
end K5
end

section
set_option Elab.async false
set_option linter.all false
set_option maxRecDepth 100000
set_option maxHeartbeats 4000000
/-! is_name_lot, divisor_of, is_fraction, common_divisor -/
namespace K5
open PySem PySem.Spec PyProof.Rows L2
abbrev sDiv : Stmt := top 14
abbrev sIsFr : Stmt := top 15
abbrev sCom : Stmt := top 17
def strLt (x y : Str) : Prop := x.cps.toList < y.cps.toList
instance (x y : Str) : Decidable (strLt x y) := inferInstanceAs (Decidable (x.cps.toList < y.cps.toList))
/-- names, unlike, ascending -/
structure NamesOk (ns : List Str) : Prop where
  one : 1 ≤ ns.length
  six : ns.length ≤ 6
  ok : ∀ x ∈ ns, nameB x = true
  up : ns.Pairwise strLt
theorem nameB_len {x : Str} (h : nameB x = true) : x.length ≤ sizeLine := by
  unfold nameB at h
  rw [Bool.and_eq_true, Bool.and_eq_true] at h
  have := of_decide_eq_true h.2.1
  rw [sizeLine_eq]
  omega
section
variable {P : Program} {w : World} {K : PySem.W.Frag} {mg : Str → Option Value} {base : Heap}
def spIsNameLot (K : PySem.W.Frag) : Sp := fun vs H Q _ => ∃ v ns, vs = [v] ∧ Dp K H v (encN ns) ∧ NamesOk ns ∧ ∀ H', Same H H' → Q (.bl true) H'
theorem scIsNameLot : FnScope ["value", "item", "at"] ["value"] (defScope sIsNameLot) := ⟨rfl, rfl, rfl, by decide +kernel, rfl, by decide +kernel, by decide +kernel⟩
theorem all_id_rep (n : Nat) : (List.replicate n true).all id = true := by
  rw [List.all_replicate]
  cases n <;> rfl
theorem ok_isNameLot (B : Bl mg) (D : Def K mg "is_name_lot" sIsNameLot ["value"]) (ON : Ok P w K mg base CX0 1 "is_name" sIsName ["value"] (spIsName K)) : Ok P w K mg base CX0 2 "is_name_lot" sIsNameLot ["value"] (spIsNameLot K) := by
  refine .of D fun f fd F => F.ok scIsNameLot (fun vs H Q E h => ?_) (fun cdv A outer s H vs Q E hr h => ?_)
  · obtain ⟨v, d, rfl, _⟩ := h
    rfl
  · obtain ⟨v, ns, rfl, hv, N, q⟩ := h
    obtain ⟨a, rfl, hs⟩ := Dp.N_inv hv
    refine ⟨_, pss_cons (ps_if (PW.pt (pw_or (pt_not (pt_val (pe_b (f := "isinstance") call_isi B.isi b_isi (pa_cons (pv 0) (pa_cons (pe_cls (f := "tuple") B.tuple b_tuple) pa_nil)))))
        (pw_or1 (pt_not (pt_val (pe_b (f := "all") (cr_all rfl) B.all b_all (pa_cons (pe_lc (own := [("item", 1)]) (g := gName 1) (tt := tYes) rfl scIsNameLot.nd (pi_tup (pv 0)) (blkOk_by (N := ["value", "item", "at"]) (sc := defScope sIsNameLot) (by decide +kernel))
          (fun _ _ _ _ _ => pg_name (i := 1) scIsNameLot.nd rfl (Or.inl rfl)) (fun _ _ _ _ _ => pts_nil) (fun _ _ _ _ _ => pe_c ON hr (pa_cons (pv 1) pa_nil))) pa_nil))))))) (pss_one (ps_ret pe_bl)) pss_nil)
      (pss_one (ps_ret (pe_b (f := "all") (cr_all rfl) B.all b_all (pa_cons (pe_lc (own := [("at", 2)]) (g := gName 2) (tt := tYes) rfl scIsNameLot.nd (pi_range1 rfl B.range (pa_cons (pe_op op_sub (pe_b (f := "len") call_len_seq B.len b_len (pa_cons (pv 0) pa_nil)) pe_int) pa_nil)) (blkOk_by (N := ["value", "item", "at"]) (sc := defScope sIsNameLot) (by decide +kernel))
          (fun _ _ _ _ _ => pg_name (i := 2) scIsNameLot.nd rfl (Or.inl rfl)) (fun _ _ _ _ _ => pts_nil) (fun _ _ _ _ _ => pe_cmpR op_lt_str (pe_ix (r := rIxT K) ix_tup (pv 0) (pv 2) (fun _ _ => rfl)) (pe_ix (r := rIxT K) ix_tup (pv 0) (pe_op op_add (pv 2) pe_int) (fun _ _ => rfl)) (nomark _))) pa_nil)))), ?_⟩
    refine ⟨_, rfl, _, _, _, _, _, rfl, .ty "tuple", SqT.ty hs, kit_tup K (.tuple []), _, rfl, ?_⟩
    refine iteF ?_
    refine ⟨_, rfl, a, rfl, ⟨_, hs⟩, fun Dn nD => lc_itD (K := K) walk_tup ((List.replicate ns.length true).map PyData.bool) (tup_bools _) (by simp) (by have := N.six; rw [List.length_map, sizeLine_eq]; omega) nD (fun _ sa => SqT.fx (fx_same sa) hs) ?_ ?_⟩
    · intro i y d Ha Hb R Nx hi hd sa hY hR
      obtain ⟨rfl, hx⟩ := hY
      obtain ⟨x, gx, rfl⟩ := map_get hx
      obtain ⟨b, hb, rfl⟩ := map_get hd
      have eb : b = true := List.eq_of_mem_replicate (List.mem_of_getElem? hb)
      subst eb
      have nb := N.ok x (List.mem_of_getElem? gx)
      refine ⟨rfl, _, rfl, .str x, .str x, rfl, .inl ⟨rfl, .str x⟩, fun z e => ?_, fun H' s' => hR _ _ s' ?_⟩
      · cases e
        exact nameB_len nb
      · show Dp K H' (.bl (nameB x)) _
        rw [nb]
        exact .bl true
    · intro Hc ys sc hD hd
      rw [DpAll.bools_inv hd] at hD
      refine ⟨_, _, rfl, SqL.of hD, ?_⟩
      rw [all_id_rep]
      refine ⟨_, rfl, iteF ?_⟩
      have hs2 := SqT.fx (fx_same sc) hs
      have h6 := N.six
      have h1 := N.one
      refine ⟨_, rfl, a, _, rfl, .inr hs2, _, _, rfl, rfl, ((ns.map V.str).length : Int) - 1, rfl, by rw [List.length_map]; omega, by rw [List.length_map]; omega, ?_⟩
      refine fun Dm nM => lc_itD (K := K) walk_range ((List.replicate ((((ns.map V.str).length : Nat) : Int) - 1).toNat true).map PyData.bool) (tup_bools _) (by simp) (by rw [List.length_map, sizeLine_eq]; omega) nM (fun _ sa => trivial) ?_ ?_
      · intro i y d Ha Hb R Nx hi hd sa hY hR
        obtain ⟨rfl, rfl⟩ := hY
        obtain ⟨b, hb, rfl⟩ := map_get hd
        have eb : b = true := List.eq_of_mem_replicate (List.mem_of_getElem? hb)
        subst eb
        rw [List.length_map] at hi
        have i1 : i < ns.length := by omega
        have i2 : i + 1 < ns.length := by omega
        have hs3 := SqT.fx (fx_same sa) hs2
        have g1 : (ns.map V.str)[i]? = some (.str ns[i]) := by rw [List.getElem?_map, List.getElem?_eq_getElem i1]; rfl
        have g2 : (ns.map V.str)[i + 1]? = some (.str ns[i + 1]) := by rw [List.getElem?_map, List.getElem?_eq_getElem i2]; rfl
        refine ⟨rfl, _, rfl, _, rfl, a, _, _, _, rfl, rfl, hs3, at_of (by omega) g1, _, rfl, _, rfl, _, _, rfl, rfl, a, _, _, _, rfl, rfl, hs3, at_of (j := i + 1) (by omega) g2, _, _, rfl, rfl, hR _ _ (Same.refl _) ?_⟩
        have lt : strLt ns[i] ns[i + 1] := List.pairwise_iff_getElem.mp N.up i (i + 1) i1 i2 (by omega)
        rw [decide_eq_true (show ns[i].cps.toList < ns[i + 1].cps.toList from lt)]
        exact .bl true
      · intro Hd zs sd hD2 hd2
        rw [DpAll.bools_inv hd2] at hD2
        refine ⟨_, _, rfl, SqL.of hD2, ?_⟩
        rw [all_id_rep]
        exact q Hd (sc.trans sd)

/-! ### the greatest common divisor -/
def spDiv : Sp := fun vs H Q _ => ∃ a b : Int, vs = [.int a, .int b] ∧ Q (.int ((Nat.gcd a.natAbs b.natAbs : Nat) : Int)) H
theorem scDiv : FnScope ["one", "other"] ["one", "other"] (defScope sDiv) := ⟨rfl, rfl, rfl, by decide +kernel, rfl, by decide +kernel, by decide +kernel⟩
theorem abs_nat (i : Int) : (if i < 0 then -i else i) = (i.natAbs : Int) := by split <;> omega
theorem ok_div (B : Bl mg) (D : Def K mg "divisor_of" sDiv ["one", "other"]) : Ok P w K mg base CX0 1 "divisor_of" sDiv ["one", "other"] spDiv := by
  refine .of D fun f fd F => F.ok scDiv (fun vs H Q E h => ?_) (fun cdv A outer s H vs Q E hr h => ?_)
  · obtain ⟨v, d, rfl, _⟩ := h
    rfl
  · obtain ⟨a, b, rfl, q⟩ := h
    refine ⟨_, pss_cons (ps_par (i := 0) (j := 1) rfl scDiv.nd rfl rfl (by decide) rfl rfl (pa_cons (pe_b (f := "abs") call_abs B.abs b_abs (pa_cons (pv 0) pa_nil)) (pa_cons (pe_b (f := "abs") call_abs B.abs b_abs (pa_cons (pv 1) pa_nil)) pa_nil)) (by rfl))
      (pss_cons (ps_while PassesOwn.never (pt_cmpR op_gt (pv 1) pe_int (nomark _)) (pss_one (ps_par (i := 0) (j := 1) rfl scDiv.nd rfl rfl (by decide) rfl rfl (pa_cons (pv 1) (pa_cons (pe_op op_mod (pv 0) (pv 1)) pa_nil)) (by rfl))))
      (pss_one (ps_ret (pv 0)))), ?_⟩
    refine ⟨_, rfl, a, rfl, _, rfl, b, rfl, _, _, rfl, ?_⟩
    rw [abs_nat, abs_nat]
    refine ⟨fun m σ H' => ∃ x : Nat, σ = [some (.int (x : Int)), some (.int (m : Int))] ∧ H' = H ∧ Nat.gcd x m = Nat.gcd a.natAbs b.natAbs, ⟨_, a.natAbs, rfl, rfl, rfl⟩, ?_⟩
    rintro m σ H' ⟨x, rfl, rfl, hg⟩
    refine ⟨_, rfl, _, _, rfl, rfl, _, rfl, ?_⟩
    refine ite2 (fun c => ?_) (fun c => ?_)
    · have hm : 0 < m := by have := of_decide_eq_true c; omega
      refine ⟨fun σ' H' => σ' = [some (.int (m : Int)), some (.int ((x % m : Nat) : Int))] ∧ H' = _, fun σ' H' e => ⟨x % m, Nat.mod_lt _ hm, m, e.1, e.2, ?_⟩, ?_⟩
      · rw [← hg, Nat.gcd_comm x m, Nat.gcd_rec m x, Nat.gcd_comm]
      · exact ⟨_, rfl, _, rfl, _, rfl, _, _, rfl, rfl, (by show (0 : Int) < (m : Int); omega), _, _, rfl, by show [some (V.int (m : Int)), some (V.int ((x : Int) % (m : Int)))] = _; rw [← Int.natCast_emod], rfl⟩
    · have hm : m = 0 := by
        have : ¬ (0 : Int) < (m : Int) := fun z => c (decide_eq_true z)
        omega
      subst hm
      rw [Nat.gcd_zero_right] at hg
      subst hg
      exact ⟨_, rfl, q⟩

def spCom (K : PySem.W.Frag) : Sp := fun vs H Q _ => ∃ v c, vs = [v] ∧ Dp K H v (encI c) ∧ Q (.int ((gcdL c : Nat) : Int)) H
theorem scCom : FnScope ["numbers", "found", "item"] ["numbers"] (defScope sCom) := ⟨rfl, rfl, rfl, by decide +kernel, rfl, by decide +kernel, by decide +kernel⟩
theorem gcdF_snoc (l : List Int) (x : Int) (g : Nat) : gcdF g (l ++ [x]) = Nat.gcd (gcdF g l) x.natAbs := by
  rw [gcdF_append]
  rfl
theorem take_snoc {α : Type} {l : List α} {i : Nat} {x : α} (h : l[i]? = some x) : l.take (i + 1) = l.take i ++ [x] := by
  rw [List.take_succ, h]
  rfl
theorem ok_com (B : Bl mg) (D : Def K mg "common_divisor" sCom ["numbers"]) (OD : Ok P w K mg base CX0 1 "divisor_of" sDiv ["one", "other"] spDiv) : Ok P w K mg base CX0 2 "common_divisor" sCom ["numbers"] (spCom K) := by
  refine .of D fun f fd F => F.ok scCom (fun vs H Q E h => ?_) (fun cdv A outer s H vs Q E hr h => ?_)
  · obtain ⟨v, d, rfl, _⟩ := h
    rfl
  · obtain ⟨v, c, rfl, hv, q⟩ := h
    obtain ⟨a, rfl, hs⟩ := Dp.I_inv hv
    refine ⟨_, pss_cons (ps_set (i := 1) scCom.nd rfl (Or.inl rfl) pe_int) (pss_cons (ps_for PassesOwn.never rfl (pi_tup (pv 0)) (pg_name (i := 2) scCom.nd rfl (Or.inl rfl))
      (pss_one (ps_set (i := 1) scCom.nd rfl (Or.inl rfl) (pe_c OD hr (pa_cons (pv 1) (pa_cons (pv 2) pa_nil)))))) (pss_one (ps_ret (pv 1)))), ?_⟩
    refine ⟨_, rfl, a, rfl, ⟨_, hs⟩, for_tup (K := K) (a := a) (xs := c.map V.int) (fun i σ H' => ∃ z, σ = [some (.ref a), some (.int ((gcdL (c.take i) : Nat) : Int)), z] ∧ H' = H) ⟨_, rfl, rfl⟩ (fun i σ H' _ ⟨_, _, e⟩ => by rw [e]; exact hs) ?_ ?_⟩
    · rintro i y σ H' hx ⟨z, rfl, rfl⟩
      obtain ⟨x, gx, rfl⟩ := map_get hx
      refine ⟨_, rfl, _, rfl, _, _, rfl, some (.int x), ?_, rfl⟩
      rw [take_snoc gx, show gcdL (c.take i ++ [x]) = _ from gcdF_snoc _ _ _]
      rfl
    · rintro σ H' ⟨z, rfl, rfl⟩
      rw [List.length_map, List.take_length]
      exact ⟨_, rfl, q⟩
end
end K5
end

section
set_option Elab.async false
set_option linter.all false
set_option maxRecDepth 100000
set_option maxHeartbeats 4000000
/-! for i, x in enumerate(t), t a tuple. -/
namespace PySem
open Sem (wp)
open AutoSeq1 (wpAny_loadPart')
theorem k5_enum_new (l : Addr) (items : Array Value) :
    Meets (Builtin.«enumerate.__new__» ⟨[.type "enumerate", .ref l], []⟩) (fun _ R s => s.heap.IsTuple l items ∧
      R (.ok (.ret (.ref (s.heap.push { cls := .type "tuple_iterator", data := .fields #[.ref l, .int 0 0] }).objs.size)))
        { s with heap := (s.heap.push { cls := .type "tuple_iterator", data := .fields #[.ref l, .int 0 0] }).push { cls := .type "enumerate", data := .fields #[.none, .bool false, .ref s.heap.objs.size, rawInt 0, .none, .none] } }) :=
  .of_wp fun prog w A R s h => by
    obtain ⟨hp, gs, dr, tk, os⟩ := s
    obtain ⟨hT, h⟩ := h
    have hsub := sub_enumerate
    have q1 : ∀ {A' : Around} {E : Value → Shared → Prop} {Q : Value → Shared → Prop}, Q (.ref hp.objs.size) ⟨hp.push { cls := .type "tuple_iterator", data := .fields #[.ref l, .int 0 0] }, gs, dr, tk, os⟩ →
        wpAny (model prog w) A' (pyIter (.ref l)) Q E ⟨hp, gs, dr, tk, os⟩ := fun q => wpAny_pyIter_tuple (s := ⟨hp, gs, dr, tk, os⟩) hT q
    wp_walk using q1
    refine wpAny_stack_any fun st => wpAny_pure ?_
    split
    · rename_i c _ _ _ _ _
      cases (c == Value.type "enumerate") <;> (wp_walk using q1; exact ⟨_, rfl, h⟩)
    · wp_walk using q1
      exact ⟨_, rfl, h⟩
theorem k5_call_enum {prog : Program} {w : World} {A : Around} {E : Value → Shared → Prop} {s : Shared} {l : Addr} {items : Array Value} {Q : Value → Shared → Prop} (hL : s.heap.IsTuple l items)
    (h : ∀ h', IsEnum h' (s.heap.objs.size + 1) s.heap.objs.size 0 .none → h'.IsTupleIter s.heap.objs.size l 0 → (∀ b o, s.heap.get? b = some o → h'.get? b = some o) → Q (.ref (s.heap.objs.size + 1)) { s with heap := h' }) :
    wpAny (model prog w) A (call (.type "enumerate") [.ref l]) Q E s := by
  refine callType_new F.called_enumerate (by decide) (F.typeCall_enumerate_1 _) (F.newCall_enumerate_1 _) (fun obj => F.args_object_init_2 obj _) F.entry_enumerate_new (k5_enum_new l items) ⟨hL, ?_⟩
  have hz : (s.heap.push { cls := .type "tuple_iterator", data := .fields #[.ref l, .int 0 0] }).objs.size = s.heap.objs.size + 1 := Heap.size_push ..
  show _ ∧ _
  rw [hz]
  have he : IsEnum ((s.heap.push { cls := .type "tuple_iterator", data := .fields #[.ref l, .int 0 0] }).push { cls := .type "enumerate", data := .fields #[.none, .bool false, .ref s.heap.objs.size, rawInt 0, .none, .none] })
      (s.heap.objs.size + 1) s.heap.objs.size 0 .none := by
    have q := Heap.get?_push_size (s.heap.push { cls := .type "tuple_iterator", data := .fields #[.ref l, .int 0 0] }) (o := { cls := .type "enumerate", data := .fields #[.none, .bool false, .ref s.heap.objs.size, rawInt 0, .none, .none] }) rfl
    rw [hz] at q
    exact q
  exact ⟨⟨_, he, rfl⟩, h _ he ⟨_, Heap.get?_push_of_some _ (Heap.get?_push_size _ rfl), rfl, rfl⟩ fun b o x => Heap.get?_push_of_some _ (Heap.get?_push_of_some _ x)⟩
end PySem
namespace K5
open PySem PySem.Spec PyProof.Rows L2
/-- the tuple at a, its items in new pairs with their places -/
def Itet (K : PySem.W.Frag) (a : Addr) : It :=
  ⟨fun i H => ∃ xs x, SqT K H a xs ∧ xs[i]? = some x,
    fun i H v H' => ∃ T x, v = .ref T ∧ H T = none ∧ H' = upd H T (.tup [.int (i : Nat), x]) ∧ ∀ xs, SqT K H a xs → xs[i]? = some x,
    fun i H => ∃ xs, SqT K H a xs ∧ xs.length = i⟩
theorem turn_enumT {P : Program} {w : World} {K : PySem.W.Frag} {elts : List Expr} {kk : Nat} {tpos : Pos} (a e it : Addr) (hai : a ≠ it) (hae : a ≠ e) (hei : e ≠ it) :
    Turn P w K (.Tuple elts kk tpos) (Itet K a) [e, it] e (fun i h => (∃ old, IsEnum h e it ((i : Nat) : Int) old) ∧ h.IsTupleIter it a i) where
  mem := by simp
  obj := fun i h st b hb => by
    obtain ⟨⟨old, he⟩, ⟨o, ho, hc, hd⟩⟩ := st
    rcases (show b = e ∨ b = it by simpa using hb) with z | z
    · rw [z]
      exact ⟨_, he, fun v q => nomatch q⟩
    · rw [z]
      exact ⟨o, ho, fun v q => by rw [hd] at q; cases q⟩
  keep := fun i h h' st k => let ⟨⟨old, he⟩, hi⟩ := st; ⟨⟨old, k e (by simp) _ he⟩, hi.at fun o q => k it (by simp) o q⟩
  item := by
    intro X hP hw hK hc i pins s σ H E I hf st hg
    subst hP hw hK
    obtain ⟨⟨old, he⟩, hit⟩ := st
    obtain ⟨xs, x, hq, hx⟩ := hg
    obtain ⟨its, rv, p, hz⟩ := I.tuple hq
    obtain ⟨u, hu, ru⟩ := rv.get hx
    have hel : e < s.heap.objs.size := Heap.lt_size he
    have hil : it < s.heap.objs.size := by obtain ⟨_, q, _⟩ := hit; exact Heap.lt_size q
    have hu' : its.toArray[i]? = some u := by simpa using hu
    refine PySem.wpAny_pyNext_enum_itemC (Draws.tuple (prog := X.prog) (w := X.w) (A := X.A.in1) (I.ok.hd hc) it a hai its.toArray) he ⟨hit, p⟩ (Array.getElem?_eq_some_iff.mp hu').1 hei (by
      intro q
      rcases (show e = it ∨ e = a by simpa using q) with z | z
      · exact hei z
      · exact hae z.symm) fun v h' tk hv ho hit' hT hsz hk => ?_
    rw [hu'] at hv
    have ev : u = v := Option.some.inj hv
    subst ev
    refine ⟨_, rfl, wpAny_letOwnedTupleGo_enum (s := { s with heap := h', toks := tk + 1 }) ho fun h'' he' sb => ?_⟩
    have hT2 : h''.get? s.heap.objs.size = some { cls := .type "tuple", data := .seq #[.int i tk, u] } := (sb.2 _ (Nat.ne_of_gt hel)).trans hT
    have new : ObjOk X.prog X.w (upd H s.heap.objs.size (.tup [.int (i : Nat), x])) h'' s.heap.objs.size (.tup [.int (i : Nat), x]) :=
      ⟨by show 2 ≤ sizeLine; decide, [.int i tk, u], .cons ⟨_, rfl⟩ (.cons ru .nil), ⟨_, hT2, rfl, _, rfl⟩⟩
    have I1 : Inv X pins σ (upd H s.heap.objs.size (.tup [.int (i : Nat), x])) { s with heap := h'', toks := tk + 1 } :=
      I.turnedNew (ch := [e, it]) (fun b ob hb q => (sb.2 b (fun z => hb (by simp [z]))).trans (hk b ob (fun z => hb (by simp [z])) (fun z => hb (by simp [z])) q)) hf (Nat.le_refl _) new
    refine ⟨.ref s.heap.objs.size, _, I1, rfl, ⟨_, x, rfl, I.hok.fresh (Nat.le_refl _), rfl, fun ys hy => by rw [I.tuple_inj hy hq]; exact hx⟩, ⟨⟨u, ?_⟩, hit'.1.at fun o q => (sb.2 it (Ne.symm hei)).trans q⟩, fun b hb => ?_⟩
    · have e1 : ((i + 1 : Nat) : Int) = (i : Int) + 1 := by omega
      rw [e1]
      exact he'
    · have hb' : b < s.heap.objs.size := by
        rcases (show b = e ∨ b = it by simpa using hb) with z | z
        · rw [z]; exact hel
        · rw [z]; exact hil
      rw [upd_ne (Nat.ne_of_lt hb')]
      exact (hf b hb).1
  done := by
    intro X hP hw hK hc i pins s σ H E I hf st hg
    subst hP hw hK
    obtain ⟨⟨old, he⟩, hit⟩ := st
    obtain ⟨xs, hq, hx⟩ := hg
    obtain ⟨its, rv, p, hz⟩ := I.tuple hq
    obtain ⟨f0, f1, f2, f3, f4, f5⟩ := hf it (by simp)
    have hl := rv.length
    have en : its.toArray.size = i := by simp; omega
    refine wpAny_pyNext_enum_endD (Draws.tuple (prog := X.prog) (w := X.w) (A := X.A.in1) (I.ok.hd hc) it a hai its.toArray) he ⟨by rw [en]; exact hit, p⟩ fun h' eb => ⟨rfl, I.turned (t' := s.toks) (fun b o hb q => eb b o hb q) f0 f1 f3 f4 f5⟩
  self := fun A i s Q E st h => let ⟨⟨_, he⟩, _⟩ := st; wpAny_pyIter_enum he h
def iEnumT (K : PySem.W.Frag) (ta : TA) : TI := fun σ H R => ta σ H fun vs H1 => ∃ a xs, vs = [.ref a] ∧ SqT K H1 a xs ∧ R (Itet K a) H1
theorem pi_enumT {X : Cx} {e : Expr} {ta : TA} {p pos tpos : Pos} {elts : List Expr} {kk : Nat} (hm : X.mg "enumerate" = none) (ha : PA X [e] ta) (hg : Gl X "enumerate" := by rfl) (hs : starEach [e] X.env = [(false, eval e X.env)] := by rfl) :
    PI X (.Tuple elts kk tpos) (.Call (.Name "enumerate" p) [e] [] pos) (iEnumT X.K ta) := by
  refine ⟨fun pins s σ H R I h => ?_⟩
  refine Call_ (ld_blt I hg hm boot_enumerate (PyProof.Rows.callWith_type1 (thn (ha.run pos pins s σ H _ I h) fun us s1 ⟨vs, H1, I1, r1, q1⟩ => ?_) hs rfl))
  obtain ⟨a, xs, rfl, hq, q⟩ := q1
  cases r1 with
  | cons r rr =>
    cases rr
    cases r
    obtain ⟨its, rv, p', hz⟩ := I1.tuple hq
    have hal : a < s1.heap.objs.size := p'.lt
    refine k5_call_enum (show s1.heap.IsTuple a its.toArray from p') fun h' he hit hk => wpAny_pyIter_enum he ?_
    have I2 : Inv X pins σ H1 { s1 with heap := h' } := I1.kept (t' := s1.toks) hk
    refine ⟨s1.heap.objs.size + 1, [s1.heap.objs.size + 1, s1.heap.objs.size], _, _, H1, rfl, I2, turn_enumT a (s1.heap.objs.size + 1) s1.heap.objs.size (Nat.ne_of_lt hal) (Nat.ne_of_lt (Nat.lt_succ_of_lt hal)) (Nat.succ_ne_self _), ⟨⟨.none, he⟩, hit⟩, fun b hb => ?_, q⟩
    have hle : s1.heap.objs.size ≤ b := by
      rcases (show b = s1.heap.objs.size + 1 ∨ b = s1.heap.objs.size by simpa using hb) with z | z
      · rw [z]; exact Nat.le_add_right _ _
      · rw [z]; exact Nat.le_refl _
    exact I1.fpOk hle (I1.hok.fresh hle)
theorem walk_enumT {K : PySem.W.Frag} {a : Addr} {xs : List V} : Walk (Itet K a) xs.length (fun H => SqT K H a xs) (YPair (fun i => some (.int (i : Nat))) (fun i => xs[i]?)) := by
  refine ⟨fun i _ hi q => ⟨xs, xs[i], q, by simp [hi]⟩, fun _ q => ⟨xs, q, rfl⟩, fun i H v H' _ q y => ?_⟩
  obtain ⟨T, x, h1, h2, h3, h4⟩ := y
  exact ⟨T, .int (i : Nat), x, h1, h2, h3, rfl, h4 xs q⟩
end K5
end

section
set_option Elab.async false
set_option linter.all false
set_option maxRecDepth 100000
set_option maxHeartbeats 4000000
/-! is_fraction, is_row, check_system, System, least_form -/
namespace K5
open PySem PySem.Spec PyProof.Rows L2
abbrev sIsRow : Stmt := top 18
abbrev sChk : Stmt := top 19
abbrev sSysI : Stmt := inClass (top 20) 0
abbrev sSysE : Stmt := inClass (top 20) 1
abbrev sLeast : Stmt := top 21
section
variable {P : Program} {w : World} {K : PySem.W.Frag} {mg : Str → Option Value} {base : Heap}
/-! ### is_fraction -/
def fracD : PyData → Bool
  | .tuple [.int p, .int q] => decide (0 < q) && decide (Nat.gcd p.natAbs q.natAbs = 1)
  | _ => false
def spIsFr (K : PySem.W.Frag) : Sp := fun vs H Q _ => ∃ v d, vs = [v] ∧ Av K H v d ∧ (∀ ds, d = .tuple ds → ds.length ≤ sizeLine) ∧ ∀ H', Same H H' → Q (.bl (fracD d)) H'
theorem scIsFr : FnScope ["value", "item"] ["value"] (defScope sIsFr) := ⟨rfl, rfl, rfl, by decide +kernel, rfl, by decide +kernel, by decide +kernel⟩
theorem fracD_len {ds : List PyData} (h : ds.length ≠ 2) : fracD (.tuple ds) = false := by
  unfold fracD
  split
  · rename_i e
    injection e with e
    subst e
    exact absurd rfl h
  · rfl
theorem ok_isFr (B : Bl mg) (D : Def K mg "is_fraction" sIsFr ["value"]) (OI : Ok P w K mg base CX0 1 "is_integer" sIsInt ["value"] (spIsInt K)) (OD : Ok P w K mg base CX0 1 "divisor_of" sDiv ["one", "other"] spDiv) :
    Ok P w K mg base CX0 2 "is_fraction" sIsFr ["value"] (spIsFr K) := by
  refine .of D fun f fd F => F.ok scIsFr (fun vs H Q E h => ?_) (fun cdv A outer s H vs Q E hr h => ?_)
  · obtain ⟨v, d, rfl, _⟩ := h
    rfl
  · obtain ⟨v, d, rfl, hv, hlen, q⟩ := h
    refine ⟨_, pss_cons (ps_if (PW.pt (pw_or (pt_not (pt_val (pe_b (f := "isinstance") call_isi B.isi b_isi (pa_cons (pv 0) (pa_cons (pe_cls (f := "tuple") B.tuple b_tuple) pa_nil)))))
        (pw_or (pt_cmpR op_ne (pe_b (f := "len") call_len_seq B.len b_len (pa_cons (pv 0) pa_nil)) pe_int (nomark _))
        (pw_or1 (pt_not (pt_val (pe_b (f := "all") (cr_all rfl) B.all b_all (pa_cons (pe_lc (own := [("item", 1)]) (g := gName 1) (tt := tYes) rfl scIsFr.nd (pi_tup (pv 0)) (blkOk_by (N := ["value", "item"]) (sc := defScope sIsFr) (by decide +kernel))
          (fun _ _ _ _ _ => pg_name (i := 1) scIsFr.nd rfl (Or.inl rfl)) (fun _ _ _ _ _ => pts_nil) (fun _ _ _ _ _ => pe_c OI hr (pa_cons (pv 1) pa_nil))) pa_nil)))))))) (pss_one (ps_ret pe_bl)) pss_nil)
      (pss_one (ps_ret (pe_and (pe_cmpR op_gt (pe_ix ix_tup (pv 0) pe_int (fun _ _ => rfl)) pe_int (nomark _))
        (pe_one (pe_cmpR op_eq (pe_c OD hr (pa_cons (pe_ix ix_tup (pv 0) pe_int (fun _ _ => rfl)) (pa_cons (pe_ix ix_tup (pv 0) pe_int (fun _ _ => rfl)) pa_nil))) pe_int (nomark _)))))), ?_⟩
    refine ⟨_, rfl, _, _, _, _, _, rfl, .ty "tuple", hv.ty, kit_tup K d, _, rfl, ?_⟩
    cases d with
    | tuple ds =>
      obtain ⟨td, hd⟩ : tupD (.tuple ds) = true ∧ Dp K H v (.tuple ds) := by
        rcases hv with h | ⟨e, _⟩ | ⟨e, _⟩
        · exact h
        · cases e
        · cases e
      obtain ⟨a, us, rfl, hs, ha⟩ := Dp.tup_inv hd
      have hul := DpAll.length ha
      refine iteF ?_
      refine ⟨_, rfl, a, us, rfl, .inr hs, rfl, _, rfl, ?_⟩
      by_cases h2 : ds.length = 2
      · have e2 : (!decide (V.int ((us.length : Nat) : Int) = V.int 2)) = false := by
          rw [hul, h2]
          rfl
        rw [e2]
        refine iteF ?_
        refine ⟨_, rfl, a, rfl, ⟨_, hs⟩, fun Dn nD => lc_itD (K := K) walk_tup ((ds.map isIntD).map PyData.bool) (tup_bools _) (by simp [hul]) (by rw [hul, h2, sizeLine_eq]; omega) nD (fun _ sa => SqT.fx (fx_same sa) hs) ?_ ?_⟩
        · intro i y d Ha Hb R Nx hi hdi sa hY hR
          obtain ⟨rfl, hx⟩ := hY
          obtain ⟨b, hb, rfl⟩ := map_get hdi
          obtain ⟨e, he, rfl⟩ := map_get hb
          obtain ⟨e', he', de⟩ := DpAll.get (DpAll.same sa ha) hx
          rw [he] at he'
          have ee : e = e' := Option.some.inj he'
          subst ee
          refine ⟨rfl, _, rfl, _, e, rfl, .inl ⟨tupDs_mem (by rw [tupD] at td; exact td) (List.mem_of_getElem? he), de⟩, hR _ _ (Same.refl _) (.bl _)⟩
        · intro Hc ys sc hD hd
          rw [DpAll.bools_inv hd] at hD
          refine ⟨_, _, rfl, SqL.of hD, ?_⟩
          have hs2 := SqT.fx (fx_same sc) hs
          have ha2 := DpAll.same sc ha
          match ds, h2 with
          | [x, y], _ =>
            cases ha2 with
            | @cons v1 _ _ _ d1 ha3 =>
              cases ha3 with
              | @cons v2 _ _ _ d2 ha4 =>
                cases ha4
                by_cases hi : isIntD x = true ∧ isIntD y = true
                · obtain ⟨p, rfl⟩ : ∃ p, x = .int p := by
                    cases x <;> first | exact ⟨_, rfl⟩ | (exact absurd hi.1 (by simp [isIntD]))
                  obtain ⟨r, rfl⟩ : ∃ r, y = .int r := by
                    cases y <;> first | exact ⟨_, rfl⟩ | (exact absurd hi.2 (by simp [isIntD]))
                  have e1 := Dp.int_inv d1
                  have e3 := Dp.int_inv d2
                  subst e1 e3
                  refine ⟨true, rfl, iteF ?_⟩
                  refine ⟨_, rfl, a, _, (1 : Int), _, rfl, rfl, hs2, rfl, _, _, rfl, rfl, _, rfl, ?_⟩
                  have qq := q Hc sc
                  refine ite2 (fun c => ?_) (fun c => ?_)
                  · have c' := of_decide_eq_true c
                    refine ⟨_, rfl, a, _, (0 : Int), _, rfl, rfl, hs2, rfl, _, rfl, a, _, (1 : Int), _, rfl, rfl, hs2, rfl, p, r, rfl, rfl, ?_⟩
                    have ef : fracD (.tuple [.int p, .int r]) = decide (V.int ((Nat.gcd p.natAbs r.natAbs : Nat) : Int) = V.int 1) := by
                      show (decide (0 < r) && decide (Nat.gcd p.natAbs r.natAbs = 1)) = _
                      rw [decide_eq_true c', Bool.true_and]
                      apply decide_eq_decide.mpr
                      constructor
                      · intro z
                        rw [z]
                        rfl
                      · intro z
                        have := V.int.inj z
                        omega
                    rw [ef] at qq
                    exact qq
                  · have ef : fracD (.tuple [.int p, .int r]) = false := by
                      show (decide (0 < r) && _) = _
                      rw [decide_eq_false fun z => c (decide_eq_true z)]
                      rfl
                    rw [ef] at qq
                    exact qq
                · have e4 : List.all ([x, y].map isIntD) id = false := by
                    cases hx : isIntD x <;> cases hy : isIntD y <;> simp_all
                  refine ⟨false, congrArg V.bl e4, iteT ?_⟩
                  have ef : fracD (.tuple [x, y]) = false := by
                    unfold fracD
                    split
                    · rename_i e
                      injection e with e
                      injection e with e5 e6
                      injection e6 with e6 _
                      subst e5 e6
                      exact absurd ⟨rfl, rfl⟩ hi
                    · rfl
                  have qq := q Hc sc
                  rw [ef] at qq
                  exact qq
      · have e2 : (!decide (V.int ((us.length : Nat) : Int) = V.int 2)) = true := by
          rw [hul, decide_eq_false]
          · rfl
          · intro z
            have := V.int.inj z
            omega
        rw [e2]
        refine iteT (iteT ?_)
        have qq := q H (Same.refl H)
        rw [fracD_len h2] at qq
        exact qq
    | _ => exact iteT (iteT (q H (Same.refl H)))

/-! ### is_row -/
def spIsRow (K : PySem.W.Frag) : Sp := fun vs H Q _ => ∃ v r n, vs = [v, .int ((n : Nat) : Int)] ∧ Dp K H v (encR r) ∧ RowOk n r ∧ n ≤ 6 ∧ ∀ H', Same H H' → Q (.bl true) H'
theorem scIsRow : FnScope ["value", "size", "item"] ["value", "size"] (defScope sIsRow) := ⟨rfl, rfl, rfl, by decide +kernel, rfl, by decide +kernel, by decide +kernel⟩
theorem ints_ne {c : List Int} (h : NZ c) : c.map V.int ≠ [] := by
  obtain ⟨x, hx, _⟩ := h
  intro e
  rw [List.map_eq_nil_iff] at e
  rw [e] at hx
  cases hx
theorem any_nz {c : List Int} (h : NZ c) : (c.map fun x => !decide (V.int x = V.int 0)).any id = true := by
  obtain ⟨x, hx, hn⟩ := h
  rw [List.any_map]
  exact List.any_eq_true.mpr ⟨x, hx, by
    show (!decide (V.int x = V.int 0)) = true
    rw [decide_eq_false fun e => hn (V.int.inj e)]
    rfl⟩
theorem ok_isRow (B : Bl mg) (D : Def K mg "is_row" sIsRow ["value", "size"]) (OI : Ok P w K mg base CX0 1 "is_integer" sIsInt ["value"] (spIsInt K)) (OC : Ok P w K mg base CX0 2 "common_divisor" sCom ["numbers"] (spCom K)) :
    Ok P w K mg base CX0 3 "is_row" sIsRow ["value", "size"] (spIsRow K) := by
  refine .of D fun f fd F => F.ok scIsRow (fun vs H Q E h => ?_) (fun cdv A outer s H vs Q E hr h => ?_)
  · obtain ⟨v, d, n, rfl, _⟩ := h
    rfl
  · obtain ⟨v, r, n, rfl, hv, ok, h6, q⟩ := h
    obtain ⟨a, v1, rfl, hs, d1⟩ := Dp.R_inv hv
    obtain ⟨a1, rfl, hs1⟩ := Dp.I_inv d1
    have hr1 := hr.mono (show 1 ≤ 2 by decide)
    refine ⟨_, pss_cons (ps_if (PW.pt (pw_or (pt_not (pt_val (pe_b (f := "isinstance") call_isi B.isi b_isi (pa_cons (pv 0) (pa_cons (pe_cls (f := "tuple") B.tuple b_tuple) pa_nil)))))
        (pw_or (pt_cmpR op_ne (pe_b (f := "len") call_len_seq B.len b_len (pa_cons (pv 0) pa_nil)) pe_int (nomark _))
        (pw_or1 (pt_not (pt_val (pe_b (f := "isinstance") call_isi B.isi b_isi (pa_cons (pe_ix ix_tup (pv 0) pe_int (fun _ _ => rfl)) (pa_cons (pe_cls (f := "tuple") B.tuple b_tuple) pa_nil))))))))) (pss_one (ps_ret pe_bl)) pss_nil)
      (pss_cons (ps_if (PW.pt (pw_or (pt_cmpR op_ne (pe_b (f := "len") call_len_seq B.len b_len (pa_cons (pe_ix ix_tup (pv 0) pe_int (fun _ _ => rfl)) pa_nil)) (pv 1) (nomark _))
        (pw_or (pt_not (pt_val (pe_b (f := "all") (cr_all rfl) B.all b_all (pa_cons (pe_lc (own := [("item", 2)]) (g := gName 2) (tt := tYes) rfl scIsRow.nd (pi_tup (pe_ix ix_tup (pv 0) pe_int (fun _ _ => rfl))) (blkOk_by (N := ["value", "size", "item"]) (sc := defScope sIsRow) (by decide +kernel))
          (fun _ _ _ _ _ => pg_name (i := 2) scIsRow.nd rfl (Or.inl rfl)) (fun _ _ _ _ _ => pts_nil) (fun _ _ _ _ _ => pe_c OI hr1 (pa_cons (pv 2) pa_nil))) pa_nil))))
        (pw_or1 (pt_not (pt_val (pe_c OI hr1 (pa_cons (pe_ix ix_tup (pv 0) pe_int (fun _ _ => rfl)) pa_nil)))))))) (pss_one (ps_ret pe_bl)) pss_nil)
      (pss_one (ps_ret (pe_and (pe_b (f := "any") (cr_any rfl) B.any b_any (pa_cons (pe_lc (own := [("item", 2)]) (g := gName 2) (tt := tYes) rfl scIsRow.nd (pi_tup (pe_ix ix_tup (pv 0) pe_int (fun _ _ => rfl))) (blkOk_by (N := ["value", "size", "item"]) (sc := defScope sIsRow) (by decide +kernel))
          (fun _ _ _ _ _ => pg_name (i := 2) scIsRow.nd rfl (Or.inl rfl)) (fun _ _ _ _ _ => pts_nil) (fun _ _ _ _ _ => pe_cmpR op_ne (pv 2) pe_int (nomark _))) pa_nil))
        (pe_one (pe_cmpR op_eq (pe_c OC hr (pa_cons (pe_op op_catT (pe_ix ix_tup (pv 0) pe_int (fun _ _ => rfl)) (pe_tup (pa_cons (pe_ix ix_tup (pv 0) pe_int (fun _ _ => rfl)) pa_nil))) pa_nil)) pe_int (nomark _))))))), ?_⟩
    have hl : (r.1.map V.int).length = n := by rw [List.length_map]; exact ok.len
    refine ⟨_, rfl, _, _, _, _, _, rfl, .ty "tuple", SqT.ty hs, kit_tup K (.tuple []), _, rfl, iteF ?_⟩
    refine ⟨_, rfl, a, _, rfl, .inr hs, rfl, false, rfl, iteF ?_⟩
    refine ⟨_, rfl, a, _, (0 : Int), _, rfl, rfl, hs, rfl, _, _, _, _, _, rfl, .ty "tuple", SqT.ty hs1, kit_tup K (.tuple []), _, rfl, iteF ?_⟩
    -- the second test
    refine ⟨_, rfl, a, _, (0 : Int), _, rfl, rfl, hs, rfl, a1, _, rfl, .inr hs1, _, rfl, rfl, false, by rw [hl]; simp, iteF ?_⟩
    refine ⟨_, rfl, a, _, (0 : Int), _, rfl, rfl, hs, rfl, a1, rfl, ⟨_, hs1⟩, fun Dn nD => lc_itD (K := K) walk_tup ((List.replicate n true).map PyData.bool) (tup_bools _) (by rw [hl]; simp) (by rw [hl, sizeLine_eq]; omega) nD (fun _ sa => SqT.fx (fx_same sa) hs1) ?_ ?_⟩
    · intro i y d Ha Hb R Nx hi hd sa hY hR
      obtain ⟨rfl, hx⟩ := hY
      obtain ⟨x, gx, rfl⟩ := map_get hx
      obtain ⟨b, hb, rfl⟩ := map_get hd
      have eb : b = true := List.eq_of_mem_replicate (List.mem_of_getElem? hb)
      subst eb
      exact ⟨rfl, _, rfl, .int x, .int x, rfl, .inl ⟨rfl, .int x⟩, hR _ _ (Same.refl _) (.bl true)⟩
    · intro Hc ys sc hD hd
      rw [DpAll.bools_inv hd] at hD
      refine ⟨_, _, rfl, SqL.of hD, true, congrArg V.bl (all_id_rep n), iteF ?_⟩
      have hs2 := SqT.fx (fx_same sc) hs
      have hs12 := SqT.fx (fx_same sc) hs1
      refine ⟨_, rfl, a, _, (1 : Int), _, rfl, rfl, hs2, rfl, .int r.2, .int r.2, rfl, .inl ⟨rfl, .int r.2⟩, _, rfl, iteF ?_⟩
      refine ⟨_, rfl, a, _, (0 : Int), _, rfl, rfl, hs2, rfl, a1, rfl, ⟨_, hs12⟩, fun Dm nM => lc_itD (K := K) walk_tup ((r.1.map fun x => !decide (V.int x = V.int 0)).map PyData.bool) (tup_bools _) (by simp) (by rw [hl, sizeLine_eq]; omega) nM (fun _ sa => SqT.fx (fx_same sa) hs12) ?_ ?_⟩
      · intro i y d Ha Hb R Nx hi hd sa hY hR
        obtain ⟨rfl, hx⟩ := hY
        obtain ⟨x, gx, rfl⟩ := map_get hx
        obtain ⟨b, hb, rfl⟩ := map_get hd
        obtain ⟨x', gx', rfl⟩ := map_get hb
        rw [gx] at gx'
        have ex : x = x' := Option.some.inj gx'
        subst ex
        exact ⟨rfl, _, rfl, rfl, hR _ _ (Same.refl _) (.bl _)⟩
      · intro Hd zs sd hD2 hd2
        rw [DpAll.bools_inv hd2] at hD2
        refine ⟨_, _, rfl, SqL.of hD2, true, congrArg V.bl (any_nz ok.nz), iteT ?_⟩
        have hs3 := SqT.fx (fx_same sd) hs2
        have hs13 := SqT.fx (fx_same sd) hs12
        refine ⟨_, rfl, a, _, (0 : Int), _, rfl, rfl, hs3, rfl, _, rfl, a, _, (1 : Int), _, rfl, rfl, hs3, rfl, (by show 1 ≤ sizeLine; decide), fun t ht => ?_⟩
        have st : Same Hd (upd Hd t (.tup [.int r.2])) := same_new ht
        refine ⟨a1, t, _, _, rfl, rfl, SqT.fx (fx_same st) hs13, SqT.of upd_same, ints_ne ok.nz, by rw [hl, sizeLine_eq]; show n + 1 ≤ _; omega, fun e => absurd e (by simp), fun _ p hp => ?_⟩
        have sp : Same (upd Hd t (.tup [.int r.2])) (upd (upd Hd t (.tup [.int r.2])) p (.tup (r.1.map V.int ++ [.int r.2]))) := same_new hp
        refine ⟨.ref p, ents r, rfl, Dp.I_of (by
          have e : (ents r).map V.int = r.1.map V.int ++ [.int r.2] := by unfold ents; simp
          rw [e]
          exact SqT.of upd_same), rfl, ?_⟩
        have e1 : decide (V.int ((gcdL (ents r) : Nat) : Int) = V.int 1) = true := by
          rw [ok.one]
          rfl
        rw [e1]
        exact q _ (((sc.trans sd).trans st).trans sp)
end
end K5
end

section
set_option Elab.async false
set_option linter.all false
set_option maxRecDepth 100000
set_option maxHeartbeats 4000000
/-! check_system, System, least_form -/
namespace K5
open PySem PySem.Spec PyProof.Rows L2
def rowLt (r s : Row) : Prop := PySem.W.dataLt (encR r) (encR s) = true
/-- rows in least form, ascending -/
structure RowsOk (n : Nat) (rs : List Row) : Prop where
  most : rs.length ≤ 60
  ok : ∀ r ∈ rs, RowOk n r
  up : rs.Pairwise rowLt
section
variable {P : Program} {w : World} {K : PySem.W.Frag} {mg : Str → Option Value} {base : Heap}
def spChk (K : PySem.W.Frag) : Sp := fun vs H Q _ => ∃ vn vr ns rs, vs = [vn, vr] ∧ Dp K H vn (encN ns) ∧ Dp K H vr (encRs rs) ∧ NamesOk ns ∧ RowsOk ns.length rs ∧ ∀ H', Same H H' → Q .non H'
theorem scChk : FnScope ["names", "rows", "at", "row"] ["names", "rows"] (defScope sChk) := ⟨rfl, rfl, rfl, by decide +kernel, rfl, by decide +kernel, by decide +kernel⟩
theorem ok_chk (B : Bl mg) (D : Def K mg "check_system" sChk ["names", "rows"]) (OL : Ok P w K mg base CX0 2 "is_name_lot" sIsNameLot ["value"] (spIsNameLot K)) (OR : Ok P w K mg base CX0 3 "is_row" sIsRow ["value", "size"] (spIsRow K)) :
    Ok P w K mg base CX0 4 "check_system" sChk ["names", "rows"] (spChk K) := by
  refine .of D fun f fd F => F.ok scChk (fun vs H Q E h => ?_) (fun cdv A outer s H vs Q E hr h => ?_)
  · obtain ⟨v, d, _, _, rfl, _⟩ := h
    rfl
  · obtain ⟨vn, vr, ns, rs, rfl, dn, dr, N, RS, q⟩ := h
    obtain ⟨a, rfl, hn⟩ := Dp.N_inv dn
    obtain ⟨b, us, rfl, hs, ha⟩ := Dp.tup_inv dr
    have hul := DpAll.length ha
    rw [List.length_map] at hul
    have hr2 := hr.mono (show 2 ≤ 3 by decide)
    have h6 := N.six
    have h1 := N.one
    have h60 := RS.most
    refine ⟨_, pss_cons (ps_if (PW.pt (pw_or (pt_not (pt_val (pe_c OL hr2 (pa_cons (pv 0) pa_nil))))
        (pw_or (pt_not (pt_chain op_le op_le pe_int (pe_b (f := "len") call_len_seq B.len b_len (pa_cons (pv 0) pa_nil)) (int_glob B.names)))
        (pw_or1 (pt_not (pt_val (pe_b (f := "isinstance") call_isi B.isi b_isi (pa_cons (pv 1) (pa_cons (pe_cls (f := "tuple") B.tuple b_tuple) pa_nil))))))))) (pss_one ps_never) pss_nil)
      (pss_one (ps_for PassesOwn.never rfl (pi_enumT B.enumerate (pa_cons (pv 1) pa_nil)) (pg_tup rfl (pgs_cons (pg_name (i := 2) scChk.nd rfl (.inl rfl)) (pgs_cons (pg_name (i := 3) scChk.nd rfl (.inl rfl)) pgs_nil)))
        (pss_one (ps_if (PW.pt (pw_or (pt_cmpR op_ge (pv 2) (int_glob B.rows) (nomark _))
          (pw_or (pt_not (pt_val (pe_c OR hr (pa_cons (pv 3) (pa_cons (pe_b (f := "len") call_len_seq B.len b_len (pa_cons (pv 0) pa_nil)) pa_nil)))))
          (pw_or1 (PW.pt (pw_and (pt_cmpR op_gt (pv 2) pe_int (nomark _)) (pw_and1 (pt_not (pt_cmpR (op_ltD hr.units) (pe_ix ix_tup (pv 1) (pe_op op_sub (pv 2) pe_int) (fun _ _ => rfl)) (pv 3) (nomark _)))))))))) (pss_one ps_never) pss_nil)))), ?_⟩
    refine ⟨_, rfl, .ref a, ns, rfl, dn, N, fun H1 s1 => ⟨_, rfl, iteF ?_⟩⟩
    refine ⟨_, rfl, a, _, rfl, .inr (SqT.fx (fx_same s1) hn), _, _, rfl, rfl, true, congrArg V.bl (decide_eq_true (by rw [List.length_map]; omega)), iteT ⟨_, _, rfl, rfl, true, congrArg V.bl (decide_eq_true (by rw [List.length_map]; omega)), iteF ?_⟩⟩
    refine ⟨_, rfl, _, _, _, _, _, rfl, .ty "tuple", SqT.ty (SqT.fx (fx_same s1) hs), kit_tup K (.tuple []), _, rfl, iteF ?_⟩
    refine ⟨_, rfl, b, _, rfl, SqT.fx (fx_same s1) hs, for_it (walk_enumT (K := K) (a := b) (xs := us)) (fun i σ H' => ∃ z1 z2, σ = [some (.ref a), some (.ref b), z1, z2] ∧ Same H H') ⟨none, none, rfl, s1⟩ (fun i σ H' _ ⟨_, _, _, sa⟩ => SqT.fx (fx_same sa) hs) ?_ ?_⟩
    · rintro i v σ Ha Hb hi ⟨z1, z2, rfl, sa⟩ ⟨T, x, y, rfl, nT, rfl, ex, hy⟩
      have ex' : V.int (i : Nat) = x := Option.some.inj ex
      subst ex'
      have sb : Same H (upd Ha T (.tup [.int (i : Nat), y])) := sa.trans (same_new nT)
      obtain ⟨d, hd, dy⟩ := DpAll.get (DpAll.same sb ha) hy
      obtain ⟨r, gr, rfl⟩ := map_get hd
      have hir : i < rs.length := by rw [← hul]; exact hi
      refine ⟨T, _, rfl, SqT.of upd_same, rfl, _, _, rfl, _, _, rfl, rfl, ?_⟩
      refine ⟨_, rfl, _, _, rfl, rfl, false, congrArg V.bl (decide_eq_false (by omega)), iteF ?_⟩
      refine ⟨_, rfl, _, rfl, a, _, rfl, .inr (SqT.fx (fx_same sb) hn), y, r, ns.length, by rw [List.length_map]; rfl, dy, RS.ok r (List.mem_of_getElem? gr), h6, fun H3 s3 => ⟨_, rfl, iteF ?_⟩⟩
      have sc := sb.trans s3
      refine ⟨_, rfl, _, _, rfl, rfl, _, rfl, ?_⟩
      refine ite2 (fun c => ?_) (fun c => ?_)
      · have c' : (0 : Int) < ((i : Nat) : Int) := of_decide_eq_true c
        obtain ⟨j, rfl⟩ : ∃ j, i = j + 1 := ⟨i - 1, by omega⟩
        have hj : j < us.length := by omega
        obtain ⟨d2, hd2, dy2⟩ := DpAll.get (DpAll.same sc ha) (List.getElem?_eq_getElem hj)
        obtain ⟨r2, gr2, rfl⟩ := map_get hd2
        refine ⟨_, rfl, _, rfl, _, _, rfl, rfl, b, us, _, _, rfl, rfl, SqT.fx (fx_same sc) hs, at_of (j := j) (by omega) (List.getElem?_eq_getElem hj), _, rfl, encR r2, encR r, dy2, Dp.same s3 dy, alike_R _ _, fun z => PyData.noConfusion z, by have := depth_R r2; omega, true, ?_, iteF ⟨_, _, rfl, sc⟩⟩
        have hjr : j < rs.length := by omega
        have e1 : rs[j] = r2 := by
          rw [List.getElem?_eq_getElem hjr] at gr2
          exact Option.some.inj gr2
        have e2 : rs[j + 1] = r := by
          rw [List.getElem?_eq_getElem hir] at gr
          exact Option.some.inj gr
        have lt := List.pairwise_iff_getElem.mp RS.up j (j + 1) hjr hir (by omega)
        rw [e1, e2] at lt
        exact congrArg V.bl lt
      · exact iteF ⟨_, _, rfl, sc⟩
    · rintro σ Ha ⟨z1, z2, rfl, sa⟩
      exact q _ sa

/-! ### System -/
def sysF (vn vr : V) : List (Str × V) := putF "rows" vr (putF "names" vn [])
theorem rn_ : ¬ (("names" : Str) = "rows") := by decide +kernel
theorem sysF_names (vn vr : V) : (sysF vn vr).lookup ("names" : Str) = some vn := by
  unfold sysF
  rw [lookup_putF, if_neg rn_, lookup_putF, if_pos rfl]
theorem sysF_rows (vn vr : V) : (sysF vn vr).lookup ("rows" : Str) = some vr := by
  unfold sysF
  rw [lookup_putF, if_pos rfl]
/-- a tuple without a dict of its own -/
def NoD (H : Hp) (v : V) : Prop := ∃ a o u, v = .ref a ∧ H a = some (.frz o u) ∧ o.dict = none ∧ o.cls = .type "tuple"
theorem NoD.fx {H H' : Hp} {v : V} (h : NoD H v) (x : Fx H H') : NoD H' v := by
  obtain ⟨a, o, u, e, ha, hd⟩ := h
  exact ⟨a, o, u, e, x _ _ rfl ha, hd⟩
/-- a System at v -/
def SysAt (K : PySem.W.Frag) (C : Addr) (H : Hp) (v : V) (ns : List Str) (rs : List Row) : Prop :=
  ∃ s dx vn vr, v = .ref s ∧ H s = some (.ins C dx (sysF vn vr)) ∧ Dp K H vn (encN ns) ∧ Dp K H vr (encRs rs) ∧ NoD H vn
theorem SysAt.fx {C : Addr} {H H' : Hp} {v : V} {ns : List Str} {rs : List Row} (h : SysAt K C H v ns rs) (x : Fx H H') : SysAt K C H' v ns rs := by
  obtain ⟨s, dx, vn, vr, e, hs, dn, dr, nd⟩ := h
  exact ⟨s, dx, vn, vr, e, x _ _ rfl hs, Dp.fx x (tup_N ns) dn, Dp.fx x (tup_Rs rs) dr, NoD.fx nd x⟩
theorem SysAt.same {C : Addr} {H H' : Hp} {v : V} {ns : List Str} {rs : List Row} (h : SysAt K C H v ns rs) (x : Same H H') : SysAt K C H' v ns rs := h.fx (fx_same x)
structure SysT (K : PySem.W.Frag) (mg : Str → Option Value) (C fI fE : Addr) : Prop where
  ins : C8.InsC K C
  nN : NoAttr K C "names"
  nR : NoAttr K C "rows"
  mgC : mg "System" = some (.ref C)
  maker : Mk K C fI
  eq : Meth K C "__eq__" fE
  fI : ∃ fd, Fun K "__init__" "System.__init__" sSysI fI fd ∧ Binds K fd ["self", "names", "rows"] []
  fE : ∃ fd, Fun K "__eq__" "System.__eq__" sSysE fE fd ∧ Binds K fd ["self", "other"] []
def spSysI (K : PySem.W.Frag) (C : Addr) : Sp := fun vs H Q _ => ∃ p dx vn vr ns rs, vs = [.ref p, vn, vr] ∧ H p = some (.ins C dx []) ∧ Dp K H vn (encN ns) ∧ Dp K H vr (encRs rs) ∧ NamesOk ns ∧ RowsOk ns.length rs ∧
  ∀ H', Kb p H H' → H' p = some (.ins C dx (sysF vn vr)) → Q .non H'
theorem scSysI : FnScope ["self", "names", "rows"] ["self", "names", "rows"] (defScope sSysI) := ⟨rfl, rfl, rfl, by decide +kernel, rfl, by decide +kernel, by decide +kernel⟩
theorem ok_sysI {C fI fE : Addr} {fd : FuncData} (S : SysT K mg C fI fE) (F : Fun K "__init__" "System.__init__" sSysI fI fd) (OK : Ok P w K mg base CX0 4 "check_system" sChk ["names", "rows"] (spChk K)) :
    FnOk P w K mg base CX0 5 fI fd ["self", "names", "rows"] (spSysI K C) := by
  refine F.ok scSysI (fun vs H Q E h => ?_) (fun cdv A outer s H vs Q E hr h => ?_)
  · obtain ⟨p, dx, vn, vr, ns, rs, rfl, _⟩ := h
    rfl
  · obtain ⟨p, dx, vn, vr, ns, rs, rfl, hp, dn, dr, N, RS, q⟩ := h
    refine ⟨_, pss_cons (ps_expr (pe_c OK hr (pa_cons (pv 1) (pa_cons (pv 2) pa_nil)))) (pss_cons (ps_fld (pv 0) (pv 1) rfl) (pss_one (ps_fld (pv 0) (pv 2) rfl))), ?_⟩
    refine ⟨_, rfl, _, rfl, vn, vr, ns, rs, rfl, dn, dr, N, RS, fun H1 s1 => ?_⟩
    refine ⟨_, rfl, _, rfl, p, C, dx, _, rfl, s1 _ _ hp, S.ins.cl, S.nN, (by show 0 < 1000; decide), _, rfl, _, rfl, p, C, dx, _, rfl, upd_same, S.ins.cl, S.nR, (by show 1 < 1000; decide), ?_⟩
    refine q _ (fun a o n e => ?_) upd_same
    rw [upd_ne n, upd_ne n]
    exact s1 _ _ e

/-- == of two systems that are alike -/
def SysEq (K : PySem.W.Frag) (C : Addr) (a b : Addr) (H : Hp) : Prop := ∃ ns rs, SysAt K C H (.ref a) ns rs ∧ SysAt K C H (.ref b) ns rs ∧ (∀ x ∈ ns, nameB x = true)
theorem eqvAll_refl : ∀ {ds : List PyData}, (∀ d ∈ ds, PyData.eqv d d = true) → PyData.eqvAll ds ds = true
  | [], _ => by rw [PyData.eqvAll]
  | d :: ds, h => by rw [PyData.eqvAll, h d List.mem_cons_self, eqvAll_refl fun e he => h e (List.mem_cons_of_mem _ he)]; rfl
theorem eqv_I (c : List Int) : PyData.eqv (encI c) (encI c) = true := by
  unfold encI
  rw [PyData.eqv]
  exact eqvAll_refl fun d hd => by
    obtain ⟨x, _, rfl⟩ := List.mem_map.mp hd
    rw [PyData.eqv]
    simp
theorem eqv_R (r : Row) : PyData.eqv (encR r) (encR r) = true := by
  unfold encR
  rw [PyData.eqv]
  exact eqvAll_refl fun d hd => by
    rcases List.mem_cons.mp hd with e | hd
    · rw [e]
      exact eqv_I _
    · rcases List.mem_cons.mp hd with e | hd
      · rw [e, PyData.eqv]
        simp
      · cases hd
theorem eqv_Rs (rs : List Row) : PyData.eqv (encRs rs) (encRs rs) = true := by
  unfold encRs
  rw [PyData.eqv]
  exact eqvAll_refl fun d hd => by
    obtain ⟨x, _, rfl⟩ := List.mem_map.mp hd
    exact eqv_R x
theorem eqv_N (ns : List Str) : PyData.eqv (encN ns) (encN ns) = true := by
  unfold encN
  rw [PyData.eqv]
  exact eqvAll_refl fun d hd => by
    obtain ⟨x, _, rfl⟩ := List.mem_map.mp hd
    rw [PyData.eqv]
    simp
theorem canAll_of : ∀ {ds : List PyData}, (∀ d ∈ ds, d.canLay0 = true) → PyData.canLayAll0 ds = true
  | [], _ => by rw [PyData.canLayAll0]
  | d :: ds, h => by rw [PyData.canLayAll0, h d List.mem_cons_self, canAll_of fun e he => h e (List.mem_cons_of_mem _ he)]; rfl
theorem can_I (c : List Int) : (encI c).canLay0 = true := by
  unfold encI
  rw [PyData.canLay0]
  exact canAll_of fun d hd => by
    obtain ⟨x, _, rfl⟩ := List.mem_map.mp hd
    rw [PyData.canLay0]
theorem can_R (r : Row) : (encR r).canLay0 = true := by
  unfold encR
  rw [PyData.canLay0]
  exact canAll_of fun d hd => by
    rcases List.mem_cons.mp hd with e | hd
    · rw [e]
      exact can_I _
    · rcases List.mem_cons.mp hd with e | hd
      · rw [e, PyData.canLay0]
      · cases hd
theorem let_small {c : Nat} (h : letB c = true) : c < 0x110000 := by
  have m := of_decide_eq_true h
  have all : ∀ x ∈ ("abcdefghijklmnopqrstuvwxyz" : Str).cps.toList, x < 0x110000 := by decide +kernel
  exact all c m
theorem nameB_can {x : Str} (h : nameB x = true) : (PyData.str x).canLay0 = true := by
  rw [PyData.canLay0]
  unfold nameB at h
  rw [Bool.and_eq_true, Bool.and_eq_true] at h
  have h2 := h.2.2
  unfold PyData.strOk
  rw [← Array.all_toList]
  exact List.all_eq_true.mpr fun c hc => decide_eq_true (let_small (List.all_eq_true.mp h2 c hc))
theorem shaped_R (r : Row) : SeqAt.shaped (encR r) = true := by
  unfold SeqAt.shaped
  rw [can_R, decide_eq_true (by have := depth_R r; omega)]
  rfl
theorem shaped_Rs (rs : List Row) : SeqAt.shaped (encRs rs) = true := by
  unfold SeqAt.shaped encRs
  rw [PyData.canLay0, canAll_of (fun d hd => by
    obtain ⟨x, _, rfl⟩ := List.mem_map.mp hd
    exact can_R x), PyData.depth, decide_eq_true]
  · rfl
  · have := depthAll_le (n := 2) (ds := rs.map encR) fun d hd => by
      obtain ⟨x, _, rfl⟩ := List.mem_map.mp hd
      exact depth_R x
    omega
theorem shaped_N {ns : List Str} (h : ∀ x ∈ ns, nameB x = true) : SeqAt.shaped (encN ns) = true := by
  unfold SeqAt.shaped encN
  rw [PyData.canLay0, canAll_of (fun d hd => by
    obtain ⟨x, hx, rfl⟩ := List.mem_map.mp hd
    exact nameB_can (h x hx)), PyData.depth, decide_eq_true]
  · rfl
  · have := depthAll_le (n := 0) (ds := ns.map PyData.str) fun d hd => by
      obtain ⟨x, _, rfl⟩ := List.mem_map.mp hd
      rw [PyData.depth]
      exact Nat.le_refl _
    omega
theorem scSysE : FnScope ["self", "other"] ["self", "other"] (defScope sSysE) := ⟨rfl, rfl, rfl, by decide +kernel, rfl, by decide +kernel, by decide +kernel⟩
theorem ok_sysE {C fI fE : Addr} {fd : FuncData} (B : Bl mg) (S : SysT K mg C fI fE) (F : Fun K "__eq__" "System.__eq__" sSysE fE fd) : FnOk P w K mg base CX0 1 fE fd ["self", "other"] (spEq (SysEq K C)) := by
  refine F.ok scSysE (fun vs H Q E h => ?_) (fun cdv A outer s H vs Q E hr h => ?_)
  · obtain ⟨a, b, rfl, _⟩ := h
    rfl
  · obtain ⟨a, b, rfl, ⟨ns, rs, ⟨a', dx, vn, vr, ea, ha, dn, dr, _⟩, ⟨b', dx', vn', vr', eb, hb, dn', dr', _⟩, hN⟩, q⟩ := h
    cases ea
    cases eb
    refine ⟨_, pss_one (ps_ret (pe_and (pe_b (f := "isinstance") (C8.call_isC S.ins) B.isi b_isi (pa_cons (pv 1) (pa_cons (pe_glob (v := .ref C) rfl S.mgC rfl) pa_nil)))
      (pe_and (pe_cmpR (op_eqD hr.units) (pe_fld (pv 0) rfl) (pe_fld (pv 1) rfl) (nomark _)) (pe_one (pe_cmpR (op_eqD hr.units) (pe_fld (pv 0) rfl) (pe_fld (pv 1) rfl) (nomark _)))))), ?_⟩
    refine ⟨_, rfl, b, dx', _, rfl, hb, _, rfl, iteT ?_⟩
    refine ⟨_, rfl, a, C, dx, _, _, rfl, ha, S.ins.cl, S.nN, sysF_names _ _, _, rfl, b, C, dx', _, _, rfl, hb, S.ins.cl, S.nN, sysF_names _ _, _, _, dn, dn', shaped_N hN, shaped_N hN, true, congrArg V.bl (eqv_N ns), iteT ?_⟩
    refine ⟨_, rfl, a, C, dx, _, _, rfl, ha, S.ins.cl, S.nR, sysF_rows _ _, _, rfl, b, C, dx', _, _, rfl, hb, S.ins.cl, S.nR, sysF_rows _ _, _, _, dr, dr', shaped_Rs rs, shaped_Rs rs, ?_⟩
    rw [eqv_Rs]
    exact q H Ext.rfl'
end
end K5
end

section
set_option Elab.async false
set_option linter.all false
set_option maxRecDepth 100000
set_option maxHeartbeats 4000000
/-! least_form -/
namespace K5
open PySem PySem.Spec PyProof.Rows L2
def BdL (M : Nat) (c : List Int) : Prop := ∀ x ∈ c, x.natAbs ≤ M
section
variable {P : Program} {w : World} {K : PySem.W.Frag} {mg : Str → Option Value} {base : Heap}
def spLeast (K : PySem.W.Frag) : Sp := fun vs H Q _ => ∃ a c b, vs = [.ref a, .int b] ∧ SqL K H a (c.map V.int) ∧ NZ c ∧ c.length ≤ 6 ∧ BdL 1073741823 c ∧ ∀ H' v, Same H H' → Dp K H' v (encR (least (c, b))) → Q v H'
theorem scLeast : FnScope ["coefficients", "bound", "factor", "item"] ["coefficients", "bound"] (defScope sLeast) := ⟨rfl, rfl, rfl, by decide +kernel, rfl, by decide +kernel, by decide +kernel⟩
theorem gcd_lt {c : List Int} {b : Int} (h : NZ c) (hb : BdL 1073741823 c) : gcdL (ents (c, b)) ≤ 1073741823 := by
  obtain ⟨x, hx, hn⟩ := h
  have d := (gcdF_dvd (ents (c, b)) 0).2 x (List.mem_append_left _ hx)
  have := Nat.le_of_dvd (by omega) d
  have h2 := hb x hx
  exact Nat.le_trans this h2
theorem all_nz {c : List Int} (h : NZ c) : (c.map fun x => decide (V.int x = V.int 0)).all id = false := by
  obtain ⟨x, hx, hn⟩ := h
  rw [List.all_map]
  exact List.all_eq_false.mpr ⟨x, hx, by
    show ¬ (decide (V.int x = V.int 0)) = true
    rw [decide_eq_false fun e => hn (V.int.inj e)]
    exact Bool.false_ne_true⟩
theorem ok_least (B : Bl mg) (D : Def K mg "least_form" sLeast ["coefficients", "bound"]) (OC : Ok P w K mg base CX0 2 "common_divisor" sCom ["numbers"] (spCom K)) :
    Ok P w K mg base CX0 3 "least_form" sLeast ["coefficients", "bound"] (spLeast K) := by
  refine .of D fun f fd F => F.ok scLeast (fun vs H Q E h => ?_) (fun cdv A outer s H vs Q E hr h => ?_)
  · obtain ⟨v, d, n, rfl, _⟩ := h
    rfl
  · obtain ⟨a, c, b, rfl, hs, nz, h6, bd, q⟩ := h
    refine ⟨_, pss_cons (ps_if (pt_val (pe_b (f := "all") (cr_all rfl) B.all b_all (pa_cons (pe_lc (own := [("item", 3)]) (g := gName 3) (tt := tYes) rfl scLeast.nd (pi_list (pv 0)) (blkOk_by (N := ["coefficients", "bound", "factor", "item"]) (sc := defScope sLeast) (by decide +kernel))
          (fun _ _ _ _ _ => pg_name (i := 3) scLeast.nd rfl (Or.inl rfl)) (fun _ _ _ _ _ => pts_nil) (fun _ _ _ _ _ => pe_cmpR op_eq (pv 3) pe_int (nomark _))) pa_nil))) (pss_one (ps_ret pe_non)) pss_nil)
      (pss_cons (ps_set (i := 2) scLeast.nd rfl (Or.inr rfl) (pe_c OC hr (pa_cons (pe_op op_catT (pe_t (f := "tuple") call_tuple_of B.tuple b_tuple (pa_cons (pv 0) pa_nil)) (pe_tup (pa_cons (pv 1) pa_nil))) pa_nil)))
      (pss_one (ps_ret (pe_tup (pa_cons (pe_t (f := "tuple") call_tuple_of B.tuple b_tuple (pa_cons (pe_lc (own := [("item", 3)]) (g := gName 3) (tt := tYes) rfl scLeast.nd (pi_list (pv 0)) (blkOk_by (N := ["coefficients", "bound", "factor", "item"]) (sc := defScope sLeast) (by decide +kernel))
          (fun _ _ _ _ _ => pg_name (i := 3) scLeast.nd rfl (Or.inl rfl)) (fun _ _ _ _ _ => pts_nil) (fun _ _ _ _ _ => pe_op op_fdiv (pv 3) (pv 2))) pa_nil)) (pa_cons (pe_op op_fdiv (pv 1) (pv 2)) pa_nil)))))), ?_⟩
    have hz : (c.map V.int).length ≤ sizeLine := by rw [List.length_map, sizeLine_eq]; omega
    have gp : 0 < gcdL (ents (c, b)) := NZ.ents (r := (c, b)) nz
    have gl := gcd_lt (b := b) nz bd
    have ee : (ents (c, b)).map V.int = c.map V.int ++ [.int b] := by unfold ents; simp
    have dv : ∀ {i : Int}, (0 : Int) < ((gcdL (ents (c, b)) : Nat) : Int) ∧ ((gcdL (ents (c, b)) : Nat) : Int) < 1073741824 := fun {_} => by omega
    refine ⟨_, rfl, a, rfl, ⟨_, hs⟩, fun Dn nD => lc_itD (K := K) walk_list ((c.map fun x => decide (V.int x = V.int 0)).map PyData.bool) (tup_bools _) (by simp) hz nD (fun _ sa => sa.seq hs) ?_ ?_⟩
    · intro i y d Ha Hb R Nx hi hd sa hY hR
      obtain ⟨rfl, hx⟩ := hY
      obtain ⟨x, gx, rfl⟩ := map_get hx
      obtain ⟨e, he, rfl⟩ := map_get hd
      obtain ⟨x', gx', rfl⟩ := map_get he
      rw [gx] at gx'
      have ex : x = x' := Option.some.inj gx'
      subst ex
      exact ⟨rfl, _, rfl, rfl, hR _ _ (Same.refl _) (.bl _)⟩
    · intro H1 ys s1 hD hd
      rw [DpAll.bools_inv hd] at hD
      refine ⟨_, _, rfl, SqL.of hD, false, congrArg V.bl (all_nz nz), iteF ?_⟩
      refine ⟨_, rfl, a, _, rfl, .inl ⟨s1.seq hs, fun t1 n1 => ?_⟩⟩
      have s2 := s1.trans (same_new (o := .tup (c.map V.int)) n1)
      refine ⟨_, rfl, (by show 1 ≤ sizeLine; decide), fun t2 n2 => ?_⟩
      have s3 := s2.trans (same_new (o := .tup [.int b]) n2)
      refine ⟨t1, t2, _, _, rfl, rfl, SqT.fx (fx_same (same_new n2)) (SqT.of upd_same), SqT.of upd_same, ints_ne nz, by rw [List.length_map, sizeLine_eq]; show c.length + 1 ≤ _; omega, fun e => absurd e (by simp), fun _ t3 n3 => ?_⟩
      have s4 := s3.trans (same_new (o := .tup (c.map V.int ++ [.int b])) n3)
      refine ⟨.ref t3, ents (c, b), rfl, Dp.I_of (by rw [ee]; exact SqT.of upd_same), ?_⟩
      refine ⟨_, rfl, a, rfl, ⟨_, s4.seq hs⟩, fun Dm nM => lc_itD (K := K) walk_list ((c.map fun x => x / ((gcdL (ents (c, b)) : Nat) : Int)).map PyData.int) (tup_ints _) (by simp) hz nM (fun _ sa => sa.seq (s4.seq hs)) ?_ ?_⟩
      · intro i y d Ha Hb R Nx hi hd sa hY hR
        obtain ⟨rfl, hx⟩ := hY
        obtain ⟨x, gx, rfl⟩ := map_get hx
        obtain ⟨e, he, rfl⟩ := map_get hd
        obtain ⟨x', gx', rfl⟩ := map_get he
        rw [gx] at gx'
        have ex : x = x' := Option.some.inj gx'
        subst ex
        exact ⟨rfl, _, rfl, _, rfl, _, _, rfl, rfl, dv (i := 0), hR _ _ (Same.refl _) (.int _)⟩
      · intro H5 zs s5 hD2 hd2
        rw [DpAll.ints_inv hd2] at hD2
        refine ⟨_, _, rfl, .inl ⟨SqL.of hD2, fun t4 n4 => ?_⟩⟩
        refine ⟨_, rfl, _, rfl, _, _, rfl, rfl, dv (i := 0), (by show 2 ≤ sizeLine; decide), fun t5 n5 => ?_⟩
        have s6 := (s4.trans s5).trans (same_new (o := .tup ((c.map fun x => x / ((gcdL (ents (c, b)) : Nat) : Int)).map V.int)) n4)
        refine q _ _ (s6.trans (same_new n5)) ?_
        exact Dp.R_of (c := (least (c, b)).1) (b := (least (c, b)).2) (SqT.of upd_same) (Dp.I_of (SqT.fx (fx_same (same_new n5)) (SqT.of upd_same)))
end
end K5
end

section
set_option Elab.async false
set_option linter.all false
set_option maxRecDepth 100000
set_option maxHeartbeats 4000000
/-! Sorted rows, sorted names: plain laws. -/
namespace K5
open PySem PySem.Spec PyProof.Rows L2
theorem rowLt_iff (r s : Row) : rowLt r s ↔ r.1 < s.1 ∨ (r.1 = s.1 ∧ r.2 < s.2) := by
  have e1 : PyData.eqv (encI r.1) (encI s.1) = decide (r.1 = s.1) := by
    unfold encI
    rw [PyData.eqv]
    exact PySem.W.ked_eqvAll _ _
  have e2 : PySem.W.dataLt (encI r.1) (encI s.1) = decide (r.1 < s.1) := by
    unfold encI
    rw [PySem.W.dataLt_tuple]
    exact PySem.W.dataLt_ints _ _
  have e3 : PyData.eqv (.int r.2) (.int s.2) = decide (r.2 = s.2) := by
    rw [PyData.eqv]
    by_cases h : r.2 = s.2 <;> simp [h]
  have h4 : PySem.W.alike (.int r.2) (.int s.2) = true := by rw [PySem.W.alike]
  unfold rowLt encR
  rw [PySem.W.dataLt_pair (alike_I _ _) h4, e1, e2, e3, PySem.W.dataLt_int]
  by_cases h : r.1 = s.1
  · have n : ¬ s.1 < s.1 := List.lt_irrefl _
    by_cases h2 : r.2 = s.2
    · simp [h, h2, n]
    · simp [h, h2, n]
  · simp [h]
def rowLe : Row → Row → Bool := PySem.W.dataLe false encR
theorem rowLe_iff (r s : Row) : rowLe r s = true ↔ ¬ rowLt s r := by
  unfold rowLe rowLt
  rw [PySem.W.dataLe_eq]
  show (!PySem.W.dataLt (encR s) (encR r)) = true ↔ _
  cases PySem.W.dataLt (encR s) (encR r) <;> simp
theorem rowLe_anti {r s : Row} (h : rowLe r s = true) (k : rowLe s r = true) : r = s := by
  rw [rowLe_iff, rowLt_iff] at h k
  have a1 : ¬ s.1 < r.1 := fun z => h (.inl z)
  have a2 : ¬ r.1 < s.1 := fun z => k (.inl z)
  have e : r.1 = s.1 := List.le_antisymm (List.not_lt.mp a1) (List.not_lt.mp a2)
  have b1 : ¬ s.2 < r.2 := fun z => h (.inr ⟨e.symm, z⟩)
  have b2 : ¬ r.2 < s.2 := fun z => k (.inr ⟨e, z⟩)
  exact Prod.ext e (by omega)
theorem rowLt_of {r s : Row} (h : rowLe r s = true) (n : r ≠ s) : rowLt r s := Classical.byContradiction fun z => n (rowLe_anti h ((rowLe_iff s r).mpr z))
theorem rowLt_ne {r s : Row} (h : rowLt r s) : r ≠ s := fun e => by
  rw [e, rowLt_iff] at h
  rcases h with z | ⟨_, z⟩
  · exact List.lt_irrefl _ z
  · omega
theorem rowLt_le {r s : Row} (h : rowLt r s) : rowLe r s = true := by
  rw [rowLe_iff]
  intro k
  rw [rowLt_iff] at h k
  rcases h with a | ⟨a, a'⟩
  · rcases k with b | ⟨b, b'⟩
    · exact List.lt_asymm a b
    · rw [b] at a
      exact List.lt_irrefl _ a
  · rcases k with b | ⟨b, b'⟩
    · rw [a] at b
      exact List.lt_irrefl _ b
    · omega
def srt (rs : List Row) : List Row := rs.mergeSort rowLe
theorem rowLe_total : PySem.W.TotalLe rowLe := PySem.W.sortLe_total _ false _
theorem srt_perm (rs : List Row) : (srt rs).Perm rs := List.mergeSort_perm rs rowLe
theorem srt_up (rs : List Row) : (srt rs).Pairwise (fun a b => rowLe a b = true) := PySem.W.sort_pairwise rowLe_total rs
theorem srt_eq {rs ss : List Row} (h : rs.Perm ss) : srt rs = srt ss :=
  List.Perm.eq_of_pairwise (fun a b _ _ h1 h2 => rowLe_anti h1 h2) (srt_up rs) (srt_up ss) ((srt_perm rs).trans (h.trans (srt_perm ss).symm))
theorem srt_of {rs : List Row} (h : rs.Pairwise rowLt) : srt rs = rs :=
  List.Perm.eq_of_pairwise (fun a b _ _ h1 h2 => rowLe_anti h1 h2) (srt_up rs) (h.imp rowLt_le) (srt_perm rs)
theorem srt_ok {n : Nat} {rs : List Row} (h6 : rs.length ≤ 60) (ok : ∀ r ∈ rs, RowOk n r) (nd : rs.Nodup) : RowsOk n (srt rs) := by
  refine ⟨by rw [(srt_perm rs).length_eq]; exact h6, fun r hr => ok r ((srt_perm rs).mem_iff.mp hr), ?_⟩
  have nd' : (srt rs).Nodup := (srt_perm rs).nodup_iff.mpr nd
  have both := (srt_up rs).and nd'
  exact both.imp fun {a b} ⟨h1, h2⟩ => rowLt_of h1 h2
theorem RowsOk.nodup {n : Nat} {rs : List Row} (h : RowsOk n rs) : rs.Nodup := h.up.imp fun {a b} x => rowLt_ne x
/-- a one-to-one change of the rows -/
theorem srt_map_ok {n m : Nat} {rs : List Row} {f g : Row → Row} (h : RowsOk n rs) (ok : ∀ r, RowOk n r → RowOk m (f r)) (inv : ∀ r, RowOk n r → g (f r) = r) : RowsOk m (srt (rs.map f)) := by
  refine srt_ok (by rw [List.length_map]; exact h.most) (fun r hr => ?_) ?_
  · obtain ⟨x, hx, rfl⟩ := List.mem_map.mp hr
    exact ok x (h.ok x hx)
  · refine (List.pairwise_map).mpr ?_
    refine h.nodup.imp_of_mem fun {a b} ha hb ne e => ne ?_
    rw [← inv a (h.ok a ha), ← inv b (h.ok b hb), e]
theorem srt_map_srt (rs : List Row) (f : Row → Row) : srt ((srt rs).map f) = srt (rs.map f) := srt_eq ((srt_perm rs).map f)
theorem srt_map_map (rs : List Row) (f g : Row → Row) : srt ((srt (rs.map f)).map g) = srt (rs.map (fun r => g (f r))) := by
  rw [srt_map_srt, List.map_map]
  rfl
theorem srt_map_congr {n : Nat} {rs : List Row} {f g : Row → Row} (h : RowsOk n rs) (e : ∀ r, RowOk n r → f r = g r) : srt (rs.map f) = srt (rs.map g) := by
  rw [List.map_congr_left fun r hr => e r (h.ok r hr)]
theorem srt_back {n : Nat} {rs : List Row} {f g : Row → Row} (h : RowsOk n rs) (inv : ∀ r, RowOk n r → g (f r) = r) : srt ((srt (rs.map f)).map g) = rs := by
  rw [srt_map_map, srt_map_congr (g := fun r => r) h inv, List.map_id']
  exact srt_of h.up
/-! ### names -/
def strLe : Str → Str → Bool := PySem.W.dataLe false PyData.str
theorem strLe_eq : strLe = fun a b => decide (a.cps.toList ≤ b.cps.toList) := PySem.W.dataLe_str (fun x => x)
theorem strLe_anti {x y : Str} (h : strLe x y = true) (k : strLe y x = true) : x = y := by
  rw [strLe_eq] at h k
  exact PySem.W.str_of_cps (List.le_antisymm (of_decide_eq_true h) (of_decide_eq_true k))
theorem strLe_total : PySem.W.TotalLe strLe := PySem.W.sortLe_total _ false _
def srtN (ns : List Str) : List Str := ns.mergeSort strLe
theorem srtN_perm (ns : List Str) : (srtN ns).Perm ns := List.mergeSort_perm ns strLe
theorem srtN_up (ns : List Str) : (srtN ns).Pairwise (fun a b => strLe a b = true) := PySem.W.sort_pairwise strLe_total ns
theorem srtN_eq {ns ms : List Str} (h : ns.Perm ms) : srtN ns = srtN ms :=
  List.Perm.eq_of_pairwise (fun a b _ _ h1 h2 => strLe_anti h1 h2) (srtN_up ns) (srtN_up ms) ((srtN_perm ns).trans (h.trans (srtN_perm ms).symm))
end K5
end

section
set_option Elab.async false
set_option linter.all false
set_option maxRecDepth 100000
set_option maxHeartbeats 4000000
/-! super().__init__(text) in an own exception over another own one over ValueError. -/
namespace PySem
namespace SupX
open PySem.W PySem.Calls PyProof.Rows PySem.HandSPX
abbrev vw (x : Addr) : Obj := { cls := .type "method-wrapper", dict := none, data := .fields #[.builtin "ValueError.__init__", .ref x], slots := #[] }
theorem ty_vi : typeOf (.builtin "ValueError.__init__") = pure (.type "wrapper_descriptor") := by
  show builtinType _ = _
  rw [builtinType_eq_fast]
  kernel_rfl
theorem nac_vi : (kfb_private% "nameAndClass") (Value.builtin "ValueError.__init__") = (pure (("__init__" : Str), Value.type "ValueError") : Sem (Str × Value)) := by kernel_rfl
section
variable {prog : Program} {w : World} {M : Model} {A : Around} {E : Value → Shared → Prop} {h : Heap} {g : Array GenState} {d : Drawn} {t : Nat} {os : OsState}
theorem get_vi {x C : Addr} {P : Fin → Shared → Prop} (hin : W.Looks M h (isInstance (.ref x) (.type "ValueError")) true) (hq : P (.done (.ret (.ref h.objs.size))) ⟨h.push (vw x), g, d, t, os⟩) :
    wpAny M A (Builtin.«wrapper_descriptor.__get__» ⟨[.builtin "ValueError.__init__", .ref x, .ref C], []⟩) P E ⟨h, g, d, t, os⟩ := by
  unfold Builtin.«wrapper_descriptor.__get__»
  refine wpAny_bind (wpAny_of_eq (a := (.builtin "ValueError.__init__", some (.ref x), some (.ref C))) (by first | rfl | kernel_rfl) ?_)
  show wpAny M A ((kfb_private% "checkInstance") (.builtin "ValueError.__init__") (.ref x) >>= fun _ => newFields "method-wrapper" [.builtin "ValueError.__init__", .ref x] >>= fun r => ret r) P E _
  refine wpAny_bind ?_
  show wpAny M A ((kfb_private% "nameAndClass") (.builtin "ValueError.__init__") >>= _) _ E _
  refine wpAny_bind (wpAny_of_eq nac_vi ?_)
  show wpAny M A (isInstance (.ref x) (.type "ValueError") >>= _) _ E _
  refine wpAny_bind (hin.at ?_)
  refine KFB.if_not rfl (wpAny_pure ?_)
  exact wpAny_bind (wpAny_newObj_type (wpAny_pure hq))
theorem super_vi {so D x C : Addr} {l₀ l : List Value} {K : Frag} {name : Str} {tk : Tok} {Q : Fin → Shared → Prop}
    (hso : h.get? so = some { cls := .type "super", dict := none, data := .fields #[.ref D, .ref x, .ref C], slots := #[] }) (hno : W.Looks (model prog w) h (opaqueClassAbove (.ref C)) none)
    (hC : W.Looks (model prog w) h (mroOf (.ref C)) l₀) (hl : (l₀.dropWhile (· != .ref D)).drop 1 = l) (X : K.In h)
    (hf : alongIn K name l = some (some (.builtin "ValueError.__init__"))) (hxC : x ≠ C) (hn : (name == ("__class__" : Str)) = false) (hin : W.Looks (model prog w) h (isInstance (.ref x) (.type "ValueError")) true)
    (hq : Q (.done (.ret (.ref h.objs.size))) ⟨h.push (vw x), g, d, t, os⟩) :
    wpAny (model prog w) A (Builtin.«super.__getattribute__» ⟨[.ref so, .str name tk], []⟩) Q E ⟨h, g, d, t, os⟩ := by
  have hlk := ESX.slot_wd.lookup
  have hne : (Value.ref x == Value.ref C) = false := by simp [hxC]
  have hTf := ty_vi
  have hTi : Shared.TypeIs ⟨h, g, d, t, os⟩ (.builtin "ValueError.__init__") "wrapper_descriptor" := ty_vi
  have hdt : ({ cls := .type "super", dict := none, data := .fields #[.ref D, .ref x, .ref C], slots := #[] } : Obj).data = .fields #[.ref D, .ref x, .ref C] := rfl
  have f0 : (#[.ref D, .ref x, .ref C] : Array Value)[0]? = some (.ref D) := rfl
  have f1 : (#[.ref D, .ref x, .ref C] : Array Value)[1]? = some (.ref x) := rfl
  have f2 : (#[.ref D, .ref x, .ref C] : Array Value)[2]? = some (.ref C) := rfl
  unfold Builtin.«super.__getattribute__»
  repeat (first
    | (with_reducible refine wpAny_field hso hdt f0 ?_) | (with_reducible refine wpAny_field hso hdt f1 ?_) | (with_reducible refine wpAny_field hso hdt f2 ?_)
    | (with_reducible refine ks_wpAny_notOpaque hno ?_)
    | (with_reducible refine Looks.at hC ?_; rw [hl])
    | (refine ks_forIn_along X (fun _ _ => rfl) rfl ?_ hf)
    | (with_reducible refine wpAny_call_entry ESX.slot_wd hTi ESX.entry_wd ?_ (ESX.args_wd _ _ _))
    | (with_reducible refine get_vi hin ?_)
    | (with_reducible refine ⟨_, rfl, ?_⟩)
    | (simp only [hn, hne, Bool.or_false, Bool.false_eq_true, if_false])
    | wp_step
    | dsimp only)
  all_goals exact hq
theorem method_vi {so D x C : Addr} {l₀ l : List Value} {K : Frag} {name : Str} {pl : Sem Bool} {Q : Value × List Value → Shared → Prop}
    (hso : h.get? so = some { cls := .type "super", dict := none, data := .fields #[.ref D, .ref x, .ref C], slots := #[] }) (hno : W.Looks (model prog w) h (opaqueClassAbove (.ref C)) none)
    (hC : W.Looks (model prog w) h (mroOf (.ref C)) l₀) (hl : (l₀.dropWhile (· != .ref D)).drop 1 = l) (X : K.In h)
    (hf : alongIn K name l = some (some (.builtin "ValueError.__init__"))) (hxC : x ≠ C) (hn : (name == ("__class__" : Str)) = false) (hin : W.Looks (model prog w) h (isInstance (.ref x) (.type "ValueError")) true)
    (hq : Q (.ref h.objs.size, []) ⟨h.push (vw x), g, d, t + 1, os⟩) :
    wpAny (model prog w) A (getMethod (.ref so) name pl) Q E ⟨h, g, d, t, os⟩ := by
  have hlk := F.ks_slot_super_ga.lookup
  have hcan := F.ks_canon_super_ga
  have hT : ∀ t', (⟨h, g, d, t', os⟩ : Shared).TypeIs (.ref so) "super" := fun _ => ⟨_, hso, rfl⟩
  unfold getMethod
  refine wpAny_bind (wpAny_specialOf (hT _) hlk ?_)
  show wpAny _ _ (if (Manifest.canonical "super.__getattribute__" != "object.__getattribute__") = true then _ else _) _ _ _
  rw [if_pos hcan]
  unfold getAttr getAttrBy
  refine wpAny_bind (wpAny_bind (wpAny_mkText (wpAny_holding (wpAny_bind (wpAny_typeOf (hT _) (wpAny_bind (wpAny_of_eq hlk ?_)))))))
  show wpAny _ _ (getAttrByItsOwn (.ref so) (.str name t) (.type "super") (.builtin "super.__getattribute__") true false) _ _ _
  unfold getAttrByItsOwn hookBefore callGetattribute boundAndCalled
  refine wpAny_bind (wpAny_of_eq (show (if onTheHeap (.type "super") then typeLookup (.type "super") "__getattr__" else pure none) = pure none from rfl) ?_)
  refine wpAny_bind (wpAny_attempt (wpAny_holding ?_))
  show wpAny _ _ (bindSpecial (.builtin "super.__getattribute__") (.ref so) >>= _) _ _ _
  refine wpAny_bind (wpAny_of_eq (F.ks_slot_super_ga.bind _) ?_)
  refine wpAny_mono (Q := fun v s' => v = .ref h.objs.size ∧ s' = ⟨h.push (vw x), g, d, t + 1, os⟩) (E := fun _ _ => False)
    (wpAny_call_entry F.ks_slot_super_ga (hT _) F.ks_entry_super_ga (super_vi hso hno hC hl X hf hxC hn hin ⟨_, rfl, rfl, rfl⟩) (F.ks_gaArgs_super _ _)) (fun v s' hv => ?_) fun _ _ z => z.elim
  obtain ⟨rfl, rfl⟩ := hv
  exact wpAny_pure (wpAny_pure hq)
end
section
variable {M : Model} {A : Around} {E : Value → Shared → Prop} {s : Shared}
theorem callWith_vw {pos : Pos} {u x : Addr} {first : List Value} {args : List (Bool × Sem Value)} {Q : Value → Shared → Prop} (hplain : args.any (·.1) = false)
    (h : wpAny M A (evalArgs (.ref u) true args []) (fun a s₁ => s₁.heap.get? u = some (vw x) ∧ wpAny M A (call (.ref u) (first ++ a.pos) a.kw) Q E s₁) E s) : wpAny M A (callWith pos (.ref u) first args []) Q E s := by
  unfold callWith
  refine wpAny_bind (wpAny_holding (wpAny_mono h (fun a s₁ h₁ => wpAny_bind (wpAny_standAt ?_)) fun _ _ x => x))
  obtain ⟨ho, hcall⟩ := h₁
  simp only [hplain, List.any_nil, Bool.or_false]
  refine wpAny_bind (m := keeperOf (.ref u)) ?_
  unfold keeperOf
  refine wpAny_bind (wpAny_load ho ?_)
  simp only [vw, show (Value.type "method-wrapper" != Value.type "method") = true by decide, show (Value.type "method-wrapper" == Value.type "builtin_function_or_method" || Value.type "method-wrapper" == Value.type "method-wrapper") = true by decide, if_true]
  refine wpAny_pure ?_
  exact wpAny_bind (wpAny_mono hcall (fun r s₂ hr => wpAny_bind (wpAny_holding (wpAny_point (wpAny_pure hr)))) fun _ _ x => x)
theorem callWith_vi {pos : Pos} {u x : Addr} {first : List Value} {env : Env} {e : Expr} {rest : List Expr} {Q : Value → Shared → Prop}
    (h : wpAny M A (spliced (backTo pos (starEach (e :: rest) env))) (fun vs s₁ => s₁.heap.get? u = some (vw x) ∧ wpAny M A (call (.ref u) (first ++ vs)) Q E s₁) E s)
    (he : starEach (e :: rest) env = (false, eval e env) :: starEach rest env := by rfl) (hplain : (backTo pos (starEach rest env)).any (·.1) = false := by rfl) :
    wpAny M A (callWith pos (.ref u) first (backTo pos (starEach (e :: rest) env)) []) Q E s := by
  rw [he] at h ⊢
  refine callWith_vw (x := x) (by show (false || (backTo pos (starEach rest env)).any (·.1)) = false; rw [hplain]; rfl) ?_
  exact evalArgs_plain h
end
section
variable {prog : Program} {w : World} {A : Around} {E : Value → Shared → Prop} {h : Heap} {g : Array GenState} {d : Drawn} {t : Nat} {os : OsState}
variable {nm q : Str} {C N : Addr} {bs bm : List Value} {hdct : Bool} {sn : List Str} {sub : List Value} {ab : Bool} {col : Option Bool} {dd : Option Addr} {k0 k1 k2 k3 k5 : Option Value}
theorem call_vw {u e t0 : Addr} {rest : List Value} {Q : Value → Shared → Prop}
    (hC : h.get? C = some (excClassObj nm q C N bs bm hdct sn sub ab col dd k0 k1 k2 k3 k5 "ValueError.__new__")) (he : h.get? e = some (HandSPX.excO C t0)) (hu : h.get? u = some (vw e)) (hrest : rest.length ≤ sizeLine)
    (hq : ∀ h' t1, (∀ b o, b ≠ e → h.get? b = some o → h'.get? b = some o) → h'.get? e = some (HandSPX.excO C t1) → Q .none ⟨h', g, d, t, os⟩) :
    wpAny (model prog w) A (call (.ref u) rest) Q E ⟨h, g, d, t, os⟩ := by
  refine wpAny_call (codeAny_of_tree ?_)
  show wpAny _ A.in1 (callAny (.ref u) ⟨rest, []⟩) _ _ _
  simp only [callAny]
  refine wpAny_bind (wpAny_load hu ?_)
  simp only [vw, show (Value.type "method-wrapper" == Value.type "method" || Value.type "method-wrapper" == Value.type "builtin_function_or_method" || Value.type "method-wrapper" == Value.type "method-wrapper") = true by decide, if_true]
  refine W.KFB.if_so (by decide) ?_
  refine wpAny_bind (ESX.check_bound F.excBase_ValueError hC he rfl ?_)
  refine wpAny_bind (wpAny_pure (wpAny_pure ?_))
  refine ⟨Code.quiet_builtin _ (by decide +kernel), codeAny_builtin F.excBase_ValueError.initEntry ?_⟩
  rw [Around.under_plainId F.excBase_ValueError.init.plain _]
  wp_walk
  refine hq _ h.objs.size (fun b o hb ho => ?_) ?_
  · rw [Heap.get?_update_other _ _ (Ne.symm hb)]
    exact Heap.get?_push_of_some _ ho
  · rw [Heap.get?_update_self _ (Heap.get?_push_of_some _ he) rfl]
    rfl
end
end SupX
end PySem
end

section
set_option Elab.async false
set_option linter.all false
set_option maxRecDepth 100000
set_option maxHeartbeats 4000000
/-! Refused(word), InvalidNumber(word): made, raised, read. -/
namespace PySem
namespace SupX
open PySem.W PySem.Calls PyProof.Rows PySem.HandSPX
def supA (p1 p2 : Pos) : Arguments := { posonlyargs := [], args := [{ arg := "self", annotation := none, pos := p1 }, { arg := "word", annotation := none, pos := p2 }], vararg := none, kwonlyargs := [], kw_defaults := [], kwarg := none, defaults := [] }
def supB (msg : Str) (q1 q2 q3 q4 q5 q6 q7 q8 q9 q0 : Pos) : List Stmt :=
  [.Expr (.Call (.Attribute (.Call (.Name "super" q1) [] [] q2) "__init__" q3) [.Constant (.str msg) 0 q4] [] q5) q6, .Assign [.Attribute (.Name "self" q7) "word" q8] (.Name "word" q9) q0]
def supS : Scope := { kind := .function, names := [(PySem.Str.ofString "self", .local), (PySem.Str.ofString "word", .local), (PySem.Str.ofString "__class__", .free), (PySem.Str.ofString "super", .globalImplicit)], isGenerator := false, isCoroutine := false, more := [] }
/-- what the written part says of the class nm, at C, and of its __init__, at fI -/
structure SupTxt (P : Program) (K : Frag) (mg : Str → Option Value) (nm : Str) (C fI : Addr) : Prop where
  gC : mg nm = some (.ref C)
  cls : ∃ nm q N bs bm sn sub ab col dd k0 k1 k2 k3 k5, K.lookup C = some (excClassObj nm q C N bs bm true sn sub ab col dd k0 k1 k2 k3 k5 "ValueError.__new__") ∧ refsVE bm = true
  sa : findIn K (.ref C) "__setattr__" = some (some (.builtin "object.__setattr__"))
  noN : findIn K (.ref C) "word" = some none
  iC : findIn K (.ref C) "__init__" = some (some (.ref fI))
  tC : typeIn K (.ref fI) = some (.type "function")
  kC : keepIn K (.ref C) = true
  exC : subIn K (.ref C) (.type "BaseException") = some true
  tyC : typeIn K (.ref C) = some (.type "type")
  sup : ks_superIn K C C "__init__" = some (some (.builtin "ValueError.__init__"))
  self_ : mroIn K C (.ref C) = some true
  ve : mroIn K C (.type "ValueError") = some true
  any : nsIn K cStatics "thirdparty.any" = some none
  free : mg "super" = none
  top : (P.main.scope.names.lookup ("super" : Str)).isSome = false
  fn : ∃ (qual msg : Str) (oc : Value) (od : Option Addr) (kV doc pm : Value) (an : Option Addr) (cda cc : Addr) (ct : Value) (osl : Array (Option Value)) (p1 p2 q1 q2 q3 q4 q5 q6 q7 q8 q9 q0 : Pos),
    K.lookup fI = some ⟨oc, od, .func (fnX "__init__" qual (supA p1 p2) (supB msg q1 q2 q3 q4 q5 q6 q7 q8 q9 q0) supS [("__class__", cc)] .none kV doc pm an (.ref cda) ct), osl⟩ ∧ codeIn K (.ref cda) qual = true ∧
    (∀ L : Addr, ∃ pl : Sem Bool, eval (.Call (.Attribute (.Call (.Name "super" q1) [] [] q2) "__init__" q3) [.Constant (.str msg) 0 q4] [] q5) (ksEnv qual supS L fI (.ref cda) cc) = (do
      let ov ← attributeBase (.Call (.Name "super" q1) [] [] q2) "__init__" (ksEnv qual supS L fI (.ref cda) cc) (eval (.Call (.Name "super" q1) [] [] q2) (ksEnv qual supS L fI (.ref cda) cc))
      standAt q3.atName
      let (f, first) ← holding [ov] (getMethod ov "__init__" pl)
      callWith q5 f first (backTo q5 (starEach [.Constant (.str msg) 0 q4] (ksEnv qual supS L fI (.ref cda) cc))) [])) ∧
    (∃ (ccl : Value) (cdd : Option Addr) (vs : Array Value) (ccs : Array (Option Value)) (file : Str) (tf : Tok), K.lookup cda = some ⟨ccl, cdd, .fields vs, ccs⟩ ∧ vs[2]? = some (.str file tf) ∧ ((P.main.file : Str) == file) = true) ∧
    ∃ (cl : Value) (cld : Option Addr) (csl : Array (Option Value)), K.lookup cc = some ⟨cl, cld, .cell (some (.ref C)), csl⟩
/-- what __init__ leaves of a fresh exception at x -/
structure SupEnd (h h' : Heap) (x C dx t1 : Addr) (v : Value) : Prop where
  keep : ∀ b o, b ≠ x → h.get? b = some o → h'.get? b = some o
  obj : h'.get? x = some { cls := .ref C, dict := some dx, data := .fields #[.ref t1, .none, .none, .none, .bool false, .none] }
  dbig : h.objs.size ≤ dx
  dne : dx ≠ x
  ns : h'.Ns1 dx (fun y => if y = "word" then some v else none)
section
variable {prog : Program} {w : World} {A : Around} {E : Value → Shared → Prop} {R : Result → Shared → Prop} {s : Shared} {K : Frag} {mg mb : Str → Option Value} {nm : Str} {C fI : Addr}
theorem sup_init (T : SupTxt prog K mg nm C fI) {x t0 : Addr} {v : Value} (X : K.In s.heap) (hns : s.heap.Ns mainGlobals mg) (hnb : s.heap.Ns builtinsNs mb) (hbb : mb "super" = bootBuiltins "super") (hlim : s.heap.NoLimit) (hx : s.heap.get? x = some (excO C t0))
    (hnx : K.lookup x = none) (xG : x ≠ mainGlobals) (xB : x ≠ builtinsNs) (hroom : A.depth < recursionLimit)
    (hq : ∀ h' tk dx t1, SupEnd s.heap h' x C dx t1 v → R (.ok (.ret .none)) { s with heap := h', toks := tk }) :
    codeAny (model prog w) A (.call (.ref fI) ⟨[.ref x, v], []⟩) R s := by
  obtain ⟨qual, msg, oc, od, kV, doc, pm, an, cda, cc, ct, osl, p1, p2, q1, q2, q3, q4, q5, q6, q7, q8, q9, q0, ho, hcd, hev, ⟨ccl, cdd, vs, ccs, file, tf, hcode, hvs, hfile⟩, ⟨cl, cld, csl, hcell⟩⟩ := T.fn
  obtain ⟨nm', q, N, bs, bm, sn, sub, ab, col, dd, k0, k1, k2, k3, k5, hC, hbm⟩ := T.cls
  have hcl : clsIn K C = some { name := nm', bases := bs, mro := .ref C :: bm, ns := N, qualname := q, hasDict := true, slotNames := sn, subclasses := sub, abstract := ab, collection := col, hasDel := false } := by unfold clsIn; rw [hC] <;> rfl
  have hsup : alongIn K "__init__" (((Value.ref C :: bm).dropWhile (· != .ref C)).drop 1) = some (some (.builtin "ValueError.__init__")) := by
    have z := T.sup
    unfold ks_superIn at z
    rw [hcl] at z
    exact z
  refine ks_codeAny_call_defAt (fd := fnX "__init__" qual (supA p1 p2) (supB msg q1 q2 q3 q4 q5 q6 q7 q8 q9 q0) supS [("__class__", cc)] .none kV doc pm an (.ref cda) ct) (body := supB msg q1 q2 q3 q4 q5 q6 q7 q8 q9 q0) (binds := [("self", .ref x), ("word", v)])
    hroom (X _ _ ho) rfl hlim (codeRec_of X hcd) rfl (BindsTo.of_eq (by first | rfl | with_unfolding_all rfl)) (show ∀ y ∈ supS.names, y.2 ≠ .cell by decide +kernel) (fun y hy => by
      rcases List.mem_cons.mp hy with e | hy
      · rw [e]
        exact (show supS.names.lookup ("self" : Str) = some .local by decide +kernel)
      · rw [List.mem_singleton.mp hy]
        exact (show supS.names.lookup ("word" : Str) = some .local by decide +kernel)) (fun h₁ hn k => ?_) rfl rfl rfl
  have hxL : s.heap.objs.size ≠ x := Nat.ne_of_gt (Heap.lt_size hx)
  have X₁ : K.In h₁ := X.keeps k
  have hx₁ := k _ _ hx
  have ks : supS.names.lookup ("super" : Str) = some .globalImplicit := by decide +kernel
  have kc : supS.names.lookup ("__class__" : Str) = some .free := by decide +kernel
  have kf : supS.names.lookup ("self" : Str) = some .local := by decide +kernel
  have kw : supS.names.lookup ("word" : Str) = some .local := by decide +kernel
  have hneC : x ≠ C := fun z => by
    rw [z, hC] at hnx
    cases hnx
  show _root_.PySem.wpAt (model prog w) (A.deeper (ksEnv qual supS s.heap.objs.size fI (.ref cda) cc)) (.func _ (ksEnv qual supS s.heap.objs.size fI (.ref cda) cc)) (execs [_, _] (ksEnv qual supS s.heap.objs.size fI (.ref cda) cc)) _ _ _
  obtain ⟨pl, hev⟩ := hev s.heap.objs.size
  refine ks_wpAt_execs_cons (ks_wpAt_Expr_any (ks_wpAt_MethodCall ?_ hev))
  refine ks_wpAt_super_base (env := ksEnv qual supS s.heap.objs.size fI (.ref cda) cc) ks kc (by decide +kernel) rfl (X₁ _ _ ho) rfl (by first | rfl | with_unfolding_all rfl) rfl (X₁ _ _ hcode) rfl hvs hfile T.top ?_
  refine ks_loadName_global rfl ks (loadGlobal_builtin (env := ksEnv qual supS s.heap.objs.size fI (.ref cda) cc) (hns.keeps k) T.free (hnb.keeps k) (hbb.trans (by decide +kernel)) ⟨rfl, ?_⟩)
  refine wpAny_loadName_free rfl kc (by first | rfl | with_unfolding_all rfl) ⟨_, X₁ _ _ hcell, rfl⟩ ?_
  refine wpAny_loadName_local rfl kf hn (by first | rfl | with_unfolding_all rfl | kernel_rfl) ?_
  refine ks_wpAny_isType_cls (X₁ _ _ hC) rfl ⟨rfl, ?_⟩
  refine ks_wpAny_call_super (X₁ _ _ hC) rfl hx₁ rfl (fun c e => by cases e) (looks_mroIn X₁ T.self_) (fun h₂ hso k₂ => ?_)
  -- the method
  have X₂ : K.In h₂ := X₁.keeps k₂
  have hx₂ := k₂ _ _ hx₁
  have I₂ : InstAt h₂ x (excO C t0) C none := ⟨hx₂, rfl, rfl, trivial⟩
  refine method_vi hso (looks_opaque X₂ T.any) (l₀ := Value.ref C :: bm) ((looks_clsIn X₂ hcl).andThen .now) rfl X₂ hsup hneC (by decide +kernel) (I₂.type.andThen (looks_mroIn X₂ T.ve)) ?_
  refine callWith_vi (x := x) ?_
  refine Calls.spliced_cons ?_
  refine Calls.Constant_str (pos := q4) (k := 0) ?_
  refine Calls.spliced_nil ⟨?_, ?_⟩
  · exact Heap.get?_push_size _ rfl
  have kp : ∀ b o, h₂.get? b = some o → (h₂.push (vw x)).get? b = some o := fun b o e => Heap.get?_push_of_some _ e
  refine call_vw (kp _ _ (X₂ _ _ hC)) (kp _ _ hx₂) (Heap.get?_push_size _ rfl) (by rw [sizeLine_eq]; exact (by decide : 1 ≤ 16777216)) fun h₃ t1 k₃ hx₃ => ?_
  -- self.word = word
  have kk : ∀ b o, b ≠ x → s.heap.get? b = some o → h₃.get? b = some o := fun b o hb e => k₃ b o hb (kp _ _ (k₂ _ _ (k _ _ e)))
  have X₃ : K.In h₃ := fun b o e => kk b o (fun z => by rw [z, hnx] at e; cases e) (X _ _ e)
  have hn₃ : h₃.Ns s.heap.objs.size (fun y => ([("self", Value.ref x), ("word", v)] : List (Str × Value)).reverse.lookup y) := by
    obtain ⟨o, es, ep, e1, e2, e3⟩ := hn
    exact ⟨o, es, ep, k₃ _ _ hxL (kp _ _ (k₂ _ _ e1)), e2, e3⟩
  refine ks_wpAt_execs_cons ?_
  refine wpAt_of_wpAny (plainObj_wpAny_Assign_Attribute ?_)
  refine ESX.ldL (v := v) hn₃ (by first | rfl | with_unfolding_all rfl | kernel_rfl) (ESX.ldL (v := .ref x) hn₃ (by first | rfl | with_unfolding_all rfl | kernel_rfl) ?_ rfl kf) rfl kw
  refine set_plain X₃ (ox := excO C t1) (od := none) ⟨hx₃, rfl, rfl, trivial⟩ T.sa ?_
  refine exc_osa X₃ hx₃ hcl (show refsVE (.ref C :: bm) = true from hbm) rfl T.noN (fun h₄ tk₄ dx k₄ dn dne hx₄ hn₄ => ?_)
  have z1 : s.heap.objs.size < h₁.objs.size := hn.lt
  have big : s.heap.objs.size ≤ h₃.objs.size := by
    obtain ⟨o, _, _, e1, _⟩ := hn₃
    exact Nat.le_of_lt (Heap.lt_size e1)
  exact wpAt_of_wpAny (wpAny_execs_nil (hq h₄ tk₄ dx t1 ⟨fun b o hb e => k₄ b o hb (kk b o hb e), hx₄, Nat.le_trans big dn, dne, hn₄⟩))
end
end SupX
end PySem
end

section
set_option Elab.async false
set_option linter.all false
set_option maxRecDepth 100000
set_option maxHeartbeats 4000000
/-! Refused('..') made and raised; a try with several clauses that name the error. -/
namespace PySem
namespace SupX
open PySem.W PySem.Calls PyProof.Rows PySem.HandSPX
/-- a made one -/
structure Made (h h' : Heap) (e C d : Addr) (v : Value) : Prop where
  keep : ∀ b o, h.get? b = some o → h'.get? b = some o
  new : h.objs.size ≤ e
  obj : ∃ oe vs, h'.get? e = some oe ∧ oe.cls = .ref C ∧ oe.dict = some d ∧ oe.data = .fields vs ∧ vs[1]? = some .none
  dbig : h.objs.size ≤ d
  dne : d ≠ e
  ns : h'.Ns1 d (fun y => if y = "word" then some v else none)
section
variable {prog : Program} {w : World} {A : Around} {E : Value → Shared → Prop} {R : Result → Shared → Prop} {s : Shared} {K : Frag} {mg mb : Str → Option Value} {nm : Str} {C fI : Addr}
theorem sup_made (T : SupTxt prog K mg nm C fI) {v : Value} (X : K.In s.heap) (hns : s.heap.Ns mainGlobals mg) (hnb : s.heap.Ns builtinsNs mb) (hbb : mb "super" = bootBuiltins "super") (hlim : s.heap.NoLimit)
    (gN : ∀ o, s.heap.get? mainGlobals = some o → True) (hroom : A.depth + 1 < recursionLimit)
    (hq : ∀ h' tk e d, Made s.heap h' e C d v → R (.ok (.ret (.ref e))) { s with heap := h', toks := tk }) :
    codeAny (model prog w) A (.call (.ref C) ⟨[v], []⟩) R s := by
  obtain ⟨nm', q, N, bs, bm, sn, sub, ab, col, dd, k0, k1, k2, k3, k5, hC, hbm⟩ := T.cls
  obtain ⟨hp, g, dr, tk, os⟩ := s
  have k : ∀ b o, hp.get? b = some o → ((hp.push (kdv_tup [v])).push (excO C hp.objs.size)).get? b = some o := fun b o e => Heap.get?_push_of_some _ (Heap.get?_push_of_some _ e)
  have hget : ((hp.push (kdv_tup [v])).push (excO C hp.objs.size)).get? (hp.objs.size + 1) = some (excO C hp.objs.size) := by heap_get
  have ge : ∀ {b : Addr} {o : Obj}, hp.get? b = some o → hp.objs.size + 1 ≠ b := fun e z => by
    have l := Heap.lt_size e
    rw [← z] at l
    exact absurd (Nat.lt_of_succ_lt l) (Nat.lt_irrefl _)
  have hnx : K.lookup (hp.objs.size + 1) = none := by
    cases e : K.lookup (hp.objs.size + 1) with
    | none => rfl
    | some o => exact absurd rfl (ge (X _ _ e))
  have xg : hp.objs.size + 1 ≠ mainGlobals := by
    obtain ⟨o, es, ep, e1, _⟩ := hns
    exact ge e1
  have xb : hp.objs.size + 1 ≠ builtinsNs := by
    obtain ⟨o, es, ep, e1, _⟩ := hnb
    exact ge e1
  refine call_own F.excBase_ValueError (fun X => refsVE_contains X bm hbm) (X _ _ hC) (looks_findIn X T.iC) (fun self => bind_fn X self T.tC) (show [v].length ≤ sizeLine by rw [sizeLine_eq]; exact (by decide : 1 ≤ 16777216)) ?_
  refine sup_init (s := ⟨(hp.push (kdv_tup [v])).push (excO C hp.objs.size), g, dr, tk, os⟩) (mb := mb) T (X.keeps k) (hns.keeps k) (hnb.keeps k) hbb (hlim.keeps k) hget hnx xg xb ?_ fun h' tk' dx t1 ⟨k', hx, dn, dne, hns'⟩ => ?_
  · show A.depth + 1 < recursionLimit
    exact hroom
  · have old : ∀ b o, hp.get? b = some o → h'.get? b = some o := fun b o e => k' b o (Nat.ne_of_lt (Nat.lt_succ_of_lt (Heap.lt_size e))) (k b o e)
    have z : hp.objs.size + 1 + 1 ≤ dx := by
      first
        | (simpa only [Heap.size_push] using dn)
        | exact dn
        | (have q := dn; rw [Heap.size_push, Heap.size_push] at q; exact q)
    exact ⟨rfl, hq h' tk' (hp.objs.size + 1) dx ⟨old, Nat.le_succ _, ⟨_, _, hx, rfl, rfl, rfl, rfl⟩, Nat.le_trans (Nat.le_trans (Nat.le_succ _) (Nat.le_succ _)) z, dne, hns'⟩⟩
end
end SupX
end PySem
namespace L2
open PySem PySem.Spec PyProof.Rows
theorem relO_word {v : V} {v' : Value} (r : RelV v v') (f : Str) : RelO (List.lookup f [(("word" : Str), v)]) (if f = "word" then some v' else none) := by
  by_cases hw : f = "word"
  · rw [if_pos hw, hw, show List.lookup ("word" : Str) [(("word" : Str), v)] = some v by simp [List.lookup]]
    exact r
  · have q2 : List.lookup f [(("word" : Str), v)] = none := by simp [List.lookup, show (f == ("word" : Str)) = false by simpa using hw]
    rw [if_neg hw, q2]
    trivial
section
variable {X : Cx} {nm : Str} {C fI : Addr}
/-- nm('..') -/
def tMkW (C : Addr) (msg : Str) : L2.St → Hp → XK → Prop := fun _ H Q => ∀ d, H d = none → Q (.ref C) (some d) (upd H d (.xd [(("word" : Str), .str msg)]))
theorem pmk_word {msg : Str} {j : Nat} {p p' pos : Pos} {k : Nat} (T : PySem.SupX.SupTxt X.prog X.K X.mg nm C fI) (hr : Room k X.A) (hk : 1 ≤ k) (hg : Gl X nm := by rfl) (hdb : (nm == ("__debug__" : Str)) = false := by decide +kernel)
    (he : starEach (.Constant (.str msg) j p' :: []) X.env = (false, eval (.Constant (.str msg) j p') X.env) :: starEach [] X.env := by rfl) (hpl : (backTo pos (starEach [] X.env)).any (·.1) = false := by rfl) :
    PMk X (.Call (.Name nm p) [.Constant (.str msg) j p'] [] pos) (tMkW C msg) := by
  intro pins s σ H Q I h
  refine wpAny_Call_Name_kw (ld_glob I hg T.gC ?_ hdb)
  have pa : PA X [.Constant (.str msg) j p'] (tCons (tC (.str msg)) tNil) := pa_cons pe_str pa_nil
  refine PySem.W.callWith_K (h₀ := X.base) I.ok.mod.kin T.kC (thn (pa.run pos pins s σ H (fun vs H1 => vs = [.str msg] ∧ ∀ d, H1 d = none → Q (.ref C) (some d) (upd H1 d (.xd [(("word" : Str), .str msg)]))) I ⟨rfl, h⟩) fun us s1 hh => ?_) he hpl
  obtain ⟨vs, H1, I1, r1, ev, q1⟩ := hh
  subst ev
  refine ⟨I1.kIn, ?_⟩
  cases r1 with
  | cons rv rn =>
    rename_i v' us'
    cases rn
    show wpAny _ _ (call (.ref C) [v']) _ _ _
    have hlim := I1.nolimit
    have hgl := I1.mod.glob.keeps I1.bk
    obtain ⟨mb, hb1, hb2⟩ := I1.mod.blt
    have hbl := hb1.keeps I1.bk
    obtain ⟨hp, g, dr, tk, os⟩ := s1
    refine wpAny_call (PySem.SupX.sup_made T I1.kIn hgl hbl (hb2 "super" (by decide +kernel)) hlim (fun _ _ => trivial) (by have := hr.dp; omega) fun h' tk' e d M => ?_)
    show MkP X pins σ Q (.ref e) ⟨h', g, dr, tk', os⟩
    obtain ⟨oe, fv, hoe, hc, hd, hdat, h1⟩ := M.obj
    have hns := M.ns
    obtain ⟨G', g1, g2⟩ := restrict h' fun b => decide (b ≠ e)
    have gk : ∀ b, b ≠ e → G'.get? b = h'.get? b := fun b hb => g1 b (decide_eq_true hb)
    have ge : G'.get? e = none := g2 e (by simp)
    have old : ∀ b o, hp.get? b = some o → G'.get? b = some o := fun b o q => (gk b (Nat.ne_of_lt (Nat.lt_of_lt_of_le (Heap.lt_size q) M.new))).trans (M.keep b o q)
    have ob : ObjOk X.prog X.w (upd H1 d (.xd [(("word" : Str), V.str msg)])) G' d (.xd [(("word" : Str), V.str msg)]) :=
      ⟨_, hns.at (fun o q => (gk d M.dne).trans q), fun f => relO_word rv f⟩
    have J : Inv X pins σ (upd H1 d (.xd [(("word" : Str), V.str msg)])) ⟨G', g, dr, tk', os⟩ := I1.laid (t' := tk') old M.dbig ob
    refine ⟨e, oe, fv, ⟨G', g, dr, tk', os⟩, _, .ref C, some d, rfl, J, fun b o q => ?_, ge, hoe, ⟨hc, hd⟩, hdat, h1, ?_, rfl, I1.bare, raises_own T.exC T.tyC, q1 d (I1.hok.fresh M.dbig)⟩
    · by_cases hb : b = e
      · have q' : G'.get? b = some o := q
        rw [hb, ge] at q'
        cases q'
      · exact (gk b hb).symm.trans q
    · rw [upd_ne (Ne.symm M.dne)]
      exact I1.hok.fresh M.new
/-- raise nm('..') -/
def tRaiseW (C : Addr) (msg : Str) (W : WX) : TS := fun _ σ H => ∀ d, H d = none → W (.ref C) (some d) σ (upd H d (.xd [(("word" : Str), .str msg)]))
theorem ps_raiseW {W : WX} {msg : Str} {j : Nat} {p p' pos pos2 : Pos} {k : Nat} (hc : X.calm = true) (T : PySem.SupX.SupTxt X.prog X.K X.mg nm C fI) (hr : Room k X.A) (hk : 1 ≤ k) (tk : Takes X W) (hg : Gl X nm := by rfl) (hdb : (nm == ("__debug__" : Str)) = false := by decide +kernel)
    (he : starEach (.Constant (.str msg) j p' :: []) X.env = (false, eval (.Constant (.str msg) j p') X.env) :: starEach [] X.env := by rfl) (hpl : (backTo pos (starEach [] X.env)).any (·.1) = false := by rfl) :
    PS X (.Raise (some (.Call (.Name nm p) [.Constant (.str msg) j p'] [] pos)) none pos2) (tRaiseW C msg W) := ps_raise hc tk (pmk_word T hr hk hg hdb he hpl)
end
end L2
end

section
set_option Elab.async false
set_option linter.all false
set_option maxRecDepth 100000
set_option maxHeartbeats 4000000
/-! Rules on data; place_of, turned. -/
namespace K5
open PySem PySem.Spec PyProof.Rows L2
/-! ### tuples of data: parts, sums, tuple(list) -/
section
variable {X : Cx}
def cutL {α : Type} (xs : List α) (lo hi : Option Int) : List α := (xs.drop (HT.sIx xs.length 0 lo)).take (HT.sIx xs.length xs.length hi - HT.sIx xs.length 0 lo)
theorem cutL_all {α : Type} {xs : List α} {lo hi : Option Int} (h1 : HT.sIx xs.length 0 lo = 0) (h2 : HT.sIx xs.length xs.length hi = xs.length) : cutL xs lo hi = xs := by
  unfold cutL
  rw [h1, h2, List.drop_zero, Nat.sub_zero, List.take_length]
def rSlD (K : PySem.W.Frag) : V → Option Int → Option Int → Hp → VK → Prop := fun x lo hi H Q => ∃ ds, Dp K H x (.tuple ds) ∧ ∀ y H', Same H H' → Dp K H' y (.tuple (cutL ds lo hi)) → Q y H'
theorem sl_tupD : SlR X (rSlD X.K) := by
  intro pins s σ H x v vl vu lo hi sl Q I rx hs pl pu h
  obtain ⟨ds, hx, q⟩ := h
  obtain ⟨a, vs, rfl, hv, ha⟩ := Dp.tup_inv hx
  have hl := DpAll.length ha
  refine sl_tupA pins s σ H _ v vl vu lo hi sl Q I rx hs pl pu ⟨a, vs, rfl, hv, fun c => q _ _ (Same.refl _) ?_, fun c p n => q _ _ (same_new n) (.tup (SqT.of upd_same) ?_)⟩
  · rw [hl] at c
    rw [cutL_all c.1 c.2]
    exact hx
  · unfold cutV cutL
    rw [hl]
    exact DpAll.same (same_new n) (DpAll.take _ (DpAll.drop _ ha))
def rCatD (K : PySem.W.Frag) : R2 := fun x y H Q => ∃ ds es, Dp K H x (.tuple ds) ∧ Dp K H y (.tuple es) ∧ ds.length + es.length ≤ sizeLine ∧ ∀ z H', Same H H' → Dp K H' z (.tuple (ds ++ es)) → Q z H'
theorem op_catD : OpR X (binaryOp .Add) (rCatD X.K) := by
  intro pins s σ H x y v u Q I rx ry h
  obtain ⟨ds, es, hx, hy, hz, q⟩ := h
  obtain ⟨a, vs, rfl, hv, ha⟩ := Dp.tup_inv hx
  obtain ⟨b, ws, rfl, hw, hb⟩ := Dp.tup_inv hy
  have la := DpAll.length ha
  have lb := DpAll.length hb
  refine op_catA pins s σ H _ _ v u Q I rx ry ⟨a, b, vs, ws, rfl, rfl, hv, hw, by omega, fun e => q _ _ (Same.refl _) ?_, fun _ e => q _ _ (Same.refl _) ?_, fun _ _ p n => q _ _ (same_new n) (.tup (SqT.of upd_same) (DpAll.append (DpAll.same (same_new n) ha) (DpAll.same (same_new n) hb)))⟩
  · rw [e] at la
    rw [List.eq_nil_of_length_eq_zero la.symm]
    exact hy
  · rw [e] at lb
    rw [List.eq_nil_of_length_eq_zero lb.symm, List.append_nil]
    exact hx
/-- tuple(list), of data -/
def rTupF (K : PySem.W.Frag) : List V → Hp → VK → Prop := fun xs H Q => ∃ p ys, xs = [.ref p] ∧ SqL K H p ys ∧ ∀ l o, H l = none → o.dict = none → o.cls = .type "tuple" → Q (.ref l) (upd H l (.frz o (.tup ys)))
theorem call_tupF : CallR X (.type "tuple") (rTupF X.K) := by
  intro pins s σ H xs us Q I r h
  obtain ⟨p, ys, rfl, hq, q⟩ := h
  obtain ⟨u, rfl, rx⟩ := vals1 r
  cases rx
  obtain ⟨its, r', pl, hz⟩ := I.list hq
  have hlen := r'.length
  refine call_tuple_list pl.isList (fun h' kp => ?_) (by simp only [List.size_toArray] <;> omega)
  have I1 : Inv X pins σ H { s with heap := h' } := I.kept (t' := s.toks) kp
  have new : (h'.push { cls := .type "tuple", data := .seq its.toArray }).get? h'.objs.size = some { cls := .type "tuple", data := .seq its.toArray } := Heap.get?_push_size _ rfl
  have I2 : Inv X pins σ (upd H h'.objs.size (.frz { cls := .type "tuple", data := .seq its.toArray } (.tup ys))) { s with heap := h'.push { cls := .type "tuple", data := .seq its.toArray } } :=
    I1.laid (t' := s.toks) (fun b o e => Heap.get?_push_of_some _ e) (Nat.le_refl _) (show ObjOk X.prog X.w _ _ _ (.frz _ (.tup ys)) from ⟨new, hz, its, r', ⟨_, new, rfl, _, rfl⟩⟩)
  exact ⟨.ref h'.objs.size, _, I2, rfl, q _ _ (I1.hok.fresh (Nat.le_refl _)) rfl rfl⟩
theorem sq_frz {K : PySem.W.Frag} {H : Hp} {l : Addr} {o : Obj} {ys : List V} (h : H l = some (.frz o (.tup ys))) : SqT K H l ys := .inl (.inr ⟨o, h⟩)
def rTupD (K : PySem.W.Frag) : List V → Hp → VK → Prop := fun xs H Q => ∃ p vs ds, xs = [.ref p] ∧ SqL K H p vs ∧ DpAll K H vs ds ∧ ∀ v H', Same H H' → Dp K H' v (.tuple ds) → NoD H' v → Q v H'
theorem call_tupD : CallR X (.type "tuple") (rTupD X.K) := by
  intro pins s σ H xs us Q I r h
  obtain ⟨p, vs, ds, rfl, hq, hd, q⟩ := h
  exact call_tupF pins s σ H _ us Q I r ⟨p, vs, rfl, hq, fun l o n e c => q _ _ (same_new n) (.tup (sq_frz upd_same) (DpAll.same (same_new n) hd)) ⟨l, o, _, rfl, upd_same, e, c⟩⟩
/-! ### tuple.index -/
def tyTu (v : V) (H : Hp) : Prop := NoD H v
theorem ty_tu : TyOk X "tuple" tyTu := by
  intro pins σ H s x v I r ty
  obtain ⟨a, o, u, rfl, ha, hd, hc⟩ := ty
  cases r
  obtain ⟨ho, _⟩ := I.hok a _ ha
  refine ⟨⟨_, ho, hc⟩, fun b e => ?_⟩
  cases e
  exact ⟨_, ho, hd⟩
end

/-! ### cuts -/
theorem cutL_pre {α : Type} (xs : List α) (i : Nat) : cutL xs none (some (i : Nat)) = xs.take i := by
  unfold cutL
  rw [HT.sIx_nat, HT.sIx_none, List.drop_zero, Nat.sub_zero]
  by_cases h : i ≤ xs.length
  · rw [Nat.min_eq_left h]
  · rw [Nat.min_eq_right (by omega), List.take_length, List.take_of_length_le (by omega)]
theorem cutL_post {α : Type} (xs : List α) (i : Nat) : cutL xs (some (i : Nat)) none = xs.drop i := by
  unfold cutL
  rw [HT.sIx_nat, HT.sIx_none]
  by_cases h : i ≤ xs.length
  · rw [Nat.min_eq_left h, List.take_of_length_le (by rw [List.length_drop]; omega)]
  · rw [Nat.min_eq_right (by omega), List.drop_eq_nil_of_le (Nat.le_refl _), List.drop_eq_nil_of_le (by omega), List.take_nil]
theorem cut_set {α : Type} : ∀ (xs : List α) (i : Nat) (y : α), i < xs.length → xs.take i ++ [y] ++ xs.drop (i + 1) = xs.set i y
  | [], _, _, h => absurd h (Nat.not_lt_zero _)
  | x :: xs, 0, y, _ => by simp
  | x :: xs, i + 1, y, h => by
    have := cut_set xs i y (by simpa using h)
    simpa using this
theorem mapIdx_set {c : List Int} {i : Nat} {x : Int} (h : c[i]? = some x) : c.mapIdx (fun k x => x * wT i k) = c.set i (-x) := by
  refine list_ext (by simp) fun k y z hy hz => ?_
  rw [List.getElem?_mapIdx] at hy
  rw [List.getElem?_set] at hz
  unfold wT at hy
  by_cases e : i = k
  · subst e
    rw [if_pos rfl] at hz
    rw [h] at hy
    have y' : x * (if i = i then -1 else 1) = y := Option.some.inj hy
    have hl := (List.getElem?_eq_some_iff.mp h).1
    rw [if_pos hl] at hz
    have z' := Option.some.inj hz
    rw [if_pos rfl] at y'
    rw [← y', ← z']
    omega
  · rw [if_neg e] at hz
    rw [hz] at hy
    have y' : z * (if k = i then -1 else 1) = y := Option.some.inj hy
    rw [if_neg (Ne.symm e)] at y'
    rw [← y']
    omega
/-! ### place_of -/
abbrev sPlace : Stmt := top 23
abbrev sTurned : Stmt := top 24
abbrev sScaled : Stmt := top 25
abbrev sRenamed : Stmt := top 22
def wd (w : Str) : HO := .xd [(("word" : Str), .str w)]
section
variable {P : Program} {w : World} {K : PySem.W.Frag} {mg : Str → Option Value} {base : Heap} {C fI fE CR fR CN fN : Addr}
/-- a name's place; or none -/
def Place (ns : List Str) (d : PyData) (bad : Prop) (good : Nat → Prop) : Prop := ((∀ x ∈ ns, d ≠ .str x) ∧ bad) ∨ ∃ (i : Nat) (x : Str), ns[i]? = some x ∧ d = .str x ∧ good i
def OutW (H : Hp) (E : XK) (CR : Addr) (w : Str) : Prop := ∀ H1 dd, Same H H1 → H1 dd = none → E (.ref CR) (some dd) (upd H1 dd (wd w))
def spPlace (K : PySem.W.Frag) (C CR : Addr) : Sp := fun vs H Q E => ∃ v nv ns rs d, vs = [v, nv] ∧ SysAt K C H v ns rs ∧ NamesOk ns ∧ Av K H nv d ∧ (∀ x, d = .str x → x.length ≤ sizeLine) ∧
  Place ns d (OutW H E CR "name") fun i => ∀ H1, Same H H1 → Q (.int (i : Nat)) H1
theorem scPlace : FnScope ["system", "name"] ["system", "name"] (defScope sPlace) := ⟨rfl, rfl, rfl, by decide +kernel, rfl, by decide +kernel, by decide +kernel⟩
theorem flat_names (ns : List Str) : (ns.map V.str).all flatV = true := List.all_eq_true.mpr fun v hv => by
  obtain ⟨x, _, rfl⟩ := List.mem_map.mp hv
  rfl
theorem inV_names {ns : List Str} {x : Str} : inV (.str x) (ns.map V.str) = decide (x ∈ ns) := by
  unfold inV
  rw [List.any_map]
  by_cases h : x ∈ ns
  · rw [decide_eq_true h]
    exact List.any_eq_true.mpr ⟨x, h, beq_self_eq_true x⟩
  · rw [decide_eq_false h]
    exact List.any_eq_false.mpr fun y hy e => h (by
      have e' : (y == x) = true := e
      rw [← eq_of_beq e']
      exact hy)
theorem NamesOk.nodup {ns : List Str} (N : NamesOk ns) : ns.Nodup := N.up.imp fun {a b} h e => by
  rw [e] at h
  exact List.lt_irrefl _ h
theorem nodup_first {α : Type} : ∀ {ns : List α} {i m : Nat} {x : α}, ns.Nodup → ns[i]? = some x → ns[m]? = some x → m = i := fun {ns i m x} nd h k => by
  obtain ⟨hm, e2⟩ := List.getElem?_eq_some_iff.mp k
  exact (List.getElem?_inj hm nd).mp (k.trans h.symm)
theorem ok_place (B : Bl mg) (S : SysT K mg C fI fE) (T : PySem.SupX.SupTxt P K mg "Refused" CR fR) (D : Def K mg "place_of" sPlace ["system", "name"]) (ON : Ok P w K mg base CX0 1 "is_name" sIsName ["value"] (spIsName K)) :
    Ok P w K mg base (L2.CX P w) 2 "place_of" sPlace ["system", "name"] (spPlace K C CR) := by
  refine .of D fun f fd F => F.okX scPlace (fun vs H Q E h => ?_) (fun cdv A outer s H vs Q E hr h => ?_)
  · obtain ⟨v, d, _, _, _, rfl, _⟩ := h
    rfl
  · obtain ⟨v, nv, ns, rs, d, rfl, ⟨sa, dx, vn, vr, rfl, hs, dn, dr, nod⟩, N, av, hlen, q⟩ := h
    refine ⟨_, pss_cons (ps_if (PW.pt (pw_or (pt_not (pt_val (pe_c ON (hr.mono (by decide)) (pa_cons (pv 1) pa_nil))))
        (pw_or1 (pt_cmpR op_notIn_seq (pv 1) (pe_fld (pv 0) rfl) rfl)))) (pss_one (ps_raiseW rfl T hr (by decide) (takes_of rfl rfl rfl rfl))) pss_nil)
      (pss_one (ps_ret (pe_mG ty_tu PySem.F.plainAttrs_tuple PySem.F.slot_tuple_index PySem.F.type_tuple_index mt_tup_index (pe_fld (pv 0) rfl) (pa_cons (pv 1) pa_nil)))), ?_⟩
    obtain ⟨an, rfl, hn⟩ := Dp.N_inv dn
    refine ⟨_, rfl, nv, d, rfl, av, hlen, fun H1 s1 => ⟨_, rfl, ?_⟩⟩
    rcases q with ⟨hno, q⟩ | ⟨i, x, hi, rfl, q⟩
    · cases hb : nameD d with
      | false => exact iteT (iteT fun dd hdd => q H1 dd s1 hdd)
      | true =>
        obtain ⟨x, rfl⟩ : ∃ x, d = .str x := by
          cases d with
          | str x => exact ⟨x, rfl⟩
          | _ => cases hb
        have ev : nv = .str x := by
          rcases av with ⟨_, hv⟩ | ⟨e, _⟩ | ⟨e, _⟩
          · exact Dp.str_inv hv
          · cases e
          · cases e
        subst ev
        have nx : ¬ x ∈ ns := fun z => hno x z rfl
        refine iteF ⟨_, rfl, _, rfl, sa, C, dx, _, _, rfl, s1 _ _ hs, S.ins.cl, S.nN, sysF_names _ _, an, _, rfl, .inr (SqT.fx (fx_same s1) hn), rfl, flat_names ns, true, ?_, iteT fun dd hdd => q H1 dd s1 hdd⟩
        show V.bl (!inV (.str x) (ns.map V.str)) = V.bl true
        rw [inV_names, decide_eq_false nx]
        rfl
    · have ev : nv = .str x := by
        rcases av with ⟨_, hv⟩ | ⟨e, _⟩ | ⟨e, _⟩
        · exact Dp.str_inv hv
        · cases e
        · cases e
      subst ev
      have mx : x ∈ ns := List.mem_of_getElem? hi
      have hb : nameD (.str x) = true := N.ok x mx
      rw [hb]
      refine iteF ⟨_, rfl, _, rfl, sa, C, dx, _, _, rfl, s1 _ _ hs, S.ins.cl, S.nN, sysF_names _ _, an, _, rfl, .inr (SqT.fx (fx_same s1) hn), rfl, flat_names ns, false, ?_, iteF ?_⟩
      · show V.bl (!inV (.str x) (ns.map V.str)) = V.bl false
        rw [inV_names, decide_eq_true mx]
        rfl
      · exact ⟨_, rfl, sa, C, dx, _, _, rfl, s1 _ _ hs, S.ins.cl, S.nN, sysF_names _ _, NoD.fx nod (fx_same s1), _, rfl, an, ns, x, i, rfl, rfl, SqT.fx (fx_same s1) hn, hi, fun m hm e => absurd (nodup_first (NamesOk.nodup N) hi e) (Nat.ne_of_lt hm), q H1 s1⟩

/-! ### turned -/
theorem Place.imp {ns : List Str} {d : PyData} {bad bad' : Prop} {good good' : Nat → Prop} (p : Place ns d bad good) (hb : bad → bad') (hg : ∀ i, i < ns.length → good i → good' i) : Place ns d bad' good' := by
  rcases p with ⟨h, b⟩ | ⟨i, x, hi, e, g⟩
  · exact .inl ⟨h, hb b⟩
  · exact .inr ⟨i, x, hi, e, hg i (List.getElem?_eq_some_iff.mp hi).1 g⟩
theorem alike_Rs (rs : List Row) : PySem.W.AllAlike (rs.map encR) := fun x hx y hy => by
  obtain ⟨r, _, rfl⟩ := List.mem_map.mp hx
  obtain ⟨s, _, rfl⟩ := List.mem_map.mp hy
  exact alike_R r s
theorem sortable_Rs (rs : List Row) : PySem.W.Sortable (rs.map encR) := .inl fun d hd => by
  obtain ⟨r, _, rfl⟩ := List.mem_map.mp hd
  exact ⟨_, _, rfl⟩
def spTurned (K : PySem.W.Frag) (C CR : Addr) : Sp := fun vs H Q E => ∃ v nv ns rs d, vs = [v, nv] ∧ SysAt K C H v ns rs ∧ NamesOk ns ∧ RowsOk ns.length rs ∧ Av K H nv d ∧ (∀ x, d = .str x → x.length ≤ sizeLine) ∧
  Place ns d (OutW H E CR "name") fun i => ∀ H1 v1, Same H H1 → SysAt K C H1 v1 ns (srt (rs.map (turnR i))) → Q v1 H1
theorem scTurned : FnScope ["system", "name", "at", "rows", "row"] ["system", "name"] (defScope sTurned) := ⟨rfl, rfl, rfl, by decide +kernel, rfl, by decide +kernel, by decide +kernel⟩
theorem turn_fst {r : Row} {i : Nat} {x : Int} (h : r.1[i]? = some x) : (turnR i r).1 = r.1.set i (-x) := by
  show r.1.mapIdx (fun k x => x * wT i k) = _
  exact mapIdx_set h
theorem turn_snd (r : Row) (i : Nat) : (turnR i r).2 = r.2 := by
  show r.2 * 1 = r.2
  omega
theorem turn_data {c : List Int} {i : Nat} {x : Int} (h : c[i]? = some x) : cutL (c.map PyData.int) none (some (i : Nat)) ++ [.int (-x)] ++ cutL (c.map PyData.int) (some ((i : Int) + 1)) none = (c.set i (-x)).map PyData.int := by
  rw [cutL_pre, show ((i : Int) + 1) = ((i + 1 : Nat) : Int) by omega, cutL_post, cut_set _ _ _ (by rw [List.length_map]; exact (List.getElem?_eq_some_iff.mp h).1), List.map_set]
theorem ok_turned (B : Bl mg) (S : SysT K mg C fI fE) (T : PySem.SupX.SupTxt P K mg "Refused" CR fR) (D : Def K mg "turned" sTurned ["system", "name"]) (OC : Ok P w K mg base CX0 4 "check_system" sChk ["names", "rows"] (spChk K))
    (OP : Ok P w K mg base (L2.CX P w) 2 "place_of" sPlace ["system", "name"] (spPlace K C CR)) :
    Ok P w K mg base (L2.CX P w) 7 "turned" sTurned ["system", "name"] (spTurned K C CR) := by
  obtain ⟨fdI, FI, bI⟩ := S.fI
  refine .of D fun f fd F => F.okX scTurned (fun vs H Q E h => ?_) (fun cdv A outer s H vs Q E hr h => ?_)
  · obtain ⟨v, d, _, _, _, rfl, _⟩ := h
    rfl
  · obtain ⟨v, nv, ns, rs, d, rfl, ⟨sa, dx, vn, vr, rfl, hs, dn, dr, nod⟩, N, RS, av, hlen, q⟩ := h
    obtain ⟨ar, us, rfl, hR, ha⟩ := Dp.tup_inv dr
    have hul := DpAll.length ha
    rw [List.length_map] at hul
    have h6 := N.six
    have h60 := RS.most
    refine ⟨_, pss_cons (ps_set (i := 2) scTurned.nd rfl (Or.inr rfl) (pe_cE OP (hr.mono (by decide)) (takes_of rfl rfl rfl rfl) (fun _ _ _ _ h => h) (pa_cons (pv 0) (pa_cons (pv 1) pa_nil))))
      (pss_cons (ps_setLc (i := 3) (own := [("row", 4)]) (g := gName 4) (tt := tYes) rfl scTurned.nd rfl rfl (sw_true rfl rfl rfl (by decide +kernel)) (pi_tup (pe_fld (pv 0) rfl)) (blkOk_by (N := ["system", "name", "at", "rows", "row"]) (sc := defScope sTurned) (by decide +kernel))
          (fun _ _ _ _ _ => pg_name (i := 4) scTurned.nd rfl (Or.inl rfl)) (fun _ _ _ _ _ => pts_nil)
          (fun _ _ _ _ _ => pe_tup (pa_cons (pe_op (r := rCatD K) op_catD (pe_op (r := rCatD K) op_catD (pe_slice (r := rSlD K) sl_tupD (pe_ix (r := rIxT K) ix_tup (pv 4) pe_int (fun _ _ => rfl)) po_none (po_some (pv 2)))
              (pe_tup (pa_cons (pe_un un_neg (pe_ix (r := rIxT K) ix_tup (pe_ix (r := rIxT K) ix_tup (pv 4) pe_int (fun _ _ => rfl)) (pv 2) (fun _ _ => rfl))) pa_nil)))
              (pe_slice (r := rSlD K) sl_tupD (pe_ix (r := rIxT K) ix_tup (pv 4) pe_int (fun _ _ => rfl)) (po_some (pe_op op_add (pv 2) pe_int)) po_none)) (pa_cons (pe_ix (r := rIxT K) ix_tup (pv 4) pe_int (fun _ _ => rfl)) pa_nil))))
      (pss_one (ps_ret (pe_make S.maker (ok_sysI S FI OC) hr rfl S.mgC bI .nil pass0 (pa_cons (pe_fld (pv 0) rfl) (pa_cons (pe_t (f := "tuple") call_tupD B.tuple b_tuple (pa_cons (pe_b (f := "sorted") (cr_sortedD encR hr.units) B.sorted b_sorted (pa_cons (pv 3) pa_nil)) pa_nil)) pa_nil)))))), ?_⟩
    refine ⟨_, rfl, _, rfl, .ref sa, nv, ns, rs, d, rfl, ⟨sa, dx, vn, _, rfl, hs, dn, dr, nod⟩, N, av, hlen, Place.imp q (fun h => h) fun i hi q H1 s1 => ?_⟩
    refine ⟨_, rfl, sa, C, dx, _, _, rfl, s1 _ _ hs, S.ins.cl, S.nR, sysF_rows _ _, ar, rfl, ⟨_, SqT.fx (fx_same s1) hR⟩, fun Dn nD => lc_itD (K := K) walk_tup ((rs.map (turnR i)).map encR) (tup_Rl _) (by simp [hul]) (by rw [hul, sizeLine_eq]; omega) nD (fun _ sb => SqT.fx (fx_same (s1.trans sb)) hR) ?_ ?_⟩
    · intro j y e Ha Hb R Nx hj he sb hY hq
      obtain ⟨rfl, hx⟩ := hY
      have s2 := s1.trans sb
      obtain ⟨d', hd', dy⟩ := DpAll.get (DpAll.same s2 ha) hx
      obtain ⟨r, gr, rfl⟩ := map_get hd'
      obtain ⟨r2, gr2, rfl⟩ := map_get he
      obtain ⟨r3, gr3, rfl⟩ := map_get gr2
      rw [gr] at gr3
      have er : r = r3 := Option.some.inj gr3
      subst er
      have ok := RS.ok r (List.mem_of_getElem? gr)
      obtain ⟨a, v1, rfl, hsr, d1⟩ := Dp.R_inv dy
      obtain ⟨a1, rfl, hs1⟩ := Dp.I_inv d1
      have hc : i < r.1.length := by rw [ok.len]; exact hi
      have gx : r.1[i]? = some r.1[i] := List.getElem?_eq_getElem hc
      refine ⟨rfl, _, rfl, a, _, _, _, rfl, rfl, hsr, at_of (j := 0) rfl rfl, ?_⟩
      refine ⟨_, rfl, _, rfl, _, d1, fun y1 H2 s3 e1 => ?_⟩
      refine ⟨_, rfl, a, _, _, _, rfl, rfl, SqT.fx (fx_same s3) hsr, at_of (j := 0) rfl rfl, _, rfl, a1, _, _, _, rfl, rfl, SqT.fx (fx_same s3) hs1, at_of (j := i) (by omega) (by rw [List.getElem?_map, gx]; rfl), _, rfl, (by show 1 ≤ sizeLine; decide), fun t1 n1 => ?_⟩
      have s4 := s3.trans (same_new (o := .tup [.int (-r.1[i])]) n1)
      refine ⟨_, [.int (-r.1[i])], Dp.same (same_new n1) e1, .tup (SqT.of upd_same) (.cons (.int _) .nil), ?_, fun y2 H3 s5 e2 => ?_⟩
      · rw [cutL_pre]
        simp only [List.length_take, List.length_map, List.length_cons, List.length_nil, sizeLine_eq]
        have := ok.len
        omega
      have s6 := s4.trans s5
      refine ⟨_, rfl, a, _, _, _, rfl, rfl, SqT.fx (fx_same s6) hsr, at_of (j := 0) rfl rfl, _, rfl, _, _, rfl, rfl, _, rfl, _, Dp.same s6 d1, fun y3 H4 s7 e3 => ?_⟩
      refine ⟨_, _, Dp.same s7 e2, e3, ?_, fun y4 H5 s8 e4 => ?_⟩
      · rw [cutL_pre, show ((i : Int) + 1) = ((i + 1 : Nat) : Int) by omega, cutL_post]
        simp only [List.length_take, List.length_append, List.length_drop, List.length_map, List.length_cons, List.length_nil, sizeLine_eq]
        have := ok.len
        omega
      have s9 := (s6.trans s7).trans s8
      refine ⟨_, rfl, a, _, _, _, rfl, rfl, SqT.fx (fx_same s9) hsr, at_of (j := 1) rfl rfl, (by show 2 ≤ sizeLine; decide), fun t5 n5 => ?_⟩
      refine hq _ _ (s9.trans (same_new n5)) ?_
      have e5 : Dp K H5 y4 (encI (turnR i r).1) := by
        rw [turn_fst gx]
        unfold encI
        rw [← turn_data gx]
        exact e4
      have := Dp.R_of (SqT.of upd_same) (Dp.same (same_new (o := .tup [y4, .int r.2]) n5) e5)
      rw [show turnR i r = ((turnR i r).1, r.2) from Prod.ext rfl (turn_snd r i)]
      exact this
    · intro H2 ys s2 hD hd
      have s3 := s1.trans s2
      refine ⟨_, rfl, sa, C, dx, _, _, rfl, s3 _ _ hs, S.ins.cl, S.nN, sysF_names _ _, ?_⟩
      refine ⟨_, rfl, _, ys, rs.map (turnR i), rfl, SqL.of hD, hd, alike_Rs _, ?_, fun b _ => by have := depth_R b; omega, by rw [List.length_map, sizeLine_eq]; omega, fun ws p np dws => ?_⟩
      · exact sortable_Rs _
      have s4 := s3.trans (same_new (o := .lst ws) np)
      refine ⟨p, ws, _, rfl, SqL.of upd_same, DpAll.same (same_new np) dws, fun vt H4 s5 et ndt => ?_⟩
      have s6 := s4.trans s5
      intro x dx2 nx ndx ne
      have s7 : Same H4 (upd (upd H4 dx2 (.own x)) x (.ins C dx2 [])) := (same_new ndx).trans (same_new (by rw [upd_ne (Ne.symm ne)]; exact nx))
      have RO : RowsOk ns.length (srt (rs.map (turnR i))) := srt_map_ok RS (fun r h => turn_ok i h) (fun r h => turn_turn i h)
      refine ⟨x, dx2, vn, vt, ns, srt (rs.map (turnR i)), rfl, upd_same, Dp.same (s6.trans s7) dn, Dp.same s7 et, N, RO, fun H5 kb h5 => ⟨rfl, ?_⟩⟩
      have nof : ∀ b o, H4 b = some o → H5 b = some o := fun b o e => kb b o (fun z => by rw [z, nx] at e; cases e) (s7 b o e)
      exact q H5 _ (s6.trans nof) ⟨x, dx2, vn, vt, rfl, h5, Dp.same (s6.trans nof) dn, Dp.same nof et, NoD.fx nod (fx_same (s6.trans nof))⟩
end
end K5
end

section
set_option Elab.async false
set_option linter.all false
set_option maxRecDepth 100000
set_option maxHeartbeats 4000000
/-! scaled -/
namespace K5
open PySem PySem.Spec PyProof.Rows L2
section
variable {P : Program} {w : World} {K : PySem.W.Frag} {mg : Str → Option Value} {base : Heap} {C fI fE CR fR CN fN : Addr}
def posF : PyData → Bool
  | .tuple [.int p, .int q] => fracD (.tuple [.int p, .int q]) && decide (0 < p)
  | _ => false
theorem fracD_inv {d : PyData} (h : fracD d = true) : ∃ p q, d = .tuple [.int p, .int q] ∧ 0 < q := by
  unfold fracD at h
  split at h
  · rename_i p q
    exact ⟨p, q, rfl, of_decide_eq_true (Bool.and_eq_true_iff.mp h).1⟩
  · cases h
def FacD (e : PyData) (bad : Prop) (good : Int → Int → Prop) : Prop := (posF e = false ∧ bad) ∨ ∃ t q, e = encF (t, q) ∧ posF (encF (t, q)) = true ∧ t ≤ 100 ∧ q ≤ 100 ∧ good t q
def spScaled (K : PySem.W.Frag) (C CR CN : Addr) : Sp := fun vs H Q E => ∃ v nv fv ns rs d e, vs = [v, nv, fv] ∧ SysAt K C H v ns rs ∧ NamesOk ns ∧ RowsOk ns.length rs ∧ (∀ r ∈ rs, BdL 1000000 r.1) ∧ Av K H nv d ∧ (∀ x, d = .str x → x.length ≤ sizeLine) ∧
  Av K H fv e ∧ (∀ ds, e = .tuple ds → ds.length ≤ sizeLine) ∧
  Place ns d (OutW H E CR "name") fun i => FacD e (OutW H E CN "factor") fun t q => ∀ H1 v1, Same H H1 → SysAt K C H1 v1 ns (srt (rs.map (scaleR i t q))) → Q v1 H1
theorem scScaled : FnScope ["system", "name", "factor", "at", "rows", "coefficients", "bound", "parts", "k", "item"] ["system", "name", "factor"] (defScope sScaled) := ⟨rfl, rfl, rfl, by decide +kernel, rfl, by decide +kernel, by decide +kernel⟩
theorem Av.tup {H : Hp} {v : V} {ds : List PyData} (h : Av K H v (.tuple ds)) : Dp K H v (.tuple ds) := by
  rcases h with ⟨_, h⟩ | ⟨e, _⟩ | ⟨e, _⟩
  · exact h
  · cases e
  · cases e
theorem scale_bd {i : Nat} {t q : Int} {c : List Int} {m : Nat} (hb : BdL m c) (ht : t.natAbs ≤ 100) (hq : q.natAbs ≤ 100) : BdL (m * 100) (c.mapIdx fun k x => x * wS i t q k) := fun y hy => by
  obtain ⟨k, hk, rfl⟩ := List.mem_mapIdx.mp hy
  rw [Int.natAbs_mul]
  refine Nat.mul_le_mul (hb _ (List.getElem_mem hk)) ?_
  unfold wS
  split
  · exact ht
  · exact hq
theorem ok_scaled (B : Bl mg) (S : SysT K mg C fI fE) (T : PySem.SupX.SupTxt P K mg "InvalidNumber" CN fN) (D : Def K mg "scaled" sScaled ["system", "name", "factor"]) (OC : Ok P w K mg base CX0 4 "check_system" sChk ["names", "rows"] (spChk K))
    (OP : Ok P w K mg base (L2.CX P w) 2 "place_of" sPlace ["system", "name"] (spPlace K C CR)) (OF : Ok P w K mg base CX0 2 "is_fraction" sIsFr ["value"] (spIsFr K)) (OL : Ok P w K mg base CX0 3 "least_form" sLeast ["coefficients", "bound"] (spLeast K)) :
    Ok P w K mg base (L2.CX P w) 7 "scaled" sScaled ["system", "name", "factor"] (spScaled K C CR CN) := by
  obtain ⟨fdI, FI, bI⟩ := S.fI
  refine .of D fun f fd F => F.okX scScaled (fun vs H Q E h => ?_) (fun cdv A outer s H vs Q E hr h => ?_)
  · obtain ⟨v, d, _, _, _, _, _, rfl, _⟩ := h
    rfl
  · obtain ⟨v, nv, fv, ns, rs, d, e, rfl, ⟨sa, dx, vn, vr, rfl, hs, dn, dr, nod⟩, N, RS, bdr, av, hlen, af, flen, q⟩ := h
    obtain ⟨ar, us, rfl, hR, ha⟩ := Dp.tup_inv dr
    have hul := DpAll.length ha
    rw [List.length_map] at hul
    have h6 := N.six
    have h60 := RS.most
    refine ⟨_, pss_cons (ps_set (i := 3) scScaled.nd rfl (Or.inr rfl) (pe_cE OP (hr.mono (by decide)) (takes_of rfl rfl rfl rfl) (fun _ _ _ _ h => h) (pa_cons (pv 0) (pa_cons (pv 1) pa_nil))))
      (pss_cons (ps_if (PW.pt (pw_or (pt_not (pt_val (pe_c OF (hr.mono (by decide)) (pa_cons (pv 2) pa_nil))))
        (pw_or1 (pt_cmpR op_le (pe_ix (r := rIxT K) ix_tup (pv 2) pe_int (fun _ _ => rfl)) pe_int (nomark _))))) (pss_one (ps_raiseW rfl T hr (by decide) (takes_of rfl rfl rfl rfl))) pss_nil)
      (pss_cons (ps_set (i := 4) scScaled.nd rfl (Or.inl rfl) (pe_lst pa_nil))
      (pss_cons (ps_for (passes_of rfl) rfl (pi_tup (pe_fld (pv 0) rfl)) (pg_tup rfl (pgs_cons (pg_name (i := 5) scScaled.nd rfl (.inl rfl)) (pgs_cons (pg_name (i := 6) scScaled.nd rfl (.inl rfl)) pgs_nil)))
        (pss_cons (ps_setLc (i := 7) (own := [("k", 8), ("item", 9)]) (g := gTup K 2 (gCons (gName 8) (gCons (gName 9) gNil))) (tt := tYes) rfl scScaled.nd rfl rfl (sw_true rfl rfl rfl (by decide +kernel)) (pi_enumT B.enumerate (pa_cons (pv 5) pa_nil)) (blkOk_by (N := ["system", "name", "factor", "at", "rows", "coefficients", "bound", "parts", "k", "item"]) (sc := defScope sScaled) (by decide +kernel))
          (fun _ _ _ _ _ => pg_tup rfl (pgs_cons (pg_name (i := 8) scScaled.nd rfl (.inl rfl)) (pgs_cons (pg_name (i := 9) scScaled.nd rfl (.inl rfl)) pgs_nil))) (fun _ _ _ _ _ => pts_nil)
          (fun _ _ _ _ _ => pe_op op_mul (pv 9) (pe_ifExp (pt_cmpR op_eq (pv 8) (pv 3) (nomark _)) (pe_ix (r := rIxT K) ix_tup (pv 2) pe_int (fun _ _ => rfl)) (pe_ix (r := rIxT K) ix_tup (pv 2) pe_int (fun _ _ => rfl)))))
        (pss_one (ps_expr (pe_bm PySem.F.plainAttrs_list PySem.F.slot_list_append PySem.F.type_list_append mt_append (pv 4) (pa_cons (pe_c OL (hr.mono (by decide)) (pa_cons (pv 7) (pa_cons (pe_op op_mul (pv 6) (pe_ix (r := rIxT K) ix_tup (pv 2) pe_int (fun _ _ => rfl))) pa_nil))) pa_nil))))))
      (pss_one (ps_ret (pe_make S.maker (ok_sysI S FI OC) hr rfl S.mgC bI .nil pass0 (pa_cons (pe_fld (pv 0) rfl) (pa_cons (pe_t (f := "tuple") call_tupD B.tuple b_tuple (pa_cons (pe_b (f := "sorted") (cr_sortedD encR hr.units) B.sorted b_sorted (pa_cons (pv 4) pa_nil)) pa_nil)) pa_nil)))))))), ?_⟩
    refine ⟨_, rfl, _, rfl, .ref sa, nv, ns, rs, d, rfl, ⟨sa, dx, vn, _, rfl, hs, dn, dr, nod⟩, N, av, hlen, Place.imp q (fun h => h) fun i hi qf H1 s1 => ?_⟩
    clear q
    refine ⟨_, rfl, fv, e, rfl, af.same s1, flen, fun H2 s2' => ⟨_, rfl, ?_⟩⟩
    have s2 := s1.trans s2'
    rcases qf with ⟨hno, q⟩ | ⟨t, u, rfl, hp, ht, hu, q⟩
    · cases hfr : fracD e with
      | false => exact iteT (iteT fun dd hdd => q H2 dd s2 hdd)
      | true =>
        obtain ⟨p, u, rfl, hu⟩ := fracD_inv hfr
        have np : ¬ 0 < p := fun z => by
          have h1 : (fracD (.tuple [.int p, .int u]) && decide (0 < p)) = false := hno
          rw [hfr, decide_eq_true z] at h1
          cases h1
        obtain ⟨a, rfl, hsq⟩ := Dp.F_inv (q := (p, u)) (Av.tup (af.same s2))
        exact iteF ⟨_, rfl, a, _, _, _, rfl, rfl, hsq, at_of (j := 0) rfl rfl, _, _, rfl, rfl, true, congrArg V.bl (decide_eq_true (by show p ≤ 0; omega)), iteT fun dd hdd => q H2 dd s2 hdd⟩
    obtain ⟨hfr, h0⟩ := Bool.and_eq_true_iff.mp (show (fracD (encF (t, u)) && decide (0 < t)) = true from hp)
    have ht0 : 0 < t := of_decide_eq_true h0
    have hu0 : 0 < u := by
      obtain ⟨p', u', e', h'⟩ := fracD_inv hfr
      unfold encF at e'
      simp only [PyData.tuple.injEq, List.cons.injEq, PyData.int.injEq, and_true] at e'
      rw [e'.2]
      exact h'
    obtain ⟨af0, rfl, hsf0⟩ := Dp.F_inv (Av.tup af)
    have hsf := SqT.fx (fx_same s2) hsf0
    rw [hfr]
    refine iteF ⟨_, rfl, af0, _, _, _, rfl, rfl, hsf, at_of (j := 0) rfl rfl, _, _, rfl, rfl, false, congrArg V.bl (decide_eq_false (by show ¬ t ≤ 0; omega)), iteF ?_⟩
    refine ⟨(by show 0 ≤ sizeLine; exact Nat.zero_le _), fun L nL => ?_⟩
    have s3 : Same H (upd H2 L (.lst [])) := s2.trans (same_new nL)
    refine ⟨_, rfl, sa, C, dx, _, _, rfl, s3 _ _ hs, S.ins.cl, S.nR, sysF_rows _ _, ar, rfl, ⟨_, SqT.fx (fx_same s3) hR⟩, for_tup (K := K) (a := ar) (xs := us)
      (fun j σ H' => ∃ ys z5 z6 z7 z8 z9, σ = [some (.ref sa), some nv, some (.ref af0), some (.int (i : Nat)), some (.ref L), z5, z6, z7, z8, z9] ∧ Kb L H2 H' ∧ H' L = some (.lst ys) ∧ ys.length = j ∧ DpAll K H' ys (((rs.take j).map (scaleR i t u)).map encR))
      ⟨[], none, none, none, none, none, rfl, Kb.put, upd_same, rfl, .nil⟩ (fun j σ H' _ ⟨_, _, _, _, _, _, _, kb, _⟩ => SqT.fx (fx_same (s2.trans (Kb.same_new kb nL))) hR) ?_ ?_⟩
    · rintro j y σ Ha hx ⟨ys, z5, z6, z7, z8, z9, rfl, kb, hL, hyl, hys⟩
      have sa' := Kb.same_new kb nL
      have s4 := s2.trans sa'
      have hj : j < us.length := (List.getElem?_eq_some_iff.mp hx).1
      obtain ⟨d', hd', dy⟩ := DpAll.get (DpAll.same s4 ha) hx
      obtain ⟨r, gr, rfl⟩ := map_get hd'
      have ok := RS.ok r (List.mem_of_getElem? gr)
      have bd := bdr r (List.mem_of_getElem? gr)
      obtain ⟨a, v1, rfl, hsr, d1⟩ := Dp.R_inv dy
      obtain ⟨a1, rfl, hs1⟩ := Dp.I_inv d1
      have hlen6 : r.1.length ≤ 6 := by rw [ok.len]; exact h6
      have hsf1 := SqT.fx (fx_same sa') hsf
      refine ⟨a, _, rfl, hsr, rfl, _, _, rfl, _, _, rfl, rfl, ?_⟩
      refine ⟨_, rfl, a1, _, rfl, hs1, fun Dn nD => lc_itD (K := K) (walk_enumT (K := K) (a := a1) (xs := r.1.map V.int)) ((r.1.mapIdx fun k x => x * wS i t u k).map PyData.int) (tup_ints _) (by simp) (by rw [List.length_map, sizeLine_eq]; omega) nD (fun _ sb => SqT.fx (fx_same sb) hs1) ?_ ?_⟩
      · intro k y2 e2 Hb Hc R Nx hk he sb hY hq
        obtain ⟨T2, x2, y3, rfl, nT, rfl, ex, hy3⟩ := hY
        have ex' : V.int (k : Nat) = x2 := Option.some.inj ex
        subst ex'
        obtain ⟨x, gx, rfl⟩ := map_get hy3
        obtain ⟨z, gz, rfl⟩ := map_get he
        rw [List.getElem?_mapIdx, gx] at gz
        have ez : x * wS i t u k = z := Option.some.inj gz
        subst ez
        have sc := sb.trans (same_new (o := .tup [.int (k : Nat), .int x]) nT)
        have hsf2 := SqT.fx (fx_same sc) hsf1
        refine ⟨T2, _, rfl, SqT.of upd_same, rfl, _, _, rfl, _, _, rfl, rfl, ?_⟩
        refine ⟨rfl, ?_⟩
        by_cases hki : k = i
        · have ew : wS i t u k = t := by unfold wS; rw [if_pos hki]
          refine ⟨_, rfl, _, rfl, _, rfl, rfl, true, congrArg V.bl (decide_eq_true (by rw [hki])), iteT ⟨_, rfl, af0, _, _, _, rfl, rfl, hsf2, at_of (j := 0) rfl rfl, _, _, rfl, rfl, .inr (by omega), hq _ _ (same_new nT) ?_⟩⟩
          rw [ew]
          exact .int _
        · have ew : wS i t u k = u := by unfold wS; rw [if_neg hki]
          refine ⟨_, rfl, _, rfl, _, rfl, rfl, false, congrArg V.bl (decide_eq_false (by intro z; injection z with z; omega)), iteF ⟨_, rfl, af0, _, _, _, rfl, rfl, hsf2, at_of (j := 1) rfl rfl, _, _, rfl, rfl, .inr (by omega), hq _ _ (same_new nT) ?_⟩⟩
          rw [ew]
          exact .int _
      · intro H5 zs s5 hD hd
        rw [DpAll.ints_inv hd] at hD
        have hL5 := s5 _ _ hL
        refine ⟨_, rfl, .inl ⟨rfl, _, SqL.of hL5⟩, _, rfl, _, rfl, _, rfl, af0, _, _, _, rfl, rfl, SqT.fx (fx_same s5) hsf1, at_of (j := 1) rfl rfl, _, _, rfl, rfl, .inr (by omega), ?_⟩
        refine ⟨Dn, r.1.mapIdx fun k x => x * wS i t u k, r.2 * u, rfl, SqL.of hD, app_nz (wb := u) (r := r) (fun k => wS_ne ht0 hu0 k) ok.nz, by rw [List.length_mapIdx]; exact hlen6, ?_, fun H6 v s6 ev => ?_⟩
        · intro x hx
          have := scale_bd (i := i) bd (show t.natAbs ≤ 100 by omega) (show u.natAbs ≤ 100 by omega) x hx
          omega
        have s7 := s5.trans s6
        refine ⟨L, ys, v, rfl, rfl, s7 _ _ hL, by rw [hyl, sizeLine_eq]; omega, ys ++ [v], _, _, _, _, _, rfl, ?_, upd_same, by rw [List.length_append, hyl]; rfl, ?_⟩
        · intro b o n eb
          rw [upd_ne n]
          exact s7 _ _ (kb b o n eb)
        · rw [take_snoc gr, List.map_append, List.map_append]
          have fx : Fx H6 (upd H6 L (.lst (ys ++ [v]))) := Fx.upd fun o eo => by
            rw [s7 _ _ hL] at eo
            cases eo
            rfl
          exact DpAll.snoc (DpAll.fx fx (tup_Rl _) (DpAll.same s7 hys)) (Dp.fx fx (tup_R _) ev)
    · rintro σ Ha ⟨ys, z5, z6, z7, z8, z9, rfl, kb, hL, hyl, hys⟩
      rw [hul, List.take_length] at hys
      have s4 := s2.trans (Kb.same_new kb nL)
      refine ⟨_, rfl, sa, C, dx, _, _, rfl, s4 _ _ hs, S.ins.cl, S.nN, sysF_names _ _, ?_⟩
      refine ⟨_, rfl, _, ys, rs.map (scaleR i t u), rfl, SqL.of hL, hys, alike_Rs _, sortable_Rs _, fun b _ => by have := depth_R b; omega, by rw [List.length_map, sizeLine_eq]; omega, fun ws p np dws => ?_⟩
      have s5 := s4.trans (same_new (o := .lst ws) np)
      refine ⟨p, ws, _, rfl, SqL.of upd_same, DpAll.same (same_new np) dws, fun vt H4 s6' et ndt => ?_⟩
      have s6 := s5.trans s6'
      intro x dx2 nx ndx ne
      have s7 : Same H4 (upd (upd H4 dx2 (.own x)) x (.ins C dx2 [])) := (same_new ndx).trans (same_new (by rw [upd_ne (Ne.symm ne)]; exact nx))
      have RO : RowsOk ns.length (srt (rs.map (scaleR i t u))) := srt_map_ok RS (fun r h => scale_ok i ht0 hu0 h) (fun r h => scale_back i ht0 hu0 h)
      refine ⟨x, dx2, vn, vt, ns, srt (rs.map (scaleR i t u)), rfl, upd_same, Dp.same (s6.trans s7) dn, Dp.same s7 et, N, RO, fun H5 kb h5 => ⟨rfl, ?_⟩⟩
      have nof : ∀ b o, H4 b = some o → H5 b = some o := fun b o e => kb b o (fun z => by rw [z, nx] at e; cases e) (s7 b o e)
      exact q H5 _ (s6.trans nof) ⟨x, dx2, vn, vt, rfl, h5, Dp.same (s6.trans nof) dn, Dp.same nof et, NoD.fx nod (fx_same (s6.trans nof))⟩
end
end K5
end

section
set_option Elab.async false
set_option linter.all false
set_option maxRecDepth 100000
set_option maxHeartbeats 4000000
/-! len(set(texts)) of a list of any texts. -/
namespace K5
open PySem PySem.Spec PyProof.Rows L2
/-! ### the unlike ones, by first place -/
def met1 (σ : List Str) (v : Str) : List Str := if σ.any (· == v) then σ else σ ++ [v]
def metS (xs : List Str) : List Str := xs.foldl met1 []
theorem metS_snoc (l : List Str) (v : Str) : metS (l ++ [v]) = met1 (metS l) v := by
  unfold metS
  rw [List.foldl_append]
  rfl
theorem met1_any (σ : List Str) (v k : Str) : (met1 σ v).any (· == k) = (σ.any (· == k) || decide (k = v)) := by
  unfold met1
  by_cases h : σ.any (· == v) = true
  · rw [if_pos h]
    by_cases e : k = v
    · rw [e, h]
      simp
    · simp [e]
  · rw [if_neg h, List.any_append]
    by_cases e : k = v
    · rw [e]
      simp
    · have hb : (v == k) = false := by simpa [beq_iff_eq] using (fun z : v = k => e z.symm)
      simp [hb, e]
theorem met1_len (σ : List Str) (v : Str) : (met1 σ v).length = if σ.any (· == v) then σ.length else σ.length + 1 := by
  unfold met1
  split <;> simp
theorem metS_le : ∀ (n : Nat) (l : List Str), l.length = n → (metS l).length ≤ n
  | 0, l, h => by
    rw [List.eq_nil_of_length_eq_zero h]
    exact Nat.le_refl _
  | n + 1, l, h => by
    obtain ⟨m, v, rfl⟩ : ∃ m v, l = m ++ [v] := ⟨l.dropLast, l.getLast (by intro z; rw [z] at h; cases h), (List.dropLast_concat_getLast _).symm⟩
    rw [List.length_append] at h
    have ih := metS_le n m (Nat.succ.inj h)
    rw [metS_snoc, met1_len]
    split <;> omega
theorem metS_mem : ∀ (n : Nat) (l : List Str) (k : Str), l.length = n → (k ∈ metS l ↔ k ∈ l)
  | 0, l, k, h => by
    rw [List.eq_nil_of_length_eq_zero h]
    exact Iff.rfl
  | n + 1, l, k, h => by
    obtain ⟨m, v, rfl⟩ : ∃ m v, l = m ++ [v] := ⟨l.dropLast, l.getLast (by intro z; rw [z] at h; cases h), (List.dropLast_concat_getLast _).symm⟩
    rw [List.length_append] at h
    have ih := metS_mem n m k (Nat.succ.inj h)
    have ihv := metS_mem n m v (Nat.succ.inj h)
    rw [metS_snoc]
    unfold met1
    split
    · rename_i c
      obtain ⟨y, hy, e⟩ := List.any_eq_true.mp c
      have e' : y = v := eq_of_beq e
      rw [e'] at hy
      constructor
      · exact fun z => List.mem_append_left _ (ih.mp z)
      · intro z
        rcases List.mem_append.mp z with z | z
        · exact ih.mpr z
        · rw [List.mem_singleton.mp z]
          exact hy
    · constructor
      · intro z
        rcases List.mem_append.mp z with z | z
        · exact List.mem_append_left _ (ih.mp z)
        · exact List.mem_append_right _ z
      · intro z
        rcases List.mem_append.mp z with z | z
        · exact List.mem_append_left _ (ih.mpr z)
        · exact List.mem_append_right _ z
theorem metS_nodup : ∀ (n : Nat) (l : List Str), l.length = n → ((metS l).length = n ↔ l.Nodup)
  | 0, l, h => by
    rw [List.eq_nil_of_length_eq_zero h]
    exact ⟨fun _ => List.nodup_nil, fun _ => rfl⟩
  | n + 1, l, h => by
    obtain ⟨m, v, rfl⟩ : ∃ m v, l = m ++ [v] := ⟨l.dropLast, l.getLast (by intro z; rw [z] at h; cases h), (List.dropLast_concat_getLast _).symm⟩
    rw [List.length_append] at h
    have hm : m.length = n := Nat.succ.inj h
    have ih := metS_nodup n m hm
    have le := metS_le n m hm
    have mem := metS_mem n m v hm
    have anyv : (metS m).any (· == v) = decide (v ∈ m) := by
      by_cases c : v ∈ m
      · rw [decide_eq_true c]
        exact List.any_eq_true.mpr ⟨v, mem.mpr c, beq_self_eq_true v⟩
      · rw [decide_eq_false c]
        exact List.any_eq_false.mpr fun y hy e => c (mem.mp (by
          have e' : (y == v) = true := e
          rw [← eq_of_beq e']
          exact hy))
    rw [metS_snoc, met1_len, anyv, List.nodup_append]
    by_cases c : v ∈ m
    · rw [decide_eq_true c, if_pos rfl]
      exact ⟨fun z => absurd z (by omega), fun z => absurd rfl (z.2.2 v c v (List.mem_singleton.mpr rfl))⟩
    · rw [decide_eq_false c, if_neg Bool.false_ne_true]
      refine ⟨fun z => ⟨ih.mp (by omega), by simp, fun a ha b hb e => c ?_⟩, fun z => by have := ih.mpr z.1; omega⟩
      rw [← List.mem_singleton.mp hb, ← e]
      exact ha
end K5
namespace K5S
open PySem PySem.Spec PyProof.Rows SS
section
variable {prog : Program} {w : World} {A : Around} {R : Result → Shared → Prop} {I : Addr} {fp wr : List Addr} {G : Array GenState → Array GenState → Prop} {n : Nat} {P : Nat → Value → Prop} {St : Nat → Shared → Prop}
theorem set_stays {h h' : Heap} {S : Addr} {f : Str → Bool} {m : Nat} (hS : h.SetOf (PySem.strKind prog w) S f m) (k : ∀ o, h.get? S = some o → h'.get? S = some o) : h'.SetOf (PySem.strKind prog w) S f m := by
  obtain ⟨o, es, ep, tb, ho, rest⟩ := hS
  exact ⟨o, es, ep, tb, k o ho, rest⟩
theorem loopT (W : WalksS prog w A.in1 I fp wr G n P St) (S : Addr) (hSf : S ∉ fp) (xs : List Str) (hsz : xs.length = n) (hb : n + 1 < scanBound)
    (hval : ∀ i v, P i v → ∃ t, v = .str (xs.getD i Str.empty) t) :
    ∀ (k i : Nat) (s : Shared), n - i = k → i ≤ n → St i s → s.heap.SetOf (PySem.strKind prog w) S (fun y => (K5.metS (xs.take i)).any (· == y)) (K5.metS (xs.take i)).length →
      (∀ s', Moved (S :: wr) G s s' → s'.heap.SetOf (PySem.strKind prog w) S (fun y => (K5.metS (xs.take n)).any (· == y)) (K5.metS (xs.take n)).length → R (.ok (.ret .none)) s') →
      codeAny (model prog w) A (.builtin "set.update.loop" ⟨[.ref S, .ref I], []⟩) R s := by
  have off : S ∉ wr := fun z => hSf (W.sub _ z)
  have up : ∀ b ∈ wr, b ∈ S :: wr := fun b z => List.mem_cons_of_mem _ z
  intro k
  induction k with
  | zero =>
    intro i s hk hi hst hS hR
    obtain rfl : i = n := by omega
    refine codeAny_builtin PyProof.Rows.F.entry_set_update_loop ?_
    rw [Around.under_plainId PyProof.Rows.F.plain_set_update_loop _]
    refine wpAny_bind (W.done s _ _ hst fun s' hm => ?_)
    exact wpAny_pure (hR s' (hm.mono up) (set_stays hS (hm.heap S · off)))
  | succ k ih =>
    intro i s hk hi hst hS hR
    have hlt : i < n := by omega
    refine codeAny_builtin PyProof.Rows.F.entry_set_update_loop ?_
    rw [Around.under_plainId PyProof.Rows.F.plain_set_update_loop _]
    refine wpAny_bind (W.item i s _ _ hlt hst fun v s' hP hst' hm => ?_)
    obtain ⟨t, rfl⟩ := hval i v hP
    refine wpAny_bind (wpAny_holding ?_)
    unfold setAdd
    refine wpAny_holding (wpAny_bind ((PySem.strKind prog w).pyHash (k := xs.getD i Str.empty) (strKind_is _ _ _ _) ?_))
    have room : (K5.metS (xs.take i)).length + 1 < scanBound := by
      have := K5.metS_le _ (xs.take i) rfl
      rw [List.length_take] at this
      omega
    refine wpAny_setAddHashed_of (knd := PySem.strKind prog w) (s := { s' with toks := s'.toks + 1 }) (strKind_is _ _ _ _) rfl (set_stays hS (hm.heap S · off)) room fun h' hsb hS2 => ?_
    have gx : xs[i]? = some (xs.getD i Str.empty) := by
      have hx : i < xs.length := by omega
      rw [List.getD_eq_getElem?_getD, List.getElem?_eq_getElem hx]
      rfl
    have et : xs.take (i + 1) = xs.take i ++ [xs.getD i Str.empty] := by
      rw [List.take_succ, gx]
      rfl
    have hSi : h'.SetOf (PySem.strKind prog w) S (fun y => (K5.metS (xs.take (i + 1))).any (· == y)) (K5.metS (xs.take (i + 1))).length :=
      SetOf_congr hS2 (fun y => by rw [et, K5.metS_snoc, K5.met1_any]) (by rw [et, K5.metS_snoc, K5.met1_len])
    refine wpAny_pure ⟨plainId_quiet PyProof.Rows.F.plain_set_update_loop _, ih (i + 1) _ (by omega) hlt (W.frame _ s' _ _ hst' (Nat.le_succ _) fun b hb o e => ?_) hSi fun s'' hm'' hS'' => ?_⟩
    · exact (hsb.2 b (fun z => hSf (z ▸ hb))).trans e
    · exact hR s'' (Moved.trans W.gtrans ((hm.mono up).then_heap (Nat.le_succ _) fun b o hb e => (hsb.2 b (fun z => hb (z ▸ List.mem_cons_self))).trans e) hm'') hS''
end
section
variable {prog : Program} {w : World} {A : Around} {E : Value → Shared → Prop} {s : Shared}
def setO (led : Bool) : Obj := { cls := .type "set", dict := none, data := .set #[] 0 (.fresh 0 0 led) }
theorem call_setT {l : Addr} {items : Array Value} {xs : List Str} {Q : Value → Shared → Prop} (hh : A.handled = none) (hl : s.heap.IsList l items) (hi : PyProof.Rows.StrsAre items.toList xs) (hb : xs.length + 1 < scanBound)
    (h : ∀ (h' : Heap) (tk : Nat), h'.SetOf (PySem.strKind prog w) s.heap.objs.size (fun y => (K5.metS xs).any (· == y)) (K5.metS xs).length →
      (∀ b o, b < s.heap.objs.size → s.heap.get? b = some o → h'.get? b = some o) → Q (.ref s.heap.objs.size) { s with heap := h', toks := tk }) :
    wpAny (model prog w) A (call (.type "set") [.ref l]) Q E s := by
  obtain ⟨c, tl, hmro⟩ := PySem.F.called_set.mro
  have hmade := PySem.F.called_set.made
  have hsub := PySem.F.called_set.sub
  refine wpAny_call (codeAny_of_tree ?_)
  show wpAny _ _ (callAny (.type "set") _) _ _ _
  refine wpAny_pure ⟨Code.quiet_builtin _ (by decide +kernel), codeAny_builtin PySem.F.entry_type_call ?_⟩
  rw [Around.under_plain (weight_type_call_type "set" [.ref l] []) rfl]
  have h1 := PySem.F.called_set.notType
  have h2 := PySem.F.called_set.canCreate
  have hct := PySem.F.typeCall_set_1 (.ref l)
  repeat (any_goals (first | assumption | wp_step))
  refine codeAny_mono (code_set_new_1 (.ref l) (E := E) (Q₁ := fun obj s₁ => ∃ led : Bool, obj = .ref s.heap.objs.size ∧ s₁ = { s with heap := s.heap.push (setO led) }) fun led => ⟨led, rfl, rfl⟩) fun r s₁ hr => ?_
  cases r with
  | error e => exact hr
  | ok fl =>
    cases fl with
    | ret obj =>
      obtain ⟨led, rfl, rfl⟩ := hr
      have hS : (s.heap.push (setO led)).get? s.heap.objs.size = some (setO led) := Heap.get?_push_size _ rfl
      have hT : Shared.TypeIs { s with heap := s.heap.push (setO led) } (.ref s.heap.objs.size) "set" := ⟨_, hS, rfl⟩
      have hli := PySem.F.called_set.init.lookup
      have hbi := PySem.F.called_set.init.bind (.ref s.heap.objs.size)
      repeat (any_goals (first | assumption | wp_step))
      refine codeAny_mono (codeAny_call_builtin (R := wants (fun r s₂ => r = .none ∧ ∃ h' tk, s₂ = { s with heap := h', toks := tk } ∧
          h'.SetOf (PySem.strKind prog w) s.heap.objs.size (fun y => (K5.metS xs).any (· == y)) (K5.metS xs).length ∧
          (∀ b o, b < s.heap.objs.size → s.heap.get? b = some o → h'.get? b = some o)) E) PySem.F.called_set.init.plain PySem.F.entry_set_init (check_set_init_1 hT ?_)) fun r₂ s₂ hr₂ => ?_
      · obtain ⟨ol, hol, hcl, nl, hdl⟩ := hl
        obtain ⟨ocls, odict, odata, oslots⟩ := ol
        simp only at hcl hdl
        subst hcl
        subst hdl
        have hol' : (s.heap.push (setO led)).get? l = some { cls := .type "list", dict := odict, data := .seq items nl, slots := oslots } := Heap.get?_push_of_some _ hol
        have hsls := PySem.F.sub_list_set
        have hslf := PySem.F.sub_list_frozenset
        have hne : (Value.type "list" == Value.type "dict") = false := by decide
        have hl1 : (s.heap.push (setO led)).IsList l items := ⟨_, hol', rfl, nl, rfl⟩
        unfold Builtin.«set.__init__» noKeywords Builtin.Frozenset.updateFrom
        generalize hPI : pyIter = PI
        wp_walk
        subst hPI
        refine wpAny_pyIter_list hl1 ?_
        refine wpAny_bind (wpAny_runValue ?_)
        have hlS : l < s.heap.objs.size := Heap.lt_size hol
        have hh3 : A.in1.in1.in1.handled = none := by simp [hh]
        have z1 : (s.heap.push (setO led)).objs.size = s.heap.objs.size + 1 := Heap.size_push ..
        have hneI : l ≠ (s.heap.push (setO led)).objs.size := by
          rw [z1]
          exact Nat.ne_of_lt (Nat.lt_succ_of_lt hlS)
        have hSf : s.heap.objs.size ∉ [(s.heap.push (setO led)).objs.size, l] := by
          rw [z1]
          simp only [List.mem_cons, List.mem_singleton, List.not_mem_nil, or_false, not_or]
          exact ⟨Nat.ne_of_lt (Nat.lt_succ_self _), Nat.ne_of_gt hlS⟩
        have hsz : xs.length = items.size := by rw [← StrsAre.len_eq hi, Array.length_toList]
        have hval : ∀ (i : Nat) (v : Value), items[i]? = some v → ∃ t, v = .str (xs.getD i Str.empty) t := fun i v hv => strs_at hi i v (by rw [Array.getElem?_toList]; exact hv)
        refine loopT ((Walks.list hh3 _ l hneI items).toS) s.heap.objs.size hSf xs hsz (by rw [← hsz]; exact hb) hval (items.size - 0) 0 _ (by omega) (Nat.zero_le _) ⟨⟨_, Heap.get?_push_size _ rfl, rfl, rfl⟩, (hl1.push _)⟩ ?hS0 ?hR
        case hS0 =>
          exact PyProof.Rows.SetOf_congr ((PyProof.Rows.setObjOf_fresh (knd := PySem.strKind prog w) led).setOf (Heap.get?_push_of_some _ hS) (by unfold scanBound; omega)) (fun _ => rfl) rfl
        case hR =>
          intro s' hm hS'
          obtain ⟨h', g', d', tk', os'⟩ := s'
          have eg : g' = s.gens := hm.gens
          have ed : d' = s.drawn := hm.drawn
          have eo : os' = s.os := hm.os
          subst eg
          subst ed
          subst eo
          refine wpAny_pure ?_
          show wpAny _ _ (ret Value.none) _ _ _
          rw [← hsz, List.take_length] at hS'
          refine wpAny_pure ⟨rfl, h', tk', rfl, hS', fun b o hb e => hm.heap b o ?_ (Heap.get?_push_of_some _ (Heap.get?_push_of_some _ e))⟩
          simp only [List.mem_cons, List.mem_singleton, List.not_mem_nil, or_false, not_or]
          refine ⟨Nat.ne_of_lt hb, ?_⟩
          rw [z1]
          exact Nat.ne_of_lt (Nat.lt_succ_of_lt hb)
      · cases r₂ with
        | error e => exact hr₂
        | ok fl₂ =>
          cases fl₂ with
          | ret r =>
            obtain ⟨rfl, h', tk, rfl, hS', hk'⟩ := hr₂
            repeat (any_goals (first | assumption | wp_step))
            exact h _ _ hS' hk'
          | _ => exact hr₂.elim
    | _ => exact hr.elim
end
end K5S
namespace K5
open PySem PySem.Spec PyProof.Rows L2
section
variable {X : Cx}
/-- len(set(texts)) -/
def tLenSetT (K : PySem.W.Frag) (ta : TE) : TE := fun σ H Q => ta σ H fun x H1 => ∃ l, ∃ xs : List Str, x = .ref l ∧ SqL K H1 l (xs.map V.str) ∧ xs.length ≤ 100 ∧ Q (.int (metS xs).length) H1
theorem pe_lenSetT {a : Expr} {ta : TE} {p p2 q pos : Pos} (hc : X.calm = true) (hm : X.mg "len" = none) (hm2 : X.mg "set" = none) (ha : PE X a ta) (hg : Gl X "len" := by rfl) (hg2 : Gl X "set" := by rfl)
    (na : starEach [a] X.env = (false, eval a X.env) :: starEach [] X.env := by rfl) : PE X (.Call (.Name "len" p) [.Call (.Name "set" p2) [a] [] q] [] pos) (tLenSetT X.K ta) := by
  refine ⟨fun pins s σ H Q I h => ?_⟩
  refine Call_ (ld_blt I hg hm boot_len ?_)
  refine PyProof.Rows.callWith_builtin1 (PyProof.Rows.args_cons ?_ rfl) rfl rfl
  refine Call_ (ld_blt I hg2 hm2 boot_set ?_)
  refine PyProof.Rows.callWith_type1 (PyProof.Rows.args_cons (thn (ha.run pins s σ H _ I h) fun v s1 ⟨x, H1, I1, r1, q1⟩ => PyProof.Rows.args_nil ?_) na) na rfl
  obtain ⟨l, xs, rfl, hq, h1, q1⟩ := q1
  cases r1
  obtain ⟨its, r, pl, hz⟩ := I1.list hq
  have le := metS_le _ xs rfl
  refine K5S.call_setT (xs := xs) (I1.ok.hd hc) pl.isList (by simpa using strsAre_of r) (by unfold scanBound; omega) fun h' tk hS hk => ?_
  refine PyProof.Rows.args_nil ?_
  obtain ⟨o, es, ep, t, ho, hex, hd, _, _, _, hf, hn⟩ := hS
  have I2 : Inv X pins σ H1 { s1 with heap := h', toks := tk } := I1.kept fun b o e => hk b o (Heap.lt_size e) e
  exact call_len_set ho hex hd hf (by rw [hn] <;> omega) ⟨.int (metS xs).length, H1, I2.tok _, ⟨_, by rw [hn]⟩, q1⟩
end
end K5
end

section
set_option Elab.async false
set_option linter.all false
set_option maxRecDepth 100000
set_option maxHeartbeats 4000000
/-! Dicts whose keys are texts, numbers and None in one. -/
namespace K5
open PySem PySem.Spec PyProof.Rows L2
def lV : Leaf → V
  | .none => .non
  | .num i => .int i
  | .text x => .str x
def DictR (P : Program) (w : World) (a : Addr) (kvs : List (Leaf × V)) (h : Heap) : Prop := kvs.length ≤ 1000 ∧ (a == sysModules) = false ∧ ∃ vs : List (Leaf × Value), KV kvs vs ∧ h.DictOf (leafKind P w) a vs
def DO (P : Program) (w : World) (a : Addr) (kvs : List (Leaf × V)) : HO := .ext fun h => DictR P w a kvs h
theorem lV_is {P : Program} {w : World} {k : Leaf} {u : Value} (r : RelV (lV k) u) : (leafKind P w).is k u = true := by
  cases k with
  | none => cases (show u = Value.none from r); rfl
  | num i =>
    obtain ⟨t, rfl⟩ := (show ∃ t, u = Value.int i t from r)
    exact decide_eq_true rfl
  | text x =>
    obtain ⟨t, rfl⟩ := (show ∃ t, u = Value.str x t from r)
    show (x == x) = true
    exact beq_self_eq_true x
section
variable {P : Program} {w : World}
theorem do_new {H : Hp} {h : Heap} {a : Addr} {kvs : List (Leaf × V)} (R : DictR P w a kvs h) : ObjOk P w H h a (DO P w a kvs) := by
  refine ⟨R, ?_, fun h1 h2 ⟨z, hs, vs, kv, d⟩ k => ⟨z, hs, vs, kv, d.at k⟩⟩
  obtain ⟨_, _, vs, _, o, _, _, ho, _⟩ := R
  exact ⟨o, ho⟩
end
section
variable {X : Cx} {pins : List (Addr × Obj)} {σ : L2.St} {H : Hp} {s : Shared} {a : Addr} {kvs : List (Leaf × V)}
theorem do_get (I : Inv X pins σ H s) (e : H a = some (DO X.prog X.w a kvs)) : DictR X.prog X.w a kvs s.heap := (I.hok a _ e).1
def tNewL (P : Program) (w : World) : TE := fun _ H Q => ∀ p, H p = none → Q (.ref p) (upd H p (DO P w p []))
theorem pe_dnewL {pos : Pos} : PE X (.Dict [] [] pos) (tNewL X.prog X.w) := ⟨fun pins s σ H Q I h =>
  wpAny_Dict_empty ⟨.ref s.heap.objs.size, _, I.laid (a := s.heap.objs.size) (o := DO X.prog X.w s.heap.objs.size []) (t' := s.toks) (fun _ _ q => Heap.get?_push_of_some _ q) (Nat.le_refl _)
    (do_new ⟨Nat.zero_le _, beq_eq_false_iff_ne.mpr (Ne.symm (Nat.ne_of_lt I.big)), [], .nil, Heap.DictOf.new _⟩), rfl, h _ (I.hok.fresh (Nat.le_refl _))⟩⟩
/-- d[k] -/
def tGetL (P : Program) (w : World) (td ty : TE) : TE := fun σ H Q => td σ H fun x H1 => ty σ H1 fun y H2 => ∃ a kvs k v, x = .ref a ∧ H2 a = some (DO P w a kvs) ∧ y = lV k ∧ valV kvs k = some v ∧ Q v H2
variable {o i e value : Expr} {td ty tv : TE} {pos pos' apos cpos : Pos}
theorem pe_dgetL (ho : PE X o td) (hi : PE X i ty) (hs : NoSl i) : PE X (.Subscript o i pos) (tGetL X.prog X.w td ty) := by
  refine ⟨fun pins s σ H Q I h => ?_⟩
  refine subD_of PySem.F.slot_dict_getitem.lookup hs (thn (ho.run pins s σ H _ I h) fun u s1 ⟨x, H1, I1, rx, q1⟩ => thn (hi.run pins s1 σ H1 _ I1 q1) fun iv s2 ⟨y, H2, I2, ry, a, kvs, k, v, ex, hd, ey, l, q2⟩ => ?_)
  subst ex
  subst ey
  obtain rfl : u = Value.ref a := rx
  obtain ⟨z, hsm, vs, rel, dd⟩ := do_get I2 hd
  obtain ⟨w', hw, rw'⟩ := RelO.some_of (v := v) (o := valueAt vs k) (by rw [← l]; exact rel.val k)
  exact ⟨dd.typeIs, wpAny_getItem_of (lV_is ry) dd.mapOf hw ⟨v, H2, I2.tok _, rw', q2⟩⟩
/-- k in d -/
def rInL (P : Program) (w : World) : R2 := fun y x H Q => ∃ a kvs k, x = .ref a ∧ H a = some (DO P w a kvs) ∧ y = lV k ∧ Q (.bl (valV kvs k).isSome) H
theorem op_inL : OpR X (compareOp .In) (rInL X.prog X.w) := by
  intro pins s σ H y x v u Q I ry rx h
  obtain ⟨a, kvs, k, rfl, hd, rfl, q⟩ := h
  obtain rfl : u = Value.ref a := rx
  obtain ⟨z, hsm, vs, rel, dd⟩ := do_get I hd
  refine wpAny_in_of (lV_is ry) hsm dd.mapOf ?_
  rw [← (rel.val k).isSome_eq]
  exact ⟨.bl _, H, I.tok _, rfl, q⟩
/-- d[k] = v -/
def sPutL (P : Program) (w : World) (td ty tv : TE) : TS := fun D σ H => tv σ H fun v H1 => td σ H1 fun x H2 => ty σ H2 fun y H3 => ∃ a kvs k, x = .ref a ∧ H3 a = some (DO P w a kvs) ∧ y = lV k ∧ kvs.length < 1000 ∧ D.nx σ (upd H3 a (DO P w a (putK kvs k v)))
theorem do_write {h' : Heap} {t' : Nat} {kvs' : List (Leaf × V)} (I : Inv X pins σ H s) (e : H a = some (DO X.prog X.w a kvs)) (hs : Heap.SameBut a s.heap h') (he : ∃ q, h'.get? a = some q) (R : DictR X.prog X.w a kvs' h') :
    Inv X pins σ (upd H a (DO X.prog X.w a kvs')) { s with heap := h', toks := t' } :=
  I.write (x := a) (e := a) (by rw [e]; exact True.intro) (.inl rfl) (fun b q hb z => (hs.2 b hb).trans z) he (do_new R)
theorem le_size {n : Nat} (h : n ≤ 1000) : n ≤ sizeLine := by
  rw [sizeLine_eq]
  omega
theorem ps_dputL (ho : PE X o td) (hi : PE X i ty) (hv : PE X value tv) (hs : swapsWith value (some (.Subscript o i pos')) pos.line X.env = pure false := by rfl) :
    PS X (.Assign [.Subscript o i pos'] value pos) (sPutL X.prog X.w td ty tv) := by
  refine ⟨fun pins s σ H D I h => ?_⟩
  refine wpAny_Assign_Subscript (thn (hv.run pins s σ H _ I h) fun r s1 ⟨v, H1, I1, rv, q1⟩ => thn (ho.run pins s1 σ H1 _ I1 q1) fun u s2 ⟨x, H2, I2, rx, q2⟩ => thn (hi.run pins s2 σ H2 _ I2 q2) fun iv s3 ⟨y, H3, I3, ry, a, kvs, k, ex, hd, ey, hl, q3⟩ => ?_) hs
  subst ex
  subst ey
  obtain rfl : u = Value.ref a := rx
  obtain ⟨z, hsm, vs, rel, dd⟩ := do_get I3 hd
  have hz : vs.length ≤ sizeLine := by
    rw [← rel.length]
    exact le_size z
  refine wpAny_setItem_pairs (hsz := hz) (lV_is ry) dd fun h' dd' hsb => ⟨σ, _, do_write I3 hd hsb (let ⟨q, _, _, hq, _⟩ := dd'; ⟨q, hq⟩) ⟨?_, hsm, _, rel.put k rv, dd'⟩, q3⟩
  have := length_putK kvs k v
  omega
/-- d.pop(k), k a text that is there -/
def tPopL (P : Program) (w : World) (td ty : TE) : TE := fun σ H Q => td σ H fun x H1 => ∃ a kvs, x = .ref a ∧ H1 a = some (DO P w a kvs) ∧ ty σ H1 fun y H2 => ∃ kvs2 k v, H2 a = some (DO P w a kvs2) ∧ y = .str k ∧ valV kvs2 (.text k) = some v ∧ Q v (upd H2 a (DO P w a (dropK kvs2 (.text k))))
theorem pe_dpopL (ho : PE X o td) (he : PE X e ty) (m : M1 X o "pop" apos e cpos) : PE X (.Call (.Attribute o "pop" apos) [e] [] cpos) (tPopL X.prog X.w td ty) := by
  refine ⟨fun pins s σ H Q I h => ?_⟩
  refine wpAny_Call_method m.base m.few m.line PySem.F.plainAttrs_dict PySem.F.slot_dict_pop PySem.F.type_dict_pop (thn (ho.run pins s σ H _ I h) fun u s1 ⟨x, H1, I1, rx, a, kvs, ex, d, q1⟩ => ?_)
  subst ex
  obtain rfl : u = Value.ref a := rx
  obtain ⟨_, _, vs1, _, dd1⟩ := do_get I1 d
  refine ⟨dd1.typeIs, dd1.mapOf.noDict, ?_⟩
  rw [m.trees]
  refine Calls.callWith_builtin rfl (Calls.evalArgs_plain (Calls.spliced_cons (thn (he.run pins s1 σ H1 _ I1 q1) fun iv s2 ⟨y, H2, I2, ry, kvs2, k, v, ea, ey, l, q2⟩ => Calls.spliced_nil ?_)))
  subst ey
  obtain ⟨t, rfl⟩ := (show ∃ t, iv = Value.str k t from ry)
  obtain ⟨z, hsm, vs, rel, dd⟩ := do_get I2 ea
  obtain ⟨w', hw, rw'⟩ := RelO.some_of (v := v) (o := valueAt vs (.text k)) (by rw [← l]; exact rel.val _)
  refine call_meetsIn PySem.F.slot_dict_pop dd.typeIs PySem.F.entry_dict_pop (PySem.F.args_dict_pop_2 _ _) (meets_dict_pop_there (leafKind X.prog X.w) a (k := .text k) (lV_is (k := .text k) ⟨t, rfl⟩) [] (.inl rfl) rfl)
    ⟨vs, w', dd, by rw [← rel.length]; exact le_size z, hw, fun h' dd' hsb => ⟨v, _, do_write I2 ea hsb (let ⟨q, _, _, hq, _⟩ := dd'; ⟨q, hq⟩) ⟨Nat.le_trans (dropK_le _ _) z, hsm, _, rel.drop _, dd'⟩, rw', q2⟩⟩
end

/-! ### dict(list(d.items())), d != e -/
section
def pairAt_ (h : Heap) (a : Addr) : Value × Value := match h.get? a with
  | some ⟨_, _, .seq arr _, _⟩ => (arr.getD 0 .none, arr.getD 1 .none)
  | _ => (.none, .none)
theorem pairAt_is {h : Heap} {a : Addr} {k x : Value} (e : h.get? a = some { cls := .type "tuple", data := .seq #[k, x] }) : pairAt_ h a = (k, x) := by
  unfold pairAt_
  rw [e]
  rfl
def tCopyL (P : Program) (w : World) (te : TE) : TE := fun σ H Q => te σ H fun x H1 => ∃ d kvs, x = .ref d ∧ H1 d = some (DO P w d kvs) ∧ ∀ p, H1 p = none → Q (.ref p) (upd H1 p (DO P w p kvs))
variable {X : Cx} {e : Expr} {te : TE} {p p2 apos cpos pos pos2 : Pos}
theorem pe_copyL (hc : X.calm = true) (he : PE X e te) (hm : X.mg "list" = none) (hm2 : X.mg "dict" = none) (hg : Gl X "list" := by rfl) (hg2 : Gl X "dict" := by rfl) (hbase : attributeBase e "items" X.env (eval e X.env) = eval e X.env := by rfl) (hline : (apos.endLine == cpos.line) = true := by rfl)
    (hs : starEach [.Call (.Attribute e "items" apos) [] [] cpos] X.env = (false, eval (.Call (.Attribute e "items" apos) [] [] cpos) X.env) :: starEach [] X.env := by rfl)
    (hs2 : starEach [.Call (.Name "list" p) [.Call (.Attribute e "items" apos) [] [] cpos] [] pos] X.env = (false, eval (.Call (.Name "list" p) [.Call (.Attribute e "items" apos) [] [] cpos] [] pos) X.env) :: starEach [] X.env := by rfl) :
    PE X (.Call (.Name "dict" p2) [.Call (.Name "list" p) [.Call (.Attribute e "items" apos) [] [] cpos] [] pos] [] pos2) (tCopyL X.prog X.w te) := by
  refine ⟨fun pins s σ H Q I hq => ?_⟩
  refine wpAny_Call_Name_kw (ld_blt I hg2 hm2 b_dict ?_ (by decide +kernel) (by decide +kernel))
  refine PyProof.Rows.callWith_type1 ?_ hs2 rfl
  rw [hs2]
  show wpAny _ _ (spliced ((false, eval (.Call (.Name "list" p) [.Call (.Attribute e "items" apos) [] [] cpos] [] pos) X.env) :: backTo pos2 (starEach [] X.env))) _ _ s
  refine Calls.spliced_cons ?_
  refine wpAny_Call_Name_kw (ld_blt I hg hm b_list ?_ (by decide +kernel) (by decide +kernel))
  refine PyProof.Rows.callWith_type1 ?_ hs rfl
  rw [hs]
  show wpAny _ _ (spliced ((false, eval (.Call (.Attribute e "items" apos) [] [] cpos) X.env) :: backTo pos (starEach [] X.env))) _ _ s
  refine Calls.spliced_cons ?_
  refine wpAny_Call_method (T := "dict") (id := "dict.items") hbase rfl hline PySem.F.plainAttrs_dict PySem.F.slot_dict_items PySem.F.type_dict_items (thn (he.run pins s σ H _ I hq) fun u s1 ⟨x, H1, I1, rx, d, kvs, ex, hd, q⟩ => ?_)
  subst ex
  obtain rfl : u = Value.ref d := rx
  obtain ⟨hz, hs0, vs, kv, hdo⟩ := do_get I1 hd
  obtain ⟨ep, hat⟩ := hdo.dictAt
  have lk : kvs.length = vs.length := Paired.length kv
  have hvz : vs.length ≤ sizeLine := by
    rw [← lk]
    exact le_size hz
  have nd : (vs.map (·.1)).Nodup := by
    obtain ⟨o, _, ho⟩ := Heap.dictOf_iff.mp hdo
    exact PyProof.Rows.keysNodup_of_isDictOf ho
  refine ⟨hdo.typeIs, hdo.mapOf.noDict, ?_⟩
  show wpAny _ _ (callWith cpos (.builtin "dict.items") [.ref d] [] []) _ X.xe s1
  refine method_meetsIn PySem.F.slot_dict_items PySem.F.entry_dict_items rfl (PySem.evalArgs_none ⟨rfl, hdo.typeIs, PySem.F.args_dict_items_1 _, _, meets_dict_items (leafKind X.prog X.w) d hs0, ⟨vs, hdo⟩, ?_⟩)
  refine Calls.spliced_nil ?_
  refine PySem.W.kdx_call (knd := leafKind X.prog X.w) (kvs := vs) (ep := ep) (I1.ok.hd hc) ⟨_, Heap.get?_push_size _ rfl, rfl, rfl⟩ (hat.push _) hvz fun h' tk acc c as hk hS hl hG hacc => ?_
  refine Calls.spliced_nil ?_
  have I2 : Inv X pins σ H1 { s1 with heap := h', toks := tk } := I1.kept fun b ob q => hk b ob (Heap.get?_push_of_some _ q)
  have items : PairItems h' acc (fun j => as.getD j 0) (as.map (pairAt_ h')) := by
    refine ⟨by rw [← Array.length_toList, hacc, List.length_map, List.length_map], fun j k v hj => ?_⟩
    obtain ⟨b, gb, eb⟩ := map_get hj
    obtain ⟨key, k', x, f1, f2, f3⟩ := hG.pairs j b gb
    rw [pairAt_is f3] at eb
    cases eb
    have ej : as.getD j 0 = b := by
      rw [List.getD_eq_getElem?_getD, gb]
      rfl
    refine ⟨?_, .inl ⟨_, show h'.get? (as.getD j 0) = _ from ej ▸ f3, rfl, _, rfl⟩⟩
    show acc[j]? = some (.ref (as.getD j 0))
    rw [← Array.getElem?_toList, hacc, List.getElem?_map, gb, ej]
    rfl
  have hv : PairsHave (leafKind X.prog X.w) (as.map (pairAt_ h')).length (PairRel (as.map (pairAt_ h'))) vs := by
    refine ⟨by rw [List.length_map, hl], fun i key v hi => ?_⟩
    obtain ⟨b, gb, eb⟩ := map_get hi
    obtain ⟨key', k', x, f1, f2, f3⟩ := hG.pairs i b gb
    rw [pairAt_is f3] at eb
    cases eb
    exact ⟨k', f1, f2⟩
  refine PySem.call_dict_pairs (s := { s1 with heap := h', toks := tk }) (PairArg.list _ acc _ _) (I1.ok.hd hc) ⟨⟨_, _, hS, rfl, rfl, rfl⟩, items⟩ hv (by rw [List.length_map, hl]; exact hvz) fun h2 tk2 hd2 hk2 => ?_
  rw [merged_nil_of_nodup vs nd] at hd2
  have fr : H1 h'.objs.size = none := I2.hok.fresh (Nat.le_refl _)
  exact ⟨.ref h'.objs.size, upd H1 h'.objs.size (DO X.prog X.w h'.objs.size kvs), I2.laid (t' := tk2) (fun b o eb => hk2 b o (fun z => nomatch z) eb) (Nat.le_refl _) (do_new ⟨hz, beq_eq_false_iff_ne.mpr (Ne.symm (Nat.ne_of_lt I2.big)), vs, kv, hd2⟩), rfl, q _ fr⟩
theorem valV_mem {kvs : List (Leaf × V)} (nd : (kvs.map (·.1)).Nodup) {k : Leaf} {x : V} (h : (k, x) ∈ kvs) : valV kvs k = some x := by
  induction kvs with
  | nil => cases h
  | cons p r ih =>
    rw [List.map_cons, List.nodup_cons] at nd
    rcases List.mem_cons.mp h with e | h
    · rw [← e]
      exact valV_pos rfl
    · rw [valV_neg (fun z => nd.1 (List.mem_map.mpr ⟨_, h, z.symm⟩))]
      exact ih nd.2 h
/-- flat, or an object -/
def FR (x : V) : Prop := flatV x = true ∨ ∃ a, x = .ref a
theorem eq_same {A : Around} {s : Shared} {x : V} {u v : Value} (f : FR x) (ru : RelV x u) (rv : RelV x v) : SeqAt.EqAt A s u v true := by
  rcases f with f | ⟨a, rfl⟩
  · refine (eqAt_V ru rv f f).cast ?_
    cases x with
    | non => rfl
    | bl b => exact beq_self_eq_true b
    | int i => exact beq_self_eq_true i
    | str z => exact beq_self_eq_true z
    | _ => cases f
  · obtain rfl : u = Value.ref a := ru
    obtain rfl : v = Value.ref a := rv
    exact SeqAt.EqAt.same _
theorem hits_of {A : Around} {s : Shared} {kvs : List (Leaf × V)} {vb : List (Leaf × Value)} (rb : KV kvs vb) (nd : (kvs.map (·.1)).Nodup) (hf : ∀ q ∈ kvs, FR q.2) :
    ∀ {r : List (Leaf × V)} {va : List (Leaf × Value)}, KV r va → (∀ q ∈ r, q ∈ kvs) → PySem.W.KeqHits A s vb va true
  | [], _, .nil, _ => .nil
  | q :: r, _, .cons (b := b) h t, sub => by
    obtain ⟨k, x⟩ := q
    obtain ⟨k', v⟩ := b
    obtain ⟨e, rv⟩ := h
    have e' : k = k' := e
    subst e'
    have hm := sub _ List.mem_cons_self
    obtain ⟨y, hy, ry⟩ := RelO.some_of (v := x) (o := valueAt vb k) (by rw [← valV_mem nd hm]; exact rb.val k)
    exact .hit (e := true) (b := true) hy (eq_same (hf _ hm) rv ry) (hits_of rb nd hf t fun q hq => sub q (List.mem_cons_of_mem _ hq))
def rNeL (P : Program) (w : World) : R2 := fun x y H Q => ∃ a b kvs, x = .ref a ∧ y = .ref b ∧ H a = some (DO P w a kvs) ∧ H b = some (DO P w b kvs) ∧ (∀ q ∈ kvs, FR q.2) ∧ Q (.bl false) H
theorem op_neL (hu : X.A.units < cLine) : OpR X (compareOp .NotEq) (rNeL X.prog X.w) := by
  intro pins s σ H x y v u Q I rx ry h
  obtain ⟨a, b, kvs, rfl, rfl, ha, hb, hf, q⟩ := h
  obtain rfl : v = Value.ref a := rx
  obtain rfl : u = Value.ref b := ry
  obtain ⟨_, sa, va, ra, da⟩ := do_get I ha
  obtain ⟨_, sb, vb, rb, db⟩ := do_get I hb
  have nd : (kvs.map (·.1)).Nodup := by
    obtain ⟨o, _, ho⟩ := Heap.dictOf_iff.mp db
    rw [rb.keys]
    exact PyProof.Rows.keysNodup_of_isDictOf ho
  refine PySem.W.keq_ne (r := true) sa sb da db hu (fun _ => hits_of rb nd hf ra fun q hq => hq) ?_
  rw [← ra.length, ← rb.length, beq_self_eq_true]
  exact ⟨.bl false, H, I, rfl, q⟩
end
end K5
end

section
set_option Elab.async false
set_option linter.all false
set_option maxHeartbeats 4000000
/-! Renaming: plain laws. -/
namespace K5
open PySem PySem.Spec PyProof.Rows L2
def permR (o : List Nat) (r : Row) : Row := (o.map fun k => r.1.getD k 0, r.2)
def ordN (new : List Str) : List Nat := (srtN new).map fun x => new.idxOf x
theorem idx_at {α : Type} [BEq α] [LawfulBEq α] {l : List α} (nd : l.Nodup) {k : Nat} {x : α} (h : l[k]? = some x) : l.idxOf x = k := by
  obtain ⟨hk, e⟩ := List.getElem?_eq_some_iff.mp h
  have hx : x ∈ l := List.mem_of_getElem? h
  have hi : l.idxOf x < l.length := List.idxOf_lt_length_iff.mpr hx
  have e2 : l[l.idxOf x]? = some x := by
    rw [List.getElem?_eq_getElem hi, List.getElem_idxOf]
  exact (List.getElem?_inj hi nd).mp (e2.trans h.symm)
theorem idx_get {α : Type} [BEq α] [LawfulBEq α] {l : List α} {x : α} (h : x ∈ l) : l[l.idxOf x]? = some x := by
  have hi : l.idxOf x < l.length := List.idxOf_lt_length_iff.mpr h
  rw [List.getElem?_eq_getElem hi, List.getElem_idxOf]
theorem map_idx {l : List Str} (nd : l.Nodup) : l.map (fun x => l.idxOf x) = List.range l.length := by
  refine List.ext_getElem? fun i => ?_
  rw [List.getElem?_map]
  by_cases h : i < l.length
  · rw [List.getElem?_eq_getElem h, List.getElem?_range h]
    exact congrArg some (idx_at nd (List.getElem?_eq_getElem h))
  · rw [List.getElem?_eq_none (by omega), List.getElem?_eq_none (by rw [List.length_range]; omega)]
    rfl
theorem ord_perm {l : List Str} (nd : l.Nodup) : (ordN l).Perm (List.range l.length) := by
  rw [← map_idx nd]
  exact (srtN_perm l).map _
theorem ord_len (l : List Str) : (ordN l).length = l.length := by
  unfold ordN
  rw [List.length_map, (srtN_perm l).length_eq]
theorem ord_lt {l : List Str} {k : Nat} (h : k ∈ ordN l) : k < l.length := by
  obtain ⟨x, hx, rfl⟩ := List.mem_map.mp h
  exact List.idxOf_lt_length_iff.mpr ((srtN_perm l).mem_iff.mp hx)
theorem range_get (c : List Int) : (List.range c.length).map (fun k => c.getD k 0) = c := by
  refine List.ext_getElem? fun i => ?_
  rw [List.getElem?_map]
  by_cases h : i < c.length
  · rw [List.getElem?_range h, List.getElem?_eq_getElem h]
    show some (c.getD i 0) = _
    rw [List.getD_eq_getElem?_getD, List.getElem?_eq_getElem h]
    rfl
  · rw [List.getElem?_eq_none (by rw [List.length_range]; omega), List.getElem?_eq_none (by omega)]
    rfl
theorem perm_perm {l : List Str} {r : Row} (nd : l.Nodup) (h : r.1.length = l.length) : (permR (ordN l) r).1.Perm r.1 := by
  have p := (ord_perm nd).map fun k => r.1.getD k 0
  rw [← h, range_get] at p
  exact p
theorem perm_ok {l : List Str} {r : Row} (nd : l.Nodup) (h : RowOk l.length r) : RowOk (srtN l).length (permR (ordN l) r) := by
  have p := perm_perm nd h.len
  refine ⟨?_, ?_, ?_⟩
  · rw [(srtN_perm l).length_eq, p.length_eq]
    exact h.len
  · obtain ⟨x, hx, hn⟩ := h.nz
    exact ⟨x, p.mem_iff.mpr hx, hn⟩
  · have e : gcdL (ents (permR (ordN l) r)) = gcdL (ents r) := gcdL_perm (p.append_right [r.2])
    rw [e]
    exact h.one
theorem getD_map {o : List Nat} {f : Nat → Int} {j : Nat} (h : j < o.length) : (o.map f).getD j 0 = f (o.getD j 0) := by
  rw [List.getD_eq_getElem?_getD, List.getElem?_map, List.getElem?_eq_getElem h, List.getD_eq_getElem?_getD, List.getElem?_eq_getElem h]
  rfl
def invN (o : List Nat) : List Nat := (List.range o.length).map fun k => o.idxOf k
theorem perm_back {o : List Nat} {r : Row} (p : o.Perm (List.range r.1.length)) : permR (invN o) (permR o r) = r := by
  have hl : o.length = r.1.length := by rw [p.length_eq, List.length_range]
  refine Prod.ext ?_ rfl
  show (invN o).map (fun k => (permR o r).1.getD k 0) = r.1
  unfold invN
  rw [List.map_map, hl]
  refine Eq.trans (List.map_congr_left fun k hk => ?_) (range_get r.1)
  have ko : k ∈ o := p.mem_iff.mpr hk
  have hi : o.idxOf k < o.length := List.idxOf_lt_length_iff.mpr ko
  show (o.map fun k => r.1.getD k 0).getD (o.idxOf k) 0 = r.1.getD k 0
  rw [getD_map hi, List.getD_eq_getElem?_getD (l := o), idx_get ko]
  rfl
theorem perm_inv {l : List Str} {r : Row} (nd : l.Nodup) (h : RowOk l.length r) : permR (invN (ordN l)) (permR (ordN l) r) = r := perm_back (by rw [h.len]; exact ord_perm nd)
theorem perm_rows {l : List Str} {rs : List Row} (nd : l.Nodup) (h : RowsOk l.length rs) : RowsOk (srtN l).length (srt (rs.map (permR (ordN l)))) := srt_map_ok h (fun r k => perm_ok nd k) (fun r k => perm_inv nd k)
theorem strLt_of {x y : Str} (h : strLe x y = true) (n : x ≠ y) : strLt x y := by
  unfold strLt
  refine Classical.byContradiction fun z => n (strLe_anti h ?_)
  rw [strLe_eq]
  exact decide_eq_true (List.not_lt.mp z)
theorem srtN_ok {l : List Str} (h1 : 1 ≤ l.length) (h6 : l.length ≤ 6) (ok : ∀ x ∈ l, nameB x = true) (nd : l.Nodup) : NamesOk (srtN l) := by
  have p := srtN_perm l
  refine ⟨by rw [p.length_eq]; exact h1, by rw [p.length_eq]; exact h6, fun x hx => ok x (p.mem_iff.mp hx), ?_⟩
  exact ((srtN_up l).and (p.nodup_iff.mpr nd)).imp fun {a b} ⟨h, n⟩ => strLt_of h n
theorem strLt_le {x y : Str} (h : strLt x y) : strLe x y = true := by
  rw [strLe_eq]
  exact decide_eq_true (List.le_of_lt h)
theorem srtN_of {ns : List Str} (h : ns.Pairwise strLt) : srtN ns = ns := List.Perm.eq_of_pairwise (fun a b _ _ h1 h2 => strLe_anti h1 h2) (srtN_up ns) (h.imp strLt_le) (srtN_perm ns)
/-- the way back: the new names, sorted, told as the old ones -/
def backN (ns l : List Str) : List Str := (ordN l).map fun k => ns.getD k Str.empty
theorem rangeS (ns : List Str) : (List.range ns.length).map (fun k => ns.getD k Str.empty) = ns := by
  refine List.ext_getElem? fun i => ?_
  rw [List.getElem?_map]
  by_cases h : i < ns.length
  · rw [List.getElem?_range h, List.getElem?_eq_getElem h]
    show some (ns.getD i Str.empty) = _
    rw [List.getD_eq_getElem?_getD, List.getElem?_eq_getElem h]
    rfl
  · rw [List.getElem?_eq_none (by rw [List.length_range]; omega), List.getElem?_eq_none (by omega)]
    rfl
theorem back_perm {ns l : List Str} (nd : l.Nodup) (hl : ns.length = l.length) : (backN ns l).Perm ns := by
  have p := (ord_perm nd).map fun k => ns.getD k Str.empty
  rw [← hl, rangeS] at p
  exact p
theorem back_srt {ns l : List Str} (N : ns.Pairwise strLt) (nd : l.Nodup) (hl : ns.length = l.length) : srtN (backN ns l) = ns := (srtN_eq (back_perm nd hl)).trans (srtN_of N)
theorem nodup_up {ns : List Str} (h : ns.Pairwise strLt) : ns.Nodup := h.imp fun {a b} k e => by
  rw [e] at k
  exact List.lt_irrefl _ k
theorem back_ord {ns l : List Str} (N : ns.Pairwise strLt) (nd : l.Nodup) (hl : ns.length = l.length) : ordN (backN ns l) = invN (ordN l) := by
  unfold ordN
  rw [back_srt N nd hl]
  show ns.map (fun x => (backN ns l).idxOf x) = invN (ordN l)
  unfold invN
  rw [ord_len, ← hl]
  refine List.ext_getElem? fun i => ?_
  rw [List.getElem?_map, List.getElem?_map]
  by_cases h : i < ns.length
  · rw [List.getElem?_range h, List.getElem?_eq_getElem h]
    refine congrArg some ?_
    have bn : (backN ns l).Nodup := (back_perm nd hl).nodup_iff.mpr (nodup_up N)
    have io : i ∈ ordN l := (ord_perm nd).mem_iff.mpr (List.mem_range.mpr (by omega))
    refine idx_at bn ?_
    unfold backN
    rw [List.getElem?_map, idx_get io]
    show some (ns.getD i Str.empty) = some ns[i]
    rw [List.getD_eq_getElem?_getD, List.getElem?_eq_getElem h]
    rfl
  · rw [List.getElem?_eq_none (by omega), List.getElem?_eq_none (by rw [List.length_range]; omega)]
    rfl
theorem back_rows {ns l : List Str} {rs : List Row} (N : ns.Pairwise strLt) (nd : l.Nodup) (hl : ns.length = l.length) (h : RowsOk ns.length rs) :
    srt ((srt (rs.map (permR (ordN l)))).map (permR (ordN (backN ns l)))) = rs := by
  rw [back_ord N nd hl]
  rw [hl] at h
  exact srt_back h fun r k => perm_inv nd k
end K5
end

section
set_option Elab.async false
set_option linter.all false
set_option maxRecDepth 100000
set_option maxHeartbeats 4000000
/-! renamed -/
namespace K5
open PySem PySem.Spec PyProof.Rows L2
section
variable {P : Program} {w : World} {K : PySem.W.Frag} {mg : Str → Option Value} {base : Heap} {C fI fE CR fR CN fN : Addr}
def NamesFor (K : PySem.W.Frag) (H : Hp) (ns : List Str) (kvs : List (Leaf × V)) (bad : Prop) (good : List Str → Prop) : Prop :=
  ∃ us ds, us = ns.filterMap (fun x => valV kvs (.text x)) ∧ Paired (fun u d => Av K H u d ∧ ∀ x, d = .str x → x.length ≤ sizeLine) us ds ∧
    (((us.length < ns.length ∨ ds.all nameD = false ∨ ∃ l : List Str, ds = l.map PyData.str ∧ ¬ l.Nodup) ∧ bad) ∨
     ∃ l : List Str, us.length = ns.length ∧ ds = l.map PyData.str ∧ (∀ x ∈ l, nameB x = true) ∧ l.Nodup ∧ good l)
def spRenamed (P : Program) (w : World) (K : PySem.W.Frag) (C CR : Addr) : Sp := fun vs H Q E => ∃ v a ns rs kvs, vs = [v, .ref a] ∧ SysAt K C H v ns rs ∧ NamesOk ns ∧ RowsOk ns.length rs ∧ H a = some (DO P w a kvs) ∧
  NamesFor K H ns kvs (OutW H E CR "names") fun l => ∀ H1 v1, Same H H1 → SysAt K C H1 v1 (srtN l) (srt (rs.map (permR (ordN l)))) → Q v1 H1
theorem scRenamed : FnScope ["system", "names", "told", "order", "rows", "name", "at", "coefficients", "bound"] ["system", "names"] (defScope sRenamed) := ⟨rfl, rfl, rfl, by decide +kernel, rfl, by decide +kernel, by decide +kernel⟩
theorem alike_strs (l : List Str) : PySem.W.AllAlike (l.map PyData.str) := fun x hx y hy => by
  obtain ⟨r, _, rfl⟩ := List.mem_map.mp hx
  obtain ⟨s, _, rfl⟩ := List.mem_map.mp hy
  rw [PySem.W.alike]
theorem sortable_strs (l : List Str) : PySem.W.Sortable (l.map PyData.str) := .inr fun d hd => by
  obtain ⟨r, _, rfl⟩ := List.mem_map.mp hd
  exact ⟨fun z => PyData.noConfusion z, fun _ z => PyData.noConfusion z⟩
theorem Av.str {H : Hp} {v : V} {x : Str} (h : Av K H v (.str x)) : v = .str x := by
  rcases h with ⟨_, h⟩ | ⟨e, _⟩ | ⟨e, _⟩
  · exact Dp.str_inv h
  · cases e
  · cases e
theorem names_all : ∀ {ds : List PyData}, ds.all nameD = true → ∃ l : List Str, ds = l.map PyData.str ∧ ∀ x ∈ l, nameB x = true
  | [], _ => ⟨[], rfl, fun x h => nomatch h⟩
  | d :: ds, h => by
    rw [List.all_cons, Bool.and_eq_true] at h
    obtain ⟨l, e, hl⟩ := names_all h.2
    obtain ⟨x, rfl⟩ : ∃ x, d = .str x := by
      have hd := h.1
      cases d with
      | str x => exact ⟨x, rfl⟩
      | _ => cases hd
    refine ⟨x :: l, by rw [e]; rfl, fun y hy => ?_⟩
    rcases List.mem_cons.mp hy with z | z
    · rw [z]
      exact h.1
    · exact hl y z
theorem told_strs {H : Hp} : ∀ {l : List Str} {us : List V}, Paired (fun u d => Av K H u d ∧ ∀ x, d = .str x → x.length ≤ sizeLine) us (l.map PyData.str) → us = l.map V.str
  | [], _, h => by
    cases h
    rfl
  | x :: l, _, h => by
    cases h with
    | cons h1 h2 =>
      rw [Av.str h1.1, told_strs h2]
      rfl
theorem str_inj {l m : List Str} (h : l.map PyData.str = m.map PyData.str) : l = m := List.map_inj_right (fun x y e => by injection e) |>.mp h
theorem ok_renamed (B : Bl mg) (S : SysT K mg C fI fE) (T : PySem.SupX.SupTxt P K mg "Refused" CR fR) (D : Def K mg "renamed" sRenamed ["system", "names"]) (OC : Ok P w K mg base CX0 4 "check_system" sChk ["names", "rows"] (spChk K))
    (ON : Ok P w K mg base CX0 1 "is_name" sIsName ["value"] (spIsName K)) :
    Ok P w K mg base (L2.CX P w) 7 "renamed" sRenamed ["system", "names"] (spRenamed P w K C CR) := by
  obtain ⟨fdI, FI, bI⟩ := S.fI
  refine .of D fun f fd F => F.okX scRenamed (fun vs H Q E h => ?_) (fun cdv A outer s H vs Q E hr h => ?_)
  · obtain ⟨v, d, _, _, _, rfl, _⟩ := h
    rfl
  · obtain ⟨v, da, ns, rs, kvs, rfl, ⟨sa, dx, vn, vr, rfl, hs, dn, dr, nod⟩, N, RS, hd, us, ds, eus, pud, q⟩ := h
    refine ⟨_, pss_cons (ps_set (i := 2) scRenamed.nd rfl (Or.inr rfl) (pe_lc (own := [("name", 5)]) (g := gName 5) (tt := tTest (tOp (rInL P w) (tVar 5) (tVar 1))) (te := tGetL P w (tVar 1) (tVar 5)) rfl scRenamed.nd (pi_tup (pe_fld (pv 0) rfl)) (blkOk_by (N := ["system", "names", "told", "order", "rows", "name", "at", "coefficients", "bound"]) (sc := defScope sRenamed) (by decide +kernel))
          (fun _ _ _ _ _ => pg_name (i := 5) scRenamed.nd rfl (Or.inl rfl)) (fun _ _ _ _ _ => pts_one (pt_cmpR op_inL (pv 5) (pv 1) rfl)) (fun _ _ _ _ _ => pe_dgetL (pv 1) (pv 5) (fun _ _ => rfl))))
      (pss_cons (ps_if (PW.pt (pw_or (pt_cmpR op_lt (pe_b (f := "len") call_len_seq B.len b_len (pa_cons (pv 2) pa_nil)) (pe_b (f := "len") call_len_seq B.len b_len (pa_cons (pe_fld (pv 0) rfl) pa_nil)) (nomark _))
        (pw_or (pt_not (pt_val (pe_b (f := "all") (cr_all rfl) B.all b_all (pa_cons (pe_lc (own := [("name", 5)]) (g := gName 5) (tt := tYes) rfl scRenamed.nd (pi_list (pv 2)) (blkOk_by (N := ["system", "names", "told", "order", "rows", "name", "at", "coefficients", "bound"]) (sc := defScope sRenamed) (by decide +kernel))
          (fun _ _ _ _ _ => pg_name (i := 5) scRenamed.nd rfl (Or.inl rfl)) (fun _ _ _ _ _ => pts_nil) (fun _ _ _ _ _ => pe_c ON (hr.mono (by decide)) (pa_cons (pv 5) pa_nil))) pa_nil))))
        (pw_or1 (pt_cmpR op_lt (pe_lenSetT rfl B.len B.set (pv 2)) (pe_b (f := "len") call_len_seq B.len b_len (pa_cons (pv 2) pa_nil)) (nomark _)))))) (pss_one (ps_raiseW rfl T hr (by decide) (takes_of rfl rfl rfl rfl))) pss_nil)
      (pss_cons (ps_set (i := 3) scRenamed.nd rfl (Or.inr rfl) (pe_lc (own := [("name", 5)]) (g := gName 5) (tt := tYes) (te := tBM K "list" (rIndex K) (tVar 2) (tCons (tVar 5) tNil)) rfl scRenamed.nd (pi_list (pe_b (f := "sorted") (cr_sortedD PyData.str hr.units) B.sorted b_sorted (pa_cons (pv 2) pa_nil))) (blkOk_by (N := ["system", "names", "told", "order", "rows", "name", "at", "coefficients", "bound"]) (sc := defScope sRenamed) (by decide +kernel))
          (fun _ _ _ _ _ => pg_name (i := 5) scRenamed.nd rfl (Or.inl rfl)) (fun _ _ _ _ _ => pts_nil) (fun _ _ _ _ _ => pe_bm PySem.F.plainAttrs_list PySem.F.slot_list_index PySem.F.type_list_index (r := rIndex K) mt_index (pv 2) (pa_cons (pv 5) pa_nil))))
      (pss_cons (ps_setLc (i := 4) (own := [("coefficients", 7), ("bound", 8)]) (g := gTup K 2 (gCons (gName 7) (gCons (gName 8) gNil))) (tt := tYes) (te := tTup (tCons (tCB (rTupD K) (tCons (tLc (iList K (tVar 3)) (gName 6) tYes (tOp (rIxT K) (tVar 7) (tVar 6)) [6]) tNil)) (tCons (tVar 8) tNil))) rfl scRenamed.nd rfl rfl (sw_true rfl rfl rfl (by decide +kernel)) (pi_tup (pe_fld (pv 0) rfl)) (blkOk_by (N := ["system", "names", "told", "order", "rows", "name", "at", "coefficients", "bound"]) (sc := defScope sRenamed) (by decide +kernel))
          (fun _ _ _ _ _ => pg_tup rfl (pgs_cons (pg_name (i := 7) scRenamed.nd rfl (.inr rfl)) (pgs_cons (pg_name (i := 8) scRenamed.nd rfl (.inl rfl)) pgs_nil))) (fun _ _ _ _ _ => pts_nil)
          (fun _ _ _ _ _ => pe_tup (pa_cons (pe_t (f := "tuple") (r := rTupD K) call_tupD B.tuple b_tuple (pa_cons (pe_lc (own := [("at", 6)]) (g := gName 6) (tt := tYes) rfl scRenamed.nd (pi_list (pv 3)) (blkOk_by (by kernel_rfl))
              (fun _ _ _ _ _ => pg_name (i := 6) scRenamed.nd rfl (Or.inl rfl)) (fun _ _ _ _ _ => pts_nil) (fun _ _ _ _ _ => pe_ix (r := rIxT K) ix_tup (pv 7) (pv 6) (fun _ _ => rfl))) pa_nil)) (pa_cons (pv 8) pa_nil))))
      (pss_one (ps_ret (pe_make S.maker (ok_sysI S FI OC) hr rfl S.mgC bI .nil pass0 (pa_cons (pe_t (f := "tuple") call_tupD B.tuple b_tuple (pa_cons (pe_b (f := "sorted") (cr_sortedD PyData.str hr.units) B.sorted b_sorted (pa_cons (pv 2) pa_nil)) pa_nil))
        (pa_cons (pe_t (f := "tuple") call_tupD B.tuple b_tuple (pa_cons (pe_b (f := "sorted") (cr_sortedD encR hr.units) B.sorted b_sorted (pa_cons (pv 4) pa_nil)) pa_nil)) pa_nil)))))))), ?_⟩
    obtain ⟨an, rfl, hn⟩ := Dp.N_inv dn
    obtain ⟨ar, rws, rfl, hR, ha⟩ := Dp.tup_inv dr
    have hul := DpAll.length ha
    rw [List.length_map] at hul
    have h6 := N.six
    have h1' := N.one
    have h60 := RS.most
    have ulen : us.length ≤ ns.length := by
      rw [eus]
      exact List.length_filterMap_le _ _
    have plen : us.length = ds.length := Paired.length pud
    refine ⟨_, rfl, sa, C, dx, _, _, rfl, hs, S.ins.cl, S.nN, sysF_names _ _, an, rfl, ⟨_, hn⟩, fun D1 n1 => lc_tup (K := K) (a := an) (xs := ns.map V.str) (fun i H' => Kb D1 H H' ∧ H' D1 = some (.lst ((ns.take i).filterMap (fun x => valV kvs (.text x))))) ⟨Kb.put, upd_same⟩
      (fun i H' _ ⟨kb, _⟩ => SqT.fx (fx_same (Kb.same_new kb n1)) hn) ?_ ?_⟩
    · rintro i y Ha hx ⟨kb, hD⟩
      obtain ⟨x, gx, rfl⟩ := map_get hx
      have s1 := Kb.same_new kb n1
      have hi := (List.getElem?_eq_some_iff.mp gx).1
      have le := List.length_filterMap_le (fun x => valV kvs (.text x)) (ns.take i)
      rw [List.length_take] at le
      cases e : valV kvs (.text x) with
      | none =>
        refine ⟨rfl, _, rfl, _, rfl, da, kvs, .text x, rfl, s1 _ _ hd, rfl, false, congrArg V.bl (by rw [e]; rfl), iteF ⟨kb, ?_⟩⟩
        rw [take_snoc gx, List.filterMap_append, List.filterMap_cons, e, List.filterMap_nil, List.append_nil]
        exact hD
      | some u =>
        refine ⟨rfl, _, rfl, _, rfl, da, kvs, .text x, rfl, s1 _ _ hd, rfl, true, congrArg V.bl (by rw [e]; rfl), iteT ⟨_, rfl, _, rfl, da, kvs, .text x, u, rfl, s1 _ _ hd, rfl, e, _, hD, by rw [sizeLine_eq]; omega, ?_, ?_⟩⟩
        · exact fun b o n eb => (upd_ne n).trans (kb b o n eb)
        · rw [take_snoc gx, List.filterMap_append, List.filterMap_cons, e, List.filterMap_nil]
          exact upd_same
    · rintro H1 ⟨kb, hD⟩
      rw [List.length_map, List.take_length, ← eus] at hD
      have s1 := Kb.same_new kb n1
      have hn1 := SqT.fx (fx_same s1) hn
      -- the test
      refine ⟨_, rfl, D1, us, rfl, .inl (SqL.of hD), _, rfl, sa, C, dx, _, _, rfl, s1 _ _ hs, S.ins.cl, S.nN, sysF_names _ _, an, _, rfl, .inr hn1, _, _, rfl, rfl, ?_⟩
      rw [List.length_map]
      by_cases c1 : us.length < ns.length
      · have bad : OutW H E CR "names" := by
          rcases q with ⟨_, b⟩ | ⟨l, e, _⟩
          · exact b
          · omega
        exact ⟨true, congrArg V.bl (decide_eq_true (by omega)), iteT (iteT fun dd hdd => bad H1 dd s1 hdd)⟩
      refine ⟨false, congrArg V.bl (decide_eq_false (by omega)), iteF ?_⟩
      refine ⟨_, rfl, D1, rfl, ⟨_, SqL.of hD⟩, fun D2 n2 => lc_itD (K := K) walk_list ((ds.map nameD).map PyData.bool) (tup_bools _) (by simp [plen]) (by rw [sizeLine_eq]; omega) n2 (fun _ sb => sb.seq (SqL.of hD)) ?_ ?_⟩
      · intro i y d Ha Hb R Nx hi hdi sb hY hq
        obtain ⟨rfl, hx⟩ := hY
        obtain ⟨b, gb, rfl⟩ := map_get hdi
        obtain ⟨d', gd, rfl⟩ := map_get gb
        obtain ⟨d2, gd2, av, hl⟩ := LiI.paired_get pud hx
        rw [gd] at gd2
        have ed : d' = d2 := Option.some.inj gd2
        subst ed
        exact ⟨rfl, _, rfl, y, d', rfl, av.same (s1.trans sb), hl, fun H' s' => hq _ _ s' (.bl _)⟩
      intro H2 ys sb hD2 hd2
      rw [DpAll.bools_inv hd2] at hD2
      have s2 := s1.trans sb
      have hD2' := sb _ _ hD
      refine ⟨_, _, rfl, SqL.of hD2, ?_⟩
      rw [show (ds.map nameD).all id = ds.all nameD by rw [List.all_map]; rfl]
      cases c2 : ds.all nameD with
      | false =>
        have bad : OutW H E CR "names" := by
          rcases q with ⟨_, b⟩ | ⟨l, _, e, hl, _⟩
          · exact b
          · rw [e, List.all_map] at c2
            have c3 : l.all (nameD ∘ PyData.str) = true := List.all_eq_true.mpr fun x hx => hl x hx
            rw [c3] at c2
            cases c2
        exact ⟨_, rfl, iteT (iteT fun dd hdd => bad H2 dd s2 hdd)⟩
      | true =>
      refine ⟨_, rfl, iteF ?_⟩
      obtain ⟨l, el, hl⟩ := names_all c2
      subst el
      have eu : us = l.map V.str := told_strs pud
      rw [eu] at hD2'
      have ll : l.length = ns.length := by
        have : us.length = ns.length := by omega
        rw [eu, List.length_map] at this
        exact this
      refine ⟨_, rfl, D1, l, rfl, SqL.of hD2', by omega, _, rfl, D1, _, rfl, .inl (SqL.of hD2'), _, _, rfl, rfl, ?_⟩
      rw [List.length_map]
      by_cases nd : l.Nodup
      rotate_left
      · have bad : OutW H E CR "names" := by
          rcases q with ⟨_, b⟩ | ⟨l', _, e, _, n', _⟩
          · exact b
          · rw [str_inj e] at nd
            exact absurd n' nd
        have lt : (metS l).length < l.length := Nat.lt_of_le_of_ne (metS_le _ l rfl) (fun z => nd ((metS_nodup _ l rfl).mp z))
        exact ⟨true, congrArg V.bl (decide_eq_true (by omega)), iteT fun dd hdd => bad H2 dd s2 hdd⟩
      have qg : ∀ H1 v1, Same H H1 → SysAt K C H1 v1 (srtN l) (srt (rs.map (permR (ordN l)))) → Q v1 H1 := by
        rcases q with ⟨b, _⟩ | ⟨l', _, e, _, _, g⟩
        · exfalso
          rcases b with b | b | ⟨l', e, b⟩
          · exact c1 b
          · rw [c2] at b
            cases b
          · rw [← str_inj e] at b
            exact b nd
        · rw [← str_inj e] at g
          exact g
      refine ⟨false, congrArg V.bl (decide_eq_false (by rw [(metS_nodup _ l rfl).mpr nd]; omega)), iteF ?_⟩
      -- the order
      have lsz : l.length ≤ sizeLine := by
        rw [sizeLine_eq]
        omega
      have olen := ord_len l
      refine ⟨_, rfl, D1, _, l, rfl, SqL.of hD2', DpAll.strs l, alike_strs l, sortable_strs l, fun b _ => by rw [PyData.depth]; omega, lsz, fun ws p np dws => ?_⟩
      have ews : ws = (srtN l).map V.str := DpAll.strs_inv (c := srtN l) dws
      subst ews
      have s3 := s2.trans (same_new (o := .lst ((srtN l).map V.str)) np)
      have hD3 : upd H2 p (.lst ((srtN l).map V.str)) D1 = some (.lst (l.map V.str)) := same_new np _ _ hD2'
      have slen : (srtN l).length = l.length := (srtN_perm l).length_eq
      refine ⟨p, rfl, ⟨_, SqL.of upd_same⟩, fun D3 n3 => lc_itD (K := K) walk_list (((ordN l).map fun k => ((k : Nat) : Int)).map PyData.int) (tup_ints _) (by simp [olen, slen]) (by rw [List.length_map, slen]; exact lsz) n3 (fun _ sb => sb.seq (SqL.of upd_same)) ?_ ?_⟩
      · intro i y d Ha Hb R Nx hi hdi sb' hY hq
        obtain ⟨rfl, hx⟩ := hY
        obtain ⟨x, gx, rfl⟩ := map_get hx
        obtain ⟨b, gb, rfl⟩ := map_get hdi
        obtain ⟨k, gk, rfl⟩ := map_get gb
        unfold ordN at gk
        rw [List.getElem?_map, gx] at gk
        have ek : l.idxOf x = k := Option.some.inj gk
        subst ek
        have xl : x ∈ l := (srtN_perm l).mem_iff.mp (List.mem_of_getElem? gx)
        have hD4 := sb' _ _ hD3
        refine ⟨rfl, _, rfl, .inl ⟨rfl, _, SqL.of hD4⟩, _, rfl, D1, l.map V.str, .str x, l.idxOf x, .str x, rfl, rfl, SqL.of hD4, rfl, flat_names l, by rw [List.getElem?_map, idx_get xl]; rfl, beq_self_eq_true x, fun m z hm hz => ?_, hq _ _ (Same.refl _) (.int _)⟩
        obtain ⟨w', gw, rfl⟩ := map_get hz
        show (w' == x) = false
        refine beq_eq_false_iff_ne.mpr fun e => ?_
        rw [e] at gw
        have := idx_at nd gw
        omega
      intro H4 ys4 s4' hD4 hd4
      rw [DpAll.ints_inv hd4] at hD4
      have s4 := s3.trans s4'
      have hDt := s4' _ _ hD3
      -- the rows
      refine ⟨_, rfl, sa, C, dx, _, _, rfl, s4 _ _ hs, S.ins.cl, S.nR, sysF_rows _ _, ar, rfl, ⟨_, SqT.fx (fx_same s4) hR⟩, fun D5 n5 => lc_itD (K := K) walk_tup ((rs.map (permR (ordN l))).map encR) (tup_Rl _) (by simp [hul]) (by rw [hul, sizeLine_eq]; omega) n5 (fun _ sb => SqT.fx (fx_same (s4.trans sb)) hR) ?_ ?_⟩
      · intro j y e Ha Hb R Nx hj he sb' hY hq
        obtain ⟨rfl, hx⟩ := hY
        have s5 := s4.trans sb'
        obtain ⟨d', hd', dy⟩ := DpAll.get (DpAll.same s5 ha) hx
        obtain ⟨r, gr, rfl⟩ := map_get hd'
        obtain ⟨r2, gr2, rfl⟩ := map_get he
        obtain ⟨r3, gr3, rfl⟩ := map_get gr2
        rw [gr] at gr3
        have er : r = r3 := Option.some.inj gr3
        subst er
        have ok := RS.ok r (List.mem_of_getElem? gr)
        obtain ⟨a, v1, rfl, hsr, d1⟩ := Dp.R_inv dy
        obtain ⟨a1, rfl, hs1⟩ := Dp.I_inv d1
        have hD5 := sb' _ _ hD4
        refine ⟨a, _, rfl, hsr, rfl, _, _, rfl, _, _, rfl, rfl, rfl, ?_⟩
        refine ⟨_, rfl, D3, rfl, ⟨_, SqL.of hD5⟩, fun D6 n6 => lc_itD (K := K) walk_list ((permR (ordN l) r).1.map PyData.int) (tup_ints _) (by simp [permR, olen]) (by rw [List.length_map, List.length_map, olen]; exact lsz) n6 (fun _ sb => sb.seq (SqL.of hD5)) ?_ ?_⟩
        · intro k y2 e2 Hc Hd R2 Nx2 hk he2 sc hY2 hq2
          obtain ⟨rfl, hx2⟩ := hY2
          obtain ⟨z, gz, rfl⟩ := map_get hx2
          obtain ⟨m, gm, rfl⟩ := map_get gz
          obtain ⟨z2, gz2, rfl⟩ := map_get he2
          obtain ⟨m2, gm2, rfl⟩ := map_get gz2
          rw [gm] at gm2
          have em : m = m2 := Option.some.inj gm2
          subst em
          have ml : m < r.1.length := by
            rw [ok.len, ← ll]
            exact ord_lt (List.mem_of_getElem? gm)
          refine ⟨rfl, _, rfl, _, rfl, a1, _, _, _, rfl, rfl, SqT.fx (fx_same sc) hs1, at_of (j := m) rfl (by rw [List.getElem?_map, List.getElem?_eq_getElem ml]; rfl), hq2 _ _ (Same.refl _) ?_⟩
          rw [List.getD_eq_getElem?_getD, List.getElem?_eq_getElem ml]
          exact .int _
        · intro H6 ys6 s6 hD6 hd6
          refine ⟨D6, ys6, _, rfl, SqL.of hD6, hd6, fun v7 H7 s7 e7 nd7 => ?_⟩
          refine ⟨_, rfl, (by show 2 ≤ sizeLine; decide), fun t8 n8 => ?_⟩
          refine hq _ _ ((s6.trans s7).trans (same_new n8)) ?_
          exact Dp.R_of (c := (permR (ordN l) r).1) (b := r.2) (SqT.of upd_same) (Dp.same (same_new n8) e7)
      · intro H6 ys6 s6' hD6 hd6
        have s6 := s4.trans s6'
        have hDt6 := s6' _ _ hDt
        refine ⟨_, rfl, D1, _, l, rfl, SqL.of hDt6, DpAll.strs l, alike_strs l, sortable_strs l, fun b _ => by rw [PyData.depth]; omega, lsz, fun ws p2 np2 dws2 => ?_⟩
        have s7 := s6.trans (same_new (o := .lst ws) np2)
        refine ⟨p2, ws, _, rfl, SqL.of upd_same, DpAll.same (same_new np2) dws2, fun vnn H8 s8' en ndn => ?_⟩
        have s8 := s7.trans s8'
        have en' : Dp K H8 vnn (encN (srtN l)) := en
        have hD8 := s8' _ _ (same_new (o := .lst ws) np2 _ _ hD6)
        have hd8 := DpAll.same s8' (DpAll.same (same_new (o := .lst ws) np2) hd6)
        refine ⟨_, rfl, D5, _, rs.map (permR (ordN l)), rfl, SqL.of hD8, hd8, alike_Rs _, sortable_Rs _, fun b _ => by have := depth_R b; omega, by rw [List.length_map, sizeLine_eq]; omega, fun ws9 p9 np9 dws9 => ?_⟩
        have s9 := s8.trans (same_new (o := .lst ws9) np9)
        refine ⟨p9, ws9, _, rfl, SqL.of upd_same, DpAll.same (same_new np9) dws9, fun vt H10 s10' et ndt => ?_⟩
        have s10 := s9.trans s10'
        have en10 : Dp K H10 vnn (encN (srtN l)) := Dp.same s10' (Dp.same (same_new (o := .lst ws9) np9) en')
        have nn10 : NoD H10 vnn := NoD.fx (NoD.fx ndn (fx_same (same_new (o := .lst ws9) np9))) (fx_same s10')
        intro x dx2 nx ndx ne
        have s11 : Same H10 (upd (upd H10 dx2 (.own x)) x (.ins C dx2 [])) := (same_new ndx).trans (same_new (by rw [upd_ne (Ne.symm ne)]; exact nx))
        rw [← ll] at RS
        have NO : NamesOk (srtN l) := srtN_ok (by omega) (by omega) hl nd
        have RO : RowsOk (srtN l).length (srt (rs.map (permR (ordN l)))) := perm_rows nd RS
        refine ⟨x, dx2, vnn, vt, srtN l, srt (rs.map (permR (ordN l))), rfl, upd_same, Dp.same s11 en10, Dp.same s11 et, NO, RO, fun H12 kb12 h12 => ⟨rfl, ?_⟩⟩
        have nof : ∀ b o, H10 b = some o → H12 b = some o := fun b o e => kb12 b o (fun z => by rw [z, nx] at e; cases e) (s11 b o e)
        exact qg H12 _ (s10.trans nof) ⟨x, dx2, vnn, vt, rfl, h12, Dp.same nof en10, Dp.same nof et, NoD.fx nn10 (fx_same nof)⟩
end
end K5
end

section
set_option Elab.async false
set_option linter.all false
set_option maxRecDepth 100000
set_option maxHeartbeats 4000000
/-! The law's own defs: box, take, pick, common, least, put. -/
namespace K5
open PySem PySem.Spec PyProof.Rows L2
abbrev sBox : Stmt := top 27
abbrev sTake : Stmt := top 28
abbrev sPick : Stmt := top 29
abbrev sLNames : Stmt := top 30
abbrev sLCommon : Stmt := top 31
abbrev sLLeast : Stmt := top 32
abbrev sLRows : Stmt := top 33
abbrev sLFrac : Stmt := top 34
abbrev sLKept : Stmt := top 35
abbrev sLPut : Stmt := top 36
abbrev sLScaled : Stmt := top 37
abbrev sLHeard : Stmt := top 38
abbrev sLOdd : Stmt := top 39
abbrev sLRen : Stmt := top 40
abbrev sLRef : Stmt := top 41
abbrev sLaw : Stmt := top 42
/-- a box -/
def Bx (H : Hp) (b : Addr) : Prop := ∃ x y z : Int, H b = some (.lst [.int x, .int y, .int z])
section
variable {P : Program} {w : World} {K : PySem.W.Frag} {mg : Str → Option Value} {base : Heap}
theorem Bx.nf {H : Hp} {b : Addr} (h : Bx H b) : ∀ u, H b = some u → fixB u = false := fun u e => by
  obtain ⟨x, y, z, hb⟩ := h
  rw [hb] at e
  cases e
  rfl
theorem Bx.fx {H H' : Hp} {b : Addr} (h : Bx H b) (k : Kb b H H') : Fx H H' := k.fx h.nf
/-! ### box -/
theorem none_of_new {H : Hp} {p p2 : Addr} {o : HO} (n : H p = none) (n2 : upd H p o p2 = none) : H p2 = none := by
  by_cases e : p2 = p
  · rw [e]
    exact n
  · rw [upd_ne e] at n2
    exact n2
theorem box_at {c : Int} (g : Bool) : atI [V.int 0, V.int c] (if g = true then 1 else 0) = some (V.int (if g = true then c else 0)) := by
  cases g <;> rfl
def spBox (K : PySem.W.Frag) : Sp := fun vs H Q _ => ∃ (a : Addr) (k : Int) (ns : List Int), vs = [.ref a, .int k] ∧ SqL K H a (ns.map V.int) ∧ 0 ≤ k ∧ k ≤ 10 ∧ ∀ H' b, Same H H' → H b = none → Bx H' b → Q (.ref b) H'
theorem scBox : FnScope ["_law_script", "_law_k", "_law_cell", "_law_great"] ["_law_script", "_law_k"] (defScope sBox) := ⟨rfl, rfl, rfl, by decide +kernel, rfl, by decide +kernel, by decide +kernel⟩
theorem ok_box (B : Bl mg) (D : Def K mg "_law_box" sBox ["_law_script", "_law_k"]) : Ok P w K mg base CX0 1 "_law_box" sBox ["_law_script", "_law_k"] (spBox K) := by
  refine .of D fun f fd F => F.ok scBox (fun vs H Q E h => ?_) (fun cdv A outer s H vs Q E hr h => ?_)
  · obtain ⟨v, d, _, rfl, _⟩ := h
    rfl
  · obtain ⟨a, k, ns, rfl, hs, k0, k9, q⟩ := h
    refine ⟨_, pss_cons (ps_set (i := 2) scBox.nd rfl (Or.inl rfl) (pe_op op_add (pe_op op_mul pe_int (pv 1)) pe_int))
      (pss_cons (ps_if (pt_cmpR op_lt (pv 1) (pe_b (f := "len") call_len_seq B.len b_len (pa_cons (pv 0) pa_nil)) (nomark _))
        (pss_one (ps_set (i := 2) scBox.nd rfl (Or.inl rfl) (pe_b (f := "abs") call_abs B.abs b_abs (pa_cons (pe_ix (r := rIxL K) ix_list (pv 0) (pv 1) (fun _ _ => rfl)) pa_nil))))
        (pss_one (ps_if (pt_cmpR op_gt (pe_b (f := "len") call_len_seq B.len b_len (pa_cons (pv 0) pa_nil)) pe_int (nomark _))
          (pss_one (ps_set (i := 2) scBox.nd rfl (Or.inl rfl) (pe_op op_add (pv 2) (pe_op op_mul (pe_op op_mod (pe_t (f := "int") call_int1 B.int b_int (pa_cons (pe_b (f := "abs") call_abs B.abs b_abs (pa_cons (pe_ix (r := rIxL K) ix_list (pv 0) (pe_op op_mod (pe_t (f := "int") call_int1 B.int b_int (pa_cons (pv 1) pa_nil)) (pe_b (f := "len") call_len_seq B.len b_len (pa_cons (pv 0) pa_nil))) (fun _ _ => rfl)) pa_nil)) pa_nil)) pe_int) pe_int)))) pss_nil)))
      (pss_cons (ps_set (i := 3) scBox.nd rfl (Or.inl rfl) (pe_t (f := "int") call_int1 B.int b_int (pa_cons (pe_cmpR op_ge (pv 2) (pe_op op_pow pe_int pe_int) (nomark _)) pa_nil)))
      (pss_one (ps_ret (pe_lst (pa_cons (pe_ix (r := rIxL K) ix_list (pe_lst (pa_cons pe_int (pa_cons (pv 2) pa_nil))) (pv 3) (fun _ _ => rfl))
        (pa_cons (pe_op op_add (pe_op op_mod (pe_t (f := "int") call_int1 B.int b_int (pa_cons (pe_op op_add (pe_op op_add (pe_op op_mul (pe_op op_mod (pe_t (f := "int") call_int1 B.int b_int (pa_cons (pv 2) pa_nil)) pe_int) pe_int) (pe_op op_mul pe_int (pv 1))) pe_int) pa_nil)) pe_int) pe_int) (pa_cons pe_int pa_nil)))))))), ?_⟩
    refine ⟨_, rfl, _, _, rfl, rfl, .inl ⟨by decide, by decide⟩, _, _, rfl, rfl, ?_⟩
    refine ⟨_, rfl, _, rfl, a, _, rfl, .inl hs, _, _, rfl, rfl, _, rfl, ?_⟩
    rw [List.length_map]
    refine ite2 (fun c => ?_) (fun c => ?_)
    · have c' : k < ((ns.length : Nat) : Int) := of_decide_eq_true c
      obtain ⟨j, rfl⟩ : ∃ j : Nat, k = (j : Int) := ⟨k.toNat, by omega⟩
      have hj : j < ns.length := by omega
      refine ⟨_, rfl, _, rfl, a, _, _, .int ns[j], rfl, rfl, hs, at_of (j := j) rfl (by rw [List.getElem?_map, List.getElem?_eq_getElem hj]; rfl), _, rfl, ?_⟩
      refine ⟨_, rfl, 10, 18, rfl, rfl, ⟨by decide, by decide, by decide⟩, _, _, rfl, rfl, .inr ⟨_, rfl, ?_⟩⟩
      refine ⟨_, rfl, (by show 2 ≤ sizeLine; decide), fun p np => ?_⟩
      refine ⟨_, rfl, p, _, _, .int _, rfl, rfl, SqL.of upd_same, box_at _, _, rfl, .inl ⟨_, rfl, _, _, rfl, rfl, (by show (0 : Int) < 2147483629; decide), _, _, rfl, rfl, .inr ⟨by decide, by decide⟩, _, rfl, _, _, rfl, rfl, .inl ⟨by decide, by decide⟩, _, _, rfl, rfl, _, _, rfl, rfl, .inl ⟨_, rfl, _, _, rfl, rfl, (by show (0 : Int) < 2147483629; decide), _, _, rfl, rfl, (by show 3 ≤ sizeLine; decide), fun p2 np2 => ?_⟩⟩⟩
      exact q _ p2 ((same_new np).trans (same_new np2)) (none_of_new np np2) ⟨_, _, _, upd_same⟩
    · refine ⟨_, rfl, a, _, rfl, .inl hs, _, _, rfl, rfl, _, rfl, ?_⟩
      rw [List.length_map]
      refine ite2 (fun c2 => ?_) (fun c2 => ?_)
      · have c' : (0 : Int) < ((ns.length : Nat) : Int) := of_decide_eq_true c2
        have m0 := Int.emod_nonneg k (show ((ns.length : Nat) : Int) ≠ 0 by omega)
        have m1 := Int.emod_lt_of_pos k c'
        obtain ⟨j, hj⟩ : ∃ j : Nat, k % ((ns.length : Nat) : Int) = (j : Int) := ⟨(k % ((ns.length : Nat) : Int)).toNat, by omega⟩
        have hl : j < ns.length := by omega
        refine ⟨_, rfl, _, rfl, _, rfl, .inl ⟨_, rfl, _, rfl, a, _, rfl, .inl hs, _, _, rfl, rfl, (by rw [List.length_map]; exact c'), a, _, _, .int ns[j], rfl, rfl, hs, ?_, _, rfl, .inl ⟨_, rfl, _, _, rfl, rfl, (by show (0 : Int) < 2147483629; decide), _, _, rfl, rfl, .inr ⟨by decide, by decide⟩, _, _, rfl, rfl, ?_⟩⟩⟩
        · rw [List.length_map]
          exact at_of (j := j) (by omega) (by rw [List.getElem?_map, List.getElem?_eq_getElem hl]; rfl)
        refine ⟨_, rfl, 10, 18, rfl, rfl, ⟨by decide, by decide, by decide⟩, _, _, rfl, rfl, .inr ⟨_, rfl, ?_⟩⟩
        refine ⟨_, rfl, (by show 2 ≤ sizeLine; decide), fun p np => ?_⟩
        refine ⟨_, rfl, p, _, _, .int _, rfl, rfl, SqL.of upd_same, box_at _, _, rfl, .inl ⟨_, rfl, _, _, rfl, rfl, (by show (0 : Int) < 2147483629; decide), _, _, rfl, rfl, .inr ⟨by decide, by decide⟩, _, rfl, _, _, rfl, rfl, .inl ⟨by decide, by decide⟩, _, _, rfl, rfl, _, _, rfl, rfl, .inl ⟨_, rfl, _, _, rfl, rfl, (by show (0 : Int) < 2147483629; decide), _, _, rfl, rfl, (by show 3 ≤ sizeLine; decide), fun p2 np2 => ?_⟩⟩⟩
        exact q _ p2 ((same_new np).trans (same_new np2)) (none_of_new np np2) ⟨_, _, _, upd_same⟩
      · refine ⟨_, rfl, 10, 18, rfl, rfl, ⟨by decide, by decide, by decide⟩, _, _, rfl, rfl, .inr ⟨_, rfl, ?_⟩⟩
        refine ⟨_, rfl, (by show 2 ≤ sizeLine; decide), fun p np => ?_⟩
        refine ⟨_, rfl, p, _, _, .int _, rfl, rfl, SqL.of upd_same, box_at _, _, rfl, .inl ⟨_, rfl, _, _, rfl, rfl, (by show (0 : Int) < 2147483629; decide), _, _, rfl, rfl, .inr ⟨by decide, by decide⟩, _, rfl, _, _, rfl, rfl, .inl ⟨by decide, by decide⟩, _, _, rfl, rfl, _, _, rfl, rfl, .inl ⟨_, rfl, _, _, rfl, rfl, (by show (0 : Int) < 2147483629; decide), _, _, rfl, rfl, (by show 3 ≤ sizeLine; decide), fun p2 np2 => ?_⟩⟩⟩
        exact q _ p2 ((same_new np).trans (same_new np2)) (none_of_new np np2) ⟨_, _, _, upd_same⟩

/-! ### take -/
def spTake : Sp := fun vs H Q _ => ∃ (b : Addr) (m : Int), vs = [.ref b, .int m] ∧ Bx H b ∧ 0 < m ∧ m < 1073741824 ∧ ∀ H' (k : Nat), Kb b H H' → Bx H' b → (k : Int) < m → Q (.int (k : Nat)) H'
theorem scTake : FnScope ["_law_box_here", "_law_many", "_law_digit", "_law_raw"] ["_law_box_here", "_law_many"] (defScope sTake) := ⟨rfl, rfl, rfl, by decide +kernel, rfl, by decide +kernel, by decide +kernel⟩
theorem nat_of {m x : Int} (h : 0 < m) : ∃ k : Nat, x % m = (k : Int) ∧ (k : Int) < m := by
  have m0 := Int.emod_nonneg x (show m ≠ 0 by omega)
  have m1 := Int.emod_lt_of_pos x h
  exact ⟨(x % m).toNat, by omega, by omega⟩
theorem ok_take (B : Bl mg) (D : Def K mg "_law_take" sTake ["_law_box_here", "_law_many"]) : Ok P w K mg base CX0 1 "_law_take" sTake ["_law_box_here", "_law_many"] spTake := by
  refine .of D fun f fd F => F.ok scTake (fun vs H Q E h => ?_) (fun cdv A outer s H vs Q E hr h => ?_)
  · obtain ⟨v, d, rfl, _⟩ := h
    rfl
  · obtain ⟨b, m, rfl, ⟨x, y, z, hb⟩, m0, m1, q⟩ := h
    refine ⟨_, pss_cons (ps_if (pt_cmpR op_gt (pe_ix (r := rIxL K) ix_list (pv 0) pe_int (fun _ _ => rfl)) pe_int (nomark _))
        (pss_cons (ps_set (i := 2) scTake.nd rfl (Or.inl rfl) (pe_op op_mod (pe_t (f := "int") call_int1 B.int b_int (pa_cons (pe_ix (r := rIxL K) ix_list (pv 0) pe_int (fun _ _ => rfl)) pa_nil)) (pv 1)))
        (pss_cons (ps_asg (pe_op op_fdiv (pe_ix (r := rIxL K) ix_list (pv 0) pe_int (fun _ _ => rfl)) (pv 1)) (pg_sub (pv 0) pe_int set_list)) (pss_one (ps_ret (pv 2))))) pss_nil)
      (pss_cons (ps_asg (pe_op op_add (pe_ix (r := rIxL K) ix_list (pv 0) pe_int (fun _ _ => rfl)) pe_int) (pg_sub (pv 0) pe_int set_list))
      (pss_cons (ps_set (i := 3) scTake.nd rfl (Or.inl rfl) (pe_op op_mod (pe_t (f := "int") call_int1 B.int b_int (pa_cons (pe_op op_add (pe_op op_mul (pe_op op_add (pe_ix (r := rIxL K) ix_list (pv 0) pe_int (fun _ _ => rfl)) (pe_op op_mul pe_int (pe_ix (r := rIxL K) ix_list (pv 0) pe_int (fun _ _ => rfl)))) pe_int) pe_int) pa_nil)) pe_int))
      (pss_cons (ps_asg (pe_op op_add (pe_op op_mod (pe_t (f := "int") call_int1 B.int b_int (pa_cons (pe_op op_add (pe_op op_mul (pv 3) pe_int) pe_int) pa_nil)) pe_int) pe_int) (pg_sub (pv 0) pe_int set_list))
      (pss_one (ps_ret (pe_op op_mod (pe_t (f := "int") call_int1 B.int b_int (pa_cons (pe_op op_fdiv (pe_op op_add (pe_op op_mul (pv 3) pe_int) (pe_ix (r := rIxL K) ix_list (pv 0) pe_int (fun _ _ => rfl))) pe_int) pa_nil)) (pv 1))))))), ?_⟩
    refine ⟨_, rfl, b, _, _, .int x, rfl, rfl, SqL.of hb, at_of (j := 0) rfl rfl, _, _, rfl, rfl, _, rfl, ?_⟩
    refine ite2 (fun c => ?_) (fun c => ?_)
    · obtain ⟨k, ek, hk⟩ := nat_of (x := x) m0
      refine ⟨_, rfl, b, _, _, .int x, rfl, rfl, SqL.of hb, at_of (j := 0) rfl rfl, .inl ⟨_, rfl, _, rfl, _, _, rfl, rfl, m0, ?_⟩⟩
      refine ⟨_, rfl, b, _, _, .int x, rfl, rfl, SqL.of hb, at_of (j := 0) rfl rfl, _, rfl, _, _, rfl, rfl, ⟨m0, m1⟩, _, rfl, b, _, _, 0, rfl, rfl, hb, rfl, ?_⟩
      have e := q (upd H b (.lst [V.int (x / m), V.int y, V.int z])) k Kb.put ⟨_, _, _, upd_same⟩ hk
      rw [← ek] at e
      exact ⟨_, rfl, e⟩
    · refine ⟨_, rfl, b, _, _, .int z, rfl, rfl, SqL.of hb, at_of (j := 2) rfl rfl, _, _, rfl, rfl, _, rfl, b, _, _, 2, rfl, rfl, hb, rfl, ?_⟩
      have h1 : upd H b (.lst [V.int x, V.int y, V.int (z + 1)]) b = some (.lst [V.int x, V.int y, V.int (z + 1)]) := upd_same
      refine ⟨_, rfl, b, _, _, .int y, rfl, rfl, SqL.of h1, at_of (j := 1) rfl rfl, _, rfl, b, _, _, .int (z + 1), rfl, rfl, SqL.of h1, at_of (j := 2) rfl rfl, _, _, rfl, rfl, .inl ⟨by decide, by decide⟩, _, _, rfl, rfl, _, _, rfl, rfl, .inr ⟨by decide, by decide⟩, _, _, rfl, rfl, .inl ⟨_, rfl, _, _, rfl, rfl, (by show (0 : Int) < 2147483563; decide), ?_⟩⟩
      refine ⟨_, rfl, _, _, rfl, rfl, .inr ⟨by decide, by decide⟩, _, _, rfl, rfl, .inl ⟨_, rfl, _, _, rfl, rfl, (by show (0 : Int) < 2147483629; decide), _, _, rfl, rfl, _, rfl, b, _, _, 1, rfl, rfl, h1, rfl, ?_⟩⟩
      refine ⟨_, rfl, _, _, rfl, rfl, .inr ⟨by decide, by decide⟩, _, rfl, b, _, _, .int _, rfl, rfl, SqL.of upd_same, at_of (j := 1) rfl rfl, _, _, rfl, rfl, _, _, rfl, rfl, ⟨by decide, by decide⟩, .inl ⟨_, rfl, _, rfl, _, _, rfl, rfl, m0, ?_⟩⟩
      obtain ⟨k, ek, hk⟩ := nat_of (x := ((((y + 99991 * (z + 1)) * 69621 + 53) % 2147483563 * 2147483647 + ((((y + 99991 * (z + 1)) * 69621 + 53) % 2147483563 * 40692 + 27011) % 2147483629 + 1)) / 8191)) m0
      have e := q (upd (upd H b (.lst [V.int x, V.int y, V.int (z + 1)])) b (.lst [V.int x, V.int ((((y + 99991 * (z + 1)) * 69621 + 53) % 2147483563 * 40692 + 27011) % 2147483629 + 1), V.int (z + 1)])) k (Kb.put.trans Kb.put) ⟨_, _, _, upd_same⟩ hk
      rw [← ek] at e
      exact e
/-! ### pick -/
def SqA (K : PySem.W.Frag) (H : Hp) (l : Addr) (xs : List V) : Prop := SqL K H l xs ∨ SqT K H l xs
def rIxA (K : PySem.W.Frag) : R2 := fun x y H Q => rIxL K x y H Q ∨ rIxT K x y H Q
def spPick (K : PySem.W.Frag) : Sp := fun vs H Q _ => ∃ (b l : Addr) (xs : List V), vs = [.ref b, .ref l] ∧ Bx H b ∧ (∀ H', Kb b H H' → SqA K H' l xs) ∧ 0 < xs.length ∧ xs.length < 1000 ∧ ∀ H' (k : Nat) v, Kb b H H' → Bx H' b → xs[k]? = some v → Q v H'
theorem scPick : FnScope ["_law_box_here", "_law_some"] ["_law_box_here", "_law_some"] (defScope sPick) := ⟨rfl, rfl, rfl, by decide +kernel, rfl, by decide +kernel, by decide +kernel⟩
theorem ok_pick (B : Bl mg) (D : Def K mg "_law_pick" sPick ["_law_box_here", "_law_some"]) (OT : Ok P w K mg base CX0 1 "_law_take" sTake ["_law_box_here", "_law_many"] spTake) : Ok P w K mg base CX0 2 "_law_pick" sPick ["_law_box_here", "_law_some"] (spPick K) := by
  refine .of D fun f fd F => F.ok scPick (fun vs H Q E h => ?_) (fun cdv A outer s H vs Q E hr h => ?_)
  · obtain ⟨v, d, _, rfl, _⟩ := h
    rfl
  · obtain ⟨b, l, xs, rfl, hb, hl, n0, n1, q⟩ := h
    refine ⟨_, pss_one (ps_ret (pe_ix (r := rIxA K) (ix_list.or ix_tup) (pv 1) (pe_c OT hr (pa_cons (pv 0) (pa_cons (pe_b (f := "len") call_len_seq B.len b_len (pa_cons (pv 1) pa_nil)) pa_nil))) (fun _ _ => rfl))), ?_⟩
    refine ⟨_, rfl, _, rfl, _, rfl, l, xs, rfl, hl H (Kb.refl b H), b, _, rfl, hb, by omega, by omega, fun H' k kb bx hk => ?_⟩
    have hk' : k < xs.length := by omega
    have g := q H' k xs[k] kb bx (List.getElem?_eq_getElem hk')
    rcases hl H' kb with hl | hl
    · exact .inl ⟨l, xs, _, xs[k], rfl, rfl, hl, at_of (j := k) rfl (List.getElem?_eq_getElem hk'), g⟩
    · exact .inr ⟨l, xs, _, xs[k], rfl, rfl, hl, at_of (j := k) rfl (List.getElem?_eq_getElem hk'), g⟩
/-! ### common, least -/
def spLCommon (K : PySem.W.Frag) : Sp := fun vs H Q _ => ∃ (a : Addr) (c : List Int), vs = [.ref a] ∧ SqL K H a (c.map V.int) ∧ Q (.int ((gcdL c : Nat) : Int)) H
theorem scLCommon : FnScope ["_law_numbers", "_law_found", "_law_item", "_law_one", "_law_other"] ["_law_numbers"] (defScope sLCommon) := ⟨rfl, rfl, rfl, by decide +kernel, rfl, by decide +kernel, by decide +kernel⟩
theorem ok_lcommon (B : Bl mg) (D : Def K mg "_law_common" sLCommon ["_law_numbers"]) : Ok P w K mg base CX0 1 "_law_common" sLCommon ["_law_numbers"] (spLCommon K) := by
  refine .of D fun f fd F => F.ok scLCommon (fun vs H Q E h => ?_) (fun cdv A outer s H vs Q E hr h => ?_)
  · obtain ⟨v, d, rfl, _⟩ := h
    rfl
  · obtain ⟨a, c, rfl, hs, q⟩ := h
    refine ⟨_, pss_cons (ps_set (i := 1) scLCommon.nd rfl (Or.inl rfl) pe_int) (pss_cons (ps_for PassesOwn.never rfl (pi_list (pv 0)) (pg_name (i := 2) scLCommon.nd rfl (Or.inl rfl))
      (pss_cons (ps_par (i := 3) (j := 4) rfl scLCommon.nd rfl rfl (by decide) rfl rfl (pa_cons (pv 1) (pa_cons (pe_b (f := "abs") call_abs B.abs b_abs (pa_cons (pv 2) pa_nil)) pa_nil)) (by rfl))
      (pss_cons (ps_while PassesOwn.never (pt_cmpR op_gt (pv 4) pe_int (nomark _)) (pss_one (ps_par (i := 3) (j := 4) rfl scLCommon.nd rfl rfl (by decide) rfl rfl (pa_cons (pv 4) (pa_cons (pe_op op_mod (pe_t (f := "int") call_int1 B.int b_int (pa_cons (pv 3) pa_nil)) (pv 4)) pa_nil)) (by rfl))))
      (pss_one (ps_set (i := 1) scLCommon.nd rfl (Or.inl rfl) (pv 3)))))) (pss_one (ps_ret (pv 1)))), ?_⟩
    refine ⟨_, rfl, a, rfl, ⟨_, hs⟩, for_list (K := K) (a := a) (xs := c.map V.int) (fun i σ H' => ∃ z1 z2 z3, σ = [some (.ref a), some (.int ((gcdL (c.take i) : Nat) : Int)), z1, z2, z3] ∧ H' = H) ⟨_, _, _, rfl, rfl⟩ (fun i σ H' _ ⟨_, _, _, _, e⟩ => by rw [e]; exact hs) ?_ ?_⟩
    · rintro i y σ H' hx ⟨z1, z2, z3, rfl, rfl⟩
      obtain ⟨x, gx, rfl⟩ := map_get hx
      refine ⟨_, rfl, _, rfl, x, rfl, _, _, rfl, ?_⟩
      rw [abs_nat]
      refine ⟨fun m σ H2 => ∃ u : Nat, σ = [some (.ref a), some (.int ((gcdL (c.take i) : Nat) : Int)), some (.int x), some (.int (u : Int)), some (.int (m : Int))] ∧ H2 = H' ∧ Nat.gcd u m = Nat.gcd (gcdL (c.take i)) x.natAbs, ⟨_, gcdL (c.take i), rfl, rfl, rfl⟩, ?_⟩
      rintro m σ H2 ⟨u, rfl, rfl, hg⟩
      refine ⟨_, rfl, _, _, rfl, rfl, _, rfl, ?_⟩
      refine ite2 (fun c' => ?_) (fun c' => ?_)
      · have hm : 0 < m := by have := of_decide_eq_true c'; omega
        refine ⟨fun σ' H3 => σ' = [some (.ref a), some (.int ((gcdL (c.take i) : Nat) : Int)), some (.int x), some (.int (m : Int)), some (.int ((u % m : Nat) : Int))] ∧ H3 = _, fun σ' H3 e => ⟨u % m, Nat.mod_lt _ hm, m, e.1, e.2, ?_⟩, ?_⟩
        · rw [← hg, Nat.gcd_comm u m, Nat.gcd_rec m u, Nat.gcd_comm]
        · exact ⟨_, rfl, _, rfl, .inl ⟨_, rfl, _, rfl, _, _, rfl, rfl, (by show (0 : Int) < (m : Int); omega), _, _, rfl, by show [some (V.ref a), some (V.int ((gcdL (c.take i) : Nat) : Int)), some (V.int x), some (V.int (m : Int)), some (V.int ((u : Int) % (m : Int)))] = _; rw [← Int.natCast_emod], rfl⟩⟩
      · have hm : m = 0 := by
          have : ¬ (0 : Int) < (m : Int) := fun z => c' (decide_eq_true z)
          omega
        subst hm
        rw [Nat.gcd_zero_right] at hg
        refine ⟨_, rfl, some (.int x), some (.int (u : Int)), some (.int ((0 : Nat) : Int)), ?_, rfl⟩
        rw [take_snoc gx, show gcdL (c.take i ++ [x]) = _ from gcdF_snoc _ _ _, hg]
        rfl
    · rintro σ H' ⟨z1, z2, z3, rfl, rfl⟩
      rw [List.length_map, List.take_length]
      exact ⟨_, rfl, q⟩
def spLLeast (K : PySem.W.Frag) : Sp := fun vs H Q _ => ∃ (a : Addr) (c : List Int) (b : Int), vs = [.ref a, .int b] ∧ SqL K H a (c.map V.int) ∧ c.length ≤ 6 ∧ 0 < gcdL (ents (c, b)) ∧ gcdL (ents (c, b)) ≤ 1073741823 ∧ ∀ H' v, Same H H' → Dp K H' v (encR (least (c, b))) → Q v H'
theorem scLLeast : FnScope ["_law_coefficients", "_law_bound", "_law_factor", "_law_item"] ["_law_coefficients", "_law_bound"] (defScope sLLeast) := ⟨rfl, rfl, rfl, by decide +kernel, rfl, by decide +kernel, by decide +kernel⟩
theorem ok_lleast (B : Bl mg) (D : Def K mg "_law_least" sLLeast ["_law_coefficients", "_law_bound"]) (OC : Ok P w K mg base CX0 1 "_law_common" sLCommon ["_law_numbers"] (spLCommon K)) :
    Ok P w K mg base CX0 2 "_law_least" sLLeast ["_law_coefficients", "_law_bound"] (spLLeast K) := by
  refine .of D fun f fd F => F.ok scLLeast (fun vs H Q E h => ?_) (fun cdv A outer s H vs Q E hr h => ?_)
  · obtain ⟨v, d, n, rfl, _⟩ := h
    rfl
  · obtain ⟨a, c, b, rfl, hs, h6, gp, gl, q⟩ := h
    refine ⟨_, pss_cons (ps_set (i := 2) scLLeast.nd rfl (Or.inr rfl) (pe_c OC hr (pa_cons (pe_op op_cat (pe_t (f := "list") call_list_of B.list b_list (pa_cons (pv 0) pa_nil)) (pe_lst (pa_cons (pv 1) pa_nil))) pa_nil)))
      (pss_one (ps_ret (pe_tup (pa_cons (pe_t (f := "tuple") call_tuple_of B.tuple b_tuple (pa_cons (pe_lc (own := [("_law_item", 3)]) (g := gName 3) (tt := tYes) rfl scLLeast.nd (pi_list (pv 0)) (blkOk_by (N := ["_law_coefficients", "_law_bound", "_law_factor", "_law_item"]) (sc := defScope sLLeast) (by decide +kernel))
          (fun _ _ _ _ _ => pg_name (i := 3) scLLeast.nd rfl (Or.inl rfl)) (fun _ _ _ _ _ => pts_nil) (fun _ _ _ _ _ => pe_op op_fdiv (pv 3) (pv 2))) pa_nil)) (pa_cons (pe_op op_fdiv (pv 1) (pv 2)) pa_nil))))), ?_⟩
    have hz : (c.map V.int).length ≤ sizeLine := by rw [List.length_map, sizeLine_eq]; omega
    have ee : (ents (c, b)).map V.int = c.map V.int ++ [.int b] := by unfold ents; simp
    have dv : (0 : Int) < ((gcdL (ents (c, b)) : Nat) : Int) ∧ ((gcdL (ents (c, b)) : Nat) : Int) < 1073741824 := by omega
    refine ⟨_, rfl, a, _, rfl, .inl hs, fun t1 n1 => ?_⟩
    have s1 := same_new (o := .lst (c.map V.int)) n1
    refine ⟨_, rfl, (by show 1 ≤ sizeLine; decide), fun t2 n2 => ?_⟩
    have s2 := s1.trans (same_new (o := .lst [.int b]) n2)
    refine ⟨t1, t2, _, _, rfl, rfl, same_new n2 _ _ upd_same, upd_same, by rw [List.length_map, sizeLine_eq]; show c.length + 1 ≤ _; omega, fun t3 n3 => ?_⟩
    have s3 := s2.trans (same_new (o := .lst (c.map V.int ++ [.int b])) n3)
    refine ⟨t3, ents (c, b), rfl, by rw [ee]; exact SqL.of upd_same, ?_⟩
    refine ⟨_, rfl, a, rfl, ⟨_, s3.seq hs⟩, fun Dm nM => lc_itD (K := K) walk_list ((c.map fun x => x / ((gcdL (ents (c, b)) : Nat) : Int)).map PyData.int) (tup_ints _) (by simp) hz nM (fun _ sa => sa.seq (s3.seq hs)) ?_ ?_⟩
    · intro i y d Ha Hb R Nx hi hd sa hY hR
      obtain ⟨rfl, hx⟩ := hY
      obtain ⟨x, gx, rfl⟩ := map_get hx
      obtain ⟨e, he, rfl⟩ := map_get hd
      obtain ⟨x', gx', rfl⟩ := map_get he
      rw [gx] at gx'
      have ex : x = x' := Option.some.inj gx'
      subst ex
      exact ⟨rfl, _, rfl, _, rfl, _, _, rfl, rfl, dv, hR _ _ (Same.refl _) (.int _)⟩
    · intro H5 zs s5 hD2 hd2
      rw [DpAll.ints_inv hd2] at hD2
      refine ⟨_, _, rfl, .inl ⟨SqL.of hD2, fun t4 n4 => ?_⟩⟩
      refine ⟨_, rfl, _, rfl, _, _, rfl, rfl, dv, (by show 2 ≤ sizeLine; decide), fun t5 n5 => ?_⟩
      have s6 := (s3.trans s5).trans (same_new (o := .tup ((c.map fun x => x / ((gcdL (ents (c, b)) : Nat) : Int)).map V.int)) n4)
      refine q _ _ (s6.trans (same_new n5)) ?_
      exact Dp.R_of (c := (least (c, b)).1) (b := (least (c, b)).2) (SqT.of upd_same) (Dp.I_of (SqT.fx (fx_same (same_new n5)) (SqT.of upd_same)))
/-! ### put -/
def spLPut (K : PySem.W.Frag) : Sp := fun vs H Q _ => ∃ (v x : V) (ds : List PyData) (d : PyData) (i : Nat), vs = [v, .int (i : Nat), x] ∧ Dp K H v (.tuple ds) ∧ Dp K H x d ∧ i < ds.length ∧ ds.length ≤ 1000 ∧ ∀ y H', Same H H' → Dp K H' y (.tuple (ds.set i d)) → Q y H'
theorem scLPut : FnScope ["_law_some", "_law_at", "_law_value"] ["_law_some", "_law_at", "_law_value"] (defScope sLPut) := ⟨rfl, rfl, rfl, by decide +kernel, rfl, by decide +kernel, by decide +kernel⟩
theorem ok_lput (D : Def K mg "_law_put" sLPut ["_law_some", "_law_at", "_law_value"]) : Ok P w K mg base CX0 1 "_law_put" sLPut ["_law_some", "_law_at", "_law_value"] (spLPut K) := by
  refine .of D fun f fd F => F.ok scLPut (fun vs H Q E h => ?_) (fun cdv A outer s H vs Q E hr h => ?_)
  · obtain ⟨v, d, _, _, _, rfl, _⟩ := h
    rfl
  · obtain ⟨v, x, ds, d, i, rfl, hv, hx, hi, hz, q⟩ := h
    refine ⟨_, pss_one (ps_ret (pe_op op_catD (pe_op op_catD (pe_slice sl_tupD (pv 0) po_none (po_some (pv 1))) (pe_tup (pa_cons (pv 2) pa_nil))) (pe_slice sl_tupD (pv 0) (po_some (pe_op op_add (pv 1) pe_int)) po_none))), ?_⟩
    refine ⟨_, rfl, _, rfl, _, rfl, ds, hv, fun y1 H1 s1 e1 => ?_⟩
    refine ⟨_, rfl, (by show 1 ≤ sizeLine; decide), fun t1 n1 => ?_⟩
    have s2 := s1.trans (same_new (o := .tup [x]) n1)
    rw [cutL_pre] at e1
    refine ⟨_, [d], Dp.same (same_new n1) e1, .tup (SqT.of upd_same) (.cons (Dp.same s2 hx) .nil), ?_, fun y2 H2 s3 e2 => ?_⟩
    · simp only [List.length_take, List.length_cons, List.length_nil, sizeLine_eq]
      omega
    have s4 := s2.trans s3
    refine ⟨_, rfl, _, rfl, _, _, rfl, rfl, _, rfl, ds, Dp.same s4 hv, fun y3 H3 s5 e3 => ?_⟩
    rw [show ((i : Int) + 1) = ((i + 1 : Nat) : Int) by omega, cutL_post] at e3
    refine ⟨_, _, Dp.same s5 e2, e3, ?_, fun y4 H4 s6 e4 => ?_⟩
    · simp only [List.length_take, List.length_append, List.length_drop, List.length_cons, List.length_nil, sizeLine_eq]
      omega
    rw [cut_set _ _ _ hi] at e4
    exact q _ _ ((s4.trans s5).trans s6) e4
end
end K5
end

section
set_option Elab.async false
set_option linter.all false
set_option maxRecDepth 100000
set_option maxHeartbeats 4000000
/-! The law's own defs: fraction, kept, scaled. -/
namespace K5
open PySem PySem.Spec PyProof.Rows L2
/-! ### fractions: plain -/
def fg (x y : Int) : Nat := gcdL (ents ([x], y))
def fr (x y : Int) : Int × Int := (x / (fg x y : Int), y / (fg x y : Int))
theorem fr_least (x y : Int) : least ([x], y) = ([(fr x y).1], (fr x y).2) := rfl
theorem fg_dvd (x y : Int) : ((fg x y : Nat) : Int) ∣ x ∧ ((fg x y : Nat) : Int) ∣ y := ⟨gcdL_dvd (by unfold ents; simp), gcdL_dvd (by unfold ents; simp)⟩
theorem fg_pos {x y : Int} (h : 0 < y) : 0 < fg x y := gcdL_pos (x := y) (by unfold ents; simp) (by omega)
theorem fr_mul {x y : Int} : x = (fg x y : Int) * (fr x y).1 ∧ y = (fg x y : Int) * (fr x y).2 :=
  ⟨(Int.mul_ediv_cancel' (fg_dvd x y).1).symm, (Int.mul_ediv_cancel' (fg_dvd x y).2).symm⟩
theorem fg_le {x y : Int} (h : 0 < y) : (fg x y : Int) ≤ y := Int.le_of_dvd h (fg_dvd x y).2
theorem fr_pos2 {x y : Int} (h : 0 < y) : 0 < (fr x y).2 := by
  have e := (fr_mul (x := x) (y := y)).2
  have g := fg_pos (x := x) h
  refine Classical.byContradiction fun z => ?_
  have : (fg x y : Int) * (fr x y).2 ≤ 0 := Int.mul_nonpos_of_nonneg_of_nonpos (by omega) (by omega)
  omega
theorem fr_pos1 {x y : Int} (h : 0 < y) (hx : 0 < x) : 0 < (fr x y).1 := by
  have e := (fr_mul (x := x) (y := y)).1
  refine Classical.byContradiction fun z => ?_
  have : (fg x y : Int) * (fr x y).1 ≤ 0 := Int.mul_nonpos_of_nonneg_of_nonpos (by omega) (by omega)
  omega
theorem fr_abs {x y : Int} : (fr x y).1.natAbs ≤ x.natAbs ∧ (fr x y).2.natAbs ≤ y.natAbs := by
  exact ⟨Int.natAbs_ediv_le_natAbs x _, Int.natAbs_ediv_le_natAbs y _⟩
theorem fr_one {x y : Int} (h : 0 < y) : Nat.gcd (fr x y).1.natAbs (fr x y).2.natAbs = 1 := by
  have e := least_one (r := ([x], y)) (fg_pos h)
  rw [fr_least] at e
  unfold ents gcdL gcdF at e
  simpa using e
theorem fr_frac {x y : Int} (h : 0 < y) : fracD (encF (fr x y)) = true := by
  show (decide (0 < (fr x y).2) && decide (Nat.gcd (fr x y).1.natAbs (fr x y).2.natAbs = 1)) = true
  rw [decide_eq_true (fr_pos2 h), decide_eq_true (fr_one h)]
  rfl
theorem fr_posF {x y : Int} (h : 0 < y) (hx : 0 < x) : posF (encF (fr x y)) = true := by
  show (fracD (encF (fr x y)) && decide (0 < (fr x y).1)) = true
  rw [fr_frac h, decide_eq_true (fr_pos1 h hx)]
  rfl
theorem posF_swap {p q : Int} (h : posF (encF (p, q)) = true) : posF (encF (q, p)) = true := by
  have h1 : ((decide (0 < q) && decide (Nat.gcd p.natAbs q.natAbs = 1)) && decide (0 < p)) = true := h
  show ((decide (0 < p) && decide (Nat.gcd q.natAbs p.natAbs = 1)) && decide (0 < q)) = true
  simp only [Bool.and_eq_true, decide_eq_true_eq] at h1 ⊢
  exact ⟨⟨h1.2, (Nat.gcd_comm _ _).trans h1.1.2⟩, h1.1.1⟩
theorem posF_inv {p q : Int} (h : posF (encF (p, q)) = true) : 0 < p ∧ 0 < q := by
  have h1 : ((decide (0 < q) && decide (Nat.gcd p.natAbs q.natAbs = 1)) && decide (0 < p)) = true := h
  simp only [Bool.and_eq_true, decide_eq_true_eq] at h1
  exact ⟨h1.2, h1.1.1⟩
section
variable {P : Program} {w : World} {K : PySem.W.Frag} {mg : Str → Option Value} {base : Heap}
/-! ### fraction -/
def spFrac (K : PySem.W.Frag) : Sp := fun vs H Q _ => ∃ (b : Addr) (lo : Int), vs = [.ref b, .int lo] ∧ Bx H b ∧ -9 ≤ lo ∧ lo ≤ 1 ∧ ∀ H' v p q, Kb b H H' → Bx H' b → Dp K H' v (encF (p, q)) → 0 < q → q ≤ 9 → p.natAbs ≤ 9 → (lo = 1 → posF (encF (p, q)) = true) → Q v H'
theorem scFrac : FnScope ["_law_box_here", "_law_least_here", "_law_row"] ["_law_box_here", "_law_least_here"] (defScope sLFrac) := ⟨rfl, rfl, rfl, by decide +kernel, rfl, by decide +kernel, by decide +kernel⟩
theorem ok_frac (D : Def K mg "_law_fraction" sLFrac ["_law_box_here", "_law_least_here"]) (OT : Ok P w K mg base CX0 1 "_law_take" sTake ["_law_box_here", "_law_many"] spTake) (OL : Ok P w K mg base CX0 2 "_law_least" sLLeast ["_law_coefficients", "_law_bound"] (spLLeast K)) :
    Ok P w K mg base CX0 3 "_law_fraction" sLFrac ["_law_box_here", "_law_least_here"] (spFrac K) := by
  refine .of D fun f fd F => F.ok scFrac (fun vs H Q E h => ?_) (fun cdv A outer s H vs Q E hr h => ?_)
  · obtain ⟨v, d, rfl, _⟩ := h
    rfl
  · obtain ⟨b, lo, rfl, bx, l0, l1, q⟩ := h
    refine ⟨_, pss_cons (ps_set (i := 2) scFrac.nd rfl (Or.inl rfl) (pe_c OL hr (pa_cons (pe_lst (pa_cons (pe_op op_add (pv 1) (pe_c OT (hr.mono (by decide)) (pa_cons (pv 0) (pa_cons (pe_op op_sub pe_int (pv 1)) pa_nil)))) pa_nil)) (pa_cons (pe_op op_add pe_int (pe_c OT (hr.mono (by decide)) (pa_cons (pv 0) (pa_cons pe_int pa_nil)))) pa_nil))))
      (pss_one (ps_ret (pe_tup (pa_cons (pe_ix (r := rIxT K) ix_tup (pe_ix (r := rIxT K) ix_tup (pv 2) pe_int (fun _ _ => rfl)) pe_int (fun _ _ => rfl)) (pa_cons (pe_ix (r := rIxT K) ix_tup (pv 2) pe_int (fun _ _ => rfl)) pa_nil))))), ?_⟩
    refine ⟨_, rfl, _, rfl, _, rfl, _, _, rfl, rfl, b, _, rfl, bx, by omega, by omega, fun H1 k1 kb1 bx1 hk1 => ?_⟩
    refine ⟨_, _, rfl, rfl, (by show 1 ≤ sizeLine; decide), fun p1 np1 => ?_⟩
    have kb2 : Kb b H (upd H1 p1 (.lst [.int (lo + (k1 : Int))])) := kb1.trans (Kb.of_same (same_new np1))
    have nb1 : b ≠ p1 := fun e => by
      obtain ⟨x, y, z, hb⟩ := bx1
      rw [e, np1] at hb
      cases hb
    have bx2 : Bx (upd H1 p1 (.lst [.int (lo + (k1 : Int))])) b := by
      obtain ⟨x, y, z, hb⟩ := bx1
      exact ⟨x, y, z, by rw [upd_ne nb1]; exact hb⟩
    refine ⟨_, rfl, b, _, rfl, bx2, by decide, by decide, fun H3 k3 kb3 bx3 hk3 => ?_⟩
    have h3 : H3 p1 = some (.lst [.int (lo + (k1 : Int))]) := kb3 _ _ (Ne.symm nb1) upd_same
    have y0 : (0 : Int) < 1 + (k3 : Int) := by omega
    have g0 : 0 < fg (lo + (k1 : Int)) (1 + (k3 : Int)) := fg_pos y0
    have gl : ((fg (lo + (k1 : Int)) (1 + (k3 : Int)) : Nat) : Int) ≤ 1 + (k3 : Int) := fg_le y0
    refine ⟨_, _, rfl, rfl, p1, [lo + (k1 : Int)], 1 + (k3 : Int), rfl, SqL.of h3, by show 1 ≤ 6; decide, g0, ?_, fun H4 v s4 ev => ?_⟩
    · have : ((gcdL (ents ([lo + (k1 : Int)], 1 + (k3 : Int))) : Nat) : Int) ≤ 1 + (k3 : Int) := gl
      omega
    rw [fr_least] at ev
    obtain ⟨a, v1, rfl, hsr, d1⟩ := Dp.R_inv ev
    obtain ⟨a1, rfl, hs1⟩ := Dp.I_inv d1
    refine ⟨_, rfl, a, _, _, _, rfl, rfl, hsr, at_of (j := 0) rfl rfl, a1, _, _, _, rfl, rfl, hs1, at_of (j := 0) rfl rfl, _, rfl, a, _, _, _, rfl, rfl, hsr, at_of (j := 1) rfl rfl, (by show 2 ≤ sizeLine; decide), fun p5 np5 => ?_⟩
    have bx4 : Bx H4 b := by
      obtain ⟨x, y, z, hb⟩ := bx3
      exact ⟨x, y, z, s4 _ _ hb⟩
    have nb5 : b ≠ p5 := fun e => by
      obtain ⟨x, y, z, hb⟩ := bx4
      rw [e, np5] at hb
      cases hb
    have fa := fr_abs (x := lo + (k1 : Int)) (y := 1 + (k3 : Int))
    have fp := fr_pos2 (x := lo + (k1 : Int)) y0
    refine q _ _ (fr (lo + (k1 : Int)) (1 + (k3 : Int))).1 (fr (lo + (k1 : Int)) (1 + (k3 : Int))).2 (((kb2.trans kb3).trans (Kb.of_same s4)).trans (Kb.of_same (same_new np5))) ?_ (Dp.F_of (SqT.of upd_same)) fp (by omega) (by omega) (fun e => fr_posF y0 (by omega))
    obtain ⟨x, y, z, hb⟩ := bx4
    exact ⟨x, y, z, by rw [upd_ne nb5]; exact hb⟩
/-! ### kept -/
def spKept (K : PySem.W.Frag) : Sp := fun vs H Q _ => ∃ v u rs ps, vs = [v, u] ∧ Dp K H v (encRs rs) ∧ Dp K H u (.tuple (ps.map encF)) ∧ (∀ r ∈ rs, r.1.length = ps.length ∧ BdL 1000000000 r.1) ∧ (∀ p ∈ ps, p.1.natAbs ≤ 1000 ∧ p.2.natAbs ≤ 1000) ∧ rs.length ≤ 60 ∧ ps.length ≤ 6 ∧
  ∀ H', Same H H' → Q (.int ((rs.countP fun r => kept r ps : Nat) : Int)) H'
theorem scKept : FnScope ["_law_rows_here", "_law_point", "_law_found", "_law_coefficients", "_law_bound", "_law_top", "_law_bottom", "_law_amount", "_law_part"] ["_law_rows_here", "_law_point"] (defScope sLKept) := ⟨rfl, rfl, rfl, by decide +kernel, rfl, by decide +kernel, by decide +kernel⟩
theorem ok_kept (B : Bl mg) (D : Def K mg "_law_kept" sLKept ["_law_rows_here", "_law_point"]) : Ok P w K mg base CX0 1 "_law_kept" sLKept ["_law_rows_here", "_law_point"] (spKept K) := by
  refine .of D fun f fd F => F.ok scKept (fun vs H Q E h => ?_) (fun cdv A outer s H vs Q E hr h => ?_)
  · obtain ⟨v, d, _, _, rfl, _⟩ := h
    rfl
  · obtain ⟨v, u, rs, ps, rfl, dv, du, hb, hp, h60, h6, q⟩ := h
    obtain ⟨ar, us, rfl, hR, ha⟩ := Dp.tup_inv dv
    have hul := DpAll.length ha
    rw [List.length_map] at hul
    obtain ⟨ap, ws, rfl, hP, hpa⟩ := Dp.tup_inv du
    have hwl := DpAll.length hpa
    rw [List.length_map] at hwl
    refine ⟨_, pss_cons (ps_set (i := 2) scKept.nd rfl (Or.inl rfl) pe_int) (pss_cons (ps_for PassesOwn.never rfl (pi_tup (pv 0)) (pg_tup rfl (pgs_cons (pg_name (i := 3) scKept.nd rfl (.inl rfl)) (pgs_cons (pg_name (i := 4) scKept.nd rfl (.inl rfl)) pgs_nil)))
      (pss_cons (ps_par (i := 5) (j := 6) rfl scKept.nd rfl rfl (by decide) rfl rfl (pa_cons (pe_op op_sub pe_int (pv 4)) (pa_cons pe_int pa_nil)) (by rfl))
      (pss_cons (ps_for PassesOwn.never rfl (RZ.pi_zipA rfl B.zip (pa_cons (pv 3) (pa_cons (pv 1) pa_nil))) (pg_tup rfl (pgs_cons (pg_name (i := 7) scKept.nd rfl (.inl rfl)) (pgs_cons (pg_name (i := 8) scKept.nd rfl (.inl rfl)) pgs_nil)))
        (pss_one (ps_par (i := 5) (j := 6) rfl scKept.nd rfl rfl (by decide) rfl rfl (pa_cons (pe_op op_add (pe_op op_mul (pv 5) (pe_ix (r := rIxT K) ix_tup (pv 8) pe_int (fun _ _ => rfl))) (pe_op op_mul (pe_op op_mul (pv 7) (pe_ix (r := rIxT K) ix_tup (pv 8) pe_int (fun _ _ => rfl))) (pv 6)))
          (pa_cons (pe_op op_mul (pv 6) (pe_ix (r := rIxT K) ix_tup (pv 8) pe_int (fun _ _ => rfl))) pa_nil)) (by rfl))))
      (pss_one (ps_set (i := 2) scKept.nd rfl (Or.inl rfl) (pe_op op_add (pv 2) (pe_t (f := "int") call_int1 B.int b_int (pa_cons (pe_cmpR op_ge (pv 5) pe_int (nomark _)) pa_nil)))))))) (pss_one (ps_ret (pv 2)))), ?_⟩
    refine ⟨_, rfl, ar, rfl, ⟨_, hR⟩, for_tup (K := K) (a := ar) (xs := us) (fun i σ H' => ∃ z3 z4 z5 z6 z7 z8, σ = [some (.ref ar), some (.ref ap), some (.int (((rs.take i).countP fun r => kept r ps : Nat) : Int)), z3, z4, z5, z6, z7, z8] ∧ Same H H')
      ⟨none, none, none, none, none, none, rfl, Same.refl H⟩ (fun i σ H' _ ⟨_, _, _, _, _, _, _, sa⟩ => SqT.fx (fx_same sa) hR) ?_ ?_⟩
    · rintro i y σ H1 hx ⟨z3, z4, z5, z6, z7, z8, rfl, s1⟩
      obtain ⟨d', hd', dy⟩ := DpAll.get (DpAll.same s1 ha) hx
      obtain ⟨r, gr, rfl⟩ := map_get hd'
      obtain ⟨hrl, hbd⟩ := hb r (List.mem_of_getElem? gr)
      obtain ⟨a, v1, rfl, hsr, d1⟩ := Dp.R_inv dy
      obtain ⟨a1, rfl, hs1⟩ := Dp.I_inv d1
      refine ⟨a, _, rfl, hsr, rfl, _, _, rfl, _, _, rfl, rfl, ?_⟩
      refine ⟨_, rfl, _, _, rfl, rfl, _, _, rfl, ?_⟩
      refine ⟨_, rfl, _, rfl, a1, ap, r.1.map V.int, ws, rfl, .inr ⟨hs1, SqT.fx (fx_same s1) hP, RZ.for_zipT (K := K) (a := a1) (b := ap) (xs := r.1.map V.int) (ys := ws) (by rw [List.length_map, hwl, hrl])
        (fun j σ H' => ∃ T B y7 y8, σ = [some (.ref ar), some (.ref ap), some (.int (((rs.take i).countP fun r => kept r ps : Nat) : Int)), some (.ref a1), some (.int r.2), some (.int T), some (.int B), y7, y8] ∧ Same H1 H' ∧ keepF (r.1.drop j) (ps.drop j) T B = keepF r.1 ps (0 - r.2) 1)
        ⟨0 - r.2, 1, z7, z8, rfl, Same.refl H1, rfl⟩ (fun j σ H' ⟨_, _, _, _, _, sa, _⟩ => ⟨SqT.fx (fx_same sa) hs1, SqT.fx (fx_same (s1.trans sa)) hP⟩) ?_ ?_⟩⟩
      · rintro j x y T0 σ H2 hxj hyj ⟨T, B, y7, y8, rfl, s2, hk⟩ nT
        obtain ⟨c, gc, rfl⟩ := map_get hxj
        have s3 := (s1.trans s2).trans (same_new (o := .tup [.int c, y]) nT)
        obtain ⟨e, ge, dy2⟩ := DpAll.get (DpAll.same s3 hpa) hyj
        obtain ⟨p, gp, rfl⟩ := map_get ge
        obtain ⟨a2, rfl, hs2⟩ := Dp.F_inv dy2
        have bc := hbd c (List.mem_of_getElem? gc)
        have bp := hp p (List.mem_of_getElem? gp)
        have m1 : (c * p.1).natAbs ≤ 1000000000 * 1000 := by
          rw [Int.natAbs_mul]
          exact Nat.mul_le_mul bc bp.1
        refine ⟨T0, _, rfl, SqT.of upd_same, rfl, _, _, rfl, _, _, rfl, rfl, ?_⟩
        refine ⟨_, rfl, _, rfl, a2, _, _, _, rfl, rfl, hs2, at_of (j := 1) rfl rfl, _, _, rfl, rfl, .inr (by omega), _, rfl, _, rfl, a2, _, _, _, rfl, rfl, hs2, at_of (j := 0) rfl rfl, _, _, rfl, rfl, .inr (by omega), _, rfl, _, _, rfl, rfl, .inl (by omega), _, _, rfl, rfl, _, rfl, _, rfl, a2, _, _, _, rfl, rfl, hs2, at_of (j := 1) rfl rfl, _, _, rfl, rfl, .inr (by omega), _, _, rfl, ?_⟩
        refine ⟨T * p.2 + c * p.1 * B, B * p.2, _, _, rfl, s2.trans (same_new nT), ?_⟩
        rw [← hk]
        obtain ⟨hj1, ej1⟩ := List.getElem?_eq_some_iff.mp gc
        obtain ⟨hj2, ej2⟩ := List.getElem?_eq_some_iff.mp gp
        rw [List.drop_eq_getElem_cons hj1, List.drop_eq_getElem_cons hj2, ej1, ej2]
        rfl
      · rintro σ H2 ⟨T, B, y7, y8, rfl, s2, hk⟩
        rw [List.length_map, List.drop_length] at hk
        have hk' : T = (keepF r.1 ps (0 - r.2) 1).1 := by
          rw [← hk]
          rfl
        refine ⟨_, rfl, _, rfl, _, _, rfl, rfl, .inr ⟨_, rfl, _, _, rfl, rfl, some (.ref a1), some (.int r.2), some (.int T), some (.int B), y7, y8, ?_, s1.trans s2⟩⟩
        rw [take_snoc gr, List.countP_append, List.countP_singleton]
        have ek : kept r ps = decide (0 ≤ T) := by
          unfold kept
          rw [← hk']
        rw [ek]
        by_cases c : 0 ≤ T
        · rw [decide_eq_true c]
          rfl
        · rw [decide_eq_false c]
          rfl
    · rintro σ H' ⟨z3, z4, z5, z6, z7, z8, rfl, s1⟩
      rw [hul, List.take_length]
      exact ⟨_, rfl, q _ s1⟩

/-! ### scaled -/
def spLScaled (K : PySem.W.Frag) : Sp := fun vs H Q _ => ∃ (v : V) (rs : List Row) (n i : Nat) (t u : Int), vs = [v, .int (i : Nat), .int t, .int u] ∧ Dp K H v (encRs rs) ∧ RowsOk n rs ∧ n ≤ 6 ∧ i < n ∧ (∀ r ∈ rs, BdL 1000000 r.1) ∧ t ≠ 0 ∧ t.natAbs ≤ 100 ∧ 0 < u ∧ u ≤ 100 ∧
  ∀ H' v', Same H H' → Dp K H' v' (encRs (srt (rs.map (scaleR i t u)))) → Q v' H'
theorem scLScaled : FnScope ["_law_rows_here", "_law_at", "_law_top", "_law_bottom", "_law_found", "_law_coefficients", "_law_bound", "_law_parts", "_law_item"] ["_law_rows_here", "_law_at", "_law_top", "_law_bottom"] (defScope sLScaled) := ⟨rfl, rfl, rfl, by decide +kernel, rfl, by decide +kernel, by decide +kernel⟩
theorem scale_list {c : List Int} {i : Nat} {t u : Int} {x : Int} (h : c[i]? = some x) : (c.map fun x => x * u).set i (x * t) = c.mapIdx fun k x => x * wS i t u k := by
  refine list_ext (by simp) fun k y z hy hz => ?_
  rw [List.getElem?_mapIdx] at hz
  rw [List.getElem?_set, List.length_map] at hy
  have hl := (List.getElem?_eq_some_iff.mp h).1
  unfold wS at hz
  by_cases e : i = k
  · subst e
    rw [if_pos rfl, if_pos hl] at hy
    rw [h] at hz
    have z' : x * (if i = i then t else u) = z := Option.some.inj hz
    rw [if_pos rfl] at z'
    rw [← Option.some.inj hy, z']
  · rw [if_neg e, List.getElem?_map] at hy
    cases g : c[k]? with
    | none =>
      rw [g] at hy
      cases hy
    | some y' =>
      rw [g] at hy hz
      have z' : y' * (if k = i then t else u) = z := Option.some.inj hz
      rw [if_neg (Ne.symm e)] at z'
      have y'' : y' * u = y := Option.some.inj hy
      rw [← y'', z']
theorem wS_ne' {i : Nat} {t u : Int} (ht : t ≠ 0) (hu : 0 < u) (k : Nat) : wS i t u k ≠ 0 := by
  unfold wS
  split
  · exact ht
  · omega
theorem ok_lscaled (B : Bl mg) (D : Def K mg "_law_scaled" sLScaled ["_law_rows_here", "_law_at", "_law_top", "_law_bottom"]) (OL : Ok P w K mg base CX0 2 "_law_least" sLLeast ["_law_coefficients", "_law_bound"] (spLLeast K)) :
    Ok P w K mg base CX0 3 "_law_scaled" sLScaled ["_law_rows_here", "_law_at", "_law_top", "_law_bottom"] (spLScaled K) := by
  refine .of D fun f fd F => F.ok scLScaled (fun vs H Q E h => ?_) (fun cdv A outer s H vs Q E hr h => ?_)
  · obtain ⟨v, d, _, _, _, _, rfl, _⟩ := h
    rfl
  · obtain ⟨v, rs, n, i, t, u, rfl, dr, RS, n6, hi, bdr, ht, ht1, hu, hu1, q⟩ := h
    obtain ⟨ar, us, rfl, hR, ha⟩ := Dp.tup_inv dr
    have hul := DpAll.length ha
    rw [List.length_map] at hul
    have h60 := RS.most
    refine ⟨_, pss_cons (ps_set (i := 4) scLScaled.nd rfl (Or.inl rfl) (pe_lst pa_nil))
      (pss_cons (ps_for PassesOwn.never rfl (pi_tup (pv 0)) (pg_tup rfl (pgs_cons (pg_name (i := 5) scLScaled.nd rfl (.inl rfl)) (pgs_cons (pg_name (i := 6) scLScaled.nd rfl (.inl rfl)) pgs_nil)))
        (pss_cons (ps_setLc (i := 7) (own := [("_law_item", 8)]) (g := gName 8) (tt := tYes) rfl scLScaled.nd rfl rfl (sw_true rfl rfl rfl (by decide +kernel)) (pi_tup (pv 5)) (blkOk_by (N := ["_law_rows_here", "_law_at", "_law_top", "_law_bottom", "_law_found", "_law_coefficients", "_law_bound", "_law_parts", "_law_item"]) (sc := defScope sLScaled) (by decide +kernel))
          (fun _ _ _ _ _ => pg_name (i := 8) scLScaled.nd rfl (.inl rfl)) (fun _ _ _ _ _ => pts_nil) (fun _ _ _ _ _ => pe_op op_mul (pv 8) (pv 3)))
        (pss_cons (ps_asg (pe_op op_mul (pe_ix (r := rIxT K) ix_tup (pv 5) (pv 1) (fun _ _ => rfl)) (pv 2)) (pg_sub (pv 7) (pv 1) set_list))
        (pss_one (ps_expr (pe_bm PySem.F.plainAttrs_list PySem.F.slot_list_append PySem.F.type_list_append mt_append (pv 4) (pa_cons (pe_c OL hr (pa_cons (pv 7) (pa_cons (pe_op op_mul (pv 6) (pv 3)) pa_nil))) pa_nil)))))))
      (pss_one (ps_ret (pe_t (f := "tuple") call_tupD B.tuple b_tuple (pa_cons (pe_b (f := "sorted") (cr_sortedD encR hr.units) B.sorted b_sorted (pa_cons (pv 4) pa_nil)) pa_nil))))), ?_⟩
    refine ⟨(by show 0 ≤ sizeLine; exact Nat.zero_le _), fun L nL => ?_⟩
    have s3 : Same H (upd H L (.lst [])) := same_new nL
    refine ⟨_, rfl, ar, rfl, ⟨_, SqT.fx (fx_same s3) hR⟩, for_tup (K := K) (a := ar) (xs := us)
      (fun j σ H' => ∃ ys z5 z6 z7 z8, σ = [some (.ref ar), some (.int (i : Nat)), some (.int t), some (.int u), some (.ref L), z5, z6, z7, z8] ∧ Kb L H H' ∧ H' L = some (.lst ys) ∧ ys.length = j ∧ DpAll K H' ys (((rs.take j).map (scaleR i t u)).map encR))
      ⟨[], none, none, none, none, rfl, Kb.put, upd_same, rfl, .nil⟩ (fun j σ H' _ ⟨_, _, _, _, _, _, kb, _⟩ => SqT.fx (fx_same (Kb.same_new kb nL)) hR) ?_ ?_⟩
    · rintro j y σ Ha hx ⟨ys, z5, z6, z7, z8, rfl, kb, hL, hyl, hys⟩
      have s4 := Kb.same_new kb nL
      have hj : j < us.length := (List.getElem?_eq_some_iff.mp hx).1
      obtain ⟨d', hd', dy⟩ := DpAll.get (DpAll.same s4 ha) hx
      obtain ⟨r, gr, rfl⟩ := map_get hd'
      have ok := RS.ok r (List.mem_of_getElem? gr)
      have bd := bdr r (List.mem_of_getElem? gr)
      obtain ⟨a, v1, rfl, hsr, d1⟩ := Dp.R_inv dy
      obtain ⟨a1, rfl, hs1⟩ := Dp.I_inv d1
      have hc : i < r.1.length := by rw [ok.len]; exact hi
      have gx : r.1[i]? = some r.1[i] := List.getElem?_eq_getElem hc
      have l6 : r.1.length ≤ 6 := by rw [ok.len]; exact n6
      refine ⟨a, _, rfl, hsr, rfl, _, _, rfl, _, _, rfl, rfl, ?_⟩
      refine ⟨_, rfl, a1, rfl, ⟨_, hs1⟩, fun Dn nD => lc_itD (K := K) walk_tup ((r.1.map fun x => x * u).map PyData.int) (tup_ints _) (by simp) (by rw [List.length_map, sizeLine_eq]; omega) nD (fun _ sb => SqT.fx (fx_same sb) hs1) ?_ ?_⟩
      · intro k y2 e2 Hb Hc R Nx hk he sb hY hq
        obtain ⟨rfl, hx2⟩ := hY
        obtain ⟨x, gx2, rfl⟩ := map_get hx2
        obtain ⟨z, gz, rfl⟩ := map_get he
        obtain ⟨x', gx3, rfl⟩ := map_get gz
        rw [gx2] at gx3
        have ex : x = x' := Option.some.inj gx3
        subst ex
        exact ⟨rfl, _, rfl, _, rfl, _, _, rfl, rfl, .inr (by omega), hq _ _ (Same.refl _) (.int _)⟩
      · intro H5 zs s5 hD hd
        rw [DpAll.ints_inv hd] at hD
        have hix : ixN ((r.1.map fun x => x * u).map V.int).length (i : Nat) = some i := by
          unfold ixN
          rw [if_pos (by omega), if_pos (by rw [List.length_map, List.length_map]; omega)]
          simp
        refine ⟨_, rfl, _, rfl, a1, _, _, _, rfl, rfl, SqT.fx (fx_same s5) hs1, at_of (j := i) rfl (by rw [List.getElem?_map, gx]; rfl), _, rfl, _, _, rfl, rfl, .inr (by omega), _, rfl, _, rfl, Dn, _, _, i, rfl, rfl, hD, hix, ?_⟩
        rw [← List.map_set, scale_list gx]
        have kbn : ∀ b o, Ha b = some o → upd H5 Dn (.lst ((r.1.mapIdx fun k x => x * wS i t u k).map V.int)) b = some o := fun b o e => by
          rw [upd_ne (ne_of_none e nD)]
          exact s5 b o e
        have hL5 := kbn _ _ hL
        refine ⟨_, rfl, .inl ⟨rfl, _, SqL.of hL5⟩, _, rfl, _, rfl, _, rfl, _, _, rfl, rfl, .inr (by omega), ?_⟩
        have nz' : NZ (r.1.mapIdx fun k x => x * wS i t u k) := app_nz (wb := u) (r := r) (fun k => wS_ne' ht hu k) ok.nz
        have bd' := scale_bd (i := i) bd ht1 (show u.natAbs ≤ 100 by omega)
        refine ⟨Dn, r.1.mapIdx fun k x => x * wS i t u k, r.2 * u, rfl, SqL.of upd_same, by rw [List.length_mapIdx]; exact l6, NZ.ents (r := (r.1.mapIdx fun k x => x * wS i t u k, r.2 * u)) nz', gcd_lt nz' (fun x hx => by have := bd' x hx; omega), fun H6 v s6 ev => ?_⟩
        have s7 : Same Ha H6 := fun b o e => s6 b o (kbn b o e)
        refine ⟨L, ys, v, rfl, rfl, s7 _ _ hL, by rw [hyl, sizeLine_eq]; omega, ys ++ [v], _, _, _, _, rfl, ?_, upd_same, by rw [List.length_append, hyl]; rfl, ?_⟩
        · intro b o n eb
          rw [upd_ne n]
          exact s7 _ _ (kb b o n eb)
        · rw [take_snoc gr, List.map_append, List.map_append]
          have fx : Fx H6 (upd H6 L (.lst (ys ++ [v]))) := Fx.upd fun o eo => by
            rw [s7 _ _ hL] at eo
            cases eo
            rfl
          exact DpAll.snoc (DpAll.fx fx (tup_Rl _) (DpAll.same s7 hys)) (Dp.fx fx (tup_R _) ev)
    · rintro σ Ha ⟨ys, z5, z6, z7, z8, rfl, kb, hL, hyl, hys⟩
      rw [hul, List.take_length] at hys
      have s4 := Kb.same_new kb nL
      refine ⟨_, rfl, _, ys, rs.map (scaleR i t u), rfl, SqL.of hL, hys, alike_Rs _, sortable_Rs _, fun b _ => by have := depth_R b; omega, by rw [List.length_map, sizeLine_eq]; omega, fun ws p np dws => ?_⟩
      have s5 := s4.trans (same_new (o := .lst ws) np)
      refine ⟨p, ws, _, rfl, SqL.of upd_same, DpAll.same (same_new np) dws, fun vt H4 s6' et ndt => q _ _ (s5.trans s6') et⟩
end
end K5
end

section
set_option Elab.async false
set_option linter.all false
set_option maxRecDepth 100000
set_option maxHeartbeats 4000000
/-! The law's own defs: odd. -/
namespace K5
open PySem PySem.Spec PyProof.Rows L2
def oddA : List PyData := [.none, .int 0, .str "", .str "A", .str "abcdef", .str "a b", .tuple [], .tuple [.str "a"], .list [], .dict [], .bool true, .tuple [.int 1, .int 0], .tuple [.int 0, .int 1], .tuple [.int 2, .int 4], .tuple [.int (-1), .int 2], .tuple [.bool true, .int 2]]
def oddB : List PyData := [.int 3, .list [], .tuple [.int 3], .tuple [.int 1, .int 2, .int 1], .tuple [.int 1, .int (-2)]]
def oddOk : PyData → Bool
  | .str x => !nameB x && decide (x.length ≤ 6)
  | .tuple ds => !posF (.tuple ds) && decide (ds.length ≤ 3)
  | _ => true
theorem odd_ok : ∀ d ∈ oddA ++ oddB, oddOk d = true := by decide +kernel
theorem oddOk_name {d : PyData} (h : oddOk d = true) : nameD d = false := by
  cases d with
  | str x =>
    have h' : (!nameB x && decide (x.length ≤ 6)) = true := h
    show nameB x = false
    cases e : nameB x with
    | false => rfl
    | true =>
      rw [e] at h'
      cases h'
  | _ => rfl
theorem oddOk_pos {d : PyData} (h : oddOk d = true) : posF d = false := by
  cases d with
  | tuple ds =>
    have h' : (!posF (.tuple ds) && decide (ds.length ≤ 3)) = true := h
    cases e : posF (.tuple ds) with
    | false => rfl
    | true =>
      rw [e] at h'
      cases h'
  | _ => rfl
theorem oddOk_str {x : Str} (h : oddOk (.str x) = true) : x.length ≤ sizeLine := by
  have h' : (!nameB x && decide (x.length ≤ 6)) = true := h
  have := of_decide_eq_true (Bool.and_eq_true_iff.mp h').2
  rw [sizeLine_eq]
  omega
theorem oddOk_tup {ds : List PyData} (h : oddOk (.tuple ds) = true) : ds.length ≤ sizeLine := by
  have h' : (!posF (.tuple ds) && decide (ds.length ≤ 3)) = true := h
  have := of_decide_eq_true (Bool.and_eq_true_iff.mp h').2
  rw [sizeLine_eq]
  omega
section
variable {P : Program} {w : World} {K : PySem.W.Frag} {mg : Str → Option Value} {base : Heap}
/-- an odd value, none of b -/
def OddV (K : PySem.W.Frag) (b : Addr) (H : Hp) (v : V) (d : PyData) : Prop := Av K H v d ∧ FR v ∧ v ≠ .ref b
theorem OddV.kb {H H' : Hp} {b : Addr} {v : V} {d : PyData} (h : OddV K b H v d) (k : Kb b H H') (nf : ∀ u, H b = some u → fixB u = false) : OddV K b H' v d := ⟨Av.kb h.1 k nf h.2.2, h.2⟩
theorem OddV.same {H H' : Hp} {b : Addr} {v : V} {d : PyData} (h : OddV K b H v d) (k : Same H H') : OddV K b H' v d := ⟨Av.same h.1 k, h.2⟩
theorem OddV.ref {H : Hp} {b p : Addr} {d : PyData} (h : Av K H (.ref p) d) (n : p ≠ b) : OddV K b H (.ref p) d := ⟨h, .inr ⟨p, rfl⟩, fun e => n (V.ref.inj e)⟩
theorem odd_flat {H : Hp} {b : Addr} {v : V} {d : PyData} (t : tupD d = true) (h : Dp K H v d) (f : flatV v = true) : OddV K b H v d := ⟨.inl ⟨t, h⟩, .inl f, fun e => by
  rw [e] at f
  cases f⟩
abbrev Odds (K : PySem.W.Frag) (b : Addr) (H : Hp) : List V → List PyData → Prop := Paired (OddV K b H)
theorem Odds.same {H H' : Hp} {b : Addr} : ∀ {vs : List V} {ds : List PyData}, Odds K b H vs ds → Same H H' → Odds K b H' vs ds
  | _, _, .nil, _ => .nil
  | _, _, .cons h t, s => .cons (h.same s) (Odds.same t s)
theorem Odds.app {H : Hp} {b : Addr} : ∀ {vs ws : List V} {ds es : List PyData}, Odds K b H vs ds → Odds K b H ws es → Odds K b H (vs ++ ws) (ds ++ es)
  | _, _, _, _, .nil, k => k
  | _, _, _, _, .cons h t, k => .cons h (Odds.app t k)
def spOdd (K : PySem.W.Frag) : Sp := fun vs H Q _ => ∃ b, vs = [.ref b] ∧ Bx H b ∧ ∀ H' v d, Kb b H H' → Bx H' b → OddV K b H' v d → oddOk d = true → Q v H'
theorem scOdd : FnScope ["_law_box_here", "_law_odd_here"] ["_law_box_here"] (defScope sLOdd) := ⟨rfl, rfl, rfl, by decide +kernel, rfl, by decide +kernel, by decide +kernel⟩
theorem ok_odd (D : Def K mg "_law_odd" sLOdd ["_law_box_here"]) (OP : Ok P w K mg base CX0 2 "_law_pick" sPick ["_law_box_here", "_law_some"] (spPick K)) : Ok P w K mg base CX0 3 "_law_odd" sLOdd ["_law_box_here"] (spOdd K) := by
  refine .of D fun f fd F => F.ok scOdd (fun vs H Q E h => ?_) (fun cdv A outer s H vs Q E hr h => ?_)
  · obtain ⟨v, rfl, _⟩ := h
    rfl
  · obtain ⟨b, rfl, bx, q⟩ := h
    refine ⟨_, pss_cons (ps_set (i := 1) scOdd.nd rfl (Or.inl rfl) (pe_lst (pa_cons pe_non (pa_cons pe_int (pa_cons pe_str (pa_cons pe_str (pa_cons pe_str (pa_cons pe_str (pa_cons (pe_tup pa_nil) (pa_cons (pe_tup (pa_cons pe_str pa_nil)) (pa_cons (pe_lst pa_nil) (pa_cons pe_dnewK (pa_cons pe_bl
        (pa_cons (pe_tup (pa_cons pe_int (pa_cons pe_int pa_nil))) (pa_cons (pe_tup (pa_cons pe_int (pa_cons pe_int pa_nil))) (pa_cons (pe_tup (pa_cons pe_int (pa_cons pe_int pa_nil))) (pa_cons (pe_tup (pa_cons (pe_op op_sub pe_int pe_int) (pa_cons pe_int pa_nil))) (pa_cons (pe_tup (pa_cons pe_bl (pa_cons pe_int pa_nil))) pa_nil))))))))))))))))))
      (pss_one (ps_ret (pe_c OP hr (pa_cons (pv 0) (pa_cons (pe_op op_cat (pv 1) (pe_lst (pa_cons pe_int (pa_cons (pe_lst (pa_cons pe_int (pa_cons pe_int pa_nil))) (pa_cons (pe_tup (pa_cons pe_int pa_nil)) (pa_cons (pe_tup (pa_cons pe_int (pa_cons pe_int (pa_cons pe_int pa_nil)))) (pa_cons (pe_tup (pa_cons pe_int (pa_cons (pe_op op_sub pe_int pe_int) pa_nil))) pa_nil))))))) pa_nil))))), ?_⟩
    obtain ⟨bxx, bxy, bxz, hb⟩ := bx
    have nb : ∀ {H' : Hp} {p : Addr}, Same H H' → H' p = none → p ≠ b := fun {H' p} s n e => by
      have := s _ _ hb
      rw [← e, n] at this
      cases this
    refine ⟨(by show 0 ≤ sizeLine; exact Nat.zero_le _), fun p1 n1 => ?_⟩
    have s1 := same_new (o := .tup []) n1
    refine ⟨(by show 1 ≤ sizeLine; decide), fun p2 n2 => ?_⟩
    have s2 := s1.trans (same_new (o := .tup [.str "a"]) n2)
    refine ⟨(by show 0 ≤ sizeLine; exact Nat.zero_le _), fun p3 n3 => ?_⟩
    have s3 := s2.trans (same_new (o := .lst []) n3)
    refine fun p4 n4 => ?_
    have s4 := s3.trans (same_new (o := .dK []) n4)
    refine ⟨(by show 2 ≤ sizeLine; decide), fun p5 n5 => ?_⟩
    have s5 := s4.trans (same_new (o := .tup [.int 1, .int 0]) n5)
    refine ⟨(by show 2 ≤ sizeLine; decide), fun p6 n6 => ?_⟩
    have s6 := s5.trans (same_new (o := .tup [.int 0, .int 1]) n6)
    refine ⟨(by show 2 ≤ sizeLine; decide), fun p7 n7 => ?_⟩
    have s7 := s6.trans (same_new (o := .tup [.int 2, .int 4]) n7)
    refine ⟨_, _, rfl, rfl, (by show 2 ≤ sizeLine; decide), fun p8 n8 => ?_⟩
    have s8 := s7.trans (same_new (o := .tup [.int (0 - 1), .int 2]) n8)
    refine ⟨(by show 2 ≤ sizeLine; decide), fun p9 n9 => ?_⟩
    have s9 := s8.trans (same_new (o := .tup [.bl true, .int 2]) n9)
    refine ⟨(by show 16 ≤ sizeLine; decide), fun p10 n10 => ?_⟩
    have k9 := same_new (o := .tup [.bl true, .int 2]) n9
    have k8 := (same_new (o := .tup [.int (0 - 1), .int 2]) n8).trans k9
    have k7 := (same_new (o := .tup [.int 2, .int 4]) n7).trans k8
    have k6 := (same_new (o := .tup [.int 0, .int 1]) n6).trans k7
    have k5 := (same_new (o := .tup [.int 1, .int 0]) n5).trans k6
    have k4 := (same_new (o := .dK []) n4).trans k5
    have k3 := (same_new (o := .lst []) n3).trans k4
    have k2 := (same_new (o := .tup [.str "a"]) n2).trans k3
    have s10 := s9.trans (same_new (o := .lst [.non, .int 0, .str "", .str "A", .str "abcdef", .str "a b", .ref p1, .ref p2, .ref p3, .ref p4, .bl true, .ref p5, .ref p6, .ref p7, .ref p8, .ref p9]) n10)
    have ap : ∀ {Hn : Hp} {p : Addr} {xs : List V} {ds : List PyData}, tupDs ds = true → Hn p = some (.tup xs) → DpAll K Hn xs ds → Av K Hn (.ref p) (.tuple ds) := fun {Hn p xs ds} t e a => .inl ⟨by rw [tupD]; exact t, .tup (SqT.of e) a⟩
    have oA : Odds K b (upd (upd (upd (upd (upd (upd (upd (upd (upd H p1 (.tup [])) p2 (.tup [.str "a"])) p3 (.lst [])) p4 (.dK [])) p5 (.tup [.int 1, .int 0])) p6 (.tup [.int 0, .int 1])) p7 (.tup [.int 2, .int 4])) p8 (.tup [.int (0 - 1), .int 2])) p9 (.tup [.bl true, .int 2]))
        [.non, .int 0, .str "", .str "A", .str "abcdef", .str "a b", .ref p1, .ref p2, .ref p3, .ref p4, .bl true, .ref p5, .ref p6, .ref p7, .ref p8, .ref p9] oddA := by
      unfold oddA
      refine .cons (odd_flat rfl .non rfl) (.cons (odd_flat rfl (.int _) rfl) (.cons (odd_flat rfl (.str _) rfl) (.cons (odd_flat rfl (.str _) rfl) (.cons (odd_flat rfl (.str _) rfl) (.cons (odd_flat rfl (.str _) rfl)
        (.cons (.ref (ap rfl (k2 _ _ upd_same) .nil) (nb (Same.refl H) n1)) (.cons (.ref (ap rfl (k3 _ _ upd_same) (.cons (.str _) .nil)) (nb s1 n2))
        (.cons (.ref (.inr (.inl ⟨rfl, p3, [], rfl, k4 _ _ upd_same⟩)) (nb s2 n3)) (.cons (.ref (.inr (.inr ⟨rfl, p4, [], rfl, k5 _ _ upd_same⟩)) (nb s3 n4)) (.cons (odd_flat rfl (.bl _) rfl)
        (.cons (.ref (ap rfl (k6 _ _ upd_same) (.cons (.int _) (.cons (.int _) .nil))) (nb s4 n5)) (.cons (.ref (ap rfl (k7 _ _ upd_same) (.cons (.int _) (.cons (.int _) .nil))) (nb s5 n6)) (.cons (.ref (ap rfl (k8 _ _ upd_same) (.cons (.int _) (.cons (.int _) .nil))) (nb s6 n7))
        (.cons (.ref (ap rfl (k9 _ _ upd_same) (.cons (.int _) (.cons (.int _) .nil))) (nb s7 n8)) (.cons (.ref (ap rfl upd_same (.cons (.bl _) (.cons (.int _) .nil))) (nb s8 n9)) .nil)))))))))))))))
    refine ⟨_, rfl, _, rfl, (by show 2 ≤ sizeLine; decide), fun q1 m1 => ?_⟩
    have t1 := s10.trans (same_new (o := .lst [.int 1, .int 2]) m1)
    refine ⟨(by show 1 ≤ sizeLine; decide), fun q2 m2 => ?_⟩
    have t2 := t1.trans (same_new (o := .tup [.int 3]) m2)
    refine ⟨(by show 3 ≤ sizeLine; decide), fun q3 m3 => ?_⟩
    have t3 := t2.trans (same_new (o := .tup [.int 1, .int 2, .int 1]) m3)
    refine ⟨_, _, rfl, rfl, (by show 2 ≤ sizeLine; decide), fun q4 m4 => ?_⟩
    have t4 := t3.trans (same_new (o := .tup [.int 1, .int (0 - 2)]) m4)
    refine ⟨(by show 5 ≤ sizeLine; decide), fun q5 m5 => ?_⟩
    have e4 := same_new (o := .tup [.int 1, .int (0 - 2)]) m4
    have e3 := (same_new (o := .tup [.int 1, .int 2, .int 1]) m3).trans e4
    have e2 := (same_new (o := .tup [.int 3]) m2).trans e3
    have e1 := (same_new (o := .lst [.int 1, .int 2]) m1).trans e2
    have e0 := (same_new (o := .lst [.non, .int 0, .str "", .str "A", .str "abcdef", .str "a b", .ref p1, .ref p2, .ref p3, .ref p4, .bl true, .ref p5, .ref p6, .ref p7, .ref p8, .ref p9]) n10).trans e1
    have t5 := t4.trans (same_new (o := .lst [.int 3, .ref q1, .ref q2, .ref q3, .ref q4]) m5)
    have h10 := (e1.trans (same_new (o := .lst [.int 3, .ref q1, .ref q2, .ref q3, .ref q4]) m5)) _ _ (upd_same (a := p10))
    refine ⟨p10, q5, _, _, rfl, rfl, h10, upd_same, (by show 21 ≤ sizeLine; decide), fun q6 m6 => ?_⟩
    have t6 := t5.trans (same_new (o := .lst [.non, .int 0, .str "", .str "A", .str "abcdef", .str "a b", .ref p1, .ref p2, .ref p3, .ref p4, .bl true, .ref p5, .ref p6, .ref p7, .ref p8, .ref p9, .int 3, .ref q1, .ref q2, .ref q3, .ref q4]) m6)
    have oB := Odds.same (K := K) (b := b) (vs := [.int 3, .ref q1, .ref q2, .ref q3, .ref q4]) (ds := oddB) (by
      unfold oddB
      exact .cons (odd_flat rfl (.int _) rfl) (.cons (.ref (.inr (.inl ⟨rfl, q1, _, rfl, e2 _ _ upd_same⟩)) (nb s10 m1)) (.cons (.ref (ap rfl (e3 _ _ upd_same) (.cons (.int _) .nil)) (nb t1 m2)) (.cons (.ref (ap rfl (e4 _ _ upd_same) (.cons (.int _) (.cons (.int _) (.cons (.int _) .nil)))) (nb t2 m3))
        (.cons (.ref (ap rfl upd_same (.cons (.int _) (.cons (.int _) .nil))) (nb t3 m4)) .nil))))) ((same_new (o := .lst [.int 3, .ref q1, .ref q2, .ref q3, .ref q4]) m5).trans (same_new (o := .lst [.non, .int 0, .str "", .str "A", .str "abcdef", .str "a b", .ref p1, .ref p2, .ref p3, .ref p4, .bl true, .ref p5, .ref p6, .ref p7, .ref p8, .ref p9, .int 3, .ref q1, .ref q2, .ref q3, .ref q4]) m6))
    have oA2 := Odds.same (Odds.same (Odds.same oA e0) (same_new (o := .lst [.int 3, .ref q1, .ref q2, .ref q3, .ref q4]) m5)) (same_new (o := .lst [.non, .int 0, .str "", .str "A", .str "abcdef", .str "a b", .ref p1, .ref p2, .ref p3, .ref p4, .bl true, .ref p5, .ref p6, .ref p7, .ref p8, .ref p9, .int 3, .ref q1, .ref q2, .ref q3, .ref q4]) m6)
    have all := Odds.app oA2 oB
    have bx6 : Bx _ b := ⟨_, _, _, t6 _ _ hb⟩
    refine ⟨b, q6, _, rfl, bx6, fun H' kb => .inl (SqL.of (kb _ _ (nb t5 m6) upd_same)), (by show 0 < 21; decide), (by show 21 < 1000; decide), fun H' k v kb bx' hk => ?_⟩
    obtain ⟨d, gd, od⟩ := LiI.paired_get all hk
    exact q H' v d ((Kb.of_same t6).trans kb) bx' (od.kb kb bx6.nf) (odd_ok d (List.mem_of_getElem? gd))
end
end K5
end

section
set_option Elab.async false
set_option linter.all false
set_option maxRecDepth 100000
set_option maxHeartbeats 4000000
/-! A try with several clauses, each naming the error; what hears an action. -/
namespace K5
open PySem PySem.Spec PyProof.Rows L2
/-- the ends of a clause that names its error in slot i -/
def gone (i : Nat) (D : Ends) : Ends := { nx := fun σ H => D.nx (σ.set i none) H, rt := D.rt, bk := fun σ H => D.bk (σ.set i none) H, ct := fun σ H => D.ct (σ.set i none) H }
def wAsM (K : PySem.W.Frag) (i : Nat) (Wout : WX) (D : Ends) : List (Value × (Addr → Value → Option Addr → TS)) → WX
  | [] => Wout
  | (c, ts) :: r => fun cls d σ H => ∃ b, PySem.W.exmOne K cls c = some b ∧ (b = true → ∀ a, H a = none → i < σ.length → ts a cls d (gone i D) (σ.set i (some (.ref a))) H) ∧ (b = false → wAsM K i Wout D r cls d σ H)
inductive AsOk (X : Cx) (n : Str) : List ExceptHandler → List (Value × (Addr → Value → Option Addr → TS)) → Prop
  | nil : AsOk X n [] []
  | cons {x : Str} {c : Value} {ts : Addr → Value → Option Addr → TS} {b₀ : Stmt} {suite : List Stmt} {np pos' : Pos} {hds : List ExceptHandler} {l : List (Value × (Addr → Value → Option Addr → TS))} (hc : Names X x c)
      (hsu : ∀ (a : Addr) (oe : Obj) (cls : Value) (d : Option Addr) (pn : List (Addr × Obj)), Zc cls d oe → (∃ vs, oe.data = .fields vs) → PSs (X.suite a ((a, oe) :: pn)) (b₀ :: suite) (ts a cls d)) (r : AsOk X n hds l) :
      AsOk X n (.ExceptHandler (some (.Name x np)) (some n) (b₀ :: suite) pos' :: hds) ((c, ts) :: l)
section
variable {X : Cx} {n : Str} {i : Nat} {body : List Stmt} {h₀ : ExceptHandler} {hds : List ExceptHandler} {l : List (Value × (Addr → Value → Option Addr → TS))} {pos : Pos} {tb : WX → TS} {Wout : WX}
theorem ps_try_asM (hs : X.stack = X.env :: X.outer) (hf : X.env.frame = some X.env.locals) (hN : X.N.Nodup) (hi : X.N[i]? = some n) (hln : X.env.kindOf n = some .local) (tk : Takes X Wout)
    (hb : ∀ (W : WX) (pn : List (Addr × Obj)) (xe : Value → Shared → Prop), Takes (X.tr pn xe) W → PassesOwn (model X.prog X.w) X.A X.env xe → PSs (X.tr pn xe) body (tb W))
    (hh : AsOk X n (h₀ :: hds) l) : PS X (.Try body (h₀ :: hds) [] [] pos) (fun D σ H => tb (wAsM X.K i Wout D l) D σ H) := by
  refine ⟨fun pins s σ H D I h => ?_⟩
  have ok := I.ok
  have hfr : X.A.frames = some (X.env :: X.outer) := by rw [ok.frames, hs]
  have hloc : Loc X.env.scope n := .inl hln
  refine wpAny_Try_except ?_
  refine wpAny_mono ((hb (wAsM X.K i Wout D l) (X.pn ++ pins) (fun e s₁ => wpAny (model X.prog X.w) X.A (noteFrame e X.env) (fun _ s₂ => wpAny (model X.prog X.w) X.A (setFlight e none) (fun _ s₃ =>
    wpAny (model X.prog X.w) X.A (handleBy e X.env (h₀ :: hds)) (SP X pins D) X.xe s₃) X.xe s₂) X.xe s₁) (fun u s' xx => ?_) PassesOwn.looking).run [] s σ H D (I.toTry _) h) (fun f s1 hsp => ?_) (fun e s1 he => he)
  · obtain ⟨a, B, sI, pins', σ', H', cls, d, rfl, J', nb, up, sky, na, os, ag, w⟩ := xx
    have J : Inv X pins σ' H' sI := J'.ofTry ok
    have sky' : Sky B (X.env :: X.outer) a (Zc cls d) X.env.locals s'.heap := by
      rw [← hs]
      exact sky
    show wpAny (model X.prog X.w) X.A (noteFrame (.ref a) X.env) _ _ _
    refine Sky.land Zc.steady hfr hf sky' fun h3 fl3 up3 => ?_
    have J3 : Inv X pins σ' H' { s' with heap := h3 } := J.landed nb fl3.1 (up.trans up3) os ag
    obtain ⟨oe3, vs3, he3, hz3, hd3⟩ := fl3.there
    have off : a ∉ frs (X.env :: X.outer) := fun hm => by
      obtain ⟨_, o', e', hnf⟩ := fl3.2.2.1.mem hm
      rw [he3] at e'
      cases e'
      exact hnf _ hd3
    have nL : a ≠ X.env.locals := fun z => off (List.mem_filterMap.mpr ⟨X.env, List.mem_cons_self, by rw [hf, z]⟩)
    have nF : a ∉ X.fs := fun hm => by
      obtain ⟨e, he, q⟩ := List.mem_filterMap.mp hm
      exact off (List.mem_filterMap.mpr ⟨e, List.mem_cons_of_mem _ he, q⟩)
    have S3 := J3.suite he3 hd3 na nL nF
    have go : ∀ {hds' : List ExceptHandler} {l' : List (Value × (Addr → Value → Option Addr → TS))}, AsOk X n hds' l' → wAsM X.K i Wout D l' cls d σ' H' →
        wpAny (model X.prog X.w) X.A (handleBy (.ref a) X.env hds') (SP X pins D) X.xe { s' with heap := h3 } := by
      intro hds' l' hk
      induction hk with
      | nil =>
        intro w
        refine wpAny_handleBy_nil ?_
        obtain ⟨k1, k2, k3, oe, vs, T, oT, ts', he, hz, hd, h1, hr⟩ := id fl3
        unfold PySem.passOn
        refine wpAny_bind (wpAny_field he hd h1 ?_)
        rw [if_neg (show ¬ ((Value.ref T == Value.none) = true) from by simp)]
        have fin : wpAny (model X.prog X.w) X.A (setFlight (.ref a) X.env.frame) (fun _ s4 => wpAny (model X.prog X.w) X.A (throw (.ref a) : Sem Flow) (SP X pins D) X.xe s4) X.xe { s' with heap := h3 } := by
          rw [hf]
          exact HandSPX.setFlight_upZ fl3 fun h4 hh4 up4 => wpAny_throw (tk _ _ ⟨a, B, sI, pins, σ', H', cls, d, rfl, J, nb, (up.trans up3).trans up4, .inr (.inr (by rw [hs]; exact hh4)), na, os, ag, w⟩)
        first
          | exact wpAny_bind (wpAny_pure (wpAny_bind fin))
          | exact wpAny_bind fin
      | @cons x c ts b₀ suite np pos' hds2 l2 hc hsu r ih =>
        intro w
        obtain ⟨b, hb1, hyes, hno⟩ := w
        refine wpAny_handleBy_cons (codeAny_handlers_test ?_) (by intro q; cases q)
        have LT : PySem.W.Looks (model X.prog X.w) h3 (typeOf (.ref a)) cls := fun A Q E s k q => wpAny_typeOf_ref (k _ _ he3) (by rw [hz3.1]; exact q)
        have LM := PySem.W.exm_one (M := model X.prog X.w) (J3.kIn) LT hb1
        have test : ∀ {Q : Value → Shared → Prop} {E : Value → Shared → Prop}, Q c { s' with heap := h3 } → wpAny (model X.prog X.w) (X.A.mark (some (.ref a))) (eval (.Name x np) X.env) Q E { s' with heap := h3 } := fun {Q E} q => by
          obtain ⟨hg, hdbg, hm | ⟨hm, hv, hnn⟩⟩ := hc
          · exact ld_glob (X := X.suite a ((a, oe3) :: (X.pn ++ pins))) S3 hg hm q hdbg
          · exact ld_blt (X := X.suite a ((a, oe3) :: (X.pn ++ pins))) S3 hg hm hv q hnn hdbg
        refine test (LM.here ?_)
        cases b with
        | true =>
          refine codeAny_handlers_suite_as ?_
          refine HandSPX.lands_againZ fl3 fun h4 fl4 up4 => ?_
          have J4 : Inv X pins σ' H' { s' with heap := h4 } := J.landed nb fl4.1 ((up.trans up3).trans up4) os ag
          obtain ⟨oe4, vs4, he4, hz4, hd4⟩ := fl4.there
          have S4 := J4.suite he4 hd4 na nL nF
          refine store_ok (X := X.suite a ((a, oe4) :: (X.pn ++ pins))) (v := .ref a) S4 hN hi hloc rfl (fun s5 S5 => ?_) (.inr hln)
          refine wpAny_mono ((hsu a oe4 cls d (X.pn ++ pins) hz4 ⟨_, hd4⟩).run [] s5 _ H' _ S5 (hyes rfl a na (by rw [J.len]; exact (List.getElem?_eq_some_iff.mp hi).1))) (fun f s6 hsp => ?_) (fun _ _ z => False.elim z)
          have out : ∀ {σ6 : L2.St} {H6 : Hp} {Q : Shared → Prop}, Inv (X.suite a ((a, oe4) :: (X.pn ++ pins))) [] σ6 H6 s6 → (∀ s7, Inv X pins (σ6.set i none) H6 s7 → Q s7) →
              wpAny (model X.prog X.w) X.A (do bindName X.env n .none; unbindBehindTheSuite X.env n pos') (fun _ s7 => Q s7) X.xe s6 := fun {σ6 H6 Q} S6 hq => gone_ok (S6.unsuite ok) hN hi hln hq
          cases f with
          | next =>
            obtain ⟨σ6, H6, S6, q6⟩ := hsp
            exact out S6 fun s7 J7 => ⟨_, _, J7, q6⟩
          | brk =>
            obtain ⟨σ6, H6, S6, q6⟩ := hsp
            exact out S6 fun s7 J7 => ⟨_, _, J7, q6⟩
          | cont =>
            obtain ⟨σ6, H6, S6, q6⟩ := hsp
            exact out S6 fun s7 J7 => ⟨_, _, J7, q6⟩
          | ret u =>
            obtain ⟨v6, σ6, H6, S6, r6, q6⟩ := hsp
            exact out S6 fun s7 J7 => ⟨_, _, _, J7, r6, q6⟩
        | false =>
          show wpAny _ X.A (handleBy (.ref a) X.env hds2) _ _ _
          exact ih (hno rfl)
    exact go hh w
  · cases f with
    | next =>
      obtain ⟨σ', H', J', q⟩ := hsp
      exact wpAny_execs_nil ⟨σ', H', J'.ofTry ok, q⟩
    | brk =>
      obtain ⟨σ', H', J', q⟩ := hsp
      exact ⟨σ', H', J'.ofTry ok, q⟩
    | cont =>
      obtain ⟨σ', H', J', q⟩ := hsp
      exact ⟨σ', H', J'.ofTry ok, q⟩
    | ret u =>
      obtain ⟨v, σ', H', J', r, q⟩ := hsp
      exact ⟨v, σ', H', J'.ofTry ok, r, q⟩
end
/-! ### heard -/
/-- what is heard of an action that always raises -/
def TTh (CR CN : Addr) : (XK → Hp → VK → Prop) → Hp → VK → Prop := fun tl H Q => ∃ (C : Addr) (w tag : Str), ((C = CR ∧ tag = "refused") ∨ (C = CN ∧ tag = "number")) ∧
  ∀ Qn, tl (fun cls d H' => cls = .ref C ∧ ∃ dd, d = some dd ∧ H' dd = some (wd w) ∧ ∀ p, H' p = none → Q (.ref p) (upd H' p (.tup [.str tag, .str w]))) H Qn
/-- the two classes, as except clauses see them -/
structure TwoX (K : PySem.W.Frag) (mg : Str → Option Value) (CR CN : Addr) : Prop where
  gR : mg "Refused" = some (.ref CR)
  gN : mg "InvalidNumber" = some (.ref CN)
  rr : PySem.W.exmOne K (.ref CR) (.ref CR) = some true
  nr : PySem.W.exmOne K (.ref CN) (.ref CR) = some false
  nn : PySem.W.exmOne K (.ref CN) (.ref CN) = some true
  xR : XfC K CR
  xN : XfC K CN
  noR : PySem.W.findIn K (.ref CR) "word" = some none
  noN : PySem.W.findIn K (.ref CN) "word" = some none
abbrev hN : List Str := ["_law_action", "_law_system", "error"]
theorem scHeard : FnScope hN ["_law_action"] (defScope sLHeard) := ⟨rfl, rfl, rfl, by decide +kernel, rfl, by decide +kernel, by decide +kernel⟩
theorem heard_gives {X : Cx} {q : Str} {g CR CN : Addr} {cdg : Value} (T : TwoX X.K X.mg CR CN) :
    LamX.GivesTo X hN "_law_heard" (defScope sLHeard) g cdg (defBody sLHeard) "_law_action" q (TTh CR CN) := by
  intro f c' s H Q tl act hc h
  refine ⟨_, pss_cons (ps_try_asM (X := (cxOf C8.CX0 X.prog X.w X.K X.mg X.base hN "_law_heard" (defScope sLHeard) g cdg X.A X.stack s H C8.E0).nox) (i := 2) (n := "error")
      (tb := fun W D σ H => ∃ Ech : XK, (∀ cls d σ' H', Ech cls d H' → W cls d σ' H') ∧ tAsg (fun σZ HZ Q => σZ[0]? = some (some (.ref f)) ∧ HZ c' = some (LamX.CodeO c' q) ∧ tl Ech HZ Q) (gName 1) D σ H)
      rfl rfl scHeard.nd rfl rfl LamX.takes0 (fun W pn xe tk _ => ?_)
      (.cons ⟨rfl, by decide +kernel, .inl T.gR⟩ (fun a oe cls d pn hz hf => pss_one (ps_ret (pe_tup (pa_cons pe_str (pa_cons (pe_xf T.xR T.noR hz hf (pv 2)) pa_nil)))))
        (.cons ⟨rfl, by decide +kernel, .inl T.gN⟩ (fun a oe cls d pn hz hf => pss_one (ps_ret (pe_tup (pa_cons pe_str (pa_cons (pe_xf T.xN T.noN hz hf (pv 2)) pa_nil))))) .nil)))
    (pss_one (ps_ret (pe_tup (pa_cons (pe_fld (pv 1) rfl) (pa_cons (pe_fld (pv 1) rfl) pa_nil))))), ?_⟩
  · refine ⟨fun pins s' σ H' D I h' => ?_⟩
    obtain ⟨Ech, hW, h'⟩ := h'
    exact (pss_one (ps_set (i := 1) scHeard.nd rfl (Or.inl rfl) (act W pn xe Ech _ _ tk hW))).run pins s' σ H' D I h'
  · obtain ⟨C, w, tag, ht, hq⟩ := h
    refine ⟨_, fun cls d σ' H' hx => ?_, rfl, hc, hq _⟩
    obtain ⟨rfl, dd, rfl, hd, hp⟩ := hx
    rcases ht with ⟨rfl, rfl⟩ | ⟨rfl, rfl⟩
    · refine ⟨true, T.rr, fun _ a na hl => ?_, fun z => by cases z⟩
      exact ⟨_, List.getElem?_set_self hl, rfl, rfl, dd, _, _, rfl, hd, rfl, (by show 2 ≤ sizeLine; decide), hp⟩
    · refine ⟨false, T.nr, (fun z => by cases z), fun _ => ⟨true, T.nn, fun _ a na hl => ?_, fun z => by cases z⟩⟩
      exact ⟨_, List.getElem?_set_self hl, rfl, rfl, dd, _, _, rfl, hd, rfl, (by show 2 ≤ sizeLine; decide), hp⟩
end K5
end

section
set_option Elab.async false
set_option linter.all false
set_option maxRecDepth 100000
set_option maxHeartbeats 4000000
/-! The law's own defs: names. -/
namespace K5
open PySem PySem.Spec PyProof.Rows L2
theorem nodup_set {α : Type} : ∀ {l : List α} {i : Nat} {y : α}, l.Nodup → y ∉ l → (l.set i y).Nodup
  | [], _, _, _, _ => List.nodup_nil
  | a :: l, 0, y, h, n => by
    rw [List.set_cons_zero, List.nodup_cons]
    exact ⟨fun z => n (List.mem_cons_of_mem _ z), (List.nodup_cons.mp h).2⟩
  | a :: l, i + 1, y, h, n => by
    rw [List.set_cons_succ, List.nodup_cons]
    have h' := List.nodup_cons.mp h
    refine ⟨fun z => ?_, nodup_set h'.2 fun z => n (List.mem_cons_of_mem _ z)⟩
    rcases List.mem_or_eq_of_mem_set z with z | z
    · exact h'.1 z
    · exact n (z ▸ List.mem_cons_self)
def stems : List Str := ["", "", "k", "go", "xyz", "zzzz"]
def steps_ : List Int := [1, 5, 9, 25, 21, 7]
def abc : Str := "abcdefghijklmnopqrstuvwxyz"
theorem stems_ok : ∀ z ∈ stems, z.length ≤ 4 ∧ z.cps.toList.all letB = true := by decide +kernel
theorem abc_at : ∀ j, j < 26 → abc.cps.toList[j]? = some (97 + j) := by decide +kernel
theorem abc_ix {j : Nat} (h : j < 26) : atI abc.cps.toList ((j : Nat) : Int) = some (97 + j) := by
  have g := abc_at j h
  unfold atI
  rw [show ixN abc.cps.toList.length ((j : Nat) : Int) = some j by
    unfold ixN
    rw [if_pos (by omega), if_pos (by show (j : Int) < ((26 : Nat) : Int); omega)]
    simp]
  exact g
theorem abc_let : ∀ j, j < 26 → letB (97 + j) = true := by decide +kernel
theorem step_inj {s f : Int} (h : s ∈ steps_) {i j : Nat} (hi : i < 6) (hj : j < 6) (e : (f + s * (i : Int)) % 26 = (f + s * (j : Int)) % 26) : i = j := by
  unfold steps_ at h
  simp only [List.mem_cons, List.not_mem_nil, or_false] at h
  rcases h with rfl | rfl | rfl | rfl | rfl | rfl <;> omega
/-- the name with the letter j -/
def nm (st : Str) (at_ : Nat) (j : Nat) : Str := ⟨(st.cps.toList.take at_ ++ [97 + j] ++ st.cps.toList.drop at_).toArray⟩
theorem nm_len (st : Str) (at_ j : Nat) (h : at_ ≤ st.length) : (nm st at_ j).length = st.length + 1 := by
  show ((st.cps.toList.take at_ ++ [97 + j] ++ st.cps.toList.drop at_).toArray).size = _
  have hl : st.cps.toList.length = st.length := Array.length_toList
  rw [List.size_toArray, List.length_append, List.length_append, List.length_take, List.length_drop, List.length_singleton, hl]
  omega
theorem nm_name {st : Str} (hs : st ∈ stems) (at_ j : Nat) (h : at_ ≤ st.length) (hj : j < 26) : nameB (nm st at_ j) = true := by
  obtain ⟨h4, hl⟩ := stems_ok st hs
  unfold nameB
  rw [nm_len st at_ j h, decide_eq_true (by omega), decide_eq_true (by omega)]
  show (true && (true && (st.cps.toList.take at_ ++ [97 + j] ++ st.cps.toList.drop at_).toArray.toList.all letB)) = true
  rw [Bool.true_and, Bool.true_and, List.all_append, List.all_append]
  have h1 : (st.cps.toList.take at_).all letB = true := List.all_eq_true.mpr fun x hx => List.all_eq_true.mp hl x (List.mem_of_mem_take hx)
  have h2 : (st.cps.toList.drop at_).all letB = true := List.all_eq_true.mpr fun x hx => List.all_eq_true.mp hl x (List.mem_of_mem_drop hx)
  have h3 : ([97 + j] : List Nat).all letB = true := by
    rw [List.all_cons, abc_let j hj]
    rfl
  rw [h1, h2, h3]
  rfl
theorem nm_inj {st : Str} {at_ i j : Nat} (e : nm st at_ i = nm st at_ j) : i = j := by
  have e1 : st.cps.toList.take at_ ++ [97 + i] ++ st.cps.toList.drop at_ = st.cps.toList.take at_ ++ [97 + j] ++ st.cps.toList.drop at_ := by
    have := congrArg (fun x : Str => x.cps.toList) e
    simpa [nm] using this
  have e2 := List.append_cancel_right e1
  have e3 := List.append_cancel_left e2
  have e4 : 97 + i = 97 + j := (List.cons.inj e3).1
  omega
theorem cutS_toList (z : Str) (lo hi : Option Int) : (cutS z lo hi).cps.toList = cutL z.cps.toList lo hi := by
  unfold cutS cutL
  have hl : z.cps.toList.length = z.length := Array.length_toList
  rw [hl]
theorem str_ext {x y : Str} (h : x.cps.toList = y.cps.toList) : x = y := PySem.W.str_of_cps h
theorem nm_is (st : Str) (at_ j : Nat) : (cutS st none (some (at_ : Nat)) ++ (⟨#[97 + j]⟩ : Str)) ++ cutS st (some (at_ : Nat)) none = nm st at_ j := by
  refine str_ext ?_
  rw [Str.cps_append, Str.cps_append, Array.toList_append, Array.toList_append, cutS_toList, cutS_toList, cutL_pre, cutL_post]
  rfl
def letJ (f s : Int) (k : Nat) : Nat := ((f + s * (k : Int)) % 26).toNat
theorem letJ_lt (f s : Int) (k : Nat) : letJ f s k < 26 := by
  unfold letJ
  omega
theorem letJ_eq (f s : Int) (k : Nat) : (f + s * (k : Int)) % 26 = (letJ f s k : Int) := by
  unfold letJ
  omega
def nms (st : Str) (at_ : Nat) (f s : Int) (m : Nat) : List Str := (List.range m).map fun k => nm st at_ (letJ f s k)
theorem nms_len (st : Str) (at_ : Nat) (f s : Int) (m : Nat) : (nms st at_ f s m).length = m := by
  unfold nms
  rw [List.length_map, List.length_range]
theorem nms_nodup {st : Str} {at_ : Nat} {f s : Int} {m : Nat} (hs : s ∈ steps_) (h6 : m ≤ 6) : (nms st at_ f s m).Nodup := by
  unfold nms
  refine List.pairwise_map.mpr ((List.nodup_range (n := m)).imp_of_mem fun {a b} ha hb ne e => ne ?_)
  have ha' := List.mem_range.mp ha
  have hb' := List.mem_range.mp hb
  have ej := nm_inj e
  refine step_inj (f := f) hs (by omega) (by omega) ?_
  rw [letJ_eq, letJ_eq, ej]
theorem nms_mem {st : Str} {at_ : Nat} {f s : Int} {m : Nat} {x : Str} (h : x ∈ nms st at_ f s m) : ∃ j, j < 26 ∧ x = nm st at_ j := by
  obtain ⟨k, _, rfl⟩ := List.mem_map.mp h
  exact ⟨_, letJ_lt f s k, rfl⟩
theorem nms_snoc (st : Str) (at_ : Nat) (f s : Int) (i : Nat) : nms st at_ f s (i + 1) = nms st at_ f s i ++ [nm st at_ (letJ f s i)] := by
  unfold nms
  rw [List.range_succ, List.map_append]
  rfl
/-- no name of three letters or more is made of q and y alone -/
def NqyX (x : Str) : Prop := 3 ≤ x.length → ∃ c ∈ x.cps.toList, c ≠ 113 ∧ c ≠ 121
def Nqy (ns : List Str) : Prop := ∀ x ∈ ns, NqyX x
theorem stems_ny : ∀ z ∈ stems, 1 ≤ z.length → ∃ c ∈ z.cps.toList, c ≠ 113 ∧ c ≠ 121 := by decide +kernel
theorem nm_has {st : Str} {at_ j c : Nat} (h : c ∈ st.cps.toList) : c ∈ (nm st at_ j).cps.toList := by
  show c ∈ (st.cps.toList.take at_ ++ [97 + j] ++ st.cps.toList.drop at_).toArray.toList
  have e := List.take_append_drop at_ st.cps.toList
  rw [← e] at h
  rcases List.mem_append.mp h with h | h
  · exact List.mem_append_left _ (List.mem_append_left _ h)
  · exact List.mem_append_right _ h
theorem nm_ny {st : Str} {at_ j : Nat} (hs : st ∈ stems) (h : at_ ≤ st.length) : NqyX (nm st at_ j) := fun l3 => by
  rw [nm_len st at_ j h] at l3
  obtain ⟨c, hc, n⟩ := stems_ny st hs (by omega)
  exact ⟨c, nm_has hc, n⟩
/-- one name with a letter behind it -/
def tailed (x : Str) (j : Nat) : Str := x ++ ⟨#[97 + j]⟩
theorem tailed_len (x : Str) (j : Nat) : (tailed x j).length = x.length + 1 := Str.length_append _ _
theorem tailed_name {x : Str} {j : Nat} (h : nameB x = true) (hl : x.length ≤ 4) (hj : j < 26) : nameB (tailed x j) = true := by
  unfold nameB at h ⊢
  rw [Bool.and_eq_true, Bool.and_eq_true] at h
  rw [tailed_len, decide_eq_true (by omega), decide_eq_true (by omega)]
  show (true && (true && (x ++ (⟨#[97 + j]⟩ : Str)).cps.toList.all letB)) = true
  rw [Str.cps_append, Array.toList_append, List.all_append, h.2.2]
  show (true && (true && (true && [97 + j].all letB))) = true
  rw [List.all_cons, abc_let j hj]
  rfl
theorem tailed_ny {st : Str} {at_ j k : Nat} (hs : st ∈ stems) (h : at_ ≤ st.length) : NqyX (tailed (nm st at_ j) k) := fun l3 => by
  rw [tailed_len, nm_len st at_ j h] at l3
  obtain ⟨c, hc, n⟩ := stems_ny st hs (by omega)
  refine ⟨c, ?_, n⟩
  show c ∈ ((nm st at_ j) ++ (⟨#[97 + k]⟩ : Str)).cps.toList
  rw [Str.cps_append, Array.toList_append]
  exact List.mem_append_left _ (nm_has hc)
theorem nqy_not {ns : List Str} {x : Str} (h : Nqy ns) (l : 3 ≤ x.length) (all : ∀ c ∈ x.cps.toList, c = 113 ∨ c = 121) : x ∉ ns := fun z => by
  obtain ⟨c, hc, n1, n2⟩ := h x z l
  rcases all c hc with e | e
  · exact n1 e
  · exact n2 e
section
variable {P : Program} {w : World} {K : PySem.W.Frag} {mg : Str → Option Value} {base : Heap}
theorem Bx.same {H H' : Hp} {b : Addr} (h : Bx H b) (s : Same H H') : Bx H' b :=
  let ⟨x, y, z, e⟩ := h
  ⟨x, y, z, s _ _ e⟩
theorem Bx.ne {H : Hp} {b p : Addr} (h : Bx H b) (n : H p = none) : p ≠ b := fun e => by
  obtain ⟨x, y, z, hb⟩ := h
  rw [← e, n] at hb
  cases hb
def spLNames (K : PySem.W.Frag) : Sp := fun vs H Q _ => ∃ (b : Addr) (m : Nat), vs = [.ref b, .int (m : Nat)] ∧ Bx H b ∧ 1 ≤ m ∧ m ≤ 6 ∧ ∀ H' v ns, Kb b H H' → Bx H' b → Dp K H' v (encN ns) → NoD H' v → NamesOk ns → ns.length = m → Nqy ns → Q v H'
theorem scLNames : FnScope ["_law_box_here", "_law_many", "_law_letters", "_law_stem", "_law_step", "_law_at", "_law_first", "_law_found", "_law_k", "_law_place"] ["_law_box_here", "_law_many"] (defScope sLNames) := ⟨rfl, rfl, rfl, by decide +kernel, rfl, by decide +kernel, by decide +kernel⟩
theorem ok_lnames (B : Bl mg) (D : Def K mg "_law_names" sLNames ["_law_box_here", "_law_many"]) (OT : Ok P w K mg base CX0 1 "_law_take" sTake ["_law_box_here", "_law_many"] spTake) (OP : Ok P w K mg base CX0 2 "_law_pick" sPick ["_law_box_here", "_law_some"] (spPick K)) :
    Ok P w K mg base CX0 3 "_law_names" sLNames ["_law_box_here", "_law_many"] (spLNames K) := by
  refine .of D fun f fd F => F.ok scLNames (fun vs H Q E h => ?_) (fun cdv A outer s H vs Q E hr h => ?_)
  · obtain ⟨v, d, rfl, _⟩ := h
    rfl
  · obtain ⟨b, m, rfl, bx, m1, m6, q⟩ := h
    have hr1 := hr.mono (show 1 ≤ 2 by decide)
    refine ⟨_, pss_cons (ps_set (i := 2) scLNames.nd rfl (Or.inl rfl) pe_str)
      (pss_cons (ps_par (i := 3) (j := 4) rfl scLNames.nd rfl rfl (by decide) rfl rfl (pa_cons (pe_c OP hr (pa_cons (pv 0) (pa_cons (pe_lst (pa_cons pe_str (pa_cons pe_str (pa_cons pe_str (pa_cons pe_str (pa_cons pe_str (pa_cons pe_str pa_nil))))))) pa_nil)))
        (pa_cons (pe_c OP hr (pa_cons (pv 0) (pa_cons (pe_lst (pa_cons pe_int (pa_cons pe_int (pa_cons pe_int (pa_cons pe_int (pa_cons pe_int (pa_cons pe_int pa_nil))))))) pa_nil))) pa_nil)) (by rfl))
      (pss_cons (ps_par3 (i := 5) (j := 6) (l := 7) rfl scLNames.nd rfl rfl rfl (by decide) (by decide) (by decide) rfl rfl rfl (pa_cons (pe_c OT hr1 (pa_cons (pv 0) (pa_cons (pe_op op_add (pe_b (f := "len") call_len_str B.len b_len (pa_cons (pv 3) pa_nil)) pe_int) pa_nil)))
        (pa_cons (pe_c OT hr1 (pa_cons (pv 0) (pa_cons pe_int pa_nil))) (pa_cons (pe_lst pa_nil) pa_nil))) (by rfl))
      (pss_cons (ps_for PassesOwn.never rfl (pi_range1 rfl B.range (pa_cons (pv 1) pa_nil)) (pg_name (i := 8) scLNames.nd rfl (.inl rfl))
        (pss_one (ps_expr (pe_bm PySem.F.plainAttrs_list PySem.F.slot_list_append PySem.F.type_list_append mt_append (pv 7) (pa_cons (pe_op op_add_str (pe_op op_add_str (pe_slice sl_str (pv 3) po_none (po_some (pv 5)))
          (pe_ix ix_str (pv 2) (pe_op op_mod (pe_t (f := "int") call_int1 B.int b_int (pa_cons (pe_op op_add (pv 6) (pe_op op_mul (pv 4) (pv 8))) pa_nil)) pe_int) (fun _ _ => rfl))) (pe_slice sl_str (pv 3) (po_some (pv 5)) po_none)) pa_nil)))))
      (pss_cons (ps_set (i := 9) scLNames.nd rfl (Or.inl rfl) (pe_c OT hr1 (pa_cons (pv 0) (pa_cons (pv 1) pa_nil))))
      (pss_cons (ps_if (PW.pt (pw_and (pt_cmpR op_lt (pe_b (f := "len") call_len_str B.len b_len (pa_cons (pv 3) pa_nil)) pe_int (nomark _)) (pw_and1 (pt_cmpR op_eq (pe_c OT hr1 (pa_cons (pv 0) (pa_cons pe_int pa_nil))) pe_int (nomark _)))))
        (pss_one (ps_asg (pe_op op_add_str (pe_ix (r := rIxL K) ix_list (pv 7) (pv 9) (fun _ _ => rfl)) (pe_ix ix_str (pv 2) (pe_c OT hr1 (pa_cons (pv 0) (pa_cons pe_int pa_nil))) (fun _ _ => rfl))) (pg_sub (pv 7) (pv 9) set_list))) pss_nil)
      (pss_one (ps_ret (pe_t (f := "tuple") call_tupD B.tuple b_tuple (pa_cons (pe_b (f := "sorted") (cr_sortedD PyData.str hr.units) B.sorted b_sorted (pa_cons (pv 7) pa_nil)) pa_nil))))))))), ?_⟩
    refine ⟨_, rfl, (by show 6 ≤ sizeLine; decide), fun p1 n1 => ?_⟩
    have nb1 := Bx.ne bx n1
    refine ⟨b, p1, stems.map V.str, rfl, Bx.same bx (same_new n1), fun H' kb => .inl (SqL.of (kb _ _ nb1 upd_same)), by decide, by decide, fun H1 k1 v1 kb1 bx1 hk1 => ?_⟩
    obtain ⟨st, gst, rfl⟩ := map_get hk1
    have hst := List.mem_of_getElem? gst
    have st4 := (stems_ok st hst).1
    have stz : st.length ≤ sizeLine := by
      rw [sizeLine_eq]
      omega
    have K1 : Kb b H H1 := (Kb.of_same (same_new n1)).trans kb1
    refine ⟨_, rfl, (by show 6 ≤ sizeLine; decide), fun p2 n2 => ?_⟩
    have nb2 := Bx.ne bx1 n2
    refine ⟨b, p2, steps_.map V.int, rfl, Bx.same bx1 (same_new n2), fun H' kb => .inl (SqL.of (kb _ _ nb2 upd_same)), by decide, by decide, fun H2 k2 v2 kb2 bx2 hk2 => ?_⟩
    obtain ⟨s, gs, rfl⟩ := map_get hk2
    have hs := List.mem_of_getElem? gs
    have K2 : Kb b H H2 := K1.trans ((Kb.of_same (same_new n2)).trans kb2)
    refine ⟨_, _, rfl, ?_⟩
    refine ⟨_, rfl, _, rfl, st, rfl, stz, _, _, rfl, rfl, b, _, rfl, bx2, by omega, by omega, fun H3 at_ kb3 bx3 hat => ?_⟩
    refine ⟨_, rfl, b, 26, rfl, bx3, by decide, by decide, fun H4 f kb4 bx4 hf => ?_⟩
    refine ⟨(by show 0 ≤ sizeLine; exact Nat.zero_le _), fun L nL => ?_⟩
    have nbL := Bx.ne bx4 nL
    have K4 : Kb b H H4 := (K2.trans kb3).trans kb4
    have nLH : H L = none := by
      cases e : H L with
      | none => rfl
      | some o =>
        rw [K4 _ _ nbL e] at nL
        cases nL
    have K4' : Kb b H (upd H4 L (.lst [])) := K4.trans (Kb.of_same (same_new nL))
    have sl : s ∈ [1, 5, 9, 25, 21, 7] := hs
    have sb : -(2 ^ 64) < s ∧ s < 2 ^ 64 := by
      simp only [List.mem_cons, List.not_mem_nil, or_false] at sl
      omega
    refine ⟨_, _, _, rfl, ?_⟩
    refine ⟨_, rfl, ((m : Nat) : Int), rfl, by omega, by omega, for_range (lo := 0) (n := ((m : Nat) : Int).toNat) (fun i σ H' => ∃ z8 z9, σ = [some (.ref b), some (.int (m : Nat)), some (.str abc), some (.str st), some (.int s), some (.int (at_ : Nat)), some (.int (f : Nat)), some (.ref L), z8, z9] ∧ Kb b H H' ∧ Bx H' b ∧ H' L = some (.lst ((nms st at_ f s i).map V.str)))
      ⟨none, none, rfl, K4', Bx.same bx4 (same_new nL), upd_same⟩ ?_ ?_⟩
    · rintro i σ H5 hi ⟨z8, z9, rfl, K5, bx5, hL⟩
      have hi' : i < m := by omega
      have ez : (0 : Int) + (i : Int) = (i : Int) := by omega
      have ix : atI abc.cps.toList (((f : Nat) + s * ((0 : Int) + (i : Int))) % 26) = some (97 + letJ f s i) := by
        rw [ez, letJ_eq]
        exact abc_ix (letJ_lt f s i)
      have cl1 : (cutS st none (some (at_ : Nat))).length ≤ 4 := by
        have : (cutS st none (some (at_ : Nat))).cps.toList.length = _ := Array.length_toList
        rw [cutS_toList, cutL_pre, List.length_take] at this
        have e : (cutS st none (some (at_ : Nat))).length = (cutS st none (some (at_ : Nat))).cps.size := rfl
        rw [e, ← this]
        have hl : st.cps.toList.length = st.length := Array.length_toList
        omega
      have cl2 : (cutS st (some (at_ : Nat)) none).length ≤ 4 := by
        have : (cutS st (some (at_ : Nat)) none).cps.toList.length = _ := Array.length_toList
        rw [cutS_toList, cutL_post, List.length_drop] at this
        have e : (cutS st (some (at_ : Nat)) none).length = (cutS st (some (at_ : Nat)) none).cps.size := rfl
        rw [e, ← this]
        have hl : st.cps.toList.length = st.length := Array.length_toList
        omega
      have o1 : (⟨#[97 + letJ f s i]⟩ : Str).length = 1 := rfl
      have ll := nms_len st at_ f s i
      refine ⟨_, rfl, .inl ⟨rfl, _, SqL.of hL⟩, _, rfl, _, rfl, _, rfl, st, rfl, stz, _, rfl, _, rfl, _, rfl, _, rfl, _, _, rfl, rfl, .inl sb, _, _, rfl, rfl, .inl ⟨_, rfl, _, _, rfl, rfl, (by show (0 : Int) < 26; decide), abc, _, _, rfl, rfl, (by show 26 ≤ sizeLine; decide), ix,
        _, _, rfl, rfl, by rw [o1, sizeLine_eq]; omega, _, rfl, _, rfl, _, rfl, st, rfl, stz, _, _, rfl, rfl, by rw [Str.length_append, o1, sizeLine_eq]; omega, L, _, _, rfl, rfl, hL, by rw [List.length_map, ll, sizeLine_eq]; omega, ?_⟩⟩
      refine ⟨_, _, rfl, ?_, ?_, ?_⟩
      · intro a o n e
        rw [upd_ne (fun z => by rw [z, nLH] at e; cases e)]
        exact K5 a o n e
      · obtain ⟨x, y, z, hb⟩ := bx5
        exact ⟨x, y, z, by rw [upd_ne (Ne.symm nbL)]; exact hb⟩
      · rw [nms_snoc, List.map_append, upd_same, nm_is]
        rfl
    rintro σ H5 ⟨z8, z9, rfl, K5, bx5, hL⟩
    rw [Int.toNat_natCast] at hL
    have ll := nms_len st at_ f s m
    have nd := nms_nodup (st := st) (at_ := at_) (f := f) (m := m) hs m6
    have atl : at_ ≤ st.length := by omega
    have okn : ∀ x ∈ nms st at_ f s m, nameB x = true := fun x hx => by
      obtain ⟨j, hj, rfl⟩ := nms_mem hx
      exact nm_name hst at_ j atl hj
    have nyn : Nqy (nms st at_ f s m) := fun x hx => by
      obtain ⟨j, hj, e⟩ := nms_mem hx
      rw [e]
      exact nm_ny hst atl
    refine ⟨_, rfl, _, rfl, b, _, rfl, bx5, by omega, by omega, fun H6 pl kb6 bx6 hpl => ?_⟩
    have hL6 := kb6 _ _ nbL hL
    have K6 := K5.trans kb6
    refine ⟨_, rfl, st, rfl, stz, _, _, rfl, rfl, _, rfl, ?_⟩
    refine ite2 (fun c => ?_) (fun c => ?_)
    · have c4 : st.length < 4 := by
        have : ((st.length : Nat) : Int) < 4 := of_decide_eq_true c
        omega
      refine ⟨_, rfl, b, 2, rfl, bx6, by decide, by decide, fun H7 k7 kb7 bx7 hk7 => ?_⟩
      have hL7 := kb7 _ _ nbL hL6
      have K7 := K6.trans kb7
      by_cases k0 : k7 = 0
      · subst k0
        refine ⟨rfl, true, rfl, iteT ?_⟩
        have hpl' : pl < m := by omega
        have hpx : pl < (nms st at_ f s m).length := by rw [ll]; exact hpl'
        have gx : ((nms st at_ f s m).map V.str)[pl]? = some (.str (nms st at_ f s m)[pl]) := by rw [List.getElem?_map, List.getElem?_eq_getElem hpx]; rfl
        have hx := List.getElem_mem hpx
        obtain ⟨jx, hjx, ex⟩ := nms_mem hx
        have xl : ((nms st at_ f s m)[pl]).length = st.length + 1 := by rw [ex, nm_len _ _ _ atl]
        refine ⟨_, rfl, _, rfl, L, _, _, _, rfl, rfl, SqL.of hL7, at_of (j := pl) rfl gx, _, rfl, _, rfl, b, 26, rfl, bx7, by decide, by decide, fun H8 k8 kb8 bx8 hk8 => ?_⟩
        have hk8' : k8 < 26 := by omega
        have hL8 := kb8 _ _ nbL hL7
        have hix : ixN ((nms st at_ f s m).map V.str).length (pl : Nat) = some pl := by
          unfold ixN
          rw [if_pos (by omega), if_pos (by rw [List.length_map]; omega)]
          simp
        refine ⟨abc, _, 97 + k8, rfl, rfl, (by show 26 ≤ sizeLine; decide), abc_ix hk8', _, _, rfl, rfl, (by rw [xl, sizeLine_eq]; show st.length + 1 + 1 ≤ _; omega), _, rfl, _, rfl, L, _, _, pl, rfl, rfl, hL8, hix, ?_⟩
        rw [← List.map_set]
        have K8 : Kb b H (upd H8 L (.lst (((nms st at_ f s m).set pl (tailed (nms st at_ f s m)[pl] k8)).map V.str))) := fun a o n e => by
          rw [upd_ne (fun z => by rw [z, nLH] at e; cases e)]
          exact (K7.trans kb8) a o n e
        have bx9 : Bx (upd H8 L (.lst (((nms st at_ f s m).set pl (tailed (nms st at_ f s m)[pl] k8)).map V.str))) b := by
          obtain ⟨x, y, z, hb⟩ := bx8
          exact ⟨x, y, z, by rw [upd_ne (Ne.symm nbL)]; exact hb⟩
        have ns : tailed (nms st at_ f s m)[pl] k8 ∉ nms st at_ f s m := fun z => by
          obtain ⟨j2, _, e2⟩ := nms_mem z
          have l2 := tailed_len (nms st at_ f s m)[pl] k8
          rw [e2, nm_len _ _ _ atl] at l2
          omega
        have ok9 : ∀ x ∈ (nms st at_ f s m).set pl (tailed (nms st at_ f s m)[pl] k8), nameB x = true := fun x hx9 => by
          rcases List.mem_or_eq_of_mem_set hx9 with z | z
          · exact okn x z
          · rw [z]
            exact tailed_name (okn _ hx) (by omega) hk8'
        have ny9 : Nqy ((nms st at_ f s m).set pl (tailed (nms st at_ f s m)[pl] k8)) := fun x hx => by
          rcases List.mem_or_eq_of_mem_set hx with z | z
          · exact nyn x z
          · rw [z, ex]
            exact tailed_ny hst atl
        have ll9 : ((nms st at_ f s m).set pl (tailed (nms st at_ f s m)[pl] k8)).length = m := by rw [List.length_set, ll]
        refine ⟨_, rfl, L, _, (nms st at_ f s m).set pl (tailed (nms st at_ f s m)[pl] k8), rfl, SqL.of upd_same, DpAll.strs _, alike_strs _, sortable_strs _, fun _ _ => by rw [PyData.depth]; omega, by rw [ll9, sizeLine_eq]; omega, fun ws p np dws => ?_⟩
        have nbp : p ≠ b := Bx.ne bx9 np
        have kbp := K8.trans (Kb.of_same (same_new (o := .lst ws) np))
        refine ⟨p, ws, _, rfl, SqL.of upd_same, DpAll.same (same_new np) dws, fun vt H9 s9 et ndt => q H9 vt (srtN ((nms st at_ f s m).set pl (tailed (nms st at_ f s m)[pl] k8))) (kbp.trans (Kb.of_same s9)) (Bx.same (Bx.same bx9 (same_new np)) s9) et ndt (srtN_ok (by rw [ll9]; exact m1) (by rw [ll9]; exact m6) ok9 (nodup_set nd ns)) (by rw [(srtN_perm _).length_eq, ll9]) (fun x hx => ny9 x ((srtN_perm _).mem_iff.mp hx))⟩
      · refine ⟨rfl, false, congrArg V.bl (decide_eq_false (by intro z; injection z with z; omega)), iteF ?_⟩
        refine ⟨_, rfl, L, _, nms st at_ f s m, rfl, SqL.of hL7, DpAll.strs _, alike_strs _, sortable_strs _, fun _ _ => by rw [PyData.depth]; omega, by rw [ll, sizeLine_eq]; omega, fun ws p np dws => ?_⟩
        have nbp : p ≠ b := Bx.ne bx7 np
        have kbp := K7.trans (Kb.of_same (same_new (o := .lst ws) np))
        refine ⟨p, ws, _, rfl, SqL.of upd_same, DpAll.same (same_new np) dws, fun vt H9 s9 et ndt => q H9 vt (srtN (nms st at_ f s m)) (kbp.trans (Kb.of_same s9)) (Bx.same (Bx.same bx7 (same_new np)) s9) et ndt (srtN_ok (by rw [ll]; exact m1) (by rw [ll]; exact m6) okn nd) (by rw [(srtN_perm _).length_eq, ll]) (fun x hx => nyn x ((srtN_perm _).mem_iff.mp hx))⟩
    · refine iteF ?_
      refine ⟨_, rfl, L, _, nms st at_ f s m, rfl, SqL.of hL6, DpAll.strs _, alike_strs _, sortable_strs _, fun _ _ => by rw [PyData.depth]; omega, by rw [ll, sizeLine_eq]; omega, fun ws p np dws => ?_⟩
      have nbp : p ≠ b := Bx.ne bx6 np
      have kbp := K6.trans (Kb.of_same (same_new (o := .lst ws) np))
      refine ⟨p, ws, _, rfl, SqL.of upd_same, DpAll.same (same_new np) dws, fun vt H9 s9 et ndt => q H9 vt (srtN (nms st at_ f s m)) (kbp.trans (Kb.of_same s9)) (Bx.same (Bx.same bx6 (same_new np)) s9) et ndt (srtN_ok (by rw [ll]; exact m1) (by rw [ll]; exact m6) okn nd) (by rw [(srtN_perm _).length_eq, ll]) (fun x hx => nyn x ((srtN_perm _).mem_iff.mp hx))⟩
end
end K5
end

section
set_option Elab.async false
set_option linter.all false
set_option maxRecDepth 100000
set_option maxHeartbeats 4000000
/-! A dict whose keys are rows. -/
namespace K5
open PySem PySem.Spec PyProof.Rows L2
def keyR (r : Row) : NestedKey := .tup [.tup (r.1.map NestedKey.num), .num r.2]
theorem nums_inj : ∀ {c d : List Int}, c.map NestedKey.num = d.map NestedKey.num → c = d := fun h => (List.map_inj_right (fun x y e => by injection e)).mp h
theorem keyR_inj {r s : Row} (h : keyR r = keyR s) : r = s := by
  unfold keyR at h
  injection h with h
  injection h with h1 h2
  injection h1 with h1
  injection h2 with h2 _
  injection h2 with h2
  exact Prod.ext (nums_inj h1) h2
abbrev REnt := List (NestedKey × Addr × Value)
def RowDict (P : Program) (w : World) (a : Addr) (xs : REnt) (h : Heap) : Prop := (a == sysModules) = false ∧ xs.length ≤ 1000 ∧ ∃ o es ep, h.get? a = some o ∧ o.ExactDict ∧ o.data = .dict es ep ∧ es.toList = xs.map (entryOfKey (nestedKind P w)) ∧ (xs.map (·.1)).Nodup
def RDO (P : Program) (w : World) (a : Addr) (xs : REnt) : HO := .ext fun h => RowDict P w a xs h
section
variable {P : Program} {w : World}
theorem rdo_new {H : Hp} {h : Heap} {a : Addr} {xs : REnt} (R : RowDict P w a xs h) : ObjOk P w H h a (RDO P w a xs) := by
  refine ⟨R, ?_, fun h1 h2 ⟨z, n, o, es, ep, e, q⟩ k => ⟨z, n, o, es, ep, k o e, q⟩⟩
  obtain ⟨_, _, o, _, _, e, _⟩ := R
  exact ⟨o, e⟩
end
section
variable {X : Cx} {pins : List (Addr × Obj)} {σ : L2.St} {H : Hp} {s : Shared}
theorem nested_ints {h : Heap} : ∀ {c : List Int} {us : List Value}, Vals (c.map V.int) us → NestedAll h (c.map NestedKey.num) us
  | [], us, r => by
    cases r
    exact .nil
  | x :: c, us, r => by
    cases r with
    | cons h1 h2 =>
      obtain ⟨t, rfl⟩ := h1
      exact .cons (.int x t) (nested_ints h2)
theorem nested_row (I : Inv X pins σ H s) {a : Addr} {r : Row} (d : Dp X.K H (.ref a) (encR r)) : (nestedKind X.prog X.w).is s.heap (keyR r) a := by
  obtain ⟨a', v1, e, hs, d1⟩ := Dp.R_inv d
  cases e
  obtain ⟨a1, rfl, hs1⟩ := Dp.I_inv d1
  obtain ⟨its, r0, ⟨o, ho, hc, n, hd⟩, _⟩ := I.tuple hs
  obtain ⟨its1, r1, ⟨o1, ho1, hc1, n1, hd1⟩, _⟩ := I.tuple hs1
  obtain ⟨u, u2, rfl, ru, ru2⟩ := vals2 r0
  obtain rfl : u = Value.ref a1 := ru
  obtain ⟨t, rfl⟩ := ru2
  refine ⟨.tup ho hc hd (.cons (.tup ho1 hc1 hd1 (nested_ints r1)) (.cons (.int _ _) .nil)), ?_⟩
  have dn : ∀ c : List Int, NestedKey.depthAll (c.map NestedKey.num) ≤ 0 := fun c => by
    induction c with
    | nil => exact Nat.le_refl _
    | cons x c ih =>
      rw [List.map_cons, NestedKey.depthAll, NestedKey.depth]
      omega
  have := dn r.1
  unfold keyR
  rw [NestedKey.depth, NestedKey.depthAll, NestedKey.depth, NestedKey.depthAll, NestedKey.depth, NestedKey.depthAll]
  omega
def KeysAre (K : PySem.W.Frag) (H : Hp) (xs : REnt) : Prop := ∀ z ∈ xs, ∃ r, z.1 = keyR r ∧ Dp K H (.ref z.2.1) (encR r)
theorem rdo_get {a : Addr} {xs : REnt} (I : Inv X pins σ H s) (e : H a = some (RDO X.prog X.w a xs)) : RowDict X.prog X.w a xs s.heap := (I.hok a _ e).1
def tNewR (P : Program) (w : World) : TE := fun _ H Q => ∀ p, H p = none → Q (.ref p) (upd H p (RDO P w p []))
theorem pe_dnewR {pos : Pos} : PE X (.Dict [] [] pos) (tNewR X.prog X.w) := ⟨fun pins s σ H Q I h =>
  wpAny_Dict_empty ⟨.ref s.heap.objs.size, _, I.laid (a := s.heap.objs.size) (o := RDO X.prog X.w s.heap.objs.size []) (t' := s.toks) (fun _ _ q => Heap.get?_push_of_some _ q) (Nat.le_refl _)
    (rdo_new ⟨beq_eq_false_iff_ne.mpr (Ne.symm (Nat.ne_of_lt I.big)), Nat.zero_le _, _, #[], 0, Heap.get?_push_size _ rfl, ⟨rfl, rfl, rfl⟩, rfl, rfl, List.nodup_nil⟩), rfl, h _ (I.hok.fresh (Nat.le_refl _))⟩⟩
def sPutR (P : Program) (w : World) (K : PySem.W.Frag) (td ty tv : TE) : TS := fun D σ H => tv σ H fun v H1 => td σ H1 fun x H2 => ty σ H2 fun y H3 => ∃ a ka xs r, x = .ref a ∧ y = .ref ka ∧ H3 a = some (RDO P w a xs) ∧ Dp K H3 (.ref ka) (encR r) ∧ KeysAre K H3 xs ∧ xs.length < 1000 ∧
  ∀ u, D.nx σ (upd H3 a (RDO P w a (storedH xs (keyR r) ka u)))
variable {o i e value : Expr} {td ty tv : TE} {pos pos' : Pos}
theorem ps_dputR (hu : X.A.units + 64 < cLine) (ho : PE X o td) (hi : PE X i ty) (hv : PE X value tv) (hs : swapsWith value (some (.Subscript o i pos')) pos.line X.env = pure false := by rfl) :
    PS X (.Assign [.Subscript o i pos'] value pos) (sPutR X.prog X.w X.K td ty tv) := by
  refine ⟨fun pins s σ H D I h => ?_⟩
  refine wpAny_Assign_Subscript (thn (hv.run pins s σ H _ I h) fun rr s1 ⟨v, H1, I1, rv, q1⟩ => thn (ho.run pins s1 σ H1 _ I1 q1) fun u s2 ⟨x, H2, I2, rx, q2⟩ => thn (hi.run pins s2 σ H2 _ I2 q2) fun iv s3 ⟨y, H3, I3, ry, a, ka, xs, r, ex, ey, hd, hk, hks, hl, q3⟩ => ?_) hs
  subst ex
  subst ey
  obtain rfl : u = Value.ref a := rx
  obtain rfl : iv = Value.ref ka := ry
  obtain ⟨hsm, z, oo, es, ep, h1, h2, h3, h4, h5⟩ := rdo_get I3 hd
  have dd : s3.heap.DictOfH (nestedKind X.prog X.w) a xs := ⟨oo, es, ep, h1, h2, h3, h4, fun q hq => by
    obtain ⟨r', e1, e2⟩ := hks q hq
    rw [e1]
    exact nested_row I3 e2, h5⟩
  have hz : xs.length ≤ sizeLine := by
    rw [sizeLine_eq]
    omega
  refine wpAny_setItem_heap (knd := nestedKind X.prog X.w) (hsz := hz) (by show X.A.in1.units + 8 < cLine; have : X.A.in1.units ≤ X.A.units + 1 := (Nat.le_of_eq rfl); omega) (nested_row I3 hk) dd fun h' dd' hsb => ?_
  obtain ⟨o', es', ep', g1, g2, g3, g4, _, g6⟩ := dd'
  have len := storedH_length xs (keyR r) ka rr
  exact ⟨σ, _, I3.write (x := a) (e := a) (by rw [hd]; exact True.intro) (.inl rfl) (fun b q hb zz => (hsb.2 b hb).trans zz) ⟨o', g1⟩ (rdo_new ⟨hsm, by omega, o', es', ep', g1, g2, g3, g4, g6⟩), q3 rr⟩
/-- list(d) -/
def rListR (P : Program) (w : World) : List V → Hp → VK → Prop := fun vs H Q => ∃ a xs, vs = [.ref a] ∧ H a = some (RDO P w a xs) ∧ (∀ p, H p = none → (xs.map (·.1)).Nodup → Q (.ref p) (upd H p (.lst (xs.map fun z => V.ref z.2.1))))
theorem vals_ents : ∀ (xs : REnt), Vals (xs.map fun z => V.ref z.2.1) (xs.map fun z => Value.ref z.2.1)
  | [] => .nil
  | _ :: xs => .cons rfl (vals_ents xs)
theorem call_listR (hc : X.calm = true) : CallR X (.type "list") (rListR X.prog X.w) := by
  intro pins s σ H vs us Q I r h
  obtain ⟨a, xs, rfl, hd, q⟩ := h
  obtain ⟨u, rfl, rx⟩ := vals1 r
  obtain rfl : u = Value.ref a := rx
  obtain ⟨hsm, z, oo, es, ep, h1, h2, h3, h4, h5⟩ := rdo_get I hd
  have hz : es.size ≤ sizeLine := by
    rw [← Array.length_toList, h4, List.length_map, sizeLine_eq]
    omega
  refine PySem.W.kdl_call (PySem.KdlSrc.rawDict (prog := X.prog) (w := X.w) (d := a) (es := es) (ep := ep) hsm) (I.ok.hd hc) ⟨oo, h1, h2, h3⟩ hz fun h' tk acc c hk hS hacc => ?_
  have ln : es.size = xs.length := by rw [← Array.length_toList, h4, List.length_map]
  have ea : acc.toList = xs.map fun z => Value.ref z.2.1 := by
    refine List.ext_getElem? fun j => ?_
    rw [List.getElem?_map, Array.getElem?_toList]
    by_cases hj : j < xs.length
    · have ha : j < acc.size := by rw [hacc.1, ln]; exact hj
      obtain ⟨hi, e⟩ := hacc.2 j acc[j] (Array.getElem?_eq_getElem ha)
      have e2 : es.toList[j]? = some es[j] := by rw [Array.getElem?_toList, Array.getElem?_eq_getElem hi]
      rw [h4, List.getElem?_map, List.getElem?_eq_getElem hj] at e2
      have e3 : entryOfKey (nestedKind X.prog X.w) xs[j] = es[j] := Option.some.inj e2
      rw [Array.getElem?_eq_getElem ha, List.getElem?_eq_getElem hj, e, ← e3]
      rfl
    · rw [Array.getElem?_eq_none (by rw [hacc.1, ln]; omega), List.getElem?_eq_none (by omega)]
      rfl
  have fr : H s.heap.objs.size = none := I.hok.fresh (Nat.le_refl _)
  refine ⟨.ref s.heap.objs.size, _, I.laid (t' := tk) hk (Nat.le_refl _) (show ObjOk X.prog X.w _ h' _ (.lst (xs.map fun z => V.ref z.2.1)) from ⟨?_, acc.toList, c, by rw [ea]; exact vals_ents xs, ?_⟩), rfl, q _ fr h5⟩
  · rw [List.length_map, sizeLine_eq]
    omega
  · rw [Array.toArray_toList]
    exact hS
end
end K5
end

section
set_option Elab.async false
set_option linter.all false
set_option maxRecDepth 100000
set_option maxHeartbeats 4000000
/-! The law's own defs: rows. -/
namespace K5
open PySem PySem.Spec PyProof.Rows L2
section
variable {P : Program} {w : World} {K : PySem.W.Frag} {mg : Str → Option Value} {base : Heap}
/-- an entry: a row that is fit -/
def EntOk (K : PySem.W.Frag) (H : Hp) (n : Nat) (z : NestedKey × Addr × Value) : Prop := ∃ r, z.1 = keyR r ∧ Dp K H (.ref z.2.1) (encR r) ∧ RowOk n r ∧ BdL 10000 (ents r)
theorem EntOk.fx {H H' : Hp} {n : Nat} {z : NestedKey × Addr × Value} (h : EntOk K H n z) (x : Fx H H') : EntOk K H' n z := by
  obtain ⟨r, e, d, o, b⟩ := h
  exact ⟨r, e, Dp.fx x (tup_R r) d, o, b⟩
theorem ents_keys {H : Hp} {n : Nat} {xs : REnt} (h : ∀ z ∈ xs, EntOk K H n z) : KeysAre K H xs := fun z hz => by
  obtain ⟨r, e, d, _⟩ := h z hz
  exact ⟨r, e, d⟩
theorem stored_ok {H : Hp} {n : Nat} {xs : REnt} {k : NestedKey} {a : Addr} {v : Value} (h : ∀ z ∈ xs, EntOk K H n z) (he : EntOk K H n (k, a, v)) : ∀ z ∈ storedH xs k a v, EntOk K H n z := fun z hz => by
  rcases mem_storedH_key hz with ⟨y, hy, e1, e2⟩ | ⟨e1, e2⟩
  · obtain ⟨r, k1, k2, k3⟩ := h y hy
    exact ⟨r, e1.trans k1, by rw [e2]; exact k2, k3⟩
  · obtain ⟨r, k1, k2, k3⟩ := he
    exact ⟨r, e1.trans k1, by rw [e2]; exact k2, k3⟩
theorem ents_rows {H : Hp} {n : Nat} : ∀ {xs : REnt}, (∀ z ∈ xs, EntOk K H n z) → ∃ rs : List Row, xs.map (·.1) = rs.map keyR ∧ DpAll K H (xs.map fun z => V.ref z.2.1) (rs.map encR) ∧ (∀ r ∈ rs, RowOk n r ∧ BdL 10000 (ents r)) ∧ rs.length = xs.length
  | [], _ => ⟨[], rfl, .nil, (fun _ h => nomatch h), rfl⟩
  | z :: xs, h => by
    obtain ⟨rs, e1, e2, e3, e4⟩ := ents_rows fun y hy => h y (List.mem_cons_of_mem _ hy)
    obtain ⟨r, k1, k2, k3⟩ := h z List.mem_cons_self
    refine ⟨r :: rs, by rw [List.map_cons, List.map_cons, k1, e1], .cons k2 e2, fun y hy => ?_, by rw [List.length_cons, List.length_cons, e4]⟩
    rcases List.mem_cons.mp hy with q | q
    · rw [q]
      exact k3
    · exact e3 y q
theorem least_bd {r : Row} {m : Nat} (h : BdL m r.1) : BdL m (least r).1 := fun x hx => by
  obtain ⟨y, hy, rfl⟩ := List.mem_map.mp hx
  exact Nat.le_trans (Int.natAbs_ediv_le_natAbs y _) (h y hy)
theorem least_bdE {r : Row} {m : Nat} (h : BdL m (ents r)) : BdL m (ents (least r)) := fun x hx => by
  rcases List.mem_append.mp hx with hx | hx
  · exact least_bd (fun y hy => h y (List.mem_append_left _ hy)) x hx
  · rw [List.mem_singleton.mp hx]
    exact Nat.le_trans (Int.natAbs_ediv_le_natAbs r.2 _) (h r.2 (List.mem_append_right _ (List.mem_singleton.mpr rfl)))
def mosts : List Int := [1, 2, 6, 1000]
theorem mosts_ok : ∀ m ∈ mosts, 1 ≤ m ∧ m ≤ 1000 := by decide
def spLRows (K : PySem.W.Frag) : Sp := fun vs H Q _ => ∃ (b : Addr) (n : Nat), vs = [.ref b, .int (n : Nat)] ∧ Bx H b ∧ 1 ≤ n ∧ n ≤ 6 ∧ ∀ H' v rs, Kb b H H' → Bx H' b → Dp K H' v (encRs rs) → RowsOk n rs → (∀ r ∈ rs, BdL 10000 (ents r)) → Q v H'
abbrev rN : List Str := ["_law_box_here", "_law_size", "_law_found", "_law_most", "_law_turn", "_law_coefficients", "_law_bound", "_law_factor", "_law_k", "_law_item"]
theorem scLRows : FnScope rN ["_law_box_here", "_law_size"] (defScope sLRows) := ⟨rfl, rfl, rfl, by decide +kernel, rfl, by decide +kernel, by decide +kernel⟩
theorem ok_lrows (B : Bl mg) (D : Def K mg "_law_rows" sLRows ["_law_box_here", "_law_size"]) (OT : Ok P w K mg base CX0 1 "_law_take" sTake ["_law_box_here", "_law_many"] spTake) (OP : Ok P w K mg base CX0 2 "_law_pick" sPick ["_law_box_here", "_law_some"] (spPick K))
    (OC : Ok P w K mg base CX0 1 "_law_common" sLCommon ["_law_numbers"] (spLCommon K)) (OL : Ok P w K mg base CX0 2 "_law_least" sLLeast ["_law_coefficients", "_law_bound"] (spLLeast K)) :
    Ok P w K mg base CX0 3 "_law_rows" sLRows ["_law_box_here", "_law_size"] (spLRows K) := by
  refine .of D fun f fd F => F.ok scLRows (fun vs H Q E h => ?_) (fun cdv A outer s H vs Q E hr h => ?_)
  · obtain ⟨v, d, rfl, _⟩ := h
    rfl
  · obtain ⟨b, n, rfl, bx, n1, n6, q⟩ := h
    have hr1 := hr.mono (show 1 ≤ 2 by decide)
    refine ⟨_, pss_cons (ps_asg (pe_tup (pa_cons pe_dnewR (pa_cons (pe_c OP hr (pa_cons (pv 0) (pa_cons (pe_lst (pa_cons pe_int (pa_cons pe_int (pa_cons pe_int (pa_cons pe_int pa_nil))))) pa_nil))) pa_nil))) (pg_tup rfl (pgs_cons (pg_name (i := 2) scLRows.nd rfl (.inl rfl)) (pgs_cons (pg_name (i := 3) scLRows.nd rfl (.inr rfl)) pgs_nil))))
      (pss_cons (ps_for PassesOwn.never rfl (pi_range1 rfl B.range (pa_cons (pe_op op_add pe_int (pe_c OT hr1 (pa_cons (pv 0) (pa_cons pe_int pa_nil)))) pa_nil)) (pg_name (i := 4) scLRows.nd rfl (.inl rfl))
        (pss_cons (ps_setLc (i := 5) (own := [("_law_k", 8)]) (g := gName 8) (tt := tYes) (te := tOp (rI0 fun i j => .int (i - j)) (tCall spTake [] E0 (tCons (tVar 0) (tCons (tOp (rI0 fun i j => .int (i + j)) (tOp (rI CMul fun i j => .int (i * j)) (tC (.int 2)) (tVar 3)) (tC (.int 1))) tNil))) (tVar 3)) rfl scLRows.nd rfl rfl (sw_true rfl rfl rfl (by decide +kernel)) (pi_range1 rfl B.range (pa_cons (pv 1) pa_nil)) (blkOk_by (N := rN) (sc := defScope sLRows) (by decide +kernel))
          (fun _ _ _ _ _ => pg_name (i := 8) scLRows.nd rfl (.inl rfl)) (fun _ _ _ _ _ => pts_nil) (fun _ _ _ _ _ => pe_op op_sub (pe_c OT hr1 (pa_cons (pv 0) (pa_cons (pe_op op_add (pe_op op_mul pe_int (pv 3)) pe_int) pa_nil))) (pv 3)))
        (pss_cons (ps_if (pt_cmpR op_eq (pe_c OC hr1 (pa_cons (pv 5) pa_nil)) pe_int (nomark _)) (pss_one (ps_asg (pe_c OP hr (pa_cons (pv 0) (pa_cons (pe_lst (pa_cons pe_int (pa_cons (pe_op op_sub pe_int pe_int) pa_nil))) pa_nil))) (pg_sub (pv 5) (pe_c OT hr1 (pa_cons (pv 0) (pa_cons (pv 1) pa_nil))) set_list))) pss_nil)
        (pss_cons (ps_asg (pe_tup (pa_cons (pe_op op_sub (pe_c OT hr1 (pa_cons (pv 0) (pa_cons (pe_op op_add (pe_op op_mul pe_int (pv 3)) pe_int) pa_nil))) (pv 3)) (pa_cons (pe_op op_add pe_int (pe_c OT hr1 (pa_cons (pv 0) (pa_cons pe_int pa_nil)))) pa_nil))) (pg_tup rfl (pgs_cons (pg_name (i := 6) scLRows.nd rfl (.inl rfl)) (pgs_cons (pg_name (i := 7) scLRows.nd rfl (.inr rfl)) pgs_nil))))
        (pss_cons (ps_dputR hr.units (pv 2) (pe_c OL hr (pa_cons (pv 5) (pa_cons (pv 6) pa_nil))) pe_bl)
        (pss_one (ps_if (pt_cmpR op_eq (pe_c OT hr1 (pa_cons (pv 0) (pa_cons pe_int pa_nil))) pe_int (nomark _)) (pss_one (ps_dputR hr.units (pv 2) (pe_c OL hr (pa_cons (pe_lc (own := [("_law_item", 9)]) (g := gName 9) (tt := tYes) rfl scLRows.nd (pi_list (pv 5)) (blkOk_by (N := rN) (sc := defScope sLRows) (by decide +kernel))
          (fun _ _ _ _ _ => pg_name (i := 9) scLRows.nd rfl (.inl rfl)) (fun _ _ _ _ _ => pts_nil) (fun _ _ _ _ _ => pe_op op_mul (pv 9) (pv 7))) (pa_cons (pe_op op_add (pe_op op_mul (pv 6) (pv 7)) pe_int) pa_nil))) pe_bl)) pss_nil)))))))
      (pss_one (ps_ret (pe_t (f := "tuple") call_tupD B.tuple b_tuple (pa_cons (pe_b (f := "sorted") (cr_sortedD encR hr.units) B.sorted b_sorted (pa_cons (pe_t (f := "list") (call_listR rfl) B.list b_list (pa_cons (pv 2) pa_nil)) pa_nil)) pa_nil))))), ?_⟩
    refine fun D nD => ?_
    have bx0 := Bx.same bx (same_new (o := RDO P w D []) nD)
    have hDb := Bx.ne bx nD
    refine ⟨_, rfl, (by show 4 ≤ sizeLine; decide), fun p1 n1' => ?_⟩
    have nb1 := Bx.ne bx0 n1'
    refine ⟨b, p1, mosts.map V.int, rfl, Bx.same bx0 (same_new n1'), fun H' kb => .inl (SqL.of (kb _ _ nb1 upd_same)), by decide, by decide, fun H1 k1 v1 kb1 bx1 hk1 => ?_⟩
    obtain ⟨m, gm, rfl⟩ := map_get hk1
    obtain ⟨m1, m2⟩ := mosts_ok m (List.mem_of_getElem? gm)
    refine ⟨(by show 2 ≤ sizeLine; decide), fun t1 nt1 => ?_⟩
    refine ⟨t1, _, rfl, SqT.of upd_same, rfl, _, _, rfl, _, _, rfl, rfl, ?_⟩
    have K0 : Kb b H (upd H1 t1 (.tup [.ref D, .int m])) := (((Kb.of_same (same_new (o := RDO P w D []) nD)).trans (Kb.of_same (same_new n1'))).trans kb1).trans (Kb.of_same (same_new nt1))
    have hD1 : upd H1 t1 (.tup [.ref D, .int m]) D = some (RDO P w D []) := same_new nt1 _ _ (kb1 _ _ hDb (same_new n1' _ _ upd_same))
    have bx2 : Bx (upd H1 t1 (.tup [.ref D, .int m])) b := Bx.same bx1 (same_new nt1)
    have nDH := nD
    refine ⟨_, rfl, b, 4, rfl, bx2, by decide, by decide, fun H3 k3 kb3 bx3 hk3 => ?_⟩
    refine ⟨_, _, rfl, rfl, 1 + ((k3 : Nat) : Int), rfl, by omega, by omega, for_range (lo := 0) (n := (1 + ((k3 : Nat) : Int)).toNat) (fun i σ H' => ∃ z4 z5 z6 z7 z8 z9 xs, σ = [some (.ref b), some (.int (n : Nat)), some (.ref D), some (.int m), z4, z5, z6, z7, z8, z9] ∧ Kb b H H' ∧ Bx H' b ∧ H' D = some (RDO P w D xs) ∧ (∀ z ∈ xs, EntOk K H' n z) ∧ xs.length ≤ 2 * i)
      ⟨none, none, none, none, none, none, [], rfl, K0.trans kb3, bx3, kb3 _ _ hDb hD1, (fun z hz => nomatch hz), Nat.zero_le _⟩ ?_ ?_⟩
    · rintro i σ Ha hi ⟨z4, z5, z6, z7, z8, z9, xs, rfl, Ka, bxa, hDa, enta, lena⟩
      have i4 : i < 4 := by omega
      refine ⟨_, rfl, ((n : Nat) : Int), rfl, by omega, by omega, fun Dc nDc => ?_⟩
      have hCb := Bx.ne bxa nDc
      have hCD : Dc ≠ D := fun e => by
        rw [e, hDa] at nDc
        cases nDc
      refine lc_it (walk_range (lo := 0) (n := ((n : Nat) : Int).toNat)) (fun j H' => ∃ c : List Int, Kb b Ha H' ∧ Bx H' b ∧ H' Dc = some (.lst (c.map V.int)) ∧ c.length = j ∧ BdL 1000 c) ⟨[], Kb.of_same (same_new nDc), Bx.same bxa (same_new nDc), upd_same, rfl, fun x hx => nomatch hx⟩ (fun _ _ _ _ => trivial) ?_ ?_
      · intro j x Hb Hc hj ⟨c, kbb, bxb, hCc, lnc, bdc⟩ hY
        obtain ⟨rfl, rfl⟩ := hY
        refine ⟨rfl, _, rfl, _, rfl, _, _, rfl, rfl, .inl ⟨by decide, by decide⟩, _, _, rfl, rfl, b, 2 * m + 1, rfl, bxb, by omega, by omega, fun Hd kd kbd bxd hkd => ?_⟩
        refine ⟨_, rfl, _, _, rfl, rfl, _, kbd _ _ hCb hCc, by rw [List.length_map, sizeLine_eq]; omega, c ++ [(kd : Nat) - m], ?_, ?_, ?_, by rw [List.length_append, lnc]; rfl, ?_⟩
        · intro a o ne e
          rw [upd_ne (fun z => by rw [z, nDc] at e; cases e)]
          exact kbd _ _ ne (kbb a o ne e)
        · obtain ⟨x, y, z, hb⟩ := bxd
          exact ⟨x, y, z, by rw [upd_ne (Ne.symm hCb)]; exact hb⟩
        · rw [List.map_append]
          exact upd_same
        · intro x hx
          rcases List.mem_append.mp hx with hx | hx
          · exact bdc x hx
          · rw [List.mem_singleton.mp hx]
            omega
      · intro Hc ⟨c, kbc, bxc, hCc, lnc', bdc⟩
        have lnc : c.length = n := by omega
        have hDc' := kbc _ _ hDb hDa
        have Kc := Ka.trans kbc
        have entc : ∀ z ∈ xs, EntOk K Hc n z := fun z hz => EntOk.fx (enta z hz) (Bx.fx bxa kbc)
        refine ⟨_, rfl, Dc, c, rfl, SqL.of hCc, rfl, ?_⟩
        by_cases g0 : gcdL c = 0
        · refine ⟨true, congrArg V.bl (decide_eq_true (by rw [g0]; rfl)), iteT ?_⟩
          refine ⟨_, rfl, _, _, rfl, rfl, (by show 2 ≤ sizeLine; decide), fun p5 n5 => ?_⟩
          have nb5 := Bx.ne bxc n5
          refine ⟨b, p5, ([2, 0 - 3] : List Int).map V.int, rfl, Bx.same bxc (same_new n5), fun H' kb => .inl (SqL.of (kb _ _ nb5 upd_same)), by decide, by decide, fun H5 k5 v5 kb5 bx5 hk5 => ?_⟩
          obtain ⟨x5, gx5, rfl⟩ := map_get hk5
          have hx5 : x5 ≠ 0 ∧ x5.natAbs ≤ 1000 := by
            have := List.mem_of_getElem? gx5
            simp only [List.mem_cons, List.not_mem_nil, or_false] at this
            omega
          refine ⟨_, rfl, _, rfl, _, rfl, b, _, rfl, bx5, by omega, by omega, fun H6 k6 kb6 bx6 hk6 => ?_⟩
          have kl : k6 < c.length := by omega
          have hC6 := kb6 _ _ hCb (kb5 _ _ hCb (same_new n5 _ _ hCc))
          have hix : ixN (c.map V.int).length (k6 : Nat) = some k6 := by
            unfold ixN
            rw [if_pos (by omega), if_pos (by rw [List.length_map]; omega)]
            simp
          refine ⟨Dc, _, _, k6, rfl, rfl, hC6, hix, ?_⟩
          rw [← List.map_set]
          have K6 : Kb b H (upd H6 Dc (.lst ((c.set k6 x5).map V.int))) := fun a o ne e => by
            have e' := Ka a o ne e
            rw [upd_ne (fun z => by rw [z, nDc] at e'; cases e')]
            exact kb6 _ _ ne (kb5 _ _ ne (same_new n5 _ _ (kbc a o ne e')))
          have bx7 : Bx (upd H6 Dc (.lst ((c.set k6 x5).map V.int))) b := by
            obtain ⟨x, y, z, hb⟩ := bx6
            exact ⟨x, y, z, by rw [upd_ne (Ne.symm hCb)]; exact hb⟩
          have hD7 : upd H6 Dc (.lst ((c.set k6 x5).map V.int)) D = some (RDO P w D xs) := by
            rw [upd_ne (Ne.symm hCD)]
            exact kb6 _ _ hDb (kb5 _ _ hDb (same_new n5 _ _ hDc'))
          have ent7 : ∀ z ∈ xs, EntOk K (upd H6 Dc (.lst ((c.set k6 x5).map V.int))) n z := fun z hz => EntOk.fx (EntOk.fx (EntOk.fx (EntOk.fx (entc z hz) (fx_same (same_new n5))) (Bx.fx (Bx.same bxc (same_new n5)) kb5)) (Bx.fx bx5 kb6)) (Fx.upd fun o e => by rw [hC6] at e; cases e; rfl)
          have nz7 : NZ (c.set k6 x5) := ⟨x5, List.mem_of_getElem? (List.getElem?_set_self kl), hx5.1⟩
          have ln7 : (c.set k6 x5).length = n := by rw [List.length_set]; exact lnc
          have bd7 : BdL 1000 (c.set k6 x5) := fun x hx => by
            rcases List.mem_or_eq_of_mem_set hx with z | z
            · exact bdc x z
            · rw [z]
              exact hx5.2
          have hC7 : upd H6 Dc (.lst ((c.set k6 x5).map V.int)) Dc = some (.lst ((c.set k6 x5).map V.int)) := upd_same
          refine ⟨_, rfl, _, rfl, _, _, rfl, rfl, .inl ⟨by decide, by decide⟩, _, _, rfl, rfl, b, 2 * m + 1, rfl, bx7, by omega, by omega, fun Hd kd kbd bxd hkd => ?_⟩
          refine ⟨_, rfl, _, _, rfl, rfl, _, rfl, b, 3, rfl, bxd, by decide, by decide, fun He ke kbe bxe hke => ?_⟩
          refine ⟨_, _, rfl, rfl, (by show 2 ≤ sizeLine; decide), fun te nte => ?_⟩
          refine ⟨te, _, rfl, SqT.of upd_same, rfl, _, _, rfl, _, _, rfl, rfl, ?_⟩
          have Kf : Kb b H (upd He te (.tup [.int ((kd : Nat) - m), .int (1 + (ke : Nat))])) := ((K6.trans kbd).trans kbe).trans (Kb.of_same (same_new nte))
          have bxf : Bx (upd He te (.tup [.int ((kd : Nat) - m), .int (1 + (ke : Nat))])) b := Bx.same bxe (same_new nte)
          have hDf : upd He te (.tup [.int ((kd : Nat) - m), .int (1 + (ke : Nat))]) D = some (RDO P w D xs) := same_new nte _ _ (kbe _ _ hDb (kbd _ _ hDb hD7))
          have hCf : upd He te (.tup [.int ((kd : Nat) - m), .int (1 + (ke : Nat))]) Dc = some (.lst ((c.set k6 x5).map V.int)) := same_new nte _ _ (kbe _ _ hCb (kbd _ _ hCb hC7))
          have entf : ∀ z ∈ xs, EntOk K (upd He te (.tup [.int ((kd : Nat) - m), .int (1 + (ke : Nat))])) n z := fun z hz => EntOk.fx (EntOk.fx (EntOk.fx (ent7 z hz) (Bx.fx bx7 kbd)) (Bx.fx bxd kbe)) (fx_same (same_new nte))
          have nzr : 0 < gcdL (ents (c.set k6 x5, (kd : Nat) - m)) := NZ.ents (r := (c.set k6 x5, (kd : Nat) - m)) nz7
          have glr := gcd_lt (b := (kd : Nat) - m) nz7 (fun x hx => by have := bd7 x hx; omega)
          refine ⟨_, rfl, _, rfl, _, rfl, Dc, c.set k6 x5, (kd : Nat) - m, rfl, SqL.of hCf, by rw [ln7]; exact n6, nzr, glr, fun Hg vg sg eg => ?_⟩
          obtain ⟨ka, v1, rfl, hsr, d1⟩ := Dp.R_inv eg
          have entg : ∀ z ∈ xs, EntOk K Hg n z := fun z hz => EntOk.fx (entf z hz) (fx_same sg)
          have okg : RowOk n (least (c.set k6 x5, (kd : Nat) - m)) := least_ok ln7 nz7
          have bdg : BdL 10000 (ents (least (c.set k6 x5, (kd : Nat) - m))) := least_bdE (fun x hx => by
            rcases List.mem_append.mp hx with hx | hx
            · have := bd7 x hx
              omega
            · have hx' : x = (kd : Nat) - m := List.mem_singleton.mp hx
              omega)
          refine ⟨D, ka, xs, least (c.set k6 x5, (kd : Nat) - m), rfl, rfl, sg _ _ hDf, eg, ents_keys entg, by omega, fun u => ?_⟩
          have fxg : Fx Hg (upd Hg D (RDO P w D (storedH xs (keyR (least (c.set k6 x5, (kd : Nat) - m))) ka u))) := Fx.upd fun o e => by
            rw [sg _ _ hDf] at e
            cases e
            rfl
          have enth : ∀ z ∈ storedH xs (keyR (least (c.set k6 x5, (kd : Nat) - m))) ka u, EntOk K (upd Hg D (RDO P w D (storedH xs (keyR (least (c.set k6 x5, (kd : Nat) - m))) ka u))) n z := fun z hz => EntOk.fx (stored_ok entg ⟨_, rfl, eg, okg, bdg⟩ z hz) fxg
          have leng := storedH_length xs (keyR (least (c.set k6 x5, (kd : Nat) - m))) ka u
          have Kh : Kb b H (upd Hg D (RDO P w D (storedH xs (keyR (least (c.set k6 x5, (kd : Nat) - m))) ka u))) := fun a o ne e => by
            rw [upd_ne (fun z => by rw [z, nDH] at e; cases e)]
            exact sg _ _ (Kf a o ne e)
          have bxh : Bx (upd Hg D (RDO P w D (storedH xs (keyR (least (c.set k6 x5, (kd : Nat) - m))) ka u))) b := by
            obtain ⟨x, y, z, hb⟩ := bxf
            exact ⟨x, y, z, by rw [upd_ne (Ne.symm hDb)]; exact sg _ _ hb⟩
          have hCh : upd Hg D (RDO P w D (storedH xs (keyR (least (c.set k6 x5, (kd : Nat) - m))) ka u)) Dc = some (.lst ((c.set k6 x5).map V.int)) := by
            rw [upd_ne hCD]
            exact sg _ _ hCf
          refine ⟨_, rfl, b, 2, rfl, bxh, by decide, by decide, fun Hi ki kbi bxi hki => ?_⟩
          have hDi : Hi D = some (RDO P w D (storedH xs (keyR (least (c.set k6 x5, (kd : Nat) - m))) ka u)) := kbi _ _ hDb upd_same
          have enti : ∀ z ∈ storedH xs (keyR (least (c.set k6 x5, (kd : Nat) - m))) ka u, EntOk K Hi n z := fun z hz => EntOk.fx (enth z hz) (Bx.fx bxh kbi)
          by_cases k0 : ki = 0
          · subst k0
            refine ⟨rfl, true, rfl, iteT ?_⟩
            have hCi : Hi Dc = some (.lst ((c.set k6 x5).map V.int)) := kbi _ _ hCb hCh
            have lz : ((c.set k6 x5).map V.int).length ≤ sizeLine := by
              rw [List.length_map, ln7, sizeLine_eq]
              omega
            refine ⟨_, rfl, _, rfl, Dc, rfl, ⟨_, SqL.of hCi⟩, fun Dj nDj => lc_itD (K := K) walk_list (((c.set k6 x5).map fun x => x * (1 + ((ke : Nat) : Int))).map PyData.int) (tup_ints _) (by simp) lz nDj (fun _ sb => sb.seq (SqL.of hCi)) ?_ ?_⟩
            · intro k y2 e2 Hb2 Hc2 R Nx hk he sb hY hq
              obtain ⟨rfl, hx2⟩ := hY
              obtain ⟨x, gx2, rfl⟩ := map_get hx2
              obtain ⟨z, gz, rfl⟩ := map_get he
              obtain ⟨x', gx3, rfl⟩ := map_get gz
              rw [gx2] at gx3
              have ex : x = x' := Option.some.inj gx3
              subst ex
              exact ⟨rfl, _, rfl, _, rfl, _, _, rfl, rfl, .inr (by omega), hq _ _ (Same.refl _) (.int _)⟩
            · intro Hj ysj sj hDj hdj
              rw [DpAll.ints_inv hdj] at hDj
              have nz2 : NZ ((c.set k6 x5).map fun x => x * (1 + ((ke : Nat) : Int))) := by
                obtain ⟨x, hx, hn⟩ := nz7
                exact ⟨_, List.mem_map.mpr ⟨x, hx, rfl⟩, fun e => by
                  rcases Int.mul_eq_zero.mp e with z | z
                  · exact hn z
                  · omega⟩
              have bd2 : BdL 3000 ((c.set k6 x5).map fun x => x * (1 + ((ke : Nat) : Int))) := fun y hy => by
                obtain ⟨x, hx, rfl⟩ := List.mem_map.mp hy
                rw [Int.natAbs_mul]
                show _ ≤ 1000 * 3
                exact Nat.mul_le_mul (bd7 x hx) (by omega)
              have ln2 : ((c.set k6 x5).map fun x => x * (1 + ((ke : Nat) : Int))).length = n := by rw [List.length_map]; exact ln7
              refine ⟨_, rfl, _, rfl, _, _, rfl, rfl, .inr (by omega), _, _, rfl, rfl, Dj, (c.set k6 x5).map fun x => x * (1 + ((ke : Nat) : Int)), ((kd : Nat) - m) * (1 + ((ke : Nat) : Int)) + 1, rfl, SqL.of hDj, by rw [ln2]; exact n6, NZ.ents (r := (_, _)) nz2, gcd_lt nz2 (fun x hx => by have := bd2 x hx; omega), fun Hk vk sk ek => ?_⟩
              obtain ⟨kb', v1', rfl, hsr', d1'⟩ := Dp.R_inv ek
              have sjk := sj.trans sk
              have entk : ∀ z ∈ storedH xs (keyR (least (c.set k6 x5, (kd : Nat) - m))) ka u, EntOk K Hk n z := fun z hz => EntOk.fx (enti z hz) (fx_same sjk)
              have okk : RowOk n (least (((c.set k6 x5).map fun x => x * (1 + ((ke : Nat) : Int))), ((kd : Nat) - m) * (1 + ((ke : Nat) : Int)) + 1)) := least_ok ln2 nz2
              have bdk : BdL 10000 (ents (least (((c.set k6 x5).map fun x => x * (1 + ((ke : Nat) : Int))), ((kd : Nat) - m) * (1 + ((ke : Nat) : Int)) + 1))) := least_bdE (fun x hx => by
                rcases List.mem_append.mp hx with hx | hx
                · have := bd2 x hx
                  omega
                · have hx' : x = ((kd : Nat) - m) * (1 + ((ke : Nat) : Int)) + 1 := List.mem_singleton.mp hx
                  have k3 : ke = 0 ∨ ke = 1 ∨ ke = 2 := by omega
                  rcases k3 with z | z | z
                  · rw [z] at hx'
                    omega
                  · rw [z] at hx'
                    omega
                  · rw [z] at hx'
                    omega)
              refine ⟨D, kb', _, _, rfl, rfl, sjk _ _ hDi, ek, ents_keys entk, by omega, fun u2 => ?_⟩
              have len2 := storedH_length (storedH xs (keyR (least (c.set k6 x5, (kd : Nat) - m))) ka u) (keyR (least (((c.set k6 x5).map fun x => x * (1 + ((ke : Nat) : Int))), ((kd : Nat) - m) * (1 + ((ke : Nat) : Int)) + 1))) kb' u2
              refine ⟨_, _, _, _, _, _, _, rfl, ?_, ?_, upd_same, fun z hz => EntOk.fx (stored_ok entk ⟨_, rfl, ek, okk, bdk⟩ z hz) (Fx.upd fun o e => by rw [sjk _ _ hDi] at e; cases e; rfl), by omega⟩
              · intro a o ne e
                rw [upd_ne (fun z => by rw [z, nDH] at e; cases e)]
                exact sjk _ _ (kbi _ _ ne (Kh a o ne e))
              · obtain ⟨x, y, z, hb⟩ := bxi
                exact ⟨x, y, z, by rw [upd_ne (Ne.symm hDb)]; exact sjk _ _ hb⟩
          · refine ⟨rfl, false, congrArg V.bl (decide_eq_false (by intro z; injection z with z; omega)), iteF ?_⟩
            exact ⟨_, _, _, _, _, _, _, rfl, Kh.trans kbi, bxi, hDi, enti, by omega⟩
        · refine ⟨false, congrArg V.bl (decide_eq_false (by intro z; injection z with z; omega)), iteF ?_⟩
          have nz : NZ c := Classical.byContradiction fun z => g0 (gcdL_zero.mpr fun x hx => Classical.byContradiction fun hn => z ⟨x, hx, hn⟩)
          refine ⟨_, rfl, _, rfl, _, _, rfl, rfl, .inl ⟨by decide, by decide⟩, _, _, rfl, rfl, b, 2 * m + 1, rfl, bxc, by omega, by omega, fun Hd kd kbd bxd hkd => ?_⟩
          refine ⟨_, rfl, _, _, rfl, rfl, _, rfl, b, 3, rfl, bxd, by decide, by decide, fun He ke kbe bxe hke => ?_⟩
          refine ⟨_, _, rfl, rfl, (by show 2 ≤ sizeLine; decide), fun te nte => ?_⟩
          refine ⟨te, _, rfl, SqT.of upd_same, rfl, _, _, rfl, _, _, rfl, rfl, ?_⟩
          have Kf : Kb b H (upd He te (.tup [.int ((kd : Nat) - m), .int (1 + (ke : Nat))])) := ((Kc.trans kbd).trans kbe).trans (Kb.of_same (same_new nte))
          have bxf : Bx (upd He te (.tup [.int ((kd : Nat) - m), .int (1 + (ke : Nat))])) b := Bx.same bxe (same_new nte)
          have hDf : upd He te (.tup [.int ((kd : Nat) - m), .int (1 + (ke : Nat))]) D = some (RDO P w D xs) := same_new nte _ _ (kbe _ _ hDb (kbd _ _ hDb hDc'))
          have hCf : upd He te (.tup [.int ((kd : Nat) - m), .int (1 + (ke : Nat))]) Dc = some (.lst ((c).map V.int)) := same_new nte _ _ (kbe _ _ hCb (kbd _ _ hCb hCc))
          have entf : ∀ z ∈ xs, EntOk K (upd He te (.tup [.int ((kd : Nat) - m), .int (1 + (ke : Nat))])) n z := fun z hz => EntOk.fx (EntOk.fx (EntOk.fx (entc z hz) (Bx.fx bxc kbd)) (Bx.fx bxd kbe)) (fx_same (same_new nte))
          have nzr : 0 < gcdL (ents (c, (kd : Nat) - m)) := NZ.ents (r := (c, (kd : Nat) - m)) nz
          have glr := gcd_lt (b := (kd : Nat) - m) nz (fun x hx => by have := bdc x hx; omega)
          refine ⟨_, rfl, _, rfl, _, rfl, Dc, c, (kd : Nat) - m, rfl, SqL.of hCf, by rw [lnc]; exact n6, nzr, glr, fun Hg vg sg eg => ?_⟩
          obtain ⟨ka, v1, rfl, hsr, d1⟩ := Dp.R_inv eg
          have entg : ∀ z ∈ xs, EntOk K Hg n z := fun z hz => EntOk.fx (entf z hz) (fx_same sg)
          have okg : RowOk n (least (c, (kd : Nat) - m)) := least_ok lnc nz
          have bdg : BdL 10000 (ents (least (c, (kd : Nat) - m))) := least_bdE (fun x hx => by
            rcases List.mem_append.mp hx with hx | hx
            · have := bdc x hx
              omega
            · have hx' : x = (kd : Nat) - m := List.mem_singleton.mp hx
              omega)
          refine ⟨D, ka, xs, least (c, (kd : Nat) - m), rfl, rfl, sg _ _ hDf, eg, ents_keys entg, by omega, fun u => ?_⟩
          have fxg : Fx Hg (upd Hg D (RDO P w D (storedH xs (keyR (least (c, (kd : Nat) - m))) ka u))) := Fx.upd fun o e => by
            rw [sg _ _ hDf] at e
            cases e
            rfl
          have enth : ∀ z ∈ storedH xs (keyR (least (c, (kd : Nat) - m))) ka u, EntOk K (upd Hg D (RDO P w D (storedH xs (keyR (least (c, (kd : Nat) - m))) ka u))) n z := fun z hz => EntOk.fx (stored_ok entg ⟨_, rfl, eg, okg, bdg⟩ z hz) fxg
          have leng := storedH_length xs (keyR (least (c, (kd : Nat) - m))) ka u
          have Kh : Kb b H (upd Hg D (RDO P w D (storedH xs (keyR (least (c, (kd : Nat) - m))) ka u))) := fun a o ne e => by
            rw [upd_ne (fun z => by rw [z, nDH] at e; cases e)]
            exact sg _ _ (Kf a o ne e)
          have bxh : Bx (upd Hg D (RDO P w D (storedH xs (keyR (least (c, (kd : Nat) - m))) ka u))) b := by
            obtain ⟨x, y, z, hb⟩ := bxf
            exact ⟨x, y, z, by rw [upd_ne (Ne.symm hDb)]; exact sg _ _ hb⟩
          have hCh : upd Hg D (RDO P w D (storedH xs (keyR (least (c, (kd : Nat) - m))) ka u)) Dc = some (.lst ((c).map V.int)) := by
            rw [upd_ne hCD]
            exact sg _ _ hCf
          refine ⟨_, rfl, b, 2, rfl, bxh, by decide, by decide, fun Hi ki kbi bxi hki => ?_⟩
          have hDi : Hi D = some (RDO P w D (storedH xs (keyR (least (c, (kd : Nat) - m))) ka u)) := kbi _ _ hDb upd_same
          have enti : ∀ z ∈ storedH xs (keyR (least (c, (kd : Nat) - m))) ka u, EntOk K Hi n z := fun z hz => EntOk.fx (enth z hz) (Bx.fx bxh kbi)
          by_cases k0 : ki = 0
          · subst k0
            refine ⟨rfl, true, rfl, iteT ?_⟩
            have hCi : Hi Dc = some (.lst ((c).map V.int)) := kbi _ _ hCb hCh
            have lz : ((c).map V.int).length ≤ sizeLine := by
              rw [List.length_map, lnc, sizeLine_eq]
              omega
            refine ⟨_, rfl, _, rfl, Dc, rfl, ⟨_, SqL.of hCi⟩, fun Dj nDj => lc_itD (K := K) walk_list (((c).map fun x => x * (1 + ((ke : Nat) : Int))).map PyData.int) (tup_ints _) (by simp) lz nDj (fun _ sb => sb.seq (SqL.of hCi)) ?_ ?_⟩
            · intro k y2 e2 Hb2 Hc2 R Nx hk he sb hY hq
              obtain ⟨rfl, hx2⟩ := hY
              obtain ⟨x, gx2, rfl⟩ := map_get hx2
              obtain ⟨z, gz, rfl⟩ := map_get he
              obtain ⟨x', gx3, rfl⟩ := map_get gz
              rw [gx2] at gx3
              have ex : x = x' := Option.some.inj gx3
              subst ex
              exact ⟨rfl, _, rfl, _, rfl, _, _, rfl, rfl, .inr (by omega), hq _ _ (Same.refl _) (.int _)⟩
            · intro Hj ysj sj hDj hdj
              rw [DpAll.ints_inv hdj] at hDj
              have nz2 : NZ ((c).map fun x => x * (1 + ((ke : Nat) : Int))) := by
                obtain ⟨x, hx, hn⟩ := nz
                exact ⟨_, List.mem_map.mpr ⟨x, hx, rfl⟩, fun e => by
                  rcases Int.mul_eq_zero.mp e with z | z
                  · exact hn z
                  · omega⟩
              have bd2 : BdL 3000 ((c).map fun x => x * (1 + ((ke : Nat) : Int))) := fun y hy => by
                obtain ⟨x, hx, rfl⟩ := List.mem_map.mp hy
                rw [Int.natAbs_mul]
                show _ ≤ 1000 * 3
                exact Nat.mul_le_mul (bdc x hx) (by omega)
              have ln2 : ((c).map fun x => x * (1 + ((ke : Nat) : Int))).length = n := by rw [List.length_map]; exact lnc
              refine ⟨_, rfl, _, rfl, _, _, rfl, rfl, .inr (by omega), _, _, rfl, rfl, Dj, (c).map fun x => x * (1 + ((ke : Nat) : Int)), ((kd : Nat) - m) * (1 + ((ke : Nat) : Int)) + 1, rfl, SqL.of hDj, by rw [ln2]; exact n6, NZ.ents (r := (_, _)) nz2, gcd_lt nz2 (fun x hx => by have := bd2 x hx; omega), fun Hk vk sk ek => ?_⟩
              obtain ⟨kb', v1', rfl, hsr', d1'⟩ := Dp.R_inv ek
              have sjk := sj.trans sk
              have entk : ∀ z ∈ storedH xs (keyR (least (c, (kd : Nat) - m))) ka u, EntOk K Hk n z := fun z hz => EntOk.fx (enti z hz) (fx_same sjk)
              have okk : RowOk n (least (((c).map fun x => x * (1 + ((ke : Nat) : Int))), ((kd : Nat) - m) * (1 + ((ke : Nat) : Int)) + 1)) := least_ok ln2 nz2
              have bdk : BdL 10000 (ents (least (((c).map fun x => x * (1 + ((ke : Nat) : Int))), ((kd : Nat) - m) * (1 + ((ke : Nat) : Int)) + 1))) := least_bdE (fun x hx => by
                rcases List.mem_append.mp hx with hx | hx
                · have := bd2 x hx
                  omega
                · have hx' : x = ((kd : Nat) - m) * (1 + ((ke : Nat) : Int)) + 1 := List.mem_singleton.mp hx
                  have k3 : ke = 0 ∨ ke = 1 ∨ ke = 2 := by omega
                  rcases k3 with z | z | z
                  · rw [z] at hx'
                    omega
                  · rw [z] at hx'
                    omega
                  · rw [z] at hx'
                    omega)
              refine ⟨D, kb', _, _, rfl, rfl, sjk _ _ hDi, ek, ents_keys entk, by omega, fun u2 => ?_⟩
              have len2 := storedH_length (storedH xs (keyR (least (c, (kd : Nat) - m))) ka u) (keyR (least (((c).map fun x => x * (1 + ((ke : Nat) : Int))), ((kd : Nat) - m) * (1 + ((ke : Nat) : Int)) + 1))) kb' u2
              refine ⟨_, _, _, _, _, _, _, rfl, ?_, ?_, upd_same, fun z hz => EntOk.fx (stored_ok entk ⟨_, rfl, ek, okk, bdk⟩ z hz) (Fx.upd fun o e => by rw [sjk _ _ hDi] at e; cases e; rfl), by omega⟩
              · intro a o ne e
                rw [upd_ne (fun z => by rw [z, nDH] at e; cases e)]
                exact sjk _ _ (kbi _ _ ne (Kh a o ne e))
              · obtain ⟨x, y, z, hb⟩ := bxi
                exact ⟨x, y, z, by rw [upd_ne (Ne.symm hDb)]; exact sjk _ _ hb⟩
          · refine ⟨rfl, false, congrArg V.bl (decide_eq_false (by intro z; injection z with z; omega)), iteF ?_⟩
            exact ⟨_, _, _, _, _, _, _, rfl, Kh.trans kbi, bxi, hDi, enti, by omega⟩
    · rintro σ Ha ⟨z4, z5, z6, z7, z8, z9, xs, rfl, Ka, bxa, hDa, enta, lena⟩
      obtain ⟨rs, e1, e2, e3, e4⟩ := ents_rows enta
      refine ⟨_, rfl, D, xs, rfl, hDa, fun p np ndx => ?_⟩
      have K5 := Ka.trans (Kb.of_same (same_new (o := .lst (xs.map fun z => V.ref z.2.1)) np))
      refine ⟨p, _, rs, rfl, SqL.of upd_same, DpAll.same (same_new np) e2, alike_Rs _, sortable_Rs _, fun b _ => by have := depth_R b; omega, by rw [e4, sizeLine_eq]; omega, fun ws p2 np2 dws => ?_⟩
      refine ⟨p2, ws, _, rfl, SqL.of upd_same, DpAll.same (same_new np2) dws, fun vt H9 s9 et ndt => ?_⟩
      have nodup : rs.Nodup := by
        rw [e1] at ndx
        exact (List.pairwise_map.mp ndx).imp fun h e => h (congrArg keyR e)
      refine q H9 vt (srt rs) ((K5.trans (Kb.of_same (same_new np2))).trans (Kb.of_same s9)) (Bx.same (Bx.same (Bx.same bxa (same_new np)) (same_new np2)) s9) et (srt_ok (by omega) (fun r hr => (e3 r hr).1) nodup) (fun r hr => (e3 r ((srt_perm rs).mem_iff.mp hr)).2)
end
end K5
end

section
set_option Elab.async false
set_option linter.all false
set_option maxRecDepth 100000
set_option maxHeartbeats 4000000
/-! repr of rows; defs that want to know that no repr runs; calls with keywords; == of systems. -/
namespace K5
open PySem PySem.Spec PyProof.Rows L2
/-! ### repr -/
def rReprD (K : PySem.W.Frag) : List V → Hp → VK → Prop := fun xs H Q => ∃ p d, xs = [.ref p] ∧ Dp K H (.ref p) d ∧ d.showable = true ∧ d.hasDict = false ∧ d.depth ≤ 8 ∧ d.shown.length ≤ sizeLine ∧ Q (.str d.shown) H
theorem call_reprD {X : Cx} (hg : X.A.guards = some []) (hu : X.A.units + 64 < cLine) : CallR X (.builtin "repr") (rReprD X.K) := by
  intro pins s σ H xs us Q I r h
  obtain ⟨p, d, rfl, hd, hs, hn, dp, hz, q⟩ := h
  obtain ⟨u, rfl, rx⟩ := vals1 r
  obtain rfl : u = Value.ref p := rx
  obtain ⟨as, rd⟩ := L2.Dp.reads I d _ _ hd rfl
  refine PySem.repr_of_reads' rd hs (PySem.PyData.noDict_hsm hn) hg (by omega) (fun _ _ e => e) (fun h' u tk hk => ?_) hz
  exact ⟨.str d.shown, H, I.kept (t' := tk) hk, ⟨u, rfl⟩, q⟩
theorem tupleText_le {ts : List Str} {B : Nat} (h : ∀ t ∈ ts, t.length ≤ B) : (tupleText ts).length ≤ ts.length * (B + 2) + 3 := by
  have pl : ∀ ts : List Str, (∀ t ∈ ts, t.length ≤ B) → piled ts ≤ ts.length * (B + 2) := by
    intro ts
    induction ts with
    | nil => intro _; exact Nat.zero_le _
    | cons t ts ih =>
      intro h
      rw [piled_cons, List.length_cons, Nat.succ_mul]
      have h1 := h t List.mem_cons_self
      have h2 := ih fun u hu => h u (List.mem_cons_of_mem _ hu)
      omega
  unfold tupleText
  rw [strLen_append, strLen_append]
  have e1 : ((("(" : String) : Str)).length = 1 := rfl
  have e3 : (((if ts.length == 1 then ",)" else ")" : String) : Str)).length ≤ 2 := by split <;> decide
  have p := pl ts h
  by_cases e : ts = []
  · subst e
    have : (Str.join ", " ([] : List Str)).length = 0 := rfl
    omega
  · have := join_length_add ts e
    omega
theorem showableAll_of : ∀ {ds : List PyData}, (∀ d ∈ ds, d.showable = true) → PyData.showableAll ds = true
  | [], _ => by rw [PyData.showableAll]
  | d :: ds, h => by
    rw [PyData.showableAll, h d List.mem_cons_self, showableAll_of fun e he => h e (List.mem_cons_of_mem _ he)]
    rfl
theorem hasDictAll_of : ∀ {ds : List PyData}, (∀ d ∈ ds, d.hasDict = false) → PyData.hasDictAll ds = false
  | [], _ => by rw [PyData.hasDictAll]
  | d :: ds, h => by
    rw [PyData.hasDictAll, h d List.mem_cons_self, hasDictAll_of fun e he => h e (List.mem_cons_of_mem _ he)]
    rfl
theorem shownAll_map : ∀ (ds : List PyData), PyData.shownAll ds = ds.map PyData.shown
  | [] => by rw [PyData.shownAll]; rfl
  | d :: ds => by rw [PyData.shownAll, shownAll_map ds]; rfl
theorem int_show {x : Int} (h : x.natAbs ≤ 100000000000) : (PyData.int x).showable = true ∧ (PyData.int x).shown.length ≤ 1921 := by
  have l : x.natAbs.log2 < 1920 := by
    have h1 : x.natAbs < 2 ^ 37 := by omega
    by_cases z : x.natAbs = 0
    · rw [z]
      decide
    · have := (Nat.log2_lt z).mpr h1
      omega
  refine ⟨by rw [PyData.showable]; exact decide_eq_true l, ?_⟩
  rw [PyData.shown]
  exact PyProof.Rows.int_text_len_1921 l
theorem row_show {r : Row} {n : Nat} (hl : r.1.length = n) (n6 : n ≤ 6) (h : BdL 100000000000 (ents r)) : (encR r).showable = true ∧ (encR r).hasDict = false ∧ (encR r).shown.length ≤ 20000 := by
  have h1 : ∀ x ∈ r.1, x.natAbs ≤ 100000000000 := fun x hx => h x (List.mem_append_left _ hx)
  have h2 : r.2.natAbs ≤ 100000000000 := h r.2 (List.mem_append_right _ (List.mem_singleton.mpr rfl))
  have s1 : (encI r.1).showable = true := by
    unfold encI
    rw [PyData.showable]
    exact showableAll_of fun d hd => by
      obtain ⟨x, hx, rfl⟩ := List.mem_map.mp hd
      exact (int_show (h1 x hx)).1
  have d1 : (encI r.1).hasDict = false := by
    unfold encI
    rw [PyData.hasDict]
    exact hasDictAll_of fun d hd => by
      obtain ⟨x, hx, rfl⟩ := List.mem_map.mp hd
      rw [PyData.hasDict]
  have l1 : (encI r.1).shown.length ≤ 12000 := by
    unfold encI
    rw [PyData.shown, shownAll_map]
    have := tupleText_le (ts := (r.1.map PyData.int).map PyData.shown) (B := 1921) fun t ht => by
      obtain ⟨d, hd, rfl⟩ := List.mem_map.mp ht
      obtain ⟨x, hx, rfl⟩ := List.mem_map.mp hd
      exact (int_show (h1 x hx)).2
    rw [List.length_map, List.length_map] at this
    omega
  refine ⟨?_, ?_, ?_⟩
  · unfold encR
    rw [PyData.showable]
    exact showableAll_of fun d hd => by
      simp only [List.mem_cons, List.not_mem_nil, or_false] at hd
      rcases hd with rfl | rfl
      · exact s1
      · exact (int_show h2).1
  · unfold encR
    rw [PyData.hasDict]
    exact hasDictAll_of fun d hd => by
      simp only [List.mem_cons, List.not_mem_nil, or_false] at hd
      rcases hd with rfl | rfl
      · exact d1
      · rw [PyData.hasDict]
  · unfold encR
    rw [PyData.shown, shownAll_map]
    have l2 := (int_show h2).2
    show (tupleText [(encI r.1).shown, (PyData.int r.2).shown]).length ≤ 20000
    unfold tupleText
    rw [strLen_append, strLen_append]
    have := join_length_add [(encI r.1).shown, (PyData.int r.2).shown] (by simp)
    have e1 : ((("(" : String) : Str)).length = 1 := rfl
    have e3 : (((if ([(encI r.1).shown, (PyData.int r.2).shown] : List Str).length == 1 then ",)" else ")" : String) : Str)).length ≤ 2 := by split <;> decide
    have p : piled [(encI r.1).shown, (PyData.int r.2).shown] = ((encI r.1).shown.length + 2) + ((PyData.int r.2).shown.length + 2) := by
      rw [piled_cons, piled_cons]
      rfl
    omega
theorem rows_show {rs : List Row} {n : Nat} (h : RowsOk n rs) (n6 : n ≤ 6) (hb : ∀ r ∈ rs, BdL 100000000000 (ents r)) : (encRs rs).showable = true ∧ (encRs rs).hasDict = false ∧ (encRs rs).depth ≤ 8 ∧ (encRs rs).shown.length ≤ sizeLine := by
  have h60 := h.most
  have each := fun r hr => row_show (h.ok r hr).len n6 (hb r hr)
  unfold encRs
  refine ⟨?_, ?_, ?_, ?_⟩
  · rw [PyData.showable]
    exact showableAll_of fun d hd => by
      obtain ⟨x, hx, rfl⟩ := List.mem_map.mp hd
      exact (each x hx).1
  · rw [PyData.hasDict]
    exact hasDictAll_of fun d hd => by
      obtain ⟨x, hx, rfl⟩ := List.mem_map.mp hd
      exact (each x hx).2.1
  · rw [PyData.depth]
    have := depthAll_le (n := 2) (ds := rs.map encR) fun d hd => by
      obtain ⟨x, _, rfl⟩ := List.mem_map.mp hd
      exact depth_R x
    omega
  · rw [PyData.shown, shownAll_map]
    have := tupleText_le (ts := (rs.map encR).map PyData.shown) (B := 20000) fun t ht => by
      obtain ⟨d, hd, rfl⟩ := List.mem_map.mp ht
      obtain ⟨x, hx, rfl⟩ := List.mem_map.mp hd
      exact (each x hx).2.2
    rw [List.length_map, List.length_map] at this
    rw [sizeLine_eq]
    have : rs.length * (20000 + 2) ≤ 60 * (20000 + 2) := Nat.mul_le_mul_right _ h60
    omega
/-! ### a def that is called where no repr runs -/
structure FnG (P : Program) (w : World) (K : PySem.W.Frag) (mg : Str → Option Value) (base : Heap) (k : Nat) (f : Addr) (fd : FuncData) (ps : List Str) (sp : Sp) : Prop where
  len : ∀ vs H Q E, sp vs H Q E → vs.length = ps.length
  run : ∀ (A : Around) (outer : List Env) (s : Shared) (H : Hp) (args : Args) (us : List Value) (vs : List V) (Q : VK) (E : XK), A.guards = some [] → Room k A → Env0 P w K mg base A outer s H → BindsTo s fd args (ps.zip us) → Vals vs us → sp vs H Q E →
    codeAny (model P w) A (.call (.ref f) args) (CR CX0 outer P w H s Q E) s
section
variable {P : Program} {w : World} {K : PySem.W.Frag} {mg : Str → Option Value} {base : Heap}
theorem Fun.okG {x qual : Str} {st : Stmt} {f : Addr} {fd : FuncData} {N ps : List Str} {k : Nat} {sp : Sp} (F : Fun K x qual st f fd) (S : FnScope N ps (defScope st)) (len : ∀ vs H Q E, sp vs H Q E → vs.length = ps.length)
    (hbody : ∀ (cdv : Value) (A : Around) (outer : List Env) (s : Shared) (H : Hp) (vs : List V) (Q : VK) (E : XK), (A.deeper (envOfC qual (defScope st) s.heap.objs.size f cdv)).guards = some [] → (∃ oc od fdd osl, K.lookup f = some ⟨oc, od, .func fdd, osl⟩ ∧ fdd.code = cdv) → Room k (A.deeper (envOfC qual (defScope st) s.heap.objs.size f cdv)) → sp vs H Q E →
      ∃ t, PSs (cxOf CX0 P w K mg base N qual (defScope st) f cdv A outer s H E).nox (defBody st) t ∧ t { nx := fun _ H' => Q .non H', rt := Q } (L2.start N vs) H) : FnG P w K mg base (k + 1) f fd ps sp := by
  obtain ⟨oc, od, kV, doc, pm, an, cdv, ct, osl, rfl, lk, hcd⟩ := F.ex
  refine ⟨len, fun A outer s H args us vs Q E hg hr e0 hb hv hsp => ?_⟩
  refine LamX.run_ofS lk hcd S hr e0 hb hv (len _ _ _ _ hsp) fun hr' => ?_
  obtain ⟨t, h, q⟩ := hbody cdv A outer s H vs Q E hg ⟨_, _, _, _, lk, rfl⟩ hr' hsp
  exact ⟨t, h.nox, q⟩
def OkG (P : Program) (w : World) (K : PySem.W.Frag) (mg : Str → Option Value) (base : Heap) (k : Nat) (x : Str) (st : Stmt) (ps : List Str) (sp : Sp) : Prop :=
  ∃ f fd, mg x = some (.ref f) ∧ Fun K x x st f fd ∧ Binds K fd ps [] ∧ FnG P w K mg base k f fd ps sp
end
theorem pe_cG {X : Cx} {k : Nat} {x : Str} {st : Stmt} {ps : List Str} {sp : Sp} {e : Expr} {es : List Expr} {p pos : Pos} {t : TA} (O : OkG X.prog X.w X.K X.mg X.base k x st ps sp) (hgd : X.A.guards = some []) (hr : Room k X.A) (ha : PA X (e :: es) t) (hg : Gl X x := by rfl)
    (hdb : (x == ("__debug__" : Str)) = false := by decide) (he : starEach (e :: es) X.env = (false, eval e X.env) :: starEach es X.env := by rfl) (hpl : (backTo pos (starEach es X.env)).any (·.1) = false := by rfl) :
    PE X (.Call (.Name x p) (e :: es) [] pos) (tCall sp [] E0 t) := by
  obtain ⟨f, fd, hm, Fu, hb, F⟩ := O
  refine ⟨fun pins s σ H Q I h => ?_⟩
  refine wpAny_Call_Name_kw (ld_glob I hg hm ?_ hdb)
  refine PySem.W.callWith_K (h₀ := X.base) I.ok.mod.kin Fu.kp (thn (ha.run pos pins s σ H _ I h) fun us s1 ⟨vs, H1, I1, r, q⟩ => ⟨I1.kIn, ?_⟩) he hpl
  have q' : sp vs H1 Q E0 := by
    have z : sp (vs ++ []) H1 Q E0 := q
    rwa [List.append_nil] at z
  have hl : (us ++ []).length = ps.length := by
    rw [List.append_nil, ← r.length]
    exact F.len _ _ _ _ q'
  have hb' := hb s1 us I1.kIn hl
  rw [List.append_nil] at hb'
  refine wpAny_call (codeAny_mono (F.run X.A X.stack s1 H1 ⟨us, []⟩ us vs Q E0 hgd hr I1.env0 hb' r q') fun r s' hq => ?_)
  cases r with
  | error e => exact (show False from hq).elim
  | ok fl =>
    cases fl with
    | ret u => exact I1.after hq
    | next => exact False.elim hq
    | brk => exact False.elim hq
    | cont => exact False.elim hq
/-! ### calls with keywords -/
section
variable {P : Program} {w : World} {K : PySem.W.Frag} {mg : Str → Option Value} {base : Heap}
theorem kb_of {x qual : Str} {st : Stmt} {f : Addr} {fd : FuncData} {ps ks : List Str} {g : List Value → List Value → List Value} {gV : List V → List V → List V} (F : Fun K x qual st f fd)
    (h : ∀ (kV doc pm : Value) (an : Option Addr) (cdv ct : Value) (us ws : List Value), (g us ws).length = ps.length → bindArgs (PySem.W.fnOf x qual (defArgs st) (defBody st) (defScope st) .none kV doc pm an cdv ct) ⟨us, ks.zip ws⟩ = pure (ps.zip (g us ws)))
    (rel : ∀ {vs : List V} {us : List Value} {zs : List V} {ws : List Value}, Vals vs us → Vals zs ws → Vals (gV vs zs) (g us ws)) : KBinds K fd ps ks g gV := by
  obtain ⟨oc, od, kV, doc, pm, an, cdv, ct, osl, rfl, lk, hcd⟩ := F.ex
  exact ⟨fun s us ws _ hl => BindsTo.of_eq (h kV doc pm an cdv ct us ws hl), rel⟩
end
/-- x(k = v, ..) -/
theorem pe_c0K {X : Cx} {k : Nat} {x : Str} {f : Addr} {fd : FuncData} {ps ks : List Str} {sp : Sp} {g : List Value → List Value → List Value} {gV : List V → List V → List V} {kws : List Keyword} {p pos : Pos} {E : XK} {CX : CXT} {tk : TA} (F : FnOk X.prog X.w X.K X.mg X.base CX k f fd ps sp) (hr : Room k X.A)
    (hm : X.mg x = some (.ref f)) (hk : PySem.W.keepIn X.K (.ref f) = true) (hb : KBinds X.K fd ps ks g gV) (hx : Passes CX X E) (hkw : PK X kws tk) (hg : Gl X x := by rfl)
    (hall : (backToKw pos (keywordEach kws X.env)).all (·.1.isSome) = true := by rfl) (hks : (backToKw pos (keywordEach kws X.env)).filterMap (·.1) = ks := by rfl) (hdb : (x == ("__debug__" : Str)) = false := by decide)
    (hpl : ((backTo pos (starEach [] X.env)).any (·.1) || (backToKw pos (keywordEach kws X.env)).any (·.1.isNone)) = false := by rfl) :
    PE X (.Call (.Name x p) [] kws pos) (tCallK sp gV E tNil tk) := by
  refine ⟨fun pins s σ H Q I h => ?_⟩
  refine wpAny_Call_Name_kw (ld_glob I hg hm ?_ hdb)
  refine PySem.W.callWith_KW0 (h₀ := X.base) I.ok.mod.kin hk hall ?_ hpl
  refine thn (hkw.run pos pins s σ H _ I h) fun ws s2 ⟨zs, H2, I2, rz, q2⟩ => ⟨I2.kIn, ?_⟩
  rw [hks]
  exact run_fnk (us := []) (vs := []) F hr hb hx I2 .nil rz q2
end K5
end

section
set_option Elab.async false
set_option linter.all false
set_option maxRecDepth 100000
set_option maxHeartbeats 4000000
/-! The law's own defs: refused_right. -/
namespace K5
open PySem PySem.Spec PyProof.Rows L2
abbrev Ext_ := LamX.ExtN
theorem ext_fx {H H' : Hp} (e : LamX.ExtN H H') : Fx H H' := fun a o f h => e a o h fun ps z => by
  rw [z] at f
  cases f
theorem ext_same {H H' : Hp} (s : Same H H') : LamX.ExtN H H' := LamX.ExtN.of s
theorem Av.ext {K : PySem.W.Frag} {H H' : Hp} {v : V} {d : PyData} (h : Av K H v d) (e : LamX.ExtN H H') : Av K H' v d := by
  rcases h with ⟨t, h⟩ | ⟨rfl, a, xs, rfl, h⟩ | ⟨rfl, a, kvs, rfl, h⟩
  · exact .inl ⟨t, Dp.fx (ext_fx e) t h⟩
  · exact .inr (.inl ⟨rfl, a, xs, rfl, e _ _ h (fun _ z => by cases z)⟩)
  · exact .inr (.inr ⟨rfl, a, kvs, rfl, e _ _ h (fun _ z => by cases z)⟩)
theorem Bx.ext {H H' : Hp} {b : Addr} (h : Bx H b) (e : LamX.ExtN H H') : Bx H' b :=
  let ⟨x, y, z, hb⟩ := h
  ⟨x, y, z, e _ _ hb (fun _ z => by cases z)⟩
theorem tabs_same {T : List (Addr × Str)} {H H' : Hp} (t : LamX.Tabs T H) (s : Same H H') : LamX.Tabs T H' := t.ext s
theorem tabs_kb {T : List (Addr × Str)} {H H' : Hp} {b : Addr} (t : LamX.Tabs T H) (bx : Bx H b) (k : Kb b H H') : LamX.Tabs T H' := fun p hp => by
  obtain ⟨x, y, z, hb⟩ := bx
  obtain ⟨ps, h1, h2, h3⟩ := t p hp
  refine ⟨ps, k _ _ (fun e => by rw [e, hb] at h1; cases h1) h1, h2, fun pos cv hc => ?_⟩
  obtain ⟨c, e1, e2⟩ := h3 pos cv hc
  exact ⟨c, e1, k _ _ (fun e => by
    rw [e, hb] at e2
    unfold LamX.CodeO at e2
    cases e2) e2⟩
def qRef : Str := (("_law_refused_right" : Str) ++ ".<locals>.") ++ "<lambda>"
def qRen : Str := (("_law_renamed_right" : Str) ++ ".<locals>.") ++ "<lambda>"
/-- the code objects of the two defs that make lambdas, their tables -/
structure LamC (K : PySem.W.Frag) (mg : Str → Option Value) (base : Heap) (x : Str) (c P : Addr) : Prop where
  code : ∀ f oc od fdd osl, mg x = some (.ref f) → K.lookup f = some ⟨oc, od, .func fdd, osl⟩ → fdd.code = .ref c
  tab : LamX.TabB base mg c P
def rev3 {α : Type} : List α → List α → List α
  | [], [a, b, c] => [c, b, a]
  | _, _ => []
theorem rev3_rel {vs : List V} {us : List Value} {zs : List V} {ws : List Value} (r1 : Vals vs us) (r2 : Vals zs ws) : Vals (rev3 vs zs) (rev3 us ws) := by
  cases r1 with
  | cons _ _ => exact .nil
  | nil =>
    cases r2 with
    | nil => exact .nil
    | cons h1 t1 =>
      cases t1 with
      | nil => exact .nil
      | cons h2 t2 =>
        cases t2 with
        | nil => exact .nil
        | cons h3 t3 =>
          cases t3 with
          | nil => exact .cons h3 (.cons h2 (.cons h1 .nil))
          | cons _ _ => exact .nil
def dRefused (w : Str) : PyData := .tuple [.str "refused", .str w]
section
variable {P : Program} {w : World} {K : PySem.W.Frag} {mg : Str → Option Value} {base : Heap} {C fI fE CR fR CN fN c1 P1 c2 P2 : Addr}
abbrev TT2 (P1 P2 : Addr) : List (Addr × Str) := [(P1, qRen), (P2, qRef)]
theorem hu_ref (hP : P1 ≠ P2) : ∀ p ∈ TT2 P1 P2, p.1 = P2 → p.2 = qRef := fun p hp e => by
  rcases List.mem_cons.mp hp with z | hp
  · rw [z] at e
    exact absurd e hP
  · rw [List.mem_singleton.mp hp]
theorem hu_ren (hP : P1 ≠ P2) : ∀ p ∈ TT2 P1 P2, p.1 = P1 → p.2 = qRen := fun p hp e => by
  rcases List.mem_cons.mp hp with z | hp
  · rw [z]
  · rw [List.mem_singleton.mp hp] at e
    exact absurd e.symm hP
def spRef (K : PySem.W.Frag) (C P1 P2 : Addr) : Sp := fun vs H Q _ => ∃ (b : Addr) (v : V) (x : Str) (ns : List Str) (rs : List Row), vs = [.ref b, v, .str x] ∧ Bx H b ∧ SysAt K C H v ns rs ∧ NamesOk ns ∧ RowsOk ns.length rs ∧ (∀ r ∈ rs, BdL 1000000 r.1) ∧ x ∈ ns ∧ Nqy ns ∧ LamX.Tabs (TT2 P1 P2) H ∧
  ∀ H', Fx H H' → Bx H' b → LamX.Tabs (TT2 P1 P2) H' → Q (.bl true) H'
abbrev fN_ : List Str := ["_law_box_here", "_law_system", "_law_name", "_law_odd_here", "_law_wrong", "_law_factor", "_law_strange"]
theorem scRef : FnScope fN_ ["_law_box_here", "_law_system", "_law_name"] (defScope sLRef) := ⟨rfl, rfl, rfl, by decide +kernel, rfl, by decide +kernel, by decide +kernel⟩
theorem ok_ref (B : Bl mg) (S : SysT K mg C fI fE) (TX : TwoX K mg CR CN) (hP : P1 ≠ P2) (LC : LamC K mg base "_law_refused_right" c2 P2) (D : Def K mg "_law_refused_right" sLRef ["_law_box_here", "_law_system", "_law_name"]) (DH : Def K mg "_law_heard" sLHeard ["_law_action"])
    (OO : Ok P w K mg base CX0 3 "_law_odd" sLOdd ["_law_box_here"] (spOdd K)) (OF : Ok P w K mg base CX0 3 "_law_fraction" sLFrac ["_law_box_here", "_law_least_here"] (spFrac K)) (OP : Ok P w K mg base CX0 2 "_law_pick" sPick ["_law_box_here", "_law_some"] (spPick K))
    (OT : Ok P w K mg base (L2.CX P w) 7 "turned" sTurned ["system", "name"] (spTurned K C CR)) (OS : Ok P w K mg base (L2.CX P w) 7 "scaled" sScaled ["system", "name", "factor"] (spScaled K C CR CN)) :
    OkG P w K mg base 11 "_law_refused_right" sLRef ["_law_box_here", "_law_system", "_law_name"] (spRef K C P1 P2) := by
  obtain ⟨f, fd, gf, F, bF⟩ := D
  obtain ⟨fH, fdH, gH, FH, bH⟩ := DH
  obtain ⟨ocH, odH, kVH, docH, pmH, anH, cdH, ctH, oslH, rfl, lkH, hcdH⟩ := FH.ex
  obtain ⟨fS, fdS, gS, FS, bS, GS⟩ := OS
  have OS : Ok P w K mg base (L2.CX P w) 7 "scaled" sScaled ["system", "name", "factor"] (spScaled K C CR CN) := ⟨fS, fdS, gS, FS, bS, GS⟩
  have kbS : KBinds K fdS ["system", "name", "factor"] ["factor", "name", "system"] rev3 rev3 :=
    kb_of FS (fun kV doc pm an cdv ct us ws hl => match us, ws, hl with | [], [_, _, _], _ => rfl) rev3_rel
  refine ⟨f, fd, gf, F, bF, Fun.okG F scRef (fun vs H Q E h => ?_) (fun cdv A outer s H vs Q E hg hcode hr h => ?_)⟩
  · obtain ⟨b, v, x, ns, rs, rfl, _⟩ := h
    rfl
  · obtain ⟨oc, od, fdd, osl, lk, rfl⟩ := hcode
    have ec := LC.code f _ _ _ _ gf lk
    obtain ⟨b, v, x, ns, rs, rfl, bx, hsy, N, RS, bdr, hx, ny, hT, q⟩ := h
    have hr3 := hr.mono (show 3 ≤ 10 by decide)
    have hr9 := hr.mono (show 9 ≤ 10 by decide)
    refine ⟨_, pss_cons (ps_asg (pe_tup (pa_cons (pe_c OO hr3 (pa_cons (pv 0) pa_nil)) (pa_cons (pe_c OO hr3 (pa_cons (pv 0) pa_nil)) (pa_cons (pe_c OF hr3 (pa_cons (pv 0) (pa_cons pe_int pa_nil))) pa_nil)))) (pg_tup rfl (pgs_cons (pg_name (i := 3) scRef.nd rfl (.inl rfl)) (pgs_cons (pg_name (i := 4) scRef.nd rfl (.inr rfl)) (pgs_cons (pg_name (i := 5) scRef.nd rfl (.inr rfl)) pgs_nil)))))
      (pss_cons (ps_set (i := 6) scRef.nd rfl (Or.inr rfl) (pe_c OP (hr.mono (by decide)) (pa_cons (pv 0) (pa_cons (pe_lst (pa_cons (pv 3) (pa_cons (pe_ifExp (pt_cmpR op_notIn_seq pe_str (pe_fld (pv 1) rfl) rfl) pe_str pe_str) (pa_cons (pe_op op_add_str (pv 2) pe_str) pa_nil)))) pa_nil))))
      (pss_cons (ps_if (pt_cmpR (op_neD hr.units) (LamX.pe_lamcall (T := TT2 P1 P2) (TT := TTh CR CN) (k := 7) (a := "_law_action") (t := fun E => tCall (spTurned K C CR) [] E (tCons (tVar 1) (tCons (tVar 6) tNil))) rfl gH FH.kp lkH hcdH bH scHeard rfl (.inl rfl) (heard_gives TX) LC.tab ec (List.mem_cons_of_mem _ List.mem_cons_self) (hu_ref hP) hr9 (LamX.lamS_by (by kernel_rfl)) rfl (fun _ _ _ _ _ => rfl)
          (fun A outer s H E f c' hr' => pe_cE OT hr' (takes_of rfl rfl rfl rfl) (fun _ _ _ _ h => h) (pa_cons (pv 1) (pa_cons (pv 6) pa_nil)))) (pe_tup (pa_cons pe_str (pa_cons pe_str pa_nil))) (nomark _)) (pss_one (ps_ret pe_bl)) pss_nil)
      (pss_cons (ps_if (pt_cmpR (op_neD hr.units) (LamX.pe_lamcall (T := TT2 P1 P2) (TT := TTh CR CN) (k := 7) (a := "_law_action") (t := fun E => tCall (spScaled K C CR CN) [] E (tCons (tVar 1) (tCons (tVar 6) (tCons (tVar 4) tNil)))) rfl gH FH.kp lkH hcdH bH scHeard rfl (.inl rfl) (heard_gives TX) LC.tab ec (List.mem_cons_of_mem _ List.mem_cons_self) (hu_ref hP) hr9 (LamX.lamS_by (by kernel_rfl)) rfl (fun _ _ _ _ _ => rfl)
          (fun A outer s H E f c' hr' => pe_cE OS hr' (takes_of rfl rfl rfl rfl) (fun _ _ _ _ h => h) (pa_cons (pv 1) (pa_cons (pv 6) (pa_cons (pv 4) pa_nil))))) (pe_tup (pa_cons pe_str (pa_cons pe_str pa_nil))) (nomark _)) (pss_one (ps_ret pe_bl)) pss_nil)
      (pss_cons (ps_if (pt_cmpR (op_neD hr.units) (LamX.pe_lamcall (T := TT2 P1 P2) (TT := TTh CR CN) (k := 7) (a := "_law_action") (t := fun E => tCall (spScaled K C CR CN) [] E (tCons (tVar 1) (tCons (tVar 6) (tCons (tVar 5) tNil)))) rfl gH FH.kp lkH hcdH bH scHeard rfl (.inl rfl) (heard_gives TX) LC.tab ec (List.mem_cons_of_mem _ List.mem_cons_self) (hu_ref hP) hr9 (LamX.lamS_by (by kernel_rfl)) rfl (fun _ _ _ _ _ => rfl)
          (fun A outer s H E f c' hr' => pe_cE OS hr' (takes_of rfl rfl rfl rfl) (fun _ _ _ _ h => h) (pa_cons (pv 1) (pa_cons (pv 6) (pa_cons (pv 5) pa_nil))))) (pe_tup (pa_cons pe_str (pa_cons pe_str pa_nil))) (nomark _)) (pss_one (ps_ret pe_bl)) pss_nil)
      (pss_one (ps_ret (pe_cmpR (op_eqD hr.units) (LamX.pe_lamcall (T := TT2 P1 P2) (TT := TTh CR CN) (k := 7) (a := "_law_action") (t := fun E => tCallK (spScaled K C CR CN) rev3 E tNil (tCons (tVar 4) (tCons (tVar 2) (tCons (tVar 1) tNil)))) rfl gH FH.kp lkH hcdH bH scHeard rfl (.inl rfl) (heard_gives TX) LC.tab ec (List.mem_cons_of_mem _ List.mem_cons_self) (hu_ref hP) hr9 (LamX.lamS_by (by kernel_rfl)) rfl (fun _ _ _ _ _ => rfl)
          (fun A outer s H E f c' hr' => pe_c0K GS hr' gS FS.kp kbS (passes_call (takes_of rfl rfl rfl rfl) (fun _ _ _ _ h => h)) (pk_cons (pv 4) (pk_cons (pv 2) (pk_cons (pv 1) pk_nil))))) (pe_tup (pa_cons pe_str (pa_cons pe_str pa_nil))) (nomark _)))))))), ?_⟩
    obtain ⟨i, hi⟩ := List.mem_iff_getElem?.mp hx
    have hnx := N.ok x hx
    refine ⟨_, rfl, b, rfl, bx, fun H1 v1 d1 kb1 bx1 od1 ok1 => ⟨_, rfl, b, rfl, bx1, fun H2 v2 d2 kb2 bx2 od2 ok2 => ⟨_, rfl, b, 1, rfl, bx2, by decide, by decide, fun H3 v3 p u kb3 bx3 dv3 hu hu9 hp9 hpos => ?_⟩⟩⟩
    refine ⟨(by show 3 ≤ sizeLine; decide), fun t1 n1 => ?_⟩
    refine ⟨t1, _, rfl, SqT.of upd_same, rfl, _, _, rfl, _, _, rfl, _, _, rfl, rfl, ?_⟩
    have K4 := ((kb1.trans kb2).trans kb3).trans (Kb.of_same (same_new (o := .tup [v1, v2, v3]) n1))
    have bx4 := Bx.same bx3 (same_new (o := .tup [v1, v2, v3]) n1)
    have od14 := ((od1.kb kb2 bx1.nf).kb kb3 bx2.nf).same (same_new (o := .tup [v1, v2, v3]) n1)
    have od24 := (od2.kb kb3 bx2.nf).same (same_new (o := .tup [v1, v2, v3]) n1)
    have dv34 := Dp.same (same_new (o := .tup [v1, v2, v3]) n1) dv3
    have fx4 := bx.fx K4
    obtain ⟨sa, dx, vn, vr, rfl, hs, dn, dr, nod⟩ := id (hsy.fx fx4)
    obtain ⟨an, rfl, hn⟩ := Dp.N_inv dn
    refine ⟨_, rfl, _, rfl, _, rfl, sa, C, dx, _, _, rfl, hs, S.ins.cl, S.nN, sysF_names _ _, an, _, rfl, .inr hn, rfl, flat_names ns, !inV (.str "zzzzz") (ns.map V.str), rfl, ?_⟩
    refine ite2 (fun c => ?x) (fun c => ?y)
    case' x =>
      have hz : ("zzzzz" : Str) ∉ ns := fun z => by
        rw [inV_names, decide_eq_true z] at c
        cases c
      have hzl : ("zzzzz" : Str).length = 5 := by decide +kernel
    case' y =>
      have hz : ("yyyyy" : Str) ∉ ns := nqy_not ny (by decide +kernel) (by decide +kernel)
      have hzl : ("yyyyy" : Str).length = 5 := by decide +kernel
    all_goals
      have xl : x.length ≤ 5 := by
        have h' : (decide (1 ≤ x.length) && (decide (x.length ≤ 5) && x.cps.toList.all letB)) = true := hnx
        exact of_decide_eq_true (Bool.and_eq_true_iff.mp (Bool.and_eq_true_iff.mp h').2).1
      have hl1 : ("#" : Str).length = 1 := by decide +kernel
      refine ⟨_, rfl, _, _, rfl, rfl, by rw [hl1, sizeLine_eq]; omega, (by show 3 ≤ sizeLine; decide), fun p5 n5 => ?_⟩
      have nb5 := Bx.ne bx4 n5
      refine ⟨b, p5, _, rfl, Bx.same bx4 (same_new n5), fun H' kb => .inl (SqL.of (kb _ _ nb5 upd_same)), (by show 0 < 3; decide), (by show 3 < 1000; decide), fun H6 k v6 kb6 bx6 hk => ?_⟩
      have od16 := (od14.same (same_new n5)).kb kb6 (Bx.nf (Bx.same bx4 (same_new n5)))
      have av26 := ((od24.same (same_new n5)).kb kb6 (Bx.nf (Bx.same bx4 (same_new n5)))).1
      have fx6 := (fx_same (same_new n5)).trans (Bx.fx (Bx.same bx4 (same_new n5)) kb6)
      have dv36 := Dp.fx fx6 (tup_F _) dv34
      have hsy6 := (hsy.fx fx4).fx fx6
      have T6 := tabs_kb (tabs_same (tabs_kb hT bx K4) (same_new n5)) (Bx.same bx4 (same_new n5)) kb6
      have st : ∃ d6, Av K H6 v6 d6 ∧ (∀ y ∈ ns, d6 ≠ .str y) ∧ ∀ y, d6 = .str y → y.length ≤ sizeLine := by
        rcases k with _ | _ | _ | k
        · have e : v1 = v6 := Option.some.inj hk
          rw [← e]
          refine ⟨d1, od16.1, fun y hy e => ?_, fun y e => oddOk_str (e ▸ ok1)⟩
          have z := oddOk_name ok1
          rw [e, show nameD (.str y) = nameB y from rfl, N.ok y hy] at z
          cases z
        · have e := Option.some.inj hk
          rw [← e]
          refine ⟨_, .inl ⟨rfl, .str _⟩, fun y hy e => hz (by injection e with e; rw [e]; exact hy), fun y e => ?_⟩
          injection e with e
          rw [← e, hzl, sizeLine_eq]
          omega
        · have e := Option.some.inj hk
          rw [← e]
          refine ⟨_, .inl ⟨rfl, .str _⟩, fun y hy e => ?_, fun y e => ?_⟩
          · injection e with e
            have z := N.ok y hy
            rw [← e] at z
            have h' : (decide (1 ≤ (x ++ ("#" : Str)).length) && (decide ((x ++ ("#" : Str)).length ≤ 5) && (x ++ ("#" : Str)).cps.toList.all letB)) = true := z
            have h2 := (Bool.and_eq_true_iff.mp (Bool.and_eq_true_iff.mp h').2).2
            rw [Str.cps_append, Array.toList_append, List.all_append] at h2
            have h3 := (Bool.and_eq_true_iff.mp h2).2
            have h4 : (("#" : Str).cps.toList.all letB) = false := by decide +kernel
            rw [h4] at h3
            cases h3
          · injection e with e
            rw [← e, Str.length_append, hl1, sizeLine_eq]
            omega
        · have e : ([] : List V)[k]? = some v6 := hk
          cases e
      obtain ⟨d6, av6, nin, len6⟩ := st
      refine ⟨T6, fun Ha7 ea7 Ta7 => ⟨CR, "name", "refused", .inl ⟨rfl, rfl⟩, fun Qn => ⟨_, rfl, _, rfl, _, v6, ns, rs, d6, rfl, hsy6.fx (ext_fx ea7), N, RS, av6.ext ea7, len6, .inl ⟨nin, fun Hb7 dd7 sb7 nb7 => ⟨rfl, dd7, rfl, upd_same, fun pa7 npa7 => ?_⟩⟩⟩⟩⟩
      refine ⟨(by show 2 ≤ sizeLine; decide), fun pb7 npb7 => ?_⟩
      have sc7 := ((sb7.trans (same_new (o := wd "name") nb7)).trans (same_new (o := .tup [.str "refused", .str "name"]) npa7)).trans (same_new (o := .tup [.str "refused", .str "name"]) npb7)
      refine ⟨dRefused "name", dRefused "name", .tup (SqT.of (same_new npb7 _ _ upd_same)) (.cons (.str _) (.cons (.str _) .nil)), .tup (SqT.of upd_same) (.cons (.str _) (.cons (.str _) .nil)), by decide +kernel, by decide +kernel, false, by decide +kernel, iteF ?_⟩
      have e7 := ea7.trans (ext_same sc7)
      have T7 := tabs_same Ta7 sc7
      refine ⟨T7, fun Ha8 ea8 Ta8 => ⟨CR, "name", "refused", .inl ⟨rfl, rfl⟩, fun Qn => ⟨_, rfl, _, rfl, _, rfl, _, v6, v2, ns, rs, d6, d2, rfl, hsy6.fx (ext_fx (e7.trans ea8)), N, RS, bdr, av6.ext (e7.trans ea8), len6, av26.ext (e7.trans ea8), (fun ds e => oddOk_tup (e ▸ ok2)), .inl ⟨nin, fun Hb8 dd8 sb8 nb8 => ⟨rfl, dd8, rfl, upd_same, fun pa8 npa8 => ?_⟩⟩⟩⟩⟩
      refine ⟨(by show 2 ≤ sizeLine; decide), fun pb8 npb8 => ?_⟩
      have sc8 := ((sb8.trans (same_new (o := wd "name") nb8)).trans (same_new (o := .tup [.str "refused", .str "name"]) npa8)).trans (same_new (o := .tup [.str "refused", .str "name"]) npb8)
      refine ⟨dRefused "name", dRefused "name", .tup (SqT.of (same_new npb8 _ _ upd_same)) (.cons (.str _) (.cons (.str _) .nil)), .tup (SqT.of upd_same) (.cons (.str _) (.cons (.str _) .nil)), by decide +kernel, by decide +kernel, false, by decide +kernel, iteF ?_⟩
      have e8' := ea8.trans (ext_same sc8)
      have T8 := tabs_same Ta8 sc8
      have e8 := e7.trans e8'
      refine ⟨T8, fun Ha9 ea9 Ta9 => ⟨CR, "name", "refused", .inl ⟨rfl, rfl⟩, fun Qn => ⟨_, rfl, _, rfl, _, rfl, _, v6, v3, ns, rs, d6, encF (p, u), rfl, hsy6.fx (ext_fx (e8.trans ea9)), N, RS, bdr, av6.ext (e8.trans ea9), len6, .inl ⟨tup_F _, Dp.fx (ext_fx (e8.trans ea9)) (tup_F _) dv36⟩, (fun ds e => by cases e; show 2 ≤ sizeLine; decide), .inl ⟨nin, fun Hb9 dd9 sb9 nb9 => ⟨rfl, dd9, rfl, upd_same, fun pa9 npa9 => ?_⟩⟩⟩⟩⟩
      refine ⟨(by show 2 ≤ sizeLine; decide), fun pb9 npb9 => ?_⟩
      have sc9 := ((sb9.trans (same_new (o := wd "name") nb9)).trans (same_new (o := .tup [.str "refused", .str "name"]) npa9)).trans (same_new (o := .tup [.str "refused", .str "name"]) npb9)
      refine ⟨dRefused "name", dRefused "name", .tup (SqT.of (same_new npb9 _ _ upd_same)) (.cons (.str _) (.cons (.str _) .nil)), .tup (SqT.of upd_same) (.cons (.str _) (.cons (.str _) .nil)), by decide +kernel, by decide +kernel, false, by decide +kernel, iteF ?_⟩
      have e9' := ea9.trans (ext_same sc9)
      have T9 := tabs_same Ta9 sc9
      have e9 := e8.trans e9'
      refine ⟨T9, fun Hc ec' Tc => ⟨CN, "factor", "number", .inr ⟨rfl, rfl⟩, fun Qn => ⟨_, rfl, _, rfl, _, rfl, _, .str x, v2, ns, rs, .str x, d2, rfl, hsy6.fx (ext_fx (e9.trans ec')), N, RS, bdr, .inl ⟨rfl, .str x⟩, (fun y e => by injection e with e; rw [← e, sizeLine_eq]; omega), av26.ext (e9.trans ec'), (fun ds e => oddOk_tup (e ▸ ok2)),
        .inr ⟨i, x, hi, rfl, .inl ⟨oddOk_pos ok2, fun Hd dd sd nd => ⟨rfl, dd, rfl, upd_same, fun pa npa => ?_⟩⟩⟩⟩⟩⟩
      refine ⟨(by show 2 ≤ sizeLine; decide), fun pb npb => ?_⟩
      have se := ((sd.trans (same_new (o := wd "factor") nd)).trans (same_new (o := .tup [.str "number", .str "factor"]) npa)).trans (same_new (o := .tup [.str "number", .str "factor"]) npb)
      refine ⟨.tuple [.str "number", .str "factor"], .tuple [.str "number", .str "factor"], .tup (SqT.of (same_new npb _ _ upd_same)) (.cons (.str _) (.cons (.str _) .nil)), .tup (SqT.of upd_same) (.cons (.str _) (.cons (.str _) .nil)), by decide +kernel, by decide +kernel, ?_⟩
      have ef := (e9.trans ec').trans (ext_same se)
      have en : PyData.eqv (.tuple [.str "number", .str "factor"]) (.tuple [.str "number", .str "factor"]) = true := by decide +kernel
      rw [en]
      exact q _ ((fx4.trans fx6).trans (ext_fx ef)) (bx6.ext ef) (tabs_same Tc se)
end
end K5
end

section
set_option Elab.async false
set_option linter.all false
set_option maxRecDepth 100000
set_option maxHeartbeats 4000000
/-! What renamed_right's reading leans on. -/
namespace K5
open PySem PySem.Spec PyProof.Rows L2
theorem map_erase {α β : Type} (f : α → β) : ∀ (l : List α) (i : Nat), (l.map f).eraseIdx i = (l.eraseIdx i).map f
  | [], i => by simp
  | a :: l, 0 => by simp
  | a :: l, i + 1 => by
    rw [List.map_cons, List.eraseIdx_cons_succ, List.eraseIdx_cons_succ, List.map_cons, map_erase f l i]
theorem erase_perm {α : Type} : ∀ {l : List α} {i : Nat} {x : α}, l[i]? = some x → (x :: l.eraseIdx i).Perm l
  | [], _, _, h => by simp at h
  | a :: l, 0, x, h => by
    have e : a = x := Option.some.inj h
    subst e
    exact List.Perm.refl _
  | a :: l, i + 1, x, h => by
    have ih := erase_perm (l := l) (i := i) (x := x) (by simpa using h)
    rw [List.eraseIdx_cons_succ]
    exact (List.Perm.swap a x _).trans (ih.cons a)
/-- the new name of x -/
def lv (ns l : List Str) (x : Str) : Str := l.getD (ns.idxOf x) Str.empty
theorem lv_at {ns l : List Str} (nd : ns.Nodup) {j : Nat} {x : Str} (h : ns[j]? = some x) : lv ns l x = l.getD j Str.empty := by
  unfold lv
  rw [idx_at nd h]
theorem lv_get {ns l : List Str} (nd : ns.Nodup) (hl : l.length = ns.length) {j : Nat} {x : Str} (h : ns[j]? = some x) : l[j]? = some (lv ns l x) := by
  have hj : j < l.length := by
    rw [hl]
    exact (List.getElem?_eq_some_iff.mp h).1
  rw [lv_at nd h, List.getD_eq_getElem?_getD, List.getElem?_eq_getElem hj]
  rfl
theorem map_lv {ns l : List Str} (nd : ns.Nodup) (hl : l.length = ns.length) : ns.map (lv ns l) = l := by
  refine List.ext_getElem? fun i => ?_
  rw [List.getElem?_map]
  by_cases h : i < ns.length
  · rw [List.getElem?_eq_getElem h]
    exact (lv_get nd hl (List.getElem?_eq_getElem h)).symm
  · rw [List.getElem?_eq_none (by omega), List.getElem?_eq_none (by omega)]
    rfl
theorem lv_mem {ns l : List Str} (nd : ns.Nodup) (hl : l.length = ns.length) {x : Str} (h : x ∈ ns) : lv ns l x ∈ l := by
  obtain ⟨j, hj⟩ := List.mem_iff_getElem?.mp h
  exact List.mem_of_getElem? (lv_get nd hl hj)
theorem lv_inj {ns l : List Str} (nd : ns.Nodup) (nl : l.Nodup) (hl : l.length = ns.length) {i j : Nat} {x y : Str} (hi : ns[i]? = some x) (hj : ns[j]? = some y) (e : lv ns l x = lv ns l y) : i = j := by
  have a := lv_get nd hl hi
  have b := lv_get nd hl hj
  rw [e] at a
  exact nodup_first nl b a
theorem fr_str (x : Str) : FR (.str x) := .inl rfl
theorem mem_putK {kvs : List (Leaf × V)} {k : Leaf} {v : V} {q : Leaf × V} (h : q ∈ putK kvs k v) : q.2 = v ∨ ∃ q' ∈ kvs, q'.2 = q.2 := by
  unfold putK at h
  split at h
  · obtain ⟨p, hp, e⟩ := List.mem_map.mp h
    split at e
    · rw [← e]
      exact .inl rfl
    · rw [← e]
      exact .inr ⟨p, hp, rfl⟩
  · rcases List.mem_append.mp h with h | h
    · exact .inr ⟨q, h, rfl⟩
    · rw [List.mem_singleton.mp h]
      exact .inl rfl
theorem fr_put {kvs : List (Leaf × V)} {k : Leaf} {v : V} (h : ∀ q ∈ kvs, FR q.2) (hv : FR v) : ∀ q ∈ putK kvs k v, FR q.2 := fun q hq => by
  rcases mem_putK hq with e | ⟨q', h1, e⟩
  · rw [e]
    exact hv
  · rw [← e]
    exact h q' h1
theorem valV_drop (kvs : List (Leaf × V)) (k j : Leaf) : valV (dropK kvs k) j = if j = k then none else valV kvs j := by
  induction kvs with
  | nil =>
    show valV [] j = _
    split <;> rfl
  | cons p r ih =>
    unfold dropK at ih ⊢
    rw [List.filter_cons]
    by_cases e : p.1 = k
    · rw [if_neg (by simp [e]), ih]
      by_cases ej : j = k
      · rw [if_pos ej, if_pos ej]
      · rw [if_neg ej, if_neg ej, valV_neg (by rw [e]; exact Ne.symm ej)]
    · rw [if_pos (by simp [e])]
      by_cases ej : p.1 = j
      · rw [valV_pos ej, if_neg (by rw [← ej]; exact e), valV_pos ej]
      · rw [valV_neg ej, valV_neg ej, ih]
theorem Bx.put {H : Hp} {a b : Addr} {o : HO} (h : Bx H b) (n : b ≠ a) : Bx (upd H a o) b :=
  let ⟨x, y, z, e⟩ := h
  ⟨x, y, z, (upd_ne n).trans e⟩
theorem heap_sized : ∀ n : Nat, ∃ h : Heap, h.objs.size = n
  | 0 => ⟨{}, rfl⟩
  | n + 1 => by
    obtain ⟨h, e⟩ := heap_sized n
    exact ⟨h.push { cls := .none, data := .fields #[] }, by rw [Heap.size_push, e]⟩
theorem codeO_do {P : Program} {w : World} {c a : Addr} {q : Str} {kvs : List (Leaf × V)} : LamX.CodeO c q ≠ DO P w c kvs := fun e => by
  unfold LamX.CodeO DO at e
  injection e with e
  obtain ⟨h, hs⟩ := heap_sized c
  have hg : (h.push { cls := .none, data := .fields #[.none, .str q 0] }).get? c = some { cls := .none, data := .fields #[.none, .str q 0] } := by
    rw [← hs]
    exact Heap.get?_push_size _ rfl
  have t : DictR P w c kvs (h.push { cls := .none, data := .fields #[.none, .str q 0] }) := Eq.mp (congrFun e _) ⟨_, _, _, hg, rfl, rfl⟩
  obtain ⟨_, _, vs, _, o, es, ep, ho, _, hd, _⟩ := t
  rw [hg] at ho
  cases ho
  cases hd
theorem tabs_put {P : Program} {w : World} {T : List (Addr × Str)} {H : Hp} {a : Addr} {kvs kvs2 : List (Leaf × V)} (t : LamX.Tabs T H) (h : H a = some (DO P w a kvs)) : LamX.Tabs T (upd H a (DO P w a kvs2)) := fun p hp => by
  obtain ⟨ps, h1, h2, h3⟩ := t p hp
  refine ⟨ps, ?_, h2, fun pos cv hc => ?_⟩
  · rw [upd_ne (fun e => by
      rw [e, h] at h1
      unfold DO at h1
      cases h1)]
    exact h1
  · obtain ⟨c, e1, e2⟩ := h3 pos cv hc
    refine ⟨c, e1, ?_⟩
    rw [upd_ne (fun e => by
      rw [← e, e2] at h
      exact codeO_do (a := a) (Option.some.inj h))]
    exact e2
section
variable {P : Program} {w : World} {K : PySem.W.Frag}
/-- table and plan -/
def TwoD (P : Program) (w : World) (tb p1 : Addr) (ns l : List Str) (H : Hp) : Prop := ∃ kvs, H tb = some (DO P w tb kvs) ∧ H p1 = some (DO P w p1 kvs) ∧ (∀ x ∈ ns, valV kvs (.text x) = some (.str (lv ns l x))) ∧ kvs.length ≤ 100 ∧ ∀ q ∈ kvs, FR q.2
theorem TwoD.mv {tb p1 : Addr} {ns l : List Str} {H H' : Hp} (h : TwoD P w tb p1 ns l H) (k : ∀ a o, a = tb ∨ a = p1 → H a = some o → H' a = some o) : TwoD P w tb p1 ns l H' := by
  obtain ⟨kvs, h1, h2, h3⟩ := h
  exact ⟨kvs, k _ _ (.inl rfl) h1, k _ _ (.inr rfl) h2, h3⟩
theorem TwoD.same {tb p1 : Addr} {ns l : List Str} {H H' : Hp} (h : TwoD P w tb p1 ns l H) (k : Same H H') : TwoD P w tb p1 ns l H' := h.mv fun a o _ e => k a o e
theorem filterMap_all {ns : List Str} {g : Str → Option V} {f : Str → V} (h : ∀ x ∈ ns, g x = some (f x)) : ns.filterMap g = ns.map f := by
  induction ns with
  | nil => rfl
  | cons a r ih =>
    rw [List.filterMap_cons, h a List.mem_cons_self, List.map_cons, ih fun x hx => h x (List.mem_cons_of_mem _ hx)]
theorem filterMap_lt {ns : List Str} {g : Str → Option V} {x : Str} (hx : x ∈ ns) (h : g x = none) : (ns.filterMap g).length < ns.length := by
  induction ns with
  | nil => cases hx
  | cons a r ih =>
    have le := List.length_filterMap_le g r
    rcases List.mem_cons.mp hx with e | hx
    · have ea : g a = none := by
        rw [← e]
        exact h
      rw [List.filterMap_cons_none ea, List.length_cons]
      omega
    · have := ih hx
      cases ea : g a with
      | none =>
        rw [List.filterMap_cons_none ea, List.length_cons]
        omega
      | some v =>
        rw [List.filterMap_cons_some ea, List.length_cons, List.length_cons]
        omega
theorem paired_map {R : V → PyData → Prop} {ns : List Str} {f : Str → V} {d : Str → PyData} (h : ∀ x ∈ ns, R (f x) (d x)) : Paired R (ns.map f) (ns.map d) := by
  induction ns with
  | nil => exact .nil
  | cons a r ih => exact .cons (h a List.mem_cons_self) (ih fun x hx => h x (List.mem_cons_of_mem _ hx))
theorem paired_filter {R : V → PyData → Prop} {ns : List Str} {g : Str → Option V} (h : ∀ x ∈ ns, ∀ v, g x = some v → ∃ d, R v d) : ∃ ds, Paired R (ns.filterMap g) ds := by
  induction ns with
  | nil => exact ⟨[], .nil⟩
  | cons a r ih =>
    obtain ⟨ds, hp⟩ := ih fun x hx => h x (List.mem_cons_of_mem _ hx)
    rw [List.filterMap_cons]
    cases e : g a with
    | none => exact ⟨ds, hp⟩
    | some v =>
      obtain ⟨d, hd⟩ := h a List.mem_cons_self v e
      exact ⟨d :: ds, .cons hd hp⟩
theorem str_av {H : Hp} {x : Str} (h : nameB x = true) : Av K H (.str x) (.str x) ∧ ∀ y, PyData.str x = .str y → y.length ≤ sizeLine := ⟨.inl ⟨rfl, .str x⟩, fun y e => by
  injection e with e
  rw [← e]
  exact nameB_len h⟩
/-- names that are fit -/
theorem for_good {H : Hp} {ns l : List Str} {kvs : List (Leaf × V)} {bad : Prop} {good : List Str → Prop} (f : Str → Str) (hf : ns.map f = l) (hv : ∀ x ∈ ns, valV kvs (.text x) = some (.str (f x))) (ok : ∀ x ∈ l, nameB x = true) (nd : l.Nodup) (g : good l) : NamesFor K H ns kvs bad good := by
  have e1 : ns.filterMap (fun x => valV kvs (.text x)) = ns.map fun x => V.str (f x) := filterMap_all hv
  refine ⟨ns.map fun x => V.str (f x), ns.map fun x => PyData.str (f x), e1.symm, paired_map fun x hx => str_av (ok _ (by rw [← hf]; exact List.mem_map.mpr ⟨x, hx, rfl⟩)), .inr ⟨l, List.length_map .., ?_, ok, nd, g⟩⟩
  rw [← hf, List.map_map]
  rfl
/-- .. one of them odd -/
theorem for_odd {H : Hp} {ns : List Str} {kvs : List (Leaf × V)} {bad : Prop} {good : List Str → Prop} {v : V} {d : PyData} {y : Str} (f : Str → Str) (hy : y ∈ ns) (hv : ∀ x ∈ ns, valV kvs (.text x) = some (if x = y then v else .str (f x))) (ok : ∀ x ∈ ns, nameB (f x) = true)
    (av : Av K H v d) (ol : ∀ z, d = .str z → z.length ≤ sizeLine) (od : nameD d = false) (g : bad) : NamesFor K H ns kvs bad good := by
  have e1 : ns.filterMap (fun x => valV kvs (.text x)) = ns.map fun x => if x = y then v else V.str (f x) := filterMap_all hv
  refine ⟨_, ns.map fun x => if x = y then d else PyData.str (f x), e1.symm, paired_map fun x hx => ?_, .inl ⟨.inr (.inl ?_), g⟩⟩
  · by_cases e : x = y
    · rw [if_pos e, if_pos e]
      exact ⟨av, ol⟩
    · rw [if_neg e, if_neg e]
      exact str_av (ok x hx)
  · refine List.all_eq_false.mpr ⟨d, List.mem_map.mpr ⟨y, hy, if_pos rfl⟩, ?_⟩
    rw [od]
    exact Bool.false_ne_true
/-- .. two of them alike -/
theorem for_twice {H : Hp} {ns : List Str} {kvs : List (Leaf × V)} {bad : Prop} {good : List Str → Prop} {i j : Nat} {x y : Str} (f : Str → Str) (hi : ns[i]? = some x) (hj : ns[j]? = some y) (ne : i ≠ j) (e : f x = f y) (hv : ∀ x ∈ ns, valV kvs (.text x) = some (.str (f x))) (ok : ∀ x ∈ ns, nameB (f x) = true)
    (g : bad) : NamesFor K H ns kvs bad good := by
  have e1 : ns.filterMap (fun x => valV kvs (.text x)) = ns.map fun x => V.str (f x) := filterMap_all hv
  refine ⟨_, ns.map fun x => PyData.str (f x), e1.symm, paired_map fun x hx => str_av (ok x hx), .inl ⟨.inr (.inr ⟨ns.map f, by rw [List.map_map]; rfl, fun nd => ne ?_⟩), g⟩⟩
  have a : (ns.map f)[i]? = some (f x) := by rw [List.getElem?_map, hi]; rfl
  have b : (ns.map f)[j]? = some (f x) := by rw [List.getElem?_map, hj, e]; rfl
  exact nodup_first nd b a
/-- .. one of them missing -/
theorem for_lack {H : Hp} {ns : List Str} {kvs : List (Leaf × V)} {bad : Prop} {good : List Str → Prop} {y : Str} (f : Str → Str) (hy : y ∈ ns) (hn : valV kvs (.text y) = none) (hv : ∀ x ∈ ns, x ≠ y → valV kvs (.text x) = some (.str (f x))) (ok : ∀ x ∈ ns, nameB (f x) = true) (g : bad) : NamesFor K H ns kvs bad good := by
  obtain ⟨ds, hp⟩ := paired_filter (R := fun u d => Av K H u d ∧ ∀ x, d = .str x → x.length ≤ sizeLine) (ns := ns) (g := fun x => valV kvs (.text x)) fun x hx v e => by
    by_cases c : x = y
    · rw [c, hn] at e
      cases e
    · rw [hv x hx c] at e
      cases e
      exact ⟨_, str_av (ok x hx)⟩
  exact ⟨_, ds, rfl, hp, .inl ⟨.inl (filterMap_lt hy hn), g⟩⟩
end
end K5
end

section
set_option Elab.async false
set_option linter.all false
set_option maxRecDepth 100000
set_option maxHeartbeats 4000000
/-! The law's own defs: renamed_right. -/
namespace K5
open PySem PySem.Spec PyProof.Rows L2
def qs (n : Int) : Str := Txt.mul "q" n
def rMulQ : R2 := fun x y H Q => ∃ n : Int, x = .str "q" ∧ y = .int n ∧ 1 ≤ n ∧ n ≤ 4 ∧ Q (.str (qs n)) H
theorem op_mulQ {X : Cx} : OpR X (binaryOp .Mult) rMulQ := by
  intro pins s σ H x y v u Q I rx ry h
  obtain ⟨n, rfl, rfl, h1, h4, q⟩ := h
  obtain ⟨t, rfl⟩ := rx
  obtain ⟨t', rfl⟩ := ry
  have hn : n = 1 ∨ n = 2 ∨ n = 3 ∨ n = 4 := by omega
  have ok : MulOk "q" n := by
    rcases hn with rfl | rfl | rfl | rfl
    · exact ⟨by decide +kernel, fun _ e => by revert e; decide +kernel, fun _ e => by revert e; decide +kernel⟩
    · exact ⟨by decide +kernel, fun _ _ => by decide +kernel, fun _ _ => by decide +kernel⟩
    · exact ⟨by decide +kernel, fun _ _ => by decide +kernel, fun _ _ => by decide +kernel⟩
    · exact ⟨by decide +kernel, fun _ _ => by decide +kernel, fun _ _ => by decide +kernel⟩
  exact SB.mul ok fun tt k => ⟨.str (qs n), H, I.tok _, ⟨tt, rfl⟩, q⟩
def qk (n : Int) : Str := qs n ++ ("qq" : Str)
theorem qk_is {n : Int} (h1 : 1 ≤ n) (h4 : n ≤ 4) : 3 ≤ (qk n).length ∧ (qk n).length ≤ 6 ∧ ∀ c ∈ (qk n).cps.toList, c = 113 ∨ c = 121 := by
  have hn : n = 1 ∨ n = 2 ∨ n = 3 ∨ n = 4 := by omega
  rcases hn with rfl | rfl | rfl | rfl <;> exact ⟨by decide +kernel, by decide +kernel, by decide +kernel⟩
theorem getD_snoc_eq {l : List Str} {y d : Str} : (l ++ [y]).getD l.length d = y := by
  rw [List.getD_eq_getElem?_getD, List.getElem?_append_right (Nat.le_refl _), Nat.sub_self]
  rfl
theorem getD_snoc_lt {l : List Str} {y d : Str} {j : Nat} (h : j < l.length) : (l ++ [y]).getD j d = l.getD j d := by
  rw [List.getD_eq_getElem?_getD, List.getElem?_append_left h, ← List.getD_eq_getElem?_getD]
def fst2 {α : Type} : List α → List α → List α
  | [a], [b] => [a, b]
  | _, _ => []
theorem fst2_rel {vs : List V} {us : List Value} {zs : List V} {ws : List Value} (r1 : Vals vs us) (r2 : Vals zs ws) : Vals (fst2 vs zs) (fst2 us ws) := by
  cases r1 with
  | nil => exact .nil
  | cons h1 t1 =>
    cases t1 with
    | cons _ _ => exact .nil
    | nil =>
      cases r2 with
      | nil => exact .nil
      | cons h2 t2 =>
        cases t2 with
        | nil => exact .cons h1 (.cons h2 .nil)
        | cons _ _ => exact .nil
def rev2 {α : Type} : List α → List α → List α
  | [], [a, b] => [b, a]
  | _, _ => []
theorem rev2_rel {vs : List V} {us : List Value} {zs : List V} {ws : List Value} (r1 : Vals vs us) (r2 : Vals zs ws) : Vals (rev2 vs zs) (rev2 us ws) := by
  cases r1 with
  | cons _ _ => exact .nil
  | nil =>
    cases r2 with
    | nil => exact .nil
    | cons h1 t1 =>
      cases t1 with
      | nil => exact .nil
      | cons h2 t2 =>
        cases t2 with
        | nil => exact .cons h2 (.cons h1 .nil)
        | cons _ _ => exact .nil
section
variable {P : Program} {w : World} {K : PySem.W.Frag} {mg : Str → Option Value} {base : Heap} {C fI fE CR fR CN fN c1 P1 c2 P2 : Addr}
def spRen (K : PySem.W.Frag) (C P1 P2 : Addr) : Sp := fun vs H Q _ => ∃ (b : Addr) (v vo : V) (ns os : List Str) (rs : List Row), vs = [.ref b, v, vo] ∧ Bx H b ∧ SysAt K C H v ns rs ∧ NamesOk ns ∧ RowsOk ns.length rs ∧ (∀ r ∈ rs, BdL 100000000000 (ents r)) ∧ Nqy ns ∧ Dp K H vo (encN os) ∧ NamesOk os ∧ os.length = ns.length ∧ LamX.Tabs (TT2 P1 P2) H ∧
  ∀ H', Fx H H' → Bx H' b → LamX.Tabs (TT2 P1 P2) H' → Q (.bl true) H'
abbrev nN : List Str := ["_law_box_here", "_law_system", "_law_others", "_law_names_here", "_law_some", "_law_table", "_law_plan", "_law_name", "_law_key", "_law_new", "_law_rows_here", "_law_coefficients", "_law_bound", "_law_amounts", "_law_at", "_law_told", "_law_back", "_law_other", "_law_spoilt"]
theorem scRen : FnScope nN ["_law_box_here", "_law_system", "_law_others"] (defScope sLRen) := ⟨rfl, rfl, rfl, by decide +kernel, rfl, by decide +kernel, by decide +kernel⟩
theorem ok_ren (B : Bl mg) (S : SysT K mg C fI fE) (TX : TwoX K mg CR CN) (hP : P1 ≠ P2) (LC : LamC K mg base "_law_renamed_right" c1 P1) (D : Def K mg "_law_renamed_right" sLRen ["_law_box_here", "_law_system", "_law_others"]) (DH : Def K mg "_law_heard" sLHeard ["_law_action"])
    (OO : Ok P w K mg base CX0 3 "_law_odd" sLOdd ["_law_box_here"] (spOdd K)) (OT : Ok P w K mg base CX0 1 "_law_take" sTake ["_law_box_here", "_law_many"] spTake) (OP : Ok P w K mg base CX0 2 "_law_pick" sPick ["_law_box_here", "_law_some"] (spPick K))
    (OR : Ok P w K mg base (L2.CX P w) 7 "renamed" sRenamed ["system", "names"] (spRenamed P w K C CR)) (OC : Ok P w K mg base CX0 4 "check_system" sChk ["names", "rows"] (spChk K)) :
    OkG P w K mg base 11 "_law_renamed_right" sLRen ["_law_box_here", "_law_system", "_law_others"] (spRen K C P1 P2) := by
  obtain ⟨f, fd, gf, F, bF⟩ := D
  obtain ⟨fH, fdH, gH, FH, bH⟩ := DH
  obtain ⟨ocH, odH, kVH, docH, pmH, anH, cdH, ctH, oslH, rfl, lkH, hcdH⟩ := FH.ex
  obtain ⟨fR', fdR, gR, FR', bR, GR⟩ := OR
  have OR : Ok P w K mg base (L2.CX P w) 7 "renamed" sRenamed ["system", "names"] (spRenamed P w K C CR) := ⟨fR', fdR, gR, FR', bR, GR⟩
  obtain ⟨fdE, FE, bE⟩ := S.fE
  have GE : FnOk P w K mg base CX0 1 fE fdE ["self", "other"] (spEq (SysEq K C)) := ok_sysE B S FE
  have kb1 : KBinds K fdR ["system", "names"] ["names"] fst2 fst2 := kb_of FR' (fun kV doc pm an cdv ct us ws hl => match us, ws, hl with | [_], [_], _ => rfl) fst2_rel
  have kb2 : KBinds K fdR ["system", "names"] ["names", "system"] rev2 rev2 := kb_of FR' (fun kV doc pm an cdv ct us ws hl => match us, ws, hl with | [], [_, _], _ => rfl) rev2_rel
  refine ⟨f, fd, gf, F, bF, Fun.okG F scRen (fun vs H Q E h => ?_) (fun cdv A outer s H vs Q E hg hcode hr h => ?_)⟩
  · obtain ⟨b, v, vo, ns, os, rs, rfl, _⟩ := h
    rfl
  · obtain ⟨oc, od, fdd, osl, lk, rfl⟩ := hcode
    have ec := LC.code f _ _ _ _ gf lk
    obtain ⟨b, v, vo, ns, os, rs, rfl, bx, hsy, N, RS, bdr, nqy, dvo, NO, lo, hT, q⟩ := h
    have hr1 := hr.mono (show 1 ≤ 10 by decide)
    have hr2 := hr.mono (show 2 ≤ 10 by decide)
    have hr3 := hr.mono (show 3 ≤ 10 by decide)
    have hr7 := hr.mono (show 7 ≤ 10 by decide)
    have hr9 := hr.mono (show 9 ≤ 10 by decide)
    refine ⟨_, pss_cons (ps_asg (pe_tup (pa_cons (pe_fld (pv 1) rfl) (pa_cons (pe_t (f := "list") call_list_of B.list b_list (pa_cons (pv 2) pa_nil)) (pa_cons pe_dnewL (pa_cons pe_dnewL pa_nil))))) (pg_tup rfl (pgs_cons (pg_name (i := 3) scRen.nd rfl (.inl rfl)) (pgs_cons (pg_name (i := 4) scRen.nd rfl (.inl rfl)) (pgs_cons (pg_name (i := 5) scRen.nd rfl (.inr rfl)) (pgs_cons (pg_name (i := 6) scRen.nd rfl (.inl rfl)) pgs_nil))))))
      (pss_cons (ps_if (pt_cmpR op_eq (pe_c OT hr1 (pa_cons (pv 0) (pa_cons pe_int pa_nil))) pe_int (nomark _)) (pss_one (ps_set (i := 4) scRen.nd rfl (Or.inl rfl) (pe_t (f := "list") call_list_of B.list b_list (pa_cons (pv 3) pa_nil)))) pss_nil)
      (pss_cons (ps_for PassesOwn.never rfl (pi_tup (pv 3)) (pg_name (i := 7) scRen.nd rfl (.inl rfl)) (pss_one (ps_dputL (pv 5) (pv 7) (pe_bm PySem.F.plainAttrs_list PySem.F.slot_list_pop PySem.F.type_list_pop mt_popAt (pv 4) (pa_cons (pe_c OT hr1 (pa_cons (pv 0) (pa_cons (pe_b (f := "len") call_len_seq B.len b_len (pa_cons (pv 4) pa_nil)) pa_nil))) pa_nil)))))
      (pss_cons (ps_set (i := 6) scRen.nd rfl (Or.inl rfl) (pe_copyL rfl (pv 5) B.list B.dict))
      (pss_cons (ps_if (pt_cmpR op_eq (pe_c OT hr1 (pa_cons (pv 0) (pa_cons pe_int pa_nil))) pe_int (nomark _))
        (pss_cons (ps_set (i := 8) scRen.nd rfl (Or.inl rfl) (pe_c OP hr2 (pa_cons (pv 0) (pa_cons (pe_lst (pa_cons (pe_op op_add_str (pe_op op_mulQ pe_str (pe_op op_add pe_int (pe_c OT hr1 (pa_cons (pv 0) (pa_cons pe_int pa_nil))))) pe_str) (pa_cons pe_int (pa_cons pe_non (pa_cons pe_str pa_nil))))) pa_nil))))
        (pss_cons (ps_dputL (pv 5) (pv 8) (pe_c OP hr2 (pa_cons (pv 0) (pa_cons (pe_lst (pa_cons (pe_c OO hr3 (pa_cons (pv 0) pa_nil)) (pa_cons (pe_dgetL (pv 5) (pe_ix (r := rIxT K) ix_tup (pv 3) pe_int (fun _ _ => rfl)) (fun _ _ => rfl)) pa_nil))) pa_nil))))
        (pss_one (ps_set (i := 6) scRen.nd rfl (Or.inl rfl) (pe_copyL rfl (pv 5) B.list B.dict))))) pss_nil)
      (pss_cons (ps_set (i := 9) scRen.nd rfl (Or.inl rfl) (pe_t (f := "tuple") call_tupD B.tuple b_tuple (pa_cons (pe_b (f := "sorted") (cr_sortedD PyData.str hr.units) B.sorted b_sorted (pa_cons (pe_lc (own := [("_law_name", 7)]) (g := gName 7) (tt := tYes) (te := tGetL P w (tVar 5) (tVar 7)) rfl scRen.nd (pi_tup (pv 3)) (blkOk_by (N := nN) (sc := defScope sLRen) (by decide +kernel))
          (fun _ _ _ _ _ => pg_name (i := 7) scRen.nd rfl (.inl rfl)) (fun _ _ _ _ _ => pts_nil) (fun _ _ _ _ _ => pe_dgetL (pv 5) (pv 7) (fun _ _ => rfl))) pa_nil)) pa_nil)))
      (pss_cons (ps_set (i := 10) scRen.nd rfl (Or.inl rfl) (pe_lst pa_nil))
      (pss_cons (ps_for PassesOwn.never rfl (pi_tup (pe_fld (pv 1) rfl)) (pg_tup rfl (pgs_cons (pg_name (i := 11) scRen.nd rfl (.inl rfl)) (pgs_cons (pg_name (i := 12) scRen.nd rfl (.inl rfl)) pgs_nil)))
        (pss_cons (ps_set (i := 13) scRen.nd rfl (Or.inr rfl) pe_dnewL)
        (pss_cons (ps_for PassesOwn.never rfl (pi_range1 rfl B.range (pa_cons (pe_b (f := "len") call_len_seq B.len b_len (pa_cons (pv 3) pa_nil)) pa_nil)) (pg_name (i := 14) scRen.nd rfl (.inl rfl)) (pss_one (ps_dputL (pv 13) (pe_dgetL (pv 5) (pe_ix (r := rIxT K) ix_tup (pv 3) (pv 14) (fun _ _ => rfl)) (fun _ _ => rfl)) (pe_ix (r := rIxT K) ix_tup (pv 11) (pv 14) (fun _ _ => rfl)))))
        (pss_one (ps_expr (pe_bm PySem.F.plainAttrs_list PySem.F.slot_list_append PySem.F.type_list_append mt_append (pv 10) (pa_cons (pe_tup (pa_cons (pe_t (f := "tuple") call_tupD B.tuple b_tuple (pa_cons (pe_lc (own := [("_law_name", 7)]) (g := gName 7) (tt := tYes) (te := tGetL P w (tVar 13) (tVar 7)) rfl scRen.nd (pi_tup (pv 9)) (blkOk_by (N := nN) (sc := defScope sLRen) (by decide +kernel))
          (fun _ _ _ _ _ => pg_name (i := 7) scRen.nd rfl (.inl rfl)) (fun _ _ _ _ _ => pts_nil) (fun _ _ _ _ _ => pe_dgetL (pv 13) (pv 7) (fun _ _ => rfl))) pa_nil)) (pa_cons (pv 12) pa_nil))) pa_nil)))))))
      (pss_cons (ps_set (i := 15) scRen.nd rfl (Or.inl rfl) (pe_callK GR hr7 rfl gR FR'.kp kb1 passL (pa_cons (pv 1) pa_nil) (pk_cons (pv 5) pk_nil)))
      (pss_cons (ps_if (PW.pt (pw_or (pt_cmpR (op_neD hr.units) (pe_fld (pv 15) rfl) (pv 9) (nomark _)) (pw_or (pt_cmpR (op_neD hr.units) (pe_fld (pv 15) rfl) (pe_t (f := "tuple") call_tupD B.tuple b_tuple (pa_cons (pe_b (f := "sorted") (cr_sortedD encR hr.units) B.sorted b_sorted (pa_cons (pv 10) pa_nil)) pa_nil)) (nomark _))
          (pw_or (pt_cmpR (op_neL (Nat.lt_of_le_of_lt (Nat.le_add_right _ 64) hr.units)) (pv 5) (pv 6) (nomark _)) (pw_or1 (pt_not (pt_val (pe_b (f := "isinstance") (C8.call_isC S.ins) B.isi b_isi (pa_cons (pv 15) (pa_cons (pe_glob (v := .ref C) rfl S.mgC rfl) pa_nil)))))))))) (pss_one (ps_ret pe_bl)) pss_nil)
      (pss_cons (ps_set (i := 16) scRen.nd rfl (Or.inl rfl) pe_dnewL)
      (pss_cons (ps_for PassesOwn.never rfl (pi_tup (pv 3)) (pg_name (i := 7) scRen.nd rfl (.inl rfl)) (pss_one (ps_dputL (pv 16) (pe_dgetL (pv 5) (pv 7) (fun _ _ => rfl)) (pv 7))))
      (pss_cons (ps_if (pt_not (pt_cmpR (op_eqG (rcG_ins GE S.eq.at_ S.eq.fn bE pass0) hr1) (pe_c0K GR hr7 gR FR'.kp kb2 passL (pk_cons (pv 16) (pk_cons (pv 15) pk_nil))) (pv 1) (nomark _))) (pss_one (ps_ret pe_bl)) pss_nil)
      (pss_cons (ps_par (i := 7) (j := 17) rfl scRen.nd rfl rfl (by decide) rfl rfl (pa_cons (pe_c OP hr2 (pa_cons (pv 0) (pa_cons (pv 3) pa_nil))) (pa_cons (pe_c OP hr2 (pa_cons (pv 0) (pa_cons (pv 3) pa_nil))) pa_nil)) (by rfl))
      (pss_cons (ps_set (i := 18) scRen.nd rfl (Or.inr rfl) (pe_copyL rfl (pv 5) B.list B.dict))
      (pss_cons (ps_dputL (pv 18) (pv 7) (pe_c OO hr3 (pa_cons (pv 0) pa_nil)))
      (pss_cons (ps_if (pt_cmpR (op_neD hr.units) (LamX.pe_lamcall (T := TT2 P1 P2) (TT := TTh CR CN) (k := 7) (a := "_law_action") (t := fun E => tCall (spRenamed P w K C CR) [] E (tCons (tVar 1) (tCons (tVar 18) tNil))) rfl gH FH.kp lkH hcdH bH scHeard rfl (.inl rfl) (heard_gives TX) LC.tab ec List.mem_cons_self (hu_ren hP) hr9 (LamX.lamS_by (by kernel_rfl)) rfl (fun _ _ _ _ _ => rfl)
          (fun A outer s H E f c' hr' => pe_cE OR hr' (takes_of rfl rfl rfl rfl) (fun _ _ _ _ h => h) (pa_cons (pv 1) (pa_cons (pv 18) pa_nil)))) (pe_tup (pa_cons pe_str (pa_cons pe_str pa_nil))) (nomark _)) (pss_one (ps_ret pe_bl)) pss_nil)
      (pss_cons (ps_dputL (pv 18) (pv 7) (pe_dgetL (pv 5) (pv 17) (fun _ _ => rfl)))
      (pss_cons (ps_if (PW.pt (pw_and (pt_cmpR op_ne (pv 7) (pv 17) (nomark _)) (pw_and1 (pt_cmpR (op_neD hr.units) (LamX.pe_lamcall (T := TT2 P1 P2) (TT := TTh CR CN) (k := 7) (a := "_law_action") (t := fun E => tCall (spRenamed P w K C CR) [] E (tCons (tVar 1) (tCons (tVar 18) tNil))) rfl gH FH.kp lkH hcdH bH scHeard rfl (.inl rfl) (heard_gives TX) LC.tab ec List.mem_cons_self (hu_ren hP) hr9 (LamX.lamS_by (by kernel_rfl)) rfl (fun _ _ _ _ _ => rfl)
          (fun A outer s H E f c' hr' => pe_cE OR hr' (takes_of rfl rfl rfl rfl) (fun _ _ _ _ h => h) (pa_cons (pv 1) (pa_cons (pv 18) pa_nil)))) (pe_tup (pa_cons pe_str (pa_cons pe_str pa_nil))) (nomark _))))) (pss_one (ps_ret pe_bl)) pss_nil)
      (pss_cons (ps_expr (pe_dpopL (pv 18) (pv 7) ⟨rfl, rfl, rfl, rfl⟩))
      (pss_cons (ps_if (pt_cmpR (op_neD hr.units) (LamX.pe_lamcall (T := TT2 P1 P2) (TT := TTh CR CN) (k := 7) (a := "_law_action") (t := fun E => tCall (spRenamed P w K C CR) [] E (tCons (tVar 1) (tCons (tVar 18) tNil))) rfl gH FH.kp lkH hcdH bH scHeard rfl (.inl rfl) (heard_gives TX) LC.tab ec List.mem_cons_self (hu_ren hP) hr9 (LamX.lamS_by (by kernel_rfl)) rfl (fun _ _ _ _ _ => rfl)
          (fun A outer s H E f c' hr' => pe_cE OR hr' (takes_of rfl rfl rfl rfl) (fun _ _ _ _ h => h) (pa_cons (pv 1) (pa_cons (pv 18) pa_nil)))) (pe_tup (pa_cons pe_str (pa_cons pe_str pa_nil))) (nomark _)) (pss_one (ps_ret pe_bl)) pss_nil)
      (pss_cons (ps_expr (pe_dpopL (pv 5) (pv 17) ⟨rfl, rfl, rfl, rfl⟩))
      (pss_one (ps_ret (pe_and (pe_cmpR (op_eqD hr.units) (pe_fld (pv 15) rfl) (pv 9) (nomark _)) (pe_one (pe_cmpR op_eq (pe_b (f := "repr") (call_reprD hg hr.units) B.repr b_repr (pa_cons (pe_fld (pv 15) rfl) pa_nil)) (pe_b (f := "repr") (call_reprD hg hr.units) B.repr b_repr (pa_cons (pe_t (f := "tuple") call_tupD B.tuple b_tuple (pa_cons (pe_b (f := "sorted") (cr_sortedD encR hr.units) B.sorted b_sorted (pa_cons (pv 10) pa_nil)) pa_nil)) pa_nil)) (nomark _))))))))))))))))))))))))))), ?_⟩
    obtain ⟨sa, dx, vn, vr, rfl, hs, dn, dr, nod⟩ := id hsy
    obtain ⟨an, rfl, hn⟩ := Dp.N_inv dn
    obtain ⟨ar, rws, rfl, hR, ha⟩ := Dp.tup_inv dr
    obtain ⟨ao, rfl, ho⟩ := Dp.N_inv dvo
    have hul := DpAll.length ha
    rw [List.length_map] at hul
    have n6 := N.six
    have n1 := N.one
    have h60 := RS.most
    have nd0 := NamesOk.nodup N
    refine ⟨_, rfl, sa, C, dx, _, _, rfl, hs, S.ins.cl, S.nN, sysF_names _ _, _, rfl, ao, _, rfl, .inr ho, fun L1 nL1 => ?_⟩
    refine fun tb ntb => ?_
    refine fun p0 np0 => ?_
    refine ⟨(by show 4 ≤ sizeLine; decide), fun t1 nt1 => ?_⟩
    refine ⟨t1, _, rfl, SqT.of upd_same, rfl, _, _, rfl, _, _, rfl, _, _, rfl, _, _, rfl, rfl, ?_⟩
    have s1a := same_new (o := .lst (os.map V.str)) nL1
    have s1b := same_new (o := DO P w tb []) ntb
    have s1c := same_new (o := DO P w p0 []) np0
    have s1d := same_new (o := .tup [.ref an, .ref L1, .ref tb, .ref p0]) nt1
    have s1 := ((s1a.trans s1b).trans s1c).trans s1d
    have nLb := Bx.ne bx nL1
    have ntbb := Bx.ne (Bx.same bx s1a) ntb
    have ntbH := none_of_new nL1 ntb
    have nLH := nL1
    refine ⟨_, rfl, b, 3, rfl, Bx.same bx s1, by decide, by decide, fun H2 k2 kb2 bx2 hk2 => ?_⟩
    have htb3 := kb2 _ _ ntbb (s1d _ _ (s1c _ _ (upd_same (a := tb))))
    have K3 : Kb b H H2 := (Kb.of_same s1).trans kb2
    have bx3 := bx2
    by_cases k0 : k2 = 0
    case' pos =>
      subst k0
      refine ⟨rfl, true, rfl, iteT ⟨_, rfl, an, _, rfl, .inr (SqT.fx (bx.fx K3) hn), fun L1 nL1 => ?_⟩⟩
      have nLb := Bx.ne bx2 nL1
      have nLH : H L1 = none := by
        cases e : H L1 with
        | none => rfl
        | some o =>
          rw [K3 _ _ nLb e] at nL1
          cases nL1
      have K3 := K3.trans (Kb.of_same (same_new (o := .lst (ns.map V.str)) nL1))
      have bx3 := Bx.same bx2 (same_new (o := .lst (ns.map V.str)) nL1)
      have htb3 := same_new (o := .lst (ns.map V.str)) nL1 _ _ htb3
      obtain ⟨l0, el0⟩ : ∃ l0, l0 = ns := ⟨_, rfl⟩
      have NO0 : NamesOk l0 := by rw [el0]; exact N
      have ll0 : l0.length = ns.length := by rw [el0]
      have hSM : upd H2 L1 (.lst (ns.map V.str)) L1 = some (.lst (l0.map V.str)) := by rw [el0]; exact upd_same
    case' neg =>
      refine ⟨rfl, false, congrArg V.bl (decide_eq_false (by intro z; injection z with z; omega)), iteF ?_⟩
      obtain ⟨l0, el0⟩ : ∃ l0, l0 = os := ⟨_, rfl⟩
      have NO0 : NamesOk l0 := by rw [el0]; exact NO
      have ll0 : l0.length = ns.length := by rw [el0]; exact lo
      have hSM : H2 L1 = some (.lst (l0.map V.str)) := by
        rw [el0]
        exact kb2 _ _ nLb (s1d _ _ (s1c _ _ (s1b _ _ upd_same)))
    all_goals
      refine ⟨_, rfl, an, rfl, ⟨_, SqT.fx (bx.fx K3) hn⟩, for_tup (K := K) (a := an) (xs := ns.map V.str) (fun i σ H' => ∃ (z7 : Option V) (l' m : List Str) (kvs : List (Leaf × V)), σ = [some (.ref b), some (.ref sa), some (.ref ao), some (.ref an), some (.ref L1), some (.ref tb), some (.ref p0), z7, none, none, none, none, none, none, none, none, none, none, none] ∧ Kb b H H' ∧ Bx H' b ∧ H' L1 = some (.lst (m.map V.str)) ∧
          H' tb = some (DO P w tb kvs) ∧ (l' ++ m).Perm l0 ∧ l'.length = i ∧ (∀ j x, ns[j]? = some x → j < i → valV kvs (.text x) = some (.str (l'.getD j Str.empty))) ∧ kvs.length ≤ i ∧ ∀ q ∈ kvs, FR q.2)
        ⟨none, [], l0, [], rfl, K3, bx3, hSM, htb3, List.Perm.refl _, rfl, (fun j x _ hj => absurd hj (Nat.not_lt_zero _)), Nat.zero_le _, fun q hq => nomatch hq⟩ (fun i σ H' _ ⟨_, _, _, _, _, Ka, _⟩ => SqT.fx (bx.fx Ka) hn) ?_ ?_⟩
      · rintro i y σ Ha hx ⟨z7, l', m, kvs, rfl, Ka, bxa, hL, htb, pm, ll, tv, kl, fr⟩
        obtain ⟨x, gx, rfl⟩ := map_get hx
        have hi := (List.getElem?_eq_some_iff.mp gx).1
        have pl := pm.length_eq
        rw [List.length_append, ll, ll0] at pl
        refine ⟨_, rfl, .inl ⟨rfl, _, SqL.of hL⟩, _, rfl, _, rfl, L1, _, rfl, .inl (SqL.of hL), b, _, rfl, bxa, by rw [List.length_map]; omega, by rw [List.length_map]; omega, fun Hb k kbb bxb hk => ?_⟩
        rw [List.length_map] at hk
        have km : k < m.length := by omega
        have hLb := kbb _ _ nLb hL
        have htbb := kbb _ _ ntbb htb
        have hix : ixN (m.map V.str).length (k : Nat) = some k := by
          unfold ixN
          rw [if_pos (by omega), if_pos (by rw [List.length_map]; omega)]
          simp
        refine ⟨L1, _, _, k, .str m[k], rfl, rfl, hLb, by omega, by omega, (ixN_seq hix).1, by rw [List.getElem?_map, List.getElem?_eq_getElem km]; rfl, ?_⟩
        rw [map_erase]
        have ntL : tb ≠ L1 := fun e => by
          rw [e, hLb] at htbb
          unfold DO at htbb
          cases htbb
        have htbc : upd Hb L1 (.lst ((m.eraseIdx k).map V.str)) tb = some (DO P w tb kvs) := by
          rw [upd_ne ntL]
          exact htbb
        refine ⟨_, rfl, _, rfl, tb, kvs, .text x, rfl, htbc, rfl, by omega, some (.str x), l' ++ [m[k]], m.eraseIdx k, putK kvs (.text x) (.str m[k]), rfl, ?_, ?_, ?_, upd_same, ?_, by rw [List.length_append, ll]; rfl, ?_, ?_, fr_put fr (fr_str _)⟩
        · intro a o ne e
          rw [upd_ne (fun z => by rw [z, ntbH] at e; cases e), upd_ne (fun z => by rw [z, nLH] at e; cases e)]
          exact kbb _ _ ne (Ka a o ne e)
        · obtain ⟨x, y, z, hb⟩ := bxb
          exact ⟨x, y, z, by rw [upd_ne (Ne.symm ntbb), upd_ne (Ne.symm nLb)]; exact hb⟩
        · rw [upd_ne (Ne.symm ntL)]
          exact upd_same
        · rw [List.append_assoc]
          exact ((erase_perm (List.getElem?_eq_getElem km)).append_left l').trans pm
        · intro j x' hj hlt
          rw [valV_put]
          by_cases ej : j = i
          · subst ej
            rw [gx] at hj
            cases hj
            rw [if_pos rfl, ← ll, getD_snoc_eq]
          · have nx : x' ≠ x := fun e => ej (nodup_first nd0 (e ▸ gx) hj)
            rw [if_neg (fun e => nx (by injection e)), getD_snoc_lt (by omega)]
            exact tv j x' hj (by omega)
        · have := length_putK kvs (.text x) (.str m[k])
          omega
      rintro σ H4 ⟨z7, l', m, kvs, rfl, K4, bx4, hL4, htb4, pm, ll, tv, kl, fr⟩
      rw [List.length_map] at ll tv kl
      have pl := pm.length_eq
      rw [List.length_append, ll, ll0] at pl
      have m0 : m = [] := List.eq_nil_of_length_eq_zero (by omega)
      subst m0
      rw [List.append_nil] at pm
      have lN : l'.Nodup := pm.nodup_iff.mpr (NamesOk.nodup NO0)
      have lok : ∀ x ∈ l', nameB x = true := fun x hx => NO0.ok x (pm.mem_iff.mp hx)
      have tvv : ∀ x ∈ ns, valV kvs (.text x) = some (.str (lv ns l' x)) := fun x hx => by
        obtain ⟨j, hj⟩ := List.mem_iff_getElem?.mp hx
        rw [lv_at nd0 hj]
        exact tv j x hj (List.getElem?_eq_some_iff.mp hj).1
      refine ⟨_, rfl, tb, kvs, rfl, htb4, fun p1 np1 => ?_⟩
      have np1b := Bx.ne bx4 np1
      have K5 := K4.trans (Kb.of_same (same_new (o := DO P w p1 kvs) np1))
      have two5 : TwoD P w tb p1 ns l' (upd H4 p1 (DO P w p1 kvs)) := ⟨kvs, same_new np1 _ _ htb4, upd_same, tvv, by omega, fr⟩
      have bx5 := Bx.same bx4 (same_new (o := DO P w p1 kvs) np1)
      refine ⟨_, rfl, b, 2, rfl, bx5, by decide, by decide, fun H6 k6 kb6 bx6 hk6 => ?_⟩
      have K7 := K5.trans kb6
      have bx7 := bx6
      have two7 : TwoD P w tb p1 ns l' H6 := two5.mv fun a o h e => kb6 a o (by
        rcases h with rfl | rfl
        · exact ntbb
        · exact np1b) e
      by_cases k0 : k6 = 0
      case' pos =>
        subst k0
        have htb6 := kb6 _ _ ntbb (same_new (o := DO P w p1 kvs) np1 _ _ htb4)
        refine ⟨rfl, true, rfl, iteT ⟨_, rfl, _, rfl, b, 4, rfl, bx6, by decide, by decide, fun H7 k7 kb7 bx7 hk7 => ?_⟩⟩
        have qi := qk_is (n := 1 + ((k7 : Nat) : Int)) (by omega) (by omega)
        refine ⟨_, _, rfl, rfl, 1 + ((k7 : Nat) : Int), rfl, rfl, by omega, by omega, _, _, rfl, rfl, (by
          have z := qi.2.1
          unfold qk at z
          rw [Str.length_append] at z
          rw [sizeLine_eq]
          omega), (by show 4 ≤ sizeLine; decide), fun p8 n8 => ?_⟩
        refine ⟨b, p8, [.str (qk (1 + ((k7 : Nat) : Int))), .int 7, .non, .str "A"], rfl, Bx.same bx7 (same_new n8), fun H' kb => .inl (SqL.of (kb _ _ (Bx.ne bx7 n8) upd_same)), (by show 0 < 4; decide), (by show 4 < 1000; decide), fun H9 k9 v9 kb9 bx9 hk9 => ?_⟩
        obtain ⟨kL, rfl, nk⟩ : ∃ kL, v9 = lV kL ∧ ∀ x ∈ ns, Leaf.text x ≠ kL := by
          rcases k9 with _ | _ | _ | _ | k9
          · exact ⟨.text (qk (1 + ((k7 : Nat) : Int))), (Option.some.inj hk9).symm, fun x hx e => nqy_not nqy qi.1 qi.2.2 (by injection e with e; rw [← e]; exact hx)⟩
          · exact ⟨.num 7, (Option.some.inj hk9).symm, fun x hx e => by cases e⟩
          · exact ⟨.none, (Option.some.inj hk9).symm, fun x hx e => by cases e⟩
          · refine ⟨.text "A", (Option.some.inj hk9).symm, fun x hx e => ?_⟩
            injection e with e
            have z := N.ok x hx
            rw [e] at z
            revert z
            decide +kernel
          · have z : ([] : List V)[k9]? = some v9 := hk9
            cases z
        have K9 := ((K7.trans kb7).trans (Kb.of_same (same_new n8))).trans kb9
        refine ⟨_, rfl, _, rfl, b, rfl, bx9, fun Ha va da kba bxa oda oka => ?_⟩
        have htba := kba _ _ ntbb (kb9 _ _ ntbb (same_new n8 _ _ (kb7 _ _ ntbb htb6)))
        have Ka := K9.trans kba
        obtain ⟨x0, g0⟩ : ∃ x0, ns[0]? = some x0 := ⟨ns[0]'(by omega), List.getElem?_eq_getElem _⟩
        refine ⟨_, rfl, _, rfl, an, _, _, .str x0, rfl, rfl, SqT.fx (bx.fx Ka) hn, at_of (j := 0) rfl (by rw [List.getElem?_map, g0]; rfl), tb, kvs, .text x0, .str (lv ns l' x0), rfl, htba, rfl, tvv x0 (List.mem_of_getElem? g0), (by show 2 ≤ sizeLine; decide), fun pb nb => ?_⟩
        refine ⟨b, pb, [va, .str (lv ns l' x0)], rfl, Bx.same bxa (same_new nb), fun H' kb => .inl (SqL.of (kb _ _ (Bx.ne bxa nb) upd_same)), (by show 0 < 2; decide), (by show 2 < 1000; decide), fun Hc kc vc kbc bxc hkc => ?_⟩
        have frc : FR vc := by
          rcases kc with _ | _ | kc
          · have e : va = vc := Option.some.inj hkc
            rw [← e]
            exact oda.2.1
          · have e := Option.some.inj hkc
            rw [← e]
            exact fr_str _
          · have z : ([] : List V)[kc]? = some vc := hkc
            cases z
        have Kc := (Ka.trans (Kb.of_same (same_new nb))).trans kbc
        have htbc := kbc _ _ ntbb (same_new nb _ _ htba)
        refine ⟨_, rfl, _, rfl, tb, kvs, kL, rfl, htbc, rfl, by omega, ?_⟩
        have Kd : Kb b H (upd Hc tb (DO P w tb (putK kvs kL vc))) := fun a o ne e => by
          rw [upd_ne (fun z => by rw [z, ntbH] at e; cases e)]
          exact Kc a o ne e
        have bxd : Bx (upd Hc tb (DO P w tb (putK kvs kL vc))) b := by
          obtain ⟨x, y, z, hb⟩ := bxc
          exact ⟨x, y, z, by rw [upd_ne (Ne.symm ntbb)]; exact hb⟩
        refine ⟨_, rfl, tb, _, rfl, upd_same, fun p1 np1 => ?_⟩
        have np1b := Bx.ne bxd np1
        have K7 := Kd.trans (Kb.of_same (same_new (o := DO P w p1 (putK kvs kL vc)) np1))
        have bx7 := Bx.same bxd (same_new (o := DO P w p1 (putK kvs kL vc)) np1)
        have two7 : TwoD P w tb p1 ns l' (upd (upd Hc tb (DO P w tb (putK kvs kL vc))) p1 (DO P w p1 (putK kvs kL vc))) := ⟨putK kvs kL vc, same_new np1 _ _ upd_same, upd_same, (fun x hx => by
          rw [valV_put, if_neg (nk x hx)]
          exact tvv x hx), (by have := length_putK kvs kL vc; omega), fr_put fr frc⟩
      case' neg =>
        refine ⟨rfl, false, congrArg V.bl (decide_eq_false (by intro z; injection z with z; omega)), iteF ?_⟩
      all_goals
        have ll' : l'.length = ns.length := ll
        obtain ⟨kvs, htb7, hp7, tvv, kl, fr⟩ := id two7
        have hn7 := SqT.fx (bx.fx K7) hn
        refine ⟨_, rfl, an, rfl, ⟨_, hn7⟩, fun D1 nD1 => lc_itD (K := K) walk_tup ((ns.map (lv ns l')).map PyData.str) (tup_strs _) (by simp) (by rw [List.length_map, sizeLine_eq]; omega) nD1 (fun _ sb => SqT.fx (fx_same sb) hn7) ?_ ?_⟩
        · intro i y d Ha Hb R Nx hi hdi sb hY hq
          obtain ⟨rfl, hx⟩ := hY
          obtain ⟨x, gx, rfl⟩ := map_get hx
          obtain ⟨z, gz, rfl⟩ := map_get hdi
          obtain ⟨x', gx', rfl⟩ := map_get gz
          rw [gx] at gx'
          have ex : x = x' := Option.some.inj gx'
          subst ex
          exact ⟨rfl, _, rfl, _, rfl, tb, kvs, .text x, .str (lv ns l' x), rfl, sb _ _ htb7, rfl, tvv x (List.mem_of_getElem? gx), hq _ _ (Same.refl _) (.str _)⟩
        intro H8 ys8 s8 hD8 hd8
        rw [DpAll.strs_inv hd8, map_lv nd0 ll'] at hD8
        refine ⟨D1, _, l', rfl, SqL.of hD8, DpAll.strs l', alike_strs l', sortable_strs l', fun _ _ => by rw [PyData.depth]; omega, by rw [ll, sizeLine_eq]; omega, fun ws9 p9 np9 dws9 => ?_⟩
        refine ⟨p9, ws9, _, rfl, SqL.of upd_same, DpAll.same (same_new np9) dws9, fun vnew H10 s10' en10 ndn => ?_⟩
        obtain ⟨anw, rfl, hnw⟩ := Dp.N_inv (c := srtN l') en10
        have s10 := (s8.trans (same_new np9)).trans s10'
        have K10 := K7.trans (Kb.of_same s10)
        have bx10 := Bx.same bx7 s10
        have two10 := two7.same s10
        refine ⟨(by show 0 ≤ sizeLine; exact Nat.zero_le _), fun L nL => ?_⟩
        have nLb2 := Bx.ne bx10 nL
        have nLH2 : H L = none := by
          cases e : H L with
          | none => rfl
          | some o =>
            rw [K10 _ _ nLb2 e] at nL
            cases nL
        have K11 := K10.trans (Kb.of_same (same_new (o := .lst []) nL))
        have slen : (srtN l').length = ns.length := by rw [(srtN_perm l').length_eq, ll']
        have twoL : ∀ {Hx : Hp}, TwoD P w tb p1 ns l' Hx → (∃ xs, Hx L = some (.lst xs)) → L ≠ tb ∧ L ≠ p1 := fun {Hx} t ⟨xs, hx⟩ => by
          obtain ⟨k, t1, t2, _⟩ := t
          constructor
          · intro e
            rw [← e, hx] at t1
            unfold DO at t1
            cases t1
          · intro e
            rw [← e, hx] at t2
            unfold DO at t2
            cases t2
        refine ⟨_, rfl, sa, C, dx, _, _, rfl, (bx.fx K11) _ _ rfl hs, S.ins.cl, S.nR, sysF_rows _ _, ar, rfl, ⟨_, SqT.fx (bx.fx K11) hR⟩, for_tup (K := K) (a := ar) (xs := rws) (fun j σ H' => ∃ (z7 z8 z11 z12 z13 z14 : Option V) (ys : List V), σ = [some (.ref b), some (.ref sa), some (.ref ao), some (.ref an), some (.ref L1), some (.ref tb), some (.ref p1), z7, z8, some (.ref anw), some (.ref L), z11, z12, z13, z14, none, none, none, none] ∧
            Kb b H H' ∧ Bx H' b ∧ TwoD P w tb p1 ns l' H' ∧ SqT K H' anw ((srtN l').map V.str) ∧ H' L = some (.lst ys) ∧ ys.length = j ∧ DpAll K H' ys (((rs.take j).map (permR (ordN l'))).map encR))
          ⟨_, _, none, none, none, none, [], rfl, K11, Bx.same bx10 (same_new nL), two10.same (same_new nL), SqT.fx (fx_same (same_new nL)) hnw, upd_same, rfl, .nil⟩ (fun j σ H' _ ⟨_, _, _, _, _, _, _, _, Ka, _⟩ => SqT.fx (bx.fx Ka) hR) ?_ ?_⟩
        · rintro j y σ Ha hx ⟨z7, z8, z11, z12, z13, z14, ys, rfl, Ka, bxa, twoa, hnwa, hLa, hyl, hys⟩
          have fxa := bx.fx Ka
          have hj := (List.getElem?_eq_some_iff.mp hx).1
          obtain ⟨d', hd', dy⟩ := DpAll.get (DpAll.fx fxa (tup_Rl rs) ha) hx
          obtain ⟨r, gr, rfl⟩ := map_get hd'
          have ok := RS.ok r (List.mem_of_getElem? gr)
          obtain ⟨a, v1, rfl, hsr, d1⟩ := Dp.R_inv dy
          obtain ⟨a1, rfl, hs1⟩ := Dp.I_inv d1
          have okl := ok.len
          refine ⟨a, _, rfl, hsr, rfl, _, _, rfl, _, _, rfl, rfl, ?_⟩
          refine fun am nam => ?_
          have s0 := same_new (o := DO P w am []) nam
          refine ⟨_, rfl, an, _, rfl, .inr (SqT.fx (fxa.trans (fx_same s0)) hn), _, rfl, by rw [List.length_map]; omega, by rw [List.length_map]; omega, for_range (lo := 0) (n := (((ns.map V.str).length : Nat) : Int).toNat) (fun i σ H' => ∃ (z14 : Option V) (kva : List (Leaf × V)), σ = [some (.ref b), some (.ref sa), some (.ref ao), some (.ref an), some (.ref L1), some (.ref tb), some (.ref p1), z7, z8, some (.ref anw), some (.ref L), some (.ref a1), some (.int r.2), some (.ref am), z14, none, none, none, none] ∧
              Kb am Ha H' ∧ H' am = some (DO P w am kva) ∧ (∀ i' x, ns[i']? = some x → i' < i → valV kva (.text (lv ns l' x)) = some (.int (r.1.getD i' 0))) ∧ kva.length ≤ i) ⟨z14, [], rfl, Kb.put, upd_same, (fun i' x _ h => absurd h (Nat.not_lt_zero _)), Nat.zero_le _⟩ ?_ ?_⟩
          · rintro i σ Hb hi ⟨z14', kva, rfl, Kam, ham, vv, lk2⟩
            have hi' : i < ns.length := by
              rw [List.length_map] at hi
              omega
            have gx : ns[i]? = some ns[i] := List.getElem?_eq_getElem hi'
            have sab : Same Ha Hb := Kb.same_new Kam nam
            have hs1b := SqT.fx (fx_same sab) hs1
            have hnb := SqT.fx (fxa.trans (fx_same sab)) hn
            obtain ⟨kvs2, htb2, _, tv2, _⟩ := twoa.same sab
            have hc : i < r.1.length := by omega
            refine ⟨_, rfl, _, rfl, a1, _, _, .int r.1[i], rfl, rfl, hs1b, at_of (j := i) (by omega) (by rw [List.getElem?_map, List.getElem?_eq_getElem hc]; rfl), _, rfl, _, rfl, _, rfl, _, rfl, an, _, _, .str ns[i], rfl, rfl, hnb, at_of (j := i) (by omega) (by rw [List.getElem?_map, gx]; rfl), tb, kvs2, .text ns[i], .str (lv ns l' ns[i]), rfl, htb2, rfl, tv2 _ (List.mem_of_getElem? gx),
              am, kva, .text (lv ns l' ns[i]), rfl, ham, rfl, by omega, some (.int (0 + (i : Int))), putK kva (.text (lv ns l' ns[i])) (.int r.1[i]), rfl, Kam.trans Kb.put, upd_same, fun i' x hx2 hlt => ?_, by have := length_putK kva (.text (lv ns l' ns[i])) (.int r.1[i]); omega⟩
            rw [valV_put]
            by_cases ei : i' = i
            · subst ei
              rw [gx] at hx2
              cases hx2
              rw [if_pos rfl, List.getD_eq_getElem?_getD, List.getElem?_eq_getElem hc]
              rfl
            · rw [if_neg (fun e => ei (lv_inj nd0 lN ll' hx2 gx (by injection e)))]
              exact vv i' x hx2 (by omega)
          rintro σ Hc ⟨z14', kva, rfl, Kam, ham, vv, lk2⟩
          rw [List.length_map] at vv
          have sac : Same Ha Hc := Kb.same_new Kam nam
          have hnwc := SqT.fx (fx_same sac) hnwa
          have hLc := sac _ _ hLa
          refine ⟨_, rfl, .inl ⟨rfl, _, SqL.of hLc⟩, _, rfl, anw, rfl, ⟨_, hnwc⟩, fun D3 nD3 => lc_itD (K := K) walk_tup ((permR (ordN l') r).1.map PyData.int) (tup_ints _) (by simp [permR, ord_len, slen, ll']) (by rw [List.length_map, slen, sizeLine_eq]; omega) nD3 (fun _ sb => SqT.fx (fx_same sb) hnwc) ?_ ?_⟩
          · intro i y d He Hf R Nx hi hdi sb hY hq
            obtain ⟨rfl, hx2⟩ := hY
            obtain ⟨x, gx, rfl⟩ := map_get hx2
            obtain ⟨z, gz, rfl⟩ := map_get hdi
            obtain ⟨k, gk, rfl⟩ := map_get gz
            unfold ordN at gk
            rw [List.getElem?_map, gx] at gk
            have ek : l'.idxOf x = k := Option.some.inj gk
            subst ek
            have xl : x ∈ l' := (srtN_perm l').mem_iff.mp (List.mem_of_getElem? gx)
            have il : l'.idxOf x < l'.length := List.idxOf_lt_length_iff.mpr xl
            have gy : ns[l'.idxOf x]? = some (ns[l'.idxOf x]'(by omega)) := List.getElem?_eq_getElem (by omega)
            have e1 := lv_get nd0 ll' gy
            rw [idx_get xl] at e1
            have e2 : x = lv ns l' (ns[l'.idxOf x]'(by omega)) := Option.some.inj e1
            have v2 := vv _ _ gy (by omega)
            rw [← e2] at v2
            exact ⟨rfl, _, rfl, _, rfl, am, kva, .text x, .int (r.1.getD (l'.idxOf x) 0), rfl, sb _ _ ham, rfl, v2, hq _ _ (Same.refl _) (.int _)⟩
          · intro H6 ys6 s6 hD6 hd6
            refine ⟨D3, ys6, _, rfl, SqL.of hD6, hd6, fun v7 H7 s7 e7 nd7 => ?_⟩
            refine ⟨_, rfl, (by show 2 ≤ sizeLine; decide), fun t8 n8 => ?_⟩
            have s9 := (s6.trans s7).trans (same_new (o := .tup [v7, .int r.2]) n8)
            have sa9 := sac.trans s9
            have two9 := twoa.same sa9
            obtain ⟨lt1, lt2⟩ := twoL two9 ⟨ys, s9 _ _ hLc⟩
            have fxL : Fx (upd H7 t8 (.tup [v7, .int r.2])) (upd (upd H7 t8 (.tup [v7, .int r.2])) L (.lst (ys ++ [.ref t8]))) := Fx.upd fun o eo => by
              rw [s9 _ _ hLc] at eo
              cases eo
              rfl
            refine ⟨L, ys, _, rfl, rfl, s9 _ _ hLc, by rw [hyl, sizeLine_eq]; omega, z7, z8, _, _, _, z14', ys ++ [.ref t8], rfl, ?_, ?_, ?_, SqT.fx ((fx_same sa9).trans fxL) hnwa, upd_same, by rw [List.length_append, hyl]; rfl, ?_⟩
            · intro c o ne e
              rw [upd_ne (fun z => by rw [z, nLH2] at e; cases e)]
              exact sa9 _ _ (Ka c o ne e)
            · obtain ⟨x, y, z, hb⟩ := bxa
              exact ⟨x, y, z, by rw [upd_ne (Ne.symm nLb2)]; exact sa9 _ _ hb⟩
            · exact two9.mv fun c o h e => by
                rw [upd_ne (by
                  rcases h with rfl | rfl
                  · exact Ne.symm lt1
                  · exact Ne.symm lt2)]
                exact e
            · rw [take_snoc gr, List.map_append, List.map_append]
              exact DpAll.snoc (DpAll.fx fxL (tup_Rl _) (DpAll.same sa9 hys)) (Dp.fx fxL (tup_R (permR (ordN l') r)) (Dp.R_of (c := (permR (ordN l') r).1) (b := r.2) (SqT.of upd_same) (Dp.same (same_new n8) e7)))
        rintro σ Hb ⟨z7, z8, z11, z12, z13, z14, ys, rfl, Kx, bxx, twox, hnwx, hLx, hyl, hys⟩
        rw [hul, List.take_length] at hys
        have fxx := bx.fx Kx
        obtain ⟨kvs3, htb3', hp3, tv3, kl3, fr3⟩ := id twox
        have RSl : RowsOk l'.length rs := by
          rw [ll']
          exact RS
        have ROt := perm_rows lN RSl
        have NOt : NamesOk (srtN l') := srtN_ok (by omega) (by omega) lok lN
        refine ⟨_, rfl, _, rfl, .ref sa, tb, ns, rs, kvs3, rfl, hsy.fx fxx, N, RS, htb3', for_good (lv ns l') (map_lv nd0 ll') tv3 lok lN fun Hc vt sc syt => ?_⟩
        obtain ⟨st, dxt, vnt, vrt, rfl, hst, dnt, drt, nodt⟩ := id syt
        obtain ⟨atr, ust, rfl, hRt, hat⟩ := Dp.tup_inv (id drt)
        have Kc := Kx.trans (Kb.of_same sc)
        have bxc := Bx.same bxx sc
        have twoc := twox.same sc
        have hLc := sc _ _ hLx
        have hysc := DpAll.same sc hys
        have hnwc := SqT.fx (fx_same sc) hnwx
        refine ⟨_, rfl, st, C, dxt, _, _, rfl, hst, S.ins.cl, S.nN, sysF_names _ _, _, rfl, encN (srtN l'), encN (srtN l'), dnt, Dp.N_of hnwc, shaped_N NOt.ok, shaped_N NOt.ok, false, by rw [eqv_N]; rfl, iteF ?_⟩
        refine ⟨_, rfl, st, C, dxt, _, _, rfl, hst, S.ins.cl, S.nR, sysF_rows _ _, _, rfl, _, ys, rs.map (permR (ordN l')), rfl, SqL.of hLc, hysc, alike_Rs _, sortable_Rs _, fun b _ => by have := depth_R b; omega, by rw [List.length_map, sizeLine_eq]; omega, fun wsd pd npd dwsd => ?_⟩
        refine ⟨pd, wsd, _, rfl, SqL.of upd_same, DpAll.same (same_new npd) dwsd, fun vt2 Hd sd et2 ndt2 => ?_⟩
        have scd := (same_new (o := .lst wsd) npd).trans sd
        have twod := twoc.same scd
        refine ⟨encRs (srt (rs.map (permR (ordN l')))), encRs (srt (rs.map (permR (ordN l')))), Dp.same scd drt, et2, shaped_Rs _, shaped_Rs _, false, by rw [eqv_Rs]; rfl, iteF ?_⟩
        obtain ⟨kvs4, htb4', hp4, tv4, kl4, fr4⟩ := id twod
        refine ⟨_, rfl, _, rfl, tb, p1, kvs4, rfl, rfl, htb4', hp4, fr4, false, rfl, iteF ?_⟩
        refine ⟨_, rfl, st, dxt, _, rfl, scd _ _ hst, _, rfl, iteF ?_⟩
        have Kd := Kc.trans (Kb.of_same scd)
        have bxd := Bx.same bxc scd
        have hLd := scd _ _ hLc
        have hysd := DpAll.same scd hysc
        have hnwd := SqT.fx (fx_same scd) hnwc
        have sytd := SysAt.same syt scd
        -- the way back
        refine fun bk nbk => ?_
        have sbk := same_new (o := DO P w bk []) nbk
        refine ⟨_, rfl, an, rfl, ⟨_, SqT.fx ((bx.fx Kd).trans (fx_same sbk)) hn⟩, for_tup (K := K) (a := an) (xs := ns.map V.str) (fun j σ H' => ∃ (z7 : Option V) (kvb : List (Leaf × V)), σ = [some (.ref b), some (.ref sa), some (.ref ao), some (.ref an), some (.ref L1), some (.ref tb), some (.ref p1), z7, z8, some (.ref anw), some (.ref L), z11, z12, z13, z14, some (.ref st), some (.ref bk), none, none] ∧
            Kb bk Hd H' ∧ H' bk = some (DO P w bk kvb) ∧ (∀ i' x, ns[i']? = some x → i' < j → valV kvb (.text (lv ns l' x)) = some (.str x)) ∧ kvb.length ≤ j) ⟨z7, [], rfl, Kb.put, upd_same, (fun i' x _ h => absurd h (Nat.not_lt_zero _)), Nat.zero_le _⟩ (fun j σ H' _ ⟨_, _, _, kq, _⟩ => SqT.fx ((bx.fx Kd).trans (fx_same (Kb.same_new kq nbk))) hn) ?_ ?_⟩
        · rintro j y σ He hx ⟨z7', kvb, rfl, kq, hbk, vv, lk2⟩
          obtain ⟨x, gx, rfl⟩ := map_get hx
          have sde := Kb.same_new kq nbk
          have hj := (List.getElem?_eq_some_iff.mp gx).1
          refine ⟨_, rfl, _, rfl, _, rfl, _, rfl, tb, kvs4, .text x, .str (lv ns l' x), rfl, sde _ _ htb4', rfl, tv4 x (List.mem_of_getElem? gx), bk, kvb, .text (lv ns l' x), rfl, hbk, rfl, by omega, some (.str x), putK kvb (.text (lv ns l' x)) (.str x), rfl, kq.trans Kb.put, upd_same, fun i' x' hx2 hlt => ?_, by have := length_putK kvb (.text (lv ns l' x)) (.str x); omega⟩
          rw [valV_put]
          by_cases ei : i' = j
          · subst ei
            rw [gx] at hx2
            cases hx2
            rw [if_pos rfl]
          · rw [if_neg (fun e => ei (lv_inj nd0 lN ll' hx2 gx (by injection e)))]
            exact vv i' x' hx2 (by omega)
        rintro σ He ⟨z7', kvb, rfl, kq, hbk, vv, lk2⟩
        rw [List.length_map] at vv lk2
        have sde := Kb.same_new kq nbk
        have Ke := Kd.trans (Kb.of_same sde)
        have bxe := Bx.same bxd sde
        have bl := back_perm (ns := ns) lN ll'.symm
        have bvv : ∀ x ∈ srtN l', valV kvb (.text x) = some (.str (ns.getD (l'.idxOf x) Str.empty)) := fun x hx => by
          have xl : x ∈ l' := (srtN_perm l').mem_iff.mp hx
          have il : l'.idxOf x < l'.length := List.idxOf_lt_length_iff.mpr xl
          have gy : ns[l'.idxOf x]? = some (ns[l'.idxOf x]'(by omega)) := List.getElem?_eq_getElem (by omega)
          have e1 := lv_get nd0 ll' gy
          rw [idx_get xl] at e1
          have e2 : x = lv ns l' (ns[l'.idxOf x]'(by omega)) := Option.some.inj e1
          have v2 := vv _ _ gy (by omega)
          rw [← e2] at v2
          rw [v2, List.getD_eq_getElem?_getD, gy]
          rfl
        have ebk : (srtN l').map (fun x => ns.getD (l'.idxOf x) Str.empty) = backN ns l' := by
          unfold backN ordN
          rw [List.map_map]
          rfl
        refine ⟨_, rfl, _, rfl, .ref st, bk, srtN l', srt (rs.map (permR (ordN l'))), kvb, rfl, SysAt.same sytd sde, NOt, ROt, hbk, for_good (fun x => ns.getD (l'.idxOf x) Str.empty) ebk bvv (fun x hx => N.ok x (bl.mem_iff.mp hx)) (bl.nodup_iff.mpr nd0) fun Hf vb sf syb => ?_⟩
        rw [back_srt N.up lN ll'.symm, back_rows N.up lN ll'.symm RS] at syb
        have Kf := Ke.trans (Kb.of_same sf)
        obtain ⟨sb2, dxb, vnb, vrb, rfl, hsb, dnb, drb, nodb⟩ := id syb
        have syf := hsy.fx (bx.fx Kf)
        have hsf := (bx.fx Kf) _ _ rfl hs
        refine ⟨_, rfl, ⟨sb2, sa, dxb, dx, _, _, rfl, rfl, hsb, hsf, ns, rs, syb, syf, N.ok⟩, fun Hg sg => ⟨true, rfl, iteF ?_⟩⟩
        have sdg := (sde.trans sf).trans sg
        have Kg := Kf.trans (Kb.of_same sg)
        have bxg := Bx.same (Bx.same bxe sf) sg
        have hng := SqT.fx (bx.fx Kg) hn
        refine ⟨_, rfl, _, rfl, b, an, ns.map V.str, rfl, bxg, fun H' kb => .inr (SqT.fx (bxg.fx kb) hng), by rw [List.length_map]; omega, by rw [List.length_map]; omega, fun Hh kh vh kbh bxh hkh => ?_⟩
        obtain ⟨x1, g1, rfl⟩ := map_get hkh
        have Kh := Kg.trans kbh
        refine ⟨_, rfl, _, rfl, b, an, ns.map V.str, rfl, bxh, fun H' kb => .inr (SqT.fx (bxh.fx kb) (SqT.fx (bx.fx Kh) hn)), by rw [List.length_map]; omega, by rw [List.length_map]; omega, fun Hi ki vi kbi bxi hki => ?_⟩
        obtain ⟨x2, g2, rfl⟩ := map_get hki
        have Ki := Kh.trans kbi
        have m1 := List.mem_of_getElem? g1
        have m2 := List.mem_of_getElem? g2
        refine ⟨_, _, rfl, ?_⟩
        have htbi := kbi _ _ ntbb (kbh _ _ ntbb (sdg _ _ htb4'))
        refine ⟨_, rfl, tb, kvs4, rfl, htbi, fun sp nsp => ?_⟩
        have nspb := Bx.ne bxi nsp
        have nspH : H sp = none := by
          cases e : H sp with
          | none => rfl
          | some o =>
            rw [Ki _ _ nspb e] at nsp
            cases nsp
        have Kj := Ki.trans (Kb.of_same (same_new (o := DO P w sp kvs4) nsp))
        have bxj := Bx.same bxi (same_new (o := DO P w sp kvs4) nsp)
        refine ⟨_, rfl, b, rfl, bxj, fun Hk vk dk kbk bxk odk okk => ?_⟩
        have hspk : Hk sp = some (DO P w sp kvs4) := kbk _ _ nspb upd_same
        refine ⟨_, rfl, _, rfl, sp, kvs4, .text x1, rfl, hspk, rfl, by omega, ?_⟩
        have nts : tb ≠ sp := fun e => by
          rw [← e, htbi] at nsp
          cases nsp
        have htbl : upd Hk sp (DO P w sp (putK kvs4 (.text x1) vk)) tb = some (DO P w tb kvs4) := by
          rw [upd_ne nts]
          exact kbk _ _ ntbb (same_new nsp _ _ htbi)
        have Kl : Kb b H (upd Hk sp (DO P w sp (putK kvs4 (.text x1) vk))) := fun a o ne e => by
          rw [upd_ne (fun z => by rw [z, nspH] at e; cases e)]
          exact kbk _ _ ne (Kj a o ne e)
        have bxl : Bx (upd Hk sp (DO P w sp (putK kvs4 (.text x1) vk))) b := by
          obtain ⟨x, y, z, hb⟩ := bxk
          exact ⟨x, y, z, by rw [upd_ne (Ne.symm nspb)]; exact hb⟩
        have fxk : Fx Hk (upd Hk sp (DO P w sp (putK kvs4 (.text x1) vk))) := Fx.upd fun u e => by
          rw [hspk] at e
          unfold DO at e
          cases e
          rfl
        have avl : Av K (upd Hk sp (DO P w sp (putK kvs4 (.text x1) vk))) vk dk := by
          rcases odk.1 with ⟨t, h⟩ | ⟨ed, a, xs, ev, h⟩ | ⟨ed, a, xs, ev, h⟩
          · exact .inl ⟨t, Dp.fx fxk t h⟩
          · exact .inr (.inl ⟨ed, a, xs, ev, by
              rw [upd_ne (fun z => by
                rw [z, hspk] at h
                unfold DO at h
                cases h)]
              exact h⟩)
          · exact .inr (.inr ⟨ed, a, xs, ev, by
              rw [upd_ne (fun z => by
                rw [z, hspk] at h
                unfold DO at h
                cases h)]
              exact h⟩)
        have hTl := tabs_kb hT bx Kl
        have lvok : ∀ x ∈ ns, nameB (lv ns l' x) = true := fun x hx => lok _ (lv_mem nd0 ll' hx)
        have fxl := bx.fx Kl
        have neq1 : ∀ x ∈ ns, valV (putK kvs4 (.text x1) vk) (.text x) = some (if x = x1 then vk else .str (lv ns l' x)) := fun x hx => by
          rw [valV_put]
          by_cases e : x = x1
          · rw [if_pos (by rw [e]), if_pos e]
          · rw [if_neg (fun z => e (by injection z)), if_neg e]
            exact tv4 x hx
        refine ⟨hTl, fun Ha20 ea20 Ta20 => ⟨CR, "names", "refused", .inl ⟨rfl, rfl⟩, fun Qn => ⟨_, rfl, _, rfl, .ref sa, sp, ns, rs, putK kvs4 (.text x1) vk, rfl, hsy.fx (fxl.trans (ext_fx ea20)), N, RS, ea20 _ _ upd_same (fun _ z => by unfold DO at z; cases z), for_odd (lv ns l') m1 neq1 lvok (avl.ext ea20) (fun z e => oddOk_str (e ▸ okk)) (oddOk_name okk) (fun Hb20 dd20 sb20 nb20 => ⟨rfl, dd20, rfl, upd_same, fun pa20 npa20 => ?_⟩)⟩⟩⟩
        refine ⟨(by show 2 ≤ sizeLine; decide), fun pb20 npb20 => ?_⟩
        have sc20 := ((sb20.trans (same_new (o := wd "names") nb20)).trans (same_new (o := .tup [.str "refused", .str "names"]) npa20)).trans (same_new (o := .tup [.str "refused", .str "names"]) npb20)
        refine ⟨dRefused "names", dRefused "names", .tup (SqT.of (same_new npb20 _ _ upd_same)) (.cons (.str _) (.cons (.str _) .nil)), .tup (SqT.of upd_same) (.cons (.str _) (.cons (.str _) .nil)), by decide +kernel, by decide +kernel, false, by decide +kernel, iteF ?_⟩
        have e20 := ea20.trans (ext_same sc20)
        have T20 := tabs_same Ta20 sc20
        have hsp20 := e20 _ _ (upd_same (a := sp)) (fun _ z => by unfold DO at z; cases z)
        have htb20 := e20 _ _ htbl (fun _ z => by unfold DO at z; cases z)
        have lk5 := length_putK kvs4 (.text x1) vk
        refine ⟨_, rfl, _, rfl, tb, kvs4, .text x2, .str (lv ns l' x2), rfl, htb20, rfl, tv4 x2 m2, _, rfl, _, rfl, sp, putK kvs4 (.text x1) vk, .text x1, rfl, hsp20, rfl, by omega, ?_⟩
        have T21 := tabs_put (kvs2 := putK (putK kvs4 (.text x1) vk) (.text x1) (.str (lv ns l' x2))) T20 hsp20
        have neq2 : ∀ x ∈ ns, valV (putK (putK kvs4 (.text x1) vk) (.text x1) (.str (lv ns l' x2))) (.text x) = some (.str (if x = x1 then lv ns l' x2 else lv ns l' x)) := fun x hx => by
          rw [valV_put]
          by_cases e : x = x1
          · rw [if_pos (by rw [e]), if_pos e]
          · rw [if_neg (fun z => e (by injection z)), if_neg e, neq1 x hx, if_neg e]
        have lvok2 : ∀ x ∈ ns, nameB (if x = x1 then lv ns l' x2 else lv ns l' x) = true := fun x hx => by
          split
          · exact lvok x2 m2
          · exact lvok x hx
        have hLi := kbi _ _ nLb2 (kbh _ _ nLb2 (sdg _ _ hLd))
        have nLsp : L ≠ sp := fun e => by
          rw [← e, hLi] at nsp
          cases nsp
        have fxdl := ((((fx_same sdg).trans (bxg.fx kbh)).trans (bxh.fx kbi)).trans (fx_same (same_new (o := DO P w sp kvs4) nsp))).trans ((bxj.fx kbk).trans fxk)
        have hLl : upd Hk sp (DO P w sp (putK kvs4 (.text x1) vk)) L = some (.lst ys) := by
          rw [upd_ne nLsp]
          exact kbk _ _ nLb2 (same_new nsp _ _ hLi)
        have ne_tbl : ∀ {a : Addr} {k : List (Leaf × V)} (ps : Array Value), DO P w a k ≠ .tbl ps := fun {a k} ps z => by
          unfold DO at z
          cases z
        have hL20 := e20 _ _ hLl (fun _ z => by cases z)
        have upd_fx : ∀ {Hx : Hp} {a : Addr} {k k2 : List (Leaf × V)}, Hx a = some (DO P w a k) → Fx Hx (upd Hx a (DO P w a k2)) := fun {Hx a k k2} h => Fx.upd fun u e => by
          rw [h] at e
          unfold DO at e
          cases e
          rfl
        have fx21 := (ext_fx e20).trans (upd_fx (k2 := putK (putK kvs4 (.text x1) vk) (.text x1) (.str (lv ns l' x2))) hsp20)
        have hL21 := (upd_ne (o := DO P w sp (putK (putK kvs4 (.text x1) vk) (.text x1) (.str (lv ns l' x2)))) nLsp).trans hL20
        have htb21 := (upd_ne (o := DO P w sp (putK (putK kvs4 (.text x1) vk) (.text x1) (.str (lv ns l' x2)))) nts).trans htb20
        have bx20 := Bx.ext bxl e20
        have bx21 : Bx (upd (upd (upd (upd Hb20 dd20 (wd "names")) pa20 (.tup [.str "refused", .str "names"])) pb20 (.tup [.str "refused", .str "names"])) sp (DO P w sp (putK (putK kvs4 (.text x1) vk) (.text x1) (.str (lv ns l' x2))))) b := by
          obtain ⟨x, y, z, hb⟩ := bx20
          exact ⟨x, y, z, (upd_ne (Ne.symm nspb)).trans hb⟩
        by_cases x12 : x1 = x2
        case' pos =>
          refine ⟨_, rfl, _, rfl, rfl, false, congrArg V.bl (by rw [x12]; simp), iteF (iteF ?_)⟩
          have fxz := fx21
          have hLz := hL21
          have htbz := htb21
          have bxz := bx21
          have Tz := T21
          obtain ⟨kz, ekz⟩ : ∃ k, k = putK (putK kvs4 (.text x1) vk) (.text x1) (.str (lv ns l' x2)) := ⟨_, rfl⟩
          have hspz : upd (upd (upd (upd Hb20 dd20 (wd "names")) pa20 (.tup [.str "refused", .str "names"])) pb20 (.tup [.str "refused", .str "names"])) sp (DO P w sp (putK (putK kvs4 (.text x1) vk) (.text x1) (.str (lv ns l' x2)))) sp = some (DO P w sp kz) := by
            rw [ekz]
            exact upd_same
        case' neg =>
          have ki12 : kh ≠ ki := fun e => x12 (by
            rw [e, g2] at g1
            exact (Option.some.inj g1).symm)
          refine ⟨_, rfl, _, rfl, rfl, true, congrArg V.bl (by simp [x12]), iteT ?_⟩
          refine ⟨T21, fun Ha22 ea22 Ta22 => ⟨CR, "names", "refused", .inl ⟨rfl, rfl⟩, fun Qn => ⟨_, rfl, _, rfl, .ref sa, sp, ns, rs, putK (putK kvs4 (.text x1) vk) (.text x1) (.str (lv ns l' x2)), rfl, hsy.fx ((fxl.trans fx21).trans (ext_fx ea22)), N, RS, ea22 _ _ upd_same (fun _ z => by unfold DO at z; cases z), for_twice (fun x => if x = x1 then lv ns l' x2 else lv ns l' x) g1 g2 ki12 (by rw [if_pos rfl, if_neg (Ne.symm x12)]) neq2 lvok2 (fun Hb22 dd22 sb22 nb22 => ⟨rfl, dd22, rfl, upd_same, fun pa22 npa22 => ?_⟩)⟩⟩⟩
          refine ⟨(by show 2 ≤ sizeLine; decide), fun pb22 npb22 => ?_⟩
          have sc22 := ((sb22.trans (same_new (o := wd "names") nb22)).trans (same_new (o := .tup [.str "refused", .str "names"]) npa22)).trans (same_new (o := .tup [.str "refused", .str "names"]) npb22)
          refine ⟨dRefused "names", dRefused "names", .tup (SqT.of (same_new npb22 _ _ upd_same)) (.cons (.str _) (.cons (.str _) .nil)), .tup (SqT.of upd_same) (.cons (.str _) (.cons (.str _) .nil)), by decide +kernel, by decide +kernel, false, by decide +kernel, iteF ?_⟩
          have e22 := ea22.trans (ext_same sc22)
          have T22 := tabs_same Ta22 sc22
          have fxz := fx21.trans (ext_fx e22)
          have hLz := e22 _ _ hL21 (fun _ z => by cases z)
          have htbz := e22 _ _ htb21 ne_tbl
          have bxz := Bx.ext bx21 e22
          have Tz := T22
          obtain ⟨kz, ekz⟩ : ∃ k, k = putK (putK kvs4 (.text x1) vk) (.text x1) (.str (lv ns l' x2)) := ⟨_, rfl⟩
          have hspz := (e22 _ _ (upd_same (a := sp)) ne_tbl).trans (congrArg (fun k => some (DO P w sp k)) ekz.symm)
        all_goals
          have neqz : ∀ x ∈ ns, valV kz (.text x) = some (.str (if x = x1 then lv ns l' x2 else lv ns l' x)) := fun x hx => by
            rw [ekz]
            exact neq2 x hx
          refine ⟨_, rfl, sp, kz, rfl, hspz, _, rfl, kz, x1, _, hspz, rfl, neqz x1 m1, ?_⟩
          have Tp := tabs_put (kvs2 := dropK kz (.text x1)) Tz hspz
          have fxp := fxz.trans (upd_fx (k2 := dropK kz (.text x1)) hspz)
          have hLp := (upd_ne (o := DO P w sp (dropK kz (.text x1))) nLsp).trans hLz
          have htbp := (upd_ne (o := DO P w sp (dropK kz (.text x1))) nts).trans htbz
          have bxp := Bx.put (o := DO P w sp (dropK kz (.text x1))) bxz (Ne.symm nspb)
          refine ⟨Tp, fun Ha31 ea31 Ta31 => ⟨CR, "names", "refused", .inl ⟨rfl, rfl⟩, fun Qn => ⟨_, rfl, _, rfl, .ref sa, sp, ns, rs, dropK kz (.text x1), rfl, hsy.fx ((fxl.trans fxp).trans (ext_fx ea31)), N, RS, ea31 _ _ upd_same (fun _ z => by unfold DO at z; cases z), for_lack (y := x1) (lv ns l') m1 (by rw [valV_drop, if_pos rfl]) (fun x hx nx => by rw [valV_drop, if_neg (fun z => nx (by injection z)), neqz x hx, if_neg nx]) lvok (fun Hb31 dd31 sb31 nb31 => ⟨rfl, dd31, rfl, upd_same, fun pa31 npa31 => ?_⟩)⟩⟩⟩
          refine ⟨(by show 2 ≤ sizeLine; decide), fun pb31 npb31 => ?_⟩
          have sc31 := ((sb31.trans (same_new (o := wd "names") nb31)).trans (same_new (o := .tup [.str "refused", .str "names"]) npa31)).trans (same_new (o := .tup [.str "refused", .str "names"]) npb31)
          refine ⟨dRefused "names", dRefused "names", .tup (SqT.of (same_new npb31 _ _ upd_same)) (.cons (.str _) (.cons (.str _) .nil)), .tup (SqT.of upd_same) (.cons (.str _) (.cons (.str _) .nil)), by decide +kernel, by decide +kernel, false, by decide +kernel, iteF ?_⟩
          have e31 := ea31.trans (ext_same sc31)
          have T31 := tabs_same Ta31 sc31
          have htb31 := e31 _ _ htbp ne_tbl
          have hL31 := e31 _ _ hLp (fun _ z => by cases z)
          have bx31 := Bx.ext bxp e31
          refine ⟨_, rfl, tb, kvs4, rfl, htb31, _, rfl, kvs4, x2, _, htb31, rfl, tv4 x2 m2, ?_⟩
          have T32 := tabs_put (kvs2 := dropK kvs4 (.text x2)) T31 htb31
          have fx32 := (fxp.trans (ext_fx e31)).trans (upd_fx (k2 := dropK kvs4 (.text x2)) htb31)
          have nLtb : L ≠ tb := fun e => by
            rw [← e, hL31] at htb31
            unfold DO at htb31
            cases htb31
          have hL32 := (upd_ne (o := DO P w tb (dropK kvs4 (.text x2))) nLtb).trans hL31
          have bx32 := Bx.put (o := DO P w tb (dropK kvs4 (.text x2))) bx31 (Ne.symm ntbb)
          have fxw := fxdl.trans fx32
          have hst2 := fxw _ _ rfl (scd _ _ hst)
          have dnt2 := Dp.fx fxw (tup_N _) (Dp.same scd dnt)
          have drt2 := Dp.fx fxw (tup_Rs _) (Dp.same scd drt)
          have hys2 := DpAll.fx fxw (tup_Rl _) hysd
          have hnw2 := SqT.fx fxw hnwd
          have bdt : ∀ r ∈ srt (rs.map (permR (ordN l'))), BdL 100000000000 (ents r) := fun r hr x hx => by
            obtain ⟨r0, hr0, rfl⟩ := List.mem_map.mp ((srt_perm _).mem_iff.mp hr)
            refine bdr r0 hr0 x ?_
            rcases List.mem_append.mp hx with h | h
            · exact List.mem_append_left _ ((perm_perm lN (by rw [(RSl.ok r0 hr0).len])).mem_iff.mp h)
            · exact List.mem_append_right _ h
          obtain ⟨w1, w2, w3, w4⟩ := rows_show ROt (by omega) bdt
          refine ⟨_, rfl, st, C, dxt, _, _, rfl, hst2, S.ins.cl, S.nN, sysF_names _ _, _, rfl, encN (srtN l'), encN (srtN l'), dnt2, Dp.N_of hnw2, shaped_N NOt.ok, shaped_N NOt.ok, true, congrArg V.bl (eqv_N _), iteT ?_⟩
          refine ⟨_, rfl, st, C, dxt, _, _, rfl, hst2, S.ins.cl, S.nR, sysF_rows _ _, atr, encRs (srt (rs.map (permR (ordN l')))), rfl, drt2, w1, w2, w3, w4, ?_⟩
          refine ⟨_, rfl, _, ys, rs.map (permR (ordN l')), rfl, SqL.of hL32, hys2, alike_Rs _, sortable_Rs _, fun b _ => by have := depth_R b; omega, by rw [List.length_map, sizeLine_eq]; omega, fun wse pe npe dwse => ?_⟩
          refine ⟨pe, wse, _, rfl, SqL.of upd_same, DpAll.same (same_new npe) dwse, fun vt3 Hz sz et3 ndt3 => ?_⟩
          obtain ⟨a3, u3, rfl, _, _⟩ := Dp.tup_inv (id et3)
          refine ⟨a3, encRs (srt (rs.map (permR (ordN l')))), rfl, et3, w1, w2, w3, w4, rfl, ?_⟩
          have se := (same_new (o := .lst wse) npe).trans sz
          rw [decide_eq_true rfl]
          exact q _ ((fxl.trans fx32).trans (fx_same se)) (Bx.same bx32 se) (tabs_same T32 se)
end
end K5
end

section
set_option Elab.async false
set_option linter.all false
set_option maxRecDepth 100000
set_option maxHeartbeats 4000000
/-! The law. -/
namespace K5
open PySem PySem.Spec PyProof.Rows L2
section
variable {P : Program} {w : World} {K : PySem.W.Frag} {mg : Str → Option Value} {base : Heap} {C fI fE CR fR CN fN c1 P1 c2 P2 : Addr}
/-- the script: never written -/
def SqF (K : PySem.W.Frag) (H : Hp) (a : Addr) (xs : List V) : Prop := (∃ o, H a = some (.frz o (.lst xs))) ∨ ∀ H', SqL K H' a xs
theorem SqF.sq {H : Hp} {a : Addr} {xs : List V} (h : SqF K H a xs) : SqL K H a xs := by
  rcases h with ⟨o, h⟩ | h
  · exact .inl (.inr ⟨o, h⟩)
  · exact h H
theorem SqF.fx {H H' : Hp} {a : Addr} {xs : List V} (h : SqF K H a xs) (x : Fx H H') : SqF K H' a xs := by
  rcases h with ⟨o, h⟩ | h
  · exact .inl ⟨o, x _ _ rfl h⟩
  · exact .inr h
def spLaw (K : PySem.W.Frag) (P1 P2 : Addr) : Sp := fun vs H Q _ => ∃ (a : Addr) (ns : List Int), vs = [.ref a] ∧ SqF K H a (ns.map V.int) ∧ LamX.Tabs (TT2 P1 P2) H ∧ ∀ H', Q (.bl true) H'
theorem sp_turned_ok {H : Hp} {Q : VK} {E : XK} {v : V} {ns : List Str} {rs : List Row} {i : Nat} {x : Str} (sy : SysAt K C H v ns rs) (N : NamesOk ns) (RO : RowsOk ns.length rs) (g : ns[i]? = some x) (q : ∀ H1 v1, Same H H1 → SysAt K C H1 v1 ns (srt (rs.map (turnR i))) → Q v1 H1) :
    spTurned K C CR [v, .str x] H Q E :=
  ⟨v, .str x, ns, rs, .str x, rfl, sy, N, RO, .inl ⟨rfl, .str x⟩, fun y e => by injection e with e; rw [← e]; exact nameB_len (N.ok x (List.mem_of_getElem? g)), .inr ⟨i, x, g, rfl, q⟩⟩
theorem sp_scaled_ok {H : Hp} {Q : VK} {E : XK} {v fv : V} {ns : List Str} {rs : List Row} {i : Nat} {x : Str} {t u : Int} (sy : SysAt K C H v ns rs) (N : NamesOk ns) (RO : RowsOk ns.length rs) (bd : ∀ r ∈ rs, BdL 1000000 (ents r)) (g : ns[i]? = some x) (df : Dp K H fv (encF (t, u))) (pf : posF (encF (t, u)) = true) (ht : t ≤ 100) (hu : u ≤ 100)
    (q : ∀ H1 v1, Same H H1 → SysAt K C H1 v1 ns (srt (rs.map (scaleR i t u))) → Q v1 H1) : spScaled K C CR CN [v, .str x, fv] H Q E :=
  ⟨v, .str x, fv, ns, rs, .str x, encF (t, u), rfl, sy, N, RO, fun r hr y hy => bd r hr y (List.mem_append_left _ hy), .inl ⟨rfl, .str x⟩, fun y e => by injection e with e; rw [← e]; exact nameB_len (N.ok x (List.mem_of_getElem? g)), .inl ⟨tup_F _, df⟩, fun ds e => by cases e; show 2 ≤ sizeLine; decide, .inr ⟨i, x, g, rfl, .inr ⟨t, u, rfl, pf, ht, hu, q⟩⟩⟩
theorem natAbs_div {x : Int} {g : Nat} : (x / (g : Int)).natAbs ≤ x.natAbs := Int.natAbs_ediv_le_natAbs x _
theorem bd_least {m : Nat} {r : Row} (h : BdL m (ents r)) : BdL m (ents (least r)) := fun x hx => by
  rcases List.mem_append.mp hx with hx | hx
  · obtain ⟨y, hy, rfl⟩ := List.mem_map.mp hx
    exact Nat.le_trans natAbs_div (h y (List.mem_append_left _ hy))
  · rw [List.mem_singleton.mp hx]
    exact Nat.le_trans natAbs_div (h r.2 (List.mem_append_right _ List.mem_cons_self))
theorem bd_scale {m i : Nat} {t u : Int} {r : Row} (h : BdL m (ents r)) (ht : t.natAbs ≤ 100) (hu : u.natAbs ≤ 100) : BdL (m * 100) (ents (scaleR i t u r)) := bd_least fun x hx => by
  rcases List.mem_append.mp hx with hx | hx
  · exact scale_bd (i := i) (fun y hy => h y (List.mem_append_left _ hy)) ht hu x hx
  · rw [List.mem_singleton.mp hx]
    show (r.2 * u).natAbs ≤ _
    rw [Int.natAbs_mul]
    exact Nat.mul_le_mul (h r.2 (List.mem_append_right _ List.mem_cons_self)) hu
theorem bd_turn {m i : Nat} {r : Row} (h : BdL m (ents r)) : BdL m (ents (turnR i r)) := fun x hx => by
  rcases List.mem_append.mp hx with hx | hx
  · obtain ⟨k, hk, rfl⟩ := List.mem_mapIdx.mp hx
    have := h _ (List.mem_append_left _ (List.getElem_mem hk))
    rw [Int.natAbs_mul]
    unfold wT
    split <;> simp <;> exact this
  · rw [List.mem_singleton.mp hx, turn_snd]
    exact h r.2 (List.mem_append_right _ List.mem_cons_self)
theorem bd_srt {m k : Nat} {rs : List Row} {f : Row → Row} (h : ∀ r ∈ rs, BdL m (ents r)) (hf : ∀ r, BdL m (ents r) → BdL k (ents (f r))) : ∀ r ∈ srt (rs.map f), BdL k (ents r) := fun r hr => by
  obtain ⟨x, hx, rfl⟩ := List.mem_map.mp ((srt_perm _).mem_iff.mp hr)
  exact hf x (h x hx)
theorem bd_mono {m k : Nat} {c : List Int} (h : BdL m c) (l : m ≤ k) : BdL k c := fun x hx => Nat.le_trans (h x hx) l
theorem scale_neg {n i : Nat} {r : Row} (h : RowOk n r) : scaleR i (0 - 1) 1 r = turnR i r := least_self (turn_one i h.one)
theorem get_set {ps : List (Int × Int)} {i j : Nat} {f p q : Int × Int} (h1 : ps[j]? = some p) (h2 : (ps.set i f)[j]? = some q) : (j = i ∧ q = f) ∨ (j ≠ i ∧ q = p) := by
  rw [List.getElem?_set] at h2
  have hj := (List.getElem?_eq_some_iff.mp h1).1
  by_cases e : i = j
  · subst e
    rw [if_pos rfl, if_pos hj] at h2
    exact .inl ⟨rfl, (Option.some.inj h2).symm⟩
  · rw [if_neg e, h1] at h2
    exact .inr ⟨fun z => e z.symm, (Option.some.inj h2).symm⟩
theorem mem_set_pos {ps : List (Int × Int)} {i : Nat} {f : Int × Int} {M : Int × Int → Prop} (h : ∀ p ∈ ps, M p) (hf : M f) : ∀ p ∈ ps.set i f, M p := fun p hp => by
  rcases List.mem_or_eq_of_mem_set hp with h1 | h1
  · exact h p h1
  · rw [h1]
    exact hf
/-- a point moved with the scaling is kept by as many rows -/
theorem kept_scaled {n i : Nat} {rs : List Row} {ps : List (Int × Int)} {t u p0 q0 : Int} (RO : RowsOk n rs) (hn : ps.length = n) (hi : ps[i]? = some (p0, q0)) (hp : ∀ p ∈ ps, 0 < p.2) (ht : 0 < t) (hu : 0 < u) :
    (srt (rs.map (scaleR i t u))).countP (fun r => kept r (ps.set i (fr (p0 * u) (q0 * t)))) = rs.countP fun r => kept r ps := by
  have q0' := hp _ (List.mem_of_getElem? hi)
  have yp : 0 < q0 * t := Int.mul_pos q0' ht
  rw [(srt_perm _).countP_eq, List.countP_map]
  refine List.countP_congr fun r hr => ?_
  have ok := RO.ok r hr
  have e := kept_is (ps := ps) (qs := ps.set i (fr (p0 * u) (q0 * t))) (scale_is i ht hu ok) ok.len (scale_ok i ht hu ok).len hu (by rw [List.length_set]) hp (mem_set_pos hp (fr_pos2 yp)) (fun j p q h1 h2 => ?_)
  · show kept (scaleR i t u r) _ = true ↔ _
    rw [e]
  · rcases get_set h1 h2 with ⟨ej, eq⟩ | ⟨nj, eq⟩
    · subst ej
      subst eq
      rw [hi] at h1
      have ep := Option.some.inj h1
      subst ep
      obtain ⟨m1, m2⟩ := fr_mul (x := p0 * u) (y := q0 * t)
      have gp := fg_pos (x := p0 * u) yp
      have g0 : ((fg (p0 * u) (q0 * t) : Nat) : Int) ≠ 0 := by omega
      refine Int.eq_of_mul_eq_mul_left g0 ?_
      unfold wS
      rw [if_pos rfl]
      show (fg (p0 * u) (q0 * t) : Int) * (t * (fr (p0 * u) (q0 * t)).1 * q0) = (fg (p0 * u) (q0 * t) : Int) * (u * p0 * (fr (p0 * u) (q0 * t)).2)
      grind
    · subst eq
      unfold wS
      rw [if_neg nj]
theorem kept_turned {n i : Nat} {rs : List Row} {ps : List (Int × Int)} {p0 q0 : Int} (RO : RowsOk n rs) (hn : ps.length = n) (hi : ps[i]? = some (p0, q0)) (hp : ∀ p ∈ ps, 0 < p.2) :
    (srt (rs.map (turnR i))).countP (fun r => kept r (ps.set i (0 - p0, q0))) = rs.countP fun r => kept r ps := by
  rw [(srt_perm _).countP_eq, List.countP_map]
  refine List.countP_congr fun r hr => ?_
  have ok := RO.ok r hr
  have e := kept_is (ps := ps) (qs := ps.set i (0 - p0, q0)) (turn_is i ok.one) ok.len (turn_ok i ok).len (by decide) (by rw [List.length_set]) hp (mem_set_pos hp (show 0 < q0 from hp (p0, q0) (List.mem_of_getElem? hi))) (fun j p q h1 h2 => ?_)
  · show kept (turnR i r) _ = true ↔ _
    rw [e]
  · rcases get_set h1 h2 with ⟨ej, eq⟩ | ⟨nj, eq⟩
    · subst ej
      subst eq
      rw [hi] at h1
      have ep := Option.some.inj h1
      subst ep
      unfold wT
      rw [if_pos rfl]
      show -1 * (0 - p0) * q0 = 1 * p0 * q0
      grind
    · subst eq
      unfold wT
      rw [if_neg nj]
/-- what every step keeps -/
def Ct (P1 P2 : Addr) (b : Addr) (Ha H : Hp) : Prop := Fx Ha H ∧ Bx H b ∧ LamX.Tabs (TT2 P1 P2) H
theorem Ct.same {b : Addr} {Ha H H' : Hp} (c : Ct P1 P2 b Ha H) (s : Same H H') : Ct P1 P2 b Ha H' := ⟨c.1.trans (fx_same s), Bx.same c.2.1 s, tabs_same c.2.2 s⟩
theorem Ct.kb {b : Addr} {Ha H H' : Hp} (c : Ct P1 P2 b Ha H) (k : Kb b H H') (x : Bx H' b) : Ct P1 P2 b Ha H' := ⟨c.1.trans (c.2.1.fx k), x, tabs_kb c.2.2 c.2.1 k⟩
theorem tup_Fl (ps : List (Int × Int)) : tupDs (ps.map encF) = true := tupDs_all fun d hd => by
  obtain ⟨x, _, rfl⟩ := List.mem_map.mp hd
  exact tup_F x
theorem at_nx {E : Ends} {σ σ' : L2.St} {H : Hp} (e : σ = σ') (h : E.nx σ' H) : E.nx σ H := e ▸ h
abbrev lN : List Str := ["_law_script", "_law_k", "_law_box_here", "_law_names_here", "_law_system", "_law_rows_here", "_law_at", "_law_name", "_law_point", "_law_top", "_law_bottom", "_law_c", "_law_d", "_law_less", "_law_more", "_law_whole", "_law_moved", "_law_back", "_law_both", "_law_other"]
theorem scLaw : FnScope lN ["_law_script"] (defScope sLaw) := ⟨rfl, rfl, rfl, by decide +kernel, rfl, by decide +kernel, by decide +kernel⟩
theorem ok_law (B : Bl mg) (S : SysT K mg C fI fE) (D : Def K mg "law" sLaw ["_law_script"]) (OB : Ok P w K mg base CX0 1 "_law_box" sBox ["_law_script", "_law_k"] (spBox K)) (OT : Ok P w K mg base CX0 1 "_law_take" sTake ["_law_box_here", "_law_many"] spTake)
    (OP : Ok P w K mg base CX0 2 "_law_pick" sPick ["_law_box_here", "_law_some"] (spPick K)) (ON : Ok P w K mg base CX0 3 "_law_names" sLNames ["_law_box_here", "_law_many"] (spLNames K)) (OL : Ok P w K mg base CX0 2 "_law_least" sLLeast ["_law_coefficients", "_law_bound"] (spLLeast K))
    (OR : Ok P w K mg base CX0 3 "_law_rows" sLRows ["_law_box_here", "_law_size"] (spLRows K)) (OF : Ok P w K mg base CX0 3 "_law_fraction" sLFrac ["_law_box_here", "_law_least_here"] (spFrac K)) (OK : Ok P w K mg base CX0 1 "_law_kept" sLKept ["_law_rows_here", "_law_point"] (spKept K))
    (OU : Ok P w K mg base CX0 1 "_law_put" sLPut ["_law_some", "_law_at", "_law_value"] (spLPut K)) (OS : Ok P w K mg base CX0 3 "_law_scaled" sLScaled ["_law_rows_here", "_law_at", "_law_top", "_law_bottom"] (spLScaled K))
    (GT : Ok P w K mg base (L2.CX P w) 7 "turned" sTurned ["system", "name"] (spTurned K C CR)) (GS : Ok P w K mg base (L2.CX P w) 7 "scaled" sScaled ["system", "name", "factor"] (spScaled K C CR CN))
    (ORen : OkG P w K mg base 11 "_law_renamed_right" sLRen ["_law_box_here", "_law_system", "_law_others"] (spRen K C P1 P2)) (ORef : OkG P w K mg base 11 "_law_refused_right" sLRef ["_law_box_here", "_law_system", "_law_name"] (spRef K C P1 P2))
    (OC : Ok P w K mg base CX0 4 "check_system" sChk ["names", "rows"] (spChk K)) :
    OkG P w K mg base 12 "law" sLaw ["_law_script"] (spLaw K P1 P2) := by
  obtain ⟨f, fd, gf, F, bF⟩ := D
  obtain ⟨fT, fdT, gT, FT, bT, RT⟩ := GT
  have GT : Ok P w K mg base (L2.CX P w) 7 "turned" sTurned ["system", "name"] (spTurned K C CR) := ⟨fT, fdT, gT, FT, bT, RT⟩
  obtain ⟨fdI, FI, bI⟩ := S.fI
  obtain ⟨fdE, FE, bE⟩ := S.fE
  have GE : FnOk P w K mg base CX0 1 fE fdE ["self", "other"] (spEq (SysEq K C)) := ok_sysE B S FE
  have kb2 : KBinds K fdT ["system", "name"] ["name", "system"] rev2 rev2 := kb_of FT (fun kV doc pm an cdv ct us ws hl => match us, ws, hl with | [], [_, _], _ => rfl) rev2_rel
  refine ⟨f, fd, gf, F, bF, Fun.okG F scLaw (fun vs H Q E h => ?_) (fun cdv A outer s H vs Q E hg hcode hr h => ?_)⟩
  · obtain ⟨a, ns, rfl, _⟩ := h
    rfl
  · obtain ⟨a, script, rfl, hsq, hT, q⟩ := h
    have h1 := hr.mono (show 1 ≤ 11 by decide)
    have h2 := hr.mono (show 2 ≤ 11 by decide)
    have h3 := hr.mono (show 3 ≤ 11 by decide)
    have h6 := hr.mono (show 6 ≤ 11 by decide)
    have h7 := hr.mono (show 7 ≤ 11 by decide)
    refine ⟨_, pss_cons (ps_for PassesOwn.never rfl (pi_range1 rfl B.range (pa_cons (pe_op op_add pe_int (pe_t (f := "int") call_int1 B.int b_int (pa_cons (pe_cmpR op_gt (pe_b (f := "len") call_len_seq B.len b_len (pa_cons (pv 0) pa_nil)) pe_int (nomark _)) pa_nil))) pa_nil)) (pg_name (i := 1) scLaw.nd rfl (.inl rfl))
      (pss_cons (ps_set (i := 2) scLaw.nd rfl (Or.inr rfl) (pe_c OB h1 (pa_cons (pv 0) (pa_cons (pv 1) pa_nil))))
      (pss_cons (ps_set (i := 3) scLaw.nd rfl (Or.inl rfl) (pe_c ON h3 (pa_cons (pv 2) (pa_cons (pe_op op_add pe_int (pe_c OT h1 (pa_cons (pv 2) (pa_cons pe_int pa_nil)))) pa_nil))))
      (pss_cons (ps_set (i := 4) scLaw.nd rfl (Or.inl rfl) (pe_make S.maker (ok_sysI S FI OC) h6 rfl S.mgC bI .nil pass0 (pa_cons (pv 3) (pa_cons (pe_c OR h3 (pa_cons (pv 2) (pa_cons (pe_b (f := "len") call_len_seq B.len b_len (pa_cons (pv 3) pa_nil)) pa_nil))) pa_nil))))
      (pss_cons (ps_par (i := 5) (j := 6) rfl scLaw.nd rfl rfl (by decide) rfl rfl (pa_cons (pe_fld (pv 4) rfl) (pa_cons (pe_c OT h1 (pa_cons (pv 2) (pa_cons (pe_b (f := "len") call_len_seq B.len b_len (pa_cons (pv 3) pa_nil)) pa_nil))) pa_nil)) (by rfl))
      (pss_cons (ps_set (i := 8) scLaw.nd rfl (Or.inl rfl) (pe_t (f := "tuple") call_tupD B.tuple b_tuple (pa_cons (pe_lc (own := [("_law_name", 7)]) (g := gName 7) (tt := tYes) rfl scLaw.nd (pi_tup (pv 3)) (blkOk_by (N := lN) (sc := defScope sLaw) (by decide +kernel))
          (fun _ _ _ _ _ => pg_name (i := 7) scLaw.nd rfl (.inl rfl)) (fun _ _ _ _ _ => pts_nil) (fun _ _ _ _ _ => pe_c OF h3 (pa_cons (pv 2) (pa_cons (pe_op op_sub pe_int pe_int) pa_nil)))) pa_nil)))
      (pss_cons (ps_asg (pe_tup (pa_cons (pe_c OF h3 (pa_cons (pv 2) (pa_cons pe_int pa_nil))) (pa_cons (pe_c OF h3 (pa_cons (pv 2) (pa_cons pe_int pa_nil))) pa_nil))) (pg_tup rfl (pgs_cons (pg_tup rfl (pgs_cons (pg_name (i := 9) scLaw.nd rfl (.inl rfl)) (pgs_cons (pg_name (i := 10) scLaw.nd rfl (.inl rfl)) pgs_nil))) (pgs_cons (pg_tup rfl (pgs_cons (pg_name (i := 11) scLaw.nd rfl (.inl rfl)) (pgs_cons (pg_name (i := 12) scLaw.nd rfl (.inl rfl)) pgs_nil))) pgs_nil))))
      (pss_cons (ps_par (i := 13) (j := 14) rfl scLaw.nd rfl rfl (by decide) rfl rfl (pa_cons (pe_cN GT h7 (pa_cons (pv 4) (pa_cons (pe_ix (r := rIxT K) ix_tup (pv 3) (pv 6) (fun _ _ => rfl)) pa_nil))) (pa_cons (pe_cN GS h7 (pa_cons (pv 4) (pa_cons (pe_ix (r := rIxT K) ix_tup (pv 3) (pv 6) (fun _ _ => rfl)) (pa_cons (pe_tup (pa_cons (pv 9) (pa_cons (pv 10) pa_nil))) pa_nil)))) pa_nil)) (by rfl))
      (pss_cons (ps_if (PW.pt (pw_or (pt_cmpR (op_neD hr.units) (pe_fld (pv 13) rfl) (pv 3) (nomark _)) (pw_or (pt_cmpR (op_neD hr.units) (pe_fld (pv 13) rfl) (pe_c OS h3 (pa_cons (pv 5) (pa_cons (pv 6) (pa_cons (pe_op op_sub pe_int pe_int) (pa_cons pe_int pa_nil))))) (nomark _))
          (pw_or1 (pt_not (pt_val (pe_b (f := "isinstance") (C8.call_isC S.ins) B.isi b_isi (pa_cons (pv 13) (pa_cons (pe_glob (v := .ref C) rfl S.mgC rfl) pa_nil))))))))) (pss_one (ps_ret pe_bl)) pss_nil)
      (pss_cons (ps_if (PW.pt (pw_or (pt_cmpR (op_neD hr.units) (pe_fld (pv 14) rfl) (pv 3) (nomark _)) (pw_or (pt_cmpR (op_neD hr.units) (pe_fld (pv 14) rfl) (pe_c OS h3 (pa_cons (pv 5) (pa_cons (pv 6) (pa_cons (pv 9) (pa_cons (pv 10) pa_nil))))) (nomark _))
          (pw_or1 (pt_cmpR op_ne (pe_b (f := "repr") (call_reprD hg hr.units) B.repr b_repr (pa_cons (pe_fld (pv 14) rfl) pa_nil)) (pe_b (f := "repr") (call_reprD hg hr.units) B.repr b_repr (pa_cons (pe_c OS h3 (pa_cons (pv 5) (pa_cons (pv 6) (pa_cons (pv 9) (pa_cons (pv 10) pa_nil))))) pa_nil)) (nomark _)))))) (pss_one (ps_ret pe_bl)) pss_nil)
      (pss_cons (ps_set (i := 15) scLaw.nd rfl (Or.inl rfl) (pe_c OL h2 (pa_cons (pe_lst (pa_cons (pe_op op_mul (pe_ix (r := rIxT K) ix_tup (pe_ix (r := rIxT K) ix_tup (pv 8) (pv 6) (fun _ _ => rfl)) pe_int (fun _ _ => rfl)) (pv 10)) pa_nil)) (pa_cons (pe_op op_mul (pe_ix (r := rIxT K) ix_tup (pe_ix (r := rIxT K) ix_tup (pv 8) (pv 6) (fun _ _ => rfl)) pe_int (fun _ _ => rfl)) (pv 9)) pa_nil))))
      (pss_cons (ps_par (i := 16) (j := 17) rfl scLaw.nd rfl rfl (by decide) rfl rfl (pa_cons (pe_c OU h1 (pa_cons (pv 8) (pa_cons (pv 6) (pa_cons (pe_tup (pa_cons (pe_ix (r := rIxT K) ix_tup (pe_ix (r := rIxT K) ix_tup (pv 15) pe_int (fun _ _ => rfl)) pe_int (fun _ _ => rfl)) (pa_cons (pe_ix (r := rIxT K) ix_tup (pv 15) pe_int (fun _ _ => rfl)) pa_nil))) pa_nil))))
          (pa_cons (pe_c OU h1 (pa_cons (pv 8) (pa_cons (pv 6) (pa_cons (pe_tup (pa_cons (pe_op op_sub pe_int (pe_ix (r := rIxT K) ix_tup (pe_ix (r := rIxT K) ix_tup (pv 8) (pv 6) (fun _ _ => rfl)) pe_int (fun _ _ => rfl))) (pa_cons (pe_ix (r := rIxT K) ix_tup (pe_ix (r := rIxT K) ix_tup (pv 8) (pv 6) (fun _ _ => rfl)) pe_int (fun _ _ => rfl)) pa_nil))) pa_nil)))) pa_nil)) (by rfl))
      (pss_cons (ps_if (PW.pt (pw_or (pt_cmpR op_ne (pe_c OK h1 (pa_cons (pe_fld (pv 14) rfl) (pa_cons (pv 16) pa_nil))) (pe_c OK h1 (pa_cons (pv 5) (pa_cons (pv 8) pa_nil))) (nomark _)) (pw_or1 (pt_cmpR op_ne (pe_c OK h1 (pa_cons (pe_fld (pv 13) rfl) (pa_cons (pv 17) pa_nil))) (pe_c OK h1 (pa_cons (pv 5) (pa_cons (pv 8) pa_nil))) (nomark _))))) (pss_one (ps_ret pe_bl)) pss_nil)
      (pss_cons (ps_if (PW.pt (pw_or (pt_not (pt_cmpR (op_eqG (rcG_ins GE S.eq.at_ S.eq.fn bE pass0) h1) (pe_c0K RT h7 gT FT.kp kb2 passL (pk_cons (pe_ix (r := rIxT K) ix_tup (pv 3) (pv 6) (fun _ _ => rfl)) (pk_cons (pv 13) pk_nil))) (pv 4) (nomark _)))
          (pw_or1 (pt_not (pt_cmpR (op_eqG (rcG_ins GE S.eq.at_ S.eq.fn bE pass0) h1) (pe_cN GS h7 (pa_cons (pv 14) (pa_cons (pe_ix (r := rIxT K) ix_tup (pv 3) (pv 6) (fun _ _ => rfl)) (pa_cons (pe_tup (pa_cons (pv 10) (pa_cons (pv 9) pa_nil))) pa_nil)))) (pv 4) (nomark _)))))) (pss_one (ps_ret pe_bl)) pss_nil)
      (pss_cons (ps_set (i := 18) scLaw.nd rfl (Or.inl rfl) (pe_c OL h2 (pa_cons (pe_lst (pa_cons (pe_op op_mul (pv 9) (pv 11)) pa_nil)) (pa_cons (pe_op op_mul (pv 10) (pv 12)) pa_nil))))
      (pss_cons (ps_if (pt_not (pt_cmpR (op_eqG (rcG_ins GE S.eq.at_ S.eq.fn bE pass0) h1) (pe_cN GS h7 (pa_cons (pv 14) (pa_cons (pe_ix (r := rIxT K) ix_tup (pv 3) (pv 6) (fun _ _ => rfl)) (pa_cons (pe_tup (pa_cons (pv 11) (pa_cons (pv 12) pa_nil))) pa_nil))))
          (pe_cN GS h7 (pa_cons (pv 4) (pa_cons (pe_ix (r := rIxT K) ix_tup (pv 3) (pv 6) (fun _ _ => rfl)) (pa_cons (pe_tup (pa_cons (pe_ix (r := rIxT K) ix_tup (pe_ix (r := rIxT K) ix_tup (pv 18) pe_int (fun _ _ => rfl)) pe_int (fun _ _ => rfl)) (pa_cons (pe_ix (r := rIxT K) ix_tup (pv 18) pe_int (fun _ _ => rfl)) pa_nil))) pa_nil)))) rfl)) (pss_one (ps_ret pe_bl)) pss_nil)
      (pss_cons (ps_if (pt_not (pt_cmpR (op_eqG (rcG_ins GE S.eq.at_ S.eq.fn bE pass0) h1) (pe_cN GT h7 (pa_cons (pv 14) (pa_cons (pe_ix (r := rIxT K) ix_tup (pv 3) (pv 6) (fun _ _ => rfl)) pa_nil)))
          (pe_cN GS h7 (pa_cons (pv 13) (pa_cons (pe_ix (r := rIxT K) ix_tup (pv 3) (pv 6) (fun _ _ => rfl)) (pa_cons (pe_tup (pa_cons (pv 9) (pa_cons (pv 10) pa_nil))) pa_nil)))) rfl)) (pss_one (ps_ret pe_bl)) pss_nil)
      (pss_cons (ps_set (i := 19) scLaw.nd rfl (Or.inl rfl) (pe_c OP h2 (pa_cons (pv 2) (pa_cons (pv 3) pa_nil))))
      (pss_cons (ps_if (pt_not (pt_cmpR (op_eqG (rcG_ins GE S.eq.at_ S.eq.fn bE pass0) h1) (pe_cN GT h7 (pa_cons (pe_cN GS h7 (pa_cons (pv 14) (pa_cons (pv 19) (pa_cons (pe_tup (pa_cons (pv 11) (pa_cons (pv 12) pa_nil))) pa_nil)))) (pa_cons (pv 19) pa_nil)))
          (pe_cN GS h7 (pa_cons (pe_cN GS h7 (pa_cons (pe_cN GT h7 (pa_cons (pv 4) (pa_cons (pv 19) pa_nil))) (pa_cons (pv 19) (pa_cons (pe_tup (pa_cons (pv 11) (pa_cons (pv 12) pa_nil))) pa_nil)))) (pa_cons (pe_ix (r := rIxT K) ix_tup (pv 3) (pv 6) (fun _ _ => rfl)) (pa_cons (pe_tup (pa_cons (pv 9) (pa_cons (pv 10) pa_nil))) pa_nil)))) rfl)) (pss_one (ps_ret pe_bl)) pss_nil)
      (pss_cons (ps_if (PW.pt (pw_or (pt_not (pt_val (pe_cG ORen hg hr (pa_cons (pv 2) (pa_cons (pv 4) (pa_cons (pe_c ON h3 (pa_cons (pv 2) (pa_cons (pe_b (f := "len") call_len_seq B.len b_len (pa_cons (pv 3) pa_nil)) pa_nil))) pa_nil)))))) (pw_or1 (pt_not (pt_val (pe_cG ORef hg hr (pa_cons (pv 2) (pa_cons (pv 4) (pa_cons (pe_ix (r := rIxT K) ix_tup (pv 3) (pv 6) (fun _ _ => rfl)) pa_nil))))))))) (pss_one (ps_ret pe_bl)) pss_nil)
      (pss_cons (ps_if (PW.pt (pw_or (pt_cmpR (op_neD hr.units) (pe_fld (pv 4) rfl) (pv 3) (nomark _)) (pw_or (pt_cmpR (op_neD hr.units) (pe_fld (pv 4) rfl) (pv 5) (nomark _)) (pw_or1 (pt_not (pt_cmpR (op_eqG (rcG_ins GE S.eq.at_ S.eq.fn bE pass0) h1) (pv 4) (pe_make S.maker (ok_sysI S FI OC) h6 rfl S.mgC bI .nil pass0 (pa_cons (pv 3) (pa_cons (pe_t (f := "tuple") call_tupD B.tuple b_tuple (pa_cons (pe_t (f := "list") call_list_of B.list b_list (pa_cons (pv 5) pa_nil)) pa_nil)) pa_nil))) (nomark _))))))) (pss_one (ps_ret pe_bl)) pss_nil)
      (pss_one (ps_if (PW.pt (pw_or (pt_not (pt_cmpR (op_eqG (rcG_ins GE S.eq.at_ S.eq.fn bE pass0) h1) (pe_cN GS h7 (pa_cons (pv 4) (pa_cons (pe_ix (r := rIxT K) ix_tup (pv 3) (pv 6) (fun _ _ => rfl)) (pa_cons (pe_tup (pa_cons (pv 9) (pa_cons (pv 10) pa_nil))) pa_nil)))) (pv 14) (nomark _)))
          (pw_or1 (pt_not (pt_cmpR (op_eqG (rcG_ins GE S.eq.at_ S.eq.fn bE pass0) h1) (pe_cN GT h7 (pa_cons (pv 4) (pa_cons (pe_ix (r := rIxT K) ix_tup (pv 3) (pv 6) (fun _ _ => rfl)) pa_nil))) (pv 13) (nomark _)))))) (pss_one (ps_ret pe_bl)) pss_nil))
      )))))))))))))))))))) ) (pss_one (ps_ret pe_bl)), ?_⟩
    refine ⟨_, rfl, a, _, rfl, .inl hsq.sq, _, _, rfl, rfl, .inr ⟨_, rfl, ?_⟩⟩
    refine ⟨_, _, rfl, rfl, _, rfl, ?_, ?_, for_range (lo := 0) (fun i σ H' => ∃ z1 z2 z3 z4 z5 z6 z7 z8 z9 z10 z11 z12 z13 z14 z15 z16 z17 z18 z19, σ = [some (.ref a), z1, z2, z3, z4, z5, z6, z7, z8, z9, z10, z11, z12, z13, z14, z15, z16, z17, z18, z19] ∧ SqF K H' a (script.map V.int) ∧ LamX.Tabs (TT2 P1 P2) H')
      ⟨none, none, none, none, none, none, none, none, none, none, none, none, none, none, none, none, none, none, none, rfl, hsq, hT⟩ ?_ ?_⟩
    · split <;> decide
    · split <;> decide
    · rintro kk σ Ha hkk ⟨z1, z2, z3, z4, z5, z6, z7, z8, z9, z10, z11, z12, z13, z14, z15, z16, z17, z18, z19, rfl, hqa, hTa⟩
      have kk4 : kk < 4 := by
        revert hkk
        split <;> intro h <;> omega
      refine ⟨_, rfl, _, rfl, a, _, script, rfl, hqa.sq, by omega, by omega, fun H1 b s1 nb bx1 => ?_⟩
      have ct1 : Ct P1 P2 b Ha H1 := ⟨fx_same s1, bx1, tabs_same hTa s1⟩
      refine ⟨_, rfl, _, rfl, b, _, rfl, bx1, by decide, by decide, fun H2 k2 kb2 bx2 hk2 => ?_⟩
      have ct2 := ct1.kb kb2 bx2
      refine ⟨_, _, rfl, rfl, b, 1 + k2, rfl, bx2, by omega, by omega, fun H3 vn ns kb3 bx3 dn nod N hlen nq => ?_⟩
      have ct3 := ct2.kb kb3 bx3
      have n6 := N.six
      have n1 := N.one
      obtain ⟨an, rfl, hn3⟩ := Dp.N_inv (id dn)
      refine ⟨_, rfl, _, rfl, _, rfl, an, _, rfl, .inr hn3, b, ns.length, by rw [List.length_map]; rfl, bx3, n1, n6, fun H4 vr rs kb4 bx4 dr RO bdr => ?_⟩
      have ct4 := ct3.kb kb4 bx4
      have fx34 := bx3.fx kb4
      intro x dx2 nx ndx ne
      have s7 : Same H4 (upd (upd H4 dx2 (.own x)) x (.ins C dx2 [])) := (same_new ndx).trans (same_new (by rw [upd_ne (Ne.symm ne)]; exact nx))
      have dn4 := Dp.fx fx34 (tup_N _) dn
      refine ⟨x, dx2, .ref an, vr, ns, rs, rfl, upd_same, Dp.same s7 dn4, Dp.same s7 dr, N, RO, fun H5 kb5 h5 => ⟨rfl, ?_⟩⟩
      have nof : ∀ b o, H4 b = some o → H5 b = some o := fun b o e => kb5 b o (fun z => by rw [z, nx] at e; cases e) (s7 b o e)
      have ct5 := ct4.same nof
      have fx35 := fx34.trans (fx_same nof)
      have sy5 : SysAt K C H5 (.ref x) ns rs := ⟨x, dx2, .ref an, vr, rfl, h5, Dp.same nof dn4, Dp.same nof dr, NoD.fx nod fx35⟩
      have hn5 := SqT.fx fx35 hn3
      have dr5 := Dp.same nof dr
      have bx5 := ct5.2.1
      refine ⟨_, rfl, x, C, dx2, _, _, rfl, h5, S.ins.cl, S.nR, sysF_rows _ _, _, rfl, _, rfl, an, _, rfl, .inr hn5, b, _, rfl, bx5, by rw [List.length_map]; omega, by rw [List.length_map]; omega, fun H6 i kb6 bx6 hi6 => ?_⟩
      rw [List.length_map] at hi6
      have hi : i < ns.length := by omega
      refine ⟨_, _, rfl, ?_⟩
      have fx56 := bx5.fx kb6
      have ct6 := ct5.kb kb6 bx6
      have sy6 := sy5.fx fx56
      have hn6 := SqT.fx fx56 hn5
      have dr6 := Dp.fx fx56 (tup_Rs _) dr5
      -- the point
      refine ⟨_, rfl, an, rfl, ⟨_, hn6⟩, fun Dc nDc => ?_⟩
      have hCb := Bx.ne bx6 nDc
      refine lc_it (walk_tup (K := K) (a := an) (xs := ns.map V.str)) (fun j H' => ∃ (ys : List V) (ps : List (Int × Int)), Kb b H6 H' ∧ Bx H' b ∧ H' Dc = some (.lst ys) ∧ ys.length = j ∧ ps.length = j ∧ DpAll K H' ys (ps.map encF) ∧ (∀ p ∈ ps, 0 < p.2 ∧ p.2 ≤ 9 ∧ p.1.natAbs ≤ 9)) ⟨[], [], Kb.of_same (same_new nDc), Bx.same bx6 (same_new nDc), upd_same, rfl, rfl, .nil, fun x hx => nomatch hx⟩ (fun j H' _ ⟨_, _, kb, _⟩ => SqT.fx (bx6.fx kb) hn6) ?_ ?_
      · intro j y Hb Hc hj ⟨ys, ps, kbb, bxb, hCc, lny, lnp, dall, bdp⟩ hY
        obtain ⟨rfl, hx⟩ := hY
        rw [List.length_map] at hj
        refine ⟨rfl, _, rfl, _, _, rfl, rfl, b, _, rfl, bxb, by decide, by decide, fun Hd v p q kbd bxd dv q0 q9 p9 _ => ?_⟩
        have hCd := kbd _ _ hCb hCc
        have fx : Fx Hd (upd Hd Dc (.lst (ys ++ [v]))) := Fx.upd fun u e => by
          rw [hCd] at e
          cases e
          rfl
        refine ⟨ys, hCd, by rw [lny, sizeLine_eq]; omega, ys ++ [v], ps ++ [(p, q)], ?_, ?_, upd_same, by rw [List.length_append, lny]; rfl, by rw [List.length_append, lnp]; rfl, ?_, ?_⟩
        · intro a o ne e
          rw [upd_ne (fun z => by rw [z, nDc] at e; cases e)]
          exact kbd _ _ ne (kbb a o ne e)
        · exact Bx.put bxd (Ne.symm hCb)
        · rw [List.map_append]
          exact DpAll.snoc (DpAll.fx fx (tup_Fl _) (DpAll.fx (bxb.fx kbd) (tup_Fl _) dall)) (Dp.fx fx (tup_F _) dv)
        · intro z hz
          rcases List.mem_append.mp hz with hz | hz
          · exact bdp z hz
          · rw [List.mem_singleton.mp hz]
            exact ⟨q0, q9, p9⟩
      intro H7 ⟨ys, ps, kb7, bx7, hD7, lny, lnp, dall7, bdp⟩
      rw [List.length_map] at lny lnp
      refine ⟨Dc, ys, _, rfl, SqL.of hD7, dall7, fun vp H8 s8 dp8 _ => ?_⟩
      have ct7 := ct6.kb kb7 bx7
      have ct8 := ct7.same s8
      have fx68 := (bx6.fx kb7).trans (fx_same s8)
      have sy8 := sy6.fx fx68
      have hn8 := SqT.fx fx68 hn6
      have dr8 := Dp.fx fx68 (tup_Rs _) dr6
      have bx8 := ct8.2.1
      refine at_nx (σ' := [some (.ref a), _, some (.ref b), some (.ref an), some (.ref x), some vr, some (.int (i : Nat)), _, some vp, _, _, _, _, _, _, _, _, _, _, _]) rfl ?_
      -- the two fractions
      refine ⟨_, rfl, b, _, rfl, bx8, by decide, by decide, fun H9 vtu t u kb9 bx9 dtu9 u0 u9 t9 ptu => ?_⟩
      have ct9 := ct8.kb kb9 bx9
      refine ⟨_, rfl, b, _, rfl, bx9, by decide, by decide, fun H10 vcd c d kb10 bx10 dcd10 d0 d9 c9 pcd => ?_⟩
      have ct10 := ct9.kb kb10 bx10
      have ptu := ptu rfl
      have pcd := pcd rfl
      obtain ⟨t0, _⟩ := posF_inv ptu
      obtain ⟨c0, _⟩ := posF_inv pcd
      have fx810 := (bx8.fx kb9).trans (bx9.fx kb10)
      have dtu10 := Dp.fx (bx9.fx kb10) (tup_F _) dtu9
      obtain ⟨atu, rfl, htu⟩ := Dp.F_inv (id dtu10)
      obtain ⟨acd, rfl, hcd⟩ := Dp.F_inv (id dcd10)
      refine ⟨(by show 2 ≤ sizeLine; decide), fun t11 nt11 => ?_⟩
      have s11 := same_new (o := .tup [.ref atu, .ref acd]) nt11
      have ct11 := ct10.same s11
      have fx811 := fx810.trans (fx_same s11)
      refine ⟨t11, _, rfl, SqT.of upd_same, rfl, _, _, rfl, ⟨atu, _, rfl, SqT.fx (fx_same s11) htu, rfl, _, _, rfl, _, _, rfl, rfl, _, _, rfl, acd, _, rfl, SqT.fx (fx_same s11) hcd, rfl, _, _, rfl, _, _, rfl, rfl, rfl, ?_⟩⟩
      have sy11 := sy8.fx fx811
      have hn11 := SqT.fx fx811 hn8
      have dr11 := Dp.fx fx811 (tup_Rs _) dr8
      have hps : tupD (.tuple (ps.map encF)) = true := by rw [tupD]; exact tup_Fl ps
      have dp11 := Dp.fx fx811 hps dp8
      have gx : ns[i]? = some ns[i] := List.getElem?_eq_getElem hi
      have gV : (ns.map V.str)[i]? = some (.str ns[i]) := by rw [List.getElem?_map, gx]; rfl
      refine at_nx (σ' := [some (.ref a), _, some (.ref b), some (.ref an), some (.ref x), some vr, some (.int (i : Nat)), _, some vp, some (.int t), some (.int u), some (.int c), some (.int d), _, _, _, _, _, _, _]) rfl ?_
      -- less and more
      refine ⟨_, rfl, _, rfl, _, rfl, an, _, _, _, rfl, rfl, hn11, at_of (j := i) rfl gV, sp_turned_ok sy11 N RO gx fun H12 vl s12 syl12 => ?_⟩
      have ct12 := ct11.same s12
      have sy12 := sy11.same s12
      have hn12 := SqT.fx (fx_same s12) hn11
      have dr12 := Dp.same s12 dr11
      have dp12 := Dp.same s12 dp11
      refine ⟨_, rfl, _, rfl, _, rfl, an, _, _, _, rfl, rfl, hn12, at_of (j := i) rfl gV, _, rfl, _, rfl, (by show 2 ≤ sizeLine; decide), fun t13 nt13 => ?_⟩
      have s13 := same_new (o := .tup [.int t, .int u]) nt13
      have bd6 : ∀ r ∈ rs, BdL 1000000 (ents r) := fun r hr => bd_mono (bdr r hr) (by decide)
      have bd6' : ∀ r ∈ rs, BdL 1000000 r.1 := fun r hr y hy => bd6 r hr y (List.mem_append_left _ hy)
      refine sp_scaled_ok (sy12.same s13) N RO bd6 gx (Dp.F_of (SqT.of upd_same)) ptu (by omega) (by omega) fun H14 vm s14' sym14 => ?_
      have s14 := s13.trans s14'
      refine ⟨_, _, rfl, ?_⟩
      have ct14 := ct12.same s14
      have sy14 := sy12.same s14
      have syl14 := syl12.same s14
      have hn14 := SqT.fx (fx_same s14) hn12
      have dr14 := Dp.same s14 dr12
      have dp14 := Dp.same s14 dp12
      obtain ⟨sl, dxl, vnl, vrl, rfl, hsl, dnl, drl, ndl⟩ := id syl14
      obtain ⟨sm, dxm, vnm, vrm, rfl, hsm, dnm, drm, ndm⟩ := id sym14
      have ROl : RowsOk ns.length (srt (rs.map (turnR i))) := srt_map_ok RO (fun r h => turn_ok i h) (fun r h => turn_turn i h)
      have ROm : RowsOk ns.length (srt (rs.map (scaleR i t u))) := srt_map_ok RO (fun r h => scale_ok i t0 u0 h) (fun r h => scale_back i t0 u0 h)
      have bdl : ∀ r ∈ srt (rs.map (turnR i)), BdL 1000000 (ents r) := bd_srt bd6 fun r h => bd_turn h
      have bdm : ∀ r ∈ srt (rs.map (scaleR i t u)), BdL 1000000 (ents r) := bd_srt bdr fun r h => bd_scale (m := 10000) h (by omega) (by omega)
      refine at_nx (σ' := [some (.ref a), _, some (.ref b), some (.ref an), some (.ref x), some vr, some (.int (i : Nat)), _, some vp, some (.int t), some (.int u), some (.int c), some (.int d), some (.ref sl), some (.ref sm), _, _, _, _, _]) rfl ?_
      -- less is right
      refine ⟨_, rfl, sl, C, dxl, _, _, rfl, hsl, S.ins.cl, S.nN, sysF_names _ _, _, rfl, encN ns, encN ns, dnl, Dp.N_of hn14, shaped_N N.ok, shaped_N N.ok, false, by rw [eqv_N]; rfl, iteF ?_⟩
      refine ⟨_, rfl, sl, C, dxl, _, _, rfl, hsl, S.ins.cl, S.nR, sysF_rows _ _, _, rfl, _, rfl, _, _, rfl, rfl, vr, rs, ns.length, i, 0 - 1, 1, rfl, dr14, RO, n6, hi, bd6', by decide, by decide, by decide, by decide, fun H15 v15 s15 d15 => ?_⟩
      rw [srt_map_congr RO (fun r h => scale_neg h)] at d15
      refine ⟨encRs (srt (rs.map (turnR i))), encRs (srt (rs.map (turnR i))), Dp.same s15 drl, d15, shaped_Rs _, shaped_Rs _, false, by rw [eqv_Rs]; rfl, iteF ?_⟩
      refine ⟨_, rfl, sl, dxl, _, rfl, s15 _ _ hsl, _, rfl, iteF ?_⟩
      -- more is right
      have f15 := fx_same s15
      refine ⟨_, rfl, sm, C, dxm, _, _, rfl, s15 _ _ hsm, S.ins.cl, S.nN, sysF_names _ _, _, rfl, encN ns, encN ns, Dp.same s15 dnm, Dp.N_of (SqT.fx f15 hn14), shaped_N N.ok, shaped_N N.ok, false, by rw [eqv_N]; rfl, iteF ?_⟩
      refine ⟨_, rfl, sm, C, dxm, _, _, rfl, s15 _ _ hsm, S.ins.cl, S.nR, sysF_rows _ _, _, rfl, _, rfl, _, rfl, _, rfl, vr, rs, ns.length, i, t, u, rfl, Dp.same s15 dr14, RO, n6, hi, bd6', by omega, by omega, u0, by omega, fun H16 v16 s16' d16 => ?_⟩
      have s16 := s15.trans s16'
      refine ⟨encRs (srt (rs.map (scaleR i t u))), encRs (srt (rs.map (scaleR i t u))), Dp.same s16 drm, d16, shaped_Rs _, shaped_Rs _, false, by rw [eqv_Rs]; rfl, iteF ?_⟩
      obtain ⟨w1, w2, w3, w4⟩ := rows_show ROm n6 (fun r hr => bd_mono (bdm r hr) (by decide))
      have drm16 := Dp.same s16 drm
      obtain ⟨am, um, rfl, _, _⟩ := Dp.tup_inv (id drm16)
      refine ⟨_, rfl, sm, C, dxm, _, _, rfl, s16 _ _ hsm, S.ins.cl, S.nR, sysF_rows _ _, am, encRs (srt (rs.map (scaleR i t u))), rfl, drm16, w1, w2, w3, w4, ?_⟩
      refine ⟨_, rfl, _, rfl, _, rfl, _, rfl, vr, rs, ns.length, i, t, u, rfl, Dp.same s16 dr14, RO, n6, hi, bd6', by omega, by omega, u0, by omega, fun H17 v17 s17' d17 => ?_⟩
      have s17 := s16.trans s17'
      obtain ⟨a17, u17, rfl, _, _⟩ := Dp.tup_inv (id d17)
      refine ⟨a17, encRs (srt (rs.map (scaleR i t u))), rfl, d17, w1, w2, w3, w4, rfl, false, congrArg V.bl (by simp), iteF ?_⟩
      have ct17 := ct14.same s17
      have f17 := fx_same s17
      have sy17 := sy14.same s17
      have syl17 := syl14.same s17
      have sym17 := sym14.same s17
      have hn17 := SqT.fx f17 hn14
      have dr17 := Dp.same s17 dr14
      have dp17 := Dp.same s17 dp14
      -- whole
      obtain ⟨ap, ws, rfl, hP17, hpa17⟩ := Dp.tup_inv (id dp17)
      have hwl := DpAll.length hpa17
      rw [List.length_map] at hwl
      have hpi : i < ps.length := by omega
      obtain ⟨p0, ep0⟩ : ∃ p0, ps[i] = p0 := ⟨_, rfl⟩
      have gp : ps[i]? = some p0 := by rw [List.getElem?_eq_getElem hpi, ep0]
      have gw : ws[i]? = some ws[i] := List.getElem?_eq_getElem (by omega)
      obtain ⟨e, ge, dwi⟩ := DpAll.get hpa17 gw
      rw [List.getElem?_map, gp] at ge
      have ee := (Option.some.inj ge).symm
      subst ee
      obtain ⟨q1, q2⟩ := p0
      obtain ⟨ai, eai, hsi⟩ := Dp.F_inv (id dwi)
      obtain ⟨wi, ewi⟩ : ∃ z, ws[i] = z := ⟨_, rfl⟩
      rw [ewi] at gw eai
      subst eai
      obtain ⟨b0, b9, a9⟩ := bdp _ (List.mem_of_getElem? gp)
      have m1 : (q1 * u).natAbs ≤ 9 * 9 := by
        rw [Int.natAbs_mul]
        exact Nat.mul_le_mul a9 (by omega)
      have m2 : (q2 * t).natAbs ≤ 9 * 9 := by
        rw [Int.natAbs_mul]
        exact Nat.mul_le_mul (show q2.natAbs ≤ 9 by omega) (by omega)
      have y0 : 0 < q2 * t := Int.mul_pos b0 t0
      refine ⟨_, rfl, _, rfl, ap, _, _, _, rfl, rfl, hP17, at_of (j := i) rfl gw, ai, _, _, _, rfl, rfl, hsi, at_of (j := 0) rfl rfl, _, rfl, _, _, rfl, rfl, .inr (by omega), (by show 1 ≤ sizeLine; decide), fun l18 nl18 => ?_⟩
      have s18 := s17.trans (same_new (o := .lst [.int (q1 * u)]) nl18)
      have s18' := same_new (o := .lst [.int (q1 * u)]) nl18
      refine ⟨_, rfl, _, rfl, ap, _, _, _, rfl, rfl, SqT.fx (fx_same s18') hP17, at_of (j := i) rfl gw, ai, _, _, _, rfl, rfl, SqT.fx (fx_same s18') hsi, at_of (j := 1) rfl rfl, _, rfl, _, _, rfl, rfl, .inr (by omega), ?_⟩
      refine ⟨l18, [q1 * u], q2 * t, rfl, SqL.of upd_same, Nat.le_of_ble_eq_true rfl, fg_pos y0, ?_, fun H19 v19 s19' d19 => ?_⟩
      · have := fg_le (x := q1 * u) y0
        have e2 : fg (q1 * u) (q2 * t) = gcdL (ents ([q1 * u], q2 * t)) := rfl
        rw [← e2]
        omega
      have s19 := s18'.trans s19'
      have ct19 := ct17.same s19
      have f19 := fx_same s19
      rw [fr_least] at d19
      obtain ⟨aw, vw1, rfl, hw, dw1⟩ := Dp.R_inv (id d19)
      obtain ⟨aw1, rfl, hw1⟩ := Dp.I_inv (id dw1)
      refine at_nx (σ' := [some (.ref a), _, some (.ref b), some (.ref an), some (.ref x), some vr, some (.int (i : Nat)), _, some (.ref ap), some (.int t), some (.int u), some (.int c), some (.int d), some (.ref sl), some (.ref sm), some (.ref aw), _, _, _, _]) rfl ?_
      have hP19 := SqT.fx f19 hP17
      have hsi19 := SqT.fx f19 hsi
      have dp19 := Dp.same s19 dp17
      have hlP : i < (ps.map encF).length := by rw [List.length_map]; exact hpi
      have hlM : (ps.map encF).length ≤ 1000 := by rw [List.length_map]; omega
      obtain ⟨fq, efq⟩ : ∃ fq, fr (q1 * u) (q2 * t) = fq := ⟨_, rfl⟩
      have fa := fr_abs (x := q1 * u) (y := q2 * t)
      have fp := fr_pos2 (x := q1 * u) y0
      refine ⟨_, rfl, _, rfl, _, rfl, aw, _, _, _, rfl, rfl, hw, at_of (j := 0) rfl rfl, aw1, _, _, _, rfl, rfl, hw1, at_of (j := 0) rfl rfl, _, rfl, aw, _, _, _, rfl, rfl, hw, at_of (j := 1) rfl rfl, (by show 2 ≤ sizeLine; decide), fun t20 nt20 => ?_⟩
      have s20' := same_new (o := .tup [.int (fr (q1 * u) (q2 * t)).1, .int (fr (q1 * u) (q2 * t)).2]) nt20
      refine ⟨_, .ref t20, ps.map encF, encF (fr (q1 * u) (q2 * t)), i, rfl, Dp.same s20' dp19, Dp.F_of (SqT.of upd_same), hlP, hlM, fun vmv H20 s20a dmv => ?_⟩
      rw [← List.map_set] at dmv
      have s20 := s20'.trans s20a
      have ct20 := ct19.same s20
      have f20 := fx_same s20
      refine ⟨_, rfl, _, rfl, _, rfl, _, rfl, ap, _, _, _, rfl, rfl, SqT.fx f20 hP19, at_of (j := i) rfl gw, ai, _, _, _, rfl, rfl, SqT.fx f20 hsi19, at_of (j := 0) rfl rfl, _, _, rfl, rfl, _, rfl, _, rfl, ap, _, _, _, rfl, rfl, SqT.fx f20 hP19, at_of (j := i) rfl gw, ai, _, _, _, rfl, rfl, SqT.fx f20 hsi19, at_of (j := 1) rfl rfl, (by show 2 ≤ sizeLine; decide), fun t21 nt21 => ?_⟩
      have s21' := same_new (o := .tup [.int (0 - q1), .int q2]) nt21
      refine ⟨_, .ref t21, ps.map encF, encF (0 - q1, q2), i, rfl, Dp.same s21' (Dp.same s20 dp19), Dp.F_of (SqT.of upd_same), hlP, hlM, fun vbk H21 s21a dbk => ?_⟩
      rw [← List.map_set] at dbk
      have s21 := s21'.trans s21a
      refine ⟨_, _, rfl, ?_⟩
      refine at_nx (σ' := [some (.ref a), _, some (.ref b), some (.ref an), some (.ref x), some vr, some (.int (i : Nat)), _, some (.ref ap), some (.int t), some (.int u), some (.int c), some (.int d), some (.ref sl), some (.ref sm), some (.ref aw), some vmv, some vbk, _, _]) rfl ?_
      have dmv21 := Dp.same s21 dmv
      have s1921 := s19.trans (s20.trans s21)
      have ct21 := ct17.same s1921
      have f21 := fx_same s1921
      have sy21 := sy17.same s1921
      have syl21 := syl17.same s1921
      have sym21 := sym17.same s1921
      have hn21 := SqT.fx f21 hn17
      have dr21 := Dp.same s1921 dr17
      have dp21 := Dp.same s1921 dp17
      have hsl21 := s1921 _ _ (s17 _ _ hsl)
      have hsm21 := s1921 _ _ (s17 _ _ hsm)
      have drl21 := Dp.same (s17.trans s1921) drl
      have drm21 := Dp.same (s17.trans s1921) drm
      have pp : ∀ p ∈ ps, 0 < p.2 := fun p hp => (bdp p hp).1
      have pb : ∀ p ∈ ps, p.1.natAbs ≤ 1000 ∧ p.2.natAbs ≤ 1000 := fun p hp => by
        obtain ⟨h1, h2, h3⟩ := bdp p hp
        omega
      have pb1 : ∀ p ∈ ps.set i (fr (q1 * u) (q2 * t)), p.1.natAbs ≤ 1000 ∧ p.2.natAbs ≤ 1000 := mem_set_pos pb (by omega)
      have pb2 : ∀ p ∈ ps.set i (0 - q1, q2), p.1.natAbs ≤ 1000 ∧ p.2.natAbs ≤ 1000 := mem_set_pos pb (show (0 - q1).natAbs ≤ 1000 ∧ q2.natAbs ≤ 1000 by omega)
      have rb : ∀ {qs : List (Int × Int)} {ss : List Row}, RowsOk ns.length ss → (∀ r ∈ ss, BdL 1000000 (ents r)) → qs.length = ps.length → ∀ r ∈ ss, r.1.length = qs.length ∧ BdL 1000000000 r.1 := fun {qs ss} R b l r hr =>
        ⟨by rw [(R.ok r hr).len, l, lnp], fun y hy => Nat.le_trans (b r hr y (List.mem_append_left _ hy)) (by decide)⟩
      have ls1 : (ps.set i (fr (q1 * u) (q2 * t))).length = ps.length := List.length_set
      have ls2 : (ps.set i (0 - q1, q2)).length = ps.length := List.length_set
      refine ⟨_, rfl, sm, C, dxm, _, _, rfl, hsm21, S.ins.cl, S.nR, sysF_rows _ _, _, rfl, _, _, srt (rs.map (scaleR i t u)), ps.set i (fr (q1 * u) (q2 * t)), rfl, drm21, dmv21, rb ROm bdm ls1, pb1, ROm.most, by omega, fun H22 s22 => ?_⟩
      refine ⟨_, rfl, _, rfl, _, _, rs, ps, rfl, Dp.same s22 dr21, Dp.same s22 dp21, rb RO bd6 rfl, pb, RO.most, by omega, fun H23 s23' => ?_⟩
      refine ⟨rfl, false, congrArg V.bl (by rw [kept_scaled RO lnp gp pp t0 u0]; simp), iteF ?_⟩
      have s23 := s22.trans s23'
      refine ⟨_, rfl, sl, C, dxl, _, _, rfl, s23 _ _ hsl21, S.ins.cl, S.nR, sysF_rows _ _, _, rfl, _, _, srt (rs.map (turnR i)), ps.set i (0 - q1, q2), rfl, Dp.same s23 drl21, Dp.same s23 dbk, rb ROl bdl ls2, pb2, ROl.most, by omega, fun H24 s24' => ?_⟩
      have s24 := s23.trans s24'
      refine ⟨_, rfl, _, rfl, _, _, rs, ps, rfl, Dp.same s24 dr21, Dp.same s24 dp21, rb RO bd6 rfl, pb, RO.most, by omega, fun H25 s25' => ?_⟩
      refine ⟨rfl, false, congrArg V.bl (by rw [kept_turned RO lnp gp pp]; simp), iteF ?_⟩
      have s25 := s24.trans s25'
      have ct25 := ct21.same s25
      have f25 := fx_same s25
      have sy25 := sy21.same s25
      have syl25 := syl21.same s25
      have sym25 := sym21.same s25
      have hn25 := SqT.fx f25 hn21
      have h525 : ∀ {H}, Fx H25 H → H x = some (.ins C dx2 (sysF (.ref an) vr)) := fun {H} z => (((((((fx56.trans fx68).trans fx811).trans (fx_same s12)).trans (fx_same s14)).trans (fx_same s17)).trans f21).trans f25).trans z _ _ rfl h5
      -- the ways back
      refine ⟨_, rfl, _, rfl, an, _, _, _, rfl, rfl, hn25, at_of (j := i) rfl gV, _, rfl, sp_turned_ok syl25 N ROl gx fun H26 v26 s26 sy26 => ?_⟩
      rw [srt_back RO fun r h => turn_turn i h] at sy26
      obtain ⟨s26a, dx26, _, _, rfl, hs26, _, _, _⟩ := id sy26
      refine ⟨_, rfl, ⟨s26a, x, dx26, dx2, _, _, rfl, rfl, hs26, h525 (fx_same s26), ns, rs, sy26, sy25.same s26, N.ok⟩, fun H27 s27' => ⟨true, rfl, iteF ?_⟩⟩
      have s27 := s26.trans s27'
      refine ⟨_, rfl, _, rfl, _, rfl, an, _, _, _, rfl, rfl, SqT.fx (fx_same s27) hn25, at_of (j := i) rfl gV, _, rfl, _, rfl, (by show 2 ≤ sizeLine; decide), fun t28 nt28 => ?_⟩
      have s28 := s27.trans (same_new (o := .tup [.int u, .int t]) nt28)
      refine sp_scaled_ok (sym25.same s28) N ROm bdm gx (Dp.F_of (SqT.of upd_same)) (posF_swap ptu) (by omega) (by omega) fun H29 v29 s29' sy29 => ?_
      have s29 := s28.trans s29'
      rw [srt_back RO fun r h => scale_back i t0 u0 h] at sy29
      obtain ⟨s29a, dx29, _, _, rfl, hs29, _, _, _⟩ := id sy29
      refine ⟨_, rfl, ⟨s29a, x, dx29, dx2, _, _, rfl, rfl, hs29, h525 (fx_same s29), ns, rs, sy29, sy25.same s29, N.ok⟩, fun H30 s30' => ⟨true, rfl, iteF ?_⟩⟩
      have s30 := s29.trans s30'
      -- both factors
      have m3 : (t * c).natAbs ≤ 9 * 9 := by
        rw [Int.natAbs_mul]
        exact Nat.mul_le_mul t9 c9
      have m4 : (u * d).natAbs ≤ 9 * 9 := by
        rw [Int.natAbs_mul]
        exact Nat.mul_le_mul (by omega) (by omega)
      have yd0 : 0 < u * d := Int.mul_pos u0 d0
      have xc0 : 0 < t * c := Int.mul_pos t0 c0
      refine ⟨_, rfl, _, rfl, _, _, rfl, rfl, .inr (by omega), (by show 1 ≤ sizeLine; decide), fun l31 nl31 => ?_⟩
      have s31 := s30.trans (same_new (o := .lst [.int (t * c)]) nl31)
      refine ⟨_, rfl, _, rfl, _, _, rfl, rfl, .inr (by omega), ?_⟩
      refine ⟨l31, [t * c], u * d, rfl, SqL.of upd_same, Nat.le_of_ble_eq_true rfl, fg_pos yd0, ?_, fun H32 v32 s32' d32 => ?_⟩
      · have := fg_le (x := t * c) yd0
        have e2 : fg (t * c) (u * d) = gcdL (ents ([t * c], u * d)) := rfl
        rw [← e2]
        omega
      have s32 := s31.trans s32'
      rw [fr_least] at d32
      obtain ⟨ab, vb1, rfl, hb32, db1⟩ := Dp.R_inv (id d32)
      obtain ⟨ab1, rfl, hb1⟩ := Dp.I_inv (id db1)
      have fb := fr_abs (x := t * c) (y := u * d)
      have fb2 := fr_pos2 (x := t * c) yd0
      have fb1 := fr_pos1 (x := t * c) yd0 xc0
      have fm := fr_mul (x := t * c) (y := u * d)
      have fgp := fg_pos (x := t * c) yd0
      refine at_nx (σ' := [some (.ref a), _, some (.ref b), some (.ref an), some (.ref x), some vr, some (.int (i : Nat)), _, some (.ref ap), some (.int t), some (.int u), some (.int c), some (.int d), some (.ref sl), some (.ref sm), some (.ref aw), some vmv, some vbk, some (.ref ab), _]) rfl ?_
      refine ⟨_, rfl, _, rfl, _, rfl, an, _, _, _, rfl, rfl, SqT.fx (fx_same s32) hn25, at_of (j := i) rfl gV, _, rfl, _, rfl, (by show 2 ≤ sizeLine; decide), fun t33 nt33 => ?_⟩
      have s33 := s32.trans (same_new (o := .tup [.int c, .int d]) nt33)
      have s33r := same_new (o := .tup [.int c, .int d]) nt33
      refine sp_scaled_ok (sym25.same s33) N ROm bdm gx (Dp.F_of (SqT.of upd_same)) pcd (by omega) (by omega) fun H34 v34 s34' sy34 => ?_
      have s34 := s33.trans s34'
      have f3234 := fx_same (s33r.trans s34')
      refine ⟨_, rfl, _, rfl, _, rfl, an, _, _, _, rfl, rfl, SqT.fx (fx_same s34) hn25, at_of (j := i) rfl gV, _, rfl, ab, _, _, _, rfl, rfl, SqT.fx f3234 hb32, at_of (j := 0) rfl rfl, ab1, _, _, _, rfl, rfl, SqT.fx f3234 hb1, at_of (j := 0) rfl rfl, _, rfl, ab, _, _, _, rfl, rfl, SqT.fx f3234 hb32, at_of (j := 1) rfl rfl, (by show 2 ≤ sizeLine; decide), fun t35 nt35 => ?_⟩
      have s35r := same_new (o := .tup [.int (fr (t * c) (u * d)).1, .int (fr (t * c) (u * d)).2]) nt35
      have s35 := s34.trans s35r
      refine sp_scaled_ok (t := (fr (t * c) (u * d)).1) (u := (fr (t * c) (u * d)).2) (sy25.same s35) N RO bd6 gx (Dp.F_of (SqT.of upd_same)) (fr_posF yd0 xc0) (by omega) (by omega) fun H36 v36 s36' sy36 => ?_
      have s36 := s35.trans s36'
      have sy34' := sy34.same (s35r.trans s36')
      rw [srt_map_map, srt_map_congr RO (fun r h => scale_scale i t0 u0 c0 d0 fb1 fb2 (by omega) fm.1 fm.2 h)] at sy34'
      obtain ⟨a34, dx34, _, _, rfl, hs34, _, _, _⟩ := id sy34'
      obtain ⟨a36, dx36, _, _, rfl, hs36, _, _, _⟩ := id sy36
      refine ⟨⟨a34, a36, dx34, dx36, _, _, rfl, rfl, hs34, hs36, ns, _, sy34', sy36, N.ok⟩, fun H37 s37' => ⟨true, rfl, iteF ?_⟩⟩
      have s37 := s36.trans s37'
      -- turned and scaled
      refine ⟨_, rfl, _, rfl, _, rfl, an, _, _, _, rfl, rfl, SqT.fx (fx_same s37) hn25, at_of (j := i) rfl gV, sp_turned_ok (sym25.same s37) N ROm gx fun H38 v38 s38' sy38 => ?_⟩
      have s38 := s37.trans s38'
      refine ⟨_, rfl, _, rfl, _, rfl, an, _, _, _, rfl, rfl, SqT.fx (fx_same s38) hn25, at_of (j := i) rfl gV, _, rfl, _, rfl, (by show 2 ≤ sizeLine; decide), fun t39 nt39 => ?_⟩
      have s39r := same_new (o := .tup [.int t, .int u]) nt39
      have s39 := s38.trans s39r
      refine sp_scaled_ok (syl25.same s39) N ROl bdl gx (Dp.F_of (SqT.of upd_same)) ptu (by omega) (by omega) fun H40 v40 s40' sy40 => ?_
      have s40 := s39.trans s40'
      have sy38' := sy38.same (s39r.trans s40')
      rw [srt_map_map, srt_map_congr RO (fun r h => turn_scale i t0 u0 h)] at sy38'
      rw [srt_map_map] at sy40
      obtain ⟨a38, dx38, _, _, rfl, hs38, _, _, _⟩ := id sy38'
      obtain ⟨a40, dx40, _, _, rfl, hs40, _, _, _⟩ := id sy40
      refine ⟨⟨a38, a40, dx38, dx40, _, _, rfl, rfl, hs38, hs40, ns, _, sy38', sy40, N.ok⟩, fun H41 s41' => ⟨true, rfl, iteF ?_⟩⟩
      have s41 := s40.trans s41'
      -- another name
      have ct41 := ct25.same s41
      have bx41 := ct41.2.1
      have hn41 := SqT.fx (fx_same s41) hn25
      refine ⟨_, rfl, _, rfl, b, an, ns.map V.str, rfl, bx41, fun H' kb => .inr (SqT.fx (bx41.fx kb) hn41), by rw [List.length_map]; omega, by rw [List.length_map]; omega, fun H42 k42 v42 kb42 bx42 hk42 => ?_⟩
      obtain ⟨yo, gy, rfl⟩ := map_get hk42
      have ct42 := ct41.kb kb42 bx42
      have fx42 := bx41.fx kb42
      have g42 := (fx_same s41).trans fx42
      have sy42 := sy25.fx g42
      have syl42 := syl25.fx g42
      have sym42 := sym25.fx g42
      have hn42 := SqT.fx g42 hn25
      refine at_nx (σ' := [some (.ref a), _, some (.ref b), some (.ref an), some (.ref x), some vr, some (.int (i : Nat)), _, some (.ref ap), some (.int t), some (.int u), some (.int c), some (.int d), some (.ref sl), some (.ref sm), some (.ref aw), some vmv, some vbk, some (.ref ab), some (.str yo)]) rfl ?_
      refine ⟨_, rfl, _, rfl, _, rfl, _, rfl, (by show 2 ≤ sizeLine; decide), fun t43 nt43 => ?_⟩
      have s43 := same_new (o := .tup [.int c, .int d]) nt43
      refine sp_scaled_ok (sym42.same s43) N ROm bdm gy (Dp.F_of (SqT.of upd_same)) pcd (by omega) (by omega) fun H44 v44 s44' sy44 => ?_
      have s44 := s43.trans s44'
      have ROmj : RowsOk ns.length (srt ((srt (rs.map (scaleR i t u))).map (scaleR k42 c d))) := srt_map_ok ROm (fun r h => scale_ok k42 c0 d0 h) (fun r h => scale_back k42 c0 d0 h)
      refine ⟨_, rfl, sp_turned_ok sy44 N ROmj gy fun H45 v45 s45' sy45 => ?_⟩
      have s45 := s44.trans s45'
      refine ⟨_, rfl, _, rfl, sp_turned_ok (sy42.same s45) N RO gy fun H46 v46 s46' sy46 => ?_⟩
      have s46 := s45.trans s46'
      have ROj : RowsOk ns.length (srt (rs.map (turnR k42))) := srt_map_ok RO (fun r h => turn_ok k42 h) (fun r h => turn_turn k42 h)
      have bdj : ∀ r ∈ srt (rs.map (turnR k42)), BdL 10000 (ents r) := bd_srt bdr fun r h => bd_turn h
      refine ⟨_, rfl, _, rfl, _, rfl, (by show 2 ≤ sizeLine; decide), fun t47 nt47 => ?_⟩
      have s47r := same_new (o := .tup [.int c, .int d]) nt47
      have s47 := s46.trans s47r
      refine sp_scaled_ok (sy46.same s47r) N ROj (fun r hr => bd_mono (bdj r hr) (by decide)) gy (Dp.F_of (SqT.of upd_same)) pcd (by omega) (by omega) fun H48 v48 s48' sy48 => ?_
      have s48 := s47.trans s48'
      have ROjj : RowsOk ns.length (srt ((srt (rs.map (turnR k42))).map (scaleR k42 c d))) := srt_map_ok ROj (fun r h => scale_ok k42 c0 d0 h) (fun r h => scale_back k42 c0 d0 h)
      have bdjj : ∀ r ∈ srt ((srt (rs.map (turnR k42))).map (scaleR k42 c d)), BdL 1000000 (ents r) := bd_srt bdj fun r h => bd_scale (m := 10000) h (by omega) (by omega)
      refine ⟨_, rfl, _, rfl, an, _, _, _, rfl, rfl, SqT.fx (fx_same s48) hn42, at_of (j := i) rfl gV, _, rfl, _, rfl, (by show 2 ≤ sizeLine; decide), fun t49 nt49 => ?_⟩
      have s49r := same_new (o := .tup [.int t, .int u]) nt49
      have s49 := s48.trans s49r
      refine sp_scaled_ok (sy48.same s49r) N ROjj bdjj gx (Dp.F_of (SqT.of upd_same)) ptu (by omega) (by omega) fun H50 v50 s50' sy50 => ?_
      have s50 := s49.trans s50'
      have sy45' := sy45.same (s46'.trans (s47r.trans (s48'.trans (s49r.trans s50'))))
      rw [srt_map_map, srt_map_map, srt_map_congr RO (fun r h => turn_scale_scale i k42 t0 u0 c0 d0 h)] at sy45'
      rw [srt_map_map, srt_map_map] at sy50
      obtain ⟨a45, dx45, _, _, rfl, hs45, _, _, _⟩ := id sy45'
      obtain ⟨a50, dx50, _, _, rfl, hs50, _, _, _⟩ := id sy50
      refine ⟨⟨a45, a50, dx45, dx50, _, _, rfl, rfl, hs45, hs50, ns, _, sy45', sy50, N.ok⟩, fun H51 s51' => ⟨true, rfl, iteF ?_⟩⟩
      have s51 := s50.trans s51'
      have ct51 := ct42.same s51
      -- renamed and refused
      have bx51 := ct51.2.1
      have f4251 := fx_same s51
      have sy51 := sy42.fx f4251
      have hn51 := SqT.fx f4251 hn42
      refine ⟨_, rfl, _, rfl, _, rfl, _, rfl, an, _, rfl, .inr hn51, b, ns.length, by rw [List.length_map]; rfl, bx51, n1, n6, fun H52 vo os kb52 bx52 do52 nodo No lo nqo => ?_⟩
      have ct52 := ct51.kb kb52 bx52
      have g52 := bx51.fx kb52
      refine ⟨b, .ref x, vo, ns, os, rs, rfl, bx52, sy51.fx g52, N, RO, (fun r hr => bd_mono (bdr r hr) (by decide)), nq, do52, No, lo, ct52.2.2, fun H53 f53 bx53 T53 => ?_⟩
      refine ⟨_, rfl, iteF ?_⟩
      have g53 := g52.trans f53
      refine ⟨_, rfl, _, rfl, _, rfl, _, rfl, an, _, _, _, rfl, rfl, SqT.fx g53 hn51, at_of (j := i) rfl gV, ?_⟩
      refine ⟨b, .ref x, ns[i], ns, rs, rfl, bx53, sy51.fx g53, N, RO, bd6', List.getElem_mem hi, nq, T53, fun H54 f54 bx54 T54 => ?_⟩
      refine ⟨_, rfl, iteF ?_⟩
      -- nothing is changed
      have ct54 : Ct P1 P2 b Ha H54 := ⟨ct52.1.trans (f53.trans f54), bx54, T54⟩
      have g54 := g53.trans f54
      have g2554 := (g42.trans f4251).trans g54
      have sy54 := sy51.fx g54
      have hn54 := SqT.fx g54 hn51
      have syl54 := syl25.fx g2554
      have sym54 := sym25.fx g2554
      have h54 := h525 g2554
      have dr54 := Dp.fx (((f21.trans f25).trans g2554)) (tup_Rs _) dr17
      refine ⟨_, rfl, x, C, dx2, _, _, rfl, h54, S.ins.cl, S.nN, sysF_names _ _, _, rfl, encN ns, encN ns, Dp.N_of hn54, Dp.N_of hn54, shaped_N N.ok, shaped_N N.ok, false, by rw [eqv_N]; rfl, iteF ?_⟩
      refine ⟨_, rfl, x, C, dx2, _, _, rfl, h54, S.ins.cl, S.nR, sysF_rows _ _, _, rfl, encRs rs, encRs rs, dr54, dr54, shaped_Rs _, shaped_Rs _, false, by rw [eqv_Rs]; rfl, iteF ?_⟩
      obtain ⟨avr, us, rfl, hR54, ha54⟩ := Dp.tup_inv (id dr54)
      refine ⟨_, rfl, _, rfl, _, rfl, avr, us, rfl, .inr hR54, fun l55 nl55 => ?_⟩
      have s55 := same_new (o := .lst us) nl55
      refine ⟨l55, us, _, rfl, SqL.of upd_same, DpAll.same s55 ha54, fun vt56 H56 s56' et56 _ => ?_⟩
      have s56 := s55.trans s56'
      intro x57 dx57 nx57 ndx57 ne57
      have s57 : Same H56 (upd (upd H56 dx57 (.own x57)) x57 (.ins C dx57 [])) := (same_new ndx57).trans (same_new (by rw [upd_ne (Ne.symm ne57)]; exact nx57))
      refine ⟨x57, dx57, .ref an, vt56, ns, rs, rfl, upd_same, Dp.same (s56.trans s57) (Dp.N_of hn54), Dp.same s57 et56, N, RO, fun H58 kb58 h58 => ⟨rfl, ?_⟩⟩
      have nof58 : ∀ b o, H56 b = some o → H58 b = some o := fun b o e => kb58 b o (fun z => by rw [z, nx57] at e; cases e) (s57 b o e)
      have s58 := s56.trans nof58
      have sy58 := sy54.same s58
      obtain ⟨_, _, _, _, ex58, _, _, _, nod58⟩ := id sy58
      have hx58 := s58 _ _ h54
      have syx58 : SysAt K C H58 (.ref x57) ns rs := ⟨x57, dx57, .ref an, vt56, rfl, h58, Dp.N_of (SqT.fx (fx_same s58) hn54), Dp.same nof58 et56, NoD.fx nod ((((((((fx35.trans fx56).trans fx68).trans fx811).trans (fx_same s12)).trans (fx_same s14)).trans ((fx_same s17).trans (f21.trans f25))).trans g2554).trans (fx_same s58))⟩
      refine ⟨⟨x, x57, dx2, dx57, _, _, rfl, rfl, hx58, h58, ns, rs, sy58, syx58, N.ok⟩, fun H59 s59' => ⟨true, rfl, iteF ?_⟩⟩
      have s59 := s58.trans s59'
      -- once more
      refine ⟨_, rfl, _, rfl, _, rfl, an, _, _, _, rfl, rfl, SqT.fx (fx_same s59) hn54, at_of (j := i) rfl gV, _, rfl, _, rfl, (by show 2 ≤ sizeLine; decide), fun t60 nt60 => ?_⟩
      have s60 := s59.trans (same_new (o := .tup [.int t, .int u]) nt60)
      refine sp_scaled_ok (sy54.same s60) N RO bd6 gx (Dp.F_of (SqT.of upd_same)) ptu (by omega) (by omega) fun H61 v61 s61' sy61 => ?_
      have s61 := s60.trans s61'
      obtain ⟨a61, dx61, _, _, rfl, hs61, _, _, _⟩ := id sy61
      refine ⟨_, rfl, ⟨a61, sm, dx61, dxm, _, _, rfl, rfl, hs61, ((f25.trans g2554).trans (fx_same s61)) _ _ rfl hsm21, ns, _, sy61, sym54.same s61, N.ok⟩, fun H62 s62' => ⟨true, rfl, iteF ?_⟩⟩
      have s62 := s61.trans s62'
      refine ⟨_, rfl, _, rfl, _, rfl, an, _, _, _, rfl, rfl, SqT.fx (fx_same s62) hn54, at_of (j := i) rfl gV, sp_turned_ok (sy54.same s62) N RO gx fun H63 v63 s63' sy63 => ?_⟩
      have s63 := s62.trans s63'
      obtain ⟨a63, dx63, _, _, rfl, hs63, _, _, _⟩ := id sy63
      refine ⟨_, rfl, ⟨a63, sl, dx63, dxl, _, _, rfl, rfl, hs63, ((f25.trans g2554).trans (fx_same s63)) _ _ rfl hsl21, ns, _, sy63, syl54.same s63, N.ok⟩, fun H64 s64' => ⟨true, rfl, iteF ?_⟩⟩
      have s64 := s63.trans s64'
      have ctz := ct54.same s64
      exact ⟨_, _, _, _, _, _, _, _, _, _, _, _, _, _, _, _, _, _, _, rfl, hqa.fx ctz.1, ctz.2.2⟩
    · rintro σ Ha ⟨z1, z2, z3, z4, z5, z6, z7, z8, z9, z10, z11, z12, z13, z14, z15, z16, z17, z18, z19, rfl, hqa, hTa⟩
      exact q _
end
end K5
end

section
set_option Elab.async false
set_option linter.all false
set_option maxRecDepth 100000
set_option maxHeartbeats 4000000
/-! The end: the law is called by the claim's own caller, which sets no guard. -/
namespace K5
open PySem PySem.Spec PyProof.Rows L2
section
variable {P : Program} {w : World} {K : PySem.W.Frag} {mg mb : Str → Option Value}
/-- the start: the tables, and the script where it is no object of K -/
def H0 (K : PySem.W.Frag) (a : Addr) (sc : HO) (ts : List Addr) : Hp := fun b => if b ∈ ts then some (.tbl #[]) else if b = a ∧ K.lookup a = none then some sc else none
theorem H0_tab {a : Addr} {sc : HO} {ts : List Addr} {b : Addr} (h : b ∈ ts) : H0 K a sc ts b = some (.tbl #[]) := if_pos h
theorem H0_kind {a : Addr} {sc : HO} {ts : List Addr} (b : Addr) : H0 K a sc ts b = none ∨ (b ∈ ts ∧ H0 K a sc ts b = some (.tbl #[])) ∨ (b = a ∧ K.lookup a = none ∧ H0 K a sc ts b = some sc) := by
  unfold H0
  by_cases h1 : b ∈ ts
  · exact .inr (.inl ⟨h1, if_pos h1⟩)
  · by_cases h2 : b = a ∧ K.lookup a = none
    · exact .inr (.inr ⟨h2.1, h2.2, by rw [if_neg h1, if_pos h2]⟩)
    · exact .inl (by rw [if_neg h1, if_neg h2])
theorem call_end {k : Nat} {fa a : Addr} {cs : List (Addr × Addr)} {fd : FuncData} {x : Str} {sp : Sp} {s : Shared} {vs : List Value} {ns : List Int}
    (inK : K.In s.heap) (gM : s.heap.Ns mainGlobals mg) (gB : s.heap.Ns builtinsNs mb) (gBb : ∀ y : Str, y ≠ "__name__" → mb y = bootBuiltins y) (lim : s.heap.NoLimit) (g0 : s.gens = #[])
    (eT : ∀ p ∈ cs, s.heap.get? p.2 = some { cls := .none, data := .fields #[] }) (oT : ∀ p ∈ cs, K.lookup p.2 = none) (cT : ∀ p ∈ cs, PySem.W.CodeHd s.heap p.1 p.2)
    (bM : ∃ (bm : Addr) (ob : Obj), mg "__builtins__" = some (.ref bm) ∧ bm ≠ builtinsNs ∧ s.heap.get? bm = some ob ∧ ob.cls = .type "module" ∧ ob.dict = some builtinsNs ∧ ob.data = .plain)
    (sA : s.heap.get? a = some { cls := .type "list", data := .seq vs.toArray }) (iA : IntsAre vs ns) (lA : ns.length ≤ sizeLine) (room : Room k callerA)
    (G : ∀ base : Heap, K.In base → base.Ns mainGlobals mg → (∀ p ∈ cs, LamX.TabB base mg p.1 p.2) → FnG P w K mg base k fa fd [x] sp) (bind : ∀ (s : Shared) (u : Value), BindsTo s fd ⟨[u], []⟩ [(x, u)])
    (law : ∀ H : Hp, (∀ p ∈ cs, H p.2 = some (.tbl #[])) → SqF K H a (ns.map V.int) → sp [.ref a] H (fun v _ => v = .bl true) fun _ _ _ => False) :
    codeAny (model P w) callerA (.call (.ref fa) ⟨[.ref a], []⟩) (fun r s' => r = .ok (.ret (.bool true)) ∧ OldK s.heap s'.heap ∧ s'.os = s.os ∧ AllBare s'.gens) s := by
  have vI := vals_ints iA
  have lV := iA.length
  obtain ⟨ts, ets⟩ : ∃ ts, cs.map (·.2) = ts := ⟨_, rfl⟩
  have inT : ∀ p ∈ cs, p.2 ∈ ts := fun p hp => by
    rw [← ets]
    exact List.mem_map.mpr ⟨p, hp, rfl⟩
  have ofT : ∀ b ∈ ts, ∃ p ∈ cs, p.2 = b := fun b hb => by
    rw [← ets] at hb
    exact List.mem_map.mp hb
  have isT : ∀ b ∈ ts, s.heap.get? b = some { cls := .none, data := .fields #[] } := fun b hb => by
    obtain ⟨p, hp, rfl⟩ := ofT b hb
    exact eT p hp
  obtain ⟨H, eH⟩ : ∃ H, H0 K a (.frz { cls := .type "list", data := .seq vs.toArray } (.lst (ns.map V.int))) ts = H := ⟨_, rfl⟩
  have kind : ∀ b, H b = none ∨ (b ∈ ts ∧ H b = some (.tbl #[])) ∨ (b = a ∧ K.lookup a = none ∧ H b = some (.frz { cls := .type "list", data := .seq vs.toArray } (.lst (ns.map V.int)))) := fun b => by
    rw [← eH]
    exact H0_kind b
  have tabs : ∀ p ∈ cs, H p.2 = some (.tbl #[]) := fun p hp => by
    rw [← eH]
    exact H0_tab (inT p hp)
  have aT : a ∉ ts := fun z => by
    have e := isT a z
    rw [sA] at e
    have e2 : Data.seq vs.toArray _ = Data.fields #[] := congrArg Obj.data (Option.some.inj e)
    cases e2
  have sq : SqF K H a (ns.map V.int) := by
    cases q : K.lookup a with
    | none =>
      refine .inl ⟨{ cls := .type "list", data := .seq vs.toArray }, ?_⟩
      rw [← eH]
      unfold H0
      rw [if_neg aT, if_pos ⟨rfl, q⟩]
    | some o =>
      have e := inK a o q
      rw [sA] at e
      cases e
      exact .inr fun _ => .inr ⟨_, vs.toArray, _, q, rfl, rfl, rfl, by rw [List.size_toArray, lV]; exact lA, by simpa using vI⟩
  have hok : HOk P w H s.heap := fun b u e => by
    rcases kind b with z | ⟨hb, z⟩ | ⟨rfl, _, z⟩
    · rw [z] at e
      cases e
    · rw [z] at e
      cases e
      exact isT b hb
    · rw [z] at e
      cases e
      exact ⟨sA, by rw [List.length_map]; exact lA, vs, _, vI, sA⟩
  -- what is neither a list nor an empty table is not tracked
  have free : ∀ {b : Addr} {o : Obj}, s.heap.get? b = some o → (∀ us n, o.data ≠ .seq us n) → o.data ≠ .fields #[] → H b = none := fun {b o} e h1 h2 => by
    rcases kind b with z | ⟨hb, _⟩ | ⟨rfl, _, _⟩
    · exact z
    · rw [isT b hb] at e
      cases e
      exact absurd rfl h2
    · rw [sA] at e
      cases e
      exact absurd rfl (h1 _ _)
  have keep : ∀ {b : Addr} {o : Obj}, s.heap.get? b = some o → (∀ us n, o.data ≠ .seq us n) → o.data ≠ .fields #[] → (hidT s.heap H).get? b = some o := fun e h1 h2 => hidT_get e (free e h1 h2)
  have nsB : ∀ {b : Addr} {m : Str → Option Value}, s.heap.Ns b m → (hidT s.heap H).Ns b m := fun {b m} ⟨o, es, ep, e, d, r⟩ => ⟨o, es, ep, keep e (fun us n z => by rw [d] at z; cases z) (fun z => by rw [d] at z; cases z), d, r⟩
  have KB : K.In (hidT s.heap H) := fun b o e => hidT_get (inK b o e) (by
    rcases kind b with z | ⟨hb, _⟩ | ⟨rfl, n, _⟩
    · exact z
    · obtain ⟨p, hp, rfl⟩ := ofT b hb
      rw [oT p hp] at e
      cases e
    · rw [n] at e
      cases e)
  have TB : ∀ p ∈ cs, LamX.TabB (hidT s.heap H) mg p.1 p.2 := fun p hp => by
    have ep := eT p hp
    refine ⟨?_, ?_, fun z => ?_⟩
    · obtain ⟨o, us, file, tf, flags, tg, inF, text, tt, e1, r1, r2, r3, r4, r5, r6, r7, r8, hne⟩ := cT p hp
      refine ⟨o, us, file, tf, flags, tg, inF, text, tt, keep e1 (fun us n z => ?_) (fun z => ?_), r1, r2, r3, r4, r5, r6, r7, r8, hne⟩
      · rw [r2] at z
        cases z
      · rw [r2] at z
        cases z
        simp at r3
    · obtain ⟨bm, ob, b1, b2, b3, b4, b5, b6⟩ := bM
      refine ⟨bm, ob, b1, b2, fun z => ?_, fun z => ?_, keep b3 (fun us n z => ?_) (fun z => ?_), b4, b5, b6⟩
      · obtain ⟨o, es, eq, e, d, _⟩ := gM
        rw [z, e] at b3
        cases b3
        rw [d] at b6
        cases b6
      · rw [z, ep] at b3
        cases b3
        cases b6
      · rw [b6] at z
        cases z
      · rw [b6] at z
        cases z
    · obtain ⟨o, es, eq, e, d, _⟩ := gM
      rw [z, ep] at e
      cases e
      cases d
  have hM : L2.Mod K mg (hidT s.heap H) := ⟨KB, nsB gM, ⟨mb, nsB gB, gBb⟩, let ⟨mc, h1, h2⟩ := lim; ⟨mc, nsB h1, h2⟩⟩
  have e0 : Env0 P w K mg (hidT s.heap H) callerA [] s H := ⟨rfl, hM, fun b o e => of_hidT e, Nat.le_of_eq (hidT_size _ _), trivial, fun b hb => absurd (show b ∈ ([] : List Addr) from hb) (by simp), hok, .of_eq g0⟩
  refine codeAny_mono ((G _ KB (nsB gM) TB).run callerA [] s H ⟨[.ref a], []⟩ [.ref a] [.ref a] _ _ rfl room e0 (bind s (.ref a)) (.cons rfl .nil) (law H tabs sq)) fun r s' h => ?_
  cases r with
  | error e => exact False.elim h
  | ok fl =>
    cases fl with
    | ret u =>
      obtain ⟨v, H', os, bare, un, hok', r', q⟩ := h
      have ev : v = .bl true := q
      subst ev
      obtain rfl : u = Value.bool true := r'
      have same : ∀ b o, b ∉ ts → s.heap.get? b = some o → s'.heap.get? b = some o := fun b o nb e => by
        rcases kind b with z | ⟨hb, _⟩ | ⟨_, _, z⟩
        · exact un.keep b o e z (by intro y; exact absurd (show b ∈ ([] : List Addr) from y) (by simp)) (by simp)
        · exact absurd hb nb
        · obtain ⟨e1, _⟩ := hok b _ z
          obtain ⟨e2, _⟩ := hok' b _ (un.frzs b _ _ z)
          rw [e] at e1
          cases e1
          exact e2
      have tab' : ∀ p ∈ cs, ∃ more : Array Value, s'.heap.get? p.2 = some { cls := .none, data := .fields more } := fun p hp => by
        obtain ⟨more, z⟩ := un.tbls p.2 #[] (tabs p hp)
        exact ⟨_, hok' p.2 _ z⟩
      refine ⟨rfl, ⟨fun b o e => ?_, fun b o e => ?_⟩, os, bare⟩
      · by_cases hb : b ∈ ts
        · obtain ⟨p, hp, rfl⟩ := ofT b hb
          obtain ⟨more, hm⟩ := tab' p hp
          rw [eT p hp] at e
          cases e
          exact .inr (.inl ⟨((cT p hp).tab (eT p hp)).isCodeTable, rfl, #[], more, rfl, by rw [Array.empty_append]; exact hm⟩)
        · exact .inl (same b o hb e)
      · by_cases hb : b ∈ ts
        · obtain ⟨p, hp, rfl⟩ := ofT b hb
          obtain ⟨more, hm⟩ := tab' p hp
          exact ⟨_, hm⟩
        · exact ⟨o, same b o hb e⟩
    | _ => exact False.elim h
end
/-- the end of a row by a Hook, for a law that asks for no guard -/
theorem walk_end {l : PySem.W.OpenLaw} {n k : Nat} {q : Program} {loose : List Str} {XP : (Str → Option Value) → Heap → Prop} {YP : World → Heap → Prop} {d : DefRec} {x : Str}
    (hn : l.most = some n) (hn2 : n ≤ sizeLine) (hdf : d.params.defaults = []) (room : Room k callerA)
    (F : ∀ (w : World) (mg : Str → Option Value) (fa : Addr) (h : Heap), YP w h → h.Ns mainGlobals mg → mg d.name = some (.ref fa) → ∃ (K : PySem.W.Frag) (fd : FuncData) (cs : List (Addr × Addr)) (sp : Sp), K.In h ∧
      (∀ p ∈ cs, h.get? p.2 = some { cls := .none, data := .fields #[] }) ∧ (∀ p ∈ cs, K.lookup p.2 = none) ∧ (∀ p ∈ cs, PySem.W.CodeHd h p.1 p.2) ∧ (∀ (s : Shared) (u : Value), BindsTo s fd ⟨[u], []⟩ [(x, u)]) ∧
      (∀ (H : Hp) (a : Addr) (ns : List Int), ns.length ≤ n → (∀ p ∈ cs, H p.2 = some (.tbl #[])) → SqF K H a (ns.map V.int) → sp [.ref a] H (fun v _ => v = .bl true) fun _ _ _ => False) ∧
      ∀ base : Heap, K.In base → base.Ns mainGlobals mg → (∀ p ∈ cs, LamX.TabB base mg p.1 p.2) → FnG l.prog w K mg base k fa fd [x] sp) :
    PySem.W.WalkO q loose XP YP l.row.toRowW d [] (fun f vs => PySem.call f vs) := by
  refine Att.attach_callB hn hdf fun w s0 s mg mb fa o pm cd doc a vs ns G Y ho hd hcd hmg hobj hints hlen hbits hg => ?_
  obtain ⟨K, fd, cs, sp, KX, eT, oT, cT, hb, hsp, hF⟩ := F w mg fa _ Y G.T.g hmg
  exact call_end KX G.T.g G.T.b G.T.builtins G.T.nolimit hg eT oT cT G.T.bmain hobj hints (Nat.le_trans hlen hn2) room hF hb fun H hH hS => hsp H a ns hlen hH hS
end K5
end

section
set_option Elab.async false
set_option linter.all false
set_option maxRecDepth 100000
set_option maxHeartbeats 0
/-! The head's hook: with the cell of the statics, and with the two exception classes. -/
namespace K5
open PySem PySem.Spec PyProof.Rows L2
abbrev InW : Type := Option (Str × Str × Arguments × FuncBody × Scope × Addr × Addr)
def fI_ (K : PySem.W.Frag) (x : Str) : Addr := He.fAd K (x, some "__init__")
def inW (K : PySem.W.Frag) (x : Str) : InW := match K.lookup (fI_ K x) with
  | some ⟨_, _, .func fd, _⟩ => some (fd.name, fd.qualname, fd.params, fd.body, fd.scope, fd.globals, fd.builtins)
  | _ => none
def inE (q : Str) (s : Stmt) : InW := some ("__init__", q, defArgs s, .stmts (defBody s), defScope s, mainGlobals, builtinsNs)
def mainFile : Str := PySem.Challenge.pw_rowalone_k05_whole_other_unknowns.main.file
/-- the __init__ of an exception class: one cell, its class; its code object, of the program's file -/
def inB (K : PySem.W.Frag) (x q : Str) : Bool := match K.lookup (fI_ K x) with
  | some ⟨_, _, .func fd, _⟩ => (match fd.defaults, fd.closure, fd.code with
    | .none, [(n, cc)], .ref cda => (n == "__class__") && ((match K.lookup cc with
        | some ⟨_, _, .cell (some (.ref C)), _⟩ => C == He.ga K x
        | _ => false) && (PySem.W.codeIn K (.ref cda) q && (match K.lookup cda with
        | some ⟨_, _, .fields vs, _⟩ => (match (vs[2]? : Option Value) with
          | some (Value.str file _) => mainFile == file
          | _ => false)
        | _ => false)))
    | _, _, _ => false)
  | _ => false
def excB (K : PySem.W.Frag) (x q : Str) : Bool :=
  oexB K (He.ga K x) && (He.eqO (PySem.W.findIn K (.ref (He.ga K x)) "word") (some none) && (He.eqO (PySem.W.findIn K (.ref (He.ga K x)) "__init__") (some (some (.ref (fI_ K x)))) && (decide (PySem.W.typeIn K (.ref (fI_ K x)) = some (.type "function")) &&
  (He.eqO (PySem.W.ks_superIn K (He.ga K x) (He.ga K x) "__init__") (some (some (.builtin "ValueError.__init__"))) && (decide (PySem.W.mroIn K (He.ga K x) (.ref (He.ga K x)) = some true) && (decide (PySem.W.mroIn K (He.ga K x) (.type "ValueError") = some true) && (inB K x q && xfB K (He.ga K x))))))))
def insB (K : PySem.W.Frag) (C : Addr) : Bool :=
  He.eqO (PySem.W.findIn K (.ref C) "__class__") (some (some (.builtin "object.__class__"))) && (He.eqO (PySem.W.specialIn K (.builtin "object.__class__") "__get__") (some (some (.builtin "getset_descriptor.__get__"))) && (decide (PySem.W.takesIn K (.builtin "object.__class__") = some true) &&
  (decide (PySem.W.mroIn K C (.type "object") = some true) && decide (PySem.W.kitOne K (.ref C) (.ref C) = some true))))
def ex2 (K : PySem.W.Frag) : Bool := excB K "Refused" "Refused.__init__" && (excB K "InvalidNumber" "InvalidNumber.__init__" && (insB K (He.ga K "System") && (He.eqO (PySem.W.nsIn K cStatics "thirdparty.any") (some none) &&
  !((He.cT K ("_law_renamed_right", none)).2 == (He.cT K ("_law_refused_right", none)).2))))
abbrev AlP : Type := He.AlX × List InW
def asP (g : Addr → Option Obj) : List Addr := He.asD g 5 ++ [cStatics]
def obsP (g : Addr → Option Obj) : AlP := ((He.obsT fa fn [] (He.frT g (asP g)), ex2 (He.frT g (asP g)) && He.tabsB g tf (He.frT g (asP g))), [inW (He.frT g (asP g)) "Refused", inW (He.frT g (asP g)) "InvalidNumber"])
def inV : List InW := [inE "Refused.__init__" (inClass (top 4) 0), inE "InvalidNumber.__init__" (inClass (top 3) 0)]
def valP (w : World) : AlP := (He.valX fn [] w, inV)
def SaysP (w : World) (h : Heap) (K : PySem.W.Frag) : Prop := He.SaysX fa fn [] tf ex2 w h K ∧ [inW K "Refused", inW K "InvalidNumber"] = inV
theorem saysP_of {w : World} {h : Heap} (e : obsP h.get? = valP w) : SaysP w h (He.frT h.get? (asP h.get?)) := by
  obtain ⟨K, eK⟩ : ∃ K, He.frT h.get? (asP h.get?) = K := ⟨_, rfl⟩
  unfold obsP valP He.valX at e
  rw [eK] at e ⊢
  injection e with e1 e3
  injection e1 with e1 e2
  obtain ⟨m, tb⟩ := He.ba e2
  have key : ∀ p ∈ tf, PySem.W.codeHdIn K (He.cT K p).1 (He.cT K p).2 = true ∧ ∃ o, h.get? (He.cT K p).2 = some o ∧ He.emptyTab o = true := fun p hp => by
    obtain ⟨a, b⟩ := He.ba (List.all_eq_true.mp tb p hp)
    refine ⟨a, ?_⟩
    cases q : h.get? (He.cT K p).2 with
    | none =>
      rw [q] at b
      cases b
    | some o =>
      rw [q] at b
      exact ⟨o, rfl, b⟩
  refine ⟨⟨e1, m, fun p hp => (key p hp).1, fun p hp => ?_, fun p hp => ?_⟩, e3⟩
  · obtain ⟨_, o, q, z⟩ := key p hp
    have := He.frT_none (as := asP h.get?) q z
    rw [eK] at this
    exact this
  · obtain ⟨_, o, q, z⟩ := key p hp
    rw [q, He.emptyTab_eq z]
def hkP : PySem.W.Hook where
  α := AlP
  obs := fun s => obsP s.heap.get?
  val := fun w => valP w
  says := fun w h => ∃ K : PySem.W.Frag, K.In h ∧ SaysP w h K
  of := fun _ _ e => ⟨_, He.frT_in, saysP_of e⟩
  keeps := fun _ _ _ ⟨K, hK, c, d⟩ k => ⟨K, PySem.W.Frag.In.keeps hK k, ⟨c.t, c.more, c.hd, c.out, fun p hp => k _ _ (c.empty p hp)⟩, d⟩
def obP (s : PySem.W.SharedT) : AlP := obsP (HandSHeadRun.getT s)
theorem obP_eq (s : PySem.W.SharedT) : obP s = hkP.obs s.abs := by
  have e : HandSHeadRun.getT s = s.abs.heap.get? := funext (HandSHeadRun.getT_eq s)
  unfold obP
  rw [e] <;> rfl
theorem runP (w : World) : HandSHeadRun.RunEq R (PySem.W.view R.prog [42]) hkP obP 4000 loose w := by
  intro os
  kernel_rfl
end K5
end

section
set_option Elab.async false
set_option linter.all false
set_option maxRecDepth 100000
set_option maxHeartbeats 4000000
/-! What the hook says, as the walk asks it. -/
namespace K5
open PySem PySem.Spec PyProof.Rows L2
section
variable {w : World} {K : PySem.W.Frag} {h : Heap} {mg : Str → Option Value}
abbrev Pg : Program := (PySem.Challenge.rw_rowalone_k05_whole_other_unknowns).prog
def EvOk (msg : Str) (q1 q2 q3 q4 q5 : Pos) : Prop := ∀ (qual : Str) (L f cda cc : Addr), ∃ pl : Sem Bool, eval (.Call (.Attribute (.Call (.Name "super" q1) [] [] q2) "__init__" q3) [.Constant (.str msg) 0 q4] [] q5) (PySem.W.ksEnv qual PySem.SupX.supS L f (.ref cda) cc) = (do
      let ov ← attributeBase (.Call (.Name "super" q1) [] [] q2) "__init__" (PySem.W.ksEnv qual PySem.SupX.supS L f (.ref cda) cc) (eval (.Call (.Name "super" q1) [] [] q2) (PySem.W.ksEnv qual PySem.SupX.supS L f (.ref cda) cc))
      standAt q3.atName
      let (g, first) ← holding [ov] (getMethod ov "__init__" pl)
      callWith q5 g first (backTo q5 (starEach [.Constant (.str msg) 0 q4] (PySem.W.ksEnv qual PySem.SupX.supS L f (.ref cda) cc))) [])
theorem oex_cls {C : Addr} (h : oexB K C = true) : (∃ nm q N bs bm sn sub ab col dd k0 k1 k2 k3 k5, K.lookup C = some (excClassObj nm q C N bs bm true sn sub ab col dd k0 k1 k2 k3 k5 "ValueError.__new__") ∧ PySem.HandSPX.refsVE bm = true) ∧
    PySem.W.findIn K (.ref C) "__setattr__" = some (some (.builtin "object.__setattr__")) ∧ PySem.W.subIn K (.ref C) (.type "BaseException") = some true ∧ PySem.W.typeIn K (.ref C) = some (.type "type") ∧ PySem.W.keepIn K (.ref C) = true := by
  obtain ⟨h1, h2⟩ := He.ba h
  obtain ⟨h2, h3⟩ := He.ba h2
  obtain ⟨h3, h4⟩ := He.ba h3
  obtain ⟨h4, h5⟩ := He.ba h4
  refine ⟨?_, He.eqO_ok h2, of_decide_eq_true h3, of_decide_eq_true h4, h5⟩
  split at h1
  · rename_i t d cd sl q
    split at h1
    · rename_i C' bm a1 a2 a3 a4 n a5 e1 e2
      obtain ⟨c1, c2⟩ := He.ba h1
      obtain ⟨c2, c3⟩ := He.ba c2
      obtain ⟨c3, c4⟩ := He.ba c3
      obtain ⟨c4, c5⟩ := He.ba c4
      obtain ⟨c5, c6⟩ := He.ba c5
      have et := of_decide_eq_true c1
      have eC := beq_iff_eq.mp c2
      have en := beq_iff_eq.mp c3
      subst eC
      obtain ⟨nm, bases, mro, ns, qn, hd, sn, sub, ab, col, del⟩ := cd
      have em : mro = .ref C' :: bm := e1
      have eh : hd = true := c5
      have ed : del = false := by simpa using c4
      subst em
      subst eh
      subst ed
      subst et
      subst en
      refine ⟨nm, qn, ns, bases, bm, sn, sub, ab, col, d, a1, a2, a3, a4, a5, ?_, c6⟩
      rw [q]
      have es : sl = #[a1, a2, a3, a4, some (.builtin "ValueError.__new__"), a5] := Array.ext' e2
      rw [es]
    · cases h1
  · cases h1
theorem sup_of {x q msg : Str} {s : Stmt} (X : K.In h) (G : h.Ns mainGlobals mg) (hx : (He.Fa.glo x).ok K = true) (hs : (He.Fa.free "super").ok K = true) (e : excB K x q = true) (any : PySem.W.nsIn K cStatics "thirdparty.any" = some none) (ew : inW K x = inE q s)
    (ha : ∃ p1 p2, defArgs s = PySem.SupX.supA p1 p2) (hb : ∃ q1 q2 q3 q4 q5 q6 q7 q8 q9 q0, defBody s = PySem.SupX.supB msg q1 q2 q3 q4 q5 q6 q7 q8 q9 q0 ∧ EvOk msg q1 q2 q3 q4 q5) (hc : defScope s = PySem.SupX.supS) :
    PySem.SupX.SupTxt Pg K mg x (He.ga K x) (fI_ K x) := by
  obtain ⟨e1, e⟩ := He.ba e
  obtain ⟨e2, e⟩ := He.ba e
  obtain ⟨e3, e⟩ := He.ba e
  obtain ⟨e4, e⟩ := He.ba e
  obtain ⟨e5, e⟩ := He.ba e
  obtain ⟨e6, e⟩ := He.ba e
  obtain ⟨e7, e⟩ := He.ba e
  obtain ⟨e8, e9⟩ := He.ba e
  obtain ⟨c1, c2, c3, c4, c5⟩ := oex_cls e1
  refine ⟨He.glo_ok X G hx, c1, c2, He.eqO_ok e2, He.eqO_ok e3, of_decide_eq_true e4, c5, c3, c4, He.eqO_ok e5, of_decide_eq_true e6, of_decide_eq_true e7, any, He.free_ok X G hs, by decide +kernel, ?_⟩
  unfold inB at e8
  unfold inW at ew
  split at e8
  · rename_i oc od fd osl lk
    rw [lk] at ew
    split at e8
    · rename_i n cc cda d1 d2 d3
      obtain ⟨g1, r1⟩ := He.ba e8
      obtain ⟨g2, r2⟩ := He.ba r1
      obtain ⟨g3, g4⟩ := He.ba r2
      clear r1 r2 e8
      obtain ⟨nm, qn, pr, bd, sc, gl, cl, df, kd, doc, pm, an, cdv, ct, bi⟩ := fd
      have ew' : some (nm, qn, pr, bd, sc, gl, bi) = inE q s := ew
      unfold inE at ew'
      injection ew' with ew'
      injection ew' with w1 ew'
      injection ew' with w2 ew'
      injection ew' with w3 ew'
      injection ew' with w4 ew'
      injection ew' with w5 ew'
      injection ew' with w6 w7
      have d1' : df = .none := d1
      have d2' : cl = [(n, cc)] := d2
      have d3' : cdv = .ref cda := d3
      have gn := beq_iff_eq.mp g1
      subst w1 w2 w3 w4 w5 w6 w7 d1' d2' d3' gn
      obtain ⟨p1, p2, ha⟩ := ha
      obtain ⟨q1, q2, q3, q4, q5, q6, q7, q8, q9, q0, hb, hv⟩ := hb
      rw [ha, hb, hc] at lk
      refine ⟨qn, msg, oc, od, kd, doc, pm, an, cda, cc, ct, osl, p1, p2, q1, q2, q3, q4, q5, q6, q7, q8, q9, q0, lk, g3, fun L => hv _ L _ cda cc, ?_, ?_⟩
      · split at g4
        · rename_i ccl cdd vs ccs lk2
          split at g4
          · rename_i file tf ev
            exact ⟨ccl, cdd, vs, ccs, file, tf, lk2, ev, g4⟩
          · cases g4
        · cases g4
      · split at g2
        · rename_i cl cld C csl lk2
          have eC := beq_iff_eq.mp g2
          subst eC
          exact ⟨cl, cld, csl, lk2⟩
        · cases g2
    · cases e8
  · cases e8
theorem bR : ∃ q1 q2 q3 q4 q5 q6 q7 q8 q9 q0, defBody (inClass (top 4) 0) = PySem.SupX.supB "refused" q1 q2 q3 q4 q5 q6 q7 q8 q9 q0 ∧ EvOk "refused" q1 q2 q3 q4 q5 := ⟨_, _, _, _, _, _, _, _, _, _, rfl, fun _ _ _ _ _ => ⟨_, rfl⟩⟩
theorem bN : ∃ q1 q2 q3 q4 q5 q6 q7 q8 q9 q0, defBody (inClass (top 3) 0) = PySem.SupX.supB "invalid number" q1 q2 q3 q4 q5 q6 q7 q8 q9 q0 ∧ EvOk "invalid number" q1 q2 q3 q4 q5 := ⟨_, _, _, _, _, _, _, _, _, _, rfl, fun _ _ _ _ _ => ⟨_, rfl⟩⟩
theorem aR : ∃ p1 p2, defArgs (inClass (top 4) 0) = PySem.SupX.supA p1 p2 := ⟨_, _, rfl⟩
theorem aN : ∃ p1 p2, defArgs (inClass (top 3) 0) = PySem.SupX.supA p1 p2 := ⟨_, _, rfl⟩
theorem sR : defScope (inClass (top 4) 0) = PySem.SupX.supS := rfl
theorem sN : defScope (inClass (top 3) 0) = PySem.SupX.supS := rfl
end
end K5
end

section
set_option Elab.async false
set_option linter.all false
set_option maxRecDepth 100000
set_option maxHeartbeats 4000000
/-! The head: all defs, the law. -/
namespace K5
open PySem PySem.Spec PyProof.Rows L2
section
variable {w : World} {K : PySem.W.Frag} {h : Heap} {mg : Str → Option Value}
theorem def_of {x : Str} {s : Stmt} {ps : List Str} (c : He.SaysD fa fn K) (X : K.In h) (G : h.Ns mainGlobals mg) (i j : Nat) (hi : fa[i]? = some (.glo x)) (hj : fn[j]? = some (dF x s))
    (hb : ∀ (kV doc pm : Value) (an : Option Addr) (cdv ct : Value) (us : List Value), us.length = ps.length → bindArgs (PySem.W.fnOf x x (defArgs s) (defBody s) (defScope s) .none kV doc pm an cdv ct) ⟨us, []⟩ = pure (ps.zip us)) : Def K mg x s ps := by
  obtain ⟨fd, F⟩ := c.def_ j hj
  have F' : Fun K x x s (He.ga K x) fd := He5.fun_of F
  exact ⟨_, fd, He.glo_ok X G (c.fact i hi), F', F'.binds hb⟩
theorem fun_uniq {x q : Str} {s : Stmt} {f : Addr} {fd fd' : FuncData} (F : Fun K x q s f fd) (F' : Fun K x q s f fd') : fd = fd' := by
  obtain ⟨oc, od, kV, doc, pm, an, cdv, ct, osl, rfl, lk, _⟩ := F.ex
  obtain ⟨oc', od', kV', doc', pm', an', cdv', ct', osl', rfl, lk', _⟩ := F'.ex
  have e := congrArg Obj.data (Option.some.inj (lk.symm.trans lk'))
  injection e
theorem lam_of {x : Str} {s : Stmt} (c : He.SaysD fa fn K) (X : K.In h) (G : h.Ns mainGlobals mg) (i j : Nat) (hi : fa[i]? = some (.glo x)) (hj : fn[j]? = some (dF x s)) {base : Heap} (T : LamX.TabB base mg (He.cT K (x, none)).1 (He.cT K (x, none)).2) :
    LamC K mg base x (He.cT K (x, none)).1 (He.cT K (x, none)).2 := by
  refine ⟨fun f oc od fdd osl g lk => ?_, T⟩
  obtain ⟨fd, F⟩ := c.def_ j hj
  have F' : Fun K x x s (He.ga K x) fd := He5.fun_of F
  have g0 := He.glo_ok X G (c.fact i hi)
  rw [g] at g0
  cases g0
  obtain ⟨oc', od', kV', doc', pm', an', cdv', ct', osl', rfl, lk', hcd⟩ := F'.ex
  obtain ⟨cc, ec⟩ := He.codeIn_ref hcd
  have e := congrArg Obj.data (Option.some.inj (lk.symm.trans lk'))
  injection e with e
  subst e
  subst ec
  have := He.codeOf_eq (K := K) (p := (x, none)) lk' (c := cc) rfl
  show Value.ref cc = .ref (He.codeOf K (x, none))
  rw [this]
theorem bl_of (c : He.SaysD fa fn K) (X : K.In h) (G : h.Ns mainGlobals mg) : Bl mg where
  len := He.free_ok X G (c.fact 45 (f := .free "len") rfl)
  abs := He.free_ok X G (c.fact 46 (f := .free "abs") rfl)
  isi := He.free_ok X G (c.fact 47 (f := .free "isinstance") rfl)
  int := He.free_ok X G (c.fact 48 (f := .free "int") rfl)
  str := He.free_ok X G (c.fact 49 (f := .free "str") rfl)
  bool := He.free_ok X G (c.fact 50 (f := .free "bool") rfl)
  tuple := He.free_ok X G (c.fact 51 (f := .free "tuple") rfl)
  all := He.free_ok X G (c.fact 52 (f := .free "all") rfl)
  any := He.free_ok X G (c.fact 53 (f := .free "any") rfl)
  enumerate := He.free_ok X G (c.fact 54 (f := .free "enumerate") rfl)
  zip := He.free_ok X G (c.fact 55 (f := .free "zip") rfl)
  range := He.free_ok X G (c.fact 56 (f := .free "range") rfl)
  sorted := He.free_ok X G (c.fact 57 (f := .free "sorted") rfl)
  list := He.free_ok X G (c.fact 58 (f := .free "list") rfl)
  dict := He.free_ok X G (c.fact 59 (f := .free "dict") rfl)
  set := He.free_ok X G (c.fact 60 (f := .free "set") rfl)
  repr := He.free_ok X G (c.fact 61 (f := .free "repr") rfl)
  letters := He.str_ok X G (c.fact 6 (f := .str "LETTERS" "abcdefghijklmnopqrstuvwxyz") rfl)
  longest := He.int_ok X G (c.fact 3 (f := .int "LONGEST_NAME" 5) rfl)
  names := He.int_ok X G (c.fact 4 (f := .int "MOST_NAMES" 6) rfl)
  rows := He.int_ok X G (c.fact 5 (f := .int "MOST_ROWS" 60) rfl)
theorem sys_of (c : He.SaysD fa fn K) (X : K.In h) (G : h.Ns mainGlobals mg) (e : insB K (He.ga K "System") = true) : SysT K mg (He.ga K "System") (He.fAd K ("System", some "__init__")) (He.fAd K ("System", some "__eq__")) := by
  obtain ⟨i1, e⟩ := He.ba e
  obtain ⟨i2, e⟩ := He.ba e
  obtain ⟨i3, e⟩ := He.ba e
  obtain ⟨i4, i5⟩ := He.ba e
  obtain ⟨fdI, FI⟩ := c.def_ 8 (d := dM "System" "__init__" "System.__init__" (inClass (top 20) 0)) rfl
  obtain ⟨fdE, FE⟩ := c.def_ 9 (d := dM "System" "__eq__" "System.__eq__" (inClass (top 20) 1)) rfl
  have FI' : Fun K "__init__" "System.__init__" sSysI (He.fAd K ("System", some "__init__")) fdI := He5.fun_of FI
  have FE' : Fun K "__eq__" "System.__eq__" sSysE (He.fAd K ("System", some "__eq__")) fdE := He5.fun_of FE
  exact ⟨⟨He.cls_ok (c.fact 7 (f := .cls "System") rfl), He.eqO_ok i1, He.eqO_ok i2, of_decide_eq_true i3, of_decide_eq_true i4, of_decide_eq_true i5⟩, He.noat_ok (c.fact 10 (f := .noat "System" "names") rfl), He.noat_ok (c.fact 11 (f := .noat "System" "rows") rfl),
    He.glo_ok X G (c.fact 2 (f := .glo "System") rfl), He.mkr_ok (c.fact 8 (f := .mkr "System") rfl), He.meth_ok (c.fact 9 (f := .meth "System" "__eq__") rfl),
    ⟨fdI, FI', FI'.binds fun _ _ _ _ _ _ us hl => match us, hl with | [_, _, _], _ => rfl⟩, ⟨fdE, FE', FE'.binds fun _ _ _ _ _ _ us hl => match us, hl with | [_, _], _ => rfl⟩⟩
theorem facts {f : Addr} (X : K.In h) (G : h.Ns mainGlobals mg) (hf : mg ("law" : Str) = some (.ref f)) (cc : SaysP w h K) :
    ∃ fd : FuncData, (∀ (s : Shared) (v : Value), BindsTo s fd ⟨[v], []⟩ [("_law_script", v)]) ∧ ∀ base : Heap, K.In base → base.Ns mainGlobals mg → (∀ p ∈ tf.map (He.cT K), LamX.TabB base mg p.1 p.2) →
      FnG Pg w K mg base 12 f fd ["_law_script"] (spLaw K (He.cT K ("_law_renamed_right", none)).2 (He.cT K ("_law_refused_right", none)).2) := by
  have c : He.SaysD fa fn K := congrArg (fun z : He.AlT => z.1) cc.1.t
  obtain ⟨xR, m⟩ := He.ba (show (_ && _) = true from cc.1.more)
  obtain ⟨xN, m⟩ := He.ba m
  obtain ⟨iS, m⟩ := He.ba m
  obtain ⟨any, m⟩ := He.ba m
  have hP : (He.cT K ("_law_renamed_right", none)).2 ≠ (He.cT K ("_law_refused_right", none)).2 := fun z => by
    rw [z] at m
    simp at m
  have any' := He.eqO_ok any
  obtain ⟨ew1, ew2⟩ : inW K "Refused" = inE "Refused.__init__" (inClass (top 4) 0) ∧ inW K "InvalidNumber" = inE "InvalidNumber.__init__" (inClass (top 3) 0) := by
    have e := cc.2
    unfold inV at e
    injection e with e1 e2
    injection e2 with e2 _
    exact ⟨e1, e2⟩
  have fS := c.fact 62 (f := .free "super") rfl
  have TR := sup_of X G (c.fact 1 (f := .glo "Refused") rfl) fS xR any' ew1 aR bR sR
  have TN := sup_of X G (c.fact 0 (f := .glo "InvalidNumber") rfl) fS xN any' ew2 aN bN sN
  have xf : ∀ {x q : Str}, excB K x q = true → XfC K (He.ga K x) := fun {x q} e => xfB_ok (He.ba (He.ba (He.ba (He.ba (He.ba (He.ba (He.ba (He.ba e).2).2).2).2).2).2).2).2
  have TX : TwoX K mg (He.ga K "Refused") (He.ga K "InvalidNumber") := ⟨TR.gC, TN.gC, He.exm_ok (c.fact 12 (f := .exm "Refused" "Refused" true) rfl), He.exm_ok (c.fact 14 (f := .exm "InvalidNumber" "Refused" false) rfl), He.exm_ok (c.fact 15 (f := .exm "InvalidNumber" "InvalidNumber" true) rfl), xf xR, xf xN, TR.noN, TN.noN⟩
  have B := bl_of c X G
  have S := sys_of c X G iS
  have b1 : ∀ {x : Str} {s : Stmt} {a : Str}, True := trivial
  obtain ⟨f0, fd0, g0, F0, B0⟩ : Def K mg "law" sLaw ["_law_script"] := def_of c X G 44 30 rfl rfl fun _ _ _ _ _ _ us hl => match us, hl with | [_], _ => rfl
  obtain ⟨fdD, FD⟩ := c.def_ 30 (d := dF "law" (top 42)) rfl
  have FD' : Fun K "law" "law" sLaw (He.ga K "law") fdD := He5.fun_of FD
  have eg := He.glo_ok X G (c.fact 44 (f := .glo "law") rfl)
  have ef : f = He.ga K "law" := by
    rw [hf] at eg
    cases eg
    rfl
  refine ⟨fdD, fun s v => FunD.bindsA (ps := ["_law_script"]) FD (fun _ _ _ _ _ _ us hl => match us, hl with | [_], _ => rfl) s [v] rfl, fun base hK hG hT => ?_⟩
  have DI := ok_isInt (P := Pg) (w := w) (base := base) B (def_of c X G 16 0 rfl rfl fun _ _ _ _ _ _ us hl => match us, hl with | [_], _ => rfl)
  have DN := ok_isName (P := Pg) (w := w) (base := base) B (def_of c X G 17 1 rfl rfl fun _ _ _ _ _ _ us hl => match us, hl with | [_], _ => rfl)
  have DNL := ok_isNameLot B (def_of c X G 18 2 rfl rfl fun _ _ _ _ _ _ us hl => match us, hl with | [_], _ => rfl) DN
  have DD := ok_div (P := Pg) (w := w) (base := base) B (def_of c X G 19 3 rfl rfl fun _ _ _ _ _ _ us hl => match us, hl with | [_, _], _ => rfl)
  have DF := ok_isFr B (def_of c X G 20 4 rfl rfl fun _ _ _ _ _ _ us hl => match us, hl with | [_], _ => rfl) DI DD
  have DC := ok_com B (def_of c X G 21 5 rfl rfl fun _ _ _ _ _ _ us hl => match us, hl with | [_], _ => rfl) DD
  have DR := ok_isRow B (def_of c X G 22 6 rfl rfl fun _ _ _ _ _ _ us hl => match us, hl with | [_, _], _ => rfl) DI DC
  have DK := ok_chk B (def_of c X G 23 7 rfl rfl fun _ _ _ _ _ _ us hl => match us, hl with | [_, _], _ => rfl) DNL DR
  have DL := ok_least B (def_of c X G 24 10 rfl rfl fun _ _ _ _ _ _ us hl => match us, hl with | [_, _], _ => rfl) DC
  have DRn := ok_renamed B S TR (def_of c X G 25 11 rfl rfl fun _ _ _ _ _ _ us hl => match us, hl with | [_, _], _ => rfl) DK DN
  have DP := ok_place B S TR (def_of c X G 26 12 rfl rfl fun _ _ _ _ _ _ us hl => match us, hl with | [_, _], _ => rfl) DN
  have DT := ok_turned B S TR (def_of c X G 27 13 rfl rfl fun _ _ _ _ _ _ us hl => match us, hl with | [_, _], _ => rfl) DK DP
  have DS := ok_scaled B S TN (def_of c X G 28 14 rfl rfl fun _ _ _ _ _ _ us hl => match us, hl with | [_, _, _], _ => rfl) DK DP DF DL
  have LB := ok_box (P := Pg) (w := w) (base := base) B (def_of c X G 29 15 rfl rfl fun _ _ _ _ _ _ us hl => match us, hl with | [_, _], _ => rfl)
  have LT := ok_take (P := Pg) (w := w) (base := base) B (def_of c X G 30 16 rfl rfl fun _ _ _ _ _ _ us hl => match us, hl with | [_, _], _ => rfl)
  have LP := ok_pick B (def_of c X G 31 17 rfl rfl fun _ _ _ _ _ _ us hl => match us, hl with | [_, _], _ => rfl) LT
  have LN := ok_lnames B (def_of c X G 32 18 rfl rfl fun _ _ _ _ _ _ us hl => match us, hl with | [_, _], _ => rfl) LT LP
  have LCm := ok_lcommon (P := Pg) (w := w) (base := base) B (def_of c X G 33 19 rfl rfl fun _ _ _ _ _ _ us hl => match us, hl with | [_], _ => rfl)
  have LL := ok_lleast B (def_of c X G 34 20 rfl rfl fun _ _ _ _ _ _ us hl => match us, hl with | [_, _], _ => rfl) LCm
  have LR := ok_lrows B (def_of c X G 35 21 rfl rfl fun _ _ _ _ _ _ us hl => match us, hl with | [_, _], _ => rfl) LT LP LCm LL
  have LF := ok_frac (def_of c X G 36 22 rfl rfl fun _ _ _ _ _ _ us hl => match us, hl with | [_, _], _ => rfl) LT LL
  have LK := ok_kept (P := Pg) (w := w) (base := base) B (def_of c X G 37 23 rfl rfl fun _ _ _ _ _ _ us hl => match us, hl with | [_, _], _ => rfl)
  have LU := ok_lput (P := Pg) (w := w) (base := base) (def_of c X G 38 24 rfl rfl fun _ _ _ _ _ _ us hl => match us, hl with | [_, _, _], _ => rfl)
  have LS := ok_lscaled B (def_of c X G 39 25 rfl rfl fun _ _ _ _ _ _ us hl => match us, hl with | [_, _, _, _], _ => rfl) LL
  have DH : Def K mg "_law_heard" sLHeard ["_law_action"] := def_of c X G 40 26 rfl rfl fun _ _ _ _ _ _ us hl => match us, hl with | [_], _ => rfl
  have LO := ok_odd (def_of c X G 41 27 rfl rfl fun _ _ _ _ _ _ us hl => match us, hl with | [_], _ => rfl) LP
  have C1 := lam_of c X G 42 28 (x := "_law_renamed_right") (s := top 40) rfl rfl (hT _ (List.mem_cons_self))
  have C2 := lam_of c X G 43 29 (x := "_law_refused_right") (s := top 41) rfl rfl (hT _ (List.mem_cons_of_mem _ List.mem_cons_self))
  have LRen := ok_ren B S TX hP C1 (def_of c X G 42 28 rfl rfl fun _ _ _ _ _ _ us hl => match us, hl with | [_, _, _], _ => rfl) DH LO LT LP DRn DK
  have LRef := ok_ref B S TX hP C2 (def_of c X G 43 29 rfl rfl fun _ _ _ _ _ _ us hl => match us, hl with | [_, _, _], _ => rfl) DH LO LF LP DT DS
  obtain ⟨f1, fd1, g1, F1, _, Gl⟩ := ok_law B S (def_of c X G 44 30 rfl rfl fun _ _ _ _ _ _ us hl => match us, hl with | [_], _ => rfl) LB LT LP LN LL LR LF LK LU LS DT DS LRen LRef DK
  have e1 : f1 = f := by
    rw [g1] at hf
    cases hf
    rfl
  subst e1
  rw [← ef] at FD'
  rw [fun_uniq FD' F1]
  exact Gl
end
end K5
end

section
set_option Elab.async false
set_option linter.all false
set_option maxRecDepth 100000
set_option maxHeartbeats 4000000
open PySem PySem.W PySem.Calls PyProof.Rows
theorem PySem.Challenge.cw_rowalone_k05_whole_other_unknowns_holds : PySem.Challenge.rw_rowalone_k05_whole_other_unknowns.Holds := by
  w_on; o_law
  refine HandSHeadRun.head_any (r := K5.R) (q := view K5.R.prog [42]) (H := K5.hkP) (ob := K5.obP) (M := 4000) (loose := K5.loose) (d := HandSHeadRun.topDef K5.R.prog 42) (kwd := []) K5.obP_eq
    (by kernel_rfl) (fun s => by kernel_rfl) K5.runP (by kernel_rfl) (by kernel_rfl) (by kernel_rfl) (by rfl) (by first | assumption | decide +kernel) (by decide +kernel) ⟨rfl, rfl, rfl, rfl, rfl, by decide +kernel⟩ ?hw ?hc
  case hw => w_witness2
  case hc =>
    refine K5.walk_end (l := PySem.Challenge.rw_rowalone_k05_whole_other_unknowns) (n := 63) (k := 12) (x := "_law_script") rfl (by decide) (by kernel_rfl) ⟨rfl, by decide, by decide⟩ ?F
    intro w mg fa h Y G hmg0
    obtain ⟨K, KX, c⟩ := Y
    have hmg : mg ("law" : PySem.Str) = some (.ref fa) := by
      have e : (HandSHeadRun.topDef K5.R.prog 42).name = ("law" : PySem.Str) := by kernel_rfl
      rw [← e]
      exact hmg0
    obtain ⟨fd, hb, hF⟩ := K5.facts KX G hmg c
    have mem : ∀ {p : PySem.Addr × PySem.Addr}, p ∈ K5.tf.map (He.cT K) → ∃ q ∈ K5.tf, He.cT K q = p := fun hp => List.mem_map.mp hp
    refine ⟨K, fd, K5.tf.map (He.cT K), K5.spLaw K (He.cT K ("_law_renamed_right", none)).2 (He.cT K ("_law_refused_right", none)).2, KX, fun p hp => ?_, fun p hp => ?_, fun p hp => ?_, hb, fun H a ns hl hH hS => ⟨a, ns, rfl, hS, fun p hp => ?_, fun _ => rfl⟩, hF⟩
    · obtain ⟨q, hq, rfl⟩ := mem hp
      exact c.1.empty q hq
    · obtain ⟨q, hq, rfl⟩ := mem hp
      exact c.1.out q hq
    · obtain ⟨q, hq, rfl⟩ := mem hp
      exact PySem.W.codeHd_of_K KX (c.1.hd q hq)
    · have h1 := hH _ (List.mem_map.mpr ⟨("_law_renamed_right", none), List.mem_cons_self, rfl⟩)
      have h2 := hH _ (List.mem_map.mpr ⟨("_law_refused_right", none), List.mem_cons_of_mem _ List.mem_cons_self, rfl⟩)
      rcases List.mem_cons.mp hp with e | hp
      · rw [e]
        exact LamX.TabS.nil h1
      · rw [List.mem_singleton.mp hp]
        exact LamX.TabS.nil h2
end

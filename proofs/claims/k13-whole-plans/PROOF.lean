import PyProof.Rows.All
import Wide.All
import OpenK.AllK
import Wide.FinOn
import HandS.ForMost
import HandS.TupAny
import HandS.TupMul
import HandS.TupSets
import HandS.Conv
import HandS.IsInst
import HandS.Zip
import HandS.Walk
import HandS.Deep
import HandS.Style
import HandS.Flow
import HandS.SortInts
import KE.DataMinMax
import KE.DataEq
import KE.GoesZip
import KE.GoesEnum
import KE.GoesMore
import PySem.Challenge.RW_evenlifts_k13_whole_plans_never_back_nev
import KE.Datum
import KE.SortData
import HandS.DictTup
import HandS.ListItems
import KE.KDictZip
set_option Elab.async false
set_option linter.all false
set_option autoImplicit false
/-! The mathematics of law k13, in plain Lean: stands, plans, what is kept of a plan, why it leads there. -/
namespace K13
abbrev Deed := Int × Int
abbrev Beam := Int × Int

def at0 (l : List Int) (k : Int) : Int := l.getD k.toNat 0
def put0 (l : List Int) (k h : Int) : List Int := l.set k.toNat h
def max2 (i j : Int) : Int := if j > i then j else i
def min2 (i j : Int) : Int := if j < i then j else i
def absI (i : Int) : Int := if i < 0 then -i else i
def cutH (b e h : Int) : Int := max2 (min2 b e) (min2 (max2 b e) h)
def near1 (x y : Int) : Bool := decide (x - y ≤ 1) && decide (y - x ≤ 1)
/-- the beams' word of a stand -/
def standB (beams : List Beam) (hs : List Int) : Bool := beams.all fun b => near1 (at0 hs b.1) (at0 hs b.2)
/-- h is near to all neighbours of k -/
def roomB (beams : List Beam) (hs : List Int) (k h : Int) : Bool :=
  beams.all fun b => (if b.1 = k then near1 h (at0 hs b.2) else true) && (if b.2 = k then near1 h (at0 hs b.1) else true)
def inB (n : Nat) (k : Int) : Bool := decide (0 ≤ k) && decide (k < (n : Int))
def stepB (beams : List Beam) (hs : List Int) (d : Deed) : Bool := inB hs.length d.1 && !(decide (d.2 = at0 hs d.1)) && roomB beams hs d.1 d.2
def runs (beams : List Beam) : List Int → List Deed → Bool
  | _, [] => true
  | hs, d :: r => stepB beams hs d && runs beams (put0 hs d.1 d.2) r
def fin (hs : List Int) (plan : List Deed) : List Int := plan.foldl (fun s d => put0 s d.1 d.2) hs
def stands (hs : List Int) : List Deed → List (List Int)
  | [] => [hs]
  | d :: r => hs :: stands (put0 hs d.1 d.2) r
def leads (beams : List Beam) (one other : List Int) (plan : List Deed) : Prop := runs beams one plan = true ∧ fin one plan = other

def left0 (one other : List Int) : List Int := List.zipWith (fun a b => absI (b - a)) one other
def keptGo (one other : List Int) : List Int → Int → List Deed → List (Int × Deed)
  | _, _, [] => []
  | left, i, d :: r =>
    if absI (at0 other d.1 - cutH (at0 one d.1) (at0 other d.1) d.2) < at0 left d.1 then
      (i, (d.1, cutH (at0 one d.1) (at0 other d.1) d.2)) :: keptGo one other (put0 left d.1 (absI (at0 other d.1 - cutH (at0 one d.1) (at0 other d.1) d.2))) (i + 1) r
    else keptGo one other left (i + 1) r
def kept (one other : List Int) (plan : List Deed) : List (Int × Deed) := keptGo one other (left0 one other) 0 plan
def less (one other : List Int) (plan : List Deed) : List Deed := (kept one other plan).map (·.2)
def cutGo (one other : List Int) : List Int → List Deed → List Deed
  | _, [] => []
  | now, d :: r =>
    if cutH (at0 one d.1) (at0 other d.1) d.2 = at0 now d.1 then cutGo one other now r
    else (d.1, cutH (at0 one d.1) (at0 other d.1) d.2) :: cutGo one other (put0 now d.1 (cutH (at0 one d.1) (at0 other d.1) d.2)) r
def goesB (now other : List Int) (d : Deed) : Bool :=
  (decide (at0 now d.1 < d.2) && decide (d.2 ≤ at0 other d.1)) || (decide (at0 now d.1 > d.2) && decide (d.2 ≥ at0 other d.1))
def straightB (other : List Int) : List Int → List Deed → Bool
  | _, [] => true
  | now, d :: r => goesB now other d && straightB other (put0 now d.1 d.2) r

/-! ### small facts -/
theorem near1_iff {x y : Int} : near1 x y = true ↔ x - y ≤ 1 ∧ y - x ≤ 1 := by
  unfold near1; simp
theorem inB_iff {n : Nat} {k : Int} : inB n k = true ↔ 0 ≤ k ∧ k < (n : Int) := by
  unfold inB; simp
theorem absI_spec (x : Int) : (x < 0 ∧ absI x = -x) ∨ (0 ≤ x ∧ absI x = x) := by
  unfold absI; split <;> omega
theorem cutH_spec (a b h : Int) : (a ≤ b ∧ ((h < a ∧ cutH a b h = a) ∨ (a ≤ h ∧ h ≤ b ∧ cutH a b h = h) ∨ (b < h ∧ cutH a b h = b))) ∨
    (b < a ∧ ((h < b ∧ cutH a b h = b) ∨ (b ≤ h ∧ h ≤ a ∧ cutH a b h = h) ∨ (a < h ∧ cutH a b h = a))) := by
  unfold cutH max2 min2
  by_cases h1 : b < a
  · rw [if_pos h1]
    by_cases h2 : b > a
    · omega
    · rw [if_neg h2]
      by_cases h3 : h < a
      · rw [if_pos h3]; split <;> omega
      · rw [if_neg h3]; split <;> omega
  · rw [if_neg h1]
    by_cases h2 : b > a
    · rw [if_pos h2]
      by_cases h3 : h < b
      · rw [if_pos h3]; split <;> omega
      · rw [if_neg h3]; split <;> omega
    · rw [if_neg h2]
      by_cases h3 : h < a
      · rw [if_pos h3]; split <;> omega
      · rw [if_neg h3]; split <;> omega
theorem put0_length (l : List Int) (k h : Int) : (put0 l k h).length = l.length := by
  unfold put0; rw [List.length_set]
theorem at0_put0 {l : List Int} {k j : Int} (h : Int) (hk : 0 ≤ k ∧ k < (l.length : Int)) (hj : 0 ≤ j) : at0 (put0 l k h) j = if j = k then h else at0 l j := by
  unfold at0 put0
  by_cases e : j = k
  · subst e
    rw [if_pos rfl, List.getD_eq_getElem?_getD, List.getElem?_set_self (by omega)]
    rfl
  · rw [if_neg e, List.getD_eq_getElem?_getD, List.getD_eq_getElem?_getD, List.getElem?_set_ne (by omega)]
theorem at0_get {l : List Int} {j : Nat} (h : j < l.length) : at0 l (j : Int) = l[j] := by
  unfold at0
  rw [show ((j : Int)).toNat = j by omega, List.getD_eq_getElem?_getD, List.getElem?_eq_getElem h]
  rfl
theorem ext0 {l m : List Int} (hl : l.length = m.length) (h : ∀ j : Int, 0 ≤ j → j < (l.length : Int) → at0 l j = at0 m j) : l = m := by
  refine List.ext_getElem hl fun j h1 h2 => ?_
  have e := h (j : Int) (by omega) (by omega)
  rw [at0_get h1, at0_get h2] at e
  exact e
theorem fin_cons (hs : List Int) (d : Deed) (r : List Deed) : fin hs (d :: r) = fin (put0 hs d.1 d.2) r := rfl
theorem fin_nil (hs : List Int) : fin hs [] = hs := rfl
theorem fin_length : ∀ (r : List Deed) (hs : List Int), (fin hs r).length = hs.length
  | [], _ => rfl
  | d :: r, hs => by rw [fin_cons, fin_length r, put0_length]
theorem fin_append (hs : List Int) (p q : List Deed) : fin hs (p ++ q) = fin (fin hs p) q := by
  unfold fin; rw [List.foldl_append]
theorem runs_append (beams : List Beam) : ∀ (p q : List Deed) (hs : List Int), runs beams hs (p ++ q) = (runs beams hs p && runs beams (fin hs p) q)
  | [], q, hs => by simp [runs, fin]
  | d :: p, q, hs => by
    show (stepB beams hs d && runs beams (put0 hs d.1 d.2) (p ++ q)) = ((stepB beams hs d && runs beams (put0 hs d.1 d.2) p) && runs beams (fin (put0 hs d.1 d.2) p) q)
    rw [runs_append beams p q, Bool.and_assoc]

/-- frames: the beams join different jacks below n, each jack has one -/
structure FrOk (n : Nat) (beams : List Beam) : Prop where
  lo : 2 ≤ n
  hi : n ≤ 5
  few : beams.length < 64
  ends : ∀ b ∈ beams, 0 ≤ b.1 ∧ b.1 < (n : Int) ∧ 0 ≤ b.2 ∧ b.2 < (n : Int) ∧ b.1 ≠ b.2
  each : ∀ k : Int, 0 ≤ k → k < (n : Int) → ∃ b ∈ beams, b.1 = k ∨ b.2 = k
structure Stand (n : Nat) (beams : List Beam) (hs : List Int) : Prop where
  len : hs.length = n
  near : ∀ b ∈ beams, at0 hs b.1 - at0 hs b.2 ≤ 1 ∧ at0 hs b.2 - at0 hs b.1 ≤ 1
theorem roomB_iff {beams : List Beam} {hs : List Int} {k h : Int} : roomB beams hs k h = true ↔
    ∀ b ∈ beams, (b.1 = k → h - at0 hs b.2 ≤ 1 ∧ at0 hs b.2 - h ≤ 1) ∧ (b.2 = k → h - at0 hs b.1 ≤ 1 ∧ at0 hs b.1 - h ≤ 1) := by
  unfold roomB
  rw [List.all_eq_true]
  constructor
  · intro q b hb
    have := q b hb
    rw [Bool.and_eq_true] at this
    obtain ⟨q1, q2⟩ := this
    refine ⟨fun e => ?_, fun e => ?_⟩
    · rw [if_pos e] at q1; exact near1_iff.mp q1
    · rw [if_pos e] at q2; exact near1_iff.mp q2
  · intro q b hb
    obtain ⟨q1, q2⟩ := q b hb
    rw [Bool.and_eq_true]
    constructor
    · split
      · exact near1_iff.mpr (q1 (by assumption))
      · rfl
    · split
      · exact near1_iff.mpr (q2 (by assumption))
      · rfl
theorem stepB_iff {beams : List Beam} {hs : List Int} {d : Deed} : stepB beams hs d = true ↔ (0 ≤ d.1 ∧ d.1 < (hs.length : Int)) ∧ d.2 ≠ at0 hs d.1 ∧ roomB beams hs d.1 d.2 = true := by
  unfold stepB
  rw [Bool.and_eq_true, Bool.and_eq_true, inB_iff]
  simp only [Bool.not_eq_true', decide_eq_false_iff_not, and_assoc, ne_eq]
/-- where a jack has room, it comes to a stand -/
theorem stand_put {n : Nat} {beams : List Beam} {hs : List Int} {k h : Int} (F : FrOk n beams) (S : Stand n beams hs) (hk : 0 ≤ k ∧ k < (n : Int)) (r : roomB beams hs k h = true) : Stand n beams (put0 hs k h) := by
  refine ⟨by rw [put0_length]; exact S.len, fun b hb => ?_⟩
  obtain ⟨e1, e2, e3, e4, e5⟩ := F.ends b hb
  obtain ⟨q1, q2⟩ := roomB_iff.mp r b hb
  have s := S.near b hb
  rw [at0_put0 h (by rw [S.len]; exact hk) e1, at0_put0 h (by rw [S.len]; exact hk) e3]
  by_cases c1 : b.1 = k
  · have c2 : b.2 ≠ k := fun c => e5 (c1.trans c.symm)
    rw [if_pos c1, if_neg c2]
    exact q1 c1
  · rw [if_neg c1]
    by_cases c2 : b.2 = k
    · rw [if_pos c2]
      have := q2 c2
      omega
    · rw [if_neg c2]
      exact s
theorem room_of_put {n : Nat} {beams : List Beam} {hs : List Int} {k h : Int} (F : FrOk n beams) (hl : hs.length = n) (hk : 0 ≤ k ∧ k < (n : Int)) (S : Stand n beams (put0 hs k h)) : roomB beams hs k h = true := by
  refine roomB_iff.mpr fun b hb => ?_
  obtain ⟨e1, e2, e3, e4, e5⟩ := F.ends b hb
  have s := S.near b hb
  rw [at0_put0 h (by rw [hl]; exact hk) e1, at0_put0 h (by rw [hl]; exact hk) e3] at s
  refine ⟨fun c1 => ?_, fun c2 => ?_⟩
  · have c2 : b.2 ≠ k := fun c => e5 (c1.trans c.symm)
    rw [if_pos c1, if_neg c2] at s
    exact s
  · have c1 : b.1 ≠ k := fun c => e5 (c.trans c2.symm)
    rw [if_neg c1, if_pos c2] at s
    omega
theorem runs_stand {n : Nat} {beams : List Beam} (F : FrOk n beams) : ∀ (p : List Deed) (hs : List Int), Stand n beams hs → runs beams hs p = true → Stand n beams (fin hs p)
  | [], hs, S, _ => S
  | d :: p, hs, S, h => by
    rw [runs, Bool.and_eq_true] at h
    obtain ⟨h1, h2⟩ := h
    obtain ⟨k1, k2, k3⟩ := stepB_iff.mp h1
    rw [S.len] at k1
    exact runs_stand F p _ (stand_put F S k1 k3) h2
theorem runs_in {beams : List Beam} : ∀ (p : List Deed) (hs : List Int), runs beams hs p = true → ∀ d ∈ p, 0 ≤ d.1 ∧ d.1 < (hs.length : Int)
  | [], _, _, d, hd => by cases hd
  | e :: p, hs, h, d, hd => by
    rw [runs, Bool.and_eq_true] at h
    obtain ⟨h1, h2⟩ := h
    rcases List.mem_cons.mp hd with rfl | hd
    · exact (stepB_iff.mp h1).1
    · have := runs_in p _ h2 d hd
      rw [put0_length] at this
      exact this

/-! ### what is kept of a plan leads there -/
structure Kp (n : Nat) (beams : List Beam) (one other S B left : List Int) : Prop where
  ls : S.length = n
  ll : left.length = n
  sS : Stand n beams S
  sB : Stand n beams B
  btw : ∀ j : Int, 0 ≤ j → j < (n : Int) → (at0 one j ≤ at0 B j ∧ at0 B j ≤ at0 other j) ∨ (at0 other j ≤ at0 B j ∧ at0 B j ≤ at0 one j)
  lft : ∀ j : Int, 0 ≤ j → j < (n : Int) → at0 left j = absI (at0 other j - at0 B j)
  nr : ∀ j : Int, 0 ≤ j → j < (n : Int) → absI (at0 other j - at0 B j) ≤ absI (at0 other j - cutH (at0 one j) (at0 other j) (at0 S j))

theorem near_core {a b x h c d y s t u : Int} (ac : a - c ≤ 1 ∧ c - a ≤ 1) (bd : b - d ≤ 1 ∧ d - b ≤ 1) (xy : x - y ≤ 1 ∧ y - x ≤ 1) (hs : h - s ≤ 1 ∧ s - h ≤ 1)
    (xab : (a ≤ x ∧ x ≤ b) ∨ (b ≤ x ∧ x ≤ a)) (ycd : (c ≤ y ∧ y ≤ d) ∨ (d ≤ y ∧ y ≤ c)) (eu : cutH c d s = u) (et : cutH a b h = t) (ny : absI (d - y) ≤ absI (d - u)) (nt : absI (b - t) < absI (b - x)) : t - y ≤ 1 ∧ y - t ≤ 1 := by
  have h1 := cutH_spec c d s
  have h2 := cutH_spec a b h
  have h3 := absI_spec (d - y)
  have h4 := absI_spec (d - u)
  have h5 := absI_spec (b - t)
  have h6 := absI_spec (b - x)
  rw [eu] at h1
  rw [et] at h2
  generalize absI (d - y) = p3 at *
  generalize absI (d - u) = p4 at *
  generalize absI (b - t) = p5 at *
  generalize absI (b - x) = p6 at *
  omega

theorem closer_goes {a b x h t : Int} (xab : (a ≤ x ∧ x ≤ b) ∨ (b ≤ x ∧ x ≤ a)) (et : cutH a b h = t) (nt : absI (b - t) < absI (b - x)) :
    ((x < t ∧ t ≤ b) ∨ (x > t ∧ t ≥ b)) ∧ ((a ≤ t ∧ t ≤ b) ∨ (b ≤ t ∧ t ≤ a)) ∧ (t = h ∨ (t = b ∧ h ≠ b)) := by
  have h2 := cutH_spec a b h
  have h5 := absI_spec (b - t)
  have h6 := absI_spec (b - x)
  rw [et] at h2
  generalize absI (b - t) = p5 at *
  generalize absI (b - x) = p6 at *
  omega

theorem Kp.step {n : Nat} {beams : List Beam} {one other S B left : List Int} {d : Deed} (F : FrOk n beams) (s1 : Stand n beams one) (s2 : Stand n beams other) (K : Kp n beams one other S B left) (st : stepB beams S d = true)
    (hk : absI (at0 other d.1 - cutH (at0 one d.1) (at0 other d.1) d.2) < at0 left d.1) :
    stepB beams B (d.1, cutH (at0 one d.1) (at0 other d.1) d.2) = true ∧ goesB B other (d.1, cutH (at0 one d.1) (at0 other d.1) d.2) = true ∧
    Kp n beams one other (put0 S d.1 d.2) (put0 B d.1 (cutH (at0 one d.1) (at0 other d.1) d.2)) (put0 left d.1 (absI (at0 other d.1 - cutH (at0 one d.1) (at0 other d.1) d.2))) := by
  obtain ⟨k1, k2, k3⟩ := stepB_iff.mp st
  rw [K.ls] at k1
  obtain ⟨k, h⟩ := d
  simp only at k1 k2 k3 hk ⊢
  have hb := K.btw k k1.1 k1.2
  rw [K.lft k k1.1 k1.2] at hk
  generalize et : cutH (at0 one k) (at0 other k) h = t at hk ⊢
  obtain ⟨g1, g2, g3⟩ := closer_goes hb et hk
  have room : roomB beams B k t = true := by
    refine roomB_iff.mpr fun b hb' => ?_
    obtain ⟨e1, e2, e3, e4, e5⟩ := F.ends b hb'
    obtain ⟨r1, r2⟩ := roomB_iff.mp k3 b hb'
    have o1 := s1.near b hb'
    have o2 := s2.near b hb'
    have o3 := K.sB.near b hb'
    refine ⟨fun c => ?_, fun c => ?_⟩
    · have r := r1 c
      rw [c] at o1 o2 o3
      exact near_core o1 o2 o3 r hb (K.btw b.2 e3 e4) rfl et (K.nr b.2 e3 e4) hk
    · have r := r2 c
      rw [c] at o1 o2 o3
      exact near_core (by omega) (by omega) (by omega) r hb (K.btw b.1 e1 e2) rfl et (K.nr b.1 e1 e2) hk
  have ne : t ≠ at0 B k := by omega
  refine ⟨stepB_iff.mpr ⟨by rw [K.sB.len]; exact k1, ne, room⟩, ?_, ?_⟩
  · unfold goesB
    rcases g1 with ⟨a, b⟩ | ⟨a, b⟩
    · simp only [decide_eq_true a, decide_eq_true b]; rfl
    · rw [decide_eq_true a, decide_eq_true b]; simp
  · have lB : k < (B.length : Int) := by rw [K.sB.len]; exact k1.2
    have lS : k < (S.length : Int) := by rw [K.ls]; exact k1.2
    have lL : k < (left.length : Int) := by rw [K.ll]; exact k1.2
    refine ⟨by rw [put0_length]; exact K.ls, by rw [put0_length]; exact K.ll, stand_put F K.sS k1 k3, stand_put F K.sB k1 room, fun j j1 j2 => ?_, fun j j1 j2 => ?_, fun j j1 j2 => ?_⟩
    · rw [at0_put0 t ⟨k1.1, lB⟩ j1]
      by_cases e : j = k
      · rw [if_pos e, e]; exact g2
      · rw [if_neg e]; exact K.btw j j1 j2
    · rw [at0_put0 _ ⟨k1.1, lL⟩ j1, at0_put0 t ⟨k1.1, lB⟩ j1]
      by_cases e : j = k
      · rw [if_pos e, if_pos e, e]
      · rw [if_neg e, if_neg e]; exact K.lft j j1 j2
    · rw [at0_put0 t ⟨k1.1, lB⟩ j1, at0_put0 h ⟨k1.1, lS⟩ j1]
      by_cases e : j = k
      · rw [if_pos e, if_pos e, e, et]; exact Int.le_refl _
      · rw [if_neg e, if_neg e]; exact K.nr j j1 j2
theorem Kp.skip {n : Nat} {beams : List Beam} {one other S B left : List Int} {d : Deed} (F : FrOk n beams) (K : Kp n beams one other S B left) (st : stepB beams S d = true)
    (hk : ¬ absI (at0 other d.1 - cutH (at0 one d.1) (at0 other d.1) d.2) < at0 left d.1) : Kp n beams one other (put0 S d.1 d.2) B left := by
  obtain ⟨k1, k2, k3⟩ := stepB_iff.mp st
  rw [K.ls] at k1
  have lS : d.1 < (S.length : Int) := by rw [K.ls]; exact k1.2
  refine ⟨by rw [put0_length]; exact K.ls, K.ll, stand_put F K.sS k1 k3, K.sB, K.btw, K.lft, fun j j1 j2 => ?_⟩
  rw [at0_put0 d.2 ⟨k1.1, lS⟩ j1]
  by_cases e : j = d.1
  · rw [if_pos e, e]
    rw [K.lft d.1 k1.1 k1.2] at hk
    omega
  · rw [if_neg e]; exact K.nr j j1 j2

theorem kept_main {n : Nat} {beams : List Beam} {one other : List Int} (F : FrOk n beams) (s1 : Stand n beams one) (s2 : Stand n beams other) : ∀ (plan : List Deed) (S B left : List Int) (i : Int), Kp n beams one other S B left → runs beams S plan = true → fin S plan = other →
    runs beams B ((keptGo one other left i plan).map (·.2)) = true ∧ fin B ((keptGo one other left i plan).map (·.2)) = other ∧ straightB other B ((keptGo one other left i plan).map (·.2)) = true
  | [], S, B, left, i, K, _, hf => by
    refine ⟨rfl, ?_, rfl⟩
    show B = other
    have hS : S = other := hf
    refine ext0 (by rw [K.sB.len, s2.len]) fun j j1 j2 => ?_
    rw [K.sB.len] at j2
    have q := K.nr j j1 j2
    rw [hS] at q
    have h1 := cutH_spec (at0 one j) (at0 other j) (at0 other j)
    have h2 := absI_spec (at0 other j - at0 B j)
    have h3 := absI_spec (at0 other j - cutH (at0 one j) (at0 other j) (at0 other j))
    omega
  | d :: r, S, B, left, i, K, hr, hf => by
    rw [runs, Bool.and_eq_true] at hr
    obtain ⟨st, hr⟩ := hr
    rw [fin_cons] at hf
    rw [keptGo]
    by_cases hk : absI (at0 other d.1 - cutH (at0 one d.1) (at0 other d.1) d.2) < at0 left d.1
    · rw [if_pos hk]
      obtain ⟨q1, q2, K'⟩ := K.step F s1 s2 st hk
      obtain ⟨i1, i2, i3⟩ := kept_main F s1 s2 r _ _ _ (i + 1) K' hr hf
      refine ⟨?_, i2, ?_⟩
      · show (stepB beams B _ && runs beams _ _) = true
        rw [q1, Bool.true_and]; exact i1
      · show (goesB B other _ && straightB other _ _) = true
        rw [q2, Bool.true_and]; exact i3
    · rw [if_neg hk]
      exact kept_main F s1 s2 r _ _ _ (i + 1) (K.skip F st hk) hr hf
theorem left0_at {one other : List Int} (hl : one.length = other.length) {j : Int} (h1 : 0 ≤ j) (h2 : j < (one.length : Int)) : at0 (left0 one other) j = absI (at0 other j - at0 one j) := by
  obtain ⟨m, rfl⟩ : ∃ m : Nat, j = (m : Int) := ⟨j.toNat, by omega⟩
  have a : m < one.length := by omega
  have b : m < other.length := by omega
  have c : m < (List.zipWith (fun a b => absI (b - a)) one other).length := by rw [List.length_zipWith]; omega
  rw [at0_get a, at0_get b]
  show at0 (List.zipWith (fun a b => absI (b - a)) one other) (m : Int) = _
  rw [at0_get c, List.getElem_zipWith]
theorem left0_length {one other : List Int} (hl : one.length = other.length) : (left0 one other).length = one.length := by
  unfold left0; rw [List.length_zipWith]; omega
theorem Kp.start {n : Nat} {beams : List Beam} {one other : List Int} (s1 : Stand n beams one) (s2 : Stand n beams other) : Kp n beams one other one one (left0 one other) := by
  have hl : one.length = other.length := by rw [s1.len, s2.len]
  refine ⟨s1.len, by rw [left0_length hl]; exact s1.len, s1, s1, fun j _ _ => by omega, fun j j1 j2 => left0_at hl j1 (by rw [s1.len]; exact j2), fun j _ _ => ?_⟩
  have h1 := cutH_spec (at0 one j) (at0 other j) (at0 one j)
  have h2 := absI_spec (at0 other j - at0 one j)
  have h3 := absI_spec (at0 other j - cutH (at0 one j) (at0 other j) (at0 one j))
  omega
theorem less_leads {n : Nat} {beams : List Beam} {one other : List Int} {plan : List Deed} (F : FrOk n beams) (s1 : Stand n beams one) (s2 : Stand n beams other) (h : leads beams one other plan) :
    leads beams one other (less one other plan) ∧ straightB other one (less one other plan) = true := by
  obtain ⟨i1, i2, i3⟩ := kept_main F s1 s2 plan _ _ _ 0 (Kp.start s1 s2) h.1 h.2
  exact ⟨⟨i1, i2⟩, i3⟩

/-! ### it has deeds of the plan alone -/
theorem last_deed : ∀ (r : List Deed) (S : List Int) (k : Int), (∀ d ∈ r, 0 ≤ d.1 ∧ d.1 < (S.length : Int)) → 0 ≤ k → at0 S k ≠ at0 (fin S r) k → (k, at0 (fin S r) k) ∈ r
  | [], S, k, _, _, h => absurd rfl h
  | d :: r, S, k, hr, hk, h => by
    rw [fin_cons] at h ⊢
    obtain ⟨d1, d2⟩ := hr d List.mem_cons_self
    have e := at0_put0 (l := S) d.2 ⟨d1, d2⟩ hk
    by_cases c : at0 (put0 S d.1 d.2) k = at0 (fin (put0 S d.1 d.2) r) k
    · rw [e] at c
      by_cases z : k = d.1
      · rw [if_pos z] at c
        rw [← c, z]
        exact List.mem_cons_self
      · rw [if_neg z] at c
        exact absurd c h
    · exact List.mem_cons_of_mem _ (last_deed r _ k (fun x hx => by rw [put0_length]; exact hr x (List.mem_cons_of_mem _ hx)) hk c)
theorem kept_mem {n : Nat} {beams : List Beam} {one other : List Int} (F : FrOk n beams) (s1 : Stand n beams one) (s2 : Stand n beams other) : ∀ (plan : List Deed) (S B left : List Int) (i : Int), Kp n beams one other S B left → runs beams S plan = true → fin S plan = other →
    ∀ d ∈ (keptGo one other left i plan).map (·.2), d ∈ plan
  | [], _, _, _, _, _, _, _, d, hd => by cases hd
  | e :: r, S, B, left, i, K, hr, hf, d, hd => by
    have hin := runs_in _ _ hr
    rw [runs, Bool.and_eq_true] at hr
    obtain ⟨st, hr⟩ := hr
    rw [fin_cons] at hf
    rw [keptGo] at hd
    obtain ⟨k1, k2, k3⟩ := stepB_iff.mp st
    by_cases hk : absI (at0 other e.1 - cutH (at0 one e.1) (at0 other e.1) e.2) < at0 left e.1
    · rw [if_pos hk] at hd
      obtain ⟨q1, q2, K'⟩ := K.step F s1 s2 st hk
      rcases List.mem_cons.mp hd with hd | hd
      · have k1' := k1
        rw [K.ls] at k1'
        have hk' := hk
        rw [K.lft e.1 k1'.1 k1'.2] at hk'
        obtain ⟨_, _, g⟩ := closer_goes (K.btw e.1 k1'.1 k1'.2) rfl hk'
        have hd' : d = (e.1, cutH (at0 one e.1) (at0 other e.1) e.2) := hd
        rcases g with g | ⟨g, g'⟩
        · rw [hd', g]; exact List.mem_cons_self
        · rw [hd', g]
          have ea : at0 (put0 S e.1 e.2) e.1 = e.2 := by rw [at0_put0 e.2 k1 k1.1, if_pos rfl]
          have := last_deed r (put0 S e.1 e.2) e.1 (fun x hx => by rw [put0_length]; exact hin x (List.mem_cons_of_mem _ hx)) k1.1 (by rw [ea, hf]; exact g')
          rw [hf] at this
          exact List.mem_cons_of_mem _ this
      · exact List.mem_cons_of_mem _ (kept_mem F s1 s2 r _ _ _ (i + 1) K' hr hf d hd)
    · rw [if_neg hk] at hd
      exact List.mem_cons_of_mem _ (kept_mem F s1 s2 r _ _ _ (i + 1) (K.skip F st hk) hr hf d hd)
theorem less_mem {n : Nat} {beams : List Beam} {one other : List Int} {plan : List Deed} (F : FrOk n beams) (s1 : Stand n beams one) (s2 : Stand n beams other) (h : leads beams one other plan) : ∀ d ∈ less one other plan, d ∈ plan :=
  kept_mem F s1 s2 plan _ _ _ 0 (Kp.start s1 s2) h.1 h.2
theorem keptGo_length (one other : List Int) : ∀ (plan : List Deed) (left : List Int) (i : Int), (keptGo one other left i plan).length ≤ plan.length
  | [], _, _ => Nat.le_refl _
  | d :: r, left, i => by
    rw [keptGo]
    split
    · rw [List.length_cons, List.length_cons]
      exact Nat.succ_le_succ (keptGo_length one other r _ _)
    · exact Nat.le_succ_of_le (keptGo_length one other r _ _)
theorem less_length (one other : List Int) (plan : List Deed) : (less one other plan).length ≤ plan.length := by
  unfold less kept; rw [List.length_map]; exact keptGo_length _ _ _ _ _
theorem cutGo_length (one other : List Int) : ∀ (plan : List Deed) (now : List Int), (cutGo one other now plan).length ≤ plan.length
  | [], _ => Nat.le_refl _
  | d :: r, now => by
    rw [cutGo]
    split
    · exact Nat.le_succ_of_le (cutGo_length one other r _)
    · rw [List.length_cons, List.length_cons]
      exact Nat.succ_le_succ (cutGo_length one other r _)

/-! ### straight plans are kept whole, and no other one -/
def numd (i : Int) : List Deed → List (Int × Deed)
  | [] => []
  | d :: r => (i, d) :: numd (i + 1) r
theorem numd_snd : ∀ (r : List Deed) (i : Int), (numd i r).map (·.2) = r
  | [], _ => rfl
  | d :: r, i => by rw [numd, List.map_cons, numd_snd r]
theorem numd_fst : ∀ (r : List Deed) (i : Int), (numd i r).map (·.1) = (List.range r.length).map fun (j : Nat) => i + (j : Int)
  | [], _ => rfl
  | d :: r, i => by
    rw [numd, List.map_cons, numd_fst r, List.length_cons, List.range_succ_eq_map, List.map_cons, List.map_map]
    congr 1
    · show i = i + ((0 : Nat) : Int); omega
    · refine List.map_congr_left fun j _ => ?_
      show i + 1 + (j : Int) = i + ((j + 1 : Nat) : Int)
      omega
/-- now is between one and other, left is how far it is -/
structure Bt (n : Nat) (one other now left : List Int) : Prop where
  ln : now.length = n
  ll : left.length = n
  btw : ∀ j : Int, 0 ≤ j → j < (n : Int) → (at0 one j ≤ at0 now j ∧ at0 now j ≤ at0 other j) ∨ (at0 other j ≤ at0 now j ∧ at0 now j ≤ at0 one j)
  lft : ∀ j : Int, 0 ≤ j → j < (n : Int) → at0 left j = absI (at0 other j - at0 now j)
theorem Bt.put {n : Nat} {one other now left : List Int} {k h : Int} (K : Bt n one other now left) (hk : 0 ≤ k ∧ k < (n : Int)) (hb : (at0 one k ≤ h ∧ h ≤ at0 other k) ∨ (at0 other k ≤ h ∧ h ≤ at0 one k)) :
    Bt n one other (put0 now k h) (put0 left k (absI (at0 other k - h))) := by
  have l1 : k < (now.length : Int) := by rw [K.ln]; exact hk.2
  have l2 : k < (left.length : Int) := by rw [K.ll]; exact hk.2
  refine ⟨by rw [put0_length]; exact K.ln, by rw [put0_length]; exact K.ll, fun j j1 j2 => ?_, fun j j1 j2 => ?_⟩
  · rw [at0_put0 h ⟨hk.1, l1⟩ j1]
    by_cases e : j = k
    · rw [if_pos e, e]; exact hb
    · rw [if_neg e]; exact K.btw j j1 j2
  · rw [at0_put0 _ ⟨hk.1, l2⟩ j1, at0_put0 h ⟨hk.1, l1⟩ j1]
    by_cases e : j = k
    · rw [if_pos e, if_pos e, e]
    · rw [if_neg e, if_neg e]; exact K.lft j j1 j2
theorem goes_iff {now other : List Int} {d : Deed} : goesB now other d = true ↔ (at0 now d.1 < d.2 ∧ d.2 ≤ at0 other d.1) ∨ (at0 now d.1 > d.2 ∧ d.2 ≥ at0 other d.1) := by
  unfold goesB; simp
theorem goes_core {a b x h : Int} (xab : (a ≤ x ∧ x ≤ b) ∨ (b ≤ x ∧ x ≤ a)) (g : (x < h ∧ h ≤ b) ∨ (x > h ∧ h ≥ b)) : cutH a b h = h ∧ absI (b - h) < absI (b - x) ∧ ((a ≤ h ∧ h ≤ b) ∨ (b ≤ h ∧ h ≤ a)) := by
  have h1 := cutH_spec a b h
  have h2 := absI_spec (b - h)
  have h3 := absI_spec (b - x)
  omega
theorem straight_kept {n : Nat} {one other : List Int} : ∀ (plan : List Deed) (now left : List Int) (i : Int), Bt n one other now left → (∀ d ∈ plan, 0 ≤ d.1 ∧ d.1 < (n : Int)) → straightB other now plan = true → keptGo one other left i plan = numd i plan
  | [], _, _, _, _, _, _ => rfl
  | d :: r, now, left, i, K, hin, h => by
    rw [straightB, Bool.and_eq_true] at h
    obtain ⟨g, h⟩ := h
    have hk := hin d List.mem_cons_self
    obtain ⟨c1, c2, c3⟩ := goes_core (K.btw d.1 hk.1 hk.2) (goes_iff.mp g)
    rw [keptGo, c1, K.lft d.1 hk.1 hk.2, if_pos c2, numd]
    rw [straight_kept r _ _ (i + 1) (K.put hk c3) (fun x hx => hin x (List.mem_cons_of_mem _ hx)) h]
theorem kept_straight {n : Nat} {one other : List Int} : ∀ (plan : List Deed) (now left : List Int) (i : Int), Bt n one other now left → (∀ d ∈ plan, 0 ≤ d.1 ∧ d.1 < (n : Int)) → (keptGo one other left i plan).map (·.2) = plan → straightB other now plan = true
  | [], _, _, _, _, _, _ => rfl
  | d :: r, now, left, i, K, hin, h => by
    have hk := hin d List.mem_cons_self
    rw [keptGo] at h
    by_cases c : absI (at0 other d.1 - cutH (at0 one d.1) (at0 other d.1) d.2) < at0 left d.1
    · rw [if_pos c, List.map_cons] at h
      have h1 : ((d.1, cutH (at0 one d.1) (at0 other d.1) d.2) : Deed) = d := (List.cons.inj h).1
      have h2 := (List.cons.inj h).2
      have h3 : cutH (at0 one d.1) (at0 other d.1) d.2 = d.2 := congrArg Prod.snd h1
      rw [K.lft d.1 hk.1 hk.2] at c
      obtain ⟨g1, g2, _⟩ := closer_goes (K.btw d.1 hk.1 hk.2) rfl c
      rw [h3] at g1 g2 h2
      rw [straightB, goes_iff.mpr g1, Bool.true_and]
      exact kept_straight r _ _ (i + 1) (K.put hk g2) (fun x hx => hin x (List.mem_cons_of_mem _ hx)) h2
    · rw [if_neg c] at h
      have l := keptGo_length one other r left (i + 1)
      have l2 := congrArg List.length h
      rw [List.length_map, List.length_cons] at l2
      omega
theorem Bt.start {n : Nat} {beams : List Beam} {one other : List Int} (s1 : Stand n beams one) (s2 : Stand n beams other) : Bt n one other one (left0 one other) := by
  have K := Kp.start s1 s2
  exact ⟨s1.len, K.ll, K.btw, K.lft⟩
theorem straight_iff {n : Nat} {beams : List Beam} {one other : List Int} {plan : List Deed} (s1 : Stand n beams one) (s2 : Stand n beams other) (h : leads beams one other plan) : straightB other one plan = true ↔ less one other plan = plan := by
  have hin := runs_in _ _ h.1
  rw [s1.len] at hin
  constructor
  · intro q
    unfold less kept
    rw [straight_kept plan _ _ 0 (Bt.start s1 s2) hin q, numd_snd]
  · exact kept_straight plan _ _ 0 (Bt.start s1 s2) hin
theorem less_kept {n : Nat} {beams : List Beam} {one other : List Int} {plan : List Deed} (F : FrOk n beams) (s1 : Stand n beams one) (s2 : Stand n beams other) (h : leads beams one other plan) :
    kept one other (less one other plan) = numd 0 (less one other plan) := by
  obtain ⟨h1, h2⟩ := less_leads F s1 s2 h
  have hin := runs_in _ _ h1.1
  rw [s1.len] at hin
  exact straight_kept _ _ _ 0 (Bt.start s1 s2) hin h2

/-! ### it is never dearer -/
theorem straight_far {n : Nat} {other : List Int} : ∀ (r : List Deed) (now : List Int), now.length = n → (∀ d ∈ r, 0 ≤ d.1 ∧ d.1 < (n : Int)) → straightB other now r = true → ∀ d ∈ r, absI (at0 other d.1 - d.2) < absI (at0 other d.1 - at0 now d.1)
  | [], _, _, _, _, d, hd => by cases hd
  | e :: r, now, hl, hin, h, d, hd => by
    rw [straightB, Bool.and_eq_true] at h
    obtain ⟨g, h⟩ := h
    have hk := hin e List.mem_cons_self
    have g' := goes_iff.mp g
    have a1 := absI_spec (at0 other e.1 - e.2)
    have a2 := absI_spec (at0 other e.1 - at0 now e.1)
    rcases List.mem_cons.mp hd with rfl | hd
    · omega
    · have ih := straight_far r (put0 now e.1 e.2) (by rw [put0_length]; exact hl) (fun x hx => hin x (List.mem_cons_of_mem _ hx)) h d hd
      have hd1 := (hin d (List.mem_cons_of_mem _ hd)).1
      rw [at0_put0 e.2 (by rw [hl]; exact hk) hd1] at ih
      by_cases z : d.1 = e.1
      · rw [if_pos z] at ih
        rw [z] at ih ⊢
        omega
      · rw [if_neg z] at ih
        exact ih
theorem straight_nodup {n : Nat} {other : List Int} : ∀ (r : List Deed) (now : List Int), now.length = n → (∀ d ∈ r, 0 ≤ d.1 ∧ d.1 < (n : Int)) → straightB other now r = true → r.Nodup
  | [], _, _, _, _ => List.nodup_nil
  | e :: r, now, hl, hin, h => by
    rw [straightB, Bool.and_eq_true] at h
    obtain ⟨g, h⟩ := h
    have hk := hin e List.mem_cons_self
    have hin' : ∀ d ∈ r, 0 ≤ d.1 ∧ d.1 < (n : Int) := fun x hx => hin x (List.mem_cons_of_mem _ hx)
    refine List.nodup_cons.mpr ⟨fun hm => ?_, straight_nodup r _ (by rw [put0_length]; exact hl) hin' h⟩
    have q := straight_far r _ (by rw [put0_length]; exact hl) hin' h e hm
    rw [at0_put0 e.2 (by rw [hl]; exact hk) hk.1, if_pos rfl] at q
    omega
theorem sum_sub (f : Deed → Int) (hf : ∀ d, 0 ≤ f d) : ∀ (l m : List Deed), l.Nodup → (∀ d ∈ l, d ∈ m) → (l.map f).sum ≤ (m.map f).sum
  | [], m, _, _ => by
    show (0 : Int) ≤ _
    induction m with
    | nil => exact Int.le_refl _
    | cons x m ih =>
      rw [List.map_cons, List.sum_cons]
      have := hf x
      have := ih (fun d hd => by cases hd)
      omega
  | x :: l, m, hn, hs => by
    obtain ⟨s, t, rfl⟩ := List.append_of_mem (hs x List.mem_cons_self)
    obtain ⟨hx, hn⟩ := List.nodup_cons.mp hn
    have ih := sum_sub f hf l (s ++ t) hn fun d hd => by
      rcases List.mem_append.mp (hs d (List.mem_cons_of_mem _ hd)) with q | q
      · exact List.mem_append_left _ q
      · rcases List.mem_cons.mp q with q | q
        · rw [q] at hd; exact absurd hd hx
        · exact List.mem_append_right _ q
    rw [List.map_append, List.sum_append] at ih
    rw [List.map_cons, List.sum_cons, List.map_append, List.sum_append, List.map_cons, List.sum_cons]
    omega
theorem less_nodup {n : Nat} {beams : List Beam} {one other : List Int} {plan : List Deed} (F : FrOk n beams) (s1 : Stand n beams one) (s2 : Stand n beams other) (h : leads beams one other plan) : (less one other plan).Nodup := by
  obtain ⟨h1, h2⟩ := less_leads F s1 s2 h
  have hin := runs_in _ _ h1.1
  rw [s1.len] at hin
  exact straight_nodup _ _ s1.len hin h2
theorem less_cheap {n : Nat} {beams : List Beam} {one other : List Int} {plan : List Deed} (F : FrOk n beams) (s1 : Stand n beams one) (s2 : Stand n beams other) (h : leads beams one other plan) (f : Deed → Int) (hf : ∀ d, 0 ≤ f d) :
    ((less one other plan).map f).sum ≤ (plan.map f).sum :=
  sum_sub f hf _ _ (less_nodup F s1 s2 h) (less_mem F s1 s2 h)
end K13

set_option maxRecDepth 100000
set_option maxHeartbeats 4000000
set_option autoImplicit false
/-! The abstract layer, part 1: canonical readings, data over a heap, growth. -/
namespace K13
open PySem PySem.Spec PyProof.Rows L2

/-! ### canonical readings -/
section
variable {X : Cx}
def WE (X : Cx) (e : Expr) : TE := fun σ H Q => ∀ (pins : List (Addr × Obj)) (s : Shared), Inv X pins σ H s → wpAny (model X.prog X.w) X.A (eval e X.env) (EP X pins σ Q) X.xe s
def WT (X : Cx) (e : Expr) : TT := fun σ H Q => ∀ (pins : List (Addr × Obj)) (s : Shared), Inv X pins σ H s → wpAny (model X.prog X.w) X.A (isTrue e X.env (eval e X.env)) (TP X pins σ Q) X.xe s
def WW (X : Cx) (e : Expr) : TT := fun σ H Q => ∀ (whole : Sem Value) (pins : List (Addr × Obj)) (s : Shared), Inv X pins σ H s → wpAny (model X.prog X.w) X.A (isTrue e X.env whole) (TP X pins σ Q) X.xe s
def WA (X : Cx) (es : List Expr) : TA := fun σ H Q => ∀ (pos : Pos) (pins : List (Addr × Obj)) (s : Shared), Inv X pins σ H s → wpAny (model X.prog X.w) X.A (spliced (backTo pos (starEach es X.env))) (AP X pins σ Q) X.xe s
def WSs (X : Cx) (sts : List Stmt) : TS := fun D σ H => ∀ (pins : List (Addr × Obj)) (s : Shared), Inv X pins σ H s → wpAny (model X.prog X.w) X.A (execs sts X.env) (SP X pins D) X.xe s
def WTs (X : Cx) (ifs : List Expr) : TT := fun σ H Q => ∀ (pins : List (Addr × Obj)) (s : Shared), Inv X pins σ H s →
  wpAny (model X.prog X.w) X.A (forIn ifs true fun c r => if r = true then do let ok ← isTrue c X.env (eval c X.env); pure (ForInStep.yield ok) else pure (ForInStep.yield r)) (TP X pins σ Q) X.xe s
variable {e : Expr} {es : List Expr} {sts : List Stmt} {σ : L2.St} {H : Hp}
theorem pe_can : PE X e (WE X e) := ⟨fun pins s _ _ _ I h => h pins s I⟩
theorem pt_can : PT X e (WT X e) := ⟨fun pins s _ _ _ I h => h pins s I⟩
theorem pw_can : PW X e (WW X e) := ⟨fun wh pins s _ _ _ I h => h wh pins s I⟩
theorem pa_can : PA X es (WA X es) := ⟨fun pos pins s _ _ _ I h => h pos pins s I⟩
theorem pss_can : PSs X sts (WSs X sts) := ⟨fun pins s _ _ _ I h => h pins s I⟩
theorem pts_can : PTs X es (WTs X es) := ⟨fun pins s _ _ _ I h => h pins s I⟩
theorem WE.of {t : TE} {Q : VK} (h : PE X e t) (q : t σ H Q) : WE X e σ H Q := fun pins s I => h.run pins s σ H Q I q
theorem WT.of {t : TT} {Q : Bool → Hp → Prop} (h : PT X e t) (q : t σ H Q) : WT X e σ H Q := fun pins s I => h.run pins s σ H Q I q
theorem WW.of {t : TT} {Q : Bool → Hp → Prop} (h : PW X e t) (q : t σ H Q) : WW X e σ H Q := fun wh pins s I => h.run wh pins s σ H Q I q
theorem WW.wt {Q : Bool → Hp → Prop} (h : WW X e σ H Q) : WT X e σ H Q := fun pins s I => h _ pins s I
theorem WA.of {t : TA} {Q : List V → Hp → Prop} (h : PA X es t) (q : t σ H Q) : WA X es σ H Q := fun pos pins s I => h.run pos pins s σ H Q I q
theorem WSs.of {t : TS} {D : Ends} (h : PSs X sts t) (q : t D σ H) : WSs X sts D σ H := fun pins s I => h.run pins s σ H D I q
theorem WTs.of {t : TT} {Q : Bool → Hp → Prop} (h : PTs X es t) (q : t σ H Q) : WTs X es σ H Q := fun pins s I => h.run pins s σ H Q I q
theorem WE.mono {Q Q' : VK} (h : WE X e σ H Q) (q : ∀ v H', Q v H' → Q' v H') : WE X e σ H Q' := fun pins s I =>
  thn (h pins s I) fun u s1 ⟨v, H1, I1, r, q1⟩ => ⟨v, H1, I1, r, q v H1 q1⟩
theorem WT.mono {Q Q' : Bool → Hp → Prop} (h : WT X e σ H Q) (q : ∀ v H', Q v H' → Q' v H') : WT X e σ H Q' := fun pins s I =>
  thn (h pins s I) fun b s1 ⟨H1, I1, q1⟩ => ⟨H1, I1, q b H1 q1⟩
end

/-! ### data over a heap (no texts; all that is within is tracked) -/
mutual
inductive Dq (H : Hp) : V → PyData → Prop
  | non : Dq H .non .none
  | bl (b : Bool) : Dq H (.bl b) (.bool b)
  | int (i : Int) : Dq H (.int i) (.int i)
  | lst {a : Addr} {xs : List V} {ds : List PyData} : H a = some (.lst xs) → DqAll H xs ds → Dq H (.ref a) (.list ds)
  | tup {a : Addr} {xs : List V} {ds : List PyData} : H a = some (.tup xs) → DqAll H xs ds → Dq H (.ref a) (.tuple ds)
inductive DqAll (H : Hp) : List V → List PyData → Prop
  | nil : DqAll H [] []
  | cons {v : V} {vs : List V} {d : PyData} {ds : List PyData} : Dq H v d → DqAll H vs ds → DqAll H (v :: vs) (d :: ds)
end
section
variable {H H' : Hp}
mutual
theorem Dq.mono (e : Same H H') : ∀ (d : PyData) (v : V), Dq H v d → Dq H' v d
  | .none, _, h => by cases h; exact .non
  | .bool b, _, h => by cases h; exact .bl b
  | .int i, _, h => by cases h; exact .int i
  | .str x, _, h => by cases h
  | .list ds, _, h => by cases h with | lst h1 h2 => exact .lst (e _ _ h1) (DqAll.mono e ds _ h2)
  | .tuple ds, _, h => by cases h with | tup h1 h2 => exact .tup (e _ _ h1) (DqAll.mono e ds _ h2)
  | .dict _, _, h => by cases h
theorem DqAll.mono (e : Same H H') : ∀ (ds : List PyData) (vs : List V), DqAll H vs ds → DqAll H' vs ds
  | [], _, h => by cases h; exact .nil
  | d :: ds, _, h => by cases h with | cons h1 h2 => exact .cons (Dq.mono e d _ h1) (DqAll.mono e ds _ h2)
end
mutual
theorem Dq.dp (K : PySem.W.Frag) : ∀ (d : PyData) (v : V), Dq H v d → Dp K H v d
  | .none, _, h => by cases h; exact .non
  | .bool b, _, h => by cases h; exact .bl b
  | .int i, _, h => by cases h; exact .int i
  | .str x, _, h => by cases h
  | .list ds, _, h => by cases h with | lst h1 h2 => exact .lst (SqL.of h1) (DqAll.dp K ds _ h2)
  | .tuple ds, _, h => by cases h with | tup h1 h2 => exact .tup (SqT.of h1) (DqAll.dp K ds _ h2)
  | .dict _, _, h => by cases h
theorem DqAll.dp (K : PySem.W.Frag) : ∀ (ds : List PyData) (vs : List V), DqAll H vs ds → DpAll K H vs ds
  | [], _, h => by cases h; exact .nil
  | d :: ds, _, h => by cases h with | cons h1 h2 => exact .cons (Dq.dp K d _ h1) (DqAll.dp K ds _ h2)
end
theorem Dq.up {v : V} {d : PyData} (h : Dq H v d) (e : Same H H') : Dq H' v d := Dq.mono e d v h
theorem DqAll.up {v : List V} {d : List PyData} (h : DqAll H v d) (e : Same H H') : DqAll H' v d := DqAll.mono e d v h
theorem Dq.toDp {v : V} {d : PyData} (K : PySem.W.Frag) (h : Dq H v d) : Dp K H v d := Dq.dp K d v h
theorem DqAll.length : ∀ {vs : List V} {ds : List PyData}, DqAll H vs ds → vs.length = ds.length
  | _, _, .nil => rfl
  | _, _, .cons _ t => by rw [List.length_cons, List.length_cons, DqAll.length t]
theorem DqAll.get : ∀ {vs : List V} {ds : List PyData} {i : Nat} {d : PyData}, DqAll H vs ds → ds[i]? = some d → ∃ v, vs[i]? = some v ∧ Dq H v d
  | _, _, _, _, .nil, e => by simp at e
  | _, _, 0, d, .cons h _, e => by
    have e' : _ = d := Option.some.inj e
    subst e'
    exact ⟨_, rfl, h⟩
  | _, _, i + 1, d, .cons _ t, e => by
    obtain ⟨v, h1, h2⟩ := DqAll.get (i := i) (d := d) t (by simpa using e)
    exact ⟨v, by simpa using h1, h2⟩
theorem DqAll.getV : ∀ {vs : List V} {ds : List PyData} {i : Nat} {v : V}, DqAll H vs ds → vs[i]? = some v → ∃ d, ds[i]? = some d ∧ Dq H v d
  | _, _, _, _, .nil, e => by simp at e
  | _, _, 0, v, .cons h _, e => by
    have e' : _ = v := Option.some.inj e
    subst e'
    exact ⟨_, rfl, h⟩
  | _, _, i + 1, v, .cons _ t, e => by
    obtain ⟨d, h1, h2⟩ := DqAll.getV (i := i) (v := v) t (by simpa using e)
    exact ⟨d, by simpa using h1, h2⟩
theorem DqAll.append : ∀ {xs ys : List V} {ds es : List PyData}, DqAll H xs ds → DqAll H ys es → DqAll H (xs ++ ys) (ds ++ es)
  | _, _, _, _, .nil, s => s
  | _, _, _, _, .cons r t, s => .cons r (DqAll.append t s)
theorem DqAll.one {v : V} {d : PyData} (h : Dq H v d) : DqAll H [v] [d] := .cons h .nil
theorem DqAll.set {v : V} {d : PyData} (r : Dq H v d) : ∀ {xs : List V} {ds : List PyData} (i : Nat), DqAll H xs ds → DqAll H (xs.set i v) (ds.set i d)
  | _, _, _, .nil => .nil
  | _, _, 0, .cons _ t => .cons r t
  | _, _, i + 1, .cons q t => .cons q (DqAll.set r i t)
theorem DqAll.take : ∀ {xs : List V} {ds : List PyData} (n : Nat), DqAll H xs ds → DqAll H (xs.take n) (ds.take n)
  | _, _, 0, _ => .nil
  | _, _, _ + 1, .nil => .nil
  | _, _, n + 1, .cons r t => .cons r (DqAll.take n t)
theorem DqAll.drop : ∀ {xs : List V} {ds : List PyData} (n : Nat), DqAll H xs ds → DqAll H (xs.drop n) (ds.drop n)
  | _, _, 0, r => r
  | _, _, _ + 1, .nil => .nil
  | _, _, n + 1, .cons _ t => DqAll.drop n t
theorem DqAll.nil_iff {xs : List V} {ds : List PyData} (h : DqAll H xs ds) : xs = [] ↔ ds = [] := by cases h <;> simp
theorem DqAll.ints : ∀ {xs : List V} {ns : List Int}, DqAll H xs (ns.map PyData.int) → xs = ns.map V.int
  | _, [], h => by cases h; rfl
  | _, n :: ns, h => by
    cases h with
    | cons h1 h2 =>
      cases h1
      rw [List.map_cons, DqAll.ints h2]
theorem DqAll.of_ints : ∀ (ns : List Int), DqAll H (ns.map V.int) (ns.map PyData.int)
  | [] => .nil
  | n :: ns => .cons (.int n) (DqAll.of_ints ns)
theorem DqAll.bools : ∀ {xs : List V} {ns : List Bool}, DqAll H xs (ns.map PyData.bool) → xs = ns.map V.bl
  | _, [], h => by cases h; rfl
  | _, n :: ns, h => by
    cases h with
    | cons h1 h2 =>
      cases h1
      rw [List.map_cons, DqAll.bools h2]
theorem Dq.int_inv {v : V} {i : Int} (h : Dq H v (.int i)) : v = .int i := by cases h; rfl
theorem Dq.bool_inv {v : V} {b : Bool} (h : Dq H v (.bool b)) : v = .bl b := by cases h; rfl
theorem Dq.none_inv {v : V} (h : Dq H v .none) : v = .non := by cases h; rfl
theorem Dq.list_inv {v : V} {ds : List PyData} (h : Dq H v (.list ds)) : ∃ a xs, v = .ref a ∧ H a = some (.lst xs) ∧ DqAll H xs ds := by
  cases h with | lst h1 h2 => exact ⟨_, _, rfl, h1, h2⟩
theorem Dq.tuple_inv {v : V} {ds : List PyData} (h : Dq H v (.tuple ds)) : ∃ a xs, v = .ref a ∧ H a = some (.tup xs) ∧ DqAll H xs ds := by
  cases h with | tup h1 h2 => exact ⟨_, _, rfl, h1, h2⟩
end

/-! ### growth of a heap that stands (F) within the heap (H) -/
/-- all stands; F may grow, by new objects alone -/
structure Gr (F H F2 H2 : Hp) : Prop where
  ff : Same F F2
  fh : Same F2 H2
  hh : Same H H2
  av : ∀ p, F p = none → H p ≠ none → F2 p = none
theorem Gr.refl {F H : Hp} (h : Same F H) : Gr F H F H := ⟨Same.refl F, h, Same.refl H, fun _ e _ => e⟩
theorem Same.some {F H : Hp} (h : Same F H) {p : Addr} (e : F p ≠ none) : H p = F p := by
  cases q : F p with
  | none => exact absurd q e
  | some o => exact h p o q
theorem Same.ne {F H : Hp} (h : Same F H) {p : Addr} (e : F p ≠ none) : H p ≠ none := by
  rw [Same.some h e]; exact e
theorem Gr.trans {F H F1 H1 F2 H2 : Hp} (a : Gr F H F1 H1) (b : Gr F1 H1 F2 H2) : Gr F H F2 H2 :=
  ⟨a.ff.trans b.ff, b.fh, a.hh.trans b.hh, fun p e1 e2 => b.av p (a.av p e1 e2) (Same.ne a.hh e2)⟩
theorem same_new {F : Hp} {p : Addr} {o : HO} (h : F p = none) : Same F (upd F p o) := fun a u e => by
  rw [upd_ne (ne_of_none e h)]; exact e
theorem same_upd2 {F H : Hp} {p : Addr} {o : HO} (h : Same F H) : Same (upd F p o) (upd H p o) := fun a u e => by
  by_cases z : a = p
  · subst z
    rw [upd_same] at e ⊢
    exact e
  · rw [upd_ne z] at e ⊢
    exact h a u e
/-- a new object, known -/
theorem Gr.new {F H : Hp} {p : Addr} {o : HO} (h : Same F H) (e : H p = none) : Gr F H (upd F p o) (upd H p o) :=
  ⟨same_new (h.free e), same_upd2 h, same_new e, fun q e1 e2 => by
    have : q ≠ p := fun z => e2 (by rw [z]; exact e)
    rw [upd_ne this]; exact e1⟩
/-- a new object, not known -/
theorem Gr.hid {F H : Hp} {p : Addr} {o : HO} (h : Same F H) (e : H p = none) : Gr F H F (upd H p o) :=
  ⟨Same.refl F, h.trans (same_new e), same_new e, fun q e1 _ => e1⟩
/-- the union of two parts of one heap -/
def uni (F G : Hp) : Hp := fun p => match F p with | some o => some o | none => G p
theorem uni_l (F G : Hp) : Same F (uni F G) := fun p o e => by unfold uni; rw [e]
theorem uni_r {F G H : Hp} (hF : Same F H) (hG : Same G H) : Same G (uni F G) := fun p o e => by
  unfold uni
  cases q : F p with
  | none => exact e
  | some u =>
    have a := hF p u q
    have b := hG p o e
    rw [a] at b
    exact b
theorem uni_h {F G H : Hp} (hF : Same F H) (hG : Same G H) : Same (uni F G) H := fun p o e => by
  unfold uni at e
  cases q : F p with
  | none => rw [q] at e; exact hG p o e
  | some u => rw [q] at e; exact (hF p u q).trans e
theorem uni_none {F G : Hp} {p : Addr} (a : F p = none) (b : G p = none) : uni F G p = none := by unfold uni; rw [a]; exact b
/-- what grew over a part grew over a greater part -/
theorem Gr.over {F F' H F2 H2 : Hp} (g : Gr F H F2 H2) (h : Same F F') (h' : Same F' H) : Gr F' H (uni F' F2) H2 :=
  ⟨uni_l _ _, uni_h (h'.trans g.hh) g.fh, g.hh, fun p e1 e2 => uni_none e1 (g.av p (h.free e1) e2)⟩
theorem Gr.over_r {F F' H F2 H2 : Hp} (g : Gr F H F2 H2) (h' : Same F' H) : Same F2 (uni F' F2) := uni_r (h'.trans g.hh) g.fh
end K13

set_option maxRecDepth 100000
set_option maxHeartbeats 4000000
set_option autoImplicit false
/-! The abstract layer, part 2: states over data, expressions. -/
namespace K13
open PySem PySem.Spec PyProof.Rows L2

/-! ### states -/
/-- a mutable object by its content; one that is not looked at -/
inductive MObj where
  | lst (ds : List PyData) | dct (kvs : List (Int × PyData)) | gone
/-- what is known of a slot: nothing, its datum, that it holds the j-th mutable object -/
inductive Sl where
  | un | dat (d : PyData) | ob (j : Nat)
def MOk (F H : Hp) (p : Addr) : MObj → Prop
  | .lst ds => F p = none ∧ ∃ xs, H p = some (.lst xs) ∧ DqAll F xs ds
  | .dct kvs => F p = none ∧ ∃ ys : List (Key × V), H p = some (.dK ys) ∧ Paired (fun (a : Int × PyData) (b : Key × V) => b.1 = Sum.inl a.1 ∧ Dq F b.2 a.2) kvs ys
  | .gone => H p ≠ none
structure HeapOk (F H : Hp) (ps : List Addr) (μ : List MObj) : Prop where
  same : Same F H
  len : ps.length = μ.length
  nd : ps.Nodup
  obj : ∀ (j : Nat) (p : Addr) (o : MObj), ps[j]? = some p → μ[j]? = some o → MOk F H p o
def SlOk (F : Hp) (ps : List Addr) (o : Option (Option V)) : Sl → Prop
  | .un => True
  | .dat d => ∃ v, o = some (some v) ∧ Dq F v d
  | .ob j => ∃ p, ps[j]? = some p ∧ o = some (some (.ref p))
structure EnvOk (F : Hp) (ps : List Addr) (σ : L2.St) (Γ : List Sl) : Prop where
  len : σ.length = Γ.length
  at_ : ∀ (i : Nat) (s : Sl), Γ[i]? = some s → SlOk F ps σ[i]? s
/-- from (F, H) to (F2, H2), the objects at ps may change -/
structure Step (ps : List Addr) (F H F2 H2 : Hp) : Prop where
  ff : Same F F2
  fh : Same F2 H2
  hh : ∀ p o, H p = some o → p ∉ ps → H2 p = some o
  th : ∀ p, H p ≠ none → H2 p ≠ none
  av : ∀ p, F p = none → H p ≠ none → p ∉ ps → F2 p = none
section
variable {F H F1 H1 F2 H2 : Hp} {ps : List Addr} {μ μ1 μ2 : List MObj} {σ : L2.St} {Γ : List Sl}
theorem MOk.there {p : Addr} {o : MObj} (h : MOk F H p o) : H p ≠ none := by
  cases o with
  | lst ds => obtain ⟨_, xs, e, _⟩ := h; rw [e]; exact fun z => nomatch z
  | dct kvs => obtain ⟨_, xs, e, _⟩ := h; rw [e]; exact fun z => nomatch z
  | gone => exact h
theorem HeapOk.there (h : HeapOk F H ps μ) {p : Addr} (hp : p ∈ ps) : H p ≠ none := by
  obtain ⟨j, hj⟩ := List.getElem?_of_mem hp
  have hlt : j < μ.length := by
    rw [← h.len]
    exact (List.getElem?_eq_some_iff.mp hj).1
  exact (h.obj j p _ hj (List.getElem?_eq_getElem hlt)).there
theorem Step.refl (h : Same F H) : Step ps F H F H := ⟨Same.refl F, h, fun _ _ e _ => e, fun _ e => e, fun _ e _ _ => e⟩
theorem Step.trans (a : Step ps F H F1 H1) (b : Step ps F1 H1 F2 H2) : Step ps F H F2 H2 :=
  ⟨a.ff.trans b.ff, b.fh, fun p o e n => b.hh p o (a.hh p o e n) n, fun p e => b.th p (a.th p e), fun p e1 e2 n => b.av p (a.av p e1 e2 n) (a.th p e2) n⟩
theorem Gr.step (g : Gr F H F2 H2) : Step ps F H F2 H2 := ⟨g.ff, g.fh, fun p o e _ => g.hh p o e, fun p e => Same.ne g.hh e, fun p e1 e2 _ => g.av p e1 e2⟩
theorem Step.gr (s : Step [] F H F2 H2) : Gr F H F2 H2 := ⟨s.ff, s.fh, fun p o e => s.hh p o e (fun z => nomatch z), fun p e1 e2 => s.av p e1 e2 (fun z => nomatch z)⟩
theorem paired_imp {α β : Type} {R S : α → β → Prop} (f : ∀ a b, R a b → S a b) : ∀ {l : List α} {m : List β}, Paired R l m → Paired S l m
  | _, _, .nil => .nil
  | _, _, .cons h t => .cons (f _ _ h) (paired_imp f t)
theorem MOk.gr {p : Addr} {o : MObj} (h : MOk F H p o) (g : Gr F H F2 H2) : MOk F2 H2 p o := by
  cases o with
  | lst ds =>
    obtain ⟨f, xs, e, q⟩ := h
    exact ⟨g.av p f (by rw [e]; exact fun z => nomatch z), xs, g.hh _ _ e, q.up g.ff⟩
  | dct kvs =>
    obtain ⟨f, xs, e, q⟩ := h
    exact ⟨g.av p f (by rw [e]; exact fun z => nomatch z), xs, g.hh _ _ e, paired_imp (fun a b h => ⟨h.1, h.2.up g.ff⟩) q⟩
  | gone => exact Same.ne g.hh h
theorem HeapOk.gr (h : HeapOk F H ps μ) (g : Gr F H F2 H2) : HeapOk F2 H2 ps μ :=
  ⟨g.fh, h.len, h.nd, fun j p o a b => (h.obj j p o a b).gr g⟩
theorem SlOk.up {o : Option (Option V)} {s : Sl} (h : SlOk F ps o s) (e : Same F F2) : SlOk F2 ps o s := by
  cases s with
  | un => exact True.intro
  | dat d => obtain ⟨v, a, b⟩ := h; exact ⟨v, a, b.up e⟩
  | ob j => exact h
theorem EnvOk.up (h : EnvOk F ps σ Γ) (e : Same F F2) : EnvOk F2 ps σ Γ := ⟨h.len, fun i s a => (h.at_ i s a).up e⟩
theorem SlOk.more {o : Option (Option V)} {s : Sl} (h : SlOk F ps o s) (qs : List Addr) : SlOk F (ps ++ qs) o s := by
  cases s with
  | un => exact True.intro
  | dat d => exact h
  | ob j =>
    obtain ⟨p, a, b⟩ := h
    exact ⟨p, by rw [List.getElem?_append_left (List.getElem?_eq_some_iff.mp a).1]; exact a, b⟩
theorem EnvOk.more (h : EnvOk F ps σ Γ) (qs : List Addr) : EnvOk F (ps ++ qs) σ Γ := ⟨h.len, fun i s a => (h.at_ i s a).more qs⟩
theorem EnvOk.dat {i : Nat} {d : PyData} (h : EnvOk F ps σ Γ) (e : Γ[i]? = some (.dat d)) : ∃ v, σ[i]? = some (some v) ∧ Dq F v d := h.at_ i _ e
theorem EnvOk.ob {i j : Nat} (h : EnvOk F ps σ Γ) (e : Γ[i]? = some (.ob j)) : ∃ p, ps[j]? = some p ∧ σ[i]? = some (some (.ref p)) := h.at_ i _ e
/-- a value stored at a slot -/
theorem EnvOk.set {i : Nat} {v : V} {s : Sl} (h : EnvOk F ps σ Γ) (hs : SlOk F ps (some (some v)) s) : EnvOk F ps (σ.set i (some v)) (Γ.set i s) := by
  refine ⟨by rw [List.length_set, List.length_set]; exact h.len, fun j t e => ?_⟩
  by_cases z : i = j
  · subst z
    by_cases hi : i < Γ.length
    · rw [List.getElem?_set_self hi] at e
      rw [List.getElem?_set_self (by rw [h.len]; exact hi)]
      cases e
      exact hs
    · rw [List.getElem?_eq_none (by rw [List.length_set]; omega)] at e
      cases e
  · rw [List.getElem?_set_ne z] at e ⊢
    exact h.at_ j t e
end

/-! ### expressions -/
/-- e, evaluated where the slots are Γ and the mutable objects μ, gives a datum and leaves them as Q says -/
def FE (X : Cx) (e : Expr) (Γ : List Sl) (μ : List MObj) (Q : PyData → List MObj → Prop) : Prop :=
  ∀ (F H : Hp) (σ : L2.St) (ps : List Addr) (Q' : VK), EnvOk F ps σ Γ → HeapOk F H ps μ →
    (∀ v F2 H2 d μ2, HeapOk F2 H2 ps μ2 → Step ps F H F2 H2 → Dq F2 v d → Q d μ2 → Q' v H2) → WE X e σ H Q'
def FB (X : Cx) (e : Expr) (Γ : List Sl) (μ : List MObj) (Q : Bool → List MObj → Prop) : Prop :=
  ∀ (F H : Hp) (σ : L2.St) (ps : List Addr) (Q' : Bool → Hp → Prop), EnvOk F ps σ Γ → HeapOk F H ps μ →
    (∀ b F2 H2 μ2, HeapOk F2 H2 ps μ2 → Step ps F H F2 H2 → Q b μ2 → Q' b H2) → WT X e σ H Q'
/-- and, or as a test -/
def FW (X : Cx) (e : Expr) (Γ : List Sl) (μ : List MObj) (Q : Bool → List MObj → Prop) : Prop :=
  ∀ (F H : Hp) (σ : L2.St) (ps : List Addr) (Q' : Bool → Hp → Prop), EnvOk F ps σ Γ → HeapOk F H ps μ →
    (∀ b F2 H2 μ2, HeapOk F2 H2 ps μ2 → Step ps F H F2 H2 → Q b μ2 → Q' b H2) → WW X e σ H Q'
/-- arguments that are data -/
def FA (X : Cx) (es : List Expr) (Γ : List Sl) (μ : List MObj) (Q : List PyData → List MObj → Prop) : Prop :=
  ∀ (F H : Hp) (σ : L2.St) (ps : List Addr) (Q' : List V → Hp → Prop), EnvOk F ps σ Γ → HeapOk F H ps μ →
    (∀ vs F2 H2 ds μ2, HeapOk F2 H2 ps μ2 → Step ps F H F2 H2 → DqAll F2 vs ds → Q ds μ2 → Q' vs H2) → WA X es σ H Q'

/-- a two-place operation on data: g says what it gives -/
abbrev G2 := PyData → PyData → (PyData → Prop) → Prop
def RD (r : R2) (g : G2) : Prop := ∀ (d1 d2 : PyData) (Qd : PyData → Prop), g d1 d2 Qd → ∀ (F H : Hp) (x y : V) (Q' : VK), Same F H → Dq F x d1 → Dq F y d2 →
  (∀ v F2 H2 d, Gr F H F2 H2 → Dq F2 v d → Qd d → Q' v H2) → r x y H Q'
abbrev GC := List PyData → (PyData → Prop) → Prop
def RC (r : List V → Hp → VK → Prop) (g : GC) : Prop := ∀ (ds : List PyData) (Qd : PyData → Prop), g ds Qd → ∀ (F H : Hp) (xs : List V) (Q' : VK), Same F H → DqAll F xs ds →
  (∀ v F2 H2 d, Gr F H F2 H2 → Dq F2 v d → Qd d → Q' v H2) → r xs H Q'
def asB (Q : Bool → Prop) (d : PyData) : Prop := match d with
  | .bool k => Q k
  | _ => False
theorem asB_inv {Q : Bool → Prop} {d : PyData} (h : asB Q d) : ∃ k, d = .bool k ∧ Q k := by
  cases d <;> first | exact ⟨_, rfl, h⟩ | exact False.elim h

section
variable {X : Cx} {Γ : List Sl} {μ : List MObj} {Q : PyData → List MObj → Prop} {QB : Bool → List MObj → Prop} {QA : List PyData → List MObj → Prop} {a b c e : Expr} {es rest : List Expr} {pos : Pos}
theorem FE.imp {Q2 : PyData → List MObj → Prop} (h : FE X e Γ μ Q) (f : ∀ d m, Q d m → Q2 d m) : FE X e Γ μ Q2 := fun F H σ ps Q' en hp k =>
  h F H σ ps Q' en hp fun v F2 H2 d μ2 a b c q => k v F2 H2 d μ2 a b c (f d μ2 q)
theorem FB.imp {Q2 : Bool → List MObj → Prop} (h : FB X e Γ μ QB) (f : ∀ d m, QB d m → Q2 d m) : FB X e Γ μ Q2 := fun F H σ ps Q' en hp k =>
  h F H σ ps Q' en hp fun v F2 H2 μ2 a b q => k v F2 H2 μ2 a b (f v μ2 q)
/-- a name that holds a datum -/
theorem fe_name {i : Nat} {x : Str} {d : PyData} (hN : X.N[i]? = some x) (hv : Vis X.env.scope x) (hΓ : Γ[i]? = some (.dat d)) (h : Q d μ) (hd : (x == ("__debug__" : Str)) = false := by decide) (hcd : (x == ("__classdict__" : Str)) = false := by decide) :
    FE X (.Name x pos) Γ μ Q := fun F H σ ps Q' en hp k => by
  obtain ⟨v, e1, e2⟩ := en.dat hΓ
  exact WE.of (pe_var hN hv hd hcd) ⟨v, e1, k v F H d μ hp (Step.refl hp.same) e2 h⟩
theorem fe_int {i j} (h : Q (.int i) μ) : FE X (.Constant (.int i) j pos) Γ μ Q := fun F H σ ps Q' en hp k => WE.of pe_int (k _ F H _ μ hp (Step.refl hp.same) (.int i) h)
theorem fe_bool {i j} (h : Q (.bool i) μ) : FE X (.Constant (.bool i) j pos) Γ μ Q := fun F H σ ps Q' en hp k => WE.of pe_bl (k _ F H _ μ hp (Step.refl hp.same) (.bl i) h)
theorem fe_none {j} (h : Q .none μ) : FE X (.Constant .none j pos) Γ μ Q := fun F H σ ps Q' en hp k => WE.of pe_non (k _ F H _ μ hp (Step.refl hp.same) .non h)
/-- operators -/
theorem fe_two {r : R2} {g : G2} (hr : RD r g) {e : Expr} (hpe : ∀ {ta tb : TE}, PE X a ta → PE X b tb → PE X e (tOp r ta tb)) (h : FE X a Γ μ fun d1 μ1 => FE X b Γ μ1 fun d2 μ2 => g d1 d2 fun d => Q d μ2) : FE X e Γ μ Q := fun F H σ ps Q' en hp k => by
  refine WE.of (hpe pe_can pe_can) ?_
  refine h F H σ ps _ en hp fun v F1 H1 d1 μ1 hp1 s1 q1 h1 => ?_
  refine h1 F1 H1 σ ps _ (en.up s1.ff) hp1 fun w F2 H2 d2 μ2 hp2 s2 q2 h2 => ?_
  exact hr d1 d2 _ h2 F2 H2 v w Q' hp2.same (q1.up s2.ff) q2 fun u F3 H3 d g3 q3 hq => k u F3 H3 d μ2 (hp2.gr g3) ((s1.trans s2).trans g3.step) q3 hq
theorem fe_bin {op : Operator} {r : R2} {g : G2} (ho : OpR X (binaryOp op) r) (hr : RD r g) (h : FE X a Γ μ fun d1 μ1 => FE X b Γ μ1 fun d2 μ2 => g d1 d2 fun d => Q d μ2) : FE X (.BinOp a op b pos) Γ μ Q :=
  fe_two hr (fun ha hb => pe_op ho ha hb) h
theorem fe_cmpG {op : CmpOp} {r : R2} {g : G2} (ho : OpR X (compareOp op) r) (hr : RD r g) (hm : behindInMarks op b = false) (h : FE X a Γ μ fun d1 μ1 => FE X b Γ μ1 fun d2 μ2 => g d1 d2 fun d => Q d μ2) : FE X (.Compare a [op] [b] pos) Γ μ Q :=
  fe_two hr (fun ha hb => pe_cmpR ho ha hb hm) h
theorem fb_cmpG {op : CmpOp} {r : R2} {g : G2} (ho : OpR X (compareOp op) r) (hr : RD r g) (hm : behindInMarks op b = false) (h : FE X a Γ μ fun d1 μ1 => FE X b Γ μ1 fun d2 μ2 => g d1 d2 (asB fun k => QB k μ2)) : FB X (.Compare a [op] [b] pos) Γ μ QB := fun F H σ ps Q' en hp k => by
  refine WT.of (pt_cmpR ho pe_can pe_can hm) ?_
  refine h F H σ ps _ en hp fun v F1 H1 d1 μ1 hp1 s1 q1 h1 => ?_
  refine h1 F1 H1 σ ps _ (en.up s1.ff) hp1 fun w F2 H2 d2 μ2 hp2 s2 q2 h2 => ?_
  refine hr d1 d2 _ h2 F2 H2 v w _ hp2.same (q1.up s2.ff) q2 fun u F3 H3 d g3 q3 hq => ?_
  obtain ⟨c, rfl, hc⟩ := asB_inv hq
  exact ⟨c, q3.bool_inv, k c F3 H3 μ2 (hp2.gr g3) ((s1.trans s2).trans g3.step) hc⟩
/-- a op b op c -/
theorem fe_chain {op op' : CmpOp} {r r' : R2} {g g' : G2} (ho : OpR X (compareOp op) r) (ho' : OpR X (compareOp op') r') (hr : RD r g) (hr' : RD r' g') (hm : lastMarks [op, op'] [b, c] = false)
    (h : FE X a Γ μ fun d1 μ1 => FE X b Γ μ1 fun d2 μ2 => g d1 d2 (asB fun k => if k = true then FE X c Γ μ2 fun d3 μ3 => g' d2 d3 fun d => Q d μ3 else Q (.bool false) μ2)) : FE X (.Compare a [op, op'] [b, c] pos) Γ μ Q := fun F H σ ps Q' en hp k => by
  refine WE.of (pe_chain ho ho' pe_can pe_can pe_can hm) ?_
  refine h F H σ ps _ en hp fun v F1 H1 d1 μ1 hp1 s1 q1 h1 => ?_
  refine h1 F1 H1 σ ps _ (en.up s1.ff) hp1 fun w F2 H2 d2 μ2 hp2 s2 q2 h2 => ?_
  refine hr d1 d2 _ h2 F2 H2 v w _ hp2.same (q1.up s2.ff) q2 fun u F3 H3 d g3 q3 hq => ?_
  obtain ⟨j, rfl, hc⟩ := asB_inv hq
  refine ⟨j, q3.bool_inv, ?_⟩
  have s3 := (s1.trans s2).trans g3.step
  cases j with
  | true =>
    rw [if_pos rfl] at hc ⊢
    refine hc F3 H3 σ ps _ (en.up s3.ff) (hp2.gr g3) fun z F4 H4 d4 μ4 hp4 s4 q4 h4 => ?_
    exact hr' d2 d4 _ h4 F4 H4 w z Q' hp4.same (q2.up (g3.ff.trans s4.ff)) q4 fun u F5 H5 d g5 q5 hq => k u F5 H5 d μ4 (hp4.gr g5) ((s3.trans s4).trans g5.step) q5 hq
  | false =>
    rw [if_neg Bool.false_ne_true] at hc ⊢
    exact k _ F3 H3 _ μ2 (hp2.gr g3) s3 (.bl false) hc
/-- is None -/
theorem fe_isN {j p} (h : FE X a Γ μ fun d μ1 => Q (.bool (match d with | .none => true | _ => false)) μ1) : FE X (.Compare a [.Is] [.Constant .none j p] pos) Γ μ Q := fun F H σ ps Q' en hp k => by
  refine WE.of (pe_cmp (pc_isN pe_can)) ?_
  refine h F H σ ps _ en hp fun v F1 H1 d1 μ1 hp1 s1 q1 h1 => ?_
  refine k _ F1 H1 _ μ1 hp1 s1 (.bl _) ?_
  cases q1 <;> exact h1
theorem fb_isN {j p} (h : FE X a Γ μ fun d μ1 => QB (match d with | .none => true | _ => false) μ1) : FB X (.Compare a [.Is] [.Constant .none j p] pos) Γ μ QB := fun F H σ ps Q' en hp k => by
  refine WT.of (pt_cmp (pc_isN pe_can)) ?_
  refine h F H σ ps _ en hp fun v F1 H1 d1 μ1 hp1 s1 q1 h1 => ?_
  refine ⟨_, rfl, k _ F1 H1 μ1 hp1 s1 ?_⟩
  cases q1 <;> exact h1
theorem fe_notN {j p} (h : FE X a Γ μ fun d μ1 => Q (.bool (match d with | .none => false | _ => true)) μ1) : FE X (.Compare a [.IsNot] [.Constant .none j p] pos) Γ μ Q := fun F H σ ps Q' en hp k => by
  refine WE.of (pe_cmp (pc_notN pe_can)) ?_
  refine h F H σ ps _ en hp fun v F1 H1 d1 μ1 hp1 s1 q1 h1 => ?_
  refine k _ F1 H1 _ μ1 hp1 s1 (.bl _) ?_
  cases q1 <;> exact h1
theorem fb_notN {j p} (h : FE X a Γ μ fun d μ1 => QB (match d with | .none => false | _ => true) μ1) : FB X (.Compare a [.IsNot] [.Constant .none j p] pos) Γ μ QB := fun F H σ ps Q' en hp k => by
  refine WT.of (pt_cmp (pc_notN pe_can)) ?_
  refine h F H σ ps _ en hp fun v F1 H1 d1 μ1 hp1 s1 q1 h1 => ?_
  refine ⟨_, rfl, k _ F1 H1 μ1 hp1 s1 ?_⟩
  cases q1 <;> exact h1
/-- and, or, not as values -/
theorem fe_and (h : FE X a Γ μ fun d μ1 => asB (fun k => if k = true then FE X (.BoolOp .And (b :: rest) pos) Γ μ1 Q else Q (.bool false) μ1) d) : FE X (.BoolOp .And (a :: b :: rest) pos) Γ μ Q := fun F H σ ps Q' en hp k => by
  refine WE.of (pe_and pe_can pe_can) ?_
  refine h F H σ ps _ en hp fun v F1 H1 d1 μ1 hp1 s1 q1 h1 => ?_
  obtain ⟨j, rfl, hq⟩ := asB_inv h1
  refine ⟨j, q1.bool_inv, ?_⟩
  cases j with
  | true =>
    rw [if_pos rfl] at hq ⊢
    exact hq F1 H1 σ ps Q' (en.up s1.ff) hp1 fun u F2 H2 d μ2 hp2 s2 q2 h2 => k u F2 H2 d μ2 hp2 (s1.trans s2) q2 h2
  | false =>
    rw [if_neg Bool.false_ne_true] at hq ⊢
    exact k _ F1 H1 _ μ1 hp1 s1 (.bl false) hq
theorem fe_one {op} (h : FE X a Γ μ Q) : FE X (.BoolOp op [a] pos) Γ μ Q := fun F H σ ps Q' en hp k => WE.of (pe_one pe_can) (h F H σ ps Q' en hp k)
theorem fe_not (h : FE X a Γ μ fun d μ1 => asB (fun k => Q (.bool (!k)) μ1) d) : FE X (.UnaryOp .Not a pos) Γ μ Q := fun F H σ ps Q' en hp k => by
  refine WE.of (pe_not pe_can) ?_
  refine h F H σ ps _ en hp fun v F1 H1 d1 μ1 hp1 s1 q1 h1 => ?_
  obtain ⟨j, rfl, hq⟩ := asB_inv h1
  exact ⟨j, q1.bool_inv, k _ F1 H1 _ μ1 hp1 s1 (.bl _) hq⟩
theorem fe_neg (h : FE X a Γ μ fun d μ1 => ∃ i, d = .int i ∧ Q (.int (-i)) μ1) : FE X (.UnaryOp .USub a pos) Γ μ Q := fun F H σ ps Q' en hp k => by
  refine WE.of (pe_un un_neg pe_can) ?_
  refine h F H σ ps _ en hp fun v F1 H1 d1 μ1 hp1 s1 q1 h1 => ?_
  obtain ⟨j, rfl, hq⟩ := h1
  exact ⟨j, q1.int_inv, k _ F1 H1 _ μ1 hp1 s1 (.int _) hq⟩
/-- tests -/
theorem fb_val (h : FE X e Γ μ fun d μ1 => asB (fun k => QB k μ1) d) (he : ∀ whole, isTrue e X.env whole = (do let v ← whole; standAt e.pos; holding [v] (truthy v)) := by intro _; rfl) : FB X e Γ μ QB := fun F H σ ps Q' en hp k => by
  refine WT.of (pt_val pe_can he) ?_
  refine h F H σ ps _ en hp fun v F1 H1 d1 μ1 hp1 s1 q1 h1 => ?_
  obtain ⟨j, rfl, hq⟩ := asB_inv h1
  exact ⟨j, q1.bool_inv, k _ F1 H1 μ1 hp1 s1 hq⟩
theorem fb_not (h : FB X a Γ μ fun k μ1 => QB (!k) μ1) : FB X (.UnaryOp .Not a pos) Γ μ QB := fun F H σ ps Q' en hp k => by
  refine WT.of (pt_not pt_can) ?_
  exact h F H σ ps _ en hp fun b F1 H1 μ1 hp1 s1 h1 => k _ F1 H1 μ1 hp1 s1 h1
theorem fb_of (h : FW X e Γ μ QB) : FB X e Γ μ QB := fun F H σ ps Q' en hp k => (h F H σ ps Q' en hp k).wt
theorem fw_and1 (h : FB X a Γ μ QB) : FW X (.BoolOp .And [a] pos) Γ μ QB := fun F H σ ps Q' en hp k => WW.of (pw_and1 pt_can) (h F H σ ps Q' en hp k)
theorem fw_or1 (h : FB X a Γ μ QB) : FW X (.BoolOp .Or [a] pos) Γ μ QB := fun F H σ ps Q' en hp k => WW.of (pw_or1 pt_can) (h F H σ ps Q' en hp k)
theorem fw_and (h : FB X a Γ μ fun k μ1 => if k = true then FW X (.BoolOp .And (b :: rest) pos) Γ μ1 QB else QB false μ1) : FW X (.BoolOp .And (a :: b :: rest) pos) Γ μ QB := fun F H σ ps Q' en hp k => by
  refine WW.of (pw_and pt_can pw_can) ?_
  refine h F H σ ps _ en hp fun j F1 H1 μ1 hp1 s1 hq => ?_
  cases j with
  | true =>
    rw [if_pos rfl] at hq ⊢
    exact hq F1 H1 σ ps Q' (en.up s1.ff) hp1 fun u F2 H2 μ2 hp2 s2 h2 => k u F2 H2 μ2 hp2 (s1.trans s2) h2
  | false =>
    rw [if_neg Bool.false_ne_true] at hq ⊢
    exact k _ F1 H1 μ1 hp1 s1 hq
theorem fw_or (h : FB X a Γ μ fun k μ1 => if k = true then QB true μ1 else FW X (.BoolOp .Or (b :: rest) pos) Γ μ1 QB) : FW X (.BoolOp .Or (a :: b :: rest) pos) Γ μ QB := fun F H σ ps Q' en hp k => by
  refine WW.of (pw_or pt_can pw_can) ?_
  refine h F H σ ps _ en hp fun j F1 H1 μ1 hp1 s1 hq => ?_
  cases j with
  | false =>
    rw [if_neg Bool.false_ne_true] at hq ⊢
    exact hq F1 H1 σ ps Q' (en.up s1.ff) hp1 fun u F2 H2 μ2 hp2 s2 h2 => k u F2 H2 μ2 hp2 (s1.trans s2) h2
  | true =>
    rw [if_pos rfl] at hq ⊢
    exact k _ F1 H1 μ1 hp1 s1 hq
theorem fe_if (h : FB X c Γ μ fun k μ1 => if k = true then FE X a Γ μ1 Q else FE X b Γ μ1 Q) : FE X (.IfExp c a b pos) Γ μ Q := fun F H σ ps Q' en hp k => by
  refine WE.of (pe_ifExp pt_can pe_can pe_can) ?_
  refine h F H σ ps _ en hp fun j F1 H1 μ1 hp1 s1 hq => ?_
  have go : ∀ e, FE X e Γ μ1 Q → WE X e σ H1 Q' := fun e he => he F1 H1 σ ps Q' (en.up s1.ff) hp1 fun u F2 H2 d μ2 hp2 s2 q2 h2 => k u F2 H2 d μ2 hp2 (s1.trans s2) q2 h2
  cases j with
  | true => rw [if_pos rfl] at hq ⊢; exact go _ hq
  | false => rw [if_neg Bool.false_ne_true] at hq ⊢; exact go _ hq
/-- arguments, displays -/
theorem fa_nil (h : QA [] μ) : FA X [] Γ μ QA := fun F H σ ps Q' en hp k => WA.of pa_nil (k [] F H [] μ hp (Step.refl hp.same) .nil h)
theorem fa_cons (h : FE X a Γ μ fun d μ1 => FA X es Γ μ1 fun ds μ2 => QA (d :: ds) μ2) (hs : starEach (a :: es) X.env = (false, eval a X.env) :: starEach es X.env := by rfl) : FA X (a :: es) Γ μ QA := fun F H σ ps Q' en hp k => by
  refine WA.of (pa_cons pe_can pa_can hs) ?_
  refine h F H σ ps _ en hp fun v F1 H1 d1 μ1 hp1 s1 q1 h1 => ?_
  exact h1 F1 H1 σ ps _ (en.up s1.ff) hp1 fun vs F2 H2 ds μ2 hp2 s2 q2 h2 => k (v :: vs) F2 H2 (d1 :: ds) μ2 hp2 (s1.trans s2) (.cons (q1.up s2.ff) q2) h2
theorem line_of {n : Nat} (h : n ≤ 100000) : n ≤ sizeLine := Nat.le_trans h (by decide)
theorem line_lt {n : Nat} (h : n < 100000) : n < sizeLine := Nat.lt_of_lt_of_le h (by decide)
theorem fe_tup {x1} (h : FA X es Γ μ fun ds μ1 => ds.length ≤ 100000 ∧ Q (.tuple ds) μ1) : FE X (.Tuple es x1 pos) Γ μ Q := fun F H σ ps Q' en hp k => by
  refine WE.of (pe_tup pa_can) ?_
  refine h F H σ ps _ en hp fun vs F1 H1 ds μ1 hp1 s1 q1 h1 => ?_
  refine ⟨by rw [q1.length]; exact line_of h1.1, fun p hp2 => ?_⟩
  have g : Gr F1 H1 (upd F1 p (.tup vs)) (upd H1 p (.tup vs)) := Gr.new hp1.same hp2
  exact k _ _ _ _ μ1 (hp1.gr g) (s1.trans g.step) (.tup upd_same (q1.up g.ff)) h1.2
theorem fe_lst (h : FA X es Γ μ fun ds μ1 => ds.length ≤ 100000 ∧ Q (.list ds) μ1) : FE X (.List es pos) Γ μ Q := fun F H σ ps Q' en hp k => by
  refine WE.of (pe_lst pa_can) ?_
  refine h F H σ ps _ en hp fun vs F1 H1 ds μ1 hp1 s1 q1 h1 => ?_
  refine ⟨by rw [q1.length]; exact line_of h1.1, fun p hp2 => ?_⟩
  have g : Gr F1 H1 (upd F1 p (.lst vs)) (upd H1 p (.lst vs)) := Gr.new hp1.same hp2
  exact k _ _ _ _ μ1 (hp1.gr g) (s1.trans g.step) (.lst upd_same (q1.up g.ff)) h1.2
/-- subscripts -/
theorem fe_ixG {r : R2} {g : G2} (ho : IxR X r) (hr : RD r g) (hs : PlainIx b) (h : FE X a Γ μ fun d1 μ1 => FE X b Γ μ1 fun d2 μ2 => g d1 d2 fun d => Q d μ2) : FE X (.Subscript a b pos) Γ μ Q :=
  fe_two hr (fun ha hb => pe_ix ho ha hb hs) h
/-- calls of built-in functions and types -/
theorem fe_callB {id : String} {r : List V → Hp → VK → Prop} {g : GC} {x : Str} {p : Pos} (hc : CallR X (.builtin id) r) (hr : RC r g) (hg : Gl X x) (hm : X.mg x = none) (hv : bootBuiltins x = some (.builtin id))
    (h : FA X (e :: es) Γ μ fun ds μ1 => g ds fun d => Q d μ1) (hn : x ≠ "__name__" := by decide) (hdb : (x == ("__debug__" : Str)) = false := by decide)
    (he : starEach (e :: es) X.env = (false, eval e X.env) :: starEach es X.env := by rfl) (hpl : (backTo pos (starEach es X.env)).any (·.1) = false := by rfl) : FE X (.Call (.Name x p) (e :: es) [] pos) Γ μ Q := fun F H σ ps Q' en hp k => by
  refine WE.of (pe_callB hc hg hm hv pa_can hn hdb he hpl) ?_
  refine h F H σ ps _ en hp fun vs F1 H1 ds μ1 hp1 s1 q1 h1 => ?_
  exact hr ds _ h1 F1 H1 vs Q' hp1.same q1 fun u F3 H3 d g3 q3 hq => k u F3 H3 d μ1 (hp1.gr g3) (s1.trans g3.step) q3 hq
theorem fe_callTy {T : String} {r : List V → Hp → VK → Prop} {g : GC} {x : Str} {p : Pos} (hc : CallR X (.type T) r) (hr : RC r g) (hg : Gl X x) (hm : X.mg x = none) (hv : bootBuiltins x = some (.type T))
    (h : FA X (e :: es) Γ μ fun ds μ1 => g ds fun d => Q d μ1) (hn : x ≠ "__name__" := by decide) (hdb : (x == ("__debug__" : Str)) = false := by decide)
    (he : starEach (e :: es) X.env = (false, eval e X.env) :: starEach es X.env := by rfl) (hpl : (backTo pos (starEach es X.env)).any (·.1) = false := by rfl) : FE X (.Call (.Name x p) (e :: es) [] pos) Γ μ Q := fun F H σ ps Q' en hp k => by
  refine WE.of (pe_callTy hc hg hm hv pa_can hn hdb he hpl) ?_
  refine h F H σ ps _ en hp fun vs F1 H1 ds μ1 hp1 s1 q1 h1 => ?_
  exact hr ds _ h1 F1 H1 vs Q' hp1.same q1 fun u F3 H3 d g3 q3 hq => k u F3 H3 d μ1 (hp1.gr g3) (s1.trans g3.step) q3 hq
end

/-! ### reading the mutable lists, as data, where nothing is changed -/
mutual
/-- no list lies within -/
def flat : PyData → Bool
  | .list _ => false
  | .tuple ds => flatAll ds
  | _ => true
def flatAll : List PyData → Bool
  | [] => true
  | d :: ds => flat d && flatAll ds
end
/-- F without the objects at ps -/
def cutH' (F : Hp) (ps : List Addr) : Hp := fun p => if p ∈ ps then none else F p
mutual
theorem Dq.cut {F : Hp} {ps : List Addr} (hl : ∀ p ∈ ps, ∀ xs, F p ≠ some (.tup xs)) : ∀ (d : PyData) (v : V), flat d = true → Dq F v d → Dq (cutH' F ps) v d
  | .none, _, _, h => by cases h; exact .non
  | .bool b, _, _, h => by cases h; exact .bl b
  | .int i, _, _, h => by cases h; exact .int i
  | .str x, _, _, h => by cases h
  | .list ds, _, f, h => by rw [flat] at f; cases f
  | .tuple ds, _, f, h => by
    rw [flat] at f
    cases h with
    | tup h1 h2 =>
      refine .tup ?_ (DqAll.cut hl ds _ f h2)
      unfold cutH'
      rw [if_neg fun hp => hl _ hp _ h1]
      exact h1
  | .dict _, _, _, h => by cases h
theorem DqAll.cut {F : Hp} {ps : List Addr} (hl : ∀ p ∈ ps, ∀ xs, F p ≠ some (.tup xs)) : ∀ (ds : List PyData) (vs : List V), flatAll ds = true → DqAll F vs ds → DqAll (cutH' F ps) vs ds
  | [], _, _, h => by cases h; exact .nil
  | d :: ds, _, f, h => by
    rw [flatAll, Bool.and_eq_true] at f
    cases h with
    | cons h1 h2 => exact .cons (Dq.cut hl d _ f.1 h1) (DqAll.cut hl ds _ f.2 h2)
end
/-- the slots, the mutable lists read as data -/
def frz (μ : List MObj) (Γ : List Sl) : List Sl := Γ.map fun s => match s with
  | .ob j => (match μ[j]? with
    | some (.lst ds) => .dat (.list ds)
    | _ => .un)
  | s => s
/-- F with the mutable lists -/
def addM (F H : Hp) (ps : List Addr) (μ : List MObj) : Hp := fun p => match F p with
  | some o => some o
  | none => if p ∈ ps then (match H p with | some (.lst xs) => some (.lst xs) | _ => none) else none
section
variable {F H : Hp} {ps : List Addr} {μ : List MObj} {σ : L2.St} {Γ : List Sl}
theorem addM_l : Same F (addM F H ps μ) := fun p o e => by unfold addM; rw [e]
theorem addM_h (h : Same F H) : Same (addM F H ps μ) H := fun p o e => by
  unfold addM at e
  cases q : F p with
  | some u => rw [q] at e; exact (h p u q).trans e
  | none =>
    rw [q] at e
    simp only at e
    by_cases hp : p ∈ ps
    · rw [if_pos hp] at e
      cases r : H p with
      | none => rw [r] at e; cases e
      | some u =>
        rw [r] at e
        cases u <;> first | exact e | cases e
    · rw [if_neg hp] at e; cases e
theorem addM_at {p : Addr} {xs : List V} (hF : F p = none) (hp : p ∈ ps) (e : H p = some (.lst xs)) : addM F H ps μ p = some (.lst xs) := by
  unfold addM
  rw [hF]
  simp only
  rw [if_pos hp, e]
theorem EnvOk.frz (en : EnvOk F ps σ Γ) (hp : HeapOk F H ps μ) : EnvOk (addM F H ps μ) [] σ (frz μ Γ) := by
  refine ⟨by unfold K13.frz; rw [List.length_map]; exact en.len, fun i s e => ?_⟩
  unfold K13.frz at e
  rw [List.getElem?_map] at e
  cases q : Γ[i]? with
  | none => rw [q] at e; cases e
  | some t =>
    rw [q] at e
    have e' := Option.some.inj e
    have ok := en.at_ i t q
    cases t with
    | un => subst e'; exact True.intro
    | dat d =>
      subst e'
      obtain ⟨v, a, b⟩ := ok
      exact ⟨v, a, b.up addM_l⟩
    | ob j =>
      obtain ⟨p, a, b⟩ := ok
      simp only at e'
      cases r : μ[j]? with
      | none => rw [r] at e'; subst e'; exact True.intro
      | some o =>
        rw [r] at e'
        cases o with
        | lst ds =>
          subst e'
          obtain ⟨f, xs, h1, h2⟩ := hp.obj j p _ a r
          exact ⟨.ref p, b, .lst (addM_at f (List.mem_of_getElem? a) h1) (h2.up addM_l)⟩
        | dct kvs => subst e'; exact True.intro
        | gone => subst e'; exact True.intro
end
section
variable {X : Cx} {Γ : List Sl} {μ : List MObj} {e : Expr}
/-- back from the read: what was known of the objects is known still -/
theorem back_of {F H F2 H2 : Hp} {ps : List Addr} (hp : HeapOk F H ps μ) (g : Gr (addM F H ps μ) H F2 H2) : HeapOk (cutH' F2 (ps.filter fun p => (F p).isNone)) H2 ps μ ∧ Step ps F H (cutH' F2 (ps.filter fun p => (F p).isNone)) H2 ∧
    ∀ v d, flat d = true → (∀ (j : Nat), μ[j]? ≠ some .gone) → Dq F2 v d → Dq (cutH' F2 (ps.filter fun p => (F p).isNone)) v d := by
  have inF : ∀ p, p ∈ ps.filter (fun p => (F p).isNone) ↔ p ∈ ps ∧ F p = none := fun p => by
    rw [List.mem_filter, Option.isNone_iff_eq_none]
  have c1 : ∀ p, F p ≠ none → cutH' F2 (ps.filter fun p => (F p).isNone) p = F2 p := fun p h => by
    unfold cutH'
    rw [if_neg fun hm => h ((inF p).mp hm).2]
  have c2 : ∀ p, p ∈ ps → F p = none → cutH' F2 (ps.filter fun p => (F p).isNone) p = none := fun p h h2 => by
    unfold cutH'
    rw [if_pos ((inF p).mpr ⟨h, h2⟩)]
  have c3 : Same F (cutH' F2 (ps.filter fun p => (F p).isNone)) := fun p o h => by
    rw [c1 p (by rw [h]; exact fun z => nomatch z)]
    exact g.ff _ _ (addM_l _ _ h)
  have c4 : Same (cutH' F2 (ps.filter fun p => (F p).isNone)) H2 := fun p o h => by
    unfold cutH' at h
    split at h
    · cases h
    · exact g.fh _ _ h
  have c5 : ∀ p, F p = none → H p ≠ none → cutH' F2 (ps.filter fun p => (F p).isNone) p = none := fun p h1 h2 => by
    by_cases hm : p ∈ ps
    · exact c2 p hm h1
    · unfold cutH'
      rw [if_neg fun z => hm ((inF p).mp z).1]
      refine g.av p ?_ h2
      unfold addM
      rw [h1]
      simp only
      rw [if_neg hm]
  refine ⟨⟨c4, hp.len, hp.nd, fun j p o a b => ?_⟩, ⟨c3, c4, fun p o h _ => g.hh p o h, fun p h => Same.ne g.hh h, fun p e1 e2 _ => c5 p e1 e2⟩, fun v d f hng q => ?_⟩
  · have ok := hp.obj j p o a b
    have hm := List.mem_of_getElem? a
    cases o with
    | lst ds =>
      obtain ⟨f, xs, h1, h2⟩ := ok
      exact ⟨c2 p hm f, xs, g.hh _ _ h1, h2.up c3⟩
    | dct kvs =>
      obtain ⟨f, xs, h1, h2⟩ := ok
      exact ⟨c2 p hm f, xs, g.hh _ _ h1, paired_imp (fun a b h => ⟨h.1, h.2.up c3⟩) h2⟩
    | gone => exact Same.ne g.hh ok
  · refine Dq.cut (fun p hm xs z => ?_) d v f q
    obtain ⟨hm, hf⟩ := (inF p).mp hm
    obtain ⟨j, hj⟩ := List.getElem?_of_mem hm
    have hlt : j < μ.length := by rw [← hp.len]; exact (List.getElem?_eq_some_iff.mp hj).1
    have hμ : μ[j]? = some μ[j] := List.getElem?_eq_getElem hlt
    have ok := hp.obj j p _ hj hμ
    have hz := g.fh _ _ z
    have hng' := hng j
    rw [hμ] at hng'
    generalize μ[j] = o at ok hng'
    cases o with
    | lst ds => obtain ⟨f, ys, h1, h2⟩ := ok; rw [g.hh _ _ h1] at hz; cases hz
    | dct kvs => obtain ⟨f, ys, h1, h2⟩ := ok; rw [g.hh _ _ h1] at hz; cases hz
    | gone => exact hng' rfl
def noGone (μ : List MObj) : Bool := μ.all fun o => match o with | .gone => false | _ => true
theorem noGone_at (h : noGone μ = true) (j : Nat) : μ[j]? ≠ some .gone := fun e => by
  unfold noGone at h
  rw [List.all_eq_true] at h
  have := h _ (List.mem_of_getElem? e)
  simp at this
/-- an expression that changes nothing may read the mutable lists; its datum holds no list -/
theorem fe_frz {Q : PyData → List MObj → Prop} (hg : noGone μ = true) (h : FE X e (frz μ Γ) [] fun d _ => flat d = true ∧ Q d μ) : FE X e Γ μ Q := fun F H σ ps Q' en hp k => by
  refine h (addM F H ps μ) H σ [] Q' (en.frz hp) ⟨addM_h hp.same, rfl, List.nodup_nil, fun j p o a => by simp at a⟩ fun v F2 H2 d μ2 hp2 s q hq => ?_
  obtain ⟨b1, b2, b3⟩ := back_of hp s.gr
  exact k v _ H2 d μ b1 b2 (b3 v d hq.1 (noGone_at hg) q) hq.2
theorem fb_frz {Q : Bool → List MObj → Prop} (hg : noGone μ = true) (h : FB X e (frz μ Γ) [] fun d _ => Q d μ) : FB X e Γ μ Q := fun F H σ ps Q' en hp k => by
  refine h (addM F H ps μ) H σ [] Q' (en.frz hp) ⟨addM_h hp.same, rfl, List.nodup_nil, fun j p o a => by simp at a⟩ fun b F2 H2 μ2 hp2 s hq => ?_
  obtain ⟨b1, b2, b3⟩ := back_of hp s.gr
  exact k b _ H2 μ b1 b2 hq
end
end K13

set_option maxRecDepth 100000
set_option maxHeartbeats 4000000
set_option autoImplicit false
/-! The abstract layer, part 3: operators and built-in functions over data. -/
namespace K13
open PySem PySem.Spec PyProof.Rows L2

/-! ### int - bool -/
theorem same_reflected_ib_sub : reflectedDiffers (.type "int") (.type "bool") "sub" = pure false := by
  unfold reflectedDiffers
  show (typeLookup (.type "bool") (dunderR "sub") >>= fun rb => typeLookup (.type "int") (dunderR "sub") >>= fun ra => pure (rb.isSome && rb != ra)) = pure false
  rw [typeLookup_type, typeLookup_type, builtinLookup_eq_fast]; kernel_rfl
theorem sub_ib {prog : Program} {w : World} {A : Around} {E : Value → Shared → Prop} {s : Shared} {a : Int} {t : Tok} {b : Bool} {Q : Value → Shared → Prop} (h : Q (.int (a - if b = true then (1 : Int) else 0) s.toks) { s with toks := s.toks + 1 }) :
    wpAny (model prog w) A (binaryOp .Sub (.int a t) (.bool b)) Q E s :=
  binaryOp_sub_gives (op := .Sub) (T := "int") (U := "bool") (by decide) (typeIs_int s a t) rfl F.fills_int_sub F.fills_bool_sub isSubtype_bool_int same_reflected_ib_sub F.slot_int_sub F.entry_int_sub (F.args_int_sub_2 _ _)
    (AutoIntG7.int___sub___int_bool_0 a t b) trivial h
theorem op_sub_ib {X : Cx} : OpR X (binaryOp .Sub) (fun x y H Q => ∃ i k, x = .int i ∧ y = .bl k ∧ Q (.int (i - b2i k)) H) := by
  intro pins s σ H x y v u Q I rx ry h
  obtain ⟨i, k, rfl, rfl, q⟩ := h
  obtain ⟨t, rfl⟩ := rx
  cases ry
  exact sub_ib ⟨.int (i - b2i k), H, I.tok _, ⟨_, rfl⟩, q⟩

/-! ### operators on data -/
def gAdd : G2
  | .int i, .int j, Q => Q (.int (i + j))
  | .int i, .bool k, Q => Q (.int (i + b2i k))
  | .tuple xs, .tuple ys, Q => xs.length + ys.length ≤ 100000 ∧ Q (.tuple (xs ++ ys))
  | .list xs, .list ys, Q => xs.length + ys.length ≤ 100000 ∧ Q (.list (xs ++ ys))
  | _, _, _ => False
def gSub : G2
  | .int i, .int j, Q => Q (.int (i - j))
  | .int i, .bool k, Q => Q (.int (i - b2i k))
  | _, _, _ => False
def gMul : G2
  | .int i, .int j, Q => CMul i j ∧ Q (.int (i * j))
  | .tuple xs, .int k, Q => xs ≠ [] ∧ 2 ≤ k ∧ k ≤ 1000 ∧ xs.length ≤ 1000 ∧ Q (.tuple (List.replicate k.toNat xs).flatten)
  | .list xs, .int k, Q => 0 ≤ k ∧ k ≤ 1000 ∧ xs.length ≤ 100 ∧ Q (.list (List.replicate k.toNat xs).flatten)
  | _, _, _ => False
def gMod : G2
  | .int i, .int j, Q => 0 < j ∧ Q (.int (i % j))
  | _, _, _ => False
def gDiv : G2
  | .int i, .int j, Q => CDiv i j ∧ Q (.int (i / j))
  | _, _, _ => False
def gPow : G2
  | .int i, .int j, Q => CPow i j ∧ Q (.int (i ^ j.toNat))
  | _, _, _ => False
def gCmp (p : Int → Int → Bool) : G2
  | .int i, .int j, Q => Q (.bool (p i j))
  | _, _, _ => False
def gEq : G2
  | .int i, .int j, Q => Q (.bool (decide (i = j)))
  | .bool i, .bool j, Q => Q (.bool (decide (i = j)))
  | d, e, Q => (min d.depth e.depth ≤ 32) ∧ Q (.bool (PyData.eqv d e))
def gNe : G2
  | .int i, .int j, Q => Q (.bool (!decide (i = j)))
  | .bool i, .bool j, Q => Q (.bool (!decide (i = j)))
  | d, e, Q => (min d.depth e.depth ≤ 32) ∧ Q (.bool (!PyData.eqv d e))
def gIn : G2
  | d, .list ds, Q => d.depth ≤ 32 ∧ Q (.bool (ds.any fun y => PyData.eqv y d))
  | d, .tuple ds, Q => d.depth ≤ 32 ∧ Q (.bool (ds.any fun y => PyData.eqv y d))
  | _, _, _ => False
def gNin : G2
  | d, .list ds, Q => d.depth ≤ 32 ∧ Q (.bool (!ds.any fun y => PyData.eqv y d))
  | d, .tuple ds, Q => d.depth ≤ 32 ∧ Q (.bool (!ds.any fun y => PyData.eqv y d))
  | _, _, _ => False
def gIx : G2
  | .list ds, .int i, Q => ∃ d, atI ds i = some d ∧ Q d
  | .tuple ds, .int i, Q => ∃ d, atI ds i = some d ∧ Q d
  | _, _, _ => False

section
variable {H : Hp}
mutual
theorem Dq.plain : ∀ (d : PyData) (v : V), Dq H v d → d.plain = true
  | .none, _, _ => rfl
  | .bool b, _, _ => rfl
  | .int i, _, _ => rfl
  | .str x, _, _ => rfl
  | .list ds, _, h => by cases h with | lst h1 h2 => rw [PyData.plain]; exact DqAll.plain ds _ h2
  | .tuple ds, _, h => by cases h with | tup h1 h2 => rw [PyData.plain]; exact DqAll.plain ds _ h2
  | .dict _, _, h => by cases h
theorem DqAll.plain : ∀ (ds : List PyData) (vs : List V), DqAll H vs ds → PyData.plainAll ds = true
  | [], _, _ => rfl
  | d :: ds, _, h => by
    cases h with
    | cons h1 h2 => rw [PyData.plainAll, Dq.plain d _ h1, DqAll.plain ds _ h2]; rfl
end
end

theorem new_tup {F H : Hp} (s : Same F H) {p : Addr} (hp : H p = none) {xs : List V} {ds : List PyData} (q : DqAll F xs ds) : Gr F H (upd F p (.tup xs)) (upd H p (.tup xs)) ∧ Dq (upd F p (.tup xs)) (.ref p) (.tuple ds) := by
  have g : Gr F H (upd F p (.tup xs)) (upd H p (.tup xs)) := Gr.new s hp
  exact ⟨g, .tup upd_same (q.up g.ff)⟩
theorem new_lst {F H : Hp} (s : Same F H) {p : Addr} (hp : H p = none) {xs : List V} {ds : List PyData} (q : DqAll F xs ds) : Gr F H (upd F p (.lst xs)) (upd H p (.lst xs)) ∧ Dq (upd F p (.lst xs)) (.ref p) (.list ds) := by
  have g : Gr F H (upd F p (.lst xs)) (upd H p (.lst xs)) := Gr.new s hp
  exact ⟨g, .lst upd_same (q.up g.ff)⟩
/-- equality of data -/
def rEqP (K : PySem.W.Frag) : R2 := fun x y H Q => ∃ d e, Dp K H x d ∧ Dp K H y e ∧ d.plain = true ∧ e.plain = true ∧ min d.depth e.depth ≤ 32 ∧ Q (.bl (PyData.eqv d e)) H
def rNeP (K : PySem.W.Frag) : R2 := fun x y H Q => ∃ d e, Dp K H x d ∧ Dp K H y e ∧ d.plain = true ∧ e.plain = true ∧ min d.depth e.depth ≤ 32 ∧ Q (.bl (!PyData.eqv d e)) H
def rInP (K : PySem.W.Frag) (neg : Bool) : R2 := fun x y H Q => ∃ d ds, Dp K H x d ∧ (Dp K H y (.list ds) ∨ Dp K H y (.tuple ds)) ∧ d.plain = true ∧ PyData.plainAll ds = true ∧ d.depth ≤ 32 ∧
  Q (.bl (if neg then !ds.any fun z => PyData.eqv z d else ds.any fun z => PyData.eqv z d)) H
section
variable {X : Cx}
theorem op_eqP (hu : X.A.units + 64 < cLine) : OpR X (compareOp .Eq) (rEqP X.K) := by
  intro pins s σ H x y v u Q I rx ry h
  obtain ⟨d, e, hd, he, pd, pe, hz, q⟩ := h
  obtain ⟨as, r1⟩ := Dp.reads I d x v hd rx
  obtain ⟨bs, r2⟩ := Dp.reads I e y u he ry
  exact SeqAt.eq_plain r1 r2 pd pe (by omega) ⟨.bl _, H, I, rfl, q⟩
theorem op_neP (hu : X.A.units + 64 < cLine) : OpR X (compareOp .NotEq) (rNeP X.K) := by
  intro pins s σ H x y v u Q I rx ry h
  obtain ⟨d, e, hd, he, pd, pe, hz, q⟩ := h
  obtain ⟨as, r1⟩ := Dp.reads I d x v hd rx
  obtain ⟨bs, r2⟩ := Dp.reads I e y u he ry
  exact SeqAt.ne_plain r1 r2 pd pe (by omega) ⟨.bl _, H, I, rfl, q⟩
theorem op_inP (hu : X.A.units + 64 < cLine) : OpR X (compareOp .In) (rInP X.K false) := by
  intro pins s σ H x y v u Q I rx ry h
  obtain ⟨d, ds, hd, he, pd, pe, hz, q⟩ := h
  obtain ⟨as, r1⟩ := Dp.reads I d x v hd rx
  rcases he with he | he
  · obtain ⟨bs, r2⟩ := Dp.reads I _ y u he ry
    exact SeqAt.in_list_data r2 r1 pe pd (by omega) ⟨.bl _, H, I, rfl, q⟩
  · obtain ⟨bs, r2⟩ := Dp.reads I _ y u he ry
    exact SeqAt.in_tuple_data r2 r1 pe pd (by omega) ⟨.bl _, H, I, rfl, q⟩
theorem op_ninP (hu : X.A.units + 64 < cLine) : OpR X (compareOp .NotIn) (rInP X.K true) := by
  intro pins s σ H x y v u Q I rx ry h
  obtain ⟨d, ds, hd, he, pd, pe, hz, q⟩ := h
  obtain ⟨as, r1⟩ := Dp.reads I d x v hd rx
  rcases he with he | he
  · obtain ⟨bs, r2⟩ := Dp.reads I _ y u he ry
    exact SeqAt.notIn_list_data r2 r1 pe pd (by omega) ⟨.bl _, H, I, rfl, q⟩
  · obtain ⟨bs, r2⟩ := Dp.reads I _ y u he ry
    exact SeqAt.notIn_tuple_data r2 r1 pe pd (by omega) ⟨.bl _, H, I, rfl, q⟩
end
theorem rd_cmp (p : Int → Int → Bool) : RD (rI0 fun i j => .bl (p i j)) (gCmp p) := fun d1 d2 Qd h F H x y Q' s a b k => by
  cases a <;> cases b <;> first | exact ⟨_, _, rfl, rfl, k _ F H _ (Gr.refl s) (.bl _) h⟩ | exact False.elim h
theorem rd_add (K : PySem.W.Frag) : RD (fun x y H Q => rI0 (fun i j => .int (i + j)) x y H Q ∨ (∃ i k, x = .int i ∧ y = .bl k ∧ Q (.int (i + b2i k)) H) ∨ rCatA K x y H Q ∨ rCat x y H Q) gAdd := fun d1 d2 Qd h F H x y Q' s a b k => by
  cases a with
  | int i =>
    cases b with
    | int j => exact .inl ⟨_, _, rfl, rfl, k _ F H _ (Gr.refl s) (.int _) h⟩
    | bl j => exact .inr (.inl ⟨_, _, rfl, rfl, k _ F H _ (Gr.refl s) (.int _) h⟩)
    | _ => exact False.elim h
  | tup h1 h2 =>
    cases b with
    | tup h3 h4 =>
      refine .inr (.inr (.inl ⟨_, _, _, _, rfl, rfl, SqT.of (s _ _ h1), SqT.of (s _ _ h3), by rw [h2.length, h4.length]; exact line_of h.1, fun e => ?_, fun e e' => ?_, fun e e' p hp => ?_⟩))
      · refine k _ F H _ (Gr.refl s) (.tup h3 ?_) h.2
        rw [h2.nil_iff.mp e]
        exact h4
      · refine k _ F H _ (Gr.refl s) (.tup h1 ?_) h.2
        rw [h4.nil_iff.mp e', List.append_nil]
        exact h2
      · obtain ⟨g, q⟩ := new_tup s hp (h2.append h4)
        exact k _ _ _ _ g q h.2
    | _ => exact False.elim h
  | lst h1 h2 =>
    cases b with
    | lst h3 h4 =>
      refine .inr (.inr (.inr ⟨_, _, _, _, rfl, rfl, s _ _ h1, s _ _ h3, by rw [h2.length, h4.length]; exact line_of h.1, fun p hp => ?_⟩))
      obtain ⟨g, q⟩ := new_lst s hp (h2.append h4)
      exact k _ _ _ _ g q h.2
    | _ => exact False.elim h
  | _ => exact False.elim h
theorem rd_sub : RD (fun x y H Q => rI0 (fun i j => .int (i - j)) x y H Q ∨ (∃ i k, x = .int i ∧ y = .bl k ∧ Q (.int (i - b2i k)) H)) gSub := fun d1 d2 Qd h F H x y Q' s a b k => by
  cases a with
  | int i =>
    cases b with
    | int j => exact .inl ⟨_, _, rfl, rfl, k _ F H _ (Gr.refl s) (.int _) h⟩
    | bl j => exact .inr ⟨_, _, rfl, rfl, k _ F H _ (Gr.refl s) (.int _) h⟩
    | _ => exact False.elim h
  | _ => exact False.elim h
theorem DqAll.rep {H : Hp} {xs : List V} {ds : List PyData} (h : DqAll H xs ds) : ∀ n : Nat, DqAll H (List.replicate n xs).flatten (List.replicate n ds).flatten
  | 0 => .nil
  | n + 1 => by
    rw [List.replicate_succ, List.replicate_succ, List.flatten_cons, List.flatten_cons]
    exact h.append (DqAll.rep h n)
theorem rd_mul (K : PySem.W.Frag) : RD (fun x y H Q => rI CMul (fun i j => .int (i * j)) x y H Q ∨ rRepT K x y H Q ∨ rRep x y H Q) gMul := fun d1 d2 Qd h F H x y Q' s a b k => by
  cases b with
  | int j =>
    cases a with
    | int i => exact .inl ⟨_, _, rfl, rfl, h.1, k _ F H _ (Gr.refl s) (.int _) h.2⟩
    | tup h1 h2 =>
      refine .inr (.inl ⟨_, _, _, rfl, rfl, SqT.of (s _ _ h1), fun e => h.1 (h2.nil_iff.mp e), h.2.1, h.2.2.1, by rw [h2.length]; exact h.2.2.2.1, fun p hp => ?_⟩)
      obtain ⟨g, q⟩ := new_tup s hp (h2.rep j.toNat)
      exact k _ _ _ _ g q h.2.2.2.2
    | lst h1 h2 =>
      refine .inr (.inr ⟨_, _, _, rfl, rfl, s _ _ h1, ?_, ?_, ?_, fun p hp => ?_⟩)
      · have := h.1; omega
      · have := h.2.1; omega
      · rw [h2.length]
        have q1 := h.2.1
        have q2 := h.2.2.1
        refine line_of (Nat.le_trans (Nat.mul_le_mul q2 (show j.toNat ≤ 1000 by omega)) (by decide))
      · obtain ⟨g, q⟩ := new_lst s hp (h2.rep j.toNat)
        exact k _ _ _ _ g q h.2.2.2
    | _ => exact False.elim h
  | _ => cases a <;> exact False.elim h
theorem rd_mod : RD (rI (fun _ j => 0 < j) fun i j => .int (i % j)) gMod := fun d1 d2 Qd h F H x y Q' s a b k => by
  cases a <;> cases b <;> first | exact ⟨_, _, rfl, rfl, h.1, k _ F H _ (Gr.refl s) (.int _) h.2⟩ | exact False.elim h
theorem rd_div : RD (rI CDiv fun i j => .int (i / j)) gDiv := fun d1 d2 Qd h F H x y Q' s a b k => by
  cases a <;> cases b <;> first | exact ⟨_, _, rfl, rfl, h.1, k _ F H _ (Gr.refl s) (.int _) h.2⟩ | exact False.elim h
theorem rd_pow : RD (rI CPow fun i j => .int (i ^ j.toNat)) gPow := fun d1 d2 Qd h F H x y Q' s a b k => by
  cases a <;> cases b <;> first | exact ⟨_, _, rfl, rfl, h.1, k _ F H _ (Gr.refl s) (.int _) h.2⟩ | exact False.elim h
theorem rd_eq (K : PySem.W.Frag) : RD (fun x y H Q => rEq x y H Q ∨ rEqP K x y H Q) gEq := fun d1 d2 Qd h F H x y Q' s a b k => by
  have pa := Dq.plain _ _ a
  have pb := Dq.plain _ _ b
  have ka := (a.up s).toDp K
  have kb := (b.up s).toDp K
  have gen : (min d1.depth d2.depth ≤ 32 ∧ Qd (.bool (PyData.eqv d1 d2))) → (rEq x y H Q' ∨ rEqP K x y H Q') := fun h => .inr ⟨_, _, ka, kb, pa, pb, h.1, k _ F H _ (Gr.refl s) (.bl _) h.2⟩
  cases a <;> cases b <;> first
    | exact gen h
    | (refine .inl ⟨rfl, k _ F H _ (Gr.refl s) (.bl _) ?_⟩
       simp only [V.int.injEq, V.bl.injEq]
       exact h)
theorem rd_ne (K : PySem.W.Frag) : RD (fun x y H Q => rNe x y H Q ∨ rNeP K x y H Q) gNe := fun d1 d2 Qd h F H x y Q' s a b k => by
  have pa := Dq.plain _ _ a
  have pb := Dq.plain _ _ b
  have ka := (a.up s).toDp K
  have kb := (b.up s).toDp K
  have gen : (min d1.depth d2.depth ≤ 32 ∧ Qd (.bool (!PyData.eqv d1 d2))) → (rNe x y H Q' ∨ rNeP K x y H Q') := fun h => .inr ⟨_, _, ka, kb, pa, pb, h.1, k _ F H _ (Gr.refl s) (.bl _) h.2⟩
  cases a <;> cases b <;> first
    | exact gen h
    | (refine .inl ⟨rfl, k _ F H _ (Gr.refl s) (.bl _) ?_⟩
       simp only [V.int.injEq, V.bl.injEq]
       exact h)
theorem rd_in (K : PySem.W.Frag) : RD (rInP K false) gIn := fun d1 d2 Qd h F H x y Q' s a b k => by
  have pa := Dq.plain _ _ a
  have ka := (a.up s).toDp K
  have kb := (b.up s).toDp K
  cases b with
  | lst h1 h2 =>
    rename_i a0 xs ds
    have h' : d1.depth ≤ 32 ∧ Qd (.bool (ds.any fun y => PyData.eqv y d1)) := by cases d1 <;> exact h
    exact ⟨_, _, ka, .inl kb, pa, DqAll.plain _ _ h2, h'.1, k _ F H _ (Gr.refl s) (.bl _) h'.2⟩
  | tup h1 h2 =>
    rename_i a0 xs ds
    have h' : d1.depth ≤ 32 ∧ Qd (.bool (ds.any fun y => PyData.eqv y d1)) := by cases d1 <;> exact h
    exact ⟨_, _, ka, .inr kb, pa, DqAll.plain _ _ h2, h'.1, k _ F H _ (Gr.refl s) (.bl _) h'.2⟩
  | _ => cases d1 <;> exact False.elim h
theorem rd_nin (K : PySem.W.Frag) : RD (rInP K true) gNin := fun d1 d2 Qd h F H x y Q' s a b k => by
  have pa := Dq.plain _ _ a
  have ka := (a.up s).toDp K
  have kb := (b.up s).toDp K
  cases b with
  | lst h1 h2 =>
    rename_i a0 xs ds
    have h' : d1.depth ≤ 32 ∧ Qd (.bool (!ds.any fun y => PyData.eqv y d1)) := by cases d1 <;> exact h
    exact ⟨_, _, ka, .inl kb, pa, DqAll.plain _ _ h2, h'.1, k _ F H _ (Gr.refl s) (.bl _) h'.2⟩
  | tup h1 h2 =>
    rename_i a0 xs ds
    have h' : d1.depth ≤ 32 ∧ Qd (.bool (!ds.any fun y => PyData.eqv y d1)) := by cases d1 <;> exact h
    exact ⟨_, _, ka, .inr kb, pa, DqAll.plain _ _ h2, h'.1, k _ F H _ (Gr.refl s) (.bl _) h'.2⟩
  | _ => cases d1 <;> exact False.elim h
theorem ixN_get {n : Nat} {i : Int} {j : Nat} {α : Type} {xs : List α} (hn : xs.length = n) (h : ixN n i = some j) : atI xs i = xs[j]? := by
  unfold atI
  rw [hn, h]
  rfl
theorem DqAll.atI {F : Hp} {xs : List V} {ds : List PyData} {i : Int} {d : PyData} (h : DqAll F xs ds) (e : L2.atI ds i = some d) : ∃ v, L2.atI xs i = some v ∧ Dq F v d := by
  unfold L2.atI at e ⊢
  rw [h.length]
  cases q : ixN ds.length i with
  | none => rw [q] at e; cases e
  | some j =>
    rw [q] at e
    exact h.get (i := j) e
theorem rd_ix (K : PySem.W.Frag) : RD (fun x y H Q => rIxL K x y H Q ∨ rIxT K x y H Q) gIx := fun d1 d2 Qd h F H x y Q' s a b k => by
  cases b with
  | int j =>
    cases a with
    | lst h1 h2 =>
      obtain ⟨d, e, q⟩ := h
      obtain ⟨v, e2, q2⟩ := h2.atI e
      exact .inl ⟨_, _, _, _, rfl, rfl, SqL.of (s _ _ h1), e2, k _ F H _ (Gr.refl s) q2 q⟩
    | tup h1 h2 =>
      obtain ⟨d, e, q⟩ := h
      obtain ⟨v, e2, q2⟩ := h2.atI e
      exact .inr ⟨_, _, _, _, rfl, rfl, SqT.of (s _ _ h1), e2, k _ F H _ (Gr.refl s) q2 q⟩
    | _ => exact False.elim h
  | _ => cases a <;> exact False.elim h

/-! ### the rules, by operator -/
section
variable {X : Cx} {Γ : List Sl} {μ : List MObj} {Q : PyData → List MObj → Prop} {QB : Bool → List MObj → Prop} {a b c e : Expr} {es : List Expr} {pos : Pos} {k : Nat}
theorem fe_add (h : FE X a Γ μ fun d1 μ1 => FE X b Γ μ1 fun d2 μ2 => gAdd d1 d2 fun d => Q d μ2) : FE X (.BinOp a .Add b pos) Γ μ Q := fe_bin (OpR.or op_add (OpR.or op_add_ib (OpR.or op_catA op_cat))) (rd_add X.K) h
theorem fe_sub (h : FE X a Γ μ fun d1 μ1 => FE X b Γ μ1 fun d2 μ2 => gSub d1 d2 fun d => Q d μ2) : FE X (.BinOp a .Sub b pos) Γ μ Q := fe_bin (OpR.or op_sub op_sub_ib) rd_sub h
theorem fe_mul (h : FE X a Γ μ fun d1 μ1 => FE X b Γ μ1 fun d2 μ2 => gMul d1 d2 fun d => Q d μ2) : FE X (.BinOp a .Mult b pos) Γ μ Q := fe_bin (OpR.or op_mul (OpR.or op_repT op_rep)) (rd_mul X.K) h
theorem fe_mod (h : FE X a Γ μ fun d1 μ1 => FE X b Γ μ1 fun d2 μ2 => gMod d1 d2 fun d => Q d μ2) : FE X (.BinOp a .Mod b pos) Γ μ Q := fe_bin op_mod rd_mod h
theorem fe_div (h : FE X a Γ μ fun d1 μ1 => FE X b Γ μ1 fun d2 μ2 => gDiv d1 d2 fun d => Q d μ2) : FE X (.BinOp a .FloorDiv b pos) Γ μ Q := fe_bin op_fdiv rd_div h
theorem fe_pow (h : FE X a Γ μ fun d1 μ1 => FE X b Γ μ1 fun d2 μ2 => gPow d1 d2 fun d => Q d μ2) : FE X (.BinOp a .Pow b pos) Γ μ Q := fe_bin op_pow rd_pow h
theorem fe_ix (h : FE X a Γ μ fun d1 μ1 => FE X b Γ μ1 fun d2 μ2 => gIx d1 d2 fun d => Q d μ2) (hs : PlainIx b := by intro _ _; rfl) : FE X (.Subscript a b pos) Γ μ Q := fe_ixG (IxR.or ix_list ix_tup) (rd_ix X.K) hs h
theorem units_of {A : Around} (hr : Room k A) : A.units + 64 < cLine := hr.units
theorem fe_lt (h : FE X a Γ μ fun d1 μ1 => FE X b Γ μ1 fun d2 μ2 => gCmp (fun i j => decide (i < j)) d1 d2 fun d => Q d μ2) : FE X (.Compare a [.Lt] [b] pos) Γ μ Q := fe_cmpG op_lt (rd_cmp _) (nomark _) h
theorem fe_le (h : FE X a Γ μ fun d1 μ1 => FE X b Γ μ1 fun d2 μ2 => gCmp (fun i j => decide (i ≤ j)) d1 d2 fun d => Q d μ2) : FE X (.Compare a [.LtE] [b] pos) Γ μ Q := fe_cmpG op_le (rd_cmp _) (nomark _) h
theorem fe_gt (h : FE X a Γ μ fun d1 μ1 => FE X b Γ μ1 fun d2 μ2 => gCmp (fun i j => decide (j < i)) d1 d2 fun d => Q d μ2) : FE X (.Compare a [.Gt] [b] pos) Γ μ Q := fe_cmpG op_gt (rd_cmp _) (nomark _) h
theorem fe_ge (h : FE X a Γ μ fun d1 μ1 => FE X b Γ μ1 fun d2 μ2 => gCmp (fun i j => decide (j ≤ i)) d1 d2 fun d => Q d μ2) : FE X (.Compare a [.GtE] [b] pos) Γ μ Q := fe_cmpG op_ge (rd_cmp _) (nomark _) h
theorem fe_eq (hr : Room k X.A) (h : FE X a Γ μ fun d1 μ1 => FE X b Γ μ1 fun d2 μ2 => gEq d1 d2 fun d => Q d μ2) : FE X (.Compare a [.Eq] [b] pos) Γ μ Q := fe_cmpG (OpR.or op_eq (op_eqP hr.units)) (rd_eq X.K) (nomark _) h
theorem fe_ne (hr : Room k X.A) (h : FE X a Γ μ fun d1 μ1 => FE X b Γ μ1 fun d2 μ2 => gNe d1 d2 fun d => Q d μ2) : FE X (.Compare a [.NotEq] [b] pos) Γ μ Q := fe_cmpG (OpR.or op_ne (op_neP hr.units)) (rd_ne X.K) (nomark _) h
theorem fe_in (hr : Room k X.A) (h : FE X a Γ μ fun d1 μ1 => FE X b Γ μ1 fun d2 μ2 => gIn d1 d2 fun d => Q d μ2) (hm : behindInMarks .In b = false := by rfl) : FE X (.Compare a [.In] [b] pos) Γ μ Q := fe_cmpG (op_inP hr.units) (rd_in X.K) hm h
theorem fe_nin (hr : Room k X.A) (h : FE X a Γ μ fun d1 μ1 => FE X b Γ μ1 fun d2 μ2 => gNin d1 d2 fun d => Q d μ2) (hm : behindInMarks .NotIn b = false := by rfl) : FE X (.Compare a [.NotIn] [b] pos) Γ μ Q := fe_cmpG (op_ninP hr.units) (rd_nin X.K) hm h
theorem fb_lt (h : FE X a Γ μ fun d1 μ1 => FE X b Γ μ1 fun d2 μ2 => gCmp (fun i j => decide (i < j)) d1 d2 (asB fun z => QB z μ2)) : FB X (.Compare a [.Lt] [b] pos) Γ μ QB := fb_cmpG op_lt (rd_cmp _) (nomark _) h
theorem fb_le (h : FE X a Γ μ fun d1 μ1 => FE X b Γ μ1 fun d2 μ2 => gCmp (fun i j => decide (i ≤ j)) d1 d2 (asB fun z => QB z μ2)) : FB X (.Compare a [.LtE] [b] pos) Γ μ QB := fb_cmpG op_le (rd_cmp _) (nomark _) h
theorem fb_gt (h : FE X a Γ μ fun d1 μ1 => FE X b Γ μ1 fun d2 μ2 => gCmp (fun i j => decide (j < i)) d1 d2 (asB fun z => QB z μ2)) : FB X (.Compare a [.Gt] [b] pos) Γ μ QB := fb_cmpG op_gt (rd_cmp _) (nomark _) h
theorem fb_ge (h : FE X a Γ μ fun d1 μ1 => FE X b Γ μ1 fun d2 μ2 => gCmp (fun i j => decide (j ≤ i)) d1 d2 (asB fun z => QB z μ2)) : FB X (.Compare a [.GtE] [b] pos) Γ μ QB := fb_cmpG op_ge (rd_cmp _) (nomark _) h
theorem fb_eq (hr : Room k X.A) (h : FE X a Γ μ fun d1 μ1 => FE X b Γ μ1 fun d2 μ2 => gEq d1 d2 (asB fun z => QB z μ2)) : FB X (.Compare a [.Eq] [b] pos) Γ μ QB := fb_cmpG (OpR.or op_eq (op_eqP hr.units)) (rd_eq X.K) (nomark _) h
theorem fb_ne (hr : Room k X.A) (h : FE X a Γ μ fun d1 μ1 => FE X b Γ μ1 fun d2 μ2 => gNe d1 d2 (asB fun z => QB z μ2)) : FB X (.Compare a [.NotEq] [b] pos) Γ μ QB := fb_cmpG (OpR.or op_ne (op_neP hr.units)) (rd_ne X.K) (nomark _) h
theorem fb_in (hr : Room k X.A) (h : FE X a Γ μ fun d1 μ1 => FE X b Γ μ1 fun d2 μ2 => gIn d1 d2 (asB fun z => QB z μ2)) (hm : behindInMarks .In b = false := by rfl) : FB X (.Compare a [.In] [b] pos) Γ μ QB := fb_cmpG (op_inP hr.units) (rd_in X.K) hm h
theorem fb_nin (hr : Room k X.A) (h : FE X a Γ μ fun d1 μ1 => FE X b Γ μ1 fun d2 μ2 => gNin d1 d2 (asB fun z => QB z μ2)) (hm : behindInMarks .NotIn b = false := by rfl) : FB X (.Compare a [.NotIn] [b] pos) Γ μ QB := fb_cmpG (op_ninP hr.units) (rd_nin X.K) hm h
/-- 0 <= x < n; a < h <= b; a > h >= b -/
theorem fe_le_lt (h : FE X a Γ μ fun d1 μ1 => FE X b Γ μ1 fun d2 μ2 => gCmp (fun i j => decide (i ≤ j)) d1 d2 (asB fun z => if z = true then FE X c Γ μ2 fun d3 μ3 => gCmp (fun i j => decide (i < j)) d2 d3 fun d => Q d μ3 else Q (.bool false) μ2)) (hm : lastMarks [.LtE, .Lt] [b, c] = false := by with_unfolding_all rfl) :
    FE X (.Compare a [.LtE, .Lt] [b, c] pos) Γ μ Q := fe_chain op_le op_lt (rd_cmp _) (rd_cmp _) hm h
theorem fe_lt_le (h : FE X a Γ μ fun d1 μ1 => FE X b Γ μ1 fun d2 μ2 => gCmp (fun i j => decide (i < j)) d1 d2 (asB fun z => if z = true then FE X c Γ μ2 fun d3 μ3 => gCmp (fun i j => decide (i ≤ j)) d2 d3 fun d => Q d μ3 else Q (.bool false) μ2)) (hm : lastMarks [.Lt, .LtE] [b, c] = false := by with_unfolding_all rfl) :
    FE X (.Compare a [.Lt, .LtE] [b, c] pos) Γ μ Q := fe_chain op_lt op_le (rd_cmp _) (rd_cmp _) hm h
theorem fe_gt_ge (h : FE X a Γ μ fun d1 μ1 => FE X b Γ μ1 fun d2 μ2 => gCmp (fun i j => decide (j < i)) d1 d2 (asB fun z => if z = true then FE X c Γ μ2 fun d3 μ3 => gCmp (fun i j => decide (j ≤ i)) d2 d3 fun d => Q d μ3 else Q (.bool false) μ2)) (hm : lastMarks [.Gt, .GtE] [b, c] = false := by with_unfolding_all rfl) :
    FE X (.Compare a [.Gt, .GtE] [b, c] pos) Γ μ Q := fe_chain op_gt op_ge (rd_cmp _) (rd_cmp _) hm h

/-! ### slices -/
def cutD (ds : List PyData) (lo hi : Option Int) : List PyData := (ds.drop (HT.sIx ds.length 0 lo)).take (HT.sIx ds.length ds.length hi - HT.sIx ds.length 0 lo)
def gSl (d : PyData) (lo hi : Option Int) (Q : PyData → Prop) : Prop := match d with
  | .tuple ds => Q (.tuple (cutD ds lo hi))
  | .list ds => Q (.list (cutD ds lo hi))
  | _ => False
def FO (X : Cx) (e : Option Expr) (Γ : List Sl) (μ : List MObj) (Q : Option Int → List MObj → Prop) : Prop := match e with
  | none => Q none μ
  | some e => FE X e Γ μ fun d μ1 => ∃ i, d = .int i ∧ Q (some i) μ1
theorem DqAll.cutV {F : Hp} {xs : List V} {ds : List PyData} (h : DqAll F xs ds) (lo hi : Option Int) : DqAll F (L2.cutV xs lo hi) (cutD ds lo hi) := by
  unfold L2.cutV cutD
  rw [h.length]
  exact (h.drop _).take _
def WO (X : Cx) (e : Option Expr) : TO := fun σ H Q => ∀ (pins : List (Addr × Obj)) (s : Shared), Inv X pins σ H s → wpAny (model X.prog X.w) X.A (evalPart e X.env) (fun u s' => ∃ o H', Inv X pins σ H' s' ∧ IsPart u o ∧ Q o H') X.xe s
theorem po_can {e : Option Expr} : PO X e (WO X e) := ⟨fun pins s _ _ _ I h => h pins s I⟩
theorem fo_wo {e : Option Expr} {QO : Option Int → List MObj → Prop} (h : FO X e Γ μ QO) (F H : Hp) (σ : L2.St) (ps : List Addr) (Q' : Option Int → Hp → Prop) (en : EnvOk F ps σ Γ) (hp : HeapOk F H ps μ)
    (k : ∀ o F2 H2 μ2, HeapOk F2 H2 ps μ2 → Step ps F H F2 H2 → QO o μ2 → Q' o H2) : WO X e σ H Q' := by
  cases e with
  | none => exact fun pins s I => po_none.run pins s σ H Q' I (k none F H μ hp (Step.refl hp.same) h)
  | some e =>
    intro pins s I
    refine (po_some (pe_can (X := X) (e := e))).run pins s σ H Q' I ?_
    refine h F H σ ps _ en hp fun v F1 H1 d1 μ1 hp1 s1 q1 h1 => ?_
    obtain ⟨i, rfl, hi⟩ := h1
    exact ⟨i, q1.int_inv, k _ F1 H1 μ1 hp1 s1 hi⟩
theorem fe_slice {lo hi : Option Expr} {p2} (h : FE X a Γ μ fun d μ1 => FO X lo Γ μ1 fun l μ2 => FO X hi Γ μ2 fun u μ3 => gSl d l u fun d' => Q d' μ3) : FE X (.Subscript a (.Slice lo hi none p2) pos) Γ μ Q := fun F H σ ps Q' en hp k => by
  refine WE.of (pe_slice (SlR.or sl_list sl_tupA) pe_can po_can po_can) ?_
  refine h F H σ ps _ en hp fun v F1 H1 d1 μ1 hp1 s1 q1 h1 => ?_
  refine fo_wo h1 F1 H1 σ ps _ (en.up s1.ff) hp1 fun l F2 H2 μ2 hp2 s2 h2 => ?_
  refine fo_wo h2 F2 H2 σ ps _ (en.up (s1.ff.trans s2.ff)) hp2 fun u F3 H3 μ3 hp3 s3 h3 => ?_
  have q3 := (q1.up s2.ff).up s3.ff
  have st := (s1.trans s2).trans s3
  cases q3 with
  | lst e1 e2 =>
    rename_i a0 xs ds
    refine .inl ⟨_, _, rfl, SqL.of (hp3.same _ _ e1), fun p np => ?_⟩
    obtain ⟨g, q⟩ := new_lst hp3.same np (e2.cutV l u)
    exact k _ _ _ _ μ3 (hp3.gr g) (st.trans g.step) q h3
  | tup e1 e2 =>
    rename_i a0 xs ds
    have hl := e2.length
    refine .inr ⟨_, _, rfl, SqT.of (hp3.same _ _ e1), fun hw => ?_, fun _ p np => ?_⟩
    · refine k _ F3 H3 _ μ3 hp3 st (.tup e1 ?_) h3
      have : cutD ds l u = ds := by
        unfold cutD
        rw [← hl, hw.1, hw.2, List.drop_zero, Nat.sub_zero, hl, List.take_length]
      rw [this]
      exact e2
    · obtain ⟨g, q⟩ := new_tup hp3.same np (e2.cutV l u)
      exact k _ _ _ _ μ3 (hp3.gr g) (st.trans g.step) q h3
  | _ => exact False.elim h3
end

/-! ### built-in functions -/
def gLen : GC
  | [.list ds], Q => Q (.int ds.length)
  | [.tuple ds], Q => Q (.int ds.length)
  | _, _ => False
def gAbs : GC
  | [.int i], Q => Q (.int (if i < 0 then -i else i))
  | _, _ => False
def gTup : GC
  | [.list ds], Q => Q (.tuple ds)
  | [.tuple ds], Q => Q (.tuple ds)
  | _, _ => False
def gLst : GC
  | [.list ds], Q => Q (.list ds)
  | [.tuple ds], Q => Q (.list ds)
  | _, _ => False
def gInt : GC
  | [.int i], Q => Q (.int i)
  | [.bool b], Q => Q (.int (if b then 1 else 0))
  | _, _ => False
def gSum : GC := fun xs Q => ∃ ns : List Int, xs = [.list (ns.map .int)] ∧ Q (.int ns.sum)
def gAll : GC := fun xs Q => ∃ bs : List Bool, xs = [.list (bs.map .bool)] ∧ Q (.bool (bs.all id))
def gSorted : GC := fun xs Q => ∃ ns : List Int, xs = [.list (ns.map .int)] ∧ ns.length ≤ 100000 ∧ ∀ ns' : List Int, ns'.Perm ns → Q (.list (ns'.map .int))
/-- min, max of two ints; of a list or tuple of alike data -/
def gMin : GC
  | [.int i, .int j], Q => Q (.int (if j < i then j else i))
  | [.list (d :: ds)], Q => PySem.W.AlikeAll (d :: ds) ∧ PyData.depthAll (d :: ds) ≤ 32 ∧ Q (PySem.W.minD d ds)
  | [.tuple (d :: ds)], Q => PySem.W.AlikeAll (d :: ds) ∧ PyData.depthAll (d :: ds) ≤ 32 ∧ Q (PySem.W.minD d ds)
  | _, _ => False
def gMax : GC
  | [.int i, .int j], Q => Q (.int (if j > i then j else i))
  | [.list (d :: ds)], Q => PySem.W.AlikeAll (d :: ds) ∧ PyData.depthAll (d :: ds) ≤ 32 ∧ Q (PySem.W.maxD d ds)
  | [.tuple (d :: ds)], Q => PySem.W.AlikeAll (d :: ds) ∧ PyData.depthAll (d :: ds) ≤ 32 ∧ Q (PySem.W.maxD d ds)
  | _, _ => False

/-- max, min of a list or a tuple of alike data -/
def rMinP (K : PySem.W.Frag) (f : PyData → List PyData → PyData) : List V → Hp → VK → Prop := fun vs H Q => ∃ (a : Addr) (xs : List V) (d : PyData) (ds : List PyData), vs = [.ref a] ∧ (SqL K H a xs ∨ SqT K H a xs) ∧ DpAll K H xs (d :: ds) ∧
  PyData.plainAll (d :: ds) = true ∧ (f d ds).plain = true ∧ PySem.W.AlikeAll (d :: ds) ∧ PyData.depthAll (d :: ds) ≤ 32 ∧ ∀ (i : Nat) v, xs[i]? = some v → (d :: ds)[i]? = some (f d ds) → Q v H
theorem readsAll_get {h : Heap} : ∀ {us : List Value} {ds : List PyData} {as : List Addr}, ReadsAll h us ds as → ∀ {i : Nat} {u : Value}, us[i]? = some u → ∃ d bs, ds[i]? = some d ∧ Reads h u d bs
  | _, _, _, .nil, _, _, hv => by simp at hv
  | _, _, _, .cons (d := d) (ds := ds) r rs, 0, v, hv => by
    have e := Option.some.inj (show some _ = some v from hv)
    subst e
    exact ⟨d, _, rfl, r⟩
  | _, _, _, .cons (d := d) (ds := ds) r rs, i + 1, v, hv => by
    obtain ⟨d', bs, a, b⟩ := readsAll_get rs (i := i) (u := v) (by simpa using hv)
    exact ⟨d', bs, by simpa using a, b⟩
theorem plain_get : ∀ {ds : List PyData} {i : Nat} {d : PyData}, PyData.plainAll ds = true → ds[i]? = some d → d.plain = true
  | [], i, d, _, h => by simp at h
  | x :: xs, 0, d, hp, h => by
    rw [PyData.plainAll, Bool.and_eq_true] at hp
    have e := Option.some.inj (show some x = some d from h)
    rw [← e]; exact hp.1
  | x :: xs, i + 1, d, hp, h => by
    rw [PyData.plainAll, Bool.and_eq_true] at hp
    exact plain_get hp.2 (show xs[i]? = some d by simpa using h)
section
variable {X : Cx}
theorem call_minP (hc : X.calm = true) (hu : X.A.units + 64 < cLine) : CallR X (.builtin "min") (rMinP X.K PySem.W.minD) := by
  intro pins s σ H xs us Q I r h
  obtain ⟨a, ys, d, ds, rfl, hs, hd, hp, hpf, hal, hdep, q⟩ := h
  rw [Vals.ref1 r]
  have fin : ∀ (its : List Value) (as : List Addr), Vals ys its → ReadsAll s.heap its (d :: ds) as → ∀ (i : Nat) v h' tk bs, its.toArray[i]? = some v → Reads h' v (PySem.W.minD d ds) bs → (∀ b o, s.heap.get? b = some o → h'.get? b = some o) → EP X pins σ Q v { s with heap := h', toks := tk } := by
    intro its as rv ra i v h' tk bs hv hr hk
    have hv' : its[i]? = some v := by simpa using hv
    have hi : i < ys.length := by
      rw [rv.length]
      exact (List.getElem?_eq_some_iff.mp hv').1
    have hy : ys[i]? = some ys[i] := List.getElem?_eq_getElem hi
    obtain ⟨u, hu1, ru⟩ := rv.get hy
    rw [hv'] at hu1
    cases hu1
    obtain ⟨d', bs', e1, e2⟩ := readsAll_get ra hv'
    have e3 := SeqAt.readOf_plain (plain_get hp e1) (Reads.keeps hk e2)
    have e4 := SeqAt.readOf_plain hpf hr
    rw [e3] at e4
    exact ⟨ys[i], H, I.kept hk, ru, q i _ hy (by rw [e1, e4])⟩
  rcases hs with hs | hs
  · obtain ⟨its, rv, pl, hz⟩ := I.list hs
    obtain ⟨as, ra⟩ := Dp.readsAll I _ _ its hd rv
    exact PySem.W.min_list_data (I.ok.hd hc) pl.isList (by simpa using ra) hal (by omega) (fin its as rv ra)
  · obtain ⟨its, rv, pl, hz⟩ := I.tuple hs
    obtain ⟨as, ra⟩ := Dp.readsAll I _ _ its hd rv
    exact PySem.W.min_tuple_data (I.ok.hd hc) (show s.heap.IsTuple a its.toArray from pl) (by simpa using ra) hal (by omega) (fin its as rv ra)
theorem call_maxP (hc : X.calm = true) (hu : X.A.units + 64 < cLine) : CallR X (.builtin "max") (rMinP X.K PySem.W.maxD) := by
  intro pins s σ H xs us Q I r h
  obtain ⟨a, ys, d, ds, rfl, hs, hd, hp, hpf, hal, hdep, q⟩ := h
  rw [Vals.ref1 r]
  have fin : ∀ (its : List Value) (as : List Addr), Vals ys its → ReadsAll s.heap its (d :: ds) as → ∀ (i : Nat) v h' tk bs, its.toArray[i]? = some v → Reads h' v (PySem.W.maxD d ds) bs → (∀ b o, s.heap.get? b = some o → h'.get? b = some o) → EP X pins σ Q v { s with heap := h', toks := tk } := by
    intro its as rv ra i v h' tk bs hv hr hk
    have hv' : its[i]? = some v := by simpa using hv
    have hi : i < ys.length := by
      rw [rv.length]
      exact (List.getElem?_eq_some_iff.mp hv').1
    have hy : ys[i]? = some ys[i] := List.getElem?_eq_getElem hi
    obtain ⟨u, hu1, ru⟩ := rv.get hy
    rw [hv'] at hu1
    cases hu1
    obtain ⟨d', bs', e1, e2⟩ := readsAll_get ra hv'
    have e3 := SeqAt.readOf_plain (plain_get hp e1) (Reads.keeps hk e2)
    have e4 := SeqAt.readOf_plain hpf hr
    rw [e3] at e4
    exact ⟨ys[i], H, I.kept hk, ru, q i _ hy (by rw [e1, e4])⟩
  rcases hs with hs | hs
  · obtain ⟨its, rv, pl, hz⟩ := I.list hs
    obtain ⟨as, ra⟩ := Dp.readsAll I _ _ its hd rv
    exact PySem.W.max_list_data (I.ok.hd hc) pl.isList (by simpa using ra) hal (by omega) (fin its as rv ra)
  · obtain ⟨its, rv, pl, hz⟩ := I.tuple hs
    obtain ⟨as, ra⟩ := Dp.readsAll I _ _ its hd rv
    exact PySem.W.max_tuple_data (I.ok.hd hc) (show s.heap.IsTuple a its.toArray from pl) (by simpa using ra) hal (by omega) (fin its as rv ra)
end
theorem fold_pick (f : PyData → PyData → Bool) : ∀ (ds : List PyData) (d : PyData), ds.foldl (fun a y => if f a y then y else a) d = d ∨ ds.foldl (fun a y => if f a y then y else a) d ∈ ds
  | [], d => .inl rfl
  | e :: ds, d => by
    rw [List.foldl_cons]
    rcases fold_pick f ds (if f d e then e else d) with h | h
    · rw [h]
      by_cases c : f d e = true
      · rw [if_pos c]; exact .inr List.mem_cons_self
      · rw [if_neg c]; exact .inl rfl
    · exact .inr (List.mem_cons_of_mem _ h)
theorem plain_mem' : ∀ {ds : List PyData} {d : PyData}, PyData.plainAll ds = true → d ∈ ds → d.plain = true := fun hp h => by
  obtain ⟨i, hi⟩ := List.getElem?_of_mem h
  exact plain_get hp hi
theorem minD_plain {d : PyData} {ds : List PyData} (h : PyData.plainAll (d :: ds) = true) : (PySem.W.minD d ds).plain = true := by
  have hd : d.plain = true := plain_mem' h List.mem_cons_self
  rcases fold_pick (fun a y => PySem.W.dataLt y a) ds d with e | e
  · unfold PySem.W.minD; rw [e]; exact hd
  · exact plain_mem' h (List.mem_cons_of_mem _ e)
theorem maxD_plain {d : PyData} {ds : List PyData} (h : PyData.plainAll (d :: ds) = true) : (PySem.W.maxD d ds).plain = true := by
  have hd : d.plain = true := plain_mem' h List.mem_cons_self
  rcases fold_pick (fun a y => PySem.W.dataLt a y) ds d with e | e
  · unfold PySem.W.maxD; rw [e]; exact hd
  · exact plain_mem' h (List.mem_cons_of_mem _ e)
end K13

set_option maxRecDepth 100000
set_option maxHeartbeats 4000000
set_option autoImplicit false
/-! The abstract layer, part 4: calls. -/
namespace K13
open PySem PySem.Spec PyProof.Rows L2

theorem one_inv {F : Hp} {xs : List V} {d : PyData} (h : DqAll F xs [d]) : ∃ v, xs = [v] ∧ Dq F v d := by
  cases h with
  | cons h1 h2 => cases h2; exact ⟨_, rfl, h1⟩
theorem two_inv {F : Hp} {xs : List V} {d e : PyData} (h : DqAll F xs [d, e]) : ∃ v w, xs = [v, w] ∧ Dq F v d ∧ Dq F w e := by
  cases h with
  | cons h1 h2 =>
    cases h2 with
    | cons h3 h4 => cases h4; exact ⟨_, _, rfl, h1, h3⟩
theorem rc_len (K : PySem.W.Frag) : RC (fun xs H Q => ∃ p ys, xs = [.ref p] ∧ (SqL K H p ys ∨ SqT K H p ys) ∧ Q (.int ys.length) H) gLen := fun ds Qd h F H xs Q' s a k => by
  match ds, h, a with
  | [.list es], h, a =>
    obtain ⟨v, rfl, q⟩ := one_inv a
    obtain ⟨p, ys, rfl, e1, e2⟩ := q.list_inv
    refine ⟨p, ys, rfl, .inl (SqL.of (s _ _ e1)), ?_⟩
    rw [e2.length]
    exact k _ F H _ (Gr.refl s) (.int _) h
  | [.tuple es], h, a =>
    obtain ⟨v, rfl, q⟩ := one_inv a
    obtain ⟨p, ys, rfl, e1, e2⟩ := q.tuple_inv
    refine ⟨p, ys, rfl, .inr (SqT.of (s _ _ e1)), ?_⟩
    rw [e2.length]
    exact k _ F H _ (Gr.refl s) (.int _) h
theorem rc_abs : RC (fun xs H Q => ∃ i, xs = [.int i] ∧ Q (.int (if i < 0 then -i else i)) H) gAbs := fun ds Qd h F H xs Q' s a k => by
  match ds, h, a with
  | [.int i], h, a =>
    obtain ⟨v, rfl, q⟩ := one_inv a
    rw [q.int_inv]
    exact ⟨i, rfl, k _ F H _ (Gr.refl s) (.int _) h⟩
theorem rc_int : RC (fun xs H Q => (∃ i, xs = [.int i] ∧ Q (.int i) H) ∨ ∃ k, xs = [.bl k] ∧ Q (.int (if k then 1 else 0)) H) gInt := fun ds Qd h F H xs Q' s a k => by
  match ds, h, a with
  | [.int i], h, a =>
    obtain ⟨v, rfl, q⟩ := one_inv a
    rw [q.int_inv]
    exact .inl ⟨i, rfl, k _ F H _ (Gr.refl s) (.int _) h⟩
  | [.bool i], h, a =>
    obtain ⟨v, rfl, q⟩ := one_inv a
    rw [q.bool_inv]
    exact .inr ⟨i, rfl, k _ F H _ (Gr.refl s) (.int _) h⟩
theorem rc_tup (K : PySem.W.Frag) : RC (fun xs H Q => ∃ p ys, xs = [.ref p] ∧ ((SqL K H p ys ∧ ∀ l, H l = none → Q (.ref l) (upd H l (.tup ys))) ∨ (SqT K H p ys ∧ Q (.ref p) H))) gTup := fun ds Qd h F H xs Q' s a k => by
  match ds, h, a with
  | [.list es], h, a =>
    obtain ⟨v, rfl, q⟩ := one_inv a
    obtain ⟨p, ys, rfl, e1, e2⟩ := q.list_inv
    refine ⟨p, ys, rfl, .inl ⟨SqL.of (s _ _ e1), fun l nl => ?_⟩⟩
    obtain ⟨g, q2⟩ := new_tup s nl e2
    exact k _ _ _ _ g q2 h
  | [.tuple es], h, a =>
    obtain ⟨v, rfl, q⟩ := one_inv a
    obtain ⟨p, ys, rfl, e1, e2⟩ := q.tuple_inv
    exact ⟨p, ys, rfl, .inr ⟨SqT.of (s _ _ e1), k _ F H _ (Gr.refl s) q h⟩⟩
theorem rc_lst (K : PySem.W.Frag) : RC (fun xs H Q => ∃ p ys, xs = [.ref p] ∧ (SqL K H p ys ∨ SqT K H p ys) ∧ ∀ l, H l = none → Q (.ref l) (upd H l (.lst ys))) gLst := fun ds Qd h F H xs Q' s a k => by
  match ds, h, a with
  | [.list es], h, a =>
    obtain ⟨v, rfl, q⟩ := one_inv a
    obtain ⟨p, ys, rfl, e1, e2⟩ := q.list_inv
    refine ⟨p, ys, rfl, .inl (SqL.of (s _ _ e1)), fun l nl => ?_⟩
    obtain ⟨g, q2⟩ := new_lst s nl e2
    exact k _ _ _ _ g q2 h
  | [.tuple es], h, a =>
    obtain ⟨v, rfl, q⟩ := one_inv a
    obtain ⟨p, ys, rfl, e1, e2⟩ := q.tuple_inv
    refine ⟨p, ys, rfl, .inr (SqT.of (s _ _ e1)), fun l nl => ?_⟩
    obtain ⟨g, q2⟩ := new_lst s nl e2
    exact k _ _ _ _ g q2 h
theorem rc_sum (K : PySem.W.Frag) : RC (rSum K) gSum := fun ds Qd h F H xs Q' s a k => by
  obtain ⟨ns, rfl, h⟩ := h
  obtain ⟨v, rfl, q⟩ := one_inv a
  obtain ⟨p, ys, rfl, e1, e2⟩ := q.list_inv
  have e3 := e2.ints
  subst e3
  exact ⟨p, ns, rfl, SqL.of (s _ _ e1), k _ F H _ (Gr.refl s) (.int _) h⟩
theorem rc_all (K : PySem.W.Frag) : RC (rAll K) gAll := fun ds Qd h F H xs Q' s a k => by
  obtain ⟨ns, rfl, h⟩ := h
  obtain ⟨v, rfl, q⟩ := one_inv a
  obtain ⟨p, ys, rfl, e1, e2⟩ := q.list_inv
  have e3 := e2.bools
  subst e3
  exact ⟨p, ns, rfl, SqL.of (s _ _ e1), k _ F H _ (Gr.refl s) (.bl _) h⟩
theorem rc_sorted (K : PySem.W.Frag) : RC (rSortedI K) gSorted := fun ds Qd h F H xs Q' s a k => by
  obtain ⟨ns, rfl, hl, h⟩ := h
  obtain ⟨v, rfl, q⟩ := one_inv a
  obtain ⟨p, ys, rfl, e1, e2⟩ := q.list_inv
  have e3 := e2.ints
  subst e3
  refine ⟨p, ns, rfl, SqL.of (s _ _ e1), fun ns' l hp _ nl => ?_⟩
  obtain ⟨g, q2⟩ := new_lst s nl (DqAll.of_ints ns')
  exact k _ _ _ _ g q2 (h ns' hp)
theorem rc_min (K : PySem.W.Frag) : RC (fun xs H Q => (∃ i j, xs = [.int i, .int j] ∧ Q (.int (if j < i then j else i)) H) ∨ rMinP K PySem.W.minD xs H Q) gMin := fun ds Qd h F H xs Q' s a k => by
  match ds, h, a with
  | [.int i, .int j], h, a =>
    obtain ⟨v, w, rfl, q1, q2⟩ := two_inv a
    rw [q1.int_inv, q2.int_inv]
    exact .inl ⟨i, j, rfl, k _ F H _ (Gr.refl s) (.int _) h⟩
  | [.list (d :: es)], h, a =>
    obtain ⟨v, rfl, q⟩ := one_inv a
    obtain ⟨p, ys, rfl, e1, e2⟩ := q.list_inv
    have pl := DqAll.plain _ _ e2
    refine .inr ⟨p, ys, d, es, rfl, .inl (SqL.of (s _ _ e1)), (e2.up s).dp K _ _, pl, minD_plain pl, h.1, h.2.1, fun i v hv hd => ?_⟩
    obtain ⟨d', hd', q'⟩ := e2.getV hv
    rw [hd] at hd'
    cases hd'
    exact k _ F H _ (Gr.refl s) q' h.2.2
  | [.tuple (d :: es)], h, a =>
    obtain ⟨v, rfl, q⟩ := one_inv a
    obtain ⟨p, ys, rfl, e1, e2⟩ := q.tuple_inv
    have pl := DqAll.plain _ _ e2
    refine .inr ⟨p, ys, d, es, rfl, .inr (SqT.of (s _ _ e1)), (e2.up s).dp K _ _, pl, minD_plain pl, h.1, h.2.1, fun i v hv hd => ?_⟩
    obtain ⟨d', hd', q'⟩ := e2.getV hv
    rw [hd] at hd'
    cases hd'
    exact k _ F H _ (Gr.refl s) q' h.2.2
theorem rc_max (K : PySem.W.Frag) : RC (fun xs H Q => (∃ i j, xs = [.int i, .int j] ∧ Q (.int (if j > i then j else i)) H) ∨ rMinP K PySem.W.maxD xs H Q) gMax := fun ds Qd h F H xs Q' s a k => by
  match ds, h, a with
  | [.int i, .int j], h, a =>
    obtain ⟨v, w, rfl, q1, q2⟩ := two_inv a
    rw [q1.int_inv, q2.int_inv]
    exact .inl ⟨i, j, rfl, k _ F H _ (Gr.refl s) (.int _) h⟩
  | [.list (d :: es)], h, a =>
    obtain ⟨v, rfl, q⟩ := one_inv a
    obtain ⟨p, ys, rfl, e1, e2⟩ := q.list_inv
    have pl := DqAll.plain _ _ e2
    refine .inr ⟨p, ys, d, es, rfl, .inl (SqL.of (s _ _ e1)), (e2.up s).dp K _ _, pl, maxD_plain pl, h.1, h.2.1, fun i v hv hd => ?_⟩
    obtain ⟨d', hd', q'⟩ := e2.getV hv
    rw [hd] at hd'
    cases hd'
    exact k _ F H _ (Gr.refl s) q' h.2.2
  | [.tuple (d :: es)], h, a =>
    obtain ⟨v, rfl, q⟩ := one_inv a
    obtain ⟨p, ys, rfl, e1, e2⟩ := q.tuple_inv
    have pl := DqAll.plain _ _ e2
    refine .inr ⟨p, ys, d, es, rfl, .inr (SqT.of (s _ _ e1)), (e2.up s).dp K _ _, pl, maxD_plain pl, h.1, h.2.1, fun i v hv hd => ?_⟩
    obtain ⟨d', hd', q'⟩ := e2.getV hv
    rw [hd] at hd'
    cases hd'
    exact k _ F H _ (Gr.refl s) q' h.2.2

/-! ### the built-in names are not taken by the module -/
structure Bl (mg : Str → Option Value) : Prop where
  len : mg "len" = none
  abs : mg "abs" = none
  int : mg "int" = none
  tuple : mg "tuple" = none
  list : mg "list" = none
  sum : mg "sum" = none
  all : mg "all" = none
  sorted : mg "sorted" = none
  min : mg "min" = none
  max : mg "max" = none
  set : mg "set" = none
  isinstance : mg "isinstance" = none
  bool : mg "bool" = none
  str : mg "str" = none
  range : mg "range" = none
  enumerate : mg "enumerate" = none
  zip : mg "zip" = none
  dict : mg "dict" = none

section
variable {X : Cx} {Γ : List Sl} {μ : List MObj} {Q : PyData → List MObj → Prop} {QB : Bool → List MObj → Prop} {a b c e : Expr} {es : List Expr} {pos p p2 p3 p4 : Pos} {k : Nat}
theorem fe_len (B : Bl X.mg) (h : FE X a Γ μ fun d m => gLen [d] fun d => Q d m) (hg : Gl X "len" := by rfl) (hs : starEach [a] X.env = (false, eval a X.env) :: starEach [] X.env := by rfl) (hp : (backTo pos (starEach [] X.env)).any (·.1) = false := by rfl) : FE X (.Call (.Name "len" p) [a] [] pos) Γ μ Q :=
  fe_callB call_len_seq (rc_len X.K) hg B.len PySem.boot_len (fa_cons (h.imp fun d m q => fa_nil q) hs) (by decide) (by decide) hs hp
theorem fe_abs (B : Bl X.mg) (h : FE X a Γ μ fun d m => gAbs [d] fun d => Q d m) (hg : Gl X "abs" := by rfl) (hs : starEach [a] X.env = (false, eval a X.env) :: starEach [] X.env := by rfl) (hp : (backTo pos (starEach [] X.env)).any (·.1) = false := by rfl) : FE X (.Call (.Name "abs" p) [a] [] pos) Γ μ Q :=
  fe_callB call_abs rc_abs hg B.abs (by decide +kernel) (fa_cons (h.imp fun d m q => fa_nil q) hs) (by decide) (by decide) hs hp
theorem fe_intc (B : Bl X.mg) (h : FE X a Γ μ fun d m => gInt [d] fun d => Q d m) (hg : Gl X "int" := by rfl) (hs : starEach [a] X.env = (false, eval a X.env) :: starEach [] X.env := by rfl) (hp : (backTo pos (starEach [] X.env)).any (·.1) = false := by rfl) : FE X (.Call (.Name "int" p) [a] [] pos) Γ μ Q :=
  fe_callTy call_int1 rc_int hg B.int (by decide +kernel) (fa_cons (h.imp fun d m q => fa_nil q) hs) (by decide) (by decide) hs hp
theorem fe_tuple (B : Bl X.mg) (h : FE X a Γ μ fun d m => gTup [d] fun d => Q d m) (hg : Gl X "tuple" := by rfl) (hs : starEach [a] X.env = (false, eval a X.env) :: starEach [] X.env := by rfl) (hp : (backTo pos (starEach [] X.env)).any (·.1) = false := by rfl) : FE X (.Call (.Name "tuple" p) [a] [] pos) Γ μ Q :=
  fe_callTy call_tuple_of (rc_tup X.K) hg B.tuple (by decide +kernel) (fa_cons (h.imp fun d m q => fa_nil q) hs) (by decide) (by decide) hs hp
theorem fe_list (B : Bl X.mg) (h : FE X a Γ μ fun d m => gLst [d] fun d => Q d m) (hg : Gl X "list" := by rfl) (hs : starEach [a] X.env = (false, eval a X.env) :: starEach [] X.env := by rfl) (hp : (backTo pos (starEach [] X.env)).any (·.1) = false := by rfl) : FE X (.Call (.Name "list" p) [a] [] pos) Γ μ Q :=
  fe_callTy call_list_of (rc_lst X.K) hg B.list (by decide +kernel) (fa_cons (h.imp fun d m q => fa_nil q) hs) (by decide) (by decide) hs hp
theorem fe_sum (B : Bl X.mg) (hc : X.calm = true) (h : FE X a Γ μ fun d m => gSum [d] fun d => Q d m) (hg : Gl X "sum" := by rfl) (hs : starEach [a] X.env = (false, eval a X.env) :: starEach [] X.env := by rfl) (hp : (backTo pos (starEach [] X.env)).any (·.1) = false := by rfl) : FE X (.Call (.Name "sum" p) [a] [] pos) Γ μ Q :=
  fe_callB (cr_sum hc) (rc_sum X.K) hg B.sum (by decide +kernel) (fa_cons (h.imp fun d m q => fa_nil q) hs) (by decide) (by decide) hs hp
theorem fe_all (B : Bl X.mg) (hc : X.calm = true) (h : FE X a Γ μ fun d m => gAll [d] fun d => Q d m) (hg : Gl X "all" := by rfl) (hs : starEach [a] X.env = (false, eval a X.env) :: starEach [] X.env := by rfl) (hp : (backTo pos (starEach [] X.env)).any (·.1) = false := by rfl) : FE X (.Call (.Name "all" p) [a] [] pos) Γ μ Q :=
  fe_callB (cr_all hc) (rc_all X.K) hg B.all (by decide +kernel) (fa_cons (h.imp fun d m q => fa_nil q) hs) (by decide) (by decide) hs hp
theorem fe_sorted (B : Bl X.mg) (h : FE X a Γ μ fun d m => gSorted [d] fun d => Q d m) (hg : Gl X "sorted" := by rfl) (hs : starEach [a] X.env = (false, eval a X.env) :: starEach [] X.env := by rfl) (hp : (backTo pos (starEach [] X.env)).any (·.1) = false := by rfl) : FE X (.Call (.Name "sorted" p) [a] [] pos) Γ μ Q :=
  fe_callB cr_sortedI (rc_sorted X.K) hg B.sorted (by decide +kernel) (fa_cons (h.imp fun d m q => fa_nil q) hs) (by decide) (by decide) hs hp
theorem fe_min1 (B : Bl X.mg) (hc : X.calm = true) (hr : Room k X.A) (h : FE X a Γ μ fun d m => gMin [d] fun d => Q d m) (hg : Gl X "min" := by rfl) (hs : starEach [a] X.env = (false, eval a X.env) :: starEach [] X.env := by rfl) (hp : (backTo pos (starEach [] X.env)).any (·.1) = false := by rfl) : FE X (.Call (.Name "min" p) [a] [] pos) Γ μ Q :=
  fe_callB (CallR.or (call_min2 hc) (call_minP hc hr.units)) (rc_min X.K) hg B.min (by decide +kernel) (fa_cons (h.imp fun d m q => fa_nil q) hs) (by decide) (by decide) hs hp
theorem fe_max1 (B : Bl X.mg) (hc : X.calm = true) (hr : Room k X.A) (h : FE X a Γ μ fun d m => gMax [d] fun d => Q d m) (hg : Gl X "max" := by rfl) (hs : starEach [a] X.env = (false, eval a X.env) :: starEach [] X.env := by rfl) (hp : (backTo pos (starEach [] X.env)).any (·.1) = false := by rfl) : FE X (.Call (.Name "max" p) [a] [] pos) Γ μ Q :=
  fe_callB (CallR.or (call_max2 hc) (call_maxP hc hr.units)) (rc_max X.K) hg B.max (by decide +kernel) (fa_cons (h.imp fun d m q => fa_nil q) hs) (by decide) (by decide) hs hp
theorem fe_min2 (B : Bl X.mg) (hc : X.calm = true) (hr : Room k X.A) (h : FE X a Γ μ fun d m => FE X b Γ m fun d2 m2 => gMin [d, d2] fun d => Q d m2) (hg : Gl X "min" := by rfl) (hs : starEach [a, b] X.env = (false, eval a X.env) :: starEach [b] X.env := by rfl) (hs2 : starEach [b] X.env = (false, eval b X.env) :: starEach [] X.env := by rfl)
    (hp : (backTo pos (starEach [b] X.env)).any (·.1) = false := by rfl) : FE X (.Call (.Name "min" p) [a, b] [] pos) Γ μ Q :=
  fe_callB (CallR.or (call_min2 hc) (call_minP hc hr.units)) (rc_min X.K) hg B.min (by decide +kernel) (fa_cons (h.imp fun d m q => fa_cons (q.imp fun d m q => fa_nil q) hs2) hs) (by decide) (by decide) hs hp
theorem fe_max2 (B : Bl X.mg) (hc : X.calm = true) (hr : Room k X.A) (h : FE X a Γ μ fun d m => FE X b Γ m fun d2 m2 => gMax [d, d2] fun d => Q d m2) (hg : Gl X "max" := by rfl) (hs : starEach [a, b] X.env = (false, eval a X.env) :: starEach [b] X.env := by rfl) (hs2 : starEach [b] X.env = (false, eval b X.env) :: starEach [] X.env := by rfl)
    (hp : (backTo pos (starEach [b] X.env)).any (·.1) = false := by rfl) : FE X (.Call (.Name "max" p) [a, b] [] pos) Γ μ Q :=
  fe_callB (CallR.or (call_max2 hc) (call_maxP hc hr.units)) (rc_max X.K) hg B.max (by decide +kernel) (fa_cons (h.imp fun d m q => fa_cons (q.imp fun d m q => fa_nil q) hs2) hs) (by decide) (by decide) hs hp

/-! ### isinstance -/
def tyN : PyData → String
  | .none => "NoneType"
  | .bool _ => "bool"
  | .int _ => "int"
  | .str _ => "str"
  | .list _ => "list"
  | .tuple _ => "tuple"
  | .dict _ => "dict"
theorem Dq.ty {K : PySem.W.Frag} {H : Hp} {v : V} {d : PyData} (h : Dq H v d) : TyX K H v (.type (tyN d)) := by
  cases h with
  | non => exact .base .non
  | bl b => exact .base (.bl b)
  | int i => exact .base (.int i)
  | lst h1 h2 => exact .base (.lst h1)
  | tup h1 h2 => exact .base (.tup h1)
/-- isinstance(e, T) -/
theorem fe_isi {T : Str} {Tn : String} (B : Bl X.mg) (hT : X.mg T = none) (hv : bootBuiltins T = some (.type Tn)) (h : FE X a Γ μ fun d m => ∃ b, kitB (tyN d) Tn = some b ∧ Q (.bool b) m) (hgT : Gl X T := by rfl) (hg : Gl X "isinstance" := by rfl)
    (hn : T ≠ "__name__" := by decide) (hdb : (T == ("__debug__" : Str)) = false := by decide)
    (hs : starEach [a, .Name T p2] X.env = (false, eval a X.env) :: starEach [.Name T p2] X.env := by rfl) (hs2 : starEach [.Name T p2] X.env = (false, eval (.Name T p2) X.env) :: starEach [] X.env := by rfl)
    (hp : (backTo pos (starEach [.Name T p2] X.env)).any (·.1) = false := by rfl) : FE X (.Call (.Name "isinstance" p) [a, .Name T p2] [] pos) Γ μ Q := fun F H σ ps Q' en hp' k => by
  refine WE.of (pe_callB call_isi hg B.isinstance (by decide +kernel) (pa_cons pe_can (pa_cons (pe_bltn (v := .ty Tn) hgT hT hv rfl hn hdb) pa_nil hs2) hs) (by decide) (by decide) hs hp) ?_
  refine h F H σ ps _ en hp' fun v F1 H1 d1 μ1 hp1 s1 q1 h1 => ?_
  obtain ⟨b, hb, hq⟩ := h1
  exact ⟨v, .ty Tn, _, _, b, rfl, .ty Tn, (q1.up hp1.same).ty, kit_ty hb, k _ F1 H1 _ μ1 hp1 s1 (.bl b) hq⟩
theorem kitAny2 {K : PySem.W.Frag} {t A C : String} {b c : Bool} (h1 : kitB t A = some b) (h2 : kitB t C = some c) : PySem.W.kitAny K (.type t) [.type A, .type C] = some (b || c) := by
  refine kitAny_cons (kit_ty h1) (fun hb => ?_) (fun hb => by rw [hb]; rfl)
  subst hb
  refine kitAny_cons (kit_ty h2) (fun hc => ?_) (fun hc => by rw [hc]; rfl)
  subst hc
  rfl
/-- isinstance(e, (T, U)) -/
theorem fe_isi2 {T U : Str} {Tn Un : String} {kk : Nat} (B : Bl X.mg) (hT : X.mg T = none) (hv : bootBuiltins T = some (.type Tn)) (hU : X.mg U = none) (hvU : bootBuiltins U = some (.type Un))
    (h : FE X a Γ μ fun d m => ∃ b c, kitB (tyN d) Tn = some b ∧ kitB (tyN d) Un = some c ∧ Q (.bool (b || c)) m) (hgT : Gl X T := by rfl) (hgU : Gl X U := by rfl) (hg : Gl X "isinstance" := by rfl)
    (hn : T ≠ "__name__" := by decide) (hdb : (T == ("__debug__" : Str)) = false := by decide) (hnU : U ≠ "__name__" := by decide) (hdbU : (U == ("__debug__" : Str)) = false := by decide)
    (hs : starEach [a, .Tuple [.Name T p2, .Name U p3] kk p4] X.env = (false, eval a X.env) :: starEach [.Tuple [.Name T p2, .Name U p3] kk p4] X.env := by rfl)
    (hs2 : starEach [.Tuple [.Name T p2, .Name U p3] kk p4] X.env = (false, eval (.Tuple [.Name T p2, .Name U p3] kk p4) X.env) :: starEach [] X.env := by rfl)
    (hs3 : starEach [.Name T p2, .Name U p3] X.env = (false, eval (.Name T p2) X.env) :: starEach [.Name U p3] X.env := by rfl) (hs4 : starEach [.Name U p3] X.env = (false, eval (.Name U p3) X.env) :: starEach [] X.env := by rfl)
    (hp : (backTo pos (starEach [.Tuple [.Name T p2, .Name U p3] kk p4] X.env)).any (·.1) = false := by rfl) : FE X (.Call (.Name "isinstance" p) [a, .Tuple [.Name T p2, .Name U p3] kk p4] [] pos) Γ μ Q := fun F H σ ps Q' en hp' k => by
  refine WE.of (pe_callB call_isiT hg B.isinstance (by decide +kernel) (pa_cons pe_can (pa_cons (pe_tup (pa_cons (pe_bltn (v := .ty Tn) hgT hT hv rfl hn hdb) (pa_cons (pe_bltn (v := .ty Un) hgU hU hvU rfl hnU hdbU) pa_nil hs4) hs3)) pa_nil hs2) hs) (by decide) (by decide) hs hp) ?_
  refine h F H σ ps _ en hp' fun v F1 H1 d1 μ1 hp1 s1 q1 h1 => ?_
  obtain ⟨b, c, hb, hc, hq⟩ := h1
  refine ⟨by show 2 ≤ sizeLine; decide, fun t nt => ?_⟩
  have g : Gr F1 H1 F1 (upd H1 t (.tup [.ty Tn, .ty Un])) := Gr.hid hp1.same nt
  exact ⟨v, t, [.ty Tn, .ty Un], _, [.type Tn, .type Un], _, rfl, upd_same, .cons (.ty Tn) (.cons (.ty Un) .nil), (q1.up g.fh).ty, kitAny2 hb hc, k _ _ _ _ μ1 (hp1.gr g) (s1.trans g.step) (.bl _) hq⟩

/-! ### list(range(a, b)) -/
def rgD (i j : Int) : List PyData := (List.range (j - i).toNat).map fun (m : Nat) => PyData.int (i + (m : Int))
theorem fe_listRange (B : Bl X.mg) (hc : X.calm = true) (h : FE X a Γ μ fun d m => FE X b Γ m fun d2 m2 => ∃ i j : Int, d = .int i ∧ d2 = .int j ∧ -(2 ^ 62) ≤ i ∧ i < 2 ^ 62 ∧ -(2 ^ 62) ≤ j ∧ j < 2 ^ 62 ∧ (j - i).toNat ≤ 100000 ∧ Q (.list (rgD i j)) m2)
    (hg : Gl X "list" := by rfl) (hgr : Gl X "range" := by rfl) (na : starEach [a, b] X.env = (false, eval a X.env) :: starEach [b] X.env := by rfl)
    (nb : starEach [b] X.env = (false, eval b X.env) :: starEach [] X.env := by rfl) (hp : (backTo p3 (starEach [b] X.env)).any (·.1) = false := by rfl)
    (nc : starEach [.Call (.Name "range" p2) [a, b] [] p3] X.env = (false, eval (.Call (.Name "range" p2) [a, b] [] p3) X.env) :: starEach [] X.env := by rfl) :
    FE X (.Call (.Name "list" p) [.Call (.Name "range" p2) [a, b] [] p3] [] pos) Γ μ Q := fun F H σ ps Q' en hp' k => by
  refine WE.of (pe_listRg hc hg B.list (prg_2 hgr B.range pe_can pe_can na nb hp) nc) ?_
  refine h F H σ ps _ en hp' fun v F1 H1 d1 μ1 hp1 s1 q1 h1 => ?_
  refine h1 F1 H1 σ ps _ (en.up s1.ff) hp1 fun w F2 H2 d2 μ2 hp2 s2 q2 h2 => ?_
  obtain ⟨i, j, rfl, rfl, b1, b2, b3, b4, b5, hq⟩ := h2
  refine ⟨i, j, (q1.up s2.ff).int_inv, q2.int_inv, ⟨b1, b2, b3, b4, by first | exact line_of b5 | omega⟩, fun l nl => ?_⟩
  have e : DqAll F2 (rgV i j) (rgD i j) := by
    have e1 : rgV i j = ((List.range (j - i).toNat).map fun (m : Nat) => i + (m : Int)).map V.int := by
      unfold rgV; rw [List.map_map]; rfl
    have e2 : rgD i j = ((List.range (j - i).toNat).map fun (m : Nat) => i + (m : Int)).map PyData.int := by
      unfold rgD; rw [List.map_map]; rfl
    rw [e1, e2]
    exact DqAll.of_ints _
  obtain ⟨g, q3⟩ := new_lst hp2.same nl e
  exact k _ _ _ _ μ2 (hp2.gr g) ((s1.trans s2).trans g.step) q3 hq
end
end K13

set_option maxRecDepth 100000
set_option maxHeartbeats 4000000
set_option autoImplicit false
/-! Iterators that the hand layer lacks: enumerate(tuple), zip(list, tuple). -/
namespace K13
open PySem PySem.Spec PyProof.Rows L2
open Sem (wp)

theorem meets_enum1 {v : Value} {o : Obj} {H : Heap → Prop} (B : Begins v o H) :
    Meets (Builtin.«enumerate.__new__» ⟨[.type "enumerate", v], []⟩) (fun _ R s => H s.heap ∧
      R (.ok (.ret (.ref (s.heap.push o).objs.size))) { s with heap := (s.heap.push o).push { cls := .type "enumerate", data := .fields #[.none, .bool false, .ref s.heap.objs.size, rawInt 0, .none, .none] } }) :=
  .of_wp fun prog w A R s h => by
    obtain ⟨hp, g, d, tk, os⟩ := s; obtain ⟨h1, h⟩ := h
    have hsub := sub_enumerate
    have q1 : ∀ {A' : Around} {E : Value → Shared → Prop} {Q : Value → Shared → Prop}, Q (.ref hp.objs.size) ⟨hp.push o, g, d, tk, os⟩ → wpAny (model prog w) A' (pyIter v) Q E ⟨hp, g, d, tk, os⟩ :=
      fun q => B.iter prog w _ _ ⟨hp, g, d, tk, os⟩ _ h1 q
    wp_walk using q1
    refine wpAny_stack_any fun st => wpAny_pure ?_
    split
    · rename_i c _ _ _ _ _
      cases (c == Value.type "enumerate")
      · wp_walk using q1
        exact ⟨_, rfl, h⟩
      · wp_walk using q1
        exact ⟨_, rfl, h⟩
    · wp_walk using q1
      exact ⟨_, rfl, h⟩
theorem enum_begins1 {prog : Program} {w : World} {A : Around} {E : Value → Shared → Prop} {s : Shared} {v : Value} {o : Obj} {H : Heap → Prop} {Q : Value → Shared → Prop} (B : Begins v o H) (h1 : H s.heap)
    (h : ∀ h', IsEnum h' (s.heap.objs.size + 1) s.heap.objs.size 0 .none → h'.get? s.heap.objs.size = some o → h'.objs.size = s.heap.objs.size + 2 →
      (∀ b o, s.heap.get? b = some o → h'.get? b = some o) → Q (.ref (s.heap.objs.size + 1)) { s with heap := h' }) :
    wpAny (model prog w) A (call (.type "enumerate") [v]) Q E s := by
  refine callType_new F.called_enumerate (by decide) (F.typeCall_enumerate_1 _) (F.newCall_enumerate_1 _) (fun obj => F.args_object_init_2 obj _) F.entry_enumerate_new (meets_enum1 B) ⟨h1, ?_⟩
  have hz : (s.heap.push o).objs.size = s.heap.objs.size + 1 := Heap.size_push ..
  show _ ∧ _
  rw [hz]
  have he : IsEnum ((s.heap.push o).push { cls := .type "enumerate", data := .fields #[.none, .bool false, .ref s.heap.objs.size, rawInt 0, .none, .none] }) (s.heap.objs.size + 1) s.heap.objs.size 0 .none := by
    have := Heap.get?_push_size (s.heap.push o) (o := { cls := .type "enumerate", data := .fields #[.none, .bool false, .ref s.heap.objs.size, rawInt 0, .none, .none] }) rfl
    rw [hz] at this; exact this
  refine ⟨⟨_, he, rfl⟩, h _ he (Heap.get?_push_of_some _ (Heap.get?_push_size _ B.free)) (by rw [Heap.size_push, hz]) fun b o x => Heap.get?_push_of_some _ (Heap.get?_push_of_some _ x)⟩

/-- the tuple at a, its items in new pairs (i, item) -/
def IteT (K : PySem.W.Frag) (a : Addr) : It :=
  ⟨fun i H => ∃ (xs : List V) (x : V), SqT K H a xs ∧ xs[i]? = some x, fun i H v H' => ∃ T x, v = .ref T ∧ H T = none ∧ H' = upd H T (.tup [.int (i : Nat), x]) ∧ ∀ xs, SqT K H a xs → xs[i]? = some x,
    fun i H => ∃ xs : List V, SqT K H a xs ∧ i = xs.length⟩
theorem turn_enumT {P : Program} {w : World} {K : PySem.W.Frag} {elts : List Expr} {kk : Nat} {tpos : Pos} (a e it : Addr) (hae : a ≠ e) (hai : a ≠ it) :
    Turn P w K (.Tuple elts kk tpos) (IteT K a) [e, it] e (fun i h => (∃ old, IsEnum h e it ((i : Nat) : Int) old) ∧ h.IsTupleIter it a i ∧ e ≠ it) where
  mem := by simp
  obj := fun i h st b hb => by
    obtain ⟨⟨old, he⟩, ⟨o, ho, hc, hd⟩, _⟩ := st
    have e' : b = e ∨ b = it := by simpa using hb
    rcases e' with z | z
    · rw [z]; exact ⟨_, he, fun v q => nomatch q⟩
    · rw [z]; exact ⟨o, ho, fun v q => by rw [hd] at q; cases q⟩
  keep := fun i h h' st k => let ⟨⟨old, he⟩, hi, hne⟩ := st; ⟨⟨old, k e (by simp) _ he⟩, hi.at fun o q => k it (by simp) o q, hne⟩
  item := by
    intro X hP hw hK hc i pins s σ H E I hf st hg
    subst hP hw hK
    obtain ⟨⟨old, he⟩, hit, hne⟩ := st
    obtain ⟨xs, x, hq, hx⟩ := hg
    obtain ⟨its, rv, p, hz⟩ := I.tuple hq
    obtain ⟨u, hu, ru⟩ := rv.get hx
    have hel : e < s.heap.objs.size := Heap.lt_size he
    have hil : it < s.heap.objs.size := by obtain ⟨_, q, _⟩ := hit; exact Heap.lt_size q
    have hi : i < its.toArray.size := by simpa using (List.getElem?_eq_some_iff.mp hu).1
    have pt : s.heap.IsTuple a its.toArray := p
    refine wpAny_pyNext_enum_itemC (D := Draws.tuple (A := X.A.in1) (I.ok.hd hc) it a hai its.toArray) he ⟨hit, pt⟩ hi hne (by simp [hne, Ne.symm hae]) fun x' h' tk hP ho hst hT hsz hk => ?_
    have hx' : x' = u := by
      have e1 : its.toArray[i]? = some u := by simpa using hu
      have e2 : its.toArray[i]? = some x' := hP
      rw [e1] at e2
      exact (Option.some.inj e2).symm
    subst hx'
    refine ⟨_, rfl, wpAny_letOwnedTupleGo_enum (s := { s with heap := h', toks := tk + 1 }) ho fun h'' he' sb => ?_⟩
    have hT2 : h''.get? s.heap.objs.size = some { cls := .type "tuple", data := .seq #[.int i tk, x'] } := (sb.2 _ (Nat.ne_of_gt hel)).trans hT
    have new : ObjOk X.prog X.w (upd H s.heap.objs.size (.tup [.int (i : Nat), x])) h'' s.heap.objs.size (.tup [.int (i : Nat), x]) :=
      ⟨by show 2 ≤ sizeLine; decide, [.int i tk, x'], .cons ⟨_, rfl⟩ (.cons ru .nil), ⟨_, hT2, rfl, _, rfl⟩⟩
    have I1 : Inv X pins σ (upd H s.heap.objs.size (.tup [.int (i : Nat), x])) { s with heap := h'', toks := tk + 1 } :=
      I.turnedNew (ch := [e, it]) (fun b ob hb q => (sb.2 b (fun z => hb (by simp [z]))).trans (hk b ob (fun z => hb (by simp [z])) (fun z => hb (by simp [z])) q)) hf (Nat.le_refl _) new
    refine ⟨.ref s.heap.objs.size, _, I1, rfl, ⟨_, x, rfl, I.hok.fresh (Nat.le_refl _), rfl, fun ys hy => by rw [I.tuple_inj hy hq]; exact hx⟩, ⟨⟨x', ?_⟩, hst.1.at fun o q => (sb.2 it (Ne.symm hne)).trans q, hne⟩, fun b hb => ?_⟩
    · have e1 : ((i + 1 : Nat) : Int) = (i : Int) + 1 := by omega
      rw [e1]; exact he'
    · have hb' : b < s.heap.objs.size := by
        have e' : b = e ∨ b = it := by simpa using hb
        rcases e' with z | z
        · rw [z]; exact hel
        · rw [z]; exact hil
      rw [upd_ne (Nat.ne_of_lt hb')]
      exact (hf b hb).1
  done := by
    intro X hP hw hK hc i pins s σ H E I hf st hg
    subst hP hw hK
    obtain ⟨⟨old, he⟩, hit, hne⟩ := st
    obtain ⟨xs, hq, hx⟩ := hg
    obtain ⟨its, rv, p, hz⟩ := I.tuple hq
    have hl := rv.length
    obtain ⟨f0, f1, f2, f3, f4, f5⟩ := hf it (by simp)
    have pt : s.heap.IsTuple a its.toArray := p
    have hi : its.toArray.size = i := by rw [List.size_toArray, hx, hl]
    exact wpAny_pyNext_enum_endD (D := Draws.tuple (A := X.A.in1) (I.ok.hd hc) it a hai its.toArray) he ⟨by rw [hi]; exact hit, pt⟩ fun h' eb => ⟨rfl, I.turned (t' := s.toks) (fun b o hb q => eb b o hb q) f0 f1 f3 f4 f5⟩
  self := fun A i s Q E st h => let ⟨⟨_, he⟩, _⟩ := st; wpAny_pyIter_enum he h

def iEnumT (K : PySem.W.Frag) (ta : TA) : TI := fun σ H R => ta σ H fun vs H1 => ∃ a xs, vs = [.ref a] ∧ SqT K H1 a xs ∧ R (IteT K a) H1
theorem pi_enumT {X : Cx} {e : Expr} {ta : TA} {p pos tpos : Pos} {elts : List Expr} {kk : Nat} (hg : Gl X "enumerate") (hm : X.mg "enumerate" = none) (ha : PA X [e] ta) (hs : starEach [e] X.env = [(false, eval e X.env)] := by rfl) :
    PI X (.Tuple elts kk tpos) (.Call (.Name "enumerate" p) [e] [] pos) (iEnumT X.K ta) := by
  refine ⟨fun pins s σ H R I h => ?_⟩
  refine Call_ (ld_blt I hg hm boot_enumerate (PyProof.Rows.callWith_type1 (thn (ha.run pos pins s σ H _ I h) fun us s1 ⟨vs, H1, I1, r1, q1⟩ => ?_) hs rfl))
  obtain ⟨a, xs, rfl, hq, q⟩ := q1
  cases r1 with
  | cons r rr =>
    cases rr
    cases r
    obtain ⟨its, rv, p', _⟩ := I1.tuple hq
    have pt : s1.heap.IsTuple a its.toArray := p'
    have hlt : a < s1.heap.objs.size := p'.lt
    refine enum_begins1 (begins_tuple a its.toArray) pt fun h' he hit hsz hk => wpAny_pyIter_enum he ?_
    have I2 : Inv X pins σ H1 { s1 with heap := h' } := I1.kept (t' := s1.toks) hk
    refine ⟨s1.heap.objs.size + 1, [s1.heap.objs.size + 1, s1.heap.objs.size], _, _, H1, rfl, I2, turn_enumT a (s1.heap.objs.size + 1) s1.heap.objs.size (Nat.ne_of_lt (Nat.lt_succ_of_lt hlt)) (Nat.ne_of_lt hlt), ⟨⟨.none, he⟩, ⟨_, hit, rfl, rfl⟩, Nat.succ_ne_self _⟩, fun b hb => ?_, q⟩
    have e' : b = s1.heap.objs.size + 1 ∨ b = s1.heap.objs.size := by simpa using hb
    have hle : s1.heap.objs.size ≤ b := by
      rcases e' with z | z
      · rw [z]; exact Nat.le_add_right _ _
      · rw [z]; exact Nat.le_refl _
    exact I1.fpOk hle (I1.hok.fresh hle)

/-- the list at a, the tuple at b, the items in new pairs -/
def ItzM (K : PySem.W.Frag) (a b : Addr) : It :=
  ⟨fun i H => ∃ (xs ys : List V) (x y : V), SqL K H a xs ∧ SqT K H b ys ∧ xs[i]? = some x ∧ ys[i]? = some y,
    fun i H v H' => ∃ T x y, v = .ref T ∧ H T = none ∧ H' = upd H T (.tup [x, y]) ∧ (∀ xs, SqL K H a xs → xs[i]? = some x) ∧ ∀ ys, SqT K H b ys → ys[i]? = some y,
    fun i H => ∃ xs ys : List V, SqL K H a xs ∧ SqT K H b ys ∧ i ≤ xs.length ∧ i ≤ ys.length ∧ (i = xs.length ∨ i = ys.length)⟩
theorem turn_zipM {P : Program} {w : World} {K : PySem.W.Frag} {elts : List Expr} {kk : Nat} {tpos : Pos} {a b z TI TO i1 i2 : Addr} (D : ZipSep2 z TI TO i1 i2 [i1, a] [i2, b]) (h1a : a ≠ i1) (h2b : b ≠ i2) :
    Turn P w K (.Tuple elts kk tpos) (ItzM K a b) [z, TI, TO, i1, i2] z (fun i h => IsZip h z TI TO .none ∧ IsTupOf2 h TI (.ref i1) (.ref i2) ∧ (∃ x y, IsTupOf2 h TO x y) ∧ h.IsListIter i1 a i ∧ h.IsTupleIter i2 b i) where
  mem := by simp
  obj := fun i h st c hc => by
    obtain ⟨hz, hTI, ⟨x, y, hTO⟩, ⟨o1, e1, _, d1⟩, ⟨o2, e2, _, d2⟩⟩ := st
    have e' : c = z ∨ c = TI ∨ c = TO ∨ c = i1 ∨ c = i2 := by simpa using hc
    rcases e' with q | q | q | q | q
    · rw [q]; exact ⟨_, hz, fun v q => nomatch q⟩
    · rw [q]; exact ⟨_, hTI, fun v q => nomatch q⟩
    · rw [q]; exact ⟨_, hTO, fun v q => nomatch q⟩
    · rw [q]; exact ⟨o1, e1, fun v q => by rw [d1] at q; cases q⟩
    · rw [q]; exact ⟨o2, e2, fun v q => by rw [d2] at q; cases q⟩
  keep := fun i h h' st k => by
    obtain ⟨hz, hTI, ⟨x, y, hTO⟩, h1, h2⟩ := st
    exact ⟨k z (by simp) _ hz, k TI (by simp) _ hTI, ⟨x, y, k TO (by simp) _ hTO⟩, h1.at fun o q => k i1 (by simp) o q, h2.at fun o q => k i2 (by simp) o q⟩
  item := by
    intro X hP hw hK hc i pins s σ H E I hf st hg
    subst hP hw hK
    obtain ⟨hz, hTI, ⟨x0, y0, hTO⟩, h1, h2⟩ := st
    obtain ⟨xs, ys, x, y, hqx, hqy, hx, hy⟩ := hg
    obtain ⟨its, rv, p, _⟩ := I.list hqx
    obtain ⟨its2, rv2, p2, _⟩ := I.tuple hqy
    obtain ⟨u, hu, ru⟩ := rv.get hx
    obtain ⟨u2, hu2, ru2⟩ := rv2.get hy
    have hzl : z < s.heap.objs.size := Heap.lt_size hz
    have pl : s.heap.IsList a its.toArray := p.isList
    have pt : s.heap.IsTuple b its2.toArray := p2
    have hi1 : i < its.toArray.size := by simpa using (List.getElem?_eq_some_iff.mp hu).1
    have hi2 : i < its2.toArray.size := by simpa using (List.getElem?_eq_some_iff.mp hu2).1
    have zi1 : z ≠ i1 := fun e => D.zf1 (by simp [e])
    have zi2 : z ≠ i2 := fun e => D.zf2 (by simp [e])
    refine wpAny_pyNext_zipD2_item D (Draws.list (A := X.A.in1) (I.ok.hd hc) i1 a h1a its.toArray) (Draws.tuple (A := X.A.in1) (I.ok.hd hc) i2 b h2b its2.toArray) hz hTI hTO ⟨h1, pl⟩ ⟨h2, pt⟩ hi1 hi2 fun x1 x2 h' tk hP1 hP2 z' TO' h1' h2' hT hsz hk => ?_
    have ex1 : x1 = u := by
      have e1 : its.toArray[i]? = some u := by simpa using hu
      have e2 : its.toArray[i]? = some x1 := hP1
      rw [e1] at e2
      exact (Option.some.inj e2).symm
    have ex2 : x2 = u2 := by
      have e1 : its2.toArray[i]? = some u2 := by simpa using hu2
      have e2 : its2.toArray[i]? = some x2 := hP2
      rw [e1] at e2
      exact (Option.some.inj e2).symm
    subst ex1 ex2
    refine ⟨_, rfl, wpAny_letOwnedTupleGo_zip (s := { s with heap := h', toks := tk }) z' fun h'' z'' sb => ?_⟩
    have hT2 : h''.get? s.heap.objs.size = some { cls := .type "tuple", data := .seq #[x1, x2] } := (sb.2 _ (Nat.ne_of_gt hzl)).trans hT
    have new : ObjOk X.prog X.w (upd H s.heap.objs.size (.tup [x, y])) h'' s.heap.objs.size (.tup [x, y]) :=
      ⟨by show 2 ≤ sizeLine; decide, [x1, x2], .cons ru (.cons ru2 .nil), ⟨_, hT2, rfl, _, rfl⟩⟩
    have I1 : Inv X pins σ (upd H s.heap.objs.size (.tup [x, y])) { s with heap := h'', toks := tk } :=
      I.turnedNew (ch := [z, TI, TO, i1, i2]) (fun c o hb q => (sb.2 c (fun q' => hb (by simp [q']))).trans (hk c o (fun q' => hb (by simp [q'])) (fun q' => hb (by simp [q'])) (fun q' => hb (by simp [q'])) (fun q' => hb (by simp [q'])) q)) hf (Nat.le_refl _) new
    refine ⟨.ref s.heap.objs.size, _, I1, rfl, ⟨_, x, y, rfl, I.hok.fresh (Nat.le_refl _), rfl, fun l hl => by rw [I.list_inj hl hqx]; exact hx, fun l hl => by rw [I.tuple_inj hl hqy]; exact hy⟩, ⟨z'', ?_, ⟨x1, x2, ?_⟩, ?_, ?_⟩, fun c hcm => ?_⟩
    · exact (sb.2 _ D.TIz).trans (hk _ _ D.TIz D.TITO D.TIi1 D.TIi2 hTI)
    · exact (sb.2 _ D.TOz).trans TO'
    · exact h1'.1.at fun o q => (sb.2 _ (Ne.symm zi1)).trans q
    · exact h2'.1.at fun o q => (sb.2 _ (Ne.symm zi2)).trans q
    · have hlt : c < s.heap.objs.size := by
        have e' : c = z ∨ c = TI ∨ c = TO ∨ c = i1 ∨ c = i2 := by simpa using hcm
        rcases e' with q | q | q | q | q
        · rw [q]; exact hzl
        · rw [q]; exact Heap.lt_size hTI
        · rw [q]; exact Heap.lt_size hTO
        · rw [q]; obtain ⟨_, e1, _⟩ := h1; exact Heap.lt_size e1
        · rw [q]; obtain ⟨_, e2, _⟩ := h2; exact Heap.lt_size e2
      rw [upd_ne (Nat.ne_of_lt hlt)]
      exact (hf c hcm).1
  done := by
    intro X hP hw hK hc i pins s σ H E I hf st hg
    subst hP hw hK
    obtain ⟨hz, hTI, ⟨x0, y0, hTO⟩, h1, h2⟩ := st
    obtain ⟨xs, ys, hqx, hqy, l1, l2, hend⟩ := hg
    obtain ⟨its, rv, p, _⟩ := I.list hqx
    obtain ⟨its2, rv2, p2, _⟩ := I.tuple hqy
    have pl : s.heap.IsList a its.toArray := p.isList
    have pt : s.heap.IsTuple b its2.toArray := p2
    have e1 : its.toArray.size = xs.length := by rw [List.size_toArray, rv.length]
    have e2 : its2.toArray.size = ys.length := by rw [List.size_toArray, rv2.length]
    exact wpAny_pyNext_zipD2_end D (Draws.list (A := X.A.in1) (I.ok.hd hc) i1 a h1a its.toArray) (Draws.tuple (A := X.A.in1) (I.ok.hd hc) i2 b h2b its2.toArray) hz hTI hTO ⟨h1, pl⟩ ⟨h2, pt⟩ (by omega) (by omega) (by omega) fun h' tk hk =>
      ⟨rfl, I.turnedL (ch := [z, TI, TO, i1, i2]) (fun c o hb q => hk c o (fun q' => hb (by simp [q'])) (fun q' => hb (by simp [q'])) (fun q' => hb (by simp [q'])) (fun q' => hb (by simp [q'])) q) hf⟩
  self := fun A i s Q E st h => wpAny_pyIter_zip st.1 h
def iZipM (K : PySem.W.Frag) (ta : TA) : TI := fun σ H R => ta σ H fun vs H1 => ∃ a b xs ys, vs = [.ref a, .ref b] ∧ SqL K H1 a xs ∧ SqT K H1 b ys ∧ R (ItzM K a b) H1
theorem pi_zipM {X : Cx} {e e2 : Expr} {ta : TA} {p pos tpos : Pos} {elts : List Expr} {kk : Nat} (hg : Gl X "zip") (hm : X.mg "zip" = none) (ha : PA X [e, e2] ta)
    (hs : starEach [e, e2] X.env = (false, eval e X.env) :: starEach [e2] X.env := by rfl) (hpl : (backTo pos (starEach [e2] X.env)).any (·.1) = false := by rfl) :
    PI X (.Tuple elts kk tpos) (.Call (.Name "zip" p) [e, e2] [] pos) (iZipM X.K ta) := by
  refine ⟨fun pins s σ H R I h => ?_⟩
  refine Call_ (ld_blt I hg hm PyProof.Rows.boot_zip (PyProof.Rows.callWith_type1 (thn (ha.run pos pins s σ H _ I h) fun us s1 ⟨vs, H1, I1, r1, q1⟩ => ?_) hs hpl))
  obtain ⟨a, b, xs, ys, ex, hqx, hqy, q⟩ := q1
  subst ex
  cases r1 with
  | cons r rr =>
    cases rr with
    | cons r' rr =>
      cases rr
      cases r
      cases r'
      have fresh5 : ∀ c, c ∈ [s1.heap.objs.size + 4, s1.heap.objs.size + 2, s1.heap.objs.size + 3, s1.heap.objs.size, s1.heap.objs.size + 1] → FpOk X pins H1 c := fun c hcm => by
        have e' : c = s1.heap.objs.size + 4 ∨ c = s1.heap.objs.size + 2 ∨ c = s1.heap.objs.size + 3 ∨ c = s1.heap.objs.size ∨ c = s1.heap.objs.size + 1 := by simpa using hcm
        have hle : s1.heap.objs.size ≤ c := by
          rcases e' with z | z | z | z | z
          · rw [z]; exact Nat.le_add_right _ _
          · rw [z]; exact Nat.le_add_right _ _
          · rw [z]; exact Nat.le_add_right _ _
          · rw [z]; exact Nat.le_refl _
          · rw [z]; exact Nat.le_add_right _ _
        exact I1.fpOk hle (I1.hok.fresh hle)
      obtain ⟨its, rv, p1, _⟩ := I1.list hqx
      obtain ⟨its2, rv2, p2, _⟩ := I1.tuple hqy
      have hl1 : a < s1.heap.objs.size := p1.lt
      have hl2 : b < s1.heap.objs.size := p2.lt
      refine zip_begins2 (begins_list a its.toArray) (begins_tuple b its2.toArray) p1.isList p2 fun h' hz hTI hTO h1 h2 hsz hk => wpAny_pyIter_zip hz ?_
      have I2 : Inv X pins σ H1 { s1 with heap := h' } := I1.kept (t' := s1.toks) hk
      exact ⟨s1.heap.objs.size + 4, [s1.heap.objs.size + 4, s1.heap.objs.size + 2, s1.heap.objs.size + 3, s1.heap.objs.size, s1.heap.objs.size + 1], _, _, H1, rfl, I2,
        turn_zipM (zip_sep2 (fp1 := [a]) (fp2 := [b]) (fun c hc => by rw [List.mem_singleton.mp hc]; exact hl1) (fun c hc => by rw [List.mem_singleton.mp hc]; exact hl2)) (Nat.ne_of_lt hl1) (Nat.ne_of_lt (Nat.lt_succ_of_lt hl2)), ⟨hz, hTI, ⟨_, _, hTO⟩, ⟨_, h1, rfl, rfl⟩, ⟨_, h2, rfl, rfl⟩⟩, fresh5, q⟩
end K13

set_option maxRecDepth 100000
set_option maxHeartbeats 4000000
set_option autoImplicit false
/-! The abstract layer, part 5: what is walked, targets, comprehensions, calls of defs. -/
namespace K13
open PySem PySem.Spec PyProof.Rows L2

/-! ### what is walked -/
/-- J walks the data ds, as long as F stands -/
structure Wk (J : It) (F : Hp) (ds : List PyData) : Prop where
  go : ∀ i H, i < ds.length → Same F H → J.go i H
  stop : ∀ H, Same F H → J.stop ds.length H
  yld : ∀ i x H H', Same F H → J.yld i H x H' → ∀ d, ds[i]? = some d → ∀ F1, Same F F1 → Same F1 H → ∃ F2, Gr F1 H F2 H' ∧ Dq F2 x d
def FI (X : Cx) (tg iter : Expr) (Γ : List Sl) (μ : List MObj) (R : List PyData → List MObj → Prop) : Prop :=
  ∃ wi : TI, PI X tg iter wi ∧ ∀ (F H : Hp) (σ : L2.St) (ps : List Addr) (R' : It → Hp → Prop), EnvOk F ps σ Γ → HeapOk F H ps μ →
    (∀ J F2 H2 ds μ2, HeapOk F2 H2 ps μ2 → Step ps F H F2 H2 → Wk J F2 ds → R ds μ2 → R' J H2) → wi σ H R'
theorem lt_get {α : Type} {l : List α} {i : Nat} (h : i < l.length) : l[i]? = some l[i] := List.getElem?_eq_getElem h
section
variable {K : PySem.W.Frag} {F : Hp} {a b : Addr} {xs ys : List V} {ds es : List PyData}
theorem wk_tup (h : F a = some (.tup xs)) (q : DqAll F xs ds) : Wk (Itt K a) F ds := by
  have hl := q.length
  refine ⟨fun i H hi s => ⟨xs, xs[i], SqT.of (s _ _ h), lt_get (by omega)⟩, fun H s => ⟨xs, SqT.of (s _ _ h), by omega⟩, fun i x H H' s y d hd F1 s1 s2 => ?_⟩
  obtain ⟨rfl, y⟩ := y
  obtain ⟨v, hv, q2⟩ := q.get hd
  have e := y xs (SqT.of (s _ _ h))
  rw [hv] at e
  cases e
  exact ⟨F1, Gr.refl s2, q2.up s1⟩
theorem wk_lst (h : F a = some (.lst xs)) (q : DqAll F xs ds) : Wk (Itl K a) F ds := by
  have hl := q.length
  refine ⟨fun i H hi s => ⟨xs, xs[i], SqL.of (s _ _ h), lt_get (by omega)⟩, fun H s => ⟨xs, SqL.of (s _ _ h), by omega⟩, fun i x H H' s y d hd F1 s1 s2 => ?_⟩
  obtain ⟨rfl, y⟩ := y
  obtain ⟨v, hv, q2⟩ := q.get hd
  have e := y xs (SqL.of (s _ _ h))
  rw [hv] at e
  cases e
  exact ⟨F1, Gr.refl s2, q2.up s1⟩
def rgN (lo : Int) (n : Nat) : List PyData := (List.range n).map fun (m : Nat) => PyData.int (lo + (m : Int))
theorem rgN_get {lo : Int} {n i : Nat} {d : PyData} (h : (rgN lo n)[i]? = some d) : d = .int (lo + (i : Int)) ∧ i < n := by
  unfold rgN at h
  rw [List.getElem?_map] at h
  by_cases hi : i < n
  · rw [List.getElem?_range hi] at h
    exact ⟨(Option.some.inj h).symm, hi⟩
  · rw [List.getElem?_eq_none (by rw [List.length_range]; omega)] at h
    cases h
theorem rgN_length (lo : Int) (n : Nat) : (rgN lo n).length = n := by unfold rgN; rw [List.length_map, List.length_range]
theorem wk_rng {lo : Int} {n : Nat} : Wk (Itr lo n) F (rgN lo n) := by
  refine ⟨fun i H hi s => by rw [rgN_length] at hi; exact hi, fun H s => by rw [rgN_length]; exact Nat.le_refl _, fun i x H H' s y d hd F1 s1 s2 => ?_⟩
  obtain ⟨rfl, rfl⟩ := y
  rw [(rgN_get hd).1]
  exact ⟨F1, Gr.refl s2, .int _⟩
/-- pairs (i, item) -/
def enumD (ds : List PyData) : List PyData := ds.zipIdx.map fun p => .tuple [.int ((p.2 : Nat) : Int), p.1]
theorem enumD_length : (enumD ds).length = ds.length := by unfold enumD; rw [List.length_map, List.length_zipIdx]
theorem enumD_get {i : Nat} {d : PyData} (h : (enumD ds)[i]? = some d) : ∃ e, ds[i]? = some e ∧ d = .tuple [.int ((i : Nat) : Int), e] := by
  unfold enumD at h
  rw [List.getElem?_map, List.getElem?_zipIdx] at h
  cases q : ds[i]? with
  | none => rw [q] at h; cases h
  | some e =>
    rw [q] at h
    refine ⟨e, rfl, ?_⟩
    have := Option.some.inj h
    rw [← this]
    simp
theorem wk_enumL (h : F a = some (.lst xs)) (q : DqAll F xs ds) : Wk (Ite K a) F (enumD ds) := by
  have hl := q.length
  refine ⟨fun i H hi s => ⟨xs, xs[i]'(by rw [enumD_length] at hi; omega), SqL.of (s _ _ h), lt_get _⟩, fun H s => ⟨xs, SqL.of (s _ _ h), by rw [enumD_length]; omega⟩, fun i x H H' s y d hd F1 s1 s2 => ?_⟩
  obtain ⟨T, u, rfl, nT, rfl, y⟩ := y
  obtain ⟨e, he, rfl⟩ := enumD_get hd
  obtain ⟨v, hv, q2⟩ := q.get he
  have ee := y xs (SqL.of (s _ _ h))
  rw [hv] at ee
  cases ee
  obtain ⟨g, q3⟩ := new_tup s2 nT (.cons (.int _) (.cons (q2.up s1) .nil))
  exact ⟨_, g, q3⟩
theorem wk_enumT (h : F a = some (.tup xs)) (q : DqAll F xs ds) : Wk (IteT K a) F (enumD ds) := by
  have hl := q.length
  refine ⟨fun i H hi s => ⟨xs, xs[i]'(by rw [enumD_length] at hi; omega), SqT.of (s _ _ h), lt_get _⟩, fun H s => ⟨xs, SqT.of (s _ _ h), by rw [enumD_length]; omega⟩, fun i x H H' s y d hd F1 s1 s2 => ?_⟩
  obtain ⟨T, u, rfl, nT, rfl, y⟩ := y
  obtain ⟨e, he, rfl⟩ := enumD_get hd
  obtain ⟨v, hv, q2⟩ := q.get he
  have ee := y xs (SqT.of (s _ _ h))
  rw [hv] at ee
  cases ee
  obtain ⟨g, q3⟩ := new_tup s2 nT (.cons (.int _) (.cons (q2.up s1) .nil))
  exact ⟨_, g, q3⟩
def zipD (ds es : List PyData) : List PyData := (ds.zip es).map fun p => .tuple [p.1, p.2]
theorem zipD_length : (zipD ds es).length = min ds.length es.length := by unfold zipD; rw [List.length_map, List.length_zip]
theorem zipD_get {i : Nat} {d : PyData} (h : (zipD ds es)[i]? = some d) : ∃ u v, ds[i]? = some u ∧ es[i]? = some v ∧ d = .tuple [u, v] := by
  unfold zipD at h
  rw [List.getElem?_map] at h
  cases q : (ds.zip es)[i]? with
  | none => rw [q] at h; cases h
  | some p =>
    rw [q] at h
    obtain ⟨u, v⟩ := p
    obtain ⟨h1, h2⟩ := List.getElem?_zip_eq_some.mp q
    exact ⟨u, v, h1, h2, (Option.some.inj h).symm⟩
theorem wk_zipM (h : F a = some (.lst xs)) (q : DqAll F xs ds) (h2 : F b = some (.tup ys)) (q2 : DqAll F ys es) : Wk (ItzM K a b) F (zipD ds es) := by
  have hl := q.length
  have hl2 := q2.length
  refine ⟨fun i H hi s => ?_, fun H s => ⟨xs, ys, SqL.of (s _ _ h), SqT.of (s _ _ h2), by rw [zipD_length]; omega, by rw [zipD_length]; omega, by rw [zipD_length]; omega⟩, fun i x H H' s y d hd F1 s1 s2 => ?_⟩
  · rw [zipD_length] at hi
    exact ⟨xs, ys, xs[i]'(by omega), ys[i]'(by omega), SqL.of (s _ _ h), SqT.of (s _ _ h2), lt_get _, lt_get _⟩
  · obtain ⟨T, u, v, rfl, nT, rfl, y1, y2⟩ := y
    obtain ⟨d1, d2, e1, e2, rfl⟩ := zipD_get hd
    obtain ⟨v1, hv1, w1⟩ := q.get e1
    obtain ⟨v2, hv2, w2⟩ := q2.get e2
    have ee := y1 xs (SqL.of (s _ _ h))
    rw [hv1] at ee
    cases ee
    have ee := y2 ys (SqT.of (s _ _ h2))
    rw [hv2] at ee
    cases ee
    obtain ⟨g, q3⟩ := new_tup s2 nT (.cons (w1.up s1) (.cons (w2.up s1) .nil))
    exact ⟨_, g, q3⟩
theorem wk_zipL (h : F a = some (.lst xs)) (q : DqAll F xs ds) (h2 : F b = some (.lst ys)) (q2 : DqAll F ys es) : Wk (Itz K a b) F (zipD ds es) := by
  have hl := q.length
  have hl2 := q2.length
  refine ⟨fun i H hi s => ?_, fun H s => ⟨xs, ys, SqL.of (s _ _ h), SqL.of (s _ _ h2), by rw [zipD_length]; omega⟩, fun i x H H' s y d hd F1 s1 s2 => ?_⟩
  · rw [zipD_length] at hi
    exact ⟨xs, ys, xs[i]'(by omega), ys[i]'(by omega), SqL.of (s _ _ h), SqL.of (s _ _ h2), lt_get _, lt_get _⟩
  · obtain ⟨T, u, v, rfl, nT, rfl, y1, y2⟩ := y
    obtain ⟨d1, d2, e1, e2, rfl⟩ := zipD_get hd
    obtain ⟨v1, hv1, w1⟩ := q.get e1
    obtain ⟨v2, hv2, w2⟩ := q2.get e2
    have ee := y1 xs (SqL.of (s _ _ h))
    rw [hv1] at ee
    cases ee
    have ee := y2 ys (SqL.of (s _ _ h2))
    rw [hv2] at ee
    cases ee
    obtain ⟨g, q3⟩ := new_tup s2 nT (.cons (w1.up s1) (.cons (w2.up s1) .nil))
    exact ⟨_, g, q3⟩
theorem wk_zipT (h : F a = some (.tup xs)) (q : DqAll F xs ds) (h2 : F b = some (.tup ys)) (q2 : DqAll F ys es) : Wk (RZ.ItzT K a b) F (zipD ds es) := by
  have hl := q.length
  have hl2 := q2.length
  refine ⟨fun i H hi s => ?_, fun H s => ⟨xs, ys, SqT.of (s _ _ h), SqT.of (s _ _ h2), by rw [zipD_length]; omega⟩, fun i x H H' s y d hd F1 s1 s2 => ?_⟩
  · rw [zipD_length] at hi
    exact ⟨xs, ys, xs[i]'(by omega), ys[i]'(by omega), SqT.of (s _ _ h), SqT.of (s _ _ h2), lt_get _, lt_get _⟩
  · obtain ⟨T, u, v, rfl, nT, rfl, y1, y2⟩ := y
    obtain ⟨d1, d2, e1, e2, rfl⟩ := zipD_get hd
    obtain ⟨v1, hv1, w1⟩ := q.get e1
    obtain ⟨v2, hv2, w2⟩ := q2.get e2
    have ee := y1 xs (SqT.of (s _ _ h))
    rw [hv1] at ee
    cases ee
    have ee := y2 ys (SqT.of (s _ _ h2))
    rw [hv2] at ee
    cases ee
    obtain ⟨g, q3⟩ := new_tup s2 nT (.cons (w1.up s1) (.cons (w2.up s1) .nil))
    exact ⟨_, g, q3⟩
end
section
variable {X : Cx} {tg : Expr} {Γ : List Sl} {μ : List MObj} {R : List PyData → List MObj → Prop} {e e2 : Expr} {p pos tpos : Pos} {elts : List Expr} {kk : Nat}
theorem fi_tup (h : FE X e Γ μ fun d m => ∃ ds, d = .tuple ds ∧ R ds m) : FI X tg e Γ μ R := ⟨_, pi_tup pe_can, fun F H σ ps R' en hp k => by
  refine h F H σ ps _ en hp fun v F1 H1 d1 μ1 hp1 s1 q1 h1 => ?_
  obtain ⟨ds, rfl, hR⟩ := h1
  obtain ⟨a, xs, rfl, e1, e2⟩ := q1.tuple_inv
  exact ⟨a, rfl, ⟨xs, SqT.of (hp1.same _ _ e1)⟩, k _ F1 H1 ds μ1 hp1 s1 (wk_tup e1 e2) hR⟩⟩
theorem fi_lst (h : FE X e Γ μ fun d m => ∃ ds, d = .list ds ∧ R ds m) : FI X tg e Γ μ R := ⟨_, pi_list pe_can, fun F H σ ps R' en hp k => by
  refine h F H σ ps _ en hp fun v F1 H1 d1 μ1 hp1 s1 q1 h1 => ?_
  obtain ⟨ds, rfl, hR⟩ := h1
  obtain ⟨a, xs, rfl, e1, e2⟩ := q1.list_inv
  exact ⟨a, rfl, ⟨xs, SqL.of (hp1.same _ _ e1)⟩, k _ F1 H1 ds μ1 hp1 s1 (wk_lst e1 e2) hR⟩⟩
theorem fi_range (B : Bl X.mg) (h : FE X e Γ μ fun d m => ∃ j : Int, d = .int j ∧ -(2 ^ 62) ≤ j ∧ j < 2 ^ 62 ∧ R (rgN 0 j.toNat) m) (hg : Gl X "range" := by rfl) (hs : starEach [e] X.env = [(false, eval e X.env)] := by rfl) : FI X tg (.Call (.Name "range" p) [e] [] pos) Γ μ R :=
  ⟨_, pi_range1 hg B.range (pa_cons pe_can pa_nil hs) hs, fun F H σ ps R' en hp k => by
    refine h F H σ ps _ en hp fun v F1 H1 d1 μ1 hp1 s1 q1 h1 => ?_
    obtain ⟨j, rfl, b1, b2, hR⟩ := h1
    refine ⟨j, by rw [q1.int_inv], b1, b2, k _ F1 H1 _ μ1 hp1 s1 wk_rng hR⟩⟩
theorem fi_enumL (B : Bl X.mg) (h : FE X e Γ μ fun d m => ∃ ds, d = .list ds ∧ R (enumD ds) m) (hg : Gl X "enumerate" := by rfl) (hs : starEach [e] X.env = [(false, eval e X.env)] := by rfl) : FI X (.Tuple elts kk tpos) (.Call (.Name "enumerate" p) [e] [] pos) Γ μ R :=
  ⟨_, pi_enum hg B.enumerate (pa_cons pe_can pa_nil hs) hs, fun F H σ ps R' en hp k => by
    refine h F H σ ps _ en hp fun v F1 H1 d1 μ1 hp1 s1 q1 h1 => ?_
    obtain ⟨ds, rfl, hR⟩ := h1
    obtain ⟨a, xs, rfl, e1, e2⟩ := q1.list_inv
    exact ⟨a, xs, rfl, SqL.of (hp1.same _ _ e1), k _ F1 H1 _ μ1 hp1 s1 (wk_enumL e1 e2) hR⟩⟩
theorem fi_enumT (B : Bl X.mg) (h : FE X e Γ μ fun d m => ∃ ds, d = .tuple ds ∧ R (enumD ds) m) (hg : Gl X "enumerate" := by rfl) (hs : starEach [e] X.env = [(false, eval e X.env)] := by rfl) : FI X (.Tuple elts kk tpos) (.Call (.Name "enumerate" p) [e] [] pos) Γ μ R :=
  ⟨_, pi_enumT hg B.enumerate (pa_cons pe_can pa_nil hs) hs, fun F H σ ps R' en hp k => by
    refine h F H σ ps _ en hp fun v F1 H1 d1 μ1 hp1 s1 q1 h1 => ?_
    obtain ⟨ds, rfl, hR⟩ := h1
    obtain ⟨a, xs, rfl, e1, e2⟩ := q1.tuple_inv
    exact ⟨a, xs, rfl, SqT.of (hp1.same _ _ e1), k _ F1 H1 _ μ1 hp1 s1 (wk_enumT e1 e2) hR⟩⟩
theorem fi_zipM (B : Bl X.mg) (h : FE X e Γ μ fun d m => ∃ ds, d = .list ds ∧ FE X e2 Γ m fun d2 m2 => ∃ es, d2 = .tuple es ∧ R (zipD ds es) m2) (hg : Gl X "zip" := by rfl)
    (hs : starEach [e, e2] X.env = (false, eval e X.env) :: starEach [e2] X.env := by rfl) (hs2 : starEach [e2] X.env = (false, eval e2 X.env) :: starEach [] X.env := by rfl) (hpl : (backTo pos (starEach [e2] X.env)).any (·.1) = false := by rfl) : FI X (.Tuple elts kk tpos) (.Call (.Name "zip" p) [e, e2] [] pos) Γ μ R :=
  ⟨_, pi_zipM hg B.zip (pa_cons pe_can (pa_cons pe_can pa_nil hs2) hs) hs hpl, fun F H σ ps R' en hp k => by
    refine h F H σ ps _ en hp fun v F1 H1 d1 μ1 hp1 s1 q1 h1 => ?_
    obtain ⟨ds, rfl, h1⟩ := h1
    refine h1 F1 H1 σ ps _ (en.up s1.ff) hp1 fun w F2 H2 d2 μ2 hp2 s2 q2 h2 => ?_
    obtain ⟨es, rfl, hR⟩ := h2
    obtain ⟨a, xs, rfl, e1, e2⟩ := (q1.up s2.ff).list_inv
    obtain ⟨b, ys, rfl, e3, e4⟩ := q2.tuple_inv
    exact ⟨a, b, xs, ys, rfl, SqL.of (hp2.same _ _ e1), SqT.of (hp2.same _ _ e3), k _ F2 H2 _ μ2 hp2 (s1.trans s2) (wk_zipM e1 e2 e3 e4) hR⟩⟩
theorem fi_zipT (B : Bl X.mg) (h : FE X e Γ μ fun d m => ∃ ds, d = .tuple ds ∧ FE X e2 Γ m fun d2 m2 => ∃ es, d2 = .tuple es ∧ R (zipD ds es) m2) (hg : Gl X "zip" := by rfl)
    (hs : starEach [e, e2] X.env = (false, eval e X.env) :: starEach [e2] X.env := by rfl) (hs2 : starEach [e2] X.env = (false, eval e2 X.env) :: starEach [] X.env := by rfl) (hpl : (backTo pos (starEach [e2] X.env)).any (·.1) = false := by rfl) : FI X (.Tuple elts kk tpos) (.Call (.Name "zip" p) [e, e2] [] pos) Γ μ R :=
  ⟨_, RZ.pi_zipA hg B.zip (pa_cons pe_can (pa_cons pe_can pa_nil hs2) hs) hs hpl, fun F H σ ps R' en hp k => by
    refine h F H σ ps _ en hp fun v F1 H1 d1 μ1 hp1 s1 q1 h1 => ?_
    obtain ⟨ds, rfl, h1⟩ := h1
    refine h1 F1 H1 σ ps _ (en.up s1.ff) hp1 fun w F2 H2 d2 μ2 hp2 s2 q2 h2 => ?_
    obtain ⟨es, rfl, hR⟩ := h2
    obtain ⟨a, xs, rfl, e1, e2⟩ := (q1.up s2.ff).tuple_inv
    obtain ⟨b, ys, rfl, e3, e4⟩ := q2.tuple_inv
    exact ⟨a, b, xs, ys, rfl, .inr ⟨SqT.of (hp2.same _ _ e1), SqT.of (hp2.same _ _ e3), k _ F2 H2 _ μ2 hp2 (s1.trans s2) (wk_zipT e1 e2 e3 e4) hR⟩⟩⟩
theorem fi_zipL (B : Bl X.mg) (h : FE X e Γ μ fun d m => ∃ ds, d = .list ds ∧ FE X e2 Γ m fun d2 m2 => ∃ es, d2 = .list es ∧ R (zipD ds es) m2) (hg : Gl X "zip" := by rfl)
    (hs : starEach [e, e2] X.env = (false, eval e X.env) :: starEach [e2] X.env := by rfl) (hs2 : starEach [e2] X.env = (false, eval e2 X.env) :: starEach [] X.env := by rfl) (hpl : (backTo pos (starEach [e2] X.env)).any (·.1) = false := by rfl) : FI X (.Tuple elts kk tpos) (.Call (.Name "zip" p) [e, e2] [] pos) Γ μ R :=
  ⟨_, RZ.pi_zipA hg B.zip (pa_cons pe_can (pa_cons pe_can pa_nil hs2) hs) hs hpl, fun F H σ ps R' en hp k => by
    refine h F H σ ps _ en hp fun v F1 H1 d1 μ1 hp1 s1 q1 h1 => ?_
    obtain ⟨ds, rfl, h1⟩ := h1
    refine h1 F1 H1 σ ps _ (en.up s1.ff) hp1 fun w F2 H2 d2 μ2 hp2 s2 q2 h2 => ?_
    obtain ⟨es, rfl, hR⟩ := h2
    obtain ⟨a, xs, rfl, e1, e2⟩ := (q1.up s2.ff).list_inv
    obtain ⟨b, ys, rfl, e3, e4⟩ := q2.list_inv
    exact ⟨a, b, xs, ys, rfl, .inl ⟨SqL.of (hp2.same _ _ e1), SqL.of (hp2.same _ _ e3), k _ F2 H2 _ μ2 hp2 (s1.trans s2) (wk_zipL e1 e2 e3 e4) hR⟩⟩⟩
end

/-! ### targets -/
/-- like σ but at the slots S -/
def Agree (S : List Nat) (σ σ' : L2.St) : Prop := σ'.length = σ.length ∧ ∀ j, j ∉ S → σ'[j]? = σ[j]?
abbrev GT := PyData → List Sl → (List Sl → Prop) → Prop
structure Tg (X : Cx) (tg : Expr) (S : List Nat) (b : GT) : Prop where
  ok : ∃ g : TG, PG X tg g ∧ ∀ (F H : Hp) (ps : List Addr) (σ : L2.St) (Γ : List Sl) (v : V) (d : PyData) (Φ : List Sl → Prop) (Q : L2.St → Hp → Prop), EnvOk F ps σ Γ → Same F H → Dq F v d → b d Γ Φ →
    (∀ σ' Γ', EnvOk F ps σ' Γ' → Agree S σ σ' → Φ Γ' → Q σ' H) → g v σ H Q
abbrev GTs := List PyData → List Sl → (List Sl → Prop) → Prop
structure Tgs (X : Cx) (ts : List Expr) (S : List Nat) (b : GTs) : Prop where
  ok : ∃ g : TGs, PGs X ts g ∧ ∀ (F H : Hp) (ps : List Addr) (σ : L2.St) (Γ : List Sl) (vs : List V) (ds : List PyData) (Φ : List Sl → Prop) (Q : L2.St → Hp → Prop), EnvOk F ps σ Γ → Same F H → DqAll F vs ds → b ds Γ Φ →
    (∀ σ' Γ', EnvOk F ps σ' Γ' → Agree S σ σ' → Φ Γ' → Q σ' H) → g vs σ H Q
def bName (i : Nat) : GT := fun d Γ Φ => Φ (Γ.set i (.dat d))
def bNil : GTs := fun ds Γ Φ => ds = [] ∧ Φ Γ
def bCons (b : GT) (bs : GTs) : GTs := fun ds Γ Φ => match ds with
  | [] => False
  | d :: ds => b d Γ fun Γ1 => bs ds Γ1 Φ
def bTup (n : Nat) (bs : GTs) : GT := fun d Γ Φ => match d with
  | .tuple ds => ds.length = n ∧ bs ds Γ Φ
  | _ => False
section
variable {X : Cx} {pos : Pos}
theorem Agree.refl (S : List Nat) (σ : L2.St) : Agree S σ σ := ⟨rfl, fun _ _ => rfl⟩
theorem Agree.trans {S T : List Nat} {σ σ1 σ2 : L2.St} (a : Agree S σ σ1) (b : Agree T σ1 σ2) : Agree (S ++ T) σ σ2 :=
  ⟨b.1.trans a.1, fun j h => (b.2 j fun z => h (List.mem_append_right _ z)).trans (a.2 j fun z => h (List.mem_append_left _ z))⟩
theorem Agree.set (σ : L2.St) (i : Nat) (v : Option V) : Agree [i] σ (σ.set i v) := ⟨List.length_set, fun j h => List.getElem?_set_ne (fun z => h (by simp [z]))⟩
theorem tg_name {i : Nat} {x : Str} (hN : X.N.Nodup) (hi : X.N[i]? = some x) (hx : Loc X.env.scope x) (hf : X.fn x = true ∨ X.env.scope.names.lookup x = some .local) : Tg X (.Name x pos) [i] (bName i) :=
  ⟨gName i, pg_name hN hi hx hf, fun F H ps σ Γ v d Φ Q en s q h k => k _ _ (en.set (s := .dat d) (show SlOk F ps (some (some v)) (.dat d) from ⟨v, rfl, q⟩)) (Agree.set _ _ _) h⟩
theorem tgs_nil : Tgs X [] [] bNil := ⟨gNil, pgs_nil, fun F H ps σ Γ vs ds Φ Q en s q h k => by
  obtain ⟨rfl, h⟩ := h
  cases q
  exact ⟨rfl, k σ Γ en (Agree.refl _ _) h⟩⟩
theorem tgs_cons {e : Expr} {es : List Expr} {S T : List Nat} {b : GT} {bs : GTs} (h1 : Tg X e S b) (h2 : Tgs X es T bs) (hs : (assignEach (e :: es) X.env).map (·.2) = assign e X.env :: (assignEach es X.env).map (·.2) := by rfl) : Tgs X (e :: es) (S ++ T) (bCons b bs) := by
  obtain ⟨g1, p1, k1⟩ := h1.ok
  obtain ⟨g2, p2, k2⟩ := h2.ok
  refine ⟨gCons g1 g2, pgs_cons p1 p2 hs, fun F H ps σ Γ vs ds Φ Q en s q h k => ?_⟩
  cases q with
  | nil => exact False.elim h
  | cons q1 q2 =>
    refine ⟨_, _, rfl, k1 F H ps σ Γ _ _ _ _ en s q1 h fun σ1 Γ1 en1 a1 h1 => ?_⟩
    exact k2 F H ps σ1 Γ1 _ _ Φ Q en1 s q2 h1 fun σ2 Γ2 en2 a2 h2 => k σ2 Γ2 en2 (a1.trans a2) h2
theorem tg_tup {es : List Expr} {k n : Nat} {S : List Nat} {bs : GTs} (hc : X.calm = true) (h : Tgs X es S bs) (hn : (assignEach es X.env).length = n := by rfl) (hst : (assignEach es X.env).findIdx? (·.1) = none := by rfl) : Tg X (.Tuple es k pos) S (bTup n bs) := by
  obtain ⟨g, p, kk⟩ := h.ok
  refine ⟨L2.gTup X.K n g, pg_tup hc p hn hst, fun F H ps σ Γ v d Φ Q en s q h k => ?_⟩
  cases q with
  | tup q1 q2 =>
    obtain ⟨h1, h2⟩ := h
    exact ⟨_, _, rfl, SqT.of (s _ _ q1), by rw [q2.length]; exact h1, kk F H ps σ Γ _ _ Φ Q en s q2 h2 k⟩
  | _ => exact False.elim h
end

/-! ### comprehensions -/
def wipeG (Γ : List Sl) : List Nat → List Sl
  | [] => Γ
  | v :: vs => (wipeG Γ vs).set v .un
theorem EnvOk.un {F : Hp} {ps : List Addr} {σ : L2.St} {Γ : List Sl} (h : EnvOk F ps σ Γ) (i : Nat) (o : Option V) : EnvOk F ps (σ.set i o) (Γ.set i .un) := by
  refine ⟨by rw [List.length_set, List.length_set]; exact h.len, fun j t e => ?_⟩
  by_cases z : i = j
  · subst z
    by_cases hi : i < Γ.length
    · rw [List.getElem?_set_self hi] at e
      cases e
      exact True.intro
    · rw [List.getElem?_eq_none (by rw [List.length_set]; omega)] at e
      cases e
  · rw [List.getElem?_set_ne z] at e ⊢
    exact h.at_ j t e
theorem EnvOk.wipe {F : Hp} {ps : List Addr} {σ : L2.St} {Γ : List Sl} (h : EnvOk F ps σ Γ) : ∀ vs : List Nat, EnvOk F ps (L2.wipe σ vs) (wipeG Γ vs)
  | [] => h
  | v :: vs => (EnvOk.wipe h vs).un v none
theorem wipe_at (σ : L2.St) : ∀ (vs : List Nat) (j : Nat), (L2.wipe σ vs)[j]? = if j ∈ vs then (if j < σ.length then some none else none) else σ[j]?
  | [], j => by rw [if_neg (fun z => nomatch z)]; rfl
  | v :: vs, j => by
    show ((L2.wipe σ vs).set v none)[j]? = _
    by_cases e : v = j
    · subst e
      rw [if_pos List.mem_cons_self]
      by_cases hl : v < σ.length
      · rw [if_pos hl, List.getElem?_set_self (by rw [wipe_length]; exact hl)]
      · rw [if_neg hl, List.getElem?_eq_none (by rw [List.length_set, wipe_length]; omega)]
    · rw [List.getElem?_set_ne e, wipe_at σ vs j]
      by_cases hm : j ∈ vs
      · rw [if_pos hm, if_pos (List.mem_cons_of_mem _ hm)]
      · rw [if_neg hm, if_neg (fun z => (List.mem_cons.mp z).elim (fun z => e z.symm) hm)]
theorem wipe_agree {S vs : List Nat} {σ σ' : L2.St} (hS : ∀ j ∈ S, j ∈ vs) (a : Agree S (L2.wipe σ vs) σ') : L2.wipe σ' vs = L2.wipe σ vs := by
  refine List.ext_getElem? fun j => ?_
  rw [wipe_at, wipe_at]
  have hl : σ'.length = σ.length := by rw [a.1, wipe_length]
  by_cases hm : j ∈ vs
  · rw [if_pos hm, if_pos hm, hl]
  · rw [if_neg hm, if_neg hm, a.2 j (fun z => hm (hS j z)), wipe_at, if_neg hm]
/-- the tests of a comprehension -/
def FTs (X : Cx) (ifs : List Expr) (Γ : List Sl) (μ : List MObj) (Q : Bool → List MObj → Prop) : Prop := match ifs with
  | [] => Q true μ
  | [c] => FB X c Γ μ Q
  | _ => False
theorem fts_wts {X : Cx} {ifs : List Expr} {Γ : List Sl} {μ : List MObj} {QB : Bool → List MObj → Prop} (h : FTs X ifs Γ μ QB) (F H : Hp) (σ : L2.St) (ps : List Addr) (Q' : Bool → Hp → Prop) (en : EnvOk F ps σ Γ) (hp : HeapOk F H ps μ)
    (k : ∀ b F2 H2 μ2, HeapOk F2 H2 ps μ2 → Step ps F H F2 H2 → QB b μ2 → Q' b H2) : WTs X ifs σ H Q' := by
  match ifs, h with
  | [], h => exact WTs.of pts_nil (k true F H μ hp (Step.refl hp.same) h)
  | [c], h => exact WTs.of (pts_one pt_can) (h F H σ ps Q' en hp k)
/-- the contexts of a comprehension's block -/
abbrev bx (X : Cx) (scope : Scope) (s : Shared) (H : Hp) (C : Addr) (cl : List (Str × Addr)) (fp : List Addr) : Cx := X.blk s H scope (compEnvC scope cl C X.env) fp
theorem Step.wide {F H F2 H2 : Hp} {ps : List Addr} {D : Addr} (s : Step ps F H F2 H2) : Step (D :: ps) F H F2 H2 := ⟨s.ff, s.fh, fun p o e n => s.hh p o e (fun z => n (List.mem_cons_of_mem _ z)), s.th, fun p e1 e2 n => s.av p e1 e2 (fun z => n (List.mem_cons_of_mem _ z))⟩
theorem hid_step {F H : Hp} {ps : List Addr} {D : Addr} {o : HO} (h : Same F H) (nF : F D = none) : Step (D :: ps) F H F (upd H D o) := by
  refine ⟨Same.refl F, fun p u e => ?_, fun p u e n => ?_, fun p e => ?_, fun p e _ _ => e⟩
  · rw [upd_ne (ne_of_none e nF)]; exact h p u e
  · rw [upd_ne (fun z => n (by rw [z]; exact List.mem_cons_self))]; exact e
  · by_cases z : p = D
    · rw [z, upd_same]; exact fun z => nomatch z
    · rw [upd_ne z]; exact e
/-- a hidden list changes -/
theorem hid_ok {F H : Hp} {ps : List Addr} {μ : List MObj} {D : Addr} {o : HO} (hp : HeapOk F H ps μ) (nF : F D = none) (nD : D ∉ ps) : HeapOk F (upd H D o) ps μ := by
  refine ⟨fun p u e => ?_, hp.len, hp.nd, fun j p u a b => ?_⟩
  · rw [upd_ne (ne_of_none e nF)]
    exact hp.same p u e
  · have ne : p ≠ D := fun z => nD (by rw [← z]; exact List.mem_of_getElem? a)
    have ok := hp.obj j p u a b
    cases u with
    | lst ds => obtain ⟨f, xs, h1, h2⟩ := ok; exact ⟨f, xs, by rw [upd_ne ne]; exact h1, h2⟩
    | dct kvs => obtain ⟨f, xs, h1, h2⟩ := ok; exact ⟨f, xs, by rw [upd_ne ne]; exact h1, h2⟩
    | gone =>
      show (upd H D o) p ≠ none
      rw [upd_ne ne]
      exact ok
theorem show_ok {F H : Hp} {ps : List Addr} {μ : List MObj} {D : Addr} {xs : List V} (hp : HeapOk F H ps μ) (nF : F D = none) (nD : D ∉ ps) (e : H D = some (.lst xs)) : HeapOk (upd F D (.lst xs)) H ps μ ∧ Same F (upd F D (.lst xs)) := by
  refine ⟨⟨fun p u q => ?_, hp.len, hp.nd, fun j p u a b => ?_⟩, same_new nF⟩
  · by_cases z : p = D
    · rw [z] at q ⊢
      rw [upd_same] at q
      rw [e]; exact q
    · rw [upd_ne z] at q
      exact hp.same p u q
  · have ne : p ≠ D := fun z => nD (by rw [← z]; exact List.mem_of_getElem? a)
    have ok := hp.obj j p u a b
    cases u with
    | lst ds => obtain ⟨f, xs, h1, h2⟩ := ok; exact ⟨by rw [upd_ne ne]; exact f, xs, h1, h2.up (same_new nF)⟩
    | dct kvs => obtain ⟨f, xs, h1, h2⟩ := ok; exact ⟨by rw [upd_ne ne]; exact f, xs, h1, paired_imp (fun a b h => ⟨h.1, h.2.up (same_new nF)⟩) h2⟩
    | gone => exact ok
section
variable {X : Cx} {Γ : List Sl} {μ : List MObj} {Q : PyData → List MObj → Prop} {elt tg iter : Expr} {ifs : List Expr} {scope : Scope} {own : List (Str × Nat)} {pos : Pos} {S : List Nat} {b : GT}
/-- a new list, known to nobody -/
def FN (X : Cx) (e : Expr) (Γ : List Sl) (μ : List MObj) (Q : List PyData → List MObj → Prop) : Prop :=
  ∀ (F H : Hp) (σ : L2.St) (ps : List Addr) (Q' : VK), EnvOk F ps σ Γ → HeapOk F H ps μ →
    (∀ a F2 H2 xs ds μ2, HeapOk F2 H2 ps μ2 → Step ps F H F2 H2 → H a = none → F2 a = none → H2 a = some (.lst xs) → DqAll F2 xs ds → Q ds μ2 → Q' (.ref a) H2) → WE X e σ H Q'
theorem FN.imp {e : Expr} {Q1 Q2 : List PyData → List MObj → Prop} (h : FN X e Γ μ Q1) (f : ∀ d m, Q1 d m → Q2 d m) : FN X e Γ μ Q2 := fun F H σ ps Q' en hp k =>
  h F H σ ps Q' en hp fun v F2 H2 xs ds μ2 a b c d e g q => k v F2 H2 xs ds μ2 a b c d e g (f ds μ2 q)
/-- .. taken as a datum -/
theorem fe_fn {e : Expr} (h : FN X e Γ μ fun ds m => Q (.list ds) m) : FE X e Γ μ Q := fun F H σ ps Q' en hp k =>
  h F H σ ps Q' en hp fun a F2 H2 xs ds μ2 hp2 s2 na nF e q hq => by
    have nap : a ∉ ps := fun z => hp.there z na
    obtain ⟨hpF, sF⟩ := show_ok hp2 nF nap e
    refine k _ _ H2 _ μ2 hpF ⟨s2.ff.trans sF, hpF.same, s2.hh, s2.th, fun p e1 e2 n => ?_⟩ (.lst upd_same (q.up sF)) hq
    have ne : p ≠ a := fun z => e2 (by rw [z]; exact na)
    rw [upd_ne ne]
    exact s2.av p e1 e2 n
/-- a comprehension by its parts -/
def FL (X : Cx) (e : Expr) (Γ : List Sl) (μ : List MObj) (Q : List PyData → List MObj → Prop) : Prop :=
  ∃ (elt tg iter : Expr) (ifs : List Expr) (scope : Scope) (pos : Pos) (own : List (Str × Nat)) (wi : TI) (g : TG) (tt : TT) (te : TE), e = .ListComp elt [⟨tg, iter, ifs, 0⟩] scope pos ∧ X.calm = true ∧ X.N.Nodup ∧ PI X tg iter wi ∧ BlkOk X.N X.env.scope scope own ∧
    (∀ s H C cl fp, PG (bx X scope s H C cl fp) tg g) ∧ (∀ s H C cl fp, PTs (bx X scope s H C cl fp) ifs tt) ∧ (∀ s H C cl fp, PE (bx X scope s H C cl fp) elt te) ∧ (∀ x, foldedSetIterable iter X.env x = pure x) ∧
    ∀ (F H : Hp) (σ : L2.St) (ps : List Addr) (Q' : VK), EnvOk F ps σ Γ → HeapOk F H ps μ →
      (∀ a F2 H2 xs ds μ2, HeapOk F2 H2 ps μ2 → Step ps F H F2 H2 → H a = none → F2 a = none → H2 a = some (.lst xs) → DqAll F2 xs ds → Q ds μ2 → Q' (.ref a) H2) → tLc wi g tt te (own.map (·.2)) σ H Q'
theorem fn_fl {e : Expr} {Q1 : List PyData → List MObj → Prop} (h : FL X e Γ μ Q1) : FN X e Γ μ Q1 := fun F H σ ps Q' en hp k => by
  obtain ⟨elt, tg, iter, ifs, scope, pos, own, wi, g, tt, te, rfl, hc, hN, h1, h2, h3, h4, h5, h6, h7⟩ := h
  exact WE.of (pe_lc hc hN h1 h2 h3 h4 h5 h6) (h7 F H σ ps Q' en hp k)
/-- the comprehension's list is D, which is known to nobody while it grows -/
theorem fl_lc {QL : List PyData → List MObj → Prop} (hc : X.calm = true) (hN : X.N.Nodup) (hok : blkC X.N X.env.scope scope own = true) (hS : S.all (fun j => decide (j ∈ own.map (·.2))) = true) (hg : ∀ s H C cl fp, Tg (bx X scope s H C cl fp) tg S b)
    (h : FI X tg iter Γ μ fun ds μ1 => ∃ Iv : Nat → List PyData → List MObj → Prop, Iv 0 [] μ1 ∧
      (∀ i d acc m, ds[i]? = some d → Iv i acc m → b d (wipeG Γ (own.map (·.2))) fun Γ2 => ∀ s H C cl fp, FTs (bx X scope s H C cl fp) ifs Γ2 m fun k m2 =>
        if k = true then ∀ s H C cl fp, FE (bx X scope s H C cl fp) elt Γ2 m2 fun e m3 => acc.length < 100000 ∧ Iv (i + 1) (acc ++ [e]) m3 else Iv (i + 1) acc m2) ∧
      ∀ acc m, Iv ds.length acc m → QL acc m)
    (hs : ∀ x, foldedSetIterable iter X.env x = pure x := by intro _; rfl) : FL X (.ListComp elt [⟨tg, iter, ifs, 0⟩] scope pos) Γ μ QL := by
  obtain ⟨wi, hpi, hw⟩ := h
  have hg' : ∃ g : TG, (∀ s H C cl fp, PG (bx X scope s H C cl fp) tg g) ∧ ∀ (F H : Hp) (ps : List Addr) (σ : L2.St) (Γ : List Sl) (v : V) (d : PyData) (Φ : List Sl → Prop) (Q : L2.St → Hp → Prop), EnvOk F ps σ Γ → Same F H → Dq F v d → b d Γ Φ →
      (∀ σ' Γ', EnvOk F ps σ' Γ' → Agree S σ σ' → Φ Γ' → Q σ' H) → g v σ H Q := by
    refine ⟨fun v σ H Q => ∃ (F : Hp) (ps : List Addr) (Γ : List Sl) (d : PyData) (Φ : List Sl → Prop), EnvOk F ps σ Γ ∧ Same F H ∧ Dq F v d ∧ b d Γ Φ ∧ ∀ σ' Γ', EnvOk F ps σ' Γ' → Agree S σ σ' → Φ Γ' → Q σ' H, fun s H C cl fp => ?_,
      fun F H ps σ Γ v d Φ Q a b c d' e => ⟨F, ps, Γ, d, Φ, a, b, c, d', e⟩⟩
    obtain ⟨g, pg, kg⟩ := (hg s H C cl fp).ok
    refine ⟨fun pins s' σ' H' v u Q I r h => ?_⟩
    obtain ⟨F, ps, Γ, d, Φ, h1, h2, h3, h4, h5⟩ := h
    exact pg.run pins s' σ' H' v u Q I r (kg F H' ps σ' Γ v d Φ Q h1 h2 h3 h4 h5)
  obtain ⟨g, pg, kg⟩ := hg'
  refine ⟨elt, tg, iter, ifs, scope, pos, own, wi, g, fun σ H Q => ∀ s H0 C cl fp, WTs (bx X scope s H0 C cl fp) ifs σ H Q, fun σ H Q => ∀ s H0 C cl fp, WE (bx X scope s H0 C cl fp) elt σ H Q, rfl, hc, hN, hpi, blkOk_by hok, pg,
    (fun s H0 C cl fp => ⟨fun pins s' σ' H' Q I h => (h s H0 C cl fp) pins s' I⟩), (fun s H0 C cl fp => ⟨fun pins s' σ' H' Q I h => (h s H0 C cl fp) pins s' I⟩), hs, fun F H σ ps Q' en hp k => ?_⟩
  refine hw F H σ ps _ en hp fun J F1 H1 ds μ1 hp1 s1 wk hR => ?_
  obtain ⟨Iv, i0, turn, fin⟩ := hR
  intro D nD
  have nDp : D ∉ ps := fun z => hp1.there z nD
  -- what holds between two turns: all but D as the abstract state says
  refine ⟨fun i m H' => m = ds.length - i ∧ i ≤ ds.length ∧ ∃ (F' : Hp) (acc : List V) (ads : List PyData) (μ' : List MObj), HeapOk F' H' ps μ' ∧ Step (D :: ps) F1 (upd H1 D (.lst [])) F' H' ∧ F' D = none ∧ H' D = some (.lst acc) ∧ DqAll F' acc ads ∧ Iv i ads μ',
    ⟨ds.length, by simp, Nat.zero_le _, F1, [], [], μ1, hp1.gr (Gr.hid hp1.same nD), Step.refl (hp1.gr (Gr.hid hp1.same nD)).same, (hp1.same).free nD, upd_same, .nil, i0⟩, ?_⟩
  rintro i m H' ⟨rfl, hi, F', acc, ads, μ', hp', st', nF, eD, qa, iv⟩
  have sF : Same F1 F' := st'.ff
  have sH : Same F1 H' := sF.trans hp'.same
  by_cases hlt : i < ds.length
  · refine .inr ⟨wk.go i H' hlt sH, fun H'' => ∃ (F' : Hp) (acc : List V) (ads : List PyData) (μ' : List MObj), HeapOk F' H'' ps μ' ∧ Step (D :: ps) F1 (upd H1 D (.lst [])) F' H'' ∧ F' D = none ∧ H'' D = some (.lst acc) ∧ DqAll F' acc ads ∧ Iv (i + 1) ads μ',
      fun H'' hn => ⟨ds.length - (i + 1), by omega, rfl, hlt, hn⟩, fun x H2 hy => ?_⟩
    obtain ⟨F2, g2, qx⟩ := wk.yld i x H' H2 sH hy ds[i] (lt_get hlt) F' sF hp'.same
    have hp2 := hp'.gr g2
    have en2 : EnvOk F2 ps (L2.wipe σ (own.map (·.2))) (wipeG Γ (own.map (·.2))) := (en.up (s1.ff.trans (sF.trans g2.ff))).wipe _
    have nF2 : F2 D = none := g2.av D nF (by rw [eD]; exact fun z => nomatch z)
    have eD2 : H2 D = some (.lst acc) := g2.hh _ _ eD
    refine kg F2 H2 ps _ _ x ds[i] _ _ en2 hp2.same qx (turn i ds[i] ads μ' (lt_get hlt) iv) fun σ3 Γ3 en3 ag3 h3 => ?_
    refine ⟨wipe_agree (fun j hj => by have := List.all_eq_true.mp hS j hj; exact of_decide_eq_true this) ag3, fun s H0 C cl fp => ?_⟩
    refine fts_wts (h3 s H0 C cl fp) F2 H2 σ3 ps _ en3 hp2 fun k2 F3 H3 μ3 hp3 s3 h4 => ?_
    have nF3 : F3 D = none := s3.av D nF2 (by rw [eD2]; exact fun z => nomatch z) nDp
    have eD3 : H3 D = some (.lst acc) := s3.hh _ _ eD2 nDp
    have st3 := (st'.trans g2.step).trans s3.wide
    cases k2 with
    | false =>
      rw [if_neg Bool.false_ne_true] at h4 ⊢
      exact ⟨F3, acc, ads, μ3, hp3, st3, nF3, eD3, qa.up (g2.ff.trans s3.ff), h4⟩
    | true =>
      rw [if_pos rfl] at h4 ⊢
      intro s' H0' C' cl' fp'
      refine h4 s' H0' C' cl' fp' F3 H3 σ3 ps _ (en3.up s3.ff) hp3 fun v F4 H4 e μ4 hp4 s4 q4 h5 => ?_
      have nF4 : F4 D = none := s4.av D nF3 (by rw [eD3]; exact fun z => nomatch z) nDp
      have eD4 : H4 D = some (.lst acc) := s4.hh _ _ eD3 nDp
      have qa4 := qa.up (g2.ff.trans (s3.ff.trans s4.ff))
      refine ⟨acc, eD4, by rw [qa4.length]; exact line_lt h5.1, F4, acc ++ [v], ads ++ [e], μ4, ?_, ?_, nF4, upd_same, qa4.append (DqAll.one q4), h5.2⟩
      · exact hid_ok hp4 nF4 nDp
      · exact (st3.trans s4.wide).trans (hid_step hp4.same nF4)
  · have e : i = ds.length := by omega
    subst e
    refine .inl ⟨wk.stop H' sH, ?_⟩
    have n1 : ∀ p, H1 p ≠ none → p ≠ D := fun p h z => h (by rw [z]; exact nD)
    have nHD : H D = none := by
      cases q : H D with
      | none => rfl
      | some o => exact absurd nD (s1.th D (by rw [q]; exact fun z => nomatch z))
    refine k D F' H' acc ads μ' hp' ⟨s1.ff.trans sF, hp'.same, fun p o e n => ?_, fun p e => ?_, fun p e1 e2 n => ?_⟩ nHD nF eD qa (fin ads μ' iv)
    · have e1 := s1.hh p o e n
      have : p ≠ D := n1 p (by rw [e1]; exact fun z => nomatch z)
      exact st'.hh p o (by rw [upd_ne this]; exact e1) (fun z => (List.mem_cons.mp z).elim this n)
    · have e1 := s1.th p e
      exact st'.th p (by rw [upd_ne (n1 p e1)]; exact e1)
    · have e3 := s1.th p e2
      exact st'.av p (s1.av p e1 e2 n) (by rw [upd_ne (n1 p e3)]; exact e3) (fun z => (List.mem_cons.mp z).elim (n1 p e3) n)
theorem fn_lc {QL : List PyData → List MObj → Prop} (hc : X.calm = true) (hN : X.N.Nodup) (hok : blkC X.N X.env.scope scope own = true) (hS : S.all (fun j => decide (j ∈ own.map (·.2))) = true) (hg : ∀ s H C cl fp, Tg (bx X scope s H C cl fp) tg S b)
    (h : FI X tg iter Γ μ fun ds μ1 => ∃ Iv : Nat → List PyData → List MObj → Prop, Iv 0 [] μ1 ∧
      (∀ i d acc m, ds[i]? = some d → Iv i acc m → b d (wipeG Γ (own.map (·.2))) fun Γ2 => ∀ s H C cl fp, FTs (bx X scope s H C cl fp) ifs Γ2 m fun k m2 =>
        if k = true then ∀ s H C cl fp, FE (bx X scope s H C cl fp) elt Γ2 m2 fun e m3 => acc.length < 100000 ∧ Iv (i + 1) (acc ++ [e]) m3 else Iv (i + 1) acc m2) ∧
      ∀ acc m, Iv ds.length acc m → QL acc m)
    (hs : ∀ x, foldedSetIterable iter X.env x = pure x := by intro _; rfl) : FN X (.ListComp elt [⟨tg, iter, ifs, 0⟩] scope pos) Γ μ QL := fn_fl (fl_lc hc hN hok hS hg h hs)
theorem fe_lc (hc : X.calm = true) (hN : X.N.Nodup) (hok : blkC X.N X.env.scope scope own = true) (hS : S.all (fun j => decide (j ∈ own.map (·.2))) = true) (hg : ∀ s H C cl fp, Tg (bx X scope s H C cl fp) tg S b)
    (h : FI X tg iter Γ μ fun ds μ1 => ∃ Iv : Nat → List PyData → List MObj → Prop, Iv 0 [] μ1 ∧
      (∀ i d acc m, ds[i]? = some d → Iv i acc m → b d (wipeG Γ (own.map (·.2))) fun Γ2 => ∀ s H C cl fp, FTs (bx X scope s H C cl fp) ifs Γ2 m fun k m2 =>
        if k = true then ∀ s H C cl fp, FE (bx X scope s H C cl fp) elt Γ2 m2 fun e m3 => acc.length < 100000 ∧ Iv (i + 1) (acc ++ [e]) m3 else Iv (i + 1) acc m2) ∧
      ∀ acc m, Iv ds.length acc m → Q (.list acc) m)
    (hs : ∀ x, foldedSetIterable iter X.env x = pure x := by intro _; rfl) : FE X (.ListComp elt [⟨tg, iter, ifs, 0⟩] scope pos) Γ μ Q := fe_fn (fn_lc hc hN hok hS hg h hs)
/-- whose tests and items change nothing -/
theorem FI.imp {R R2 : List PyData → List MObj → Prop} (h : FI X tg iter Γ μ R) (f : ∀ d m, R d m → R2 d m) : FI X tg iter Γ μ R2 := by
  obtain ⟨wi, p, k⟩ := h
  exact ⟨wi, p, fun F H σ ps R' en hp kk => k F H σ ps R' en hp fun J F2 H2 ds μ2 a b c r => kk J F2 H2 ds μ2 a b c (f ds μ2 r)⟩
theorem fl_P {α : Type} (enc : α → PyData) (p : α → Bool) (g : α → PyData) {QL : List PyData → List MObj → Prop} (hc : X.calm = true) (hN : X.N.Nodup) (hok : blkC X.N X.env.scope scope own = true) (hS : S.all (fun j => decide (j ∈ own.map (·.2))) = true)
    (hg : ∀ s H C cl fp, Tg (bx X scope s H C cl fp) tg S b)
    (h : FI X tg iter Γ μ fun ds μ1 => ∃ xs : List α, ds = xs.map enc ∧ xs.length < 100000 ∧
      (∀ x ∈ xs, b (enc x) (wipeG Γ (own.map (·.2))) fun Γ2 => ∀ s H C cl fp, FTs (bx X scope s H C cl fp) ifs Γ2 μ1 fun k m2 => m2 = μ1 ∧ k = p x ∧ (p x = true → ∀ s H C cl fp, FE (bx X scope s H C cl fp) elt Γ2 μ1 fun e m3 => m3 = μ1 ∧ e = g x)) ∧
      QL ((xs.filter p).map g) μ1)
    (hs : ∀ x, foldedSetIterable iter X.env x = pure x := by intro _; rfl) (bmono : ∀ d Γ (Φ Φ' : List Sl → Prop), (∀ G, Φ G → Φ' G) → b d Γ Φ → b d Γ Φ') : FL X (.ListComp elt [⟨tg, iter, ifs, 0⟩] scope pos) Γ μ QL := by
  refine fl_lc hc hN hok hS hg (h.imp fun ds μ1 ⟨xs, e, hl, ht, hq⟩ => ?_) hs
  subst e
  refine ⟨fun i acc m => m = μ1 ∧ acc = ((xs.take i).filter p).map g, ⟨rfl, rfl⟩, fun i d acc m hd ⟨em, ea⟩ => ?_, fun acc m ⟨em, ea⟩ => ?_⟩
  · subst em ea
    rw [List.getElem?_map] at hd
    cases q : xs[i]? with
    | none => rw [q] at hd; cases hd
    | some x =>
      rw [q] at hd
      have e := Option.some.inj hd
      have e' : enc x = d := e
      subst e'
      have hx := List.mem_of_getElem? q
      have tk : xs.take (i + 1) = xs.take i ++ [x] := by rw [List.take_add_one, q]; rfl
      refine bmono _ _ _ _ (fun G hG s H C cl fp => ?_) (ht x hx)
      have hG' := hG s H C cl fp
      have fin : ∀ k, k = p x → (p x = true → ∀ s H C cl fp, FE (bx X scope s H C cl fp) elt G m fun e m3 => m3 = m ∧ e = g x) →
          (if k = true then ∀ s H C cl fp, FE (bx X scope s H C cl fp) elt G m fun e m3 => (((xs.take i).filter p).map g).length < 100000 ∧ m3 = m ∧ ((xs.take i).filter p).map g ++ [e] = ((xs.take (i + 1)).filter p).map g
            else m = m ∧ ((xs.take i).filter p).map g = ((xs.take (i + 1)).filter p).map g) := by
        intro k hk he
        rw [hk]
        cases hp : p x with
        | true =>
          rw [if_pos rfl]
          intro s H C cl fp
          refine (he hp s H C cl fp).imp fun e m3 ⟨e1, e2⟩ => ⟨?_, e1, ?_⟩
          · rw [List.length_map]
            exact Nat.lt_of_le_of_lt (Nat.le_trans (List.length_filter_le _ _) (by rw [List.length_take]; exact Nat.min_le_right _ _)) hl
          · rw [tk, List.filter_append, List.map_append, e2]
            congr 1
            rw [List.filter_cons, if_pos hp]; rfl
        | false =>
          rw [if_neg Bool.false_ne_true]
          refine ⟨rfl, ?_⟩
          rw [tk, List.filter_append, List.map_append, List.filter_cons, if_neg (by rw [hp]; exact Bool.false_ne_true)]
          simp
      match ifs, hG' with
      | [], hG' => exact fin true hG'.2.1 hG'.2.2
      | [c], hG' =>
        refine FB.imp (show FB _ c G m _ from hG') fun k m2 ⟨e1, e2, e3⟩ => ?_
        subst e1
        exact fin k e2 e3
  · subst em ea
    rw [List.length_map, List.take_length]
    exact hq
theorem fn_lcP {α : Type} (enc : α → PyData) (p : α → Bool) (g : α → PyData) {QL : List PyData → List MObj → Prop} (hc : X.calm = true) (hN : X.N.Nodup) (hok : blkC X.N X.env.scope scope own = true) (hS : S.all (fun j => decide (j ∈ own.map (·.2))) = true)
    (hg : ∀ s H C cl fp, Tg (bx X scope s H C cl fp) tg S b)
    (h : FI X tg iter Γ μ fun ds μ1 => ∃ xs : List α, ds = xs.map enc ∧ xs.length < 100000 ∧
      (∀ x ∈ xs, b (enc x) (wipeG Γ (own.map (·.2))) fun Γ2 => ∀ s H C cl fp, FTs (bx X scope s H C cl fp) ifs Γ2 μ1 fun k m2 => m2 = μ1 ∧ k = p x ∧ (p x = true → ∀ s H C cl fp, FE (bx X scope s H C cl fp) elt Γ2 μ1 fun e m3 => m3 = μ1 ∧ e = g x)) ∧
      QL ((xs.filter p).map g) μ1)
    (hs : ∀ x, foldedSetIterable iter X.env x = pure x := by intro _; rfl) (bmono : ∀ d Γ (Φ Φ' : List Sl → Prop), (∀ G, Φ G → Φ' G) → b d Γ Φ → b d Γ Φ') : FN X (.ListComp elt [⟨tg, iter, ifs, 0⟩] scope pos) Γ μ QL := fn_fl (fl_P enc p g hc hN hok hS hg h hs bmono)
end
end K13

set_option maxRecDepth 100000
set_option maxHeartbeats 4000000
set_option autoImplicit false
/-! The abstract layer, part 6: statements, defs. -/
namespace K13
open PySem PySem.Spec PyProof.Rows L2

/-! ### what is wanted behind a statement -/
structure DE where
  nx : List Sl → List MObj → Prop
  rt : PyData → List MObj → Prop
  bk : List Sl → List MObj → Prop
  ct : List Sl → List MObj → Prop
structure Conc (D : DE) (D' : Ends) (F H : Hp) (ps : List Addr) : Prop where
  nx : ∀ (σ2 : L2.St) (F2 H2 : Hp) (new : List Addr) (Γ2 : List Sl) (μ2 : List MObj), EnvOk F2 (ps ++ new) σ2 Γ2 → HeapOk F2 H2 (ps ++ new) μ2 → (∀ p ∈ new, H p = none) → Step ps F H F2 H2 → D.nx Γ2 μ2 → D'.nx σ2 H2
  rt : ∀ (v : V) (F2 H2 : Hp) (new : List Addr) (d : PyData) (μ2 : List MObj), HeapOk F2 H2 (ps ++ new) μ2 → (∀ p ∈ new, H p = none) → Step ps F H F2 H2 → Dq F2 v d → D.rt d μ2 → D'.rt v H2
  bk : ∀ (σ2 : L2.St) (F2 H2 : Hp) (new : List Addr) (Γ2 : List Sl) (μ2 : List MObj), EnvOk F2 (ps ++ new) σ2 Γ2 → HeapOk F2 H2 (ps ++ new) μ2 → (∀ p ∈ new, H p = none) → Step ps F H F2 H2 → D.bk Γ2 μ2 → D'.bk σ2 H2
  ct : ∀ (σ2 : L2.St) (F2 H2 : Hp) (new : List Addr) (Γ2 : List Sl) (μ2 : List MObj), EnvOk F2 (ps ++ new) σ2 Γ2 → HeapOk F2 H2 (ps ++ new) μ2 → (∀ p ∈ new, H p = none) → Step ps F H F2 H2 → D.ct Γ2 μ2 → D'.ct σ2 H2
theorem none_back {H H1 : Hp} {p : Addr} (th : ∀ p, H p ≠ none → H1 p ≠ none) (e : H1 p = none) : H p = none := by
  cases q : H p with
  | none => rfl
  | some o => exact absurd e (th p (by rw [q]; exact fun z => nomatch z))
theorem Step.join {F H F1 H1 F2 H2 : Hp} {ps qs : List Addr} (a : Step ps F H F1 H1) (hq : ∀ p ∈ qs, H p = none) (b : Step (ps ++ qs) F1 H1 F2 H2) : Step ps F H F2 H2 := by
  have nq : ∀ p, H p ≠ none → p ∉ ps → p ∉ ps ++ qs := fun p e n z => (List.mem_append.mp z).elim n fun z => e (hq p z)
  exact ⟨a.ff.trans b.ff, b.fh, fun p o e n => b.hh p o (a.hh p o e n) (nq p (by rw [e]; exact fun z => nomatch z) n), fun p e => b.th p (a.th p e), fun p e1 e2 n => b.av p (a.av p e1 e2 n) (a.th p e2) (nq p e2 n)⟩
/-- the same wish, further on: qs are new objects -/
theorem Conc.on {D : DE} {D' : Ends} {F H F1 H1 : Hp} {ps qs : List Addr} (c : Conc D D' F H ps) (s : Step ps F H F1 H1) (hq : ∀ p ∈ qs, H p = none) : Conc D D' F1 H1 (ps ++ qs) := by
  have fr : ∀ new : List Addr, (∀ p ∈ new, H1 p = none) → ∀ p ∈ qs ++ new, H p = none := fun new hn p hp => (List.mem_append.mp hp).elim (hq p) fun z => none_back s.th (hn p z)
  refine ⟨fun σ2 F2 H2 new Γ2 μ2 a b n st q => ?_, fun v F2 H2 new d μ2 b n st e q => ?_, fun σ2 F2 H2 new Γ2 μ2 a b n st q => ?_, fun σ2 F2 H2 new Γ2 μ2 a b n st q => ?_⟩
  · rw [List.append_assoc] at a b
    exact c.nx σ2 F2 H2 (qs ++ new) Γ2 μ2 a b (fr new n) (s.join hq st) q
  · rw [List.append_assoc] at b
    exact c.rt v F2 H2 (qs ++ new) d μ2 b (fr new n) (s.join hq st) e q
  · rw [List.append_assoc] at a b
    exact c.bk σ2 F2 H2 (qs ++ new) Γ2 μ2 a b (fr new n) (s.join hq st) q
  · rw [List.append_assoc] at a b
    exact c.ct σ2 F2 H2 (qs ++ new) Γ2 μ2 a b (fr new n) (s.join hq st) q
theorem Conc.step {D : DE} {D' : Ends} {F H F1 H1 : Hp} {ps : List Addr} (c : Conc D D' F H ps) (s : Step ps F H F1 H1) : Conc D D' F1 H1 ps := by
  have := c.on (qs := []) s (fun _ z => nomatch z)
  rw [List.append_nil] at this
  exact this
def FS (X : Cx) (sts : List Stmt) (Γ : List Sl) (μ : List MObj) (D : DE) : Prop :=
  ∀ (F H : Hp) (σ : L2.St) (ps : List Addr) (D' : Ends), EnvOk F ps σ Γ → HeapOk F H ps μ → Conc D D' F H ps → WSs X sts D' σ H
/-- an expression whose value may be a new mutable object -/
def FV (X : Cx) (e : Expr) (Γ : List Sl) (μ : List MObj) (Q : Sl → List MObj → Prop) : Prop :=
  ∀ (F H : Hp) (σ : L2.St) (ps : List Addr) (Q' : VK), EnvOk F ps σ Γ → HeapOk F H ps μ →
    (∀ v F2 H2 new s μ2, HeapOk F2 H2 (ps ++ new) μ2 → (∀ p ∈ new, H p = none) → Step ps F H F2 H2 → SlOk F2 (ps ++ new) (some (some v)) s → Q s μ2 → Q' v H2) → WE X e σ H Q'

section
variable {X : Cx} {Γ : List Sl} {μ : List MObj} {e a b : Expr} {es : List Expr} {pos : Pos} {Q : Sl → List MObj → Prop} {D : DE} {rest body : List Stmt}
theorem fv_fe (h : FE X e Γ μ fun d m => Q (.dat d) m) : FV X e Γ μ Q := fun F H σ ps Q' en hp k =>
  h F H σ ps Q' en hp fun v F2 H2 d μ2 hp2 s2 q hq => k v F2 H2 [] (.dat d) μ2 (by rw [List.append_nil]; exact hp2) (fun _ z => nomatch z) s2 ⟨v, rfl, q⟩ hq
/-- a new object joins the mutable ones -/
theorem HeapOk.join {F H : Hp} {ps : List Addr} {μ : List MObj} {p : Addr} {o : MObj} (hp : HeapOk F H ps μ) (n : p ∉ ps) (ok : MOk F H p o) : HeapOk F H (ps ++ [p]) (μ ++ [o]) := by
  refine ⟨hp.same, by rw [List.length_append, List.length_append, hp.len]; rfl, ?_, fun j q u a b => ?_⟩
  · rw [List.nodup_append]
    exact ⟨hp.nd, by simp, fun x hx y hy => by rw [List.mem_singleton.mp hy]; exact fun z => n (by rw [← z]; exact hx)⟩
  · by_cases hj : j < ps.length
    · rw [List.getElem?_append_left hj] at a
      rw [List.getElem?_append_left (by rw [← hp.len]; exact hj)] at b
      exact hp.obj j q u a b
    · rw [List.getElem?_append_right (by omega)] at a
      rw [List.getElem?_append_right (by rw [← hp.len]; omega), ← hp.len] at b
      generalize j - ps.length = i at a b
      cases i with
      | zero =>
        have e1 := Option.some.inj (show some p = some q from a)
        have e2 := Option.some.inj (show some o = some u from b)
        rw [← e1, ← e2]
        exact ok
      | succ i => cases i <;> cases (show (none : Option Addr) = some q from a)
theorem fv_fn (h : FN X e Γ μ fun ds m => Q (.ob m.length) (m ++ [.lst ds])) : FV X e Γ μ Q := fun F H σ ps Q' en hp k =>
  h F H σ ps Q' en hp fun p F2 H2 xs ds μ2 hp2 s2 na nF e q hq => by
    have nap : p ∉ ps := fun z => hp.there z na
    refine k (.ref p) F2 H2 [p] (.ob μ2.length) _ (hp2.join (o := .lst ds) nap (show MOk F2 H2 p (.lst ds) from ⟨nF, xs, e, q⟩)) (fun x hx => by rw [List.mem_singleton.mp hx]; exact na) s2 ⟨p, ?_, rfl⟩ hq
    rw [← hp2.len, List.getElem?_append_right (Nat.le_refl _), Nat.sub_self]; rfl
/-- [a, b] as a new mutable list -/
theorem fn_lst {QL : List PyData → List MObj → Prop} (h : FA X es Γ μ fun ds m => ds.length ≤ 100000 ∧ QL ds m) : FN X (.List es pos) Γ μ QL := fun F H σ ps Q' en hp k => by
  refine WE.of (pe_lst pa_can) ?_
  refine h F H σ ps _ en hp fun vs F1 H1 ds μ1 hp1 s1 q1 h1 => ?_
  refine ⟨by rw [q1.length]; exact line_of h1.1, fun p np => ?_⟩
  have nF := hp1.same.free np
  have g : Gr F1 H1 F1 (upd H1 p (.lst vs)) := Gr.hid hp1.same np
  exact k p F1 _ vs ds μ1 (hp1.gr g) (s1.trans g.step) (none_back s1.th np) nF upd_same q1 h1.2
/-- list(e) as a new mutable list -/
theorem fn_list {p : Pos} {QL : List PyData → List MObj → Prop} (B : Bl X.mg) (h : FE X a Γ μ fun d m => (∃ ds, (d = .tuple ds ∨ d = .list ds) ∧ QL ds m)) (hg : Gl X "list" := by rfl) (hs : starEach [a] X.env = (false, eval a X.env) :: starEach [] X.env := by rfl)
    (hpp : (backTo pos (starEach [] X.env)).any (·.1) = false := by rfl) : FN X (.Call (.Name "list" p) [a] [] pos) Γ μ QL := fun F H σ ps Q' en hp k => by
  refine WE.of (pe_callTy call_list_of hg B.list (by decide +kernel) (pa_cons pe_can pa_nil hs) (by decide) (by decide) hs hpp) ?_
  refine h F H σ ps _ en hp fun v F1 H1 d1 μ1 hp1 s1 q1 h1 => ?_
  obtain ⟨ds, hd, hq⟩ := h1
  have fin : ∀ (p : Addr) (ys : List V), DqAll F1 ys ds → ∀ l, H1 l = none → Q' (.ref l) (upd H1 l (.lst ys)) := fun p ys e2 l nl => by
    have g : Gr F1 H1 F1 (upd H1 l (.lst ys)) := Gr.hid hp1.same nl
    exact k l F1 _ ys ds μ1 (hp1.gr g) (s1.trans g.step) (none_back s1.th nl) (hp1.same.free nl) upd_same e2 hq
  rcases hd with rfl | rfl
  · obtain ⟨p, ys, rfl, e1, e2⟩ := q1.tuple_inv
    exact ⟨p, ys, rfl, .inr (SqT.of (hp1.same _ _ e1)), fin p ys e2⟩
  · obtain ⟨p, ys, rfl, e1, e2⟩ := q1.list_inv
    exact ⟨p, ys, rfl, .inl (SqL.of (hp1.same _ _ e1)), fin p ys e2⟩
/-- [..] * n as a new mutable list -/
theorem fn_rep {QL : List PyData → List MObj → Prop} (h : FE X a Γ μ fun d m => FE X b Γ m fun d2 m2 => ∃ ds k, d = .list ds ∧ d2 = .int k ∧ 0 ≤ k ∧ k ≤ 1000 ∧ ds.length ≤ 100 ∧ QL (List.replicate k.toNat ds).flatten m2) : FN X (.BinOp a .Mult b pos) Γ μ QL := fun F H σ ps Q' en hp k => by
  refine WE.of (pe_op op_rep pe_can pe_can) ?_
  refine h F H σ ps _ en hp fun v F1 H1 d1 μ1 hp1 s1 q1 h1 => ?_
  refine h1 F1 H1 σ ps _ (en.up s1.ff) hp1 fun w F2 H2 d2 μ2 hp2 s2 q2 h2 => ?_
  obtain ⟨ds, j, rfl, rfl, b1, b2, b3, hq⟩ := h2
  obtain ⟨p, ys, rfl, e1, e2⟩ := (q1.up s2.ff).list_inv
  rw [q2.int_inv]
  refine ⟨p, j, ys, rfl, rfl, hp2.same _ _ e1, by omega, by omega, ?_, fun l nl => ?_⟩
  · rw [e2.length]
    exact line_of (Nat.le_trans (Nat.mul_le_mul b3 (show j.toNat ≤ 1000 by omega)) (by decide))
  · have g : Gr F2 H2 F2 (upd H2 l (.lst (List.replicate j.toNat ys).flatten)) := Gr.hid hp2.same nl
    exact k l F2 _ _ _ μ2 (hp2.gr g) ((s1.trans s2).trans g.step) (none_back (s1.trans s2).th nl) (hp2.same.free nl) upd_same (e2.rep _) hq
/-- {} -/
theorem fv_dict (h : Q (.ob μ.length) (μ ++ [.dct []])) : FV X (.Dict [] [] pos) Γ μ Q := fun F H σ ps Q' en hp k => by
  refine WE.of pe_dnewK fun d nd => ?_
  have nap : d ∉ ps := fun z => hp.there z nd
  have g : Gr F H F (upd H d (.dK [])) := Gr.hid hp.same nd
  refine k (.ref d) F _ [d] (.ob μ.length) _ ((hp.gr g).join (o := .dct []) nap (show MOk F (upd H d (.dK [])) d (.dct []) from ⟨hp.same.free nd, [], upd_same, .nil⟩)) (fun x hx => by rw [List.mem_singleton.mp hx]; exact nd) g.step ⟨d, ?_, rfl⟩ h
  rw [← hp.len, List.getElem?_append_right (Nat.le_refl _), Nat.sub_self]; rfl

/-! ### statements -/
theorem fs_nil (h : D.nx Γ μ) : FS X [] Γ μ D := fun F H σ ps D' en hp c => WSs.of pss_nil (c.nx σ F H [] Γ μ (by rw [List.append_nil]; exact en) (by rw [List.append_nil]; exact hp) (fun _ z => nomatch z) (Step.refl hp.same) h)
theorem FS.imp {D2 : DE} (h : FS X body Γ μ D2) (h1 : ∀ a b, D2.nx a b → D.nx a b) (h2 : ∀ a b, D2.rt a b → D.rt a b) (h3 : ∀ a b, D2.bk a b → D.bk a b) (h4 : ∀ a b, D2.ct a b → D.ct a b) : FS X body Γ μ D := fun F H σ ps D' en hp c =>
  h F H σ ps D' en hp ⟨fun a b c' d e f g h i j k => c.nx a b c' d e f g h i j (h1 _ _ k), fun a b c' d e f g h i j k => c.rt a b c' d e f g h i j (h2 _ _ k), fun a b c' d e f g h i j k => c.bk a b c' d e f g h i j (h3 _ _ k), fun a b c' d e f g h i j k => c.ct a b c' d e f g h i j (h4 _ _ k)⟩
/-- behind a statement the rest -/
theorem rest_of {D' : Ends} {F H F1 H1 : Hp} {σ1 : L2.St} {Γ1 : List Sl} {μ1 : List MObj} {ps new : List Addr} (c : Conc D D' F H ps) (st : Step ps F H F1 H1) (nn : ∀ p ∈ new, H p = none) (en : EnvOk F1 (ps ++ new) σ1 Γ1) (hp : HeapOk F1 H1 (ps ++ new) μ1) (h : FS X rest Γ1 μ1 D) : WSs X rest D' σ1 H1 :=
  h F1 H1 σ1 (ps ++ new) D' en hp (c.on st nn)
/-- name = e -/
theorem fs_set {i : Nat} {x : Str} {p : Pos} (hN : X.N.Nodup) (hi : X.N[i]? = some x) (hx : Loc X.env.scope x) (h : FV X e Γ μ fun s m => FS X rest (Γ.set i s) m D) (hs : swapsWith e (some (.Name x p)) pos.line X.env = pure false := by rfl)
    (hf : X.fn x = true ∨ X.env.scope.names.lookup x = some .local := by first | exact .inl rfl | exact .inr rfl) : FS X (.Assign [.Name x p] e pos :: rest) Γ μ D := fun F H σ ps D' en hp c => by
  refine WSs.of (pss_cons (ps_set hN hi hx pe_can hs hf) pss_can) ?_
  exact h F H σ ps _ en hp fun v F2 H2 new s μ2 hp2 nn s2 q hq => rest_of c s2 nn (((en.up s2.ff).more new).set q) hp2 hq
theorem fs_ret (h : FE X e Γ μ fun d m => D.rt d m) : FS X (.Return (some e) pos :: rest) Γ μ D := fun F H σ ps D' en hp c => by
  refine WSs.of (pss_cons (ps_ret pe_can) pss_can) ?_
  exact h F H σ ps _ en hp fun v F2 H2 d μ2 hp2 s2 q hq => c.rt v F2 H2 [] d μ2 (by rw [List.append_nil]; exact hp2) (fun _ z => nomatch z) s2 q hq
/-- return of a mutable list: a datum from here on -/
theorem fs_retM {i j : Nat} {x : Str} {p : Pos} {ds : List PyData} (hN : X.N[i]? = some x) (hv : Vis X.env.scope x) (hΓ : Γ[i]? = some (.ob j)) (hμ : μ[j]? = some (.lst ds)) (h : D.rt (.list ds) (μ.set j .gone)) (hd : (x == ("__debug__" : Str)) = false := by decide) (hcd : (x == ("__classdict__" : Str)) = false := by decide) :
    FS X (.Return (some (.Name x p)) pos :: rest) Γ μ D := fun F H σ ps D' en hp c => by
  refine WSs.of (pss_cons (ps_ret (pe_var hN hv hd hcd)) pss_can) ?_
  obtain ⟨q, e1, e2⟩ := en.ob hΓ
  obtain ⟨nF, xs, e3, e4⟩ := hp.obj j q _ e1 hμ
  have hm : q ∈ ps := List.mem_of_getElem? e1
  refine ⟨.ref q, e2, ?_⟩
  have sF : Same F (upd F q (.lst xs)) := same_new nF
  have sH : Same (upd F q (.lst xs)) H := fun a u e => by
    by_cases z : a = q
    · rw [z] at e ⊢
      rw [upd_same] at e
      rw [e3]; exact e
    · rw [upd_ne z] at e
      exact hp.same a u e
  refine c.rt (.ref q) (upd F q (.lst xs)) H [] _ _ ?_ (fun _ z => nomatch z) ⟨sF, sH, fun _ _ e _ => e, fun _ e => e, fun a e1 e2 n => ?_⟩ (.lst upd_same (e4.up sF)) h
  · rw [List.append_nil]
    refine ⟨sH, by rw [List.length_set]; exact hp.len, hp.nd, fun i' r u a b => ?_⟩
    by_cases z : j = i'
    · subst z
      have hlt : j < μ.length := (List.getElem?_eq_some_iff.mp hμ).1
      rw [List.getElem?_set_self hlt] at b
      cases b
      rw [e1] at a
      cases a
      show H q ≠ none
      rw [e3]; exact fun z => nomatch z
    · rw [List.getElem?_set_ne z] at b
      have ne : r ≠ q := fun e => z (nd_ix hp.nd e1 (e ▸ a))
      have ok := hp.obj i' r u a b
      cases u with
      | lst ds => obtain ⟨f, ys, h1, h2⟩ := ok; exact ⟨by rw [upd_ne ne]; exact f, ys, h1, h2.up sF⟩
      | dct kvs => obtain ⟨f, ys, h1, h2⟩ := ok; exact ⟨by rw [upd_ne ne]; exact f, ys, h1, paired_imp (fun a b h => ⟨h.1, h.2.up sF⟩) h2⟩
      | gone => exact ok
  · have ne : a ≠ q := fun z => n (by rw [z]; exact hm)
    rw [upd_ne ne]; exact e1
theorem fs_if {c : Expr} {A B : List Stmt} (h : FB X c Γ μ fun k m => if k = true then FS X A Γ m ⟨fun Γ' m' => FS X rest Γ' m' D, D.rt, D.bk, D.ct⟩ else FS X B Γ m ⟨fun Γ' m' => FS X rest Γ' m' D, D.rt, D.bk, D.ct⟩) : FS X (.If c A B pos :: rest) Γ μ D := fun F H σ ps D' en hp cc => by
  refine WSs.of (pss_cons (ps_if pt_can pss_can pss_can) pss_can) ?_
  refine h F H σ ps _ en hp fun k F1 H1 μ1 hp1 s1 hq => ?_
  have cc1 := cc.step s1
  have go : ∀ A, FS X A Γ μ1 ⟨fun Γ' m' => FS X rest Γ' m' D, D.rt, D.bk, D.ct⟩ → WSs X A { nx := WSs X rest D', rt := D'.rt, bk := D'.bk, ct := D'.ct } σ H1 := fun A hA =>
    hA F1 H1 σ ps _ (en.up s1.ff) hp1 ⟨fun σ2 F2 H2 new Γ2 μ2 a b n st q => rest_of cc1 st n a b q, cc1.rt, cc1.bk, cc1.ct⟩
  cases k with
  | true => rw [if_pos rfl] at hq ⊢; exact go A hq
  | false => rw [if_neg Bool.false_ne_true] at hq ⊢; exact go B hq
theorem fs_never {st : Stmt} (h : False) : FS X (st :: rest) Γ μ D := h.elim
/-- x.append(e), x a mutable list -/
theorem MOk.set {F H : Hp} {ps : List Addr} {μ : List MObj} {j : Nat} {q : Addr} {o : MObj} {u : HO} (hp : HeapOk F H ps μ) (e : ps[j]? = some q) (nF : F q = none) (ok : MOk F (upd H q u) q o) : HeapOk F (upd H q u) ps (μ.set j o) ∧ Step ps F H F (upd H q u) := by
  have hm : q ∈ ps := List.mem_of_getElem? e
  have same : Same F (upd H q u) := fun a w h => by rw [upd_ne (ne_of_none h nF)]; exact hp.same a w h
  refine ⟨⟨same, by rw [List.length_set]; exact hp.len, hp.nd, fun i r w a b => ?_⟩, Same.refl F, same, fun a w h n => ?_, fun a h => ?_, fun a h _ _ => h⟩
  · by_cases z : j = i
    · subst z
      rw [e] at a
      cases a
      have hlt : j < μ.length := by rw [← hp.len]; exact (List.getElem?_eq_some_iff.mp e).1
      rw [List.getElem?_set_self hlt] at b
      cases b
      exact ok
    · rw [List.getElem?_set_ne z] at b
      have ne : r ≠ q := fun e' => z (nd_ix hp.nd e (e' ▸ a))
      have ok := hp.obj i r w a b
      cases w with
      | lst ds => obtain ⟨f, ys, h1, h2⟩ := ok; exact ⟨f, ys, by rw [upd_ne ne]; exact h1, h2⟩
      | dct kvs => obtain ⟨f, ys, h1, h2⟩ := ok; exact ⟨f, ys, by rw [upd_ne ne]; exact h1, h2⟩
      | gone =>
        show (upd H q u) r ≠ none
        rw [upd_ne ne]; exact ok
  · rw [upd_ne (fun z => n (by rw [z]; exact hm))]; exact h
  · by_cases z : a = q
    · rw [z, upd_same]; exact fun z => nomatch z
    · rw [upd_ne z]; exact h
theorem fs_app {i j : Nat} {x : Str} {p apos cpos : Pos} (hN : X.N[i]? = some x) (hv : Vis X.env.scope x) (hΓ : Γ[i]? = some (.ob j)) (hμ : ∃ ds, μ[j]? = some (.lst ds)) (h : FE X e Γ μ fun d m => ∃ ds, m[j]? = some (.lst ds) ∧ ds.length < 100000 ∧ FS X rest Γ (m.set j (.lst (ds ++ [d]))) D)
    (hd : (x == ("__debug__" : Str)) = false := by decide) (hcd : (x == ("__classdict__" : Str)) = false := by decide) (hbase : attributeBase (.Name x p) "append" X.env (eval (.Name x p) X.env) = eval (.Name x p) X.env := by rfl)
    (hfew : ((backTo cpos (starEach [e] X.env)).all (fun x => !x.1) && (backToKw cpos (keywordEach [] X.env)).all (fun x => x.1.isSome) && decide ([e].length + ([] : List Keyword).length + (if ([] : List Keyword).isEmpty then 0 else 1) < 30)) = true := by rfl)
    (hline : (apos.endLine == cpos.line) = true := by rfl) (hs : starEach [e] X.env = (false, eval e X.env) :: starEach [] X.env := by rfl) (hplain : (backTo cpos (starEach [] X.env)).any (·.1) = false := by rfl)
    (hsw : swapsWith (.Call (.Attribute (.Name x p) "append" apos) [e] [] cpos) none pos.line X.env = pure false := by rfl) : FS X (.Expr (.Call (.Attribute (.Name x p) "append" apos) [e] [] cpos) pos :: rest) Γ μ D := fun F H σ ps D' en hp c => by
  refine WSs.of (pss_cons (ps_expr (pe_bm PySem.F.plainAttrs_list PySem.F.slot_list_append PySem.F.type_list_append mt_append (pe_var hN hv hd hcd) (pa_cons pe_can pa_nil hs) hbase hfew hline hs hplain) hsw) pss_can) ?_
  obtain ⟨q, e1, e2⟩ := en.ob hΓ
  obtain ⟨ds0, hμ⟩ := hμ
  obtain ⟨nF, xs, e3, e4⟩ := hp.obj j q _ e1 hμ
  refine ⟨.ref q, e2, .inl ⟨rfl, xs, SqL.of e3⟩, ?_⟩
  refine h F H σ ps _ en hp fun v F1 H1 d1 μ1 hp1 s1 q1 h1 => ?_
  obtain ⟨ds, hm, hl, hq⟩ := h1
  obtain ⟨nF1, ys, e5, e6⟩ := hp1.obj j q _ e1 hm
  refine ⟨q, ys, v, rfl, rfl, e5, by rw [e6.length]; exact line_lt hl, ?_⟩
  obtain ⟨hp2, s2⟩ := MOk.set (o := .lst (ds ++ [d1])) (u := .lst (ys ++ [v])) hp1 e1 nF1 ⟨nF1, _, upd_same, e6.append (DqAll.one q1)⟩
  exact hq F1 _ σ ps D' (en.up s1.ff) hp2 (c.step (s1.trans s2))
/-- x[k] = e, x a mutable list -/
theorem fs_setL {i j : Nat} {x : Str} {p p2 : Pos} {ix : Expr} (hN : X.N[i]? = some x) (hv : Vis X.env.scope x) (hΓ : Γ[i]? = some (.ob j)) (h : FE X e Γ μ fun d m => FE X ix Γ m fun d2 m2 => ∃ ds k l, d2 = .int k ∧ m2[j]? = some (.lst ds) ∧ ixN ds.length k = some l ∧ FS X rest Γ (m2.set j (.lst (ds.set l d))) D)
    (hd : (x == ("__debug__" : Str)) = false := by decide) (hcd : (x == ("__classdict__" : Str)) = false := by decide)
    (ha : ∀ v, assign (.Subscript (.Name x p) ix p2) X.env v = (do
      let ov ← holding [v] (eval (.Name x p) X.env)
      let iv ← holding [v, ov] (eval ix X.env)
      standAt p2
      holding [v, ov, iv] (setItem ov iv v)
      release [v, ov, iv] []) := by intro _; rfl)
    (hs : swapsWithSole [.Subscript (.Name x p) ix p2] e pos.line X.env = pure false := by rfl) (hw : swappedStores [.Subscript (.Name x p) ix p2] e X.env = pure none := by rfl)
    (h1 : (assignEach [.Subscript (.Name x p) ix p2] X.env).map (·.2) = [assign (.Subscript (.Name x p) ix p2) X.env] := by rfl) : FS X (.Assign [.Subscript (.Name x p) ix p2] e pos :: rest) Γ μ D := fun F H σ ps D' en hp c => by
  refine WSs.of (pss_cons (ps_asg pe_can (pg_sub (pe_var hN hv hd hcd) pe_can set_list ha) hs hw h1) pss_can) ?_
  obtain ⟨q, e1, e2⟩ := en.ob hΓ
  refine h F H σ ps _ en hp fun v F1 H1 d1 μ1 hp1 s1 q1 h2 => ?_
  refine ⟨.ref q, e2, ?_⟩
  refine h2 F1 H1 σ ps _ (en.up s1.ff) hp1 fun w F2 H2 d2 μ2 hp2 s2 q2 h3 => ?_
  obtain ⟨ds, k, l, rfl, hm, hl, hq⟩ := h3
  obtain ⟨nF2, ys, e5, e6⟩ := hp2.obj j q _ e1 hm
  rw [q2.int_inv]
  refine ⟨q, ys, k, l, rfl, rfl, e5, by rw [e6.length]; exact hl, ?_⟩
  obtain ⟨hp3, s3⟩ := MOk.set (o := .lst (ds.set l d1)) (u := .lst (ys.set l v)) hp2 e1 nF2 ⟨nF2, _, upd_same, DqAll.set (q1.up s2.ff) l e6⟩
  exact hq F2 _ σ ps D' (en.up (s1.ff.trans s2.ff)) hp3 (c.step ((s1.trans s2).trans s3))

/-! ### dicts of ints -/
def dval (kvs : List (Int × PyData)) (k : Int) : Option PyData := (kvs.find? fun kv => decide (kv.1 = k)).map (·.2)
def dput (kvs : List (Int × PyData)) (k : Int) (d : PyData) : List (Int × PyData) :=
  if (kvs.any fun kv => decide (kv.1 = k)) = true then kvs.map (fun kv => if kv.1 = k then (kv.1, d) else kv) else kvs ++ [(k, d)]
abbrev KvR (F : Hp) : (Int × PyData) → (Key × V) → Prop := fun a b => b.1 = Sum.inl a.1 ∧ Dq F b.2 a.2
theorem kv_any {F : Hp} {k : Int} : ∀ {kvs : List (Int × PyData)} {ys : List (Key × V)}, Paired (KvR F) kvs ys → (ys.any fun kv => decide (kv.1 = (Sum.inl k : Key))) = kvs.any fun kv => decide (kv.1 = k)
  | _, _, .nil => rfl
  | _, _, .cons h t => by
    rw [List.any_cons, List.any_cons, kv_any t, h.1]
    congr 1
    simp [Sum.inl.injEq]
theorem kv_val {F : Hp} {k : Int} : ∀ {kvs : List (Int × PyData)} {ys : List (Key × V)}, Paired (KvR F) kvs ys → (dval kvs k = none ∧ valV ys (Sum.inl k : Key) = none) ∨ ∃ d v, dval kvs k = some d ∧ valV ys (Sum.inl k : Key) = some v ∧ Dq F v d
  | [], [], .nil => .inl ⟨rfl, rfl⟩
  | a :: r, b :: r2, .cons h t => by
    by_cases e : a.1 = k
    · refine .inr ⟨a.2, b.2, ?_, ?_, h.2⟩
      · unfold dval; rw [List.find?_cons]; simp [e]
      · exact valV_pos (by rw [h.1, e])
    · have e' : ¬ b.1 = (Sum.inl k : Key) := fun z => e (by rw [h.1] at z; exact Sum.inl.inj z)
      have d1 : dval (a :: r) k = dval r k := by unfold dval; rw [List.find?_cons]; simp [e]
      rcases kv_val (k := k) t with ⟨h1, h2⟩ | ⟨d, v, h1, h2, h3⟩
      · exact .inl ⟨d1.trans h1, (valV_neg e').trans h2⟩
      · exact .inr ⟨d, v, d1.trans h1, (valV_neg e').trans h2, h3⟩
theorem kv_map {F : Hp} {k : Int} {d : PyData} {v : V} (q : Dq F v d) : ∀ {kvs : List (Int × PyData)} {ys : List (Key × V)}, Paired (KvR F) kvs ys → Paired (KvR F) (kvs.map fun kv => if kv.1 = k then (kv.1, d) else kv) (ys.map fun kv => if kv.1 = (Sum.inl k : Key) then (kv.1, v) else kv)
  | _, _, .nil => .nil
  | _, _, .cons (a := a) (b := b) h t => by
    rw [List.map_cons, List.map_cons]
    refine .cons ?_ (kv_map q t)
    by_cases e : a.1 = k
    · rw [if_pos e, if_pos (by rw [h.1, e])]; exact ⟨h.1, q⟩
    · rw [if_neg e, if_neg (fun z => e (by rw [h.1] at z; exact Sum.inl.inj z))]; exact h
theorem paired_app {α β : Type} {R : α → β → Prop} : ∀ {l : List α} {m : List β} {l2 : List α} {m2 : List β}, Paired R l m → Paired R l2 m2 → Paired R (l ++ l2) (m ++ m2)
  | _, _, _, _, .nil, s => s
  | _, _, _, _, .cons h t, s => .cons h (paired_app t s)
theorem kv_put {F : Hp} {k : Int} {d : PyData} {v : V} {kvs : List (Int × PyData)} {ys : List (Key × V)} (h : Paired (KvR F) kvs ys) (q : Dq F v d) : Paired (KvR F) (dput kvs k d) (putK ys (Sum.inl k : Key) v) := by
  unfold dput putK
  rw [kv_any h]
  by_cases e : (kvs.any fun kv => decide (kv.1 = k)) = true
  · rw [if_pos e, if_pos e]; exact kv_map q h
  · rw [if_neg e, if_neg e]; exact paired_app h (.cons ⟨rfl, q⟩ .nil)
/-- d[k] = e -/
theorem fs_setD {i j : Nat} {x : Str} {p p2 : Pos} {ix : Expr} {n : Nat} (hr : Room n X.A) (hN : X.N[i]? = some x) (hv : Vis X.env.scope x) (hΓ : Γ[i]? = some (.ob j)) (h : FE X e Γ μ fun d m => FE X ix Γ m fun d2 m2 => ∃ kvs k, d2 = .int k ∧ m2[j]? = some (.dct kvs) ∧ kvs.length < 100000 ∧ FS X rest Γ (m2.set j (.dct (dput kvs k d))) D)
    (hd : (x == ("__debug__" : Str)) = false := by decide) (hcd : (x == ("__classdict__" : Str)) = false := by decide)
    (hs : swapsWith e (some (.Subscript (.Name x p) ix p2)) pos.line X.env = pure false := by rfl) : FS X (.Assign [.Subscript (.Name x p) ix p2] e pos :: rest) Γ μ D := fun F H σ ps D' en hp c => by
  refine WSs.of (pss_cons (ps_dput (hu_of hr) (pe_var hN hv hd hcd) pe_can pe_can hs) pss_can) ?_
  obtain ⟨q, e1, e2⟩ := en.ob hΓ
  refine h F H σ ps _ en hp fun v F1 H1 d1 μ1 hp1 s1 q1 h2 => ?_
  refine ⟨.ref q, e2, ?_⟩
  refine h2 F1 H1 σ ps _ (en.up s1.ff) hp1 fun w F2 H2 d2 μ2 hp2 s2 q2 h3 => ?_
  obtain ⟨kvs, k, rfl, hm, hl, hq⟩ := h3
  obtain ⟨nF2, ys, e5, e6⟩ := hp2.obj j q _ e1 hm
  rw [q2.int_inv]
  have hly : ys.length = kvs.length := (Paired.length e6).symm
  refine ⟨q, _, rfl, DPut.k (k := Sum.inl k) e5 (by rw [hly]; exact line_lt hl), ?_⟩
  obtain ⟨hp3, s3⟩ := MOk.set (o := .dct (dput kvs k d1)) (u := .dK (putK ys (Sum.inl k) v)) hp2 e1 nF2 ⟨nF2, _, upd_same, kv_put e6 (q1.up s2.ff)⟩
  exact hq F2 _ σ ps D' (en.up (s1.ff.trans s2.ff)) hp3 (c.step ((s1.trans s2).trans s3))
/-- d[k], d.get(k, x) -/
theorem fe_dget {i j : Nat} {x : Str} {p : Pos} {ix : Expr} {n : Nat} {QE : PyData → List MObj → Prop} (hr : Room n X.A) (hN : X.N[i]? = some x) (hv : Vis X.env.scope x) (hΓ : Γ[i]? = some (.ob j)) (h : FE X ix Γ μ fun d m => ∃ k kvs dd, d = .int k ∧ m[j]? = some (.dct kvs) ∧ dval kvs k = some dd ∧ QE dd m)
    (hsl : NoSl ix := by intro _ _; rfl) (hd : (x == ("__debug__" : Str)) = false := by decide) (hcd : (x == ("__classdict__" : Str)) = false := by decide) : FE X (.Subscript (.Name x p) ix pos) Γ μ QE := fun F H σ ps Q' en hp k => by
  refine WE.of (pe_dget (hu_of hr) (pe_var hN hv hd hcd) pe_can hsl) ?_
  obtain ⟨q, e1, e2⟩ := en.ob hΓ
  refine ⟨.ref q, e2, ?_⟩
  refine h F H σ ps _ en hp fun v F1 H1 d1 μ1 hp1 s1 q1 h2 => ?_
  obtain ⟨k', kvs, dd, rfl, hm, hv', hq⟩ := h2
  obtain ⟨nF2, ys, e5, e6⟩ := hp1.obj j q _ e1 hm
  rw [q1.int_inv]
  rcases kv_val (k := k') e6 with ⟨z, _⟩ | ⟨d, v', z1, z2, z3⟩
  · rw [z] at hv'; cases hv'
  · rw [hv'] at z1
    cases z1
    have g := DGet.k (k := Sum.inl k') e5
    rw [z2] at g
    exact ⟨q, v', rfl, g, k v' F1 H1 dd μ1 hp1 s1 z3 hq⟩
theorem fe_dget2 {i j : Nat} {x : Str} {p apos : Pos} {ix dx : Expr} {n : Nat} {QE : PyData → List MObj → Prop} (hr : Room n X.A) (hN : X.N[i]? = some x) (hv : Vis X.env.scope x) (hΓ : Γ[i]? = some (.ob j)) (hμ : ∃ kvs, μ[j]? = some (.dct kvs))
    (h : FE X ix Γ μ fun d m => FE X dx Γ m fun d2 m2 => ∃ k kvs, d = .int k ∧ m2[j]? = some (.dct kvs) ∧ QE ((dval kvs k).getD d2) m2)
    (hd : (x == ("__debug__" : Str)) = false := by decide) (hcd : (x == ("__classdict__" : Str)) = false := by decide) (m : M2 X (.Name x p) "get" apos ix dx pos := by exact ⟨rfl, rfl, rfl, rfl⟩) : FE X (.Call (.Attribute (.Name x p) "get" apos) [ix, dx] [] pos) Γ μ QE := fun F H σ ps Q' en hp k => by
  refine WE.of (pe_dget2 (hu_of hr) (pe_var hN hv hd hcd) pe_can pe_can m) ?_
  obtain ⟨q, e1, e2⟩ := en.ob hΓ
  obtain ⟨kvs0, hμ⟩ := hμ
  obtain ⟨_, ys0, e3, _⟩ := hp.obj j q _ e1 hμ
  refine ⟨.ref q, e2, q, rfl, .inl ⟨ys0, .inl e3⟩, ?_⟩
  refine h F H σ ps _ en hp fun v F1 H1 d1 μ1 hp1 s1 q1 h2 => ?_
  refine h2 F1 H1 σ ps _ (en.up s1.ff) hp1 fun w F2 H2 d2 μ2 hp2 s2 q2 h3 => ?_
  obtain ⟨k', kvs, rfl, hm, hq⟩ := h3
  obtain ⟨nF2, ys, e5, e6⟩ := hp2.obj j q _ e1 hm
  rw [q1.int_inv]
  refine ⟨_, DGet.k (k := Sum.inl k') e5, ?_⟩
  rcases kv_val (k := k') e6 with ⟨z, z2⟩ | ⟨d, v', z1, z2, z3⟩
  · rw [z] at hq
    rw [z2]
    exact k w F2 H2 d2 μ2 hp2 (s1.trans s2) q2 hq
  · rw [z1] at hq
    rw [z2]
    exact k v' F2 H2 d μ2 hp2 (s1.trans s2) z3 hq

/-! ### loops -/
theorem fs_for {tg iter : Expr} {S : List Nat} {bb : GT} (hc : X.calm = true) (hg : Tg X tg S bb) (h : FI X tg iter Γ μ fun ds μ1 => ∃ Iv : Nat → List Sl → List MObj → Prop, Iv 0 Γ μ1 ∧
      (∀ i d Γ' m, ds[i]? = some d → Iv i Γ' m → bb d Γ' fun Γ2 => FS X body Γ2 m ⟨Iv (i + 1), D.rt, fun Γ3 m3 => FS X rest Γ3 m3 D, Iv (i + 1)⟩) ∧ ∀ Γ' m, Iv ds.length Γ' m → FS X rest Γ' m D)
    (hx : PassesOwn (model X.prog X.w) X.A X.env X.xe := by exact PassesOwn.never) (hs : ∀ x, foldedSetIterable iter X.env x = pure x := by intro _; rfl) : FS X (.For tg iter body [] pos :: rest) Γ μ D := fun F H σ ps D' en hp c => by
  obtain ⟨wi, hpi, hw⟩ := h
  obtain ⟨g, pg, kg⟩ := hg.ok
  refine WSs.of (pss_cons (ps_for hx hc hpi pg pss_can hs) pss_can) ?_
  refine hw F H σ ps _ en hp fun J F1 H1 ds μ1 hp1 s1 wk hR => ?_
  obtain ⟨Iv, i0, turn, fin⟩ := hR
  have c1 := c.step s1
  refine ⟨fun i m σ' H' => m = ds.length - i ∧ i ≤ ds.length ∧ ∃ (F' : Hp) (new : List Addr) (Γ' : List Sl) (μ' : List MObj), EnvOk F' (ps ++ new) σ' Γ' ∧ HeapOk F' H' (ps ++ new) μ' ∧ (∀ p ∈ new, H1 p = none) ∧ Step ps F1 H1 F' H' ∧ Iv i Γ' μ',
    ⟨ds.length, by simp, Nat.zero_le _, F1, [], Γ, μ1, by rw [List.append_nil]; exact en.up s1.ff, by rw [List.append_nil]; exact hp1, (fun _ z => nomatch z), Step.refl hp1.same, i0⟩, ?_⟩
  rintro i m σ' H' ⟨rfl, hi, F', new, Γ', μ', en', hp', nn, st', iv⟩
  have sF : Same F1 F' := st'.ff
  have sH : Same F1 H' := sF.trans hp'.same
  by_cases hlt : i < ds.length
  · refine .inr ⟨wk.go i H' hlt sH, fun σ'' H'' => ∃ (F' : Hp) (new : List Addr) (Γ' : List Sl) (μ' : List MObj), EnvOk F' (ps ++ new) σ'' Γ' ∧ HeapOk F' H'' (ps ++ new) μ' ∧ (∀ p ∈ new, H1 p = none) ∧ Step ps F1 H1 F' H'' ∧ Iv (i + 1) Γ' μ',
      fun σ'' H'' hn => ⟨ds.length - (i + 1), by omega, rfl, hlt, hn⟩, fun x H2 hy => ?_⟩
    obtain ⟨F2, g2, qx⟩ := wk.yld i x H' H2 sH hy ds[i] (lt_get hlt) F' sF hp'.same
    have hp2 := hp'.gr g2
    have st2 : Step ps F1 H1 F2 H2 := st'.trans g2.step
    refine kg F2 H2 _ σ' Γ' x ds[i] _ _ (en'.up g2.ff) hp2.same qx (turn i ds[i] Γ' μ' (lt_get hlt) iv) fun σ3 Γ3 en3 _ h3 => ?_
    have c2 := c1.on st2 nn
    refine h3 F2 H2 σ3 (ps ++ new) _ en3 hp2 ⟨fun σ4 F4 H4 new4 Γ4 μ4 a b n4 st4 q => ?_, c2.rt, fun σ4 F4 H4 new4 Γ4 μ4 a b n4 st4 q => rest_of c2 st4 n4 a b q, fun σ4 F4 H4 new4 Γ4 μ4 a b n4 st4 q => ?_⟩
    · rw [List.append_assoc] at a b
      exact ⟨F4, new ++ new4, Γ4, μ4, a, b, fun p hp => (List.mem_append.mp hp).elim (nn p) fun z => none_back st2.th (n4 p z), st2.join nn st4, q⟩
    · rw [List.append_assoc] at a b
      exact ⟨F4, new ++ new4, Γ4, μ4, a, b, fun p hp => (List.mem_append.mp hp).elim (nn p) fun z => none_back st2.th (n4 p z), st2.join nn st4, q⟩
  · have e : i = ds.length := by omega
    subst e
    exact .inl ⟨wk.stop H' sH, rest_of c1 st' nn en' hp' (fin Γ' μ' iv)⟩
theorem fs_while {t : Expr} (Iv : Nat → List Sl → List MObj → Prop) (n0 : Nat) (h0 : Iv n0 Γ μ) (h : ∀ n Γ' m, Iv n Γ' m → FB X t Γ' m fun k m2 => if k = true then FS X body Γ' m2 ⟨fun Γ3 m3 => ∃ n', n' < n ∧ Iv n' Γ3 m3, D.rt, fun Γ3 m3 => FS X rest Γ3 m3 D, fun Γ3 m3 => ∃ n', n' < n ∧ Iv n' Γ3 m3⟩ else FS X rest Γ' m2 D)
    (hx : PassesOwn (model X.prog X.w) X.A X.env X.xe := by exact PassesOwn.never) : FS X (.While t body [] pos :: rest) Γ μ D := fun F H σ ps D' en hp c => by
  refine WSs.of (pss_cons (ps_while hx pt_can pss_can) pss_can) ?_
  refine ⟨fun n σ' H' => ∃ (F' : Hp) (new : List Addr) (Γ' : List Sl) (μ' : List MObj), EnvOk F' (ps ++ new) σ' Γ' ∧ HeapOk F' H' (ps ++ new) μ' ∧ (∀ p ∈ new, H p = none) ∧ Step ps F H F' H' ∧ Iv n Γ' μ',
    ⟨n0, F, [], Γ, μ, by rw [List.append_nil]; exact en, by rw [List.append_nil]; exact hp, (fun _ z => nomatch z), Step.refl hp.same, h0⟩, ?_⟩
  rintro n σ' H' ⟨F', new, Γ', μ', en', hp', nn, st', iv⟩
  refine h n Γ' μ' iv F' H' σ' _ _ en' hp' fun k F2 H2 μ2 hp2 s2 hq => ?_
  have st2 : Step ps F H F2 H2 := st'.join nn s2
  have en2 := en'.up s2.ff
  have c2 := c.on st2 nn
  cases k with
  | true =>
    rw [if_pos rfl] at hq ⊢
    refine ⟨fun σ3 H3 => ∃ n', n' < n ∧ ∃ (F' : Hp) (new : List Addr) (Γ' : List Sl) (μ' : List MObj), EnvOk F' (ps ++ new) σ3 Γ' ∧ HeapOk F' H3 (ps ++ new) μ' ∧ (∀ p ∈ new, H p = none) ∧ Step ps F H F' H3 ∧ Iv n' Γ' μ', fun σ3 H3 h => h, ?_⟩
    refine hq F2 H2 σ' _ _ en2 hp2 ⟨fun σ4 F4 H4 new4 Γ4 μ4 a b n4 st4 q => ?_, c2.rt, fun σ4 F4 H4 new4 Γ4 μ4 a b n4 st4 q => rest_of c2 st4 n4 a b q, fun σ4 F4 H4 new4 Γ4 μ4 a b n4 st4 q => ?_⟩
    · obtain ⟨n', hn', iv'⟩ := q
      rw [List.append_assoc] at a b
      exact ⟨n', hn', F4, new ++ new4, Γ4, μ4, a, b, fun p hp => (List.mem_append.mp hp).elim (nn p) fun z => none_back st2.th (n4 p z), st2.join nn st4, iv'⟩
    · obtain ⟨n', hn', iv'⟩ := q
      rw [List.append_assoc] at a b
      exact ⟨n', hn', F4, new ++ new4, Γ4, μ4, a, b, fun p hp => (List.mem_append.mp hp).elim (nn p) fun z => none_back st2.th (n4 p z), st2.join nn st4, iv'⟩
  | false =>
    rw [if_neg Bool.false_ne_true] at hq ⊢
    exact rest_of c st2 nn en2 hp2 hq

/-! ### several targets -/
/-- (a, b, ..) = e, e a datum -/
theorem fs_asgT {tg : Expr} {S : List Nat} {bb : GT} (hg : Tg X tg S bb) (h : FE X e Γ μ fun d m => bb d Γ fun Γ2 => FS X rest Γ2 m D) (hs : swapsWithSole [tg] e pos.line X.env = pure false := by rfl) (hw : swappedStores [tg] e X.env = pure none := by rfl)
    (h1 : (assignEach [tg] X.env).map (·.2) = [assign tg X.env] := by rfl) : FS X (.Assign [tg] e pos :: rest) Γ μ D := fun F H σ ps D' en hp c => by
  obtain ⟨g, pg, kg⟩ := hg.ok
  refine WSs.of (pss_cons (ps_asg pe_can pg hs hw h1) pss_can) ?_
  refine h F H σ ps _ en hp fun v F1 H1 d1 μ1 hp1 s1 q1 h2 => ?_
  refine kg F1 H1 ps σ Γ v d1 _ _ (en.up s1.ff) hp1.same q1 h2 fun σ3 Γ3 en3 _ h3 => ?_
  exact h3 F1 H1 σ3 ps D' en3 hp1 (c.step s1)
/-- a, b = x, y -/
theorem fs_par {i j : Nat} {x y : Str} {px py pt : Pos} {kt k2 pt2} (hc : X.calm = true) (hN : X.N.Nodup) (hi : X.N[i]? = some x) (hj : X.N[j]? = some y) (hij : i ≠ j)
    (hx : X.env.scope.names.lookup x = some .local) (hy : X.env.scope.names.lookup y = some .local) (h : FV X a Γ μ fun s m => FV X b Γ m fun s2 m2 => FS X rest ((Γ.set i s).set j s2) m2 D)
    (hw : swappedStores [.Tuple [.Name x px, .Name y py] kt pt] (.Tuple [a, b] k2 pt2) X.env = pure (some [x, y]) := by rfl)
    (hs : swapsWithSole [.Tuple [.Name x px, .Name y py] kt pt] (.Tuple [a, b] k2 pt2) pos.line X.env = pure false := by rfl)
    (hs1 : starEach [a, b] X.env = (false, eval a X.env) :: starEach [b] X.env := by rfl) (hs2 : starEach [b] X.env = (false, eval b X.env) :: starEach [] X.env := by rfl) :
    FS X (.Assign [.Tuple [.Name x px, .Name y py] kt pt] (.Tuple [a, b] k2 pt2) pos :: rest) Γ μ D := fun F H σ ps D' en hp c => by
  refine WSs.of (pss_cons (ps_par hc hN hi hj hij hx hy (pa_cons pe_can (pa_cons pe_can pa_nil hs2) hs1) hw hs) pss_can) ?_
  refine h F H σ ps _ en hp fun v F1 H1 new1 s1 μ1 hp1 n1 st1 q1 h2 => ?_
  refine h2 F1 H1 σ (ps ++ new1) _ ((en.up st1.ff).more new1) hp1 fun w F2 H2 new2 s2 μ2 hp2 n2 st2 q2 h3 => ?_
  refine ⟨v, w, rfl, ?_⟩
  rw [List.append_assoc] at hp2 q2
  have nn : ∀ p ∈ new1 ++ new2, H p = none := fun p hp => (List.mem_append.mp hp).elim (n1 p) fun z => none_back st1.th (n2 p z)
  have st := st1.join n1 st2
  have q1' := (q1.up st2.ff).more new2
  rw [List.append_assoc] at q1'
  exact rest_of c st nn ((((en.up st.ff).more (new1 ++ new2)).set q1').set q2) hp2 h3
theorem fs_par3 {i j l : Nat} {x y z : Str} {cc : Expr} {px py pz pt : Pos} {kt k2 pt2} (hc : X.calm = true) (hN : X.N.Nodup) (hi : X.N[i]? = some x) (hj : X.N[j]? = some y) (hl : X.N[l]? = some z) (hij : i ≠ j) (hil : i ≠ l) (hjl : j ≠ l)
    (hx : X.env.scope.names.lookup x = some .local) (hy : X.env.scope.names.lookup y = some .local) (hz : X.env.scope.names.lookup z = some .local) (h : FV X a Γ μ fun s m => FV X b Γ m fun s2 m2 => FV X cc Γ m2 fun s3 m3 => FS X rest (((Γ.set i s).set j s2).set l s3) m3 D)
    (hw : swappedStores [.Tuple [.Name x px, .Name y py, .Name z pz] kt pt] (.Tuple [a, b, cc] k2 pt2) X.env = pure (some [x, y, z]) := by rfl)
    (hs : swapsWithSole [.Tuple [.Name x px, .Name y py, .Name z pz] kt pt] (.Tuple [a, b, cc] k2 pt2) pos.line X.env = pure false := by rfl)
    (hs1 : starEach [a, b, cc] X.env = (false, eval a X.env) :: starEach [b, cc] X.env := by rfl) (hs2 : starEach [b, cc] X.env = (false, eval b X.env) :: starEach [cc] X.env := by rfl) (hs3 : starEach [cc] X.env = (false, eval cc X.env) :: starEach [] X.env := by rfl) :
    FS X (.Assign [.Tuple [.Name x px, .Name y py, .Name z pz] kt pt] (.Tuple [a, b, cc] k2 pt2) pos :: rest) Γ μ D := fun F H σ ps D' en hp c => by
  refine WSs.of (pss_cons (ps_par3 hc hN hi hj hl hij hil hjl hx hy hz (pa_cons pe_can (pa_cons pe_can (pa_cons pe_can pa_nil hs3) hs2) hs1) hw hs) pss_can) ?_
  refine h F H σ ps _ en hp fun v F1 H1 new1 s1 μ1 hp1 n1 st1 q1 h2 => ?_
  refine h2 F1 H1 σ (ps ++ new1) _ ((en.up st1.ff).more new1) hp1 fun w F2 H2 new2 s2 μ2 hp2 n2 st2 q2 h3 => ?_
  refine h3 F2 H2 σ ((ps ++ new1) ++ new2) _ ((((en.up st1.ff).more new1).up st2.ff).more new2) hp2 fun u F3 H3 new3 s3 μ3 hp3 n3 st3 q3 h4 => ?_
  refine ⟨v, w, u, rfl, ?_⟩
  have nn1 : ∀ p ∈ new1 ++ new2, H p = none := fun p hp => (List.mem_append.mp hp).elim (n1 p) fun z => none_back st1.th (n2 p z)
  have st12 := st1.join n1 st2
  rw [List.append_assoc] at st3
  have st := st12.join nn1 st3
  have nn : ∀ p ∈ (new1 ++ new2) ++ new3, H p = none := fun p hp => (List.mem_append.mp hp).elim (nn1 p) fun z => none_back st12.th (n3 p z)
  have q1' := ((q1.up (st2.ff.trans st3.ff)).more new2).more new3
  have q2' := (q2.up st3.ff).more new3
  rw [List.append_assoc, List.append_assoc] at hp3 q3 q1' q2'
  rw [← List.append_assoc new1] at hp3 q3 q1' q2'
  exact rest_of c st nn (((((en.up st.ff).more ((new1 ++ new2) ++ new3)).set q1').set q2').set q3) hp3 h4
end
end K13

set_option maxRecDepth 100000
set_option maxHeartbeats 4000000
set_option autoImplicit false
/-! The abstract layer, part 7: defs and calls of them. -/
namespace K13
open PySem PySem.Spec PyProof.Rows L2

/-- what a def promises: the arguments' slots, the mutable objects, what is wanted of its datum and of the objects -/
abbrev RelF := List Sl → List MObj → (PyData → List MObj → Prop) → Prop
def spA (R : RelF) : Sp := fun vs H Q _ => ∃ (F : Hp) (ps : List Addr) (as : List Sl) (μ : List MObj) (Post : PyData → List MObj → Prop),
  EnvOk F ps (vs.map some) as ∧ HeapOk F H ps μ ∧ R as μ Post ∧ ∀ v F2 H2 d μ2, HeapOk F2 H2 ps μ2 → Step ps F H F2 H2 → Dq F2 v d → Post d μ2 → Q v H2
/-- all arguments are data -/
def pureR (g : GC) : RelF := fun as μ Post => μ = [] ∧ ∃ ds : List PyData, as = ds.map Sl.dat ∧ g ds fun d => Post d []
/-- the first argument is a mutable list -/
abbrev GM := List PyData → List PyData → (PyData → List PyData → Prop) → Prop
def tinR (g : GM) : RelF := fun as μ Post => ∃ ts ds : List PyData, μ = [.lst ts] ∧ as = .ob 0 :: ds.map Sl.dat ∧ g ts ds fun d ts' => Post d [.lst ts']

theorem HeapOk.front {F H : Hp} {ps new : List Addr} {μ : List MObj} (h : HeapOk F H (ps ++ new) μ) : HeapOk F H ps (μ.take ps.length) := by
  have hl := h.len
  rw [List.length_append] at hl
  refine ⟨h.same, by rw [List.length_take]; omega, (List.nodup_append.mp h.nd).1, fun j p o a b => ?_⟩
  have hj : j < ps.length := (List.getElem?_eq_some_iff.mp a).1
  rw [List.getElem?_take_of_lt hj] at b
  exact h.obj j p o (by rw [List.getElem?_append_left hj]; exact a) b
def bodyD (n : Nat) (Post : PyData → List MObj → Prop) : DE := ⟨fun _ m => Post .none (m.take n), fun d m => Post d (m.take n), fun _ _ => False, fun _ _ => False⟩
section
variable {P : Program} {w : World} {K : PySem.W.Frag} {mg : Str → Option Value} {base : Heap}
/-- a def by its body, over data -/
theorem fn_ok {x qual : Str} {st : Stmt} {f : Addr} {fd : FuncData} {N ps : List Str} {k : Nat} {R : RelF} (F : Fun K x qual st f fd) (S : FnScope N ps (defScope st)) (len : ∀ as μ Post, R as μ Post → as.length = ps.length)
    (hbody : ∀ (cdv : Value) (A : Around) (outer : List Env) (s : Shared) (H : Hp) (E : XK), Room k (A.deeper (envOfC qual (defScope st) s.heap.objs.size f cdv)) → ∀ as μ Post, R as μ Post →
      FS (cxOf CX0 P w K mg base N qual (defScope st) f cdv A outer s H E).nox (defBody st) (as ++ List.replicate (N.length - as.length) .un) μ (bodyD μ.length Post)) : FnOk P w K mg base CX0 (k + 1) f fd ps (spA R) := by
  refine F.ok S (fun vs H Q E h => ?_) (fun cdv A outer s H vs Q E hr h => ?_)
  · obtain ⟨F, qs, as, μ, Post, en, _, r, _⟩ := h
    have := en.len
    rw [List.length_map] at this
    rw [this]
    exact len as μ Post r
  · obtain ⟨F', qs, as, μ, Post, en, hp, r, q⟩ := h
    refine ⟨_, pss_can, ?_⟩
    have hl := en.len
    rw [List.length_map] at hl
    have en2 : EnvOk F' qs (L2.start N vs) (as ++ List.replicate (N.length - as.length) .un) := by
      refine ⟨?_, fun i s e => ?_⟩
      · unfold L2.start
        rw [List.length_append, List.length_append, List.length_map, List.length_replicate, List.length_replicate, hl]
      · unfold L2.start
        by_cases hi : i < as.length
        · rw [List.getElem?_append_left hi] at e
          rw [List.getElem?_append_left (by rw [List.length_map, hl]; exact hi)]
          exact en.at_ i s e
        · rw [List.getElem?_append_right (by omega), List.getElem?_replicate] at e
          split at e
          · cases e; exact True.intro
          · cases e
    have hl2 : qs.length = μ.length := hp.len
    refine hbody cdv A outer s H E hr as μ Post r F' H _ qs _ en2 hp ⟨fun σ2 F2 H2 new Γ2 μ2 _ b _ st z => ?_, fun v F2 H2 new d μ2 b _ st dq z => ?_, fun _ _ _ _ _ _ _ _ _ _ z => False.elim z, fun _ _ _ _ _ _ _ _ _ _ z => False.elim z⟩
    · exact q .non F2 H2 .none _ b.front st .non (by rw [hl2]; exact z)
    · exact q v F2 H2 d _ b.front st dq (by rw [hl2]; exact z)
/-- a def that may be called -/
structure Has (P : Program) (w : World) (K : PySem.W.Frag) (mg : Str → Option Value) (base : Heap) (x : Str) (k : Nat) (R : RelF) : Prop where
  ex : ∃ (f : Addr) (fd : FuncData) (ps : List Str), FnOk P w K mg base CX0 k f fd ps (spA R) ∧ mg x = some (.ref f) ∧ PySem.W.keepIn K (.ref f) = true ∧ Binds K fd ps []
theorem Has.mono {x : Str} {j k : Nat} {R : RelF} (h : Has P w K mg base x j R) (hk : j ≤ k) : Has P w K mg base x k R := by
  obtain ⟨f, fd, ps, a, b, c, d⟩ := h.ex
  exact ⟨f, fd, ps, a.mono hk, b, c, d⟩
end
/-- a def of the program's top -/
structure Dn (K : PySem.W.Frag) (mg : Str → Option Value) (x : Str) (st : Stmt) (ps : List Str) : Prop where
  ex : ∃ (f : Addr) (fd : FuncData), Fun K x x st f fd ∧ mg x = some (.ref f) ∧ Binds K fd ps []
section
variable {P : Program} {w : World} {K : PySem.W.Frag} {mg : Str → Option Value} {base : Heap} {x : Str} {st : Stmt} {N ps : List Str} {k : Nat}
theorem has_of {R : RelF} (D : Dn K mg x st ps) (S : FnScope N ps (defScope st)) (len : ∀ as μ Post, R as μ Post → as.length = ps.length)
    (hbody : ∀ (f : Addr) (cdv : Value) (A : Around) (outer : List Env) (s : Shared) (H : Hp) (E : XK), Room k (A.deeper (envOfC x (defScope st) s.heap.objs.size f cdv)) → ∀ as μ Post, R as μ Post →
      FS (cxOf CX0 P w K mg base N x (defScope st) f cdv A outer s H E).nox (defBody st) (as ++ List.replicate (N.length - as.length) .un) μ (bodyD μ.length Post)) : Has P w K mg base x (k + 1) R := by
  obtain ⟨f, fd, F, m, b⟩ := D.ex
  exact ⟨f, fd, ps, fn_ok F S len (hbody f), m, F.kp, b⟩
abbrev pureD (Q : PyData → Prop) : DE := ⟨fun _ _ => Q .none, fun d _ => Q d, fun _ _ => False, fun _ _ => False⟩
theorem has_pure {g : GC} (D : Dn K mg x st ps) (S : FnScope N ps (defScope st)) (len : ∀ ds Q, g ds Q → ds.length = ps.length)
    (hbody : ∀ (f : Addr) (cdv : Value) (A : Around) (outer : List Env) (s : Shared) (H : Hp) (E : XK), Room k (A.deeper (envOfC x (defScope st) s.heap.objs.size f cdv)) → ∀ ds Q, g ds Q →
      FS (cxOf CX0 P w K mg base N x (defScope st) f cdv A outer s H E).nox (defBody st) (ds.map Sl.dat ++ List.replicate (N.length - ds.length) .un) [] (pureD Q)) : Has P w K mg base x (k + 1) (pureR g) := by
  refine has_of D S (fun as μ Post h => ?_) (fun f cdv A outer s H E hr as μ Post h => ?_)
  · obtain ⟨_, ds, rfl, h⟩ := h
    rw [List.length_map]; exact len ds _ h
  · obtain ⟨rfl, ds, rfl, h⟩ := h
    rw [List.length_map]
    refine (hbody f cdv A outer s H E hr ds _ h).imp (fun a b h => ?_) (fun a b h => ?_) (fun _ _ z => z) (fun _ _ z => z)
    · show Post .none (b.take 0); rw [List.take_zero]; exact h
    · show Post a (b.take 0); rw [List.take_zero]; exact h
abbrev tinD (Q : PyData → List PyData → Prop) : DE := ⟨fun _ _ => False, fun d m => ∃ ts r, m = .lst ts :: r ∧ Q d ts, fun _ _ => False, fun _ _ => False⟩
theorem has_tin {g : GM} (D : Dn K mg x st ps) (S : FnScope N ps (defScope st)) (len : ∀ ts ds Q, g ts ds Q → ds.length + 1 = ps.length)
    (hbody : ∀ (f : Addr) (cdv : Value) (A : Around) (outer : List Env) (s : Shared) (H : Hp) (E : XK), Room k (A.deeper (envOfC x (defScope st) s.heap.objs.size f cdv)) → ∀ ts ds Q, g ts ds Q →
      FS (cxOf CX0 P w K mg base N x (defScope st) f cdv A outer s H E).nox (defBody st) ((.ob 0 :: ds.map Sl.dat) ++ List.replicate (N.length - (ds.length + 1)) .un) [.lst ts] (tinD Q)) : Has P w K mg base x (k + 1) (tinR g) := by
  refine has_of D S (fun as μ Post h => ?_) (fun f cdv A outer s H E hr as μ Post h => ?_)
  · obtain ⟨ts, ds, _, rfl, h⟩ := h
    rw [List.length_cons, List.length_map]; exact len ts ds _ h
  · obtain ⟨ts, ds, rfl, rfl, h⟩ := h
    rw [List.length_cons, List.length_map]
    refine (hbody f cdv A outer s H E hr ts ds _ h).imp (fun _ _ z => False.elim z) (fun a b h => ?_) (fun _ _ z => z) (fun _ _ z => z)
    obtain ⟨ts', r, rfl, q⟩ := h
    exact q
end
section
variable {X : Cx} {Γ : List Sl} {μ : List MObj} {Q : PyData → List MObj → Prop} {a e : Expr} {es : List Expr} {x y : Str} {p pos : Pos} {k : Nat}
/-- f(e, ..), all arguments data -/
theorem fe_call {g : GC} {j : Nat} (c : Has X.prog X.w X.K X.mg X.base x j (pureR g)) (hr : Room k X.A) (h : FA X (e :: es) Γ μ fun ds m => g ds fun d => Q d m) (hjk : j ≤ k := by decide) (hg : Gl X x := by rfl) (hdb : (x == ("__debug__" : Str)) = false := by decide)
    (hs : starEach (e :: es) X.env = (false, eval e X.env) :: starEach es X.env := by rfl) (hpl : (backTo pos (starEach es X.env)).any (·.1) = false := by rfl) : FE X (.Call (.Name x p) (e :: es) [] pos) Γ μ Q := fun F H σ ps Q' en hp kk => by
  obtain ⟨f, fd, ns, c1, c2, c3, c4⟩ := (c.mono hjk).ex
  refine WE.of (pe_call (dvs := []) (E := E0) c1 hr hg c2 c3 c4 .nil pass0 pa_can hdb hs hpl) ?_
  refine h F H σ ps _ en hp fun vs F1 H1 ds μ1 hp1 s1 q1 h1 => ?_
  rw [List.append_nil]
  refine ⟨F1, [], ds.map Sl.dat, [], fun d _ => Q d μ1, ⟨by rw [List.length_map, List.length_map]; exact q1.length, fun i s e => ?_⟩, ⟨hp1.same, rfl, List.nodup_nil, fun j p o z => by simp at z⟩, ⟨rfl, ds, rfl, h1⟩, fun v F2 H2 d μ2 hp2 s2 q2 hq => ?_⟩
  · rw [List.getElem?_map] at e
    cases z : ds[i]? with
    | none => rw [z] at e; cases e
    | some d =>
      rw [z] at e
      cases e
      obtain ⟨v, hv, qv⟩ := q1.get z
      exact ⟨v, by rw [List.getElem?_map, hv]; rfl, qv⟩
  · exact kk v F2 H2 d μ1 (hp1.gr s2.gr) (s1.trans s2.gr.step) q2 hq
theorem fe_call0 {g : GC} {j : Nat} (c : Has X.prog X.w X.K X.mg X.base x j (pureR g)) (hr : Room k X.A) (h : g [] fun d => Q d μ) (hjk : j ≤ k := by decide) (hg : Gl X x := by rfl) (hdb : (x == ("__debug__" : Str)) = false := by decide) : FE X (.Call (.Name x p) [] [] pos) Γ μ Q := fun F H σ ps Q' en hp kk => by
  obtain ⟨f, fd, ns, c1, c2, c3, c4⟩ := (c.mono hjk).ex
  refine WE.of (pe_call0 (dvs := []) (E := E0) c1 hr hg c2 c3 c4 .nil pass0 hdb) ?_
  show spA _ ([] ++ []) H Q' E0
  rw [List.append_nil]
  refine ⟨F, [], [], [], fun d _ => Q d μ, ⟨rfl, fun i s e => by simp at e⟩, ⟨hp.same, rfl, List.nodup_nil, fun j p o z => by simp at z⟩, ⟨rfl, [], rfl, h⟩, fun v F2 H2 d μ2 hp2 s2 q2 hq => ?_⟩
  exact kk v F2 H2 d μ (hp.gr s2.gr) s2.gr.step q2 hq
/-- f(t, e, ..), t a mutable list that f may change -/
theorem fe_callM {g : GM} {i j l : Nat} {py : Pos} (c : Has X.prog X.w X.K X.mg X.base x l (tinR g)) (hr : Room k X.A) (hN : X.N[i]? = some y) (hv : Vis X.env.scope y) (hΓ : Γ[i]? = some (.ob j))
    (h : FA X es Γ μ fun ds m => ∃ ts, m[j]? = some (.lst ts) ∧ g ts ds fun d ts' => Q d (m.set j (.lst ts')))
    (hjk : l ≤ k := by decide) (hd : (y == ("__debug__" : Str)) = false := by decide) (hcd : (y == ("__classdict__" : Str)) = false := by decide) (hg : Gl X x := by rfl) (hdb : (x == ("__debug__" : Str)) = false := by decide)
    (hs : starEach (.Name y py :: es) X.env = (false, eval (.Name y py) X.env) :: starEach es X.env := by rfl) (hpl : (backTo pos (starEach es X.env)).any (·.1) = false := by rfl) : FE X (.Call (.Name x p) (.Name y py :: es) [] pos) Γ μ Q := fun F H σ ps Q' en hp kk => by
  obtain ⟨f, fd, ns, c1, c2, c3, c4⟩ := (c.mono hjk).ex
  refine WE.of (pe_call (dvs := []) (E := E0) c1 hr hg c2 c3 c4 .nil pass0 (pa_cons (pe_var hN hv hd hcd) pa_can hs) hdb hs hpl) ?_
  obtain ⟨q, e1, e2⟩ := en.ob hΓ
  refine ⟨.ref q, e2, ?_⟩
  refine h F H σ ps _ en hp fun vs F1 H1 ds μ1 hp1 s1 q1 h1 => ?_
  obtain ⟨ts, hm, hq⟩ := h1
  rw [List.append_nil]
  obtain ⟨nF, xs, e3, e4⟩ := hp1.obj j q _ e1 hm
  have hjm : j < μ1.length := (List.getElem?_eq_some_iff.mp hm).1
  have hmq : q ∈ ps := List.mem_of_getElem? e1
  refine ⟨F1, [q], .ob 0 :: ds.map Sl.dat, [.lst ts], fun d μ2 => ∃ ts', μ2 = [.lst ts'] ∧ Q d (μ1.set j (.lst ts')), ⟨by simp [q1.length], fun i s e => ?_⟩, ⟨hp1.same, rfl, by simp, fun i p o a b => ?_⟩, ⟨ts, ds, rfl, rfl, ?_⟩, fun v F2 H2 d μ2 hp2 s2 q2 hq2 => ?_⟩
  · cases i with
    | zero => cases e; exact ⟨q, rfl, rfl⟩
    | succ i =>
      rw [List.getElem?_cons_succ, List.getElem?_map] at e
      cases z : ds[i]? with
      | none => rw [z] at e; cases e
      | some d =>
        rw [z] at e
        cases e
        obtain ⟨v, hv, qv⟩ := q1.get z
        exact ⟨v, by rw [List.map_cons, List.getElem?_cons_succ, List.getElem?_map, hv]; rfl, qv⟩
  · cases i with
    | zero =>
      have a' := Option.some.inj (show some q = some p from a)
      have b' := Option.some.inj (show some (MObj.lst ts) = some o from b)
      rw [← a', ← b']
      exact ⟨nF, xs, e3, e4⟩
    | succ i => simp at a
  · have : (fun d ts' => ∃ ts'', [MObj.lst ts'] = [MObj.lst ts''] ∧ Q d (μ1.set j (.lst ts''))) = fun d ts' => Q d (μ1.set j (.lst ts')) := by
      funext d ts'
      refine propext ⟨fun ⟨t, e, z⟩ => ?_, fun z => ⟨ts', rfl, z⟩⟩
      have e' := (List.cons.inj e).1
      cases e'
      exact z
    show g ts ds fun d ts' => ∃ ts'', [MObj.lst ts'] = [MObj.lst ts''] ∧ Q d (μ1.set j (.lst ts''))
    rw [this]
    exact hq
  · obtain ⟨ts', rfl, hq3⟩ := hq2
    obtain ⟨nF2, ys, e5, e6⟩ := hp2.obj 0 q _ rfl rfl
    have st : Step ps F1 H1 F2 H2 := ⟨s2.ff, s2.fh, fun p o e n => s2.hh p o e (fun z => n (by rw [List.mem_singleton.mp z]; exact hmq)), s2.th, fun p a b n => s2.av p a b (fun z => n (by rw [List.mem_singleton.mp z]; exact hmq))⟩
    refine kk v F2 H2 d _ ⟨hp2.same, by rw [List.length_set]; exact hp1.len, hp1.nd, fun i r o a b => ?_⟩ (s1.trans st) q2 hq3
    by_cases z : j = i
    · subst z
      rw [e1] at a
      cases a
      rw [List.getElem?_set_self hjm] at b
      cases b
      exact ⟨nF2, ys, e5, e6⟩
    · rw [List.getElem?_set_ne z] at b
      have ne : r ≠ q := fun e => z (nd_ix hp1.nd e1 (e ▸ a))
      have nm : r ∉ [q] := fun e => ne (List.mem_singleton.mp e)
      have ok := hp1.obj i r o a b
      have th := ok.there
      cases o with
      | lst ds => obtain ⟨f, xs, h1, h2⟩ := ok; exact ⟨s2.av r f th nm, xs, s2.hh _ _ h1 nm, h2.up s2.ff⟩
      | dct kvs => obtain ⟨f, xs, h1, h2⟩ := ok; exact ⟨s2.av r f th nm, xs, s2.hh _ _ h1 nm, paired_imp (fun a b h => ⟨h.1, h.2.up s2.ff⟩) h2⟩
      | gone => exact s2.th r ok
/-- in short -/
theorem nm (i : Nat) {d : PyData} (h : Q d μ) (hN : X.N[i]? = some x := by rfl) (hv : Vis X.env.scope x := by first | exact Or.inl rfl | exact Or.inr (Or.inl rfl) | exact Or.inr (Or.inr rfl)) (hΓ : Γ[i]? = some (.dat d) := by rfl) (hd : (x == ("__debug__" : Str)) = false := by decide) (hcd : (x == ("__classdict__" : Str)) = false := by decide) :
    FE X (.Name x pos) Γ μ Q := fe_name hN hv hΓ h hd hcd
end
end K13

set_option maxRecDepth 100000
set_option maxHeartbeats 4000000
set_option autoImplicit false
/-! The program's top: its statements by place, its defs. -/
namespace K13
open PySem PySem.Spec PyProof.Rows L2
def topS (i : Nat) : Stmt := PySem.Challenge.pw_evenlifts_k13_whole_plans_never_back_nev.main.body.getD i (.Pass ⟨0, 0, 0, 0⟩)
structure Prog (K : PySem.W.Frag) (mg : Str → Option Value) : Prop where
  bl : Bl mg
  d_tupled : Dn K mg "tupled" (topS 5) ["thing"]
  d_is_number : Dn K mg "is_number" (topS 6) ["thing"]
  d_is_count : Dn K mg "is_count" (topS 7) ["thing"]
  d_is_below : Dn K mg "is_below" (topS 8) ["thing", "many"]
  d_is_tuple_of : Dn K mg "is_tuple_of" (topS 9) ["thing", "size"]
  d_put_at : Dn K mg "put_at" (topS 10) ["row", "place", "bit"]
  d_cracks_in : Dn K mg "cracks_in" (topS 12) ["beams", "heights"]
  d_sure_stand : Dn K mg "sure_stand" (topS 13) ["own", "stand"]
  d_sure_stands : Dn K mg "sure_stands" (topS 14) ["frame", "one", "other"]
  d_is_deed : Dn K mg "is_deed" (topS 16) ["frame", "thing"]
  d_is_doable : Dn K mg "is_doable" (topS 17) ["own", "heights", "deed"]
  d_after_deed : Dn K mg "after_deed" (topS 18) ["own", "heights", "deed"]
  d_walked_in : Dn K mg "walked_in" (topS 19) ["own", "heights", "plan"]
  d_bad_in : Dn K mg "bad_in" (topS 20) ["own", "heights", "plan"]
  d_is_plan : Dn K mg "is_plan" (topS 21) ["frame", "one", "other", "thing"]
  d_sure_leading : Dn K mg "sure_leading" (topS 23) ["frame", "one", "other", "plan"]
  d_cut_height : Dn K mg "cut_height" (topS 24) ["begin", "end", "height"]
  d_cut_in : Dn K mg "cut_in" (topS 25) ["begin", "end", "way"]
  d_kept_in : Dn K mg "kept_in" (topS 26) ["begin", "end", "way"]
  d_kept_deeds : Dn K mg "kept_deeds" (topS 27) ["frame", "one", "other", "plan"]
  d_never_back : Dn K mg "never_back" (topS 28) ["frame", "one", "other", "plan"]
  d_is_forward : Dn K mg "is_forward" (topS 29) ["frame", "one", "other", "plan"]
  d_saved : Dn K mg "saved" (topS 30) ["frame", "one", "other", "plan"]
  d_box_L : Dn K mg "_law_box" (topS 32) ["_law_script", "_law_k"]
  d_take_L : Dn K mg "_law_take" (topS 33) ["_law_tin", "_law_below_so"]
  d_cells_L : Dn K mg "_law_cells" (topS 34) ["_law_script", "_law_most_so"]
  d_of_L : Dn K mg "_law_of" (topS 35) ["_law_tin", "_law_goods_so"]
  d_lists_L : Dn K mg "_law_lists" (topS 36) ["_law_matter"]
  d_same_L : Dn K mg "_law_same" (topS 37) ["_law_got", "_law_due"]
  d_is_number_L : Dn K mg "_law_is_number" (topS 38) ["_law_own"]
  d_put_L : Dn K mg "_law_put" (topS 39) ["_law_row_so", "_law_place_so", "_law_bit_so"]
  d_is_pair_L : Dn K mg "_law_is_pair" (topS 40) ["_law_own"]
  d_joined_L : Dn K mg "_law_joined" (topS 41) ["_law_size_so", "_law_pairs_so"]
  d_frame_L : Dn K mg "_law_frame" (topS 42) ["_law_tin", "_law_most_so"]
  d_next_to_L : Dn K mg "_law_next_to" (topS 43) ["_law_frame_so", "_law_k"]
  d_some_stand_L : Dn K mg "_law_some_stand" (topS 44) ["_law_tin", "_law_frame_so", "_law_low_so", "_law_high_so"]
  d_two_stands_L : Dn K mg "_law_two_stands" (topS 45) ["_law_tin", "_law_frame_so", "_law_high_so"]
  d_roomy_L : Dn K mg "_law_roomy" (topS 46) ["_law_frame_so", "_law_own", "_law_k"]
  d_steps_L : Dn K mg "_law_steps" (topS 47) ["_law_frame_so", "_law_own"]
  d_price_of_L : Dn K mg "_law_price_of" (topS 48) ["_law_prices_so", "_law_k", "_law_level_so"]
  d_some_prices_L : Dn K mg "_law_some_prices" (topS 49) ["_law_tin", "_law_frame_so", "_law_high_so", "_law_none_so"]
  d_walk_so_L : Dn K mg "_law_walk_so" (topS 50) ["_law_frame_so", "_law_one_so", "_law_own"]
  d_leads_so_L : Dn K mg "_law_leads_so" (topS 51) ["_law_frame_so", "_law_one_so", "_law_other_so", "_law_own"]
  d_some_plan_L : Dn K mg "_law_some_plan" (topS 52) ["_law_tin", "_law_frame_so", "_law_one_so", "_law_most_so"]
  d_road_L : Dn K mg "_law_road" (topS 53) ["_law_frame_so", "_law_now_so", "_law_goal_so"]
  d_wild_L : Dn K mg "_law_wild" (topS 54) ["_law_tin", "_law_frame_so", "_law_one_so", "_law_other_so"]
  d_cut_so_L : Dn K mg "_law_cut_so" (topS 55) ["_law_one_so", "_law_other_so", "_law_own"]
  d_kept_L : Dn K mg "_law_kept" (topS 56) ["_law_one_so", "_law_other_so", "_law_plan_so"]
  d_is_straight_L : Dn K mg "_law_is_straight" (topS 57) ["_law_one_so", "_law_other_so", "_law_plan_so"]
  d_costs_L : Dn K mg "_law_costs" (topS 58) ["_law_prices_so", "_law_plan_so"]
  d_by_hand_right_L : Dn K mg "_law_by_hand_right" (topS 59) []
  d_cut_count_L : Dn K mg "_law_cut_count" (topS 60) ["_law_one_so", "_law_other_so", "_law_plan_so"]
  d_right_L : Dn K mg "_law_right" (topS 61) ["_law_tin"]
end K13

set_option maxRecDepth 100000
set_option maxHeartbeats 4000000
set_option autoImplicit false
/-! Data of this program. -/
namespace K13
open PySem PySem.Spec PyProof.Rows L2
theorem andT {A B : Prop} (h : A) : asB (fun k => if k = true then A else B) (.bool true) := by show if true = true then A else B; rw [if_pos rfl]; exact h
theorem andV {A B : Prop} {b : Bool} (e : b = true) (h : A) : asB (fun k => if k = true then A else B) (.bool b) := by show if b = true then A else B; rw [if_pos e]; exact h
theorem andF {A B : Prop} {b : Bool} (e : b = false) (h : B) : asB (fun k => if k = true then A else B) (.bool b) := by show if b = true then A else B; rw [e, if_neg Bool.false_ne_true]; exact h
theorem and2 {A B : Prop} {b : Bool} (h1 : b = true → A) (h2 : b = false → B) : asB (fun k => if k = true then A else B) (.bool b) := by
  cases b with
  | true => exact andT (h1 rfl)
  | false => exact andF rfl (h2 rfl)
theorem ifV {A B : Prop} {b : Bool} (e : b = true) (h : A) : if b = true then A else B := by rw [if_pos e]; exact h
theorem ifF {A B : Prop} {b : Bool} (e : b = false) (h : B) : if b = true then A else B := by rw [e, if_neg Bool.false_ne_true]; exact h
theorem if2 {A B : Prop} {b : Bool} (h1 : b = true → A) (h2 : b = false → B) : if b = true then A else B := by
  cases b with
  | true => exact ifV rfl (h1 rfl)
  | false => exact ifF rfl (h2 rfl)
theorem asbNT {A B : Prop} {b : Bool} (e : b = true) (h : B) : asB (fun k => if (!k) = true then A else B) (.bool b) := by show if (!b) = true then A else B; rw [e]; exact ifF rfl h
theorem asbNF {A B : Prop} {b : Bool} (e : b = false) (h : A) : asB (fun k => if (!k) = true then A else B) (.bool b) := by show if (!b) = true then A else B; rw [e]; exact ifV rfl h
theorem asbE {R : Bool → Prop} {b : Bool} (c : Bool) (e : b = c) (h : R c) : asB R (.bool b) := by show R b; rw [e]; exact h
def pD (b : Int × Int) : PyData := .tuple [.int b.1, .int b.2]
def sD (hs : List Int) : PyData := .tuple (hs.map .int)
def bsD (bs : List Beam) : PyData := .tuple (bs.map pD)
def fD (n : Nat) (bs : List Beam) : PyData := .tuple [.int (n : Int), bsD bs]
/-- a deed, a place with a deed -/
def npD (p : Int × Deed) : PyData := .tuple [.int p.1, pD p.2]
theorem at_ints {hs : List Int} {k : Int} (h : 0 ≤ k ∧ k < (hs.length : Int)) : L2.atI (hs.map PyData.int) k = some (.int (at0 hs k)) := by
  obtain ⟨m, rfl⟩ : ∃ m : Nat, k = (m : Int) := ⟨k.toNat, by omega⟩
  have hm : m < hs.length := by omega
  rw [at0_get hm]
  exact L2.atI_nat (by rw [List.getElem?_map, List.getElem?_eq_getElem hm]; rfl)
theorem at_tD {α : Type} {f : α → PyData} {l : List α} {m : Nat} (h : m < l.length) : L2.atI (l.map f) (m : Int) = some (f l[m]) :=
  L2.atI_nat (by rw [List.getElem?_map, List.getElem?_eq_getElem h]; rfl)
theorem cut_front {ds : List PyData} {k : Int} (h : 0 ≤ k) : cutD ds none (some k) = ds.take k.toNat := by
  obtain ⟨m, rfl⟩ : ∃ m : Nat, k = (m : Int) := ⟨k.toNat, by omega⟩
  unfold cutD
  rw [HT.sIx_none, HT.sIx_nat, List.drop_zero, Nat.sub_zero, Int.toNat_natCast]
  by_cases z : m ≤ ds.length
  · rw [Nat.min_eq_left z]
  · rw [Nat.min_eq_right (by omega), List.take_length, List.take_of_length_le (by omega)]
theorem cut_back {ds : List PyData} {k : Int} (h : 0 ≤ k) : cutD ds (some k) none = ds.drop k.toNat := by
  obtain ⟨m, rfl⟩ : ∃ m : Nat, k = (m : Int) := ⟨k.toNat, by omega⟩
  unfold cutD
  rw [HT.sIx_none, HT.sIx_nat, Int.toNat_natCast]
  by_cases z : m ≤ ds.length
  · rw [Nat.min_eq_left z, ← List.length_drop, List.take_length]
  · rw [Nat.min_eq_right (by omega), Nat.sub_self, List.take_zero, List.drop_of_length_le (by omega)]
theorem set_cut {α : Type} {l : List α} {k : Nat} {x : α} (h : k < l.length) : l.take k ++ [x] ++ l.drop (k + 1) = l.set k x := by
  rw [List.set_eq_take_append_cons_drop, if_pos h]
  simp
theorem put_ints {hs : List Int} {k h : Int} : (hs.map PyData.int).set k.toNat (.int h) = (put0 hs k h).map PyData.int := by
  unfold put0; rw [List.map_set]
theorem le5 {n m : Nat} (h : n.ble m = true) : n ≤ m := Nat.le_of_ble_eq_true h
section
variable {X : Cx} {Γ : List Sl} {μ : List MObj} {QB : Bool → List MObj → Prop} {a b : Expr} {pos : Pos}
/-- a and b, both change nothing -/
theorem fb_andP {ka kb : Bool} (ha : FB X a Γ μ fun k m => k = ka ∧ m = μ) (hb : ka = true → FB X b Γ μ fun k m => k = kb ∧ m = μ) (h : QB (ka && kb) μ) : FB X (.BoolOp .And [a, b] pos) Γ μ QB := by
  refine fb_of (fw_and (ha.imp fun k m ⟨e1, e2⟩ => ?_))
  subst e2
  rw [e1]
  cases ka with
  | false => exact ifF rfl h
  | true =>
    refine ifV rfl (fw_and1 ((hb rfl).imp fun k m ⟨e1, e2⟩ => ?_))
    subst e2
    rw [e1]; exact h
end
end K13

set_option maxRecDepth 100000
set_option maxHeartbeats 4000000
set_option autoImplicit false
/-! Comprehensions in short. -/
namespace K13
open PySem PySem.Spec PyProof.Rows L2
section
variable {X : Cx} {Γ : List Sl} {μ : List MObj} {elt iter : Expr} {ifs : List Expr} {scope : Scope} {pos px py pt : Pos} {x y : Str} {kt : Nat} {α : Type}
/-- [elt for x in iter if ..], test and item change nothing -/
theorem flN (i : Nat) (enc : α → PyData) (p : α → Bool) (g : α → PyData) {QL : List PyData → List MObj → Prop} (hN : X.N.Nodup) (hok : blkC X.N X.env.scope scope [(x, i)] = true)
    (h : FI X (.Name x px) iter Γ μ fun ds μ1 => ∃ xs : List α, ds = xs.map enc ∧ xs.length < 100000 ∧
      (∀ x ∈ xs, ∀ s H C cl fp, FTs (bx X scope s H C cl fp) ifs ((Γ.set i .un).set i (.dat (enc x))) μ1 fun k m2 => m2 = μ1 ∧ k = p x ∧ (p x = true → ∀ s H C cl fp, FE (bx X scope s H C cl fp) elt ((Γ.set i .un).set i (.dat (enc x))) μ1 fun e m3 => m3 = μ1 ∧ e = g x)) ∧
      QL ((xs.filter p).map g) μ1)
    (hc : X.calm = true := by rfl) (hi : X.N[i]? = some x := by rfl) (hx : scope.names.lookup x = some .local := by rfl)
    (hs : ∀ x, foldedSetIterable iter X.env x = pure x := by intro _; rfl) : FL X (.ListComp elt [⟨.Name x px, iter, ifs, 0⟩] scope pos) Γ μ QL := by
  refine fl_P (own := [(x, i)]) (S := [i]) (b := bName i) enc p g hc hN hok (by simp) (fun s H C cl fp => tg_name hN hi (.inl (lookup_relabel_local hx)) (.inr (lookup_relabel_local hx))) ?_ hs (fun _ _ _ _ f h => f _ h)
  exact h
theorem lcN (i : Nat) (enc : α → PyData) (p : α → Bool) (g : α → PyData) {QL : List PyData → List MObj → Prop} (hN : X.N.Nodup) (hok : blkC X.N X.env.scope scope [(x, i)] = true)
    (h : FI X (.Name x px) iter Γ μ fun ds μ1 => ∃ xs : List α, ds = xs.map enc ∧ xs.length < 100000 ∧
      (∀ x ∈ xs, ∀ s H C cl fp, FTs (bx X scope s H C cl fp) ifs ((Γ.set i .un).set i (.dat (enc x))) μ1 fun k m2 => m2 = μ1 ∧ k = p x ∧ (p x = true → ∀ s H C cl fp, FE (bx X scope s H C cl fp) elt ((Γ.set i .un).set i (.dat (enc x))) μ1 fun e m3 => m3 = μ1 ∧ e = g x)) ∧
      QL ((xs.filter p).map g) μ1)
    (hc : X.calm = true := by rfl) (hi : X.N[i]? = some x := by rfl) (hx : scope.names.lookup x = some .local := by rfl)
    (hs : ∀ x, foldedSetIterable iter X.env x = pure x := by intro _; rfl) : FN X (.ListComp elt [⟨.Name x px, iter, ifs, 0⟩] scope pos) Γ μ QL := fn_fl (flN i enc p g hN hok h hc hi hx hs)
theorem flN1 (i : Nat) (enc : α → PyData) (g : α → PyData) {QL : List PyData → List MObj → Prop} (hN : X.N.Nodup) (hok : blkC X.N X.env.scope scope [(x, i)] = true)
    (h : FI X (.Name x px) iter Γ μ fun ds μ1 => ∃ xs : List α, ds = xs.map enc ∧ xs.length < 100000 ∧
      (∀ x ∈ xs, ∀ s H C cl fp, FE (bx X scope s H C cl fp) elt ((Γ.set i .un).set i (.dat (enc x))) μ1 fun e m3 => m3 = μ1 ∧ e = g x) ∧
      QL (xs.map g) μ1)
    (hc : X.calm = true := by rfl) (hi : X.N[i]? = some x := by rfl) (hx : scope.names.lookup x = some .local := by rfl)
    (hs : ∀ x, foldedSetIterable iter X.env x = pure x := by intro _; rfl) : FL X (.ListComp elt [⟨.Name x px, iter, [], 0⟩] scope pos) Γ μ QL := by
  refine flN i enc (fun _ => true) g hN hok (h.imp fun ds μ1 ⟨xs, e, hl, ht, hq⟩ => ⟨xs, e, hl, fun x hx s H C cl fp => ⟨rfl, rfl, fun _ => ht x hx⟩, ?_⟩) hc hi hx hs
  rw [List.filter_eq_self.mpr (fun _ _ => rfl)]
  exact hq
theorem lcN1 (i : Nat) (enc : α → PyData) (g : α → PyData) {QL : List PyData → List MObj → Prop} (hN : X.N.Nodup) (hok : blkC X.N X.env.scope scope [(x, i)] = true)
    (h : FI X (.Name x px) iter Γ μ fun ds μ1 => ∃ xs : List α, ds = xs.map enc ∧ xs.length < 100000 ∧
      (∀ x ∈ xs, ∀ s H C cl fp, FE (bx X scope s H C cl fp) elt ((Γ.set i .un).set i (.dat (enc x))) μ1 fun e m3 => m3 = μ1 ∧ e = g x) ∧
      QL (xs.map g) μ1)
    (hc : X.calm = true := by rfl) (hi : X.N[i]? = some x := by rfl) (hx : scope.names.lookup x = some .local := by rfl)
    (hs : ∀ x, foldedSetIterable iter X.env x = pure x := by intro _; rfl) : FN X (.ListComp elt [⟨.Name x px, iter, [], 0⟩] scope pos) Γ μ QL := fn_fl (flN1 i enc g hN hok h hc hi hx hs)
/-- [elt for x, y in iter if ..] -/
theorem flT (i j : Nat) (enc : α → PyData) (p : α → Bool) (g : α → PyData) (fa fb : α → PyData) (he : ∀ x, enc x = .tuple [fa x, fb x]) {QL : List PyData → List MObj → Prop} (hN : X.N.Nodup) (hok : blkC X.N X.env.scope scope [(x, i), (y, j)] = true)
    (h : FI X (.Tuple [.Name x px, .Name y py] kt pt) iter Γ μ fun ds μ1 => ∃ xs : List α, ds = xs.map enc ∧ xs.length < 100000 ∧
      (∀ x ∈ xs, ∀ s H C cl fp, FTs (bx X scope s H C cl fp) ifs ((((Γ.set j .un).set i .un).set i (.dat (fa x))).set j (.dat (fb x))) μ1 fun k m2 => m2 = μ1 ∧ k = p x ∧ (p x = true → ∀ s H C cl fp, FE (bx X scope s H C cl fp) elt ((((Γ.set j .un).set i .un).set i (.dat (fa x))).set j (.dat (fb x))) μ1 fun e m3 => m3 = μ1 ∧ e = g x)) ∧
      QL ((xs.filter p).map g) μ1)
    (hc : X.calm = true := by rfl) (hi : X.N[i]? = some x := by rfl) (hx : scope.names.lookup x = some .local := by rfl) (hj : X.N[j]? = some y := by rfl) (hy : scope.names.lookup y = some .local := by rfl)
    (hs : ∀ x, foldedSetIterable iter X.env x = pure x := by intro _; rfl) : FL X (.ListComp elt [⟨.Tuple [.Name x px, .Name y py] kt pt, iter, ifs, 0⟩] scope pos) Γ μ QL := by
  refine fl_P (own := [(x, i), (y, j)]) (S := [i] ++ ([j] ++ [])) (b := bTup 2 (bCons (bName i) (bCons (bName j) bNil))) enc p g hc hN hok (by simp) (fun s H C cl fp => tg_tup hc (tgs_cons (tg_name hN hi (.inl (lookup_relabel_local hx)) (.inr (lookup_relabel_local hx))) (tgs_cons (tg_name hN hj (.inl (lookup_relabel_local hy)) (.inr (lookup_relabel_local hy))) tgs_nil))) ?_ hs (fun d Γ Φ Φ' f h => ?_)
  · refine h.imp fun ds μ1 ⟨xs, e, hl, ht, hq⟩ => ⟨xs, e, hl, fun x hx => ?_, hq⟩
    rw [he x]
    exact ⟨rfl, rfl, ht x hx⟩
  · match d, h with
    | .tuple [a, b], h => exact ⟨h.1, h.2.1, f _ h.2.2⟩
    | .tuple [], h => exact h
    | .tuple [a], h => exact h
    | .tuple (a :: b :: c :: r), h => exact absurd h.1 (by simp)
theorem lcT (i j : Nat) (enc : α → PyData) (p : α → Bool) (g : α → PyData) (fa fb : α → PyData) (he : ∀ x, enc x = .tuple [fa x, fb x]) {QL : List PyData → List MObj → Prop} (hN : X.N.Nodup) (hok : blkC X.N X.env.scope scope [(x, i), (y, j)] = true)
    (h : FI X (.Tuple [.Name x px, .Name y py] kt pt) iter Γ μ fun ds μ1 => ∃ xs : List α, ds = xs.map enc ∧ xs.length < 100000 ∧
      (∀ x ∈ xs, ∀ s H C cl fp, FTs (bx X scope s H C cl fp) ifs ((((Γ.set j .un).set i .un).set i (.dat (fa x))).set j (.dat (fb x))) μ1 fun k m2 => m2 = μ1 ∧ k = p x ∧ (p x = true → ∀ s H C cl fp, FE (bx X scope s H C cl fp) elt ((((Γ.set j .un).set i .un).set i (.dat (fa x))).set j (.dat (fb x))) μ1 fun e m3 => m3 = μ1 ∧ e = g x)) ∧
      QL ((xs.filter p).map g) μ1)
    (hc : X.calm = true := by rfl) (hi : X.N[i]? = some x := by rfl) (hx : scope.names.lookup x = some .local := by rfl) (hj : X.N[j]? = some y := by rfl) (hy : scope.names.lookup y = some .local := by rfl)
    (hs : ∀ x, foldedSetIterable iter X.env x = pure x := by intro _; rfl) : FN X (.ListComp elt [⟨.Tuple [.Name x px, .Name y py] kt pt, iter, ifs, 0⟩] scope pos) Γ μ QL := fn_fl (flT i j enc p g fa fb he hN hok h hc hi hx hj hy hs)
/-- name = [..] on one line, the name a local; taken as a datum -/
theorem fs_fl {i : Nat} {D : DE} {rest : List Stmt} {e : Expr} {spos : Pos} (h : FL X e Γ μ fun ds m => FS X rest (Γ.set i (.dat (.list ds))) m D) (hy : X.N[i]? = some y) (hyl : X.env.scope.names.lookup y = some .local := by rfl)
    (hk : X.env.scope.kind = .function := by rfl) (hl : (py.line == e.pos.line) = true := by rfl) (ha : ((match e with | .ListComp _ _ s _ => s | _ => X.env.scope).names.any fun (n, k) => n == y && (k == NameKind.local || k == NameKind.cell)) = false := by rfl) : FS X (.Assign [.Name y py] e spos :: rest) Γ μ D := fun F H σ ps D' en hp c => by
  obtain ⟨elt, tg, iter, ifs, scope, pos, own, wi, g, tt, te, rfl, hc, hN, h1, h2, h3, h4, h5, h6, h7⟩ := h
  refine WSs.of (pss_cons (ps_setLc hc hN hy hyl (sw_true hk hyl hl ha) h1 h2 h3 h4 h5 h6) pss_can) ?_
  unfold tSeq tAsg
  refine h7 F H σ ps _ en hp fun a F2 H2 xs ds μ2 hp2 s2 na nF e q hq => ?_
  have nap : a ∉ ps := fun z => hp.there z na
  obtain ⟨hpF, sF⟩ := show_ok hp2 nF nap e
  have st : Step ps F H (upd F2 a (.lst xs)) H2 := ⟨s2.ff.trans sF, hpF.same, s2.hh, s2.th, fun p e1 e2 n => by
    have ne : p ≠ a := fun z => e2 (by rw [z]; exact na)
    rw [upd_ne ne]
    exact s2.av p e1 e2 n⟩
  refine rest_of c (new := []) st (fun _ z => nomatch z) ?_ (by rw [List.append_nil]; exact hpF) hq
  rw [List.append_nil]
  exact (en.up st.ff).set (s := .dat (.list ds)) ⟨_, rfl, .lst upd_same (q.up sF)⟩
/-- .. kept as a mutable list -/
theorem fs_flM {i : Nat} {D : DE} {rest : List Stmt} {e : Expr} {spos : Pos} (h : FL X e Γ μ fun ds m => FS X rest (Γ.set i (.ob m.length)) (m ++ [.lst ds]) D) (hy : X.N[i]? = some y) (hyl : X.env.scope.names.lookup y = some .local := by rfl)
    (hk : X.env.scope.kind = .function := by rfl) (hl : (py.line == e.pos.line) = true := by rfl) (ha : ((match e with | .ListComp _ _ s _ => s | _ => X.env.scope).names.any fun (n, k) => n == y && (k == NameKind.local || k == NameKind.cell)) = false := by rfl) : FS X (.Assign [.Name y py] e spos :: rest) Γ μ D := fun F H σ ps D' en hp c => by
  obtain ⟨elt, tg, iter, ifs, scope, pos, own, wi, g, tt, te, rfl, hc, hN, h1, h2, h3, h4, h5, h6, h7⟩ := h
  refine WSs.of (pss_cons (ps_setLc hc hN hy hyl (sw_true hk hyl hl ha) h1 h2 h3 h4 h5 h6) pss_can) ?_
  unfold tSeq tAsg
  refine h7 F H σ ps _ en hp fun a F2 H2 xs ds μ2 hp2 s2 na nF e q hq => ?_
  have nap : a ∉ ps := fun z => hp.there z na
  refine rest_of c (new := [a]) s2 (fun x hx => by rw [List.mem_singleton.mp hx]; exact na) ?_ (hp2.join (o := .lst ds) nap (show MOk F2 H2 a (.lst ds) from ⟨nF, xs, e, q⟩)) hq
  refine ((en.up s2.ff).more [a]).set (s := .ob μ2.length) ⟨a, ?_, rfl⟩
  rw [← hp2.len, List.getElem?_append_right (Nat.le_refl _), Nat.sub_self]; rfl
end
theorem gEqB {i j : Bool} {Q : PyData → Prop} (e : decide (i = j) = true) (h : Q (.bool true)) : gEq (.bool i) (.bool j) Q := by show Q (.bool (decide (i = j))); rw [e]; exact h
theorem gNeB {i j : Bool} {Q : PyData → Prop} (e : decide (i = j) = true) (h : Q (.bool false)) : gNe (.bool i) (.bool j) Q := by show Q (.bool (!decide (i = j))); rw [e]; exact h
theorem gEqI {i j : Int} {Q : PyData → Prop} (e : decide (i = j) = true) (h : Q (.bool true)) : gEq (.int i) (.int j) Q := by show Q (.bool (decide (i = j))); rw [e]; exact h
/-! ### equality of this program's data -/
theorem eqv_pD (a b : Int × Int) : PyData.eqv (pD a) (pD b) = decide (a = b) := PySem.W.Datum.eqv a b
theorem eqv_sD (a b : List Int) : PyData.eqv (sD a) (sD b) = decide (a = b) := (PySem.W.Datum.eqv (PySem.W.Tup.mk a) (PySem.W.Tup.mk b)).trans (decide_eq_decide.mpr ⟨fun e => by cases e; rfl, fun e => by rw [e]⟩)
theorem eqv_bsD (a b : List (Int × Int)) : PyData.eqv (bsD a) (bsD b) = decide (a = b) := (PySem.W.Datum.eqv (PySem.W.Tup.mk a) (PySem.W.Tup.mk b)).trans (decide_eq_decide.mpr ⟨fun e => by cases e; rfl, fun e => by rw [e]⟩)
theorem depth_sD (a : List Int) : (sD a).depth ≤ 1 := PySem.W.Datum.depth_le (PySem.W.Tup.mk a)
theorem depth_pD (a : Int × Int) : (pD a).depth ≤ 1 := PySem.W.Datum.depth_le a
theorem depth_bsD (a : List (Int × Int)) : (bsD a).depth ≤ 2 := PySem.W.Datum.depth_le (PySem.W.Tup.mk a)
theorem in_bsD (l : List (Int × Int)) (x : Int × Int) : ((l.map pD).any fun y => PyData.eqv y (pD x)) = decide (x ∈ l) := (PySem.W.any_datum l x).trans (decide_eq_decide.mpr Iff.rfl)
theorem min32 {a b k : Nat} (h : a ≤ k) (hk : k ≤ 32) : min a b ≤ 32 := Nat.le_trans (Nat.min_le_left _ _) (Nat.le_trans h hk)
/-! ### lists read as tuples, tuples as lists; what is small enough -/
def okD : Nat → PyData → Bool
  | _, .int _ => true
  | _, .bool _ => true
  | _, .none => true
  | n + 1, .list ds => decide (ds.length < 1000) && ds.all (okD n)
  | n + 1, .tuple ds => decide (ds.length < 1000) && ds.all (okD n)
  | _, _ => false
def toT : Nat → PyData → PyData
  | n + 1, .list ds => .tuple (ds.map (toT n))
  | n + 1, .tuple ds => .tuple (ds.map (toT n))
  | _, d => d
def toL : Nat → PyData → PyData
  | n + 1, .list ds => .list (ds.map (toL n))
  | n + 1, .tuple ds => .list (ds.map (toL n))
  | _, d => d
theorem okD_int (n : Nat) (i : Int) : okD n (.int i) = true := by cases n <;> rfl
theorem okD_tup {n : Nat} {ds : List PyData} (h : ds.length < 1000) (h2 : ∀ d ∈ ds, okD n d = true) : okD (n + 1) (.tuple ds) = true := by
  show (decide (ds.length < 1000) && ds.all (okD n)) = true
  rw [decide_eq_true h, List.all_eq_true.mpr h2]; rfl
theorem okD_lst {n : Nat} {ds : List PyData} (h : ds.length < 1000) (h2 : ∀ d ∈ ds, okD n d = true) : okD (n + 1) (.list ds) = true := by
  show (decide (ds.length < 1000) && ds.all (okD n)) = true
  rw [decide_eq_true h, List.all_eq_true.mpr h2]; rfl
theorem toT_int (n : Nat) (i : Int) : toT n (.int i) = .int i := by cases n <;> rfl
theorem toL_int (n : Nat) (i : Int) : toL n (.int i) = .int i := by cases n <;> rfl
theorem okD_sD {n : Nat} {hs : List Int} (h : hs.length < 1000) : okD (n + 1) (sD hs) = true := okD_tup (by rw [List.length_map]; exact h) fun d hd => by
  obtain ⟨i, _, rfl⟩ := List.mem_map.mp hd
  exact okD_int n i
theorem okD_pD {n : Nat} (b : Int × Int) : okD (n + 1) (pD b) = true := okD_tup (by simp) fun d hd => by
  rcases List.mem_cons.mp hd with rfl | hd
  · exact okD_int n _
  · rw [List.mem_singleton.mp hd]; exact okD_int n _
theorem okD_bsD {n : Nat} {bs : List (Int × Int)} (h : bs.length < 1000) : okD (n + 2) (bsD bs) = true := okD_tup (by rw [List.length_map]; exact h) fun d hd => by
  obtain ⟨i, _, rfl⟩ := List.mem_map.mp hd
  exact okD_pD i
theorem okD_fD {m n : Nat} {bs : List (Int × Int)} (h : bs.length < 1000) : okD (m + 3) (fD n bs) = true := okD_tup (by simp) fun d hd => by
  rcases List.mem_cons.mp hd with rfl | hd
  · exact okD_int _ _
  · rw [List.mem_singleton.mp hd]; exact okD_bsD h
theorem toT_ints (n : Nat) (hs : List Int) : (hs.map PyData.int).map (toT n) = hs.map .int := by
  rw [List.map_map]; exact List.map_congr_left fun i _ => toT_int n i
theorem toL_ints (n : Nat) (hs : List Int) : (hs.map PyData.int).map (toL n) = hs.map .int := by
  rw [List.map_map]; exact List.map_congr_left fun i _ => toL_int n i
theorem toT_sD (n : Nat) (hs : List Int) : toT (n + 1) (sD hs) = sD hs := congrArg PyData.tuple (toT_ints n hs)
theorem toT_pD (n : Nat) (b : Int × Int) : toT (n + 1) (pD b) = pD b := toT_sD n [b.1, b.2]
theorem toT_bsD (n : Nat) (bs : List (Int × Int)) : toT (n + 2) (bsD bs) = bsD bs := by
  show PyData.tuple ((bs.map pD).map (toT (n + 1))) = PyData.tuple (bs.map pD)
  rw [List.map_map]; exact congrArg PyData.tuple (List.map_congr_left fun i _ => toT_pD n i)
theorem toT_fD (m n : Nat) (bs : List (Int × Int)) : toT (m + 3) (fD n bs) = fD n bs := by
  show PyData.tuple [toT (m + 2) (.int n), toT (m + 2) (bsD bs)] = _
  rw [toT_int, toT_bsD]; rfl
/-- the same as lists -/
def sL (hs : List Int) : PyData := .list (hs.map .int)
def pL (b : Int × Int) : PyData := .list [.int b.1, .int b.2]
def bsL (bs : List Beam) : PyData := .list (bs.map pL)
def fL (n : Nat) (bs : List Beam) : PyData := .list [.int (n : Int), bsL bs]
theorem toL_sD (n : Nat) (hs : List Int) : toL (n + 1) (sD hs) = sL hs := congrArg PyData.list (toL_ints n hs)
theorem toL_pD (n : Nat) (b : Int × Int) : toL (n + 1) (pD b) = pL b := toL_sD n [b.1, b.2]
theorem toL_bsD (n : Nat) (bs : List (Int × Int)) : toL (n + 2) (bsD bs) = bsL bs := by
  show PyData.list ((bs.map pD).map (toL (n + 1))) = PyData.list (bs.map pL)
  rw [List.map_map]; exact congrArg PyData.list (List.map_congr_left fun i _ => toL_pD n i)
theorem toL_fD (m n : Nat) (bs : List (Int × Int)) : toL (m + 3) (fD n bs) = fL n bs := by
  show PyData.list [toL (m + 2) (.int n), toL (m + 2) (bsD bs)] = _
  rw [toL_int, toL_bsD]; rfl
theorem toT_sL (n : Nat) (hs : List Int) : toT (n + 1) (sL hs) = sD hs := congrArg PyData.tuple (toT_ints n hs)
theorem toT_pL (n : Nat) (b : Int × Int) : toT (n + 1) (pL b) = pD b := toT_sL n [b.1, b.2]
theorem toT_bsL (n : Nat) (bs : List (Int × Int)) : toT (n + 2) (bsL bs) = bsD bs := by
  show PyData.tuple ((bs.map pL).map (toT (n + 1))) = PyData.tuple (bs.map pD)
  rw [List.map_map]; exact congrArg PyData.tuple (List.map_congr_left fun i _ => toT_pL n i)
theorem toT_fL (m n : Nat) (bs : List (Int × Int)) : toT (m + 3) (fL n bs) = fD n bs := by
  show PyData.tuple [toT (m + 2) (.int n), toT (m + 2) (bsL bs)] = _
  rw [toT_int, toT_bsL]; rfl
theorem okD_sL {n : Nat} {hs : List Int} (h : hs.length < 1000) : okD (n + 1) (sL hs) = true := okD_lst (by rw [List.length_map]; exact h) fun d hd => by
  obtain ⟨i, _, rfl⟩ := List.mem_map.mp hd
  exact okD_int n i
theorem okD_pL {n : Nat} (b : Int × Int) : okD (n + 1) (pL b) = true := okD_lst (by simp) fun d hd => by
  rcases List.mem_cons.mp hd with rfl | hd
  · exact okD_int n _
  · rw [List.mem_singleton.mp hd]; exact okD_int n _
theorem okD_bsL {n : Nat} {bs : List (Int × Int)} (h : bs.length < 1000) : okD (n + 2) (bsL bs) = true := okD_lst (by rw [List.length_map]; exact h) fun d hd => by
  obtain ⟨i, _, rfl⟩ := List.mem_map.mp hd
  exact okD_pL i
theorem okD_fL {m n : Nat} {bs : List (Int × Int)} (h : bs.length < 1000) : okD (m + 3) (fL n bs) = true := okD_lst (by simp) fun d hd => by
  rcases List.mem_cons.mp hd with rfl | hd
  · exact okD_int _ _
  · rw [List.mem_singleton.mp hd]; exact okD_bsL h
end K13

set_option maxRecDepth 100000
set_option maxHeartbeats 4000000
set_option autoImplicit false
/-! Neighbours, room, bounds. -/
namespace K13
open PySem PySem.Spec PyProof.Rows L2
theorem eqv_int (a b : Int) : PyData.eqv (.int a) (.int b) = decide (a = b) := PySem.W.Datum.eqv a b
def hasB (k : Int) (b : Beam) : Bool := decide (b.1 = k) || decide (b.2 = k)
def otherB (k : Int) (b : Beam) : Int := if b.1 = k then b.2 else b.1
def nbs (bs : List Beam) (k : Int) : List Int := (bs.filter (hasB k)).map (otherB k)
theorem in_pair (k : Int) (b : Beam) : ([PyData.int b.1, PyData.int b.2].any fun y => PyData.eqv y (.int k)) = hasB k b := by
  simp [List.any_cons, eqv_int, hasB]
theorem nbs_room {n : Nat} {bs : List Beam} (F : FrOk n bs) (hs : List Int) (k h : Int) : roomB bs hs k h = true ↔ ∀ j ∈ nbs bs k, h - at0 hs j ≤ 1 ∧ at0 hs j - h ≤ 1 := by
  rw [roomB_iff]
  unfold nbs
  constructor
  · intro q j hj
    obtain ⟨b, hb, rfl⟩ := List.mem_map.mp hj
    obtain ⟨hb, hk⟩ := List.mem_filter.mp hb
    obtain ⟨q1, q2⟩ := q b hb
    unfold otherB
    by_cases c : b.1 = k
    · rw [if_pos c]; exact q1 c
    · rw [if_neg c]
      unfold hasB at hk
      rw [decide_eq_false c, Bool.false_or, decide_eq_true_eq] at hk
      exact q2 hk
  · intro q b hb
    obtain ⟨_, _, _, _, ne⟩ := F.ends b hb
    refine ⟨fun c => ?_, fun c => ?_⟩
    · have := q (otherB k b) (List.mem_map.mpr ⟨b, List.mem_filter.mpr ⟨hb, by unfold hasB; rw [decide_eq_true c]; rfl⟩, rfl⟩)
      unfold otherB at this
      rw [if_pos c] at this
      exact this
    · have c1 : b.1 ≠ k := fun e => ne (e.trans c.symm)
      have := q (otherB k b) (List.mem_map.mpr ⟨b, List.mem_filter.mpr ⟨hb, by unfold hasB; rw [decide_eq_true c]; simp⟩, rfl⟩)
      unfold otherB at this
      rw [if_neg c1] at this
      exact this
theorem nbs_in {n : Nat} {bs : List Beam} (F : FrOk n bs) (k : Int) : ∀ j ∈ nbs bs k, 0 ≤ j ∧ j < (n : Int) := by
  intro j hj
  obtain ⟨b, hb, rfl⟩ := List.mem_map.mp hj
  obtain ⟨hb, hk⟩ := List.mem_filter.mp hb
  obtain ⟨e1, e2, e3, e4, _⟩ := F.ends b hb
  unfold otherB
  split
  · exact ⟨e3, e4⟩
  · exact ⟨e1, e2⟩
theorem nbs_ne {n : Nat} {bs : List Beam} (F : FrOk n bs) {k : Int} (hk : 0 ≤ k ∧ k < (n : Int)) : nbs bs k ≠ [] := by
  obtain ⟨b, hb, h⟩ := F.each k hk.1 hk.2
  intro e
  have : otherB k b ∈ nbs bs k := List.mem_map.mpr ⟨b, List.mem_filter.mpr ⟨hb, by unfold hasB; rcases h with h | h <;> simp [h]⟩, rfl⟩
  rw [e] at this
  cases this
theorem nbs_length (bs : List Beam) (k : Int) : (nbs bs k).length ≤ bs.length := by
  unfold nbs; rw [List.length_map]; exact List.length_filter_le _ _
theorem fold_max : ∀ (xs : List Int) (x : Int), (∀ y ∈ x :: xs, y ≤ xs.foldl max x) ∧ xs.foldl max x ∈ x :: xs
  | [], x => ⟨fun y hy => by rw [List.mem_singleton.mp hy]; exact Int.le_refl _, List.mem_singleton.mpr rfl⟩
  | z :: xs, x => by
    rw [List.foldl_cons]
    obtain ⟨h1, h2⟩ := fold_max xs (max x z)
    have hm := h1 (max x z) List.mem_cons_self
    refine ⟨fun y hy => ?_, ?_⟩
    · rcases List.mem_cons.mp hy with rfl | hy
      · omega
      · rcases List.mem_cons.mp hy with rfl | hy
        · omega
        · exact h1 y (List.mem_cons_of_mem _ hy)
    · rcases List.mem_cons.mp h2 with e | e
      · rw [e]
        rcases Int.le_total x z with c | c
        · rw [Int.max_eq_right c]; exact List.mem_cons_of_mem _ List.mem_cons_self
        · rw [Int.max_eq_left c]; exact List.mem_cons_self
      · exact List.mem_cons_of_mem _ (List.mem_cons_of_mem _ e)
theorem fold_min : ∀ (xs : List Int) (x : Int), (∀ y ∈ x :: xs, xs.foldl min x ≤ y) ∧ xs.foldl min x ∈ x :: xs
  | [], x => ⟨fun y hy => by rw [List.mem_singleton.mp hy]; exact Int.le_refl _, List.mem_singleton.mpr rfl⟩
  | z :: xs, x => by
    rw [List.foldl_cons]
    obtain ⟨h1, h2⟩ := fold_min xs (min x z)
    have hm := h1 (min x z) List.mem_cons_self
    refine ⟨fun y hy => ?_, ?_⟩
    · rcases List.mem_cons.mp hy with rfl | hy
      · omega
      · rcases List.mem_cons.mp hy with rfl | hy
        · omega
        · exact h1 y (List.mem_cons_of_mem _ hy)
    · rcases List.mem_cons.mp h2 with e | e
      · rw [e]
        rcases Int.le_total x z with c | c
        · rw [Int.min_eq_left c]; exact List.mem_cons_self
        · rw [Int.min_eq_right c]; exact List.mem_cons_of_mem _ List.mem_cons_self
      · exact List.mem_cons_of_mem _ (List.mem_cons_of_mem _ e)
theorem alike_all_ints (ns : List Int) : PySem.W.AlikeAll (ns.map PyData.int) := by
  refine ⟨fun x hx y hy => ?_, fun x hx => ?_⟩
  · obtain ⟨i, _, rfl⟩ := List.mem_map.mp hx
    obtain ⟨j, _, rfl⟩ := List.mem_map.mp hy
    rfl
  · obtain ⟨i, _, rfl⟩ := List.mem_map.mp hx
    exact fun z => nomatch z
theorem depth_all_ints (ns : List Int) : PyData.depthAll (ns.map PyData.int) ≤ 32 := by
  have : PyData.depthAll (ns.map PyData.int) ≤ 0 := PySem.W.depthAll_map ns
  omega
/-- heights between -b and b -/
def Bnd (b : Int) (hs : List Int) : Prop := ∀ j : Int, 0 ≤ j → j < (hs.length : Int) → -b ≤ at0 hs j ∧ at0 hs j ≤ b
theorem Bnd.up {b c : Int} {hs : List Int} (h : Bnd b hs) (e : b ≤ c) : Bnd c hs := fun j h1 h2 => by
  have := h j h1 h2
  omega
theorem Bnd.put {b : Int} {hs : List Int} {k h : Int} (B : Bnd b hs) (hk : 0 ≤ k ∧ k < (hs.length : Int)) (hh : -b ≤ h ∧ h ≤ b) : Bnd b (put0 hs k h) := fun j h1 h2 => by
  rw [put0_length] at h2
  rw [at0_put0 h hk h1]
  split
  · exact hh
  · exact B j h1 h2
theorem room_bnd {n : Nat} {bs : List Beam} {hs : List Int} {b k h : Int} (F : FrOk n bs) (hl : hs.length = n) (hk : 0 ≤ k ∧ k < (n : Int)) (B : Bnd b hs) (r : roomB bs hs k h = true) : -(b + 1) ≤ h ∧ h ≤ b + 1 := by
  cases e : nbs bs k with
  | nil => exact absurd e (nbs_ne F hk)
  | cons j r' =>
    have hj : j ∈ nbs bs k := by rw [e]; exact List.mem_cons_self
    have h1 := (nbs_room F hs k h).mp r j hj
    have h2 := nbs_in F k j hj
    have h3 := B j h2.1 (by rw [hl]; exact h2.2)
    omega
theorem runs_bnd {n : Nat} {bs : List Beam} (F : FrOk n bs) : ∀ (p : List Deed) (hs : List Int) (b : Int), hs.length = n → Bnd b hs → runs bs hs p = true → (∀ d ∈ p, -(b + p.length) ≤ d.2 ∧ d.2 ≤ b + p.length) ∧ Bnd (b + p.length) (fin hs p)
  | [], hs, b, hl, B, _ => ⟨fun d hd => (by cases hd), by show Bnd (b + ((0 : Nat) : Int)) hs; exact B.up (by omega)⟩
  | e :: p, hs, b, hl, B, h => by
    rw [runs, Bool.and_eq_true] at h
    obtain ⟨h1, h2⟩ := h
    obtain ⟨k1, k2, k3⟩ := stepB_iff.mp h1
    have k1' := k1
    rw [hl] at k1'
    have hb := room_bnd F hl k1' B k3
    obtain ⟨i1, i2⟩ := runs_bnd F p (put0 hs e.1 e.2) (b + 1) (by rw [put0_length]; exact hl) ((B.up (by omega)).put k1 hb) h2
    have hl2 : (((e :: p).length : Nat) : Int) = (p.length : Int) + 1 := by rw [List.length_cons]; omega
    refine ⟨fun d hd => ?_, ?_⟩
    · rcases List.mem_cons.mp hd with rfl | hd
      · omega
      · have := i1 d hd
        omega
    · rw [fin_cons]
      exact i2.up (by omega)
theorem fin_bnd {b : Int} : ∀ (p : List Deed) (hs : List Int), Bnd b hs → (∀ d ∈ p, 0 ≤ d.1 ∧ d.1 < (hs.length : Int) ∧ -b ≤ d.2 ∧ d.2 ≤ b) → Bnd b (fin hs p)
  | [], hs, B, _ => B
  | e :: p, hs, B, h => by
    rw [fin_cons]
    obtain ⟨h1, h2, h3, h4⟩ := h e List.mem_cons_self
    exact fin_bnd p _ (B.put ⟨h1, h2⟩ ⟨h3, h4⟩) fun d hd => by
      rw [put0_length]
      exact h d (List.mem_cons_of_mem _ hd)
theorem rgD_ints (lo hi : Int) : rgD lo hi = ((List.range (hi - lo).toNat).map fun (m : Nat) => lo + (m : Int)).map PyData.int := by
  unfold rgD; rw [List.map_map]; rfl
theorem in_rgD (lo hi h : Int) : ((rgD lo hi).any fun y => PyData.eqv y (.int h)) = decide (lo ≤ h ∧ h < hi) := by
  rw [rgD_ints, List.any_map]
  rw [Bool.eq_iff_iff, List.any_eq_true, decide_eq_true_eq]
  constructor
  · rintro ⟨x, hx, e⟩
    obtain ⟨m, hm, rfl⟩ := List.mem_map.mp hx
    have hm := List.mem_range.mp hm
    have e' : decide (lo + (m : Int) = h) = true := (eqv_int _ _).symm.trans e
    have e'' := of_decide_eq_true e'
    omega
  · intro c
    refine ⟨h, List.mem_map.mpr ⟨(h - lo).toNat, List.mem_range.mpr (by omega), by omega⟩, ?_⟩
    show PyData.eqv (.int h) (.int h) = true
    rw [eqv_int]; exact decide_eq_true rfl
theorem rgD_mem {lo hi : Int} {i : Nat} {d : PyData} (h : (rgD lo hi)[i]? = some d) : ∃ x, d = .int x ∧ lo ≤ x ∧ x < hi ∧ (i : Int) < hi - lo := by
  rw [rgD_ints] at h
  obtain ⟨x, hx, rfl⟩ : ∃ x, ((List.range (hi - lo).toNat).map fun (m : Nat) => lo + (m : Int))[i]? = some x ∧ d = .int x := by
    rw [List.getElem?_map] at h
    cases q : ((List.range (hi - lo).toNat).map fun (m : Nat) => lo + (m : Int))[i]? with
    | none => rw [q] at h; cases h
    | some x => rw [q] at h; exact ⟨x, rfl, (Option.some.inj h).symm⟩
  have hi' := (List.getElem?_eq_some_iff.mp hx).1
  rw [List.length_map, List.length_range] at hi'
  obtain ⟨m, hm, rfl⟩ := List.mem_map.mp (List.mem_of_getElem? hx)
  have hm := List.mem_range.mp hm
  exact ⟨_, rfl, by omega, by omega, by omega⟩
theorem rgD_length (lo hi : Int) : (rgD lo hi).length = (hi - lo).toNat := by unfold rgD; rw [List.length_map, List.length_range]
/-- the room as a range -/
theorem room_range {n : Nat} {bs : List Beam} {hs : List Int} {k : Int} (F : FrOk n bs) {x : Int} {xs : List Int} (e : ((x :: xs).Perm ((nbs bs k).map (at0 hs)))) :
    (∀ h, (xs.foldl max x - 1 ≤ h ∧ h < xs.foldl min x + 2) ↔ roomB bs hs k h = true) ∧ xs.foldl min x ≤ xs.foldl max x := by
  obtain ⟨m1, m2⟩ := fold_max xs x
  obtain ⟨l1, l2⟩ := fold_min xs x
  refine ⟨fun h => ?_, m1 _ l2⟩
  rw [nbs_room F hs k h]
  constructor
  · intro c j hj
    have hm : at0 hs j ∈ x :: xs := e.mem_iff.mpr (List.mem_map.mpr ⟨j, hj, rfl⟩)
    have := m1 _ hm
    have := l1 _ hm
    omega
  · intro c
    obtain ⟨j1, hj1, e1⟩ := List.mem_map.mp (e.mem_iff.mp m2)
    obtain ⟨j2, hj2, e2⟩ := List.mem_map.mp (e.mem_iff.mp l2)
    have := c j1 hj1
    have := c j2 hj2
    omega
end K13

set_option maxRecDepth 100000
set_option maxHeartbeats 4000000
set_option autoImplicit false
/-! The road between two stands. -/
namespace K13
open PySem PySem.Spec PyProof.Rows L2
/-! ### the least and the greatest of pairs -/
def ltP (a b : Int × Int) : Bool := decide (a.1 < b.1) || (decide (a.1 = b.1) && decide (a.2 < b.2))
theorem dataLt_pD (a b : Int × Int) : PySem.W.dataLt (pD a) (pD b) = ltP a b := by
  unfold pD ltP
  rw [PySem.W.dataLt_pair rfl rfl, eqv_int, eqv_int]
  by_cases h : a.1 = b.1
  · rw [if_pos (decide_eq_true h), decide_eq_true h, h]
    rw [decide_eq_false (Int.lt_irrefl _), Bool.false_or, Bool.true_and]
    by_cases h2 : a.2 = b.2
    · rw [if_pos (decide_eq_true h2), h2, decide_eq_false (Int.lt_irrefl _)]
    · rw [if_neg (by rw [decide_eq_false h2]; exact Bool.false_ne_true), PySem.W.dataLt_int]
  · rw [if_neg (by rw [decide_eq_false h]; exact Bool.false_ne_true), decide_eq_false h, Bool.false_and, Bool.or_false, PySem.W.dataLt_int]
theorem minD_pD : ∀ (xs : List (Int × Int)) (x : Int × Int), PySem.W.minD (pD x) (xs.map pD) = pD (xs.foldl (fun a y => if ltP y a then y else a) x) := by
  intro xs
  unfold PySem.W.minD
  induction xs with
  | nil => intro x; rfl
  | cons y xs ih =>
    intro x
    rw [List.map_cons, List.foldl_cons, List.foldl_cons, ← ih, dataLt_pD]
    congr 1
    split <;> rfl
theorem maxD_pD : ∀ (xs : List (Int × Int)) (x : Int × Int), PySem.W.maxD (pD x) (xs.map pD) = pD (xs.foldl (fun a y => if ltP a y then y else a) x) := by
  intro xs
  unfold PySem.W.maxD
  induction xs with
  | nil => intro x; rfl
  | cons y xs ih =>
    intro x
    rw [List.map_cons, List.foldl_cons, List.foldl_cons, ← ih, dataLt_pD]
    congr 1
    split <;> rfl
theorem fold_least : ∀ (xs : List (Int × Int)) (x : Int × Int), (∀ y ∈ x :: xs, (xs.foldl (fun a y => if ltP y a then y else a) x).1 ≤ y.1) ∧ xs.foldl (fun a y => if ltP y a then y else a) x ∈ x :: xs
  | [], x => ⟨fun y hy => by rw [List.mem_singleton.mp hy]; exact Int.le_refl _, List.mem_singleton.mpr rfl⟩
  | z :: xs, x => by
    rw [List.foldl_cons]
    obtain ⟨h1, h2⟩ := fold_least xs (if ltP z x then z else x)
    have hm := h1 _ List.mem_cons_self
    have hc : (if ltP z x then z else x).1 ≤ x.1 ∧ (if ltP z x then z else x).1 ≤ z.1 := by
      unfold ltP
      by_cases c : (decide (z.1 < x.1) || (decide (z.1 = x.1) && decide (z.2 < x.2))) = true
      · rw [if_pos c]
        simp only [Bool.or_eq_true, Bool.and_eq_true, decide_eq_true_eq] at c
        omega
      · rw [if_neg c]
        simp only [Bool.or_eq_true, Bool.and_eq_true, decide_eq_true_eq] at c
        omega
    refine ⟨fun y hy => ?_, ?_⟩
    · rcases List.mem_cons.mp hy with rfl | hy
      · omega
      · rcases List.mem_cons.mp hy with rfl | hy
        · omega
        · exact h1 y (List.mem_cons_of_mem _ hy)
    · rcases List.mem_cons.mp h2 with e | e
      · rw [e]
        split
        · exact List.mem_cons_of_mem _ List.mem_cons_self
        · exact List.mem_cons_self
      · exact List.mem_cons_of_mem _ (List.mem_cons_of_mem _ e)
theorem fold_most : ∀ (xs : List (Int × Int)) (x : Int × Int), (∀ y ∈ x :: xs, y.1 ≤ (xs.foldl (fun a y => if ltP a y then y else a) x).1) ∧ xs.foldl (fun a y => if ltP a y then y else a) x ∈ x :: xs
  | [], x => ⟨fun y hy => by rw [List.mem_singleton.mp hy]; exact Int.le_refl _, List.mem_singleton.mpr rfl⟩
  | z :: xs, x => by
    rw [List.foldl_cons]
    obtain ⟨h1, h2⟩ := fold_most xs (if ltP x z then z else x)
    have hm := h1 _ List.mem_cons_self
    have hc : x.1 ≤ (if ltP x z then z else x).1 ∧ z.1 ≤ (if ltP x z then z else x).1 := by
      unfold ltP
      by_cases c : (decide (x.1 < z.1) || (decide (x.1 = z.1) && decide (x.2 < z.2))) = true
      · rw [if_pos c]
        simp only [Bool.or_eq_true, Bool.and_eq_true, decide_eq_true_eq] at c
        omega
      · rw [if_neg c]
        simp only [Bool.or_eq_true, Bool.and_eq_true, decide_eq_true_eq] at c
        omega
    refine ⟨fun y hy => ?_, ?_⟩
    · rcases List.mem_cons.mp hy with rfl | hy
      · omega
      · rcases List.mem_cons.mp hy with rfl | hy
        · omega
        · exact h1 y (List.mem_cons_of_mem _ hy)
    · rcases List.mem_cons.mp h2 with e | e
      · rw [e]
        split
        · exact List.mem_cons_of_mem _ List.mem_cons_self
        · exact List.mem_cons_self
      · exact List.mem_cons_of_mem _ (List.mem_cons_of_mem _ e)
theorem alike_all_pD (l : List (Int × Int)) : PySem.W.AlikeAll (l.map pD) := by
  refine ⟨fun x hx y hy => ?_, fun x hx => ?_⟩
  · obtain ⟨i, _, rfl⟩ := List.mem_map.mp hx
    obtain ⟨j, _, rfl⟩ := List.mem_map.mp hy
    rfl
  · obtain ⟨i, _, rfl⟩ := List.mem_map.mp hx
    exact fun z => nomatch z
theorem depth_all_pD (l : List (Int × Int)) : PyData.depthAll (l.map pD) ≤ 32 := by
  have : PyData.depthAll (l.map pD) ≤ 1 := PySem.W.depthAll_map l
  omega
/-! ### places with their heights -/
def enumP (l : List Int) : List (Int × Int) := l.zipIdx.map fun p => (((p.2 : Nat) : Int), p.1)
theorem enumD_ints (l : List Int) : enumD (l.map PyData.int) = (enumP l).map fun x => .tuple [.int x.1, .int x.2] := by
  unfold enumD enumP
  rw [List.zipIdx_map, List.map_map, List.map_map]; rfl
theorem enumP_mem {l : List Int} {x : Int × Int} : x ∈ enumP l ↔ (0 ≤ x.1 ∧ x.1 < (l.length : Int)) ∧ x.2 = at0 l x.1 := by
  unfold enumP
  constructor
  · intro h
    obtain ⟨p, hp, rfl⟩ := List.mem_map.mp h
    obtain ⟨v, i⟩ := p
    have := List.mk_mem_zipIdx_iff_getElem?.mp hp
    obtain ⟨hi, e⟩ := List.getElem?_eq_some_iff.mp this
    refine ⟨⟨by show (0 : Int) ≤ (i : Int); omega, by show (i : Int) < _; omega⟩, ?_⟩
    show v = at0 l (i : Int)
    rw [at0_get hi, e]
  · rintro ⟨⟨h1, h2⟩, h3⟩
    obtain ⟨k, v⟩ := x
    obtain ⟨m, rfl⟩ : ∃ m : Nat, k = (m : Int) := ⟨k.toNat, by simp only at h1; omega⟩
    have hm : m < l.length := by simp only at h2; omega
    refine List.mem_map.mpr ⟨(v, m), List.mk_mem_zipIdx_iff_getElem?.mpr ?_, rfl⟩
    have h3 : v = at0 l (m : Int) := h3
    rw [h3, at0_get hm, List.getElem?_eq_getElem hm]
theorem enumP_length (l : List Int) : (enumP l).length = l.length := by unfold enumP; rw [List.length_map, List.length_zipIdx]
theorem zip_mem_at {l m : List Int} (hl : l.length = m.length) {j : Int} (h : 0 ≤ j ∧ j < (l.length : Int)) : (at0 l j, at0 m j) ∈ l.zip m := by
  obtain ⟨i, rfl⟩ : ∃ i : Nat, j = (i : Int) := ⟨j.toNat, by omega⟩
  have h1 : i < l.length := by omega
  have h2 : i < m.length := by omega
  rw [at0_get h1, at0_get h2]
  exact List.mem_iff_getElem?.mpr ⟨i, List.getElem?_zip_eq_some.mpr ⟨List.getElem?_eq_getElem h1, List.getElem?_eq_getElem h2⟩⟩
theorem zip_at_mem {l m : List Int} {x : Int × Int} (h : x ∈ l.zip m) : ∃ j : Int, (0 ≤ j ∧ j < (l.length : Int)) ∧ x = (at0 l j, at0 m j) := by
  obtain ⟨i, hi⟩ := List.mem_iff_getElem?.mp h
  obtain ⟨a, b⟩ := x
  obtain ⟨h1, h2⟩ := List.getElem?_zip_eq_some.mp hi
  obtain ⟨l1, e1⟩ := List.getElem?_eq_some_iff.mp h1
  obtain ⟨l2, e2⟩ := List.getElem?_eq_some_iff.mp h2
  refine ⟨(i : Int), ⟨by omega, by omega⟩, ?_⟩
  rw [at0_get l1, at0_get l2, e1, e2]
/-! ### raising the lowest below its goal, lowering the highest above it -/
theorem raise_ok {n : Nat} {bs : List Beam} {now goal : List Int} {k : Int} (F : FrOk n bs) (S : Stand n bs now) (T : Stand n bs goal) (hk : 0 ≤ k ∧ k < (n : Int)) (h : at0 now k < at0 goal k)
    (low : ∀ j : Int, 0 ≤ j → j < (n : Int) → at0 now j < at0 goal j → at0 now k ≤ at0 now j) : stepB bs now (k, at0 now k + 1) = true := by
  refine stepB_iff.mpr ⟨by rw [S.len]; exact hk, by show at0 now k + 1 ≠ at0 now k; omega, roomB_iff.mpr fun b hb => ?_⟩
  obtain ⟨e1, e2, e3, e4, ne⟩ := F.ends b hb
  have s := S.near b hb
  have t := T.near b hb
  refine ⟨fun c => ?_, fun c => ?_⟩
  · have c : b.1 = k := c
    rw [c] at s t
    have q := low b.2 e3 e4
    show at0 now k + 1 - at0 now b.2 ≤ 1 ∧ at0 now b.2 - (at0 now k + 1) ≤ 1
    omega
  · have c : b.2 = k := c
    rw [c] at s t
    have q := low b.1 e1 e2
    show at0 now k + 1 - at0 now b.1 ≤ 1 ∧ at0 now b.1 - (at0 now k + 1) ≤ 1
    omega
theorem lower_ok {n : Nat} {bs : List Beam} {now goal : List Int} {k : Int} (F : FrOk n bs) (S : Stand n bs now) (T : Stand n bs goal) (hk : 0 ≤ k ∧ k < (n : Int)) (h : at0 goal k < at0 now k)
    (high : ∀ j : Int, 0 ≤ j → j < (n : Int) → at0 goal j < at0 now j → at0 now j ≤ at0 now k) : stepB bs now (k, at0 now k - 1) = true := by
  refine stepB_iff.mpr ⟨by rw [S.len]; exact hk, by show at0 now k - 1 ≠ at0 now k; omega, roomB_iff.mpr fun b hb => ?_⟩
  obtain ⟨e1, e2, e3, e4, ne⟩ := F.ends b hb
  have s := S.near b hb
  have t := T.near b hb
  refine ⟨fun c => ?_, fun c => ?_⟩
  · have c : b.1 = k := c
    rw [c] at s t
    have q := high b.2 e3 e4
    show at0 now k - 1 - at0 now b.2 ≤ 1 ∧ at0 now b.2 - (at0 now k - 1) ≤ 1
    omega
  · have c : b.2 = k := c
    rw [c] at s t
    have q := high b.1 e1 e2
    show at0 now k - 1 - at0 now b.1 ≤ 1 ∧ at0 now b.1 - (at0 now k - 1) ≤ 1
    omega
/-! ### how far it is -/
def gap (f : Int → Int → Nat) (now goal : List Int) : Nat := ((now.zip goal).map fun x => f x.1 x.2).sum
theorem gap_set (f : Int → Int → Nat) : ∀ (now goal : List Int) (k : Nat) (h : Int), k < now.length → now.length = goal.length → gap f (now.set k h) goal + f (now.getD k 0) (goal.getD k 0) = gap f now goal + f h (goal.getD k 0)
  | [], _, k, _, hk, _ => by simp at hk
  | a :: r, [], k, _, _, hl => by simp at hl
  | a :: r, b :: s, 0, h, _, _ => by
    unfold gap
    simp only [List.set_cons_zero, List.zip_cons_cons, List.map_cons, List.sum_cons, List.getD_cons_zero]
    omega
  | a :: r, b :: s, k + 1, h, hk, hl => by
    have ih := gap_set f r s k h (by simpa using hk) (by simpa using hl)
    unfold gap at ih ⊢
    simp only [List.set_cons_succ, List.zip_cons_cons, List.map_cons, List.sum_cons, List.getD_cons_succ]
    omega
theorem gap_le (f : Int → Int → Nat) (c : Nat) : ∀ (now goal : List Int), (∀ x ∈ now.zip goal, f x.1 x.2 ≤ c) → gap f now goal ≤ c * now.length
  | [], _, _ => by simp [gap]
  | _ :: _, [], _ => by simp [gap]
  | a :: r, b :: s, h => by
    have ih := gap_le f c r s fun x hx => h x (by rw [List.zip_cons_cons]; exact List.mem_cons_of_mem _ hx)
    have h0 : f a b ≤ c := h (a, b) (by rw [List.zip_cons_cons]; exact List.mem_cons_self)
    unfold gap at ih ⊢
    rw [List.zip_cons_cons, List.map_cons, List.sum_cons, List.length_cons, Nat.mul_succ]
    show f a b + _ ≤ _
    omega
def up (a b : Int) : Nat := (b - a).toNat
def dn (a b : Int) : Nat := (a - b).toNat
theorem gap_put {f : Int → Int → Nat} {now goal : List Int} {k h : Int} (hk : 0 ≤ k ∧ k < (now.length : Int)) (hl : now.length = goal.length) : gap f (put0 now k h) goal + f (at0 now k) (at0 goal k) = gap f now goal + f h (at0 goal k) := by
  unfold put0 at0
  exact gap_set f now goal k.toNat h (by omega) hl
end K13

set_option maxRecDepth 100000
set_option maxHeartbeats 4000000
set_option autoImplicit false
/-! What the hand layer lacks: sorted(set([pairs])), dict(enumerate(tuple)), sorted(d.items()). -/
namespace K13
open PySem PySem.Spec PyProof.Rows L2

/-! ### sorted(set(a)), a a list of pairs of small ints -/
theorem pairs_at {F : Hp} : ∀ {vs : List V} {xs : List (Int × Int)}, DqAll F vs (xs.map pD) → ∃ ks : List (Addr × List Int), vs = ks.map (fun p => V.ref p.1) ∧ ks.map (·.2) = xs.map (fun x => [x.1, x.2]) ∧ (∀ p ∈ ks, F p.1 = some (.tup (p.2.map V.int))) ∧ ks.length = xs.length
  | [], [], _ => ⟨[], rfl, rfl, fun p hp => (by cases hp), rfl⟩
  | [], x :: xs, h => by cases h
  | v :: vs, [], h => by cases h
  | v :: vs, x :: xs, h => by
    cases h with
    | cons h1 h2 =>
      obtain ⟨ks, e1, e2, e3, e4⟩ := pairs_at h2
      obtain ⟨a, ys, rfl, q1, q2⟩ := Dq.tuple_inv h1
      have q3 := DqAll.ints (ns := [x.1, x.2]) q2
      subst q3
      refine ⟨(a, [x.1, x.2]) :: ks, by rw [e1]; rfl, by rw [List.map_cons, e2]; rfl, fun p hp => ?_, by rw [List.length_cons, List.length_cons, e4]⟩
      rcases List.mem_cons.mp hp with rfl | hp
      · exact q1
      · exact e3 p hp
def toP : List Int → Int × Int
  | [a, b] => (a, b)
  | _ => (0, 0)
theorem pairs_back {F : Hp} : ∀ (ks : List (Addr × List Int)), (∀ p ∈ ks, F p.1 = some (.tup (p.2.map V.int)) ∧ ∃ x : Int × Int, p.2 = [x.1, x.2]) → DqAll F (ks.map fun p => V.ref p.1) ((ks.map fun p => toP p.2).map pD)
  | [], _ => .nil
  | p :: ks, h => by
    obtain ⟨h1, x, e⟩ := h p List.mem_cons_self
    refine .cons ?_ (pairs_back ks fun q hq => h q (List.mem_cons_of_mem _ hq))
    show Dq F (.ref p.1) (pD (toP p.2))
    rw [e] at h1 ⊢
    exact .tup h1 (DqAll.of_ints [x.1, x.2])
section
variable {X : Cx} {Γ : List Sl} {μ : List MObj} {Q : PyData → List MObj → Prop} {a : Expr} {pos p p2 p3 : Pos} {k : Nat}
theorem fe_sortedSet (B : Bl X.mg) (hc : X.calm = true) (hr : Room k X.A) (h : FE X a Γ μ fun d m => ∃ xs : List (Int × Int), d = .list (xs.map pD) ∧ xs.length < 64 ∧ (∀ x ∈ xs, 0 ≤ x.1 ∧ x.1 < 64 ∧ 0 ≤ x.2 ∧ x.2 < 64) ∧
      ∀ ys : List (Int × Int), ys.Nodup → (∀ y, y ∈ ys ↔ y ∈ xs) → ys.length < 64 → Q (.list (ys.map pD)) m)
    (hg : Gl X "sorted" := by rfl) (hg2 : Gl X "set" := by rfl) (hs : starEach [a] X.env = (false, eval a X.env) :: starEach [] X.env := by rfl) (hpp : (backTo p3 (starEach [] X.env)).any (·.1) = false := by rfl)
    (hs2 : starEach [.Call (.Name "set" p2) [a] [] p3] X.env = (false, eval (.Call (.Name "set" p2) [a] [] p3) X.env) :: starEach [] X.env := by rfl) (hpp2 : (backTo pos (starEach [] X.env)).any (·.1) = false := by rfl) :
    FE X (.Call (.Name "sorted" p) [.Call (.Name "set" p2) [a] [] p3] [] pos) Γ μ Q := fun F H σ ps Q' en hp kk => by
  refine WE.of (pe_callB (cr_sortedT hc) hg B.sorted (by decide +kernel) (pa_cons (pe_callTy (cr_setOfT hc hr.units) hg2 B.set (by decide +kernel) (pa_cons pe_can pa_nil hs) (by decide) (by decide) hs hpp) pa_nil hs2) (by decide) (by decide) hs2 hpp2) ?_
  refine h F H σ ps _ en hp fun v F1 H1 d1 μ1 hp1 s1 q1 h1 => ?_
  obtain ⟨xs, rfl, hl, hb, hq⟩ := h1
  obtain ⟨l, vs, rfl, e1, e2⟩ := q1.list_inv
  obtain ⟨ks, rfl, k2, k3, k4⟩ := pairs_at e2
  refine ⟨l, ks, rfl, SqL.of (hp1.same _ _ e1), fun q hq => SqT.of (hp1.same _ _ (k3 q hq)), by rw [k4]; exact hl, fun c L nc hL1 hL2 => ?_⟩
  have sub : ∀ q ∈ L, ∃ x ∈ xs, q.2 = [x.1, x.2] := fun q hq => by
    have : q.2 ∈ ks.map (·.2) := List.mem_map.mpr ⟨q, hL1 q hq, rfl⟩
    rw [k2] at this
    obtain ⟨x, hx, e⟩ := List.mem_map.mp this
    exact ⟨x, hx, e.symm⟩
  have g1 : Gr F1 H1 F1 (upd H1 c (SetTO X.prog X.w c L)) := Gr.hid hp1.same nc
  refine ⟨c, L, 2, 64, rfl, upd_same, fun q hq => SqT.of (g1.hh _ _ (hp1.same _ _ (k3 q (hL1 q hq)))), by decide, fun q hq => ?_, fun L' r pm nd l64 _ nr => ?_⟩
  · obtain ⟨x, hx, e⟩ := sub q hq
    obtain ⟨b1, b2, b3, b4⟩ := hb x hx
    rw [e]
    refine ⟨rfl, fun y hy => ?_⟩
    rcases List.mem_cons.mp hy with rfl | hy
    · exact ⟨b1, b2⟩
    · rw [List.mem_singleton.mp hy]; exact ⟨b3, b4⟩
  · have hL' : ∀ q ∈ L', F1 q.1 = some (.tup (q.2.map V.int)) ∧ ∃ x : Int × Int, q.2 = [x.1, x.2] := fun q hq => by
      have := pm.mem_iff.mp hq
      obtain ⟨x, _, e⟩ := sub q this
      exact ⟨k3 q (hL1 q this), x, e⟩
    obtain ⟨g2, q2⟩ := new_lst g1.fh nr (pairs_back L' hL')
    refine kk _ _ _ _ μ1 ((hp1.gr g1).gr g2) ((s1.trans g1.step).trans g2.step) q2 (hq _ ?_ (fun y => ⟨fun hy => ?_, fun hy => ?_⟩) (by rw [List.length_map]; exact l64))
    · unfold List.Nodup at nd ⊢
      rw [List.pairwise_map] at nd ⊢
      refine List.Pairwise.imp_of_mem (fun {q r} hq hr ne e => ne ?_) nd
      obtain ⟨_, x, ex⟩ := hL' q hq
      obtain ⟨_, y, ey⟩ := hL' r hr
      rw [ex, ey] at e ⊢
      have e' : x = y := e
      rw [e']
    · obtain ⟨q, hq, rfl⟩ := List.mem_map.mp hy
      obtain ⟨x, hx, e⟩ := sub q (pm.mem_iff.mp hq)
      rw [e]; exact hx
    · have : [y.1, y.2] ∈ ks.map (·.2) := by rw [k2]; exact List.mem_map.mpr ⟨y, hy, rfl⟩
      obtain ⟨q, hq, e⟩ := List.mem_map.mp this
      obtain ⟨r, hr, e2⟩ := List.mem_map.mp (hL2 q hq)
      refine List.mem_map.mpr ⟨r, pm.mem_iff.mpr hr, ?_⟩
      rw [e2, e]; rfl
end
end K13

set_option maxRecDepth 100000
set_option maxHeartbeats 4000000
set_option autoImplicit false
/-! dict(enumerate(tuple)). -/
namespace K13
open PySem PySem.Spec PyProof.Rows L2
open Sem (wp)
section
variable {prog : Program} {w : World} {A : Around} {E : Value → Shared → Prop} {s : Shared}
/-- one more pair of an enumerate over a tuple, the pair before it being out still -/
theorem enumT_next_held {e it l T : Addr} {i : Nat} {items : Array Value} {x old : Value} {f : Bool} {oT : Obj} {Q : Value → Shared → Prop}
    (he : IsEnumHeld s.heap e it i old T f) (hT : s.heap.get? T = some oT) (hTe : T ≠ e) (hTi : T ≠ it) (hit : s.heap.IsTupleIter it l i) (hl : s.heap.IsTuple l items) (hx : items[i]? = some x) (hne : e ≠ it)
    (hQ : ∀ h', IsEnumHeld h' e it ((i : Int) + 1) old T true → h'.IsTupleIter it l (i + 1) →
      h'.get? s.heap.objs.size = some { cls := .type "tuple", data := .seq #[.int i s.toks, x] } → h'.objs.size = s.heap.objs.size + 1 →
      (∀ b o, b ≠ e → b ≠ it → s.heap.get? b = some o → h'.get? b = some o) → Q (.ref s.heap.objs.size) { s with heap := h', toks := s.toks + 1 }) :
    wpAny (model prog w) A (Builtin.«enumerate.__next__» ⟨[.ref e], []⟩) (fun fin s' => ∃ v, fin = .done (.ret v) ∧ Q v s') E s := by
  obtain ⟨hp, g, d, tk, os⟩ := s
  show wpAny _ _ (field (.ref e) 2 >>= _) _ _ _
  refine wpAny_bind (wpAny_field he rfl (x := .ref it) rfl ?_)
  refine wpAny_bind (wpAny_nextOf_tuple_item hit hl hx fun ha ia sa => ?_)
  replace sa : Heap.SameBut it hp ha := sa
  have ea : IsEnumHeld ha e it i old T f := (sa.2 e hne).trans he
  show wpAny _ _ (field (.ref e) 3 >>= _) _ _ ⟨ha, g, d, tk, os⟩
  refine wpAny_bind (wpAny_field ea rfl (x := rawInt i) rfl ?_)
  show wpAny _ _ (field (.ref e) 4 >>= _) _ _ ⟨ha, g, d, tk, os⟩
  refine wpAny_bind (wpAny_field ea rfl (x := .none) rfl ?_)
  show wpAny _ _ (mkInt i >>= _) _ _ ⟨ha, g, d, tk, os⟩
  refine wpAny_bind (wpAny_mkInt ?_)
  show wpAny _ _ (setField (.ref e) 3 (rawInt ((i : Int) + 1)) >>= _) _ _ ⟨ha, g, d, tk + 1, os⟩
  refine wpAny_bind (wpAny_setField_rec ea (by simp) fun hb eb sb => ?_)
  replace sb : Heap.SameBut e ha hb := sb
  replace eb : IsEnumHeld hb e it ((i : Int) + 1) old T f := eb
  show wpAny _ _ (setField (.ref e) 4 .none >>= _) _ _ ⟨hb, g, d, tk + 1, os⟩
  refine wpAny_bind (wpAny_setField_rec eb (by simp) fun hc ec sc => ?_)
  replace sc : Heap.SameBut e hb hc := sc
  replace ec : IsEnumHeld hc e it ((i : Int) + 1) old T f := ec
  show wpAny _ _ (newTuple [.int i tk, x] >>= _) _ _ ⟨hc, g, d, tk + 1, os⟩
  refine wpAny_bind (wpAny_newTuple ?_)
  have ed : IsEnumHeld (hc.push { cls := .type "tuple", data := .seq #[.int i tk, x] }) e it ((i : Int) + 1) old T f := Heap.get?_push_of_some _ ec
  generalize hh : hc.push { cls := .type "tuple", data := .seq #[.int i tk, x] } = hd at ed
  have hsz : hc.objs.size = hp.objs.size := by rw [sc.1, sb.1, sa.1]
  have hel : e < hp.objs.size := Heap.lt_size he
  have td : hd.get? hp.objs.size = some { cls := .type "tuple", data := .seq #[.int i tk, x] } := by rw [← hh, ← hsz]; exact Heap.get?_push_size _ rfl
  have zd : hd.objs.size = hp.objs.size + 1 := by rw [← hh, Heap.size_push, hsz]
  have kd : ∀ b o, b ≠ e → b ≠ it → hp.get? b = some o → hd.get? b = some o := fun b o hbe hbi hb => by
    rw [← hh]; exact Heap.get?_push_of_some _ (sc.extBut b o hbe (sb.extBut b o hbe (sa.extBut b o hbi hb)))
  have id' : hd.IsTupleIter it l (i + 1) := by
    rw [← hh]; obtain ⟨o, ho, r⟩ := (ia.extBut sb.extBut (Ne.symm hne)).extBut sc.extBut (Ne.symm hne); exact ⟨o, Heap.get?_push_of_some _ ho, r⟩
  show wpAny _ _ (Builtin.SmallTypes.ownedTupleIsFree (.ref e) >>= _) _ _ ⟨hd, g, d, tk + 1, os⟩
  rw [hsz]
  clear hh ec sc eb sb ea sa ia hsz hc hb ha
  refine wpAny_bind (wpAny_tupleHeld_enum (s := ⟨hd, g, d, tk + 1, os⟩) ed (kd T oT hTe hTi hT) fun hf ef sf => ?_)
  replace sf : Heap.SameBut e hd hf := sf
  simp only [Bool.false_eq_true, if_false]
  refine wpAny_pure ⟨_, rfl, hQ hf ef (id'.extBut sf.extBut (Ne.symm hne)) (sf.extBut _ _ (Nat.ne_of_gt hel) td) ?_ fun b o hbe hbi hb => sf.extBut b o hbe (kd b o hbe hbi hb)⟩
  show hf.objs.size = hp.objs.size + 1
  rw [sf.1, zd]
theorem next_enumT_held {e it l T : Addr} {i : Nat} {items : Array Value} {x old : Value} {f : Bool} {oT : Obj} {Q : Option Value → Shared → Prop}
    (he : IsEnumHeld s.heap e it i old T f) (hT : s.heap.get? T = some oT) (hTe : T ≠ e) (hTi : T ≠ it) (hit : s.heap.IsTupleIter it l i) (hl : s.heap.IsTuple l items) (hx : items[i]? = some x) (hne : e ≠ it)
    (hQ : ∀ h', IsEnumHeld h' e it ((i : Int) + 1) old T true → h'.IsTupleIter it l (i + 1) →
      h'.get? s.heap.objs.size = some { cls := .type "tuple", data := .seq #[.int i s.toks, x] } → h'.objs.size = s.heap.objs.size + 1 →
      (∀ b o, b ≠ e → b ≠ it → s.heap.get? b = some o → h'.get? b = some o) → Q (some (.ref s.heap.objs.size)) { s with heap := h', toks := s.toks + 1 }) :
    wpAny (model prog w) A (pyNext (.ref e)) Q E s := by
  have hTy : s.TypeIs (.ref e) "enumerate" := ⟨_, he, rfl⟩
  unfold pyNext
  exact wpAny_bind (wpAny_attempt (wpAny_callSpecial?_slot (name := Str.ofString "__next__") hTy F.slot_enumerate_next
    (wpAny_call_entry F.slot_enumerate_next hTy F.entry_enumerate_next
      (enumT_next_held he hT hTe hTi hit hl hx hne fun h' a1 a2 a3 a4 a5 => wpAny_pure (hQ h' a1 a2 a3 a4 a5)) (F.args_enumerate_next_1 _))))
theorem end_enumT_held {e it l T : Addr} {i : Nat} {items : Array Value} {old : Value} {f : Bool} {Q : Option Value → Shared → Prop} (hh : A.handled = none)
    (he : IsEnumHeld s.heap e it i old T f) (hit : s.heap.IsTupleIter it l i) (hl : s.heap.IsTuple l items) (hx : items[i]? = none)
    (hQ : ∀ h', Heap.ExtBut it s.heap h' → Q none { s with heap := h' }) : wpAny (model prog w) A (pyNext (.ref e)) Q E s := by
  have hTy : s.TypeIs (.ref e) "enumerate" := ⟨_, he, rfl⟩
  unfold pyNext
  refine wpAny_bind (wpAny_attempt (wpAny_callSpecial?_slot (name := Str.ofString "__next__") hTy F.slot_enumerate_next
    (wpAny_call_entry F.slot_enumerate_next hTy F.entry_enumerate_next ?_ (F.args_enumerate_next_1 _))))
  show wpAny _ _ (field (.ref e) 2 >>= _) _ _ _
  refine wpAny_bind (wpAny_field he rfl (x := .ref it) rfl ?_)
  refine wpAny_bind (wpAny_nextOf_tuple_end hh hit hl hx fun h' x he' hx' => ?_)
  obtain ⟨o, ho, hc⟩ := hx'
  refine wpAny_bind (wpAny_isInstance (T := "StopIteration") (b := true) ⟨o, ho, hc⟩ isSubtype_stop ?_)
  exact wpAny_pure (hQ _ he')
end
/-- enumerate(tuple) as what a dict is filled from -/
theorem argEnumT {prog : Program} {w : World} (e it l : Addr) (hei : e ≠ it) (hle : l ≠ e) (hli : l ≠ it) (items : Array Value) :
    PairArg prog w "enumerate" e [e, it, l] [e, it] items.size (fun i k v => (∃ t, k = .int i t) ∧ items[i]? = some v)
      (fun h => (∃ old, IsEnum h e it 0 old) ∧ h.IsTupleIter it l 0 ∧ h.IsTuple l items) where
  type := fun s ok => let ⟨⟨_, he⟩, _⟩ := ok; ⟨_, he, rfl⟩
  notDict := by decide
  keep := fun h h' ok hk => by
    obtain ⟨⟨old, he⟩, hit, hl⟩ := ok
    exact ⟨⟨old, hk _ _ he⟩, hit.at fun o x => hk _ o x, hl.at fun o x => hk _ o x⟩
  there := fun h ok b hb => by
    obtain ⟨⟨old, he⟩, ⟨o1, h1, _⟩, ⟨o2, h2, _⟩⟩ := ok
    simp only [List.mem_cons, List.not_mem_nil, or_false] at hb
    rcases hb with rfl | rfl | rfl
    all_goals first | exact ⟨_, he⟩ | exact ⟨_, h1⟩ | exact ⟨_, h2⟩
  sub := fun b hb => by simp at hb ⊢; rcases hb with rfl | rfl <;> simp
  noKeys := fun A s Q E hA ok h => let ⟨⟨_, he⟩, _⟩ := ok; getAttrOr_miss_enumerate he rfl rfl rfl enumerate_no_keys (by decide +kernel) hA h
  iter := fun A s d Q E hA ok hd hdf h => by
    obtain ⟨⟨old, he⟩, hit, hl⟩ := ok
    simp only [List.mem_cons, List.not_mem_nil, or_false, not_or] at hdf
    obtain ⟨de, dit, dl⟩ := hdf
    refine wpAny_pyIter_enum he (h e [e, it] (fun i h => h.IsTupleIter it l i ∧ h.IsTuple l items ∧ ((∃ old, IsEnum h e it i old) ∨ ∃ old T f oT, IsEnumHeld h e it i old T f ∧ h.get? T = some oT ∧ T ≠ e ∧ T ≠ it ∧ T ≠ d)) s.heap s.toks ?_
      ⟨hit, hl, .inl ⟨old, he⟩⟩ (fun _ _ e => e) fun b hb => .inl hb)
    exact {
      off := fun hm => by
        simp only [List.mem_cons, List.not_mem_nil, or_false] at hm
        rcases hm with x | x
        · exact de x
        · exact dit x
      frame := fun i ha hb st hk => by
        obtain ⟨hit, hl, he⟩ := st
        refine ⟨hit.at fun o x => hk _ o (Ne.symm dit) x, hl.at fun o x => hk _ o (Ne.symm dl) x, ?_⟩
        rcases he with ⟨old, he⟩ | ⟨old, T, f, oT, he, hT, r1, r2, r3⟩
        · exact .inl ⟨old, hk _ _ (Ne.symm de) he⟩
        · exact .inr ⟨old, T, f, oT, hk _ _ (Ne.symm de) he, hk _ _ r3 hT, r1, r2, r3⟩
      item := fun i sa Qa Ea hi st hds hQ => by
        obtain ⟨hit, hl, he⟩ := st
        have ex := Array.getElem?_eq_getElem hi
        have ec : ((i + 1 : Nat) : Int) = (i : Int) + 1 := by omega
        have nit : sa.heap.objs.size ≠ it := let ⟨_, x, _⟩ := hit; Nat.ne_of_gt (Heap.lt_size x)
        rcases he with ⟨old, he⟩ | ⟨old, T, f, oT, he, hT, r1, r2, r3⟩
        · refine wpAny_pyNext_enum_itemD (D := Draws.tuple (A := A.in1) hA it l hli items) he ⟨hit, hl⟩ hi hei (by simp [hei, Ne.symm hle]) fun x h' tk hP ho hst hT hsz hk => ?_
          exact hQ sa.heap.objs.size _ _ h' (tk + 1) ⟨⟨_, rfl⟩, hP⟩ (.inl ⟨_, hT, rfl, _, rfl⟩)
            ⟨hst.1, hst.2, .inr ⟨_, sa.heap.objs.size, false, _, (by rw [ec]; exact ho), hT, Nat.ne_of_gt (Heap.lt_size he), nit, Nat.ne_of_gt hds⟩⟩
            fun b o hb x => hk b o (fun y => hb (by simp [y])) (fun y => hb (by simp [y])) x
        · refine next_enumT_held he hT r1 r2 hit hl ex hei fun h' ho hit' hT' hsz hk => ?_
          exact hQ sa.heap.objs.size _ _ h' (sa.toks + 1) ⟨⟨_, rfl⟩, ex⟩ (.inl ⟨_, hT', rfl, _, rfl⟩)
            ⟨hit', hl.at fun o x => hk l o hle hli x, .inr ⟨old, T, true, oT, (by rw [ec]; exact ho), hk _ _ r1 r2 hT, r1, r2, r3⟩⟩
            fun b o hb x => hk b o (fun y => hb (by simp [y])) (fun y => hb (by simp [y])) x
      done := fun sa Qa Ea st hQ => by
        obtain ⟨hit, hl, he⟩ := st
        have hx : items[items.size]? = none := Array.getElem?_eq_none (Nat.le_refl _)
        rcases he with ⟨old, he⟩ | ⟨old, T, f, oT, he, hT, r1, r2, r3⟩
        · exact wpAny_pyNext_enum_endD (D := Draws.tuple (A := A.in1) hA it l hli items) he ⟨hit, hl⟩ fun h' hk => hQ h' sa.toks fun b o hb x => hk b o (fun y => hb (by simp [y])) x
        · exact end_enumT_held hA he hit hl hx fun h' hk => hQ h' sa.toks fun b o hb x => hk b o (fun y => hb (by simp [y])) x }
/-! ### the rule -/
def numK (i : Nat) : List V → List (Key × V)
  | [] => []
  | v :: r => (Sum.inl (i : Int), v) :: numK (i + 1) r
def numV (i : Nat) : List Value → List (Key × Value)
  | [] => []
  | v :: r => (Sum.inl (i : Int), v) :: numV (i + 1) r
theorem numV_length : ∀ (l : List Value) (i : Nat), (numV i l).length = l.length
  | [], _ => rfl
  | v :: r, i => by rw [numV, List.length_cons, List.length_cons, numV_length r]
theorem numV_get : ∀ (l : List Value) (i j : Nat) (v : Value), l[j]? = some v → (numV i l)[j]? = some (Sum.inl ((i + j : Nat) : Int), v)
  | [], _, _, _, h => by simp at h
  | x :: r, i, 0, v, h => by
    have e := Option.some.inj (show some x = some v from h)
    subst e; rfl
  | x :: r, i, j + 1, v, h => by
    rw [numV, List.getElem?_cons_succ, numV_get r (i + 1) j v (by simpa using h), show i + 1 + j = i + (j + 1) by omega]
theorem numV_keys : ∀ (l : List Value) (i : Nat) (k : Key), k ∈ (numV i l).map (·.1) → ∃ m : Nat, i ≤ m ∧ k = Sum.inl (m : Int)
  | [], _, _, h => by cases h
  | x :: r, i, k, h => by
    rw [numV, List.map_cons] at h
    rcases List.mem_cons.mp h with rfl | h
    · exact ⟨i, Nat.le_refl _, rfl⟩
    · obtain ⟨m, h1, h2⟩ := numV_keys r (i + 1) k h
      exact ⟨m, by omega, h2⟩
theorem numV_nodup : ∀ (l : List Value) (i : Nat), ((numV i l).map (·.1)).Nodup
  | [], _ => List.nodup_nil
  | x :: r, i => by
    rw [numV, List.map_cons]
    refine List.nodup_cons.mpr ⟨fun h => ?_, numV_nodup r _⟩
    obtain ⟨m, h1, h2⟩ := numV_keys r (i + 1) _ h
    have : (i : Int) = (m : Int) := Sum.inl.inj h2
    omega
theorem numK_length : ∀ (l : List V) (i : Nat), (numK i l).length = l.length
  | [], _ => rfl
  | v :: r, i => by rw [numK, List.length_cons, List.length_cons, numK_length r]
theorem num_kv : ∀ {xs : List V} {us : List Value} (i : Nat), Vals xs us → KV (numK i xs) (numV i us)
  | _, _, _, .nil => .nil
  | _, _, i, .cons r t => .cons ⟨rfl, r⟩ (num_kv (i + 1) t)
section
variable {X : Cx} {a : Expr} {ta : TE} {p p2 p3 pos : Pos}
def tEnumDict (K : PySem.W.Frag) (ta : TE) : TE := fun σ H Q => ta σ H fun v H1 => ∃ t xs, [v] = [V.ref t] ∧ SqT K H1 t xs ∧ ∀ q, H1 q = none → Q (.ref q) (upd H1 q (.dK (numK 0 xs)))
theorem pe_enumDict (B : Bl X.mg) (hc : X.calm = true) (ha : PE X a ta) (hg : Gl X "dict" := by rfl) (hg2 : Gl X "enumerate" := by rfl) (hs : starEach [a] X.env = (false, eval a X.env) :: starEach [] X.env := by rfl)
    (hs2 : starEach [.Call (.Name "enumerate" p2) [a] [] p3] X.env = (false, eval (.Call (.Name "enumerate" p2) [a] [] p3) X.env) :: starEach [] X.env := by rfl) :
    PE X (.Call (.Name "dict" p) [.Call (.Name "enumerate" p2) [a] [] p3] [] pos) (tEnumDict X.K ta) := by
  refine ⟨fun pins s σ H Q I h => ?_⟩
  refine wpAny_Call_Name_kw (ld_blt I hg B.dict (show bootBuiltins "dict" = some (.type "dict") by decide +kernel) ?_)
  refine PyProof.Rows.callWith_type1 ?_ hs2 rfl
  rw [hs2]
  show wpAny _ _ (spliced ((false, eval (.Call (.Name "enumerate" p2) [a] [] p3) X.env) :: backTo pos (starEach [] X.env))) _ _ s
  refine Calls.spliced_cons ?_
  refine wpAny_Call_Name_kw (ld_blt I hg2 B.enumerate boot_enumerate ?_)
  refine PyProof.Rows.callWith_type1 (thn ((pa_cons ha pa_nil hs).run p3 pins s σ H (fun vs H1 => ∃ t xs, vs = [V.ref t] ∧ SqT X.K H1 t xs ∧ ∀ q, H1 q = none → Q (.ref q) (upd H1 q (.dK (numK 0 xs)))) I h) fun us s1 ⟨vs, H1, I1, r1, q1⟩ => ?_) hs rfl
  obtain ⟨t, xs, rfl, hq, q⟩ := q1
  cases r1 with
  | cons r rr =>
    cases rr
    cases r
    obtain ⟨its, rv, p', hz⟩ := I1.tuple hq
    have pt : s1.heap.IsTuple t its.toArray := p'
    have hlt : t < s1.heap.objs.size := p'.lt
    refine enum_begins1 (begins_tuple t its.toArray) pt fun h' he hit hsz hk => ?_
    refine Calls.spliced_nil ?_
    have hl := rv.length
    have hin : h'.IsTupleIter s1.heap.objs.size t 0 := ⟨_, hit, rfl, rfl⟩
    have htp : h'.IsTuple t its.toArray := pt.at fun o e => hk t o e
    refine PySem.call_dict_pairs (s := { s1 with heap := h' }) (knd := mixKind X.prog X.w) (kvs := numV 0 its) (argEnumT (s1.heap.objs.size + 1) s1.heap.objs.size t (Nat.succ_ne_self _) (Nat.ne_of_lt (Nat.lt_succ_of_lt hlt)) (Nat.ne_of_lt hlt) its.toArray) (I1.ok.hd hc) ⟨⟨_, he⟩, hin, htp⟩ ⟨?_, fun i key v hr => ?_⟩ ?_ fun h2 tk hd hk2 => ?_
    · rw [numV_length]; simp
    · obtain ⟨⟨tk, rfl⟩, hv⟩ := hr
      refine ⟨Sum.inl (i : Int), ?_, mixKind_int X.prog X.w _ tk⟩
      have := numV_get its 0 i v (by simpa using hv)
      rw [Nat.zero_add] at this
      exact this
    · have : its.toArray.size = its.length := by simp
      rw [this, ← hl]; exact hz
    · rw [merged_nil_of_nodup _ (numV_nodup its 0)] at hd
      have hd : h2.DictOf (mixKind X.prog X.w) h'.objs.size (numV 0 its) := hd
      have kk : ∀ b o, s1.heap.get? b = some o → h2.get? b = some o := fun b o e => by
        have hb : b < s1.heap.objs.size := Heap.lt_size e
        refine hk2 b o (fun hm => ?_) (hk b o e)
        simp only [List.mem_cons, List.not_mem_nil, or_false] at hm
        rcases hm with z | z
        · rw [z] at hb; exact absurd hb (Nat.not_lt.mpr (Nat.le_succ _))
        · rw [z] at hb; exact absurd hb (Nat.lt_irrefl _)
      have hle : s1.heap.objs.size ≤ h'.objs.size := by rw [hsz]; omega
      have hm : (h'.objs.size == sysModules) = false := beq_eq_false_iff_ne.mpr (Nat.ne_of_gt (Nat.lt_of_lt_of_le I1.big hle))
      exact ⟨.ref h'.objs.size, upd H1 h'.objs.size (.dK (numK 0 xs)), I1.laid (t' := tk) kk hle (show ObjOk X.prog X.w _ _ _ (.dK (numK 0 xs)) from ⟨by rw [numK_length]; exact hz, hm, numV 0 its, num_kv 0 rv, hd⟩), rfl, q _ (I1.hok.fresh hle)⟩
end
/-- the dict of a tuple by its places -/
def numD (i : Nat) : List PyData → List (Int × PyData)
  | [] => []
  | d :: r => ((i : Int), d) :: numD (i + 1) r
theorem num_kvR {F : Hp} : ∀ {vs : List V} {ds : List PyData} (i : Nat), DqAll F vs ds → Paired (KvR F) (numD i ds) (numK i vs)
  | _, _, _, .nil => .nil
  | _, _, i, .cons r t => .cons ⟨rfl, r⟩ (num_kvR (i + 1) t)
section
variable {X : Cx} {Γ : List Sl} {μ : List MObj} {Q : Sl → List MObj → Prop} {a : Expr} {p p2 p3 pos : Pos}
/-- dict(enumerate(e)), e a tuple -/
theorem fv_dictEnum (B : Bl X.mg) (hc : X.calm = true) (h : FE X a Γ μ fun d m => ∃ ds, d = .tuple ds ∧ Q (.ob m.length) (m ++ [.dct (numD 0 ds)])) (hg : Gl X "dict" := by rfl) (hg2 : Gl X "enumerate" := by rfl) (hs : starEach [a] X.env = (false, eval a X.env) :: starEach [] X.env := by rfl)
    (hs2 : starEach [.Call (.Name "enumerate" p2) [a] [] p3] X.env = (false, eval (.Call (.Name "enumerate" p2) [a] [] p3) X.env) :: starEach [] X.env := by rfl) :
    FV X (.Call (.Name "dict" p) [.Call (.Name "enumerate" p2) [a] [] p3] [] pos) Γ μ Q := fun F H σ ps Q' en hp k => by
  refine WE.of (pe_enumDict B hc pe_can hg hg2 hs hs2) ?_
  refine h F H σ ps _ en hp fun v F1 H1 d1 μ1 hp1 s1 q1 h1 => ?_
  obtain ⟨ds, rfl, hq⟩ := h1
  obtain ⟨t, xs, rfl, e1, e2⟩ := q1.tuple_inv
  refine ⟨t, xs, rfl, SqT.of (hp1.same _ _ e1), fun q nq => ?_⟩
  have nap : q ∉ ps := fun z => hp1.there z nq
  have g : Gr F1 H1 F1 (upd H1 q (.dK (numK 0 xs))) := Gr.hid hp1.same nq
  refine k (.ref q) F1 _ [q] (.ob μ1.length) _ ((hp1.gr g).join (o := .dct (numD 0 ds)) nap (show MOk F1 (upd H1 q (.dK (numK 0 xs))) q (.dct (numD 0 ds)) from ⟨hp1.same.free nq, _, upd_same, num_kvR 0 e2⟩)) (fun x hx => by rw [List.mem_singleton.mp hx]; exact none_back s1.th nq) (s1.trans g.step) ⟨q, ?_, rfl⟩ hq
  rw [← hp1.len, List.getElem?_append_right (Nat.le_refl _), Nat.sub_self]; rfl
end
theorem numD_val : ∀ (ds : List PyData) (i j : Nat) (d : PyData), ds[j]? = some d → dval (numD i ds) ((i + j : Nat) : Int) = some d
  | [], _, _, _, h => by simp at h
  | x :: r, i, 0, d, h => by
    have e := Option.some.inj (show some x = some d from h)
    subst e
    unfold dval numD
    rw [List.find?_cons]
    simp
  | x :: r, i, j + 1, d, h => by
    have ih := numD_val r (i + 1) j d (by simpa using h)
    unfold dval at ih ⊢
    rw [numD, List.find?_cons]
    have ne : ¬ ((i : Nat) : Int) = ((i + (j + 1) : Nat) : Int) := by omega
    simp only [decide_eq_false ne]
    rw [show i + (j + 1) = i + 1 + j by omega]
    exact ih
theorem numD_length : ∀ (ds : List PyData) (i : Nat), (numD i ds).length = ds.length
  | [], _ => rfl
  | d :: r, i => by rw [numD, List.length_cons, List.length_cons, numD_length r]
end K13

set_option maxRecDepth 100000
set_option maxHeartbeats 4000000
set_option autoImplicit false
/-! sorted(d.items()), the keys ints, the values ints or None. -/
namespace K13
open PySem PySem.Spec PyProof.Rows L2
/-- a pair: the int n, then an int or None -/
def PairK (h : Heap) (v : Value) (n : Int) : Prop := ∃ (a : Addr) (o : Obj) (t : Tok) (y : Value) (c : Nat), v = .ref a ∧ h.get? a = some o ∧ o.cls = .type "tuple" ∧ o.data = .seq #[.int n t, y] c ∧ (y = .none ∨ ∃ i u, y = .int i u)
theorem firstsK {h : Heap} {r : Value → Int} : ∀ (vs : List Value), (∀ v ∈ vs, PairK h v (r v)) → ∃ fs : List Value, PySem.W.KatTups h vs fs ∧ fs.length = vs.length ∧ ∀ f ∈ fs, ∃ x t, f = Value.int x t
  | [], _ => ⟨[], PySem.W.KatTups.nil, rfl, fun _ hm => by simp at hm⟩
  | v :: vs, hp => by
    obtain ⟨fs, h1, h2, h3⟩ := firstsK vs fun u hm => hp u (List.mem_cons_of_mem _ hm)
    obtain ⟨a, o, t, y, c, e, ho, hc, hd, _⟩ := hp v List.mem_cons_self
    subst e
    refine ⟨.int _ t :: fs, PySem.W.KatTups.cons ho hc hd rfl h1, by rw [List.length_cons, List.length_cons, h2], fun f hm => ?_⟩
    rcases List.mem_cons.mp hm with rfl | hm
    · exact ⟨_, t, rfl⟩
    · exact h3 f hm
section
variable {prog : Program} {w : World} {A : Around} {E : Value → Shared → Prop} {s : Shared}
theorem eq_none {Q : Bool → Shared → Prop} (h : Q true s) : wpAny (model prog w) A (eqBool .none .none) Q E s := by
  unfold eqBool
  refine wpAny_holding ?_
  rw [if_pos (show ((Value.none == Value.none) = true) from rfl)]
  exact wpAny_bind (wpAny_rule (wpAny_pure h))
theorem kindK {vs : List Value} {r : Value → Int} (h2 : 2 ≤ vs.length) (x : ∀ v ∈ vs, PairK s.heap v (r v)) (one : ∀ u ∈ vs, ∀ v ∈ vs, r u = r v → u = v) (Q : SortKind → Shared → Prop)
    (h : ∀ κ, TS.Cmp prog w A s κ (pairsOf vs) r → Q κ s) : wpAny (model prog w) A (keyKind' vs.toArray) Q E s := by
  obtain ⟨fs, k, hl, hi⟩ := firstsK vs x
  refine PySem.W.kat_kind (T := Value.type "int") k (by omega) (fun f hf => ?_) rfl (h _ ?_)
  · obtain ⟨n, t, rfl⟩ := hi f hf
    exact PySem.W.Looks.of_pure rfl
  · intro p q hp hq Q' E' hQ
    rw [pairsOf_toList] at hp hq
    have mp := (mem_zip_self hp).2
    have mq := (mem_zip_self hq).2
    have xp := x _ mp
    have xq := x _ mq
    by_cases e : r p.1 = r q.1
    · have e2 := one _ mp _ mq e
      rw [decide_eq_false (by rw [e]; exact Int.lt_irrefl _)] at hQ
      rw [← e2]
      obtain ⟨a, o, t, y, c, e1, ho, hc, hd, hy⟩ := xp
      rw [e1]
      refine PySem.W.kat_lt ho hd ho hd ?_
      rw [decide_eq_false (Nat.lt_irrefl _)]
      show PySem.W.KatLex prog w A _ false Q' [(Value.int _ t, Value.int _ t), (y, y)] 0 s
      refine PySem.W.kat_cons (wpAny_eqBool_int ?_)
      rw [beq_self_eq_true]
      refine PySem.W.kat_yes (PySem.W.kat_cons ?_)
      rcases hy with rfl | ⟨i, u, rfl⟩
      · exact eq_none (PySem.W.kat_yes (PySem.W.kat_nil hQ))
      · refine wpAny_eqBool_int ?_
        rw [beq_self_eq_true]
        exact PySem.W.kat_yes (PySem.W.kat_nil hQ)
    · obtain ⟨a, o, t, y, c, e1, ho, hc, hd, hy⟩ := xp
      obtain ⟨a', o', t', y', c', e1', ho', hc', hd', hy'⟩ := xq
      rw [e1, e1'] 
      rw [e1, e1'] at hQ
      refine PySem.W.kat_lt ho hd ho' hd' ?_
      rw [e1, e1'] at e
      show PySem.W.KatLex prog w A _ _ Q' [(Value.int _ t, Value.int _ t'), (y, y')] 0 s
      refine PySem.W.kat_cons (wpAny_eqBool_int ?_)
      rw [beq_eq_false_iff_ne.mpr (by rw [e1, e1']; exact e)]
      refine PySem.W.kat_no (TS.oneLt_ints _ ?_)
      rw [e1, e1']
      exact hQ
end
/-- the int a pair begins with -/
def kInt (h : Heap) (v : Value) : Int := match v with
  | .ref a => (match h.get? a with
    | some o => (match o.data with
      | .seq xs _ => (match (xs : Array Value)[0]? with
        | some (Value.int n _) => n
        | _ => 0)
      | _ => 0)
    | none => 0)
  | _ => 0
theorem kInt_of {h : Heap} {a : Addr} {o : Obj} {n : Int} {t : Tok} {y : Value} {c : Nat} (e : h.get? a = some o) (d : o.data = .seq #[.int n t, y] c) : kInt h (.ref a) = n := by
  unfold kInt
  simp only [e, d]
  rfl
abbrev entK (e : Int × V) : Key × V := (Sum.inl e.1, e.2)
def rSortDK : List V → Hp → VK → Prop := fun vs H Q => ∃ (p a : Addr) (ks : List (Int × V)), vs = [.ref p] ∧ H p = some (L2.DX.itemsO p a) ∧ H a = some (.dK (ks.map entK)) ∧ ks.length < 64 ∧ (∀ e ∈ ks, e.2 = .non ∨ ∃ i, e.2 = .int i) ∧
  ∀ (H' : Hp) (l : Addr) (zs : List (Addr × Int × V)), (∀ b o, H b = some o → H' b = some o) → H l = none → (∀ z ∈ zs, H z.1 = none) → (zs.map (·.2)).Perm ks → H' l = some (.lst (zs.map fun z => V.ref z.1)) → (∀ z ∈ zs, H' z.1 = some (.tup [.int z.2.1, z.2.2])) → Q (.ref l) H'
section
variable {X : Cx}
theorem cr_sortedDK (hc : X.calm = true) (hu : X.A.units + 64 < cLine) : CallR X (.builtin "sorted") rSortDK := by
  intro pins s σ H xs us Q I r h
  obtain ⟨p, a, ks, rfl, hp, ha, h64, hv, q⟩ := h
  obtain rfl := Vals.ref1 r
  have view : s.heap.IsItemsView p a := (show ObjOk X.prog X.w H s.heap p (L2.DX.itemsO p a) from I.hok p _ hp).1
  obtain ⟨z, hd, vk, kv, dof⟩ := (show ObjOk X.prog X.w H s.heap a (.dK (ks.map entK)) from I.hok a _ ha)
  have nk : (vk.map (·.1)).Nodup := by obtain ⟨_, _, _, _, _, _, _, _, nd⟩ := dof; exact nd
  obtain ⟨es, ep, ⟨o, ho, hx, hdat⟩, hsz, hes⟩ := dof.raw
  have l1 : (ks.map entK).length = vk.length := Paired.length kv
  rw [List.length_map] at l1
  have hh : X.A.handled = none := I.ok.hd hc
  refine DT.sortedI (es := es) (ep := ep) hh view ⟨o, ho, hx, hdat⟩ (by rw [sizeLine_eq]; omega) fun h' tk as hk hlt hl hG => ?_
  have lak : as.length = ks.length := by omega
  have nd : as.Nodup := List.Pairwise.imp (fun h => Nat.ne_of_lt h) hG.rise
  have pr : ∀ (j : Nat) (b : Addr), as[j]? = some b → ∃ (e : Int × V) (t : Tok) (y : Value), ks[j]? = some e ∧ RelV e.2 y ∧ h'.get? b = some { cls := .type "tuple", data := .seq #[Value.int e.1 t, y] } := by
    intro j b hj
    obtain ⟨en, he, hg⟩ := hG.pairs j b hj
    obtain ⟨hjs, een⟩ := Array.getElem?_eq_some_iff.mp he
    have hjk : j < vk.length := by rw [← hsz]; exact hjs
    have hvj : vk[j]? = some vk[j] := List.getElem?_eq_getElem hjk
    obtain ⟨e0, he0, r1, r2⟩ := L2.DX.pget kv hvj
    rw [List.getElem?_map] at he0
    cases hkj : ks[j]? with
    | none => rw [hkj] at he0; exact nomatch (show (none : Option (Key × V)) = some e0 from he0)
    | some e =>
      rw [hkj] at he0
      have ee : entK e = e0 := Option.some.inj he0
      rw [← ee] at r1 r2
      obtain ⟨k1, k2⟩ := hes j hjs vk[j].1 vk[j].2 hvj
      rw [← r1] at k1
      obtain ⟨t, kt⟩ := (show RelV (kV (Sum.inl e.1)) es[j].key from relV_key (show keyIs (Sum.inl e.1) es[j].key = true from k1))
      refine ⟨e, t, es[j].val, rfl, by rw [k2]; exact r2, ?_⟩
      rw [hg, ← een, ← kt]
  have hob : (h'.push { cls := .type "list", data := .seq (as.map Value.ref).toArray }).get? h'.objs.size = some (seqObj "list" (as.map Value.ref).toArray 0) := Heap.get?_push_size _ rfl
  have kb : ∀ b o, s.heap.get? b = some o → (h'.push { cls := .type "list", data := .seq (as.map Value.ref).toArray }).get? b = some o := fun b o e => Heap.get?_push_of_some _ (hk b o e)
  have ne0 : ∀ b o, h'.get? b = some o → b ≠ h'.objs.size := fun b o e => Nat.ne_of_lt (Heap.lt_size e)
  generalize hh2 : h'.push { cls := .type "list", data := .seq (as.map Value.ref).toArray } = h2 at hob kb ⊢
  have ka : ∀ b o, h'.get? b = some o → h2.get? b = some o := fun b o e => by rw [← hh2]; exact Heap.get?_push_of_some _ e
  have at_ : ∀ v ∈ as.map Value.ref, ∃ (j : Nat) (b : Addr) (e : Int × V) (t : Tok) (y : Value), v = .ref b ∧ as[j]? = some b ∧ ks[j]? = some e ∧ RelV e.2 y ∧ h'.get? b = some { cls := .type "tuple", data := .seq #[Value.int e.1 t, y] } := by
    intro v hv'
    obtain ⟨b, hb, rfl⟩ := List.mem_map.mp hv'
    obtain ⟨j, hj⟩ := List.mem_iff_getElem?.mp hb
    obtain ⟨e, t, y, he, ry, hg⟩ := pr j b hj
    exact ⟨j, b, e, t, y, rfl, hj, he, ry, hg⟩
  have gm : ∀ b o, h'.get? b = some o → (TS.midHeap h2 h'.objs.size (as.map Value.ref)).get? b = some o := fun b o e => TS.midHeap_old (ne0 _ _ e) (ka _ _ e)
  refine wpAny_call_entry PyProof.Rows.slot_list_sort ⟨_, hob, rfl⟩ PyProof.Rows.entry_list_sort
    (SK.plain_sort (s := { s with heap := h2, toks := tk }) (r := fun v => kInt (TS.midHeap h2 h'.objs.size (as.map Value.ref)) v) hob (by rw [List.length_map]; omega) (fun h2' Qk hQk => ?_) fun ps out o1 o2 o3 => ⟨.none, rfl, ?_⟩) (PyProof.Rows.args_list_sort _)
  · refine kindK (s := { s with heap := TS.midHeap h2 h'.objs.size (as.map Value.ref), toks := tk }) (r := fun v => kInt (TS.midHeap h2 h'.objs.size (as.map Value.ref)) v) h2' (fun v hv' => ?_) (fun u hu' v hv' e => ?_) Qk hQk
    · obtain ⟨j, b, e, t, y, rfl, hj, he, ry, hg⟩ := at_ v hv'
      have hg' := gm _ _ hg
      rw [kInt_of hg' rfl]
      refine ⟨b, _, t, y, 0, rfl, hg', rfl, rfl, ?_⟩
      rcases hv e (List.mem_of_getElem? he) with w1 | ⟨i, w1⟩
      · rw [w1] at ry; exact .inl ry
      · rw [w1] at ry
        obtain ⟨u, ry⟩ := ry
        exact .inr ⟨i, u, ry⟩
    · obtain ⟨j, b, e1, t, y, rfl, hj, he, ry, hg⟩ := at_ u hu'
      obtain ⟨j2, b2, e2, t2, y2, rfl, hj2, he2, ry2, hg2⟩ := at_ v hv'
      have e : kInt (TS.midHeap h2 h'.objs.size (as.map Value.ref)) (.ref b) = kInt (TS.midHeap h2 h'.objs.size (as.map Value.ref)) (.ref b2) := e
      rw [kInt_of (gm _ _ hg) rfl, kInt_of (gm _ _ hg2) rfl] at e
      have kk : (ks.map entK).map (·.1) = vk.map (·.1) := KV.keys kv
      rw [← kk] at nk
      have hjl : j < ((ks.map entK).map (·.1)).length := by rw [List.length_map, List.length_map]; exact (List.getElem?_eq_some_iff.mp he).1
      have g1 : ((ks.map entK).map (·.1))[j]? = some (Sum.inl e1.1) := by rw [List.getElem?_map, List.getElem?_map, he]; rfl
      have g2 : ((ks.map entK).map (·.1))[j2]? = some (Sum.inl e2.1) := by rw [List.getElem?_map, List.getElem?_map, he2]; rfl
      have ej : j = j2 := (List.getElem?_inj hjl nk).mp (by rw [g1, g2, e])
      rw [ej, hj2] at hj
      rw [Option.some.inj hj]
  · show EP X pins σ Q (.ref h'.objs.size) { s with heap := sortedHeap h2 h'.objs.size (as.map Value.ref) out, toks := tk }
    obtain ⟨zs, pz, ez⟩ := perm_lift (fun z : Addr × Int × V => (Value.ref z.1, Value.ref z.1)) o2 (as.zip ks) (L2.DX.zip_self Value.ref as ks lak)
    have idx : ∀ z ∈ zs, ∃ j : Nat, as[j]? = some z.1 ∧ ks[j]? = some z.2 := by
      intro z' hz'
      obtain ⟨j, hj⟩ := List.mem_iff_getElem?.mp (pz.mem_iff.mp hz')
      exact ⟨j, List.getElem?_zip_eq_some.mp hj⟩
    have hout : out.toList = zs.map fun z => Value.ref z.1 := by
      rw [o1, ← ez, List.map_map]
      all_goals rfl
    have hperm : (zs.map (·.2)).Perm ks := by
      have e := pz.map (·.2)
      have m2 : (as.zip ks).map (·.2) = ks := List.map_snd_zip (by rw [lak]; exact Nat.le_refl _)
      rw [m2] at e
      exact e
    have kF : ∀ b o, b ≠ h'.objs.size → h2.get? b = some o → (sortedHeap h2 h'.objs.size (as.map Value.ref) out).get? b = some o := fun b o hb e => (PyProof.Rows.sortedHeap_old hb (Heap.lt_size e)).trans e
    have kS : ∀ b o, s.heap.get? b = some o → (sortedHeap h2 h'.objs.size (as.map Value.ref) out).get? b = some o := fun b o e => kF b o (ne0 _ _ (hk b o e)) (kb b o e)
    obtain ⟨eF, heF⟩ := PyProof.Rows.sortedHeap_at (vs := as.map Value.ref) (out := out) hob
    have I1 : L2.Inv X pins σ H { s with heap := sortedHeap h2 h'.objs.size (as.map Value.ref) out, toks := tk } := I.kept (t' := tk) kS
    have hn0 : H h'.objs.size = none := I.hok.fresh (Nat.le_of_lt hlt)
    have hlen : (zs.map fun z => V.ref z.1).length ≤ sizeLine := by
      have e := hperm.length_eq
      rw [List.length_map] at e
      rw [List.length_map, sizeLine_eq]
      omega
    have rv : Vals (zs.map fun z => V.ref z.1) out.toList := by
      rw [hout]
      exact L2.vals_maps (fun z : Addr × Int × V => V.ref z.1) (fun z => Value.ref z.1) zs fun _ _ => rfl
    have I2 : L2.Inv X pins σ (upd H h'.objs.size (.lst (zs.map fun z => V.ref z.1))) { s with heap := sortedHeap h2 h'.objs.size (as.map Value.ref) out, toks := tk } :=
      I1.take (h' := sortedHeap h2 h'.objs.size (as.map Value.ref) out) (t' := tk) (fun b ob _ e => e) (I.fpOk (Nat.le_of_lt hlt) hn0) ⟨hlen, out.toList, eF, rv, heF⟩
    obtain ⟨H2, I3, g, qt⟩ := L2.DX.takeT (P := fun b vs => ∃ (j : Nat) (e : Int × V), as[j]? = some b ∧ ks[j]? = some e ∧ vs = [.int e.1, e.2]) I as _ I2 nd fun b hb => by
      obtain ⟨j, hj⟩ := List.mem_iff_getElem?.mp hb
      obtain ⟨e, t, y, he, ry, hg⟩ := pr j b hj
      have hbl : s.heap.objs.size ≤ b := Nat.le_of_lt (hG.above b hb)
      refine ⟨hbl, ?_, [.int e.1, e.2], ⟨j, e, hj, he, rfl⟩, fun H3 => ⟨(by rw [sizeLine_eq]; show 2 ≤ 16777216; omega), [Value.int e.1 t, y], .cons ⟨t, rfl⟩ (.cons ry .nil), ⟨_, kF _ _ (ne0 _ _ hg) (ka _ _ hg), rfl, 0, rfl⟩⟩⟩
      rw [upd_ne (ne0 _ _ hg)]
      exact I.hok.fresh hbl
    have gr : ∀ b o, H b = some o → H2 b = some o := fun b o e => g b o (by rw [upd_ne (ne_of_none e hn0)]; exact e)
    refine ⟨.ref h'.objs.size, H2, I3, rfl, q H2 h'.objs.size zs gr hn0 (fun z' hz' => ?_) hperm (g _ _ upd_same) fun z' hz' => ?_⟩
    · obtain ⟨i, i1, i2⟩ := idx z' hz'
      exact I.hok.fresh (Nat.le_of_lt (hG.above _ (List.mem_of_getElem? i1)))
    · obtain ⟨i, i1, i2⟩ := idx z' hz'
      obtain ⟨vs, ⟨j, e, j1, j2, ev⟩, hH⟩ := qt z'.1 (List.mem_of_getElem? i1)
      have eij : i = j := (List.getElem?_inj (List.getElem?_eq_some_iff.mp i1).1 nd).mp (i1.trans j1.symm)
      subst eij
      have ee : e = z'.2 := Option.some.inj (j2.symm.trans i2)
      rw [ev, ee] at hH
      exact hH
theorem mt_itemsK : MtR X "dict.items" (fun x xs H Q => ∃ (a : Addr) (kvs : List (Key × V)), x = .ref a ∧ xs = [] ∧ H a = some (.dK kvs) ∧ ∀ p, H p = none → Q (.ref p) (upd H p (L2.DX.itemsO p a))) := by
  intro pins s σ H x xs v us Q I rx rxs h
  obtain ⟨a, kvs, rfl, rfl, ha, q⟩ := h
  cases rx
  cases rxs
  obtain ⟨z, hd, vk, kv, o, es, ep, ho, hx, hdat, _⟩ := (show ObjOk X.prog X.w H s.heap a (.dK kvs) from I.hok a _ ha)
  refine DT.callItems (es := es) (ep := ep) hd ⟨o, ho, hx, hdat⟩ ?_
  have hf : H s.heap.objs.size = none := I.hok.fresh (Nat.le_refl _)
  exact ⟨.ref s.heap.objs.size, upd H s.heap.objs.size (L2.DX.itemsO s.heap.objs.size a), I.laid (t' := s.toks) (fun b u e => Heap.get?_push_of_some _ e) (Nat.le_refl _) (L2.DX.itemsO_ok (Heap.get?_push_size _ rfl)), rfl, q _ hf⟩
end
theorem back_vals {F : Hp} : ∀ {kvs : List (Int × PyData)} {ys : List (Key × V)}, Paired (KvR F) kvs ys → (∀ kv ∈ kvs, kv.2 = .none ∨ ∃ i, kv.2 = .int i) → ∃ ks : List (Int × V), ys = ks.map entK ∧ (∀ e ∈ ks, e.2 = .non ∨ ∃ i, e.2 = .int i) ∧ ks.length = kvs.length ∧ Paired (fun (e : Int × V) (kv : Int × PyData) => e.1 = kv.1 ∧ Dq F e.2 kv.2) ks kvs
  | [], [], .nil, _ => ⟨[], rfl, fun e he => (by cases he), rfl, .nil⟩
  | kv :: kvs, y :: ys, .cons h t, hv => by
    obtain ⟨ks, e1, e2, e3, e4⟩ := back_vals t fun x hx => hv x (List.mem_cons_of_mem _ hx)
    refine ⟨(kv.1, y.2) :: ks, ?_, fun e he => ?_, by rw [List.length_cons, List.length_cons, e3], .cons ⟨rfl, h.2⟩ e4⟩
    · rw [List.map_cons, ← e1]
      congr 1
      exact Prod.ext h.1 rfl
    · rcases List.mem_cons.mp he with rfl | he
      · have q := h.2
        rcases hv kv List.mem_cons_self with w1 | ⟨i, w1⟩
        · rw [w1] at q; exact .inl q.none_inv
        · rw [w1] at q; exact .inr ⟨i, q.int_inv⟩
      · exact e2 e he
theorem perm_paired {α β : Type} {R : α → β → Prop} : ∀ {l m : List α}, l.Perm m → ∀ {k : List β}, Paired R m k → ∃ k' : List β, k'.Perm k ∧ Paired R l k' := by
  intro l m h
  induction h with
  | nil => intro k r; cases r; exact ⟨[], .nil, .nil⟩
  | cons x _ ih =>
    intro k r
    cases r with
    | cons h t =>
      obtain ⟨k', p1, p2⟩ := ih t
      exact ⟨_ :: k', p1.cons _, .cons h p2⟩
  | swap x y l =>
    intro k r
    cases r with
    | cons h t =>
      cases t with
      | cons h2 t2 => exact ⟨_, List.Perm.swap _ _ _, .cons h2 (.cons h t2)⟩
  | trans _ _ ih1 ih2 =>
    intro k r
    obtain ⟨k1, p1, r1⟩ := ih2 r
    obtain ⟨k2, p2, r2⟩ := ih1 r1
    exact ⟨k2, p2.trans p1, r2⟩
/-- F with the new pairs of H -/
def addP (F H : Hp) (l : Addr) (ts : List Addr) : Hp := fun p => match F p with
  | some o => some o
  | none => if p = l ∨ p ∈ ts then H p else none
theorem addP_l {F H : Hp} {l : Addr} {ts : List Addr} : Same F (addP F H l ts) := fun p o e => by unfold addP; rw [e]
theorem addP_h {F H : Hp} {l : Addr} {ts : List Addr} (h : Same F H) : Same (addP F H l ts) H := fun p o e => by
  unfold addP at e
  cases q : F p with
  | some u => rw [q] at e; exact (h p u q).trans e
  | none =>
    rw [q] at e
    simp only at e
    split at e
    · exact e
    · cases e
theorem addP_at {F H : Hp} {l p : Addr} {ts : List Addr} {o : HO} (hF : F p = none) (hp : p = l ∨ p ∈ ts) (e : H p = some o) : addP F H l ts p = some o := by
  unfold addP
  rw [hF]
  simp only
  rw [if_pos hp, e]
theorem pairs_dq {F : Hp} : ∀ {zs : List (Addr × Int × V)} {ys : List (Int × PyData)}, (∀ z ∈ zs, F z.1 = some (.tup [.int z.2.1, z.2.2])) → Paired (fun (e : Int × V) (kv : Int × PyData) => e.1 = kv.1 ∧ Dq F e.2 kv.2) (zs.map (·.2)) ys → DqAll F (zs.map fun z => V.ref z.1) (ys.map fun kv => .tuple [.int kv.1, kv.2])
  | [], _, _, r => by cases r; exact .nil
  | z :: zs, _, h, r => by
    cases r with
    | cons h1 t =>
      refine .cons (.tup (h z List.mem_cons_self) (.cons ?_ (.cons h1.2 .nil))) (pairs_dq (fun q hq => h q (List.mem_cons_of_mem _ hq)) t)
      rw [h1.1]; exact .int _
section
variable {X : Cx} {Γ : List Sl} {μ : List MObj} {Q : PyData → List MObj → Prop} {x : Str} {p p2 pos apos cpos : Pos} {i j k : Nat}
theorem fe_sortedItems (B : Bl X.mg) (hc : X.calm = true) (hr : Room k X.A) (hN : X.N[i]? = some x) (hv : Vis X.env.scope x) (hΓ : Γ[i]? = some (.ob j)) {kvs : List (Int × PyData)} (hμ : μ[j]? = some (.dct kvs)) (hl : kvs.length < 64) (hd : ∀ kv ∈ kvs, kv.2 = .none ∨ ∃ i, kv.2 = .int i)
    (h : ∀ ys : List (Int × PyData), ys.Perm kvs → Q (.list (ys.map fun kv => .tuple [.int kv.1, kv.2])) μ)
    (hdb : (x == ("__debug__" : Str)) = false := by decide) (hcd : (x == ("__classdict__" : Str)) = false := by decide) (hg : Gl X "sorted" := by rfl)
    (hbase : attributeBase (.Name x p2) "items" X.env (eval (.Name x p2) X.env) = eval (.Name x p2) X.env := by rfl) (hline : (apos.endLine == cpos.line) = true := by rfl)
    (hs2 : starEach [.Call (.Attribute (.Name x p2) "items" apos) [] [] cpos] X.env = (false, eval (.Call (.Attribute (.Name x p2) "items" apos) [] [] cpos) X.env) :: starEach [] X.env := by rfl) (hpp2 : (backTo pos (starEach [] X.env)).any (·.1) = false := by rfl) :
    FE X (.Call (.Name "sorted" p) [.Call (.Attribute (.Name x p2) "items" apos) [] [] cpos] [] pos) Γ μ Q := fun F H σ ps Q' en hp kk => by
  refine WE.of (pe_callB (cr_sortedDK hc hr.units) hg B.sorted (by decide +kernel) (pa_cons (pe_bm0 PySem.F.plainAttrs_dict PySem.F.slot_dict_items PySem.F.type_dict_items mt_itemsK (pe_var hN hv hdb hcd) hbase hline) pa_nil hs2) (by decide) (by decide) hs2 hpp2) ?_
  obtain ⟨q, e1, e2⟩ := en.ob hΓ
  obtain ⟨nF, ys, e3, e4⟩ := hp.obj j q _ e1 hμ
  obtain ⟨ks, rfl, k2, k3, k4⟩ := back_vals e4 hd
  refine ⟨.ref q, e2, ?_, q, _, rfl, rfl, e3, fun c nc => ?_⟩
  · exact .inr (.inr (.inl ⟨rfl, .inl ⟨_, e3⟩⟩))
  have g1 : Gr F H F (upd H c (L2.DX.itemsO c q)) := Gr.hid hp.same nc
  refine ⟨c, q, ks, rfl, upd_same, g1.hh _ _ e3, by rw [k3]; exact hl, k2, fun H2 l zs kp nl nz pm el ez => ?_⟩
  have s2 : Same F H2 := g1.fh.trans kp
  obtain ⟨ys, py, ry⟩ := perm_paired pm k4
  have free : ∀ a, (a = l ∨ a ∈ zs.map (·.1)) → (upd H c (L2.DX.itemsO c q)) a = none := fun a ha => by
    rcases ha with rfl | ha
    · exact nl
    · obtain ⟨z, hz, rfl⟩ := List.mem_map.mp ha
      exact nz z hz
  have freeF : ∀ a, (a = l ∨ a ∈ zs.map (·.1)) → F a = none := fun a ha => g1.fh.free (free a ha)
  have g2 : Gr F (upd H c (L2.DX.itemsO c q)) (addP F H2 l (zs.map (·.1))) H2 := ⟨addP_l, addP_h s2, kp, fun a h1 h2 => by
    unfold addP
    rw [h1]
    simp only
    rw [if_neg fun z => h2 (free a z)]⟩
  have tr : ∀ z ∈ zs, addP F H2 l (zs.map (·.1)) z.1 = some (.tup [.int z.2.1, z.2.2]) := fun z hz => addP_at (freeF _ (.inr (List.mem_map.mpr ⟨z, hz, rfl⟩))) (.inr (List.mem_map.mpr ⟨z, hz, rfl⟩)) (ez z hz)
  have ry2 : Paired (fun (e : Int × V) (kv : Int × PyData) => e.1 = kv.1 ∧ Dq (addP F H2 l (zs.map (·.1))) e.2 kv.2) (zs.map (·.2)) ys := paired_imp (fun a b h => ⟨h.1, h.2.up addP_l⟩) ry
  exact kk (.ref l) _ H2 _ μ ((hp.gr g1).gr g2) (g1.step.trans g2.step) (.lst (addP_at (freeF _ (.inl rfl)) (.inl rfl) el) (pairs_dq tr ry2)) (h ys py)
end
end K13

set_option maxRecDepth 100000
set_option maxHeartbeats 4000000
set_option autoImplicit false
/-! Large constants: expressions that are written data; statements behind a seal (so that nothing evaluates them by chance). -/
namespace K13
open PySem PySem.Spec PyProof.Rows L2
def constD : Nat → Expr → Option PyData
  | _, .Constant (.int i) _ _ => some (.int i)
  | _, .Constant (.bool b) _ _ => some (.bool b)
  | _, .UnaryOp .USub (.Constant (.int i) _ _) _ => some (.int (-i))
  | n + 1, .Tuple es _ _ => if es.length ≤ 1000 then (es.mapM (constD n)).map .tuple else none
  | n + 1, .List es _ => if es.length ≤ 1000 then (es.mapM (constD n)).map .list else none
  | _, _ => none
theorem star_const {n : Nat} {a : Expr} {d : PyData} {es : List Expr} {env : Env} (h : constD n a = some d) : starEach (a :: es) env = (false, eval a env) :: starEach es env := by
  cases a <;> first | rfl | (exfalso; cases n <;> simp [constD] at h)
section
variable {X : Cx} {Γ : List Sl} {μ : List MObj}
theorem mapM_some {α β : Type} {f : α → Option β} {a : α} {as : List α} {r : List β} (h : (a :: as).mapM f = some r) : ∃ x xs, f a = some x ∧ as.mapM f = some xs ∧ r = x :: xs := by
  rw [List.mapM_cons] at h
  cases e1 : f a with
  | none => rw [e1] at h; cases h
  | some x =>
    rw [e1] at h
    cases e2 : as.mapM f with
    | none => rw [e2] at h; cases h
    | some xs =>
      rw [e2] at h
      exact ⟨x, xs, rfl, rfl, (Option.some.inj h).symm⟩
theorem mapM_len {α β : Type} {f : α → Option β} : ∀ {as : List α} {r : List β}, as.mapM f = some r → r.length = as.length
  | [], r, h => by
    have : r = [] := (Option.some.inj h).symm
    rw [this]; rfl
  | a :: as, r, h => by
    obtain ⟨x, xs, _, h2, rfl⟩ := mapM_some h
    rw [List.length_cons, List.length_cons, mapM_len h2]
theorem fa_const {n : Nat} (ih : ∀ (e : Expr) (d : PyData) (Q : PyData → List MObj → Prop), constD n e = some d → Q d μ → FE X e Γ μ Q) : ∀ (es : List Expr) (ds : List PyData) (QA : List PyData → List MObj → Prop), es.mapM (constD n) = some ds → QA ds μ → FA X es Γ μ QA
  | [], ds, QA, h, q => by
    have : ds = [] := (Option.some.inj h).symm
    subst this
    exact fa_nil q
  | a :: es, ds, QA, h, q => by
    obtain ⟨x, xs, h1, h2, rfl⟩ := mapM_some h
    exact fa_cons (ih a x _ h1 (fa_const ih es xs _ h2 q)) (star_const h1)
theorem fe_constD : ∀ (n : Nat) (e : Expr) (d : PyData) (Q : PyData → List MObj → Prop), constD n e = some d → Q d μ → FE X e Γ μ Q := by
  intro n
  induction n with
  | zero =>
    intro e d Q h q
    unfold constD at h
    split at h
    all_goals first
      | (have e' := Option.some.inj h; subst e'; first | exact fe_int q | exact fe_bool q | exact fe_neg (fe_int ⟨_, rfl, q⟩))
      | cases h
      | skip
    all_goals (rename_i hh; cases hh)
  | succ n ih =>
    intro e d Q h q
    unfold constD at h
    split at h
    all_goals first
      | (have e' := Option.some.inj h; subst e'; first | exact fe_int q | exact fe_bool q | exact fe_neg (fe_int ⟨_, rfl, q⟩))
      | cases h
      | skip
    · rename_i hm
      cases hm
      split at h
      · rename_i es _ _ hl
        cases e2 : es.mapM (constD n) with
        | none => rw [e2] at h; cases h
        | some ds =>
          rw [e2] at h
          have e' : PyData.tuple ds = d := Option.some.inj h
          subst e'
          exact fe_tup (fa_const ih _ ds _ e2 ⟨by rw [mapM_len e2]; omega, q⟩)
      · cases h
    · rename_i hm
      cases hm
      split at h
      · rename_i es _ hl
        cases e2 : es.mapM (constD n) with
        | none => rw [e2] at h; cases h
        | some ds =>
          rw [e2] at h
          have e' : PyData.list ds = d := Option.some.inj h
          subst e'
          exact fe_lst (fa_const ih _ ds _ e2 ⟨by rw [mapM_len e2]; omega, q⟩)
      · cases h
end
/-- statements, sealed -/
structure FSo (X : Cx) (sts : List Stmt) (Γ : List Sl) (μ : List MObj) (D : DE) : Prop where
  run : FS X sts Γ μ D
section
variable {X : Cx} {Γ : List Sl} {μ : List MObj} {D : DE} {rest : List Stmt} {e : Expr} {pos : Pos}
/-- (a, b, ..) = a constant -/
theorem fso_unpackC {tg : Expr} {S : List Nat} {bb : GT} (hg : Tg X tg S bb) (n : Nat) {d : PyData} (hd : constD n e = some d) (h : bb d Γ fun Γ2 => FSo X rest Γ2 μ D) (hmono : ∀ (Φ Φ' : List Sl → Prop), (∀ G, Φ G → Φ' G) → bb d Γ Φ → bb d Γ Φ') (hs : swapsWithSole [tg] e pos.line X.env = pure false) (hw : swappedStores [tg] e X.env = pure none)
    (h1 : (assignEach [tg] X.env).map (·.2) = [assign tg X.env]) : FSo X (.Assign [tg] e pos :: rest) Γ μ D :=
  ⟨fs_asgT hg (fe_constD n e d _ hd (hmono _ _ (fun G hG => hG.run) h)) hs hw h1⟩
/-- x = a constant -/
theorem fso_setC {i : Nat} {x : Str} {p : Pos} (hN : X.N.Nodup) (hi : X.N[i]? = some x) (hx : Loc X.env.scope x) (n : Nat) {d : PyData} (hd : constD n e = some d) (h : FSo X rest (Γ.set i (.dat d)) μ D) (hs : swapsWith e (some (.Name x p)) pos.line X.env = pure false) (hf : X.fn x = true ∨ X.env.scope.names.lookup x = some .local) :
    FSo X (.Assign [.Name x p] e pos :: rest) Γ μ D := ⟨fs_set hN hi hx (fv_fe (fe_constD n e d _ hd h.run)) hs hf⟩
theorem fso_set {i : Nat} {x : Str} {p : Pos} (hN : X.N.Nodup) (hi : X.N[i]? = some x) (hx : Loc X.env.scope x) (h : FV X e Γ μ fun s m => FSo X rest (Γ.set i s) m D) (hs : swapsWith e (some (.Name x p)) pos.line X.env = pure false := by rfl)
    (hf : X.fn x = true ∨ X.env.scope.names.lookup x = some .local := by first | exact .inl rfl | exact .inr rfl) : FSo X (.Assign [.Name x p] e pos :: rest) Γ μ D := ⟨fs_set hN hi hx (fun F H σ ps Q' en hp k => h F H σ ps Q' en hp fun v F2 H2 new s μ2 a b c d q => k v F2 H2 new s μ2 a b c d q.run) hs hf⟩
theorem FA.imp {es : List Expr} {QA Q2 : List PyData → List MObj → Prop} (h : FA X es Γ μ QA) (f : ∀ d m, QA d m → Q2 d m) : FA X es Γ μ Q2 := fun F H σ ps Q' en hp k =>
  h F H σ ps Q' en hp fun v F2 H2 d μ2 a b c q => k v F2 H2 d μ2 a b c (f d μ2 q)
/-- f(x, a constant) -/
theorem fe_callC {g : GC} {j k n i : Nat} {x y : Str} {d d2 : PyData} {p py cpos : Pos} {Q : PyData → List MObj → Prop} (c : Has X.prog X.w X.K X.mg X.base x j (pureR g)) (hr : Room k X.A) (hN : X.N[i]? = some y) (hv : Vis X.env.scope y) (hΓ : Γ[i]? = some (.dat d)) (hd2 : constD n e = some d2) (h : g [d, d2] fun d => Q d μ) (hjk : j ≤ k := by decide) (hg : Gl X x := by rfl)
    (hpl : (backTo cpos (starEach [e] X.env)).any (·.1) = false := by rfl) (hdb : (x == ("__debug__" : Str)) = false := by decide) (hd : (y == ("__debug__" : Str)) = false := by decide) (hcd : (y == ("__classdict__" : Str)) = false := by decide) : FE X (.Call (.Name x p) [.Name y py, e] [] cpos) Γ μ Q :=
  fe_call c hr (fa_cons (fe_name hN hv hΓ (fa_cons (fe_constD n e d2 _ hd2 (fa_nil h)) (star_const hd2)) hd hcd) rfl) hjk hg hdb rfl hpl
end
end K13

set_option maxRecDepth 100000
set_option maxHeartbeats 4000000
set_option autoImplicit false
/-! Walks, part 1. -/
namespace K13
open PySem PySem.Spec PyProof.Rows L2
section
variable {P : Program} {w : World} {K : PySem.W.Frag} {mg : Str → Option Value} {base : Heap}
theorem sc_is_number : FnScope ["thing"] ["thing"] (defScope (topS 6)) := ⟨rfl, rfl, rfl, by decide +kernel, rfl, by decide +kernel, by decide +kernel⟩
def g_is_number : GC := fun ds Q => ∃ i : Int, ds = [.int i] ∧ Q (.bool true)
theorem h_is_number (G : Prog K mg) : Has P w K mg base "is_number" 1 (pureR g_is_number) := by
  refine has_pure G.d_is_number sc_is_number (fun ds Q h => ?_) (fun f cdv A outer s H E hr ds Q h => ?_) <;> obtain ⟨i, rfl, hq⟩ := h
  · rfl
  refine fs_ret ?_
  refine fe_and ?_
  refine fe_isi (Tn := "int") G.bl G.bl.int (by decide +kernel) ?_
  refine nm 0 ?_
  refine ⟨_, rfl, ?_⟩
  refine andT ?_
  refine fe_one ?_
  refine fe_not ?_
  refine fe_isi (Tn := "bool") G.bl G.bl.bool (by decide +kernel) ?_
  refine nm 0 ?_
  refine ⟨_, rfl, ?_⟩
  exact hq
theorem sc_is_count : FnScope ["thing"] ["thing"] (defScope (topS 7)) := ⟨rfl, rfl, rfl, by decide +kernel, rfl, by decide +kernel, by decide +kernel⟩
def g_is_count : GC := fun ds Q => ∃ i : Int, ds = [.int i] ∧ 0 ≤ i ∧ Q (.bool true)
theorem h_is_count (G : Prog K mg) : Has P w K mg base "is_count" 2 (pureR g_is_count) := by
  refine has_pure G.d_is_count sc_is_count (fun ds Q h => ?_) (fun f cdv A outer s H E hr ds Q h => ?_) <;> obtain ⟨i, rfl, hi, hq⟩ := h
  · rfl
  refine fs_ret ?_
  refine fe_and ?_
  refine fe_call (h_is_number G) hr ?_
  refine fa_cons ?_
  refine nm 0 ?_
  refine fa_nil ?_
  refine ⟨_, rfl, ?_⟩
  refine andT ?_
  refine fe_one ?_
  refine fe_ge ?_
  refine nm 0 ?_
  refine fe_int ?_
  have e : decide ((0 : Int) ≤ i) = true := decide_eq_true hi
  show Q (.bool (decide ((0 : Int) ≤ i)))
  rw [e]; exact hq
theorem sc_is_below : FnScope ["thing", "many"] ["thing", "many"] (defScope (topS 8)) := ⟨rfl, rfl, rfl, by decide +kernel, rfl, by decide +kernel, by decide +kernel⟩
def g_is_below : GC := fun ds Q => ∃ i n : Int, ds = [.int i, .int n] ∧ 0 ≤ i ∧ i < n ∧ Q (.bool true)
theorem h_is_below (G : Prog K mg) : Has P w K mg base "is_below" 3 (pureR g_is_below) := by
  refine has_pure G.d_is_below sc_is_below (fun ds Q h => ?_) (fun f cdv A outer s H E hr ds Q h => ?_) <;> obtain ⟨i, n, rfl, hi, hn, hq⟩ := h
  · rfl
  refine fs_ret ?_
  refine fe_and ?_
  refine fe_call (h_is_count G) hr ?_
  refine fa_cons ?_
  refine nm 0 ?_
  refine fa_nil ?_
  refine ⟨_, rfl, hi, ?_⟩
  refine andT ?_
  refine fe_one ?_
  refine fe_lt ?_
  refine nm 0 ?_
  refine nm 1 ?_
  show Q (.bool (decide (i < n)))
  rw [decide_eq_true hn]; exact hq
theorem sc_is_tuple_of : FnScope ["thing", "size"] ["thing", "size"] (defScope (topS 9)) := ⟨rfl, rfl, rfl, by decide +kernel, rfl, by decide +kernel, by decide +kernel⟩
def g_is_tuple_of : GC := fun ds Q => ∃ (xs : List PyData) (n : Int), ds = [.tuple xs, .int n] ∧ (xs.length : Int) = n ∧ Q (.bool true)
theorem h_is_tuple_of (G : Prog K mg) : Has P w K mg base "is_tuple_of" 1 (pureR g_is_tuple_of) := by
  refine has_pure G.d_is_tuple_of sc_is_tuple_of (fun ds Q h => ?_) (fun f cdv A outer s H E hr ds Q h => ?_) <;> obtain ⟨xs, n, rfl, hi, hq⟩ := h
  · rfl
  refine fs_ret ?_
  refine fe_and ?_
  refine fe_isi (Tn := "tuple") G.bl G.bl.tuple (by decide +kernel) ?_
  refine nm 0 ?_
  refine ⟨_, rfl, ?_⟩
  refine andT ?_
  refine fe_one ?_
  refine fe_eq hr ?_
  refine fe_len G.bl ?_
  refine nm 0 ?_
  refine nm 1 ?_
  show Q (.bool (decide ((xs.length : Int) = n)))
  rw [decide_eq_true hi]; exact hq
theorem sc_put_at : FnScope ["row", "place", "bit"] ["row", "place", "bit"] (defScope (topS 10)) := ⟨rfl, rfl, rfl, by decide +kernel, rfl, by decide +kernel, by decide +kernel⟩
def g_put_at : GC := fun ds Q => ∃ (xs : List PyData) (k : Int) (d : PyData), ds = [.tuple xs, .int k, d] ∧ 0 ≤ k ∧ k < (xs.length : Int) ∧ xs.length ≤ 1000 ∧ Q (.tuple (xs.set k.toNat d))
theorem h_put_at (G : Prog K mg) : Has P w K mg base "put_at" 1 (pureR g_put_at) := by
  refine has_pure G.d_put_at sc_put_at (fun ds Q h => ?_) (fun f cdv A outer s H E hr ds Q h => ?_) <;> obtain ⟨xs, k, d, rfl, h0, h1, hl, hq⟩ := h
  · rfl
  have c1 := cut_front (ds := xs) h0
  have c2 := cut_back (ds := xs) (k := k + 1) (by omega)
  have t1 : (k + 1).toNat = k.toNat + 1 := by omega
  rw [t1] at c2
  refine fs_ret ?_
  refine fe_add ?_
  refine fe_add ?_
  refine fe_slice ?_
  refine nm 0 ?_
  refine nm 1 ?_
  refine ⟨_, rfl, ?_⟩
  refine fe_tup ?_
  refine fa_cons ?_
  refine nm 2 ?_
  refine fa_nil ?_
  refine ⟨Nat.le_of_ble_eq_true rfl, ?_⟩
  refine ⟨by rw [c1, List.length_take]; simp; omega, ?_⟩
  refine fe_slice ?_
  refine nm 0 ?_
  refine fe_add ?_
  refine nm 1 ?_
  refine fe_int ?_
  refine ⟨_, rfl, ?_⟩
  refine ⟨by rw [c1, c2]; simp; omega, ?_⟩
  show Q (.tuple (cutD xs none (some k) ++ [d] ++ cutD xs (some (k + 1)) none))
  rw [c1, c2, set_cut (by omega)]
  exact hq
theorem sc_cut_height : FnScope ["begin", "end", "height"] ["begin", "end", "height"] (defScope (topS 24)) := ⟨rfl, rfl, rfl, by decide +kernel, rfl, by decide +kernel, by decide +kernel⟩
def g_cut_height : GC := fun ds Q => ∃ a b h : Int, ds = [.int a, .int b, .int h] ∧ Q (.int (cutH a b h))
theorem h_cut_height (G : Prog K mg) : Has P w K mg base "cut_height" 1 (pureR g_cut_height) := by
  refine has_pure G.d_cut_height sc_cut_height (fun ds Q h => ?_) (fun f cdv A outer s H E hr ds Q h => ?_) <;> obtain ⟨a, b, h, rfl, hq⟩ := h
  · rfl
  refine fs_ret ?_
  refine fe_max2 G.bl rfl hr ?_
  refine fe_min2 G.bl rfl hr ?_
  refine nm 0 ?_
  refine nm 1 ?_
  refine fe_min2 G.bl rfl hr ?_
  refine fe_max2 G.bl rfl hr ?_
  refine nm 0 ?_
  refine nm 1 ?_
  refine nm 2 ?_
  exact hq
end
end K13

set_option maxRecDepth 100000
set_option maxHeartbeats 4000000
set_option autoImplicit false
/-! Walks, part 2. -/
namespace K13
open PySem PySem.Spec PyProof.Rows L2
theorem far_abs (a b : Int) : decide ((1 : Int) < (if a - b < 0 then -(a - b) else a - b)) = !near1 a b := by
  cases h : near1 a b with
  | true =>
    have := near1_iff.mp h
    show _ = false
    rw [decide_eq_false_iff_not]
    split <;> omega
  | false =>
    have : ¬ (a - b ≤ 1 ∧ b - a ≤ 1) := fun z => by rw [near1_iff.mpr z] at h; cases h
    show _ = true
    rw [decide_eq_true_iff]
    split <;> omega
def inR (n : Nat) (bs : List Beam) : Prop := ∀ b ∈ bs, 0 ≤ b.1 ∧ b.1 < (n : Int) ∧ 0 ≤ b.2 ∧ b.2 < (n : Int)
theorem FrOk.inR {n : Nat} {bs : List Beam} (F : FrOk n bs) : inR n bs := fun b hb => by
  obtain ⟨a, b, c, d, e⟩ := F.ends b hb
  exact ⟨a, b, c, d⟩
theorem FrOk.len {n : Nat} {bs : List Beam} (F : FrOk n bs) : bs.length < 1000 := Nat.lt_trans F.few (by decide)
theorem Stand.few {n : Nat} {bs : List Beam} {hs : List Int} (S : Stand n bs hs) (F : FrOk n bs) : hs.length < 1000 := by
  rw [S.len]; exact Nat.lt_of_le_of_lt F.hi (by decide)
theorem Stand.cracks {n : Nat} {bs : List Beam} {hs : List Int} (S : Stand n bs hs) : (bs.filter fun b => !near1 (at0 hs b.1) (at0 hs b.2)) = [] := by
  rw [List.filter_eq_nil_iff]
  intro b hb
  rw [near1_iff.mpr (S.near b hb)]
  decide
section
variable {P : Program} {w : World} {K : PySem.W.Frag} {mg : Str → Option Value} {base : Heap}
theorem sc_cracks_in : FnScope ["beams", "heights", "beam"] ["beams", "heights"] (defScope (topS 12)) := ⟨rfl, rfl, rfl, by decide +kernel, rfl, by decide +kernel, by decide +kernel⟩
def g_cracks_in : GC := fun ds Q => ∃ (bs : List Beam) (hs : List Int), ds = [bsD bs, sD hs] ∧ inR hs.length bs ∧ bs.length < 1000 ∧ Q (bsD (bs.filter fun b => !near1 (at0 hs b.1) (at0 hs b.2)))
theorem h_cracks_in (G : Prog K mg) : Has P w K mg base "cracks_in" 1 (pureR g_cracks_in) := by
  refine has_pure G.d_cracks_in sc_cracks_in (fun ds Q h => ?_) (fun f cdv A outer s H E hr ds Q h => ?_) <;> obtain ⟨bs, hs, rfl, hi, hl, hq⟩ := h
  · rfl
  refine fs_ret ?_
  refine fe_tuple G.bl (fe_fn (lcN 2 pD (fun b => !near1 (at0 hs b.1) (at0 hs b.2)) pD sc_cracks_in.nd (by show blkC ["beams", "heights", "beam"] (defScope (topS 12)) _ _ = true; decide +kernel) (fi_tup ?_)))
  refine nm 0 ?_
  refine ⟨_, rfl, bs, rfl, Nat.lt_trans hl (by decide), fun b hb s H C cl fp => ?_, hq⟩
  obtain ⟨r1, r2, r3, r4⟩ := hi b hb
  show FB _ _ _ _ _
  refine fb_gt ?_
  refine fe_abs G.bl ?_
  refine fe_sub ?_
  refine fe_ix ?_
  refine nm 1 ?_
  refine fe_ix ?_
  refine nm 2 ?_
  refine fe_int ?_
  refine ⟨_, rfl, ?_⟩
  refine ⟨_, at_ints ⟨r1, r2⟩, ?_⟩
  refine fe_ix ?_
  refine nm 1 ?_
  refine fe_ix ?_
  refine nm 2 ?_
  refine fe_int ?_
  refine ⟨_, rfl, ?_⟩
  refine ⟨_, at_ints ⟨r3, r4⟩, ?_⟩
  refine fe_int ?_
  refine ⟨rfl, far_abs _ _, fun _ s H C cl fp => ?_⟩
  refine nm 2 ?_
  exact ⟨rfl, rfl⟩
theorem sc_tupled : FnScope ["thing", "part"] ["thing"] (defScope (topS 5)) := ⟨rfl, rfl, rfl, by decide +kernel, rfl, by decide +kernel, by decide +kernel⟩
def g_tupled (n : Nat) : GC := fun ds Q => ∃ d e, ds = [d] ∧ okD n d = true ∧ toT n d = e ∧ Q e
theorem h_tupled (G : Prog K mg) : ∀ n, Has P w K mg base "tupled" (n + 1) (pureR (g_tupled n))
  | 0 => by
    refine has_pure G.d_tupled sc_tupled (fun ds Q h => ?_) (fun f cdv A outer s H E hr ds Q h => ?_) <;> obtain ⟨d, _, rfl, ho, rfl, hq⟩ := h
    · rfl
    refine fs_ret ?_
    refine fe_if (fb_val ?_)
    cases d with
    | int i =>
      refine fe_isi2 (Tn := "list") (Un := "tuple") G.bl G.bl.list (by decide +kernel) G.bl.tuple (by decide +kernel) ?_
      refine nm 0 ?_
      refine ⟨_, _, rfl, rfl, ?_⟩
      refine andF rfl ?_
      refine nm 0 ?_
      exact hq
    | bool i =>
      refine fe_isi2 (Tn := "list") (Un := "tuple") G.bl G.bl.list (by decide +kernel) G.bl.tuple (by decide +kernel) ?_
      refine nm 0 ?_
      refine ⟨_, _, rfl, rfl, ?_⟩
      refine andF rfl ?_
      refine nm 0 ?_
      exact hq
    | none =>
      refine fe_isi2 (Tn := "list") (Un := "tuple") G.bl G.bl.list (by decide +kernel) G.bl.tuple (by decide +kernel) ?_
      refine nm 0 ?_
      refine ⟨_, _, rfl, rfl, ?_⟩
      refine andF rfl ?_
      refine nm 0 ?_
      exact hq
    | _ => cases ho
  | n + 1 => by
    have ih := h_tupled G n
    refine has_pure G.d_tupled sc_tupled (fun ds Q h => ?_) (fun f cdv A outer s H E hr ds Q h => ?_) <;> obtain ⟨d, _, rfl, ho, rfl, hq⟩ := h
    · rfl
    refine fs_ret ?_
    refine fe_if (fb_val ?_)
    cases d with
    | int i =>
      refine fe_isi2 (Tn := "list") (Un := "tuple") G.bl G.bl.list (by decide +kernel) G.bl.tuple (by decide +kernel) ?_
      refine nm 0 ?_
      refine ⟨_, _, rfl, rfl, ?_⟩
      refine andF rfl ?_
      refine nm 0 ?_
      exact hq
    | bool i =>
      refine fe_isi2 (Tn := "list") (Un := "tuple") G.bl G.bl.list (by decide +kernel) G.bl.tuple (by decide +kernel) ?_
      refine nm 0 ?_
      refine ⟨_, _, rfl, rfl, ?_⟩
      refine andF rfl ?_
      refine nm 0 ?_
      exact hq
    | none =>
      refine fe_isi2 (Tn := "list") (Un := "tuple") G.bl G.bl.list (by decide +kernel) G.bl.tuple (by decide +kernel) ?_
      refine nm 0 ?_
      refine ⟨_, _, rfl, rfl, ?_⟩
      refine andF rfl ?_
      refine nm 0 ?_
      exact hq
    | list ds =>
      rw [okD, Bool.and_eq_true, decide_eq_true_eq, List.all_eq_true] at ho
      refine fe_isi2 (Tn := "list") (Un := "tuple") G.bl G.bl.list (by decide +kernel) G.bl.tuple (by decide +kernel) ?_
      refine nm 0 ?_
      refine ⟨_, _, rfl, rfl, ?_⟩
      refine andV rfl ?_
      refine fe_tuple G.bl (fe_fn (lcN1 1 id (toT n) sc_tupled.nd (by show blkC ["thing", "part"] (defScope (topS 5)) _ _ = true; decide +kernel) (fi_lst ?_)))
      refine nm 0 ?_
      refine ⟨ds, rfl, ds, (List.map_id _).symm, Nat.lt_trans ho.1 (by decide), fun d hd s H C cl fp => ?_, hq⟩
      refine fe_call ih hr ?_ (Nat.le_refl _)
      refine fa_cons ?_
      refine nm 1 ?_
      refine fa_nil ?_
      exact ⟨d, _, rfl, ho.2 d hd, rfl, rfl, rfl⟩
    | tuple ds =>
      rw [okD, Bool.and_eq_true, decide_eq_true_eq, List.all_eq_true] at ho
      refine fe_isi2 (Tn := "list") (Un := "tuple") G.bl G.bl.list (by decide +kernel) G.bl.tuple (by decide +kernel) ?_
      refine nm 0 ?_
      refine ⟨_, _, rfl, rfl, ?_⟩
      refine andV rfl ?_
      refine fe_tuple G.bl (fe_fn (lcN1 1 id (toT n) sc_tupled.nd (by show blkC ["thing", "part"] (defScope (topS 5)) _ _ = true; decide +kernel) (fi_tup ?_)))
      refine nm 0 ?_
      refine ⟨ds, rfl, ds, (List.map_id _).symm, Nat.lt_trans ho.1 (by decide), fun d hd s H C cl fp => ?_, hq⟩
      refine fe_call ih hr ?_ (Nat.le_refl _)
      refine fa_cons ?_
      refine nm 1 ?_
      refine fa_nil ?_
      exact ⟨d, _, rfl, ho.2 d hd, rfl, rfl, rfl⟩
    | _ => cases ho
end
end K13

set_option maxRecDepth 100000
set_option maxHeartbeats 4000000
set_option autoImplicit false
/-! Walks, part 3: is_plan. -/
namespace K13
open PySem PySem.Spec PyProof.Rows L2
theorem eqv_empty : PyData.eqv (bsD []) (.tuple []) = true := eqv_bsD [] []
theorem map_get {α β : Type} {f : α → β} {l : List α} {i : Nat} {d : β} (h : (l.map f)[i]? = some d) : ∃ x, l[i]? = some x ∧ d = f x := by
  rw [List.getElem?_map] at h
  cases q : l[i]? with
  | none => rw [q] at h; cases h
  | some x => rw [q] at h; exact ⟨x, rfl, (Option.some.inj h).symm⟩
theorem take_one {α : Type} {l : List α} {i : Nat} {x : α} (h : l[i]? = some x) : l.take (i + 1) = l.take i ++ [x] := by rw [List.take_add_one, h]; rfl
theorem flat_ints : ∀ hs : List Int, flatAll (hs.map PyData.int) = true
  | [] => rfl
  | h :: hs => by rw [List.map_cons, flatAll, flat_ints hs]; rfl
theorem flat_sD (hs : List Int) : flat (sD hs) = true := flat_ints hs
theorem stands_snoc : ∀ (p : List Deed) (hs : List Int) (d : Deed), stands hs (p ++ [d]) = stands hs p ++ [put0 (fin hs p) d.1 d.2]
  | [], hs, d => rfl
  | e :: p, hs, d => by
    show hs :: stands (put0 hs e.1 e.2) (p ++ [d]) = hs :: (stands (put0 hs e.1 e.2) p ++ [_])
    rw [stands_snoc p]; rfl
theorem stands_last : ∀ (p : List Deed) (hs : List Int), (stands hs p).getLast? = some (fin hs p)
  | [], hs => rfl
  | e :: p, hs => by
    show (hs :: stands (put0 hs e.1 e.2) p).getLast? = some (fin (put0 hs e.1 e.2) p)
    rw [List.getLast?_cons, stands_last p]; rfl
theorem stands_length : ∀ (p : List Deed) (hs : List Int), (stands hs p).length = p.length + 1
  | [], hs => rfl
  | e :: p, hs => by
    show (stands (put0 hs e.1 e.2) p).length + 1 = p.length + 1 + 1
    rw [stands_length p]
theorem stands_at {p : List Deed} {hs : List Int} : L2.atI ((stands hs p).map sD) (-1) = some (sD (fin hs p)) := by
  have h := stands_last p hs
  obtain ⟨l, e⟩ := List.getLast?_eq_some_iff.mp h
  rw [e, List.map_append]
  exact L2.atI_last _ _
theorem runs_split {bs : List Beam} {p q : List Deed} {hs : List Int} {x : Deed} (h : runs bs hs (p ++ x :: q) = true) : runs bs hs p = true ∧ stepB bs (fin hs p) x = true := by
  rw [runs_append, Bool.and_eq_true, runs, Bool.and_eq_true] at h
  exact ⟨h.1, h.2.1⟩
theorem runs_at {bs : List Beam} {p : List Deed} {hs : List Int} {x : Deed} {i : Nat} (h : runs bs hs p = true) (hx : p[i]? = some x) : runs bs hs (p.take i) = true ∧ stepB bs (fin hs (p.take i)) x = true := by
  have e : p = p.take i ++ x :: p.drop (i + 1) := by
    have hi := (List.getElem?_eq_some_iff.mp hx).1
    have hx2 := (List.getElem?_eq_some_iff.mp hx).2
    conv => lhs; rw [← List.take_append_drop i p]
    rw [List.drop_eq_getElem_cons hi, hx2]
  rw [e] at h
  have := runs_split h
  exact this
theorem fin_snoc (hs : List Int) (p : List Deed) (x : Deed) : fin hs (p ++ [x]) = put0 (fin hs p) x.1 x.2 := by rw [fin_append]; rfl
section
variable {P : Program} {w : World} {K : PySem.W.Frag} {mg : Str → Option Value} {base : Heap}
theorem sc_sure_stand : FnScope ["own", "stand", "heights", "cracked"] ["own", "stand"] (defScope (topS 13)) := ⟨rfl, rfl, rfl, by decide +kernel, rfl, by decide +kernel, by decide +kernel⟩
def g_sure_stand : GC := fun ds Q => ∃ (n : Nat) (bs : List Beam) (hs : List Int) (st : PyData), ds = [fD n bs, st] ∧ okD 3 st = true ∧ toT 3 st = sD hs ∧ FrOk n bs ∧ Stand n bs hs ∧ Q (sD hs)
theorem h_sure_stand (G : Prog K mg) : Has P w K mg base "sure_stand" 5 (pureR g_sure_stand) := by
  refine has_pure G.d_sure_stand sc_sure_stand (fun ds Q h => ?_) (fun f cdv A outer s H E hr ds Q h => ?_) <;> obtain ⟨n, bs, hs, st, rfl, ho, ht, Fr, S, hq⟩ := h
  · rfl
  refine fs_set (i := 2) sc_sure_stand.nd rfl (by first | exact .inl rfl | exact .inr rfl) (fv_fe ?_)
  refine fe_call (h_tupled G 3) hr ?_
  refine fa_cons ?_
  refine nm 1 ?_
  refine fa_nil ?_
  refine ⟨_, _, rfl, ho, ht, ?_⟩
  refine fs_set (i := 3) sc_sure_stand.nd rfl (by first | exact .inl rfl | exact .inr rfl) (fv_fe ?_)
  refine fe_call (h_cracks_in G) hr ?_
  refine fa_cons ?_
  refine fe_ix ?_
  refine nm 0 ?_
  refine fe_int ?_
  refine ⟨_, rfl, ?_⟩
  refine fa_cons ?_
  refine nm 2 ?_
  refine fa_nil ?_
  refine ⟨bs, hs, rfl, by rw [S.len]; exact Fr.inR, Fr.len, ?_⟩
  rw [S.cracks]
  refine fs_if ?_
  refine fb_ne hr ?_
  refine nm 3 ?_
  refine fe_tup ?_
  refine fa_nil ?_
  refine ⟨Nat.le_of_ble_eq_true rfl, ?_⟩
  refine ⟨min32 (depth_bsD _) (by decide), ?_⟩
  refine andF (by rw [eqv_empty]; rfl) ?_
  refine fs_nil (fs_ret ?_)
  refine nm 2 ?_
  exact hq
theorem sc_sure_stands : FnScope ["frame", "one", "other", "own", "near"] ["frame", "one", "other"] (defScope (topS 14)) := ⟨rfl, rfl, rfl, by decide +kernel, rfl, by decide +kernel, by decide +kernel⟩
def g_sure_stands : GC := fun ds Q => ∃ (n : Nat) (bs : List Beam) (fr : PyData) (hs : List Int) (st : PyData) (hs2 : List Int) (st2 : PyData), ds = [fr, st, st2] ∧ okD 3 fr = true ∧ toT 3 fr = fD n bs ∧ okD 3 st = true ∧ toT 3 st = sD hs ∧ okD 3 st2 = true ∧ toT 3 st2 = sD hs2 ∧ FrOk n bs ∧ Stand n bs hs ∧ Stand n bs hs2 ∧ Q (.tuple [sD hs, sD hs2])
theorem h_sure_stands (G : Prog K mg) : Has P w K mg base "sure_stands" 6 (pureR g_sure_stands) := by
  refine has_pure G.d_sure_stands sc_sure_stands (fun ds Q h => ?_) (fun f cdv A outer s H E hr ds Q h => ?_) <;> obtain ⟨n, bs, fr, hs, st, hs2, st2, rfl, ho0, ht0, ho, ht, ho2, ht2, Fr, S, S2, hq⟩ := h
  · rfl
  refine fs_set (i := 3) sc_sure_stands.nd rfl (by first | exact .inl rfl | exact .inr rfl) (fv_fe ?_)
  refine fe_call (h_tupled G 3) hr ?_
  refine fa_cons ?_
  refine nm 0 ?_
  refine fa_nil ?_
  refine ⟨_, _, rfl, ho0, ht0, ?_⟩
  refine fs_set (i := 4) sc_sure_stands.nd rfl (by first | exact .inl rfl | exact .inr rfl) (fv_fe ?_)
  refine fe_call (h_sure_stand G) hr ?_
  refine fa_cons ?_
  refine nm 3 ?_
  refine fa_cons ?_
  refine nm 1 ?_
  refine fa_nil ?_
  refine ⟨n, bs, hs, _, rfl, ho, ht, Fr, S, ?_⟩
  refine fs_ret ?_
  refine fe_tup ?_
  refine fa_cons ?_
  refine nm 4 ?_
  refine fa_cons ?_
  refine fe_call (h_sure_stand G) hr ?_
  refine fa_cons ?_
  refine nm 3 ?_
  refine fa_cons ?_
  refine nm 2 ?_
  refine fa_nil ?_
  refine ⟨n, bs, hs2, _, rfl, ho2, ht2, Fr, S2, ?_⟩
  refine fa_nil ?_
  refine ⟨Nat.le_of_ble_eq_true rfl, ?_⟩
  exact hq
theorem sc_is_deed : FnScope ["frame", "thing"] ["frame", "thing"] (defScope (topS 16)) := ⟨rfl, rfl, rfl, by decide +kernel, rfl, by decide +kernel, by decide +kernel⟩
def g_is_deed : GC := fun ds Q => ∃ (n : Nat) (bs : List Beam) (d : Deed), ds = [fD n bs, pD d] ∧ 0 ≤ d.1 ∧ d.1 < (n : Int) ∧ Q (.bool true)
theorem h_is_deed (G : Prog K mg) : Has P w K mg base "is_deed" 4 (pureR g_is_deed) := by
  refine has_pure G.d_is_deed sc_is_deed (fun ds Q h => ?_) (fun f cdv A outer s H E hr ds Q h => ?_) <;> obtain ⟨n, bs, d, rfl, h1, h2, hq⟩ := h
  · rfl
  refine fs_ret ?_
  refine fe_and ?_
  refine fe_call (h_is_tuple_of G) hr ?_
  refine fa_cons ?_
  refine nm 1 ?_
  refine fa_cons ?_
  refine fe_int ?_
  refine fa_nil ?_
  refine ⟨_, _, rfl, rfl, ?_⟩
  refine andT ?_
  refine fe_and ?_
  refine fe_call (h_is_below G) hr ?_
  refine fa_cons ?_
  refine fe_ix ?_
  refine nm 1 ?_
  refine fe_int ?_
  refine ⟨_, rfl, ?_⟩
  refine fa_cons ?_
  refine fe_ix ?_
  refine nm 0 ?_
  refine fe_int ?_
  refine ⟨_, rfl, ?_⟩
  refine fa_nil ?_
  refine ⟨_, _, rfl, h1, h2, ?_⟩
  refine andT ?_
  refine fe_one ?_
  refine fe_call (h_is_number G) hr ?_
  refine fa_cons ?_
  refine fe_ix ?_
  refine nm 1 ?_
  refine fe_int ?_
  refine ⟨_, rfl, ?_⟩
  refine fa_nil ?_
  refine ⟨_, rfl, ?_⟩
  exact hq
theorem sc_is_doable : FnScope ["own", "heights", "deed", "jack", "height"] ["own", "heights", "deed"] (defScope (topS 17)) := ⟨rfl, rfl, rfl, by decide +kernel, rfl, by decide +kernel, by decide +kernel⟩
def g_is_doable : GC := fun ds Q => ∃ (n : Nat) (bs : List Beam) (hs : List Int) (d : Deed), ds = [fD n bs, sD hs, pD d] ∧ FrOk n bs ∧ Stand n bs hs ∧ stepB bs hs d = true ∧ Q (.bool true)
theorem h_is_doable (G : Prog K mg) : Has P w K mg base "is_doable" 2 (pureR g_is_doable) := by
  refine has_pure G.d_is_doable sc_is_doable (fun ds Q h => ?_) (fun f cdv A outer s H E hr ds Q h => ?_) <;> obtain ⟨n, bs, hs, d, rfl, Fr, S, st, hq⟩ := h
  · rfl
  obtain ⟨k1, k2, k3⟩ := stepB_iff.mp st
  have k1' := k1
  rw [S.len] at k1'
  have S2 := stand_put Fr S k1' k3
  refine fs_asgT (tg_tup rfl (tgs_cons (tg_name (i := 3) sc_is_doable.nd rfl (by first | exact .inl rfl | exact .inr rfl) (.inl rfl)) (tgs_cons (tg_name (i := 4) sc_is_doable.nd rfl (by first | exact .inl rfl | exact .inr rfl) (.inl rfl)) tgs_nil))) ?_
  refine nm 2 ?_
  refine ⟨rfl, rfl, ?_⟩
  refine fs_ret ?_
  refine fe_and ?_
  refine fe_ne hr ?_
  refine fe_ix ?_
  refine nm 1 ?_
  refine nm 3 ?_
  refine ⟨_, at_ints k1, ?_⟩
  refine nm 4 ?_
  refine andV (by rw [decide_eq_false (Ne.symm k2)]; rfl) ?_
  refine fe_one ?_
  refine fe_eq hr ?_
  refine fe_call (h_cracks_in G) hr ?_
  refine fa_cons ?_
  refine fe_ix ?_
  refine nm 0 ?_
  refine fe_int ?_
  refine ⟨_, rfl, ?_⟩
  refine fa_cons ?_
  refine fe_call (h_put_at G) hr ?_
  refine fa_cons ?_
  refine nm 1 ?_
  refine fa_cons ?_
  refine nm 3 ?_
  refine fa_cons ?_
  refine nm 4 ?_
  refine fa_nil ?_
  refine ⟨_, _, _, rfl, k1.1, by rw [List.length_map]; exact k1.2, by rw [List.length_map]; exact Nat.le_of_lt (S.few Fr), ?_⟩
  rw [put_ints]
  refine fa_nil ?_
  refine ⟨bs, put0 hs d.1 d.2, rfl, by rw [S2.len]; exact Fr.inR, Fr.len, ?_⟩
  rw [S2.cracks]
  refine fe_tup ?_
  refine fa_nil ?_
  refine ⟨Nat.le_of_ble_eq_true rfl, ?_⟩
  refine ⟨min32 (depth_bsD _) (by decide), ?_⟩
  rw [eqv_empty]
  exact hq
theorem sc_after_deed : FnScope ["own", "heights", "deed", "jack", "height"] ["own", "heights", "deed"] (defScope (topS 18)) := ⟨rfl, rfl, rfl, by decide +kernel, rfl, by decide +kernel, by decide +kernel⟩
def g_after_deed : GC := fun ds Q => ∃ (n : Nat) (bs : List Beam) (hs : List Int) (d : Deed), ds = [fD n bs, sD hs, pD d] ∧ FrOk n bs ∧ Stand n bs hs ∧ stepB bs hs d = true ∧ Q (sD (put0 hs d.1 d.2))
theorem h_after_deed (G : Prog K mg) : Has P w K mg base "after_deed" 6 (pureR g_after_deed) := by
  refine has_pure G.d_after_deed sc_after_deed (fun ds Q h => ?_) (fun f cdv A outer s H E hr ds Q h => ?_) <;> obtain ⟨n, bs, hs, d, rfl, Fr, S, st, hq⟩ := h
  · rfl
  obtain ⟨k1, k2, k3⟩ := stepB_iff.mp st
  have k1' := k1
  rw [S.len] at k1'
  have S2 := stand_put Fr S k1' k3
  refine fs_asgT (tg_tup rfl (tgs_cons (tg_name (i := 3) sc_after_deed.nd rfl (by first | exact .inl rfl | exact .inr rfl) (.inl rfl)) (tgs_cons (tg_name (i := 4) sc_after_deed.nd rfl (by first | exact .inl rfl | exact .inr rfl) (.inl rfl)) tgs_nil))) ?_
  refine nm 2 ?_
  refine ⟨rfl, rfl, ?_⟩
  refine fs_if ?_
  refine fb_eq hr ?_
  refine fe_ix ?_
  refine nm 1 ?_
  refine nm 3 ?_
  refine ⟨_, at_ints k1, ?_⟩
  refine nm 4 ?_
  refine andF (decide_eq_false (Ne.symm k2)) ?_
  refine fs_nil (fs_ret ?_)
  refine fe_call (h_sure_stand G) hr ?_
  refine fa_cons ?_
  refine nm 0 ?_
  refine fa_cons ?_
  refine fe_call (h_put_at G) hr ?_
  refine fa_cons ?_
  refine nm 1 ?_
  refine fa_cons ?_
  refine nm 3 ?_
  refine fa_cons ?_
  refine nm 4 ?_
  refine fa_nil ?_
  refine ⟨_, _, _, rfl, k1.1, by rw [List.length_map]; exact k1.2, by rw [List.length_map]; exact Nat.le_of_lt (S.few Fr), ?_⟩
  rw [put_ints]
  refine fa_nil ?_
  refine ⟨n, bs, put0 hs d.1 d.2, _, rfl, okD_sD (S2.few Fr), toT_sD _ _, Fr, S2, ?_⟩
  exact hq
theorem sc_walked_in : FnScope ["own", "heights", "plan", "rows", "deed"] ["own", "heights", "plan"] (defScope (topS 19)) := ⟨rfl, rfl, rfl, by decide +kernel, rfl, by decide +kernel, by decide +kernel⟩
def g_walked_in : GC := fun ds Q => ∃ (n : Nat) (bs : List Beam) (hs : List Int) (p : List Deed), ds = [fD n bs, sD hs, bsD p] ∧ FrOk n bs ∧ Stand n bs hs ∧ runs bs hs p = true ∧ p.length < 1000 ∧ Q (.list ((stands hs p).map sD))
theorem h_walked_in (G : Prog K mg) : Has P w K mg base "walked_in" 7 (pureR g_walked_in) := by
  refine has_pure G.d_walked_in sc_walked_in (fun ds Q h => ?_) (fun f cdv A outer s H E hr ds Q h => ?_) <;> obtain ⟨n, bs, hs, p, rfl, Fr, S, ru, pl, hq⟩ := h
  · rfl
  refine fs_set (i := 3) sc_walked_in.nd rfl (by first | exact .inl rfl | exact .inr rfl) (fv_fn (fn_lst ?_))
  refine fa_cons ?_
  refine nm 1 ?_
  refine fa_nil ?_
  refine ⟨le5 rfl, ?_⟩
  refine fs_for rfl (tg_name (i := 4) sc_walked_in.nd rfl (by first | exact .inl rfl | exact .inr rfl) (.inl rfl)) (fi_tup ?_)
  refine nm 2 ?_
  refine ⟨_, rfl, fun i Γ m => ∃ x, Γ = [.dat (fD n bs), .dat (sD hs), .dat (bsD p), .ob 0, x] ∧ m = [.lst ((stands hs (p.take i)).map sD)], ⟨_, rfl, rfl⟩, fun i d Γ m hd iv => ?_, fun Γ m iv => ?_⟩
  · obtain ⟨x, rfl, rfl⟩ := iv
    obtain ⟨dd, hdd, rfl⟩ := map_get hd
    obtain ⟨r1, r2⟩ := runs_at ru hdd
    have S1 := runs_stand Fr _ _ S r1
    refine fs_app (i := 3) rfl (by first | exact Or.inl rfl | exact Or.inr (Or.inl rfl) | exact Or.inr (Or.inr rfl)) rfl ⟨_, rfl⟩ ?_
    refine fe_frz rfl ?_
    refine fe_call (h_after_deed G) hr ?_
    refine fa_cons ?_
    refine nm 0 ?_
    refine fa_cons ?_
    refine fe_ix ?_
    refine nm 3 ?_
    refine fe_neg ?_
    refine fe_int ?_
    refine ⟨_, rfl, ?_⟩
    refine ⟨_, stands_at, ?_⟩
    refine fa_cons ?_
    refine nm 4 ?_
    refine fa_nil ?_
    refine ⟨n, bs, _, dd, rfl, Fr, S1, r2, ?_⟩
    refine ⟨flat_sD _, _, rfl, ?_, fs_nil ?_⟩
    · rw [List.length_map, stands_length, List.length_take]; omega
    · refine ⟨_, rfl, ?_⟩
      rw [take_one hdd, stands_snoc, List.map_append]; rfl
  · obtain ⟨x, rfl, rfl⟩ := iv
    refine fs_retM (i := 3) rfl (by first | exact Or.inl rfl | exact Or.inr (Or.inl rfl) | exact Or.inr (Or.inr rfl)) rfl rfl ?_
    rw [List.length_map, List.take_length]
    exact hq
theorem sc_bad_in : FnScope ["own", "heights", "plan", "now", "place", "deed"] ["own", "heights", "plan"] (defScope (topS 20)) := ⟨rfl, rfl, rfl, by decide +kernel, rfl, by decide +kernel, by decide +kernel⟩
def g_bad_in : GC := fun ds Q => ∃ (n : Nat) (bs : List Beam) (hs : List Int) (p : List Deed), ds = [fD n bs, sD hs, bsD p] ∧ FrOk n bs ∧ Stand n bs hs ∧ runs bs hs p = true ∧ p.length < 1000 ∧ Q .none
theorem h_bad_in (G : Prog K mg) : Has P w K mg base "bad_in" 3 (pureR g_bad_in) := by
  refine has_pure G.d_bad_in sc_bad_in (fun ds Q h => ?_) (fun f cdv A outer s H E hr ds Q h => ?_) <;> obtain ⟨n, bs, hs, p, rfl, Fr, S, ru, pl, hq⟩ := h
  · rfl
  refine fs_set (i := 3) sc_bad_in.nd rfl (by first | exact .inl rfl | exact .inr rfl) (fv_fe ?_)
  refine nm 1 ?_
  refine fs_for rfl (tg_tup rfl (tgs_cons (tg_name (i := 4) sc_bad_in.nd rfl (by first | exact .inl rfl | exact .inr rfl) (.inl rfl)) (tgs_cons (tg_name (i := 5) sc_bad_in.nd rfl (by first | exact .inl rfl | exact .inr rfl) (.inl rfl)) tgs_nil))) (fi_enumT G.bl ?_)
  refine nm 2 ?_
  refine ⟨_, rfl, fun i Γ m => ∃ x y, Γ = [.dat (fD n bs), .dat (sD hs), .dat (bsD p), .dat (sD (fin hs (p.take i))), x, y] ∧ m = [], ⟨_, _, rfl, rfl⟩, fun i d Γ m hd iv => ?_, fun Γ m iv => ?_⟩
  · obtain ⟨x, y, rfl, rfl⟩ := iv
    obtain ⟨e, he, rfl⟩ := enumD_get hd
    obtain ⟨dd, hdd, rfl⟩ := map_get he
    obtain ⟨r1, r2⟩ := runs_at ru hdd
    have S1 := runs_stand Fr _ _ S r1
    obtain ⟨k1, k2, k3⟩ := stepB_iff.mp r2
    refine ⟨rfl, rfl, ?_⟩
    refine fs_if (fb_not ?_)
    refine fb_val ?_
    refine fe_call (h_is_doable G) hr ?_
    refine fa_cons ?_
    refine nm 0 ?_
    refine fa_cons ?_
    refine nm 3 ?_
    refine fa_cons ?_
    refine nm 5 ?_
    refine fa_nil ?_
    refine ⟨n, bs, _, dd, rfl, Fr, S1, r2, ?_⟩
    refine asbNT rfl (fs_nil ?_)
    refine fs_set (i := 3) sc_bad_in.nd rfl (by first | exact .inl rfl | exact .inr rfl) (fv_fe ?_)
    refine fe_call (h_put_at G) hr ?_
    refine fa_cons ?_
    refine nm 3 ?_
    refine fa_cons ?_
    refine fe_ix ?_
    refine nm 5 ?_
    refine fe_int ?_
    refine ⟨_, rfl, ?_⟩
    refine fa_cons ?_
    refine fe_ix ?_
    refine nm 5 ?_
    refine fe_int ?_
    refine ⟨_, rfl, ?_⟩
    refine fa_nil ?_
    refine ⟨_, _, _, rfl, k1.1, by rw [List.length_map]; exact k1.2, by rw [List.length_map]; exact Nat.le_of_lt (S1.few Fr), ?_⟩
    rw [put_ints]
    refine fs_nil ?_
    show ∃ x y, _ = _ ∧ _ = _
    rw [take_one hdd, fin_snoc]; exact ⟨_, _, rfl, rfl⟩
  · obtain ⟨x, y, rfl, rfl⟩ := iv
    refine fs_ret ?_
    refine fe_none ?_
    exact hq
theorem sc_is_plan : FnScope ["frame", "one", "other", "thing", "near", "far", "deed", "own"] ["frame", "one", "other", "thing"] (defScope (topS 21)) := ⟨rfl, rfl, rfl, by decide +kernel, rfl, by decide +kernel, by decide +kernel⟩
def g_is_plan : GC := fun ds Q => ∃ (n : Nat) (bs : List Beam) (one other : List Int) (p : List Deed), ds = [fD n bs, sD one, sD other, bsD p] ∧ FrOk n bs ∧ Stand n bs one ∧ Stand n bs other ∧ leads bs one other p ∧ p.length < 1000 ∧ Q (.bool true)
theorem h_is_plan (G : Prog K mg) : Has P w K mg base "is_plan" 8 (pureR g_is_plan) := by
  refine has_pure G.d_is_plan sc_is_plan (fun ds Q h => ?_) (fun f cdv A outer s H E hr ds Q h => ?_) <;> obtain ⟨n, bs, one, other, p, rfl, Fr, S, S2, ru, pl, hq⟩ := h
  · rfl
  have hin := runs_in _ _ ru.1
  rw [S.len] at hin
  refine fs_asgT (tg_tup rfl (tgs_cons (tg_name (i := 4) sc_is_plan.nd rfl (by first | exact .inl rfl | exact .inr rfl) (.inl rfl)) (tgs_cons (tg_name (i := 5) sc_is_plan.nd rfl (by first | exact .inl rfl | exact .inr rfl) (.inl rfl)) tgs_nil))) ?_
  refine fe_call (h_sure_stands G) hr ?_
  refine fa_cons ?_
  refine nm 0 ?_
  refine fa_cons ?_
  refine nm 1 ?_
  refine fa_cons ?_
  refine nm 2 ?_
  refine fa_nil ?_
  refine ⟨n, bs, _, one, _, other, _, rfl, okD_fD Fr.len, toT_fD _ _ _, okD_sD (S.few Fr), toT_sD _ _, okD_sD (S2.few Fr), toT_sD _ _, Fr, S, S2, ?_⟩
  refine ⟨rfl, rfl, ?_⟩
  refine fs_if ?_
  refine fb_of (fw_or (fb_not ?_))
  refine fb_val ?_
  refine fe_isi (Tn := "tuple") G.bl G.bl.tuple (by decide +kernel) ?_
  refine nm 3 ?_
  refine ⟨_, rfl, ?_⟩
  refine asbNT rfl ?_
  refine fw_or1 ?_
  refine fb_not ?_
  refine fb_val ?_
  refine fe_all G.bl rfl ?_
  refine fe_fn (lcN1 6 pD (fun _ => .bool true) sc_is_plan.nd (by show blkC ["frame", "one", "other", "thing", "near", "far", "deed", "own"] (defScope (topS 21)) _ _ = true; decide +kernel) ?_)
  refine fi_tup ?_
  refine nm 3 ?_
  refine ⟨_, rfl, p, rfl, Nat.lt_trans pl (by decide), fun d hd s H C cl fp => ?_, ?_⟩
  · skip
    refine fe_call (h_is_deed G) hr ?_
    refine fa_cons ?_
    refine nm 0 ?_
    refine fa_cons ?_
    refine nm 6 ?_
    refine fa_nil ?_
    refine ⟨n, bs, d, rfl, (hin d hd).1, (hin d hd).2, ?_⟩
    exact ⟨rfl, rfl⟩
  refine ⟨p.map fun _ => true, by rw [List.map_map]; rfl, ?_⟩
  have e : (p.map fun _ => true).all id = true := by rw [List.all_eq_true]; intro b hb; obtain ⟨_, _, rfl⟩ := List.mem_map.mp hb; rfl
  rw [e]
  refine asbNT rfl (fs_nil ?_)
  refine fs_set (i := 7) sc_is_plan.nd rfl (by first | exact .inl rfl | exact .inr rfl) (fv_fe ?_)
  refine fe_call (h_tupled G 3) hr ?_
  refine fa_cons ?_
  refine nm 0 ?_
  refine fa_nil ?_
  refine ⟨_, _, rfl, okD_fD Fr.len, toT_fD _ _ _, ?_⟩
  refine fs_ret ?_
  refine fe_and ?_
  refine fe_isN ?_
  refine fe_call (h_bad_in G) hr ?_
  refine fa_cons ?_
  refine nm 7 ?_
  refine fa_cons ?_
  refine nm 4 ?_
  refine fa_cons ?_
  refine nm 3 ?_
  refine fa_nil ?_
  refine ⟨n, bs, one, p, rfl, Fr, S, ru.1, pl, ?_⟩
  refine andT ?_
  refine fe_one ?_
  refine fe_eq hr ?_
  refine fe_ix ?_
  refine fe_call (h_walked_in G) hr ?_
  refine fa_cons ?_
  refine nm 7 ?_
  refine fa_cons ?_
  refine nm 4 ?_
  refine fa_cons ?_
  refine nm 3 ?_
  refine fa_nil ?_
  refine ⟨n, bs, one, p, rfl, Fr, S, ru.1, pl, ?_⟩
  refine fe_neg ?_
  refine fe_int ?_
  refine ⟨_, rfl, ?_⟩
  refine ⟨_, stands_at, ?_⟩
  refine nm 5 ?_
  refine ⟨min32 (depth_sD _) (by decide), ?_⟩
  rw [eqv_sD, decide_eq_true ru.2]
  exact hq
end
end K13

set_option maxRecDepth 100000
set_option maxHeartbeats 4000000
set_option autoImplicit false
/-! Walks, part 4: what is kept. -/
namespace K13
open PySem PySem.Spec PyProof.Rows L2
/-- good arguments of the program's functions -/
structure LArgs (n : Nat) (bs : List Beam) (one other : List Int) (p : List Deed) (fr a b c : PyData) : Prop where
  ofr : okD 3 fr = true
  tfr : toT 3 fr = fD n bs
  oa : okD 3 a = true
  ta : toT 3 a = sD one
  ob : okD 3 b = true
  tb : toT 3 b = sD other
  oc : okD 3 c = true
  tc : toT 3 c = bsD p
  Fr : FrOk n bs
  S1 : Stand n bs one
  S2 : Stand n bs other
  ld : leads bs one other p
  pl : p.length < 1000
theorem ixN_in {n : Nat} {k : Int} (h : 0 ≤ k ∧ k < (n : Int)) : ixN n k = some k.toNat := by
  unfold ixN
  obtain ⟨h1, h2⟩ := h
  first
    | (rw [if_pos h1, if_pos (by omega)])
    | (simp only [h1, h2, if_true]; rfl)
    | (split <;> first | (split <;> first | rfl | omega) | omega)
theorem flat_pD (b : Int × Int) : flat (pD b) = true := rfl
theorem flat_pDs : ∀ bs : List (Int × Int), flatAll (bs.map pD) = true
  | [] => rfl
  | b :: bs => by rw [List.map_cons, flatAll, flat_pDs bs]; rfl
theorem flat_bsD (bs : List (Int × Int)) : flat (bsD bs) = true := flat_pDs bs
theorem zip_ints (xs ys : List Int) : zipD (xs.map PyData.int) (ys.map PyData.int) = (xs.zip ys).map fun p => .tuple [.int p.1, .int p.2] := by
  unfold zipD
  rw [List.zip_map, List.map_map]; rfl
theorem left_zip : ∀ one other : List Int, ((one.zip other).map fun p : Int × Int => PyData.int (absI (p.2 - p.1))) = (left0 one other).map .int
  | [], _ => by simp [left0]
  | _ :: _, [] => by simp [left0]
  | a :: r, b :: s => by
    show PyData.int (absI (b - a)) :: ((r.zip s).map fun p : Int × Int => PyData.int (absI (p.2 - p.1))) = PyData.int (absI (b - a)) :: (left0 r s).map .int
    rw [left_zip r s]
theorem drop_one {α : Type} {l : List α} {i : Nat} {x : α} (h : l[i]? = some x) : l.drop i = x :: l.drop (i + 1) := by
  obtain ⟨hi, e⟩ := List.getElem?_eq_some_iff.mp h
  rw [← e]
  exact List.drop_eq_getElem_cons hi
section
variable {P : Program} {w : World} {K : PySem.W.Frag} {mg : Str → Option Value} {base : Heap}
theorem sc_sure_leading : FnScope ["frame", "one", "other", "plan", "begin", "end", "way"] ["frame", "one", "other", "plan"] (defScope (topS 23)) := ⟨rfl, rfl, rfl, by decide +kernel, rfl, by decide +kernel, by decide +kernel⟩
def g_sure_leading : GC := fun ds Q => ∃ (n : Nat) (bs : List Beam) (one other : List Int) (p : List Deed) (fr a b c : PyData), ds = [fr, a, b, c] ∧ LArgs n bs one other p fr a b c ∧ Q (.tuple [sD one, sD other, bsD p])
theorem h_sure_leading (G : Prog K mg) : Has P w K mg base "sure_leading" 9 (pureR g_sure_leading) := by
  refine has_pure G.d_sure_leading sc_sure_leading (fun ds Q h => ?_) (fun f cdv A outer s H E hr ds Q h => ?_) <;> obtain ⟨n, bs, one, other, p, fr, a, b, c, rfl, L, hq⟩ := h
  · rfl
  refine fs_par3 (i := 4) (j := 5) (l := 6) rfl sc_sure_leading.nd rfl rfl rfl (by decide) (by decide) (by decide) rfl rfl rfl (fv_fe ?_)
  refine fe_call (h_tupled G 3) hr ?_
  refine fa_cons ?_
  refine nm 1 ?_
  refine fa_nil ?_
  refine ⟨_, _, rfl, L.oa, L.ta, ?_⟩
  refine fv_fe ?_
  refine fe_call (h_tupled G 3) hr ?_
  refine fa_cons ?_
  refine nm 2 ?_
  refine fa_nil ?_
  refine ⟨_, _, rfl, L.ob, L.tb, ?_⟩
  refine fv_fe ?_
  refine fe_call (h_tupled G 3) hr ?_
  refine fa_cons ?_
  refine nm 3 ?_
  refine fa_nil ?_
  refine ⟨_, _, rfl, L.oc, L.tc, ?_⟩
  refine fs_if (fb_not ?_)
  refine fb_val ?_
  refine fe_call (h_is_plan G) hr ?_
  refine fa_cons ?_
  refine fe_call (h_tupled G 3) hr ?_
  refine fa_cons ?_
  refine nm 0 ?_
  refine fa_nil ?_
  refine ⟨_, _, rfl, L.ofr, L.tfr, ?_⟩
  refine fa_cons ?_
  refine nm 4 ?_
  refine fa_cons ?_
  refine nm 5 ?_
  refine fa_cons ?_
  refine nm 6 ?_
  refine fa_nil ?_
  refine ⟨n, bs, one, other, p, rfl, L.Fr, L.S1, L.S2, L.ld, L.pl, ?_⟩
  refine asbNT rfl (fs_nil ?_)
  refine fs_ret ?_
  refine fe_tup ?_
  refine fa_cons ?_
  refine nm 4 ?_
  refine fa_cons ?_
  refine nm 5 ?_
  refine fa_cons ?_
  refine nm 6 ?_
  refine fa_nil ?_
  refine ⟨Nat.le_of_ble_eq_true rfl, ?_⟩
  exact hq
theorem sc_cut_in : FnScope ["begin", "end", "way", "now", "found", "jack", "height", "told"] ["begin", "end", "way"] (defScope (topS 25)) := ⟨rfl, rfl, rfl, by decide +kernel, rfl, by decide +kernel, by decide +kernel⟩
def g_cut_in : GC := fun ds Q => ∃ (n : Nat) (one other : List Int) (p : List Deed), ds = [sD one, sD other, bsD p] ∧ one.length = n ∧ other.length = n ∧ n ≤ 1000 ∧ (∀ d ∈ p, 0 ≤ d.1 ∧ d.1 < (n : Int)) ∧ p.length < 1000 ∧ Q (bsD (cutGo one other one p))
theorem h_cut_in (G : Prog K mg) : Has P w K mg base "cut_in" 2 (pureR g_cut_in) := by
  refine has_pure G.d_cut_in sc_cut_in (fun ds Q h => ?_) (fun f cdv A outer s H E hr ds Q h => ?_) <;> obtain ⟨n, one, other, p, rfl, l1, l2, hn, hin, pl, hq⟩ := h
  · rfl
  refine fs_par (i := 3) (j := 4) rfl sc_cut_in.nd rfl rfl (by decide) rfl rfl (fv_fn (fn_list G.bl ?_))
  refine nm 0 ?_
  refine ⟨_, .inl rfl, ?_⟩
  refine fv_fn (fn_lst (fa_nil ⟨le5 rfl, ?_⟩))
  refine fs_for rfl (tg_tup rfl (tgs_cons (tg_name (i := 5) sc_cut_in.nd rfl (by first | exact .inl rfl | exact .inr rfl) (.inl rfl)) (tgs_cons (tg_name (i := 6) sc_cut_in.nd rfl (by first | exact .inl rfl | exact .inr rfl) (.inl rfl)) tgs_nil))) (fi_tup ?_)
  refine nm 2 ?_
  refine ⟨_, rfl, fun i Γ m => ∃ x y z now found, Γ = [.dat (sD one), .dat (sD other), .dat (bsD p), .ob 0, .ob 1, x, y, z] ∧ m = [.lst (now.map .int), .lst (found.map pD)] ∧ now.length = n ∧ found.length ≤ i ∧ found ++ cutGo one other now (p.drop i) = cutGo one other one p,
    ⟨_, _, _, one, [], rfl, rfl, l1, Nat.le_refl _, rfl⟩, fun i d Γ m hd iv => ?_, fun Γ m iv => ?_⟩
  · obtain ⟨x, y, z, now, found, rfl, rfl, ln, lf, inv⟩ := iv
    obtain ⟨dd, hdd, rfl⟩ := map_get hd
    have hi : i < p.length := (List.getElem?_eq_some_iff.mp hdd).1
    have kin := hin dd (List.mem_of_getElem? hdd)
    rw [drop_one hdd, cutGo] at inv
    refine ⟨rfl, rfl, ?_⟩
    refine fs_set (i := 7) sc_cut_in.nd rfl (by first | exact .inl rfl | exact .inr rfl) (fv_fe ?_)
    refine fe_call (h_cut_height G) hr ?_
    refine fa_cons ?_
    refine fe_ix ?_
    refine nm 0 ?_
    refine nm 5 ?_
    refine ⟨_, at_ints (by rw [l1]; exact kin), ?_⟩
    refine fa_cons ?_
    refine fe_ix ?_
    refine nm 1 ?_
    refine nm 5 ?_
    refine ⟨_, at_ints (by rw [l2]; exact kin), ?_⟩
    refine fa_cons ?_
    refine nm 6 ?_
    refine fa_nil ?_
    refine ⟨_, _, _, rfl, ?_⟩
    refine fs_if (fb_frz rfl ?_)
    refine fb_ne hr ?_
    refine nm 7 ?_
    refine fe_ix ?_
    refine nm 3 ?_
    refine nm 5 ?_
    refine ⟨_, at_ints (by rw [ln]; exact kin), ?_⟩
    by_cases c : cutH (at0 one dd.1) (at0 other dd.1) dd.2 = at0 now dd.1
    · refine andF (by rw [decide_eq_true c]; rfl) ?_
      rw [if_pos c] at inv
      exact fs_nil (fs_nil ⟨_, _, _, now, found, rfl, rfl, ln, by omega, inv⟩)
    · refine andV (by rw [decide_eq_false c]; rfl) ?_
      rw [if_neg c] at inv
      refine fs_setL (i := 3) rfl (by first | exact Or.inl rfl | exact Or.inr (Or.inl rfl) | exact Or.inr (Or.inr rfl)) rfl ?_
      refine nm 7 ?_
      refine nm 5 ?_
      refine ⟨_, _, _, rfl, rfl, ixN_in (by rw [List.length_map, ln]; exact kin), ?_⟩
      refine fs_app (i := 4) rfl (by first | exact Or.inl rfl | exact Or.inr (Or.inl rfl) | exact Or.inr (Or.inr rfl)) rfl ⟨_, rfl⟩ ?_
      refine fe_tup ?_
      refine fa_cons ?_
      refine nm 5 ?_
      refine fa_cons ?_
      refine nm 7 ?_
      refine fa_nil ?_
      refine ⟨Nat.le_of_ble_eq_true rfl, ?_⟩
      refine ⟨_, rfl, by rw [List.length_map]; omega, fs_nil (fs_nil ?_)⟩
      refine ⟨_, _, _, put0 now dd.1 (cutH (at0 one dd.1) (at0 other dd.1) dd.2), found ++ [(dd.1, cutH (at0 one dd.1) (at0 other dd.1) dd.2)], rfl, ?_, by rw [put0_length]; exact ln, by rw [List.length_append, List.length_singleton]; omega, by rw [List.append_assoc]; exact inv⟩
      rw [List.map_append, ← put_ints]; rfl
  · obtain ⟨x, y, z, now, found, rfl, rfl, ln, lf, inv⟩ := iv
    rw [List.length_map] at inv
    rw [List.drop_length, cutGo, List.append_nil] at inv
    refine fs_ret (fe_frz rfl ?_)
    refine fe_tuple G.bl ?_
    refine nm 4 ?_
    rw [inv]
    exact ⟨flat_bsD _, hq⟩
theorem sc_kept_in : FnScope ["begin", "end", "way", "left", "found", "height", "goal", "number", "jack", "told"] ["begin", "end", "way"] (defScope (topS 26)) := ⟨rfl, rfl, rfl, by decide +kernel, rfl, by decide +kernel, by decide +kernel⟩
def g_kept_in : GC := fun ds Q => ∃ (n : Nat) (one other : List Int) (p : List Deed), ds = [sD one, sD other, bsD p] ∧ one.length = n ∧ other.length = n ∧ n ≤ 1000 ∧ (∀ d ∈ p, 0 ≤ d.1 ∧ d.1 < (n : Int)) ∧ p.length < 1000 ∧ Q (.list ((kept one other p).map npD))
theorem h_kept_in (G : Prog K mg) : Has P w K mg base "kept_in" 2 (pureR g_kept_in) := by
  refine has_pure G.d_kept_in sc_kept_in (fun ds Q h => ?_) (fun f cdv A outer s H E hr ds Q h => ?_) <;> obtain ⟨n, one, other, p, rfl, l1, l2, hn, hin, pl, hq⟩ := h
  · rfl
  refine fs_par (i := 3) (j := 4) rfl sc_kept_in.nd rfl rfl (by decide) rfl rfl (fv_fn (lcT 5 6 (fun x : Int × Int => .tuple [.int x.1, .int x.2]) (fun _ => true) (fun x => .int (absI (x.2 - x.1))) (fun x => .int x.1) (fun x => .int x.2) (fun _ => rfl) sc_kept_in.nd (by show blkC ["begin", "end", "way", "left", "found", "height", "goal", "number", "jack", "told"] (defScope (topS 26)) _ _ = true; decide +kernel) (fi_zipT G.bl ?_)))
  refine nm 0 ?_
  refine ⟨_, rfl, ?_⟩
  refine nm 1 ?_
  refine ⟨_, rfl, one.zip other, zip_ints _ _, by rw [List.length_zip]; omega, fun x hx s H C cl fp => ⟨rfl, rfl, fun _ s H C cl fp => ?_⟩, ?_⟩
  · skip
    refine fe_abs G.bl ?_
    refine fe_sub ?_
    refine nm 6 ?_
    refine nm 5 ?_
    exact ⟨rfl, rfl⟩
  rw [List.filter_eq_self.mpr (fun _ _ => rfl), left_zip]
  refine fv_fn (fn_lst (fa_nil ⟨le5 rfl, ?_⟩))
  have lz := left0_length (one := one) (other := other) (by rw [l1, l2])
  refine fs_for rfl (tg_tup rfl (tgs_cons (tg_name (i := 7) sc_kept_in.nd rfl (by first | exact .inl rfl | exact .inr rfl) (.inl rfl)) (tgs_cons (tg_tup rfl (tgs_cons (tg_name (i := 8) sc_kept_in.nd rfl (by first | exact .inl rfl | exact .inr rfl) (.inl rfl)) (tgs_cons (tg_name (i := 5) sc_kept_in.nd rfl (by first | exact .inl rfl | exact .inr rfl) (.inl rfl)) tgs_nil))) tgs_nil))) (fi_enumT G.bl ?_)
  refine nm 2 ?_
  refine ⟨_, rfl, fun i Γ m => ∃ x y z u v left found, Γ = [.dat (sD one), .dat (sD other), .dat (bsD p), .ob 0, .ob 1, x, y, z, u, v] ∧ m = [.lst (left.map .int), .lst (found.map npD)] ∧ left.length = n ∧ found.length ≤ i ∧ found ++ keptGo one other left i (p.drop i) = kept one other p,
    ⟨_, _, _, _, _, left0 one other, [], rfl, rfl, by rw [lz, l1], Nat.le_refl _, rfl⟩, fun i d Γ m hd iv => ?_, fun Γ m iv => ?_⟩
  · obtain ⟨x, y, z, u, v, left, found, rfl, rfl, ln, lf, inv⟩ := iv
    obtain ⟨e, he, rfl⟩ := enumD_get hd
    obtain ⟨dd, hdd, rfl⟩ := map_get he
    have hi : i < p.length := (List.getElem?_eq_some_iff.mp hdd).1
    have kin := hin dd (List.mem_of_getElem? hdd)
    rw [drop_one hdd, keptGo] at inv
    refine ⟨rfl, rfl, rfl, rfl, ?_⟩
    refine fs_set (i := 9) sc_kept_in.nd rfl (by first | exact .inl rfl | exact .inr rfl) (fv_fe ?_)
    refine fe_call (h_cut_height G) hr ?_
    refine fa_cons ?_
    refine fe_ix ?_
    refine nm 0 ?_
    refine nm 8 ?_
    refine ⟨_, at_ints (by rw [l1]; exact kin), ?_⟩
    refine fa_cons ?_
    refine fe_ix ?_
    refine nm 1 ?_
    refine nm 8 ?_
    refine ⟨_, at_ints (by rw [l2]; exact kin), ?_⟩
    refine fa_cons ?_
    refine nm 5 ?_
    refine fa_nil ?_
    refine ⟨_, _, _, rfl, ?_⟩
    refine fs_if (fb_frz rfl ?_)
    refine fb_lt ?_
    refine fe_abs G.bl ?_
    refine fe_sub ?_
    refine fe_ix ?_
    refine nm 1 ?_
    refine nm 8 ?_
    refine ⟨_, at_ints (by rw [l2]; exact kin), ?_⟩
    refine nm 9 ?_
    refine fe_ix ?_
    refine nm 3 ?_
    refine nm 8 ?_
    refine ⟨_, at_ints (by rw [ln]; exact kin), ?_⟩
    by_cases c : absI (at0 other dd.1 - cutH (at0 one dd.1) (at0 other dd.1) dd.2) < at0 left dd.1
    · refine andV (decide_eq_true c) ?_
      rw [if_pos c] at inv
      refine fs_setL (i := 3) rfl (by first | exact Or.inl rfl | exact Or.inr (Or.inl rfl) | exact Or.inr (Or.inr rfl)) rfl ?_
      refine fe_abs G.bl ?_
      refine fe_sub ?_
      refine fe_ix ?_
      refine nm 1 ?_
      refine nm 8 ?_
      refine ⟨_, at_ints (by rw [l2]; exact kin), ?_⟩
      refine nm 9 ?_
      refine nm 8 ?_
      refine ⟨_, _, _, rfl, rfl, ixN_in (by rw [List.length_map, ln]; exact kin), ?_⟩
      refine fs_app (i := 4) rfl (by first | exact Or.inl rfl | exact Or.inr (Or.inl rfl) | exact Or.inr (Or.inr rfl)) rfl ⟨_, rfl⟩ ?_
      refine fe_tup ?_
      refine fa_cons ?_
      refine nm 7 ?_
      refine fa_cons ?_
      refine fe_tup ?_
      refine fa_cons ?_
      refine nm 8 ?_
      refine fa_cons ?_
      refine nm 9 ?_
      refine fa_nil ?_
      refine ⟨Nat.le_of_ble_eq_true rfl, ?_⟩
      refine fa_nil ?_
      refine ⟨Nat.le_of_ble_eq_true rfl, ?_⟩
      refine ⟨_, rfl, by rw [List.length_map]; omega, fs_nil (fs_nil ?_)⟩
      refine ⟨_, _, _, _, _, put0 left dd.1 (absI (at0 other dd.1 - cutH (at0 one dd.1) (at0 other dd.1) dd.2)), found ++ [((i : Int), (dd.1, cutH (at0 one dd.1) (at0 other dd.1) dd.2))], rfl, ?_, by rw [put0_length]; exact ln, by rw [List.length_append, List.length_singleton]; omega, by rw [List.append_assoc]; exact inv⟩
      rw [List.map_append, ← put_ints]; rfl
    · refine andF (decide_eq_false c) ?_
      rw [if_neg c] at inv
      exact fs_nil (fs_nil ⟨_, _, _, _, _, left, found, rfl, rfl, ln, by omega, inv⟩)
  · obtain ⟨x, y, z, u, v, left, found, rfl, rfl, ln, lf, inv⟩ := iv
    rw [enumD_length, List.length_map] at inv
    rw [List.drop_length, keptGo, List.append_nil] at inv
    refine fs_retM (i := 4) rfl (by first | exact Or.inl rfl | exact Or.inr (Or.inl rfl) | exact Or.inr (Or.inr rfl)) rfl rfl ?_
    rw [inv]
    exact hq
theorem sc_kept_deeds : FnScope ["frame", "one", "other", "plan", "begin", "end", "way", "number", "deed"] ["frame", "one", "other", "plan"] (defScope (topS 27)) := ⟨rfl, rfl, rfl, by decide +kernel, rfl, by decide +kernel, by decide +kernel⟩
def gL (f : Nat → List Beam → List Int → List Int → List Deed → PyData) : GC := fun ds Q => ∃ (n : Nat) (bs : List Beam) (one other : List Int) (p : List Deed) (fr a b c : PyData), ds = [fr, a, b, c] ∧ LArgs n bs one other p fr a b c ∧ Q (f n bs one other p)
theorem LArgs.k {n : Nat} {bs : List Beam} {one other : List Int} {p : List Deed} {fr a b c : PyData} (L : LArgs n bs one other p fr a b c) : one.length = n ∧ other.length = n ∧ n ≤ 1000 ∧ (∀ d ∈ p, 0 ≤ d.1 ∧ d.1 < (n : Int)) := by
  refine ⟨L.S1.len, L.S2.len, Nat.le_trans L.Fr.hi (by decide), ?_⟩
  have := runs_in _ _ L.ld.1
  rw [L.S1.len] at this
  exact this
theorem kept_len (one other : List Int) (p : List Deed) : (kept one other p).length ≤ p.length := by
  have := less_length one other p
  unfold less at this
  rw [List.length_map] at this
  exact this
def numsD (l : List (Int × Deed)) : PyData := .tuple (l.map fun x => .int x.1)
theorem h_kept_deeds (G : Prog K mg) : Has P w K mg base "kept_deeds" 10 (pureR (gL fun n bs one other p => numsD (kept one other p))) := by
  refine has_pure G.d_kept_deeds sc_kept_deeds (fun ds Q h => ?_) (fun f cdv A outer s H E hr ds Q h => ?_) <;> obtain ⟨n, bs, one, other, p, fr, a, b, c, rfl, L, hq⟩ := h
  · rfl
  obtain ⟨l1, l2, hn, hin⟩ := L.k
  refine fs_asgT (tg_tup rfl (tgs_cons (tg_name (i := 4) sc_kept_deeds.nd rfl (by first | exact .inl rfl | exact .inr rfl) (.inl rfl)) (tgs_cons (tg_name (i := 5) sc_kept_deeds.nd rfl (by first | exact .inl rfl | exact .inr rfl) (.inl rfl)) (tgs_cons (tg_name (i := 6) sc_kept_deeds.nd rfl (by first | exact .inl rfl | exact .inr rfl) (.inl rfl)) tgs_nil)))) ?_
  refine fe_call (h_sure_leading G) hr ?_
  refine fa_cons ?_
  refine nm 0 ?_
  refine fa_cons ?_
  refine nm 1 ?_
  refine fa_cons ?_
  refine nm 2 ?_
  refine fa_cons ?_
  refine nm 3 ?_
  refine fa_nil ?_
  refine ⟨n, bs, one, other, p, fr, a, b, c, rfl, L, ?_⟩
  refine ⟨rfl, rfl, ?_⟩
  refine fs_ret ?_
  refine fe_tuple G.bl (fe_fn (lcT 7 8 npD (fun _ => true) (fun x => .int x.1) (fun x => .int x.1) (fun x => pD x.2) (fun _ => rfl) sc_kept_deeds.nd (by show blkC ["frame", "one", "other", "plan", "begin", "end", "way", "number", "deed"] (defScope (topS 27)) _ _ = true; decide +kernel) (fi_lst ?_)))
  refine fe_call (h_kept_in G) hr ?_
  refine fa_cons ?_
  refine nm 4 ?_
  refine fa_cons ?_
  refine nm 5 ?_
  refine fa_cons ?_
  refine nm 6 ?_
  refine fa_nil ?_
  refine ⟨n, one, other, p, rfl, l1, l2, hn, hin, L.pl, ?_⟩
  refine ⟨_, rfl, kept one other p, rfl, Nat.lt_of_le_of_lt (kept_len one other p) (Nat.lt_trans L.pl (by decide)), fun x hx s H C cl fp => ⟨rfl, rfl, fun _ s H C cl fp => ?_⟩, ?_⟩
  · skip
    refine nm 7 ?_
    exact ⟨rfl, rfl⟩
  rw [List.filter_eq_self.mpr (fun _ _ => rfl)]
  exact hq
theorem sc_never_back : FnScope ["frame", "one", "other", "plan", "begin", "end", "way", "number", "deed"] ["frame", "one", "other", "plan"] (defScope (topS 28)) := ⟨rfl, rfl, rfl, by decide +kernel, rfl, by decide +kernel, by decide +kernel⟩
theorem h_never_back (G : Prog K mg) : Has P w K mg base "never_back" 10 (pureR (gL fun n bs one other p => bsD (less one other p))) := by
  refine has_pure G.d_never_back sc_never_back (fun ds Q h => ?_) (fun f cdv A outer s H E hr ds Q h => ?_) <;> obtain ⟨n, bs, one, other, p, fr, a, b, c, rfl, L, hq⟩ := h
  · rfl
  obtain ⟨l1, l2, hn, hin⟩ := L.k
  refine fs_asgT (tg_tup rfl (tgs_cons (tg_name (i := 4) sc_never_back.nd rfl (by first | exact .inl rfl | exact .inr rfl) (.inl rfl)) (tgs_cons (tg_name (i := 5) sc_never_back.nd rfl (by first | exact .inl rfl | exact .inr rfl) (.inl rfl)) (tgs_cons (tg_name (i := 6) sc_never_back.nd rfl (by first | exact .inl rfl | exact .inr rfl) (.inl rfl)) tgs_nil)))) ?_
  refine fe_call (h_sure_leading G) hr ?_
  refine fa_cons ?_
  refine nm 0 ?_
  refine fa_cons ?_
  refine nm 1 ?_
  refine fa_cons ?_
  refine nm 2 ?_
  refine fa_cons ?_
  refine nm 3 ?_
  refine fa_nil ?_
  refine ⟨n, bs, one, other, p, fr, a, b, c, rfl, L, ?_⟩
  refine ⟨rfl, rfl, ?_⟩
  refine fs_ret ?_
  refine fe_tuple G.bl (fe_fn (lcT 7 8 npD (fun _ => true) (fun x => pD x.2) (fun x => .int x.1) (fun x => pD x.2) (fun _ => rfl) sc_never_back.nd (by show blkC ["frame", "one", "other", "plan", "begin", "end", "way", "number", "deed"] (defScope (topS 28)) _ _ = true; decide +kernel) (fi_lst ?_)))
  refine fe_call (h_kept_in G) hr ?_
  refine fa_cons ?_
  refine nm 4 ?_
  refine fa_cons ?_
  refine nm 5 ?_
  refine fa_cons ?_
  refine nm 6 ?_
  refine fa_nil ?_
  refine ⟨n, one, other, p, rfl, l1, l2, hn, hin, L.pl, ?_⟩
  refine ⟨_, rfl, kept one other p, rfl, Nat.lt_of_le_of_lt (kept_len one other p) (Nat.lt_trans L.pl (by decide)), fun x hx s H C cl fp => ⟨rfl, rfl, fun _ s H C cl fp => ?_⟩, ?_⟩
  · skip
    refine nm 8 ?_
    exact ⟨rfl, rfl⟩
  rw [List.filter_eq_self.mpr (fun _ _ => rfl)]
  have e : bsD (less one other p) = .tuple ((kept one other p).map fun x => pD x.2) := by
    unfold less bsD; rw [List.map_map]; rfl
  have hq : Q (bsD (less one other p)) := hq
  rw [e] at hq
  exact hq
theorem sc_is_forward : FnScope ["frame", "one", "other", "plan"] ["frame", "one", "other", "plan"] (defScope (topS 29)) := ⟨rfl, rfl, rfl, by decide +kernel, rfl, by decide +kernel, by decide +kernel⟩
theorem h_is_forward (G : Prog K mg) : Has P w K mg base "is_forward" 11 (pureR (gL fun n bs one other p => .bool (decide (less one other p = p)))) := by
  refine has_pure G.d_is_forward sc_is_forward (fun ds Q h => ?_) (fun f cdv A outer s H E hr ds Q h => ?_) <;> obtain ⟨n, bs, one, other, p, fr, a, b, c, rfl, L, hq⟩ := h
  · rfl
  refine fs_ret ?_
  refine fe_eq hr ?_
  refine fe_call (h_never_back G) hr ?_
  refine fa_cons ?_
  refine nm 0 ?_
  refine fa_cons ?_
  refine nm 1 ?_
  refine fa_cons ?_
  refine nm 2 ?_
  refine fa_cons ?_
  refine nm 3 ?_
  refine fa_nil ?_
  refine ⟨n, bs, one, other, p, fr, a, b, c, rfl, L, ?_⟩
  refine fe_call (h_tupled G 3) hr ?_
  refine fa_cons ?_
  refine nm 3 ?_
  refine fa_nil ?_
  refine ⟨_, _, rfl, L.oc, L.tc, ?_⟩
  refine ⟨min32 (depth_bsD _) (by decide), ?_⟩
  rw [eqv_bsD]
  exact hq
theorem sc_saved : FnScope ["frame", "one", "other", "plan", "begin", "end", "way"] ["frame", "one", "other", "plan"] (defScope (topS 30)) := ⟨rfl, rfl, rfl, by decide +kernel, rfl, by decide +kernel, by decide +kernel⟩
theorem h_saved (G : Prog K mg) : Has P w K mg base "saved" 10 (pureR (gL fun n bs one other p => .tuple [.int (p.length : Int), .int ((cutGo one other one p).length : Int), .int ((less one other p).length : Int)])) := by
  refine has_pure G.d_saved sc_saved (fun ds Q h => ?_) (fun f cdv A outer s H E hr ds Q h => ?_) <;> obtain ⟨n, bs, one, other, p, fr, a, b, c, rfl, L, hq⟩ := h
  · rfl
  obtain ⟨l1, l2, hn, hin⟩ := L.k
  refine fs_asgT (tg_tup rfl (tgs_cons (tg_name (i := 4) sc_saved.nd rfl (by first | exact .inl rfl | exact .inr rfl) (.inl rfl)) (tgs_cons (tg_name (i := 5) sc_saved.nd rfl (by first | exact .inl rfl | exact .inr rfl) (.inl rfl)) (tgs_cons (tg_name (i := 6) sc_saved.nd rfl (by first | exact .inl rfl | exact .inr rfl) (.inl rfl)) tgs_nil)))) ?_
  refine fe_call (h_sure_leading G) hr ?_
  refine fa_cons ?_
  refine nm 0 ?_
  refine fa_cons ?_
  refine nm 1 ?_
  refine fa_cons ?_
  refine nm 2 ?_
  refine fa_cons ?_
  refine nm 3 ?_
  refine fa_nil ?_
  refine ⟨n, bs, one, other, p, fr, a, b, c, rfl, L, ?_⟩
  refine ⟨rfl, rfl, ?_⟩
  refine fs_ret ?_
  refine fe_tup ?_
  refine fa_cons ?_
  refine fe_len G.bl ?_
  refine nm 6 ?_
  refine fa_cons ?_
  refine fe_len G.bl ?_
  refine fe_call (h_cut_in G) hr ?_
  refine fa_cons ?_
  refine nm 4 ?_
  refine fa_cons ?_
  refine nm 5 ?_
  refine fa_cons ?_
  refine nm 6 ?_
  refine fa_nil ?_
  refine ⟨n, one, other, p, rfl, l1, l2, hn, hin, L.pl, ?_⟩
  refine fa_cons ?_
  refine fe_len G.bl ?_
  refine fe_call (h_kept_in G) hr ?_
  refine fa_cons ?_
  refine nm 4 ?_
  refine fa_cons ?_
  refine nm 5 ?_
  refine fa_cons ?_
  refine nm 6 ?_
  refine fa_nil ?_
  refine ⟨n, one, other, p, rfl, l1, l2, hn, hin, L.pl, ?_⟩
  refine fa_nil ?_
  refine ⟨Nat.le_of_ble_eq_true rfl, ?_⟩
  have e : (less one other p).length = (kept one other p).length := by unfold less; rw [List.length_map]
  have hq : Q (.tuple [.int (p.length : Int), .int ((cutGo one other one p).length : Int), .int ((less one other p).length : Int)]) := hq
  rw [e] at hq
  simp only [List.length_map]
  exact hq
end
end K13

set_option maxRecDepth 100000
set_option maxHeartbeats 4000000
set_option autoImplicit false
/-! Walks, part 5: the law's helpers. -/
namespace K13
open PySem PySem.Spec PyProof.Rows L2
/-- the source of draws: three numbers, the third at most n -/
def Tin (n : Nat) (ts : List PyData) : Prop := ∃ a b c : Int, ts = [.int a, .int b, .int c] ∧ 0 ≤ a ∧ 0 ≤ b ∧ b < 2 ^ 62 ∧ 0 ≤ c ∧ c ≤ (n : Int)
theorem Tin.up {n m : Nat} {ts : List PyData} (h : Tin n ts) (e : n ≤ m) : Tin m ts := by
  obtain ⟨a, b, c, h0, h1, h2, h3, h4, h5⟩ := h
  exact ⟨a, b, c, h0, h1, h2, h3, h4, by omega⟩
theorem mod_in (i : Int) {j : Int} (h : 0 < j) : 0 ≤ i % j ∧ i % j < j := ⟨Int.emod_nonneg i (by omega), Int.emod_lt_of_pos i h⟩
section
variable {P : Program} {w : World} {K : PySem.W.Frag} {mg : Str → Option Value} {base : Heap}
theorem sc_take_L : FnScope ["_law_tin", "_law_below_so", "_law_draw_so", "_law_once_so", "_law_wide_so", "_law_twice_so"] ["_law_tin", "_law_below_so"] (defScope (topS 33)) := ⟨rfl, rfl, rfl, by decide +kernel, rfl, by decide +kernel, by decide +kernel⟩
def g_take_L : GM := fun ts ds Q => ∃ (n : Nat) (m : Int), Tin n ts ∧ n < 2 ^ 30 ∧ ds = [.int m] ∧ 0 < m ∧ m < 2 ^ 30 ∧ ∀ ts' r, Tin (n + 1) ts' → 0 ≤ r → r < m → Q (.int r) ts'
theorem h_take_L (G : Prog K mg) : Has P w K mg base "_law_take" 1 (tinR g_take_L) := by
  refine has_tin G.d_take_L sc_take_L (fun ts ds Q h => ?_) (fun f cdv A outer s H E hr ts ds Q h => ?_) <;> obtain ⟨n, m, ⟨a, b, c, rfl, ha, hb, hb2, hc, hc2⟩, hn, rfl, hm, hm2, hq⟩ := h
  · rfl
  refine fs_if (fb_frz rfl ?_)
  refine fb_gt ?_
  refine fe_ix ?_
  refine nm 0 ?_
  refine fe_int ?_
  refine ⟨_, rfl, ?_⟩
  refine fe_int ?_
  by_cases h0 : 0 < a
  · refine andV (decide_eq_true h0) ?_
    refine fs_set (i := 2) sc_take_L.nd rfl (by first | exact .inl rfl | exact .inr rfl) (fv_fe (fe_frz rfl ?_))
    refine fe_mod ?_
    refine fe_intc G.bl ?_
    refine fe_ix ?_
    refine nm 0 ?_
    refine fe_int ?_
    refine ⟨_, rfl, ?_⟩
    refine nm 1 ?_
    refine ⟨hm, ?_⟩
    refine ⟨rfl, ?_⟩
    refine fs_setL (i := 0) rfl (by first | exact Or.inl rfl | exact Or.inr (Or.inl rfl) | exact Or.inr (Or.inr rfl)) rfl (fe_frz rfl ?_)
    refine fe_div ?_
    refine fe_ix ?_
    refine nm 0 ?_
    refine fe_int ?_
    refine ⟨_, rfl, ?_⟩
    refine nm 1 ?_
    refine ⟨⟨hm, hm2⟩, ?_⟩
    refine ⟨rfl, ?_⟩
    refine fe_int ?_
    refine ⟨_, _, 0, rfl, rfl, rfl, ?_⟩
    refine fs_ret ?_
    refine nm 2 ?_
    refine ⟨_, _, rfl, hq _ _ ⟨a / m, b, c, rfl, Int.ediv_nonneg ha (by omega), hb, hb2, hc, by omega⟩ (mod_in a hm).1 (mod_in a hm).2⟩
  · refine andF (decide_eq_false h0) (fs_nil ?_)
    refine fs_setL (i := 0) rfl (by first | exact Or.inl rfl | exact Or.inr (Or.inl rfl) | exact Or.inr (Or.inr rfl)) rfl (fe_frz rfl ?_)
    refine fe_add ?_
    refine fe_ix ?_
    refine nm 0 ?_
    refine fe_int ?_
    refine ⟨_, rfl, ?_⟩
    refine fe_int ?_
    refine ⟨rfl, ?_⟩
    refine fe_int ?_
    refine ⟨_, _, 2, rfl, rfl, rfl, ?_⟩
    show FS _ _ _ [.lst [.int a, .int b, .int (c + 1)]] _
    have c0 : 0 ≤ c + 1 := by omega
    have c1 : c + 1 ≤ 2 ^ 31 := by omega
    refine fs_set (i := 3) sc_take_L.nd rfl (by first | exact .inl rfl | exact .inr rfl) (fv_fe (fe_frz rfl ?_))
    refine fe_mod ?_
    refine fe_intc G.bl ?_
    refine fe_mul ?_
    refine fe_add ?_
    refine fe_ix ?_
    refine nm 0 ?_
    refine fe_int ?_
    refine ⟨_, rfl, ?_⟩
    refine fe_mul ?_
    refine fe_int ?_
    refine fe_ix ?_
    refine nm 0 ?_
    refine fe_int ?_
    refine ⟨_, rfl, ?_⟩
    refine ⟨.inl (by omega), ?_⟩
    refine fe_add ?_
    refine fe_int ?_
    refine fe_ix ?_
    refine nm 0 ?_
    refine fe_int ?_
    refine ⟨_, rfl, ?_⟩
    refine ⟨.inr (by omega), ?_⟩
    refine fe_int ?_
    refine ⟨by decide, ?_⟩
    refine ⟨rfl, ?_⟩
    generalize ho : (b + 48271 * (c + 1)) * (39373 + (c + 1)) % 2147483647 = once
    have ho1 : 0 ≤ once ∧ once < 2147483647 := by rw [← ho]; exact mod_in _ (by decide)
    refine fs_set (i := 4) sc_take_L.nd rfl (by first | exact .inl rfl | exact .inr rfl) (fv_fe ?_)
    refine fe_add ?_
    refine fe_mod ?_
    refine fe_intc G.bl ?_
    refine nm 3 ?_
    refine fe_int ?_
    refine ⟨by decide, ?_⟩
    refine fe_int ?_
    generalize hw : once % 40009 = wide
    have hw1 : 0 ≤ wide ∧ wide < 40009 := by rw [← hw]; exact mod_in _ (by decide)
    refine fs_set (i := 5) sc_take_L.nd rfl (by first | exact .inl rfl | exact .inr rfl) (fv_fe (fe_frz rfl ?_))
    refine fe_mod ?_
    refine fe_intc G.bl ?_
    refine fe_mul ?_
    refine fe_add ?_
    refine fe_add ?_
    refine nm 3 ?_
    refine fe_ix ?_
    refine nm 0 ?_
    refine fe_int ?_
    refine ⟨_, rfl, ?_⟩
    refine fe_div ?_
    refine fe_ix ?_
    refine nm 0 ?_
    refine fe_int ?_
    refine ⟨_, rfl, ?_⟩
    refine fe_int ?_
    refine ⟨⟨by decide, by decide⟩, ?_⟩
    refine nm 4 ?_
    refine ⟨.inr (by omega), ?_⟩
    refine fe_int ?_
    refine ⟨by decide, ?_⟩
    refine ⟨rfl, ?_⟩
    generalize ht : (once + (c + 1) + b / 1000003) * (wide + 7) % 2147483629 = twice
    have ht1 : 0 ≤ twice ∧ twice < 2147483629 := by rw [← ht]; exact mod_in _ (by decide)
    refine fs_ret ?_
    refine fe_mod ?_
    refine fe_intc G.bl ?_
    refine fe_div ?_
    refine fe_mod ?_
    refine fe_intc G.bl ?_
    refine fe_add ?_
    refine fe_mul ?_
    refine nm 5 ?_
    refine fe_int ?_
    refine ⟨.inr (by omega), ?_⟩
    refine nm 3 ?_
    refine fe_int ?_
    refine ⟨by decide, ?_⟩
    refine fe_int ?_
    refine ⟨⟨by decide, by decide⟩, ?_⟩
    refine nm 1 ?_
    refine ⟨hm, ?_⟩
    exact ⟨_, _, rfl, hq _ _ ⟨a, b, c + 1, rfl, ha, hb, hb2, c0, by omega⟩ (mod_in _ hm).1 (mod_in _ hm).2⟩
theorem sc_of_L : FnScope ["_law_tin", "_law_goods_so"] ["_law_tin", "_law_goods_so"] (defScope (topS 35)) := ⟨rfl, rfl, rfl, by decide +kernel, rfl, by decide +kernel, by decide +kernel⟩
def g_of_L : GM := fun ts ds Q => ∃ (n : Nat) (xs : List PyData), Tin n ts ∧ n < 2 ^ 30 ∧ ds = [.list xs] ∧ xs ≠ [] ∧ xs.length < 1000 ∧ ∀ ts' x, Tin (n + 1) ts' → x ∈ xs → Q x ts'
theorem h_of_L (G : Prog K mg) : Has P w K mg base "_law_of" 2 (tinR g_of_L) := by
  refine has_tin G.d_of_L sc_of_L (fun ts ds Q h => ?_) (fun f cdv A outer s H E hr ts ds Q h => ?_) <;> obtain ⟨n, xs, ht, hn, rfl, hx, hx2, hq⟩ := h
  · rfl
  have hl : 0 < xs.length := List.length_pos_iff.mpr hx
  refine fs_ret ?_
  refine fe_ix ?_
  refine nm 1 ?_
  refine fe_callM (i := 0) (h_take_L G) hr rfl (by first | exact Or.inl rfl | exact Or.inr (Or.inl rfl) | exact Or.inr (Or.inr rfl)) rfl ?_
  refine fa_cons ?_
  refine fe_len G.bl ?_
  refine nm 1 ?_
  refine fa_nil ?_
  refine ⟨_, rfl, ?_⟩
  refine ⟨n, _, ht, hn, rfl, by omega, by omega, fun ts' r ht' r0 r1 => ?_⟩
  obtain ⟨m, rfl⟩ : ∃ m : Nat, r = (m : Int) := ⟨r.toNat, by omega⟩
  have hm : m < xs.length := by omega
  refine ⟨_, L2.atI_nat (List.getElem?_eq_getElem hm), ?_⟩
  exact ⟨_, _, rfl, hq _ _ ht' (List.getElem_mem hm)⟩
theorem sc_lists_L : FnScope ["_law_matter", "_law_bit"] ["_law_matter"] (defScope (topS 36)) := ⟨rfl, rfl, rfl, by decide +kernel, rfl, by decide +kernel, by decide +kernel⟩
def g_lists_L (n : Nat) : GC := fun ds Q => ∃ d e, ds = [d] ∧ okD n d = true ∧ toL n d = e ∧ Q e
theorem h_lists_L (G : Prog K mg) : ∀ n, Has P w K mg base "_law_lists" (n + 1) (pureR (g_lists_L n))
  | 0 => by
    refine has_pure G.d_lists_L sc_lists_L (fun ds Q h => ?_) (fun f cdv A outer s H E hr ds Q h => ?_) <;> obtain ⟨d, _, rfl, ho, rfl, hq⟩ := h
    · rfl
    refine fs_ret ?_
    refine fe_if (fb_val ?_)
    cases d with
    | int i =>
      refine fe_isi2 (Tn := "list") (Un := "tuple") G.bl G.bl.list (by decide +kernel) G.bl.tuple (by decide +kernel) ?_
      refine nm 0 ?_
      refine ⟨_, _, rfl, rfl, ?_⟩
      refine andF rfl ?_
      refine nm 0 ?_
      exact hq
    | bool i =>
      refine fe_isi2 (Tn := "list") (Un := "tuple") G.bl G.bl.list (by decide +kernel) G.bl.tuple (by decide +kernel) ?_
      refine nm 0 ?_
      refine ⟨_, _, rfl, rfl, ?_⟩
      refine andF rfl ?_
      refine nm 0 ?_
      exact hq
    | none =>
      refine fe_isi2 (Tn := "list") (Un := "tuple") G.bl G.bl.list (by decide +kernel) G.bl.tuple (by decide +kernel) ?_
      refine nm 0 ?_
      refine ⟨_, _, rfl, rfl, ?_⟩
      refine andF rfl ?_
      refine nm 0 ?_
      exact hq
    | _ => cases ho
  | n + 1 => by
    have ih := h_lists_L G n
    refine has_pure G.d_lists_L sc_lists_L (fun ds Q h => ?_) (fun f cdv A outer s H E hr ds Q h => ?_) <;> obtain ⟨d, _, rfl, ho, rfl, hq⟩ := h
    · rfl
    refine fs_ret ?_
    refine fe_if (fb_val ?_)
    cases d with
    | int i =>
      refine fe_isi2 (Tn := "list") (Un := "tuple") G.bl G.bl.list (by decide +kernel) G.bl.tuple (by decide +kernel) ?_
      refine nm 0 ?_
      refine ⟨_, _, rfl, rfl, ?_⟩
      refine andF rfl ?_
      refine nm 0 ?_
      exact hq
    | bool i =>
      refine fe_isi2 (Tn := "list") (Un := "tuple") G.bl G.bl.list (by decide +kernel) G.bl.tuple (by decide +kernel) ?_
      refine nm 0 ?_
      refine ⟨_, _, rfl, rfl, ?_⟩
      refine andF rfl ?_
      refine nm 0 ?_
      exact hq
    | none =>
      refine fe_isi2 (Tn := "list") (Un := "tuple") G.bl G.bl.list (by decide +kernel) G.bl.tuple (by decide +kernel) ?_
      refine nm 0 ?_
      refine ⟨_, _, rfl, rfl, ?_⟩
      refine andF rfl ?_
      refine nm 0 ?_
      exact hq
    | list ds =>
      rw [okD, Bool.and_eq_true, decide_eq_true_eq, List.all_eq_true] at ho
      refine fe_isi2 (Tn := "list") (Un := "tuple") G.bl G.bl.list (by decide +kernel) G.bl.tuple (by decide +kernel) ?_
      refine nm 0 ?_
      refine ⟨_, _, rfl, rfl, ?_⟩
      refine andV rfl ?_
      refine fe_fn (lcN1 1 id (toL n) sc_lists_L.nd (by show blkC ["_law_matter", "_law_bit"] (defScope (topS 36)) _ _ = true; decide +kernel) (fi_lst ?_))
      refine nm 0 ?_
      refine ⟨ds, rfl, ds, (List.map_id _).symm, Nat.lt_trans ho.1 (by decide), fun d hd s H C cl fp => ?_, hq⟩
      refine fe_call ih hr ?_ (Nat.le_refl _)
      refine fa_cons ?_
      refine nm 1 ?_
      refine fa_nil ?_
      exact ⟨d, _, rfl, ho.2 d hd, rfl, rfl, rfl⟩
    | tuple ds =>
      rw [okD, Bool.and_eq_true, decide_eq_true_eq, List.all_eq_true] at ho
      refine fe_isi2 (Tn := "list") (Un := "tuple") G.bl G.bl.list (by decide +kernel) G.bl.tuple (by decide +kernel) ?_
      refine nm 0 ?_
      refine ⟨_, _, rfl, rfl, ?_⟩
      refine andV rfl ?_
      refine fe_fn (lcN1 1 id (toL n) sc_lists_L.nd (by show blkC ["_law_matter", "_law_bit"] (defScope (topS 36)) _ _ = true; decide +kernel) (fi_tup ?_))
      refine nm 0 ?_
      refine ⟨ds, rfl, ds, (List.map_id _).symm, Nat.lt_trans ho.1 (by decide), fun d hd s H C cl fp => ?_, hq⟩
      refine fe_call ih hr ?_ (Nat.le_refl _)
      refine fa_cons ?_
      refine nm 1 ?_
      refine fa_nil ?_
      exact ⟨d, _, rfl, ho.2 d hd, rfl, rfl, rfl⟩
    | _ => cases ho
theorem sc_same_L : FnScope ["_law_got", "_law_due", "_law_mine", "_law_its"] ["_law_got", "_law_due"] (defScope (topS 37)) := ⟨rfl, rfl, rfl, by decide +kernel, rfl, by decide +kernel, by decide +kernel⟩
def g_same_L (n : Nat) : GC := fun ds Q => ∃ d, ds = [d, d] ∧ okD n d = true ∧ Q (.bool true)
theorem zip_self (ds : List PyData) : zipD ds ds = ds.map fun d => .tuple [d, d] := by
  unfold zipD
  induction ds with
  | nil => rfl
  | cons d ds ih => rw [List.zip_cons_cons, List.map_cons, List.map_cons, ih]
theorem h_same_L (G : Prog K mg) : ∀ n, Has P w K mg base "_law_same" (n + 1) (pureR (g_same_L n))
  | 0 => by
    refine has_pure G.d_same_L sc_same_L (fun ds Q h => ?_) (fun f cdv A outer s H E hr ds Q h => ?_) <;> obtain ⟨d, rfl, ho, hq⟩ := h
    · rfl
    cases d with
    | int i =>
      refine fs_if (fb_val ?_)
      refine fe_isi2 (Tn := "list") (Un := "tuple") G.bl G.bl.list (by decide +kernel) G.bl.tuple (by decide +kernel) ?_
      refine nm 1 ?_
      refine ⟨_, _, rfl, rfl, ?_⟩
      refine andF rfl (fs_nil ?_)
      refine fs_if (fb_of (fw_or ?_))
      refine fb_isN ?_
      refine nm 1 ?_
      refine ifF rfl (fw_or1 (fb_val ?_))
      refine fe_isi2 (Tn := "bool") (Un := "str") G.bl G.bl.bool (by decide +kernel) G.bl.str (by decide +kernel) ?_
      refine nm 1 ?_
      refine ⟨_, _, rfl, rfl, ?_⟩
      refine andF rfl (fs_nil ?_)
      refine fs_ret ?_
      refine fe_and ?_
      refine fe_isi (Tn := "int") G.bl G.bl.int (by decide +kernel) ?_
      refine nm 0 ?_
      refine ⟨_, rfl, ?_⟩
      refine andV rfl ?_
      refine fe_and ?_
      refine fe_not ?_
      refine fe_isi (Tn := "bool") G.bl G.bl.bool (by decide +kernel) ?_
      refine nm 0 ?_
      refine ⟨_, rfl, ?_⟩
      refine asbE false rfl ?_
      refine andV rfl ?_
      refine fe_one ?_
      refine fe_eq hr ?_
      refine nm 0 ?_
      refine nm 1 ?_
      have e : decide (i = i) = true := decide_eq_true rfl
      show Q (.bool (decide (i = i)))
      rw [e]; exact hq
    | bool b =>
      refine fs_if (fb_val ?_)
      refine fe_isi2 (Tn := "list") (Un := "tuple") G.bl G.bl.list (by decide +kernel) G.bl.tuple (by decide +kernel) ?_
      refine nm 1 ?_
      refine ⟨_, _, rfl, rfl, ?_⟩
      refine andF rfl (fs_nil ?_)
      refine fs_if (fb_of (fw_or ?_))
      refine fb_isN ?_
      refine nm 1 ?_
      refine ifF rfl (fw_or1 (fb_val ?_))
      refine fe_isi2 (Tn := "bool") (Un := "str") G.bl G.bl.bool (by decide +kernel) G.bl.str (by decide +kernel) ?_
      refine nm 1 ?_
      refine ⟨_, _, rfl, rfl, ?_⟩
      refine andV rfl ?_
      refine fs_ret ?_
      refine fe_and ?_
      refine fe_eq hr ?_
      refine nm 0 ?_
      refine nm 1 ?_
      refine andV (decide_eq_true rfl) ?_
      refine fe_and ?_
      refine fe_eq hr ?_
      refine fe_isi (Tn := "bool") G.bl G.bl.bool (by decide +kernel) ?_
      refine nm 0 ?_
      refine ⟨_, rfl, ?_⟩
      refine fe_isi (Tn := "bool") G.bl G.bl.bool (by decide +kernel) ?_
      refine nm 1 ?_
      refine ⟨_, rfl, ?_⟩
      refine gEqB rfl ?_
      refine andT ?_
      refine fe_one ?_
      refine fe_eq hr ?_
      refine fe_isN ?_
      refine nm 0 ?_
      refine fe_isN ?_
      refine nm 1 ?_
      exact hq
    | none =>
      refine fs_if (fb_val ?_)
      refine fe_isi2 (Tn := "list") (Un := "tuple") G.bl G.bl.list (by decide +kernel) G.bl.tuple (by decide +kernel) ?_
      refine nm 1 ?_
      refine ⟨_, _, rfl, rfl, ?_⟩
      refine andF rfl (fs_nil ?_)
      refine fs_if (fb_of (fw_or ?_))
      refine fb_isN ?_
      refine nm 1 ?_
      refine ifV rfl ?_
      refine iteT ?_
      refine fs_ret ?_
      refine fe_and ?_
      refine fe_eq hr ?_
      refine nm 0 ?_
      refine nm 1 ?_
      refine ⟨le5 rfl, ?_⟩
      refine andV rfl ?_
      refine fe_and ?_
      refine fe_eq hr ?_
      refine fe_isi (Tn := "bool") G.bl G.bl.bool (by decide +kernel) ?_
      refine nm 0 ?_
      refine ⟨_, rfl, ?_⟩
      refine fe_isi (Tn := "bool") G.bl G.bl.bool (by decide +kernel) ?_
      refine nm 1 ?_
      refine ⟨_, rfl, ?_⟩
      refine gEqB rfl ?_
      refine andT ?_
      refine fe_one ?_
      refine fe_eq hr ?_
      refine fe_isN ?_
      refine nm 0 ?_
      refine fe_isN ?_
      refine nm 1 ?_
      exact hq
    | _ => cases ho
  | n + 1 => by
    have ih := h_same_L G n
    refine has_pure G.d_same_L sc_same_L (fun ds Q h => ?_) (fun f cdv A outer s H E hr ds Q h => ?_) <;> obtain ⟨d, rfl, ho, hq⟩ := h
    · rfl
    cases d with
    | int i =>
      refine fs_if (fb_val ?_)
      refine fe_isi2 (Tn := "list") (Un := "tuple") G.bl G.bl.list (by decide +kernel) G.bl.tuple (by decide +kernel) ?_
      refine nm 1 ?_
      refine ⟨_, _, rfl, rfl, ?_⟩
      refine andF rfl (fs_nil ?_)
      refine fs_if (fb_of (fw_or ?_))
      refine fb_isN ?_
      refine nm 1 ?_
      refine ifF rfl (fw_or1 (fb_val ?_))
      refine fe_isi2 (Tn := "bool") (Un := "str") G.bl G.bl.bool (by decide +kernel) G.bl.str (by decide +kernel) ?_
      refine nm 1 ?_
      refine ⟨_, _, rfl, rfl, ?_⟩
      refine andF rfl (fs_nil ?_)
      refine fs_ret ?_
      refine fe_and ?_
      refine fe_isi (Tn := "int") G.bl G.bl.int (by decide +kernel) ?_
      refine nm 0 ?_
      refine ⟨_, rfl, ?_⟩
      refine andV rfl ?_
      refine fe_and ?_
      refine fe_not ?_
      refine fe_isi (Tn := "bool") G.bl G.bl.bool (by decide +kernel) ?_
      refine nm 0 ?_
      refine ⟨_, rfl, ?_⟩
      refine asbE false rfl ?_
      refine andV rfl ?_
      refine fe_one ?_
      refine fe_eq hr ?_
      refine nm 0 ?_
      refine nm 1 ?_
      have e : decide (i = i) = true := decide_eq_true rfl
      show Q (.bool (decide (i = i)))
      rw [e]; exact hq
    | bool b =>
      refine fs_if (fb_val ?_)
      refine fe_isi2 (Tn := "list") (Un := "tuple") G.bl G.bl.list (by decide +kernel) G.bl.tuple (by decide +kernel) ?_
      refine nm 1 ?_
      refine ⟨_, _, rfl, rfl, ?_⟩
      refine andF rfl (fs_nil ?_)
      refine fs_if (fb_of (fw_or ?_))
      refine fb_isN ?_
      refine nm 1 ?_
      refine ifF rfl (fw_or1 (fb_val ?_))
      refine fe_isi2 (Tn := "bool") (Un := "str") G.bl G.bl.bool (by decide +kernel) G.bl.str (by decide +kernel) ?_
      refine nm 1 ?_
      refine ⟨_, _, rfl, rfl, ?_⟩
      refine andV rfl ?_
      refine fs_ret ?_
      refine fe_and ?_
      refine fe_eq hr ?_
      refine nm 0 ?_
      refine nm 1 ?_
      refine andV (decide_eq_true rfl) ?_
      refine fe_and ?_
      refine fe_eq hr ?_
      refine fe_isi (Tn := "bool") G.bl G.bl.bool (by decide +kernel) ?_
      refine nm 0 ?_
      refine ⟨_, rfl, ?_⟩
      refine fe_isi (Tn := "bool") G.bl G.bl.bool (by decide +kernel) ?_
      refine nm 1 ?_
      refine ⟨_, rfl, ?_⟩
      refine gEqB rfl ?_
      refine andT ?_
      refine fe_one ?_
      refine fe_eq hr ?_
      refine fe_isN ?_
      refine nm 0 ?_
      refine fe_isN ?_
      refine nm 1 ?_
      exact hq
    | none =>
      refine fs_if (fb_val ?_)
      refine fe_isi2 (Tn := "list") (Un := "tuple") G.bl G.bl.list (by decide +kernel) G.bl.tuple (by decide +kernel) ?_
      refine nm 1 ?_
      refine ⟨_, _, rfl, rfl, ?_⟩
      refine andF rfl (fs_nil ?_)
      refine fs_if (fb_of (fw_or ?_))
      refine fb_isN ?_
      refine nm 1 ?_
      refine ifV rfl ?_
      refine iteT ?_
      refine fs_ret ?_
      refine fe_and ?_
      refine fe_eq hr ?_
      refine nm 0 ?_
      refine nm 1 ?_
      refine ⟨le5 rfl, ?_⟩
      refine andV rfl ?_
      refine fe_and ?_
      refine fe_eq hr ?_
      refine fe_isi (Tn := "bool") G.bl G.bl.bool (by decide +kernel) ?_
      refine nm 0 ?_
      refine ⟨_, rfl, ?_⟩
      refine fe_isi (Tn := "bool") G.bl G.bl.bool (by decide +kernel) ?_
      refine nm 1 ?_
      refine ⟨_, rfl, ?_⟩
      refine gEqB rfl ?_
      refine andT ?_
      refine fe_one ?_
      refine fe_eq hr ?_
      refine fe_isN ?_
      refine nm 0 ?_
      refine fe_isN ?_
      refine nm 1 ?_
      exact hq
    | list ds =>
      rw [okD, Bool.and_eq_true, decide_eq_true_eq, List.all_eq_true] at ho
      refine fs_if (fb_val ?_)
      refine fe_isi2 (Tn := "list") (Un := "tuple") G.bl G.bl.list (by decide +kernel) G.bl.tuple (by decide +kernel) ?_
      refine nm 1 ?_
      refine ⟨_, _, rfl, rfl, ?_⟩
      refine andV rfl ?_
      refine fs_if (fb_of (fw_or ?_))
      refine fb_ne hr ?_
      refine fe_isi (Tn := "list") G.bl G.bl.list (by decide +kernel) ?_
      refine nm 0 ?_
      refine ⟨_, rfl, ?_⟩
      refine fe_isi (Tn := "list") G.bl G.bl.list (by decide +kernel) ?_
      refine nm 1 ?_
      refine ⟨_, rfl, ?_⟩
      refine gNeB rfl ?_
      refine andF rfl (fw_or1 ?_)
      refine fb_ne hr ?_
      refine fe_isi (Tn := "tuple") G.bl G.bl.tuple (by decide +kernel) ?_
      refine nm 0 ?_
      refine ⟨_, rfl, ?_⟩
      refine fe_isi (Tn := "tuple") G.bl G.bl.tuple (by decide +kernel) ?_
      refine nm 1 ?_
      refine ⟨_, rfl, ?_⟩
      refine gNeB rfl ?_
      refine andF rfl (fs_nil ?_)
      refine fs_ret (fe_and ?_)
      refine fe_eq hr ?_
      refine fe_len G.bl ?_
      refine nm 0 ?_
      refine fe_len G.bl ?_
      refine nm 1 ?_
      refine andV (decide_eq_true rfl) (fe_one (fe_all G.bl rfl ?_))
      refine fe_fn (lcT 2 3 (fun d => .tuple [d, d]) (fun _ => true) (fun _ => .bool true) id id (fun _ => rfl) sc_same_L.nd (by show blkC ["_law_got", "_law_due", "_law_mine", "_law_its"] (defScope (topS 37)) _ _ = true; decide +kernel) (fi_zipL G.bl ?_))
      refine nm 0 ?_
      refine ⟨_, rfl, ?_⟩
      refine nm 1 ?_
      refine ⟨_, rfl, ds, zip_self ds, Nat.lt_trans ho.1 (by decide), fun d hd s H C cl fp => ⟨rfl, rfl, fun _ s H C cl fp => ?_⟩, ?_⟩
      · refine fe_call ih hr ?_ (Nat.le_refl _)
        refine fa_cons ?_
        refine nm 2 ?_
        refine fa_cons ?_
        refine nm 3 ?_
        refine fa_nil ?_
        exact ⟨d, rfl, ho.2 d hd, rfl, rfl⟩
      rw [List.filter_eq_self.mpr (fun _ _ => rfl)]
      refine ⟨ds.map fun _ => true, by rw [List.map_map]; rfl, ?_⟩
      have e : (ds.map fun _ => true).all id = true := by rw [List.all_eq_true]; intro b hb; obtain ⟨_, _, rfl⟩ := List.mem_map.mp hb; rfl
      rw [e]
      exact hq
    | tuple ds =>
      rw [okD, Bool.and_eq_true, decide_eq_true_eq, List.all_eq_true] at ho
      refine fs_if (fb_val ?_)
      refine fe_isi2 (Tn := "list") (Un := "tuple") G.bl G.bl.list (by decide +kernel) G.bl.tuple (by decide +kernel) ?_
      refine nm 1 ?_
      refine ⟨_, _, rfl, rfl, ?_⟩
      refine andV rfl ?_
      refine fs_if (fb_of (fw_or ?_))
      refine fb_ne hr ?_
      refine fe_isi (Tn := "list") G.bl G.bl.list (by decide +kernel) ?_
      refine nm 0 ?_
      refine ⟨_, rfl, ?_⟩
      refine fe_isi (Tn := "list") G.bl G.bl.list (by decide +kernel) ?_
      refine nm 1 ?_
      refine ⟨_, rfl, ?_⟩
      refine gNeB rfl ?_
      refine andF rfl (fw_or1 ?_)
      refine fb_ne hr ?_
      refine fe_isi (Tn := "tuple") G.bl G.bl.tuple (by decide +kernel) ?_
      refine nm 0 ?_
      refine ⟨_, rfl, ?_⟩
      refine fe_isi (Tn := "tuple") G.bl G.bl.tuple (by decide +kernel) ?_
      refine nm 1 ?_
      refine ⟨_, rfl, ?_⟩
      refine gNeB rfl ?_
      refine andF rfl (fs_nil ?_)
      refine fs_ret (fe_and ?_)
      refine fe_eq hr ?_
      refine fe_len G.bl ?_
      refine nm 0 ?_
      refine fe_len G.bl ?_
      refine nm 1 ?_
      refine andV (decide_eq_true rfl) (fe_one (fe_all G.bl rfl ?_))
      refine fe_fn (lcT 2 3 (fun d => .tuple [d, d]) (fun _ => true) (fun _ => .bool true) id id (fun _ => rfl) sc_same_L.nd (by show blkC ["_law_got", "_law_due", "_law_mine", "_law_its"] (defScope (topS 37)) _ _ = true; decide +kernel) (fi_zipT G.bl ?_))
      refine nm 0 ?_
      refine ⟨_, rfl, ?_⟩
      refine nm 1 ?_
      refine ⟨_, rfl, ds, zip_self ds, Nat.lt_trans ho.1 (by decide), fun d hd s H C cl fp => ⟨rfl, rfl, fun _ s H C cl fp => ?_⟩, ?_⟩
      · refine fe_call ih hr ?_ (Nat.le_refl _)
        refine fa_cons ?_
        refine nm 2 ?_
        refine fa_cons ?_
        refine nm 3 ?_
        refine fa_nil ?_
        exact ⟨d, rfl, ho.2 d hd, rfl, rfl⟩
      rw [List.filter_eq_self.mpr (fun _ _ => rfl)]
      refine ⟨ds.map fun _ => true, by rw [List.map_map]; rfl, ?_⟩
      have e : (ds.map fun _ => true).all id = true := by rw [List.all_eq_true]; intro b hb; obtain ⟨_, _, rfl⟩ := List.mem_map.mp hb; rfl
      rw [e]
      exact hq
    | _ => cases ho
theorem okD_plain : ∀ (n : Nat) (d : PyData), okD n d = true → d.plain = true
  | _, .int _, _ => rfl
  | _, .bool _, _ => rfl
  | _, .none, _ => rfl
  | _, .str _, _ => rfl
  | 0, .list ds, h => by cases h
  | 0, .tuple ds, h => by cases h
  | 0, .dict _, h => by cases h
  | n + 1, .dict _, h => by cases h
  | n + 1, .list ds, h => by
    rw [okD, Bool.and_eq_true, List.all_eq_true] at h
    rw [PyData.plain]
    have h2 := h.2
    clear h
    induction ds with
    | nil => rfl
    | cons d ds ih => rw [PyData.plainAll, okD_plain n d (h2 d List.mem_cons_self), ih fun x hx => h2 x (List.mem_cons_of_mem _ hx)]; rfl
  | n + 1, .tuple ds, h => by
    rw [okD, Bool.and_eq_true, List.all_eq_true] at h
    rw [PyData.plain]
    have h2 := h.2
    clear h
    induction ds with
    | nil => rfl
    | cons d ds ih => rw [PyData.plainAll, okD_plain n d (h2 d List.mem_cons_self), ih fun x hx => h2 x (List.mem_cons_of_mem _ hx)]; rfl
end
end K13

set_option maxRecDepth 100000
set_option maxHeartbeats 4000000
set_option autoImplicit false
/-! Walks, part 6: neighbours, room, steps, walks. -/
namespace K13
open PySem PySem.Spec PyProof.Rows L2
section
variable {P : Program} {w : World} {K : PySem.W.Frag} {mg : Str → Option Value} {base : Heap}
theorem sc_is_number_L : FnScope ["_law_own"] ["_law_own"] (defScope (topS 38)) := ⟨rfl, rfl, rfl, by decide +kernel, rfl, by decide +kernel, by decide +kernel⟩
theorem h_is_number_L (G : Prog K mg) : Has P w K mg base "_law_is_number" 1 (pureR g_is_number) := by
  refine has_pure G.d_is_number_L sc_is_number_L (fun ds Q h => ?_) (fun f cdv A outer s H E hr ds Q h => ?_) <;> obtain ⟨i, rfl, hq⟩ := h
  · rfl
  refine fs_ret ?_
  refine fe_and ?_
  refine fe_isi (Tn := "int") G.bl G.bl.int (by decide +kernel) ?_
  refine nm 0 ?_
  refine ⟨_, rfl, ?_⟩
  refine andT ?_
  refine fe_one ?_
  refine fe_not ?_
  refine fe_isi (Tn := "bool") G.bl G.bl.bool (by decide +kernel) ?_
  refine nm 0 ?_
  refine ⟨_, rfl, ?_⟩
  exact hq
theorem sc_put_L : FnScope ["_law_row_so", "_law_place_so", "_law_bit_so"] ["_law_row_so", "_law_place_so", "_law_bit_so"] (defScope (topS 39)) := ⟨rfl, rfl, rfl, by decide +kernel, rfl, by decide +kernel, by decide +kernel⟩
theorem h_put_L (G : Prog K mg) : Has P w K mg base "_law_put" 1 (pureR g_put_at) := by
  refine has_pure G.d_put_L sc_put_L (fun ds Q h => ?_) (fun f cdv A outer s H E hr ds Q h => ?_) <;> obtain ⟨xs, k, d, rfl, h0, h1, hl, hq⟩ := h
  · rfl
  have c1 := cut_front (ds := xs) h0
  have c2 := cut_back (ds := xs) (k := k + 1) (by omega)
  have t1 : (k + 1).toNat = k.toNat + 1 := by omega
  rw [t1] at c2
  refine fs_ret ?_
  refine fe_add ?_
  refine fe_add ?_
  refine fe_slice ?_
  refine nm 0 ?_
  refine nm 1 ?_
  refine ⟨_, rfl, ?_⟩
  refine fe_tup ?_
  refine fa_cons ?_
  refine nm 2 ?_
  refine fa_nil ?_
  refine ⟨Nat.le_of_ble_eq_true rfl, ?_⟩
  refine ⟨by rw [c1, List.length_take]; simp; omega, ?_⟩
  refine fe_slice ?_
  refine nm 0 ?_
  refine fe_add ?_
  refine nm 1 ?_
  refine fe_int ?_
  refine ⟨_, rfl, ?_⟩
  refine ⟨by rw [c1, c2]; simp; omega, ?_⟩
  show Q (.tuple (cutD xs none (some k) ++ [d] ++ cutD xs (some (k + 1)) none))
  rw [c1, c2, set_cut (by omega)]
  exact hq
theorem sc_is_pair_L : FnScope ["_law_own"] ["_law_own"] (defScope (topS 40)) := ⟨rfl, rfl, rfl, by decide +kernel, rfl, by decide +kernel, by decide +kernel⟩
def g_is_pair_L : GC := fun ds Q => ∃ d : Deed, ds = [pD d] ∧ Q (.bool true)
theorem h_is_pair_L (G : Prog K mg) : Has P w K mg base "_law_is_pair" 2 (pureR g_is_pair_L) := by
  refine has_pure G.d_is_pair_L sc_is_pair_L (fun ds Q h => ?_) (fun f cdv A outer s H E hr ds Q h => ?_) <;> obtain ⟨d, rfl, hq⟩ := h
  · rfl
  refine fs_ret ?_
  refine fe_and ?_
  refine fe_isi (Tn := "tuple") G.bl G.bl.tuple (by decide +kernel) ?_
  refine nm 0 ?_
  refine ⟨_, rfl, ?_⟩
  refine andT ?_
  refine fe_and ?_
  refine fe_eq hr ?_
  refine fe_len G.bl ?_
  refine nm 0 ?_
  refine fe_int ?_
  refine gEqI rfl ?_
  refine andT ?_
  refine fe_and ?_
  refine fe_call (h_is_number_L G) hr ?_
  refine fa_cons ?_
  refine fe_ix ?_
  refine nm 0 ?_
  refine fe_int ?_
  refine ⟨_, rfl, ?_⟩
  refine fa_nil ?_
  refine ⟨_, rfl, ?_⟩
  refine andT ?_
  refine fe_one ?_
  refine fe_call (h_is_number_L G) hr ?_
  refine fa_cons ?_
  refine fe_ix ?_
  refine nm 0 ?_
  refine fe_int ?_
  refine ⟨_, rfl, ?_⟩
  refine fa_nil ?_
  refine ⟨_, rfl, ?_⟩
  exact hq
theorem sc_next_to_L : FnScope ["_law_frame_so", "_law_k", "_law_own"] ["_law_frame_so", "_law_k"] (defScope (topS 43)) := ⟨rfl, rfl, rfl, by decide +kernel, rfl, by decide +kernel, by decide +kernel⟩
def g_next_to_L : GC := fun ds Q => ∃ (n : Nat) (bs : List Beam) (k : Int), ds = [fD n bs, .int k] ∧ bs.length < 1000 ∧ ∀ ns' : List Int, ns'.Perm (nbs bs k) → Q (.list (ns'.map .int))
theorem h_next_to_L (G : Prog K mg) : Has P w K mg base "_law_next_to" 1 (pureR g_next_to_L) := by
  refine has_pure G.d_next_to_L sc_next_to_L (fun ds Q h => ?_) (fun f cdv A outer s H E hr ds Q h => ?_) <;> obtain ⟨n, bs, k, rfl, hl, hq⟩ := h
  · rfl
  refine fs_ret (fe_sorted G.bl ?_)
  refine fe_fn (lcN 2 pD (hasB k) (fun b => .int (otherB k b)) sc_next_to_L.nd (by show blkC ["_law_frame_so", "_law_k", "_law_own"] (defScope (topS 43)) _ _ = true; decide +kernel) (fi_tup ?_))
  refine fe_ix ?_
  refine nm 0 ?_
  refine fe_int ?_
  refine ⟨_, rfl, ?_⟩
  refine ⟨_, rfl, bs, rfl, Nat.lt_trans hl (by decide), fun b hb s H C cl fp => ?_, ?_⟩
  · show FB _ _ _ _ _
    refine fb_in hr ?_
    refine nm 1 ?_
    refine nm 2 ?_
    refine ⟨Nat.zero_le _, ?_⟩
    rw [in_pair]
    refine ⟨rfl, rfl, fun _ s H C cl fp => ?_⟩
    refine fe_if ?_
    refine fb_eq hr ?_
    refine fe_ix ?_
    refine nm 2 ?_
    refine fe_int ?_
    refine ⟨_, rfl, ?_⟩
    refine nm 1 ?_
    unfold otherB
    by_cases c : b.1 = k
    · rw [if_pos c]
      refine andV (decide_eq_true c) ?_
      refine fe_ix ?_
      refine nm 2 ?_
      refine fe_int ?_
      refine ⟨_, rfl, ?_⟩
      exact ⟨rfl, rfl⟩
    · rw [if_neg c]
      refine andF (decide_eq_false c) ?_
      refine fe_ix ?_
      refine nm 2 ?_
      refine fe_int ?_
      refine ⟨_, rfl, ?_⟩
      exact ⟨rfl, rfl⟩
  · have e : ((bs.filter (hasB k)).map fun b => PyData.int (otherB k b)) = (nbs bs k).map .int := by unfold nbs; rw [List.map_map]; rfl
    refine ⟨nbs bs k, congrArg (fun l => [PyData.list l]) e, Nat.le_trans (nbs_length bs k) (by omega), fun ns' hp => hq ns' hp⟩
theorem sc_roomy_L : FnScope ["_law_frame_so", "_law_own", "_law_k", "_law_near_so", "_law_j"] ["_law_frame_so", "_law_own", "_law_k"] (defScope (topS 46)) := ⟨rfl, rfl, rfl, by decide +kernel, rfl, by decide +kernel, by decide +kernel⟩
def g_roomy_L : GC := fun ds Q => ∃ (n : Nat) (bs : List Beam) (hs : List Int) (k : Int), ds = [fD n bs, sD hs, .int k] ∧ FrOk n bs ∧ hs.length = n ∧ 0 ≤ k ∧ k < (n : Int) ∧ Bnd 100000 hs ∧ ∀ lo hi : Int, (∀ h, (lo ≤ h ∧ h < hi) ↔ roomB bs hs k h = true) → hi - lo ≤ 3 → Q (.list (rgD lo hi))
theorem h_roomy_L (G : Prog K mg) : Has P w K mg base "_law_roomy" 2 (pureR g_roomy_L) := by
  refine has_pure G.d_roomy_L sc_roomy_L (fun ds Q h => ?_) (fun f cdv A outer s H E hr ds Q h => ?_) <;> obtain ⟨n, bs, hs, k, rfl, Fr, hl, k0, k1, B, hq⟩ := h
  · rfl
  refine fs_fl (i := 3) ?_ rfl
  refine (flN1 4 PyData.int (fun j => .int (at0 hs j)) sc_roomy_L.nd (by show blkC ["_law_frame_so", "_law_own", "_law_k", "_law_near_so", "_law_j"] (defScope (topS 46)) _ _ = true; decide +kernel) (fi_lst ?_))
  refine fe_call (h_next_to_L G) hr ?_
  refine fa_cons ?_
  refine nm 0 ?_
  refine fa_cons ?_
  refine nm 2 ?_
  refine fa_nil ?_
  refine ⟨n, bs, k, rfl, Fr.len, fun ns' hp => ?_⟩
  have hin : ∀ j ∈ ns', 0 ≤ j ∧ j < (n : Int) := fun j hj => nbs_in Fr k j (hp.mem_iff.mp hj)
  refine ⟨_, rfl, ns', rfl, ?_, fun j hj s H C cl fp => ?_, ?_⟩
  · rw [hp.length_eq]; exact Nat.lt_of_le_of_lt (nbs_length bs k) (Nat.lt_trans Fr.len (by decide))
  · skip
    refine fe_ix ?_
    refine nm 1 ?_
    refine nm 4 ?_
    refine ⟨_, at_ints (by rw [hl]; exact hin j hj), ?_⟩
    exact ⟨rfl, rfl⟩
  have hne : ns' ≠ [] := fun e => nbs_ne Fr ⟨k0, k1⟩ (by rw [e] at hp; exact hp.nil_eq.symm)
  have e1 : (ns'.map fun j => PyData.int (at0 hs j)) = (ns'.map (at0 hs)).map .int := by rw [List.map_map]; rfl
  rw [e1]
  have hpm := hp.map (at0 hs)
  cases e2 : ns'.map (at0 hs) with
  | nil => rw [List.map_eq_nil_iff] at e2; exact absurd e2 hne
  | cons x xs =>
    rw [e2] at hpm
    obtain ⟨r1, r2⟩ := room_range Fr hpm
    have bd : ∀ y ∈ x :: xs, -100000 ≤ y ∧ y ≤ 100000 := fun y hy => by
      obtain ⟨j, hj, rfl⟩ := List.mem_map.mp (hpm.mem_iff.mp hy)
      have := nbs_in Fr k j hj
      exact B j this.1 (by rw [hl]; exact this.2)
    have bM := bd _ (fold_max xs x).2
    have bm := bd _ (fold_min xs x).2
    refine fs_ret ?_
    refine fe_listRange G.bl rfl ?_
    refine fe_sub ?_
    refine fe_max1 G.bl rfl hr ?_
    refine nm 3 ?_
    refine ⟨alike_all_ints (x :: xs), depth_all_ints (x :: xs), ?_⟩
    rw [PySem.W.maxD_ints]
    refine fe_int ?_
    refine fe_add ?_
    refine fe_min1 G.bl rfl hr ?_
    refine nm 3 ?_
    refine ⟨alike_all_ints (x :: xs), depth_all_ints (x :: xs), ?_⟩
    rw [PySem.W.minD_ints]
    refine fe_int ?_
    refine ⟨_, _, rfl, rfl, by omega, by omega, by omega, by omega, by omega, ?_⟩
    exact hq _ _ r1 (by omega)
theorem sc_steps_L : FnScope ["_law_frame_so", "_law_own", "_law_found", "_law_k", "_law_height_so"] ["_law_frame_so", "_law_own"] (defScope (topS 47)) := ⟨rfl, rfl, rfl, by decide +kernel, rfl, by decide +kernel, by decide +kernel⟩
def stepD (hs : List Int) (d : Deed) : PyData := .tuple [pD d, sD (put0 hs d.1 d.2)]
def g_steps_L : GC := fun ds Q => ∃ (n : Nat) (bs : List Beam) (hs : List Int), ds = [fD n bs, sD hs] ∧ FrOk n bs ∧ hs.length = n ∧ Bnd 100000 hs ∧ ∀ l : List Deed, l.length ≤ 15 → (∀ d ∈ l, stepB bs hs d = true) → Q (.list (l.map (stepD hs)))
theorem h_steps_L (G : Prog K mg) : Has P w K mg base "_law_steps" 3 (pureR g_steps_L) := by
  refine has_pure G.d_steps_L sc_steps_L (fun ds Q h => ?_) (fun f cdv A outer s H E hr ds Q h => ?_) <;> obtain ⟨n, bs, hs, rfl, Fr, hl, B, hq⟩ := h
  · rfl
  have hn5 := Fr.hi
  refine fs_set (i := 2) sc_steps_L.nd rfl (by first | exact .inl rfl | exact .inr rfl) (fv_fn (fn_lst (fa_nil ⟨le5 rfl, ?_⟩)))
  refine fs_for rfl (tg_name (i := 3) sc_steps_L.nd rfl (by first | exact .inl rfl | exact .inr rfl) (.inl rfl)) (fi_range G.bl ?_)
  refine fe_ix ?_
  refine nm 0 ?_
  refine fe_int ?_
  refine ⟨_, rfl, ?_⟩
  refine ⟨(n : Int), rfl, by omega, by omega, fun i Γ m => ∃ x y l, Γ = [.dat (fD n bs), .dat (sD hs), .ob 0, x, y] ∧ m = [.lst (l.map (stepD hs))] ∧ l.length ≤ 3 * i ∧ ∀ d ∈ l, stepB bs hs d = true, ⟨_, _, [], rfl, rfl, Nat.le_refl _, fun d hd => (by cases hd)⟩, fun i d Γ m hd iv => ?_, fun Γ m iv => ?_⟩
  · obtain ⟨x, y, l, rfl, rfl, ll, lh⟩ := iv
    obtain ⟨rfl, hi⟩ := rgN_get hd
    rw [Int.toNat_natCast] at hi
    rw [Int.zero_add]
    refine fs_for rfl (tg_name (i := 4) sc_steps_L.nd rfl (by first | exact .inl rfl | exact .inr rfl) (.inl rfl)) (fi_lst ?_)
    refine fe_call (h_roomy_L G) hr ?_
    refine fa_cons ?_
    refine nm 0 ?_
    refine fa_cons ?_
    refine nm 1 ?_
    refine fa_cons ?_
    refine nm 3 ?_
    refine fa_nil ?_
    refine ⟨n, bs, hs, (i : Int), rfl, Fr, hl, by omega, by omega, B, fun lo hi' rr r3 => ?_⟩
    refine ⟨_, rfl, fun j Γ m => ∃ y l, Γ = [.dat (fD n bs), .dat (sD hs), .ob 0, .dat (.int i), y] ∧ m = [.lst (l.map (stepD hs))] ∧ l.length ≤ 3 * i + j ∧ ∀ d ∈ l, stepB bs hs d = true, ⟨_, l, rfl, rfl, ll, lh⟩, fun j d Γ m hd iv => ?_, fun Γ m iv => ?_⟩
    · obtain ⟨y, l, rfl, rfl, ll, lh⟩ := iv
      obtain ⟨h, rfl, b1, b2, b3⟩ := rgD_mem hd
      have rm := (rr h).mp ⟨b1, b2⟩
      refine fs_if ?_
      refine fb_ne hr ?_
      refine nm 4 ?_
      refine fe_ix ?_
      refine nm 1 ?_
      refine nm 3 ?_
      refine ⟨_, at_ints (by rw [hl]; omega), ?_⟩
      by_cases c : h = at0 hs (i : Int)
      · refine andF (by rw [decide_eq_true c]; rfl) ?_
        exact fs_nil (fs_nil ⟨_, l, rfl, rfl, by omega, lh⟩)
      · refine andV (by rw [decide_eq_false c]; rfl) ?_
        refine fs_app (i := 2) rfl (by first | exact Or.inl rfl | exact Or.inr (Or.inl rfl) | exact Or.inr (Or.inr rfl)) rfl ⟨_, rfl⟩ ?_
        refine fe_tup ?_
        refine fa_cons ?_
        refine fe_tup ?_
        refine fa_cons ?_
        refine nm 3 ?_
        refine fa_cons ?_
        refine nm 4 ?_
        refine fa_nil ?_
        refine ⟨Nat.le_of_ble_eq_true rfl, ?_⟩
        refine fa_cons ?_
        refine fe_call (h_put_L G) hr ?_
        refine fa_cons ?_
        refine nm 1 ?_
        refine fa_cons ?_
        refine nm 3 ?_
        refine fa_cons ?_
        refine nm 4 ?_
        refine fa_nil ?_
        refine ⟨_, _, _, rfl, by omega, by rw [List.length_map]; omega, by rw [List.length_map]; omega, ?_⟩
        rw [put_ints]
        refine fa_nil ?_
        refine ⟨Nat.le_of_ble_eq_true rfl, ?_⟩
        refine ⟨_, rfl, by rw [List.length_map]; omega, fs_nil (fs_nil ?_)⟩
        refine ⟨_, l ++ [((i : Int), h)], rfl, ?_, by rw [List.length_append, List.length_singleton]; omega, fun d hd => ?_⟩
        · rw [List.map_append]; rfl
        · rcases List.mem_append.mp hd with hd | hd
          · exact lh d hd
          · rw [List.mem_singleton.mp hd]
            exact stepB_iff.mpr ⟨⟨by show (0 : Int) ≤ (i : Int); omega, by show (i : Int) < _; omega⟩, c, rm⟩
    · obtain ⟨y, l, rfl, rfl, ll, lh⟩ := iv
      rw [rgD_length] at ll
      refine fs_nil ⟨_, _, l, rfl, rfl, by omega, lh⟩
  · obtain ⟨x, y, l, rfl, rfl, ll, lh⟩ := iv
    rw [rgN_length, Int.toNat_natCast] at ll
    refine fs_retM (i := 2) rfl (by first | exact Or.inl rfl | exact Or.inr (Or.inl rfl) | exact Or.inr (Or.inr rfl)) rfl rfl ?_
    exact hq l (by omega) lh
theorem sc_walk_so_L : FnScope ["_law_frame_so", "_law_one_so", "_law_own", "_law_its", "_law_found", "_law_k", "_law_height_so", "_law_now_so"] ["_law_frame_so", "_law_one_so", "_law_own"] (defScope (topS 50)) := ⟨rfl, rfl, rfl, by decide +kernel, rfl, by decide +kernel, by decide +kernel⟩
def g_walk_so_L : GC := fun ds Q => ∃ (n : Nat) (bs : List Beam) (one : List Int) (p : List Deed), ds = [fD n bs, sD one, bsD p] ∧ FrOk n bs ∧ Stand n bs one ∧ p.length < 1000 ∧ Bnd 100000 one ∧ (∀ d ∈ p, 0 ≤ d.1 ∧ d.1 < (n : Int) ∧ -100000 ≤ d.2 ∧ d.2 ≤ 100000) ∧
  (runs bs one p = true → Q (.list ((stands one p).map sD))) ∧ (runs bs one p = false → Q .none)
theorem runs_take_false {bs : List Beam} {p : List Deed} {hs : List Int} {x : Deed} {i : Nat} (hx : p[i]? = some x) (h : stepB bs (fin hs (p.take i)) x = false) : runs bs hs p = false := by
  cases e : runs bs hs p with
  | false => rfl
  | true => rw [(runs_at e hx).2] at h; cases h
theorem h_walk_so_L (G : Prog K mg) : Has P w K mg base "_law_walk_so" 3 (pureR g_walk_so_L) := by
  refine has_pure G.d_walk_so_L sc_walk_so_L (fun ds Q h => ?_) (fun f cdv A outer s H E hr ds Q h => ?_) <;> obtain ⟨n, bs, one, p, rfl, Fr, S, pl, B, hp, hq1, hq2⟩ := h
  · rfl
  refine fs_if (fb_of (fw_or (fb_not ?_)))
  refine fb_val ?_
  refine fe_isi (Tn := "tuple") G.bl G.bl.tuple (by decide +kernel) ?_
  refine nm 2 ?_
  refine ⟨_, rfl, ?_⟩
  refine asbNT rfl ?_
  refine fw_or1 ?_
  refine fb_not ?_
  refine fb_val ?_
  refine fe_all G.bl rfl ?_
  refine fe_fn (lcN1 3 pD (fun _ => .bool true) sc_walk_so_L.nd (by show blkC ["_law_frame_so", "_law_one_so", "_law_own", "_law_its", "_law_found", "_law_k", "_law_height_so", "_law_now_so"] (defScope (topS 50)) _ _ = true; decide +kernel) ?_)
  refine fi_tup ?_
  refine nm 2 ?_
  refine ⟨_, rfl, p, rfl, Nat.lt_trans pl (by decide), fun d hd s H C cl fp => ?_, ?_⟩
  · obtain ⟨d1, d2, d3, d4⟩ := hp d hd
    refine fe_and ?_
    refine fe_call (h_is_pair_L G) hr ?_
    refine fa_cons ?_
    refine nm 3 ?_
    refine fa_nil ?_
    refine ⟨_, rfl, ?_⟩
    refine andT ?_
    refine fe_one ?_
    refine fe_le_lt ?_
    refine fe_int ?_
    refine fe_ix ?_
    refine nm 3 ?_
    refine fe_int ?_
    refine ⟨_, rfl, ?_⟩
    refine andV (decide_eq_true d1) ?_
    refine fe_ix ?_
    refine nm 0 ?_
    refine fe_int ?_
    refine ⟨_, rfl, ?_⟩
    exact ⟨rfl, congrArg PyData.bool (decide_eq_true d2)⟩
  refine ⟨p.map fun _ => true, by rw [List.map_map]; rfl, ?_⟩
  have e : (p.map fun _ => true).all id = true := by rw [List.all_eq_true]; intro b hb; obtain ⟨_, _, rfl⟩ := List.mem_map.mp hb; rfl
  rw [e]
  refine asbNT rfl (fs_nil ?_)
  refine fs_set (i := 4) sc_walk_so_L.nd rfl (by first | exact .inl rfl | exact .inr rfl) (fv_fn (fn_lst ?_))
  refine fa_cons ?_
  refine nm 1 ?_
  refine fa_nil ?_
  refine ⟨le5 rfl, ?_⟩
  refine fs_for rfl (tg_tup rfl (tgs_cons (tg_name (i := 5) sc_walk_so_L.nd rfl (by first | exact .inl rfl | exact .inr rfl) (.inl rfl)) (tgs_cons (tg_name (i := 6) sc_walk_so_L.nd rfl (by first | exact .inl rfl | exact .inr rfl) (.inl rfl)) tgs_nil))) (fi_tup ?_)
  refine nm 2 ?_
  refine ⟨_, rfl, fun i Γ m => ∃ x y z u, Γ = [.dat (fD n bs), .dat (sD one), .dat (bsD p), x, .ob 0, y, z, u] ∧ m = [.lst ((stands one (p.take i)).map sD)] ∧ runs bs one (p.take i) = true, ⟨_, _, _, _, rfl, rfl, rfl⟩, fun i d Γ m hd iv => ?_, fun Γ m iv => ?_⟩
  · obtain ⟨x, y, z, u, rfl, rfl, ru⟩ := iv
    obtain ⟨dd, hdd, rfl⟩ := map_get hd
    obtain ⟨d1, d2, d3, d4⟩ := hp dd (List.mem_of_getElem? hdd)
    have S1 := runs_stand Fr _ _ S ru
    have B1 : Bnd 100000 (fin one (p.take i)) := fin_bnd _ _ B fun e he => by rw [S.len]; exact hp e (List.mem_of_mem_take he)
    refine ⟨rfl, rfl, ?_⟩
    refine fs_set (i := 7) sc_walk_so_L.nd rfl (by first | exact .inl rfl | exact .inr rfl) (fv_fe (fe_frz rfl ?_))
    refine fe_ix ?_
    refine nm 4 ?_
    refine fe_neg ?_
    refine fe_int ?_
    refine ⟨_, rfl, ?_⟩
    refine ⟨_, stands_at, ?_⟩
    refine ⟨flat_sD _, ?_⟩
    refine fs_if (fb_of (fw_or ?_))
    refine fb_eq hr ?_
    refine nm 6 ?_
    refine fe_ix ?_
    refine nm 7 ?_
    refine nm 5 ?_
    refine ⟨_, at_ints (by rw [S1.len]; exact ⟨d1, d2⟩), ?_⟩
    by_cases c : dd.2 = at0 (fin one (p.take i)) dd.1
    · refine andV (decide_eq_true c) (iteT (fs_ret ?_))
      refine fe_none ?_
      exact hq2 (runs_take_false hdd (by unfold stepB; rw [decide_eq_true c]; simp))
    · refine andF (decide_eq_false c) (fw_or1 ?_)
      refine fb_nin hr ?_
      refine nm 6 ?_
      refine fe_call (h_roomy_L G) hr ?_
      refine fa_cons ?_
      refine nm 0 ?_
      refine fa_cons ?_
      refine nm 7 ?_
      refine fa_cons ?_
      refine nm 5 ?_
      refine fa_nil ?_
      refine ⟨n, bs, _, dd.1, rfl, Fr, S1.len, d1, d2, B1, fun lo hi rr r3 => ?_⟩
      refine ⟨Nat.zero_le _, ?_⟩
      rw [in_rgD]
      by_cases c2 : lo ≤ dd.2 ∧ dd.2 < hi
      · refine andF (by rw [decide_eq_true c2]; rfl) (fs_nil ?_)
        have st : stepB bs (fin one (p.take i)) dd = true := stepB_iff.mpr ⟨by rw [S1.len]; exact ⟨d1, d2⟩, c, (rr dd.2).mp c2⟩
        refine fs_app (i := 4) rfl (by first | exact Or.inl rfl | exact Or.inr (Or.inl rfl) | exact Or.inr (Or.inr rfl)) rfl ⟨_, rfl⟩ ?_
        refine fe_call (h_put_L G) hr ?_
        refine fa_cons ?_
        refine nm 7 ?_
        refine fa_cons ?_
        refine nm 5 ?_
        refine fa_cons ?_
        refine nm 6 ?_
        refine fa_nil ?_
        refine ⟨_, _, _, rfl, d1, by rw [List.length_map, S1.len]; exact d2, by rw [List.length_map]; exact Nat.le_of_lt (S1.few Fr), ?_⟩
        rw [put_ints]
        refine ⟨_, rfl, ?_, fs_nil ?_⟩
        · rw [List.length_map, stands_length, List.length_take]; omega
        · refine ⟨_, _, _, _, rfl, ?_, ?_⟩
          · rw [take_one hdd, stands_snoc, List.map_append]; rfl
          · rw [take_one hdd, runs_append, ru]
            show (true && (stepB bs _ dd && true)) = true
            rw [st]; rfl
      · refine andV (by rw [decide_eq_false c2]; rfl) (fs_ret ?_)
        refine fe_none ?_
        refine hq2 (runs_take_false hdd ?_)
        cases e : stepB bs (fin one (p.take i)) dd with
        | false => rfl
        | true => exact absurd ((rr dd.2).mpr (stepB_iff.mp e).2.2) c2
  · obtain ⟨x, y, z, u, rfl, rfl, ru⟩ := iv
    rw [List.length_map, List.take_length] at ru ⊢
    refine fs_retM (i := 4) rfl (by first | exact Or.inl rfl | exact Or.inr (Or.inl rfl) | exact Or.inr (Or.inr rfl)) rfl rfl ?_
    exact hq1 ru
theorem sc_leads_so_L : FnScope ["_law_frame_so", "_law_one_so", "_law_other_so", "_law_own", "_law_walk_so_here"] ["_law_frame_so", "_law_one_so", "_law_other_so", "_law_own"] (defScope (topS 51)) := ⟨rfl, rfl, rfl, by decide +kernel, rfl, by decide +kernel, by decide +kernel⟩
def leadsB (bs : List Beam) (one other : List Int) (p : List Deed) : Bool := runs bs one p && decide (fin one p = other)
theorem leadsB_iff {bs : List Beam} {one other : List Int} {p : List Deed} : leadsB bs one other p = true ↔ leads bs one other p := by
  unfold leadsB leads; rw [Bool.and_eq_true, decide_eq_true_eq]
def g_leads_so_L : GC := fun ds Q => ∃ (n : Nat) (bs : List Beam) (one other : List Int) (p : List Deed), ds = [fD n bs, sD one, sD other, bsD p] ∧ FrOk n bs ∧ Stand n bs one ∧ p.length < 1000 ∧ Bnd 100000 one ∧ (∀ d ∈ p, 0 ≤ d.1 ∧ d.1 < (n : Int) ∧ -100000 ≤ d.2 ∧ d.2 ≤ 100000) ∧
  Q (.bool (leadsB bs one other p))
theorem h_leads_so_L (G : Prog K mg) : Has P w K mg base "_law_leads_so" 4 (pureR g_leads_so_L) := by
  refine has_pure G.d_leads_so_L sc_leads_so_L (fun ds Q h => ?_) (fun f cdv A outer s H E hr ds Q h => ?_) <;> obtain ⟨n, bs, one, other, p, rfl, Fr, S, pl, B, hp, hq⟩ := h
  · rfl
  refine fs_set (i := 4) sc_leads_so_L.nd rfl (by first | exact .inl rfl | exact .inr rfl) (fv_fe ?_)
  refine fe_call (h_walk_so_L G) hr ?_
  refine fa_cons ?_
  refine nm 0 ?_
  refine fa_cons ?_
  refine nm 1 ?_
  refine fa_cons ?_
  refine nm 3 ?_
  refine fa_nil ?_
  refine ⟨n, bs, one, p, rfl, Fr, S, pl, B, hp, fun ru => ?_, fun ru => ?_⟩
  · refine fs_ret ?_
    refine fe_and ?_
    refine fe_notN ?_
    refine nm 4 ?_
    refine andT ?_
    refine fe_one ?_
    refine fe_eq hr ?_
    refine fe_ix ?_
    refine nm 4 ?_
    refine fe_neg ?_
    refine fe_int ?_
    refine ⟨_, rfl, ?_⟩
    refine ⟨_, stands_at, ?_⟩
    refine nm 2 ?_
    refine ⟨min32 (depth_sD _) (by decide), ?_⟩
    rw [eqv_sD]
    unfold leadsB at hq
    rw [ru, Bool.true_and] at hq
    exact hq
  · refine fs_ret (fe_and ?_)
    refine fe_notN ?_
    refine nm 4 ?_
    unfold leadsB at hq
    rw [ru, Bool.false_and] at hq
    exact andF rfl hq
end
end K13

set_option maxRecDepth 100000
set_option maxHeartbeats 4000000
set_option autoImplicit false
/-! Walks, part 7: drawn plans; what the law holds to be kept; costs. -/
namespace K13
open PySem PySem.Spec PyProof.Rows L2
theorem eqv_nil (ds : List PyData) : PyData.eqv (.list ds) (.list []) = ds.isEmpty := by
  cases ds <;> simp [PyData.eqv, PyData.eqvAll]
theorem min_r {a b k : Nat} (h : b ≤ k) (hk : k ≤ 32) : min a b ≤ 32 := Nat.le_trans (Nat.min_le_right _ _) (Nat.le_trans h hk)
theorem depth_nil : (PyData.list []).depth ≤ 1 := by simp [PyData.depth, PyData.depthAll]
theorem cut_low {a b h : Int} (c : h < min2 a b) : cutH a b h = min2 a b := by
  have := cutH_spec a b h
  unfold min2 at c ⊢
  split at c <;> split <;> omega
theorem cut_high {a b h : Int} (c : ¬ h < min2 a b) (d : max2 a b < h) : cutH a b h = max2 a b := by
  have := cutH_spec a b h
  unfold min2 at c
  unfold max2 at d ⊢
  split at c <;> split at d <;> split <;> omega
theorem cut_mid {a b h : Int} (c : ¬ h < min2 a b) (d : ¬ max2 a b < h) : cutH a b h = h := by
  have := cutH_spec a b h
  unfold min2 at c
  unfold max2 at d
  split at c <;> split at d <;> omega
theorem dval_dput {kvs : List (Int × PyData)} {k j : Int} {d : PyData} : dval (dput kvs k d) j = if j = k then some d else dval kvs j := by
  unfold dput
  by_cases h : (kvs.any fun kv => decide (kv.1 = k)) = true
  · rw [if_pos h]
    unfold dval
    induction kvs with
    | nil => simp at h
    | cons x r ih =>
      rw [List.map_cons, List.find?_cons, List.find?_cons]
      by_cases c : x.1 = k
      · rw [if_pos c]
        by_cases e : j = k
        · subst e
          simp [c]
        · have ne : ¬ x.1 = j := fun z => e (z.symm.trans c)
          simp only [decide_eq_false ne]
          rw [if_neg e]
          by_cases h2 : (r.any fun kv => decide (kv.1 = k)) = true
          · have := ih h2
            rw [if_neg e] at this
            exact this
          · have e2 : (r.map fun kv => if kv.1 = k then (kv.1, d) else kv) = r := by
              refine (List.map_congr_left (g := id) fun y hy => ?_).trans (List.map_id r)
              have : ¬ y.1 = k := fun z => h2 (List.any_eq_true.mpr ⟨y, hy, decide_eq_true z⟩)
              rw [if_neg this]; rfl
            rw [e2]
      · rw [if_neg c]
        by_cases e : x.1 = j
        · have : j ≠ k := fun z => c (e.trans z)
          simp [e, this]
        · simp only [decide_eq_false e]
          refine ih ?_
          rw [List.any_cons, decide_eq_false c, Bool.false_or] at h
          exact h
  · rw [if_neg h]
    unfold dval
    rw [List.find?_append]
    by_cases e : j = k
    · subst e
      rw [if_pos rfl]
      have : kvs.find? (fun kv => decide (kv.1 = j)) = none := by
        rw [List.find?_eq_none]
        intro x hx z
        exact h (List.any_eq_true.mpr ⟨x, hx, z⟩)
      rw [this]
      simp
    · rw [if_neg e]
      have ne : ¬ k = j := fun z => e z.symm
      cases kvs.find? (fun kv => decide (kv.1 = j)) <;> simp [ne]
theorem dput_length (kvs : List (Int × PyData)) (k : Int) (d : PyData) : (dput kvs k d).length ≤ kvs.length + 1 := by
  unfold dput
  split
  · rw [List.length_map]; omega
  · rw [List.length_append, List.length_singleton]; exact Nat.le_refl _
/-- prices -/
abbrev PrRow := Int × List (Int × Option Int)
def optD : Option Int → PyData
  | none => .none
  | some i => .int i
def itD (x : Int × Option Int) : PyData := .tuple [.int x.1, optD x.2]
def prD (r : PrRow) : PyData := .tuple [.int r.1, .tuple (r.2.map itD)]
def priceF (pr : List PrRow) (d : Deed) : Option Int :=
  match ((pr.getD d.1.toNat (0, [])).2.filter fun x => decide (x.1 = d.2)) with
  | [] => some (pr.getD d.1.toNat (0, [])).1
  | x :: _ => x.2
theorem at_rows {pr : List PrRow} {k : Int} (h : 0 ≤ k ∧ k < (pr.length : Int)) : L2.atI (pr.map prD) k = some (prD (pr.getD k.toNat (0, []))) := by
  obtain ⟨m, rfl⟩ : ∃ m : Nat, k = (m : Int) := ⟨k.toNat, by omega⟩
  have hm : m < pr.length := by omega
  rw [at_tD hm]
  rw [Int.toNat_natCast, List.getD_eq_getElem?_getD, List.getElem?_eq_getElem hm]; rfl
structure PrOk (n : Nat) (pr : List PrRow) : Prop where
  len : pr.length = n
  few : ∀ r ∈ pr, r.2.length < 1000
  pos : ∀ r ∈ pr, 0 ≤ r.1 ∧ ∀ x ∈ r.2, ∀ i, x.2 = some i → 0 ≤ i
theorem PrOk.row {n : Nat} {pr : List PrRow} (h : PrOk n pr) (k : Nat) : (pr.getD k (0, [])).2.length < 1000 ∧ 0 ≤ (pr.getD k (0, [])).1 ∧ ∀ x ∈ (pr.getD k (0, [])).2, ∀ i, x.2 = some i → 0 ≤ i := by
  by_cases hk : k < pr.length
  · rw [List.getD_eq_getElem?_getD, List.getElem?_eq_getElem hk]
    have hm : pr[k] ∈ pr := List.getElem_mem hk
    exact ⟨h.few _ hm, (h.pos _ hm).1, (h.pos _ hm).2⟩
  · rw [List.getD_eq_getElem?_getD, List.getElem?_eq_none (by omega)]
    exact ⟨by decide, Int.le_refl _, fun x hx => (by cases hx)⟩
theorem priceF_pos {n : Nat} {pr : List PrRow} (h : PrOk n pr) (d : Deed) (i : Int) (e : priceF pr d = some i) : 0 ≤ i := by
  obtain ⟨_, h1, h2⟩ := h.row d.1.toNat
  unfold priceF at e
  split at e
  · have := Option.some.inj e
    omega
  · rename_i x r q
    have : x ∈ (pr.getD d.1.toNat (0, [])).2 := (List.mem_filter.mp (by rw [q]; exact List.mem_cons_self)).1
    exact h2 x this i e
def noneCount (os : List (Option Int)) : Nat := (os.filter fun o => o.isNone).length
def someSum (os : List (Option Int)) : Int := (os.filterMap id).sum
theorem noneCount_sum : ∀ os : List (Option Int), (noneCount os : Int) = (os.map fun o => if o.isNone then (1 : Int) else 0).sum
  | [] => rfl
  | none :: os => by
    have := noneCount_sum os
    have e : noneCount (none :: os) = noneCount os + 1 := rfl
    rw [e, List.map_cons, List.sum_cons, ← this]
    show ((noneCount os + 1 : Nat) : Int) = 1 + _
    omega
  | some i :: os => by
    have := noneCount_sum os
    have e : noneCount (some i :: os) = noneCount os := rfl
    rw [e, List.map_cons, List.sum_cons, ← this]
    show _ = (0 : Int) + _
    omega
theorem someSum_sum : ∀ os : List (Option Int), someSum os = (os.map fun o => o.getD 0).sum
  | [] => rfl
  | none :: os => by
    have := someSum_sum os
    have e : someSum (none :: os) = someSum os := rfl
    rw [e, List.map_cons, List.sum_cons, ← this]
    show _ = (0 : Int) + _
    omega
  | some i :: os => by
    have := someSum_sum os
    have e : someSum (some i :: os) = i + someSum os := List.sum_cons
    rw [e, List.map_cons, List.sum_cons, ← this]; rfl
theorem some_ints : ∀ os : List (Option Int), ((os.filter fun o => o.isSome).map optD) = (os.filterMap id).map .int
  | [] => rfl
  | none :: os => some_ints os
  | some i :: os => congrArg (PyData.int i :: ·) (some_ints os)
section
variable {P : Program} {w : World} {K : PySem.W.Frag} {mg : Str → Option Value} {base : Heap}
theorem sc_cut_so_L : FnScope ["_law_one_so", "_law_other_so", "_law_own", "_law_k", "_law_height_so", "_law_low_so", "_law_high_so"] ["_law_one_so", "_law_other_so", "_law_own"] (defScope (topS 55)) := ⟨rfl, rfl, rfl, by decide +kernel, rfl, by decide +kernel, by decide +kernel⟩
def cutD' (one other : List Int) (d : Deed) : Deed := (d.1, cutH (at0 one d.1) (at0 other d.1) d.2)
def g_cut_so_L : GC := fun ds Q => ∃ (one other : List Int) (d : Deed), ds = [sD one, sD other, pD d] ∧ 0 ≤ d.1 ∧ d.1 < (one.length : Int) ∧ d.1 < (other.length : Int) ∧ Q (pD (cutD' one other d))
theorem h_cut_so_L (G : Prog K mg) : Has P w K mg base "_law_cut_so" 1 (pureR g_cut_so_L) := by
  refine has_pure G.d_cut_so_L sc_cut_so_L (fun ds Q h => ?_) (fun f cdv A outer s H E hr ds Q h => ?_) <;> obtain ⟨one, other, d, rfl, h0, h1, h2, hq⟩ := h
  · rfl
  refine fs_asgT (tg_tup rfl (tgs_cons (tg_name (i := 3) sc_cut_so_L.nd rfl (by first | exact .inl rfl | exact .inr rfl) (.inl rfl)) (tgs_cons (tg_name (i := 4) sc_cut_so_L.nd rfl (by first | exact .inl rfl | exact .inr rfl) (.inl rfl)) tgs_nil))) ?_
  refine nm 2 ?_
  refine ⟨rfl, rfl, ?_⟩
  refine fs_par (i := 5) (j := 6) rfl sc_cut_so_L.nd rfl rfl (by decide) rfl rfl (fv_fe ?_)
  refine fe_min2 G.bl rfl hr ?_
  refine fe_ix ?_
  refine nm 0 ?_
  refine nm 3 ?_
  refine ⟨_, at_ints ⟨h0, h1⟩, ?_⟩
  refine fe_ix ?_
  refine nm 1 ?_
  refine nm 3 ?_
  refine ⟨_, at_ints ⟨h0, h2⟩, ?_⟩
  refine fv_fe ?_
  refine fe_max2 G.bl rfl hr ?_
  refine fe_ix ?_
  refine nm 0 ?_
  refine nm 3 ?_
  refine ⟨_, at_ints ⟨h0, h1⟩, ?_⟩
  refine fe_ix ?_
  refine nm 1 ?_
  refine nm 3 ?_
  refine ⟨_, at_ints ⟨h0, h2⟩, ?_⟩
  refine fs_ret (fe_tup (fa_cons ?_))
  refine nm 3 ?_
  refine fa_cons (fe_if ?_)
  refine fb_lt ?_
  refine nm 4 ?_
  refine nm 5 ?_
  unfold cutD' at hq
  by_cases c : d.2 < min2 (at0 one d.1) (at0 other d.1)
  · rw [cut_low c] at hq
    refine andV (decide_eq_true c) ?_
    refine nm 5 ?_
    exact fa_nil ⟨le5 rfl, hq⟩
  · refine andF (decide_eq_false c) (fe_if ?_)
    refine fb_gt ?_
    refine nm 4 ?_
    refine nm 6 ?_
    by_cases c2 : max2 (at0 one d.1) (at0 other d.1) < d.2
    · rw [cut_high c c2] at hq
      refine andV (decide_eq_true c2) ?_
      refine nm 6 ?_
      exact fa_nil ⟨le5 rfl, hq⟩
    · rw [cut_mid c c2] at hq
      refine andF (decide_eq_false c2) ?_
      refine nm 4 ?_
      exact fa_nil ⟨le5 rfl, hq⟩
theorem sc_kept_L : FnScope ["_law_one_so", "_law_other_so", "_law_plan_so", "_law_found", "_law_best_so", "_law_number_so", "_law_own", "_law_k", "_law_height_so", "_law_near_so"] ["_law_one_so", "_law_other_so", "_law_plan_so"] (defScope (topS 56)) := ⟨rfl, rfl, rfl, by decide +kernel, rfl, by decide +kernel, by decide +kernel⟩
theorem h_kept_L (G : Prog K mg) : Has P w K mg base "_law_kept" 2 (pureR g_kept_in) := by
  refine has_pure G.d_kept_L sc_kept_L (fun ds Q h => ?_) (fun f cdv A outer s H E hr ds Q h => ?_) <;> obtain ⟨n, one, other, p, rfl, l1, l2, hn, hin, pl, hq⟩ := h
  · rfl
  refine fs_par (i := 3) (j := 4) rfl sc_kept_L.nd rfl rfl (by decide) rfl rfl (fv_fn (fn_lst (fa_nil ⟨le5 rfl, ?_⟩)))
  refine fv_dict ?_
  have lz := left0_length (one := one) (other := other) (by rw [l1, l2])
  refine fs_for rfl (tg_tup rfl (tgs_cons (tg_name (i := 5) sc_kept_L.nd rfl (by first | exact .inl rfl | exact .inr rfl) (.inl rfl)) (tgs_cons (tg_name (i := 6) sc_kept_L.nd rfl (by first | exact .inl rfl | exact .inr rfl) (.inl rfl)) tgs_nil))) (fi_enumT G.bl ?_)
  refine nm 2 ?_
  refine ⟨_, rfl, fun i Γ m => ∃ x y z u v left found kvs, Γ = [.dat (sD one), .dat (sD other), .dat (bsD p), .ob 0, .ob 1, x, y, z, u, v] ∧ m = [.lst (found.map npD), .dct kvs] ∧ left.length = n ∧ found.length ≤ i ∧ kvs.length ≤ i ∧
      (∀ j : Int, 0 ≤ j → j < (n : Int) → (dval kvs j).getD (.int (absI (at0 other j - at0 one j))) = .int (at0 left j)) ∧ found ++ keptGo one other left i (p.drop i) = kept one other p,
    ⟨_, _, _, _, _, left0 one other, [], [], rfl, rfl, by rw [lz, l1], Nat.le_refl _, Nat.le_refl _, fun j j1 j2 => by rw [left0_at (by rw [l1, l2]) j1 (by rw [l1]; exact j2)]; rfl, rfl⟩, fun i d Γ m hd iv => ?_, fun Γ m iv => ?_⟩
  · obtain ⟨x, y, z, u, v, left, found, kvs, rfl, rfl, ln, lf, lk, bv, inv⟩ := iv
    obtain ⟨e, he, rfl⟩ := enumD_get hd
    obtain ⟨dd, hdd, rfl⟩ := map_get he
    have hi : i < p.length := (List.getElem?_eq_some_iff.mp hdd).1
    have kin := hin dd (List.mem_of_getElem? hdd)
    rw [drop_one hdd, keptGo] at inv
    refine ⟨rfl, rfl, ?_⟩
    refine fs_asgT (tg_tup rfl (tgs_cons (tg_name (i := 7) sc_kept_L.nd rfl (by first | exact .inl rfl | exact .inr rfl) (.inl rfl)) (tgs_cons (tg_name (i := 8) sc_kept_L.nd rfl (by first | exact .inl rfl | exact .inr rfl) (.inl rfl)) tgs_nil))) ?_
    refine fe_call (h_cut_so_L G) hr ?_
    refine fa_cons ?_
    refine nm 0 ?_
    refine fa_cons ?_
    refine nm 1 ?_
    refine fa_cons ?_
    refine nm 6 ?_
    refine fa_nil ?_
    refine ⟨one, other, dd, rfl, kin.1, by rw [l1]; exact kin.2, by rw [l2]; exact kin.2, ?_⟩
    refine ⟨rfl, rfl, ?_⟩
    refine fs_set (i := 9) sc_kept_L.nd rfl (by first | exact .inl rfl | exact .inr rfl) (fv_fe ?_)
    refine fe_abs G.bl ?_
    refine fe_sub ?_
    refine fe_ix ?_
    refine nm 1 ?_
    refine nm 7 ?_
    refine ⟨_, at_ints (by rw [l2]; exact kin), ?_⟩
    refine nm 8 ?_
    refine fs_if (fb_lt ?_)
    refine nm 9 ?_
    refine fe_dget2 (i := 4) hr rfl (by first | exact Or.inl rfl | exact Or.inr (Or.inl rfl) | exact Or.inr (Or.inr rfl)) rfl ⟨_, rfl⟩ ?_
    refine nm 7 ?_
    refine fe_abs G.bl ?_
    refine fe_sub ?_
    refine fe_ix ?_
    refine nm 1 ?_
    refine nm 7 ?_
    refine ⟨_, at_ints (by rw [l2]; exact kin), ?_⟩
    refine fe_ix ?_
    refine nm 0 ?_
    refine nm 7 ?_
    refine ⟨_, at_ints (by rw [l1]; exact kin), ?_⟩
    refine ⟨_, _, rfl, rfl, ?_⟩
    have bvk := bv dd.1 kin.1 kin.2
    rw [show ((dval kvs (cutD' one other dd).1).getD (.int (if at0 other (cutD' one other dd).1 - at0 one (cutD' one other dd).1 < 0 then -(at0 other (cutD' one other dd).1 - at0 one (cutD' one other dd).1) else at0 other (cutD' one other dd).1 - at0 one (cutD' one other dd).1))) = .int (at0 left dd.1) from bvk]
    by_cases c : absI (at0 other dd.1 - cutH (at0 one dd.1) (at0 other dd.1) dd.2) < at0 left dd.1
    · refine andV (decide_eq_true c) ?_
      rw [if_pos c] at inv
      refine fs_setD (i := 4) hr rfl (by first | exact Or.inl rfl | exact Or.inr (Or.inl rfl) | exact Or.inr (Or.inr rfl)) rfl ?_
      refine nm 9 ?_
      refine nm 7 ?_
      refine ⟨kvs, _, rfl, rfl, by omega, ?_⟩
      refine fs_app (i := 3) rfl (by first | exact Or.inl rfl | exact Or.inr (Or.inl rfl) | exact Or.inr (Or.inr rfl)) rfl ⟨_, rfl⟩ ?_
      refine fe_tup ?_
      refine fa_cons ?_
      refine nm 5 ?_
      refine fa_cons ?_
      refine fe_tup ?_
      refine fa_cons ?_
      refine nm 7 ?_
      refine fa_cons ?_
      refine nm 8 ?_
      refine fa_nil ?_
      refine ⟨Nat.le_of_ble_eq_true rfl, ?_⟩
      refine fa_nil ?_
      refine ⟨Nat.le_of_ble_eq_true rfl, ?_⟩
      refine ⟨_, rfl, by rw [List.length_map]; omega, fs_nil (fs_nil ?_)⟩
      refine ⟨_, _, _, _, _, put0 left dd.1 (absI (at0 other dd.1 - cutH (at0 one dd.1) (at0 other dd.1) dd.2)), found ++ [((i : Int), (dd.1, cutH (at0 one dd.1) (at0 other dd.1) dd.2))], dput kvs dd.1 (.int (absI (at0 other dd.1 - cutH (at0 one dd.1) (at0 other dd.1) dd.2))), rfl, ?_, by rw [put0_length]; exact ln, by rw [List.length_append, List.length_singleton]; omega, ?_, ?_, by rw [List.append_assoc]; exact inv⟩
      · rw [List.map_append]; rfl
      · exact Nat.le_trans (dput_length _ _ _) (by omega)
      · intro j j1 j2
        rw [dval_dput, at0_put0 _ (by rw [ln]; exact kin) j1]
        by_cases z : j = dd.1
        · rw [if_pos z, if_pos z]; rfl
        · rw [if_neg z, if_neg z]
          exact bv j j1 j2
    · refine andF (decide_eq_false c) ?_
      rw [if_neg c] at inv
      exact fs_nil (fs_nil ⟨_, _, _, _, _, left, found, kvs, rfl, rfl, ln, by omega, by omega, bv, inv⟩)
  · obtain ⟨x, y, z, u, v, left, found, kvs, rfl, rfl, ln, lf, lk, bv, inv⟩ := iv
    rw [enumD_length, List.length_map] at inv
    rw [List.drop_length, keptGo, List.append_nil] at inv
    refine fs_retM (i := 3) rfl (by first | exact Or.inl rfl | exact Or.inr (Or.inl rfl) | exact Or.inr (Or.inr rfl)) rfl rfl ?_
    rw [inv]
    exact hq
theorem sc_price_of_L : FnScope ["_law_prices_so", "_law_k", "_law_level_so", "_law_told_so", "_law_own"] ["_law_prices_so", "_law_k", "_law_level_so"] (defScope (topS 48)) := ⟨rfl, rfl, rfl, by decide +kernel, rfl, by decide +kernel, by decide +kernel⟩
def g_price_of_L : GC := fun ds Q => ∃ (n : Nat) (pr : List PrRow) (d : Deed), ds = [.tuple (pr.map prD), .int d.1, .int d.2] ∧ PrOk n pr ∧ 0 ≤ d.1 ∧ d.1 < (n : Int) ∧ Q (optD (priceF pr d))
theorem eqv_list_nil_ne (ds : List PyData) : gNe (.list ds) (.list []) = fun Q : PyData → Prop => min (PyData.list ds).depth (PyData.list []).depth ≤ 32 ∧ Q (.bool (!PyData.eqv (.list ds) (.list []))) := rfl
theorem h_price_of_L (G : Prog K mg) : Has P w K mg base "_law_price_of" 1 (pureR g_price_of_L) := by
  refine has_pure G.d_price_of_L sc_price_of_L (fun ds Q h => ?_) (fun f cdv A outer s H E hr ds Q h => ?_) <;> obtain ⟨n, pr, d, rfl, hp, h0, h1, hq⟩ := h
  · rfl
  have hk : 0 ≤ d.1 ∧ d.1 < (pr.length : Int) := by rw [hp.len]; exact ⟨h0, h1⟩
  obtain ⟨rf, _, _⟩ := hp.row d.1.toNat
  refine fs_fl (i := 3) ?_ rfl
  refine flN 4 itD (fun x => decide (x.1 = d.2)) (fun x => optD x.2) sc_price_of_L.nd (by show blkC ["_law_prices_so", "_law_k", "_law_level_so", "_law_told_so", "_law_own"] (defScope (topS 48)) _ _ = true; decide +kernel) (fi_tup ?_)
  refine fe_ix ?_
  refine fe_ix ?_
  refine nm 0 ?_
  refine nm 1 ?_
  refine ⟨_, at_rows hk, ?_⟩
  refine fe_int ?_
  refine ⟨_, rfl, ?_⟩
  refine ⟨_, rfl, (pr.getD d.1.toNat (0, [])).2, rfl, Nat.lt_trans rf (by decide), fun x hx s H C cl fp => ?_, ?_⟩
  · show FB _ _ _ _ _
    refine fb_eq hr ?_
    refine fe_ix ?_
    refine nm 4 ?_
    refine fe_int ?_
    refine ⟨_, rfl, ?_⟩
    refine nm 2 ?_
    refine ⟨rfl, rfl, fun _ s H C cl fp => ?_⟩
    refine fe_ix ?_
    refine nm 4 ?_
    refine fe_int ?_
    refine ⟨_, rfl, ?_⟩
    exact ⟨rfl, rfl⟩
  refine fs_ret (fe_if ?_)
  refine fb_ne hr ?_
  refine nm 3 ?_
  refine fe_lst ?_
  refine fa_nil ?_
  refine ⟨Nat.le_of_ble_eq_true rfl, ?_⟩
  refine ⟨min_r depth_nil (by decide), ?_⟩
  rw [eqv_nil]
  unfold priceF at hq
  split at hq
  · rename_i e
    rw [e]
    refine andF rfl ?_
    refine fe_ix ?_
    refine fe_ix ?_
    refine nm 0 ?_
    refine nm 1 ?_
    refine ⟨_, at_rows hk, ?_⟩
    refine fe_int ?_
    refine ⟨_, rfl, ?_⟩
    exact hq
  · rename_i x r e
    rw [e]
    refine andV rfl ?_
    refine fe_ix ?_
    refine nm 3 ?_
    refine fe_int ?_
    refine ⟨_, L2.atI_nat (j := 0) rfl, ?_⟩
    exact hq
theorem sc_costs_L : FnScope ["_law_prices_so", "_law_plan_so", "_law_rows_so", "_law_k", "_law_height_so", "_law_own"] ["_law_prices_so", "_law_plan_so"] (defScope (topS 58)) := ⟨rfl, rfl, rfl, by decide +kernel, rfl, by decide +kernel, by decide +kernel⟩
def g_costs_L : GC := fun ds Q => ∃ (n : Nat) (pr : List PrRow) (p : List Deed), ds = [.tuple (pr.map prD), bsD p] ∧ PrOk n pr ∧ p.length < 1000 ∧ (∀ d ∈ p, 0 ≤ d.1 ∧ d.1 < (n : Int)) ∧ Q (.tuple [.int (noneCount (p.map (priceF pr)) : Int), .int (someSum (p.map (priceF pr)))])
theorem h_costs_L (G : Prog K mg) : Has P w K mg base "_law_costs" 2 (pureR g_costs_L) := by
  refine has_pure G.d_costs_L sc_costs_L (fun ds Q h => ?_) (fun f cdv A outer s H E hr ds Q h => ?_) <;> obtain ⟨n, pr, p, rfl, hp, pl, hin, hq⟩ := h
  · rfl
  refine fs_fl (i := 2) ?_ rfl
  refine flT 3 4 pD (fun _ => true) (fun d => optD (priceF pr d)) (fun d => .int d.1) (fun d => .int d.2) (fun _ => rfl) sc_costs_L.nd (by show blkC ["_law_prices_so", "_law_plan_so", "_law_rows_so", "_law_k", "_law_height_so", "_law_own"] (defScope (topS 58)) _ _ = true; decide +kernel) (fi_tup ?_)
  refine nm 1 ?_
  refine ⟨_, rfl, p, rfl, Nat.lt_trans pl (by decide), fun d hd s H C cl fp => ⟨rfl, rfl, fun _ s H C cl fp => ?_⟩, ?_⟩
  · skip
    refine fe_call (h_price_of_L G) hr ?_
    refine fa_cons ?_
    refine nm 0 ?_
    refine fa_cons ?_
    refine nm 3 ?_
    refine fa_cons ?_
    refine nm 4 ?_
    refine fa_nil ?_
    refine ⟨n, pr, d, rfl, hp, (hin d hd).1, (hin d hd).2, ?_⟩
    exact ⟨rfl, rfl⟩
  rw [List.filter_eq_self.mpr (fun _ _ => rfl)]
  have e : (p.map fun d => optD (priceF pr d)) = (p.map (priceF pr)).map optD := by rw [List.map_map]; rfl
  rw [e]
  generalize hos : p.map (priceF pr) = os at hq ⊢
  have hol : os.length < 100000 := by rw [← hos, List.length_map]; omega
  refine fs_ret (fe_tup (fa_cons (fe_len G.bl ?_)))
  refine fe_fn (lcN 5 optD (fun o => o.isNone) (fun _ => .int 1) sc_costs_L.nd (by show blkC ["_law_prices_so", "_law_plan_so", "_law_rows_so", "_law_k", "_law_height_so", "_law_own"] (defScope (topS 58)) _ _ = true; decide +kernel) (fi_lst ?_))
  refine nm 2 ?_
  refine ⟨_, rfl, os, rfl, hol, fun o ho s H C cl fp => ?_, ?_⟩
  · show FB _ _ _ _ _
    refine fb_isN ?_
    refine nm 5 ?_
    refine ⟨rfl, by cases o <;> rfl, fun _ s H C cl fp => ?_⟩
    refine fe_int ?_
    exact ⟨rfl, rfl⟩
  refine fa_cons (fe_sum G.bl rfl ?_)
  refine fe_fn (lcN 5 optD (fun o => o.isSome) optD sc_costs_L.nd (by show blkC ["_law_prices_so", "_law_plan_so", "_law_rows_so", "_law_k", "_law_height_so", "_law_own"] (defScope (topS 58)) _ _ = true; decide +kernel) (fi_lst ?_))
  refine nm 2 ?_
  refine ⟨_, rfl, os, rfl, hol, fun o ho s H C cl fp => ?_, ?_⟩
  · show FB _ _ _ _ _
    refine fb_notN ?_
    refine nm 5 ?_
    refine ⟨rfl, by cases o <;> rfl, fun _ s H C cl fp => ?_⟩
    refine nm 5 ?_
    exact ⟨rfl, rfl⟩
  rw [some_ints]
  refine ⟨_, rfl, fa_nil ⟨le5 rfl, ?_⟩⟩
  rw [List.length_map]
  exact hq
theorem sc_some_plan_L : FnScope ["_law_tin", "_law_frame_so", "_law_one_so", "_law_most_so", "_law_found", "_law_now_so", "_law_lap", "_law_steps_so", "_law_step_so"] ["_law_tin", "_law_frame_so", "_law_one_so", "_law_most_so"] (defScope (topS 52)) := ⟨rfl, rfl, rfl, by decide +kernel, rfl, by decide +kernel, by decide +kernel⟩
def g_some_plan_L : GM := fun ts ds Q => ∃ (t : Nat) (n : Nat) (bs : List Beam) (one : List Int), Tin t ts ∧ t < 2 ^ 29 ∧ ds = [fD n bs, sD one, .int 8] ∧ FrOk n bs ∧ Stand n bs one ∧ Bnd 3 one ∧ ∀ ts' p, Tin (t + 9) ts' → runs bs one p = true → p.length ≤ 8 → Q (bsD p) ts'
theorem h_some_plan_L (G : Prog K mg) : Has P w K mg base "_law_some_plan" 4 (tinR g_some_plan_L) := by
  refine has_tin G.d_some_plan_L sc_some_plan_L (fun ts ds Q h => ?_) (fun f cdv A outer s H E hr ts ds Q h => ?_) <;> obtain ⟨t, n, bs, one, ht, ht2, rfl, Fr, S, B, hq⟩ := h
  · rfl
  refine fs_par (i := 4) (j := 5) rfl sc_some_plan_L.nd rfl rfl (by decide) rfl rfl (fv_fn (fn_lst (fa_nil ⟨le5 rfl, ?_⟩)))
  refine fv_fe ?_
  refine nm 2 ?_
  refine fs_for rfl (tg_name (i := 6) sc_some_plan_L.nd rfl (by first | exact .inl rfl | exact .inr rfl) (.inl rfl)) (fi_range G.bl ?_)
  refine fe_callM (i := 0) (h_take_L G) hr rfl (by first | exact Or.inl rfl | exact Or.inr (Or.inl rfl) | exact Or.inr (Or.inr rfl)) rfl ?_
  refine fa_cons ?_
  refine fe_add ?_
  refine nm 3 ?_
  refine fe_int ?_
  refine fa_nil ?_
  refine ⟨_, rfl, ?_⟩
  refine ⟨t, _, ht, by omega, rfl, by decide, by decide, fun ts1 r ht1 r0 r1 => ?_⟩
  have r1 : r < 9 := r1
  refine ⟨r, rfl, by omega, by omega, fun i Γ m => ∃ x y z p ts', Γ = [.ob 0, .dat (fD n bs), .dat (sD one), .dat (.int 8), .ob 1, .dat (sD (fin one p)), x, y, z] ∧ m = [.lst ts', .lst (p.map pD)] ∧ Tin (t + 1 + i) ts' ∧ runs bs one p = true ∧ p.length ≤ i,
    ⟨_, _, _, [], ts1, rfl, rfl, ht1, rfl, Nat.le_refl _⟩, fun i d Γ m hd iv => ?_, fun Γ m iv => ?_⟩
  · obtain ⟨x, y, z, p, ts', rfl, rfl, ht', ru, pl⟩ := iv
    have hi := (rgN_get hd).2
    have S1 := runs_stand Fr _ _ S ru
    have B1 := (runs_bnd Fr p one 3 S.len B ru).2
    refine fs_set (i := 7) sc_some_plan_L.nd rfl (by first | exact .inl rfl | exact .inr rfl) (fv_fe ?_)
    refine fe_call (h_steps_L G) hr ?_
    refine fa_cons ?_
    refine nm 1 ?_
    refine fa_cons ?_
    refine nm 5 ?_
    refine fa_nil ?_
    refine ⟨n, bs, fin one p, rfl, Fr, S1.len, B1.up (by omega), fun l ll lh => ?_⟩
    refine fs_if ?_
    refine fb_ne hr ?_
    refine nm 7 ?_
    refine fe_lst ?_
    refine fa_nil ?_
    refine ⟨Nat.le_of_ble_eq_true rfl, ?_⟩
    refine ⟨min_r depth_nil (by decide), ?_⟩
    rw [eqv_nil]
    cases l with
    | nil =>
      refine andF rfl ?_
      exact fs_nil (fs_nil ⟨_, _, _, p, ts', rfl, rfl, ht'.up (by omega), ru, by omega⟩)
    | cons e0 l =>
      refine andV rfl ?_
      refine fs_asgT (tg_tup rfl (tgs_cons (tg_name (i := 8) sc_some_plan_L.nd rfl (by first | exact .inl rfl | exact .inr rfl) (.inl rfl)) (tgs_cons (tg_name (i := 5) sc_some_plan_L.nd rfl (by first | exact .inl rfl | exact .inr rfl) (.inl rfl)) tgs_nil))) ?_
      refine fe_callM (i := 0) (h_of_L G) hr rfl (by first | exact Or.inl rfl | exact Or.inr (Or.inl rfl) | exact Or.inr (Or.inr rfl)) rfl ?_
      refine fa_cons ?_
      refine nm 7 ?_
      refine fa_nil ?_
      refine ⟨_, rfl, ?_⟩
      refine ⟨_, _, ht', by omega, rfl, by simp, by rw [List.length_map]; omega, fun ts2 v ht2' hv => ?_⟩
      obtain ⟨e, he, rfl⟩ := List.mem_map.mp hv
      refine ⟨rfl, rfl, ?_⟩
      refine fs_app (i := 4) rfl (by first | exact Or.inl rfl | exact Or.inr (Or.inl rfl) | exact Or.inr (Or.inr rfl)) rfl ⟨_, rfl⟩ ?_
      refine nm 8 ?_
      refine ⟨_, rfl, by rw [List.length_map]; omega, fs_nil (fs_nil ?_)⟩
      show ∃ x y z p ts', _ = _ ∧ _ = _ ∧ _
      refine ⟨_, _, _, p ++ [e], ts2, by rw [fin_snoc]; rfl, by rw [List.map_append]; rfl, ht2'.up (by omega), ?_, by rw [List.length_append, List.length_singleton]; omega⟩
      rw [runs_append, ru]
      show (true && (stepB bs _ e && true)) = true
      rw [lh e he]; rfl
  · obtain ⟨x, y, z, p, ts', rfl, rfl, ht', ru, pl⟩ := iv
    rw [rgN_length] at ht' pl
    refine fs_ret (fe_frz rfl ?_)
    refine fe_tuple G.bl ?_
    refine nm 4 ?_
    exact ⟨flat_bsD _, _, _, rfl, hq _ _ (ht'.up (by omega)) ru (by omega)⟩
end
end K13

set_option maxRecDepth 100000
set_option maxHeartbeats 4000000
set_option autoImplicit false
/-! Walks, part 8: the road, the wild plan. -/
namespace K13
open PySem PySem.Spec PyProof.Rows L2
def belowP (goal : List Int) (x : Int × Int) : Bool := decide (x.2 < at0 goal x.1)
def aboveP (goal : List Int) (x : Int × Int) : Bool := decide (at0 goal x.1 < x.2)
def swapL (l : List (Int × Int)) : List (Int × Int) := l.map fun x => (x.2, x.1)
theorem least_of {now goal : List Int} {y : Int × Int} {ys : List (Int × Int)} (h : swapL ((enumP now).filter (belowP goal)) = y :: ys) :
    ∃ k : Int, (0 ≤ k ∧ k < (now.length : Int)) ∧ ys.foldl (fun a y => if ltP y a then y else a) y = (at0 now k, k) ∧ at0 now k < at0 goal k ∧ ∀ j : Int, 0 ≤ j → j < (now.length : Int) → at0 now j < at0 goal j → at0 now k ≤ at0 now j := by
  obtain ⟨f1, f2⟩ := fold_least ys y
  have f2' := f2
  rw [← h] at f2'
  obtain ⟨x, hx, e⟩ := List.mem_map.mp f2'
  obtain ⟨hx, hb⟩ := List.mem_filter.mp hx
  obtain ⟨m1, m2⟩ := enumP_mem.mp hx
  refine ⟨x.1, m1, ?_, ?_, fun j j1 j2 j3 => ?_⟩
  · rw [← e, m2]
  · have := of_decide_eq_true hb
    rw [m2] at this
    exact this
  · have hm : (at0 now j, j) ∈ y :: ys := by
      rw [← h]
      exact List.mem_map.mpr ⟨(j, at0 now j), List.mem_filter.mpr ⟨enumP_mem.mpr ⟨⟨j1, j2⟩, rfl⟩, decide_eq_true j3⟩, rfl⟩
    have := f1 _ hm
    rw [← e] at this
    rw [← m2]
    exact this
theorem most_of {now goal : List Int} {y : Int × Int} {ys : List (Int × Int)} (h : swapL ((enumP now).filter (aboveP goal)) = y :: ys) :
    ∃ k : Int, (0 ≤ k ∧ k < (now.length : Int)) ∧ ys.foldl (fun a y => if ltP a y then y else a) y = (at0 now k, k) ∧ at0 goal k < at0 now k ∧ ∀ j : Int, 0 ≤ j → j < (now.length : Int) → at0 goal j < at0 now j → at0 now j ≤ at0 now k := by
  obtain ⟨f1, f2⟩ := fold_most ys y
  have f2' := f2
  rw [← h] at f2'
  obtain ⟨x, hx, e⟩ := List.mem_map.mp f2'
  obtain ⟨hx, hb⟩ := List.mem_filter.mp hx
  obtain ⟨m1, m2⟩ := enumP_mem.mp hx
  refine ⟨x.1, m1, ?_, ?_, fun j j1 j2 j3 => ?_⟩
  · rw [← e, m2]
  · have := of_decide_eq_true hb
    rw [m2] at this
    exact this
  · have hm : (at0 now j, j) ∈ y :: ys := by
      rw [← h]
      exact List.mem_map.mpr ⟨(j, at0 now j), List.mem_filter.mpr ⟨enumP_mem.mpr ⟨⟨j1, j2⟩, rfl⟩, decide_eq_true j3⟩, rfl⟩
    have := f1 _ hm
    rw [← e] at this
    rw [← m2]
    exact this
theorem below_ne {now goal : List Int} (hl : now.length = goal.length) {x : Int × Int} {r : List (Int × Int)} (h : (now.zip goal).filter (fun x => decide (x.1 < x.2)) = x :: r) : swapL ((enumP now).filter (belowP goal)) ≠ [] := by
  have hm : x ∈ (now.zip goal).filter (fun x => decide (x.1 < x.2)) := by rw [h]; exact List.mem_cons_self
  obtain ⟨h1, h2⟩ := List.mem_filter.mp hm
  obtain ⟨j, hj, rfl⟩ := zip_at_mem h1
  have h2 := of_decide_eq_true h2
  intro e
  have : (at0 now j, j) ∈ swapL ((enumP now).filter (belowP goal)) := List.mem_map.mpr ⟨(j, at0 now j), List.mem_filter.mpr ⟨enumP_mem.mpr ⟨hj, rfl⟩, decide_eq_true h2⟩, rfl⟩
  rw [e] at this
  cases this
theorem above_ne {now goal : List Int} (hl : now.length = goal.length) {x : Int × Int} {r : List (Int × Int)} (h : (now.zip goal).filter (fun x => decide (x.2 < x.1)) = x :: r) : swapL ((enumP now).filter (aboveP goal)) ≠ [] := by
  have hm : x ∈ (now.zip goal).filter (fun x => decide (x.2 < x.1)) := by rw [h]; exact List.mem_cons_self
  obtain ⟨h1, h2⟩ := List.mem_filter.mp hm
  obtain ⟨j, hj, rfl⟩ := zip_at_mem h1
  have h2 := of_decide_eq_true h2
  intro e
  have : (at0 now j, j) ∈ swapL ((enumP now).filter (aboveP goal)) := List.mem_map.mpr ⟨(j, at0 now j), List.mem_filter.mpr ⟨enumP_mem.mpr ⟨hj, rfl⟩, decide_eq_true h2⟩, rfl⟩
  rw [e] at this
  cases this
theorem none_below {now goal : List Int} (hl : now.length = goal.length) (h : (now.zip goal).filter (fun x => decide (x.1 < x.2)) = []) {j : Int} (hj : 0 ≤ j ∧ j < (now.length : Int)) : at0 goal j ≤ at0 now j := by
  have := List.filter_eq_nil_iff.mp h _ (zip_mem_at hl hj)
  simp only [decide_eq_true_eq] at this
  omega
theorem none_above {now goal : List Int} (hl : now.length = goal.length) (h : (now.zip goal).filter (fun x => decide (x.2 < x.1)) = []) {j : Int} (hj : 0 ≤ j ∧ j < (now.length : Int)) : at0 now j ≤ at0 goal j := by
  have := List.filter_eq_nil_iff.mp h _ (zip_mem_at hl hj)
  simp only [decide_eq_true_eq] at this
  omega
theorem swap_map (l : List (Int × Int)) : (l.map fun x => pD (x.2, x.1)) = (swapL l).map pD := by unfold swapL; rw [List.map_map]; rfl
section
variable {P : Program} {w : World} {K : PySem.W.Frag} {mg : Str → Option Value} {base : Heap}
theorem sc_road_L : FnScope ["_law_frame_so", "_law_now_so", "_law_goal_so", "_law_found", "_law_own", "_law_its", "_law_low_so", "_law_k", "_law_place", "_law_high_so"] ["_law_frame_so", "_law_now_so", "_law_goal_so"] (defScope (topS 53)) := ⟨rfl, rfl, rfl, by decide +kernel, rfl, by decide +kernel, by decide +kernel⟩
def g_road_L : GC := fun ds Q => ∃ (n : Nat) (bs : List Beam) (now goal : List Int), ds = [fD n bs, sD now, sD goal] ∧ FrOk n bs ∧ Stand n bs now ∧ Stand n bs goal ∧ Bnd 11 now ∧ Bnd 3 goal ∧ ∀ p, runs bs now p = true → fin now p = goal → p.length ≤ 200 → Q (bsD p)
theorem h_road_L (G : Prog K mg) : Has P w K mg base "_law_road" 1 (pureR g_road_L) := by
  refine has_pure G.d_road_L sc_road_L (fun ds Q h => ?_) (fun f cdv A outer s H E hr ds Q h => ?_) <;> obtain ⟨n, bs, one, goal, rfl, Fr, S, T, B, C, hq⟩ := h
  · rfl
  have hn5 := Fr.hi
  have zb : ∀ x ∈ one.zip goal, -11 ≤ x.1 ∧ x.1 ≤ 11 ∧ -3 ≤ x.2 ∧ x.2 ≤ 3 := fun x hx => by
    obtain ⟨j, hj, rfl⟩ := zip_at_mem hx
    have h1 := B j hj.1 hj.2
    have h2 := C j hj.1 (by rw [T.len, ← S.len]; exact hj.2)
    exact ⟨h1.1, h1.2, h2.1, h2.2⟩
  have g1 : gap up one goal ≤ 14 * one.length := gap_le up 14 one goal fun x hx => by have := zb x hx; unfold up; omega
  have g2 : gap dn one goal ≤ 14 * one.length := gap_le dn 14 one goal fun x hx => by have := zb x hx; unfold dn; omega
  have g3 : one.length ≤ 5 := by rw [S.len]; exact Fr.hi
  refine fs_par (i := 3) (j := 1) rfl sc_road_L.nd rfl rfl (by decide) rfl rfl (fv_fn (fn_lst (fa_nil ⟨le5 rfl, ?_⟩)))
  refine fv_fn (fn_list G.bl ?_)
  refine nm 1 ?_
  refine ⟨_, .inl rfl, ?_⟩
  refine fs_while (fun N Γ m => ∃ a b c d e g p now, Γ = [.dat (fD n bs), .ob 1, .dat (sD goal), .ob 0, a, b, c, d, e, g] ∧ m = [.lst (p.map pD), .lst (now.map .int)] ∧ Stand n bs now ∧ runs bs one p = true ∧ fin one p = now ∧ p.length + gap up now goal + gap dn now goal ≤ 200 ∧ N = gap up now goal)
    (gap up one goal) ⟨_, _, _, _, _, _, [], one, rfl, rfl, S, rfl, rfl, by show 0 + _ + _ ≤ _; omega, rfl⟩ (fun N Γ m iv => ?_)
  obtain ⟨a, b, c, d, e, g, p, now, rfl, rfl, S1, ru, fi, tot, rfl⟩ := iv
  have hl : now.length = goal.length := by rw [S1.len, T.len]
  refine fb_frz rfl (fb_ne hr (fe_fn (lcT 4 5 (fun x : Int × Int => .tuple [.int x.1, .int x.2]) (fun x => decide (x.1 < x.2)) (fun _ => .int 1) (fun x => .int x.1) (fun x => .int x.2) (fun _ => rfl) sc_road_L.nd (by show blkC ["_law_frame_so", "_law_now_so", "_law_goal_so", "_law_found", "_law_own", "_law_its", "_law_low_so", "_law_k", "_law_place", "_law_high_so"] (defScope (topS 53)) _ _ = true; decide +kernel) (fi_zipM G.bl ?_))))
  refine nm 1 ?_
  refine ⟨_, rfl, ?_⟩
  refine nm 2 ?_
  refine ⟨_, rfl, now.zip goal, zip_ints _ _, by rw [List.length_zip, S1.len]; omega, fun x hx s H C cl fp => ?_, ?_⟩
  · show FB _ _ _ _ _
    refine fb_lt ?_
    refine nm 4 ?_
    refine nm 5 ?_
    refine ⟨rfl, rfl, fun _ s H C cl fp => ?_⟩
    refine fe_int ?_
    exact ⟨rfl, rfl⟩
  refine fe_lst (fa_nil ⟨le5 rfl, ?_⟩)
  refine ⟨min_r depth_nil (by decide), ?_⟩
  rw [eqv_nil]
  cases eL : (now.zip goal).filter (fun x => decide (x.1 < x.2)) with
  | cons x0 r0 =>
    have nb := below_ne hl eL
    refine andV rfl ?_
    refine fs_asgT (tg_tup rfl (tgs_cons (tg_name (i := 6) sc_road_L.nd rfl (by first | exact .inl rfl | exact .inr rfl) (.inl rfl)) (tgs_cons (tg_name (i := 7) sc_road_L.nd rfl (by first | exact .inl rfl | exact .inr rfl) (.inl rfl)) tgs_nil))) ?_
    refine fe_frz rfl (fe_min1 G.bl rfl hr (fe_fn (lcT 8 4 (fun x : Int × Int => .tuple [.int x.1, .int x.2]) (belowP goal) (fun x => pD (x.2, x.1)) (fun x => .int x.1) (fun x => .int x.2) (fun _ => rfl) sc_road_L.nd (by show blkC ["_law_frame_so", "_law_now_so", "_law_goal_so", "_law_found", "_law_own", "_law_its", "_law_low_so", "_law_k", "_law_place", "_law_high_so"] (defScope (topS 53)) _ _ = true; decide +kernel) (fi_enumL G.bl ?_))))
    refine nm 1 ?_
    refine ⟨_, rfl, enumP now, enumD_ints _, by rw [enumP_length, S1.len]; omega, fun x hx s H C cl fp => ?_, ?_⟩
    · obtain ⟨m1, m2⟩ := enumP_mem.mp hx
      show FB _ _ _ _ _
      refine fb_lt ?_
      refine nm 4 ?_
      refine fe_ix ?_
      refine nm 2 ?_
      refine nm 8 ?_
      refine ⟨_, at_ints (by rw [← hl]; exact m1), ?_⟩
      refine ⟨rfl, rfl, fun _ s H C cl fp => ?_⟩
      refine fe_tup ?_
      refine fa_cons ?_
      refine nm 4 ?_
      refine fa_cons ?_
      refine nm 8 ?_
      refine fa_nil ?_
      refine ⟨Nat.le_of_ble_eq_true rfl, ?_⟩
      exact ⟨rfl, rfl⟩
    rw [swap_map]
    cases eS : swapL ((enumP now).filter (belowP goal)) with
    | nil => exact absurd eS nb
    | cons y ys =>
      obtain ⟨k, hk, er, lt, least⟩ := least_of eS
      have hk2 := hk
      rw [S1.len] at hk2 least
      have st := raise_ok Fr S1 T hk2 lt least
      have S2 := stand_put Fr S1 hk2 (stepB_iff.mp st).2.2
      refine ⟨alike_all_pD (y :: ys), depth_all_pD (y :: ys), ?_⟩
      rw [minD_pD, er]
      refine ⟨rfl, rfl, rfl, ?_⟩
      refine fs_setL (i := 1) rfl (by first | exact Or.inl rfl | exact Or.inr (Or.inl rfl) | exact Or.inr (Or.inr rfl)) rfl ?_
      refine fe_add ?_
      refine nm 6 ?_
      refine fe_int ?_
      refine nm 7 ?_
      refine ⟨_, _, _, rfl, rfl, ixN_in (by rw [List.length_map]; exact hk), ?_⟩
      refine fs_app (i := 3) rfl (by first | exact Or.inl rfl | exact Or.inr (Or.inl rfl) | exact Or.inr (Or.inr rfl)) rfl ⟨_, rfl⟩ ?_
      refine fe_tup ?_
      refine fa_cons ?_
      refine nm 7 ?_
      refine fa_cons ?_
      refine fe_add ?_
      refine nm 6 ?_
      refine fe_int ?_
      refine fa_nil ?_
      refine ⟨Nat.le_of_ble_eq_true rfl, ?_⟩
      have gu := gap_put (f := up) (h := at0 now k + 1) hk hl
      have gd := gap_put (f := dn) (h := at0 now k + 1) hk hl
      have u1 : up (at0 now k) (at0 goal k) = up (at0 now k + 1) (at0 goal k) + 1 := by unfold up; omega
      have u2 : dn (at0 now k) (at0 goal k) = 0 := by unfold dn; omega
      have u3 : dn (at0 now k + 1) (at0 goal k) = 0 := by unfold dn; omega
      refine ⟨_, rfl, by rw [List.length_map]; omega, fs_nil ⟨gap up (put0 now k (at0 now k + 1)) goal, by omega, ?_⟩⟩
      refine ⟨_, _, _, _, _, _, p ++ [(k, at0 now k + 1)], put0 now k (at0 now k + 1), rfl, ?_, S2, ?_, ?_, ?_, rfl⟩
      · rw [List.map_append, ← put_ints]; rfl
      · rw [runs_append, ru, fi]
        show (true && (stepB bs now (k, at0 now k + 1) && true)) = true
        rw [st]; rfl
      · rw [fin_snoc, fi]
      · rw [List.length_append, List.length_singleton]; omega
  | nil =>
    refine andF rfl ?_
    have nlow : ∀ j : Int, 0 ≤ j → j < (n : Int) → at0 goal j ≤ at0 now j := fun j j1 j2 => none_below hl eL ⟨j1, by rw [S1.len]; exact j2⟩
    refine fs_while (fun N Γ m => ∃ a b c d e g p now, Γ = [.dat (fD n bs), .ob 1, .dat (sD goal), .ob 0, a, b, c, d, e, g] ∧ m = [.lst (p.map pD), .lst (now.map .int)] ∧ Stand n bs now ∧ runs bs one p = true ∧ fin one p = now ∧ p.length + gap dn now goal ≤ 200 ∧ (∀ j : Int, 0 ≤ j → j < (n : Int) → at0 goal j ≤ at0 now j) ∧ N = gap dn now goal)
      (gap dn now goal) ⟨_, _, _, _, _, _, p, now, rfl, rfl, S1, ru, fi, by omega, nlow, rfl⟩ (fun N Γ m iv => ?_)
    clear tot nlow eL hl fi ru S1
    obtain ⟨a, b, c, d, e, g, p, now, rfl, rfl, S1, ru, fi, tot, nlow, rfl⟩ := iv
    have hl : now.length = goal.length := by rw [S1.len, T.len]
    refine fb_frz rfl (fb_ne hr (fe_fn (lcT 4 5 (fun x : Int × Int => .tuple [.int x.1, .int x.2]) (fun x => decide (x.2 < x.1)) (fun _ => .int 1) (fun x => .int x.1) (fun x => .int x.2) (fun _ => rfl) sc_road_L.nd (by show blkC ["_law_frame_so", "_law_now_so", "_law_goal_so", "_law_found", "_law_own", "_law_its", "_law_low_so", "_law_k", "_law_place", "_law_high_so"] (defScope (topS 53)) _ _ = true; decide +kernel) (fi_zipM G.bl ?_))))
    refine nm 1 ?_
    refine ⟨_, rfl, ?_⟩
    refine nm 2 ?_
    refine ⟨_, rfl, now.zip goal, zip_ints _ _, by rw [List.length_zip, S1.len]; omega, fun x hx s H C cl fp => ?_, ?_⟩
    · show FB _ _ _ _ _
      refine fb_gt ?_
      refine nm 4 ?_
      refine nm 5 ?_
      refine ⟨rfl, rfl, fun _ s H C cl fp => ?_⟩
      refine fe_int ?_
      exact ⟨rfl, rfl⟩
    refine fe_lst (fa_nil ⟨le5 rfl, ?_⟩)
    refine ⟨min_r depth_nil (by decide), ?_⟩
    rw [eqv_nil]
    cases eL : (now.zip goal).filter (fun x => decide (x.2 < x.1)) with
    | cons x0 r0 =>
      have nb := above_ne hl eL
      refine andV rfl ?_
      refine fs_asgT (tg_tup rfl (tgs_cons (tg_name (i := 9) sc_road_L.nd rfl (by first | exact .inl rfl | exact .inr rfl) (.inl rfl)) (tgs_cons (tg_name (i := 7) sc_road_L.nd rfl (by first | exact .inl rfl | exact .inr rfl) (.inl rfl)) tgs_nil))) ?_
      refine fe_frz rfl (fe_max1 G.bl rfl hr (fe_fn (lcT 8 4 (fun x : Int × Int => .tuple [.int x.1, .int x.2]) (aboveP goal) (fun x => pD (x.2, x.1)) (fun x => .int x.1) (fun x => .int x.2) (fun _ => rfl) sc_road_L.nd (by show blkC ["_law_frame_so", "_law_now_so", "_law_goal_so", "_law_found", "_law_own", "_law_its", "_law_low_so", "_law_k", "_law_place", "_law_high_so"] (defScope (topS 53)) _ _ = true; decide +kernel) (fi_enumL G.bl ?_))))
      refine nm 1 ?_
      refine ⟨_, rfl, enumP now, enumD_ints _, by rw [enumP_length, S1.len]; omega, fun x hx s H C cl fp => ?_, ?_⟩
      · obtain ⟨m1, m2⟩ := enumP_mem.mp hx
        show FB _ _ _ _ _
        refine fb_gt ?_
        refine nm 4 ?_
        refine fe_ix ?_
        refine nm 2 ?_
        refine nm 8 ?_
        refine ⟨_, at_ints (by rw [← hl]; exact m1), ?_⟩
        refine ⟨rfl, rfl, fun _ s H C cl fp => ?_⟩
        refine fe_tup ?_
        refine fa_cons ?_
        refine nm 4 ?_
        refine fa_cons ?_
        refine nm 8 ?_
        refine fa_nil ?_
        refine ⟨Nat.le_of_ble_eq_true rfl, ?_⟩
        exact ⟨rfl, rfl⟩
      rw [swap_map]
      cases eS : swapL ((enumP now).filter (aboveP goal)) with
      | nil => exact absurd eS nb
      | cons y ys =>
        obtain ⟨k, hk, er, lt, most⟩ := most_of eS
        have hk2 := hk
        rw [S1.len] at hk2 most
        have st := lower_ok Fr S1 T hk2 lt most
        have S2 := stand_put Fr S1 hk2 (stepB_iff.mp st).2.2
        refine ⟨alike_all_pD (y :: ys), depth_all_pD (y :: ys), ?_⟩
        rw [maxD_pD, er]
        refine ⟨rfl, rfl, rfl, ?_⟩
        refine fs_setL (i := 1) rfl (by first | exact Or.inl rfl | exact Or.inr (Or.inl rfl) | exact Or.inr (Or.inr rfl)) rfl ?_
        refine fe_sub ?_
        refine nm 9 ?_
        refine fe_int ?_
        refine nm 7 ?_
        refine ⟨_, _, _, rfl, rfl, ixN_in (by rw [List.length_map]; exact hk), ?_⟩
        refine fs_app (i := 3) rfl (by first | exact Or.inl rfl | exact Or.inr (Or.inl rfl) | exact Or.inr (Or.inr rfl)) rfl ⟨_, rfl⟩ ?_
        refine fe_tup ?_
        refine fa_cons ?_
        refine nm 7 ?_
        refine fa_cons ?_
        refine fe_sub ?_
        refine nm 9 ?_
        refine fe_int ?_
        refine fa_nil ?_
        refine ⟨Nat.le_of_ble_eq_true rfl, ?_⟩
        have gd := gap_put (f := dn) (h := at0 now k - 1) hk hl
        have u2 : dn (at0 now k) (at0 goal k) = dn (at0 now k - 1) (at0 goal k) + 1 := by unfold dn; omega
        refine ⟨_, rfl, by rw [List.length_map]; omega, fs_nil ⟨gap dn (put0 now k (at0 now k - 1)) goal, by omega, ?_⟩⟩
        refine ⟨_, _, _, _, _, _, p ++ [(k, at0 now k - 1)], put0 now k (at0 now k - 1), rfl, ?_, S2, ?_, ?_, ?_, fun j j1 j2 => ?_, rfl⟩
        · rw [List.map_append, ← put_ints]; rfl
        · rw [runs_append, ru, fi]
          show (true && (stepB bs now (k, at0 now k - 1) && true)) = true
          rw [st]; rfl
        · rw [fin_snoc, fi]
        · rw [List.length_append, List.length_singleton]; omega
        · rw [at0_put0 _ hk j1]
          split
          · rename_i z; rw [z]; omega
          · exact nlow j j1 j2
    | nil =>
      refine andF rfl ?_
      refine fs_ret (fe_frz rfl ?_)
      refine fe_tuple G.bl ?_
      refine nm 3 ?_
      refine ⟨flat_bsD _, hq p ru ?_ (by omega)⟩
      rw [fi]
      refine ext0 hl fun j j1 j2 => ?_
      have h1 := none_above hl eL ⟨j1, j2⟩
      have h2 := nlow j j1 (by rw [← S1.len]; exact j2)
      omega
end
end K13

set_option maxRecDepth 100000
set_option maxHeartbeats 4000000
set_option autoImplicit false
/-! Walks, part 9: the wild plan. -/
namespace K13
open PySem PySem.Spec PyProof.Rows L2
theorem drop_cut (rest : List Deed) (i : Nat) : cutD (rest.map pD) (some ((i : Int) + 1)) none = (rest.drop (i + 1)).map pD := by
  rw [cut_back (by omega), List.map_drop]
  congr 1
theorem runs_small {n : Nat} {bs : List Beam} {hs : List Int} {p : List Deed} (F : FrOk n bs) (S : Stand n bs hs) (B : Bnd 3 hs) (h : runs bs hs p = true) (hl : p.length ≤ 1000) : ∀ d ∈ p, 0 ≤ d.1 ∧ d.1 < (n : Int) ∧ -100000 ≤ d.2 ∧ d.2 ≤ 100000 := by
  intro d hd
  have h1 := runs_in _ _ h d hd
  have h2 := (runs_bnd F p hs 3 S.len B h).1 d hd
  rw [S.len] at h1
  exact ⟨h1.1, h1.2, by omega, by omega⟩
section
variable {P : Program} {w : World} {K : PySem.W.Frag} {mg : Str → Option Value} {base : Heap}
theorem sc_wild_L : FnScope ["_law_tin", "_law_frame_so", "_law_one_so", "_law_other_so", "_law_plan_so", "_law_now_so", "_law_rest_so", "_law_found", "_law_k", "_law_own", "_law_short_so"] ["_law_tin", "_law_frame_so", "_law_one_so", "_law_other_so"] (defScope (topS 54)) := ⟨rfl, rfl, rfl, by decide +kernel, rfl, by decide +kernel, by decide +kernel⟩
def g_wild_L : GM := fun ts ds Q => ∃ (t : Nat) (n : Nat) (bs : List Beam) (one other : List Int), Tin t ts ∧ t < 2 ^ 28 ∧ ds = [fD n bs, sD one, sD other] ∧ FrOk n bs ∧ Stand n bs one ∧ Stand n bs other ∧ Bnd 3 one ∧ Bnd 3 other ∧
  ∀ ts' p, Tin (t + 300) ts' → leads bs one other p → p.length ≤ 208 → Q (bsD p) ts'
theorem h_wild_L (G : Prog K mg) : Has P w K mg base "_law_wild" 5 (tinR g_wild_L) := by
  refine has_tin G.d_wild_L sc_wild_L (fun ts ds Q h => ?_) (fun f cdv A outer s H E hr ts ds Q h => ?_) <;> obtain ⟨t, n, bs, one, other, ht, ht2, rfl, Fr, S, T, B, C, hq⟩ := h
  · rfl
  refine fs_set (i := 4) sc_wild_L.nd rfl (by first | exact .inl rfl | exact .inr rfl) (fv_fe ?_)
  refine fe_callM (i := 0) (h_some_plan_L G) hr rfl (by first | exact Or.inl rfl | exact Or.inr (Or.inl rfl) | exact Or.inr (Or.inr rfl)) rfl ?_
  refine fa_cons ?_
  refine nm 1 ?_
  refine fa_cons ?_
  refine nm 2 ?_
  refine fa_cons ?_
  refine fe_int ?_
  refine fa_nil ?_
  refine ⟨_, rfl, ?_⟩
  refine ⟨t, n, bs, one, ht, by omega, rfl, Fr, S, B, fun ts1 p0 ht1 ru0 pl0 => ?_⟩
  have S0 := runs_stand Fr _ _ S ru0
  have B0 := (runs_bnd Fr p0 one 3 S.len B ru0).2
  refine fs_set (i := 5) sc_wild_L.nd rfl (by first | exact .inl rfl | exact .inr rfl) (fv_fe ?_)
  refine fe_ix ?_
  refine fe_call (h_walk_so_L G) hr ?_
  refine fa_cons ?_
  refine nm 1 ?_
  refine fa_cons ?_
  refine nm 2 ?_
  refine fa_cons ?_
  refine nm 4 ?_
  refine fa_nil ?_
  refine ⟨n, bs, one, p0, rfl, Fr, S, by omega, B.up (by omega), runs_small Fr S B ru0 (by omega), fun _ => ?_, fun z => by rw [ru0] at z; cases z⟩
  refine fe_neg ?_
  refine fe_int ?_
  refine ⟨_, rfl, ?_⟩
  refine ⟨_, stands_at, ?_⟩
  refine fs_set (i := 6) sc_wild_L.nd rfl (by first | exact .inl rfl | exact .inr rfl) (fv_fe ?_)
  refine fe_call (h_road_L G) hr ?_
  refine fa_cons ?_
  refine nm 1 ?_
  refine fa_cons ?_
  refine nm 5 ?_
  refine fa_cons ?_
  refine nm 3 ?_
  refine fa_nil ?_
  refine ⟨n, bs, _, other, rfl, Fr, S0, T, B0.up (by omega), C, fun rest ru1 fi1 rl => ?_⟩
  have L0 : leads bs one other (p0 ++ rest) := ⟨by rw [runs_append, ru0, ru1]; rfl, by rw [fin_append]; exact fi1⟩
  refine fs_if ?_
  refine fb_eq hr ?_
  refine fe_callM (i := 0) (h_take_L G) hr rfl (by first | exact Or.inl rfl | exact Or.inr (Or.inl rfl) | exact Or.inr (Or.inr rfl)) rfl ?_
  refine fa_cons ?_
  refine fe_int ?_
  refine fa_nil ?_
  refine ⟨_, rfl, ?_⟩
  refine ⟨_, _, ht1, by omega, rfl, by decide, by decide, fun ts2 r ht2' r0 r1 => ?_⟩
  refine fe_int ?_
  by_cases cr : r = 0
  · refine andV (decide_eq_true cr) (fs_ret ?_)
    refine fe_add ?_
    refine nm 4 ?_
    refine nm 6 ?_
    refine ⟨by rw [List.length_map, List.length_map]; omega, ?_⟩
    rw [← List.map_append]
    exact ⟨_, _, rfl, hq _ _ (ht2'.up (by omega)) L0 (by rw [List.length_append]; omega)⟩
  refine andF (decide_eq_false cr) (fs_nil ?_)
  refine fs_par (i := 7) (j := 8) rfl sc_wild_L.nd rfl rfl (by decide) rfl rfl (fv_fn (fn_list G.bl ?_))
  refine nm 4 ?_
  refine ⟨_, .inl rfl, ?_⟩
  refine fv_fe ?_
  refine fe_int ?_
  refine fs_for rfl (tg_tup rfl (tgs_cons (tg_name (i := 8) sc_wild_L.nd rfl (by first | exact .inl rfl | exact .inr rfl) (.inl rfl)) (tgs_cons (tg_name (i := 9) sc_wild_L.nd rfl (by first | exact .inl rfl | exact .inr rfl) (.inl rfl)) tgs_nil))) (fi_enumT G.bl ?_)
  refine nm 6 ?_
  refine ⟨_, rfl, fun i Γ m => ∃ x y z p ts', Γ = [.ob 0, .dat (fD n bs), .dat (sD one), .dat (sD other), .dat (bsD p0), .dat (sD (fin one p0)), .dat (bsD rest), .ob 1, x, y, z] ∧ m = [.lst ts', .lst (p.map pD)] ∧ Tin (t + 10 + i) ts' ∧ p.length ≤ 8 + i ∧ leads bs one other (p ++ rest.drop i),
    ⟨_, _, _, p0, ts2, rfl, rfl, ht2', by omega, L0⟩, fun i d Γ m hd iv => ?_, fun Γ m iv => ?_⟩
  · obtain ⟨x, y, z, p, ts', rfl, rfl, ht', pl, L⟩ := iv
    obtain ⟨e, he, rfl⟩ := enumD_get hd
    obtain ⟨dd, hdd, rfl⟩ := map_get he
    have hi : i < rest.length := (List.getElem?_eq_some_iff.mp hdd).1
    have Lf : leads bs one other (p ++ [dd] ++ rest.drop (i + 1)) := by
      rw [drop_one hdd] at L
      rw [List.append_assoc]; exact L
    have hlen : (p ++ rest.drop i).length ≤ 1000 := by rw [List.length_append, List.length_drop]; omega
    have small := runs_small Fr S B L.1 hlen
    refine ⟨rfl, rfl, ?_⟩
    refine fs_set (i := 10) sc_wild_L.nd rfl (by first | exact .inl rfl | exact .inr rfl) (fv_fe (fe_frz rfl ?_))
    refine fe_add ?_
    refine fe_tuple G.bl ?_
    refine nm 7 ?_
    refine fe_slice ?_
    refine nm 6 ?_
    refine fe_add ?_
    refine nm 8 ?_
    refine fe_int ?_
    refine ⟨_, rfl, ?_⟩
    refine ⟨by rw [drop_cut, List.length_map, List.length_map, List.length_drop]; omega, ?_⟩
    rw [drop_cut, ← List.map_append]
    refine ⟨flat_bsD _, ?_⟩
    refine fs_if (fb_of (fw_or ?_))
    refine fb_gt ?_
    refine fe_callM (i := 0) (h_take_L G) hr rfl (by first | exact Or.inl rfl | exact Or.inr (Or.inl rfl) | exact Or.inr (Or.inr rfl)) rfl ?_
    refine fa_cons ?_
    refine fe_int ?_
    refine fa_nil ?_
    refine ⟨_, rfl, ?_⟩
    refine ⟨_, _, ht', by omega, rfl, by decide, by decide, fun ts3 r ht3 r0 r1 => ?_⟩
    refine fe_int ?_
    by_cases c : 0 < r
    · refine andV (decide_eq_true c) (iteT ?_)
      refine fs_app (i := 7) rfl (by first | exact Or.inl rfl | exact Or.inr (Or.inl rfl) | exact Or.inr (Or.inr rfl)) rfl ⟨_, rfl⟩ ?_
      refine nm 9 ?_
      refine ⟨_, rfl, by rw [List.length_map]; omega, fs_nil (fs_nil ?_)⟩
      exact ⟨_, _, _, p ++ [dd], ts3, rfl, by rw [List.map_append]; rfl, ht3.up (by omega), by rw [List.length_append, List.length_singleton]; omega, Lf⟩
    · refine andF (decide_eq_false c) (fw_or1 (fb_not ?_))
      refine fb_val ?_
      refine fe_call (h_leads_so_L G) hr ?_
      refine fa_cons ?_
      refine nm 1 ?_
      refine fa_cons ?_
      refine nm 2 ?_
      refine fa_cons ?_
      refine nm 3 ?_
      refine fa_cons ?_
      refine nm 10 ?_
      refine fa_nil ?_
      refine ⟨n, bs, one, other, p ++ rest.drop (i + 1), rfl, Fr, S, by rw [List.length_append, List.length_drop]; omega, B.up (by omega), fun d hd => small d ?_, ?_⟩
      · rw [drop_one hdd]
        rcases List.mem_append.mp hd with q | q
        · exact List.mem_append_left _ q
        · exact List.mem_append_right _ (List.mem_cons_of_mem _ q)
      cases e : leadsB bs one other (p ++ rest.drop (i + 1)) with
      | true =>
        refine asbNT rfl (fs_nil (fs_nil ?_))
        exact ⟨_, _, _, p, ts3, rfl, rfl, ht3.up (by omega), by omega, leadsB_iff.mp e⟩
      | false =>
        refine asbNF rfl ?_
        refine fs_app (i := 7) rfl (by first | exact Or.inl rfl | exact Or.inr (Or.inl rfl) | exact Or.inr (Or.inr rfl)) rfl ⟨_, rfl⟩ ?_
        refine nm 9 ?_
        refine ⟨_, rfl, by rw [List.length_map]; omega, fs_nil (fs_nil ?_)⟩
        exact ⟨_, _, _, p ++ [dd], ts3, rfl, by rw [List.map_append]; rfl, ht3.up (by omega), by rw [List.length_append, List.length_singleton]; omega, Lf⟩
  · obtain ⟨x, y, z, p, ts', rfl, rfl, ht', pl, L⟩ := iv
    rw [enumD_length, List.length_map] at ht' pl L
    rw [List.drop_length, List.append_nil] at L
    refine fs_ret (fe_frz rfl ?_)
    refine fe_tuple G.bl ?_
    refine nm 7 ?_
    exact ⟨flat_bsD _, _, _, rfl, hq _ _ (ht'.up (by omega)) L (by omega)⟩
end
end K13

set_option maxRecDepth 100000
set_option maxHeartbeats 4000000
set_option autoImplicit false
/-! Walks, part 10: drawn frames. -/
namespace K13
open PySem PySem.Spec PyProof.Rows L2
def mmP (x : Int × Int) : Int × Int := (min x.1 x.2, max x.1 x.2)
theorem frame_of {n : Nat} {ps ys : List (Int × Int)} (n2 : 2 ≤ n) (n5 : n ≤ 5) (hp : ∀ x ∈ ps, 0 ≤ x.1 ∧ x.1 < (n : Int) ∧ 0 ≤ x.2 ∧ x.2 < (n : Int) ∧ x.1 ≠ x.2) (he : ∀ k : Int, 0 ≤ k → k < (n : Int) → ∃ x ∈ ps, x.1 = k ∨ x.2 = k)
    (hy : ∀ y, y ∈ ys ↔ ∃ x ∈ ps, y = mmP x) (hl : ys.length < 64) : FrOk n ys := by
  refine ⟨n2, n5, hl, fun b hb => ?_, fun k k0 k1 => ?_⟩
  · obtain ⟨x, hx, rfl⟩ := (hy b).mp hb
    have := hp x hx
    unfold mmP
    simp only
    omega
  · obtain ⟨x, hx, e⟩ := he k k0 k1
    refine ⟨mmP x, (hy _).mpr ⟨x, hx, rfl⟩, ?_⟩
    unfold mmP
    simp only
    omega
def lineP (m : Nat) : List (Int × Int) := (List.range m).map fun (k : Nat) => ((k : Int), (k : Int) + 1)
theorem lineP_mem {m : Nat} {x : Int × Int} : x ∈ lineP m ↔ 0 ≤ x.1 ∧ x.1 < (m : Int) ∧ x.2 = x.1 + 1 := by
  unfold lineP
  rw [List.mem_map]
  constructor
  · rintro ⟨k, hk, rfl⟩
    have := List.mem_range.mp hk
    exact ⟨by show (0 : Int) ≤ (k : Int); omega, by show (k : Int) < (m : Int); omega, rfl⟩
  · rintro ⟨h1, h2, h3⟩
    obtain ⟨a, b⟩ := x
    simp only at h1 h2 h3
    exact ⟨a.toNat, List.mem_range.mpr (by omega), by rw [h3]; exact Prod.ext (by show ((a.toNat : Nat) : Int) = a; omega) (by show ((a.toNat : Nat) : Int) + 1 = a + 1; omega)⟩
theorem lineP_length (m : Nat) : (lineP m).length = m := by unfold lineP; rw [List.length_map, List.length_range]
theorem rgN_map (n : Nat) : rgN 0 n = (List.range n).map fun (m : Nat) => PyData.int (m : Int) := by
  unfold rgN
  refine List.map_congr_left fun m _ => ?_
  rw [Int.zero_add]
section
variable {P : Program} {w : World} {K : PySem.W.Frag} {mg : Str → Option Value} {base : Heap}
theorem sc_joined_L : FnScope ["_law_size_so", "_law_pairs_so", "_law_own"] ["_law_size_so", "_law_pairs_so"] (defScope (topS 41)) := ⟨rfl, rfl, rfl, by decide +kernel, rfl, by decide +kernel, by decide +kernel⟩
def g_joined_L : GC := fun ds Q => ∃ (n : Int) (ps : List (Int × Int)), ds = [.int n, .list (ps.map pD)] ∧ ps.length < 64 ∧ (∀ x ∈ ps, 0 ≤ x.1 ∧ x.1 < 64 ∧ 0 ≤ x.2 ∧ x.2 < 64) ∧ ∀ ys : List (Int × Int), (∀ y, y ∈ ys ↔ ∃ x ∈ ps, y = mmP x) → ys.length < 64 → Q (.tuple [.int n, bsD ys])
theorem h_joined_L (G : Prog K mg) : Has P w K mg base "_law_joined" 1 (pureR g_joined_L) := by
  refine has_pure G.d_joined_L sc_joined_L (fun ds Q h => ?_) (fun f cdv A outer s H E hr ds Q h => ?_) <;> obtain ⟨n, ps, rfl, hl, hb, hq⟩ := h
  · rfl
  refine fs_ret (fe_tup (fa_cons ?_))
  refine nm 0 ?_
  refine fa_cons (fe_tuple G.bl (fe_sortedSet G.bl rfl hr (fe_fn (lcN1 2 pD (fun x => pD (mmP x)) sc_joined_L.nd (by show blkC ["_law_size_so", "_law_pairs_so", "_law_own"] (defScope (topS 41)) _ _ = true; decide +kernel) (fi_lst ?_)))))
  refine nm 1 ?_
  refine ⟨_, rfl, ps, rfl, by omega, fun x hx s H C cl fp => ?_, ?_⟩
  · skip
    refine fe_tup ?_
    refine fa_cons ?_
    refine fe_min1 G.bl rfl hr ?_
    refine nm 2 ?_
    refine ⟨alike_all_ints [x.1, x.2], depth_all_ints [x.1, x.2], ?_⟩
    rw [show PySem.W.minD (.int x.1) [.int x.2] = .int (min x.1 x.2) from PySem.W.minD_ints x.1 [x.2]]
    refine fa_cons ?_
    refine fe_max1 G.bl rfl hr ?_
    refine nm 2 ?_
    refine ⟨alike_all_ints [x.1, x.2], depth_all_ints [x.1, x.2], ?_⟩
    rw [show PySem.W.maxD (.int x.1) [.int x.2] = .int (max x.1 x.2) from PySem.W.maxD_ints x.1 [x.2]]
    refine fa_nil ?_
    refine ⟨Nat.le_of_ble_eq_true rfl, ?_⟩
    exact ⟨rfl, rfl⟩
  refine ⟨ps.map mmP, by rw [List.map_map]; rfl, by rw [List.length_map]; exact hl, fun y hy => ?_, fun ys _ hy yl => fa_nil ⟨le5 rfl, ?_⟩⟩
  · obtain ⟨x, hx, rfl⟩ := List.mem_map.mp hy
    have := hb x hx
    unfold mmP
    simp only
    omega
  · refine hq ys (fun y => ?_) yl
    rw [hy y, List.mem_map]
    exact ⟨fun ⟨x, h1, h2⟩ => ⟨x, h1, h2.symm⟩, fun ⟨x, h1, h2⟩ => ⟨x, h1, h2.symm⟩⟩
theorem sc_frame_L : FnScope ["_law_tin", "_law_most_so", "_law_size_so", "_law_kind_so", "_law_line_so", "_law_k", "_law_hub_so", "_law_own", "_law_found", "_law_lap", "_law_one_so", "_law_two_so"] ["_law_tin", "_law_most_so"] (defScope (topS 42)) := ⟨rfl, rfl, rfl, by decide +kernel, rfl, by decide +kernel, by decide +kernel⟩
def g_frame_L : GM := fun ts ds Q => ∃ t : Nat, Tin t ts ∧ t < 2 ^ 28 ∧ ds = [.int 5] ∧ ∀ ts' n bs, Tin (t + 30) ts' → FrOk n bs → Q (fD n bs) ts'
theorem h_frame_L (G : Prog K mg) : Has P w K mg base "_law_frame" 2 (tinR g_frame_L) := by
  refine has_tin G.d_frame_L sc_frame_L (fun ts ds Q h => ?_) (fun f cdv A outer s H E hr ts ds Q h => ?_) <;> obtain ⟨t, ht, ht2, rfl, hq⟩ := h
  · rfl
  refine fs_par (i := 2) (j := 3) rfl sc_frame_L.nd rfl rfl (by decide) rfl rfl (fv_fe ?_)
  refine fe_add ?_
  refine fe_int ?_
  refine fe_callM (i := 0) (h_take_L G) hr rfl (by first | exact Or.inl rfl | exact Or.inr (Or.inl rfl) | exact Or.inr (Or.inr rfl)) rfl ?_
  refine fa_cons ?_
  refine fe_sub ?_
  refine nm 1 ?_
  refine fe_int ?_
  refine fa_nil ?_
  refine ⟨_, rfl, ?_⟩
  refine ⟨t, _, ht, by omega, rfl, by decide, by decide, fun ts1 r ht1 r0 r1 => ?_⟩
  refine fv_fe ?_
  refine fe_callM (i := 0) (h_take_L G) hr rfl (by first | exact Or.inl rfl | exact Or.inr (Or.inl rfl) | exact Or.inr (Or.inr rfl)) rfl ?_
  refine fa_cons ?_
  refine fe_int ?_
  refine fa_nil ?_
  refine ⟨_, rfl, ?_⟩
  refine ⟨_, _, ht1, by omega, rfl, by decide, by decide, fun ts2 kind ht3 k0 k1 => ?_⟩
  have r1 : r < 4 := r1
  obtain ⟨n, hn⟩ : ∃ n : Nat, (n : Int) = 2 + r := ⟨(2 + r).toNat, by omega⟩
  have n2 : 2 ≤ n := by omega
  have n5 : n ≤ 5 := by omega
  rw [← hn]
  have fin : ∀ (ts' : List PyData) (k : Nat) (ps ys : List (Int × Int)), Tin k ts' → k ≤ t + 30 → (∀ x ∈ ps, 0 ≤ x.1 ∧ x.1 < (n : Int) ∧ 0 ≤ x.2 ∧ x.2 < (n : Int) ∧ x.1 ≠ x.2) → (∀ k : Int, 0 ≤ k → k < (n : Int) → ∃ x ∈ ps, x.1 = k ∨ x.2 = k) → (∀ y, y ∈ ys ↔ ∃ x ∈ ps, y = mmP x) → ys.length < 64 → Q (fD n ys) ts' :=
    fun ts' k ps ys h1 h2 h3 h4 h5 h6 => hq ts' n ys (h1.up h2) (frame_of n2 n5 h3 h4 h5 h6)
  have lineOk : ∀ x ∈ lineP (n - 1), 0 ≤ x.1 ∧ x.1 < (n : Int) ∧ 0 ≤ x.2 ∧ x.2 < (n : Int) ∧ x.1 ≠ x.2 := fun x hx => by
    have := lineP_mem.mp hx
    omega
  have lineAll : ∀ k : Int, 0 ≤ k → k < (n : Int) → ∃ x ∈ lineP (n - 1), x.1 = k ∨ x.2 = k := fun k k0 k1 => by
    by_cases z : k = 0
    · exact ⟨(0, 1), lineP_mem.mpr (by simp only; omega), .inl z.symm⟩
    · exact ⟨(k - 1, k), lineP_mem.mpr (by simp only; omega), .inr rfl⟩
  have few : ∀ (ps : List (Int × Int)), (∀ x ∈ ps, 0 ≤ x.1 ∧ x.1 < (n : Int) ∧ 0 ≤ x.2 ∧ x.2 < (n : Int) ∧ x.1 ≠ x.2) → ∀ x ∈ ps, 0 ≤ x.1 ∧ x.1 < 64 ∧ 0 ≤ x.2 ∧ x.2 < 64 := fun ps h x hx => by
    have := h x hx
    omega
  refine fs_fl (i := 4) ?_ rfl
  refine flN1 5 (fun k : Nat => PyData.int (k : Int)) (fun k => pD ((k : Int), (k : Int) + 1)) sc_frame_L.nd (by show blkC ["_law_tin", "_law_most_so", "_law_size_so", "_law_kind_so", "_law_line_so", "_law_k", "_law_hub_so", "_law_own", "_law_found", "_law_lap", "_law_one_so", "_law_two_so"] (defScope (topS 42)) _ _ = true; decide +kernel) (fi_range G.bl ?_)
  refine fe_sub ?_
  refine nm 2 ?_
  refine fe_int ?_
  refine ⟨_, rfl, by omega, by omega, List.range (n - 1), ?_, by rw [List.length_range]; omega, fun k hk s H C cl fp => ?_, ?_⟩
  · rw [show ((n : Int) - 1).toNat = n - 1 by omega, rgN_map]
  · skip
    refine fe_tup ?_
    refine fa_cons ?_
    refine nm 5 ?_
    refine fa_cons ?_
    refine fe_add ?_
    refine nm 5 ?_
    refine fe_int ?_
    refine fa_nil ?_
    refine ⟨Nat.le_of_ble_eq_true rfl, ?_⟩
    exact ⟨rfl, rfl⟩
  have eL : ((List.range (n - 1)).map fun k : Nat => pD ((k : Int), (k : Int) + 1)) = (lineP (n - 1)).map pD := by unfold lineP; rw [List.map_map]; rfl
  rw [eL]
  refine fs_if ?_
  refine fb_eq hr ?_
  refine nm 3 ?_
  refine fe_int ?_
  by_cases c0 : kind = 0
  · refine andV (decide_eq_true c0) (fs_ret ?_)
    refine fe_call (h_joined_L G) hr ?_
    refine fa_cons ?_
    refine nm 2 ?_
    refine fa_cons ?_
    refine nm 4 ?_
    refine fa_nil ?_
    refine ⟨_, lineP (n - 1), rfl, by rw [lineP_length]; omega, few _ lineOk, fun ys h1 h2 => ?_⟩
    exact ⟨_, _, rfl, fin _ _ _ ys ht3 (by omega) lineOk lineAll h1 h2⟩
  refine andF (decide_eq_false c0) (fs_nil (fs_if ?_))
  refine fb_eq hr ?_
  refine nm 3 ?_
  refine fe_int ?_
  by_cases c1 : kind = 1
  · refine andV (decide_eq_true c1) (fs_ret ?_)
    refine fe_call (h_joined_L G) hr (fa_cons ?_)
    refine nm 2 ?_
    refine fa_cons (fe_add ?_)
    refine nm 4 ?_
    refine fe_if ?_
    refine fb_gt ?_
    refine nm 2 ?_
    refine fe_int ?_
    by_cases c : 2 < (n : Int)
    · refine andV (decide_eq_true c) ?_
      refine fe_lst ?_
      refine fa_cons ?_
      refine fe_tup ?_
      refine fa_cons ?_
      refine fe_int ?_
      refine fa_cons ?_
      refine fe_sub ?_
      refine nm 2 ?_
      refine fe_int ?_
      refine fa_nil ?_
      refine ⟨Nat.le_of_ble_eq_true rfl, ?_⟩
      refine fa_nil ?_
      refine ⟨Nat.le_of_ble_eq_true rfl, ?_⟩
      have ok : ∀ x ∈ lineP (n - 1) ++ [((0 : Int), (n : Int) - 1)], 0 ≤ x.1 ∧ x.1 < (n : Int) ∧ 0 ≤ x.2 ∧ x.2 < (n : Int) ∧ x.1 ≠ x.2 := fun x hx => by
        rcases List.mem_append.mp hx with hx | hx
        · exact lineOk x hx
        · rw [List.mem_singleton.mp hx]; simp only; omega
      refine ⟨by rw [List.length_map, lineP_length]; simp; omega, fa_nil ⟨_, lineP (n - 1) ++ [((0 : Int), (n : Int) - 1)], by rw [List.map_append]; rfl, by rw [List.length_append, lineP_length]; simp; omega, few _ ok, fun ys h1 h2 => ?_⟩⟩
      exact ⟨_, _, rfl, fin _ _ _ ys ht3 (by omega) ok (fun k k0 k1 => by obtain ⟨x, hx, e⟩ := lineAll k k0 k1; exact ⟨x, List.mem_append_left _ hx, e⟩) h1 h2⟩
    · refine andF (decide_eq_false c) ?_
      refine fe_lst ?_
      refine fa_nil ?_
      refine ⟨Nat.le_of_ble_eq_true rfl, ?_⟩
      refine ⟨by rw [List.length_map, lineP_length]; simp; omega, fa_nil ⟨_, lineP (n - 1), by rw [List.append_nil], by rw [lineP_length]; omega, few _ lineOk, fun ys h1 h2 => ?_⟩⟩
      exact ⟨_, _, rfl, fin _ _ _ ys ht3 (by omega) lineOk lineAll h1 h2⟩
  refine andF (decide_eq_false c1) (fs_nil (fs_if ?_))
  refine fb_eq hr ?_
  refine nm 3 ?_
  refine fe_int ?_
  by_cases c2 : kind = 2
  · refine andV (decide_eq_true c2) ?_
    refine fs_set (i := 6) sc_frame_L.nd rfl (by first | exact .inl rfl | exact .inr rfl) (fv_fe ?_)
    refine fe_callM (i := 0) (h_take_L G) hr rfl (by first | exact Or.inl rfl | exact Or.inr (Or.inl rfl) | exact Or.inr (Or.inr rfl)) rfl ?_
    refine fa_cons ?_
    refine nm 2 ?_
    refine fa_nil ?_
    refine ⟨_, rfl, ?_⟩
    refine ⟨_, _, ht3, by omega, rfl, by omega, by omega, fun ts3 hub ht4 h0 h1 => ?_⟩
    refine fs_ret (fe_call (h_joined_L G) hr (fa_cons ?_))
    refine nm 2 ?_
    refine fa_cons (fe_fn (lcN 5 (fun k : Nat => PyData.int (k : Int)) (fun k => !decide ((k : Int) = hub)) (fun k => pD (hub, (k : Int))) sc_frame_L.nd (by show blkC ["_law_tin", "_law_most_so", "_law_size_so", "_law_kind_so", "_law_line_so", "_law_k", "_law_hub_so", "_law_own", "_law_found", "_law_lap", "_law_one_so", "_law_two_so"] (defScope (topS 42)) _ _ = true; decide +kernel) (fi_range G.bl ?_)))
    refine nm 2 ?_
    refine ⟨_, rfl, by omega, by omega, List.range n, ?_, by rw [List.length_range]; omega, fun k hk s H C cl fp => ?_, ?_⟩
    · rw [show ((n : Int)).toNat = n by omega, rgN_map]
    · show FB _ _ _ _ _
      refine fb_ne hr ?_
      refine nm 5 ?_
      refine nm 6 ?_
      refine ⟨rfl, rfl, fun _ s H C cl fp => ?_⟩
      refine fe_tup ?_
      refine fa_cons ?_
      refine nm 6 ?_
      refine fa_cons ?_
      refine nm 5 ?_
      refine fa_nil ?_
      refine ⟨Nat.le_of_ble_eq_true rfl, ?_⟩
      exact ⟨rfl, rfl⟩
    have mem : ∀ x : Int × Int, x ∈ ((List.range n).filter fun k : Nat => !decide ((k : Int) = hub)).map (fun k : Nat => (hub, (k : Int))) ↔ x.1 = hub ∧ 0 ≤ x.2 ∧ x.2 < (n : Int) ∧ x.2 ≠ hub := fun x => by
      rw [List.mem_map]
      constructor
      · rintro ⟨k, hk, rfl⟩
        obtain ⟨h1, h2⟩ := List.mem_filter.mp hk
        have h1 := List.mem_range.mp h1
        have h2 : ¬ (k : Int) = hub := by simpa using h2
        exact ⟨rfl, by show (0 : Int) ≤ (k : Int); omega, by show (k : Int) < (n : Int); omega, h2⟩
      · rintro ⟨h1, h2, h3, h4⟩
        obtain ⟨a, b⟩ := x
        simp only at h1 h2 h3 h4
        refine ⟨b.toNat, List.mem_filter.mpr ⟨List.mem_range.mpr (by omega), ?_⟩, ?_⟩
        · have : ¬ ((b.toNat : Nat) : Int) = hub := by omega
          rw [decide_eq_false this]; rfl
        · exact Prod.ext h1.symm (by show ((b.toNat : Nat) : Int) = b; omega)
    have ok : ∀ x ∈ ((List.range n).filter fun k : Nat => !decide ((k : Int) = hub)).map (fun k : Nat => (hub, (k : Int))), 0 ≤ x.1 ∧ x.1 < (n : Int) ∧ 0 ≤ x.2 ∧ x.2 < (n : Int) ∧ x.1 ≠ x.2 := fun x hx => by
      have := (mem x).mp hx
      omega
    refine fa_nil ⟨_, ((List.range n).filter fun k : Nat => !decide ((k : Int) = hub)).map (fun k : Nat => (hub, (k : Int))), by rw [List.map_map]; rfl, ?_, few _ ok, fun ys h1 h2 => ?_⟩
    · rw [List.length_map]
      exact Nat.lt_of_le_of_lt (List.length_filter_le _ _) (by rw [List.length_range]; omega)
    · refine ⟨_, _, rfl, fin _ _ _ ys ht4 (by omega) ok (fun k k0 k1 => ?_) h1 h2⟩
      by_cases z : k = hub
      · by_cases z0 : hub = 0
        · exact ⟨(hub, 1), (mem _).mpr ⟨rfl, by show (0 : Int) ≤ 1; decide, by show (1 : Int) < (n : Int); omega, by show (1 : Int) ≠ hub; omega⟩, .inl z.symm⟩
        · exact ⟨(hub, 0), (mem _).mpr ⟨rfl, by show (0 : Int) ≤ 0; decide, by show (0 : Int) < (n : Int); omega, fun e => z0 e.symm⟩, .inl z.symm⟩
      · exact ⟨(hub, k), (mem _).mpr ⟨rfl, k0, k1, z⟩, .inr rfl⟩
  refine andF (decide_eq_false c2) (fs_nil ?_)
  refine fs_if (fb_andP (ka := decide (kind = 3)) (kb := decide (3 < (n : Int))) ?_ (fun _ => ?_) ?_)
  · skip
    refine fb_eq hr ?_
    refine nm 3 ?_
    refine fe_int ?_
    exact ⟨rfl, rfl⟩
  · skip
    refine fb_gt ?_
    refine nm 2 ?_
    refine fe_int ?_
    exact ⟨rfl, rfl⟩
  cases c3 : (decide (kind = 3) && decide (3 < (n : Int))) with
  | true =>
    refine iteT (fs_ret (fe_call (h_joined_L G) hr (fa_cons ?_)))
    refine nm 2 ?_
    have n3 : 3 < (n : Int) := by
      rw [Bool.and_eq_true] at c3
      exact of_decide_eq_true c3.2
    refine fa_cons (fe_fn (lcN 7 pD (fun x => !decide (x = ((1 : Int), (2 : Int)))) pD sc_frame_L.nd (by show blkC ["_law_tin", "_law_most_so", "_law_size_so", "_law_kind_so", "_law_line_so", "_law_k", "_law_hub_so", "_law_own", "_law_found", "_law_lap", "_law_one_so", "_law_two_so"] (defScope (topS 42)) _ _ = true; decide +kernel) (fi_lst ?_)))
    refine nm 4 ?_
    refine ⟨_, rfl, lineP (n - 1), rfl, by rw [lineP_length]; omega, fun x hx s H C cl fp => ?_, ?_⟩
    · show FB _ _ _ _ _
      refine fb_ne hr ?_
      refine nm 7 ?_
      refine fe_tup ?_
      refine fa_cons ?_
      refine fe_int ?_
      refine fa_cons ?_
      refine fe_int ?_
      refine fa_nil ?_
      refine ⟨Nat.le_of_ble_eq_true rfl, ?_⟩
      refine ⟨min32 (depth_pD _) (by decide), ?_⟩
      rw [show PyData.eqv (pD x) (.tuple [.int 1, .int 2]) = decide (x = ((1 : Int), (2 : Int))) from eqv_pD x (1, 2)]
      refine ⟨rfl, rfl, fun _ s H C cl fp => ?_⟩
      refine nm 7 ?_
      exact ⟨rfl, rfl⟩
    have ok : ∀ x ∈ (lineP (n - 1)).filter (fun x => !decide (x = ((1 : Int), (2 : Int)))), 0 ≤ x.1 ∧ x.1 < (n : Int) ∧ 0 ≤ x.2 ∧ x.2 < (n : Int) ∧ x.1 ≠ x.2 := fun x hx => lineOk x (List.mem_filter.mp hx).1
    refine fa_nil ⟨_, (lineP (n - 1)).filter (fun x => !decide (x = ((1 : Int), (2 : Int)))), rfl, Nat.lt_of_le_of_lt (List.length_filter_le _ _) (by rw [lineP_length]; omega), few _ ok, fun ys h1 h2 => ?_⟩
    refine ⟨_, _, rfl, fin _ _ _ ys ht3 (by omega) ok (fun k k0 k1 => ?_) h1 h2⟩
    have mem : ∀ a : Int, 0 ≤ a → a + 1 < (n : Int) → a ≠ 1 → (a, a + 1) ∈ (lineP (n - 1)).filter (fun x => !decide (x = ((1 : Int), (2 : Int)))) := fun a a0 a1 a2 => by
      refine List.mem_filter.mpr ⟨lineP_mem.mpr ⟨a0, by show a < _; omega, rfl⟩, ?_⟩
      have : ¬ ((a, a + 1) : Int × Int) = (1, 2) := fun e => a2 (congrArg Prod.fst e)
      rw [decide_eq_false this]; rfl
    by_cases z : k = 0
    · exact ⟨(0, 0 + 1), mem 0 (by decide) (by omega) (by decide), .inl z.symm⟩
    · by_cases z2 : k = 2
      · exact ⟨(2, 2 + 1), mem 2 (by decide) (by omega) (by decide), .inl z2.symm⟩
      · exact ⟨(k - 1, k - 1 + 1), mem (k - 1) (by omega) (by omega) (by omega), .inr (by show k - 1 + 1 = k; omega)⟩
  | false =>
  refine iteF (fs_nil ?_)
  refine fs_if (fb_andP (ka := decide (kind = 4)) (kb := decide (2 < (n : Int))) ?_ (fun _ => ?_) ?_)
  · skip
    refine fb_eq hr ?_
    refine nm 3 ?_
    refine fe_int ?_
    exact ⟨rfl, rfl⟩
  · skip
    refine fb_gt ?_
    refine nm 2 ?_
    refine fe_int ?_
    exact ⟨rfl, rfl⟩
  cases c4 : (decide (kind = 4) && decide (2 < (n : Int))) with
  | true =>
    refine iteT (fs_ret (fe_call (h_joined_L G) hr (fa_cons ?_)))
    refine nm 2 ?_
    have n3 : 2 < (n : Int) := by
      rw [Bool.and_eq_true] at c4
      exact of_decide_eq_true c4.2
    refine fa_cons (fe_add ?_)
    refine nm 4 ?_
    refine fe_lst ?_
    refine fa_cons ?_
    refine fe_tup ?_
    refine fa_cons ?_
    refine fe_int ?_
    refine fa_cons ?_
    refine fe_int ?_
    refine fa_nil ?_
    refine ⟨Nat.le_of_ble_eq_true rfl, ?_⟩
    refine fa_nil ?_
    refine ⟨Nat.le_of_ble_eq_true rfl, ?_⟩
    have ok : ∀ x ∈ lineP (n - 1) ++ [((0 : Int), (2 : Int))], 0 ≤ x.1 ∧ x.1 < (n : Int) ∧ 0 ≤ x.2 ∧ x.2 < (n : Int) ∧ x.1 ≠ x.2 := fun x hx => by
      rcases List.mem_append.mp hx with hx | hx
      · exact lineOk x hx
      · rw [List.mem_singleton.mp hx]; simp only; omega
    refine ⟨by rw [List.length_map, lineP_length]; simp; omega, fa_nil ⟨_, lineP (n - 1) ++ [((0 : Int), (2 : Int))], by rw [List.map_append]; rfl, by rw [List.length_append, lineP_length]; simp; omega, few _ ok, fun ys h1 h2 => ?_⟩⟩
    exact ⟨_, _, rfl, fin _ _ _ ys ht3 (by omega) ok (fun k k0 k1 => by obtain ⟨x, hx, e⟩ := lineAll k k0 k1; exact ⟨x, List.mem_append_left _ hx, e⟩) h1 h2⟩
  | false =>
  refine iteF (fs_nil ?_)
  refine fs_flM (i := 8) ?_ rfl
  refine fl_lc (own := [("_law_k", 5)]) (S := [5]) (b := bName 5) rfl sc_frame_L.nd (by show blkC ["_law_tin", "_law_most_so", "_law_size_so", "_law_kind_so", "_law_line_so", "_law_k", "_law_hub_so", "_law_own", "_law_found", "_law_lap", "_law_one_so", "_law_two_so"] (defScope (topS 42)) _ _ = true; decide +kernel) rfl (fun s H C cl fp => tg_name sc_frame_L.nd rfl (.inl (lookup_relabel_local rfl)) (.inr (lookup_relabel_local rfl))) (fi_range G.bl ?_)
  refine fe_sub ?_
  refine nm 2 ?_
  refine fe_int ?_
  refine ⟨_, rfl, by omega, by omega, fun i acc m => ∃ (ts' : List PyData) (l : List (Int × Int)), m = [.lst ts'] ∧ acc = l.map pD ∧ l.length = i ∧ Tin (t + 2 + i) ts' ∧ (∀ x ∈ l, 0 ≤ x.1 ∧ x.1 < x.2 ∧ x.2 ≤ (i : Int)) ∧ ∀ k : Int, 1 ≤ k → k ≤ (i : Int) → ∃ x ∈ l, x.2 = k,
    ⟨ts2, [], rfl, rfl, rfl, ht3, fun x hx => (by cases hx), fun k k1 k2 => absurd k1 (by omega)⟩, fun i d acc m hd iv => ?_, fun acc m iv => ?_⟩
  · obtain ⟨ts', l, rfl, rfl, hl, ht', lo, la⟩ := iv
    obtain ⟨rfl, hi⟩ := rgN_get hd
    have hi : i < n - 1 := by omega
    rw [Int.zero_add]
    intro s H C cl fp
    show ∀ s H C cl fp, FE _ _ _ _ _
    intro s H C cl fp
    refine fe_tup ?_
    refine fa_cons ?_
    refine fe_callM (i := 0) (h_take_L G) hr rfl (by first | exact Or.inl rfl | exact Or.inr (Or.inl rfl) | exact Or.inr (Or.inr rfl)) rfl ?_
    refine fa_cons ?_
    refine fe_add ?_
    refine nm 5 ?_
    refine fe_int ?_
    refine fa_nil ?_
    refine ⟨_, rfl, ?_⟩
    refine ⟨_, _, ht', by omega, rfl, by omega, by omega, fun ts3 r ht4 r0 r1 => ?_⟩
    refine fa_cons ?_
    refine fe_add ?_
    refine nm 5 ?_
    refine fe_int ?_
    refine fa_nil ?_
    refine ⟨Nat.le_of_ble_eq_true rfl, ?_⟩
    refine ⟨by rw [List.length_map]; omega, ts3, l ++ [(r, (i : Int) + 1)], rfl, by rw [List.map_append]; rfl, by rw [List.length_append, hl]; rfl, ht4.up (by omega), fun x hx => ?_, fun k k1 k2 => ?_⟩
    · rcases List.mem_append.mp hx with hx | hx
      · have := lo x hx; omega
      · rw [List.mem_singleton.mp hx]; simp only; omega
    · by_cases z : k = (i : Int) + 1
      · exact ⟨_, List.mem_append_right _ (List.mem_singleton.mpr rfl), z.symm⟩
      · obtain ⟨x, hx, e⟩ := la k k1 (by omega)
        exact ⟨x, List.mem_append_left _ hx, e⟩
  obtain ⟨ts3, l, rfl, rfl, hl, ht4, lo, la⟩ := iv
  rw [rgN_length, show ((n : Int) - 1).toNat = n - 1 by omega] at hl ht4 lo la
  refine fs_for rfl (tg_name (i := 9) sc_frame_L.nd rfl (by first | exact .inl rfl | exact .inr rfl) (.inl rfl)) (fi_range G.bl ?_)
  refine fe_callM (i := 0) (h_take_L G) hr rfl (by first | exact Or.inl rfl | exact Or.inr (Or.inl rfl) | exact Or.inr (Or.inr rfl)) rfl ?_
  refine fa_cons ?_
  refine fe_int ?_
  refine fa_nil ?_
  refine ⟨_, rfl, ?_⟩
  refine ⟨_, _, ht4, by omega, rfl, by decide, by decide, fun ts4 laps ht5 l0 l1 => ?_⟩
  refine ⟨_, rfl, by omega, by omega, fun i Γ m => ∃ a b c d e g h, ∃ (ts' : List PyData) (l' : List (Int × Int)), Γ = [.ob 0, .dat (.int 5), .dat (.int n), .dat (.int kind), a, b, c, d, .ob 1, e, g, h] ∧ m = [.lst ts', .lst ((l ++ l').map pD)] ∧ Tin (t + 10 + 2 * i) ts' ∧ l'.length ≤ i ∧ ∀ x ∈ l', 0 ≤ x.1 ∧ x.1 < (n : Int) ∧ 0 ≤ x.2 ∧ x.2 < (n : Int) ∧ x.1 ≠ x.2,
    ⟨_, _, _, _, _, _, _, ts4, [], rfl, by rw [List.append_nil]; rfl, ht5.up (by omega), Nat.le_refl _, fun x hx => (by cases hx)⟩, fun i d Γ m hd iv => ?_, fun Γ m iv => ?_⟩
  · obtain ⟨a, b, c, d, e, g, h, ts', l', rfl, rfl, ht', ll, lo'⟩ := iv
    have hi := (rgN_get hd).2
    refine fs_par (i := 10) (j := 11) rfl sc_frame_L.nd rfl rfl (by decide) rfl rfl (fv_fe ?_)
    refine fe_callM (i := 0) (h_take_L G) hr rfl (by first | exact Or.inl rfl | exact Or.inr (Or.inl rfl) | exact Or.inr (Or.inr rfl)) rfl ?_
    refine fa_cons ?_
    refine nm 2 ?_
    refine fa_nil ?_
    refine ⟨_, rfl, ?_⟩
    refine ⟨_, _, ht', by omega, rfl, by omega, by omega, fun ts5 u htu u0 u1 => ?_⟩
    refine fv_fe ?_
    refine fe_callM (i := 0) (h_take_L G) hr rfl (by first | exact Or.inl rfl | exact Or.inr (Or.inl rfl) | exact Or.inr (Or.inr rfl)) rfl ?_
    refine fa_cons ?_
    refine nm 2 ?_
    refine fa_nil ?_
    refine ⟨_, rfl, ?_⟩
    refine ⟨_, _, htu, by omega, rfl, by omega, by omega, fun ts6 v htv v0 v1 => ?_⟩
    refine fs_if ?_
    refine fb_ne hr ?_
    refine nm 10 ?_
    refine nm 11 ?_
    by_cases cuv : u = v
    · refine andF (by rw [decide_eq_true cuv]; rfl) (fs_nil (fs_nil ?_))
      exact ⟨_, _, _, _, _, _, _, ts6, l', rfl, rfl, htv.up (by omega), by omega, lo'⟩
    · refine andV (by rw [decide_eq_false cuv]; rfl) ?_
      refine fs_app (i := 8) rfl (by first | exact Or.inl rfl | exact Or.inr (Or.inl rfl) | exact Or.inr (Or.inr rfl)) rfl ⟨_, rfl⟩ ?_
      refine fe_tup ?_
      refine fa_cons ?_
      refine nm 10 ?_
      refine fa_cons ?_
      refine nm 11 ?_
      refine fa_nil ?_
      refine ⟨Nat.le_of_ble_eq_true rfl, ?_⟩
      refine ⟨_, rfl, by rw [List.length_map, List.length_append]; omega, fs_nil (fs_nil ?_)⟩
      refine ⟨_, _, _, _, _, _, _, ts6, l' ++ [(u, v)], rfl, ?_, htv.up (by omega), by rw [List.length_append, List.length_singleton]; omega, fun x hx => ?_⟩
      · rw [← List.append_assoc, List.map_append (l₁ := l ++ l')]; rfl
      · rcases List.mem_append.mp hx with hx | hx
        · exact lo' x hx
        · rw [List.mem_singleton.mp hx]; exact ⟨u0, u1, v0, v1, cuv⟩
  · obtain ⟨a, b, c, d, e, g, h, ts', l', rfl, rfl, ht', ll, lo'⟩ := iv
    rw [rgN_length] at ht' ll
    have ok : ∀ x ∈ l ++ l', 0 ≤ x.1 ∧ x.1 < (n : Int) ∧ 0 ≤ x.2 ∧ x.2 < (n : Int) ∧ x.1 ≠ x.2 := fun x hx => by
      rcases List.mem_append.mp hx with hx | hx
      · have := lo x hx; omega
      · exact lo' x hx
    refine fs_ret (fe_frz rfl ?_)
    refine fe_call (h_joined_L G) hr ?_
    refine fa_cons ?_
    refine nm 2 ?_
    refine fa_cons ?_
    refine nm 8 ?_
    refine fa_nil ?_
    refine ⟨_, l ++ l', rfl, by rw [List.length_append]; omega, few _ ok, fun ys h1 h2 => ?_⟩
    refine ⟨?_, _, _, rfl, fin _ _ _ ys ht' (by omega) ok (fun k k0 k1 => ?_) h1 h2⟩
    · show (true && (flat (bsD ys) && true)) = true
      rw [flat_bsD]; rfl
    · by_cases z : k = 0
      · obtain ⟨x, hx, e⟩ := la 1 (by decide) (by omega)
        have := lo x hx
        exact ⟨x, List.mem_append_left _ hx, .inl (by omega)⟩
      · obtain ⟨x, hx, e⟩ := la k (by omega) (by omega)
        exact ⟨x, List.mem_append_left _ hx, .inr e⟩
end
end K13

set_option maxRecDepth 100000
set_option maxHeartbeats 4000000
set_option autoImplicit false
/-! Walks, part 11: drawn stands, prices; straight plans, cut plans. -/
namespace K13
open PySem PySem.Spec PyProof.Rows L2
theorem rep_one {α : Type} (n : Nat) (x : α) : (List.replicate n [x]).flatten = List.replicate n x := by
  induction n with
  | zero => rfl
  | succ n ih => rw [List.replicate_succ, List.flatten_cons, ih, List.replicate_succ]; rfl
theorem rep_ints (n : Nat) (h : Int) : (List.replicate n [PyData.int h]).flatten = (List.replicate n h).map .int := by rw [rep_one, List.map_replicate]
theorem at0_rep {n : Nat} {h j : Int} (hj : 0 ≤ j ∧ j < (n : Int)) : at0 (List.replicate n h) j = h := by
  unfold at0
  rw [List.getD_eq_getElem?_getD, List.getElem?_replicate, if_pos (by omega)]; rfl
theorem stand_rep {n : Nat} {bs : List Beam} (F : FrOk n bs) (h : Int) : Stand n bs (List.replicate n h) := by
  refine ⟨List.length_replicate, fun b hb => ?_⟩
  obtain ⟨e1, e2, e3, e4, _⟩ := F.ends b hb
  rw [at0_rep ⟨e1, e2⟩, at0_rep ⟨e3, e4⟩]
  omega
/-- all heights between lo and hi -/
def Btw (lo hi : Int) (hs : List Int) : Prop := ∀ j : Int, 0 ≤ j → j < (hs.length : Int) → lo ≤ at0 hs j ∧ at0 hs j ≤ hi
theorem Btw.bnd {lo hi b : Int} {hs : List Int} (h : Btw lo hi hs) (h1 : -b ≤ lo) (h2 : hi ≤ b) : Bnd b hs := fun j j1 j2 => by
  have := h j j1 j2
  omega
theorem Btw.put {lo hi : Int} {hs : List Int} {k h : Int} (B : Btw lo hi hs) (hk : 0 ≤ k ∧ k < (hs.length : Int)) (hh : lo ≤ h ∧ h ≤ hi) : Btw lo hi (put0 hs k h) := fun j h1 h2 => by
  rw [put0_length] at h2
  rw [at0_put0 h hk h1]
  split
  · exact hh
  · exact B j h1 h2
theorem room_nbs {n : Nat} {bs : List Beam} {hs ns : List Int} {k h : Int} (F : FrOk n bs) (hp : ns.Perm (nbs bs k)) (e : ns.filter (fun j => decide (1 < (if at0 hs j - h < 0 then -(at0 hs j - h) else at0 hs j - h))) = []) : roomB bs hs k h = true := by
  refine (nbs_room F hs k h).mpr fun j hj => ?_
  have := List.filter_eq_nil_iff.mp e j (hp.mem_iff.mpr hj)
  rw [decide_eq_true_eq] at this
  split at this <;> omega
theorem goal_way {f g : Int} : f + b2i (decide (f < g)) - b2i (decide (g < f)) = (if f < g then f + 1 else if g < f then f - 1 else f) := by
  unfold b2i
  by_cases h1 : f < g
  · have h2 : ¬ g < f := by omega
    simp [h1, h2]
  · by_cases h2 : g < f
    · simp [h1, h2]
    · simp [h1, h2]
section
variable {P : Program} {w : World} {K : PySem.W.Frag} {mg : Str → Option Value} {base : Heap}
theorem sc_some_stand_L : FnScope ["_law_tin", "_law_frame_so", "_law_low_so", "_law_high_so", "_law_goal_so", "_law_k", "_law_found", "_law_lap", "_law_way_so", "_law_j"] ["_law_tin", "_law_frame_so", "_law_low_so", "_law_high_so"] (defScope (topS 44)) := ⟨rfl, rfl, rfl, by decide +kernel, rfl, by decide +kernel, by decide +kernel⟩
def g_some_stand_L : GM := fun ts ds Q => ∃ (t : Nat) (n : Nat) (bs : List Beam) (lo hi : Int), Tin t ts ∧ t < 2 ^ 28 ∧ ds = [fD n bs, .int lo, .int hi] ∧ FrOk n bs ∧ lo ≤ hi ∧ -100 ≤ lo ∧ hi ≤ 100 ∧ ∀ ts' hs, Tin (t + 10) ts' → Stand n bs hs → Btw lo hi hs → Q (sD hs) ts'
theorem h_some_stand_L (G : Prog K mg) : Has P w K mg base "_law_some_stand" 2 (tinR g_some_stand_L) := by
  refine has_tin G.d_some_stand_L sc_some_stand_L (fun ts ds Q h => ?_) (fun f cdv A outer s H E hr ts ds Q h => ?_) <;> obtain ⟨t, n, bs, lo, hi, ht, ht2, rfl, Fr, lh, lb, hb, hq⟩ := h
  · rfl
  have n5 := Fr.hi
  have n2 := Fr.lo
  refine fs_if ?_
  refine fb_eq hr ?_
  refine fe_callM (i := 0) (h_take_L G) hr rfl (by first | exact Or.inl rfl | exact Or.inr (Or.inl rfl) | exact Or.inr (Or.inr rfl)) rfl ?_
  refine fa_cons ?_
  refine fe_int ?_
  refine fa_nil ?_
  refine ⟨_, rfl, ?_⟩
  refine ⟨_, _, ht, by omega, rfl, by decide, by decide, fun ts1 r ht1 r0 r1 => ?_⟩
  refine fe_int ?_
  by_cases c0 : r = 0
  · refine andV (decide_eq_true c0) (fs_ret ?_)
    refine fe_mul ?_
    refine fe_tup ?_
    refine fa_cons ?_
    refine fe_add ?_
    refine nm 2 ?_
    refine fe_callM (i := 0) (h_take_L G) hr rfl (by first | exact Or.inl rfl | exact Or.inr (Or.inl rfl) | exact Or.inr (Or.inr rfl)) rfl ?_
    refine fa_cons ?_
    refine fe_add ?_
    refine fe_sub ?_
    refine nm 3 ?_
    refine nm 2 ?_
    refine fe_int ?_
    refine fa_nil ?_
    refine ⟨_, rfl, ?_⟩
    refine ⟨_, _, ht1, by omega, rfl, by omega, by omega, fun ts2 u ht2' u0 u1 => ?_⟩
    refine fa_nil ?_
    refine ⟨Nat.le_of_ble_eq_true rfl, ?_⟩
    refine fe_ix ?_
    refine nm 1 ?_
    refine fe_int ?_
    refine ⟨_, rfl, ?_⟩
    refine ⟨by simp, by omega, by omega, by simp, ?_⟩
    rw [Int.toNat_natCast, rep_ints]
    refine ⟨_, _, rfl, hq _ _ (ht2'.up (by omega)) (stand_rep Fr _) fun j j1 j2 => ?_⟩
    rw [List.length_replicate] at j2
    rw [at0_rep ⟨j1, j2⟩]
    omega
  refine andF (decide_eq_false c0) (fs_nil ?_)
  refine fs_fl (i := 4) ?_ rfl
  refine fl_lc (own := [("_law_k", 5)]) (S := [5]) (b := bName 5) rfl sc_some_stand_L.nd (by show blkC ["_law_tin", "_law_frame_so", "_law_low_so", "_law_high_so", "_law_goal_so", "_law_k", "_law_found", "_law_lap", "_law_way_so", "_law_j"] (defScope (topS 44)) _ _ = true; decide +kernel) rfl (fun s H C cl fp => tg_name sc_some_stand_L.nd rfl (.inl (lookup_relabel_local rfl)) (.inr (lookup_relabel_local rfl))) (fi_range G.bl ?_)
  refine fe_ix ?_
  refine nm 1 ?_
  refine fe_int ?_
  refine ⟨_, rfl, ?_⟩
  refine ⟨(n : Int), rfl, by omega, by omega, fun i acc m => ∃ (ts' : List PyData) (l : List Int), m = [.lst ts'] ∧ acc = l.map .int ∧ l.length = i ∧ Tin (t + 1 + i) ts' ∧ ∀ x ∈ l, lo ≤ x ∧ x ≤ hi,
    ⟨ts1, [], rfl, rfl, rfl, ht1, fun x hx => (by cases hx)⟩, fun i d acc m hd iv => ?_, fun acc m iv => ?_⟩
  · obtain ⟨ts', l, rfl, rfl, hl, ht', lo'⟩ := iv
    obtain ⟨rfl, hi'⟩ := rgN_get hd
    rw [Int.toNat_natCast] at hi'
    intro s H C cl fp
    show ∀ s H C cl fp, FE _ _ _ _ _
    intro s H C cl fp
    refine fe_add ?_
    refine nm 2 ?_
    refine fe_callM (i := 0) (h_take_L G) hr rfl (by first | exact Or.inl rfl | exact Or.inr (Or.inl rfl) | exact Or.inr (Or.inr rfl)) rfl ?_
    refine fa_cons ?_
    refine fe_add ?_
    refine fe_sub ?_
    refine nm 3 ?_
    refine nm 2 ?_
    refine fe_int ?_
    refine fa_nil ?_
    refine ⟨_, rfl, ?_⟩
    refine ⟨_, _, ht', by omega, rfl, by omega, by omega, fun ts3 u ht4 u0 u1 => ?_⟩
    refine ⟨by rw [List.length_map]; omega, ts3, l ++ [lo + u], rfl, by rw [List.map_append]; rfl, by rw [List.length_append, hl]; rfl, ht4.up (by omega), fun x hx => ?_⟩
    rcases List.mem_append.mp hx with hx | hx
    · exact lo' x hx
    · rw [List.mem_singleton.mp hx]; omega
  obtain ⟨ts3, goal, rfl, rfl, hl, ht4, gb⟩ := iv
  rw [rgN_length, Int.toNat_natCast] at hl ht4
  have gat : ∀ j : Int, 0 ≤ j → j < (n : Int) → lo ≤ at0 goal j ∧ at0 goal j ≤ hi := fun j j1 j2 => by
    obtain ⟨i, rfl⟩ : ∃ i : Nat, j = (i : Int) := ⟨j.toNat, by omega⟩
    have h1 : i < goal.length := by omega
    rw [at0_get h1]
    exact gb _ (List.getElem_mem h1)
  refine fs_set (i := 6) sc_some_stand_L.nd rfl (by first | exact .inl rfl | exact .inr rfl) (fv_fn (fn_rep ?_))
  refine fe_lst ?_
  refine fa_cons ?_
  refine fe_ix ?_
  refine nm 4 ?_
  refine fe_int ?_
  refine ⟨_, at_ints (by rw [hl]; omega), ?_⟩
  refine fa_nil ?_
  refine ⟨Nat.le_of_ble_eq_true rfl, ?_⟩
  refine fe_ix ?_
  refine nm 1 ?_
  refine fe_int ?_
  refine ⟨_, rfl, ?_⟩
  refine ⟨_, _, rfl, rfl, by omega, by omega, by simp, ?_⟩
  rw [Int.toNat_natCast, rep_ints]
  refine fs_for rfl (tg_name (i := 7) sc_some_stand_L.nd rfl (by first | exact .inl rfl | exact .inr rfl) (.inl rfl)) (fi_range G.bl ?_)
  refine fe_ix ?_
  refine nm 1 ?_
  refine fe_int ?_
  refine ⟨_, rfl, ?_⟩
  have g0 := gat 0 (by decide) (by omega)
  refine ⟨(n : Int), rfl, by omega, by omega, fun i Γ m => ∃ a b c, ∃ (hs : List Int) (d : Sl), Γ = [.ob 0, .dat (fD n bs), .dat (.int lo), .dat (.int hi), .dat (.list (goal.map .int)), a, .ob 1, b, c, d] ∧ m = [.lst ts3, .lst (hs.map .int)] ∧ Stand n bs hs ∧ Btw lo hi hs,
    ⟨_, _, _, _, _, rfl, rfl, stand_rep Fr _, fun j j1 j2 => by rw [List.length_replicate] at j2; rw [at0_rep ⟨j1, j2⟩]; exact g0⟩, fun i d Γ m hd iv => ?_, fun Γ m iv => ?_⟩
  · obtain ⟨a, b, c, hs, d, rfl, rfl, S, B⟩ := iv
    refine fs_for rfl (tg_name (i := 5) sc_some_stand_L.nd rfl (by first | exact .inl rfl | exact .inr rfl) (.inl rfl)) (fi_range G.bl ?_)
    refine fe_ix ?_
    refine nm 1 ?_
    refine fe_int ?_
    refine ⟨_, rfl, ?_⟩
    refine ⟨(n : Int), rfl, by omega, by omega, fun i Γ m => ∃ a b c, ∃ (hs : List Int) (d : Sl), Γ = [.ob 0, .dat (fD n bs), .dat (.int lo), .dat (.int hi), .dat (.list (goal.map .int)), a, .ob 1, b, c, d] ∧ m = [.lst ts3, .lst (hs.map .int)] ∧ Stand n bs hs ∧ Btw lo hi hs,
      ⟨_, _, _, _, _, rfl, rfl, S, B⟩, fun j d2 Γ m hd2 iv => ?_, fun Γ m iv => ?_⟩
    · clear S B hd
      obtain ⟨a, b, c, hs, d, rfl, rfl, S, B⟩ := iv
      obtain ⟨rfl, hj⟩ := rgN_get hd2
      rw [Int.toNat_natCast] at hj
      rw [Int.zero_add]
      have hk : (0 : Int) ≤ (j : Int) ∧ (j : Int) < (n : Int) := ⟨by omega, by omega⟩
      have hk2 : (0 : Int) ≤ (j : Int) ∧ (j : Int) < (hs.length : Int) := by rw [S.len]; exact hk
      refine fs_set (i := 8) sc_some_stand_L.nd rfl (by first | exact .inl rfl | exact .inr rfl) (fv_fe (fe_frz rfl ?_))
      refine fe_sub ?_
      refine fe_add ?_
      refine fe_ix ?_
      refine nm 6 ?_
      refine nm 5 ?_
      refine ⟨_, at_ints hk2, ?_⟩
      refine fe_gt ?_
      refine fe_ix ?_
      refine nm 4 ?_
      refine nm 5 ?_
      refine ⟨_, at_ints (by rw [hl]; exact hk), ?_⟩
      refine fe_ix ?_
      refine nm 6 ?_
      refine nm 5 ?_
      refine ⟨_, at_ints hk2, ?_⟩
      refine fe_lt ?_
      refine fe_ix ?_
      refine nm 4 ?_
      refine nm 5 ?_
      refine ⟨_, at_ints (by rw [hl]; exact hk), ?_⟩
      refine fe_ix ?_
      refine nm 6 ?_
      refine nm 5 ?_
      refine ⟨_, at_ints hk2, ?_⟩
      refine ⟨rfl, ?_⟩
      rw [goal_way]
      generalize hw : (if at0 hs (j : Int) < at0 goal (j : Int) then at0 hs (j : Int) + 1 else if at0 goal (j : Int) < at0 hs (j : Int) then at0 hs (j : Int) - 1 else at0 hs (j : Int)) = way
      have wb : lo ≤ way ∧ way ≤ hi := by
        have := gat _ hk.1 hk.2
        have := B _ hk2.1 hk2.2
        rw [← hw]
        split
        · omega
        · split <;> omega
      refine fs_if (fb_frz rfl (fb_eq hr (fe_fn (lcN 9 PyData.int (fun j => decide (1 < (if at0 hs j - way < 0 then -(at0 hs j - way) else at0 hs j - way))) (fun _ => .int 1) sc_some_stand_L.nd (by show blkC ["_law_tin", "_law_frame_so", "_law_low_so", "_law_high_so", "_law_goal_so", "_law_k", "_law_found", "_law_lap", "_law_way_so", "_law_j"] (defScope (topS 44)) _ _ = true; decide +kernel) (fi_lst ?_)))))
      refine fe_call (h_next_to_L G) hr ?_
      refine fa_cons ?_
      refine nm 1 ?_
      refine fa_cons ?_
      refine nm 5 ?_
      refine fa_nil ?_
      refine ⟨n, bs, (j : Int), rfl, Fr.len, fun ns' hp => ?_⟩
      have hin : ∀ x ∈ ns', 0 ≤ x ∧ x < (n : Int) := fun x hx => nbs_in Fr _ x (hp.mem_iff.mp hx)
      refine ⟨_, rfl, ns', rfl, ?_, fun x hx s H C cl fp => ?_, ?_⟩
      · rw [hp.length_eq]; exact Nat.lt_of_le_of_lt (nbs_length bs _) (Nat.lt_trans Fr.len (by decide))
      · show FB _ _ _ _ _
        refine fb_gt ?_
        refine fe_abs G.bl ?_
        refine fe_sub ?_
        refine fe_ix ?_
        refine nm 6 ?_
        refine nm 9 ?_
        refine ⟨_, at_ints (by rw [S.len]; exact hin x hx), ?_⟩
        refine nm 8 ?_
        refine fe_int ?_
        refine ⟨rfl, rfl, fun _ s H C cl fp => ?_⟩
        refine fe_int ?_
        exact ⟨rfl, rfl⟩
      refine fe_lst (fa_nil ⟨le5 rfl, ?_⟩)
      refine ⟨min_r depth_nil (by decide), ?_⟩
      rw [eqv_nil]
      cases eF : ns'.filter (fun j => decide (1 < (if at0 hs j - way < 0 then -(at0 hs j - way) else at0 hs j - way))) with
      | nil =>
        have rm := room_nbs Fr hp eF
        refine andV rfl ?_
        refine fs_setL (i := 6) rfl (by first | exact Or.inl rfl | exact Or.inr (Or.inl rfl) | exact Or.inr (Or.inr rfl)) rfl ?_
        refine nm 8 ?_
        refine nm 5 ?_
        refine ⟨_, _, _, rfl, rfl, ixN_in (by rw [List.length_map]; exact hk2), fs_nil (fs_nil ?_)⟩
        refine ⟨_, _, _, put0 hs (j : Int) way, _, rfl, ?_, stand_put Fr S hk rm, B.put hk2 wb⟩
        rw [← put_ints]; rfl
      | cons x r =>
        refine andF rfl (fs_nil (fs_nil ?_))
        exact ⟨_, _, _, hs, _, rfl, rfl, S, B⟩
    · clear S B
      obtain ⟨a, b, c, hs, d, rfl, rfl, S, B⟩ := iv
      exact fs_nil ⟨_, _, _, hs, _, rfl, rfl, S, B⟩
  · obtain ⟨a, b, c, hs, d, rfl, rfl, S, B⟩ := iv
    refine fs_ret (fe_frz rfl ?_)
    refine fe_tuple G.bl ?_
    refine nm 6 ?_
    exact ⟨flat_sD _, _, _, rfl, hq _ _ (ht4.up (by omega)) S B⟩
theorem sc_two_stands_L : FnScope ["_law_tin", "_law_frame_so", "_law_high_so", "_law_kind_so", "_law_near_so", "_law_one_so", "_law_other_so"] ["_law_tin", "_law_frame_so", "_law_high_so"] (defScope (topS 45)) := ⟨rfl, rfl, rfl, by decide +kernel, rfl, by decide +kernel, by decide +kernel⟩
def g_two_stands_L : GM := fun ts ds Q => ∃ (t : Nat) (n : Nat) (bs : List Beam), Tin t ts ∧ t < 2 ^ 27 ∧ ds = [fD n bs, .int 3] ∧ FrOk n bs ∧ ∀ ts' one other, Tin (t + 30) ts' → Stand n bs one → Stand n bs other → Bnd 3 one → Bnd 3 other → Q (.tuple [sD one, sD other]) ts'
theorem h_two_stands_L (G : Prog K mg) : Has P w K mg base "_law_two_stands" 3 (tinR g_two_stands_L) := by
  refine has_tin G.d_two_stands_L sc_two_stands_L (fun ts ds Q h => ?_) (fun f cdv A outer s H E hr ts ds Q h => ?_) <;> obtain ⟨t, n, bs, ht, ht2, rfl, Fr, hq⟩ := h
  · rfl
  have n5 := Fr.hi
  have n2 := Fr.lo
  refine fs_par (i := 3) (j := 4) rfl sc_two_stands_L.nd rfl rfl (by decide) rfl rfl (fv_fe ?_)
  refine fe_callM (i := 0) (h_take_L G) hr rfl (by first | exact Or.inl rfl | exact Or.inr (Or.inl rfl) | exact Or.inr (Or.inr rfl)) rfl ?_
  refine fa_cons ?_
  refine fe_int ?_
  refine fa_nil ?_
  refine ⟨_, rfl, ?_⟩
  refine ⟨_, _, ht, by omega, rfl, by decide, by decide, fun ts1 kind ht1 k0 k1 => ?_⟩
  refine fv_fe ?_
  refine fe_min2 G.bl rfl hr ?_
  refine fe_int ?_
  refine nm 2 ?_
  refine fs_if ?_
  refine fb_eq hr ?_
  refine nm 3 ?_
  refine fe_int ?_
  by_cases c0 : kind = 0
  · refine andV (decide_eq_true c0) ?_
    refine fs_set (i := 5) sc_two_stands_L.nd rfl (by first | exact .inl rfl | exact .inr rfl) (fv_fe ?_)
    refine fe_callM (i := 0) (h_some_stand_L G) hr rfl (by first | exact Or.inl rfl | exact Or.inr (Or.inl rfl) | exact Or.inr (Or.inr rfl)) rfl ?_
    refine fa_cons ?_
    refine nm 1 ?_
    refine fa_cons ?_
    refine fe_int ?_
    refine fa_cons ?_
    refine nm 2 ?_
    refine fa_nil ?_
    refine ⟨_, rfl, ?_⟩
    refine ⟨_, n, bs, 0, 3, ht1, by omega, rfl, Fr, by decide, by decide, by decide, fun ts2 hs ht3 S B => ?_⟩
    refine fs_ret ?_
    refine fe_tup ?_
    refine fa_cons ?_
    refine nm 5 ?_
    refine fa_cons ?_
    refine nm 5 ?_
    refine fa_nil ?_
    refine ⟨Nat.le_of_ble_eq_true rfl, ?_⟩
    exact ⟨_, _, rfl, hq _ _ _ (ht3.up (by omega)) S S (B.bnd (by decide) (by decide)) (B.bnd (by decide) (by decide))⟩
  refine andF (decide_eq_false c0) (fs_nil (fs_if ?_))
  refine fb_eq hr ?_
  refine nm 3 ?_
  refine fe_int ?_
  by_cases c1 : kind = 1
  · refine andV (decide_eq_true c1) (fs_ret ?_)
    refine fe_tup ?_
    refine fa_cons ?_
    refine fe_mul ?_
    refine fe_tup ?_
    refine fa_cons ?_
    refine fe_int ?_
    refine fa_nil ?_
    refine ⟨Nat.le_of_ble_eq_true rfl, ?_⟩
    refine fe_ix ?_
    refine nm 1 ?_
    refine fe_int ?_
    refine ⟨_, rfl, ?_⟩
    refine ⟨by simp, by omega, by omega, by simp, ?_⟩
    rw [Int.toNat_natCast, rep_ints]
    refine fa_cons ?_
    refine fe_mul ?_
    refine fe_tup ?_
    refine fa_cons ?_
    refine nm 2 ?_
    refine fa_nil ?_
    refine ⟨Nat.le_of_ble_eq_true rfl, ?_⟩
    refine fe_ix ?_
    refine nm 1 ?_
    refine fe_int ?_
    refine ⟨_, rfl, ?_⟩
    refine ⟨by simp, by omega, by omega, by simp, ?_⟩
    rw [Int.toNat_natCast, rep_ints]
    refine fa_nil ?_
    refine ⟨Nat.le_of_ble_eq_true rfl, ?_⟩
    have b : ∀ h : Int, -3 ≤ h → h ≤ 3 → Bnd 3 (List.replicate n h) := fun h h1 h2 j j1 j2 => by
      rw [List.length_replicate] at j2
      rw [at0_rep ⟨j1, j2⟩]; omega
    exact ⟨_, _, rfl, hq _ _ _ (ht1.up (by omega)) (stand_rep Fr 0) (stand_rep Fr 3) (b 0 (by decide) (by decide)) (b 3 (by decide) (by decide))⟩
  refine andF (decide_eq_false c1) (fs_nil (fs_if ?_))
  refine fb_lt ?_
  refine nm 3 ?_
  refine fe_int ?_
  by_cases c2 : kind < 4
  · refine andV (decide_eq_true c2) (fs_ret ?_)
    refine fe_tup ?_
    refine fa_cons ?_
    refine fe_callM (i := 0) (h_some_stand_L G) hr rfl (by first | exact Or.inl rfl | exact Or.inr (Or.inl rfl) | exact Or.inr (Or.inr rfl)) rfl ?_
    refine fa_cons ?_
    refine nm 1 ?_
    refine fa_cons ?_
    refine fe_int ?_
    refine fa_cons ?_
    refine nm 2 ?_
    refine fa_nil ?_
    refine ⟨_, rfl, ?_⟩
    refine ⟨_, n, bs, 0, 3, ht1, by omega, rfl, Fr, by decide, by decide, by decide, fun ts2 hs ht3 S B => ?_⟩
    refine fa_cons ?_
    refine fe_callM (i := 0) (h_some_stand_L G) hr rfl (by first | exact Or.inl rfl | exact Or.inr (Or.inl rfl) | exact Or.inr (Or.inr rfl)) rfl ?_
    refine fa_cons ?_
    refine nm 1 ?_
    refine fa_cons ?_
    refine fe_int ?_
    refine fa_cons ?_
    refine nm 2 ?_
    refine fa_nil ?_
    refine ⟨_, rfl, ?_⟩
    refine ⟨_, n, bs, 0, 3, ht3, by omega, rfl, Fr, by decide, by decide, by decide, fun ts3 hs2 ht4 S2 B2 => ?_⟩
    refine fa_nil ?_
    refine ⟨Nat.le_of_ble_eq_true rfl, ?_⟩
    exact ⟨_, _, rfl, hq _ _ _ (ht4.up (by omega)) S S2 (B.bnd (by decide) (by decide)) (B2.bnd (by decide) (by decide))⟩
  refine andF (decide_eq_false c2) (fs_nil ?_)
  refine fs_par (i := 5) (j := 6) rfl sc_two_stands_L.nd rfl rfl (by decide) rfl rfl (fv_fe ?_)
  refine fe_callM (i := 0) (h_some_stand_L G) hr rfl (by first | exact Or.inl rfl | exact Or.inr (Or.inl rfl) | exact Or.inr (Or.inr rfl)) rfl ?_
  refine fa_cons ?_
  refine nm 1 ?_
  refine fa_cons ?_
  refine fe_int ?_
  refine fa_cons ?_
  refine nm 4 ?_
  refine fa_nil ?_
  refine ⟨_, rfl, ?_⟩
  refine ⟨_, n, bs, 0, 1, ht1, by omega, rfl, Fr, by decide, by decide, by decide, fun ts2 hs ht3 S B => ?_⟩
  refine fv_fe ?_
  refine fe_callM (i := 0) (h_some_stand_L G) hr rfl (by first | exact Or.inl rfl | exact Or.inr (Or.inl rfl) | exact Or.inr (Or.inr rfl)) rfl ?_
  refine fa_cons ?_
  refine nm 1 ?_
  refine fa_cons ?_
  refine fe_sub ?_
  refine nm 2 ?_
  refine nm 4 ?_
  refine fa_cons ?_
  refine nm 2 ?_
  refine fa_nil ?_
  refine ⟨_, rfl, ?_⟩
  refine ⟨_, n, bs, 2, 3, ht3, by omega, rfl, Fr, by decide, by decide, by decide, fun ts3 hs2 ht4 S2 B2 => ?_⟩
  refine fs_ret (fe_if ?_)
  refine fb_lt ?_
  refine nm 3 ?_
  refine fe_int ?_
  by_cases c3 : kind < 8
  · refine andV (decide_eq_true c3) ?_
    refine fe_tup ?_
    refine fa_cons ?_
    refine nm 5 ?_
    refine fa_cons ?_
    refine nm 6 ?_
    refine fa_nil ?_
    refine ⟨Nat.le_of_ble_eq_true rfl, ?_⟩
    exact ⟨_, _, rfl, hq _ _ _ (ht4.up (by omega)) S S2 (B.bnd (by decide) (by decide)) (B2.bnd (by decide) (by decide))⟩
  · refine andF (decide_eq_false c3) ?_
    refine fe_tup ?_
    refine fa_cons ?_
    refine nm 6 ?_
    refine fa_cons ?_
    refine nm 5 ?_
    refine fa_nil ?_
    refine ⟨Nat.le_of_ble_eq_true rfl, ?_⟩
    exact ⟨_, _, rfl, hq _ _ _ (ht4.up (by omega)) S2 S (B2.bnd (by decide) (by decide)) (B.bnd (by decide) (by decide))⟩
end
end K13

set_option maxRecDepth 100000
set_option maxHeartbeats 4000000
set_option autoImplicit false
/-! Walks, part 12: straight plans, cut plans, prices. -/
namespace K13
open PySem PySem.Spec PyProof.Rows L2
theorem gCmpI {p : Int → Int → Bool} {i j : Int} {Q : PyData → Prop} (h : Q (.bool (p i j))) : gCmp p (.int i) (.int j) Q := h
section
variable {X : Cx} {Γ : List Sl} {μ : List MObj} {Q : PyData → List MObj → Prop} {a b c : Expr} {pos : Pos}
theorem fe_lt_leP (h : FE X a Γ μ fun d1 m1 => FE X b Γ m1 fun d2 m2 => ∃ x y z : Int, d1 = .int x ∧ d2 = .int y ∧ (FE X c Γ m2 fun d3 m3 => d3 = .int z ∧ m3 = m2) ∧ Q (.bool (decide (x < y) && decide (y ≤ z))) m2) (hm : lastMarks [.Lt, .LtE] [b, c] = false := by with_unfolding_all rfl) :
    FE X (.Compare a [.Lt, .LtE] [b, c] pos) Γ μ Q := by
  refine fe_lt_le (h.imp fun d1 m1 h2 => h2.imp fun d2 m2 ⟨x, y, z, e1, e2, hc, q⟩ => ?_) hm
  subst e1 e2
  refine gCmpI ?_
  show asB _ (.bool (decide (x < y)))
  cases e : decide (x < y) with
  | true =>
    refine andT (hc.imp fun d3 m3 ⟨e3, e4⟩ => ?_)
    subst e3 e4
    rw [e, Bool.true_and] at q
    exact q
  | false =>
    rw [e, Bool.false_and] at q
    exact andF rfl q
theorem fe_gt_geP (h : FE X a Γ μ fun d1 m1 => FE X b Γ m1 fun d2 m2 => ∃ x y z : Int, d1 = .int x ∧ d2 = .int y ∧ (FE X c Γ m2 fun d3 m3 => d3 = .int z ∧ m3 = m2) ∧ Q (.bool (decide (y < x) && decide (z ≤ y))) m2) (hm : lastMarks [.Gt, .GtE] [b, c] = false := by with_unfolding_all rfl) :
    FE X (.Compare a [.Gt, .GtE] [b, c] pos) Γ μ Q := by
  refine fe_gt_ge (h.imp fun d1 m1 h2 => h2.imp fun d2 m2 ⟨x, y, z, e1, e2, hc, q⟩ => ?_) hm
  subst e1 e2
  refine gCmpI ?_
  show asB _ (.bool (decide (y < x)))
  cases e : decide (y < x) with
  | true =>
    refine andT (hc.imp fun d3 m3 ⟨e3, e4⟩ => ?_)
    subst e3 e4
    rw [e, Bool.true_and] at q
    exact q
  | false =>
    rw [e, Bool.false_and] at q
    exact andF rfl q
end
theorem eqv_bb (p q : Bool) : PyData.eqv (.tuple [.bool p, .bool q]) (.tuple [.bool false, .bool false]) = (!p && !q) := by
  refine (PySem.W.Datum.eqv (p, q) (false, false)).trans ?_
  cases p <;> cases q <;> rfl
theorem depth_bb (p q : Bool) : (PyData.tuple [.bool p, .bool q]).depth ≤ 1 := PySem.W.Datum.depth_le (p, q)
theorem numD_at {hs : List Int} {j : Int} (hj : 0 ≤ j ∧ j < (hs.length : Int)) : dval (numD 0 (hs.map .int)) j = some (.int (at0 hs j)) := by
  obtain ⟨m, rfl⟩ : ∃ m : Nat, j = (m : Int) := ⟨j.toNat, by omega⟩
  have hm : m < hs.length := by omega
  have := numD_val (hs.map PyData.int) 0 m (.int hs[m]) (by rw [List.getElem?_map, List.getElem?_eq_getElem hm]; rfl)
  rw [Nat.zero_add] at this
  rw [this, at0_get hm]
section
variable {P : Program} {w : World} {K : PySem.W.Frag} {mg : Str → Option Value} {base : Heap}
theorem sc_is_straight_L : FnScope ["_law_one_so", "_law_other_so", "_law_plan_so", "_law_now_so", "_law_k", "_law_height_so", "_law_ways_so"] ["_law_one_so", "_law_other_so", "_law_plan_so"] (defScope (topS 57)) := ⟨rfl, rfl, rfl, by decide +kernel, rfl, by decide +kernel, by decide +kernel⟩
def g_is_straight_L : GC := fun ds Q => ∃ (n : Nat) (one other : List Int) (p : List Deed), ds = [sD one, sD other, bsD p] ∧ one.length = n ∧ other.length = n ∧ n ≤ 1000 ∧ (∀ d ∈ p, 0 ≤ d.1 ∧ d.1 < (n : Int)) ∧ p.length < 1000 ∧ Q (.bool (straightB other one p))
theorem h_is_straight_L (G : Prog K mg) : Has P w K mg base "_law_is_straight" 1 (pureR g_is_straight_L) := by
  refine has_pure G.d_is_straight_L sc_is_straight_L (fun ds Q h => ?_) (fun f cdv A outer s H E hr ds Q h => ?_) <;> obtain ⟨n, one, other, p, rfl, l1, l2, hn, hin, pl, hq⟩ := h
  · rfl
  refine fs_set (i := 3) sc_is_straight_L.nd rfl (by first | exact .inl rfl | exact .inr rfl) (fv_dictEnum G.bl rfl ?_)
  refine nm 0 ?_
  refine ⟨_, rfl, ?_⟩
  refine fs_for rfl (tg_tup rfl (tgs_cons (tg_name (i := 4) sc_is_straight_L.nd rfl (by first | exact .inl rfl | exact .inr rfl) (.inl rfl)) (tgs_cons (tg_name (i := 5) sc_is_straight_L.nd rfl (by first | exact .inl rfl | exact .inr rfl) (.inl rfl)) tgs_nil))) (fi_tup ?_)
  refine nm 2 ?_
  refine ⟨_, rfl, fun i Γ m => ∃ a b c, ∃ (now : List Int) (kvs : List (Int × PyData)), Γ = [.dat (sD one), .dat (sD other), .dat (bsD p), .ob 0, a, b, c] ∧ m = [.dct kvs] ∧ now.length = n ∧ kvs.length ≤ n + i ∧ (∀ j : Int, 0 ≤ j → j < (n : Int) → dval kvs j = some (.int (at0 now j))) ∧ straightB other one p = straightB other now (p.drop i),
    ⟨_, _, _, one, _, rfl, rfl, l1, by rw [numD_length, List.length_map, l1]; exact Nat.le_refl _, fun j j1 j2 => numD_at (by rw [l1]; exact ⟨j1, j2⟩), rfl⟩, fun i d Γ m hd iv => ?_, fun Γ m iv => ?_⟩
  · obtain ⟨a, b, c, now, kvs, rfl, rfl, ln, lk, bv, inv⟩ := iv
    obtain ⟨dd, hdd, rfl⟩ := map_get hd
    have hi : i < p.length := (List.getElem?_eq_some_iff.mp hdd).1
    have kin := hin dd (List.mem_of_getElem? hdd)
    have bk := bv dd.1 kin.1 kin.2
    rw [drop_one hdd, straightB] at inv
    refine ⟨rfl, rfl, ?_⟩
    refine fs_set (i := 6) sc_is_straight_L.nd rfl (by first | exact .inl rfl | exact .inr rfl) (fv_fe (fe_tup (fa_cons (fe_lt_leP ?_))))
    refine fe_dget (i := 3) hr rfl (by first | exact Or.inl rfl | exact Or.inr (Or.inl rfl) | exact Or.inr (Or.inr rfl)) rfl ?_
    refine nm 4 ?_
    refine ⟨_, kvs, _, rfl, rfl, bk, ?_⟩
    refine nm 5 ?_
    refine ⟨_, _, at0 other dd.1, rfl, rfl, ?_, fa_cons (fe_gt_geP ?_)⟩
    · skip
      refine fe_ix ?_
      refine nm 1 ?_
      refine nm 4 ?_
      refine ⟨_, at_ints (by rw [l2]; exact kin), ?_⟩
      exact ⟨rfl, rfl⟩
    refine fe_dget (i := 3) hr rfl (by first | exact Or.inl rfl | exact Or.inr (Or.inl rfl) | exact Or.inr (Or.inr rfl)) rfl ?_
    refine nm 4 ?_
    refine ⟨_, kvs, _, rfl, rfl, bk, ?_⟩
    refine nm 5 ?_
    refine ⟨_, _, at0 other dd.1, rfl, rfl, ?_, fa_nil ⟨le5 rfl, ?_⟩⟩
    · skip
      refine fe_ix ?_
      refine nm 1 ?_
      refine nm 4 ?_
      refine ⟨_, at_ints (by rw [l2]; exact kin), ?_⟩
      exact ⟨rfl, rfl⟩
    refine fs_if ?_
    refine fb_eq hr ?_
    refine nm 6 ?_
    refine fe_tup ?_
    refine fa_cons ?_
    refine fe_bool ?_
    refine fa_cons ?_
    refine fe_bool ?_
    refine fa_nil ?_
    refine ⟨Nat.le_of_ble_eq_true rfl, ?_⟩
    refine ⟨min32 (depth_bb _ _) (by decide), ?_⟩
    rw [eqv_bb]
    cases e : goesB now other dd with
    | false =>
      have e' := e
      unfold goesB at e'
      rw [Bool.or_eq_false_iff] at e'
      refine andV (by rw [e'.1, e'.2]; rfl) (fs_ret ?_)
      refine fe_bool ?_
      rw [e, Bool.false_and] at inv
      rw [inv] at hq
      exact hq
    | true =>
      have e' := e
      unfold goesB at e'
      refine andF (by rw [← Bool.not_or, e']; rfl) (fs_nil ?_)
      rw [e, Bool.true_and] at inv
      refine fs_setD (i := 3) hr rfl (by first | exact Or.inl rfl | exact Or.inr (Or.inl rfl) | exact Or.inr (Or.inr rfl)) rfl ?_
      refine nm 5 ?_
      refine nm 4 ?_
      refine ⟨kvs, _, rfl, rfl, by omega, fs_nil ?_⟩
      refine ⟨_, _, _, put0 now dd.1 dd.2, _, rfl, rfl, by rw [put0_length]; exact ln, Nat.le_trans (dput_length _ _ _) (by omega), fun j j1 j2 => ?_, inv⟩
      rw [dval_dput, at0_put0 _ (by rw [ln]; exact kin) j1]
      by_cases z : j = dd.1
      · rw [if_pos z, if_pos z]
      · rw [if_neg z, if_neg z]
        exact bv j j1 j2
  · obtain ⟨a, b, c, now, kvs, rfl, rfl, ln, lk, bv, inv⟩ := iv
    rw [List.length_map, List.drop_length] at inv
    refine fs_ret ?_
    refine fe_bool ?_
    rw [inv] at hq
    exact hq
theorem sc_cut_count_L : FnScope ["_law_one_so", "_law_other_so", "_law_plan_so", "_law_now_so", "_law_found", "_law_own", "_law_k", "_law_height_so"] ["_law_one_so", "_law_other_so", "_law_plan_so"] (defScope (topS 60)) := ⟨rfl, rfl, rfl, by decide +kernel, rfl, by decide +kernel, by decide +kernel⟩
def g_cut_count_L : GC := fun ds Q => ∃ (n : Nat) (one other : List Int) (p : List Deed), ds = [sD one, sD other, bsD p] ∧ one.length = n ∧ other.length = n ∧ n ≤ 1000 ∧ (∀ d ∈ p, 0 ≤ d.1 ∧ d.1 < (n : Int)) ∧ p.length < 1000 ∧ Q (.int ((cutGo one other one p).length : Int))
theorem put_same {l : List Int} {k : Int} (hk : 0 ≤ k ∧ k < (l.length : Int)) : put0 l k (at0 l k) = l := by
  refine ext0 (put0_length _ _ _) fun j j1 j2 => ?_
  rw [at0_put0 _ hk j1]
  split
  · rename_i e; rw [e]
  · rfl
theorem h_cut_count_L (G : Prog K mg) : Has P w K mg base "_law_cut_count" 2 (pureR g_cut_count_L) := by
  refine has_pure G.d_cut_count_L sc_cut_count_L (fun ds Q h => ?_) (fun f cdv A outer s H E hr ds Q h => ?_) <;> obtain ⟨n, one, other, p, rfl, l1, l2, hn, hin, pl, hq⟩ := h
  · rfl
  refine fs_par (i := 3) (j := 4) rfl sc_cut_count_L.nd rfl rfl (by decide) rfl rfl (fv_dictEnum G.bl rfl ?_)
  refine nm 0 ?_
  refine ⟨_, rfl, fv_fe ?_⟩
  refine fe_int ?_
  refine fs_for rfl (tg_name (i := 5) sc_cut_count_L.nd rfl (by first | exact .inl rfl | exact .inr rfl) (.inl rfl)) (fi_tup ?_)
  refine nm 2 ?_
  refine ⟨_, rfl, fun i Γ m => ∃ a b c, ∃ (fo : Int) (now : List Int) (kvs : List (Int × PyData)), Γ = [.dat (sD one), .dat (sD other), .dat (bsD p), .ob 0, .dat (.int fo), a, b, c] ∧ m = [.dct kvs] ∧ now.length = n ∧ kvs.length ≤ n + i ∧ (∀ j : Int, 0 ≤ j → j < (n : Int) → dval kvs j = some (.int (at0 now j))) ∧ fo + ((cutGo one other now (p.drop i)).length : Int) = ((cutGo one other one p).length : Int),
    ⟨_, _, _, 0, one, _, rfl, rfl, l1, by rw [numD_length, List.length_map, l1]; exact Nat.le_refl _, fun j j1 j2 => numD_at (by rw [l1]; exact ⟨j1, j2⟩), by rw [Int.zero_add]; rfl⟩, fun i d Γ m hd iv => ?_, fun Γ m iv => ?_⟩
  · obtain ⟨a, b, c, fo, now, kvs, rfl, rfl, ln, lk, bv, inv⟩ := iv
    obtain ⟨dd, hdd, rfl⟩ := map_get hd
    have hi : i < p.length := (List.getElem?_eq_some_iff.mp hdd).1
    have kin := hin dd (List.mem_of_getElem? hdd)
    have bk := bv dd.1 kin.1 kin.2
    rw [drop_one hdd, cutGo] at inv
    refine fs_asgT (tg_tup rfl (tgs_cons (tg_name (i := 6) sc_cut_count_L.nd rfl (by first | exact .inl rfl | exact .inr rfl) (.inl rfl)) (tgs_cons (tg_name (i := 7) sc_cut_count_L.nd rfl (by first | exact .inl rfl | exact .inr rfl) (.inl rfl)) tgs_nil))) ?_
    refine fe_call (h_cut_so_L G) hr ?_
    refine fa_cons ?_
    refine nm 0 ?_
    refine fa_cons ?_
    refine nm 1 ?_
    refine fa_cons ?_
    refine nm 5 ?_
    refine fa_nil ?_
    refine ⟨one, other, dd, rfl, kin.1, by rw [l1]; exact kin.2, by rw [l2]; exact kin.2, ?_⟩
    refine ⟨rfl, rfl, ?_⟩
    refine fs_set (i := 4) sc_cut_count_L.nd rfl (by first | exact .inl rfl | exact .inr rfl) (fv_fe (fe_add ?_))
    refine nm 4 ?_
    refine fe_intc G.bl (fe_ne hr ?_)
    refine fe_dget (i := 3) hr rfl (by first | exact Or.inl rfl | exact Or.inr (Or.inl rfl) | exact Or.inr (Or.inr rfl)) rfl ?_
    refine nm 6 ?_
    refine ⟨_, kvs, _, rfl, rfl, bk, ?_⟩
    refine nm 7 ?_
    show FS _ _ ([.dat (sD one), .dat (sD other), .dat (bsD p), .ob 0, .dat (.int (fo + (if (!decide (at0 now dd.1 = cutH (at0 one dd.1) (at0 other dd.1) dd.2)) = true then 1 else 0))), .dat (pD dd), .dat (.int dd.1), .dat (.int (cutH (at0 one dd.1) (at0 other dd.1) dd.2))]) _ _
    refine fs_setD (i := 3) hr rfl (by first | exact Or.inl rfl | exact Or.inr (Or.inl rfl) | exact Or.inr (Or.inr rfl)) rfl ?_
    refine nm 7 ?_
    refine nm 6 ?_
    refine ⟨kvs, _, rfl, rfl, by omega, fs_nil ?_⟩
    refine ⟨_, _, _, _, put0 now dd.1 (cutH (at0 one dd.1) (at0 other dd.1) dd.2), _, rfl, rfl, by rw [put0_length]; exact ln, Nat.le_trans (dput_length _ _ _) (by omega), fun j j1 j2 => ?_, ?_⟩
    · rw [dval_dput, at0_put0 _ (by rw [ln]; exact kin) j1]
      by_cases z : j = dd.1
      · rw [if_pos z, if_pos z]
      · rw [if_neg z, if_neg z]
        exact bv j j1 j2
    · by_cases c : cutH (at0 one dd.1) (at0 other dd.1) dd.2 = at0 now dd.1
      · rw [if_pos c] at inv
        rw [c, put_same (by rw [ln]; exact kin), decide_eq_true rfl]
        show fo + 0 + _ = _
        omega
      · rw [if_neg c, List.length_cons] at inv
        rw [decide_eq_false (fun z => c z.symm)]
        show fo + 1 + _ = _
        omega
  · obtain ⟨a, b, c, fo, now, kvs, rfl, rfl, ln, lk, bv, inv⟩ := iv
    rw [List.length_map, List.drop_length] at inv
    have inv : fo + 0 = _ := inv
    rw [Int.add_zero] at inv
    refine fs_ret ?_
    refine nm 4 ?_
    rw [← inv] at hq
    exact hq
theorem sc_some_prices_L : FnScope ["_law_tin", "_law_frame_so", "_law_high_so", "_law_none_so", "_law_found", "_law_k", "_law_told_so", "_law_lap", "_law_level_so", "_law_barred_so"] ["_law_tin", "_law_frame_so", "_law_high_so", "_law_none_so"] (defScope (topS 49)) := ⟨rfl, rfl, rfl, by decide +kernel, rfl, by decide +kernel, by decide +kernel⟩
def g_some_prices_L : GM := fun ts ds Q => ∃ (t : Nat) (n : Nat) (bs : List Beam), Tin t ts ∧ t < 2 ^ 28 ∧ ds = [fD n bs, .int 3, .int 3] ∧ FrOk n bs ∧ ∀ ts' pr, Tin (t + 100) ts' → PrOk n pr → Q (.tuple (pr.map prD)) ts'
def okV (d : PyData) : Prop := d = .none ∨ ∃ i : Int, d = .int i ∧ 0 ≤ i
def optV : PyData → Option Int
  | .int i => some i
  | _ => none
theorem itD_opt {kv : Int × PyData} (h : okV kv.2) : itD (kv.1, optV kv.2) = .tuple [.int kv.1, kv.2] := by
  obtain ⟨k, v⟩ := kv
  rcases h with h | ⟨i, h, _⟩
  · have h : v = .none := h
    rw [h]; rfl
  · have h : v = .int i := h
    rw [h]; rfl
theorem dput_ok {kvs : List (Int × PyData)} {k : Int} {d : PyData} (h : ∀ kv ∈ kvs, okV kv.2) (hd : okV d) : ∀ kv ∈ dput kvs k d, okV kv.2 := by
  intro kv hkv
  unfold dput at hkv
  split at hkv
  · obtain ⟨x, hx, rfl⟩ := List.mem_map.mp hkv
    split
    · exact hd
    · exact h x hx
  · rcases List.mem_append.mp hkv with hkv | hkv
    · exact h kv hkv
    · rw [List.mem_singleton.mp hkv]; exact hd
theorem flat_prD (r : PrRow) : flat (prD r) = true := by
  show (true && (flatAll (r.2.map itD) && true)) = true
  have : flatAll (r.2.map itD) = true := by
    generalize r.2 = l
    induction l with
    | nil => rfl
    | cons x l ih =>
      rw [List.map_cons, flatAll, ih]
      have : flat (itD x) = true := by
        obtain ⟨k, v⟩ := x
        cases v <;> rfl
      rw [this]; rfl
  rw [this]; rfl
theorem flat_prs (rows : List PrRow) : flat (.tuple (rows.map prD)) = true := by
  show flatAll (rows.map prD) = true
  induction rows with
  | nil => rfl
  | cons r l ih => rw [List.map_cons, flatAll, flat_prD, ih]; rfl
theorem junk_at {a b x : MObj} {junk : List MObj} : (a :: b :: (junk ++ [x]))[(a :: b :: junk).length]? = some x := by simp
theorem junk_set {a b x y : MObj} {junk : List MObj} : (a :: b :: (junk ++ [x])).set (a :: b :: junk).length y = a :: b :: (junk ++ [y]) := by simp
theorem goods_ok {xs : List Int} {x : PyData} (h : x ∈ xs.map PyData.int) (hx : xs.all (fun i => decide (0 ≤ i)) = true) : ∃ i : Int, x = .int i ∧ 0 ≤ i := by
  obtain ⟨i, hi, rfl⟩ := List.mem_map.mp h
  exact ⟨i, rfl, of_decide_eq_true (List.all_eq_true.mp hx i hi)⟩
theorem h_some_prices_L (G : Prog K mg) : Has P w K mg base "_law_some_prices" 3 (tinR g_some_prices_L) := by
  refine has_tin G.d_some_prices_L sc_some_prices_L (fun ts ds Q h => ?_) (fun f cdv A outer s H E hr ts ds Q h => ?_) <;> obtain ⟨t, n, bs, ht, ht2, rfl, Fr, hq⟩ := h
  · rfl
  have n5 := Fr.hi
  refine fs_set (i := 4) sc_some_prices_L.nd rfl (by first | exact .inl rfl | exact .inr rfl) (fv_fn (fn_lst (fa_nil ⟨le5 rfl, ?_⟩)))
  refine fs_for rfl (tg_name (i := 5) sc_some_prices_L.nd rfl (by first | exact .inl rfl | exact .inr rfl) (.inl rfl)) (fi_range G.bl ?_)
  refine fe_ix ?_
  refine nm 1 ?_
  refine fe_int ?_
  refine ⟨_, rfl, ?_⟩
  refine ⟨(n : Int), rfl, by omega, by omega, fun i Γ m => ∃ a b c d e, ∃ (ts' : List PyData) (rows : List PrRow) (junk : List MObj), Γ = [.ob 0, .dat (fD n bs), .dat (.int 3), .dat (.int 3), .ob 1, a, b, c, d, e] ∧ m = .lst ts' :: .lst (rows.map prD) :: junk ∧ noGone junk = true ∧ Tin (t + 10 * i) ts' ∧ rows.length = i ∧
      ∀ r ∈ rows, r.2.length < 1000 ∧ 0 ≤ r.1 ∧ ∀ x ∈ r.2, ∀ v, x.2 = some v → 0 ≤ v,
    ⟨_, _, _, _, _, ts, [], [], rfl, rfl, rfl, ht, rfl, fun r hr => (by cases hr)⟩, fun i d Γ m hd iv => ?_, fun Γ m iv => ?_⟩
  · obtain ⟨a, b, c, d0, e, ts', rows, junk, rfl, rfl, ng, ht', rl, ro⟩ := iv
    have hi := (rgN_get hd).2
    rw [Int.toNat_natCast] at hi
    refine fs_set (i := 6) sc_some_prices_L.nd rfl (by first | exact .inl rfl | exact .inr rfl) (fv_dict ?_)
    show FS _ _ [.ob 0, .dat (fD n bs), .dat (.int 3), .dat (.int 3), .ob 1, .dat d, .ob (MObj.lst ts' :: MObj.lst (rows.map prD) :: junk).length, c, d0, e] (.lst ts' :: .lst (rows.map prD) :: (junk ++ [.dct []])) _
    refine fs_for rfl (tg_name (i := 7) sc_some_prices_L.nd rfl (by first | exact .inl rfl | exact .inr rfl) (.inl rfl)) (fi_range G.bl ?_)
    refine fe_callM (i := 0) (h_take_L G) hr rfl (by first | exact Or.inl rfl | exact Or.inr (Or.inl rfl) | exact Or.inr (Or.inr rfl)) rfl ?_
    refine fa_cons ?_
    refine fe_int ?_
    refine fa_nil ?_
    refine ⟨_, rfl, ?_⟩
    refine ⟨_, _, ht', by omega, rfl, by decide, by decide, fun ts1 laps ht1 r0 r1 => ?_⟩
    have r1 : laps < 3 := r1
    refine ⟨_, rfl, by omega, by omega, fun j Γ m => ∃ c d0 e, ∃ (ts' : List PyData) (kvs : List (Int × PyData)), Γ = [.ob 0, .dat (fD n bs), .dat (.int 3), .dat (.int 3), .ob 1, .dat d, .ob (MObj.lst ts :: MObj.lst (rows.map prD) :: junk).length, c, d0, e] ∧ m = .lst ts' :: .lst (rows.map prD) :: (junk ++ [.dct kvs]) ∧ Tin (t + 10 * i + 1 + 3 * j) ts' ∧ kvs.length ≤ j ∧ ∀ kv ∈ kvs, okV kv.2,
      ⟨_, _, _, ts1, [], rfl, rfl, ht1, Nat.le_refl _, fun kv hkv => (by cases hkv)⟩, fun j d2 Γ m hd2 iv => ?_, fun Γ m iv => ?_⟩
    · obtain ⟨c, d0, e, ts2, kvs, rfl, rfl, ht2', kl, ko⟩ := iv
      have hj := (rgN_get hd2).2
      refine fs_set (i := 8) sc_some_prices_L.nd rfl (by first | exact .inl rfl | exact .inr rfl) (fv_fe ?_)
      refine fe_callM (i := 0) (h_take_L G) hr rfl (by first | exact Or.inl rfl | exact Or.inr (Or.inl rfl) | exact Or.inr (Or.inr rfl)) rfl ?_
      refine fa_cons ?_
      refine fe_add ?_
      refine nm 2 ?_
      refine fe_int ?_
      refine fa_nil ?_
      refine ⟨_, rfl, ?_⟩
      refine ⟨_, _, ht2', by omega, rfl, by decide, by decide, fun ts3 lev ht3 v0 v1 => ?_⟩
      refine fs_set (i := 9) sc_some_prices_L.nd rfl (by first | exact .inl rfl | exact .inr rfl) (fv_fe ?_)
      refine fe_and ?_
      refine fe_gt ?_
      refine nm 3 ?_
      refine fe_int ?_
      refine gCmpI ?_
      refine andV rfl ?_
      refine fe_one ?_
      refine fe_eq hr ?_
      refine fe_callM (i := 0) (h_take_L G) hr rfl (by first | exact Or.inl rfl | exact Or.inr (Or.inl rfl) | exact Or.inr (Or.inr rfl)) rfl ?_
      refine fa_cons ?_
      refine nm 3 ?_
      refine fa_nil ?_
      refine ⟨_, rfl, ?_⟩
      refine ⟨_, _, ht3, by omega, rfl, by decide, by decide, fun ts4 bar ht4 w0 w1 => ?_⟩
      refine fe_int ?_
      show FS _ _ [.ob 0, .dat (fD n bs), .dat (.int 3), .dat (.int 3), .ob 1, .dat d, .ob (MObj.lst ts :: MObj.lst (rows.map prD) :: junk).length, .dat d2, .dat (.int lev), .dat (.bool (decide (bar = 0)))] (.lst ts4 :: .lst (rows.map prD) :: (junk ++ [.dct kvs])) _
      refine fs_setD (i := 6) hr rfl (by first | exact Or.inl rfl | exact Or.inr (Or.inl rfl) | exact Or.inr (Or.inr rfl)) rfl (FE.imp (Q := fun v m' => ∃ ts5, m' = .lst ts5 :: .lst (rows.map prD) :: (junk ++ [.dct kvs]) ∧ Tin (t + 10 * i + 1 + 3 * (j + 1)) ts5 ∧ okV v) ?_ fun v m' ⟨ts5, em, ht5, hv⟩ => ?_)
      · refine fe_if (fb_val ?_)
        refine nm 9 ?_
        cases ec : decide (bar = 0) with
        | true =>
          refine andV rfl ?_
          refine fe_none ?_
          exact ⟨ts4, rfl, ht4.up (by omega), .inl rfl⟩
        | false =>
          refine andF rfl ?_
          refine fe_callM (i := 0) (h_of_L G) hr rfl (by first | exact Or.inl rfl | exact Or.inr (Or.inl rfl) | exact Or.inr (Or.inr rfl)) rfl ?_
          refine fa_cons ?_
          refine fe_lst ?_
          refine fa_cons ?_
          refine fe_int ?_
          refine fa_cons ?_
          refine fe_int ?_
          refine fa_cons ?_
          refine fe_int ?_
          refine fa_cons ?_
          refine fe_int ?_
          refine fa_cons ?_
          refine fe_int ?_
          refine fa_nil ?_
          refine ⟨Nat.le_of_ble_eq_true rfl, ?_⟩
          refine fa_nil ?_
          refine ⟨_, rfl, ?_⟩
          refine ⟨_, _, ht4, by omega, rfl, by simp, by simp, fun ts5 x ht5 hx => ?_⟩
          exact ⟨ts5, rfl, ht5.up (by omega), .inr (goods_ok (xs := [0, 1, 2, 5, 9]) hx rfl)⟩
      · subst em
        refine nm 8 ?_
        refine ⟨kvs, _, rfl, junk_at, by omega, fs_nil ?_⟩
        have es : (MObj.lst ts5 :: .lst (rows.map prD) :: (junk ++ [.dct kvs])).set (MObj.lst ts :: MObj.lst (rows.map prD) :: junk).length (.dct (dput kvs lev v)) = .lst ts5 :: .lst (rows.map prD) :: (junk ++ [.dct (dput kvs lev v)]) := junk_set
        rw [es]
        exact ⟨_, _, _, ts5, _, rfl, rfl, ht5, Nat.le_trans (dput_length _ _ _) (by omega), dput_ok ko hv⟩
    · obtain ⟨c, d0, e, ts2, kvs, rfl, rfl, ht2', kl, ko⟩ := iv
      rw [rgN_length] at ht2' kl
      refine fs_app (i := 4) rfl (by first | exact Or.inl rfl | exact Or.inr (Or.inl rfl) | exact Or.inr (Or.inr rfl)) rfl ⟨_, rfl⟩ ?_
      refine fe_tup (fa_cons ?_)
      refine fe_callM (i := 0) (h_of_L G) hr rfl (by first | exact Or.inl rfl | exact Or.inr (Or.inl rfl) | exact Or.inr (Or.inr rfl)) rfl ?_
      refine fa_cons ?_
      refine fe_lst ?_
      refine fa_cons ?_
      refine fe_int ?_
      refine fa_cons ?_
      refine fe_int ?_
      refine fa_cons ?_
      refine fe_int ?_
      refine fa_cons ?_
      refine fe_int ?_
      refine fa_cons ?_
      refine fe_int ?_
      refine fa_nil ?_
      refine ⟨Nat.le_of_ble_eq_true rfl, ?_⟩
      refine fa_nil ?_
      refine ⟨_, rfl, ?_⟩
      refine ⟨_, _, ht2', by omega, rfl, by simp, by simp, fun ts3 x ht3 hx => ?_⟩
      obtain ⟨bp, rfl, bp0⟩ := goods_ok (xs := [1, 1, 2, 3, 7]) hx rfl
      refine fa_cons (fe_tuple G.bl (fe_sortedItems (i := 6) G.bl rfl hr rfl (by first | exact Or.inl rfl | exact Or.inr (Or.inl rfl) | exact Or.inr (Or.inr rfl)) rfl junk_at (by omega) (fun kv hkv => ?_) fun ys hy => ?_))
      · rcases ko kv hkv with w1 | ⟨v, w1, _⟩
        · exact .inl w1
        · exact .inr ⟨v, w1⟩
      · have yo : ∀ kv ∈ ys, okV kv.2 := fun kv hkv => ko kv (hy.mem_iff.mp hkv)
        have ey : (ys.map fun kv => PyData.tuple [.int kv.1, kv.2]) = (ys.map fun kv => (kv.1, optV kv.2)).map itD := by
          rw [List.map_map]
          exact List.map_congr_left fun kv hkv => (itD_opt (yo kv hkv)).symm
        rw [ey]
        refine fa_nil ⟨le5 rfl, _, rfl, by rw [List.length_map]; omega, fs_nil ?_⟩
        refine ⟨_, _, _, _, _, ts3, rows ++ [(bp, ys.map fun kv => (kv.1, optV kv.2))], junk ++ [.dct kvs], rfl, ?_, ?_, ht3.up (by omega), by rw [List.length_append, rl]; rfl, fun r hr' => ?_⟩
        · rw [List.map_append]; rfl
        · unfold noGone at ng ⊢
          rw [List.all_append, ng]; rfl
        · rcases List.mem_append.mp hr' with hr' | hr'
          · exact ro r hr'
          · rw [List.mem_singleton.mp hr']
            refine ⟨by rw [List.length_map, hy.length_eq]; omega, bp0, fun x hx v ev => ?_⟩
            obtain ⟨kv, hkv, rfl⟩ := List.mem_map.mp hx
            rcases yo kv hkv with w1 | ⟨u, w1, w2⟩
            · rw [w1] at ev; cases ev
            · rw [w1] at ev
              have := Option.some.inj ev
              omega
  · obtain ⟨a, b, c, d0, e, ts', rows, junk, rfl, rfl, ng, ht', rl, ro⟩ := iv
    rw [rgN_length, Int.toNat_natCast] at ht' rl
    refine fs_ret (fe_frz (by show (true && (true && noGone junk)) = true; rw [ng]; rfl) ?_)
    refine fe_tuple G.bl ?_
    refine nm 4 ?_
    exact ⟨flat_prs rows, _, _, rfl, hq _ _ (ht'.up (by omega)) ⟨rl, fun r hr' => (ro r hr').1, fun r hr' => ⟨(ro r hr').2.1, (ro r hr').2.2⟩⟩⟩
end
end K13

set_option maxRecDepth 100000
set_option maxHeartbeats 4000000
set_option autoImplicit false
/-! Walks, part 13: what is given by hand. -/
namespace K13
open PySem PySem.Spec PyProof.Rows L2
section
variable {X : Cx} {Γ : List Sl} {μ : List MObj} {b : Expr} {pos p : Pos} {x : Str}
/-- x + [..], x a mutable list: a new list -/
theorem fn_catM {i j : Nat} {QL : List PyData → List MObj → Prop} (hN : X.N[i]? = some x) (hv : Vis X.env.scope x) (hΓ : Γ[i]? = some (.ob j)) (h : FE X b Γ μ fun d m => ∃ ds es, d = .list es ∧ m[j]? = some (.lst ds) ∧ ds.length + es.length ≤ 100000 ∧ QL (ds ++ es) m)
    (hd : (x == ("__debug__" : Str)) = false := by decide) (hcd : (x == ("__classdict__" : Str)) = false := by decide) : FN X (.BinOp (.Name x p) .Add b pos) Γ μ QL := fun F H σ ps Q' en hp k => by
  refine WE.of (pe_op op_cat (pe_var hN hv hd hcd) pe_can) ?_
  obtain ⟨q, e1, e2⟩ := en.ob hΓ
  refine ⟨.ref q, e2, ?_⟩
  refine h F H σ ps _ en hp fun v F1 H1 d1 μ1 hp1 s1 q1 h1 => ?_
  obtain ⟨ds, es, rfl, hm, hl, hq⟩ := h1
  obtain ⟨nF, xs, e3, e4⟩ := hp1.obj j q _ e1 hm
  obtain ⟨r, ys, rfl, e5, e6⟩ := q1.list_inv
  refine ⟨q, r, xs, ys, rfl, rfl, e3, hp1.same _ _ e5, by rw [e4.length, e6.length]; exact line_of hl, fun l nl => ?_⟩
  have g : Gr F1 H1 F1 (upd H1 l (.lst (xs ++ ys))) := Gr.hid hp1.same nl
  exact k l F1 _ _ _ μ1 (hp1.gr g) (s1.trans g.step) (none_back s1.th nl) (hp1.same.free nl) upd_same (e4.append e6) hq
end
def bsA : List Beam := [(0, 1), (1, 2), (2, 3)]
def pA : List Deed := [(0, 1), (3, 1), (1, 1), (0, 2), (0, 1), (3, -1), (0, 2)]
def bsB : List Beam := [(0, 1)]
def pB : List Deed := [(0, 1), (1, 2), (0, 3), (0, 2), (1, 1), (0, 1)]
def standsB (n : Nat) (bs : List Beam) (hs : List Int) : Bool := decide (hs.length = n) && bs.all fun b => decide (at0 hs b.1 - at0 hs b.2 ≤ 1) && decide (at0 hs b.2 - at0 hs b.1 ≤ 1)
theorem standsB_iff {n : Nat} {bs : List Beam} {hs : List Int} (h : standsB n bs hs = true) : Stand n bs hs := by
  unfold standsB at h
  rw [Bool.and_eq_true, List.all_eq_true] at h
  refine ⟨of_decide_eq_true h.1, fun b hb => ?_⟩
  have := h.2 b hb
  rw [Bool.and_eq_true] at this
  exact ⟨of_decide_eq_true this.1, of_decide_eq_true this.2⟩
theorem frA : FrOk 4 bsA := by
  refine ⟨by decide, by decide, by decide, fun b hb => ?_, fun k k0 k1 => ?_⟩
  · simp only [bsA, List.mem_cons, List.not_mem_nil, or_false] at hb
    rcases hb with rfl | rfl | rfl <;> decide
  · have : k = 0 ∨ k = 1 ∨ k = 2 ∨ k = 3 := by omega
    rcases this with rfl | rfl | rfl | rfl
    · exact ⟨(0, 1), by decide, by decide⟩
    · exact ⟨(0, 1), by decide, by decide⟩
    · exact ⟨(1, 2), by decide, by decide⟩
    · exact ⟨(2, 3), by decide, by decide⟩
theorem frB : FrOk 2 bsB := by
  refine ⟨by decide, by decide, by decide, fun b hb => ?_, fun k k0 k1 => ?_⟩
  · simp only [bsB, List.mem_cons, List.not_mem_nil, or_false] at hb
    rcases hb with rfl
    decide
  · have : k = 0 ∨ k = 1 := by omega
    rcases this with rfl | rfl <;> exact ⟨(0, 1), by decide, by decide⟩
theorem largs {n : Nat} {bs : List Beam} {one other : List Int} {p : List Deed} (Fr : FrOk n bs) (S1 : Stand n bs one) (S2 : Stand n bs other) (ld : leads bs one other p) (pl : p.length < 1000) : LArgs n bs one other p (fD n bs) (sD one) (sD other) (bsD p) :=
  ⟨okD_fD Fr.len, toT_fD _ _ _, okD_sD (S1.few Fr), toT_sD _ _, okD_sD (S2.few Fr), toT_sD _ _, okD_bsD pl, toT_bsD _ _, Fr, S1, S2, ld, pl⟩
theorem argsA : LArgs 4 bsA [0, 0, 0, 0] [2, 1, 0, -1] pA (fD 4 bsA) (sD [0, 0, 0, 0]) (sD [2, 1, 0, -1]) (bsD pA) :=
  largs frA (standsB_iff (by decide)) (standsB_iff (by decide)) ⟨by decide, by decide⟩ (by decide)
theorem argsB : LArgs 2 bsB [0, 0] [1, 1] pB (fD 2 bsB) (sD [0, 0]) (sD [1, 1]) (bsD pB) :=
  largs frB (standsB_iff (by decide)) (standsB_iff (by decide)) ⟨by decide, by decide⟩ (by decide)
theorem keptA : kept [0, 0, 0, 0] [2, 1, 0, -1] pA = [(0, (0, 1)), (2, (1, 1)), (3, (0, 2)), (5, (3, -1))] := by decide
theorem keptB : kept [0, 0] [1, 1] pB = [(0, (0, 1)), (1, (1, 1))] := by decide
theorem cutA : (cutGo [0, 0, 0, 0] [2, 1, 0, -1] [0, 0, 0, 0] pA).length = 6 := by decide
theorem cutB : (cutGo [0, 0] [1, 1] [0, 0] pB).length = 2 := by decide
theorem lessA : less [0, 0, 0, 0] [2, 1, 0, -1] pA = [(0, 1), (1, 1), (0, 2), (3, -1)] := by unfold less; rw [keptA]; rfl
theorem lessB : less [0, 0] [1, 1] pB = [(0, 1), (1, 1)] := by unfold less; rw [keptB]; rfl
/-- the same, the answer told -/
def gLE (f : Nat → List Beam → List Int → List Int → List Deed → PyData) : GC := fun ds Q => ∃ (n : Nat) (bs : List Beam) (one other : List Int) (p : List Deed) (fr a b c d : PyData), ds = [fr, a, b, c] ∧ LArgs n bs one other p fr a b c ∧ f n bs one other p = d ∧ Q d
section
variable {P : Program} {w : World} {K : PySem.W.Frag} {mg : Str → Option Value} {base : Heap}
theorem Has.impG {x : Str} {k : Nat} {g g' : GC} (h : Has P w K mg base x k (pureR g)) (f : ∀ ds Q, g' ds Q → g ds Q) : Has P w K mg base x k (pureR g') := by
  obtain ⟨a, fd, ps, a1, a2, a3, a4⟩ := h.ex
  refine ⟨a, fd, ps, a1.imp fun vs H Q E ⟨F, qs, as, μ, Post, e1, e2, ⟨e3, ds, e4, e5⟩, e6⟩ => ⟨F, qs, as, μ, Post, e1, e2, ⟨e3, ds, e4, f _ _ e5⟩, e6⟩, a2, a3, a4⟩
theorem Has.le {x : Str} {k : Nat} {f : Nat → List Beam → List Int → List Int → List Deed → PyData} (h : Has P w K mg base x k (pureR (gL f))) : Has P w K mg base x k (pureR (gLE f)) :=
  h.impG fun ds Q ⟨n, bs, one, other, p, fr, a, b, c, d, e1, e2, e3, e4⟩ => ⟨n, bs, one, other, p, fr, a, b, c, e1, e2, by rw [e3]; exact e4⟩
theorem e_kept_deeds (G : Prog K mg) : Has P w K mg base "kept_deeds" 10 (pureR (gLE fun n bs one other p => numsD (kept one other p))) := (h_kept_deeds G).le
theorem e_never_back (G : Prog K mg) : Has P w K mg base "never_back" 10 (pureR (gLE fun n bs one other p => bsD (less one other p))) := (h_never_back G).le
theorem e_is_forward (G : Prog K mg) : Has P w K mg base "is_forward" 11 (pureR (gLE fun n bs one other p => .bool (decide (less one other p = p)))) := (h_is_forward G).le
theorem e_saved (G : Prog K mg) : Has P w K mg base "saved" 10 (pureR (gLE fun n bs one other p => .tuple [.int (p.length : Int), .int ((cutGo one other one p).length : Int), .int ((less one other p).length : Int)])) := (h_saved G).le
end
end K13

set_option maxRecDepth 100000
set_option maxHeartbeats 4000000
set_option autoImplicit false
/-! Walks, part 14: what is given by hand. -/
namespace K13
open PySem PySem.Spec PyProof.Rows L2
def dA1 : PyData := .tuple [.int 0, .int 2, .int 3, .int 5]
def dA2 : PyData := bsD [(0, 1), (1, 1), (0, 2), (3, -1)]
def dA3 : PyData := .tuple [.int 7, .int 6, .int 4]
def dB1 : PyData := .tuple [.int 0, .int 1]
def dB2 : PyData := bsD [(0, 1), (1, 1)]
def dB3 : PyData := .tuple [.int 6, .int 2, .int 2]
theorem rA1 : numsD (kept [0, 0, 0, 0] [2, 1, 0, -1] pA) = dA1 := by rw [keptA]; rfl
theorem rA2 : bsD (less [0, 0, 0, 0] [2, 1, 0, -1] pA) = dA2 := by rw [lessA]; rfl
theorem rA3 : PyData.tuple [.int (pA.length : Int), .int ((cutGo [0, 0, 0, 0] [2, 1, 0, -1] [0, 0, 0, 0] pA).length : Int), .int ((less [0, 0, 0, 0] [2, 1, 0, -1] pA).length : Int)] = dA3 := by rw [cutA, lessA]; rfl
theorem rA4 : PyData.bool (decide (less [0, 0, 0, 0] [2, 1, 0, -1] pA = pA)) = .bool false := by rw [lessA]; rfl
theorem rB1 : numsD (kept [0, 0] [1, 1] pB) = dB1 := by rw [keptB]; rfl
theorem rB2 : bsD (less [0, 0] [1, 1] pB) = dB2 := by rw [lessB]; rfl
theorem rB3 : PyData.tuple [.int (pB.length : Int), .int ((cutGo [0, 0] [1, 1] [0, 0] pB).length : Int), .int ((less [0, 0] [1, 1] pB).length : Int)] = dB3 := by rw [cutB, lessB]; rfl
theorem dLine : PyData.tuple [.int 4, .tuple [.tuple [.int 0, .int 1], .tuple [.int 1, .int 2], .tuple [.int 2, .int 3]]] = fD 4 bsA := rfl
theorem dTwo : PyData.tuple [.int 2, .tuple [.tuple [.int 0, .int 1]]] = fD 2 bsB := rfl
section
variable {P : Program} {w : World} {K : PySem.W.Frag} {mg : Str → Option Value} {base : Heap}
theorem sc_by_hand_right_L : FnScope ["_law_line", "_law_flat", "_law_bent", "_law_plan_so", "_law_got", "_law_two_so", "_law_far_so"] [] (defScope (topS 59)) := ⟨rfl, rfl, rfl, by decide +kernel, rfl, by decide +kernel, by decide +kernel⟩
def g_by_hand_L : GC := fun ds Q => ds = [] ∧ Q (.bool true)
theorem h_by_hand_right_L (G : Prog K mg) : Has P w K mg base "_law_by_hand_right" 12 (pureR g_by_hand_L) := by
  refine has_pure G.d_by_hand_right_L sc_by_hand_right_L (fun ds Q h => ?_) (fun f cdv A outer s H E hr ds Q h => ?_) <;> obtain ⟨rfl, hq⟩ := h
  · rfl
  refine FSo.run ?_
  refine fso_unpackC (tg_tup rfl (tgs_cons (tg_name (i := 0) sc_by_hand_right_L.nd rfl (by first | exact .inl rfl | exact .inr rfl) (.inl rfl)) (tgs_cons (tg_name (i := 1) sc_by_hand_right_L.nd rfl (by first | exact .inl rfl | exact .inr rfl) (.inl rfl)) (tgs_cons (tg_name (i := 2) sc_by_hand_right_L.nd rfl (by first | exact .inl rfl | exact .inr rfl) (.inl rfl)) tgs_nil)))) 8 (d := .tuple [fD 4 bsA, sD [0, 0, 0, 0], sD [2, 1, 0, -1]]) rfl ?_ (fun Φ Φ' f h => ⟨h.1, h.2.1, f _ h.2.2⟩) (by rfl) (by rfl) (by rfl)
  refine ⟨rfl, rfl, ?_⟩
  refine fso_setC (i := 3) sc_by_hand_right_L.nd rfl (by first | exact .inl rfl | exact .inr rfl) 8 (d := bsD pA) rfl ?_ (by rfl) (.inl rfl)
  refine fso_set (i := 4) sc_by_hand_right_L.nd rfl (by first | exact .inl rfl | exact .inr rfl) (fv_fn (fn_lst ?_))
  refine fa_cons ?_
  refine fe_call (e_kept_deeds G) hr ?_
  refine fa_cons ?_
  refine nm 0 ?_
  refine fa_cons ?_
  refine nm 1 ?_
  refine fa_cons ?_
  refine nm 2 ?_
  refine fa_cons ?_
  refine nm 3 ?_
  refine fa_nil ?_
  refine ⟨4, bsA, [0, 0, 0, 0], [2, 1, 0, -1], pA, _, _, _, _, _, rfl, argsA, rA1, ?_⟩
  refine fa_cons ?_
  refine fe_call (e_never_back G) hr ?_
  refine fa_cons ?_
  refine nm 0 ?_
  refine fa_cons ?_
  refine nm 1 ?_
  refine fa_cons ?_
  refine nm 2 ?_
  refine fa_cons ?_
  refine nm 3 ?_
  refine fa_nil ?_
  refine ⟨4, bsA, [0, 0, 0, 0], [2, 1, 0, -1], pA, _, _, _, _, _, rfl, argsA, rA2, ?_⟩
  refine fa_cons ?_
  refine fe_call (e_saved G) hr ?_
  refine fa_cons ?_
  refine nm 0 ?_
  refine fa_cons ?_
  refine nm 1 ?_
  refine fa_cons ?_
  refine nm 2 ?_
  refine fa_cons ?_
  refine nm 3 ?_
  refine fa_nil ?_
  refine ⟨4, bsA, [0, 0, 0, 0], [2, 1, 0, -1], pA, _, _, _, _, _, rfl, argsA, rA3, ?_⟩
  refine fa_nil ?_
  refine ⟨le5 rfl, ?_⟩
  refine ⟨?_⟩
  refine fs_app (i := 4) rfl (by first | exact Or.inl rfl | exact Or.inr (Or.inl rfl) | exact Or.inr (Or.inr rfl)) rfl ⟨_, rfl⟩ ?_
  refine fe_call (e_is_forward G) hr ?_
  refine fa_cons ?_
  refine nm 0 ?_
  refine fa_cons ?_
  refine nm 1 ?_
  refine fa_cons ?_
  refine nm 2 ?_
  refine fa_cons ?_
  refine nm 3 ?_
  refine fa_nil ?_
  refine ⟨4, bsA, [0, 0, 0, 0], [2, 1, 0, -1], pA, _, _, _, _, _, rfl, argsA, rA4, ?_⟩
  refine ⟨_, rfl, by decide, ?_⟩
  refine FSo.run ?_
  refine fso_unpackC (tg_tup rfl (tgs_cons (tg_name (i := 5) sc_by_hand_right_L.nd rfl (by first | exact .inl rfl | exact .inr rfl) (.inl rfl)) (tgs_cons (tg_name (i := 6) sc_by_hand_right_L.nd rfl (by first | exact .inl rfl | exact .inr rfl) (.inl rfl)) tgs_nil))) 8 (d := .tuple [fD 2 bsB, bsD pB]) rfl ?_ (fun Φ Φ' f h => ⟨h.1, h.2.1, f _ h.2.2⟩) (by rfl) (by rfl) (by rfl)
  refine ⟨rfl, rfl, ?_⟩
  refine fso_set (i := 4) sc_by_hand_right_L.nd rfl (by first | exact .inl rfl | exact .inr rfl) (fv_fe (fe_fn (fn_catM (i := 4) rfl (by first | exact Or.inl rfl | exact Or.inr (Or.inl rfl) | exact Or.inr (Or.inr rfl)) rfl ?_)))
  refine fe_lst ?_
  refine fa_cons ?_
  refine fe_call (e_kept_deeds G) hr ?_
  refine fa_cons ?_
  refine nm 5 ?_
  refine fa_cons ?_
  refine fe_tup ?_
  refine fa_cons ?_
  refine fe_int ?_
  refine fa_cons ?_
  refine fe_int ?_
  refine fa_nil ?_
  refine ⟨Nat.le_of_ble_eq_true rfl, ?_⟩
  refine fa_cons ?_
  refine fe_tup ?_
  refine fa_cons ?_
  refine fe_int ?_
  refine fa_cons ?_
  refine fe_int ?_
  refine fa_nil ?_
  refine ⟨Nat.le_of_ble_eq_true rfl, ?_⟩
  refine fa_cons ?_
  refine nm 6 ?_
  refine fa_nil ?_
  refine ⟨2, bsB, [0, 0], [1, 1], pB, _, _, _, _, _, rfl, argsB, rB1, ?_⟩
  refine fa_cons ?_
  refine fe_call (e_never_back G) hr ?_
  refine fa_cons ?_
  refine nm 5 ?_
  refine fa_cons ?_
  refine fe_tup ?_
  refine fa_cons ?_
  refine fe_int ?_
  refine fa_cons ?_
  refine fe_int ?_
  refine fa_nil ?_
  refine ⟨Nat.le_of_ble_eq_true rfl, ?_⟩
  refine fa_cons ?_
  refine fe_tup ?_
  refine fa_cons ?_
  refine fe_int ?_
  refine fa_cons ?_
  refine fe_int ?_
  refine fa_nil ?_
  refine ⟨Nat.le_of_ble_eq_true rfl, ?_⟩
  refine fa_cons ?_
  refine nm 6 ?_
  refine fa_nil ?_
  refine ⟨2, bsB, [0, 0], [1, 1], pB, _, _, _, _, _, rfl, argsB, rB2, ?_⟩
  refine fa_cons ?_
  refine fe_call (e_saved G) hr ?_
  refine fa_cons ?_
  refine nm 5 ?_
  refine fa_cons ?_
  refine fe_tup ?_
  refine fa_cons ?_
  refine fe_int ?_
  refine fa_cons ?_
  refine fe_int ?_
  refine fa_nil ?_
  refine ⟨Nat.le_of_ble_eq_true rfl, ?_⟩
  refine fa_cons ?_
  refine fe_tup ?_
  refine fa_cons ?_
  refine fe_int ?_
  refine fa_cons ?_
  refine fe_int ?_
  refine fa_nil ?_
  refine ⟨Nat.le_of_ble_eq_true rfl, ?_⟩
  refine fa_cons ?_
  refine nm 6 ?_
  refine fa_nil ?_
  refine ⟨2, bsB, [0, 0], [1, 1], pB, _, _, _, _, _, rfl, argsB, rB3, ?_⟩
  refine fa_nil ?_
  refine ⟨Nat.le_of_ble_eq_true rfl, ?_⟩
  refine ⟨_, _, rfl, rfl, le5 rfl, ?_⟩
  refine ⟨fs_ret ?_⟩
  refine fe_callC (n := 8) (d2 := .list [dA1, dA2, dA3, .bool false, dB1, dB2, dB3]) (i := 4) (h_same_L G 3) hr rfl (by first | exact Or.inl rfl | exact Or.inr (Or.inl rfl) | exact Or.inr (Or.inr rfl)) rfl rfl ?_
  exact ⟨_, rfl, rfl, hq⟩
end
end K13

set_option maxRecDepth 100000
set_option maxHeartbeats 4000000
set_option autoImplicit false
/-! Walks, part 15: the drawn part of the law. -/
namespace K13
open PySem PySem.Spec PyProof.Rows L2
theorem straight_dec {n : Nat} {bs : List Beam} {one other : List Int} {p : List Deed} (s1 : Stand n bs one) (s2 : Stand n bs other) (h : leads bs one other p) : straightB other one p = decide (less one other p = p) := by
  rw [Bool.eq_iff_iff, decide_eq_true_eq]
  exact straight_iff s1 s2 h
theorem okD_nums {n : Nat} {l : List (Int × Deed)} (h : l.length < 1000) : okD (n + 1) (numsD l) = true := okD_tup (by rw [List.length_map]; exact h) fun d hd => by
  obtain ⟨i, _, rfl⟩ := List.mem_map.mp hd
  exact okD_int n _
theorem nums_numd (p : List Deed) : numsD (numd 0 p) = .tuple ((List.range p.length).map fun k : Nat => PyData.int (k : Int)) := by
  unfold numsD
  have : ((numd 0 p).map fun x => PyData.int x.1) = ((numd 0 p).map (·.1)).map .int := by rw [List.map_map]; rfl
  rw [this, numd_fst, List.map_map]
  congr 1
  refine List.map_congr_left fun k _ => ?_
  show PyData.int (0 + (k : Int)) = _
  rw [Int.zero_add]
theorem cheap {n m : Nat} {bs : List Beam} {one other : List Int} {p : List Deed} {pr : List PrRow} (F : FrOk n bs) (s1 : Stand n bs one) (s2 : Stand n bs other) (h : leads bs one other p) (hp : PrOk m pr) :
    (noneCount ((less one other p).map (priceF pr)) : Int) ≤ (noneCount (p.map (priceF pr)) : Int) ∧ someSum ((less one other p).map (priceF pr)) ≤ someSum (p.map (priceF pr)) := by
  have c1 := less_cheap F s1 s2 h (fun d => if (priceF pr d).isNone then (1 : Int) else 0) (fun d => by show (0 : Int) ≤ if _ then _ else _; split <;> omega)
  have c2 := less_cheap F s1 s2 h (fun d => (priceF pr d).getD 0) (fun d => by
    show (0 : Int) ≤ (priceF pr d).getD 0
    cases e : priceF pr d with
    | none => exact Int.le_refl _
    | some i => exact priceF_pos hp d i e)
  rw [noneCount_sum, noneCount_sum, someSum_sum, someSum_sum, List.map_map, List.map_map, List.map_map, List.map_map]
  exact ⟨c1, c2⟩
section
variable {P : Program} {w : World} {K : PySem.W.Frag} {mg : Str → Option Value} {base : Heap}
theorem sc_right_L : FnScope ["_law_tin", "_law_frame_here", "_law_one", "_law_other", "_law_plan_so", "_law_soft_so", "_law_own", "_law_rows_so", "_law_numbers_so", "_law_less_so", "_law_got", "_law_due", "_law_k", "_law_lap", "_law_prices_so", "_law_near_so", "_law_far_so"] ["_law_tin"] (defScope (topS 61)) := ⟨rfl, rfl, rfl, by decide +kernel, rfl, by decide +kernel, by decide +kernel⟩
def g_right_L : GM := fun ts ds Q => ∃ t : Nat, Tin t ts ∧ t < 2 ^ 20 ∧ ds = [] ∧ ∀ ts', Q (.bool true) ts'
theorem h_right_L (G : Prog K mg) : Has P w K mg base "_law_right" 12 (tinR g_right_L) := by
  refine has_tin G.d_right_L sc_right_L (fun ts ds Q h => ?_) (fun f cdv A outer s H E hr ts ds Q h => ?_) <;> obtain ⟨t, ht, ht2, rfl, hq⟩ := h
  · rfl
  refine fs_set (i := 1) sc_right_L.nd rfl (by first | exact .inl rfl | exact .inr rfl) (fv_fe ?_)
  refine fe_callM (i := 0) (h_frame_L G) hr rfl (by first | exact Or.inl rfl | exact Or.inr (Or.inl rfl) | exact Or.inr (Or.inr rfl)) rfl ?_
  refine fa_cons ?_
  refine fe_int ?_
  refine fa_nil ?_
  refine ⟨_, rfl, ?_⟩
  refine ⟨t, ht, by omega, rfl, fun ts1 n bs ht1 Fr => ?_⟩
  refine fs_asgT (tg_tup rfl (tgs_cons (tg_name (i := 2) sc_right_L.nd rfl (by first | exact .inl rfl | exact .inr rfl) (.inl rfl)) (tgs_cons (tg_name (i := 3) sc_right_L.nd rfl (by first | exact .inl rfl | exact .inr rfl) (.inl rfl)) tgs_nil))) ?_
  refine fe_callM (i := 0) (h_two_stands_L G) hr rfl (by first | exact Or.inl rfl | exact Or.inr (Or.inl rfl) | exact Or.inr (Or.inr rfl)) rfl ?_
  refine fa_cons ?_
  refine nm 1 ?_
  refine fa_cons ?_
  refine fe_int ?_
  refine fa_nil ?_
  refine ⟨_, rfl, ?_⟩
  refine ⟨_, n, bs, ht1, by omega, rfl, Fr, fun ts2 one other ht3 S T B C => ?_⟩
  refine ⟨rfl, rfl, ?_⟩
  refine fs_set (i := 4) sc_right_L.nd rfl (by first | exact .inl rfl | exact .inr rfl) (fv_fe ?_)
  refine fe_callM (i := 0) (h_wild_L G) hr rfl (by first | exact Or.inl rfl | exact Or.inr (Or.inl rfl) | exact Or.inr (Or.inr rfl)) rfl ?_
  refine fa_cons ?_
  refine nm 1 ?_
  refine fa_cons ?_
  refine nm 2 ?_
  refine fa_cons ?_
  refine nm 3 ?_
  refine fa_nil ?_
  refine ⟨_, rfl, ?_⟩
  refine ⟨_, n, bs, one, other, ht3, by omega, rfl, Fr, S, T, B, C, fun ts3 p ht4 L pl => ?_⟩
  have pl3 : p.length < 1000 := by omega
  have ll := less_length one other p
  obtain ⟨L2', st2⟩ := less_leads Fr S T L
  have lk := less_kept Fr S T L
  have ll2 : less one other (less one other p) = less one other p := by
    have : less one other (less one other p) = (kept one other (less one other p)).map (·.2) := rfl
    rw [this, lk, numd_snd]
  have a1 := largs Fr S T L pl3
  have a2 := largs Fr S T L2' (by omega)
  have hin := a1.k.2.2.2
  have hin2 := a2.k.2.2.2
  refine fs_fl (i := 5) ?_ rfl
  refine flN1 6 id (toL 3) sc_right_L.nd (by show blkC ["_law_tin", "_law_frame_here", "_law_one", "_law_other", "_law_plan_so", "_law_soft_so", "_law_own", "_law_rows_so", "_law_numbers_so", "_law_less_so", "_law_got", "_law_due", "_law_k", "_law_lap", "_law_prices_so", "_law_near_so", "_law_far_so"] (defScope (topS 61)) _ _ = true; decide +kernel) (fi_tup ?_)
  refine fe_tup ?_
  refine fa_cons ?_
  refine nm 1 ?_
  refine fa_cons ?_
  refine nm 2 ?_
  refine fa_cons ?_
  refine nm 3 ?_
  refine fa_cons ?_
  refine nm 4 ?_
  refine fa_nil ?_
  refine ⟨Nat.le_of_ble_eq_true rfl, ?_⟩
  refine ⟨_, rfl, [fD n bs, sD one, sD other, bsD p], (List.map_id _).symm, by simp, fun d hd s H C cl fp => ?_, ?_⟩
  · have ok : okD 3 d = true := by
      simp only [List.mem_cons, List.not_mem_nil, or_false] at hd
      rcases hd with rfl | rfl | rfl | rfl
      · exact a1.ofr
      · exact a1.oa
      · exact a1.ob
      · exact a1.oc
    refine fe_call (h_lists_L G 3) hr ?_
    refine fa_cons ?_
    refine nm 6 ?_
    refine fa_nil ?_
    refine ⟨_, _, rfl, ok, rfl, ?_⟩
    exact ⟨rfl, rfl⟩
  have eS : [fD n bs, sD one, sD other, bsD p].map (toL 3) = [fL n bs, sL one, sL other, bsL p] := by
    simp only [List.map_cons, List.map_nil]
    rw [toL_fD, toL_sD, toL_sD, toL_bsD]
  rw [eS]
  have b1 : LArgs n bs one other p (fL n bs) (sL one) (sL other) (bsL p) := ⟨okD_fL Fr.len, toT_fL _ _ _, okD_sL (S.few Fr), toT_sL _ _, okD_sL (T.few Fr), toT_sL _ _, okD_bsL pl3, toT_bsL _ _, Fr, S, T, L, pl3⟩
  have b2 : LArgs n bs one other (less one other p) (fL n bs) (sD one) (sD other) (bsD (less one other p)) := ⟨okD_fL Fr.len, toT_fL _ _ _, a2.oa, a2.ta, a2.ob, a2.tb, a2.oc, a2.tc, Fr, S, T, L2', by omega⟩
  have b3 : LArgs n bs one other (less one other p) (fD n bs) (sD one) (sD other) (bsL (less one other p)) := ⟨a2.ofr, a2.tfr, a2.oa, a2.ta, a2.ob, a2.tb, okD_bsL (by omega), toT_bsL _ _, Fr, S, T, L2', by omega⟩
  have b4 : LArgs n bs one other p (fD n bs) (sL one) (sD other) (bsD p) := ⟨a1.ofr, a1.tfr, b1.oa, b1.ta, a1.ob, a1.tb, a1.oc, a1.tc, Fr, S, T, L, pl3⟩
  have b5 : LArgs n bs one other p (fL n bs) (sD one) (sD other) (bsL p) := ⟨b1.ofr, b1.tfr, a1.oa, a1.ta, a1.ob, a1.tb, b1.oc, b1.tc, Fr, S, T, L, pl3⟩
  refine fs_set (i := 7) sc_right_L.nd rfl (by first | exact .inl rfl | exact .inr rfl) (fv_fe ?_)
  refine fe_call (h_kept_L G) hr ?_
  refine fa_cons ?_
  refine nm 2 ?_
  refine fa_cons ?_
  refine nm 3 ?_
  refine fa_cons ?_
  refine nm 4 ?_
  refine fa_nil ?_
  refine ⟨n, one, other, p, rfl, a1.k.1, a1.k.2.1, a1.k.2.2.1, hin, pl3, ?_⟩
  have kl := kept_len one other p
  refine fs_par (i := 8) (j := 9) rfl sc_right_L.nd rfl rfl (by decide) rfl rfl (fv_fe (fe_tuple G.bl (fe_fn (lcN1 6 npD (fun x => .int x.1) sc_right_L.nd (by show blkC ["_law_tin", "_law_frame_here", "_law_one", "_law_other", "_law_plan_so", "_law_soft_so", "_law_own", "_law_rows_so", "_law_numbers_so", "_law_less_so", "_law_got", "_law_due", "_law_k", "_law_lap", "_law_prices_so", "_law_near_so", "_law_far_so"] (defScope (topS 61)) _ _ = true; decide +kernel) (fi_lst ?_)))))
  refine nm 7 ?_
  refine ⟨_, rfl, kept one other p, rfl, by omega, fun x hx s H C cl fp => ?_, ?_⟩
  · skip
    refine fe_ix ?_
    refine nm 6 ?_
    refine fe_int ?_
    refine ⟨_, rfl, ?_⟩
    exact ⟨rfl, rfl⟩
  refine fv_fe (fe_tuple G.bl (fe_fn (lcN1 6 npD (fun x => pD x.2) sc_right_L.nd (by show blkC ["_law_tin", "_law_frame_here", "_law_one", "_law_other", "_law_plan_so", "_law_soft_so", "_law_own", "_law_rows_so", "_law_numbers_so", "_law_less_so", "_law_got", "_law_due", "_law_k", "_law_lap", "_law_prices_so", "_law_near_so", "_law_far_so"] (defScope (topS 61)) _ _ = true; decide +kernel) (fi_lst ?_))))
  refine nm 7 ?_
  refine ⟨_, rfl, kept one other p, rfl, by omega, fun x hx s H C cl fp => ?_, ?_⟩
  · skip
    refine fe_ix ?_
    refine nm 6 ?_
    refine fe_int ?_
    refine ⟨_, rfl, ?_⟩
    exact ⟨rfl, rfl⟩
  have eL : ((kept one other p).map fun x => pD x.2) = (less one other p).map pD := by
    unfold less; rw [List.map_map]; rfl
  rw [eL]
  show FS _ _ [.ob 0, .dat (fD n bs), .dat (sD one), .dat (sD other), .dat (bsD p), .dat (.list [fL n bs, sL one, sL other, bsL p]), .un, .dat (.list ((kept one other p).map npD)), .dat (numsD (kept one other p)), .dat (bsD (less one other p)), .un, .un, .un, .un, .un, .un, .un] [.lst ts3] _
  refine fs_set (i := 10) sc_right_L.nd rfl (by first | exact .inl rfl | exact .inr rfl) (fv_fe ?_)
  refine fe_lst ?_
  refine fa_cons ?_
  refine fe_call (e_kept_deeds G) hr ?_
  refine fa_cons ?_
  refine nm 1 ?_
  refine fa_cons ?_
  refine nm 2 ?_
  refine fa_cons ?_
  refine nm 3 ?_
  refine fa_cons ?_
  refine nm 4 ?_
  refine fa_nil ?_
  refine ⟨n, bs, one, other, p, _, _, _, _, _, rfl, a1, rfl, ?_⟩
  refine fa_cons ?_
  refine fe_call (e_never_back G) hr ?_
  refine fa_cons ?_
  refine fe_ix ?_
  refine nm 5 ?_
  refine fe_int ?_
  refine ⟨_, rfl, ?_⟩
  refine fa_cons ?_
  refine fe_ix ?_
  refine nm 5 ?_
  refine fe_int ?_
  refine ⟨_, rfl, ?_⟩
  refine fa_cons ?_
  refine fe_ix ?_
  refine nm 5 ?_
  refine fe_int ?_
  refine ⟨_, rfl, ?_⟩
  refine fa_cons ?_
  refine fe_ix ?_
  refine nm 5 ?_
  refine fe_int ?_
  refine ⟨_, rfl, ?_⟩
  refine fa_nil ?_
  refine ⟨n, bs, one, other, p, _, _, _, _, _, rfl, b1, rfl, ?_⟩
  refine fa_cons ?_
  refine fe_call (e_is_forward G) hr ?_
  refine fa_cons ?_
  refine nm 1 ?_
  refine fa_cons ?_
  refine nm 2 ?_
  refine fa_cons ?_
  refine nm 3 ?_
  refine fa_cons ?_
  refine nm 4 ?_
  refine fa_nil ?_
  refine ⟨n, bs, one, other, p, _, _, _, _, _, rfl, a1, rfl, ?_⟩
  refine fa_nil ?_
  refine ⟨Nat.le_of_ble_eq_true rfl, ?_⟩
  refine fs_set (i := 10) sc_right_L.nd rfl (by first | exact .inl rfl | exact .inr rfl) (fv_fe ?_)
  refine fe_add ?_
  refine nm 10 ?_
  refine fe_lst ?_
  refine fa_cons ?_
  refine fe_call (e_saved G) hr ?_
  refine fa_cons ?_
  refine nm 1 ?_
  refine fa_cons ?_
  refine fe_ix ?_
  refine nm 5 ?_
  refine fe_int ?_
  refine ⟨_, rfl, ?_⟩
  refine fa_cons ?_
  refine nm 3 ?_
  refine fa_cons ?_
  refine nm 4 ?_
  refine fa_nil ?_
  refine ⟨n, bs, one, other, p, _, _, _, _, _, rfl, b4, rfl, ?_⟩
  refine fa_cons ?_
  refine fe_call (e_kept_deeds G) hr ?_
  refine fa_cons ?_
  refine fe_ix ?_
  refine nm 5 ?_
  refine fe_int ?_
  refine ⟨_, rfl, ?_⟩
  refine fa_cons ?_
  refine nm 2 ?_
  refine fa_cons ?_
  refine nm 3 ?_
  refine fa_cons ?_
  refine fe_ix ?_
  refine nm 5 ?_
  refine fe_int ?_
  refine ⟨_, rfl, ?_⟩
  refine fa_nil ?_
  refine ⟨n, bs, one, other, p, _, _, _, _, _, rfl, b5, rfl, ?_⟩
  refine fa_cons ?_
  refine fe_call (e_never_back G) hr ?_
  refine fa_cons ?_
  refine nm 1 ?_
  refine fa_cons ?_
  refine nm 2 ?_
  refine fa_cons ?_
  refine nm 3 ?_
  refine fa_cons ?_
  refine nm 4 ?_
  refine fa_nil ?_
  refine ⟨n, bs, one, other, p, _, _, _, _, _, rfl, a1, rfl, ?_⟩
  refine fa_nil ?_
  refine ⟨Nat.le_of_ble_eq_true rfl, ?_⟩
  refine ⟨le5 rfl, ?_⟩
  refine fs_set (i := 11) sc_right_L.nd rfl (by first | exact .inl rfl | exact .inr rfl) (fv_fe ?_)
  refine fe_lst ?_
  refine fa_cons ?_
  refine nm 8 ?_
  refine fa_cons ?_
  refine nm 9 ?_
  refine fa_cons ?_
  refine fe_eq hr ?_
  refine nm 9 ?_
  refine nm 4 ?_
  refine ⟨min32 (depth_bsD _) (by decide), ?_⟩
  rw [eqv_bsD]
  refine fa_cons ?_
  refine fe_tup ?_
  refine fa_cons ?_
  refine fe_len G.bl ?_
  refine nm 4 ?_
  refine fa_cons ?_
  refine fe_call (h_cut_count_L G) hr ?_
  refine fa_cons ?_
  refine nm 2 ?_
  refine fa_cons ?_
  refine nm 3 ?_
  refine fa_cons ?_
  refine nm 4 ?_
  refine fa_nil ?_
  refine ⟨n, one, other, p, rfl, a1.k.1, a1.k.2.1, a1.k.2.2.1, hin, pl3, ?_⟩
  refine fa_cons ?_
  refine fe_len G.bl ?_
  refine nm 9 ?_
  refine fa_nil ?_
  refine ⟨Nat.le_of_ble_eq_true rfl, ?_⟩
  refine fa_cons ?_
  refine nm 8 ?_
  refine fa_cons ?_
  refine nm 9 ?_
  refine fa_nil ?_
  refine ⟨Nat.le_of_ble_eq_true rfl, ?_⟩
  have eD : ∀ q : List Deed, ((q.map pD).length : Int) = (q.length : Int) := fun q => by rw [List.length_map]
  rw [eD p, eD (less one other p)]
  refine fs_if (fb_of (fw_or (fb_not (fb_val ?_))))
  refine fe_call (h_same_L G 3) hr ?_
  refine fa_cons ?_
  refine nm 10 ?_
  refine fa_cons ?_
  refine nm 11 ?_
  refine fa_nil ?_
  refine ⟨_, rfl, ?_, ?_⟩
  · refine okD_lst (by simp) fun d hd => ?_
    have o1 : okD 2 (numsD (kept one other p)) = true := okD_nums (by omega)
    have o2 : okD 2 (bsD (less one other p)) = true := okD_bsD (by omega)
    simp only [List.cons_append, List.nil_append, List.mem_cons, List.not_mem_nil, or_false] at hd
    rcases hd with rfl | rfl | rfl | rfl | rfl | rfl
    · exact o1
    · exact o2
    · rfl
    · rfl
    · exact o1
    · exact o2
  refine asbNT rfl ?_
  refine fw_or1 ?_
  refine fb_ne hr ?_
  refine fe_call (h_is_straight_L G) hr ?_
  refine fa_cons ?_
  refine nm 2 ?_
  refine fa_cons ?_
  refine nm 3 ?_
  refine fa_cons ?_
  refine nm 4 ?_
  refine fa_nil ?_
  refine ⟨n, one, other, p, rfl, a1.k.1, a1.k.2.1, a1.k.2.2.1, hin, pl3, ?_⟩
  refine fe_eq hr ?_
  refine nm 9 ?_
  refine nm 4 ?_
  refine ⟨min32 (depth_bsD _) (by decide), ?_⟩
  rw [eqv_bsD]
  refine gNeB (decide_eq_true (straight_dec S T L)) ?_
  refine andF rfl (fs_nil ?_)
  refine fs_if (fb_of (fw_or (fb_not (fb_val ?_))))
  have small := runs_small Fr S B L.1 (by omega)
  refine fe_call (h_leads_so_L G) hr ?_
  refine fa_cons ?_
  refine nm 1 ?_
  refine fa_cons ?_
  refine nm 2 ?_
  refine fa_cons ?_
  refine nm 3 ?_
  refine fa_cons ?_
  refine nm 9 ?_
  refine fa_nil ?_
  refine ⟨n, bs, one, other, less one other p, rfl, Fr, S, by omega, B.up (by decide), fun d hd => small d (less_mem Fr S T L d hd), ?_⟩
  refine asbNT (leadsB_iff.mpr L2') ?_
  refine fw_or1 (fb_not (fb_val ?_))
  refine fe_call (h_is_straight_L G) hr ?_
  refine fa_cons ?_
  refine nm 2 ?_
  refine fa_cons ?_
  refine nm 3 ?_
  refine fa_cons ?_
  refine nm 9 ?_
  refine fa_nil ?_
  refine ⟨n, one, other, less one other p, rfl, a2.k.1, a2.k.2.1, a2.k.2.2.1, hin2, by omega, ?_⟩
  refine asbNT st2 (fs_nil ?_)
  refine fs_if (fb_of (fw_or (fb_ne hr (fe_fn (lcN 6 pD (fun x => !decide (x ∈ p)) (fun _ => .int 1) sc_right_L.nd (by show blkC ["_law_tin", "_law_frame_here", "_law_one", "_law_other", "_law_plan_so", "_law_soft_so", "_law_own", "_law_rows_so", "_law_numbers_so", "_law_less_so", "_law_got", "_law_due", "_law_k", "_law_lap", "_law_prices_so", "_law_near_so", "_law_far_so"] (defScope (topS 61)) _ _ = true; decide +kernel) (fi_tup ?_))))))
  refine nm 9 ?_
  refine ⟨_, rfl, less one other p, rfl, by omega, fun x hx s H C cl fp => ?_, ?_⟩
  · show FB _ _ _ _ _
    refine fb_nin hr ?_
    refine nm 6 ?_
    refine nm 4 ?_
    refine ⟨Nat.le_trans (depth_pD x) (by decide), ?_⟩
    rw [in_bsD]
    refine ⟨rfl, rfl, fun _ s H C cl fp => ?_⟩
    refine fe_int ?_
    exact ⟨rfl, rfl⟩
  refine fe_lst (fa_nil ⟨le5 rfl, ?_⟩)
  refine ⟨min_r depth_nil (by decide), ?_⟩
  rw [eqv_nil]
  have e0 : (less one other p).filter (fun x => !decide (x ∈ p)) = [] := by
    rw [List.filter_eq_nil_iff]
    intro x hx
    rw [decide_eq_true (less_mem Fr S T L x hx)]
    decide
  rw [e0]
  refine andF rfl (fw_or1 ?_)
  refine fb_gt ?_
  refine fe_len G.bl ?_
  refine nm 9 ?_
  refine fe_len G.bl ?_
  refine nm 4 ?_
  refine andF (decide_eq_false (by rw [List.length_map, List.length_map]; omega)) (fs_nil ?_)
  refine fs_set (i := 10) sc_right_L.nd rfl (by first | exact .inl rfl | exact .inr rfl) (fv_fe ?_)
  refine fe_lst ?_
  refine fa_cons ?_
  refine fe_call (e_is_forward G) hr ?_
  refine fa_cons ?_
  refine nm 1 ?_
  refine fa_cons ?_
  refine nm 2 ?_
  refine fa_cons ?_
  refine nm 3 ?_
  refine fa_cons ?_
  refine fe_call (h_lists_L G 3) hr ?_
  refine fa_cons ?_
  refine nm 9 ?_
  refine fa_nil ?_
  refine ⟨_, _, rfl, a2.oc, toL_bsD _ _, ?_⟩
  refine fa_nil ?_
  refine ⟨n, bs, one, other, _, _, _, _, _, .bool true, rfl, b3, congrArg PyData.bool (decide_eq_true ll2), ?_⟩
  refine fa_cons ?_
  refine fe_call (e_is_forward G) hr ?_
  refine fa_cons ?_
  refine fe_ix ?_
  refine nm 5 ?_
  refine fe_int ?_
  refine ⟨_, rfl, ?_⟩
  refine fa_cons ?_
  refine nm 2 ?_
  refine fa_cons ?_
  refine nm 3 ?_
  refine fa_cons ?_
  refine nm 9 ?_
  refine fa_nil ?_
  refine ⟨n, bs, one, other, _, _, _, _, _, .bool true, rfl, b2, congrArg PyData.bool (decide_eq_true ll2), ?_⟩
  refine fa_nil ?_
  refine ⟨Nat.le_of_ble_eq_true rfl, ?_⟩
  refine fs_set (i := 10) sc_right_L.nd rfl (by first | exact .inl rfl | exact .inr rfl) (fv_fe ?_)
  refine fe_add ?_
  refine nm 10 ?_
  refine fe_lst ?_
  refine fa_cons ?_
  refine fe_call (e_never_back G) hr ?_
  refine fa_cons ?_
  refine nm 1 ?_
  refine fa_cons ?_
  refine nm 2 ?_
  refine fa_cons ?_
  refine nm 3 ?_
  refine fa_cons ?_
  refine nm 9 ?_
  refine fa_nil ?_
  refine ⟨n, bs, one, other, _, _, _, _, _, _, rfl, a2, congrArg bsD ll2, ?_⟩
  refine fa_cons ?_
  refine fe_call (e_kept_deeds G) hr ?_
  refine fa_cons ?_
  refine nm 1 ?_
  refine fa_cons ?_
  refine nm 2 ?_
  refine fa_cons ?_
  refine nm 3 ?_
  refine fa_cons ?_
  refine nm 9 ?_
  refine fa_nil ?_
  refine ⟨n, bs, one, other, _, _, _, _, _, _, rfl, a2, (congrArg numsD lk).trans (nums_numd _), ?_⟩
  refine fa_nil ?_
  refine ⟨Nat.le_of_ble_eq_true rfl, ?_⟩
  refine ⟨le5 rfl, ?_⟩
  refine fs_if (fb_not (fb_val (fe_call (h_same_L G 3) hr (fa_cons ?_))))
  refine nm 10 ?_
  refine fa_cons (fe_lst (fa_cons ?_))
  refine fe_bool ?_
  refine fa_cons ?_
  refine fe_bool ?_
  refine fa_cons ?_
  refine nm 9 ?_
  refine fa_cons (fe_tuple G.bl (fe_fn (lcN1 12 (fun k : Nat => PyData.int (k : Int)) (fun k => PyData.int (k : Int)) sc_right_L.nd (by show blkC ["_law_tin", "_law_frame_here", "_law_one", "_law_other", "_law_plan_so", "_law_soft_so", "_law_own", "_law_rows_so", "_law_numbers_so", "_law_less_so", "_law_got", "_law_due", "_law_k", "_law_lap", "_law_prices_so", "_law_near_so", "_law_far_so"] (defScope (topS 61)) _ _ = true; decide +kernel) (fi_range G.bl ?_))))
  refine fe_len G.bl ?_
  refine nm 9 ?_
  refine ⟨_, rfl, by rw [List.length_map]; omega, by rw [List.length_map]; omega, List.range (less one other p).length, ?_, by rw [List.length_range]; omega, fun k hk s H C cl fp => ?_, ?_⟩
  · rw [List.length_map, Int.toNat_natCast, rgN_map]
  · skip
    refine nm 12 ?_
    exact ⟨rfl, rfl⟩
  refine fa_nil ⟨le5 rfl, fa_nil ⟨_, rfl, ?_, ?_⟩⟩
  · refine okD_lst (by simp) fun d hd => ?_
    have o2 : okD 2 (bsD (less one other p)) = true := okD_bsD (by omega)
    have o3 : okD 2 (PyData.tuple ((List.range (less one other p).length).map fun k : Nat => PyData.int (k : Int))) = true := okD_tup (by rw [List.length_map, List.length_range]; omega) fun d hd => by
      obtain ⟨i, _, rfl⟩ := List.mem_map.mp hd
      exact okD_int 1 _
    simp only [List.cons_append, List.nil_append, List.mem_cons, List.not_mem_nil, or_false] at hd
    rcases hd with rfl | rfl | rfl | rfl
    · rfl
    · rfl
    · exact o2
    · exact o3
  refine asbNT rfl (fs_nil ?_)
  refine fs_for rfl (tg_name (i := 13) sc_right_L.nd rfl (by first | exact .inl rfl | exact .inr rfl) (.inl rfl)) (fi_range G.bl ?_)
  refine fe_int ?_
  refine ⟨3, rfl, by decide, by decide, fun i Γ m => ∃ x0 x1 x2 x3 x4 x5 x6 x7 x8 x9 x10, ∃ ts' : List PyData, Γ = [.ob 0, .dat (fD n bs), .dat (sD one), .dat (sD other), .dat (bsD p), x0, x1, x2, x3, .dat (bsD (less one other p)), x4, x5, x6, x7, x8, x9, x10] ∧ m = [.lst ts'] ∧ Tin (t + 500 + 100 * i) ts',
    ⟨_, _, _, _, _, _, _, _, _, _, _, ts3, rfl, rfl, ht4.up (by omega)⟩, fun i d Γ m hd iv => ?_, fun Γ m iv => ?_⟩
  · obtain ⟨x0, x1, x2, x3, x4, x5, x6, x7, x8, x9, x10, ts', rfl, rfl, ht'⟩ := iv
    have hi : i < 3 := (rgN_get hd).2
    refine fs_set (i := 14) sc_right_L.nd rfl (by first | exact .inl rfl | exact .inr rfl) (fv_fe ?_)
    refine fe_callM (i := 0) (h_some_prices_L G) hr rfl (by first | exact Or.inl rfl | exact Or.inr (Or.inl rfl) | exact Or.inr (Or.inr rfl)) rfl ?_
    refine fa_cons ?_
    refine nm 1 ?_
    refine fa_cons ?_
    refine fe_int ?_
    refine fa_cons ?_
    refine fe_int ?_
    refine fa_nil ?_
    refine ⟨_, rfl, ?_⟩
    refine ⟨_, n, bs, ht', by omega, rfl, Fr, fun ts4 pr ht5 hpr => ?_⟩
    obtain ⟨ch1, ch2⟩ := cheap Fr S T L hpr
    refine fs_par (i := 15) (j := 16) rfl sc_right_L.nd rfl rfl (by decide) rfl rfl (fv_fe ?_)
    refine fe_call (h_costs_L G) hr ?_
    refine fa_cons ?_
    refine nm 14 ?_
    refine fa_cons ?_
    refine nm 9 ?_
    refine fa_nil ?_
    refine ⟨n, pr, _, rfl, hpr, by omega, hin2, ?_⟩
    refine fv_fe ?_
    refine fe_call (h_costs_L G) hr ?_
    refine fa_cons ?_
    refine nm 14 ?_
    refine fa_cons ?_
    refine nm 4 ?_
    refine fa_nil ?_
    refine ⟨n, pr, p, rfl, hpr, pl3, hin, ?_⟩
    refine fs_if (fb_of (fw_or ?_))
    refine fb_gt ?_
    refine fe_ix ?_
    refine nm 15 ?_
    refine fe_int ?_
    refine ⟨_, rfl, ?_⟩
    refine fe_ix ?_
    refine nm 16 ?_
    refine fe_int ?_
    refine ⟨_, rfl, ?_⟩
    refine andF (decide_eq_false (by omega)) (fw_or1 ?_)
    refine fb_gt ?_
    refine fe_ix ?_
    refine nm 15 ?_
    refine fe_int ?_
    refine ⟨_, rfl, ?_⟩
    refine fe_ix ?_
    refine nm 16 ?_
    refine fe_int ?_
    refine ⟨_, rfl, ?_⟩
    refine andF (decide_eq_false (by omega)) (fs_nil (fs_nil ?_))
    exact ⟨_, _, _, _, _, _, _, _, _, _, _, ts4, rfl, rfl, ht5.up (by omega)⟩
  · obtain ⟨x0, x1, x2, x3, x4, x5, x6, x7, x8, x9, x10, ts', rfl, rfl, ht'⟩ := iv
    refine fs_ret ?_
    refine fe_bool ?_
    exact ⟨_, _, rfl, hq _⟩
end
end K13

set_option maxRecDepth 100000
set_option maxHeartbeats 4000000
set_option autoImplicit false
/-! Walks, part 16: the script's cell, the source of draws, the law. -/
namespace K13
open PySem PySem.Spec PyProof.Rows L2
theorem same_newer {H H1 : Hp} {p : Addr} {o : HO} (s : Same H H1) (h : H p = none) : Same H (upd H1 p o) := fun a u e => by
  rw [upd_ne (ne_of_none e h)]; exact s a u e
section
variable {P : Program} {w : World} {K : PySem.W.Frag} {mg : Str → Option Value} {base : Heap}
theorem sc_cells_L : FnScope ["_law_script", "_law_most_so", "_law_cells_so", "_law_k", "_law_cell_so", "_law_at_so"] ["_law_script", "_law_most_so"] (defScope (topS 34)) := ⟨rfl, rfl, rfl, by decide +kernel, rfl, by decide +kernel, by decide +kernel⟩
def spCells (K : PySem.W.Frag) : Sp := fun vs H Q _ => ∃ (a : Addr) (ns : List Int), vs = [.ref a, .int 1] ∧ SqL K H a (ns.map V.int) ∧ ns.length ≤ 63 ∧ ∀ (H' : Hp) (r : Addr) (c : Int), Same H H' → H' r = some (.lst [.int c]) → Q (.ref r) H'
theorem cut_ints (ns : List Int) (lo hi : Option Int) : L2.cutV (ns.map V.int) lo hi = ((ns.drop (HT.sIx ns.length 0 lo)).take (HT.sIx ns.length ns.length hi - HT.sIx ns.length 0 lo)).map V.int := by
  unfold L2.cutV
  rw [List.length_map, List.map_take, List.map_drop]
theorem ok_cells (B : Bl mg) {f : Addr} {fd : FuncData} {k : Nat} (F : Fun K "_law_cells" "_law_cells" (topS 34) f fd) : FnOk P w K mg base CX0 (k + 1) f fd ["_law_script", "_law_most_so"] (spCells K) := by
  refine F.ok sc_cells_L (fun vs H Q E h => ?_) (fun cdv A outer s H vs Q E hr h => ?_)
  · obtain ⟨a, ns, rfl, _⟩ := h
    rfl
  obtain ⟨a, ns, rfl, hS, hlen, q⟩ := h
  have key : ∀ (r : Addr) (H1 : Hp) (c0 : Int), Same H H1 → H r = none → H1 r = some (.lst [.int c0]) →
      WSs (cxOf CX0 P w K mg base ["_law_script", "_law_most_so", "_law_cells_so", "_law_k", "_law_cell_so", "_law_at_so"] "_law_cells" (defScope (topS 34)) f cdv A outer s H E).nox (defBody (topS 34)).tail { nx := fun _ H' => Q .non H', rt := Q } [some (.ref a), some (.int 1), some (.ref r), none, none, none] H1 := by
    intro r H1 c0 s1 nr e1
    refine WSs.of (pss_cons (ps_for PassesOwn.never rfl (pi_enum (by rfl) B.enumerate (pa_cons (pe_slice sl_list (pv 0) (po_some (pv 1)) (po_some pe_int)) pa_nil))
       (pg_tup rfl (pgs_cons (pg_name (i := 3) sc_cells_L.nd rfl (.inl rfl)) (pgs_cons (pg_name (i := 4) sc_cells_L.nd rfl (.inl rfl)) pgs_nil)))
       (pss_cons (ps_set (i := 5) sc_cells_L.nd rfl (.inl rfl) (pe_op op_mod (pe_callTy call_int1 rfl B.int (by decide +kernel) (pa_cons (pv 3) pa_nil)) (pv 1)))
       (pss_one (ps_asg (pe_op op_add (pe_ix ix_list (pv 2) (pv 5) (fun _ _ => rfl)) (pe_op op_mul (pv 4) (pe_op op_add (pv 3) pe_int))) (pg_sub (pv 2) (pv 5) set_list)))))
      (pss_one (ps_ret (pv 2)))) ?_
    refine ⟨.ref a, rfl, .int 1, rfl, 1, rfl, 63, rfl, a, ns.map V.int, rfl, s1.seq hS, fun c nc => ?_⟩
    have s2 : Same H (upd H1 c (.lst (L2.cutV (ns.map V.int) (some 1) (some 63)))) := s1.trans (same_new nc)
    have ncr : c ≠ r := fun e => by rw [e, e1] at nc; cases nc
    have nHc : H c = none := s1.free nc
    rw [cut_ints] at s2 ⊢
    have hml : ((ns.drop (HT.sIx ns.length 0 (some 1))).take (HT.sIx ns.length ns.length (some 63) - HT.sIx ns.length 0 (some 1))).length ≤ 63 := by
      rw [List.length_take, List.length_drop]; omega
    generalize (ns.drop (HT.sIx ns.length 0 (some 1))).take (HT.sIx ns.length ns.length (some 63) - HT.sIx ns.length 0 (some 1)) = ms at s2 hml ⊢
    refine ⟨c, ms.map V.int, rfl, SqL.of upd_same, ?_⟩
    refine ⟨fun i m σ H3 => ∃ y3 y4 y5, ∃ c1 : Int, σ = [some (.ref a), some (.int 1), some (.ref r), y3, y4, y5] ∧ i + m = ms.length ∧ Same H H3 ∧ H3 c = some (.lst (ms.map V.int)) ∧ H3 r = some (.lst [.int c1]),
      ⟨ms.length, none, none, none, c0, rfl, by omega, s2, upd_same, by rw [upd_ne ncr.symm]; exact e1⟩, fun i m σ H3 hW => ?_⟩
    obtain ⟨y3, y4, y5, c1, rfl, em, s3, ec, er⟩ := hW
    by_cases hi : i < ms.length
    · have g : (ms.map V.int)[i]? = some (.int ms[i]) := by rw [List.getElem?_map, List.getElem?_eq_getElem hi]; rfl
      refine .inr ⟨⟨_, _, SqL.of ec, g⟩, fun σ' H' => ∃ y3 y4 y5, ∃ c1 : Int, σ' = [some (.ref a), some (.int 1), some (.ref r), y3, y4, y5] ∧ Same H H' ∧ H' c = some (.lst (ms.map V.int)) ∧ H' r = some (.lst [.int c1]), fun σ' H' hN => ?_, fun v H' hy => ?_⟩
      · obtain ⟨z3, z4, z5, c2, e, s4, e4, e5⟩ := hN
        exact ⟨m - 1, by omega, z3, z4, z5, c2, e, by omega, s4, e4, e5⟩
      · obtain ⟨T, x, rfl, nT, rfl, fx⟩ := hy
        have ex : x = .int ms[i] := Option.some.inj ((fx _ (SqL.of ec)).symm.trans g)
        subst ex
        have nTr : r ≠ T := ne_of_none er nT
        have nTc : c ≠ T := ne_of_none ec nT
        refine ⟨T, _, rfl, SqT.of upd_same, rfl, .int (i : Nat), _, rfl, .int ms[i], [], rfl, rfl, ?_⟩
        refine ⟨.int (i : Nat), rfl, .inl ⟨(i : Nat), rfl, .int 1, rfl, (i : Nat), 1, rfl, rfl, (show (0 : Int) < 1 by decide), ?_⟩⟩
        have e0 : ((i : Nat) : Int) % 1 = 0 := by omega
        have er2 : (upd H3 T (.tup [.int ((i : Nat) : Int), .int ms[i]])) r = some (.lst [.int c1]) := by rw [upd_ne nTr]; exact er
        have s4 : Same H (upd H3 T (.tup [.int ((i : Nat) : Int), .int ms[i]])) := s3.trans (same_new nT)
        have ec2 : (upd H3 T (.tup [.int ((i : Nat) : Int), .int ms[i]])) c = some (.lst (ms.map V.int)) := by rw [upd_ne nTc]; exact ec
        refine ⟨.ref r, rfl, .int (((i : Nat) : Int) % 1), rfl, r, [.int c1], ((i : Nat) : Int) % 1, .int c1, rfl, rfl, SqL.of er2, by rw [e0]; rfl, ?_⟩
        refine ⟨.int ms[i], rfl, .int (i : Nat), rfl, (i : Nat), 2, rfl, rfl, ?_⟩
        refine ⟨ms[i], ((i : Nat) : Int) + 2, rfl, rfl, .inr ⟨by omega, by omega⟩, ?_⟩
        refine ⟨c1, _, rfl, rfl, ?_⟩
        refine ⟨.ref r, rfl, .int (((i : Nat) : Int) % 1), rfl, r, [.int c1], ((i : Nat) : Int) % 1, 0, rfl, rfl, er2, by rw [e0]; rfl, ?_⟩
        exact ⟨_, _, _, _, rfl, same_newer s4 nr, by rw [upd_ne ncr]; exact ec2, upd_same⟩
    · refine .inl ⟨⟨_, SqL.of ec, by rw [List.length_map]; omega⟩, .ref r, rfl, q H3 r c1 s3 er⟩
  refine ⟨_, pss_cons (ps_set (i := 2) sc_cells_L.nd rfl (.inl rfl) (pe_orT (pe_callTy call_list_of rfl B.list (by decide +kernel) (pa_cons (pe_slice sl_list (pv 0) po_none (po_some (pv 1))) pa_nil)) (pe_one (pe_lst (pa_cons pe_int pa_nil))))) pss_can, ?_⟩
  refine ⟨.ref a, rfl, .int 1, rfl, 1, rfl, a, ns.map V.int, rfl, hS, fun c nc => ?_⟩
  have s1 : Same H (upd H c (.lst (L2.cutV (ns.map V.int) none (some 1)))) := same_new nc
  refine ⟨c, _, rfl, .inl (SqL.of upd_same), fun l nl => ?_⟩
  have nHl : H l = none := s1.free nl
  have s2 : Same H (upd (upd H c (.lst (L2.cutV (ns.map V.int) none (some 1)))) l (.lst (L2.cutV (ns.map V.int) none (some 1)))) := s1.trans (same_new nl)
  refine ⟨_, .inl ⟨_, SqL.of upd_same, rfl⟩, ?_⟩
  cases ns with
  | nil =>
    refine iteF ?_
    refine ⟨(by show 1 ≤ sizeLine; decide), fun t nt => ?_⟩
    exact key t _ 0 (s2.trans (same_new nt)) (s2.free nt) upd_same
  | cons n ns =>
    have e : L2.cutV ((n :: ns).map V.int) none (some 1) = [.int n] := by
      rw [cut_ints, HT.sIx_none, show HT.sIx (n :: ns).length (n :: ns).length (some 1) = min 1 (n :: ns).length from HT.sIx_nat _ _ 1]
      rw [List.length_cons, Nat.min_eq_left (by omega)]
      rfl
    rw [e] at s2 ⊢
    refine iteT ?_
    exact key l _ n s2 nHl upd_same
end
end K13

set_option maxRecDepth 100000
set_option maxHeartbeats 4000000
set_option autoImplicit false
/-! Walks, part 17: the source of draws, the law. -/
namespace K13
open PySem PySem.Spec PyProof.Rows L2
section
variable {P : Program} {w : World} {K : PySem.W.Frag} {mg : Str → Option Value} {base : Heap}
theorem it01 {b : Bool} : 0 ≤ (if b = true then (1 : Int) else 0) ∧ (-(2 : Int) ^ 64 < (if b = true then (1 : Int) else 0) ∧ (if b = true then (1 : Int) else 0) < (2 : Int) ^ 64) := by
  cases b <;> decide
theorem fn_run {X : Cx} {e : Expr} {σ : L2.St} {H : Hp} {Q' : VK} {Γ : List Sl} {QL : List PyData → List MObj → Prop} (h : FN X e Γ [] QL) (en : EnvOk (fun _ => none) [] σ Γ)
    (k : ∀ a F2 H2 xs ds μ2, HeapOk F2 H2 [] μ2 → Step [] (fun _ => none) H F2 H2 → H a = none → F2 a = none → H2 a = some (.lst xs) → DqAll F2 xs ds → QL ds μ2 → Q' (.ref a) H2) : WE X e σ H Q' :=
  h (fun _ => none) H σ [] Q' en ⟨fun _ _ e => (by cases e), rfl, List.nodup_nil, fun j p o z => by simp at z⟩ k
theorem sc_box_L : FnScope ["_law_script", "_law_k", "_law_cell_so"] ["_law_script", "_law_k"] (defScope (topS 32)) := ⟨rfl, rfl, rfl, by decide +kernel, rfl, by decide +kernel, by decide +kernel⟩
def spBox : Sp := fun vs H Q _ => ∃ (r : Addr) (c : Int), vs = [.ref r, .int 0] ∧ H r = some (.lst [.int c]) ∧ ∀ (H' : Hp) (q : Addr) (a b : Int), H q = none → H' q = some (.lst [.int a, .int b, .int 0]) → 0 ≤ a → 0 ≤ b → b < 2 ^ 62 → Q (.ref q) H'
theorem ok_box (G : Prog K mg) {f : Addr} {fd : FuncData} {k : Nat} (F : Fun K "_law_box" "_law_box" (topS 32) f fd) : FnOk P w K mg base CX0 (k + 1) f fd ["_law_script", "_law_k"] spBox := by
  refine F.ok sc_box_L (fun vs H Q E h => ?_) (fun cdv A outer s H vs Q E hr h => ?_)
  · obtain ⟨r, c, rfl, _⟩ := h
    rfl
  obtain ⟨r, c, rfl, e, q⟩ := h
  refine ⟨_, pss_cons (ps_set (i := 2) sc_box_L.nd rfl (.inl rfl) (pe_ifExp (pt_cmpR op_lt (pv 1) (pe_callB call_len_seq rfl G.bl.len PySem.boot_len (pa_cons (pv 0) pa_nil)) (nomark _)) (pe_ix ix_list (pv 0) (pv 1) (fun _ _ => rfl)) pe_int)) (pss_one (ps_ret pe_can)), ?_⟩
  refine ⟨.int 0, rfl, .ref r, rfl, r, [.int c], rfl, .inl (SqL.of e), 0, 1, rfl, rfl, true, rfl, iteT ?_⟩
  refine ⟨.ref r, rfl, .int 0, rfl, r, [.int c], 0, .int c, rfl, rfl, SqL.of e, rfl, ?_⟩
  show WE _ _ [some (.ref r), some (.int 0), some (.int c)] H _
  refine fn_run (Γ := [.un, .dat (.int 0), .dat (.int c)]) (QL := fun ds _ => ∃ a b : Int, ds = [.int a, .int b, .int 0] ∧ 0 ≤ a ∧ 0 ≤ b ∧ b < 2 ^ 62) ?fn ⟨rfl, fun i s' h => ?_⟩ fun a F2 H2 xs ds μ2 hp2 st na nF ea dq hz => ?_
  case fn =>
    refine fn_lst ?_
    refine fa_cons ?_
    refine fe_mul ?_
    refine fe_abs G.bl ?_
    refine nm 2 ?_
    refine fe_intc G.bl ?_
    refine fe_ge ?_
    refine fe_abs G.bl ?_
    refine nm 2 ?_
    refine fe_pow ?_
    refine fe_int ?_
    refine fe_int ?_
    refine ⟨⟨by decide, by decide, by decide⟩, ?_⟩
    refine And.symm ⟨?_, .inr ?_⟩
    refine fa_cons ?_
    refine fe_add ?_
    refine fe_add ?_
    refine fe_mod ?_
    refine fe_intc G.bl ?_
    refine nm 2 ?_
    refine fe_int ?_
    refine ⟨by decide, ?_⟩
    refine fe_mul ?_
    refine fe_int ?_
    refine nm 1 ?_
    refine ⟨.inl ⟨by decide, by decide⟩, ?_⟩
    refine fe_int ?_
    refine fa_cons ?_
    refine fe_int ?_
    refine fa_nil ?_
    refine ⟨(show 3 ≤ 100000 by decide), _, _, rfl, ?_, ?_, ?_⟩
    · refine Int.mul_nonneg ?_ ?_
      · split <;> omega
      · exact it01.1
    · omega
    · omega
    · exact it01.2
  · match i, h with
    | 0, h => cases h; exact True.intro
    | 1, h => cases h; exact ⟨_, rfl, .int _⟩
    | 2, h => cases h; exact ⟨_, rfl, .int _⟩
  · obtain ⟨x, y, rfl, h0, h1, h2⟩ := hz
    have := DqAll.ints (ns := [x, y, 0]) dq
    subst this
    exact q H2 a x y na ea h0 h1 h2
theorem sc_L : FnScope ["_law_script"] ["_law_script"] (defScope (topS 62)) := ⟨rfl, rfl, rfl, by decide +kernel, rfl, by decide +kernel, by decide +kernel⟩
def spLaw (K : PySem.W.Frag) : Sp := fun vs H Q _ => ∃ (a : Addr) (ns : List Int), vs = [.ref a] ∧ SqL K H a (ns.map V.int) ∧ ns.length ≤ 63 ∧ ∀ H', Q (.bl true) H'
theorem ok_law (G : Prog K mg) {x : Str} {f : Addr} {fd : FuncData} (F : Fun K x x (topS 62) f fd) : FnOk P w K mg base CX0 13 f fd ["_law_script"] (spLaw K) := by
  refine F.ok sc_L (fun vs H Q E h => ?_) (fun cdv A outer s H vs Q E hr h => ?_)
  · obtain ⟨a, ns, rfl, _⟩ := h
    rfl
  obtain ⟨a, ns, rfl, hS, hlen, q⟩ := h
  obtain ⟨f1, fd1, ps1, a1, a2, a3, a4⟩ := (h_by_hand_right_L (P := P) (w := w) (base := base) G).ex
  obtain ⟨f2, fd2, ps2, b1, b2, b3, b4⟩ := (h_right_L (P := P) (w := w) (base := base) G).ex
  obtain ⟨f3, fd3, F3, c2, c3⟩ := G.d_cells_L.ex
  obtain ⟨f4, fd4, F4, d2, d3⟩ := G.d_box_L.ex
  have c1 := ok_cells (P := P) (w := w) (base := base) (k := 11) G.bl F3
  have d1 := ok_box (P := P) (w := w) (base := base) (k := 11) G F4
  refine ⟨_, pss_one (ps_ret (pe_and (pe_call0 (dvs := []) (E := E0) a1 hr rfl a2 a3 a4 .nil pass0) (pe_one (pe_call (dvs := []) (E := E0) b1 hr rfl b2 b3 b4 .nil pass0
    (pa_cons (pe_call (dvs := []) (E := E0) d1 hr rfl d2 F4.kp d3 .nil pass0
      (pa_cons (pe_call (dvs := []) (E := E0) c1 hr rfl c2 F3.kp c3 .nil pass0 (pa_cons (pv 0) (pa_cons pe_int pa_nil))) (pa_cons pe_int pa_nil))) pa_nil))))), ?_⟩
  refine ⟨fun _ => none, [], [], [], fun d _ => d = .bool true, ⟨rfl, fun i s' h => by simp at h⟩, ⟨fun _ _ e => (by cases e), rfl, List.nodup_nil, fun j p o z => by simp at z⟩, ⟨rfl, [], rfl, rfl, rfl⟩, fun v F2 H2 d μ2 hp2 st dq e => ?_⟩
  subst e
  obtain rfl := dq.bool_inv
  have sH : Same H H2 := fun p o e => st.hh p o e (fun z => nomatch z)
  refine ⟨true, rfl, iteT ?_⟩
  refine ⟨.ref a, rfl, a, ns, rfl, sH.seq hS, hlen, fun H3 r c s3 e3 => ?_⟩
  refine ⟨r, c, rfl, e3, fun H4 p x y np ep h0 h1 h2 => ?_⟩
  have dq4 : DqAll (fun _ => none) [V.int x, V.int y, V.int 0] [.int x, .int y, .int 0] := .cons (.int _) (.cons (.int _) (.cons (.int _) .nil))
  refine ⟨fun _ => none, [p], [.ob 0], [.lst [.int x, .int y, .int 0]], fun d _ => d = .bool true, ⟨rfl, fun i s' h => ?_⟩, ⟨fun _ _ e => (by cases e), rfl, (by simp), fun j p' o z1 z2 => ?_⟩, ⟨[.int x, .int y, .int 0], [], rfl, rfl, 0, ?_, (by decide), rfl, fun ts' => rfl⟩, fun v F5 H5 d μ5 hp5 st5 dq5 e5 => ?_⟩
  · match i, h with
    | 0, h => cases h; exact ⟨p, rfl, rfl⟩
  · match j, z1, z2 with
    | 0, z1, z2 => cases z1; cases z2; exact ⟨rfl, _, ep, dq4⟩
  · exact ⟨x, y, 0, rfl, h0, h1, h2, by omega, by omega⟩
  · subst e5
    obtain rfl := dq5.bool_inv
    exact q H5
end
end K13

set_option maxRecDepth 100000
set_option maxHeartbeats 4000000
set_option autoImplicit false
/-! What the top has written. -/
namespace K13
open PySem PySem.Spec PyProof.Rows L2
section
variable {K : PySem.W.Frag} {h : Heap} {mg : Str → Option Value}
theorem bl_of (X : K.In h) (G : h.Ns mainGlobals mg)
    (z_len : PySem.W.nsIn K mainGlobals "len" = some none) (z_abs : PySem.W.nsIn K mainGlobals "abs" = some none) (z_int : PySem.W.nsIn K mainGlobals "int" = some none) (z_tuple : PySem.W.nsIn K mainGlobals "tuple" = some none) (z_list : PySem.W.nsIn K mainGlobals "list" = some none) (z_sum : PySem.W.nsIn K mainGlobals "sum" = some none) (z_all : PySem.W.nsIn K mainGlobals "all" = some none) (z_sorted : PySem.W.nsIn K mainGlobals "sorted" = some none) (z_min : PySem.W.nsIn K mainGlobals "min" = some none) (z_max : PySem.W.nsIn K mainGlobals "max" = some none) (z_set : PySem.W.nsIn K mainGlobals "set" = some none) (z_isinstance : PySem.W.nsIn K mainGlobals "isinstance" = some none) (z_bool : PySem.W.nsIn K mainGlobals "bool" = some none) (z_str : PySem.W.nsIn K mainGlobals "str" = some none) (z_range : PySem.W.nsIn K mainGlobals "range" = some none) (z_enumerate : PySem.W.nsIn K mainGlobals "enumerate" = some none) (z_zip : PySem.W.nsIn K mainGlobals "zip" = some none) (z_dict : PySem.W.nsIn K mainGlobals "dict" = some none) : Bl mg :=
  ⟨PySem.W.mg_none_of X G z_len, PySem.W.mg_none_of X G z_abs, PySem.W.mg_none_of X G z_int, PySem.W.mg_none_of X G z_tuple, PySem.W.mg_none_of X G z_list, PySem.W.mg_none_of X G z_sum, PySem.W.mg_none_of X G z_all, PySem.W.mg_none_of X G z_sorted, PySem.W.mg_none_of X G z_min, PySem.W.mg_none_of X G z_max, PySem.W.mg_none_of X G z_set, PySem.W.mg_none_of X G z_isinstance, PySem.W.mg_none_of X G z_bool, PySem.W.mg_none_of X G z_str, PySem.W.mg_none_of X G z_range, PySem.W.mg_none_of X G z_enumerate, PySem.W.mg_none_of X G z_zip, PySem.W.mg_none_of X G z_dict⟩
theorem mk_tupled (X : K.In h) (G : h.Ns mainGlobals mg) {f : Addr} {od an : Option Addr} {sl : Array (Option Value)} {oc kV dc pm cd ct : Value} (a : PySem.W.nsIn K mainGlobals "tupled" = some (some (.ref f)))
    (l : K.lookup f = some ⟨oc, od, .func (PySem.W.fnOf "tupled" "tupled" (defArgs (topS 5)) (defBody (topS 5)) (defScope (topS 5)) .none kV dc pm an cd ct), sl⟩) (c : PySem.W.codeIn K cd "tupled" = true) (k : PySem.W.keepIn K (.ref f) = true) : Dn K mg "tupled" (topS 5) ["thing"] :=
  ⟨_, _, fun_mk l c k, PySem.W.mg_of X G a, (fun_mk (st := topS 5) l c k).binds fun _ _ _ _ _ _ us hl => match us, hl with | [_], _ => rfl⟩
theorem mk_is_number (X : K.In h) (G : h.Ns mainGlobals mg) {f : Addr} {od an : Option Addr} {sl : Array (Option Value)} {oc kV dc pm cd ct : Value} (a : PySem.W.nsIn K mainGlobals "is_number" = some (some (.ref f)))
    (l : K.lookup f = some ⟨oc, od, .func (PySem.W.fnOf "is_number" "is_number" (defArgs (topS 6)) (defBody (topS 6)) (defScope (topS 6)) .none kV dc pm an cd ct), sl⟩) (c : PySem.W.codeIn K cd "is_number" = true) (k : PySem.W.keepIn K (.ref f) = true) : Dn K mg "is_number" (topS 6) ["thing"] :=
  ⟨_, _, fun_mk l c k, PySem.W.mg_of X G a, (fun_mk (st := topS 6) l c k).binds fun _ _ _ _ _ _ us hl => match us, hl with | [_], _ => rfl⟩
theorem mk_is_count (X : K.In h) (G : h.Ns mainGlobals mg) {f : Addr} {od an : Option Addr} {sl : Array (Option Value)} {oc kV dc pm cd ct : Value} (a : PySem.W.nsIn K mainGlobals "is_count" = some (some (.ref f)))
    (l : K.lookup f = some ⟨oc, od, .func (PySem.W.fnOf "is_count" "is_count" (defArgs (topS 7)) (defBody (topS 7)) (defScope (topS 7)) .none kV dc pm an cd ct), sl⟩) (c : PySem.W.codeIn K cd "is_count" = true) (k : PySem.W.keepIn K (.ref f) = true) : Dn K mg "is_count" (topS 7) ["thing"] :=
  ⟨_, _, fun_mk l c k, PySem.W.mg_of X G a, (fun_mk (st := topS 7) l c k).binds fun _ _ _ _ _ _ us hl => match us, hl with | [_], _ => rfl⟩
theorem mk_is_below (X : K.In h) (G : h.Ns mainGlobals mg) {f : Addr} {od an : Option Addr} {sl : Array (Option Value)} {oc kV dc pm cd ct : Value} (a : PySem.W.nsIn K mainGlobals "is_below" = some (some (.ref f)))
    (l : K.lookup f = some ⟨oc, od, .func (PySem.W.fnOf "is_below" "is_below" (defArgs (topS 8)) (defBody (topS 8)) (defScope (topS 8)) .none kV dc pm an cd ct), sl⟩) (c : PySem.W.codeIn K cd "is_below" = true) (k : PySem.W.keepIn K (.ref f) = true) : Dn K mg "is_below" (topS 8) ["thing", "many"] :=
  ⟨_, _, fun_mk l c k, PySem.W.mg_of X G a, (fun_mk (st := topS 8) l c k).binds fun _ _ _ _ _ _ us hl => match us, hl with | [_, _], _ => rfl⟩
theorem mk_is_tuple_of (X : K.In h) (G : h.Ns mainGlobals mg) {f : Addr} {od an : Option Addr} {sl : Array (Option Value)} {oc kV dc pm cd ct : Value} (a : PySem.W.nsIn K mainGlobals "is_tuple_of" = some (some (.ref f)))
    (l : K.lookup f = some ⟨oc, od, .func (PySem.W.fnOf "is_tuple_of" "is_tuple_of" (defArgs (topS 9)) (defBody (topS 9)) (defScope (topS 9)) .none kV dc pm an cd ct), sl⟩) (c : PySem.W.codeIn K cd "is_tuple_of" = true) (k : PySem.W.keepIn K (.ref f) = true) : Dn K mg "is_tuple_of" (topS 9) ["thing", "size"] :=
  ⟨_, _, fun_mk l c k, PySem.W.mg_of X G a, (fun_mk (st := topS 9) l c k).binds fun _ _ _ _ _ _ us hl => match us, hl with | [_, _], _ => rfl⟩
theorem mk_put_at (X : K.In h) (G : h.Ns mainGlobals mg) {f : Addr} {od an : Option Addr} {sl : Array (Option Value)} {oc kV dc pm cd ct : Value} (a : PySem.W.nsIn K mainGlobals "put_at" = some (some (.ref f)))
    (l : K.lookup f = some ⟨oc, od, .func (PySem.W.fnOf "put_at" "put_at" (defArgs (topS 10)) (defBody (topS 10)) (defScope (topS 10)) .none kV dc pm an cd ct), sl⟩) (c : PySem.W.codeIn K cd "put_at" = true) (k : PySem.W.keepIn K (.ref f) = true) : Dn K mg "put_at" (topS 10) ["row", "place", "bit"] :=
  ⟨_, _, fun_mk l c k, PySem.W.mg_of X G a, (fun_mk (st := topS 10) l c k).binds fun _ _ _ _ _ _ us hl => match us, hl with | [_, _, _], _ => rfl⟩
theorem mk_cracks_in (X : K.In h) (G : h.Ns mainGlobals mg) {f : Addr} {od an : Option Addr} {sl : Array (Option Value)} {oc kV dc pm cd ct : Value} (a : PySem.W.nsIn K mainGlobals "cracks_in" = some (some (.ref f)))
    (l : K.lookup f = some ⟨oc, od, .func (PySem.W.fnOf "cracks_in" "cracks_in" (defArgs (topS 12)) (defBody (topS 12)) (defScope (topS 12)) .none kV dc pm an cd ct), sl⟩) (c : PySem.W.codeIn K cd "cracks_in" = true) (k : PySem.W.keepIn K (.ref f) = true) : Dn K mg "cracks_in" (topS 12) ["beams", "heights"] :=
  ⟨_, _, fun_mk l c k, PySem.W.mg_of X G a, (fun_mk (st := topS 12) l c k).binds fun _ _ _ _ _ _ us hl => match us, hl with | [_, _], _ => rfl⟩
theorem mk_sure_stand (X : K.In h) (G : h.Ns mainGlobals mg) {f : Addr} {od an : Option Addr} {sl : Array (Option Value)} {oc kV dc pm cd ct : Value} (a : PySem.W.nsIn K mainGlobals "sure_stand" = some (some (.ref f)))
    (l : K.lookup f = some ⟨oc, od, .func (PySem.W.fnOf "sure_stand" "sure_stand" (defArgs (topS 13)) (defBody (topS 13)) (defScope (topS 13)) .none kV dc pm an cd ct), sl⟩) (c : PySem.W.codeIn K cd "sure_stand" = true) (k : PySem.W.keepIn K (.ref f) = true) : Dn K mg "sure_stand" (topS 13) ["own", "stand"] :=
  ⟨_, _, fun_mk l c k, PySem.W.mg_of X G a, (fun_mk (st := topS 13) l c k).binds fun _ _ _ _ _ _ us hl => match us, hl with | [_, _], _ => rfl⟩
theorem mk_sure_stands (X : K.In h) (G : h.Ns mainGlobals mg) {f : Addr} {od an : Option Addr} {sl : Array (Option Value)} {oc kV dc pm cd ct : Value} (a : PySem.W.nsIn K mainGlobals "sure_stands" = some (some (.ref f)))
    (l : K.lookup f = some ⟨oc, od, .func (PySem.W.fnOf "sure_stands" "sure_stands" (defArgs (topS 14)) (defBody (topS 14)) (defScope (topS 14)) .none kV dc pm an cd ct), sl⟩) (c : PySem.W.codeIn K cd "sure_stands" = true) (k : PySem.W.keepIn K (.ref f) = true) : Dn K mg "sure_stands" (topS 14) ["frame", "one", "other"] :=
  ⟨_, _, fun_mk l c k, PySem.W.mg_of X G a, (fun_mk (st := topS 14) l c k).binds fun _ _ _ _ _ _ us hl => match us, hl with | [_, _, _], _ => rfl⟩
theorem mk_is_deed (X : K.In h) (G : h.Ns mainGlobals mg) {f : Addr} {od an : Option Addr} {sl : Array (Option Value)} {oc kV dc pm cd ct : Value} (a : PySem.W.nsIn K mainGlobals "is_deed" = some (some (.ref f)))
    (l : K.lookup f = some ⟨oc, od, .func (PySem.W.fnOf "is_deed" "is_deed" (defArgs (topS 16)) (defBody (topS 16)) (defScope (topS 16)) .none kV dc pm an cd ct), sl⟩) (c : PySem.W.codeIn K cd "is_deed" = true) (k : PySem.W.keepIn K (.ref f) = true) : Dn K mg "is_deed" (topS 16) ["frame", "thing"] :=
  ⟨_, _, fun_mk l c k, PySem.W.mg_of X G a, (fun_mk (st := topS 16) l c k).binds fun _ _ _ _ _ _ us hl => match us, hl with | [_, _], _ => rfl⟩
theorem mk_is_doable (X : K.In h) (G : h.Ns mainGlobals mg) {f : Addr} {od an : Option Addr} {sl : Array (Option Value)} {oc kV dc pm cd ct : Value} (a : PySem.W.nsIn K mainGlobals "is_doable" = some (some (.ref f)))
    (l : K.lookup f = some ⟨oc, od, .func (PySem.W.fnOf "is_doable" "is_doable" (defArgs (topS 17)) (defBody (topS 17)) (defScope (topS 17)) .none kV dc pm an cd ct), sl⟩) (c : PySem.W.codeIn K cd "is_doable" = true) (k : PySem.W.keepIn K (.ref f) = true) : Dn K mg "is_doable" (topS 17) ["own", "heights", "deed"] :=
  ⟨_, _, fun_mk l c k, PySem.W.mg_of X G a, (fun_mk (st := topS 17) l c k).binds fun _ _ _ _ _ _ us hl => match us, hl with | [_, _, _], _ => rfl⟩
theorem mk_after_deed (X : K.In h) (G : h.Ns mainGlobals mg) {f : Addr} {od an : Option Addr} {sl : Array (Option Value)} {oc kV dc pm cd ct : Value} (a : PySem.W.nsIn K mainGlobals "after_deed" = some (some (.ref f)))
    (l : K.lookup f = some ⟨oc, od, .func (PySem.W.fnOf "after_deed" "after_deed" (defArgs (topS 18)) (defBody (topS 18)) (defScope (topS 18)) .none kV dc pm an cd ct), sl⟩) (c : PySem.W.codeIn K cd "after_deed" = true) (k : PySem.W.keepIn K (.ref f) = true) : Dn K mg "after_deed" (topS 18) ["own", "heights", "deed"] :=
  ⟨_, _, fun_mk l c k, PySem.W.mg_of X G a, (fun_mk (st := topS 18) l c k).binds fun _ _ _ _ _ _ us hl => match us, hl with | [_, _, _], _ => rfl⟩
theorem mk_walked_in (X : K.In h) (G : h.Ns mainGlobals mg) {f : Addr} {od an : Option Addr} {sl : Array (Option Value)} {oc kV dc pm cd ct : Value} (a : PySem.W.nsIn K mainGlobals "walked_in" = some (some (.ref f)))
    (l : K.lookup f = some ⟨oc, od, .func (PySem.W.fnOf "walked_in" "walked_in" (defArgs (topS 19)) (defBody (topS 19)) (defScope (topS 19)) .none kV dc pm an cd ct), sl⟩) (c : PySem.W.codeIn K cd "walked_in" = true) (k : PySem.W.keepIn K (.ref f) = true) : Dn K mg "walked_in" (topS 19) ["own", "heights", "plan"] :=
  ⟨_, _, fun_mk l c k, PySem.W.mg_of X G a, (fun_mk (st := topS 19) l c k).binds fun _ _ _ _ _ _ us hl => match us, hl with | [_, _, _], _ => rfl⟩
theorem mk_bad_in (X : K.In h) (G : h.Ns mainGlobals mg) {f : Addr} {od an : Option Addr} {sl : Array (Option Value)} {oc kV dc pm cd ct : Value} (a : PySem.W.nsIn K mainGlobals "bad_in" = some (some (.ref f)))
    (l : K.lookup f = some ⟨oc, od, .func (PySem.W.fnOf "bad_in" "bad_in" (defArgs (topS 20)) (defBody (topS 20)) (defScope (topS 20)) .none kV dc pm an cd ct), sl⟩) (c : PySem.W.codeIn K cd "bad_in" = true) (k : PySem.W.keepIn K (.ref f) = true) : Dn K mg "bad_in" (topS 20) ["own", "heights", "plan"] :=
  ⟨_, _, fun_mk l c k, PySem.W.mg_of X G a, (fun_mk (st := topS 20) l c k).binds fun _ _ _ _ _ _ us hl => match us, hl with | [_, _, _], _ => rfl⟩
theorem mk_is_plan (X : K.In h) (G : h.Ns mainGlobals mg) {f : Addr} {od an : Option Addr} {sl : Array (Option Value)} {oc kV dc pm cd ct : Value} (a : PySem.W.nsIn K mainGlobals "is_plan" = some (some (.ref f)))
    (l : K.lookup f = some ⟨oc, od, .func (PySem.W.fnOf "is_plan" "is_plan" (defArgs (topS 21)) (defBody (topS 21)) (defScope (topS 21)) .none kV dc pm an cd ct), sl⟩) (c : PySem.W.codeIn K cd "is_plan" = true) (k : PySem.W.keepIn K (.ref f) = true) : Dn K mg "is_plan" (topS 21) ["frame", "one", "other", "thing"] :=
  ⟨_, _, fun_mk l c k, PySem.W.mg_of X G a, (fun_mk (st := topS 21) l c k).binds fun _ _ _ _ _ _ us hl => match us, hl with | [_, _, _, _], _ => rfl⟩
theorem mk_sure_leading (X : K.In h) (G : h.Ns mainGlobals mg) {f : Addr} {od an : Option Addr} {sl : Array (Option Value)} {oc kV dc pm cd ct : Value} (a : PySem.W.nsIn K mainGlobals "sure_leading" = some (some (.ref f)))
    (l : K.lookup f = some ⟨oc, od, .func (PySem.W.fnOf "sure_leading" "sure_leading" (defArgs (topS 23)) (defBody (topS 23)) (defScope (topS 23)) .none kV dc pm an cd ct), sl⟩) (c : PySem.W.codeIn K cd "sure_leading" = true) (k : PySem.W.keepIn K (.ref f) = true) : Dn K mg "sure_leading" (topS 23) ["frame", "one", "other", "plan"] :=
  ⟨_, _, fun_mk l c k, PySem.W.mg_of X G a, (fun_mk (st := topS 23) l c k).binds fun _ _ _ _ _ _ us hl => match us, hl with | [_, _, _, _], _ => rfl⟩
theorem mk_cut_height (X : K.In h) (G : h.Ns mainGlobals mg) {f : Addr} {od an : Option Addr} {sl : Array (Option Value)} {oc kV dc pm cd ct : Value} (a : PySem.W.nsIn K mainGlobals "cut_height" = some (some (.ref f)))
    (l : K.lookup f = some ⟨oc, od, .func (PySem.W.fnOf "cut_height" "cut_height" (defArgs (topS 24)) (defBody (topS 24)) (defScope (topS 24)) .none kV dc pm an cd ct), sl⟩) (c : PySem.W.codeIn K cd "cut_height" = true) (k : PySem.W.keepIn K (.ref f) = true) : Dn K mg "cut_height" (topS 24) ["begin", "end", "height"] :=
  ⟨_, _, fun_mk l c k, PySem.W.mg_of X G a, (fun_mk (st := topS 24) l c k).binds fun _ _ _ _ _ _ us hl => match us, hl with | [_, _, _], _ => rfl⟩
theorem mk_cut_in (X : K.In h) (G : h.Ns mainGlobals mg) {f : Addr} {od an : Option Addr} {sl : Array (Option Value)} {oc kV dc pm cd ct : Value} (a : PySem.W.nsIn K mainGlobals "cut_in" = some (some (.ref f)))
    (l : K.lookup f = some ⟨oc, od, .func (PySem.W.fnOf "cut_in" "cut_in" (defArgs (topS 25)) (defBody (topS 25)) (defScope (topS 25)) .none kV dc pm an cd ct), sl⟩) (c : PySem.W.codeIn K cd "cut_in" = true) (k : PySem.W.keepIn K (.ref f) = true) : Dn K mg "cut_in" (topS 25) ["begin", "end", "way"] :=
  ⟨_, _, fun_mk l c k, PySem.W.mg_of X G a, (fun_mk (st := topS 25) l c k).binds fun _ _ _ _ _ _ us hl => match us, hl with | [_, _, _], _ => rfl⟩
theorem mk_kept_in (X : K.In h) (G : h.Ns mainGlobals mg) {f : Addr} {od an : Option Addr} {sl : Array (Option Value)} {oc kV dc pm cd ct : Value} (a : PySem.W.nsIn K mainGlobals "kept_in" = some (some (.ref f)))
    (l : K.lookup f = some ⟨oc, od, .func (PySem.W.fnOf "kept_in" "kept_in" (defArgs (topS 26)) (defBody (topS 26)) (defScope (topS 26)) .none kV dc pm an cd ct), sl⟩) (c : PySem.W.codeIn K cd "kept_in" = true) (k : PySem.W.keepIn K (.ref f) = true) : Dn K mg "kept_in" (topS 26) ["begin", "end", "way"] :=
  ⟨_, _, fun_mk l c k, PySem.W.mg_of X G a, (fun_mk (st := topS 26) l c k).binds fun _ _ _ _ _ _ us hl => match us, hl with | [_, _, _], _ => rfl⟩
theorem mk_kept_deeds (X : K.In h) (G : h.Ns mainGlobals mg) {f : Addr} {od an : Option Addr} {sl : Array (Option Value)} {oc kV dc pm cd ct : Value} (a : PySem.W.nsIn K mainGlobals "kept_deeds" = some (some (.ref f)))
    (l : K.lookup f = some ⟨oc, od, .func (PySem.W.fnOf "kept_deeds" "kept_deeds" (defArgs (topS 27)) (defBody (topS 27)) (defScope (topS 27)) .none kV dc pm an cd ct), sl⟩) (c : PySem.W.codeIn K cd "kept_deeds" = true) (k : PySem.W.keepIn K (.ref f) = true) : Dn K mg "kept_deeds" (topS 27) ["frame", "one", "other", "plan"] :=
  ⟨_, _, fun_mk l c k, PySem.W.mg_of X G a, (fun_mk (st := topS 27) l c k).binds fun _ _ _ _ _ _ us hl => match us, hl with | [_, _, _, _], _ => rfl⟩
theorem mk_never_back (X : K.In h) (G : h.Ns mainGlobals mg) {f : Addr} {od an : Option Addr} {sl : Array (Option Value)} {oc kV dc pm cd ct : Value} (a : PySem.W.nsIn K mainGlobals "never_back" = some (some (.ref f)))
    (l : K.lookup f = some ⟨oc, od, .func (PySem.W.fnOf "never_back" "never_back" (defArgs (topS 28)) (defBody (topS 28)) (defScope (topS 28)) .none kV dc pm an cd ct), sl⟩) (c : PySem.W.codeIn K cd "never_back" = true) (k : PySem.W.keepIn K (.ref f) = true) : Dn K mg "never_back" (topS 28) ["frame", "one", "other", "plan"] :=
  ⟨_, _, fun_mk l c k, PySem.W.mg_of X G a, (fun_mk (st := topS 28) l c k).binds fun _ _ _ _ _ _ us hl => match us, hl with | [_, _, _, _], _ => rfl⟩
theorem mk_is_forward (X : K.In h) (G : h.Ns mainGlobals mg) {f : Addr} {od an : Option Addr} {sl : Array (Option Value)} {oc kV dc pm cd ct : Value} (a : PySem.W.nsIn K mainGlobals "is_forward" = some (some (.ref f)))
    (l : K.lookup f = some ⟨oc, od, .func (PySem.W.fnOf "is_forward" "is_forward" (defArgs (topS 29)) (defBody (topS 29)) (defScope (topS 29)) .none kV dc pm an cd ct), sl⟩) (c : PySem.W.codeIn K cd "is_forward" = true) (k : PySem.W.keepIn K (.ref f) = true) : Dn K mg "is_forward" (topS 29) ["frame", "one", "other", "plan"] :=
  ⟨_, _, fun_mk l c k, PySem.W.mg_of X G a, (fun_mk (st := topS 29) l c k).binds fun _ _ _ _ _ _ us hl => match us, hl with | [_, _, _, _], _ => rfl⟩
theorem mk_saved (X : K.In h) (G : h.Ns mainGlobals mg) {f : Addr} {od an : Option Addr} {sl : Array (Option Value)} {oc kV dc pm cd ct : Value} (a : PySem.W.nsIn K mainGlobals "saved" = some (some (.ref f)))
    (l : K.lookup f = some ⟨oc, od, .func (PySem.W.fnOf "saved" "saved" (defArgs (topS 30)) (defBody (topS 30)) (defScope (topS 30)) .none kV dc pm an cd ct), sl⟩) (c : PySem.W.codeIn K cd "saved" = true) (k : PySem.W.keepIn K (.ref f) = true) : Dn K mg "saved" (topS 30) ["frame", "one", "other", "plan"] :=
  ⟨_, _, fun_mk l c k, PySem.W.mg_of X G a, (fun_mk (st := topS 30) l c k).binds fun _ _ _ _ _ _ us hl => match us, hl with | [_, _, _, _], _ => rfl⟩
theorem mk_box_L (X : K.In h) (G : h.Ns mainGlobals mg) {f : Addr} {od an : Option Addr} {sl : Array (Option Value)} {oc kV dc pm cd ct : Value} (a : PySem.W.nsIn K mainGlobals "_law_box" = some (some (.ref f)))
    (l : K.lookup f = some ⟨oc, od, .func (PySem.W.fnOf "_law_box" "_law_box" (defArgs (topS 32)) (defBody (topS 32)) (defScope (topS 32)) .none kV dc pm an cd ct), sl⟩) (c : PySem.W.codeIn K cd "_law_box" = true) (k : PySem.W.keepIn K (.ref f) = true) : Dn K mg "_law_box" (topS 32) ["_law_script", "_law_k"] :=
  ⟨_, _, fun_mk l c k, PySem.W.mg_of X G a, (fun_mk (st := topS 32) l c k).binds fun _ _ _ _ _ _ us hl => match us, hl with | [_, _], _ => rfl⟩
theorem mk_take_L (X : K.In h) (G : h.Ns mainGlobals mg) {f : Addr} {od an : Option Addr} {sl : Array (Option Value)} {oc kV dc pm cd ct : Value} (a : PySem.W.nsIn K mainGlobals "_law_take" = some (some (.ref f)))
    (l : K.lookup f = some ⟨oc, od, .func (PySem.W.fnOf "_law_take" "_law_take" (defArgs (topS 33)) (defBody (topS 33)) (defScope (topS 33)) .none kV dc pm an cd ct), sl⟩) (c : PySem.W.codeIn K cd "_law_take" = true) (k : PySem.W.keepIn K (.ref f) = true) : Dn K mg "_law_take" (topS 33) ["_law_tin", "_law_below_so"] :=
  ⟨_, _, fun_mk l c k, PySem.W.mg_of X G a, (fun_mk (st := topS 33) l c k).binds fun _ _ _ _ _ _ us hl => match us, hl with | [_, _], _ => rfl⟩
theorem mk_cells_L (X : K.In h) (G : h.Ns mainGlobals mg) {f : Addr} {od an : Option Addr} {sl : Array (Option Value)} {oc kV dc pm cd ct : Value} (a : PySem.W.nsIn K mainGlobals "_law_cells" = some (some (.ref f)))
    (l : K.lookup f = some ⟨oc, od, .func (PySem.W.fnOf "_law_cells" "_law_cells" (defArgs (topS 34)) (defBody (topS 34)) (defScope (topS 34)) .none kV dc pm an cd ct), sl⟩) (c : PySem.W.codeIn K cd "_law_cells" = true) (k : PySem.W.keepIn K (.ref f) = true) : Dn K mg "_law_cells" (topS 34) ["_law_script", "_law_most_so"] :=
  ⟨_, _, fun_mk l c k, PySem.W.mg_of X G a, (fun_mk (st := topS 34) l c k).binds fun _ _ _ _ _ _ us hl => match us, hl with | [_, _], _ => rfl⟩
theorem mk_of_L (X : K.In h) (G : h.Ns mainGlobals mg) {f : Addr} {od an : Option Addr} {sl : Array (Option Value)} {oc kV dc pm cd ct : Value} (a : PySem.W.nsIn K mainGlobals "_law_of" = some (some (.ref f)))
    (l : K.lookup f = some ⟨oc, od, .func (PySem.W.fnOf "_law_of" "_law_of" (defArgs (topS 35)) (defBody (topS 35)) (defScope (topS 35)) .none kV dc pm an cd ct), sl⟩) (c : PySem.W.codeIn K cd "_law_of" = true) (k : PySem.W.keepIn K (.ref f) = true) : Dn K mg "_law_of" (topS 35) ["_law_tin", "_law_goods_so"] :=
  ⟨_, _, fun_mk l c k, PySem.W.mg_of X G a, (fun_mk (st := topS 35) l c k).binds fun _ _ _ _ _ _ us hl => match us, hl with | [_, _], _ => rfl⟩
theorem mk_lists_L (X : K.In h) (G : h.Ns mainGlobals mg) {f : Addr} {od an : Option Addr} {sl : Array (Option Value)} {oc kV dc pm cd ct : Value} (a : PySem.W.nsIn K mainGlobals "_law_lists" = some (some (.ref f)))
    (l : K.lookup f = some ⟨oc, od, .func (PySem.W.fnOf "_law_lists" "_law_lists" (defArgs (topS 36)) (defBody (topS 36)) (defScope (topS 36)) .none kV dc pm an cd ct), sl⟩) (c : PySem.W.codeIn K cd "_law_lists" = true) (k : PySem.W.keepIn K (.ref f) = true) : Dn K mg "_law_lists" (topS 36) ["_law_matter"] :=
  ⟨_, _, fun_mk l c k, PySem.W.mg_of X G a, (fun_mk (st := topS 36) l c k).binds fun _ _ _ _ _ _ us hl => match us, hl with | [_], _ => rfl⟩
theorem mk_same_L (X : K.In h) (G : h.Ns mainGlobals mg) {f : Addr} {od an : Option Addr} {sl : Array (Option Value)} {oc kV dc pm cd ct : Value} (a : PySem.W.nsIn K mainGlobals "_law_same" = some (some (.ref f)))
    (l : K.lookup f = some ⟨oc, od, .func (PySem.W.fnOf "_law_same" "_law_same" (defArgs (topS 37)) (defBody (topS 37)) (defScope (topS 37)) .none kV dc pm an cd ct), sl⟩) (c : PySem.W.codeIn K cd "_law_same" = true) (k : PySem.W.keepIn K (.ref f) = true) : Dn K mg "_law_same" (topS 37) ["_law_got", "_law_due"] :=
  ⟨_, _, fun_mk l c k, PySem.W.mg_of X G a, (fun_mk (st := topS 37) l c k).binds fun _ _ _ _ _ _ us hl => match us, hl with | [_, _], _ => rfl⟩
theorem mk_is_number_L (X : K.In h) (G : h.Ns mainGlobals mg) {f : Addr} {od an : Option Addr} {sl : Array (Option Value)} {oc kV dc pm cd ct : Value} (a : PySem.W.nsIn K mainGlobals "_law_is_number" = some (some (.ref f)))
    (l : K.lookup f = some ⟨oc, od, .func (PySem.W.fnOf "_law_is_number" "_law_is_number" (defArgs (topS 38)) (defBody (topS 38)) (defScope (topS 38)) .none kV dc pm an cd ct), sl⟩) (c : PySem.W.codeIn K cd "_law_is_number" = true) (k : PySem.W.keepIn K (.ref f) = true) : Dn K mg "_law_is_number" (topS 38) ["_law_own"] :=
  ⟨_, _, fun_mk l c k, PySem.W.mg_of X G a, (fun_mk (st := topS 38) l c k).binds fun _ _ _ _ _ _ us hl => match us, hl with | [_], _ => rfl⟩
theorem mk_put_L (X : K.In h) (G : h.Ns mainGlobals mg) {f : Addr} {od an : Option Addr} {sl : Array (Option Value)} {oc kV dc pm cd ct : Value} (a : PySem.W.nsIn K mainGlobals "_law_put" = some (some (.ref f)))
    (l : K.lookup f = some ⟨oc, od, .func (PySem.W.fnOf "_law_put" "_law_put" (defArgs (topS 39)) (defBody (topS 39)) (defScope (topS 39)) .none kV dc pm an cd ct), sl⟩) (c : PySem.W.codeIn K cd "_law_put" = true) (k : PySem.W.keepIn K (.ref f) = true) : Dn K mg "_law_put" (topS 39) ["_law_row_so", "_law_place_so", "_law_bit_so"] :=
  ⟨_, _, fun_mk l c k, PySem.W.mg_of X G a, (fun_mk (st := topS 39) l c k).binds fun _ _ _ _ _ _ us hl => match us, hl with | [_, _, _], _ => rfl⟩
theorem mk_is_pair_L (X : K.In h) (G : h.Ns mainGlobals mg) {f : Addr} {od an : Option Addr} {sl : Array (Option Value)} {oc kV dc pm cd ct : Value} (a : PySem.W.nsIn K mainGlobals "_law_is_pair" = some (some (.ref f)))
    (l : K.lookup f = some ⟨oc, od, .func (PySem.W.fnOf "_law_is_pair" "_law_is_pair" (defArgs (topS 40)) (defBody (topS 40)) (defScope (topS 40)) .none kV dc pm an cd ct), sl⟩) (c : PySem.W.codeIn K cd "_law_is_pair" = true) (k : PySem.W.keepIn K (.ref f) = true) : Dn K mg "_law_is_pair" (topS 40) ["_law_own"] :=
  ⟨_, _, fun_mk l c k, PySem.W.mg_of X G a, (fun_mk (st := topS 40) l c k).binds fun _ _ _ _ _ _ us hl => match us, hl with | [_], _ => rfl⟩
theorem mk_joined_L (X : K.In h) (G : h.Ns mainGlobals mg) {f : Addr} {od an : Option Addr} {sl : Array (Option Value)} {oc kV dc pm cd ct : Value} (a : PySem.W.nsIn K mainGlobals "_law_joined" = some (some (.ref f)))
    (l : K.lookup f = some ⟨oc, od, .func (PySem.W.fnOf "_law_joined" "_law_joined" (defArgs (topS 41)) (defBody (topS 41)) (defScope (topS 41)) .none kV dc pm an cd ct), sl⟩) (c : PySem.W.codeIn K cd "_law_joined" = true) (k : PySem.W.keepIn K (.ref f) = true) : Dn K mg "_law_joined" (topS 41) ["_law_size_so", "_law_pairs_so"] :=
  ⟨_, _, fun_mk l c k, PySem.W.mg_of X G a, (fun_mk (st := topS 41) l c k).binds fun _ _ _ _ _ _ us hl => match us, hl with | [_, _], _ => rfl⟩
theorem mk_frame_L (X : K.In h) (G : h.Ns mainGlobals mg) {f : Addr} {od an : Option Addr} {sl : Array (Option Value)} {oc kV dc pm cd ct : Value} (a : PySem.W.nsIn K mainGlobals "_law_frame" = some (some (.ref f)))
    (l : K.lookup f = some ⟨oc, od, .func (PySem.W.fnOf "_law_frame" "_law_frame" (defArgs (topS 42)) (defBody (topS 42)) (defScope (topS 42)) .none kV dc pm an cd ct), sl⟩) (c : PySem.W.codeIn K cd "_law_frame" = true) (k : PySem.W.keepIn K (.ref f) = true) : Dn K mg "_law_frame" (topS 42) ["_law_tin", "_law_most_so"] :=
  ⟨_, _, fun_mk l c k, PySem.W.mg_of X G a, (fun_mk (st := topS 42) l c k).binds fun _ _ _ _ _ _ us hl => match us, hl with | [_, _], _ => rfl⟩
theorem mk_next_to_L (X : K.In h) (G : h.Ns mainGlobals mg) {f : Addr} {od an : Option Addr} {sl : Array (Option Value)} {oc kV dc pm cd ct : Value} (a : PySem.W.nsIn K mainGlobals "_law_next_to" = some (some (.ref f)))
    (l : K.lookup f = some ⟨oc, od, .func (PySem.W.fnOf "_law_next_to" "_law_next_to" (defArgs (topS 43)) (defBody (topS 43)) (defScope (topS 43)) .none kV dc pm an cd ct), sl⟩) (c : PySem.W.codeIn K cd "_law_next_to" = true) (k : PySem.W.keepIn K (.ref f) = true) : Dn K mg "_law_next_to" (topS 43) ["_law_frame_so", "_law_k"] :=
  ⟨_, _, fun_mk l c k, PySem.W.mg_of X G a, (fun_mk (st := topS 43) l c k).binds fun _ _ _ _ _ _ us hl => match us, hl with | [_, _], _ => rfl⟩
theorem mk_some_stand_L (X : K.In h) (G : h.Ns mainGlobals mg) {f : Addr} {od an : Option Addr} {sl : Array (Option Value)} {oc kV dc pm cd ct : Value} (a : PySem.W.nsIn K mainGlobals "_law_some_stand" = some (some (.ref f)))
    (l : K.lookup f = some ⟨oc, od, .func (PySem.W.fnOf "_law_some_stand" "_law_some_stand" (defArgs (topS 44)) (defBody (topS 44)) (defScope (topS 44)) .none kV dc pm an cd ct), sl⟩) (c : PySem.W.codeIn K cd "_law_some_stand" = true) (k : PySem.W.keepIn K (.ref f) = true) : Dn K mg "_law_some_stand" (topS 44) ["_law_tin", "_law_frame_so", "_law_low_so", "_law_high_so"] :=
  ⟨_, _, fun_mk l c k, PySem.W.mg_of X G a, (fun_mk (st := topS 44) l c k).binds fun _ _ _ _ _ _ us hl => match us, hl with | [_, _, _, _], _ => rfl⟩
theorem mk_two_stands_L (X : K.In h) (G : h.Ns mainGlobals mg) {f : Addr} {od an : Option Addr} {sl : Array (Option Value)} {oc kV dc pm cd ct : Value} (a : PySem.W.nsIn K mainGlobals "_law_two_stands" = some (some (.ref f)))
    (l : K.lookup f = some ⟨oc, od, .func (PySem.W.fnOf "_law_two_stands" "_law_two_stands" (defArgs (topS 45)) (defBody (topS 45)) (defScope (topS 45)) .none kV dc pm an cd ct), sl⟩) (c : PySem.W.codeIn K cd "_law_two_stands" = true) (k : PySem.W.keepIn K (.ref f) = true) : Dn K mg "_law_two_stands" (topS 45) ["_law_tin", "_law_frame_so", "_law_high_so"] :=
  ⟨_, _, fun_mk l c k, PySem.W.mg_of X G a, (fun_mk (st := topS 45) l c k).binds fun _ _ _ _ _ _ us hl => match us, hl with | [_, _, _], _ => rfl⟩
theorem mk_roomy_L (X : K.In h) (G : h.Ns mainGlobals mg) {f : Addr} {od an : Option Addr} {sl : Array (Option Value)} {oc kV dc pm cd ct : Value} (a : PySem.W.nsIn K mainGlobals "_law_roomy" = some (some (.ref f)))
    (l : K.lookup f = some ⟨oc, od, .func (PySem.W.fnOf "_law_roomy" "_law_roomy" (defArgs (topS 46)) (defBody (topS 46)) (defScope (topS 46)) .none kV dc pm an cd ct), sl⟩) (c : PySem.W.codeIn K cd "_law_roomy" = true) (k : PySem.W.keepIn K (.ref f) = true) : Dn K mg "_law_roomy" (topS 46) ["_law_frame_so", "_law_own", "_law_k"] :=
  ⟨_, _, fun_mk l c k, PySem.W.mg_of X G a, (fun_mk (st := topS 46) l c k).binds fun _ _ _ _ _ _ us hl => match us, hl with | [_, _, _], _ => rfl⟩
theorem mk_steps_L (X : K.In h) (G : h.Ns mainGlobals mg) {f : Addr} {od an : Option Addr} {sl : Array (Option Value)} {oc kV dc pm cd ct : Value} (a : PySem.W.nsIn K mainGlobals "_law_steps" = some (some (.ref f)))
    (l : K.lookup f = some ⟨oc, od, .func (PySem.W.fnOf "_law_steps" "_law_steps" (defArgs (topS 47)) (defBody (topS 47)) (defScope (topS 47)) .none kV dc pm an cd ct), sl⟩) (c : PySem.W.codeIn K cd "_law_steps" = true) (k : PySem.W.keepIn K (.ref f) = true) : Dn K mg "_law_steps" (topS 47) ["_law_frame_so", "_law_own"] :=
  ⟨_, _, fun_mk l c k, PySem.W.mg_of X G a, (fun_mk (st := topS 47) l c k).binds fun _ _ _ _ _ _ us hl => match us, hl with | [_, _], _ => rfl⟩
theorem mk_price_of_L (X : K.In h) (G : h.Ns mainGlobals mg) {f : Addr} {od an : Option Addr} {sl : Array (Option Value)} {oc kV dc pm cd ct : Value} (a : PySem.W.nsIn K mainGlobals "_law_price_of" = some (some (.ref f)))
    (l : K.lookup f = some ⟨oc, od, .func (PySem.W.fnOf "_law_price_of" "_law_price_of" (defArgs (topS 48)) (defBody (topS 48)) (defScope (topS 48)) .none kV dc pm an cd ct), sl⟩) (c : PySem.W.codeIn K cd "_law_price_of" = true) (k : PySem.W.keepIn K (.ref f) = true) : Dn K mg "_law_price_of" (topS 48) ["_law_prices_so", "_law_k", "_law_level_so"] :=
  ⟨_, _, fun_mk l c k, PySem.W.mg_of X G a, (fun_mk (st := topS 48) l c k).binds fun _ _ _ _ _ _ us hl => match us, hl with | [_, _, _], _ => rfl⟩
theorem mk_some_prices_L (X : K.In h) (G : h.Ns mainGlobals mg) {f : Addr} {od an : Option Addr} {sl : Array (Option Value)} {oc kV dc pm cd ct : Value} (a : PySem.W.nsIn K mainGlobals "_law_some_prices" = some (some (.ref f)))
    (l : K.lookup f = some ⟨oc, od, .func (PySem.W.fnOf "_law_some_prices" "_law_some_prices" (defArgs (topS 49)) (defBody (topS 49)) (defScope (topS 49)) .none kV dc pm an cd ct), sl⟩) (c : PySem.W.codeIn K cd "_law_some_prices" = true) (k : PySem.W.keepIn K (.ref f) = true) : Dn K mg "_law_some_prices" (topS 49) ["_law_tin", "_law_frame_so", "_law_high_so", "_law_none_so"] :=
  ⟨_, _, fun_mk l c k, PySem.W.mg_of X G a, (fun_mk (st := topS 49) l c k).binds fun _ _ _ _ _ _ us hl => match us, hl with | [_, _, _, _], _ => rfl⟩
theorem mk_walk_so_L (X : K.In h) (G : h.Ns mainGlobals mg) {f : Addr} {od an : Option Addr} {sl : Array (Option Value)} {oc kV dc pm cd ct : Value} (a : PySem.W.nsIn K mainGlobals "_law_walk_so" = some (some (.ref f)))
    (l : K.lookup f = some ⟨oc, od, .func (PySem.W.fnOf "_law_walk_so" "_law_walk_so" (defArgs (topS 50)) (defBody (topS 50)) (defScope (topS 50)) .none kV dc pm an cd ct), sl⟩) (c : PySem.W.codeIn K cd "_law_walk_so" = true) (k : PySem.W.keepIn K (.ref f) = true) : Dn K mg "_law_walk_so" (topS 50) ["_law_frame_so", "_law_one_so", "_law_own"] :=
  ⟨_, _, fun_mk l c k, PySem.W.mg_of X G a, (fun_mk (st := topS 50) l c k).binds fun _ _ _ _ _ _ us hl => match us, hl with | [_, _, _], _ => rfl⟩
theorem mk_leads_so_L (X : K.In h) (G : h.Ns mainGlobals mg) {f : Addr} {od an : Option Addr} {sl : Array (Option Value)} {oc kV dc pm cd ct : Value} (a : PySem.W.nsIn K mainGlobals "_law_leads_so" = some (some (.ref f)))
    (l : K.lookup f = some ⟨oc, od, .func (PySem.W.fnOf "_law_leads_so" "_law_leads_so" (defArgs (topS 51)) (defBody (topS 51)) (defScope (topS 51)) .none kV dc pm an cd ct), sl⟩) (c : PySem.W.codeIn K cd "_law_leads_so" = true) (k : PySem.W.keepIn K (.ref f) = true) : Dn K mg "_law_leads_so" (topS 51) ["_law_frame_so", "_law_one_so", "_law_other_so", "_law_own"] :=
  ⟨_, _, fun_mk l c k, PySem.W.mg_of X G a, (fun_mk (st := topS 51) l c k).binds fun _ _ _ _ _ _ us hl => match us, hl with | [_, _, _, _], _ => rfl⟩
theorem mk_some_plan_L (X : K.In h) (G : h.Ns mainGlobals mg) {f : Addr} {od an : Option Addr} {sl : Array (Option Value)} {oc kV dc pm cd ct : Value} (a : PySem.W.nsIn K mainGlobals "_law_some_plan" = some (some (.ref f)))
    (l : K.lookup f = some ⟨oc, od, .func (PySem.W.fnOf "_law_some_plan" "_law_some_plan" (defArgs (topS 52)) (defBody (topS 52)) (defScope (topS 52)) .none kV dc pm an cd ct), sl⟩) (c : PySem.W.codeIn K cd "_law_some_plan" = true) (k : PySem.W.keepIn K (.ref f) = true) : Dn K mg "_law_some_plan" (topS 52) ["_law_tin", "_law_frame_so", "_law_one_so", "_law_most_so"] :=
  ⟨_, _, fun_mk l c k, PySem.W.mg_of X G a, (fun_mk (st := topS 52) l c k).binds fun _ _ _ _ _ _ us hl => match us, hl with | [_, _, _, _], _ => rfl⟩
theorem mk_road_L (X : K.In h) (G : h.Ns mainGlobals mg) {f : Addr} {od an : Option Addr} {sl : Array (Option Value)} {oc kV dc pm cd ct : Value} (a : PySem.W.nsIn K mainGlobals "_law_road" = some (some (.ref f)))
    (l : K.lookup f = some ⟨oc, od, .func (PySem.W.fnOf "_law_road" "_law_road" (defArgs (topS 53)) (defBody (topS 53)) (defScope (topS 53)) .none kV dc pm an cd ct), sl⟩) (c : PySem.W.codeIn K cd "_law_road" = true) (k : PySem.W.keepIn K (.ref f) = true) : Dn K mg "_law_road" (topS 53) ["_law_frame_so", "_law_now_so", "_law_goal_so"] :=
  ⟨_, _, fun_mk l c k, PySem.W.mg_of X G a, (fun_mk (st := topS 53) l c k).binds fun _ _ _ _ _ _ us hl => match us, hl with | [_, _, _], _ => rfl⟩
theorem mk_wild_L (X : K.In h) (G : h.Ns mainGlobals mg) {f : Addr} {od an : Option Addr} {sl : Array (Option Value)} {oc kV dc pm cd ct : Value} (a : PySem.W.nsIn K mainGlobals "_law_wild" = some (some (.ref f)))
    (l : K.lookup f = some ⟨oc, od, .func (PySem.W.fnOf "_law_wild" "_law_wild" (defArgs (topS 54)) (defBody (topS 54)) (defScope (topS 54)) .none kV dc pm an cd ct), sl⟩) (c : PySem.W.codeIn K cd "_law_wild" = true) (k : PySem.W.keepIn K (.ref f) = true) : Dn K mg "_law_wild" (topS 54) ["_law_tin", "_law_frame_so", "_law_one_so", "_law_other_so"] :=
  ⟨_, _, fun_mk l c k, PySem.W.mg_of X G a, (fun_mk (st := topS 54) l c k).binds fun _ _ _ _ _ _ us hl => match us, hl with | [_, _, _, _], _ => rfl⟩
theorem mk_cut_so_L (X : K.In h) (G : h.Ns mainGlobals mg) {f : Addr} {od an : Option Addr} {sl : Array (Option Value)} {oc kV dc pm cd ct : Value} (a : PySem.W.nsIn K mainGlobals "_law_cut_so" = some (some (.ref f)))
    (l : K.lookup f = some ⟨oc, od, .func (PySem.W.fnOf "_law_cut_so" "_law_cut_so" (defArgs (topS 55)) (defBody (topS 55)) (defScope (topS 55)) .none kV dc pm an cd ct), sl⟩) (c : PySem.W.codeIn K cd "_law_cut_so" = true) (k : PySem.W.keepIn K (.ref f) = true) : Dn K mg "_law_cut_so" (topS 55) ["_law_one_so", "_law_other_so", "_law_own"] :=
  ⟨_, _, fun_mk l c k, PySem.W.mg_of X G a, (fun_mk (st := topS 55) l c k).binds fun _ _ _ _ _ _ us hl => match us, hl with | [_, _, _], _ => rfl⟩
theorem mk_kept_L (X : K.In h) (G : h.Ns mainGlobals mg) {f : Addr} {od an : Option Addr} {sl : Array (Option Value)} {oc kV dc pm cd ct : Value} (a : PySem.W.nsIn K mainGlobals "_law_kept" = some (some (.ref f)))
    (l : K.lookup f = some ⟨oc, od, .func (PySem.W.fnOf "_law_kept" "_law_kept" (defArgs (topS 56)) (defBody (topS 56)) (defScope (topS 56)) .none kV dc pm an cd ct), sl⟩) (c : PySem.W.codeIn K cd "_law_kept" = true) (k : PySem.W.keepIn K (.ref f) = true) : Dn K mg "_law_kept" (topS 56) ["_law_one_so", "_law_other_so", "_law_plan_so"] :=
  ⟨_, _, fun_mk l c k, PySem.W.mg_of X G a, (fun_mk (st := topS 56) l c k).binds fun _ _ _ _ _ _ us hl => match us, hl with | [_, _, _], _ => rfl⟩
theorem mk_is_straight_L (X : K.In h) (G : h.Ns mainGlobals mg) {f : Addr} {od an : Option Addr} {sl : Array (Option Value)} {oc kV dc pm cd ct : Value} (a : PySem.W.nsIn K mainGlobals "_law_is_straight" = some (some (.ref f)))
    (l : K.lookup f = some ⟨oc, od, .func (PySem.W.fnOf "_law_is_straight" "_law_is_straight" (defArgs (topS 57)) (defBody (topS 57)) (defScope (topS 57)) .none kV dc pm an cd ct), sl⟩) (c : PySem.W.codeIn K cd "_law_is_straight" = true) (k : PySem.W.keepIn K (.ref f) = true) : Dn K mg "_law_is_straight" (topS 57) ["_law_one_so", "_law_other_so", "_law_plan_so"] :=
  ⟨_, _, fun_mk l c k, PySem.W.mg_of X G a, (fun_mk (st := topS 57) l c k).binds fun _ _ _ _ _ _ us hl => match us, hl with | [_, _, _], _ => rfl⟩
theorem mk_costs_L (X : K.In h) (G : h.Ns mainGlobals mg) {f : Addr} {od an : Option Addr} {sl : Array (Option Value)} {oc kV dc pm cd ct : Value} (a : PySem.W.nsIn K mainGlobals "_law_costs" = some (some (.ref f)))
    (l : K.lookup f = some ⟨oc, od, .func (PySem.W.fnOf "_law_costs" "_law_costs" (defArgs (topS 58)) (defBody (topS 58)) (defScope (topS 58)) .none kV dc pm an cd ct), sl⟩) (c : PySem.W.codeIn K cd "_law_costs" = true) (k : PySem.W.keepIn K (.ref f) = true) : Dn K mg "_law_costs" (topS 58) ["_law_prices_so", "_law_plan_so"] :=
  ⟨_, _, fun_mk l c k, PySem.W.mg_of X G a, (fun_mk (st := topS 58) l c k).binds fun _ _ _ _ _ _ us hl => match us, hl with | [_, _], _ => rfl⟩
theorem mk_by_hand_right_L (X : K.In h) (G : h.Ns mainGlobals mg) {f : Addr} {od an : Option Addr} {sl : Array (Option Value)} {oc kV dc pm cd ct : Value} (a : PySem.W.nsIn K mainGlobals "_law_by_hand_right" = some (some (.ref f)))
    (l : K.lookup f = some ⟨oc, od, .func (PySem.W.fnOf "_law_by_hand_right" "_law_by_hand_right" (defArgs (topS 59)) (defBody (topS 59)) (defScope (topS 59)) .none kV dc pm an cd ct), sl⟩) (c : PySem.W.codeIn K cd "_law_by_hand_right" = true) (k : PySem.W.keepIn K (.ref f) = true) : Dn K mg "_law_by_hand_right" (topS 59) [] :=
  ⟨_, _, fun_mk l c k, PySem.W.mg_of X G a, (fun_mk (st := topS 59) l c k).binds fun _ _ _ _ _ _ us hl => match us, hl with | [], _ => rfl⟩
theorem mk_cut_count_L (X : K.In h) (G : h.Ns mainGlobals mg) {f : Addr} {od an : Option Addr} {sl : Array (Option Value)} {oc kV dc pm cd ct : Value} (a : PySem.W.nsIn K mainGlobals "_law_cut_count" = some (some (.ref f)))
    (l : K.lookup f = some ⟨oc, od, .func (PySem.W.fnOf "_law_cut_count" "_law_cut_count" (defArgs (topS 60)) (defBody (topS 60)) (defScope (topS 60)) .none kV dc pm an cd ct), sl⟩) (c : PySem.W.codeIn K cd "_law_cut_count" = true) (k : PySem.W.keepIn K (.ref f) = true) : Dn K mg "_law_cut_count" (topS 60) ["_law_one_so", "_law_other_so", "_law_plan_so"] :=
  ⟨_, _, fun_mk l c k, PySem.W.mg_of X G a, (fun_mk (st := topS 60) l c k).binds fun _ _ _ _ _ _ us hl => match us, hl with | [_, _, _], _ => rfl⟩
theorem mk_right_L (X : K.In h) (G : h.Ns mainGlobals mg) {f : Addr} {od an : Option Addr} {sl : Array (Option Value)} {oc kV dc pm cd ct : Value} (a : PySem.W.nsIn K mainGlobals "_law_right" = some (some (.ref f)))
    (l : K.lookup f = some ⟨oc, od, .func (PySem.W.fnOf "_law_right" "_law_right" (defArgs (topS 61)) (defBody (topS 61)) (defScope (topS 61)) .none kV dc pm an cd ct), sl⟩) (c : PySem.W.codeIn K cd "_law_right" = true) (k : PySem.W.keepIn K (.ref f) = true) : Dn K mg "_law_right" (topS 61) ["_law_tin"] :=
  ⟨_, _, fun_mk l c k, PySem.W.mg_of X G a, (fun_mk (st := topS 61) l c k).binds fun _ _ _ _ _ _ us hl => match us, hl with | [_], _ => rfl⟩
theorem mk_law {l : PySem.W.OpenLaw} {w : World} {fa f : Addr} (X : K.In h) (G : h.Ns mainGlobals mg) (hfa : mg "law" = some (.ref fa)) {od an : Option Addr} {sl : Array (Option Value)} {oc kV dc pm cd ct : Value} (a : PySem.W.nsIn K mainGlobals "law" = some (some (.ref f)))
    (ll : K.lookup f = some ⟨oc, od, .func (PySem.W.fnOf "law" "law" (defArgs (topS 62)) (defBody (topS 62)) (defScope (topS 62)) .none kV dc pm an cd ct), sl⟩) (c : PySem.W.codeIn K cd "law" = true) (k : PySem.W.keepIn K (.ref f) = true) (Gp : Prog K mg) :
    ∃ fd : FuncData, (∀ (s : Shared) (v : Value), BindsTo s fd ⟨[v], []⟩ [("_law_script", v)]) ∧ ∀ base : Heap, K.In base → base.Ns mainGlobals mg → FnOk l.prog w K mg base CX0 13 fa fd ["_law_script"] (spLaw K) := by
  have e := hfa.symm.trans (PySem.W.mg_of X G a)
  cases e
  exact ⟨PySem.W.fnOf "law" "law" (defArgs (topS 62)) (defBody (topS 62)) (defScope (topS 62)) .none kV dc pm an cd ct, fun s v => .of_eq rfl, fun base _ _ => ok_law Gp (fun_mk ll c k)⟩
end
end K13

set_option maxRecDepth 100000
open PySem PySem.W PyProof.Rows
set_option maxHeartbeats 0 in
theorem PySem.Challenge.cw_evenlifts_k13_whole_plans_never_back_nev_holds : PySem.Challenge.rw_evenlifts_k13_whole_plans_never_back_nev.Holds := by
  w_on; o_law; k_head; (case hw => w_witness2)
  k_fill
  refine L2.walk_of (l := PySem.Challenge.rw_evenlifts_k13_whole_plans_never_back_nev) (n := 63) (k := 13) (x := "_law_script") (CX := fun _ => L2.CX0) (sp := fun w => K13.spLaw _) rfl (by decide) rfl ⟨rfl, by decide, by decide⟩ (fun w h Y => PySem.W.kIn_of Y) ?F (fun _ _ a ns hl _ hS => ⟨a, ns, rfl, hS, hl, fun _ => rfl⟩) (fun _ _ _ _ _ h => h)
  case F =>
    intro w mg fa h KX G hmg
    refine' K13.mk_law KX G hmg ?aL ?lL ?cL ?kL ⟨K13.bl_of KX G ?zlen ?zabs ?zint ?ztuple ?zlist ?zsum ?zall ?zsorted ?zmin ?zmax ?zset ?zisinstance ?zbool ?zstr ?zrange ?zenumerate ?zzip ?zdict, (K13.mk_tupled KX G ?a0 ?l0 ?c0 ?k0), (K13.mk_is_number KX G ?a1 ?l1 ?c1 ?k1), (K13.mk_is_count KX G ?a2 ?l2 ?c2 ?k2), (K13.mk_is_below KX G ?a3 ?l3 ?c3 ?k3), (K13.mk_is_tuple_of KX G ?a4 ?l4 ?c4 ?k4), (K13.mk_put_at KX G ?a5 ?l5 ?c5 ?k5), (K13.mk_cracks_in KX G ?a6 ?l6 ?c6 ?k6), (K13.mk_sure_stand KX G ?a7 ?l7 ?c7 ?k7), (K13.mk_sure_stands KX G ?a8 ?l8 ?c8 ?k8), (K13.mk_is_deed KX G ?a9 ?l9 ?c9 ?k9), (K13.mk_is_doable KX G ?a10 ?l10 ?c10 ?k10), (K13.mk_after_deed KX G ?a11 ?l11 ?c11 ?k11), (K13.mk_walked_in KX G ?a12 ?l12 ?c12 ?k12), (K13.mk_bad_in KX G ?a13 ?l13 ?c13 ?k13), (K13.mk_is_plan KX G ?a14 ?l14 ?c14 ?k14), (K13.mk_sure_leading KX G ?a15 ?l15 ?c15 ?k15), (K13.mk_cut_height KX G ?a16 ?l16 ?c16 ?k16), (K13.mk_cut_in KX G ?a17 ?l17 ?c17 ?k17), (K13.mk_kept_in KX G ?a18 ?l18 ?c18 ?k18), (K13.mk_kept_deeds KX G ?a19 ?l19 ?c19 ?k19), (K13.mk_never_back KX G ?a20 ?l20 ?c20 ?k20), (K13.mk_is_forward KX G ?a21 ?l21 ?c21 ?k21), (K13.mk_saved KX G ?a22 ?l22 ?c22 ?k22), (K13.mk_box_L KX G ?a23 ?l23 ?c23 ?k23), (K13.mk_take_L KX G ?a24 ?l24 ?c24 ?k24), (K13.mk_cells_L KX G ?a25 ?l25 ?c25 ?k25), (K13.mk_of_L KX G ?a26 ?l26 ?c26 ?k26), (K13.mk_lists_L KX G ?a27 ?l27 ?c27 ?k27), (K13.mk_same_L KX G ?a28 ?l28 ?c28 ?k28), (K13.mk_is_number_L KX G ?a29 ?l29 ?c29 ?k29), (K13.mk_put_L KX G ?a30 ?l30 ?c30 ?k30), (K13.mk_is_pair_L KX G ?a31 ?l31 ?c31 ?k31), (K13.mk_joined_L KX G ?a32 ?l32 ?c32 ?k32), (K13.mk_frame_L KX G ?a33 ?l33 ?c33 ?k33), (K13.mk_next_to_L KX G ?a34 ?l34 ?c34 ?k34), (K13.mk_some_stand_L KX G ?a35 ?l35 ?c35 ?k35), (K13.mk_two_stands_L KX G ?a36 ?l36 ?c36 ?k36), (K13.mk_roomy_L KX G ?a37 ?l37 ?c37 ?k37), (K13.mk_steps_L KX G ?a38 ?l38 ?c38 ?k38), (K13.mk_price_of_L KX G ?a39 ?l39 ?c39 ?k39), (K13.mk_some_prices_L KX G ?a40 ?l40 ?c40 ?k40), (K13.mk_walk_so_L KX G ?a41 ?l41 ?c41 ?k41), (K13.mk_leads_so_L KX G ?a42 ?l42 ?c42 ?k42), (K13.mk_some_plan_L KX G ?a43 ?l43 ?c43 ?k43), (K13.mk_road_L KX G ?a44 ?l44 ?c44 ?k44), (K13.mk_wild_L KX G ?a45 ?l45 ?c45 ?k45), (K13.mk_cut_so_L KX G ?a46 ?l46 ?c46 ?k46), (K13.mk_kept_L KX G ?a47 ?l47 ?c47 ?k47), (K13.mk_is_straight_L KX G ?a48 ?l48 ?c48 ?k48), (K13.mk_costs_L KX G ?a49 ?l49 ?c49 ?k49), (K13.mk_by_hand_right_L KX G ?a50 ?l50 ?c50 ?k50), (K13.mk_cut_count_L KX G ?a51 ?l51 ?c51 ?k51), (K13.mk_right_L KX G ?a52 ?l52 ?c52 ?k52)⟩
    (case aL => k_is); (case lL => k_is); (case cL => k_is); (case kL => k_is)
    (case a0 => k_is); (case l0 => k_is); (case c0 => k_is); (case k0 => k_is)
    (case a1 => k_is); (case l1 => k_is); (case c1 => k_is); (case k1 => k_is)
    (case a2 => k_is); (case l2 => k_is); (case c2 => k_is); (case k2 => k_is)
    (case a3 => k_is); (case l3 => k_is); (case c3 => k_is); (case k3 => k_is)
    (case a4 => k_is); (case l4 => k_is); (case c4 => k_is); (case k4 => k_is)
    (case a5 => k_is); (case l5 => k_is); (case c5 => k_is); (case k5 => k_is)
    (case a6 => k_is); (case l6 => k_is); (case c6 => k_is); (case k6 => k_is)
    (case a7 => k_is); (case l7 => k_is); (case c7 => k_is); (case k7 => k_is)
    (case a8 => k_is); (case l8 => k_is); (case c8 => k_is); (case k8 => k_is)
    (case a9 => k_is); (case l9 => k_is); (case c9 => k_is); (case k9 => k_is)
    (case a10 => k_is); (case l10 => k_is); (case c10 => k_is); (case k10 => k_is)
    (case a11 => k_is); (case l11 => k_is); (case c11 => k_is); (case k11 => k_is)
    (case a12 => k_is); (case l12 => k_is); (case c12 => k_is); (case k12 => k_is)
    (case a13 => k_is); (case l13 => k_is); (case c13 => k_is); (case k13 => k_is)
    (case a14 => k_is); (case l14 => k_is); (case c14 => k_is); (case k14 => k_is)
    (case a15 => k_is); (case l15 => k_is); (case c15 => k_is); (case k15 => k_is)
    (case a16 => k_is); (case l16 => k_is); (case c16 => k_is); (case k16 => k_is)
    (case a17 => k_is); (case l17 => k_is); (case c17 => k_is); (case k17 => k_is)
    (case a18 => k_is); (case l18 => k_is); (case c18 => k_is); (case k18 => k_is)
    (case a19 => k_is); (case l19 => k_is); (case c19 => k_is); (case k19 => k_is)
    (case a20 => k_is); (case l20 => k_is); (case c20 => k_is); (case k20 => k_is)
    (case a21 => k_is); (case l21 => k_is); (case c21 => k_is); (case k21 => k_is)
    (case a22 => k_is); (case l22 => k_is); (case c22 => k_is); (case k22 => k_is)
    (case a23 => k_is); (case l23 => k_is); (case c23 => k_is); (case k23 => k_is)
    (case a24 => k_is); (case l24 => k_is); (case c24 => k_is); (case k24 => k_is)
    (case a25 => k_is); (case l25 => k_is); (case c25 => k_is); (case k25 => k_is)
    (case a26 => k_is); (case l26 => k_is); (case c26 => k_is); (case k26 => k_is)
    (case a27 => k_is); (case l27 => k_is); (case c27 => k_is); (case k27 => k_is)
    (case a28 => k_is); (case l28 => k_is); (case c28 => k_is); (case k28 => k_is)
    (case a29 => k_is); (case l29 => k_is); (case c29 => k_is); (case k29 => k_is)
    (case a30 => k_is); (case l30 => k_is); (case c30 => k_is); (case k30 => k_is)
    (case a31 => k_is); (case l31 => k_is); (case c31 => k_is); (case k31 => k_is)
    (case a32 => k_is); (case l32 => k_is); (case c32 => k_is); (case k32 => k_is)
    (case a33 => k_is); (case l33 => k_is); (case c33 => k_is); (case k33 => k_is)
    (case a34 => k_is); (case l34 => k_is); (case c34 => k_is); (case k34 => k_is)
    (case a35 => k_is); (case l35 => k_is); (case c35 => k_is); (case k35 => k_is)
    (case a36 => k_is); (case l36 => k_is); (case c36 => k_is); (case k36 => k_is)
    (case a37 => k_is); (case l37 => k_is); (case c37 => k_is); (case k37 => k_is)
    (case a38 => k_is); (case l38 => k_is); (case c38 => k_is); (case k38 => k_is)
    (case a39 => k_is); (case l39 => k_is); (case c39 => k_is); (case k39 => k_is)
    (case a40 => k_is); (case l40 => k_is); (case c40 => k_is); (case k40 => k_is)
    (case a41 => k_is); (case l41 => k_is); (case c41 => k_is); (case k41 => k_is)
    (case a42 => k_is); (case l42 => k_is); (case c42 => k_is); (case k42 => k_is)
    (case a43 => k_is); (case l43 => k_is); (case c43 => k_is); (case k43 => k_is)
    (case a44 => k_is); (case l44 => k_is); (case c44 => k_is); (case k44 => k_is)
    (case a45 => k_is); (case l45 => k_is); (case c45 => k_is); (case k45 => k_is)
    (case a46 => k_is); (case l46 => k_is); (case c46 => k_is); (case k46 => k_is)
    (case a47 => k_is); (case l47 => k_is); (case c47 => k_is); (case k47 => k_is)
    (case a48 => k_is); (case l48 => k_is); (case c48 => k_is); (case k48 => k_is)
    (case a49 => k_is); (case l49 => k_is); (case c49 => k_is); (case k49 => k_is)
    (case a50 => k_is); (case l50 => k_is); (case c50 => k_is); (case k50 => k_is)
    (case a51 => k_is); (case l51 => k_is); (case c51 => k_is); (case k51 => k_is)
    (case a52 => k_is); (case l52 => k_is); (case c52 => k_is); (case k52 => k_is)
    (case zlen => k_is); (case zabs => k_is); (case zint => k_is); (case ztuple => k_is); (case zlist => k_is); (case zsum => k_is); (case zall => k_is); (case zsorted => k_is); (case zmin => k_is); (case zmax => k_is); (case zset => k_is); (case zisinstance => k_is); (case zbool => k_is); (case zstr => k_is); (case zrange => k_is); (case zenumerate => k_is); (case zzip => k_is); (case zdict => k_is)


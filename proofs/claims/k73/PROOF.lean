import PyProof.Rows.All
import Wide.All
import OpenK.AllK
import Wide.FinOn
import HandS.ForMost
import HandS.TupAny
import HandS.Deep
import HandS.IsInst
import HandS.DictComp
import HandS.Strs
import HandS.TupLen
import HandS.Style
import HandS.Zip
import HandS.Sort
import HandS.Iter
import KE.GoesEnum
import KE.GoesZip
import KE.GoesMore
import KE.GoesRev
import HandS.Conv
import HandS.Exc
import HandS.ExcOwn
import HandS.ExcInit
import HandS.ExcSuper
import HandS.ExcIs
import HandS.ExcField
import HandS.TryOnly
import HandS.Defaults
import HandS.Nested
import HandS.EndTab
import HandS.HeadHook4
import HandS.HeadWalk
import HandS.Head0
import HandS.Head1
import HandS.Head2
import HandS.HeadEnd
import KE.KDictKeyed
import KE.KDictWalk
import KE.DataMinMax
import PySem.Challenge.RW_heardseams_k73_whole_phrases_that_are_he
set_option Elab.async false
set_option linter.all false
set_option maxRecDepth 100000
set_option maxHeartbeats 4000000
section

namespace K73

/-! ## rows, books, what is said where two rows meet -/
abbrev R := List Int
structure Bk where
  s : Nat
  a : Nat
  b : Nat
  tbl : List ((R × R) × (R × R))
def look (t : List ((R × R) × (R × R))) (k : R × R) : Option (R × R) := (t.find? fun e => decide (e.1 = k)).map (·.2)
def Rw (s : Nat) (x : R) : Prop := ∀ v ∈ x, 0 ≤ v ∧ v < (s : Int)
theorem Rw.app {s : Nat} {x y : R} (h : Rw s x) (k : Rw s y) : Rw s (x ++ y) := fun v hv => (List.mem_append.mp hv).elim (h v) (k v)
theorem Rw.take {s : Nat} {x : R} (n : Nat) (h : Rw s x) : Rw s (x.take n) := fun v hv => h v (List.mem_of_mem_take hv)
theorem Rw.drop {s : Nat} {x : R} (n : Nat) (h : Rw s x) : Rw s (x.drop n) := fun v hv => h v (List.mem_of_mem_drop hv)

def rowsLen (s : Nat) : Nat → List R
  | 0 => [[]]
  | n + 1 => (rowsLen s n).flatMap fun r => (List.range s).map fun (v : Nat) => (v : Int) :: r
theorem mem_rowsLen {s : Nat} : ∀ {x : R} {n : Nat}, Rw s x → x.length = n → x ∈ rowsLen s n
  | [], n, _, e => by
    have : n = 0 := by simpa using e.symm
    subst this
    simp [rowsLen]
  | v :: x, 0, _, e => by simp at e
  | v :: x, n + 1, h, e => by
    have hx : x ∈ rowsLen s n := mem_rowsLen (fun u hu => h u (List.mem_cons_of_mem _ hu)) (by simpa using e)
    have hv := h v List.mem_cons_self
    refine List.mem_flatMap.mpr ⟨x, hx, List.mem_map.mpr ⟨v.toNat, List.mem_range.mpr (by omega), ?_⟩⟩
    rw [Int.toNat_of_nonneg hv.1]

namespace Bk
def f (B : Bk) (l r : R) : R × R := (look B.tbl (l, r)).getD (l, r)
def la (B : Bk) (x : R) : R := x.drop (x.length - B.a)
def fb (B : Bk) (x : R) : R := x.take B.b
def met (B : Bk) (x y : R) : R := (x.take (x.length - B.a) ++ (B.f (B.la x) (B.fb y)).1) ++ ((B.f (B.la x) (B.fb y)).2 ++ y.drop (B.fb y).length)
/-- a summary of a row -/
def sm (B : Bk) (x : R) : R × R := if x.length < B.a + B.b then (x, []) else (B.fb x, B.la x)
def univ (B : Bk) : List (R × R) := ((List.range (B.a + B.b)).flatMap fun n => (rowsLen B.s n).map fun r => (r, [])) ++ (rowsLen B.s B.b).flatMap fun x => (rowsLen B.s B.a).map fun y => (x, y)
end Bk
/-- a summary's own row -/
def st (p : R × R) : R := p.1 ++ p.2

structure Ent (s a b : Nat) (e : (R × R) × (R × R)) : Prop where
  l1 : 1 ≤ e.1.1.length
  la : e.1.1.length ≤ a
  r1 : 1 ≤ e.1.2.length
  rb : e.1.2.length ≤ b
  tl : e.2.1.length = e.1.1.length
  tr : e.2.2.length = e.1.2.length
  w1 : Rw s e.1.1
  w2 : Rw s e.1.2
  w3 : Rw s e.2.1
  w4 : Rw s e.2.2
structure Bk.Ok (B : Bk) : Prop where
  s1 : 1 ≤ B.s
  s8 : B.s ≤ 8
  a1 : 1 ≤ B.a
  a4 : B.a ≤ 4
  b1 : 1 ≤ B.b
  b4 : B.b ≤ 4
  few : B.tbl.length ≤ 4000
  nd : (B.tbl.map (·.1)).Nodup
  ent : ∀ e ∈ B.tbl, Ent B.s B.a B.b e
  uni : B.univ.length ≤ 400

section
variable {B : Bk}
theorem look_mem {t : List ((R × R) × (R × R))} {k v : R × R} (h : look t k = some v) : (k, v) ∈ t := by
  unfold look at h
  obtain ⟨e, he, hv⟩ := Option.map_eq_some_iff.mp h
  have h1 := List.find?_some he
  have h2 := List.mem_of_find?_eq_some he
  have h3 : e.1 = k := of_decide_eq_true h1
  have : e = (k, v) := by rw [← h3, ← hv]
  rw [← this]; exact h2
theorem f_len (o : B.Ok) (l r : R) : (B.f l r).1.length = l.length ∧ (B.f l r).2.length = r.length := by
  unfold Bk.f
  cases e : look B.tbl (l, r) with
  | none => exact ⟨rfl, rfl⟩
  | some v =>
    have h := o.ent _ (look_mem e)
    exact ⟨h.tl, h.tr⟩
theorem f_rw (o : B.Ok) {l r : R} (hl : Rw B.s l) (hr : Rw B.s r) : Rw B.s (B.f l r).1 ∧ Rw B.s (B.f l r).2 := by
  unfold Bk.f
  cases e : look B.tbl (l, r) with
  | none => exact ⟨hl, hr⟩
  | some v =>
    have h := o.ent _ (look_mem e)
    exact ⟨h.w3, h.w4⟩
theorem la_len (x : R) : (B.la x).length = min x.length B.a := by unfold Bk.la; rw [List.length_drop]; omega
theorem fb_len (x : R) : (B.fb x).length = min x.length B.b := by unfold Bk.fb; rw [List.length_take]; omega
theorem met_len (o : B.Ok) (x y : R) : (B.met x y).length = x.length + y.length := by
  unfold Bk.met
  have h := f_len o (B.la x) (B.fb y)
  have h1 := la_len (B := B) x
  have h2 := fb_len (B := B) y
  rw [List.length_append, List.length_append, List.length_append, List.length_take, List.length_drop, h.1, h.2]
  omega
theorem met_rw (o : B.Ok) {x y : R} (hx : Rw B.s x) (hy : Rw B.s y) : Rw B.s (B.met x y) := by
  have h := f_rw o (l := B.la x) (r := B.fb y) (hx.drop _) (hy.take _)
  exact ((hx.take _).app h.1).app (h.2.app (hy.drop _))
theorem la_app {P L : R} (h : B.a ≤ L.length) : B.la (P ++ L) = B.la L := by
  unfold Bk.la
  have e : (P ++ L).length - B.a = P.length + (L.length - B.a) := by rw [List.length_append]; omega
  rw [e, ← List.drop_drop, List.drop_left]
theorem fb_app {M Q : R} (h : B.b ≤ M.length) : B.fb (M ++ Q) = B.fb M := by
  unfold Bk.fb
  rw [List.take_append_of_le_length h]
theorem la_self {x : R} (h : x.length ≤ B.a) : B.la x = x := by
  unfold Bk.la
  have : x.length - B.a = 0 := by omega
  rw [this, List.drop_zero]
theorem fb_self {x : R} (h : x.length ≤ B.b) : B.fb x = x := by unfold Bk.fb; exact List.take_of_length_le h
theorem la_la (x : R) : B.la (B.la x) = B.la x := la_self (by rw [la_len]; omega)
theorem fb_fb (x : R) : B.fb (B.fb x) = B.fb x := fb_self (by rw [fb_len]; omega)
theorem split_la (x : R) : x = x.take (x.length - B.a) ++ B.la x := (List.take_append_drop _ _).symm
theorem split_fb (x : R) : x = B.fb x ++ x.drop B.b := (List.take_append_drop _ _).symm

theorem met_left {P L w : R} (h : B.a ≤ L.length) : B.met (P ++ L) w = P ++ B.met L w := by
  unfold Bk.met
  rw [la_app h]
  have e : (P ++ L).length - B.a = P.length + (L.length - B.a) := by rw [List.length_append]; omega
  rw [e, List.take_length_add_append]
  simp only [List.append_assoc]
theorem met_right {w M Q : R} (h : B.b ≤ M.length) : B.met w (M ++ Q) = B.met w M ++ Q := by
  unfold Bk.met
  rw [fb_app h]
  have e : (B.fb M).length ≤ M.length := by rw [fb_len]; omega
  rw [List.drop_append_of_le_length e]
  simp only [List.append_assoc]
theorem met_la (x w : R) : B.met x w = x.take (x.length - B.a) ++ B.met (B.la x) w := by
  by_cases h : B.a ≤ x.length
  · conv => lhs; rw [split_la (B := B) x]
    rw [met_left (by rw [la_len]; omega)]
  · have e : x.length - B.a = 0 := by omega
    rw [e, List.take_zero, List.nil_append, la_self (by omega)]
theorem met_fb (w z : R) : B.met w z = B.met w (B.fb z) ++ z.drop B.b := by
  by_cases h : B.b ≤ z.length
  · conv => lhs; rw [split_fb (B := B) z]
    rw [met_right (by rw [fb_len]; omega)]
  · rw [fb_self (by omega), List.drop_eq_nil_of_le (by omega), List.append_nil]

/-- brackets do not matter for three rows -/
def As (B : Bk) (x y z : R) : Prop := B.met x (B.met y z) = B.met (B.met x y) z
theorem as_long (o : B.Ok) {x y z : R} (h : B.a + B.b ≤ y.length) : As B x y z := by
  have hy : y = y.take B.b ++ y.drop B.b := (List.take_append_drop _ _).symm
  have l1 : (y.take B.b).length = B.b := by rw [List.length_take]; omega
  have l2 : B.a ≤ (y.drop B.b).length := by rw [List.length_drop]; omega
  unfold As
  rw [hy, met_left l2, met_right (Nat.le_of_eq l1.symm), met_right (Nat.le_of_eq l1.symm), met_left l2]
theorem met3_a (o : B.Ok) {x y z : R} : B.met x (B.met y z) = x.take (x.length - B.a) ++ B.met (B.la x) (B.met y (B.fb z)) ++ z.drop B.b := by
  rw [met_la x, met_fb y z]
  by_cases h : B.b ≤ z.length
  · rw [met_right (by rw [met_len o, fb_len]; omega), List.append_assoc]
  · rw [List.drop_eq_nil_of_le (by omega), List.append_nil, List.append_nil]
theorem met3_b (o : B.Ok) {x y z : R} : B.met (B.met x y) z = x.take (x.length - B.a) ++ B.met (B.met (B.la x) y) (B.fb z) ++ z.drop B.b := by
  rw [met_fb _ z, met_la x y]
  by_cases h : B.a ≤ x.length
  · rw [met_left (by rw [met_len o, la_len]; omega)]
  · have e : x.length - B.a = 0 := by omega
    rw [e, List.take_zero, List.nil_append, List.nil_append]
theorem as_win (o : B.Ok) {x y z : R} : As B x y z ↔ As B (B.la x) y (B.fb z) := by
  unfold As
  rw [met3_a o, met3_b o]
  constructor
  · intro h
    exact List.append_cancel_left (List.append_cancel_right h)
  · intro h
    rw [h]

/-! ## summaries -/
theorem sm_short {x : R} (h : x.length < B.a + B.b) : B.sm x = (x, []) := if_pos h
theorem sm_long {x : R} (h : ¬ x.length < B.a + B.b) : B.sm x = (B.fb x, B.la x) := if_neg h
/-- rows that no seam tells apart -/
def Sim (B : Bk) (x x' : R) : Prop := x = x' ∨ (B.a + B.b ≤ x.length ∧ B.a + B.b ≤ x'.length ∧ B.fb x = B.fb x' ∧ B.la x = B.la x')
theorem Sim.sm {x x' : R} (h : Sim B x x') : B.sm x = B.sm x' := by
  rcases h with rfl | ⟨h1, h2, h3, h4⟩
  · rfl
  · rw [sm_long (by omega), sm_long (by omega), h3, h4]
theorem sim_st (x : R) : Sim B (st (B.sm x)) x := by
  by_cases h : x.length < B.a + B.b
  · rw [sm_short h]
    exact .inl (List.append_nil x)
  · rw [sm_long h]
    have lf := fb_len (B := B) x
    have ll := la_len (B := B) x
    refine .inr ⟨?_, by omega, ?_, ?_⟩
    · show _ ≤ (B.fb x ++ B.la x).length
      rw [List.length_append]; omega
    · show B.fb (B.fb x ++ B.la x) = _
      rw [fb_app (by omega), fb_fb]
    · show B.la (B.fb x ++ B.la x) = _
      rw [la_app (by omega), la_la]
theorem Sim.la {x x' : R} (h : Sim B x x') : B.la x = B.la x' := by
  rcases h with rfl | ⟨_, _, _, h⟩
  · rfl
  · exact h
theorem Sim.fb {x x' : R} (h : Sim B x x') : B.fb x = B.fb x' := by
  rcases h with rfl | ⟨_, _, h, _⟩
  · rfl
  · exact h
theorem fb_met (o : B.Ok) {x y : R} (h : B.a + B.b ≤ x.length) : B.fb (B.met x y) = B.fb x := by
  rw [met_la x y, fb_app (by rw [List.length_take]; omega)]
  unfold Bk.fb
  rw [List.take_take]
  congr 1
  omega
theorem la_met (o : B.Ok) {x y : R} (h : B.a + B.b ≤ y.length) : B.la (B.met x y) = B.la y := by
  have hd : B.a ≤ (y.drop B.b).length := by rw [List.length_drop]; omega
  rw [met_fb x y, la_app hd]
  conv => rhs; rw [split_fb (B := B) y]
  rw [la_app hd]
theorem Sim.left (o : B.Ok) {x x' : R} (y : R) (h : Sim B x x') : Sim B (B.met x y) (B.met x' y) := by
  rcases h with rfl | ⟨h1, h2, h3, h4⟩
  · exact .inl rfl
  · refine .inr ⟨by rw [met_len o]; omega, by rw [met_len o]; omega, by rw [fb_met o h1, fb_met o h2, h3], ?_⟩
    have e : ∀ x : R, B.a + B.b ≤ x.length → B.la (B.met x y) = B.la (B.met (B.la x) y) := fun x hx => by
      rw [met_la x y, la_app (by rw [met_len o, la_len]; omega)]
    rw [e x h1, e x' h2, h4]
theorem Sim.right (o : B.Ok) (x : R) {y y' : R} (h : Sim B y y') : Sim B (B.met x y) (B.met x y') := by
  rcases h with rfl | ⟨h1, h2, h3, h4⟩
  · exact .inl rfl
  · refine .inr ⟨by rw [met_len o]; omega, by rw [met_len o]; omega, ?_, by rw [la_met o h1, la_met o h2, h4]⟩
    have e : ∀ y : R, B.a + B.b ≤ y.length → B.fb (B.met x y) = B.fb (B.met x (B.fb y)) := fun y hy => by
      rw [met_fb x y, fb_app (by rw [met_len o, fb_len]; omega)]
    rw [e y h1, e y' h2, h3]
theorem Sim.trans {x y z : R} (h : Sim B x y) (k : Sim B y z) : Sim B x z := by
  rcases h with rfl | ⟨h1, h2, h3, h4⟩
  · exact k
  · rcases k with rfl | ⟨k1, k2, k3, k4⟩
    · exact .inr ⟨h1, h2, h3, h4⟩
    · exact .inr ⟨h1, k2, h3.trans k3, h4.trans k4⟩
/-- what a seam makes of summaries -/
def Bk.jn (B : Bk) (p q : R × R) : R × R := B.sm (B.met (st p) (st q))
theorem sm_met (o : B.Ok) (x y : R) : B.jn (B.sm x) (B.sm y) = B.sm (B.met x y) :=
  Sim.sm (((sim_st x).left o _).trans ((sim_st y).right o x))
theorem sm_univ (o : B.Ok) {x : R} (h : Rw B.s x) : B.sm x ∈ B.univ := by
  by_cases c : x.length < B.a + B.b
  · rw [sm_short c]
    exact List.mem_append_left _ (List.mem_flatMap.mpr ⟨x.length, List.mem_range.mpr c, List.mem_map.mpr ⟨x, mem_rowsLen h rfl, rfl⟩⟩)
  · rw [sm_long c]
    have lf := fb_len (B := B) x
    have ll := la_len (B := B) x
    exact List.mem_append_right _ (List.mem_flatMap.mpr ⟨B.fb x, mem_rowsLen (h.take _) (by omega), List.mem_map.mpr ⟨B.la x, mem_rowsLen (h.drop _) (by omega), rfl⟩⟩)
theorem sm_rw {x : R} (h : Rw B.s x) : Rw B.s (B.sm x).1 ∧ Rw B.s (B.sm x).2 := by
  by_cases c : x.length < B.a + B.b
  · rw [sm_short c]; exact ⟨h, fun v hv => nomatch hv⟩
  · rw [sm_long c]; exact ⟨h.take _, h.drop _⟩

/-! ## rows that are said -/
inductive Said (B : Bk) (W : R → Prop) : R → Prop
  | word {w : R} (h : W w) : Said B W w
  | join {x y : R} (h : Said B W x) (k : Said B W y) : Said B W (B.met x y)
theorem said_in (o : B.Ok) {W : R → Prop} {F : List (R × R)} (h1 : ∀ w, W w → B.sm w ∈ F) (h2 : ∀ p ∈ F, ∀ q ∈ F, B.jn p q ∈ F) {x : R} (h : Said B W x) : B.sm x ∈ F := by
  induction h with
  | word h => exact h1 _ h
  | join h k ih ik => rw [← sm_met o]; exact h2 _ ih _ ik
theorem as_said (o : B.Ok) {W : R → Prop} {F : List (R × R)} (h1 : ∀ w, W w → B.sm w ∈ F) (h2 : ∀ p ∈ F, ∀ q ∈ F, B.jn p q ∈ F)
    (h3 : ∀ p ∈ F, ∀ m ∈ F, m.2.length = 0 → ∀ q ∈ F, As B (B.la (st p)) m.1 (B.fb (st q))) {x y z : R} (hx : Said B W x) (hy : Said B W y) (hz : Said B W z) : As B x y z := by
  by_cases c : y.length < B.a + B.b
  · have k := h3 _ (said_in o h1 h2 hx) _ (said_in o h1 h2 hy) (by rw [sm_short c]; rfl) _ (said_in o h1 h2 hz)
    rw [(sim_st x).la, (sim_st z).fb, sm_short c] at k
    exact (as_win o).mpr k
  · exact as_long o (by omega)
/-- three rows with these summaries, the middle one short -/
theorem nas_of (o : B.Ok) {p m q : R × R} (hm : m.2.length = 0) (h : ¬ As B (B.la (st p)) m.1 (B.fb (st q))) {x y z : R} (hx : B.sm x = p) (hy : B.sm y = m) (hz : B.sm z = q) : ¬ As B x y z := by
  intro k
  apply h
  subst hx hy hz
  have c : y.length < B.a + B.b := by
    by_cases c : y.length < B.a + B.b
    · exact c
    · rw [sm_long c] at hm
      have ll := la_len (B := B) y
      have := o.a1
      simp only at hm
      omega
  rw [(sim_st x).la, (sim_st z).fb, sm_short c]
  exact (as_win o).mp k
end

/-! ## trees of joinings -/
inductive T where
  | lf
  | nd (l r : T)
  deriving DecidableEq
/-- how many seams -/
def T.n : T → Nat
  | lf => 0
  | nd l r => l.n + r.n + 1
/-- the depths of the seams -/
def T.dep : T → Int → List Int
  | lf, _ => []
  | nd l r, d => l.dep (d + 1) ++ d :: r.dep (d + 1)
theorem T.dep_len : ∀ (t : T) (d : Int), (t.dep d).length = t.n
  | lf, _ => rfl
  | nd l r, d => by
    show (l.dep (d + 1) ++ d :: r.dep (d + 1)).length = l.n + r.n + 1
    rw [List.length_append, List.length_cons, T.dep_len l, T.dep_len r]; omega
/-- from place i on, g tells the depths of t -/
def IsT (g : Nat → Int) : Nat → Int → T → Prop
  | _, _, .lf => True
  | i, d, .nd l r => g (i + l.n) = d ∧ IsT g i (d + 1) l ∧ IsT g (i + l.n + 1) (d + 1) r
theorem isT_ge {g : Nat → Int} : ∀ {t : T} {i : Nat} {d : Int}, IsT g i d t → ∀ k, i ≤ k → k < i + t.n → d ≤ g k
  | .lf, i, d, _, k, h1, h2 => by simp only [T.n] at h2; omega
  | .nd l r, i, d, h, k, h1, h2 => by
    obtain ⟨e, hl, hr⟩ := h
    simp only [T.n] at h2
    by_cases c1 : k < i + l.n
    · have := isT_ge hl k h1 c1; omega
    · by_cases c2 : k = i + l.n
      · rw [c2, e]; exact Int.le_refl _
      · have := isT_ge hr k (by omega) (by omega); omega
theorem isT_congr {g g' : Nat → Int} : ∀ {t : T} {i : Nat} {d : Int}, (∀ k, i ≤ k → k < i + t.n → g k = g' k) → IsT g i d t → IsT g' i d t
  | .lf, _, _, _, _ => trivial
  | .nd l r, i, d, hc, h => by
    obtain ⟨e, hl, hr⟩ := h
    simp only [T.n] at hc
    exact ⟨by rw [← hc _ (by omega) (by omega)]; exact e, isT_congr (fun k h1 h2 => hc k h1 (by omega)) hl, isT_congr (fun k h1 h2 => hc k (by omega) (by omega)) hr⟩
theorem isT_shift {g g' : Nat → Int} {m : Nat} : ∀ {t : T} {i : Nat} {d : Int}, (∀ k, i ≤ k → k < i + t.n → g k = g' (k + m)) → IsT g i d t → IsT g' (i + m) d t
  | .lf, _, _, _, _ => trivial
  | .nd l r, i, d, hc, h => by
    obtain ⟨e, hl, hr⟩ := h
    simp only [T.n] at hc
    refine ⟨?_, isT_shift (fun k h1 h2 => hc k h1 (by omega)) hl, ?_⟩
    · have := hc (i + l.n) (by omega) (by omega)
      rw [show i + m + l.n = i + l.n + m by omega, ← this]; exact e
    · have := isT_shift (m := m) (fun k h1 h2 => hc k (by omega) (by omega)) hr
      rw [show i + m + l.n + 1 = i + l.n + 1 + m by omega]; exact this
/-- a list of depths, read -/
theorem isT_dep : ∀ (t : T) (d : Int), IsT (fun k => (t.dep d).getD k 0) 0 d t
  | .lf, _ => trivial
  | .nd l r, d => by
    have hl := isT_dep l (d + 1)
    have hr := isT_dep r (d + 1)
    have ll := T.dep_len l (d + 1)
    refine ⟨?_, isT_congr (fun k _ h2 => ?_) hl, ?_⟩
    · show (l.dep (d + 1) ++ d :: r.dep (d + 1)).getD (0 + l.n) 0 = d
      rw [List.getD_eq_getElem?_getD, List.getElem?_append_right (by omega)]
      simp [ll]
    · show (l.dep (d + 1)).getD k 0 = (l.dep (d + 1) ++ d :: r.dep (d + 1)).getD k 0
      rw [List.getD_eq_getElem?_getD, List.getD_eq_getElem?_getD, List.getElem?_append_left (by omega)]
    · have := isT_shift (m := l.n + 1) (g' := fun k => ((T.nd l r).dep d).getD k 0) (fun k _ h2 => ?_) hr
      · rw [show 0 + l.n + 1 = 0 + (l.n + 1) by omega]; exact this
      · show (r.dep (d + 1)).getD k 0 = (l.dep (d + 1) ++ d :: r.dep (d + 1)).getD (k + (l.n + 1)) 0
        rw [List.getD_eq_getElem?_getD, List.getD_eq_getElem?_getD, List.getElem?_append_right (by omega), ll, show k + (l.n + 1) - l.n = k + 1 by omega, List.getElem?_cons_succ]
theorem dep_of_isT {g : Nat → Int} : ∀ {t : T} {i : Nat} {d : Int}, IsT g i d t → t.dep d = (List.range t.n).map fun k => g (i + k)
  | .lf, _, _, _ => rfl
  | .nd l r, i, d, h => by
    obtain ⟨e, hl, hr⟩ := h
    show l.dep (d + 1) ++ d :: r.dep (d + 1) = (List.range (l.n + r.n + 1)).map fun k => g (i + k)
    rw [dep_of_isT hl, dep_of_isT hr, show l.n + r.n + 1 = l.n + (1 + r.n) by omega, List.range_add, List.map_append, List.map_map, Nat.add_comm 1 r.n, List.range_succ_eq_map, List.map_cons, List.map_map]
    congr 1
    show d :: _ = _
    congr 1
    · show d = g (i + (l.n + 0)); rw [← e]; rfl
    · refine List.map_congr_left fun k _ => ?_
      show g (i + l.n + 1 + k) = g (i + (l.n + (k + 1)))
      congr 1; omega

/-! ## what is said of a tree -/
def say (B : Bk) (W : Nat → R) : Nat → T → R
  | i, .lf => W i
  | i, .nd l r => B.met (say B W i l) (say B W (i + l.n + 1) r)
theorem say_congr {B : Bk} {W W' : Nat → R} {m : Nat} : ∀ {t : T} {i : Nat}, (∀ k, i ≤ k → k ≤ i + t.n → W k = W' (k + m)) → say B W i t = say B W' (i + m) t
  | .lf, i, h => h i (Nat.le_refl _) (Nat.le_add_right _ _)
  | .nd l r, i, h => by
    simp only [T.n] at h
    have h1 := say_congr (B := B) (m := m) (t := l) (i := i) fun k a b => h k a (by omega)
    have h2 := say_congr (B := B) (m := m) (t := r) (i := i + l.n + 1) fun k a b => h k (by omega) (by omega)
    show B.met (say B W i l) (say B W (i + l.n + 1) r) = B.met (say B W' (i + m) l) (say B W' (i + m + l.n + 1) r)
    rw [h1, h2, show i + l.n + 1 + m = i + m + l.n + 1 by omega]
theorem say_said {B : Bk} {P : R → Prop} {W : Nat → R} : ∀ {t : T} {i : Nat}, (∀ k, i ≤ k → k ≤ i + t.n → P (W k)) → Said B P (say B W i t)
  | .lf, i, h => .word (h i (Nat.le_refl _) (Nat.le_add_right _ _))
  | .nd l r, i, h => by
    simp only [T.n] at h
    exact .join (say_said fun k a b => h k a (by omega)) (say_said fun k a b => h k (by omega) (by omega))
theorem say_rw {B : Bk} (o : B.Ok) {W : Nat → R} : ∀ {t : T} {i : Nat}, (∀ k, i ≤ k → k ≤ i + t.n → Rw B.s (W k)) → Rw B.s (say B W i t)
  | .lf, i, h => h i (Nat.le_refl _) (Nat.le_add_right _ _)
  | .nd l r, i, h => by
    simp only [T.n] at h
    exact met_rw o (say_rw o fun k a b => h k a (by omega)) (say_rw o fun k a b => h k (by omega) (by omega))
def lin (B : Bk) (W : Nat → R) : Nat → Nat → R
  | i, 0 => W i
  | i, n + 1 => B.met (W i) (lin B W (i + 1) n)
theorem lin_said {B : Bk} {P : R → Prop} {W : Nat → R} : ∀ {n i : Nat}, (∀ k, i ≤ k → k ≤ i + n → P (W k)) → Said B P (lin B W i n)
  | 0, i, h => .word (h i (Nat.le_refl _) (Nat.le_add_right _ _))
  | n + 1, i, h => .join (.word (h i (Nat.le_refl _) (Nat.le_add_right _ _))) (lin_said fun k a b => h k (by omega) (by omega))
theorem lin_met {B : Bk} {P : R → Prop} {W : Nat → R} (as : ∀ x y z, Said B P x → Said B P y → Said B P z → As B x y z) : ∀ {m n i : Nat}, (∀ k, i ≤ k → k ≤ i + m + n + 1 → P (W k)) → B.met (lin B W i m) (lin B W (i + m + 1) n) = lin B W i (m + n + 1)
  | 0, n, i, _ => by rw [Nat.zero_add]; rfl
  | m + 1, n, i, h => by
    have ih := lin_met as (m := m) (n := n) (i := i + 1) fun k a b => h k (by omega) (by omega)
    show B.met (B.met (W i) (lin B W (i + 1) m)) (lin B W (i + (m + 1) + 1) n) = lin B W i (m + 1 + n + 1)
    have e : i + (m + 1) + 1 = i + 1 + m + 1 := by omega
    rw [e, ← as _ _ _ (.word (h i (Nat.le_refl _) (by omega))) (lin_said fun k a b => h k (by omega) (by omega)) (lin_said fun k a b => h k (by omega) (by omega)), ih]
    rw [show m + 1 + n + 1 = (m + n + 1) + 1 by omega]
    rfl
theorem say_lin {B : Bk} {P : R → Prop} {W : Nat → R} (as : ∀ x y z, Said B P x → Said B P y → Said B P z → As B x y z) : ∀ {t : T} {i : Nat}, (∀ k, i ≤ k → k ≤ i + t.n → P (W k)) → say B W i t = lin B W i t.n
  | .lf, _, _ => rfl
  | .nd l r, i, h => by
    simp only [T.n] at h
    show B.met (say B W i l) (say B W (i + l.n + 1) r) = lin B W i (l.n + r.n + 1)
    rw [say_lin as fun k a b => h k a (by omega), say_lin as fun k a b => h k (by omega) (by omega), lin_met as fun k a b => h k a (by omega)]
/-- all trees of as many words are said alike -/
theorem say_alike {B : Bk} {P : R → Prop} {W : Nat → R} (as : ∀ x y z, Said B P x → Said B P y → Said B P z → As B x y z) {t u : T} (e : t.n = u.n) (h : ∀ k, k ≤ t.n → P (W k)) : say B W 0 t = say B W 0 u := by
  rw [say_lin as fun k _ b => h k (by omega), say_lin as fun k _ b => h k (by omega), e]
end K73
end

section

namespace K73

/-! ## the joinings of a tree: first and last word of each seam's phrase -/
def T.fst : T → Nat → Nat → Nat
  | lf, i, _ => i
  | nd l r, i, k => if k < i + l.n then l.fst i k else if k = i + l.n then i else r.fst (i + l.n + 1) k
def T.lst : T → Nat → Nat → Nat
  | lf, i, _ => i
  | nd l r, i, k => if k < i + l.n then l.lst i k else if k = i + l.n then i + l.n + r.n + 1 else r.lst (i + l.n + 1) k
theorem fst_ge : ∀ (t : T) (i k : Nat), i ≤ k → k < i + t.n → i ≤ t.fst i k
  | .lf, i, k, _, _ => Nat.le_refl _
  | .nd l r, i, k, h1, h2 => by
    simp only [T.n] at h2
    unfold T.fst
    by_cases c : k < i + l.n
    · rw [if_pos c]; exact fst_ge l i k h1 c
    · rw [if_neg c]
      by_cases e : k = i + l.n
      · rw [if_pos e]; exact Nat.le_refl _
      · rw [if_neg e]
        have := fst_ge r (i + l.n + 1) k (by omega) (by omega)
        omega
theorem lst_le : ∀ (t : T) (i k : Nat), i ≤ k → k < i + t.n → t.lst i k ≤ i + t.n
  | .lf, i, k, _, _ => Nat.le_add_right _ _
  | .nd l r, i, k, h1, h2 => by
    simp only [T.n] at h2
    unfold T.lst
    simp only [T.n]
    by_cases c : k < i + l.n
    · rw [if_pos c]
      have := lst_le l i k h1 c
      omega
    · rw [if_neg c]
      by_cases e : k = i + l.n
      · rw [if_pos e]; omega
      · rw [if_neg e]
        have := lst_le r (i + l.n + 1) k (by omega) (by omega)
        omega
theorem fst_le : ∀ (t : T) (i k : Nat), i ≤ k → k < i + t.n → t.fst i k ≤ k
  | .lf, i, k, h, _ => h
  | .nd l r, i, k, h1, h2 => by
    simp only [T.n] at h2
    unfold T.fst
    by_cases c : k < i + l.n
    · rw [if_pos c]; exact fst_le l i k h1 c
    · rw [if_neg c]
      by_cases e : k = i + l.n
      · rw [if_pos e]; exact h1
      · rw [if_neg e]; exact fst_le r (i + l.n + 1) k (by omega) (by omega)
theorem lst_ge : ∀ (t : T) (i k : Nat), i ≤ k → k < i + t.n → k < t.lst i k
  | .lf, i, k, _, h => by simp only [T.n] at h; omega
  | .nd l r, i, k, h1, h2 => by
    simp only [T.n] at h2
    unfold T.lst
    by_cases c : k < i + l.n
    · rw [if_pos c]; exact lst_ge l i k h1 c
    · rw [if_neg c]
      by_cases e : k = i + l.n
      · rw [if_pos e]; omega
      · rw [if_neg e]; exact lst_ge r (i + l.n + 1) k (by omega) (by omega)
theorem root_only (l r : T) (i k : Nat) (h1 : i ≤ k) (h2 : k < i + (T.nd l r).n) : ((T.nd l r).fst i k = i ∧ (T.nd l r).lst i k = i + (T.nd l r).n) ↔ k = i + l.n := by
  simp only [T.n] at h2 ⊢
  unfold T.fst T.lst
  by_cases c : k < i + l.n
  · rw [if_pos c, if_pos c]
    have := lst_le l i k h1 c
    constructor
    · intro h; omega
    · intro h; omega
  · rw [if_neg c, if_neg c]
    by_cases e : k = i + l.n
    · rw [if_pos e, if_pos e]
      exact ⟨fun _ => e, fun _ => ⟨rfl, by omega⟩⟩
    · rw [if_neg e, if_neg e]
      have := fst_ge r (i + l.n + 1) k (by omega) (by omega)
      constructor
      · intro h; omega
      · intro h; exact absurd h e
/-- t stands within u from place i on -/
def Sub (u : T) (i : Nat) (t : T) : Prop := ∀ k, i ≤ k → k < i + t.n → u.fst 0 k = t.fst i k ∧ u.lst 0 k = t.lst i k
theorem sub_self (u : T) : Sub u 0 u := fun _ _ _ => ⟨rfl, rfl⟩
theorem Sub.left {u l r : T} {i : Nat} (h : Sub u i (.nd l r)) : Sub u i l := fun k a b => by
  have q := h k a (by simp only [T.n]; omega)
  rw [show (T.nd l r).fst i k = l.fst i k from if_pos b, show (T.nd l r).lst i k = l.lst i k from if_pos b] at q
  exact q
theorem Sub.right {u l r : T} {i : Nat} (h : Sub u i (.nd l r)) : Sub u (i + l.n + 1) r := fun k a b => by
  have q := h k (by omega) (by simp only [T.n]; omega)
  rw [show (T.nd l r).fst i k = r.fst (i + l.n + 1) k by
    show (if k < i + l.n then l.fst i k else if k = i + l.n then i else r.fst (i + l.n + 1) k) = _
    rw [if_neg (by omega), if_neg (by omega)],
    show (T.nd l r).lst i k = r.lst (i + l.n + 1) k by
    show (if k < i + l.n then l.lst i k else if k = i + l.n then i + l.n + r.n + 1 else r.lst (i + l.n + 1) k) = _
    rw [if_neg (by omega), if_neg (by omega)]] at q
  exact q
theorem Sub.root {u l r : T} {i : Nat} (h : Sub u i (.nd l r)) : u.fst 0 (i + l.n) = i ∧ u.lst 0 (i + l.n) = i + (T.nd l r).n := by
  have q := h (i + l.n) (by omega) (by simp only [T.n]; omega)
  have z := (root_only l r i (i + l.n) (by omega) (by simp only [T.n]; omega)).mpr rfl
  rw [q.1, q.2]
  exact z

/-! ## the order of the joinings -/
def T.ord : T → Nat → List Nat
  | lf, _ => []
  | nd l r, i => l.ord i ++ r.ord (i + l.n + 1) ++ [i + l.n]
def T.pre : T → Nat → List Nat
  | lf, _ => []
  | nd l r, i => (i + l.n) :: (r.pre (i + l.n + 1) ++ l.pre i)
theorem pre_rev : ∀ (t : T) (i : Nat), (t.pre i).reverse = t.ord i
  | .lf, _ => rfl
  | .nd l r, i => by
    show ((i + l.n) :: (r.pre (i + l.n + 1) ++ l.pre i)).reverse = l.ord i ++ r.ord (i + l.n + 1) ++ [i + l.n]
    rw [List.reverse_cons, List.reverse_append, pre_rev l, pre_rev r]
theorem ord_mem : ∀ {t : T} {i k : Nat}, k ∈ t.ord i → i ≤ k ∧ k < i + t.n
  | .lf, _, _, h => by cases h
  | .nd l r, i, k, h => by
    simp only [T.n]
    rcases List.mem_append.mp h with h | h
    · rcases List.mem_append.mp h with h | h
      · have := ord_mem h; omega
      · have := ord_mem h; omega
    · have : k = i + l.n := by simpa using h
      omega
theorem pre_mem {t : T} {i k : Nat} (h : k ∈ t.pre i) : i ≤ k ∧ k < i + t.n := ord_mem (t := t) (by rw [← pre_rev]; exact List.mem_reverse.mpr h)
theorem pre_len : ∀ (t : T) (i : Nat), (t.pre i).length = t.n
  | .lf, _ => rfl
  | .nd l r, i => by
    show ((i + l.n) :: (r.pre (i + l.n + 1) ++ l.pre i)).length = l.n + r.n + 1
    rw [List.length_cons, List.length_append, pre_len l, pre_len r]; omega

/-! ## the joinings done in one row -/
def joinAt (B : Bk) (S F L : Nat → Nat) (row : R) (k : Nat) : R :=
  row.take (max (S (F k)) (S (k + 1) - B.a)) ++ ((B.f ((row.take (S (k + 1))).drop (max (S (F k)) (S (k + 1) - B.a))) ((row.take (min (S (L k + 1)) (S (k + 1) + B.b))).drop (S (k + 1)))).1 ++
    (B.f ((row.take (S (k + 1))).drop (max (S (F k)) (S (k + 1) - B.a))) ((row.take (min (S (L k + 1)) (S (k + 1) + B.b))).drop (S (k + 1)))).2) ++ row.drop (min (S (L k + 1)) (S (k + 1) + B.b))
theorem join_seg {B : Bk} {S F L : Nat → Nat} {k : Nat} {A X Y C : R} (h1 : S (F k) = A.length) (h2 : S (k + 1) = A.length + X.length) (h3 : S (L k + 1) = A.length + X.length + Y.length) :
    joinAt B S F L (A ++ X ++ Y ++ C) k = A ++ B.met X Y ++ C := by
  have b : max (S (F k)) (S (k + 1) - B.a) = A.length + (X.length - B.a) := by omega
  have e : min (S (L k + 1)) (S (k + 1) + B.b) = A.length + X.length + min Y.length B.b := by omega
  unfold joinAt
  rw [b, e, h2]
  have g1 : (A ++ X ++ Y ++ C).take (A.length + (X.length - B.a)) = A ++ X.take (X.length - B.a) := by
    rw [List.append_assoc, List.append_assoc, List.take_length_add_append, List.take_append_of_le_length (by omega)]
  have g2 : ((A ++ X ++ Y ++ C).take (A.length + X.length)).drop (A.length + (X.length - B.a)) = B.la X := by
    rw [show A.length + X.length = (A ++ X).length by simp, List.append_assoc (A ++ X), List.take_left, ← List.drop_drop, List.drop_left]
    rfl
  have g3 : ((A ++ X ++ Y ++ C).take (A.length + X.length + min Y.length B.b)).drop (A.length + X.length) = B.fb Y := by
    rw [show A.length + X.length = (A ++ X).length by simp, List.append_assoc (A ++ X), List.take_length_add_append, List.drop_left, List.take_append_of_le_length (by omega)]
    unfold Bk.fb
    by_cases c : Y.length ≤ B.b
    · rw [Nat.min_eq_left c, List.take_length, List.take_of_length_le c]
    · rw [Nat.min_eq_right (by omega)]
  have g4 : (A ++ X ++ Y ++ C).drop (A.length + X.length + min Y.length B.b) = Y.drop (B.fb Y).length ++ C := by
    rw [fb_len, show A.length + X.length = (A ++ X).length by simp, List.append_assoc (A ++ X), ← List.drop_drop, List.drop_left, List.drop_append_of_le_length (by omega)]
  rw [g1, g2, g3, g4]
  unfold Bk.met
  simp only [List.append_assoc]
def cat (W : Nat → R) : Nat → Nat → R
  | _, 0 => []
  | i, m + 1 => W i ++ cat W (i + 1) m
theorem cat_add (W : Nat → R) : ∀ (m n i : Nat), cat W i (m + n) = cat W i m ++ cat W (i + m) n
  | 0, n, i => by rw [Nat.zero_add]; rfl
  | m + 1, n, i => by
    rw [show m + 1 + n = (m + n) + 1 by omega]
    show W i ++ cat W (i + 1) (m + n) = W i ++ cat W (i + 1) m ++ cat W (i + (m + 1)) n
    rw [cat_add W m n (i + 1), List.append_assoc, show i + (m + 1) = i + 1 + m by omega]
theorem say_len {B : Bk} (o : B.Ok) {W : Nat → R} : ∀ (t : T) (i : Nat), (say B W i t).length = (cat W i (t.n + 1)).length
  | .lf, i => by
    show (W i).length = (W i ++ []).length
    rw [List.append_nil]
  | .nd l r, i => by
    show (B.met (say B W i l) (say B W (i + l.n + 1) r)).length = (cat W i (l.n + r.n + 1 + 1)).length
    rw [met_len o, say_len o l, say_len o r, show l.n + r.n + 1 + 1 = (l.n + 1) + (r.n + 1) by omega, cat_add W (l.n + 1) (r.n + 1) i, List.length_append]
    rfl
/-- the places where words begin -/
def bgn (W : Nat → R) (k : Nat) : Nat := (cat W 0 k).length
theorem bgn_add (W : Nat → R) (i m : Nat) : bgn W (i + m) = bgn W i + (cat W i m).length := by
  unfold bgn
  rw [cat_add, List.length_append, Nat.zero_add]
theorem run_ord {B : Bk} (o : B.Ok) {W : Nat → R} {F L : Nat → Nat} : ∀ (t : T) (i : Nat) (A C : R), (∀ k, i ≤ k → k < i + t.n → F k = t.fst i k ∧ L k = t.lst i k) → A.length = bgn W i →
    (t.ord i).foldl (joinAt B (bgn W) F L) (A ++ cat W i (t.n + 1) ++ C) = A ++ say B W i t ++ C
  | .lf, i, A, C, _, _ => by
    show A ++ (W i ++ []) ++ C = A ++ W i ++ C
    rw [List.append_nil]
  | .nd l r, i, A, C, hF, hA => by
    have hs : Sub (.nd l r) 0 (.nd l r) := sub_self _
    have hl : ∀ k, i ≤ k → k < i + l.n → F k = l.fst i k ∧ L k = l.lst i k := fun k a b => by
      have q := hF k a (by simp only [T.n]; omega)
      rw [show (T.nd l r).fst i k = l.fst i k from if_pos b, show (T.nd l r).lst i k = l.lst i k from if_pos b] at q
      exact q
    have hr : ∀ k, i + l.n + 1 ≤ k → k < i + l.n + 1 + r.n → F k = r.fst (i + l.n + 1) k ∧ L k = r.lst (i + l.n + 1) k := fun k a b => by
      have q := hF k (by omega) (by simp only [T.n]; omega)
      rw [show (T.nd l r).fst i k = r.fst (i + l.n + 1) k by
        show (if k < i + l.n then l.fst i k else if k = i + l.n then i else r.fst (i + l.n + 1) k) = _
        rw [if_neg (by omega), if_neg (by omega)],
        show (T.nd l r).lst i k = r.lst (i + l.n + 1) k by
        show (if k < i + l.n then l.lst i k else if k = i + l.n then i + l.n + r.n + 1 else r.lst (i + l.n + 1) k) = _
        rw [if_neg (by omega), if_neg (by omega)]] at q
      exact q
    have h0 := hF (i + l.n) (by omega) (by simp only [T.n]; omega)
    have z := (root_only l r i (i + l.n) (by omega) (by simp only [T.n]; omega)).mpr rfl
    rw [z.1, z.2] at h0
    simp only [T.n] at h0
    show (l.ord i ++ r.ord (i + l.n + 1) ++ [i + l.n]).foldl (joinAt B (bgn W) F L) (A ++ cat W i (l.n + r.n + 1 + 1) ++ C) = A ++ B.met (say B W i l) (say B W (i + l.n + 1) r) ++ C
    rw [List.foldl_append, List.foldl_append, show l.n + r.n + 1 + 1 = (l.n + 1) + (r.n + 1) by omega, cat_add W (l.n + 1) (r.n + 1) i]
    have e1 : A ++ (cat W i (l.n + 1) ++ cat W (i + (l.n + 1)) (r.n + 1)) ++ C = A ++ cat W i (l.n + 1) ++ (cat W (i + (l.n + 1)) (r.n + 1) ++ C) := by simp only [List.append_assoc]
    rw [e1, run_ord o l i A _ hl hA]
    have e2 : A ++ say B W i l ++ (cat W (i + (l.n + 1)) (r.n + 1) ++ C) = (A ++ say B W i l) ++ cat W (i + l.n + 1) (r.n + 1) ++ C := by simp only [List.append_assoc, Nat.add_assoc]
    have hA2 : (A ++ say B W i l).length = bgn W (i + l.n + 1) := by
      rw [List.length_append, say_len o l, hA, Nat.add_assoc i l.n 1, bgn_add]
    rw [e2, run_ord o r (i + l.n + 1) _ C hr hA2]
    show joinAt B (bgn W) F L (A ++ say B W i l ++ say B W (i + l.n + 1) r ++ C) (i + l.n) = _
    refine join_seg (by rw [h0.1, hA]) ?_ ?_
    · rw [say_len o l, ← hA2, List.length_append, say_len o l]
    · rw [h0.2, say_len o l, say_len o r, show i + (l.n + r.n + 1) + 1 = i + l.n + 1 + (r.n + 1) by omega, bgn_add, ← hA2, List.length_append, say_len o l]
theorem run_all {B : Bk} (o : B.Ok) {W : Nat → R} (t : T) : (t.ord 0).foldl (joinAt B (bgn W) (t.fst 0) (t.lst 0)) (cat W 0 (t.n + 1)) = say B W 0 t := by
  have q := run_ord (F := t.fst 0) (L := t.lst 0) o t 0 [] [] (fun k _ _ => ⟨rfl, rfl⟩) (W := W) rfl
  rw [List.append_nil, List.append_nil, List.nil_append, List.nil_append] at q
  exact q
theorem fold_len {B : Bk} (o : B.Ok) {W : Nat → R} {F L : Nat → Nat} {row : R} {k : Nat} (h1 : bgn W (F k) ≤ bgn W (k + 1)) (h2 : bgn W (k + 1) ≤ bgn W (L k + 1)) (h3 : bgn W (L k + 1) ≤ row.length) : (joinAt B (bgn W) F L row k).length = row.length := by
  unfold joinAt
  have q := f_len o ((row.take (bgn W (k + 1))).drop (max (bgn W (F k)) (bgn W (k + 1) - B.a))) ((row.take (min (bgn W (L k + 1)) (bgn W (k + 1) + B.b))).drop (bgn W (k + 1)))
  rw [List.length_append, List.length_append, List.length_append, q.1, q.2]
  simp only [List.length_take, List.length_drop]
  omega
theorem bgn_mono (W : Nat → R) {i j : Nat} (h : i ≤ j) : bgn W i ≤ bgn W j := by
  obtain ⟨m, rfl⟩ := Nat.le.dest h
  rw [bgn_add]; omega

/-! ## the closing of summaries -/
inductive Md where
  | w (x : R)
  | p (q r : R × R)
/-- a summary of a row of the book -/
def Sg (B : Bk) (p : R × R) : Prop := ∃ x, Rw B.s x ∧ B.sm x = p
def MdOk (B : Bk) (W : R → Prop) (F : List (R × R)) (fw : R × R → Int) (p : R × R) : Md → Prop
  | .w x => fw p = 1 ∧ W x ∧ B.sm x = p
  | .p q r => q ∈ F ∧ r ∈ F ∧ B.jn q r = p ∧ fw q + fw r ≤ fw p
structure CI (B : Bk) (W : R → Prop) (F : List (R × R)) (fw : R × R → Int) (md : R × R → Md) : Prop where
  nd : F.Nodup
  sg : ∀ p ∈ F, Sg B p
  pos : ∀ p ∈ F, 1 ≤ fw p
  mo : ∀ p ∈ F, MdOk B W F fw p (md p)
def setAt {β : Type} (g : R × R → β) (p : R × R) (v : β) : R × R → β := fun q => if q = p then v else g q
theorem setAt_same {β : Type} {g : R × R → β} {p : R × R} {v : β} : setAt g p v p = v := if_pos rfl
theorem setAt_ne {β : Type} {g : R × R → β} {p q : R × R} {v : β} (h : q ≠ p) : setAt g p v q = g q := if_neg h
section
variable {B : Bk} {W : R → Prop} {F : List (R × R)} {fw : R × R → Int} {md : R × R → Md}
theorem sg_jn (o : B.Ok) {p q : R × R} (hp : Sg B p) (hq : Sg B q) : Sg B (B.jn p q) := by
  obtain ⟨x, hx, rfl⟩ := hp
  obtain ⟨y, hy, rfl⟩ := hq
  rw [sm_met o]
  exact ⟨_, met_rw o hx hy, rfl⟩
theorem Sg.rw1 {p : R × R} (h : Sg B p) : Rw B.s p.1 ∧ Rw B.s p.2 := by
  obtain ⟨x, hx, rfl⟩ := h
  exact sm_rw hx
theorem Sg.len {p : R × R} (h : Sg B p) : p.1.length ≤ B.a + B.b ∧ p.2.length ≤ B.a + B.b := by
  obtain ⟨x, _, rfl⟩ := h
  by_cases c : x.length < B.a + B.b
  · rw [sm_short c]; exact ⟨by show x.length ≤ _; omega, Nat.zero_le _⟩
  · rw [sm_long c]
    have lf := fb_len (B := B) x
    have ll := la_len (B := B) x
    exact ⟨by show (B.fb x).length ≤ _; omega, by show (B.la x).length ≤ _; omega⟩
theorem nodup_le {α : Type} [DecidableEq α] : ∀ {l u : List α}, l.Nodup → (∀ x ∈ l, x ∈ u) → l.length ≤ u.length
  | [], _, _, _ => Nat.zero_le _
  | x :: l, u, hn, hs => by
    have hx := hs x List.mem_cons_self
    have h1 := List.nodup_cons.mp hn
    have ih := nodup_le (l := l) (u := u.erase x) h1.2 fun y hy => by
      have ne : y ≠ x := fun e => h1.1 (e ▸ hy)
      exact (List.mem_erase_of_ne ne).mpr (hs y (List.mem_cons_of_mem _ hy))
    rw [List.length_erase_of_mem hx] at ih
    have := List.length_pos_of_mem hx
    rw [List.length_cons]; omega
theorem CI.len (o : B.Ok) (c : CI B W F fw md) : F.length ≤ 400 :=
  Nat.le_trans (nodup_le c.nd fun p hp => by obtain ⟨x, hx, rfl⟩ := c.sg p hp; exact sm_univ o hx) o.uni
theorem ci_nil : CI B W [] fw md := ⟨List.nodup_nil, fun _ h => (nomatch h), fun _ h => (nomatch h), fun _ h => (nomatch h)⟩
theorem ci_add {p : R × R} {n : Int} {m : Md} (c : CI B W F fw md) (hp : p ∉ F) (sg : Sg B p) (hn : 1 ≤ n) (hm : match m with | .w x => n = 1 ∧ W x ∧ B.sm x = p | .p q r => q ∈ F ∧ r ∈ F ∧ B.jn q r = p ∧ fw q + fw r ≤ n) :
    CI B W (F ++ [p]) (setAt fw p n) (setAt md p m) := by
  have ne : ∀ q ∈ F, q ≠ p := fun q hq e => hp (e ▸ hq)
  refine ⟨?_, fun q hq => ?_, fun q hq => ?_, fun q hq => ?_⟩
  · refine List.nodup_append.mpr ⟨c.nd, by simp, fun a ha b hb => ?_⟩
    have : b = p := by simpa using hb
    rw [this]; exact ne a ha
  · rcases List.mem_append.mp hq with hq | hq
    · exact c.sg q hq
    · have : q = p := by simpa using hq
      rw [this]; exact sg
  · rcases List.mem_append.mp hq with hq | hq
    · rw [setAt_ne (ne q hq)]; exact c.pos q hq
    · have : q = p := by simpa using hq
      rw [this, setAt_same]; exact hn
  · rcases List.mem_append.mp hq with hq | hq
    · rw [setAt_ne (ne q hq)]
      have k := c.mo q hq
      cases e : md q with
      | w x =>
        rw [e] at k
        obtain ⟨k1, k2, k3⟩ := k
        exact ⟨by rw [setAt_ne (ne q hq)]; exact k1, k2, k3⟩
      | p a b =>
        rw [e] at k
        obtain ⟨k1, k2, k3, k4⟩ := k
        exact ⟨List.mem_append_left _ k1, List.mem_append_left _ k2, k3, by rw [setAt_ne (ne a k1), setAt_ne (ne b k2), setAt_ne (ne q hq)]; exact k4⟩
    · have : q = p := by simpa using hq
      rw [this, setAt_same]
      cases m with
      | w x =>
        obtain ⟨k1, k2, k3⟩ := hm
        exact ⟨by rw [setAt_same]; exact k1, k2, k3⟩
      | p a b =>
        obtain ⟨k1, k2, k3, k4⟩ := hm
        exact ⟨List.mem_append_left _ k1, List.mem_append_left _ k2, k3, by rw [setAt_ne (ne a k1), setAt_ne (ne b k2), setAt_same]; exact k4⟩
theorem ci_less {a b : R × R} (c : CI B W F fw md) (ha : a ∈ F) (hb : b ∈ F) (hp : B.jn a b ∈ F) (h : fw a + fw b < fw (B.jn a b)) : CI B W F (setAt fw (B.jn a b) (fw a + fw b)) (setAt md (B.jn a b) (.p a b)) := by
  have pa := c.pos a ha
  have pb := c.pos b hb
  have na : a ≠ B.jn a b := fun e => by rw [← e] at h; omega
  have nb : b ≠ B.jn a b := fun e => by rw [← e] at h; omega
  have le : ∀ q, setAt fw (B.jn a b) (fw a + fw b) q ≤ fw q := fun q => by
    by_cases e : q = B.jn a b
    · rw [e, setAt_same]; omega
    · rw [setAt_ne e]; omega
  refine ⟨c.nd, c.sg, fun q hq => ?_, fun q hq => ?_⟩
  · by_cases e : q = B.jn a b
    · rw [e, setAt_same]; omega
    · rw [setAt_ne e]; exact c.pos q hq
  · by_cases e : q = B.jn a b
    · rw [e, setAt_same]
      exact ⟨ha, hb, rfl, by rw [setAt_ne na, setAt_ne nb, setAt_same]; omega⟩
    · rw [setAt_ne e]
      have k := c.mo q hq
      cases e2 : md q with
      | w x =>
        rw [e2] at k
        exact ⟨by rw [setAt_ne e]; exact k.1, k.2⟩
      | p x y =>
        rw [e2] at k
        obtain ⟨k1, k2, k3, k4⟩ := k
        refine ⟨k1, k2, k3, ?_⟩
        rw [setAt_ne e]
        have := le x
        have := le y
        omega
/-- how much is left to settle -/
def total (F : List (R × R)) (fw : R × R → Int) : Nat := (F.map fun p => (fw p).toNat).sum
theorem total_le {fw g : R × R → Int} : ∀ {F : List (R × R)}, (∀ p ∈ F, g p ≤ fw p) → total F g ≤ total F fw
  | [], _ => Nat.le_refl _
  | p :: F, h => by
    have h1 := h p List.mem_cons_self
    have h2 := total_le (F := F) (g := g) (fw := fw) fun q hq => h q (List.mem_cons_of_mem _ hq)
    unfold total at h2 ⊢
    simp only [List.map_cons, List.sum_cons]
    omega
theorem total_lt {fw g : R × R → Int} {k : R × R} : ∀ {F : List (R × R)}, k ∈ F → (∀ p ∈ F, g p ≤ fw p) → 0 ≤ g k → g k < fw k → total F g < total F fw
  | p :: F, hk, h, h0, hlt => by
    have h2 := total_le (F := F) (g := g) (fw := fw) fun q hq => h q (List.mem_cons_of_mem _ hq)
    have h1 := h p List.mem_cons_self
    by_cases e : k = p
    · subst e
      unfold total at h2 ⊢
      simp only [List.map_cons, List.sum_cons]
      omega
    · have hk' : k ∈ F := (List.mem_cons.mp hk).resolve_left e
      have ih := total_lt (F := F) (g := g) (fw := fw) hk' (fun q hq => h q (List.mem_cons_of_mem _ hq)) h0 hlt
      unfold total at ih ⊢
      simp only [List.map_cons, List.sum_cons]
      omega
theorem ci_total {a b : R × R} (c : CI B W F fw md) (ha : a ∈ F) (hb : b ∈ F) (hp : B.jn a b ∈ F) (h : fw a + fw b < fw (B.jn a b)) : total F (setAt fw (B.jn a b) (fw a + fw b)) < total F fw := by
  have pa := c.pos a ha
  have pb := c.pos b hb
  refine total_lt hp (fun q _ => ?_) ?_ ?_
  · by_cases e : q = B.jn a b
    · rw [e, setAt_same]; omega
    · rw [setAt_ne e]; omega
  · rw [setAt_same]; omega
  · rw [setAt_same]; exact h
/-- settled: nothing can be told with fewer words -/
def Stl (B : Bk) (F : List (R × R)) (fw : R × R → Int) : Prop := ∀ a ∈ F, ∀ b ∈ F, fw (B.jn a b) ≤ fw a + fw b
theorem stl_eq (c : CI B W F fw md) (s : Stl B F fw) {p q r : R × R} (hp : p ∈ F) (e : md p = .p q r) : q ∈ F ∧ r ∈ F ∧ B.jn q r = p ∧ fw p = fw q + fw r ∧ 1 ≤ fw q ∧ 1 ≤ fw r := by
  have k := c.mo p hp
  rw [e] at k
  obtain ⟨k1, k2, k3, k4⟩ := k
  have k5 := s q k1 r k2
  rw [k3] at k5
  exact ⟨k1, k2, k3, by omega, c.pos q k1, c.pos r k2⟩
/-- words and how they are joined, with this summary -/
structure Ph (B : Bk) (W : R → Prop) (p : R × R) (ws : List R) (t : T) : Prop where
  len : ws.length = t.n + 1
  all : ∀ w ∈ ws, W w
  sm : B.sm (say B (fun k => ws.getD k []) 0 t) = p
theorem say_left {B : Bk} {ws us : List R} {t : T} (h : ws.length = t.n + 1) : say B (fun k => (ws ++ us).getD k []) 0 t = say B (fun k => ws.getD k []) 0 t := by
  have q := say_congr (B := B) (W := fun k => (ws ++ us).getD k []) (W' := fun k => ws.getD k []) (m := 0) (t := t) (i := 0) fun k _ hk => by
    show (ws ++ us).getD k [] = ws.getD (k + 0) []
    rw [List.getD_eq_getElem?_getD, List.getD_eq_getElem?_getD, List.getElem?_append_left (by omega)]
    rfl
  exact q
theorem say_right {B : Bk} {ws us : List R} {t : T} (_h : us.length = t.n + 1) : say B (fun k => (ws ++ us).getD k []) ws.length t = say B (fun k => us.getD k []) 0 t := by
  have q := say_congr (B := B) (W := fun k => us.getD k []) (W' := fun k => (ws ++ us).getD k []) (m := ws.length) (t := t) (i := 0) fun k _ hk => by
    show us.getD k [] = (ws ++ us).getD (k + ws.length) []
    rw [List.getD_eq_getElem?_getD, List.getD_eq_getElem?_getD, List.getElem?_append_right (by omega), Nat.add_sub_cancel]
  rw [Nat.zero_add] at q
  exact q.symm
theorem say_nd {B : Bk} {ws us : List R} {t u : T} (h : ws.length = t.n + 1) (k : us.length = u.n + 1) :
    say B (fun k => (ws ++ us).getD k []) 0 (.nd t u) = B.met (say B (fun k => ws.getD k []) 0 t) (say B (fun k => us.getD k []) 0 u) := by
  show B.met (say B _ 0 t) (say B _ (0 + t.n + 1) u) = _
  rw [say_left h, Nat.zero_add, ← h, say_right k]
theorem Ph.nd (o : B.Ok) {q r : R × R} {ws us : List R} {t u : T} (h : Ph B W q ws t) (k : Ph B W r us u) : Ph B W (B.jn q r) (ws ++ us) (.nd t u) := by
  refine ⟨?_, fun w hw => (List.mem_append.mp hw).elim (h.all w) (k.all w), ?_⟩
  · rw [List.length_append, h.len, k.len]; simp only [T.n]; omega
  · rw [say_nd h.len k.len, ← sm_met o, h.sm, k.sm]
theorem Ph.lf {p : R × R} {x : R} (h : W x) (e : B.sm x = p) : Ph B W p [x] .lf := by
  refine ⟨rfl, fun w hw => ?_, e⟩
  have : w = x := by simpa using hw
  rw [this]; exact h
end
end K73
end

section

namespace K73
/-! ## a chain of windows -/
section
variable {α : Type} {L : List α} {lg : α → Bool} {key : α → R} {f : α → Int} {c : Int} {Wn : List R}
theorem min_ex (L : List α) (lg : α → Bool) (key : α → R) (f : α → Int) (pos : ∀ p ∈ L, 1 ≤ f p) : ∀ (n : Nat) (p : α), p ∈ L → lg p = true → (f p).toNat ≤ n → ∃ m ∈ L, lg m = true ∧ key m = key p ∧ f m ≤ f p ∧ ∀ q ∈ L, lg q = true → key q = key p → f m ≤ f q
  | 0, p, hp, _, h => by have := pos p hp; omega
  | n + 1, p, hp, hl, h => by
    by_cases c : ∃ q ∈ L, lg q = true ∧ key q = key p ∧ f q < f p
    · obtain ⟨q, hq, h1, h2, h3⟩ := c
      have := pos q hq
      obtain ⟨m, hm, m1, m2, m3, m4⟩ := min_ex L lg key f pos n q hq h1 (by omega)
      exact ⟨m, hm, m1, m2.trans h2, by omega, fun x hx x1 x2 => m4 x hx x1 (x2.trans h2.symm)⟩
    · refine ⟨p, hp, hl, rfl, Int.le_refl _, fun q hq h1 h2 => ?_⟩
      by_cases d : f q < f p
      · exact absurd ⟨q, hq, h1, h2, d⟩ c
      · omega
/-- how many windows have something cheaper than n -/
def seen (L : List α) (lg : α → Bool) (key : α → R) (f : α → Int) (n : Int) (u : R) : Bool := L.any fun p => lg p && decide (key p = u) && decide (f p < n)
def cnt (L : List α) (lg : α → Bool) (key : α → R) (f : α → Int) (Wn : List R) (n : Int) : Nat := (Wn.filter (seen L lg key f n)).length
theorem seen_iff {n : Int} {u : R} : seen L lg key f n u = true ↔ ∃ p ∈ L, lg p = true ∧ key p = u ∧ f p < n := by
  unfold seen
  rw [List.any_eq_true]
  constructor
  · rintro ⟨p, hp, h⟩
    rw [Bool.and_eq_true, Bool.and_eq_true] at h
    exact ⟨p, hp, h.1.1, of_decide_eq_true h.1.2, of_decide_eq_true h.2⟩
  · rintro ⟨p, hp, h1, h2, h3⟩
    exact ⟨p, hp, by rw [h1, decide_eq_true h2, decide_eq_true h3]; rfl⟩
theorem filter_le {β : Type} {g h : β → Bool} : ∀ {l : List β}, (∀ x ∈ l, g x = true → h x = true) → (l.filter g).length ≤ (l.filter h).length
  | [], _ => Nat.le_refl _
  | x :: l, k => by
    have ih := filter_le (l := l) (g := g) (h := h) fun y hy => k y (List.mem_cons_of_mem _ hy)
    have kx := k x List.mem_cons_self
    rw [List.filter_cons, List.filter_cons]
    by_cases gx : g x = true
    · rw [if_pos gx, if_pos (kx gx), List.length_cons, List.length_cons]; omega
    · rw [if_neg gx]
      split
      · rw [List.length_cons]; omega
      · exact ih
theorem filter_lt {β : Type} {g h : β → Bool} {z : β} : ∀ {l : List β}, (∀ x ∈ l, g x = true → h x = true) → z ∈ l → h z = true → g z = false → (l.filter g).length < (l.filter h).length
  | x :: l, k, hz, h1, h2 => by
    have kl : ∀ y ∈ l, g y = true → h y = true := fun y hy => k y (List.mem_cons_of_mem _ hy)
    rw [List.filter_cons, List.filter_cons]
    by_cases e : z = x
    · subst e
      have ih := filter_le kl
      rw [if_neg (by rw [h2]; exact Bool.false_ne_true), if_pos h1, List.length_cons]; omega
    · have hz' : z ∈ l := (List.mem_cons.mp hz).resolve_left e
      have ih := filter_lt kl hz' h1 h2
      have kx := k x List.mem_cons_self
      by_cases gx : g x = true
      · rw [if_pos gx, if_pos (kx gx), List.length_cons, List.length_cons]; omega
      · rw [if_neg gx]
        split
        · rw [List.length_cons]; omega
        · exact ih
theorem chain (c : Int) (c0 : 0 ≤ c) (Wn : List R) (pos : ∀ p ∈ L, 1 ≤ f p) (hkey : ∀ p ∈ L, lg p = true → key p ∈ Wn)
    (step : ∀ p ∈ L, lg p = true → f p ≤ 2 * c ∨ (∃ q ∈ L, lg q = true ∧ key q = key p ∧ f q < f p) ∨ ∃ q ∈ L, lg q = true ∧ f q < f p ∧ ∀ q' ∈ L, lg q' = true → key q' = key q → ∃ p' ∈ L, lg p' = true ∧ key p' = key p ∧ f p' ≤ c + f q') :
    ∀ (n : Nat) (p : α), p ∈ L → lg p = true → (∀ q ∈ L, lg q = true → key q = key p → f p ≤ f q) → (f p).toNat ≤ n → f p ≤ 2 * c + c * (cnt L lg key f Wn (f p) : Nat)
  | 0, p, hp, _, _, h => by have := pos p hp; omega
  | n + 1, p, hp, hl, mn, h => by
    have nn : 0 ≤ c * (cnt L lg key f Wn (f p) : Nat) := Int.mul_nonneg c0 (by omega)
    rcases step p hp hl with h1 | ⟨q, hq, q1, q2, q3⟩ | ⟨q, hq, q1, q2, q3⟩
    · omega
    · have := mn q hq q1 q2; omega
    · obtain ⟨m, hm, m1, m2, m3, m4⟩ := min_ex L lg key f pos _ q hq q1 (Nat.le_refl _)
      have pm := pos m hm
      have ih := chain c c0 Wn pos hkey step n m hm m1 (fun x hx x1 x2 => m4 x hx x1 (x2.trans m2)) (by omega)
      obtain ⟨p', hp', a1, a2, a3⟩ := q3 m hm m1 m2
      have le := mn p' hp' a1 a2
      have lt : cnt L lg key f Wn (f m) < cnt L lg key f Wn (f p) := by
        unfold cnt
        refine filter_lt (z := key m) (fun u _ hu => ?_) (hkey m hm m1) (seen_iff.mpr ⟨m, hm, m1, rfl, by omega⟩) ?_
        · obtain ⟨x, hx, x1, x2, x3⟩ := seen_iff.mp hu
          exact seen_iff.mpr ⟨x, hx, x1, x2, by omega⟩
        · cases e : seen L lg key f (f m) (key m) with
          | false => rfl
          | true =>
            obtain ⟨x, hx, x1, x2, x3⟩ := seen_iff.mp e
            have := m4 x hx x1 (x2.trans m2)
            omega
      have mul : c * ((cnt L lg key f Wn (f m) : Nat) + 1) ≤ c * (cnt L lg key f Wn (f p) : Nat) := Int.mul_le_mul_of_nonneg_left (by omega) c0
      rw [Int.mul_add, Int.mul_one] at mul
      omega
theorem chain_all (c : Int) (c0 : 0 ≤ c) (Wn : List R) (pos : ∀ p ∈ L, 1 ≤ f p) (hkey : ∀ p ∈ L, lg p = true → key p ∈ Wn)
    (step : ∀ p ∈ L, lg p = true → f p ≤ 2 * c ∨ (∃ q ∈ L, lg q = true ∧ key q = key p ∧ f q < f p) ∨ ∃ q ∈ L, lg q = true ∧ f q < f p ∧ ∀ q' ∈ L, lg q' = true → key q' = key q → ∃ p' ∈ L, lg p' = true ∧ key p' = key p ∧ f p' ≤ c + f q')
    {p : α} (hp : p ∈ L) (hl : lg p = true) : ∃ m ∈ L, lg m = true ∧ key m = key p ∧ f m ≤ c * ((Wn.length : Nat) + 1) := by
  obtain ⟨m, hm, m1, m2, m3, m4⟩ := min_ex L lg key f pos _ p hp hl (Nat.le_refl _)
  refine ⟨m, hm, m1, m2, ?_⟩
  have h := chain c c0 Wn pos hkey step _ m hm m1 (fun x hx x1 x2 => m4 x hx x1 (x2.trans m2)) (Nat.le_refl _)
  have lt : cnt L lg key f Wn (f m) < Wn.length := by
    unfold cnt
    have q := filter_lt (g := seen L lg key f (f m)) (h := fun _ => true) (z := key m) (l := Wn) (fun _ _ _ => rfl) (hkey m hm m1) rfl (by
      cases e : seen L lg key f (f m) (key m) with
      | false => rfl
      | true =>
        obtain ⟨x, hx, x1, x2, x3⟩ := seen_iff.mp e
        have := m4 x hx x1 (x2.trans m2)
        omega)
    have e : (Wn.filter fun _ => true) = Wn := List.filter_eq_self.mpr fun _ _ => rfl
    rw [e] at q
    exact q
  have mul : c * ((cnt L lg key f Wn (f m) : Nat) + 1) ≤ c * (Wn.length : Nat) := Int.mul_le_mul_of_nonneg_left (by omega) c0
  rw [Int.mul_add, Int.mul_one] at mul
  rw [Int.mul_add, Int.mul_one]
  omega
end

/-! ## few words are enough -/
section
variable {B : Bk} {W : R → Prop} {F : List (R × R)} {fw : R × R → Int} {md : R × R → Md}
def lng (p : R × R) : Bool := decide (p.2.length ≠ 0)
theorem lng_rep (o : B.Ok) {p : R × R} (h : Sg B p) (hl : lng p = true) : ∃ x, Rw B.s x ∧ B.sm x = p ∧ B.a + B.b ≤ x.length ∧ p = (B.fb x, B.la x) := by
  obtain ⟨x, hx, e⟩ := h
  refine ⟨x, hx, e, ?_⟩
  by_cases c : x.length < B.a + B.b
  · rw [sm_short c] at e
    rw [← e] at hl
    exact absurd rfl (of_decide_eq_true hl)
  · rw [sm_long c] at e
    exact ⟨by omega, e.symm⟩
theorem sht_rep (o : B.Ok) {p : R × R} (h : Sg B p) (hl : lng p = false) : ∃ x, Rw B.s x ∧ B.sm x = p ∧ x.length < B.a + B.b ∧ p = (x, []) := by
  obtain ⟨x, hx, e⟩ := h
  refine ⟨x, hx, e, ?_⟩
  by_cases c : x.length < B.a + B.b
  · rw [sm_short c] at e
    exact ⟨c, e.symm⟩
  · rw [sm_long c] at e
    have ll := la_len (B := B) x
    have := o.a1
    have z : ¬ p.2.length ≠ 0 := of_decide_eq_false hl
    rw [← e] at z
    have : (B.la x).length = 0 := by
      by_cases q : (B.la x).length = 0
      · exact q
      · exact absurd q z
    omega
theorem lng_long (o : B.Ok) {x : R} (h : B.a + B.b ≤ x.length) : lng (B.sm x) = true := by
  rw [sm_long (by omega)]
  have ll := la_len (B := B) x
  have := o.a1
  exact decide_eq_true (by show (B.la x).length ≠ 0; omega)
theorem said_le (o : B.Ok) (s : Stl B F fw) (hw : ∀ w, W w → B.sm w ∈ F) (clo : ∀ p ∈ F, ∀ q ∈ F, B.jn p q ∈ F) (w1 : ∀ w, W w → 1 ≤ w.length) (f1 : ∀ w, W w → fw (B.sm w) ≤ 1) {x : R} (h : Said B W x) : fw (B.sm x) ≤ (x.length : Int) := by
  induction h with
  | word h =>
    have := f1 _ h
    have := w1 _ h
    omega
  | @join x y h k ih ik =>
    have q := s _ (said_in o hw clo h) _ (said_in o hw clo k)
    rw [sm_met o] at q
    rw [met_len o]
    omega
theorem su_ci (o : B.Ok) (ci : CI B W F fw md) : ∀ (n : Nat) (p : R × R), p ∈ F → fw p ≤ n → ∃ x, Said B W x ∧ B.sm x = p
  | 0, p, hp, h => by have := ci.pos p hp; omega
  | n + 1, p, hp, h => by
    have mo := ci.mo p hp
    cases e : md p with
    | w x =>
      rw [e] at mo
      exact ⟨x, .word mo.2.1, mo.2.2⟩
    | p a b =>
      rw [e] at mo
      obtain ⟨ha, hb, hj, hs⟩ := mo
      have pa := ci.pos a ha
      have pb := ci.pos b hb
      obtain ⟨x, hx, ex⟩ := su_ci o ci n a ha (by omega)
      obtain ⟨y, hy, ey⟩ := su_ci o ci n b hb (by omega)
      exact ⟨B.met x y, .join hx hy, by rw [← sm_met o, ex, ey, hj]⟩
theorem sht_le (o : B.Ok) (ci : CI B W F fw md) (s : Stl B F fw) (hw : ∀ w, W w → B.sm w ∈ F) (clo : ∀ p ∈ F, ∀ q ∈ F, B.jn p q ∈ F) (w1 : ∀ w, W w → 1 ≤ w.length) (f1 : ∀ w, W w → fw (B.sm w) ≤ 1) {p : R × R} (hp : p ∈ F) (hl : lng p = false) : fw p ≤ ((B.a + B.b : Nat) : Int) - 1 := by
  obtain ⟨x, hx, e⟩ := su_ci o ci (fw p).toNat p hp (by omega)
  have q := said_le o s hw clo w1 f1 hx
  rw [e] at q
  by_cases c : x.length < B.a + B.b
  · omega
  · have := lng_long o (x := x) (by omega)
    rw [e, hl] at this
    cases this
theorem few_bound (o : B.Ok) (ci : CI B W F fw md) (s : Stl B F fw) (hw : ∀ w, W w → B.sm w ∈ F) (clo : ∀ p ∈ F, ∀ q ∈ F, B.jn p q ∈ F) (w1 : ∀ w, W w → 1 ≤ w.length) (f1 : ∀ w, W w → fw (B.sm w) ≤ 1) {p : R × R} (hp : p ∈ F) :
    fw p ≤ (((B.a + B.b : Nat) : Int) - 1) * (((rowsLen B.s B.b).length : Nat) + ((rowsLen B.s B.a).length : Nat) + 2) := by
  have a1 := o.a1
  have b1 := o.b1
  have c0 : 0 ≤ ((B.a + B.b : Nat) : Int) - 1 := by omega
  have c1 : 1 ≤ ((B.a + B.b : Nat) : Int) - 1 := by omega
  have sh := fun {q : R × R} (hq : q ∈ F) (hl : lng q = false) => sht_le o ci s hw clo w1 f1 hq hl
  generalize hc : ((B.a + B.b : Nat) : Int) - 1 = c at *
  by_cases hl : lng p = true
  · have one : ∃ m ∈ F, lng m = true ∧ m.1 = p.1 ∧ fw m ≤ c * (((rowsLen B.s B.b).length : Nat) + 1) := by
      refine chain_all (L := F) (lg := lng) (key := (·.1)) (f := fw) c c0 (rowsLen B.s B.b) ci.pos (fun q hq hlq => ?_) (fun q hq hlq => ?_) hp hl
      · obtain ⟨x, hx, _, lx, e⟩ := lng_rep o (ci.sg q hq) hlq
        have lf := fb_len (B := B) x
        rw [e]
        exact mem_rowsLen (hx.take _) (by show (B.fb x).length = _; omega)
      · cases em : md q with
        | w x =>
          have mo := ci.mo q hq
          rw [em] at mo
          exact .inl (by rw [mo.1]; omega)
        | p u v =>
          obtain ⟨hu, hv, hj, he, pu, pv⟩ := stl_eq ci s hq em
          by_cases lu : lng u = true
          · right; left
            obtain ⟨x, hx, ex, lx, e⟩ := lng_rep o (ci.sg u hu) lu
            obtain ⟨y, hy, ey⟩ := ci.sg v hv
            have jq : q = (B.fb (B.met x y), B.la (B.met x y)) := by rw [← hj, ← ex, ← ey, sm_met o, sm_long (by rw [met_len o]; omega)]
            refine ⟨u, hu, lu, ?_, by omega⟩
            rw [jq, e]
            exact (fb_met o lx).symm
          · have lu : lng u = false := by cases e : lng u with
              | true => exact absurd e lu
              | false => rfl
            have fu := sh hu lu
            by_cases lv : lng v = true
            · right; right
              refine ⟨v, hv, lv, by omega, fun v' hv' lv' kv => ⟨B.jn u v', clo _ hu _ hv', ?_⟩⟩
              obtain ⟨x, hx, ex, lx, e⟩ := sht_rep o (ci.sg u hu) lu
              obtain ⟨y, hy, ey, ly, e2⟩ := lng_rep o (ci.sg v hv) lv
              obtain ⟨y', hy', ey', ly', e2'⟩ := lng_rep o (ci.sg v' hv') lv'
              have lf := fb_len (B := B) y
              have kk : B.fb y' = B.fb y := by
                rw [e2, e2'] at kv
                exact kv
              have jl : B.jn u v' = (B.fb (B.met x y'), B.la (B.met x y')) := by rw [← ex, ← ey', sm_met o, sm_long (by rw [met_len o]; omega)]
              have jq : q = (B.fb (B.met x y), B.la (B.met x y)) := by rw [← hj, ← ex, ← ey, sm_met o, sm_long (by rw [met_len o]; omega)]
              refine ⟨?_, ?_, ?_⟩
              · rw [← ex, ← ey', sm_met o]
                exact lng_long o (by rw [met_len o]; omega)
              · rw [jl, jq]
                show B.fb (B.met x y') = B.fb (B.met x y)
                rw [met_fb x y', met_fb x y, kk, fb_app (by rw [met_len o]; omega), fb_app (by rw [met_len o]; omega)]
              · have := s u hu v' hv'
                omega
            · have lv : lng v = false := by cases e : lng v with
                | true => exact absurd e lv
                | false => rfl
              have fv := sh hv lv
              exact .inl (by omega)
    have two : ∃ m ∈ F, lng m = true ∧ m.2 = p.2 ∧ fw m ≤ c * (((rowsLen B.s B.a).length : Nat) + 1) := by
      refine chain_all (L := F) (lg := lng) (key := (·.2)) (f := fw) c c0 (rowsLen B.s B.a) ci.pos (fun q hq hlq => ?_) (fun q hq hlq => ?_) hp hl
      · obtain ⟨x, hx, _, lx, e⟩ := lng_rep o (ci.sg q hq) hlq
        have lf := la_len (B := B) x
        rw [e]
        exact mem_rowsLen (hx.drop _) (by show (B.la x).length = _; omega)
      · cases em : md q with
        | w x =>
          have mo := ci.mo q hq
          rw [em] at mo
          exact .inl (by rw [mo.1]; omega)
        | p u v =>
          obtain ⟨hu, hv, hj, he, pu, pv⟩ := stl_eq ci s hq em
          by_cases lv : lng v = true
          · right; left
            obtain ⟨y, hy, ey, ly, e⟩ := lng_rep o (ci.sg v hv) lv
            obtain ⟨x, hx, ex⟩ := ci.sg u hu
            have jq : q = (B.fb (B.met x y), B.la (B.met x y)) := by rw [← hj, ← ex, ← ey, sm_met o, sm_long (by rw [met_len o]; omega)]
            refine ⟨v, hv, lv, ?_, by omega⟩
            rw [jq, e]
            exact (la_met o ly).symm
          · have lv : lng v = false := by cases e : lng v with
              | true => exact absurd e lv
              | false => rfl
            have fv := sh hv lv
            by_cases lu : lng u = true
            · right; right
              refine ⟨u, hu, lu, by omega, fun u' hu' lu' ku => ⟨B.jn u' v, clo _ hu' _ hv, ?_⟩⟩
              obtain ⟨y, hy, ey, ly, e⟩ := sht_rep o (ci.sg v hv) lv
              obtain ⟨x, hx, ex, lx, e2⟩ := lng_rep o (ci.sg u hu) lu
              obtain ⟨x', hx', ex', lx', e2'⟩ := lng_rep o (ci.sg u' hu') lu'
              have kk : B.la x' = B.la x := by
                rw [e2, e2'] at ku
                exact ku
              have ll := la_len (B := B) x
              have jl : B.jn u' v = (B.fb (B.met x' y), B.la (B.met x' y)) := by rw [← ex', ← ey, sm_met o, sm_long (by rw [met_len o]; omega)]
              have jq : q = (B.fb (B.met x y), B.la (B.met x y)) := by rw [← hj, ← ex, ← ey, sm_met o, sm_long (by rw [met_len o]; omega)]
              refine ⟨?_, ?_, ?_⟩
              · rw [← ex', ← ey, sm_met o]
                exact lng_long o (by rw [met_len o]; omega)
              · rw [jl, jq]
                show B.la (B.met x' y) = B.la (B.met x y)
                rw [met_la x' y, met_la x y, kk, la_app (by rw [met_len o]; omega), la_app (by rw [met_len o]; omega)]
              · have := s u' hu' v hv
                omega
            · have lu : lng u = false := by cases e : lng u with
                | true => exact absurd e lu
                | false => rfl
              have fu := sh hu lu
              exact .inl (by omega)
    obtain ⟨m1, hm1, l1, k1, f1'⟩ := one
    obtain ⟨m2, hm2, l2, k2, f2'⟩ := two
    have j : B.jn m1 m2 = p := by
      obtain ⟨x, hx, ex, lx, e⟩ := lng_rep o (ci.sg m1 hm1) l1
      obtain ⟨y, hy, ey, ly, e2⟩ := lng_rep o (ci.sg m2 hm2) l2
      rw [← ex, ← ey, sm_met o, sm_long (by rw [met_len o]; omega), fb_met o lx, la_met o ly]
      refine Prod.ext ?_ ?_
      · show B.fb x = p.1
        rw [← k1, e]
      · show B.la y = p.2
        rw [← k2, e2]
    have q := s m1 hm1 m2 hm2
    rw [j] at q
    have e : c * (((rowsLen B.s B.b).length : Nat) + ((rowsLen B.s B.a).length : Nat) + 2) = c * (((rowsLen B.s B.b).length : Nat) + 1) + c * (((rowsLen B.s B.a).length : Nat) + 1) := by
      rw [← Int.mul_add]
      congr 1
      omega
    rw [e]
    omega
  · have hl : lng p = false := by cases e : lng p with
      | true => exact absurd e hl
      | false => rfl
    have h := sh hp hl
    have mul : c * 1 ≤ c * (((rowsLen B.s B.b).length : Nat) + ((rowsLen B.s B.a).length : Nat) + 2) := Int.mul_le_mul_of_nonneg_left (by omega) c0
    omega
end
end K73
end

section
set_option linter.all false
set_option maxRecDepth 100000
set_option maxHeartbeats 1000000
/-! dicts whose keys are rows, or pairs of rows -/
namespace K73
open PySem PySem.Spec PyProof.Rows L2

/-- one kind of keys: the key as the library tells it, and how it lies in the abstract heap -/
structure KD (κ : Type) [DecidableEq κ] where
  key : κ → NestedKey
  inj : ∀ a b, key a = key b → a = b
  lies : Hp → Addr → κ → Prop
  is : ∀ {P : Program} {w : World} {H : Hp} {h : Heap} {a : Addr} {k : κ}, HOk P w H h → lies H a k → (nestedKind P w).is h (key k) a
  mono : ∀ {H H' : Hp} {a : Addr} {k : κ}, (∀ b xs, H b = some (.tup xs) → H' b = some (.tup xs)) → lies H a k → lies H' a k

theorem paired_app {α β : Type} {F : α → β → Prop} {l1 m1 : List α} {l2 m2 : List β} (h : Paired F l1 l2) (k : Paired F m1 m2) : Paired F (l1 ++ m1) (l2 ++ m2) := by
  induction h with
  | nil => exact k
  | cons r _ ih => exact .cons r ih
section
variable {κ : Type} [DecidableEq κ]
abbrev Es (κ : Type) := List (κ × Addr × V)
def esV (es : Es κ) : List (κ × V) := es.map fun e => (e.1, e.2.2)
abbrev RelE (D : KD κ) : Es κ → List (NestedKey × Addr × Value) → Prop := Paired fun p q => D.key p.1 = q.1 ∧ p.2.1 = q.2.1 ∧ RelV p.2.2 q.2.2
theorem RelE.val {D : KD κ} {es : Es κ} {xs : List (NestedKey × Addr × Value)} (r : RelE D es xs) (k : κ) : RelO (valV (esV es) k) ((atKey xs (D.key k)).map (·.2)) := by
  induction r with
  | nil => exact True.intro
  | @cons p q ps qs h t ih =>
    obtain ⟨e1, e2, e3⟩ := h
    show RelO (valV ((p.1, p.2.2) :: esV ps) k) _
    by_cases c : p.1 = k
    · have c' : q.1 = D.key k := by rw [← e1, c]
      have b : atKey (q :: qs) (D.key k) = some q.2 := by simp [atKey, List.find?_cons, c']
      rw [valV_pos (p := (p.1, p.2.2)) c, b]
      exact e3
    · have c' : ¬ q.1 = D.key k := fun z => c (D.inj _ _ (e1.trans z))
      have b : atKey (q :: qs) (D.key k) = atKey qs (D.key k) := by simp [atKey, List.find?_cons, c']
      rw [valV_neg (p := (p.1, p.2.2)) c, b]
      exact ih
def putE (es : Es κ) (k : κ) (a : Addr) (v : V) : Es κ := if (valV (esV es) k).isSome = true then es.map (fun e => if e.1 = k then (e.1, e.2.1, v) else e) else es ++ [(k, a, v)]
theorem esV_putE (es : Es κ) (k : κ) (a : Addr) (v : V) : esV (putE es k a v) = putK (esV es) k v := by
  unfold putE putK
  rw [valV_any]
  by_cases c : (valV (esV es) k).isSome = true
  · rw [if_pos c, if_pos c]
    unfold esV
    rw [List.map_map, List.map_map]
    refine List.map_congr_left fun e _ => ?_
    by_cases d : e.1 = k
    · simp [d]
    · simp [d]
  · rw [if_neg c, if_neg c]
    unfold esV
    rw [List.map_append]
    rfl
theorem putE_mem {es : Es κ} {k : κ} {a : Addr} {v : V} {e : κ × Addr × V} (h : e ∈ putE es k a v) : (∃ u, (e.1, e.2.1, u) ∈ es) ∨ (e.1 = k ∧ e.2.1 = a) := by
  unfold putE at h
  split at h
  · obtain ⟨x, hx, hq⟩ := List.mem_map.mp h
    split at hq
    · rw [← hq]; exact .inl ⟨x.2.2, hx⟩
    · rw [← hq]; exact .inl ⟨x.2.2, hx⟩
  · rcases List.mem_append.mp h with q | q
    · exact .inl ⟨e.2.2, q⟩
    · have : e = (k, a, v) := by simpa using q
      rw [this]; exact .inr ⟨rfl, rfl⟩
theorem RelE.map_put {D : KD κ} {es : Es κ} {xs : List (NestedKey × Addr × Value)} (r : RelE D es xs) (k : κ) {v : V} {u : Value} (rv : RelV v u) :
    RelE D (es.map fun e => if e.1 = k then (e.1, e.2.1, v) else e) (xs.map (putAt (D.key k) u)) := by
  induction r with
  | nil => exact .nil
  | @cons p q ps qs h t ih =>
    obtain ⟨e1, e2, e3⟩ := h
    rw [List.map_cons, List.map_cons]
    refine .cons ?_ ih
    by_cases c : p.1 = k
    · have c' : q.1 = D.key k := by rw [← e1, c]
      rw [if_pos c]
      unfold putAt
      rw [if_pos c']
      exact ⟨e1, e2, rv⟩
    · have c' : ¬ q.1 = D.key k := fun z => c (D.inj _ _ (e1.trans z))
      rw [if_neg c]
      unfold putAt
      rw [if_neg c']
      exact ⟨e1, e2, e3⟩
theorem RelE.put {D : KD κ} {es : Es κ} {xs : List (NestedKey × Addr × Value)} (r : RelE D es xs) (k : κ) (a : Addr) {v : V} {u : Value} (rv : RelV v u) : RelE D (putE es k a v) (storedH xs (D.key k) a u) := by
  have z := (r.val k).isSome_eq
  rw [Option.isSome_map] at z
  unfold putE storedH
  rw [z]
  by_cases c : (atKey xs (D.key k)).isSome = true
  · rw [if_pos c, if_pos c]
    exact r.map_put k rv
  · rw [if_neg c, if_neg c]
    exact paired_app r (.cons ⟨rfl, rfl, rv⟩ .nil)

/-- the dict at a, told by its entries: key, where the key's tuple lies, value -/
def DO (P : Program) (w : World) (D : KD κ) (a : Addr) (es : Es κ) : HO := .ext fun h => (a == sysModules) = false ∧ es.length ≤ sizeLine ∧ ∃ xs : List (NestedKey × Addr × Value), RelE D es xs ∧
  ∃ o en ep, h.get? a = some o ∧ o.ExactDict ∧ o.data = .dict en ep ∧ en.toList = xs.map (entryOfKey (nestedKind P w)) ∧ (xs.map (·.1)).Nodup
/-- .. to be read -/
def DAt (P : Program) (w : World) (D : KD κ) (H : Hp) (a : Addr) (kvs : List (κ × V)) : Prop := ∃ es, Rd H a (DO P w D a es) ∧ esV es = kvs ∧ ∀ e ∈ es, D.lies H e.2.1 e.1
/-- .. to be written -/
def DMt (P : Program) (w : World) (D : KD κ) (H : Hp) (a : Addr) (kvs : List (κ × V)) : Prop := ∃ es, H a = some (DO P w D a es) ∧ esV es = kvs ∧ ∀ e ∈ es, D.lies H e.2.1 e.1
variable {P : Program} {w : World} {D : KD κ} {H H' : Hp} {a : Addr} {kvs : List (κ × V)}
theorem DMt.rd (d : DMt P w D H a kvs) : DAt P w D H a kvs := let ⟨es, h, e, l⟩ := d; ⟨es, .inl h, e, l⟩
theorem DAt.same (d : DAt P w D H a kvs) (s : Same H H') : DAt P w D H' a kvs := by
  obtain ⟨es, h, e, l⟩ := d
  refine ⟨es, ?_, e, fun x hx => D.mono (fun b xs q => s b _ q) (l x hx)⟩
  rcases h with h | ⟨o, h⟩
  · exact .inl (s _ _ h)
  · exact .inr ⟨o, s _ _ h⟩
theorem DMt.same (d : DMt P w D H a kvs) (s : Same H H') : DMt P w D H' a kvs := by
  obtain ⟨es, h, e, l⟩ := d
  exact ⟨es, s _ _ h, e, fun x hx => D.mono (fun b xs q => s b _ q) (l x hx)⟩
theorem DO.ok {h : Heap} {es : Es κ} (x : ObjOk P w H h a (DO P w D a es)) (l : ∀ e ∈ es, D.lies H e.2.1 e.1) (hk : HOk P w H h) :
    (a == sysModules) = false ∧ es.length ≤ sizeLine ∧ ∃ xs, RelE D es xs ∧ h.DictOfH (nestedKind P w) a xs := by
  obtain ⟨⟨h1, h2, xs, r, o, en, ep, g1, g2, g3, g4, g5⟩, _, _⟩ := x
  refine ⟨h1, h2, xs, r, o, en, ep, g1, g2, g3, g4, fun y hy => ?_, g5⟩
  obtain ⟨i, hi, e⟩ := List.mem_iff_getElem.mp hy
  have all : ∀ {l1 : Es κ} {l2 : List (NestedKey × Addr × Value)}, RelE D l1 l2 → (∀ e ∈ l1, D.lies H e.2.1 e.1) → ∀ y ∈ l2, (nestedKind P w).is h y.1 y.2.1 := by
    intro l1 l2 q
    induction q with
    | nil => intro _ y hy; cases hy
    | @cons p q ps qs hq t ih =>
      intro hl y hy
      rcases List.mem_cons.mp hy with e | hy
      · rw [e, ← hq.1, ← hq.2.1]
        exact D.is hk (hl p List.mem_cons_self)
      · exact ih (fun e he => hl e (List.mem_cons_of_mem _ he)) y hy
  exact all r l y hy
theorem DO.mk_ok {h' : Heap} {es : Es κ} {xs : List (NestedKey × Addr × Value)} (h1 : (a == sysModules) = false) (h2 : es.length ≤ sizeLine) (r : RelE D es xs) (d : h'.DictOfH (nestedKind P w) a xs) : ObjOk P w H' h' a (DO P w D a es) := by
  obtain ⟨o, en, ep, g1, g2, g3, g4, _, g5⟩ := d
  refine ⟨⟨h1, h2, xs, r, o, en, ep, g1, g2, g3, g4, g5⟩, ⟨o, g1⟩, ?_⟩
  rintro x y ⟨h1, h2, xs, r, o, en, ep, g1, g⟩ k
  exact ⟨h1, h2, xs, r, o, en, ep, k _ g1, g⟩
theorem DAt.get (d : DAt P w D H a kvs) {h : Heap} (hk : HOk P w H h) : (a == sysModules) = false ∧ ∃ es xs, esV es = kvs ∧ RelE D es xs ∧ h.DictOfH (nestedKind P w) a xs := by
  obtain ⟨es, r, e, l⟩ := d
  obtain ⟨h1, _, xs, q, g⟩ := DO.ok (r.ok hk) l hk
  exact ⟨h1, es, xs, e, q, g⟩
theorem DAt.nodict (d : DAt P w D H a kvs) {h : Heap} (hk : HOk P w H h) : ∀ b, Value.ref a = .ref b → ∃ ob, h.get? b = some ob ∧ ob.dict = none := fun b q => by
  cases q
  obtain ⟨_, es, xs, _, _, o, en, ep, g1, g2, _⟩ := d.get hk
  exact ⟨o, g1, g2.2.1⟩
end

/-! ### the two kinds -/
abbrev RowAt (H : Hp) (a : Addr) (r : List Int) : Prop := H a = some (.tup (r.map V.int))
def PairAt (H : Hp) (a : Addr) (p : List Int × List Int) : Prop := ∃ b c, H a = some (.tup [.ref b, .ref c]) ∧ RowAt H b p.1 ∧ RowAt H c p.2
def keyR (r : List Int) : NestedKey := .tup (r.map .num)
theorem keyR_inj {a b : List Int} (h : keyR a = keyR b) : a = b := by
  unfold keyR at h
  injection h with h
  have : ∀ {a b : List Int}, a.map NestedKey.num = b.map NestedKey.num → a = b := by
    intro a
    induction a with
    | nil => intro b h; cases b with
      | nil => rfl
      | cons y b => cases h
    | cons x a ih => intro b h; cases b with
      | nil => cases h
      | cons y b =>
        rw [List.map_cons, List.map_cons] at h
        injection h with h1 h2
        injection h1 with h1
        rw [h1, ih h2]
  exact this h
theorem depth_nums (r : List Int) : NestedKey.depthAll (r.map .num) = 0 := by
  induction r with
  | nil => rfl
  | cons x r ih => rw [List.map_cons]; simp [NestedKey.depthAll, NestedKey.depth, ih]
theorem nums_all {h : Heap} : ∀ {r : List Int} {us : List Value}, Vals (r.map V.int) us → NestedAll h (r.map .num) us
  | [], _, .nil => .nil
  | x :: r, _, .cons q t => by
    obtain ⟨tk, rfl⟩ := (show ∃ t, _ = Value.int x t from q)
    exact .cons (.int _ _) (nums_all t)
theorem row_is {P : Program} {w : World} {H : Hp} {h : Heap} {a : Addr} {r : List Int} (hk : HOk P w H h) (e : RowAt H a r) : NestedIs h (keyR r) (.ref a) := by
  obtain ⟨_, its, rv, ⟨cls, dd, data, sl⟩, h1, h2, n, h3⟩ := (show ObjOk P w H h a (.tup (r.map V.int)) from hk a _ e)
  exact .tup h1 h2 h3 (by simpa using nums_all rv)
def rowD : KD (List Int) where
  key := keyR
  inj := fun _ _ h => keyR_inj h
  lies := RowAt
  is := fun hk e => ⟨row_is hk e, by unfold keyR; rw [NestedKey.depth, depth_nums]; decide⟩
  mono := fun m e => m _ _ e
def keyP (p : List Int × List Int) : NestedKey := .tup [keyR p.1, keyR p.2]
def pairD : KD (List Int × List Int) where
  key := keyP
  inj := fun a b h => by
    unfold keyP at h
    injection h with h
    injection h with h1 h2
    injection h2 with h2 h3
    exact Prod.ext (keyR_inj h1) (keyR_inj h2)
  lies := PairAt
  is := fun {P w H h a k} hk e => by
    obtain ⟨b, c, e1, e2, e3⟩ := e
    obtain ⟨_, its, rv, ⟨cls, dd, data, sl⟩, h1, h2, n, h3⟩ := (show ObjOk P w H h a (.tup [.ref b, .ref c]) from hk a _ e1)
    refine ⟨.tup h1 h2 h3 ?_, ?_⟩
    · cases rv with
      | cons r1 rv => cases rv with
        | cons r2 rv =>
          cases rv
          cases (show _ = Value.ref b from r1)
          cases (show _ = Value.ref c from r2)
          simpa using NestedAll.cons (row_is hk e2) (NestedAll.cons (row_is hk e3) NestedAll.nil)
    · unfold keyP keyR
      simp only [NestedKey.depth, NestedKey.depthAll, depth_nums]
      decide
  mono := fun m e => let ⟨b, c, e1, e2, e3⟩ := e; ⟨b, c, m _ _ e1, m _ _ e2, m _ _ e3⟩
theorem PairAt.same {H H' : Hp} {a : Addr} {p : List Int × List Int} (h : PairAt H a p) (s : Same H H') : PairAt H' a p := let ⟨b, c, e1, e2, e3⟩ := h; ⟨b, c, s _ _ e1, s _ _ e2, s _ _ e3⟩
end K73
end

section
set_option linter.all false
set_option maxRecDepth 100000
set_option maxHeartbeats 1000000
/-! rules for such dicts -/
namespace K73
open PySem PySem.Spec PyProof.Rows L2
section
variable {X : Cx} {κ : Type} [DecidableEq κ] {D : KD κ}
abbrev DAx (X : Cx) (D : KD κ) := DAt X.prog X.w D
abbrev DMx (X : Cx) (D : KD κ) := DMt X.prog X.w D
theorem nroom {A : Around} (hu : A.units + 64 < cLine) {P : Program} {w : World} : (nestedKind P w).room A.in1 := by
  show A.units + 1 + 8 < cLine
  omega
/-- {} -/
def tDNewN (P : Program) (w : World) (D : KD κ) : TE := fun _ H Q => ∀ p, H p = none → Q (.ref p) (upd H p (DO P w D p []))
theorem pe_dnewN {pos : Pos} : PE X (.Dict [] [] pos) (tDNewN X.prog X.w D) := ⟨fun pins s σ H Q Iv hw => by
  refine wpAny_Dict_empty ⟨.ref s.heap.objs.size, _, Iv.laid (a := s.heap.objs.size) (o := DO X.prog X.w D s.heap.objs.size []) (t' := s.toks) (fun _ _ q => Heap.get?_push_of_some _ q) (Nat.le_refl _) ?_, rfl, hw _ (Iv.hok.fresh (Nat.le_refl _))⟩
  exact DO.mk_ok (beq_eq_false_iff_ne.mpr (Ne.symm (Nat.ne_of_lt Iv.big))) (Nat.zero_le _) .nil (Heap.DictOfH.new s.heap)⟩
/-- k in d -/
def tDInN (P : Program) (w : World) (D : KD κ) (neg : Bool) (ty td : TE) : TE := fun σ H Q => ty σ H fun y H1 => td σ H1 fun x H2 => ∃ a kvs k b, x = .ref a ∧ y = .ref b ∧ DAt P w D H2 a kvs ∧ D.lies H2 b k ∧ Q (.bl (if neg then !(valV kvs k).isSome else (valV kvs k).isSome)) H2
theorem pc_dinN {i o : Expr} {ty td : TE} (hu : X.A.units + 64 < cLine) (hi : PE X i ty) (ho : PE X o td) : PC X .In i o (tDInN X.prog X.w D false ty td) := by
  refine ⟨fun pins s σ H Q Iv hw => ?_⟩
  refine thn (hi.run pins s σ H _ Iv hw) fun iv s1 ⟨y, H1, I1, ry, q1⟩ => thn (ho.run pins s1 σ H1 _ I1 q1) fun u s2 ⟨x, H2, I2, rx, a, kvs, k, b, ex, ey, d, l, q2⟩ => ?_
  subst ex ey
  obtain rfl : u = Value.ref a := rx
  obtain rfl : iv = Value.ref b := ry
  obtain ⟨hs, es, xs, ev, r, g⟩ := d.get I2.hok
  refine wpAny_in_heap (nroom hu) (D.is I2.hok l) hs g ?_
  have z := (r.val k).isSome_eq
  rw [Option.isSome_map, ev] at z
  rw [← z]
  exact ⟨.bl _, H2, I2.tok _, rfl, q2⟩
theorem pc_dnotinN {i o : Expr} {ty td : TE} (hu : X.A.units + 64 < cLine) (hi : PE X i ty) (ho : PE X o td) : PC X .NotIn i o (tDInN X.prog X.w D true ty td) := by
  refine ⟨fun pins s σ H Q Iv hw => ?_⟩
  refine thn (hi.run pins s σ H _ Iv hw) fun iv s1 ⟨y, H1, I1, ry, q1⟩ => thn (ho.run pins s1 σ H1 _ I1 q1) fun u s2 ⟨x, H2, I2, rx, a, kvs, k, b, ex, ey, d, l, q2⟩ => ?_
  subst ex ey
  obtain rfl : u = Value.ref a := rx
  obtain rfl : iv = Value.ref b := ry
  obtain ⟨hs, es, xs, ev, r, g⟩ := d.get I2.hok
  refine wpAny_notIn_heap (nroom hu) (D.is I2.hok l) hs g ?_
  have z := (r.val k).isSome_eq
  rw [Option.isSome_map, ev] at z
  rw [← z]
  exact ⟨.bl _, H2, I2.tok _, rfl, q2⟩
/-- d[k], there -/
def tDGetN (P : Program) (w : World) (D : KD κ) (td ty : TE) : TE := fun σ H Q => td σ H fun x H1 => ty σ H1 fun y H2 => ∃ a kvs k b v, x = .ref a ∧ y = .ref b ∧ DAt P w D H2 a kvs ∧ D.lies H2 b k ∧ valV kvs k = some v ∧ Q v H2
theorem pe_dgetN {o i : Expr} {pos : Pos} {td ty : TE} (hu : X.A.units + 64 < cLine) (ho : PE X o td) (hi : PE X i ty) (hs : NoSl i) : PE X (.Subscript o i pos) (tDGetN X.prog X.w D td ty) := by
  refine ⟨fun pins s σ H Q Iv hw => ?_⟩
  refine subD_of PySem.F.slot_dict_getitem.lookup hs (thn (ho.run pins s σ H _ Iv hw) fun u s1 ⟨x, H1, I1, rx, q1⟩ => thn (hi.run pins s1 σ H1 _ I1 q1) fun iv s2 ⟨y, H2, I2, ry, a, kvs, k, b, v, ex, ey, d, l, hv, q2⟩ => ?_)
  subst ex ey
  obtain rfl : u = Value.ref a := rx
  obtain rfl : iv = Value.ref b := ry
  obtain ⟨_, es, xs, ev, r, g⟩ := d.get I2.hok
  obtain ⟨w', hw', rw'⟩ := RelO.some_of (v := v) (o := (atKey xs (D.key k)).map (·.2)) (by rw [← hv, ← ev]; exact r.val k)
  obtain ⟨p, hp, hp2⟩ := Option.map_eq_some_iff.mp hw'
  refine ⟨g.typeIs, wpAny_getItem_heap (nroom hu) (D.is I2.hok l) g hp ?_⟩
  rw [hp2]
  exact ⟨v, H2, I2.tok _, rw', q2⟩
/-- d[k] = v -/
def sDPutN (P : Program) (w : World) (D : KD κ) (td ty tv : TE) : TS := fun E σ H => tv σ H fun v H1 => td σ H1 fun x H2 => ty σ H2 fun y H3 => ∃ a kvs k b, x = .ref a ∧ y = .ref b ∧ DMt P w D H3 a kvs ∧ D.lies H3 b k ∧ kvs.length < sizeLine ∧
  ∀ o, DMt P w D (upd H3 a o) a (putK kvs k v) → E.nx σ (upd H3 a o)
theorem put_len {es : Es κ} {k : κ} {a : Addr} {v : V} : (putE es k a v).length ≤ es.length + 1 := by
  unfold putE
  split
  · rw [List.length_map]; omega
  · rw [List.length_append]; simp
theorem dmt_put {P : Program} {w : World} {H : Hp} {a b : Addr} {es : Es κ} {k : κ} {v : V} (h : H a = some (DO P w D a es)) (l : ∀ e ∈ es, D.lies H e.2.1 e.1) (lb : D.lies H b k) : DMt P w D (upd H a (DO P w D a (putE es k b v))) a (putK (esV es) k v) := by
  have tp : ∀ c xs, H c = some (.tup xs) → upd H a (DO P w D a (putE es k b v)) c = some (.tup xs) := fun c xs e => by
    rw [upd_ne (ne_of e h (fun z => nomatch z))]
    exact e
  refine ⟨_, upd_same, esV_putE es k b v, fun e he => D.mono tp ?_⟩
  rcases putE_mem he with ⟨u, hu⟩ | ⟨e1, e2⟩
  · have q := l (e.1, e.2.1, u) hu
    exact q
  · rw [e1, e2]; exact lb
theorem ps_dputN {o i value : Expr} {pos pos' : Pos} {td ty tv : TE} (hu : X.A.units + 64 < cLine) (ho : PE X o td) (hi : PE X i ty) (hv : PE X value tv) (hs : swapsWith value (some (.Subscript o i pos')) pos.line X.env = pure false) :
    PS X (.Assign [.Subscript o i pos'] value pos) (sDPutN X.prog X.w D td ty tv) := by
  refine ⟨fun pins s σ H E Iv hw => ?_⟩
  refine wpAny_Assign_Subscript (thn (hv.run pins s σ H _ Iv hw) fun r s1 ⟨v, H1, I1, rv, q1⟩ => thn (ho.run pins s1 σ H1 _ I1 q1) fun u s2 ⟨x, H2, I2, rx, q2⟩ => thn (hi.run pins s2 σ H2 _ I2 q2) fun iv s3 ⟨y, H3, I3, ry, a, kvs, k, b, ex, ey, d, l, hl, q3⟩ => ?_) hs
  subst ex ey
  obtain rfl : u = Value.ref a := rx
  obtain rfl : iv = Value.ref b := ry
  obtain ⟨es, he, ev, lies⟩ := d
  obtain ⟨h1, h2, xs, re, g⟩ := DO.ok (I3.hok a _ he) lies I3.hok
  have lx : es.length = xs.length := Paired.length re
  have le : es.length = kvs.length := by rw [← ev]; simp [esV]
  subst ev
  refine wpAny_setItem_heap (hsz := by rw [← lx]; exact h2) (nroom hu) (D.is I3.hok l) g fun h' g' hs' => ?_
  refine ⟨σ, _, d_write (ob := DO X.prog X.w D a (putE es k b v)) I3 (by rw [he]; exact True.intro) hs' ?_ ?_, q3 _ (dmt_put he lies l)⟩
  · obtain ⟨q, _, _, hq, _⟩ := g'
    exact ⟨q, hq⟩
  · exact DO.mk_ok h1 (by have := put_len (es := es) (k := k) (a := b) (v := v); omega) (re.put k b rv) g'
/-- d.get(k, x) -/
def tDGet2N (P : Program) (w : World) (D : KD κ) (td ty tx : TE) : TE := fun σ H Q => td σ H fun x H1 => ∃ a kvs0, x = .ref a ∧ DAt P w D H1 a kvs0 ∧ ty σ H1 fun y H2 => tx σ H2 fun z H3 => ∃ kvs k b, y = .ref b ∧ DAt P w D H3 a kvs ∧ D.lies H3 b k ∧ Q ((valV kvs k).getD z) H3
theorem pe_dget2N {o e f : Expr} {apos cpos : Pos} {td ty tx : TE} (hu : X.A.units + 64 < cLine) (ho : PE X o td) (he : PE X e ty) (hf : PE X f tx) (m : M2 X o "get" apos e f cpos) : PE X (.Call (.Attribute o "get" apos) [e, f] [] cpos) (tDGet2N X.prog X.w D td ty tx) := by
  refine ⟨fun pins s σ H Q Iv hw => ?_⟩
  refine wpAny_Call_method m.base m.few m.line PySem.F.plainAttrs_dict PySem.F.slot_dict_get PySem.F.type_dict_get (thn (ho.run pins s σ H _ Iv hw) fun u s1 ⟨x, H1, I1, rx, a, kvs0, ex, d0, q1⟩ => ?_)
  subst ex
  obtain rfl : u = Value.ref a := rx
  obtain ⟨_, _, _, _, _, g0⟩ := d0.get I1.hok
  refine ⟨g0.typeIs, d0.nodict I1.hok, ?_⟩
  rw [m.trees]
  refine Calls.callWith_builtin rfl (Calls.evalArgs_plain (Calls.spliced_cons (thn (he.run pins s1 σ H1 _ I1 q1) fun iv s2 ⟨y, H2, I2, ry, q2⟩ =>
    Calls.spliced_cons (thn (hf.run pins s2 σ H2 _ I2 q2) fun fv s3 ⟨z, H3, I3, rz, kvs, k, b, ey, d, l, q3⟩ => Calls.spliced_nil ?_))))
  subst ey
  obtain rfl : iv = Value.ref b := ry
  obtain ⟨hs, es, xs, ev, r, g⟩ := d.get I3.hok
  refine call_meetsIn PySem.F.slot_dict_get g.typeIs PySem.F.entry_dict_get (PySem.F.args_dict_get_3 _ _ _) (meetsH_dict_get_default (nestedKind X.prog X.w) a b hs fv) ⟨nroom hu, D.key k, xs, D.is I3.hok l, g, _, H3, I3.tok _, ?_, q3⟩
  rw [← ev]
  exact (r.val k).getD rz
/-- d.setdefault(k, x) -/
def tDSetdN (P : Program) (w : World) (D : KD κ) (td ty tx : TE) : TE := fun σ H Q => td σ H fun x H1 => ∃ a kvs0, x = .ref a ∧ DAt P w D H1 a kvs0 ∧ ty σ H1 fun y H2 => tx σ H2 fun z H3 => ∃ kvs k b, y = .ref b ∧ DMt P w D H3 a kvs ∧ D.lies H3 b k ∧ kvs.length < sizeLine ∧
  (∀ v, valV kvs k = some v → Q v H3) ∧ (valV kvs k = none → ∀ o, DMt P w D (upd H3 a o) a (putK kvs k z) → Q z (upd H3 a o))
theorem pe_dsetdN {o e f : Expr} {apos cpos : Pos} {td ty tx : TE} (hu : X.A.units + 64 < cLine) (ho : PE X o td) (he : PE X e ty) (hf : PE X f tx) (m : M2 X o "setdefault" apos e f cpos) : PE X (.Call (.Attribute o "setdefault" apos) [e, f] [] cpos) (tDSetdN X.prog X.w D td ty tx) := by
  refine ⟨fun pins s σ H Q Iv hw => ?_⟩
  refine wpAny_Call_method m.base m.few m.line PySem.F.plainAttrs_dict PySem.F.slot_dict_setdefault PySem.F.type_dict_setdefault (thn (ho.run pins s σ H _ Iv hw) fun u s1 ⟨x, H1, I1, rx, a, kvs0, ex, d0, q1⟩ => ?_)
  subst ex
  obtain rfl : u = Value.ref a := rx
  obtain ⟨_, _, _, _, _, g0⟩ := d0.get I1.hok
  refine ⟨g0.typeIs, d0.nodict I1.hok, ?_⟩
  rw [m.trees]
  refine Calls.callWith_builtin rfl (Calls.evalArgs_plain (Calls.spliced_cons (thn (he.run pins s1 σ H1 _ I1 q1) fun iv s2 ⟨y, H2, I2, ry, q2⟩ =>
    Calls.spliced_cons (thn (hf.run pins s2 σ H2 _ I2 q2) fun fv s3 ⟨z, H3, I3, rz, kvs, k, b, ey, d, l, hl, q3, q4⟩ => Calls.spliced_nil ?_))))
  subst ey
  obtain rfl : iv = Value.ref b := ry
  obtain ⟨es, hE, ev, lies⟩ := d
  obtain ⟨h1, h2, xs, re, g⟩ := DO.ok (I3.hok a _ hE) lies I3.hok
  have lx : es.length = xs.length := Paired.length re
  have le : es.length = kvs.length := by rw [← ev]; simp [esV]
  subst ev
  have rv := re.val k
  refine call_setdefault_heap (hsz := by rw [← lx]; exact h2) (nroom hu) (D.is I3.hok l) h1 g (fun p hp => ?_) fun hn h' g' hs' => ?_
  · rw [hp] at rv
    cases hv : valV (esV es) k with
    | none => rw [hv] at rv; exact (show False from rv).elim
    | some v =>
      rw [hv] at rv
      exact ⟨v, H3, I3.tok _, rv, q3 v hv⟩
  · have hv : valV (esV es) k = none := by
      rw [hn] at rv
      cases hv : valV (esV es) k with
      | none => rfl
      | some v => rw [hv] at rv; exact (show False from rv).elim
    refine ⟨z, _, d_write (ob := DO X.prog X.w D a (putE es k b z)) I3 (by rw [hE]; exact True.intro) hs' ?_ ?_, rz, q4 hv _ (dmt_put hE lies l)⟩
    · obtain ⟨q, _, _, hq, _⟩ := g'
      exact ⟨q, hq⟩
    · exact DO.mk_ok h1 (by have := put_len (es := es) (k := k) (a := b) (v := z); omega) (re.put k b rz) g'
/-- len(d), isinstance(d, dict) -/
theorem call_lenN : CallR X (.builtin "len") (fun xs H Q => ∃ a kvs, xs = [.ref a] ∧ DAt X.prog X.w D H a kvs ∧ kvs.length ≤ sizeLine ∧ Q (.int (kvs.length : Nat)) H) := by
  intro pins s σ H xs us Q Iv r h
  obtain ⟨a, kvs, rfl, d, hz, q⟩ := h
  obtain ⟨u, rfl, rx⟩ := vals1 r
  obtain rfl : u = .ref a := rx
  obtain ⟨hs, es, ys, ev, re, g⟩ := d.get Iv.hok
  have hl : kvs.length = ys.length := by rw [← ev, ← Paired.length re]; simp [esV]
  refine call_len_dictH hs g (by rw [← hl]; rw [sizeLine_eq] at hz; omega) ?_
  rw [← hl]
  exact ⟨.int ((kvs.length : Nat) : Int), H, Iv.tok _, ⟨_, rfl⟩, q⟩
theorem call_isiN : CallR X (.builtin "isinstance") (fun xs H Q => ∃ a kvs, xs = [.ref a, .ty "dict"] ∧ DAt X.prog X.w D H a kvs ∧ Q (.bl true) H) := by
  intro pins s σ H xs us Q Iv r h
  obtain ⟨a, kvs, rfl, d, q⟩ := h
  obtain ⟨u1, u2, rfl, r1, r2⟩ := vals2 r
  obtain rfl : u1 = .ref a := r1
  obtain rfl : u2 = .type "dict" := r2
  obtain ⟨hs, es, ys, ev, re, o, en, ep, g1, g2, _⟩ := d.get Iv.hok
  exact PySem.W.kia_one PySem.W.kitx_dict Iv.kIn ⟨o, g1, g2.1⟩ (kit_ty (a := "dict") (b := "dict") (r := true) (by decide +kernel)) (fun z => nomatch z) fun tk => ⟨.bl true, H, Iv.tok tk, rfl, q⟩
end
end K73
end

section
set_option linter.all false
set_option maxRecDepth 100000
set_option maxHeartbeats 1000000
/-! such dicts walked; a dict comprehension that makes one -/
namespace K73
open PySem PySem.Spec PyProof.Rows L2
section
variable {κ : Type} [DecidableEq κ] {D : KD κ} {P : Program} {w : World} {K : PySem.W.Frag} {tg : Expr} {d : Addr} {o : Obj} {es : Es κ}
/-- what a locked dict holds, place by place -/
structure Ent2 (P : Program) (w : World) (D : KD κ) (h : Heap) (d : Addr) (o : Obj) (es : Es κ) (en : Array DictEntry) (ep : Nat) : Prop where
  low : (d == sysModules) = false
  raw : h.DictRaw d en ep
  sz : en.size = es.length
  ent : ∀ (i : Nat) (hi : i < en.size), ∃ e, es[i]? = some e ∧ en[i].key = .ref e.2.1 ∧ RelV e.2.2 en[i].val
theorem inv_frzN {X : Cx} {pins : List (Addr × Obj)} {σ : L2.St} {H : Hp} {s : Shared} (Iv : Inv X pins σ H s) (hd : H d = some (.frz o (DO X.prog X.w D d es))) : ∃ en ep, o.data = .dict en ep ∧ Ent2 X.prog X.w D s.heap d o es en ep := by
  obtain ⟨g, ⟨h1, h2, xs, r, o', en, ep, g1, g2, g3, g4, g5⟩, _⟩ := Iv.hok d _ hd
  rw [g] at g1
  cases g1
  have l1 : en.size = xs.length := by
    have := congrArg List.length g4
    rw [List.length_map, Array.length_toList] at this
    exact this
  have l2 : es.length = xs.length := Paired.length r
  refine ⟨en, ep, g3, h1, ⟨o, g, g2, g3⟩, by omega, fun i hi => ?_⟩
  obtain ⟨e, he⟩ : ∃ e, es[i]? = some e := ⟨es[i]'(by omega), List.getElem?_eq_getElem (by omega)⟩
  obtain ⟨x, hx, e1, e2, e3⟩ := paired_get r he
  have q : en[i]? = some (entryOfKey (nestedKind X.prog X.w) x) := by
    rw [← Array.getElem?_toList, g4, List.getElem?_map, hx]
    rfl
  rw [Array.getElem?_eq_getElem hi] at q
  have q' := Option.some.inj q
  refine ⟨e, he, ?_, ?_⟩
  · rw [q', e2]; rfl
  · rw [q']; exact e3
def ItkN (P : Program) (w : World) (D : KD κ) (d : Addr) (o : Obj) (es : Es κ) : It :=
  ⟨fun i H => H d = some (.frz o (DO P w D d es)) ∧ i < es.length, fun i H x H' => H' = H ∧ ∃ e, es[i]? = some e ∧ x = .ref e.2.1, fun i H => H d = some (.frz o (DO P w D d es)) ∧ es.length ≤ i⟩
def ItiN (P : Program) (w : World) (D : KD κ) (d : Addr) (o : Obj) (es : Es κ) : It :=
  ⟨fun i H => H d = some (.frz o (DO P w D d es)) ∧ i < es.length, fun i H x H' => ∃ T e, es[i]? = some e ∧ x = .ref T ∧ H T = none ∧ H' = upd H T (.tup [.ref e.2.1, e.2.2]), fun i H => H d = some (.frz o (DO P w D d es)) ∧ es.length ≤ i⟩
theorem turn_keysN {en : Array DictEntry} {ep : Nat} (it : Addr) (hod : o.data = .dict en ep) : Turn P w K tg (ItkN P w D d o es) [it] it (fun i h => h.IsKeyIter it d i es.length ep) where
  mem := List.mem_singleton.mpr rfl
  obj := fun i h st b hb => by
    obtain rfl : b = it := List.mem_singleton.mp hb
    obtain ⟨oi, e, c, dd⟩ := st
    exact ⟨oi, e, fun v z => by rw [dd] at z; cases z⟩
  keep := fun i h h' st k => let ⟨oi, e, c, dd⟩ := st; ⟨oi, k it (List.mem_singleton.mpr rfl) _ e, c, dd⟩
  item := by
    intro X hP hw hK hc i pins s σ H E Iv hf st hg
    subst hP hw hK
    obtain ⟨hd, hi⟩ := hg
    obtain ⟨f0, f1, f2, f3, f4, f5⟩ := hf it (List.mem_singleton.mpr rfl)
    obtain ⟨en', ep', hdt, N⟩ := inv_frzN Iv hd
    obtain ⟨rfl, rfl⟩ := dict_ep hod hdt
    rw [← N.sz] at st hi
    obtain ⟨e, he, ek, ev⟩ := N.ent i hi
    refine wpAny_pyNext_keys_item_raw st N.raw hi fun h' st' sb => ?_
    have I1 : Inv X pins σ H { s with heap := h' } := Iv.turned (t' := s.toks) (fun b ob hb q => (sb.2 b hb).trans q) f0 f1 f3 f4 f5
    obtain ⟨oi, e1, c, dd⟩ := id st'
    refine ⟨_, rfl, go_of (s := { s with heap := h' }) e1 c dd (by decide) ⟨.ref e.2.1, H, I1, ek, ⟨rfl, e, he, rfl⟩, ?_, fun b hb => (hf b hb).1⟩⟩
    show h'.IsKeyIter it d (i + 1) es.length _
    rw [← N.sz]
    exact st'
  done := by
    intro X hP hw hK hc i pins s σ H E Iv hf st hg
    subst hP hw hK
    obtain ⟨hd, hi⟩ := hg
    obtain ⟨f0, f1, f2, f3, f4, f5⟩ := hf it (List.mem_singleton.mpr rfl)
    obtain ⟨en', ep', hdt, N⟩ := inv_frzN Iv hd
    obtain ⟨rfl, rfl⟩ := dict_ep hod hdt
    rw [← N.sz] at st hi
    exact wpAny_pyNext_keys_end_raw (Iv.ok.hd hc) st N.raw hi fun h' eb => ⟨rfl, Iv.turned (t' := s.toks) (fun b ob hb q => eb b ob hb q) f0 f1 f3 f4 f5⟩
  self := fun A i s Q E st h => wpAny_pyIter_keyiter st h
theorem turn_itemsN {elts : List Expr} {kk : Nat} {tpos : Pos} {en : Array DictEntry} {ep : Nat} (it : Addr) (hod : o.data = .dict en ep) :
    Turn P w K (.Tuple elts kk tpos) (ItiN P w D d o es) [it] it (fun i h => ∃ ok ov, IsItemIter h it d i es.length ep ok ov) where
  mem := List.mem_singleton.mpr rfl
  obj := fun i h st b hb => by
    obtain rfl : b = it := List.mem_singleton.mp hb
    obtain ⟨ok, ov, e⟩ := st
    exact ⟨_, e, fun v z => nomatch z⟩
  keep := fun i h h' st k => let ⟨ok, ov, e⟩ := st; ⟨ok, ov, k it (List.mem_singleton.mpr rfl) _ e⟩
  item := by
    intro X hP hw hK hc i pins s σ H E Iv hf st hg
    subst hP hw hK
    obtain ⟨hd, hi⟩ := hg
    obtain ⟨en', ep', hdt, N⟩ := inv_frzN Iv hd
    obtain ⟨rfl, rfl⟩ := dict_ep hod hdt
    obtain ⟨ok, ov, st⟩ := st
    rw [← N.sz] at st hi
    obtain ⟨e, he, ek, ev⟩ := N.ent i hi
    have hlt : it < s.heap.objs.size := Heap.lt_size st
    refine wpAny_pyNext_items_item_raw st N.raw hi fun h' st' hT hz hk => ?_
    refine ⟨_, rfl, wpAny_letOwnedTupleGo_items (s := { s with heap := h' }) st' fun h'' st2 sb => ?_⟩
    have hT2 := (sb.2 _ (Nat.ne_of_gt hlt)).trans hT
    have new : ObjOk X.prog X.w (upd H s.heap.objs.size (.tup [.ref e.2.1, e.2.2])) h'' s.heap.objs.size (.tup [.ref e.2.1, e.2.2]) :=
      ⟨by show 2 ≤ sizeLine; decide, [en'[i].key, en'[i].val], .cons (show RelV (.ref e.2.1) en'[i].key from ek) (.cons ev .nil), ⟨_, hT2, rfl, _, rfl⟩⟩
    have I1 := Iv.turnedNew (t' := s.toks) (ch := [it]) (h' := h'') (fun b ob hb q => (sb.2 b (fun z => hb (List.mem_singleton.mpr z))).trans (hk b ob (fun z => hb (List.mem_singleton.mpr z)) q)) hf (Nat.le_refl _) new
    refine ⟨.ref s.heap.objs.size, _, I1, rfl, ⟨_, e, he, rfl, Iv.hok.fresh (Nat.le_refl _), rfl⟩, ⟨en'[i].key, en'[i].val, ?_⟩, fun b hb => ?_⟩
    · rw [← N.sz]; exact st2
    · obtain rfl : b = it := List.mem_singleton.mp hb
      rw [upd_ne (Nat.ne_of_lt hlt)]
      exact (hf b (List.mem_singleton.mpr rfl)).1
  done := by
    intro X hP hw hK hc i pins s σ H E Iv hf st hg
    subst hP hw hK
    obtain ⟨hd, hi⟩ := hg
    obtain ⟨f0, f1, f2, f3, f4, f5⟩ := hf it (List.mem_singleton.mpr rfl)
    obtain ⟨en', ep', hdt, N⟩ := inv_frzN Iv hd
    obtain ⟨rfl, rfl⟩ := dict_ep hod hdt
    obtain ⟨ok, ov, st⟩ := st
    rw [← N.sz] at st hi
    exact wpAny_pyNext_items_end_raw (Iv.ok.hd hc) st N.raw hi fun h' eb => ⟨rfl, Iv.turned (t' := s.toks) (fun b ob hb q => eb b ob hb q) f0 f1 f3 f4 f5⟩
  self := fun A i s Q E st h => let ⟨_, _, e⟩ := st; PySem.W.kcp_self e h
end
section
variable {X : Cx} {κ : Type} [DecidableEq κ] {D : KD κ} {tg e : Expr} {td : TE} {apos cpos : Pos}
/-- for k in d, d locked -/
def iKeysN (P : Program) (w : World) (D : KD κ) (td : TE) : TI := fun σ H R => td σ H fun x H1 => ∃ d o es, x = .ref d ∧ H1 d = some (.frz o (DO P w D d es)) ∧ R (ItkN P w D d o es) H1
theorem pi_keysN (he : PE X e td) : PI X tg e (iKeysN X.prog X.w D td) := by
  refine ⟨fun pins s σ H R Iv hw => thn (he.run pins s σ H _ Iv hw) fun u s1 ⟨x, H1, I1, rx, d, o, es, ex, hd, q⟩ => ?_⟩
  subst ex
  obtain rfl : u = Value.ref d := rx
  obtain ⟨en, ep, hdt, N⟩ := inv_frzN I1 hd
  refine wpAny_pyIter_dict_raw N.low N.raw (pi_one (tk := s1.toks) I1 _ (turn_keysN _ hdt) ⟨_, Heap.get?_push_size _ rfl, rfl, ?_⟩ q)
  rw [N.sz] <;> rfl
/-- for k, v in d.items(), d locked; lk: or locked from here on -/
def iItemsN (P : Program) (w : World) (D : KD κ) (lk : Bool) (td : TE) : TI := fun σ H R => td σ H fun x H1 => ∃ d es, x = .ref d ∧ (match lk with
  | false => ∃ o, H1 d = some (.frz o (DO P w D d es)) ∧ R (ItiN P w D d o es) H1
  | true => H1 d = some (DO P w D d es) ∧ ∀ o, R (ItiN P w D d o es) (upd H1 d (.frz o (DO P w D d es))))
theorem items_come {elts : List Expr} {kk : Nat} {tpos : Pos} {pins : List (Addr × Obj)} {σ : L2.St} {H1 : Hp} {s1 : Shared} {R : It → Hp → Prop} {d : Addr} {o : Obj} {es : Es κ} (I1 : Inv X pins σ H1 s1) (hd : H1 d = some (.frz o (DO X.prog X.w D d es)))
    (q : R (ItiN X.prog X.w D d o es) H1) : wpAny (model X.prog X.w) X.A (callWith cpos (.builtin "dict.items") [.ref d] [] []) (fun v s2 => wpAny (model X.prog X.w) X.A (pyIter v) (PIE X pins σ (.Tuple elts kk tpos) R) X.xe s2) X.xe s1 := by
  obtain ⟨en, ep, hdt, N⟩ := inv_frzN I1 hd
  have I2 : Inv X pins σ H1 { s1 with heap := s1.heap.push { cls := .type "dict_items", data := .fields #[.ref d] } } := I1.kept (t' := s1.toks) fun b ob q => Heap.get?_push_of_some _ q
  have fin : wpAny (model X.prog X.w) X.A (pyIter (.ref s1.heap.objs.size)) (PIE X pins σ (.Tuple elts kk tpos) R) X.xe { s1 with heap := s1.heap.push { cls := .type "dict_items", data := .fields #[.ref d] } } := by
    refine wpAny_pyIter_items_raw (d := d) (es := en) (ep := ep) ⟨_, Heap.get?_push_size _ rfl, rfl, rfl⟩ (N.raw.at fun o' e' => Heap.get?_push_of_some _ e') (pi_one (tk := s1.toks) I2 _ (turn_itemsN _ hdt) ⟨.none, .none, ?_⟩ q)
    rw [← N.sz]
    exact Heap.get?_push_size _ rfl
  exact method_meetsIn F.slot_dict_items F.entry_dict_items rfl (PySem.evalArgs_none ⟨rfl, N.raw.typeIs, F.args_dict_items_1 _, _, meets_dict_items_raw d N.low, ⟨en, ep, N.raw⟩, fin⟩)
theorem pi_itemsN {elts : List Expr} {kk : Nat} {tpos : Pos} (lk : Bool) (he : PE X e td) (hbase : attributeBase e "items" X.env (eval e X.env) = eval e X.env := by rfl) (hline : (apos.endLine == cpos.line) = true := by rfl) :
    PI X (.Tuple elts kk tpos) (.Call (.Attribute e "items" apos) [] [] cpos) (iItemsN X.prog X.w D lk td) := by
  refine ⟨fun pins s σ H R Iv hw => wpAny_Call_method (T := "dict") (id := "dict.items") hbase rfl hline F.plainAttrs_dict F.slot_dict_items F.type_dict_items (thn (he.run pins s σ H _ Iv hw) fun u s1 ⟨x, H1, I1, rx, d, es, ex, q⟩ => ?_)⟩
  subst ex
  obtain rfl : u = Value.ref d := rx
  cases lk with
  | false =>
    obtain ⟨o, hd, q⟩ := q
    obtain ⟨en, ep, hdt, N⟩ := inv_frzN I1 hd
    obtain ⟨o2, g1, g2, g3⟩ := id N.raw
    exact ⟨N.raw.typeIs, fun b z => by cases z; exact ⟨o2, g1, g2.2.1⟩, items_come I1 hd q⟩
  | true =>
    obtain ⟨hd, q⟩ := q
    obtain ⟨o, I2⟩ := I1.lock hd True.intro
    obtain ⟨en, ep, hdt, N⟩ := inv_frzN I2 upd_same
    obtain ⟨o2, g1, g2, g3⟩ := id N.raw
    exact ⟨N.raw.typeIs, fun b z => by cases z; exact ⟨o2, g1, g2.2.1⟩, items_come I2 upd_same (q o)⟩
end
end K73
end

section
set_option linter.all false
set_option maxRecDepth 100000
set_option maxHeartbeats 2000000
/-! a dict comprehension whose keys are rows, or pairs of rows -/
namespace K73
open PySem PySem.Spec PyProof.Rows L2
section
variable {X : Cx} {κ : Type} [DecidableEq κ] {D : KD κ}
theorem dictSetN {pins : List (Addr × Obj)} {σ : L2.St} {H : Hp} {s : Shared} {E : Value → Shared → Prop} {a b : Addr} {kvs : List (κ × V)} {k : κ} {v : V} {r : Value} {Q : Unit → Shared → Prop} (hu : X.A.units + 64 < cLine) (Iv : Inv X pins σ H s)
    (d : DMt X.prog X.w D H a kvs) (l : D.lies H b k) (hl : kvs.length < sizeLine) (rv : RelV v r) (hq : ∀ s' o, Inv X pins σ (upd H a o) s' → DMt X.prog X.w D (upd H a o) a (putK kvs k v) → Q () s') : wpAny (model X.prog X.w) X.A (dictSet a (.ref b) r) Q E s := by
  obtain ⟨es, he, ev, lies⟩ := d
  obtain ⟨h1, h2, xs, re, g⟩ := DO.ok (Iv.hok a _ he) lies Iv.hok
  have lx : es.length = xs.length := Paired.length re
  have le : es.length = kvs.length := by rw [← ev]; simp [esV]
  subst ev
  refine wpAny_dictSet_heap (hsz := by rw [← lx]; exact h2) (show X.A.units + 8 < cLine by omega) (D.is Iv.hok l) g fun h' g' hs' => ?_
  refine hq _ (DO X.prog X.w D a (putE es k b v)) (d_write Iv (by rw [he]; exact True.intro) hs' ?_ ?_) (dmt_put he lies l)
  · obtain ⟨q, _, _, hq, _⟩ := g'
    exact ⟨q, hq⟩
  · exact DO.mk_ok h1 (by have := put_len (es := es) (k := k) (a := b) (v := v); omega) (re.put k b rv) g'
/-- what a turn of it asks; Dd the new dict -/
def DcTurn (P : Program) (w : World) (D : KD κ) (g : TG) (tt : TT) (tk tv : TE) (vs : List Nat) (σ : L2.St) (Dd : Addr) (Nx : Hp → Prop) (x : V) (H' : Hp) : Prop :=
  g x (wipe σ vs) H' fun σ2 H2 => wipe σ2 vs = wipe σ vs ∧ tt σ2 H2 fun b H3 => if b = true then tk σ2 H3 fun y H4 => tv σ2 H4 fun z H5 => ∃ kvs k q, y = .ref q ∧ D.lies H5 q k ∧ DMt P w D H5 Dd kvs ∧ kvs.length < sizeLine ∧
    ∀ o, DMt P w D (upd H5 Dd o) Dd (putK kvs k z) → Nx (upd H5 Dd o) else Nx H3
def tDcN (P : Program) (w : World) (D : KD κ) (wi : TI) (g : TG) (tt : TT) (tk tv : TE) (vs : List Nat) : TE := fun σ H Q => wi σ H fun J H1 => ∀ Dd, H1 Dd = none → ∃ W : Nat → Nat → Hp → Prop, (∃ m, W 0 m (upd H1 Dd (DO P w D Dd []))) ∧ ∀ i m H, W i m H →
  (J.stop i H ∧ Q (.ref Dd) H) ∨ (J.go i H ∧ ∃ Nx : Hp → Prop, (∀ H', Nx H' → ∃ m', m' < m ∧ W (i + 1) m' H') ∧ ∀ x H', J.yld i H x H' → DcTurn P w D g tt tk tv vs σ Dd Nx x H')
/-- a context of the block, for every part of it -/
abbrev Blk (X : Cx) (scope : Scope) (C : Cx → Prop) : Prop := ∀ (s : Shared) (H : Hp) (a : Addr) (cl : List (Str × Addr)) (fp : List Addr), C (X.blk s H scope (compEnvC scope cl a X.env) fp)
theorem pe_dcN {kx vx tg iter : Expr} {ifs : List Expr} {scope : Scope} {own : List (Str × Nat)} {pos : Pos} {wi : TI} {g : TG} {tt : TT} {tk tv : TE} (hu : X.A.units + 64 < cLine) (hc : X.calm = true) (hN : X.N.Nodup) (hi : PI X tg iter wi) (ok : BlkOk X.N X.env.scope scope own)
    (hg : Blk X scope fun Y => PG Y tg g) (ht : Blk X scope fun Y => PTs Y ifs tt) (hk : Blk X scope fun Y => PE Y kx tk) (he : Blk X scope fun Y => PE Y vx tv) (hs : ∀ x, foldedSetIterable iter X.env x = pure x := by intro _; rfl) :
    PE X (.DictComp kx vx [⟨tg, iter, ifs, 0⟩] scope pos) (tDcN X.prog X.w D wi g tt tk tv (own.map (·.2))) := by
  refine ⟨fun pins sA σ HA Q IA hw => ?_⟩
  rw [arm_eval_DictComp]
  have caps : ∀ y ∈ scope.names, y.2 = .free → ∃ c, X.env.cells.lookup y.1 = some c := fun y hy e =>
    (ok.free y hy e).elim (fun z => IA.ok.has _ (.inl z)) fun z => IA.ok.has _ (.inr z)
  refine wpAny_comprehension_free rfl hs (closure_ok caps) ok.kind (fun y hy e => by rw [ok.uniq y hy, e]) (thn (hi.run pins sA σ HA _ IA hw) fun xv sB hx => thn hx fun itv sC hC => ?_)
  obtain ⟨it, fp, tn, J, HC, rfl, IC, T, stC, fC, q⟩ := hC
  refine wpAny_newObj_type (newEnv_comp ?_)
  -- the new dict lies at Dd
  generalize eD : sC.heap.objs.size = Dd
  have nD : HC Dd = none := IC.hok.fresh (Nat.le_of_eq eD)
  obtain ⟨W, ⟨m0, w0⟩, turn⟩ := q Dd nD
  generalize eS : ({ sC with heap := sC.heap.push { cls := .type "dict", data := .dict #[] } } : Shared) = sD
  have ID : Inv X pins σ (upd HC Dd (DO X.prog X.w D Dd [])) sD := by
    rw [← eS]
    refine IC.laid (t' := sC.toks) (fun b o e => Heap.get?_push_of_some _ e) (Nat.le_of_eq eD) ?_
    rw [← eD]
    exact DO.mk_ok (beq_eq_false_iff_ne.mpr (Ne.symm (Nat.ne_of_lt IC.big))) (Nat.zero_le _) .nil (Heap.DictOfH.new sC.heap)
  have hpD : sD.heap = sC.heap.push { cls := .type "dict", data := .dict #[] } := by rw [← eS]
  have small : ∀ b ∈ fp, b < sC.heap.objs.size := fun b hb => let ⟨o, e, _⟩ := T.obj _ _ stC b hb; Heap.lt_size e
  have fD : ∀ b ∈ fp, FpOk X pins (upd HC Dd (DO X.prog X.w D Dd [])) b ∧ b < sD.heap.objs.size := fun b hb => by
    have lt := small b hb
    refine ⟨⟨?_, (fC b hb).2⟩, by rw [hpD, Heap.size_push]; exact Nat.lt_succ_of_lt lt⟩
    rw [upd_ne (by rw [← eD]; exact Nat.ne_of_lt lt)]
    exact (fC b hb).1
  have stD : tn 0 sD.heap := T.keep _ _ _ stC fun b _ o e => by rw [hpD]; exact Heap.get?_push_of_some _ e
  have IE := block_start ID ok hN fD
  -- the parts, in the block's context
  have pg := hg sD (upd HC Dd (DO X.prog X.w D Dd [])) sD.heap.objs.size (cellsFrom (sD.heap.objs.size + 1) scope.names (cloFrom X.env.cells scope.names [])) fp
  have pt := ht sD (upd HC Dd (DO X.prog X.w D Dd [])) sD.heap.objs.size (cellsFrom (sD.heap.objs.size + 1) scope.names (cloFrom X.env.cells scope.names [])) fp
  have pk := hk sD (upd HC Dd (DO X.prog X.w D Dd [])) sD.heap.objs.size (cellsFrom (sD.heap.objs.size + 1) scope.names (cloFrom X.env.cells scope.names [])) fp
  have pv := he sD (upd HC Dd (DO X.prog X.w D Dd [])) sD.heap.objs.size (cellsFrom (sD.heap.objs.size + 1) scope.names (cloFrom X.env.cells scope.names [])) fp
  show codeAny _ _ (.compStart (.DictComp kx vx [⟨tg, iter, ifs, 0⟩] scope pos) 0 (.ref it) (.ref Dd) (compEnvC scope (cellsFrom (sD.heap.objs.size + 1) scope.names (cloFrom X.env.cells scope.names [])) sD.heap.objs.size X.env)) _ { sD with heap := pushCells (sD.heap.push { cls := .type "dict", data := .dict #[] }) scope.names }
  have nfp : ∀ b ∈ fp, (upd HC Dd (DO X.prog X.w D Dd [])) b = none := fun b hb => (fD b hb).1.1
  generalize eC : compEnvC scope (cellsFrom (sD.heap.objs.size + 1) scope.names (cloFrom X.env.cells scope.names [])) sD.heap.objs.size X.env = ce at IE pg pt pk pv ⊢
  have cL : ce.locals = sD.heap.objs.size := by subst eC; rfl
  generalize eH : upd HC Dd (DO X.prog X.w D Dd []) = HD at ID IE pg pt pk pv w0 nfp fD
  generalize eE : ({ sD with heap := pushCells (sD.heap.push { cls := .type "dict", data := .dict #[] }) scope.names } : Shared) = sE at IE ⊢
  have stE : tn 0 sE.heap := T.keep _ _ _ stD fun b _ o e => by rw [← eE]; exact pushCells_keeps _ _ _ _ (Heap.get?_push_of_some _ e)
  have fits : ∀ {σ' : L2.St} {H' : Hp} {s' : Shared}, Inv (X.blk sD HD scope ce fp) [] σ' H' s' → (∀ b ∈ fp, H' b = none) → ∀ b ∈ fp, FpOk (X.blk sD HD scope ce fp) [] H' b := fun {σ' H' s'} J' hn b hb =>
    ⟨hn b hb, (J'.ok.exf b hb).1, J'.ok.exfs b hb, .inl hb, fun x c e => (J'.ok.exf b hb).2 x c e, fun p hp => absurd (show p ∈ ([] : List (Addr × Obj)) ++ [] from hp) (by simp)⟩
  have loop := compLoop_anyD (prog := X.prog) (w := X.w) (A := X.A) (s := sE) (kx := kx) (vx := vx) (target := tg) (iter := iter) (ifs := ifs) (scope := scope) (pos := pos) (it := .ref it) (D := Dd) (env := ce)
    (R := compPost (model X.prog X.w) X.A X.xe none (EP X pins σ Q) (.ref Dd) sD.heap.objs.size)
    (fun n s' => ∃ i H', Inv (X.blk sD HD scope ce fp) [] (wipe σ (own.map (·.2))) H' s' ∧ tn i s'.heap ∧ (∀ b ∈ fp, H' b = none) ∧ W i n H') ?_ m0 ⟨0, HD, IE, stE, nfp, w0⟩
  · exact codeAny_compStart_dict loop (T.self X.A 0 _ _ _ stE loop)
  · rintro n sF ⟨i, HF, IF, stF, nF, wF⟩
    rcases turn i n HF wF with ⟨stop, qq⟩ | ⟨go, Nx, hNx, step⟩
    · have td := T.done (X.blk sD HD scope ce fp) rfl rfl rfl hc i [] sF _ HF (fun _ _ => False) IF (fits IF nF) stF stop
      refine thnF td fun r sG ⟨hr, IG⟩ => ?_
      subst hr
      have IH : Inv X pins σ HF sG := ID.call' (ch := fp) IG.os IG.base IG.hok IG.bare fun b hb => ⟨(fD b hb).1.2.2.2.1, (fD b hb).1.2.1, (fD b hb).1.2.2.2.2.1, (fD b hb).1.2.2.2.2.2⟩
      have nC : HF sD.heap.objs.size = none := by
        have z : HF ce.locals = none := IG.free
        rw [cL] at z
        exact z
      obtain ⟨m, hn, _⟩ := IG.loc
      have hn : sG.heap.Ns ce.locals m := hn
      rw [cL] at hn
      obtain ⟨f0, f1, f2, f3, f4, f5⟩ := ID.fpOk (Nat.le_refl _) nC
      exact ⟨m, hn, fun h'' sb => ⟨.ref Dd, HF, IH.turned (t' := sG.toks) (fun b o hb e => (sb.2 b hb).trans e) f0 f1 f3 f4 f5, rfl, qq⟩⟩
    · have ti := T.item (X.blk sD HD scope ce fp) rfl rfl rfl hc i [] sF _ HF (fun _ _ => False) IF (fits IF nF) stF go
      refine thnF ti fun r sG ⟨u, hr, hG⟩ => ?_
      subst hr
      refine thnF hG fun _ sH ⟨x, HH, IH, rH, yH, stH, nH⟩ => ?_
      have IP := IH.pinned (fits IH nH) (T.obj _ _ stH)
      refine thnF (pg.run _ sH _ HH x u _ IP rH (step x HH yH)) fun _ sI ⟨σI, HI, II, hwI, qI⟩ => ?_
      refine thnF (pt.run _ sI σI HI _ II qI) fun b sJ ⟨HJ, IJ, qJ⟩ => ?_
      have back : ∀ {s' : Shared} {H' : Hp}, Inv (X.blk sD HD scope ce fp) ([] ++ pinsAt fp sH.heap) σI H' s' → Nx H' → ∃ m, m < n ∧ ∃ i H', Inv (X.blk sD HD scope ce fp) [] (wipe σ (own.map (·.2))) H' s' ∧ tn i s'.heap ∧ (∀ b ∈ fp, H' b = none) ∧ W i m H' := fun {s' H'} J' nx => by
        obtain ⟨m', hm, w'⟩ := hNx H' nx
        have pin' : ∀ b ∈ fp, ∀ o, sH.heap.get? b = some o → s'.heap.get? b = some o ∧ H' b = none := fun b hb o e => by
          have z := J'.pin (b, o) (List.mem_append_right _ (List.mem_append_right _ (mem_pinsAt hb e)))
          exact ⟨z.1, z.2.1⟩
        refine ⟨m', hm, i + 1, H', (J'.unpinned (pins := [])).weak (by rw [← hwI, wipe_length]) (fun j v e => ?_), T.keep _ _ _ stH fun b hb o e => (pin' b hb o e).1, fun b hb => ?_, w'⟩
        · rw [← hwI] at e
          exact (wipe_some e).1
        · obtain ⟨o, e, _⟩ := T.obj _ _ stH b hb
          exact (pin' b hb o e).2
      cases b with
      | false =>
        rw [if_neg Bool.false_ne_true] at qJ ⊢
        exact back IJ qJ
      | true =>
        rw [if_pos rfl] at qJ ⊢
        refine thnF (pk.run _ sJ σI HJ _ IJ qJ) fun z sK ⟨yk, HK, IK, rK, qK⟩ => thnF (pv.run _ sK σI HK _ IK qK) fun z2 sL ⟨yv, HL, IL, rL, kvs, k, qa, ek, ly, dm, hl, nx⟩ => ?_
        subst ek
        obtain rfl : z = Value.ref qa := rK
        exact dictSetN (X := X.blk sD HD scope ce fp) hu IL dm ly hl rL fun s' o J' dm' => back J' (nx o dm')
end
end K73
end

section
set_option linter.all false
set_option maxRecDepth 100000
set_option maxHeartbeats 2000000
/-! zip of a range and a tuple; index and min of a tuple of ints -/
namespace K73
open PySem PySem.Spec PyProof.Rows L2
section
variable {prog : Program} {w : World} {A : Around} {E : Value → Shared → Prop} {s : Shared}
theorem drawRange_item {it : Addr} {x left step : Int} {Q : Value → Shared → Prop} (hit : IsRangeIter s.heap it x left step) (hl : 0 < left)
    (hQ : ∀ h', IsRangeIter h' it (x + step) (left - 1) step → Heap.SameBut it s.heap h' → Q (.int x s.toks) { s with heap := h', toks := s.toks + 1 }) : wpAny (model prog w) A (Builtin.SmallTypes.nextOf (.ref it)) Q E s := by
  have hT : s.TypeIs (.ref it) "range_iterator" := ⟨_, hit, rfl⟩
  unfold Builtin.SmallTypes.nextOf
  refine wpAny_bind (wpAny_callSpecial?_slot (name := Str.ofString "__next__") hT F.slot_range_iterator_next
    (call_meets F.slot_range_iterator_next hT F.entry_range_iterator_next (F.args_range_iterator_next_1 _) (AutoRange.range_iterator___next___range_iterator_1 it x left step (by omega)) ⟨hit, ?_⟩))
  exact wpAny_pure (hQ _ (Heap.get?_update_self _ (Heap.get?_update_self _ hit rfl) rfl) ((Heap.SameBut.update ..).trans (Heap.SameBut.update ..)))
theorem drawRange_end {it : Addr} {x left step : Int} {Q : Value → Shared → Prop} (hh : A.handled = none) (hit : IsRangeIter s.heap it x left step) (hl : left ≤ 0)
    (hE : ∀ h' e, Heap.ExtBut it s.heap h' → (∃ o, h'.get? e = some o ∧ o.cls = .type "StopIteration") → E (.ref e) { s with heap := h' }) : wpAny (model prog w) A (Builtin.SmallTypes.nextOf (.ref it)) Q E s := by
  have hT : s.TypeIs (.ref it) "range_iterator" := ⟨_, hit, rfl⟩
  unfold Builtin.SmallTypes.nextOf
  refine wpAny_bind (wpAny_callSpecial?_slot (name := Str.ofString "__next__") hT F.slot_range_iterator_next (wpAny_call_entry F.slot_range_iterator_next hT F.entry_range_iterator_next ?_ (F.args_range_iterator_next_1 _)))
  show wpAny _ _ (field (.ref it) 0 >>= _) _ _ s
  refine wpAny_bind (wpAny_field hit rfl (x := rawInt x) rfl ?_)
  show wpAny _ _ (field (.ref it) 1 >>= _) _ _ s
  refine wpAny_bind (wpAny_field hit rfl (x := rawInt left) rfl ?_)
  show wpAny _ _ (field (.ref it) 2 >>= _) _ _ s
  refine wpAny_bind (wpAny_field hit rfl (x := rawInt step) rfl ?_)
  show wpAny _ _ (if left ≤ 0 then _ else _) _ _ s
  rw [if_pos hl]
  refine wpAny_bind (wpAny_rule ?_)
  refine wpAny_bind ?_
  show wpAny _ _ (newExc (.type "StopIteration") [] >>= _) _ _ _
  refine wpAny_bind ?_
  simp only [newExc, newTuple]
  refine wpAny_bind (wpAny_newObj_type ?_ (by size_fits))
  refine wpAny_bind (m := firstArgMember _ _) (wpAny_of_eq (a := Value.none) (by first | rfl | (simp only [firstArgMember]; rfl)) ?_)
  refine wpAny_newObj_type ?_ (by size_fits)
  simp only [raiseNew]
  refine wpAny_bind (wpAny_handled ?_)
  first | rw [show A.in1.handled = none from hh] | rw [hh]
  refine wpAny_bind (wpAny_pure (wpAny_throw ?_))
  exact hE _ _ (((Heap.ExtBut.refl it s.heap).push _).push _) ⟨_, Heap.get?_push_size _ rfl, rfl⟩
end
theorem draws_range {prog : Program} {w : World} {A : Around} (hh : A.handled = none) (it : Addr) (lo : Int) (n : Nat) :
    Draws prog w A it [it] n (fun i v => ∃ t, v = .int (lo + (i : Nat)) t) (fun i h => IsRangeIter h it (lo + (i : Nat)) ((n : Int) - (i : Nat)) 1) where
  live := fun _ _ st => ⟨_, st⟩
  frame := fun _ _ _ st hk => hk it (List.mem_singleton.mpr rfl) _ st
  item := fun i s Q E hi st hQ => drawRange_item st (by omega) fun h' st' sb => hQ _ h' _ ⟨_, rfl⟩ (by
    have e1 : lo + (i : Nat) + 1 = lo + ((i + 1 : Nat) : Int) := by omega
    have e2 : (n : Int) - (i : Nat) - 1 = (n : Int) - ((i + 1 : Nat) : Int) := by omega
    rw [e1, e2] at st'
    exact st') sb
  done := fun s Q E st hE => drawRange_end hh st (by omega) hE
theorem begins_range (r : Addr) (a b : Int) (t u v : Tok) (hs : Builtin.Range.small a b 1 = true) :
    Begins (.ref r) { cls := .type "range_iterator", data := .fields #[rawInt a, rawInt (Builtin.Range.rangeSize a b 1), rawInt 1] } fun h => IsRange h r a b 1 t u v where
  iter := fun prog w A E s Q hr h => wpAny_pyIter_range hr hs h
  keeps := fun h h' x hk => hk r _ x
  free := rfl

/-- zip of range(lo, lo + n) and the tuple at b -/
def ItzR (K : PySem.W.Frag) (lo : Int) (n : Nat) (b : Addr) : It :=
  ⟨fun i H => i < n ∧ ∃ (ys : List V) (y : V), SqT K H b ys ∧ ys[i]? = some y,
    fun i H v H' => ∃ T y, v = .ref T ∧ H T = none ∧ H' = upd H T (.tup [.int (lo + (i : Nat)), y]) ∧ ∀ ys, SqT K H b ys → ys[i]? = some y,
    fun i H => i = n ∧ ∃ ys : List V, SqT K H b ys ∧ n ≤ ys.length⟩
theorem turn_zipR {P : Program} {w : World} {K : PySem.W.Frag} {elts : List Expr} {kk : Nat} {tpos : Pos} {lo : Int} {n : Nat} {b z TI TO i1 i2 : Addr} (S : ZipSep2 z TI TO i1 i2 [i1] [i2, b]) (hb : b ≠ i2) :
    Turn P w K (.Tuple elts kk tpos) (ItzR K lo n b) [z, TI, TO, i1, i2] z (fun i h => IsZip h z TI TO .none ∧ IsTupOf2 h TI (.ref i1) (.ref i2) ∧ (∃ x y, IsTupOf2 h TO x y) ∧ IsRangeIter h i1 (lo + (i : Nat)) ((n : Int) - (i : Nat)) 1 ∧ h.IsTupleIter i2 b i) where
  mem := by simp
  obj := fun i h st c hc => by
    obtain ⟨hz, hTI, ⟨x, y, hTO⟩, e1, ⟨o2, e2, _, d2⟩⟩ := st
    have e' : c = z ∨ c = TI ∨ c = TO ∨ c = i1 ∨ c = i2 := by simpa using hc
    rcases e' with q | q | q | q | q <;> rw [q]
    · exact ⟨_, hz, fun v q => nomatch q⟩
    · exact ⟨_, hTI, fun v q => nomatch q⟩
    · exact ⟨_, hTO, fun v q => nomatch q⟩
    · exact ⟨_, e1, fun v q => nomatch q⟩
    · exact ⟨o2, e2, fun v q => by rw [d2] at q; cases q⟩
  keep := fun i h h' st k => by
    obtain ⟨hz, hTI, ⟨x, y, hTO⟩, e1, e2⟩ := st
    refine ⟨k z (by simp) _ hz, k TI (by simp) _ hTI, ⟨x, y, k TO (by simp) _ hTO⟩, k i1 (by simp) _ e1, e2.at fun o q => k i2 (by simp) o q⟩
  item := by
    intro X hP hw hK hc i pins s σ H E Iv hf st hg
    subst hP hw hK
    obtain ⟨hz, hTI, ⟨x0, y0, hTO⟩, e1, e2⟩ := st
    obtain ⟨hi, ys, y, hq, hy⟩ := hg
    obtain ⟨its, rv, p, _⟩ := Iv.tuple hq
    obtain ⟨u, hu, ru⟩ := rv.get hy
    have hil : i < its.toArray.size := by
      have := (List.getElem?_eq_some_iff.mp hu).1
      simpa using this
    have hzl : z < s.heap.objs.size := Heap.lt_size hz
    have hh : X.A.handled = none := Iv.ok.hd hc
    refine wpAny_pyNext_zipD2_item S (draws_range (A := X.A.in1) hh i1 lo n) (Draws.tuple (A := X.A.in1) hh i2 b hb its.toArray) hz hTI hTO e1 ⟨e2, p⟩ hi hil fun x1 x2 h' tk p1 p2 z' TO' r1 r2 hT hsz hk => ?_
    obtain ⟨t1, rfl⟩ := p1
    have ex2 : x2 = u := by
      have q : its[i]? = some x2 := by simpa using p2
      rw [hu] at q
      exact (Option.some.inj q).symm
    subst ex2
    refine ⟨_, rfl, wpAny_letOwnedTupleGo_zip (s := { s with heap := h', toks := tk }) z' fun h'' z'' sb => ?_⟩
    have hT2 := (sb.2 _ (Nat.ne_of_gt hzl)).trans hT
    have new : ObjOk X.prog X.w (upd H s.heap.objs.size (.tup [.int (lo + (i : Nat)), y])) h'' s.heap.objs.size (.tup [.int (lo + (i : Nat)), y]) :=
      ⟨by show 2 ≤ sizeLine; decide, [.int (lo + (i : Nat)) t1, x2], .cons ⟨t1, rfl⟩ (.cons ru .nil), ⟨_, hT2, rfl, _, rfl⟩⟩
    have I1 := Iv.turnedNew (t' := tk) (ch := [z, TI, TO, i1, i2]) (h' := h'') (fun c o hc' q => by
      simp only [List.mem_cons, List.not_mem_nil, or_false, not_or] at hc'
      exact (sb.2 c hc'.1).trans (hk c o hc'.1 hc'.2.2.1 hc'.2.2.2.1 hc'.2.2.2.2 q)) hf (Nat.le_refl _) new
    refine ⟨.ref s.heap.objs.size, _, I1, rfl, ⟨_, y, rfl, Iv.hok.fresh (Nat.le_refl _), rfl, fun l hl => by rw [Iv.tuple_inj hl hq]; exact hy⟩, ⟨z'', ?_, ⟨.int (lo + (i : Nat)) t1, x2, ?_⟩, ?_, ?_⟩, fun c hcm => ?_⟩
    · exact (sb.2 _ S.TIz).trans (hk _ _ S.TIz S.TITO S.TIi1 S.TIi2 hTI)
    · exact (sb.2 _ S.TOz).trans TO'
    · exact (sb.2 _ S.zi1.symm).trans r1
    · exact r2.1.at fun o q => (sb.2 _ S.zi2.symm).trans q
    · have hlt : c < s.heap.objs.size := by
        obtain ⟨o2, e3, _⟩ := id e2
        have e' : c = z ∨ c = TI ∨ c = TO ∨ c = i1 ∨ c = i2 := by simpa using hcm
        rcases e' with q | q | q | q | q <;> rw [q]
        · exact hzl
        · exact Heap.lt_size hTI
        · exact Heap.lt_size hTO
        · exact Heap.lt_size e1
        · exact Heap.lt_size e3
      rw [upd_ne (Nat.ne_of_lt hlt)]
      exact (hf c hcm).1
  done := by
    intro X hP hw hK hc i pins s σ H E Iv hf st hg
    subst hP hw hK
    obtain ⟨hz, hTI, ⟨x0, y0, hTO⟩, e1, e2⟩ := st
    obtain ⟨hi, ys, hq, hl⟩ := hg
    obtain ⟨its, rv, p, _⟩ := Iv.tuple hq
    have l1 := rv.length
    have hh : X.A.handled = none := Iv.ok.hd hc
    refine wpAny_pyNext_zipD2_end S (draws_range (A := X.A.in1) hh i1 lo n) (Draws.tuple (A := X.A.in1) hh i2 b hb its.toArray) hz hTI hTO e1 ⟨e2, p⟩ (Nat.le_of_eq hi) (by rw [List.size_toArray]; omega) (.inl hi) fun h' tk hk => ?_
    exact ⟨rfl, Iv.turnedL (t' := tk) (ch := [z, TI, TO, i1, i2]) (fun c o hc' q => by
      simp only [List.mem_cons, List.not_mem_nil, or_false, not_or] at hc'
      exact hk c o hc'.1 hc'.2.2.1 hc'.2.2.2.1 hc'.2.2.2.2 q) hf⟩
  self := fun A i s Q E st h => wpAny_pyIter_zip st.1 h
def iZipR (K : PySem.W.Frag) (ta : TA) : TI := fun σ H R => ta σ H fun vs H1 => ∃ r b lo hi n ys, vs = [.ref r, .ref b] ∧ H1 r = some (.rng lo hi) ∧ SqT K H1 b ys ∧ (-(2 ^ 62) ≤ lo ∧ lo < 2 ^ 62 ∧ -(2 ^ 62) ≤ hi ∧ hi < 2 ^ 62) ∧ hi = lo + (n : Nat) ∧ R (ItzR K lo n b) H1
theorem pi_zipR {X : Cx} {e e2 : Expr} {ta : TA} {p pos tpos : Pos} {elts : List Expr} {kk : Nat} (hg : Gl X "zip") (hm : X.mg "zip" = none) (ha : PA X [e, e2] ta)
    (hs : starEach [e, e2] X.env = (false, eval e X.env) :: starEach [e2] X.env := by rfl) (hpl : (backTo pos (starEach [e2] X.env)).any (·.1) = false := by rfl) : PI X (.Tuple elts kk tpos) (.Call (.Name "zip" p) [e, e2] [] pos) (iZipR X.K ta) := by
  refine ⟨fun pins s σ H R Iv hw => Call_ (ld_blt Iv hg hm PyProof.Rows.boot_zip (PyProof.Rows.callWith_type1 (thn (ha.run pos pins s σ H _ Iv hw) fun us s1 ⟨vs, H1, I1, r1, q1⟩ => ?_) hs hpl))⟩
  obtain ⟨r, b, lo, hi, n, ys, rfl, hr, hq, ⟨b1, b2, b3, b4⟩, rfl, q⟩ := q1
  obtain ⟨u1, u2, rfl, rr, rb⟩ := vals2 r1
  obtain rfl : u1 = .ref r := rr
  obtain rfl : u2 = .ref b := rb
  obtain ⟨t, u, v, hro⟩ := (show ObjOk X.prog X.w H1 s1.heap r (.rng lo (lo + (n : Nat))) from I1.hok r _ hr)
  obtain ⟨its, rv, p1, _⟩ := I1.tuple hq
  obtain ⟨o2, ho2, _⟩ := id p1
  have hsm := PySem.small_one b1 b2 b3 b4
  have hbl : b < s1.heap.objs.size := Heap.lt_size ho2
  refine zip_begins2 (begins_range r lo (lo + (n : Nat)) t u v hsm) (begins_tuple b its.toArray) (show IsRange s1.heap r lo (lo + (n : Nat)) 1 t u v from hro) (show s1.heap.IsTuple b its.toArray from p1) fun h' hz hTI hTO g1 g2 hsz hk => wpAny_pyIter_zip hz ?_
  have I2 : Inv X pins σ H1 { s1 with heap := h' } := I1.kept (t' := s1.toks) hk
  refine ⟨s1.heap.objs.size + 4, [s1.heap.objs.size + 4, s1.heap.objs.size + 2, s1.heap.objs.size + 3, s1.heap.objs.size, s1.heap.objs.size + 1], _, _, H1, rfl, I2,
    turn_zipR (lo := lo) (n := n) (zip_sep2 (N := s1.heap.objs.size) (fp1 := []) (fp2 := [b]) (fun _ z => nomatch z) (fun c hc => by rw [List.mem_singleton.mp hc]; exact hbl)) (Nat.ne_of_lt (Nat.lt_succ_of_lt hbl)), ⟨hz, hTI, ⟨_, _, hTO⟩, ?_, ⟨_, g2, rfl, rfl⟩⟩, fun c hcm => ?_, q⟩
  · have e1 : Builtin.Range.rangeSize lo (lo + (n : Nat)) 1 = (n : Int) := by
      rw [PySem.rangeSize_one]
      split <;> omega
    rw [e1] at g1
    show IsRangeIter h' s1.heap.objs.size (lo + ((0 : Nat) : Int)) ((n : Int) - ((0 : Nat) : Int)) 1
    rw [show lo + ((0 : Nat) : Int) = lo by omega, show (n : Int) - ((0 : Nat) : Int) = n by omega]
    exact g1
  · have hle : s1.heap.objs.size ≤ c := by
      have e' : c = s1.heap.objs.size + 4 ∨ c = s1.heap.objs.size + 2 ∨ c = s1.heap.objs.size + 3 ∨ c = s1.heap.objs.size ∨ c = s1.heap.objs.size + 1 := by simpa using hcm
      rcases e' with z | z | z | z | z <;> rw [z]
      · exact Nat.le_add_right _ _
      · exact Nat.le_add_right _ _
      · exact Nat.le_add_right _ _
      · exact Nat.le_refl _
      · exact Nat.le_add_right _ _
    exact I1.fpOk hle (I1.hok.fresh hle)
end K73
end

section
set_option linter.all false
set_option maxRecDepth 100000
set_option maxHeartbeats 2000000
namespace K73
open PySem PySem.Spec PyProof.Rows L2
section
variable {X : Cx}
theorem flat_ints (ys : List Int) : (ys.map V.int).all flatV = true := by
  rw [List.all_map]
  exact List.all_eq_true.mpr fun _ _ => rfl
/-- t.index(i), a tuple of ints -/
theorem mt_tupIx : MtR X "tuple.index" (fun x xs H Q => ∃ p, ∃ ys : List Int, ∃ z j, x = .ref p ∧ xs = [.int z] ∧ SqT X.K H p (ys.map V.int) ∧ ys[j]? = some z ∧ (∀ m, m < j → ys[m]? ≠ some z) ∧ Q (.int (j : Nat)) H) := by
  intro pins s σ H x xs v us Q Iv rx rs h
  obtain ⟨p, ys, z, j, rfl, rfl, hq, hy, hno, q⟩ := h
  obtain rfl : v = .ref p := rx
  obtain ⟨u, rfl, t, rfl⟩ := vals1 rs
  obtain ⟨its, r, ⟨⟨cls, dd, dt, sl⟩, ho, hc, n, hd⟩, hz⟩ := Iv.tuple hq
  obtain rfl : cls = .type "tuple" := hc
  obtain rfl : dt = .seq its.toArray n := hd
  have hl : its.toArray.size = ys.length := by rw [List.size_toArray, ← r.length, List.length_map]
  have hj : j < its.toArray.size := by rw [hl]; exact (List.getElem?_eq_some_iff.mp hy).1
  have item : ∀ (m : Nat) (hm : m < its.toArray.size), ∃ y t', ys[m]? = some y ∧ its.toArray[m] = Value.int y t' := fun m hm => by
    have hm' : m < ys.length := by rw [← hl]; exact hm
    obtain ⟨w, hw, t', hw'⟩ := r.get (i := m) (x := .int ys[m]) (by simp [hm'])
    refine ⟨ys[m], t', List.getElem?_eq_getElem hm', ?_⟩
    have e := (List.getElem?_eq_some_iff.mp hw).2
    rw [← hw', ← e]
    simp
  refine call_meets PySem.F.slot_tuple_index ⟨_, ho, rfl⟩ PySem.F.entry_tuple_index (PySem.F.args_tuple_index_2 _ _) (TI.tuple_indexAt p its.toArray n dd sl (.int z t) (eqU (.int z)) j hj ?_ ?_)
    ⟨ho, fun w hw => mem_eqAt (x := .int z) ⟨t, rfl⟩ rfl r (flat_ints ys) w (by simpa using hw), ⟨.int (j : Nat), H, Iv.tok _, ⟨_, rfl⟩, q⟩⟩
  · obtain ⟨y, t', h1, h2⟩ := item j hj
    rw [hy] at h1
    cases h1
    rw [h2]
    exact beq_self_eq_true z
  · intro m hm hmj
    obtain ⟨y, t', h1, h2⟩ := item m hm
    rw [h2]
    exact beq_eq_false_iff_ne.mpr fun e => hno m hmj (e ▸ h1)
theorem dpAll_ints {K : PySem.W.Frag} {H : Hp} : ∀ ys : List Int, DpAll K H (ys.map V.int) (ys.map PyData.int)
  | [] => .nil
  | y :: ys => .cons (.int y) (dpAll_ints ys)
theorem depth_ints : ∀ ys : List Int, PyData.depthAll (ys.map PyData.int) = 0
  | [] => rfl
  | y :: ys => by
    have ih := depth_ints ys
    rw [List.map_cons]
    simp [PyData.depthAll, PyData.depth, ih]
theorem foldl_min : ∀ (ys : List Int) (a : Int), (ys.foldl min a = a ∨ ys.foldl min a ∈ ys) ∧ ys.foldl min a ≤ a ∧ ∀ y ∈ ys, ys.foldl min a ≤ y
  | [], a => ⟨.inl rfl, Int.le_refl _, fun _ h => nomatch h⟩
  | y :: ys, a => by
    obtain ⟨h1, h2, h3⟩ := foldl_min ys (min a y)
    refine ⟨?_, ?_, fun z hz => ?_⟩
    · show ys.foldl min (min a y) = a ∨ ys.foldl min (min a y) ∈ y :: ys
      rcases h1 with h1 | h1
      · rw [h1]
        by_cases c : a ≤ y
        · exact .inl (Int.min_eq_left c)
        · exact .inr (by rw [Int.min_eq_right (by omega)]; exact List.mem_cons_self)
      · exact .inr (List.mem_cons_of_mem _ h1)
    · show ys.foldl min (min a y) ≤ a
      have := Int.min_le_left a y
      omega
    · show ys.foldl min (min a y) ≤ z
      rcases List.mem_cons.mp hz with rfl | hz
      · have := Int.min_le_right a z
        omega
      · exact h3 z hz
/-- min(t), t a tuple of ints -/
theorem cr_minT (hc : X.calm = true) (hu : X.A.units + 64 < cLine) : CallR X (.builtin "min") (fun vs H Q => ∃ (a : Addr) (ns : List Int), vs = [V.ref a] ∧ SqT X.K H a (ns.map V.int) ∧ 0 < ns.length ∧ ∀ m, m ∈ ns → (∀ y, y ∈ ns → m ≤ y) → Q (.int m) H) := by
  intro pins s σ H vs us Q Iv r h
  obtain ⟨a, ns, rfl, hs, hne, q⟩ := h
  obtain ⟨u, rfl, rx⟩ := vals1 r
  obtain rfl : u = .ref a := rx
  obtain ⟨its, rv, p, _⟩ := Iv.tuple hs
  cases ns with
  | nil => simp at hne
  | cons n ns =>
    obtain ⟨as, ra⟩ := Dp.readsAll Iv ((n :: ns).map PyData.int) ((n :: ns).map V.int) its (dpAll_ints _) rv
    refine PySem.W.min_tuple_data (Iv.ok.hd hc) (show s.heap.IsTuple a its.toArray from p) (x := .int n) (xs := ns.map PyData.int) (as := as) ra ⟨fun x hx y hy => ?_, fun x hx => ?_⟩ ?_ fun i v h' tk bs hi hr hk => ?_
    · obtain ⟨i, _, rfl⟩ := List.mem_map.mp (show x ∈ (n :: ns).map PyData.int from hx)
      obtain ⟨j, _, rfl⟩ := List.mem_map.mp (show y ∈ (n :: ns).map PyData.int from hy)
      rfl
    · obtain ⟨i, _, rfl⟩ := List.mem_map.mp (show x ∈ (n :: ns).map PyData.int from hx)
      exact fun z => nomatch z
    · rw [show PyData.int n :: ns.map PyData.int = (n :: ns).map PyData.int from rfl, depth_ints]
      omega
    · rw [PySem.W.minD_ints] at hr
      obtain ⟨h1, h2, h3⟩ := foldl_min ns n
      have m1 : ns.foldl min n ∈ n :: ns := by
        rcases h1 with h1 | h1
        · rw [h1]; exact List.mem_cons_self
        · exact List.mem_cons_of_mem _ h1
      have m2 : ∀ y ∈ n :: ns, ns.foldl min n ≤ y := fun y hy => by
        rcases List.mem_cons.mp hy with rfl | hy
        · exact h2
        · exact h3 y hy
      cases hr with
      | int t => exact ⟨.int _, H, Iv.kept (t' := tk) hk, ⟨_, rfl⟩, q _ m1 m2⟩
end
end K73
end

section
set_option linter.all false
set_option maxRecDepth 100000
set_option maxHeartbeats 1000000
/-! the text by places, the facts of its top -/
namespace K73
open PySem PySem.Spec PyProof.Rows L2
def top (i : Nat) : Stmt := PySem.Challenge.pw_heardseams_k73_whole_phrases_that_are_he.main.body.getD i (.Pass ⟨0, 0, 0, 0⟩)
/-! ### places -/
abbrev st_is_integer : Stmt := top 9
abbrev st_is_between : Stmt := top 10
abbrev st_is_index : Stmt := top 11
abbrev st_is_sounds : Stmt := top 16
abbrev st_is_side_pair : Stmt := top 17
abbrev st_is_table : Stmt := top 18
abbrev st_check_sizes : Stmt := top 19
abbrev st_Book_init : Stmt := inClass (top 20) 0
abbrev st_Book_keep : Stmt := inClass (top 20) 1
abbrev st_Book_reach : Stmt := inClass (top 20) 6
abbrev st_told : Stmt := top 21
abbrev st_Joinings_init : Stmt := inClass (top 24) 0
abbrev st_is_fair : Stmt := top 25
abbrev st_is_shape : Stmt := top 26
abbrev st_check_shape : Stmt := top 27
abbrev st_lessened : Stmt := top 28
abbrev st_with_root : Stmt := top 29
abbrev st_joined_shape : Stmt := top 30
abbrev st_check_shape_for : Stmt := top 32
abbrev st_is_word : Stmt := top 35
abbrev st_check_words : Stmt := top 36
abbrev st_check_phrase : Stmt := top 37
abbrev st_joined_rows : Stmt := top 38
abbrev st_inner_first : Stmt := top 39
abbrev st_Sayer_init : Stmt := inClass (top 40) 0
abbrev st_Sayer_join : Stmt := inClass (top 40) 1
abbrev st_Sayer_say : Stmt := inClass (top 40) 2
abbrev st_said_row : Stmt := top 41
abbrev st_said : Stmt := top 42
abbrev st_met_rows : Stmt := top 44
abbrev st_matters_at : Stmt := top 45
abbrev st_check_list : Stmt := top 49
abbrev st_summed_up : Stmt := top 50
abbrev st_standing_for : Stmt := top 51
abbrev st_is_pair_of_rows : Stmt := top 52
abbrev st_is_short : Stmt := top 53
abbrev st_Closing_init : Stmt := inClass (top 54) 0
abbrev st_Closing_add : Stmt := inClass (top 54) 1
abbrev st_Closing_joined : Stmt := inClass (top 54) 2
abbrev st_Closing_join : Stmt := inClass (top 54) 3
abbrev st_Closing_settle : Stmt := inClass (top 54) 4
abbrev st_Closing_phrase : Stmt := inClass (top 54) 5
abbrev st_by_windows : Stmt := top 55
abbrev st_ever_matters : Stmt := top 56
abbrev st_three_of : Stmt := top 57
abbrev st_phrase_for : Stmt := top 58
abbrev st__law_dice : Stmt := top 60
abbrev st__law_draw : Stmt := top 61
abbrev st__law_drawn_shape : Stmt := top 62
abbrev st__law_rows : Stmt := top 63
abbrev st__law_like : Stmt := top 64
abbrev st__law_book : Stmt := top 65
abbrev st__law_made : Stmt := top 66
abbrev st__law_met : Stmt := top 67
abbrev st__law_row : Stmt := top 68
abbrev st__law_say : Stmt := top 69
abbrev st__law_few_words : Stmt := top 70
abbrev st__law_small_sizes : Stmt := top 71
abbrev st__law_case : Stmt := top 72
abbrev st__law_phrase : Stmt := top 73
abbrev st__law_alike : Stmt := top 74
abbrev st_law : Stmt := top 75
/-! ### scopes: the names by slots -/
theorem sc_is_integer : FnScope ["thing"] ["thing"] (defScope st_is_integer) := ⟨rfl, rfl, rfl, by decide +kernel, rfl, by decide +kernel, by decide +kernel⟩
theorem sc_is_between : FnScope ["thing", "least", "most"] ["thing", "least", "most"] (defScope st_is_between) := ⟨rfl, rfl, rfl, by decide +kernel, rfl, by decide +kernel, by decide +kernel⟩
theorem sc_is_index : FnScope ["thing", "many"] ["thing", "many"] (defScope st_is_index) := ⟨rfl, rfl, rfl, by decide +kernel, rfl, by decide +kernel, by decide +kernel⟩
theorem sc_is_sounds : FnScope ["thing", "sounds", "least", "most", "sound"] ["thing", "sounds", "least", "most"] (defScope st_is_sounds) := ⟨rfl, rfl, rfl, by decide +kernel, rfl, by decide +kernel, by decide +kernel⟩
theorem sc_is_side_pair : FnScope ["thing", "sounds", "ahead", "behind"] ["thing", "sounds", "ahead", "behind"] (defScope st_is_side_pair) := ⟨rfl, rfl, rfl, by decide +kernel, rfl, by decide +kernel, by decide +kernel⟩
theorem sc_is_table : FnScope ["thing", "sounds", "ahead", "behind", "key", "side"] ["thing", "sounds", "ahead", "behind"] (defScope st_is_table) := ⟨rfl, rfl, rfl, by decide +kernel, rfl, by decide +kernel, by decide +kernel⟩
theorem sc_check_sizes : FnScope ["sounds", "ahead", "behind"] ["sounds", "ahead", "behind"] (defScope st_check_sizes) := ⟨rfl, rfl, rfl, by decide +kernel, rfl, by decide +kernel, by decide +kernel⟩
theorem sc_told : FnScope ["book", "left", "right"] ["book", "left", "right"] (defScope st_told) := ⟨rfl, rfl, rfl, by decide +kernel, rfl, by decide +kernel, by decide +kernel⟩
theorem sc_is_fair : FnScope ["thing", "depth"] ["thing"] (defScope st_is_fair) := ⟨rfl, rfl, rfl, by decide +kernel, rfl, by decide +kernel, by decide +kernel⟩
theorem sc_is_shape : FnScope ["thing"] ["thing"] (defScope st_is_shape) := ⟨rfl, rfl, rfl, by decide +kernel, rfl, by decide +kernel, by decide +kernel⟩
theorem sc_check_shape : FnScope ["thing"] ["thing"] (defScope st_check_shape) := ⟨rfl, rfl, rfl, by decide +kernel, rfl, by decide +kernel, by decide +kernel⟩
theorem sc_lessened : FnScope ["depths", "number", "depth"] ["depths", "number"] (defScope st_lessened) := ⟨rfl, rfl, rfl, by decide +kernel, rfl, by decide +kernel, by decide +kernel⟩
theorem sc_with_root : FnScope ["ahead", "behind"] ["ahead", "behind"] (defScope st_with_root) := ⟨rfl, rfl, rfl, by decide +kernel, rfl, by decide +kernel, by decide +kernel⟩
theorem sc_joined_shape : FnScope ["one", "other"] ["one", "other"] (defScope st_joined_shape) := ⟨rfl, rfl, rfl, by decide +kernel, rfl, by decide +kernel, by decide +kernel⟩
theorem sc_check_shape_for : FnScope ["words", "thing"] ["words", "thing"] (defScope st_check_shape_for) := ⟨rfl, rfl, rfl, by decide +kernel, rfl, by decide +kernel, by decide +kernel⟩
theorem sc_is_word : FnScope ["thing", "sounds"] ["thing", "sounds"] (defScope st_is_word) := ⟨rfl, rfl, rfl, by decide +kernel, rfl, by decide +kernel, by decide +kernel⟩
theorem sc_check_words : FnScope ["sounds", "thing", "word"] ["sounds", "thing"] (defScope st_check_words) := ⟨rfl, rfl, rfl, by decide +kernel, rfl, by decide +kernel, by decide +kernel⟩
theorem sc_check_phrase : FnScope ["book", "words", "shape"] ["book", "words", "shape"] (defScope st_check_phrase) := ⟨rfl, rfl, rfl, by decide +kernel, rfl, by decide +kernel, by decide +kernel⟩
theorem sc_joined_rows : FnScope ["book", "one", "other", "left", "right", "new_left", "new_right"] ["book", "one", "other"] (defScope st_joined_rows) := ⟨rfl, rfl, rfl, by decide +kernel, rfl, by decide +kernel, by decide +kernel⟩
theorem sc_inner_first : FnScope ["shape", "joinings", "found", "waiting", "first", "last", "seam", "one"] ["shape"] (defScope st_inner_first) := ⟨rfl, rfl, rfl, by decide +kernel, rfl, by decide +kernel, by decide +kernel⟩
theorem sc_said_row : FnScope ["book", "words", "shape"] ["book", "words", "shape"] (defScope st_said_row) := ⟨rfl, rfl, rfl, by decide +kernel, rfl, by decide +kernel, by decide +kernel⟩
theorem sc_said : FnScope ["book", "words", "shape"] ["book", "words", "shape"] (defScope st_said) := ⟨rfl, rfl, rfl, by decide +kernel, rfl, by decide +kernel, by decide +kernel⟩
theorem sc_met_rows : FnScope ["book", "one", "other", "ahead", "behind"] ["book", "one", "other"] (defScope st_met_rows) := ⟨rfl, rfl, rfl, by decide +kernel, rfl, by decide +kernel, by decide +kernel⟩
theorem sc_matters_at : FnScope ["book", "x", "y", "z"] ["book", "x", "y", "z"] (defScope st_matters_at) := ⟨rfl, rfl, rfl, by decide +kernel, rfl, by decide +kernel, by decide +kernel⟩
theorem sc_check_list : FnScope ["book", "thing", "word"] ["book", "thing"] (defScope st_check_list) := ⟨rfl, rfl, rfl, by decide +kernel, rfl, by decide +kernel, by decide +kernel⟩
theorem sc_summed_up : FnScope ["book", "row"] ["book", "row"] (defScope st_summed_up) := ⟨rfl, rfl, rfl, by decide +kernel, rfl, by decide +kernel, by decide +kernel⟩
theorem sc_standing_for : FnScope ["found"] ["found"] (defScope st_standing_for) := ⟨rfl, rfl, rfl, by decide +kernel, rfl, by decide +kernel, by decide +kernel⟩
theorem sc_is_pair_of_rows : FnScope ["book", "thing", "row"] ["book", "thing"] (defScope st_is_pair_of_rows) := ⟨rfl, rfl, rfl, by decide +kernel, rfl, by decide +kernel, by decide +kernel⟩
theorem sc_is_short : FnScope ["found"] ["found"] (defScope st_is_short) := ⟨rfl, rfl, rfl, by decide +kernel, rfl, by decide +kernel, by decide +kernel⟩
theorem sc_by_windows : FnScope ["found", "window", "known", "one"] ["found", "window"] (defScope st_by_windows) := ⟨rfl, rfl, rfl, by decide +kernel, rfl, by decide +kernel, by decide +kernel⟩
theorem sc_ever_matters : FnScope ["book", "words"] ["book", "words"] (defScope st_ever_matters) := ⟨rfl, rfl, rfl, by decide +kernel, rfl, by decide +kernel, by decide +kernel⟩
theorem sc_three_of : FnScope ["book", "words", "found", "last_ones", "first_ones", "others", "left", "one", "middle", "right", "other"] ["book", "words"] (defScope st_three_of) := ⟨rfl, rfl, rfl, by decide +kernel, rfl, by decide +kernel, by decide +kernel⟩
theorem sc_phrase_for : FnScope ["book", "words", "thing", "closing"] ["book", "words", "thing"] (defScope st_phrase_for) := ⟨rfl, rfl, rfl, by decide +kernel, rfl, by decide +kernel, by decide +kernel⟩
theorem sc__law_dice : FnScope ["_law_script", "_law_cell"] ["_law_script"] (defScope st__law_dice) := ⟨rfl, rfl, rfl, by decide +kernel, rfl, by decide +kernel, by decide +kernel⟩
theorem sc__law_draw : FnScope ["_law_dice_here", "_law_sides", "_law_cell", "_law_digit", "_law_mixed"] ["_law_dice_here", "_law_sides"] (defScope st__law_draw) := ⟨rfl, rfl, rfl, by decide +kernel, rfl, by decide +kernel, by decide +kernel⟩
theorem sc__law_drawn_shape : FnScope ["_law_dice_here", "_law_words", "_law_lean", "_law_found", "_law_waiting", "_law_turn", "_law_first", "_law_last", "_law_depth", "_law_seam"] ["_law_dice_here", "_law_words"] (defScope st__law_drawn_shape) := ⟨rfl, rfl, rfl, by decide +kernel, rfl, by decide +kernel, by decide +kernel⟩
theorem sc__law_rows : FnScope ["_law_sounds", "_law_most", "_law_found", "_law_last", "_law_k", "_law_longer", "_law_row_here", "_law_sound"] ["_law_sounds", "_law_most"] (defScope st__law_rows) := ⟨rfl, rfl, rfl, by decide +kernel, rfl, by decide +kernel, by decide +kernel⟩
theorem sc__law_like : FnScope ["_law_dice_here", "_law_sounds", "_law_row_here", "_law_sound"] ["_law_dice_here", "_law_sounds", "_law_row_here"] (defScope st__law_like) := ⟨rfl, rfl, rfl, by decide +kernel, rfl, by decide +kernel, by decide +kernel⟩
theorem sc__law_book : FnScope ["_law_dice_here", "_law_sizes", "_law_sounds", "_law_ahead", "_law_behind", "_law_kind", "_law_chance", "_law_own", "_law_table", "_law_left", "_law_right", "_law_drawn", "_law_sound"] ["_law_dice_here", "_law_sizes"] (defScope st__law_book) := ⟨rfl, rfl, rfl, by decide +kernel, rfl, by decide +kernel, by decide +kernel⟩
theorem sc__law_made : FnScope ["_law_book_here"] ["_law_book_here"] (defScope st__law_made) := ⟨rfl, rfl, rfl, by decide +kernel, rfl, by decide +kernel, by decide +kernel⟩
theorem sc__law_met : FnScope ["_law_book_here", "_law_one", "_law_other", "_law_left", "_law_right", "_law_new_left", "_law_new_right"] ["_law_book_here", "_law_one", "_law_other"] (defScope st__law_met) := ⟨rfl, rfl, rfl, by decide +kernel, rfl, by decide +kernel, by decide +kernel⟩
theorem sc__law_row : FnScope ["_law_dice_here", "_law_sounds", "_law_most", "_law_k"] ["_law_dice_here", "_law_sounds", "_law_most"] (defScope st__law_row) := ⟨rfl, rfl, rfl, by decide +kernel, rfl, by decide +kernel, by decide +kernel⟩
theorem sc__law_say : FnScope ["_law_book_here", "_law_words", "_law_shape", "_law_first", "_law_last", "_law_depths", "_law_seam", "_law_ahead"] ["_law_book_here", "_law_words", "_law_shape", "_law_first", "_law_last"] (defScope st__law_say) := ⟨rfl, rfl, rfl, by decide +kernel, rfl, by decide +kernel, by decide +kernel⟩
theorem sc__law_few_words : FnScope ["_law_dice_here", "_law_book_here", "_law_many", "_law_most", "_law_k"] ["_law_dice_here", "_law_book_here", "_law_many", "_law_most"] (defScope st__law_few_words) := ⟨rfl, rfl, rfl, by decide +kernel, rfl, by decide +kernel, by decide +kernel⟩
theorem sc__law_small_sizes : FnScope [] [] (defScope st__law_small_sizes) := ⟨rfl, rfl, rfl, by decide +kernel, rfl, by decide +kernel, by decide +kernel⟩
theorem sc__law_case : FnScope ["_law_dice_here", "_law_most", "_law_great", "_law_book_here", "_law_words"] ["_law_dice_here", "_law_most", "_law_great"] (defScope st__law_case) := ⟨rfl, rfl, rfl, by decide +kernel, rfl, by decide +kernel, by decide +kernel⟩
theorem sc__law_phrase : FnScope ["_law_book_here", "_law_words", "_law_thing", "_law_found", "e"] ["_law_book_here", "_law_words", "_law_thing"] (defScope st__law_phrase) := ⟨rfl, rfl, rfl, by decide +kernel, rfl, by decide +kernel, by decide +kernel⟩
theorem sc__law_alike : FnScope ["_law_dice_here", "_law_book_here", "_law_made_here", "_law_words", "_law_turn", "_law_many", "_law_phrase_here", "_law_due", "_law_again", "_law_k"] ["_law_dice_here", "_law_book_here", "_law_made_here", "_law_words"] (defScope st__law_alike) := ⟨rfl, rfl, rfl, by decide +kernel, rfl, by decide +kernel, by decide +kernel⟩
theorem sc_law : FnScope ["_law_script", "_law_dice_here", "_law_book_here", "_law_words", "_law_made_here", "_law_told", "_law_phrases", "_law_many", "_law_whole", "_law_one", "_law_other", "_law_here", "_law_there", "_law_phrase_here"] ["_law_script"] (defScope st_law) := ⟨rfl, rfl, rfl, by decide +kernel, rfl, by decide +kernel, by decide +kernel⟩
theorem sc_Book_init : FnScope ["self", "sounds", "ahead", "behind", "table"] ["self", "sounds", "ahead", "behind", "table"] (defScope st_Book_init) := ⟨rfl, rfl, rfl, by decide +kernel, rfl, by decide +kernel, by decide +kernel⟩
theorem sc_Book_keep : FnScope ["self", "sounds", "ahead", "behind", "table", "key", "told"] ["self", "sounds", "ahead", "behind", "table"] (defScope st_Book_keep) := ⟨rfl, rfl, rfl, by decide +kernel, rfl, by decide +kernel, by decide +kernel⟩
theorem sc_Book_reach : FnScope ["self"] ["self"] (defScope st_Book_reach) := ⟨rfl, rfl, rfl, by decide +kernel, rfl, by decide +kernel, by decide +kernel⟩
theorem sc_Joinings_init : FnScope ["self", "shape", "waiting", "first", "last", "depth", "above", "seams", "seam"] ["self", "shape"] (defScope st_Joinings_init) := ⟨rfl, rfl, rfl, by decide +kernel, rfl, by decide +kernel, by decide +kernel⟩
theorem sc_Sayer_init : FnScope ["self", "book", "words", "shape", "word"] ["self", "book", "words", "shape"] (defScope st_Sayer_init) := ⟨rfl, rfl, rfl, by decide +kernel, rfl, by decide +kernel, by decide +kernel⟩
theorem sc_Sayer_join : FnScope ["self", "seam", "first", "middle", "last", "begin", "end", "new_left", "new_right", "place", "new"] ["self", "seam"] (defScope st_Sayer_join) := ⟨rfl, rfl, rfl, by decide +kernel, rfl, by decide +kernel, by decide +kernel⟩
theorem sc_Sayer_say : FnScope ["self", "seam"] ["self"] (defScope st_Sayer_say) := ⟨rfl, rfl, rfl, by decide +kernel, rfl, by decide +kernel, by decide +kernel⟩
theorem sc_Closing_init : FnScope ["self", "book", "words", "word", "at", "other"] ["self", "book", "words"] (defScope st_Closing_init) := ⟨rfl, rfl, rfl, by decide +kernel, rfl, by decide +kernel, by decide +kernel⟩
theorem sc_Closing_add : FnScope ["self", "summary", "many", "made_of"] ["self", "summary", "many", "made_of"] (defScope st_Closing_add) := ⟨rfl, rfl, rfl, by decide +kernel, rfl, by decide +kernel, by decide +kernel⟩
theorem sc_Closing_joined : FnScope ["self", "one", "other"] ["self", "one", "other"] (defScope st_Closing_joined) := ⟨rfl, rfl, rfl, by decide +kernel, rfl, by decide +kernel, by decide +kernel⟩
theorem sc_Closing_join : FnScope ["self", "one", "other"] ["self", "one", "other"] (defScope st_Closing_join) := ⟨rfl, rfl, rfl, by decide +kernel, rfl, by decide +kernel, by decide +kernel⟩
theorem sc_Closing_settle : FnScope ["self", "grown", "one", "other", "there", "many"] ["self"] (defScope st_Closing_settle) := ⟨rfl, rfl, rfl, by decide +kernel, rfl, by decide +kernel, by decide +kernel⟩
theorem sc_Closing_phrase : FnScope ["self", "summary", "made_of", "ahead", "behind"] ["self", "summary"] (defScope st_Closing_phrase) := ⟨rfl, rfl, rfl, by decide +kernel, rfl, by decide +kernel, by decide +kernel⟩
/-! ### the facts that the head is asked for -/
def dD (x : Str) (st : Stmt) : He.DefD := ⟨(x, none), x, x, defArgs st, defBody st, defScope st, [], []⟩
def dM (C m q : Str) (st : Stmt) : He.DefD := ⟨(C, some m), m, q, defArgs st, defBody st, defScope st, [], []⟩
def FA : List He.Fa := [
  .glo "is_integer", .glo "is_between", .glo "is_index", .glo "is_sounds", .glo "is_side_pair", .glo "is_table",
  .glo "check_sizes", .glo "told", .glo "is_fair", .glo "is_shape", .glo "check_shape", .glo "lessened",
  .glo "with_root", .glo "joined_shape", .glo "check_shape_for", .glo "is_word", .glo "check_words", .glo "check_phrase",
  .glo "joined_rows", .glo "inner_first", .glo "said_row", .glo "said", .glo "met_rows", .glo "matters_at",
  .glo "check_list", .glo "summed_up", .glo "standing_for", .glo "is_pair_of_rows", .glo "is_short", .glo "by_windows",
  .glo "ever_matters", .glo "three_of", .glo "phrase_for", .glo "_law_dice", .glo "_law_draw", .glo "_law_drawn_shape",
  .glo "_law_rows", .glo "_law_like", .glo "_law_book", .glo "_law_made", .glo "_law_met", .glo "_law_row",
  .glo "_law_say", .glo "_law_few_words", .glo "_law_small_sizes", .glo "_law_case", .glo "_law_phrase", .glo "_law_alike",
  .glo "law", .glo "Book", .glo "Joinings", .glo "Sayer", .glo "Closing", .free "len",
  .free "isinstance", .free "tuple", .free "list", .free "dict", .free "int", .free "bool",
  .free "range", .free "all", .free "max", .free "min", .free "sum", .free "abs",
  .free "zip", .int "MOST_SOUNDS" 8, .int "MOST_SIDE" 4, .int "MOST_ENTRIES" 4000, .int "MOST_WORDS" 40, .int "MOST_WORD" 200,
  .int "MOST_LISTED" 12, .int "MOST_SUMMARIES" 400, .cls "Book", .mkr "Book", .noat "Book" "kept_sounds", .noat "Book" "kept_ahead",
  .noat "Book" "kept_behind", .noat "Book" "kept_table", .cls "Joinings", .mkr "Joinings", .noat "Joinings" "first", .noat "Joinings" "last",
  .noat "Joinings" "above", .noat "Joinings" "fair", .cls "Sayer", .mkr "Sayer", .noat "Sayer" "book", .noat "Sayer" "row",
  .noat "Sayer" "starts", .noat "Sayer" "joinings", .noat "Sayer" "order", .noat "Sayer" "changed", .noat "Sayer" "looked", .cls "Closing",
  .mkr "Closing", .noat "Closing" "book", .noat "Closing" "found", .noat "Closing" "fewest", .noat "Closing" "made_of", .meth "Book" "keep",
  .meth "Book" "reach", .meth "Sayer" "join", .meth "Sayer" "say", .meth "Closing" "add", .meth "Closing" "joined", .meth "Closing" "join",
  .meth "Closing" "settle", .meth "Closing" "phrase"]
def FN : List He.DefD := [
  dD "is_integer" st_is_integer, dD "is_between" st_is_between, dD "is_index" st_is_index, dD "is_sounds" st_is_sounds,
  dD "is_side_pair" st_is_side_pair, dD "is_table" st_is_table, dD "check_sizes" st_check_sizes, dD "told" st_told,
  dD "is_fair" st_is_fair, dD "is_shape" st_is_shape, dD "check_shape" st_check_shape, dD "lessened" st_lessened,
  dD "with_root" st_with_root, dD "joined_shape" st_joined_shape, dD "check_shape_for" st_check_shape_for, dD "is_word" st_is_word,
  dD "check_words" st_check_words, dD "check_phrase" st_check_phrase, dD "joined_rows" st_joined_rows, dD "inner_first" st_inner_first,
  dD "said_row" st_said_row, dD "said" st_said, dD "met_rows" st_met_rows, dD "matters_at" st_matters_at,
  dD "check_list" st_check_list, dD "summed_up" st_summed_up, dD "standing_for" st_standing_for, dD "is_pair_of_rows" st_is_pair_of_rows,
  dD "is_short" st_is_short, dD "by_windows" st_by_windows, dD "ever_matters" st_ever_matters, dD "three_of" st_three_of,
  dD "phrase_for" st_phrase_for, dD "_law_dice" st__law_dice, dD "_law_draw" st__law_draw, dD "_law_drawn_shape" st__law_drawn_shape,
  dD "_law_rows" st__law_rows, dD "_law_like" st__law_like, dD "_law_book" st__law_book, dD "_law_made" st__law_made,
  dD "_law_met" st__law_met, dD "_law_row" st__law_row, dD "_law_say" st__law_say, dD "_law_few_words" st__law_few_words,
  dD "_law_small_sizes" st__law_small_sizes, dD "_law_case" st__law_case, dD "_law_phrase" st__law_phrase, dD "_law_alike" st__law_alike,
  dD "law" st_law, dM "Book" "__init__" "Book.__init__" st_Book_init, dM "Book" "keep" "Book.keep" st_Book_keep, dM "Book" "reach" "Book.reach" st_Book_reach,
  dM "Joinings" "__init__" "Joinings.__init__" st_Joinings_init, dM "Sayer" "__init__" "Sayer.__init__" st_Sayer_init, dM "Sayer" "join" "Sayer.join" st_Sayer_join, dM "Sayer" "say" "Sayer.say" st_Sayer_say,
  dM "Closing" "__init__" "Closing.__init__" st_Closing_init, dM "Closing" "add" "Closing.add" st_Closing_add, dM "Closing" "joined" "Closing.joined" st_Closing_joined, dM "Closing" "join" "Closing.join" st_Closing_join,
  dM "Closing" "settle" "Closing.settle" st_Closing_settle, dM "Closing" "phrase" "Closing.phrase" st_Closing_phrase]
/-- the ground: program, World, the written part, the module's names, the base -/
structure Gr where
  P : Program
  w : World
  K : PySem.W.Frag
  mg : Str → Option Value
  base : Heap
structure Tx (g : Gr) : Prop where
  says : He.SaysD FA FN g.K
  ns : ∃ h : Heap, g.K.In h ∧ h.Ns mainGlobals g.mg
section
variable {g : Gr}
theorem Tx.g_is_integer (T : Tx g) : g.mg "is_integer" = some (.ref (He.ga g.K "is_integer")) := let ⟨_, a, b⟩ := T.ns; He.glo_ok a b (T.says.fact 0 (f := .glo "is_integer") rfl)
theorem Tx.g_is_between (T : Tx g) : g.mg "is_between" = some (.ref (He.ga g.K "is_between")) := let ⟨_, a, b⟩ := T.ns; He.glo_ok a b (T.says.fact 1 (f := .glo "is_between") rfl)
theorem Tx.g_is_index (T : Tx g) : g.mg "is_index" = some (.ref (He.ga g.K "is_index")) := let ⟨_, a, b⟩ := T.ns; He.glo_ok a b (T.says.fact 2 (f := .glo "is_index") rfl)
theorem Tx.g_is_sounds (T : Tx g) : g.mg "is_sounds" = some (.ref (He.ga g.K "is_sounds")) := let ⟨_, a, b⟩ := T.ns; He.glo_ok a b (T.says.fact 3 (f := .glo "is_sounds") rfl)
theorem Tx.g_is_side_pair (T : Tx g) : g.mg "is_side_pair" = some (.ref (He.ga g.K "is_side_pair")) := let ⟨_, a, b⟩ := T.ns; He.glo_ok a b (T.says.fact 4 (f := .glo "is_side_pair") rfl)
theorem Tx.g_is_table (T : Tx g) : g.mg "is_table" = some (.ref (He.ga g.K "is_table")) := let ⟨_, a, b⟩ := T.ns; He.glo_ok a b (T.says.fact 5 (f := .glo "is_table") rfl)
theorem Tx.g_check_sizes (T : Tx g) : g.mg "check_sizes" = some (.ref (He.ga g.K "check_sizes")) := let ⟨_, a, b⟩ := T.ns; He.glo_ok a b (T.says.fact 6 (f := .glo "check_sizes") rfl)
theorem Tx.g_told (T : Tx g) : g.mg "told" = some (.ref (He.ga g.K "told")) := let ⟨_, a, b⟩ := T.ns; He.glo_ok a b (T.says.fact 7 (f := .glo "told") rfl)
theorem Tx.g_is_fair (T : Tx g) : g.mg "is_fair" = some (.ref (He.ga g.K "is_fair")) := let ⟨_, a, b⟩ := T.ns; He.glo_ok a b (T.says.fact 8 (f := .glo "is_fair") rfl)
theorem Tx.g_is_shape (T : Tx g) : g.mg "is_shape" = some (.ref (He.ga g.K "is_shape")) := let ⟨_, a, b⟩ := T.ns; He.glo_ok a b (T.says.fact 9 (f := .glo "is_shape") rfl)
theorem Tx.g_check_shape (T : Tx g) : g.mg "check_shape" = some (.ref (He.ga g.K "check_shape")) := let ⟨_, a, b⟩ := T.ns; He.glo_ok a b (T.says.fact 10 (f := .glo "check_shape") rfl)
theorem Tx.g_lessened (T : Tx g) : g.mg "lessened" = some (.ref (He.ga g.K "lessened")) := let ⟨_, a, b⟩ := T.ns; He.glo_ok a b (T.says.fact 11 (f := .glo "lessened") rfl)
theorem Tx.g_with_root (T : Tx g) : g.mg "with_root" = some (.ref (He.ga g.K "with_root")) := let ⟨_, a, b⟩ := T.ns; He.glo_ok a b (T.says.fact 12 (f := .glo "with_root") rfl)
theorem Tx.g_joined_shape (T : Tx g) : g.mg "joined_shape" = some (.ref (He.ga g.K "joined_shape")) := let ⟨_, a, b⟩ := T.ns; He.glo_ok a b (T.says.fact 13 (f := .glo "joined_shape") rfl)
theorem Tx.g_check_shape_for (T : Tx g) : g.mg "check_shape_for" = some (.ref (He.ga g.K "check_shape_for")) := let ⟨_, a, b⟩ := T.ns; He.glo_ok a b (T.says.fact 14 (f := .glo "check_shape_for") rfl)
theorem Tx.g_is_word (T : Tx g) : g.mg "is_word" = some (.ref (He.ga g.K "is_word")) := let ⟨_, a, b⟩ := T.ns; He.glo_ok a b (T.says.fact 15 (f := .glo "is_word") rfl)
theorem Tx.g_check_words (T : Tx g) : g.mg "check_words" = some (.ref (He.ga g.K "check_words")) := let ⟨_, a, b⟩ := T.ns; He.glo_ok a b (T.says.fact 16 (f := .glo "check_words") rfl)
theorem Tx.g_check_phrase (T : Tx g) : g.mg "check_phrase" = some (.ref (He.ga g.K "check_phrase")) := let ⟨_, a, b⟩ := T.ns; He.glo_ok a b (T.says.fact 17 (f := .glo "check_phrase") rfl)
theorem Tx.g_joined_rows (T : Tx g) : g.mg "joined_rows" = some (.ref (He.ga g.K "joined_rows")) := let ⟨_, a, b⟩ := T.ns; He.glo_ok a b (T.says.fact 18 (f := .glo "joined_rows") rfl)
theorem Tx.g_inner_first (T : Tx g) : g.mg "inner_first" = some (.ref (He.ga g.K "inner_first")) := let ⟨_, a, b⟩ := T.ns; He.glo_ok a b (T.says.fact 19 (f := .glo "inner_first") rfl)
theorem Tx.g_said_row (T : Tx g) : g.mg "said_row" = some (.ref (He.ga g.K "said_row")) := let ⟨_, a, b⟩ := T.ns; He.glo_ok a b (T.says.fact 20 (f := .glo "said_row") rfl)
theorem Tx.g_said (T : Tx g) : g.mg "said" = some (.ref (He.ga g.K "said")) := let ⟨_, a, b⟩ := T.ns; He.glo_ok a b (T.says.fact 21 (f := .glo "said") rfl)
theorem Tx.g_met_rows (T : Tx g) : g.mg "met_rows" = some (.ref (He.ga g.K "met_rows")) := let ⟨_, a, b⟩ := T.ns; He.glo_ok a b (T.says.fact 22 (f := .glo "met_rows") rfl)
theorem Tx.g_matters_at (T : Tx g) : g.mg "matters_at" = some (.ref (He.ga g.K "matters_at")) := let ⟨_, a, b⟩ := T.ns; He.glo_ok a b (T.says.fact 23 (f := .glo "matters_at") rfl)
theorem Tx.g_check_list (T : Tx g) : g.mg "check_list" = some (.ref (He.ga g.K "check_list")) := let ⟨_, a, b⟩ := T.ns; He.glo_ok a b (T.says.fact 24 (f := .glo "check_list") rfl)
theorem Tx.g_summed_up (T : Tx g) : g.mg "summed_up" = some (.ref (He.ga g.K "summed_up")) := let ⟨_, a, b⟩ := T.ns; He.glo_ok a b (T.says.fact 25 (f := .glo "summed_up") rfl)
theorem Tx.g_standing_for (T : Tx g) : g.mg "standing_for" = some (.ref (He.ga g.K "standing_for")) := let ⟨_, a, b⟩ := T.ns; He.glo_ok a b (T.says.fact 26 (f := .glo "standing_for") rfl)
theorem Tx.g_is_pair_of_rows (T : Tx g) : g.mg "is_pair_of_rows" = some (.ref (He.ga g.K "is_pair_of_rows")) := let ⟨_, a, b⟩ := T.ns; He.glo_ok a b (T.says.fact 27 (f := .glo "is_pair_of_rows") rfl)
theorem Tx.g_is_short (T : Tx g) : g.mg "is_short" = some (.ref (He.ga g.K "is_short")) := let ⟨_, a, b⟩ := T.ns; He.glo_ok a b (T.says.fact 28 (f := .glo "is_short") rfl)
theorem Tx.g_by_windows (T : Tx g) : g.mg "by_windows" = some (.ref (He.ga g.K "by_windows")) := let ⟨_, a, b⟩ := T.ns; He.glo_ok a b (T.says.fact 29 (f := .glo "by_windows") rfl)
theorem Tx.g_ever_matters (T : Tx g) : g.mg "ever_matters" = some (.ref (He.ga g.K "ever_matters")) := let ⟨_, a, b⟩ := T.ns; He.glo_ok a b (T.says.fact 30 (f := .glo "ever_matters") rfl)
theorem Tx.g_three_of (T : Tx g) : g.mg "three_of" = some (.ref (He.ga g.K "three_of")) := let ⟨_, a, b⟩ := T.ns; He.glo_ok a b (T.says.fact 31 (f := .glo "three_of") rfl)
theorem Tx.g_phrase_for (T : Tx g) : g.mg "phrase_for" = some (.ref (He.ga g.K "phrase_for")) := let ⟨_, a, b⟩ := T.ns; He.glo_ok a b (T.says.fact 32 (f := .glo "phrase_for") rfl)
theorem Tx.g__law_dice (T : Tx g) : g.mg "_law_dice" = some (.ref (He.ga g.K "_law_dice")) := let ⟨_, a, b⟩ := T.ns; He.glo_ok a b (T.says.fact 33 (f := .glo "_law_dice") rfl)
theorem Tx.g__law_draw (T : Tx g) : g.mg "_law_draw" = some (.ref (He.ga g.K "_law_draw")) := let ⟨_, a, b⟩ := T.ns; He.glo_ok a b (T.says.fact 34 (f := .glo "_law_draw") rfl)
theorem Tx.g__law_drawn_shape (T : Tx g) : g.mg "_law_drawn_shape" = some (.ref (He.ga g.K "_law_drawn_shape")) := let ⟨_, a, b⟩ := T.ns; He.glo_ok a b (T.says.fact 35 (f := .glo "_law_drawn_shape") rfl)
theorem Tx.g__law_rows (T : Tx g) : g.mg "_law_rows" = some (.ref (He.ga g.K "_law_rows")) := let ⟨_, a, b⟩ := T.ns; He.glo_ok a b (T.says.fact 36 (f := .glo "_law_rows") rfl)
theorem Tx.g__law_like (T : Tx g) : g.mg "_law_like" = some (.ref (He.ga g.K "_law_like")) := let ⟨_, a, b⟩ := T.ns; He.glo_ok a b (T.says.fact 37 (f := .glo "_law_like") rfl)
theorem Tx.g__law_book (T : Tx g) : g.mg "_law_book" = some (.ref (He.ga g.K "_law_book")) := let ⟨_, a, b⟩ := T.ns; He.glo_ok a b (T.says.fact 38 (f := .glo "_law_book") rfl)
theorem Tx.g__law_made (T : Tx g) : g.mg "_law_made" = some (.ref (He.ga g.K "_law_made")) := let ⟨_, a, b⟩ := T.ns; He.glo_ok a b (T.says.fact 39 (f := .glo "_law_made") rfl)
theorem Tx.g__law_met (T : Tx g) : g.mg "_law_met" = some (.ref (He.ga g.K "_law_met")) := let ⟨_, a, b⟩ := T.ns; He.glo_ok a b (T.says.fact 40 (f := .glo "_law_met") rfl)
theorem Tx.g__law_row (T : Tx g) : g.mg "_law_row" = some (.ref (He.ga g.K "_law_row")) := let ⟨_, a, b⟩ := T.ns; He.glo_ok a b (T.says.fact 41 (f := .glo "_law_row") rfl)
theorem Tx.g__law_say (T : Tx g) : g.mg "_law_say" = some (.ref (He.ga g.K "_law_say")) := let ⟨_, a, b⟩ := T.ns; He.glo_ok a b (T.says.fact 42 (f := .glo "_law_say") rfl)
theorem Tx.g__law_few_words (T : Tx g) : g.mg "_law_few_words" = some (.ref (He.ga g.K "_law_few_words")) := let ⟨_, a, b⟩ := T.ns; He.glo_ok a b (T.says.fact 43 (f := .glo "_law_few_words") rfl)
theorem Tx.g__law_small_sizes (T : Tx g) : g.mg "_law_small_sizes" = some (.ref (He.ga g.K "_law_small_sizes")) := let ⟨_, a, b⟩ := T.ns; He.glo_ok a b (T.says.fact 44 (f := .glo "_law_small_sizes") rfl)
theorem Tx.g__law_case (T : Tx g) : g.mg "_law_case" = some (.ref (He.ga g.K "_law_case")) := let ⟨_, a, b⟩ := T.ns; He.glo_ok a b (T.says.fact 45 (f := .glo "_law_case") rfl)
theorem Tx.g__law_phrase (T : Tx g) : g.mg "_law_phrase" = some (.ref (He.ga g.K "_law_phrase")) := let ⟨_, a, b⟩ := T.ns; He.glo_ok a b (T.says.fact 46 (f := .glo "_law_phrase") rfl)
theorem Tx.g__law_alike (T : Tx g) : g.mg "_law_alike" = some (.ref (He.ga g.K "_law_alike")) := let ⟨_, a, b⟩ := T.ns; He.glo_ok a b (T.says.fact 47 (f := .glo "_law_alike") rfl)
theorem Tx.g_law (T : Tx g) : g.mg "law" = some (.ref (He.ga g.K "law")) := let ⟨_, a, b⟩ := T.ns; He.glo_ok a b (T.says.fact 48 (f := .glo "law") rfl)
theorem Tx.g_Book (T : Tx g) : g.mg "Book" = some (.ref (He.ga g.K "Book")) := let ⟨_, a, b⟩ := T.ns; He.glo_ok a b (T.says.fact 49 (f := .glo "Book") rfl)
theorem Tx.g_Joinings (T : Tx g) : g.mg "Joinings" = some (.ref (He.ga g.K "Joinings")) := let ⟨_, a, b⟩ := T.ns; He.glo_ok a b (T.says.fact 50 (f := .glo "Joinings") rfl)
theorem Tx.g_Sayer (T : Tx g) : g.mg "Sayer" = some (.ref (He.ga g.K "Sayer")) := let ⟨_, a, b⟩ := T.ns; He.glo_ok a b (T.says.fact 51 (f := .glo "Sayer") rfl)
theorem Tx.g_Closing (T : Tx g) : g.mg "Closing" = some (.ref (He.ga g.K "Closing")) := let ⟨_, a, b⟩ := T.ns; He.glo_ok a b (T.says.fact 52 (f := .glo "Closing") rfl)
theorem Tx.f_len (T : Tx g) : g.mg "len" = none := let ⟨_, a, b⟩ := T.ns; He.free_ok a b (T.says.fact 53 (f := .free "len") rfl)
theorem Tx.f_isinstance (T : Tx g) : g.mg "isinstance" = none := let ⟨_, a, b⟩ := T.ns; He.free_ok a b (T.says.fact 54 (f := .free "isinstance") rfl)
theorem Tx.f_tuple (T : Tx g) : g.mg "tuple" = none := let ⟨_, a, b⟩ := T.ns; He.free_ok a b (T.says.fact 55 (f := .free "tuple") rfl)
theorem Tx.f_list (T : Tx g) : g.mg "list" = none := let ⟨_, a, b⟩ := T.ns; He.free_ok a b (T.says.fact 56 (f := .free "list") rfl)
theorem Tx.f_dict (T : Tx g) : g.mg "dict" = none := let ⟨_, a, b⟩ := T.ns; He.free_ok a b (T.says.fact 57 (f := .free "dict") rfl)
theorem Tx.f_int (T : Tx g) : g.mg "int" = none := let ⟨_, a, b⟩ := T.ns; He.free_ok a b (T.says.fact 58 (f := .free "int") rfl)
theorem Tx.f_bool (T : Tx g) : g.mg "bool" = none := let ⟨_, a, b⟩ := T.ns; He.free_ok a b (T.says.fact 59 (f := .free "bool") rfl)
theorem Tx.f_range (T : Tx g) : g.mg "range" = none := let ⟨_, a, b⟩ := T.ns; He.free_ok a b (T.says.fact 60 (f := .free "range") rfl)
theorem Tx.f_all (T : Tx g) : g.mg "all" = none := let ⟨_, a, b⟩ := T.ns; He.free_ok a b (T.says.fact 61 (f := .free "all") rfl)
theorem Tx.f_max (T : Tx g) : g.mg "max" = none := let ⟨_, a, b⟩ := T.ns; He.free_ok a b (T.says.fact 62 (f := .free "max") rfl)
theorem Tx.f_min (T : Tx g) : g.mg "min" = none := let ⟨_, a, b⟩ := T.ns; He.free_ok a b (T.says.fact 63 (f := .free "min") rfl)
theorem Tx.f_sum (T : Tx g) : g.mg "sum" = none := let ⟨_, a, b⟩ := T.ns; He.free_ok a b (T.says.fact 64 (f := .free "sum") rfl)
theorem Tx.f_abs (T : Tx g) : g.mg "abs" = none := let ⟨_, a, b⟩ := T.ns; He.free_ok a b (T.says.fact 65 (f := .free "abs") rfl)
theorem Tx.f_zip (T : Tx g) : g.mg "zip" = none := let ⟨_, a, b⟩ := T.ns; He.free_ok a b (T.says.fact 66 (f := .free "zip") rfl)
theorem Tx.i_MOST_SOUNDS (T : Tx g) : ∃ t, g.mg "MOST_SOUNDS" = some (.int 8 t) := let ⟨_, a, b⟩ := T.ns; He.int_ok a b (T.says.fact 67 (f := .int "MOST_SOUNDS" 8) rfl)
theorem Tx.i_MOST_SIDE (T : Tx g) : ∃ t, g.mg "MOST_SIDE" = some (.int 4 t) := let ⟨_, a, b⟩ := T.ns; He.int_ok a b (T.says.fact 68 (f := .int "MOST_SIDE" 4) rfl)
theorem Tx.i_MOST_ENTRIES (T : Tx g) : ∃ t, g.mg "MOST_ENTRIES" = some (.int 4000 t) := let ⟨_, a, b⟩ := T.ns; He.int_ok a b (T.says.fact 69 (f := .int "MOST_ENTRIES" 4000) rfl)
theorem Tx.i_MOST_WORDS (T : Tx g) : ∃ t, g.mg "MOST_WORDS" = some (.int 40 t) := let ⟨_, a, b⟩ := T.ns; He.int_ok a b (T.says.fact 70 (f := .int "MOST_WORDS" 40) rfl)
theorem Tx.i_MOST_WORD (T : Tx g) : ∃ t, g.mg "MOST_WORD" = some (.int 200 t) := let ⟨_, a, b⟩ := T.ns; He.int_ok a b (T.says.fact 71 (f := .int "MOST_WORD" 200) rfl)
theorem Tx.i_MOST_LISTED (T : Tx g) : ∃ t, g.mg "MOST_LISTED" = some (.int 12 t) := let ⟨_, a, b⟩ := T.ns; He.int_ok a b (T.says.fact 72 (f := .int "MOST_LISTED" 12) rfl)
theorem Tx.i_MOST_SUMMARIES (T : Tx g) : ∃ t, g.mg "MOST_SUMMARIES" = some (.int 400 t) := let ⟨_, a, b⟩ := T.ns; He.int_ok a b (T.says.fact 73 (f := .int "MOST_SUMMARIES" 400) rfl)
theorem Tx.c_Book (T : Tx g) : Cls g.K (He.ga g.K "Book") := He.cls_ok (T.says.fact 74 (f := .cls "Book") rfl)
theorem Tx.m_Book (T : Tx g) : Mk g.K (He.ga g.K "Book") (He.ma g.K (He.ga g.K "Book") "__init__") := He.mkr_ok (T.says.fact 75 (f := .mkr "Book") rfl)
theorem Tx.n_Book_kept_sounds (T : Tx g) : NoAttr g.K (He.ga g.K "Book") "kept_sounds" := He.noat_ok (T.says.fact 76 (f := .noat "Book" "kept_sounds") rfl)
theorem Tx.n_Book_kept_ahead (T : Tx g) : NoAttr g.K (He.ga g.K "Book") "kept_ahead" := He.noat_ok (T.says.fact 77 (f := .noat "Book" "kept_ahead") rfl)
theorem Tx.n_Book_kept_behind (T : Tx g) : NoAttr g.K (He.ga g.K "Book") "kept_behind" := He.noat_ok (T.says.fact 78 (f := .noat "Book" "kept_behind") rfl)
theorem Tx.n_Book_kept_table (T : Tx g) : NoAttr g.K (He.ga g.K "Book") "kept_table" := He.noat_ok (T.says.fact 79 (f := .noat "Book" "kept_table") rfl)
theorem Tx.c_Joinings (T : Tx g) : Cls g.K (He.ga g.K "Joinings") := He.cls_ok (T.says.fact 80 (f := .cls "Joinings") rfl)
theorem Tx.m_Joinings (T : Tx g) : Mk g.K (He.ga g.K "Joinings") (He.ma g.K (He.ga g.K "Joinings") "__init__") := He.mkr_ok (T.says.fact 81 (f := .mkr "Joinings") rfl)
theorem Tx.n_Joinings_first (T : Tx g) : NoAttr g.K (He.ga g.K "Joinings") "first" := He.noat_ok (T.says.fact 82 (f := .noat "Joinings" "first") rfl)
theorem Tx.n_Joinings_last (T : Tx g) : NoAttr g.K (He.ga g.K "Joinings") "last" := He.noat_ok (T.says.fact 83 (f := .noat "Joinings" "last") rfl)
theorem Tx.n_Joinings_above (T : Tx g) : NoAttr g.K (He.ga g.K "Joinings") "above" := He.noat_ok (T.says.fact 84 (f := .noat "Joinings" "above") rfl)
theorem Tx.n_Joinings_fair (T : Tx g) : NoAttr g.K (He.ga g.K "Joinings") "fair" := He.noat_ok (T.says.fact 85 (f := .noat "Joinings" "fair") rfl)
theorem Tx.c_Sayer (T : Tx g) : Cls g.K (He.ga g.K "Sayer") := He.cls_ok (T.says.fact 86 (f := .cls "Sayer") rfl)
theorem Tx.m_Sayer (T : Tx g) : Mk g.K (He.ga g.K "Sayer") (He.ma g.K (He.ga g.K "Sayer") "__init__") := He.mkr_ok (T.says.fact 87 (f := .mkr "Sayer") rfl)
theorem Tx.n_Sayer_book (T : Tx g) : NoAttr g.K (He.ga g.K "Sayer") "book" := He.noat_ok (T.says.fact 88 (f := .noat "Sayer" "book") rfl)
theorem Tx.n_Sayer_row (T : Tx g) : NoAttr g.K (He.ga g.K "Sayer") "row" := He.noat_ok (T.says.fact 89 (f := .noat "Sayer" "row") rfl)
theorem Tx.n_Sayer_starts (T : Tx g) : NoAttr g.K (He.ga g.K "Sayer") "starts" := He.noat_ok (T.says.fact 90 (f := .noat "Sayer" "starts") rfl)
theorem Tx.n_Sayer_joinings (T : Tx g) : NoAttr g.K (He.ga g.K "Sayer") "joinings" := He.noat_ok (T.says.fact 91 (f := .noat "Sayer" "joinings") rfl)
theorem Tx.n_Sayer_order (T : Tx g) : NoAttr g.K (He.ga g.K "Sayer") "order" := He.noat_ok (T.says.fact 92 (f := .noat "Sayer" "order") rfl)
theorem Tx.n_Sayer_changed (T : Tx g) : NoAttr g.K (He.ga g.K "Sayer") "changed" := He.noat_ok (T.says.fact 93 (f := .noat "Sayer" "changed") rfl)
theorem Tx.n_Sayer_looked (T : Tx g) : NoAttr g.K (He.ga g.K "Sayer") "looked" := He.noat_ok (T.says.fact 94 (f := .noat "Sayer" "looked") rfl)
theorem Tx.c_Closing (T : Tx g) : Cls g.K (He.ga g.K "Closing") := He.cls_ok (T.says.fact 95 (f := .cls "Closing") rfl)
theorem Tx.m_Closing (T : Tx g) : Mk g.K (He.ga g.K "Closing") (He.ma g.K (He.ga g.K "Closing") "__init__") := He.mkr_ok (T.says.fact 96 (f := .mkr "Closing") rfl)
theorem Tx.n_Closing_book (T : Tx g) : NoAttr g.K (He.ga g.K "Closing") "book" := He.noat_ok (T.says.fact 97 (f := .noat "Closing" "book") rfl)
theorem Tx.n_Closing_found (T : Tx g) : NoAttr g.K (He.ga g.K "Closing") "found" := He.noat_ok (T.says.fact 98 (f := .noat "Closing" "found") rfl)
theorem Tx.n_Closing_fewest (T : Tx g) : NoAttr g.K (He.ga g.K "Closing") "fewest" := He.noat_ok (T.says.fact 99 (f := .noat "Closing" "fewest") rfl)
theorem Tx.n_Closing_made_of (T : Tx g) : NoAttr g.K (He.ga g.K "Closing") "made_of" := He.noat_ok (T.says.fact 100 (f := .noat "Closing" "made_of") rfl)
theorem Tx.t_Book_keep (T : Tx g) : Meth g.K (He.ga g.K "Book") "keep" (He.ma g.K (He.ga g.K "Book") "keep") := He.meth_ok (T.says.fact 101 (f := .meth "Book" "keep") rfl)
theorem Tx.t_Book_reach (T : Tx g) : Meth g.K (He.ga g.K "Book") "reach" (He.ma g.K (He.ga g.K "Book") "reach") := He.meth_ok (T.says.fact 102 (f := .meth "Book" "reach") rfl)
theorem Tx.t_Sayer_join (T : Tx g) : Meth g.K (He.ga g.K "Sayer") "join" (He.ma g.K (He.ga g.K "Sayer") "join") := He.meth_ok (T.says.fact 103 (f := .meth "Sayer" "join") rfl)
theorem Tx.t_Sayer_say (T : Tx g) : Meth g.K (He.ga g.K "Sayer") "say" (He.ma g.K (He.ga g.K "Sayer") "say") := He.meth_ok (T.says.fact 104 (f := .meth "Sayer" "say") rfl)
theorem Tx.t_Closing_add (T : Tx g) : Meth g.K (He.ga g.K "Closing") "add" (He.ma g.K (He.ga g.K "Closing") "add") := He.meth_ok (T.says.fact 105 (f := .meth "Closing" "add") rfl)
theorem Tx.t_Closing_joined (T : Tx g) : Meth g.K (He.ga g.K "Closing") "joined" (He.ma g.K (He.ga g.K "Closing") "joined") := He.meth_ok (T.says.fact 106 (f := .meth "Closing" "joined") rfl)
theorem Tx.t_Closing_join (T : Tx g) : Meth g.K (He.ga g.K "Closing") "join" (He.ma g.K (He.ga g.K "Closing") "join") := He.meth_ok (T.says.fact 107 (f := .meth "Closing" "join") rfl)
theorem Tx.t_Closing_settle (T : Tx g) : Meth g.K (He.ga g.K "Closing") "settle" (He.ma g.K (He.ga g.K "Closing") "settle") := He.meth_ok (T.says.fact 108 (f := .meth "Closing" "settle") rfl)
theorem Tx.t_Closing_phrase (T : Tx g) : Meth g.K (He.ga g.K "Closing") "phrase" (He.ma g.K (He.ga g.K "Closing") "phrase") := He.meth_ok (T.says.fact 109 (f := .meth "Closing" "phrase") rfl)
theorem Tx.d_is_integer (T : Tx g) : ∃ fd, FunD g.K "is_integer" "is_integer" (defArgs st_is_integer) (defBody st_is_integer) (defScope st_is_integer) [] [] (He.ga g.K "is_integer") fd := T.says.def_ 0 (d := dD "is_integer" st_is_integer) rfl
theorem Tx.d_is_between (T : Tx g) : ∃ fd, FunD g.K "is_between" "is_between" (defArgs st_is_between) (defBody st_is_between) (defScope st_is_between) [] [] (He.ga g.K "is_between") fd := T.says.def_ 1 (d := dD "is_between" st_is_between) rfl
theorem Tx.d_is_index (T : Tx g) : ∃ fd, FunD g.K "is_index" "is_index" (defArgs st_is_index) (defBody st_is_index) (defScope st_is_index) [] [] (He.ga g.K "is_index") fd := T.says.def_ 2 (d := dD "is_index" st_is_index) rfl
theorem Tx.d_is_sounds (T : Tx g) : ∃ fd, FunD g.K "is_sounds" "is_sounds" (defArgs st_is_sounds) (defBody st_is_sounds) (defScope st_is_sounds) [] [] (He.ga g.K "is_sounds") fd := T.says.def_ 3 (d := dD "is_sounds" st_is_sounds) rfl
theorem Tx.d_is_side_pair (T : Tx g) : ∃ fd, FunD g.K "is_side_pair" "is_side_pair" (defArgs st_is_side_pair) (defBody st_is_side_pair) (defScope st_is_side_pair) [] [] (He.ga g.K "is_side_pair") fd := T.says.def_ 4 (d := dD "is_side_pair" st_is_side_pair) rfl
theorem Tx.d_is_table (T : Tx g) : ∃ fd, FunD g.K "is_table" "is_table" (defArgs st_is_table) (defBody st_is_table) (defScope st_is_table) [] [] (He.ga g.K "is_table") fd := T.says.def_ 5 (d := dD "is_table" st_is_table) rfl
theorem Tx.d_check_sizes (T : Tx g) : ∃ fd, FunD g.K "check_sizes" "check_sizes" (defArgs st_check_sizes) (defBody st_check_sizes) (defScope st_check_sizes) [] [] (He.ga g.K "check_sizes") fd := T.says.def_ 6 (d := dD "check_sizes" st_check_sizes) rfl
theorem Tx.d_told (T : Tx g) : ∃ fd, FunD g.K "told" "told" (defArgs st_told) (defBody st_told) (defScope st_told) [] [] (He.ga g.K "told") fd := T.says.def_ 7 (d := dD "told" st_told) rfl
theorem Tx.d_is_fair (T : Tx g) : ∃ fd, FunD g.K "is_fair" "is_fair" (defArgs st_is_fair) (defBody st_is_fair) (defScope st_is_fair) [] [] (He.ga g.K "is_fair") fd := T.says.def_ 8 (d := dD "is_fair" st_is_fair) rfl
theorem Tx.d_is_shape (T : Tx g) : ∃ fd, FunD g.K "is_shape" "is_shape" (defArgs st_is_shape) (defBody st_is_shape) (defScope st_is_shape) [] [] (He.ga g.K "is_shape") fd := T.says.def_ 9 (d := dD "is_shape" st_is_shape) rfl
theorem Tx.d_check_shape (T : Tx g) : ∃ fd, FunD g.K "check_shape" "check_shape" (defArgs st_check_shape) (defBody st_check_shape) (defScope st_check_shape) [] [] (He.ga g.K "check_shape") fd := T.says.def_ 10 (d := dD "check_shape" st_check_shape) rfl
theorem Tx.d_lessened (T : Tx g) : ∃ fd, FunD g.K "lessened" "lessened" (defArgs st_lessened) (defBody st_lessened) (defScope st_lessened) [] [] (He.ga g.K "lessened") fd := T.says.def_ 11 (d := dD "lessened" st_lessened) rfl
theorem Tx.d_with_root (T : Tx g) : ∃ fd, FunD g.K "with_root" "with_root" (defArgs st_with_root) (defBody st_with_root) (defScope st_with_root) [] [] (He.ga g.K "with_root") fd := T.says.def_ 12 (d := dD "with_root" st_with_root) rfl
theorem Tx.d_joined_shape (T : Tx g) : ∃ fd, FunD g.K "joined_shape" "joined_shape" (defArgs st_joined_shape) (defBody st_joined_shape) (defScope st_joined_shape) [] [] (He.ga g.K "joined_shape") fd := T.says.def_ 13 (d := dD "joined_shape" st_joined_shape) rfl
theorem Tx.d_check_shape_for (T : Tx g) : ∃ fd, FunD g.K "check_shape_for" "check_shape_for" (defArgs st_check_shape_for) (defBody st_check_shape_for) (defScope st_check_shape_for) [] [] (He.ga g.K "check_shape_for") fd := T.says.def_ 14 (d := dD "check_shape_for" st_check_shape_for) rfl
theorem Tx.d_is_word (T : Tx g) : ∃ fd, FunD g.K "is_word" "is_word" (defArgs st_is_word) (defBody st_is_word) (defScope st_is_word) [] [] (He.ga g.K "is_word") fd := T.says.def_ 15 (d := dD "is_word" st_is_word) rfl
theorem Tx.d_check_words (T : Tx g) : ∃ fd, FunD g.K "check_words" "check_words" (defArgs st_check_words) (defBody st_check_words) (defScope st_check_words) [] [] (He.ga g.K "check_words") fd := T.says.def_ 16 (d := dD "check_words" st_check_words) rfl
theorem Tx.d_check_phrase (T : Tx g) : ∃ fd, FunD g.K "check_phrase" "check_phrase" (defArgs st_check_phrase) (defBody st_check_phrase) (defScope st_check_phrase) [] [] (He.ga g.K "check_phrase") fd := T.says.def_ 17 (d := dD "check_phrase" st_check_phrase) rfl
theorem Tx.d_joined_rows (T : Tx g) : ∃ fd, FunD g.K "joined_rows" "joined_rows" (defArgs st_joined_rows) (defBody st_joined_rows) (defScope st_joined_rows) [] [] (He.ga g.K "joined_rows") fd := T.says.def_ 18 (d := dD "joined_rows" st_joined_rows) rfl
theorem Tx.d_inner_first (T : Tx g) : ∃ fd, FunD g.K "inner_first" "inner_first" (defArgs st_inner_first) (defBody st_inner_first) (defScope st_inner_first) [] [] (He.ga g.K "inner_first") fd := T.says.def_ 19 (d := dD "inner_first" st_inner_first) rfl
theorem Tx.d_said_row (T : Tx g) : ∃ fd, FunD g.K "said_row" "said_row" (defArgs st_said_row) (defBody st_said_row) (defScope st_said_row) [] [] (He.ga g.K "said_row") fd := T.says.def_ 20 (d := dD "said_row" st_said_row) rfl
theorem Tx.d_said (T : Tx g) : ∃ fd, FunD g.K "said" "said" (defArgs st_said) (defBody st_said) (defScope st_said) [] [] (He.ga g.K "said") fd := T.says.def_ 21 (d := dD "said" st_said) rfl
theorem Tx.d_met_rows (T : Tx g) : ∃ fd, FunD g.K "met_rows" "met_rows" (defArgs st_met_rows) (defBody st_met_rows) (defScope st_met_rows) [] [] (He.ga g.K "met_rows") fd := T.says.def_ 22 (d := dD "met_rows" st_met_rows) rfl
theorem Tx.d_matters_at (T : Tx g) : ∃ fd, FunD g.K "matters_at" "matters_at" (defArgs st_matters_at) (defBody st_matters_at) (defScope st_matters_at) [] [] (He.ga g.K "matters_at") fd := T.says.def_ 23 (d := dD "matters_at" st_matters_at) rfl
theorem Tx.d_check_list (T : Tx g) : ∃ fd, FunD g.K "check_list" "check_list" (defArgs st_check_list) (defBody st_check_list) (defScope st_check_list) [] [] (He.ga g.K "check_list") fd := T.says.def_ 24 (d := dD "check_list" st_check_list) rfl
theorem Tx.d_summed_up (T : Tx g) : ∃ fd, FunD g.K "summed_up" "summed_up" (defArgs st_summed_up) (defBody st_summed_up) (defScope st_summed_up) [] [] (He.ga g.K "summed_up") fd := T.says.def_ 25 (d := dD "summed_up" st_summed_up) rfl
theorem Tx.d_standing_for (T : Tx g) : ∃ fd, FunD g.K "standing_for" "standing_for" (defArgs st_standing_for) (defBody st_standing_for) (defScope st_standing_for) [] [] (He.ga g.K "standing_for") fd := T.says.def_ 26 (d := dD "standing_for" st_standing_for) rfl
theorem Tx.d_is_pair_of_rows (T : Tx g) : ∃ fd, FunD g.K "is_pair_of_rows" "is_pair_of_rows" (defArgs st_is_pair_of_rows) (defBody st_is_pair_of_rows) (defScope st_is_pair_of_rows) [] [] (He.ga g.K "is_pair_of_rows") fd := T.says.def_ 27 (d := dD "is_pair_of_rows" st_is_pair_of_rows) rfl
theorem Tx.d_is_short (T : Tx g) : ∃ fd, FunD g.K "is_short" "is_short" (defArgs st_is_short) (defBody st_is_short) (defScope st_is_short) [] [] (He.ga g.K "is_short") fd := T.says.def_ 28 (d := dD "is_short" st_is_short) rfl
theorem Tx.d_by_windows (T : Tx g) : ∃ fd, FunD g.K "by_windows" "by_windows" (defArgs st_by_windows) (defBody st_by_windows) (defScope st_by_windows) [] [] (He.ga g.K "by_windows") fd := T.says.def_ 29 (d := dD "by_windows" st_by_windows) rfl
theorem Tx.d_ever_matters (T : Tx g) : ∃ fd, FunD g.K "ever_matters" "ever_matters" (defArgs st_ever_matters) (defBody st_ever_matters) (defScope st_ever_matters) [] [] (He.ga g.K "ever_matters") fd := T.says.def_ 30 (d := dD "ever_matters" st_ever_matters) rfl
theorem Tx.d_three_of (T : Tx g) : ∃ fd, FunD g.K "three_of" "three_of" (defArgs st_three_of) (defBody st_three_of) (defScope st_three_of) [] [] (He.ga g.K "three_of") fd := T.says.def_ 31 (d := dD "three_of" st_three_of) rfl
theorem Tx.d_phrase_for (T : Tx g) : ∃ fd, FunD g.K "phrase_for" "phrase_for" (defArgs st_phrase_for) (defBody st_phrase_for) (defScope st_phrase_for) [] [] (He.ga g.K "phrase_for") fd := T.says.def_ 32 (d := dD "phrase_for" st_phrase_for) rfl
theorem Tx.d__law_dice (T : Tx g) : ∃ fd, FunD g.K "_law_dice" "_law_dice" (defArgs st__law_dice) (defBody st__law_dice) (defScope st__law_dice) [] [] (He.ga g.K "_law_dice") fd := T.says.def_ 33 (d := dD "_law_dice" st__law_dice) rfl
theorem Tx.d__law_draw (T : Tx g) : ∃ fd, FunD g.K "_law_draw" "_law_draw" (defArgs st__law_draw) (defBody st__law_draw) (defScope st__law_draw) [] [] (He.ga g.K "_law_draw") fd := T.says.def_ 34 (d := dD "_law_draw" st__law_draw) rfl
theorem Tx.d__law_drawn_shape (T : Tx g) : ∃ fd, FunD g.K "_law_drawn_shape" "_law_drawn_shape" (defArgs st__law_drawn_shape) (defBody st__law_drawn_shape) (defScope st__law_drawn_shape) [] [] (He.ga g.K "_law_drawn_shape") fd := T.says.def_ 35 (d := dD "_law_drawn_shape" st__law_drawn_shape) rfl
theorem Tx.d__law_rows (T : Tx g) : ∃ fd, FunD g.K "_law_rows" "_law_rows" (defArgs st__law_rows) (defBody st__law_rows) (defScope st__law_rows) [] [] (He.ga g.K "_law_rows") fd := T.says.def_ 36 (d := dD "_law_rows" st__law_rows) rfl
theorem Tx.d__law_like (T : Tx g) : ∃ fd, FunD g.K "_law_like" "_law_like" (defArgs st__law_like) (defBody st__law_like) (defScope st__law_like) [] [] (He.ga g.K "_law_like") fd := T.says.def_ 37 (d := dD "_law_like" st__law_like) rfl
theorem Tx.d__law_book (T : Tx g) : ∃ fd, FunD g.K "_law_book" "_law_book" (defArgs st__law_book) (defBody st__law_book) (defScope st__law_book) [] [] (He.ga g.K "_law_book") fd := T.says.def_ 38 (d := dD "_law_book" st__law_book) rfl
theorem Tx.d__law_made (T : Tx g) : ∃ fd, FunD g.K "_law_made" "_law_made" (defArgs st__law_made) (defBody st__law_made) (defScope st__law_made) [] [] (He.ga g.K "_law_made") fd := T.says.def_ 39 (d := dD "_law_made" st__law_made) rfl
theorem Tx.d__law_met (T : Tx g) : ∃ fd, FunD g.K "_law_met" "_law_met" (defArgs st__law_met) (defBody st__law_met) (defScope st__law_met) [] [] (He.ga g.K "_law_met") fd := T.says.def_ 40 (d := dD "_law_met" st__law_met) rfl
theorem Tx.d__law_row (T : Tx g) : ∃ fd, FunD g.K "_law_row" "_law_row" (defArgs st__law_row) (defBody st__law_row) (defScope st__law_row) [] [] (He.ga g.K "_law_row") fd := T.says.def_ 41 (d := dD "_law_row" st__law_row) rfl
theorem Tx.d__law_say (T : Tx g) : ∃ fd, FunD g.K "_law_say" "_law_say" (defArgs st__law_say) (defBody st__law_say) (defScope st__law_say) [] [] (He.ga g.K "_law_say") fd := T.says.def_ 42 (d := dD "_law_say" st__law_say) rfl
theorem Tx.d__law_few_words (T : Tx g) : ∃ fd, FunD g.K "_law_few_words" "_law_few_words" (defArgs st__law_few_words) (defBody st__law_few_words) (defScope st__law_few_words) [] [] (He.ga g.K "_law_few_words") fd := T.says.def_ 43 (d := dD "_law_few_words" st__law_few_words) rfl
theorem Tx.d__law_small_sizes (T : Tx g) : ∃ fd, FunD g.K "_law_small_sizes" "_law_small_sizes" (defArgs st__law_small_sizes) (defBody st__law_small_sizes) (defScope st__law_small_sizes) [] [] (He.ga g.K "_law_small_sizes") fd := T.says.def_ 44 (d := dD "_law_small_sizes" st__law_small_sizes) rfl
theorem Tx.d__law_case (T : Tx g) : ∃ fd, FunD g.K "_law_case" "_law_case" (defArgs st__law_case) (defBody st__law_case) (defScope st__law_case) [] [] (He.ga g.K "_law_case") fd := T.says.def_ 45 (d := dD "_law_case" st__law_case) rfl
theorem Tx.d__law_phrase (T : Tx g) : ∃ fd, FunD g.K "_law_phrase" "_law_phrase" (defArgs st__law_phrase) (defBody st__law_phrase) (defScope st__law_phrase) [] [] (He.ga g.K "_law_phrase") fd := T.says.def_ 46 (d := dD "_law_phrase" st__law_phrase) rfl
theorem Tx.d__law_alike (T : Tx g) : ∃ fd, FunD g.K "_law_alike" "_law_alike" (defArgs st__law_alike) (defBody st__law_alike) (defScope st__law_alike) [] [] (He.ga g.K "_law_alike") fd := T.says.def_ 47 (d := dD "_law_alike" st__law_alike) rfl
theorem Tx.d_law (T : Tx g) : ∃ fd, FunD g.K "law" "law" (defArgs st_law) (defBody st_law) (defScope st_law) [] [] (He.ga g.K "law") fd := T.says.def_ 48 (d := dD "law" st_law) rfl
theorem Tx.d_Book_init (T : Tx g) : ∃ fd, FunD g.K "__init__" "Book.__init__" (defArgs st_Book_init) (defBody st_Book_init) (defScope st_Book_init) [] [] (He.ma g.K (He.ga g.K "Book") "__init__") fd := T.says.def_ 49 (d := dM "Book" "__init__" "Book.__init__" st_Book_init) rfl
theorem Tx.d_Book_keep (T : Tx g) : ∃ fd, FunD g.K "keep" "Book.keep" (defArgs st_Book_keep) (defBody st_Book_keep) (defScope st_Book_keep) [] [] (He.ma g.K (He.ga g.K "Book") "keep") fd := T.says.def_ 50 (d := dM "Book" "keep" "Book.keep" st_Book_keep) rfl
theorem Tx.d_Book_reach (T : Tx g) : ∃ fd, FunD g.K "reach" "Book.reach" (defArgs st_Book_reach) (defBody st_Book_reach) (defScope st_Book_reach) [] [] (He.ma g.K (He.ga g.K "Book") "reach") fd := T.says.def_ 51 (d := dM "Book" "reach" "Book.reach" st_Book_reach) rfl
theorem Tx.d_Joinings_init (T : Tx g) : ∃ fd, FunD g.K "__init__" "Joinings.__init__" (defArgs st_Joinings_init) (defBody st_Joinings_init) (defScope st_Joinings_init) [] [] (He.ma g.K (He.ga g.K "Joinings") "__init__") fd := T.says.def_ 52 (d := dM "Joinings" "__init__" "Joinings.__init__" st_Joinings_init) rfl
theorem Tx.d_Sayer_init (T : Tx g) : ∃ fd, FunD g.K "__init__" "Sayer.__init__" (defArgs st_Sayer_init) (defBody st_Sayer_init) (defScope st_Sayer_init) [] [] (He.ma g.K (He.ga g.K "Sayer") "__init__") fd := T.says.def_ 53 (d := dM "Sayer" "__init__" "Sayer.__init__" st_Sayer_init) rfl
theorem Tx.d_Sayer_join (T : Tx g) : ∃ fd, FunD g.K "join" "Sayer.join" (defArgs st_Sayer_join) (defBody st_Sayer_join) (defScope st_Sayer_join) [] [] (He.ma g.K (He.ga g.K "Sayer") "join") fd := T.says.def_ 54 (d := dM "Sayer" "join" "Sayer.join" st_Sayer_join) rfl
theorem Tx.d_Sayer_say (T : Tx g) : ∃ fd, FunD g.K "say" "Sayer.say" (defArgs st_Sayer_say) (defBody st_Sayer_say) (defScope st_Sayer_say) [] [] (He.ma g.K (He.ga g.K "Sayer") "say") fd := T.says.def_ 55 (d := dM "Sayer" "say" "Sayer.say" st_Sayer_say) rfl
theorem Tx.d_Closing_init (T : Tx g) : ∃ fd, FunD g.K "__init__" "Closing.__init__" (defArgs st_Closing_init) (defBody st_Closing_init) (defScope st_Closing_init) [] [] (He.ma g.K (He.ga g.K "Closing") "__init__") fd := T.says.def_ 56 (d := dM "Closing" "__init__" "Closing.__init__" st_Closing_init) rfl
theorem Tx.d_Closing_add (T : Tx g) : ∃ fd, FunD g.K "add" "Closing.add" (defArgs st_Closing_add) (defBody st_Closing_add) (defScope st_Closing_add) [] [] (He.ma g.K (He.ga g.K "Closing") "add") fd := T.says.def_ 57 (d := dM "Closing" "add" "Closing.add" st_Closing_add) rfl
theorem Tx.d_Closing_joined (T : Tx g) : ∃ fd, FunD g.K "joined" "Closing.joined" (defArgs st_Closing_joined) (defBody st_Closing_joined) (defScope st_Closing_joined) [] [] (He.ma g.K (He.ga g.K "Closing") "joined") fd := T.says.def_ 58 (d := dM "Closing" "joined" "Closing.joined" st_Closing_joined) rfl
theorem Tx.d_Closing_join (T : Tx g) : ∃ fd, FunD g.K "join" "Closing.join" (defArgs st_Closing_join) (defBody st_Closing_join) (defScope st_Closing_join) [] [] (He.ma g.K (He.ga g.K "Closing") "join") fd := T.says.def_ 59 (d := dM "Closing" "join" "Closing.join" st_Closing_join) rfl
theorem Tx.d_Closing_settle (T : Tx g) : ∃ fd, FunD g.K "settle" "Closing.settle" (defArgs st_Closing_settle) (defBody st_Closing_settle) (defScope st_Closing_settle) [] [] (He.ma g.K (He.ga g.K "Closing") "settle") fd := T.says.def_ 60 (d := dM "Closing" "settle" "Closing.settle" st_Closing_settle) rfl
theorem Tx.d_Closing_phrase (T : Tx g) : ∃ fd, FunD g.K "phrase" "Closing.phrase" (defArgs st_Closing_phrase) (defBody st_Closing_phrase) (defScope st_Closing_phrase) [] [] (He.ma g.K (He.ga g.K "Closing") "phrase") fd := T.says.def_ 61 (d := dM "Closing" "phrase" "Closing.phrase" st_Closing_phrase) rfl
end
end K73
end

section
set_option linter.all false
set_option maxRecDepth 100000
set_option maxHeartbeats 1000000
namespace K73
open PySem PySem.Spec PyProof.Rows L2
/-- a promise that lets no error out -/
abbrev Pr := List V → Hp → VK → Prop
abbrev Pr.sp (p : Pr) : Sp := fun vs H Q _ => p vs H Q
abbrev CalG (g : Gr) (k : Nat) (x : Str) (p : Pr) : Prop := C8.Cal g.P g.w g.K g.mg g.base k x p.sp []
abbrev MetG (g : Gr) (k : Nat) (C : Str) (m : Str) (p : Pr) : Prop := C8.Met g.P g.w g.K g.mg g.base k (He.ga g.K C) m p.sp []
abbrev MakG (g : Gr) (k : Nat) (C : Str) (p : Pr) : Prop := C8.Mak g.P g.w g.K g.mg g.base k C (He.ga g.K C) p.sp []
/-- the context of a body -/
abbrev cxG (g : Gr) (N : List Str) (qual : Str) (sc : Scope) (f : Addr) (cdv : Value) (A : Around) (outer : List Env) (s : Shared) (H : Hp) : Cx := (cxOf CX0 g.P g.w g.K g.mg g.base N qual sc f cdv A outer s H E0).nox
/-- a body keeps a promise: for each entry a reading, and the reading holds -/
def Keeps (g : Gr) (k : Nat) (N : List Str) (qual : Str) (st : Stmt) (f : Addr) (p : Pr) : Prop :=
  ∀ (cdv : Value) (A : Around) (outer : List Env) (s : Shared) (H : Hp) (vs : List V) (Q : VK), Room k (cxG g N qual (defScope st) f cdv A outer s H).A → p vs H Q →
    ∃ t, PSs (cxG g N qual (defScope st) f cdv A outer s H) (defBody st) t ∧ t { nx := fun _ H' => Q .non H', rt := Q } (start N vs) H
section
variable {g : Gr}
theorem keeps_fn {k : Nat} {N ps : List Str} {x qual : Str} {st : Stmt} {f : Addr} {fd : FuncData} {p : Pr} (F : FunD g.K x qual (defArgs st) (defBody st) (defScope st) [] [] f fd) (S : FnScope N ps (defScope st)) (len : ∀ vs H Q, p vs H Q → vs.length = ps.length)
    (h : Keeps g k N qual st f p) : FnOk g.P g.w g.K g.mg g.base CX0 (k + 1) f fd ps p.sp := by
  refine F.ok S (fun vs H Q E q => len vs H Q q) fun cdv A outer s H vs Q E hr q => ?_
  obtain ⟨t, h1, h2⟩ := h cdv A outer s H vs Q hr q
  exact ⟨t, PSs.nox h1, h2⟩
/-- how the parameters bind: «fun _ _ _ _ _ _ us hl => match us, hl with | [_, _], _ => rfl», one _ a parameter -/
abbrev BindW (x qual : Str) (st : Stmt) (ps : List Str) : Prop := ∀ (kV doc pm : Value) (an : Option Addr) (cdv ct : Value) (us : List Value), us.length = ps.length → bindArgs (PySem.W.fnOf x qual (defArgs st) (defBody st) (defScope st) .none kV doc pm an cdv ct) ⟨us, []⟩ = pure (ps.zip us)
theorem calD {k : Nat} {N ps : List Str} {x : Str} {st : Stmt} {p : Pr} (F : ∃ fd, FunD g.K x x (defArgs st) (defBody st) (defScope st) [] [] (He.ga g.K x) fd) (hm : g.mg x = some (.ref (He.ga g.K x))) (S : FnScope N ps (defScope st)) (b : BindW x x st ps)
    (len : ∀ vs H Q, p vs H Q → vs.length = ps.length) (h : Keeps g k N x st (He.ga g.K x) p) : CalG g (k + 1) x p := by
  obtain ⟨fd, F⟩ := F
  exact ⟨_, fd, ps, [], keeps_fn F S len h, hm, F.kp, F.bindsN b, .nil⟩
theorem metD {k : Nat} {N ps : List Str} {C m qual : Str} {st : Stmt} {p : Pr} (F : ∃ fd, FunD g.K m qual (defArgs st) (defBody st) (defScope st) [] [] (He.ma g.K (He.ga g.K C) m) fd) (c : Cls g.K (He.ga g.K C)) (hm : Meth g.K (He.ga g.K C) m (He.ma g.K (He.ga g.K C) m)) (S : FnScope N ps (defScope st)) (b : BindW m qual st ps)
    (len : ∀ vs H Q, p vs H Q → vs.length = ps.length) (h : Keeps g k N qual st (He.ma g.K (He.ga g.K C) m) p) : MetG g (k + 1) C m p := by
  obtain ⟨fd, F⟩ := F
  exact ⟨_, fd, ps, [], c, hm, keeps_fn F S len h, F.bindsN b, .nil⟩
theorem makD {k : Nat} {N ps : List Str} {C qual : Str} {st : Stmt} {p : Pr} (F : ∃ fd, FunD g.K "__init__" qual (defArgs st) (defBody st) (defScope st) [] [] (He.ma g.K (He.ga g.K C) "__init__") fd) (M : Mk g.K (He.ga g.K C) (He.ma g.K (He.ga g.K C) "__init__")) (hm : g.mg C = some (.ref (He.ga g.K C))) (S : FnScope N ps (defScope st)) (b : BindW "__init__" qual st ps)
    (len : ∀ vs H Q, p vs H Q → vs.length = ps.length) (h : Keeps g k N qual st (He.ma g.K (He.ga g.K C) "__init__") p) : MakG g (k + 1) C p := by
  obtain ⟨fd, F⟩ := F
  exact ⟨_, fd, ps, [], M, keeps_fn F S len h, hm, F.bindsN b, .nil⟩

/-! ### is_integer -/
def pIsInt : Pr := fun vs H Q => ∃ i, vs = [.int i] ∧ Q (.bl true) H
theorem ok_is_integer (T : Tx g) : CalG g 1 "is_integer" pIsInt := by
  refine calD T.d_is_integer T.g_is_integer sc_is_integer (fun _ _ _ _ _ _ us hl => match us, hl with | [_], _ => rfl) (fun vs H Q h => ?_) fun cdv A outer s H vs Q hr h => ?_
  · obtain ⟨i, rfl, _⟩ := h; rfl
  · obtain ⟨i, rfl, k⟩ := h
    refine ⟨_, pss_one (ps_ret (pe_and (pe_callB call_isi (by rfl) T.f_isinstance (by decide +kernel) (pa_cons (pv 0) (pa_cons (pe_bltn (by rfl) T.f_int (by decide +kernel) (v := .ty "int") rfl) pa_nil)))
      (pe_one (pe_not (pe_callB call_isi (by rfl) T.f_isinstance (by decide +kernel) (pa_cons (pv 0) (pa_cons (pe_bltn (by rfl) T.f_bool (by decide +kernel) (v := .ty "bool") rfl) pa_nil))))))), ?_⟩
    refine ⟨_, rfl, _, _, _, _, _, rfl, .ty "int", .base (.int i), kit_ty (r := true) (by decide +kernel), _, rfl, iteT ?_⟩
    refine ⟨_, rfl, _, _, _, _, _, rfl, .ty "bool", .base (.int i), kit_ty (r := false) (by decide +kernel), _, rfl, ?_⟩
    exact k
end
end K73
end

section
set_option linter.all false
set_option maxRecDepth 100000
set_option maxHeartbeats 1000000
/-! helpers of the walk -/
namespace K73
open PySem PySem.Spec PyProof.Rows L2
section
variable {H H' H0 H1 : Hp} {a d : Addr} {o : HO} {K : PySem.W.Frag} {Q : VK} {xs ys : List V}
theorem same_new (h : H a = none) : Same H (upd H a o) := fun b u e => by
  rw [upd_ne (fun z => by rw [z, h] at e; cases e)]; exact e
theorem upd_keep {K1 H' : Hp} {w x : Addr} {o u : HO} (e : K1 = upd H' w o) (n : x ≠ w) (h : H' x = some u) : K1 x = some u := by rw [e, upd_ne n]; exact h
theorem same_put (s : Same H0 H) (h : H0 a = none) : Same H0 (upd H a o) := fun b u e => by
  rw [upd_ne (fun z => by rw [z, h] at e; cases e)]; exact s _ _ e
theorem same_unlock {o' : HO} (h : H d = some o) (s : Same (upd H d o') H') : Same H (upd H' d o) := fun b u e => by
  by_cases c : b = d
  · subst c
    rw [h] at e; cases e
    exact upd_same
  · rw [upd_ne c]
    exact s b u (by rw [upd_ne c]; exact e)
theorem atI_nat {α : Type} {xs : List α} (k : Nat) {v : α} (h : xs[k]? = some v) : atI xs (k : Int) = some v := by
  obtain ⟨hk, _⟩ := List.getElem?_eq_some_iff.mp h
  unfold atI ixN
  rw [if_pos (by omega), if_pos (by omega)]
  simpa using h
theorem atI_of {α : Type} {xs : List α} {i : Int} {v : α} (h0 : 0 ≤ i) (h : xs[i.toNat]? = some v) : atI xs i = some v := by
  obtain ⟨k, rfl⟩ := Int.eq_ofNat_of_zero_le h0
  exact atI_nat k h
theorem ixN_of {n : Nat} {i : Int} (h0 : 0 ≤ i) (h : i < n) : ixN n i = some i.toNat := by
  unfold ixN
  rw [if_pos h0, if_pos h]

/-! ### walks over things that stand still -/
structure Wk (J : It) (R : Hp → Prop) (n : Nat) (I : Nat → V → Hp → Prop) : Prop where
  go : ∀ i H, i < n → R H → J.go i H
  yld : ∀ i H x H', i < n → R H → J.yld i H x H' → Same H H' ∧ I i x H'
  stop : ∀ H, R H → J.stop n H
theorem wk_tup {R : Hp → Prop} (h : ∀ H, R H → H a = some (.tup xs)) : Wk (Itt K a) R xs.length fun i x _ => xs[i]? = some x where
  go := fun i H hi r => ⟨xs, xs[i], .inl (.inl (h H r)), List.getElem?_eq_getElem hi⟩
  yld := fun i H x H' hi r y => by
    obtain ⟨e, y⟩ := y
    subst e
    exact ⟨.refl _, y xs (.inl (.inl (h _ r)))⟩
  stop := fun H r => ⟨xs, .inl (.inl (h H r)), Nat.le_refl _⟩
theorem wk_lst {R : Hp → Prop} (h : ∀ H, R H → H a = some (.lst xs)) : Wk (Itl K a) R xs.length fun i x _ => xs[i]? = some x where
  go := fun i H hi r => ⟨xs, xs[i], .inl (.inl (h H r)), List.getElem?_eq_getElem hi⟩
  yld := fun i H x H' hi r y => by
    obtain ⟨e, y⟩ := y
    subst e
    exact ⟨.refl _, y xs (.inl (.inl (h _ r)))⟩
  stop := fun H r => ⟨xs, .inl (.inl (h H r)), Nat.le_refl _⟩
theorem wk_rng {R : Hp → Prop} {lo : Int} {n : Nat} : Wk (Itr lo n) R n fun i x _ => x = .int (lo + i) where
  go := fun i H hi _ => hi
  yld := fun i H x H' hi r y => by
    obtain ⟨e, y⟩ := y
    subst e
    exact ⟨.refl _, y⟩
  stop := fun H _ => Nat.le_refl _
theorem wk_keys {κ : Type} [DecidableEq κ] {D : KD κ} {P : Program} {w : World} {ob : Obj} {es : Es κ} {R : Hp → Prop} (h : ∀ H, R H → H d = some (.frz ob (DO P w D d es))) : Wk (ItkN P w D d ob es) R es.length fun i x _ => ∃ e, es[i]? = some e ∧ x = .ref e.2.1 where
  go := fun i H hi r => ⟨h H r, hi⟩
  yld := fun i H x H' hi r y => by
    obtain ⟨e, y⟩ := y
    subst e
    exact ⟨.refl _, y⟩
  stop := fun H r => ⟨h H r, Nat.le_refl _⟩
theorem wk_items {κ : Type} [DecidableEq κ] {D : KD κ} {P : Program} {w : World} {ob : Obj} {es : Es κ} {R : Hp → Prop} (h : ∀ H, R H → H d = some (.frz ob (DO P w D d es))) : Wk (ItiN P w D d ob es) R es.length fun i x H' => ∃ T e, es[i]? = some e ∧ x = .ref T ∧ H' T = some (.tup [.ref e.2.1, e.2.2]) where
  go := fun i H hi r => ⟨h H r, hi⟩
  yld := fun i H x H' hi r y => by
    obtain ⟨T, e, e1, e2, e3, e4⟩ := y
    subst e4
    exact ⟨same_new e3, T, e, e1, e2, upd_same⟩
  stop := fun H r => ⟨h H r, Nat.le_refl _⟩
/-- what a for asks of its walk -/
def ForR (J : It) (H : Hp) (g : TG) (tb : TS) (D : Ends) (σ : L2.St) : Prop := ∃ W : Nat → Nat → L2.St → Hp → Prop, (∃ m, W 0 m σ H) ∧ ∀ i m σ H, W i m σ H →
  (J.stop i H ∧ D.nx σ H) ∨ (J.go i H ∧ ∃ N : L2.St → Hp → Prop, (∀ σ' H', N σ' H' → ∃ m', m' < m ∧ W (i + 1) m' σ' H') ∧ ∀ x H', J.yld i H x H' → g x σ H' fun σ2 H2 => tb { D with nx := N, ct := N, bk := D.nx } σ2 H2)
/-- a for over such a walk -/
theorem for_wk {J : It} {R : Hp → Prop} {n : Nat} {I : Nat → V → Hp → Prop} (wk : Wk J R n I) {g : TG} {tb : TS} {D : Ends} {σ : L2.St} {H : Hp} (A : Nat → L2.St → Hp → Prop) (ar : ∀ i σ H, A i σ H → R H) (a0 : A 0 σ H) (fin : ∀ σ H, A n σ H → D.nx σ H)
    (step : ∀ i x σ H H', i < n → A i σ H → Same H H' → I i x H' → g x σ H' fun σ2 H2 => tb ⟨A (i + 1), D.rt, D.nx, A (i + 1)⟩ σ2 H2) :
    ForR J H g tb D σ := by
  refine ⟨fun i m σ H => i + m = n ∧ A i σ H, ⟨n, Nat.zero_add n, a0⟩, fun i m σ H w => ?_⟩
  obtain ⟨e, w⟩ := w
  by_cases c : i < n
  · refine .inr ⟨wk.go i H c (ar _ _ _ w), A (i + 1), fun σ' H' h => ⟨m - 1, by omega, by omega, h⟩, fun x H' y => ?_⟩
    obtain ⟨s, q⟩ := wk.yld i H x H' c (ar _ _ _ w) y
    exact step i x σ H H' c w s q
  · have : i = n := by omega
    subst this
    exact .inl ⟨wk.stop H (ar _ _ _ w), fin _ _ w⟩
/-- all tuples are as they were -/
def Tk (H H' : Hp) : Prop := ∀ b xs, H b = some (.tup xs) → H' b = some (.tup xs)
theorem Tk.refl (H : Hp) : Tk H H := fun _ _ h => h
theorem Tk.trans {H H1 H2 : Hp} (a : Tk H H1) (b : Tk H1 H2) : Tk H H2 := fun c x h => b c x (a c x h)
theorem _root_.L2.Same.tk {H H' : Hp} (s : Same H H') : Tk H H' := fun b xs h => s b _ h
theorem tk_lst {l : List V} (h : H d = some (.lst l)) : Tk H (upd H d o) := fun b xs e => by
  rw [upd_ne (fun z => by rw [z, h] at e; cases e)]; exact e
theorem tk_ext {φ : Heap → Prop} (h : H d = some (.ext φ)) : Tk H (upd H d o) := fun b xs e => by
  rw [upd_ne (fun z => by rw [z, h] at e; cases e)]; exact e
theorem tk_ins {C dx : Addr} {fs : List (Str × V)} (h : H d = some (.ins C dx fs)) : Tk H (upd H d o) := fun b xs e => by
  rw [upd_ne (fun z => by rw [z, h] at e; cases e)]; exact e
/-- what a list comprehension asks of its walk -/
def LcR (J : It) (H : Hp) (g : TG) (tt : TT) (te : TE) (vs : List Nat) (σ : L2.St) (Q : VK) : Prop := ∀ D, H D = none → ∃ W : Nat → Nat → Hp → Prop, (∃ m, W 0 m (upd H D (.lst []))) ∧ ∀ i m H, W i m H →
  (J.stop i H ∧ Q (.ref D) H) ∨ (J.go i H ∧ ∃ Nx : Hp → Prop, (∀ H', Nx H' → ∃ m', m' < m ∧ W (i + 1) m' H') ∧ ∀ x H', J.yld i H x H' → g x (wipe σ vs) H' fun σ2 H2 => wipe σ2 vs = wipe σ vs ∧ tt σ2 H2 fun b H3 =>
    if b = true then te σ2 H3 fun y H4 => ∃ acc, H4 D = some (.lst acc) ∧ acc.length < sizeLine ∧ Nx (upd H4 D (.lst (acc ++ [y]))) else Nx H3)
/-- a list comprehension over such a walk -/
theorem lc_wk {J : It} {n : Nat} {I : Nat → V → Hp → Prop} (wk : Wk J (Same H) n I) {g : TG} {tt : TT} {te : TE} {vs : List Nat} {σ : L2.St} (A : Nat → List V → Hp → Prop) (am : ∀ i acc H1 H2, Tk H1 H2 → A i acc H1 → A i acc H2) (al : ∀ i acc H, i < n → A i acc H → acc.length < sizeLine) (a0 : ∀ H', Same H H' → A 0 [] H')
    (step : ∀ (C : Option V → Hp → Prop) i x acc H', i < n → Same H H' → I i x H' → A i acc H' → (∀ y H4, Same H' H4 → A (i + 1) (acc ++ [y]) H4 → C (some y) H4) → (∀ H3, Same H' H3 → A (i + 1) acc H3 → C none H3) →
      g x (wipe σ vs) H' fun σ2 H2 => wipe σ2 vs = wipe σ vs ∧ tt σ2 H2 fun b H3 => if b = true then te σ2 H3 fun y H4 => C (some y) H4 else C none H3)
    (fin : ∀ D ys H', Same H H' → H D = none → H' D = some (.lst ys) → A n ys H' → Q (.ref D) H') : LcR J H g tt te vs σ Q := by
  intro D hD
  refine ⟨fun i m H' => i + m = n ∧ Same H H' ∧ ∃ acc, H' D = some (.lst acc) ∧ A i acc H', ⟨n, Nat.zero_add n, same_new hD, [], upd_same, a0 _ (same_new hD)⟩, fun i m H' w => ?_⟩
  obtain ⟨e, s, acc, hA, w⟩ := w
  by_cases c : i < n
  · refine .inr ⟨wk.go i H' c s, fun H2 => Same H H2 ∧ ∃ acc, H2 D = some (.lst acc) ∧ A (i + 1) acc H2, fun H2 h => ⟨m - 1, by omega, by omega, h⟩, fun x H2 y => ?_⟩
    obtain ⟨s2, q⟩ := wk.yld i H' x H2 c s y
    refine step (fun r H4 => match r with
      | some y => ∃ acc, H4 D = some (.lst acc) ∧ acc.length < sizeLine ∧ (Same H (upd H4 D (.lst (acc ++ [y]))) ∧ ∃ acc', (upd H4 D (.lst (acc ++ [y]))) D = some (.lst acc') ∧ A (i + 1) acc' (upd H4 D (.lst (acc ++ [y]))))
      | none => Same H H4 ∧ ∃ acc, H4 D = some (.lst acc) ∧ A (i + 1) acc H4) i x acc H2 c (s.trans s2) q (am _ _ _ _ s2.tk w) (fun y H4 s4 q4 => ?_) fun H3 s3 q3 => ?_
    · have hD4 := s4 _ _ (s2 _ _ hA)
      exact ⟨acc, hD4, al i acc _ c w, same_put ((s.trans s2).trans s4) hD, _, upd_same, am _ _ _ _ (tk_lst hD4) q4⟩
    · exact ⟨(s.trans s2).trans s3, acc, s3 _ _ (s2 _ _ hA), q3⟩
  · have : i = n := by omega
    subst this
    exact .inl ⟨wk.stop H' s, fin D acc H' s hD hA w⟩
end
section
variable {X : Cx}
theorem pe_imp {e : Expr} {t t' : TE} (h : PE X e t) (m : ∀ σ H Q, t' σ H Q → t σ H Q) : PE X e t' := ⟨fun pins s σ H Q I hw => h.run pins s σ H Q I (m σ H Q hw)⟩
/-- a tuple laid -/
def kTup (H : Hp) (Q : VK) (xs : List V) : Prop := xs.length ≤ sizeLine ∧ ∀ p H', Same H H' → H p = none → H' p = some (.tup xs) → Q (.ref p) H'
def kLst (H : Hp) (Q : VK) (xs : List V) : Prop := xs.length ≤ sizeLine ∧ ∀ p H', Same H H' → H p = none → H' p = some (.lst xs) → Q (.ref p) H'
def mA (t : TA) : TA := fun σ H Q => ∃ Q0 : List V → Hp → Prop, t σ H Q0 ∧ ∀ xs H', Q0 xs H' → Q xs H'
theorem pa_m {es : List Expr} {t : TA} (h : PA X es t) : PA X es (mA t) := ⟨fun pos pins s σ H Q I ⟨Q0, h0, m⟩ => thn (h.run pos pins s σ H Q0 I h0) fun us s1 ⟨xs, H1, I1, r, q⟩ => ⟨xs, H1, I1, r, m _ _ q⟩⟩
def tTupM (t : TA) : TE := fun σ H Q => t σ H fun xs H1 => kTup H1 Q xs
def tLstM (t : TA) : TE := fun σ H Q => t σ H fun xs H1 => kLst H1 Q xs
theorem pe_tupM {es : List Expr} {x1} {pos : Pos} {t : TA} (h : PA X es t) : PE X (.Tuple es x1 pos) (tTupM t) := pe_imp (pe_tup (pa_m h)) fun σ H Q q => ⟨_, q, fun xs H' ⟨hl, k⟩ => ⟨hl, fun p hp => k p _ (same_new hp) hp upd_same⟩⟩
theorem pe_lstM {es : List Expr} {pos : Pos} {t : TA} (h : PA X es t) : PE X (.List es pos) (tLstM t) := pe_imp (pe_lst (pa_m h)) fun σ H Q q => ⟨_, q, fun xs H' ⟨hl, k⟩ => ⟨hl, fun p hp => k p _ (same_new hp) hp upd_same⟩⟩
theorem opr_imp {f : Value → Value → Sem Value} {r r' : R2} (h : OpR X f r) (m : ∀ x y H Q, r' x y H Q → r x y H Q) : OpR X f r' := fun pins s σ H x y v u Q I rx ry q => h pins s σ H x y v u Q I rx ry (m _ _ _ _ q)
theorem ixr_imp {r r' : R2} (h : IxR X r) (m : ∀ x y H Q, r' x y H Q → r x y H Q) : IxR X r' := fun value slice pins s σ H x y v u Q I rx ry q e => h value slice pins s σ H x y v u Q I rx ry (m _ _ _ _ q) e
theorem call_imp {f : Value} {r r' : List V → Hp → VK → Prop} (h : CallR X f r) (m : ∀ xs H Q, r' xs H Q → r xs H Q) : CallR X f r' := fun pins s σ H xs us Q I r q => h pins s σ H xs us Q I r (m _ _ _ q)
/-- t + u, any tuples -/
def rCatM : R2 := fun x y H Q => ∃ a b xs ys, x = .ref a ∧ y = .ref b ∧ H a = some (.tup xs) ∧ H b = some (.tup ys) ∧ xs.length + ys.length ≤ sizeLine ∧ ∀ p H', Same H H' → H' p = some (.tup (xs ++ ys)) → Q (.ref p) H'
theorem op_catM : OpR X (binaryOp .Add) rCatM := opr_imp op_catA fun x y H Q ⟨a, b, xs, ys, e1, e2, ha, hb, hl, h⟩ => by
  refine ⟨a, b, xs, ys, e1, e2, .inl (.inl ha), .inl (.inl hb), hl, fun e => ?_, fun _ e => ?_, fun _ _ p hp => h p _ (same_new hp) upd_same⟩
  · subst e; exact h b H (.refl H) hb
  · subst e; exact h a H (.refl H) (by rw [ha, List.append_nil])
/-- .. rows -/
def rCatR : R2 := fun x y H Q => ∃ a b u v, x = .ref a ∧ y = .ref b ∧ RowAt H a u ∧ RowAt H b v ∧ u.length + v.length ≤ sizeLine ∧ ∀ p H', Same H H' → RowAt H' p (u ++ v) → Q (.ref p) H'
theorem op_catR : OpR X (binaryOp .Add) rCatR := opr_imp op_catM fun x y H Q ⟨a, b, u, v, e1, e2, ha, hb, hl, h⟩ =>
  ⟨a, b, _, _, e1, e2, ha, hb, by rw [List.length_map, List.length_map]; exact hl, fun p H' s e => h p H' s (by rw [RowAt, List.map_append]; exact e)⟩
/-- a slice of a row, its bounds told plainly -/
def rSlR (x : V) (lo hi : Option Int) (H : Hp) (Q : VK) : Prop := ∃ a u l n, x = .ref a ∧ RowAt H a u ∧ HT.sIx u.length 0 lo = l ∧ HT.sIx u.length u.length hi - HT.sIx u.length 0 lo = n ∧ ∀ p H', Same H H' → RowAt H' p ((u.drop l).take n) → Q (.ref p) H'
theorem sl_tupR : SlR X rSlR := fun pins s σ H x v vl vu lo hi sl Q I rx hs pl pu ⟨a, u, l, n, ex, ha, el, en, h⟩ => by
  refine sl_tupA pins s σ H x v vl vu lo hi sl Q I rx hs pl pu ?_
  have row : ∀ (H' : Hp) p, H' p = some (.tup (cutV (u.map V.int) lo hi)) → RowAt H' p ((u.drop l).take n) := fun H' p e => by
    rw [RowAt, e]
    unfold cutV
    rw [List.length_map, en, el, List.map_take, List.map_drop]
  refine ⟨a, _, ex, .inl (.inl ha), fun ⟨e1, e2⟩ => h a H (.refl H) (row _ _ ?_), fun _ p hp => h p _ (same_new hp) (row _ _ upd_same)⟩
  rw [ha]
  unfold cutV
  rw [e1, e2, List.drop_zero, Nat.sub_zero, List.take_length]
/-- isinstance(x, tuple) of a tuple -/
theorem call_isiTup : CallR X (.builtin "isinstance") (fun vs H Q => ∃ a xs, vs = [.ref a, .ty "tuple"] ∧ H a = some (.tup xs) ∧ Q (.bl true) H) :=
  call_imp call_isi fun vs H Q ⟨a, xs, e, h, q⟩ => ⟨_, _, _, _, true, e, .ty "tuple", .base (.tup h), kit_ty (by decide +kernel), q⟩
theorem call_lenT : CallR X (.builtin "len") (fun vs H Q => ∃ a xs, vs = [.ref a] ∧ H a = some (.tup xs) ∧ Q (.int (xs.length : Nat)) H) :=
  call_imp call_len_seq fun vs H Q ⟨a, xs, e, h, q⟩ => ⟨a, xs, e, .inr (.inl (.inl h)), q⟩
theorem call_lenR : CallR X (.builtin "len") (fun vs H Q => ∃ a r, vs = [.ref a] ∧ RowAt H a r ∧ Q (.int (r.length : Nat)) H) :=
  call_imp call_len_seq fun vs H Q ⟨a, r, e, h, q⟩ => ⟨a, _, e, .inr (.inl (.inl h)), by rw [List.length_map]; exact q⟩
theorem call_lenL : CallR X (.builtin "len") (fun vs H Q => ∃ a xs, vs = [.ref a] ∧ H a = some (.lst xs) ∧ Q (.int (xs.length : Nat)) H) :=
  call_imp call_len_seq fun vs H Q ⟨a, xs, e, h, q⟩ => ⟨a, xs, e, .inl (.inl (.inl h)), q⟩
theorem call_tupM : CallR X (.type "tuple") (fun vs H Q => ∃ a xs, vs = [.ref a] ∧ H a = some (.lst xs) ∧ ∀ p H', Same H H' → H' p = some (.tup xs) → Q (.ref p) H') :=
  call_imp call_tuple_of fun vs H Q ⟨a, xs, e, h, q⟩ => ⟨a, xs, e, .inl ⟨.inl (.inl h), fun l hl => q l _ (same_new hl) upd_same⟩⟩
theorem call_lstM : CallR X (.type "list") (fun vs H Q => ∃ a xs, vs = [.ref a] ∧ H a = some (.tup xs) ∧ ∀ p H', Same H H' → H p = none → H' p = some (.lst xs) → Q (.ref p) H') :=
  call_imp call_list_of fun vs H Q ⟨a, xs, e, h, q⟩ => ⟨a, xs, e, .inr (.inl (.inl h)), fun l hl => q l _ (same_new hl) hl upd_same⟩
theorem call_allM (hc : X.calm = true) : CallR X (.builtin "all") (fun vs H Q => ∃ a n, vs = [.ref a] ∧ H a = some (.lst (List.replicate n (.bl true))) ∧ Q (.bl true) H) :=
  call_imp (cr_all hc) fun vs H Q ⟨a, n, e, h, q⟩ => ⟨a, List.replicate n true, e, .inl (.inl (by rw [h, List.map_replicate])), by
    have e : (List.replicate n true).all id = true := by simp
    rw [e]; exact q⟩
theorem ix_tupM : IxR X (fun x y H Q => ∃ a xs i v, x = .ref a ∧ y = .int i ∧ H a = some (.tup xs) ∧ atI xs i = some v ∧ Q v H) := ixr_imp ix_tup fun x y H Q ⟨a, xs, i, v, e1, e2, h, e, q⟩ => ⟨a, xs, i, v, e1, e2, .inl (.inl h), e, q⟩
theorem ix_lstM : IxR X (fun x y H Q => ∃ a xs i v, x = .ref a ∧ y = .int i ∧ H a = some (.lst xs) ∧ atI xs i = some v ∧ Q v H) := ixr_imp ix_list fun x y H Q ⟨a, xs, i, v, e1, e2, h, e, q⟩ => ⟨a, xs, i, v, e1, e2, .inl (.inl h), e, q⟩
theorem pe_fldG {K : PySem.W.Frag} {e : Expr} {f : Str} {pos : Pos} {ta : TE} (hK : X.K = K) (he : PE X e ta) (hb : attributeBase e f X.env (eval e X.env) = eval e X.env) : PE X (.Attribute e f pos) (tFld K ta f) := hK ▸ pe_fld he hb
theorem pg_tupG {K : PySem.W.Frag} {ts : List Expr} {k : Nat} {pos : Pos} {t : TGs} {n : Nat} (hK : X.K = K) (hc : X.calm = true) (h : PGs X ts t)
    (hn : (assignEach ts X.env).length = n := by rfl) (hst : (assignEach ts X.env).findIdx? (·.1) = none := by rfl) : PG X (.Tuple ts k pos) (gTup K n t) := hK ▸ pg_tup hc h hn hst
theorem n1000 {n : Nat} (h : Nat.blt n 1000 = true) : n < 1000 := Nat.le_of_ble_eq_true h
theorem mt_imp {id : String} {r r' : V → List V → Hp → VK → Prop} (h : MtR X id r) (m : ∀ x xs H Q, r' x xs H Q → r x xs H Q) : MtR X id r' := fun pins s σ H x xs v us Q I rx rxs q => h pins s σ H x xs v us Q I rx rxs (m _ _ _ _ q)
theorem mt_popM : MtR X "list.pop" (fun x vs H Q => ∃ l xs y, x = .ref l ∧ vs = [] ∧ H l = some (.lst (xs ++ [y])) ∧ ∀ H', H' = upd H l (.lst xs) → Q y H') :=
  mt_imp mt_pop fun x vs H Q ⟨l, xs, y, e1, e2, h, q⟩ => ⟨l, xs ++ [y], y, e1, e2, h, by simp, by rw [List.dropLast_concat]; exact q _ rfl⟩
theorem mt_appendM : MtR X "list.append" (fun x vs H Q => ∃ l xs y, x = .ref l ∧ vs = [y] ∧ H l = some (.lst xs) ∧ xs.length < sizeLine ∧ ∀ H', H' = upd H l (.lst (xs ++ [y])) → Q .non H') :=
  mt_imp mt_append fun x vs H Q ⟨l, xs, y, e1, e2, h, hl, q⟩ => ⟨l, xs, y, e1, e2, h, hl, q _ rfl⟩
theorem mt_extendM : MtR X "list.extend" (fun x vs H Q => ∃ l b xs zs, x = .ref l ∧ vs = [.ref b] ∧ H l = some (.lst xs) ∧ H b = some (.lst zs) ∧ xs.length + zs.length ≤ sizeLine ∧ ∀ H', H' = upd H l (.lst (xs ++ zs)) → Q .non H') :=
  mt_imp mt_extend fun x vs H Q ⟨l, b, xs, zs, e1, e2, h, h2, hl, q⟩ => ⟨l, b, xs, zs, e1, e2, h, h2, hl, q _ rfl⟩
theorem set_listM : PSet X (fun o i v H Q => ∃ p xs k j, o = .ref p ∧ i = .int k ∧ H p = some (.lst xs) ∧ ixN xs.length k = some j ∧ ∀ H', H' = upd H p (.lst (xs.set j v)) → Q H') := by
  have h := set_list (X := X)
  unfold PSet at h ⊢
  intros
  rename_i q
  revert q
  rintro ⟨p, xs, k, j, e1, e2, e3, e4, q⟩
  exact h _ _ _ _ _ _ _ _ _ _ _ (by assumption) (by assumption) (by assumption) (by assumption) ⟨p, xs, k, j, e1, e2, e3, e4, q _ rfl⟩
def sFldM (K : PySem.W.Frag) (ta tv : TE) (f : Str) : TS := fun D σ H => tv σ H fun y H1 => ta σ H1 fun x H2 => ∃ a C dx fs, x = .ref a ∧ H2 a = some (.ins C dx fs) ∧ Cls K C ∧ NoAttr K C f ∧ fs.length < 1000 ∧
  ∀ H', H' = upd H2 a (.ins C dx (putF f y fs)) → D.nx σ H'
def mE (t : TE) : TE := fun σ H Q => ∃ Q0 : VK, t σ H Q0 ∧ ∀ v H', Q0 v H' → Q v H'
theorem pe_m {e : Expr} {t : TE} (h : PE X e t) : PE X e (mE t) := ⟨fun pins s σ H Q I ⟨Q0, h0, m⟩ => thn (h.run pins s σ H Q0 I h0) fun u s1 ⟨v, H1, I1, r, q⟩ => ⟨v, H1, I1, r, m _ _ q⟩⟩
theorem ps_imp {st : Stmt} {t t' : TS} (h : PS X st t) (m : ∀ D σ H, t' D σ H → t D σ H) : PS X st t' := ⟨fun pins s σ H D I q => h.run pins s σ H D I (m _ _ _ q)⟩
theorem ps_fldM {K : PySem.W.Frag} {o value : Expr} {f : Str} {pos pos' : Pos} {ta tv : TE} (hK : X.K = K) (ha : PE X o ta) (hv : PE X value tv) (hs : swapsWith value (some (.Attribute o f pos')) pos.line X.env = pure false) : PS X (.Assign [.Attribute o f pos'] value pos) (sFldM K ta tv f) := by
  subst hK
  refine ps_imp (ps_fld (pe_m ha) (pe_m hv) hs) fun D σ H q => ⟨_, q, fun y H1 q1 => ⟨_, q1, fun x H2 q2 => ?_⟩⟩
  obtain ⟨a, C, dx, fs, e1, e2, c, n, l, q3⟩ := q2
  exact ⟨a, C, dx, fs, e1, e2, c, n, l, q3 _ rfl⟩
theorem pi_imp {tg iter : Expr} {wi wi' : TI} (h : PI X tg iter wi) (m : ∀ σ H R, wi' σ H R → wi σ H R) : PI X tg iter wi' := ⟨fun pins s σ H R I q => h.run pins s σ H R I (m _ _ _ q)⟩
def iRngM1 (ta : TA) : TI := fun σ H R => ta σ H fun vs H1 => ∃ n : Nat, vs = [.int (n : Nat)] ∧ n ≤ 100000 ∧ R (Itr 0 n) H1
def iRngM2 (ta : TA) : TI := fun σ H R => ta σ H fun vs H1 => ∃ lo n : Nat, vs = [.int (lo : Nat), .int ((lo + n : Nat) : Int)] ∧ lo + n ≤ 100000 ∧ R (Itr (lo : Nat) n) H1
theorem pi_rangeM1 {tg e : Expr} {p pos : Pos} {ta : TA} (hg : Gl X "range") (hm : X.mg "range" = none) (ha : PA X [e] ta) (hs : starEach [e] X.env = [(false, eval e X.env)] := by rfl) : PI X tg (.Call (.Name "range" p) [e] [] pos) (iRngM1 ta) := pi_imp (pi_range1 hg hm (pa_m ha) hs) fun σ H R q => ⟨_, q, fun vs H1 ⟨n, e, hn, r⟩ => ⟨n, e, by omega, by omega, r⟩⟩
theorem pi_rangeM2 {tg e f : Expr} {p pos : Pos} {ta : TA} (hg : Gl X "range") (hm : X.mg "range" = none) (ha : PA X [e, f] ta) (hs : starEach [e, f] X.env = [(false, eval e X.env), (false, eval f X.env)] := by rfl) (hs2 : starEach [f] X.env = [(false, eval f X.env)] := by rfl) : PI X tg (.Call (.Name "range" p) [e, f] [] pos) (iRngM2 ta) := pi_imp (pi_range2 hg hm (pa_m ha) hs hs2) fun σ H R q => ⟨_, q, fun vs H1 ⟨lo, n, e, hn, r⟩ => ⟨_, _, e, ⟨by omega, by omega, by omega, by omega⟩, by
  have z : (((lo + n : Nat) : Int) - (lo : Nat)).toNat = n := by omega
  rw [z]; exact r⟩⟩
/-! ### shapes: tuples whose object is known to have no dict -/
def SpV (H : Hp) (a : Addr) (xs : List V) : Prop := ∃ o : Obj, H a = some (.frz o (.tup xs)) ∧ o.dict = none
abbrev SpAt (H : Hp) (a : Addr) (r : List Int) : Prop := SpV H a (r.map V.int)
theorem SpV.same {H H' : Hp} {a : Addr} {xs : List V} (h : SpV H a xs) (s : Same H H') : SpV H' a xs := let ⟨o, h1, h2⟩ := h; ⟨o, s _ _ h1, h2⟩
theorem call_isiTupF : CallR X (.builtin "isinstance") (fun vs H Q => ∃ a xs, vs = [.ref a, .ty "tuple"] ∧ SpV H a xs ∧ Q (.bl true) H) :=
  call_imp call_isi fun vs H Q ⟨a, xs, e, ⟨o, h, _⟩, q⟩ => ⟨_, _, _, _, true, e, .ty "tuple", .fTuple h, kit_ty (by decide +kernel), q⟩
theorem call_lenF : CallR X (.builtin "len") (fun vs H Q => ∃ a r, vs = [.ref a] ∧ SpAt H a r ∧ Q (.int (r.length : Nat)) H) :=
  call_imp call_len_seq fun vs H Q ⟨a, r, e, ⟨o, h, _⟩, q⟩ => ⟨a, _, e, .inr (.inl (.inr ⟨o, h⟩)), by rw [List.length_map]; exact q⟩
theorem ix_tupF : IxR X (fun x y H Q => ∃ a xs i v, x = .ref a ∧ y = .int i ∧ SpV H a xs ∧ atI xs i = some v ∧ Q v H) := ixr_imp ix_tup fun x y H Q ⟨a, xs, i, v, e1, e2, ⟨o, h, _⟩, e, q⟩ => ⟨a, xs, i, v, e1, e2, .inl (.inr ⟨o, h⟩), e, q⟩
theorem sqF {K : PySem.W.Frag} {H : Hp} {a : Addr} {xs : List V} (h : SpV H a xs) : SqT K H a xs := let ⟨o, h, _⟩ := h; .inl (.inr ⟨o, h⟩)
theorem wk_tupF {K : PySem.W.Frag} {R : Hp → Prop} {a : Addr} {xs : List V} (h : ∀ H, R H → SpV H a xs) : Wk (Itt K a) R xs.length fun i x _ => xs[i]? = some x where
  go := fun i H hi r => ⟨xs, xs[i], sqF (h H r), List.getElem?_eq_getElem hi⟩
  yld := fun i H x H' hi r y => by
    obtain ⟨e, y⟩ := y
    subst e
    exact ⟨.refl _, y xs (sqF (h _ r))⟩
  stop := fun H r => ⟨xs, sqF (h H r), Nat.le_refl _⟩
/-- a new tuple's object -/
theorem laid_sp {pins : List (Addr × Obj)} {σ : L2.St} {H : Hp} {s : Shared} {xs : List V} {its : List Value} (I : Inv X pins σ H s) (hl : xs.length ≤ sizeLine) (r : Vals xs its) {h' : Heap} (k : ∀ b o, s.heap.get? b = some o → h'.get? b = some o) (e : h'.get? s.heap.objs.size = some { cls := .type "tuple", data := .seq its.toArray }) :
    ∃ H', Inv X pins σ H' { s with heap := h' } ∧ Same H H' ∧ H s.heap.objs.size = none ∧ SpV H' s.heap.objs.size xs :=
  ⟨_, I.laid (o := .frz { cls := .type "tuple", data := .seq its.toArray } (.tup xs)) (t' := s.toks) k (Nat.le_refl _) ⟨e, hl, its, r, ⟨_, e, rfl, _, rfl⟩⟩, same_new (I.hok.fresh (Nat.le_refl _)), I.hok.fresh (Nat.le_refl _), _, upd_same, rfl⟩
def kTupF (H : Hp) (Q : VK) (xs : List V) : Prop := xs.length ≤ sizeLine ∧ ∀ p H', Same H H' → H p = none → SpV H' p xs → Q (.ref p) H'
def tTupF (t : TA) : TE := fun σ H Q => t σ H fun xs H1 => kTupF H1 Q xs
theorem pe_tupF {es : List Expr} {x1} {pos : Pos} {t : TA} (h : PA X es t) : PE X (.Tuple es x1 pos) (tTupF t) := ⟨fun pins s σ H Q I hq => wpAny_Tuple_spliced (thn (h.run pos pins s σ H _ I hq) fun us s1 hs => by
  obtain ⟨xs, H1, I1, r, z, q⟩ := hs
  refine ⟨by rw [← r.length]; exact z, ?_⟩
  obtain ⟨H', I2, sm, nn, sp⟩ := laid_sp I1 z r (fun b u e => Heap.get?_push_of_some _ e) (Heap.get?_push_size _ rfl)
  exact ⟨.ref s1.heap.objs.size, H', I2, rfl, q _ _ sm nn sp⟩)⟩
theorem call_tupF : CallR X (.type "tuple") (fun vs H Q => ∃ a xs, vs = [.ref a] ∧ H a = some (.lst xs) ∧ ∀ p H', Same H H' → SpV H' p xs → Q (.ref p) H') := by
  intro pins s σ H vs us Q I r h
  obtain ⟨a, xs, rfl, ha, q⟩ := h
  obtain ⟨u, rfl, rx⟩ := vals1 r
  obtain rfl : u = .ref a := rx
  obtain ⟨its, r', pl, hz⟩ := I.list (.inl (.inl ha))
  have hl := r'.length
  refine call_tuple_list pl.isList (fun h' kp => ?_) (by simp only [List.size_toArray]; omega)
  have I1 : Inv X pins σ H { s with heap := h' } := I.kept (t' := s.toks) kp
  obtain ⟨H', I2, sm, nn, sp⟩ := laid_sp (s := { s with heap := h' }) (h' := h'.push { cls := .type "tuple", data := .seq its.toArray }) I1 hz r' (fun b u e => Heap.get?_push_of_some _ e) (Heap.get?_push_size _ rfl)
  exact ⟨.ref h'.objs.size, H', I2, rfl, q _ _ sm sp⟩
/-- t + u, shapes -/
def rCatF : R2 := fun x y H Q => ∃ a b u v, x = .ref a ∧ y = .ref b ∧ SpAt H a u ∧ SpAt H b v ∧ u.length + v.length ≤ sizeLine ∧ ∀ p H', Same H H' → SpAt H' p (u ++ v) → Q (.ref p) H'
theorem op_catF : OpR X (binaryOp .Add) rCatF := by
  intro pins s σ H x y v u Q I rx ry h
  obtain ⟨a, b, xs, ys, rfl, rfl, ha, hb, hz, q⟩ := h
  obtain rfl : v = .ref a := rx
  obtain rfl : u = .ref b := ry
  obtain ⟨its, r1, p1, _⟩ := I.tuple (sqF ha)
  obtain ⟨its2, r2, p2, _⟩ := I.tuple (sqF hb)
  have n1 : xs.map V.int = [] ↔ xs = [] := List.map_eq_nil_iff
  have n2 : ys.map V.int = [] ↔ ys = [] := List.map_eq_nil_iff
  have hlen : (xs.map V.int ++ ys.map V.int).length ≤ sizeLine := by rw [List.length_append, List.length_map, List.length_map]; exact hz
  by_cases hx : xs = []
  · subst hx
    cases r1
    exact cat_tup0 p1 p2 ⟨.ref b, H, I, rfl, q b H (.refl H) hb⟩
  · refine HT.cat_tup p1 p2 (fun z => hx (n1.mp (r1.nil_iff.mp z))) (fun z => ?_) (fun z => ?_) (by rw [← r1.length, ← r2.length, List.length_map, List.length_map]; exact hz)
    · have e := n2.mp (r2.nil_iff.mp z)
      subst e
      exact ⟨.ref a, H, I, rfl, q a H (.refl H) (by rw [List.append_nil]; exact ha)⟩
    · obtain ⟨H', I2, sm, nn, sp⟩ := laid_sp I hlen (r1.append r2) (h' := s.heap.push { cls := .type "tuple", data := .seq (its ++ its2).toArray }) (fun b u e => Heap.get?_push_of_some _ e) (Heap.get?_push_size _ rfl)
      exact ⟨.ref s.heap.objs.size, H', I2, rfl, q _ _ sm (by rw [SpAt, List.map_append]; exact sp)⟩
theorem cc_lt {x n : Nat} (h : x < n) (k : n ≤ 100000) : x < sizeLine := Nat.lt_of_lt_of_le (show x < 100000 by omega) (by decide)
theorem cc_le {x n : Nat} (h : x ≤ n) (k : n ≤ 100000) : x ≤ sizeLine := Nat.le_trans (show x ≤ 100000 by omega) (by decide)
def tForM (wi : TI) (g : TG) (tb : TS) : TS := fun D σ H => wi σ H fun J H1 => ForR J H1 g tb D σ
def tLcM (wi : TI) (g : TG) (tt : TT) (te : TE) (vs : List Nat) : TE := fun σ H Q => wi σ H fun J H1 => LcR J H1 g tt te vs σ Q
def WhileR (c : TT) (tb : TS) (D : Ends) (σ : L2.St) (H : Hp) : Prop := ∃ W : Nat → L2.St → Hp → Prop, (∃ m, W m σ H) ∧ ∀ m σ H, W m σ H →
  c σ H fun b H1 => if b = true then ∃ N : L2.St → Hp → Prop, (∀ σ' H', N σ' H' → ∃ m', m' < m ∧ W m' σ' H') ∧ tb { D with nx := N, ct := N, bk := D.nx } σ H1 else D.nx σ H1
theorem while_m {c : TT} {tb : TS} {D : Ends} {σ : L2.St} {H : Hp} (W : Nat → L2.St → Hp → Prop) (w0 : ∃ m, W m σ H) (st : ∀ m σ H (E : Bool → Hp → Prop), W m σ H →
  (∀ H1, tb ⟨fun σ' H' => ∃ m', m' < m ∧ W m' σ' H', D.rt, D.nx, fun σ' H' => ∃ m', m' < m ∧ W m' σ' H'⟩ σ H1 → E true H1) → (∀ H1, D.nx σ H1 → E false H1) → c σ H fun b H1 => E b H1) : WhileR c tb D σ H :=
  ⟨W, w0, fun m σ H w => st m σ H (fun b H1 => if b = true then ∃ N : L2.St → Hp → Prop, (∀ σ' H', N σ' H' → ∃ m', m' < m ∧ W m' σ' H') ∧ tb { D with nx := N, ct := N, bk := D.nx } σ H1 else D.nx σ H1) w (fun H1 h => ⟨_, fun _ _ h => h, h⟩) fun _ h => h⟩
def tWhileM (c : TT) (tb : TS) : TS := fun D σ H => WhileR c tb D σ H
theorem ps_whileM {pos : Pos} {c : Expr} {body : List Stmt} {tc : TT} {tb : TS} (hp : PassesOwn (model X.prog X.w) X.A X.env X.xe) (hc : PT X c tc) (hb : PSs X body tb) : PS X (.While c body [] pos) (tWhileM tc tb) := ps_while hp hc hb
theorem ps_forM {tg iter : Expr} {body : List Stmt} {wi : TI} {g : TG} {tb : TS} {pos : Pos} (hp : PassesOwn (model X.prog X.w) X.A X.env X.xe) (hc : X.calm = true) (hi : PI X tg iter wi) (hg : PG X tg g) (hb : PSs X body tb)
    (hs : ∀ x, foldedSetIterable iter X.env x = pure x := by intro _; rfl) : PS X (.For tg iter body [] pos) (tForM wi g tb) := ps_for hp hc hi hg hb hs
theorem pe_lcM {elt tg iter : Expr} {ifs : List Expr} {scope : Scope} {own : List (Str × Nat)} {pos : Pos} {wi : TI} {g : TG} {tt : TT} {te : TE} (hc : X.calm = true) (hN : X.N.Nodup) (hi : PI X tg iter wi) (ok : BlkOk X.N X.env.scope scope own)
    (hg : Blk X scope fun Y => PG Y tg g) (ht : Blk X scope fun Y => PTs Y ifs tt) (he : Blk X scope fun Y => PE Y elt te) (hs : ∀ x, foldedSetIterable iter X.env x = pure x := by intro _; rfl) :
    PE X (.ListComp elt [⟨tg, iter, ifs, 0⟩] scope pos) (tLcM wi g tt te (own.map (·.2))) := pe_lc hc hN hi ok hg ht he hs
theorem ps_setLcM {i : Nat} {y : Str} {py : Pos} {elt tg iter : Expr} {ifs : List Expr} {scope : Scope} {own : List (Str × Nat)} {pos spos : Pos} {wi : TI} {g : TG} {tt : TT} {te : TE} (hc : X.calm = true) (hN : X.N.Nodup) (hy : X.N[i]? = some y) (hyl : X.env.scope.names.lookup y = some .local)
    (hsw : swapsWith (.ListComp elt [⟨tg, iter, ifs, 0⟩] scope pos) (some (.Name y py)) spos.line X.env = pure true) (hi : PI X tg iter wi) (ok : BlkOk X.N X.env.scope scope own)
    (hg : Blk X scope fun Y => PG Y tg g) (ht : Blk X scope fun Y => PTs Y ifs tt) (he : Blk X scope fun Y => PE Y elt te) (hs : ∀ x, foldedSetIterable iter X.env x = pure x := by intro _; rfl) :
    PS X (.Assign [.Name y py] (.ListComp elt [⟨tg, iter, ifs, 0⟩] scope pos) spos) (tAsg (tLcM wi g tt te (own.map (·.2))) (gName i)) := ps_setLc hc hN hy hyl hsw hi ok hg ht he hs
end
section
variable {g : Gr}
theorem Tx.v_MOST_SOUNDS (T : Tx g) : ∃ u, g.mg "MOST_SOUNDS" = some u ∧ RelV (.int 8) u := let ⟨t, e⟩ := T.i_MOST_SOUNDS; ⟨_, e, _, rfl⟩
theorem Tx.v_MOST_SIDE (T : Tx g) : ∃ u, g.mg "MOST_SIDE" = some u ∧ RelV (.int 4) u := let ⟨t, e⟩ := T.i_MOST_SIDE; ⟨_, e, _, rfl⟩
theorem Tx.v_MOST_ENTRIES (T : Tx g) : ∃ u, g.mg "MOST_ENTRIES" = some u ∧ RelV (.int 4000) u := let ⟨t, e⟩ := T.i_MOST_ENTRIES; ⟨_, e, _, rfl⟩
theorem Tx.v_MOST_WORDS (T : Tx g) : ∃ u, g.mg "MOST_WORDS" = some u ∧ RelV (.int 40) u := let ⟨t, e⟩ := T.i_MOST_WORDS; ⟨_, e, _, rfl⟩
theorem Tx.v_MOST_WORD (T : Tx g) : ∃ u, g.mg "MOST_WORD" = some u ∧ RelV (.int 200) u := let ⟨t, e⟩ := T.i_MOST_WORD; ⟨_, e, _, rfl⟩
theorem Tx.v_MOST_LISTED (T : Tx g) : ∃ u, g.mg "MOST_LISTED" = some u ∧ RelV (.int 12) u := let ⟨t, e⟩ := T.i_MOST_LISTED; ⟨_, e, _, rfl⟩
theorem Tx.v_MOST_SUMMARIES (T : Tx g) : ∃ u, g.mg "MOST_SUMMARIES" = some u ∧ RelV (.int 400) u := let ⟨t, e⟩ := T.i_MOST_SUMMARIES; ⟨_, e, _, rfl⟩
end
end K73
end

section
set_option linter.all false
set_option maxRecDepth 100000
set_option maxHeartbeats 1000000
/-! checks -/
namespace K73
open PySem PySem.Spec PyProof.Rows L2
theorem ifF {b : Bool} {A B : Prop} (e : b = false) (h : B) : if b = true then A else B := by subst e; exact iteF h
theorem ifT {b : Bool} {A B : Prop} (e : b = true) (h : A) : if b = true then A else B := by subst e; exact iteT h
theorem row_len {g : Gr} : (800 : Nat) ≤ sizeLine := by decide
section
variable {g : Gr}
def pBetween : Pr := fun vs H Q => ∃ i l m : Int, vs = [.int i, .int l, .int m] ∧ Q (.bl (decide (l ≤ i) && decide (i ≤ m))) H
theorem ok_is_between (T : Tx g) : CalG g 2 "is_between" pBetween := by
  have c_is_integer := ok_is_integer T
  refine calD T.d_is_between T.g_is_between sc_is_between (fun _ _ _ _ _ _ us hl => match us, hl with | [_, _, _], _ => rfl) (fun vs H Q h => ?_) fun cdv A outer s H vs Q hr h => ?_
  · obtain ⟨i, l, m, rfl, _⟩ := h; rfl
  · obtain ⟨i, l, m, rfl, k⟩ := h
    refine ⟨_, (pss_one (ps_ret (pe_and (C8.pe_c c_is_integer hr (by omega) (by rfl) (pa_cons (pv 0) pa_nil)) (pe_one (pe_chain op_le op_le (pv 1) (pv 0) (pv 2)))))), ?_⟩
    refine ⟨_, rfl, i, rfl, true, rfl, iteT ⟨_, rfl, _, rfl, _, _, rfl, rfl, _, rfl, ?_⟩⟩
    by_cases c : l ≤ i
    · refine ifT (decide_eq_true c) ⟨_, rfl, _, _, rfl, rfl, ?_⟩
      rw [decide_eq_true c, Bool.true_and] at k
      exact k
    · refine ifF (decide_eq_false c) ?_
      rw [decide_eq_false c, Bool.false_and] at k
      exact k
def pIsIndex : Pr := fun vs H Q => ∃ i n : Int, vs = [.int i, .int n] ∧ 0 ≤ i ∧ i < n ∧ Q (.bl true) H
theorem ok_is_index (T : Tx g) : CalG g 3 "is_index" pIsIndex := by
  have c_is_between := ok_is_between T
  refine calD T.d_is_index T.g_is_index sc_is_index (fun _ _ _ _ _ _ us hl => match us, hl with | [_, _], _ => rfl) (fun vs H Q h => ?_) fun cdv A outer s H vs Q hr h => ?_
  · obtain ⟨i, n, rfl, _⟩ := h; rfl
  · obtain ⟨i, n, rfl, h0, h1, k⟩ := h
    refine ⟨_, (pss_one (ps_ret (C8.pe_c c_is_between hr (by omega) (by rfl) (pa_cons (pv 0) (pa_cons pe_int (pa_cons (pe_op op_sub (pv 1) pe_int) pa_nil)))))), ?_⟩
    refine ⟨_, rfl, _, rfl, _, _, rfl, rfl, _, _, _, rfl, ?_⟩
    rw [decide_eq_true h0, decide_eq_true (by omega : i ≤ n - 1)]
    exact k
def pIsSounds : Pr := fun vs H Q => ∃ (a : Addr) (s : Nat) (l m : Int) (r : R), vs = [.ref a, .int s, .int l, .int m] ∧ RowAt H a r ∧ Rw s r ∧ l ≤ r.length ∧ r.length ≤ m ∧ r.length ≤ 800 ∧ ∀ H', Same H H' → Q (.bl true) H'
theorem ok_is_sounds (T : Tx g) : CalG g 4 "is_sounds" pIsSounds := by
  have c_is_index := ok_is_index T
  refine calD T.d_is_sounds T.g_is_sounds sc_is_sounds (fun _ _ _ _ _ _ us hl => match us, hl with | [_, _, _, _], _ => rfl) (fun vs H Q h => ?_) fun cdv A outer s0 H vs Q hr h => ?_
  · obtain ⟨a, s, l, m, r, rfl, _⟩ := h; rfl
  · obtain ⟨a, s, l, m, r, rfl, ha, hw, hl, hm, h800, k⟩ := h
    refine ⟨_, (pss_cons (ps_if (PW.pt (pw_or (pt_not (pt_val (pe_callB call_isiTup (by rfl) T.f_isinstance (by decide +kernel) (pa_cons (pv 0) (pa_cons (pe_bltn (by rfl) T.f_tuple (by decide +kernel) (v := .ty "tuple") rfl) pa_nil))))) (pw_or1 (pt_not (pt_chain op_le op_le (pv 2) (pe_callB call_lenR (by rfl) T.f_len (by decide +kernel) (pa_cons (pv 0) pa_nil)) (pv 3))))))
        (pss_one (ps_ret pe_bl))
        pss_nil)
      (pss_one (ps_ret (pe_callB (call_allM rfl) (by rfl) T.f_all (by decide +kernel) (pa_cons (pe_lcM (own := [("sound", 4)]) (g := gName 4) (tt := tYes) (by rfl) sc_is_sounds.nd (pi_tup (pv 0)) (blkOk_by (own := [("sound", 4)]) (N := ["thing", "sounds", "least", "most", "sound"]) (sc := defScope st_is_sounds) (by decide +kernel)) (fun _ _ _ _ _ => pg_name (i := 4) sc_is_sounds.nd rfl (Or.inl rfl)) (fun _ _ _ _ _ => pts_nil) (fun _ _ _ _ _ => (C8.pe_c c_is_index hr (by omega) (by rfl) (pa_cons (pv 4) (pa_cons (pv 1) pa_nil))))) pa_nil))))), ?_⟩
    refine ⟨_, rfl, a, _, rfl, ha, true, rfl, iteF ⟨_, rfl, _, rfl, a, r, rfl, ha, _, _, rfl, rfl, _, rfl, ?_⟩⟩
    refine ifT (decide_eq_true hl) ⟨_, rfl, _, _, rfl, rfl, true, congrArg V.bl (decide_eq_true hm), iteF ?_⟩
    refine ⟨_, rfl, a, rfl, ⟨_, .inl (.inl ha)⟩, ?_⟩
    refine lc_wk (wk_tup (fun H' s' => s' _ _ ha)) (fun i acc _ => acc = List.replicate i (.bl true)) (fun _ _ _ _ _ e => e) (fun i acc _ hi e => ?_) (fun _ _ => rfl) (fun C i x acc H' hi s' hx e y n => ?_) fun D ys H' s' hD hys e => ?_
    · rw [List.length_map] at hi
      rw [e, List.length_replicate]
      exact cc_lt hi (by omega)
    · rw [List.getElem?_map] at hx
      obtain ⟨v, hv, rfl⟩ := Option.map_eq_some_iff.mp hx
      have hvm := hw v (List.mem_of_getElem? hv)
      refine ⟨rfl, _, rfl, _, rfl, _, _, rfl, hvm.1, hvm.2, ?_⟩
      refine y _ _ (.refl _) ?_
      rw [e, List.replicate_succ']
    · subst e
      exact ⟨_, _, rfl, hys, k _ s'⟩
def pIsSidePair : Pr := fun vs H Q => ∃ (a : Addr) (s : Nat) (ah be : Int) (p : R × R), vs = [.ref a, .int s, .int ah, .int be] ∧ PairAt H a p ∧ Rw s p.1 ∧ Rw s p.2 ∧ (1 ≤ p.1.length ∧ (p.1.length : Int) ≤ ah ∧ ah ≤ 4) ∧ (1 ≤ p.2.length ∧ (p.2.length : Int) ≤ be ∧ be ≤ 4) ∧ ∀ H', Same H H' → Q (.bl true) H'
theorem ok_is_side_pair (T : Tx g) : CalG g 5 "is_side_pair" pIsSidePair := by
  have c_is_sounds := ok_is_sounds T
  refine calD T.d_is_side_pair T.g_is_side_pair sc_is_side_pair (fun _ _ _ _ _ _ us hl => match us, hl with | [_, _, _, _], _ => rfl) (fun vs H Q h => ?_) fun cdv A outer s0 H vs Q hr h => ?_
  · obtain ⟨a, s, l, m, r, rfl, _⟩ := h; rfl
  · obtain ⟨a, s, ah, be, p, rfl, ⟨b, c, ha, hb, hc⟩, w1, w2, l1, l2, k⟩ := h
    refine ⟨_, (pss_cons (ps_if (PW.pt (pw_or (pt_not (pt_val (pe_callB call_isiTup (by rfl) T.f_isinstance (by decide +kernel) (pa_cons (pv 0) (pa_cons (pe_bltn (by rfl) T.f_tuple (by decide +kernel) (v := .ty "tuple") rfl) pa_nil))))) (pw_or1 (pt_cmpR op_ne (pe_callB call_lenT (by rfl) T.f_len (by decide +kernel) (pa_cons (pv 0) pa_nil)) pe_int (nomark _)))))
        (pss_one (ps_ret pe_bl))
        pss_nil)
      (pss_one (ps_ret (pe_and (C8.pe_c c_is_sounds hr (by omega) (by rfl) (pa_cons (pe_ix ix_tupM (pv 0) pe_int (fun _ _ => rfl)) (pa_cons (pv 1) (pa_cons pe_int (pa_cons (pv 2) pa_nil))))) (pe_one (C8.pe_c c_is_sounds hr (by omega) (by rfl) (pa_cons (pe_ix ix_tupM (pv 0) pe_int (fun _ _ => rfl)) (pa_cons (pv 1) (pa_cons pe_int (pa_cons (pv 3) pa_nil)))))))))), ?_⟩
    refine ⟨_, rfl, a, _, rfl, ha, true, rfl, iteF ⟨_, rfl, a, _, rfl, ha, rfl, false, rfl, iteF ?_⟩⟩
    refine ⟨_, rfl, a, _, _, _, rfl, rfl, ha, rfl, _, rfl, _, rfl, _, s, _, _, p.1, rfl, hb, w1, by omega, by omega, by omega, fun H' s' => ?_⟩
    refine ⟨true, rfl, iteT ?_⟩
    refine ⟨_, rfl, a, _, _, _, rfl, rfl, s' _ _ ha, rfl, _, rfl, _, rfl, _, s, _, _, p.2, rfl, s' _ _ hc, w2, by omega, by omega, by omega, fun H2 s2 => ?_⟩
    exact k _ (s'.trans s2)
def pCheckSizes : Pr := fun vs H Q => ∃ s a b : Int, vs = [.int s, .int a, .int b] ∧ (1 ≤ s ∧ s ≤ 8) ∧ (1 ≤ a ∧ a ≤ 4) ∧ (1 ≤ b ∧ b ≤ 4) ∧ Q .non H
theorem ok_check_sizes (T : Tx g) : CalG g 3 "check_sizes" pCheckSizes := by
  have c_is_between := ok_is_between T
  refine calD T.d_check_sizes T.g_check_sizes sc_check_sizes (fun _ _ _ _ _ _ us hl => match us, hl with | [_, _, _], _ => rfl) (fun vs H Q h => ?_) fun cdv A outer s0 H vs Q hr h => ?_
  · obtain ⟨s, a, b, rfl, _⟩ := h; rfl
  · obtain ⟨s, a, b, rfl, hs, ha, hb, k⟩ := h
    refine ⟨_, (pss_cons (ps_if (pt_not (pt_val (C8.pe_c c_is_between hr (by omega) (by rfl) (pa_cons (pv 0) (pa_cons pe_int (pa_cons (C8.pe_gc (by rfl) T.v_MOST_SOUNDS) pa_nil))))))
        (pss_one ps_never)
        pss_nil)
      (pss_cons (ps_if (pt_not (pt_val (C8.pe_c c_is_between hr (by omega) (by rfl) (pa_cons (pv 1) (pa_cons pe_int (pa_cons (C8.pe_gc (by rfl) T.v_MOST_SIDE) pa_nil))))))
        (pss_one ps_never)
        pss_nil)
      (pss_one (ps_if (pt_not (pt_val (C8.pe_c c_is_between hr (by omega) (by rfl) (pa_cons (pv 2) (pa_cons pe_int (pa_cons (C8.pe_gc (by rfl) T.v_MOST_SIDE) pa_nil))))))
        (pss_one ps_never)
        pss_nil)))), ?_⟩
    refine ⟨_, rfl, _, _, _, rfl, true, by rw [decide_eq_true hs.1, decide_eq_true hs.2]; rfl, iteF ?_⟩
    refine ⟨_, rfl, _, _, _, rfl, true, by rw [decide_eq_true ha.1, decide_eq_true ha.2]; rfl, iteF ?_⟩
    refine ⟨_, rfl, _, _, _, rfl, true, by rw [decide_eq_true hb.1, decide_eq_true hb.2]; rfl, iteF ?_⟩
    exact k
/-! ### the table -/
/-- a table in the heap, told by its entries -/
structure TabM (g : Gr) (H : Hp) (d : Addr) (t : List ((R × R) × (R × R))) (es : Es (R × R)) : Prop where
  at_ : H d = some (DO g.P g.w pairD d es)
  len : es.length = t.length
  key : ∀ (i : Nat) (e : (R × R) × (R × R)), t[i]? = some e → ∃ q b, es[i]? = some (e.1, q, V.ref b) ∧ PairAt H q e.1 ∧ PairAt H b e.2
def pIsTable (g : Gr) : Pr := fun vs H Q => ∃ (d : Addr) (B : Bk) (es : Es (R × R)), vs = [V.ref d, .int (B.s : Nat), .int (B.a : Nat), .int (B.b : Nat)] ∧ B.Ok ∧ TabM g H d B.tbl es ∧ ∀ H', Same H H' → Q (.bl true) H'
theorem same_lock {H : Hp} {d : Addr} {o o' : HO} (h : H d = some o) : ∀ b u, b ≠ d → H b = some u → (upd H d o') b = some u := fun b u ne e => by rw [upd_ne ne]; exact e
theorem tk_do {P : Program} {w : World} {κ : Type} [DecidableEq κ] {D : KD κ} {H : Hp} {d : Addr} {es : Es κ} {o : HO} (h : H d = some (DO P w D d es)) : Tk H (upd H d o) := fun b xs e => by
  rw [upd_ne (fun z => by rw [z, h] at e; cases e)]; exact e
theorem _root_.K73.PairAt.tk {H H' : Hp} {a : Addr} {p : R × R} (h : PairAt H a p) (s : Tk H H') : PairAt H' a p := let ⟨b, c, e1, e2, e3⟩ := h; ⟨b, c, s _ _ e1, s _ _ e2, s _ _ e3⟩
theorem valV_at {κ : Type} [DecidableEq κ] {es : Es κ} {i : Nat} {k : κ} {q : Addr} {v : V} (nd : (es.map (·.1)).Nodup) (h : es[i]? = some (k, q, v)) : valV (esV es) k = some v := by
  induction es generalizing i with
  | nil => simp at h
  | cons e es ih =>
    rw [List.map_cons, List.nodup_cons] at nd
    cases i with
    | zero =>
      have : e = (k, q, v) := by simpa using h
      subst this
      exact valV_pos (p := (k, v)) rfl
    | succ i =>
      have h' : es[i]? = some (k, q, v) := by simpa using h
      have hm : k ∈ es.map (·.1) := List.mem_map.mpr ⟨_, List.mem_of_getElem? h', rfl⟩
      show valV ((e.1, e.2.2) :: esV es) k = _
      rw [valV_neg (p := (e.1, e.2.2)) (fun z => nd.1 (by rw [z]; exact hm))]
      exact ih nd.2 h'
theorem TabM.keys {H : Hp} {d : Addr} {t : List ((R × R) × (R × R))} {es : Es (R × R)} (h : TabM g H d t es) : es.map (·.1) = t.map (·.1) := by
  refine List.ext_getElem? fun i => ?_
  rw [List.getElem?_map, List.getElem?_map]
  cases e : t[i]? with
  | none =>
    have : es[i]? = none := List.getElem?_eq_none (by have := List.getElem?_eq_none_iff.mp e; rw [h.len]; exact this)
    rw [this]; rfl
  | some x =>
    obtain ⟨q, b, e1, _⟩ := h.key i x e
    rw [e1]; rfl
theorem TabM.lies {H : Hp} {d : Addr} {t : List ((R × R) × (R × R))} {es : Es (R × R)} (h : TabM g H d t es) : ∀ e ∈ es, PairAt H e.2.1 e.1 := fun e he => by
  obtain ⟨i, hi⟩ := List.mem_iff_getElem?.mp he
  have hl : i < t.length := by rw [← h.len]; exact (List.getElem?_eq_some_iff.mp hi).1
  obtain ⟨q, b, e1, e2, _⟩ := h.key i _ (List.getElem?_eq_getElem hl)
  rw [hi] at e1
  cases e1
  exact e2
theorem DO_len {P : Program} {w : World} {κ : Type} [DecidableEq κ] {D : KD κ} {es : Es κ} : (esV es).length = es.length := by simp [esV]
theorem take_snoc {α : Type} {l : List α} {i : Nat} {y : α} (h : l[i]? = some y) : l.take i ++ [y] = l.take (i + 1) := by
  rw [List.take_add_one, h]; rfl
theorem ok_is_table (T : Tx g) : CalG g 6 "is_table" (pIsTable g) := by
  have c_is_side_pair := ok_is_side_pair T
  refine calD T.d_is_table T.g_is_table sc_is_table (fun _ _ _ _ _ _ us hl => match us, hl with | [_, _, _, _], _ => rfl) (fun vs H Q h => ?_) fun cdv A outer s0 H vs Q hr h => ?_
  · obtain ⟨d, B, es, rfl, _⟩ := h; rfl
  · obtain ⟨d, B, es, rfl, o, tm, k⟩ := h
    refine ⟨_, (pss_cons (ps_if (PW.pt (pw_or (pt_not (pt_val (pe_callB (call_isiN (D := pairD)) (by rfl) T.f_isinstance (by decide +kernel) (pa_cons (pv 0) (pa_cons (pe_bltn (by rfl) T.f_dict (by decide +kernel) (v := .ty "dict") rfl) pa_nil))))) (pw_or1 (pt_cmpR op_gt (pe_callB (call_lenN (D := pairD)) (by rfl) T.f_len (by decide +kernel) (pa_cons (pv 0) pa_nil)) (C8.pe_gc (by rfl) T.v_MOST_ENTRIES) (nomark _)))))
        (pss_one (ps_ret pe_bl))
        pss_nil)
      (pss_cons (ps_lock (ps_forM PassesOwn.never rfl (pi_keysN (D := pairD) (pv 0)) (pg_name (i := 4) sc_is_table.nd rfl (by first | exact Or.inl rfl | exact Or.inr rfl))
        (pss_cons (ps_if (PW.pt (pw_or (pt_not (pt_val (C8.pe_c c_is_side_pair hr (by omega) (by rfl) (pa_cons (pv 4) (pa_cons (pv 1) (pa_cons (pv 2) (pa_cons (pv 3) pa_nil))))))) (pw_or1 (pt_not (pt_val (C8.pe_c c_is_side_pair hr (by omega) (by rfl) (pa_cons (pe_dgetN (D := pairD) (by exact hr.units) (pv 0) (pv 4) (fun _ _ => rfl)) (pa_cons (pv 1) (pa_cons (pv 2) (pa_cons (pv 3) pa_nil))))))))))
          (pss_one (ps_ret pe_bl))
          pss_nil)
        (pss_one (ps_if (pt_cmpR (op_neD (by exact hr.units)) (pe_lcM (own := [("side", 5)]) (g := gName 5) (tt := tYes) (by rfl) sc_is_table.nd (pi_tup (pv 4)) (blkOk_by (own := [("side", 5)]) (N := ["thing", "sounds", "ahead", "behind", "key", "side"]) (sc := defScope st_is_table) (by decide +kernel)) (fun _ _ _ _ _ => pg_name (i := 5) sc_is_table.nd rfl (Or.inl rfl)) (fun _ _ _ _ _ => pts_nil) (fun _ _ _ _ _ => (pe_callB call_lenR (by rfl) T.f_len (by decide +kernel) (pa_cons (pv 5) pa_nil)))) (pe_lcM (own := [("side", 5)]) (g := gName 5) (tt := tYes) (by rfl) sc_is_table.nd (pi_tup (pe_dgetN (D := pairD) (by exact hr.units) (pv 0) (pv 4) (fun _ _ => rfl))) (blkOk_by (own := [("side", 5)]) (N := ["thing", "sounds", "ahead", "behind", "key", "side"]) (sc := defScope st_is_table) (by decide +kernel)) (fun _ _ _ _ _ => pg_name (i := 5) sc_is_table.nd rfl (Or.inl rfl)) (fun _ _ _ _ _ => pts_nil) (fun _ _ _ _ _ => (pe_callB call_lenR (by rfl) T.f_len (by decide +kernel) (pa_cons (pv 5) pa_nil)))) (nomark _))
          (pss_one (ps_ret pe_bl))
          pss_nil)))))
      (pss_one (ps_ret pe_bl)))), ?_⟩
    have hd : DAt g.P g.w pairD H d (esV es) := ⟨es, .inl tm.at_, rfl, tm.lies⟩
    have h4 : es.length ≤ 4000 := by rw [tm.len]; exact o.few
    have hlen : (esV es).length = es.length := by simp [esV]
    refine ⟨_, rfl, d, _, rfl, hd, true, rfl, _, rfl, d, _, rfl, hd, cc_le (by rw [hlen]; exact h4) (by omega), _, _, rfl, rfl, false, congrArg V.bl (decide_eq_false (by rw [hlen]; omega)), ?_⟩
    refine ⟨d, _, tm.at_, True.intro, fun od => ?_⟩
    refine ⟨_, rfl, d, od, es, rfl, upd_same, ?_⟩
    refine for_wk (wk_keys (R := fun H' => Same (upd H d (.frz od (DO g.P g.w pairD d es))) H') fun H' s => s _ _ upd_same) (fun i σ H' => ∃ x y, σ = [some (.ref d), some (.int (B.s : Nat)), some (.int (B.a : Nat)), some (.int (B.b : Nat)), x, y] ∧ Same (upd H d (.frz od (DO g.P g.w pairD d es))) H') (fun _ _ _ ⟨_, _, _, s⟩ => s) ⟨_, _, rfl, .refl _⟩ ?_ ?_
    · rintro σ H' ⟨x, y, rfl, s⟩
      exact ⟨s _ _ upd_same, k _ (same_unlock tm.at_ s)⟩
    · rintro i x σ H' H2 hi ⟨x1, y1, rfl, s1⟩ s2 ⟨e, he, rfl⟩
      obtain ⟨en, hen⟩ : ∃ en, B.tbl[i]? = some en := ⟨_, List.getElem?_eq_getElem (by rw [← tm.len]; exact hi)⟩
      obtain ⟨q, b, he2, pq, pb⟩ := tm.key i en hen
      rw [he] at he2
      cases he2
      have oe := o.ent en (List.mem_of_getElem? hen)
      have tk0 : Tk H H2 := (tk_do tm.at_).trans (s1.trans s2).tk
      have s12 := s1.trans s2
      have hval : valV (esV es) en.1 = some (.ref b) := valV_at (by rw [tm.keys]; exact o.nd) he
      have hdL : ∀ H', Same (upd H d (.frz od (DO g.P g.w pairD d es))) H' → DAt g.P g.w pairD H' d (esV es) := fun H' s => ⟨es, .inr ⟨od, s _ _ upd_same⟩, rfl, fun e he => (tm.lies e he).tk ((tk_do tm.at_).trans s.tk)⟩
      refine ⟨_, rfl, _, rfl, _, rfl, _, rfl, q, B.s, B.a, B.b, en.1, rfl, pq.tk tk0, oe.w1, oe.w2, ⟨oe.l1, by exact_mod_cast oe.la, by exact_mod_cast o.a4⟩, ⟨oe.r1, by exact_mod_cast oe.rb, by exact_mod_cast o.b4⟩, fun H3 s3 => ⟨true, rfl, ?_⟩⟩
      have hd3 := hdL _ (s12.trans s3)
      refine ⟨_, rfl, _, rfl, d, _, en.1, q, .ref b, rfl, rfl, hd3, pq.tk (tk0.trans s3.tk), hval, ?_⟩
      have tl := oe.tl
      have tr := oe.tr
      have l1 := oe.l1
      have r1 := oe.r1
      have la := oe.la
      have rb := oe.rb
      have a4 := o.a4
      have b4 := o.b4
      refine ⟨_, rfl, _, rfl, _, rfl, b, B.s, B.a, B.b, en.2, rfl, pb.tk (tk0.trans s3.tk), oe.w3, oe.w4, ⟨by omega, by omega, by omega⟩, ⟨by omega, by omega, by omega⟩, fun H4 s4 => ⟨true, rfl, ?_⟩⟩
      obtain ⟨b1, c1, hp1, hp2, hp3⟩ := pq.tk (tk0.trans (s3.trans s4).tk)
      refine ⟨_, rfl, q, rfl, ⟨_, .inl (.inl hp1)⟩, ?_⟩
      refine lc_wk (wk_tup fun H' s' => s' _ _ hp1) (fun i acc _ => acc = ([V.int en.1.1.length, V.int en.1.2.length].take i)) (fun _ _ _ _ _ e => e) (fun i acc _ hi e => ?_) (fun _ _ => rfl) (fun C i x acc H' hi s' hx e y n => ?_) fun D ys H5 s5 _ hys e5 => ?_
      · have : i < 2 := hi
        rw [e, List.length_take]
        exact cc_lt (Nat.lt_of_le_of_lt (Nat.min_le_left _ _) this) (by omega)
      · match i, hi, hx with
        | 0, _, hx =>
          cases hx
          exact ⟨rfl, _, rfl, b1, en.1.1, rfl, s' _ _ hp2, y _ _ (.refl _) (by rw [e]; rfl)⟩
        | 1, _, hx =>
          cases hx
          exact ⟨rfl, _, rfl, c1, en.1.2, rfl, s' _ _ hp3, y _ _ (.refl _) (by rw [e]; rfl)⟩
      · subst e5
        obtain ⟨b2, c2, hr1, hr2, hr3⟩ := pb.tk (tk0.trans ((s3.trans s4).trans s5).tk)
        refine ⟨_, rfl, _, rfl, d, _, en.1, q, .ref b, rfl, rfl, hdL _ (((s12.trans s3).trans s4).trans s5), pq.tk (tk0.trans ((s3.trans s4).trans s5).tk), hval, b, rfl, ⟨_, .inl (.inl hr1)⟩, ?_⟩
        refine lc_wk (wk_tup fun H' s' => s' _ _ hr1) (fun i acc _ => acc = ([V.int en.2.1.length, V.int en.2.2.length].take i)) (fun _ _ _ _ _ e => e) (fun i acc _ hi e => ?_) (fun _ _ => rfl) (fun C i x acc H' hi s' hx e y n => ?_) fun D2 ys2 H6 s6 _ hys2 e6 => ?_
        · have : i < 2 := hi
          rw [e, List.length_take]
          exact cc_lt (Nat.lt_of_le_of_lt (Nat.min_le_left _ _) this) (by omega)
        · match i, hi, hx with
          | 0, _, hx =>
            cases hx
            exact ⟨rfl, _, rfl, b2, en.2.1, rfl, s' _ _ hr2, y _ _ (.refl _) (by rw [e]; rfl)⟩
          | 1, _, hx =>
            cases hx
            exact ⟨rfl, _, rfl, c2, en.2.2, rfl, s' _ _ hr3, y _ _ (.refl _) (by rw [e]; rfl)⟩
        · subst e6
          refine ⟨.list [.int en.1.1.length, .int en.1.2.length], .list [.int en.2.1.length, .int en.2.2.length], .lst (.inl (.inl (s6 _ _ hys))) (.cons (.int _) (.cons (.int _) .nil)), .lst (.inl (.inl hys2)) (.cons (.int _) (.cons (.int _) .nil)), rfl, rfl, false, ?_, ⟨_, _, rfl, ((((s1.trans s2).trans s3).trans s4).trans s5).trans s6⟩⟩
          rw [tl, tr]
          simp [PyData.eqv, PyData.eqvAll]
end
end K73
end

section
set_option linter.all false
set_option maxRecDepth 100000
set_option maxHeartbeats 1000000
/-! the book -/
namespace K73
open PySem PySem.Spec PyProof.Rows L2
/-! ### rows and pairs as data -/
def rowDt (r : R) : PyData := .tuple (r.map .int)
def pairDt (p : R × R) : PyData := .tuple [rowDt p.1, rowDt p.2]
theorem dp_ints {K : PySem.W.Frag} {H : Hp} : ∀ r : R, DpAll K H (r.map V.int) (r.map .int)
  | [] => .nil
  | x :: r => .cons (.int x) (dp_ints r)
theorem dp_row {K : PySem.W.Frag} {H : Hp} {a : Addr} {r : R} (h : RowAt H a r) : Dp K H (.ref a) (rowDt r) := .tup (.inl (.inl h)) (dp_ints r)
theorem dp_pair {K : PySem.W.Frag} {H : Hp} {a : Addr} {p : R × R} (h : PairAt H a p) : Dp K H (.ref a) (pairDt p) := by
  obtain ⟨b, c, h1, h2, h3⟩ := h
  exact .tup (.inl (.inl h1)) (.cons (dp_row h2) (.cons (dp_row h3) .nil))
theorem ints_lay : ∀ r : R, PyData.canLayAll0 (r.map PyData.int) = true
  | [] => by simp [PyData.canLayAll0]
  | x :: r => by simp [PyData.canLayAll0, PyData.canLay0, ints_lay r]
theorem ints_depth : ∀ r : R, PyData.depthAll (r.map PyData.int) = 0
  | [] => by simp [PyData.depthAll]
  | x :: r => by simp [PyData.depthAll, PyData.depth, ints_depth r]
theorem row_depth (r : R) : (rowDt r).depth = 1 := by simp [rowDt, PyData.depth, ints_depth]
theorem row_lay (r : R) : (rowDt r).canLay0 = true := by simp [rowDt, PyData.canLay0, ints_lay]
theorem row_shaped (r : R) : SeqAt.shaped (rowDt r) = true := by
  show ((rowDt r).canLay0 && decide ((rowDt r).depth ≤ 64)) = true
  rw [row_lay, row_depth]; rfl
theorem pair_depth (p : R × R) : (pairDt p).depth = 2 := by simp [pairDt, PyData.depth, PyData.depthAll, row_depth]
theorem pair_lay (p : R × R) : (pairDt p).canLay0 = true := by simp [pairDt, PyData.canLay0, PyData.canLayAll0, row_lay]
theorem pair_shaped (p : R × R) : SeqAt.shaped (pairDt p) = true := by
  show ((pairDt p).canLay0 && decide ((pairDt p).depth ≤ 64)) = true
  rw [pair_lay, pair_depth]; rfl
theorem eqv_ints : ∀ r u : R, PyData.eqvAll (r.map PyData.int) (u.map PyData.int) = decide (r = u)
  | [], [] => by simp [PyData.eqvAll]
  | [], y :: u => by simp [PyData.eqvAll]
  | x :: r, [] => by simp [PyData.eqvAll]
  | x :: r, y :: u => by
    rw [List.map_cons, List.map_cons, PyData.eqvAll, PyData.eqv, eqv_ints r u]
    by_cases h : x = y
    · subst h; simp
    · have : (x == y) = false := beq_eq_false_iff_ne.mpr h
      rw [this, Bool.false_and]
      exact (decide_eq_false fun e => h (List.cons.inj e).1).symm
theorem eqv_row (r u : R) : PyData.eqv (rowDt r) (rowDt u) = decide (r = u) := by rw [rowDt, rowDt, PyData.eqv, eqv_ints]
theorem eqv_pair (p q : R × R) : PyData.eqv (pairDt p) (pairDt q) = decide (p = q) := by
  rw [pairDt, pairDt, PyData.eqv, PyData.eqvAll, PyData.eqvAll, PyData.eqvAll, eqv_row, eqv_row]
  by_cases h : p = q
  · subst h; simp
  · rw [decide_eq_false h]
    by_cases h1 : p.1 = q.1
    · have : ¬ p.2 = q.2 := fun e => h (Prod.ext h1 e)
      rw [decide_eq_false this]; simp
    · rw [decide_eq_false h1]; simp
section
variable {X : Cx}
def rNeR : R2 := fun x y H Q => ∃ a b u v, x = .ref a ∧ y = .ref b ∧ RowAt H a u ∧ RowAt H b v ∧ Q (.bl (!decide (u = v))) H
theorem op_neR (hu : X.A.units + 64 < cLine) : OpR X (compareOp .NotEq) rNeR := opr_imp (op_neD hu) fun x y H Q ⟨a, b, u, v, e1, e2, ha, hb, q⟩ => by
  subst e1 e2
  exact ⟨_, _, dp_row ha, dp_row hb, row_shaped _, row_shaped _, by rw [eqv_row]; exact q⟩
def rNeP : R2 := fun x y H Q => ∃ a b u v, x = .ref a ∧ y = .ref b ∧ PairAt H a u ∧ PairAt H b v ∧ Q (.bl (!decide (u = v))) H
theorem op_neP (hu : X.A.units + 64 < cLine) : OpR X (compareOp .NotEq) rNeP := opr_imp (op_neD hu) fun x y H Q ⟨a, b, u, v, e1, e2, ha, hb, q⟩ => by
  subst e1 e2
  exact ⟨_, _, dp_pair ha, dp_pair hb, pair_shaped _, pair_shaped _, by rw [eqv_pair]; exact q⟩
end
/-- all that was tracked is as it was, but for what stands at these places -/
def Sx (fs : List Addr) (H H' : Hp) : Prop := ∀ b o, b ∉ fs → H b = some o → H' b = some o
section
variable {H H' H0 H1 H2 : Hp} {fs : List Addr} {x d : Addr} {o : HO} {Q : VK}
theorem Sx.refl (H : Hp) : Sx fs H H := fun _ _ _ h => h
theorem Sx.trans (a : Sx fs H H1) (b : Sx fs H1 H2) : Sx fs H H2 := fun c o n h => b c o n (a c o n h)
theorem _root_.L2.Same.sx (s : Same H H') : Sx fs H H' := fun b o _ h => s b o h
theorem Sx.put (s : Sx fs H H') (h : d ∈ fs) : Sx fs H (upd H' d o) := fun b u n e => by
  rw [upd_ne (fun z => n (by rw [z]; exact h))]; exact s b u n e
theorem Sx.same (s : Sx fs H H') (h0 : Same H0 H) (h : ∀ f ∈ fs, H0 f = none) : Same H0 H' := fun b o e => s b o (fun z => by rw [h b z] at e; cases e) (h0 b o e)
theorem Sx.free (s : Sx fs H H') (h : H' d = none) (n : d ∉ fs) : H d = none := by
  cases e : H d with
  | none => rfl
  | some o => rw [s d o n e] at h; cases h
theorem Sx.tk (s : Sx fs H H') (h : ∀ f ∈ fs, ∀ xs, H f ≠ some (.tup xs)) : Tk H H' := fun b xs e => s b _ (fun z => h b z xs e) e

/-- what a dict comprehension asks of its walk -/
def DcR {κ : Type} [DecidableEq κ] (P : Program) (w : World) (D : KD κ) (J : It) (H : Hp) (g : TG) (tt : TT) (tk tv : TE) (vs : List Nat) (σ : L2.St) (Q : VK) : Prop := ∀ Dd, H Dd = none → ∃ W : Nat → Nat → Hp → Prop, (∃ m, W 0 m (upd H Dd (DO P w D Dd []))) ∧ ∀ i m H, W i m H →
  (J.stop i H ∧ Q (.ref Dd) H) ∨ (J.go i H ∧ ∃ Nx : Hp → Prop, (∀ H', Nx H' → ∃ m', m' < m ∧ W (i + 1) m' H') ∧ ∀ x H', J.yld i H x H' → DcTurn P w D g tt tk tv vs σ Dd Nx x H')
theorem dc_wk {κ : Type} [DecidableEq κ] {P : Program} {w : World} {D : KD κ} {J : It} {n : Nat} {I : Nat → V → Hp → Prop} (wk : Wk J (Same H) n I) {g : TG} {tt : TT} {tk tv : TE} {vs : List Nat} {σ : L2.St} (A : Nat → List (κ × V) → Hp → Prop) (am : ∀ i acc H1 H2, Tk H1 H2 → A i acc H1 → A i acc H2) (al : ∀ i acc H, i < n → A i acc H → acc.length < sizeLine) (a0 : ∀ H', Same H H' → A 0 [] H')
    (step : ∀ (E : V → V → Hp → Prop) (N : Hp → Prop) i x acc H', i < n → Same H H' → I i x H' → A i acc H' → (∀ k q z H5, Same H' H5 → D.lies H5 q k → A (i + 1) (putK acc k z) H5 → E (.ref q) z H5) → (∀ H3, Same H' H3 → A (i + 1) acc H3 → N H3) →
      g x (wipe σ vs) H' fun σ2 H2 => wipe σ2 vs = wipe σ vs ∧ tt σ2 H2 fun b H3 => if b = true then tk σ2 H3 fun y H4 => tv σ2 H4 fun z H5 => E y z H5 else N H3)
    (fin : ∀ Dd kvs H', Same H H' → H Dd = none → DMt P w D H' Dd kvs → A n kvs H' → Q (.ref Dd) H') : DcR P w D J H g tt tk tv vs σ Q := by
  intro Dd hD
  refine ⟨fun i m H' => i + m = n ∧ Same H H' ∧ ∃ kvs, DMt P w D H' Dd kvs ∧ A i kvs H', ⟨n, Nat.zero_add n, same_new hD, [], ⟨[], upd_same, rfl, fun _ h => (nomatch h)⟩, a0 _ (same_new hD)⟩, fun i m H' w => ?_⟩
  obtain ⟨e, s, kvs, hA, w⟩ := w
  by_cases c : i < n
  · refine .inr ⟨wk.go i H' c s, fun H2 => Same H H2 ∧ ∃ kvs, DMt P _ D H2 Dd kvs ∧ A (i + 1) kvs H2, fun H2 h => ⟨m - 1, by omega, by omega, h⟩, fun x H2 y => ?_⟩
    obtain ⟨s2, q⟩ := wk.yld i H' x H2 c s y
    refine step (fun y z H5 => ∃ kvs k q, y = .ref q ∧ D.lies H5 q k ∧ DMt P _ D H5 Dd kvs ∧ kvs.length < sizeLine ∧ ∀ o, DMt P _ D (upd H5 Dd o) Dd (putK kvs k z) → Same H (upd H5 Dd o) ∧ ∃ kvs, DMt P _ D (upd H5 Dd o) Dd kvs ∧ A (i + 1) kvs (upd H5 Dd o)) _ i x kvs H2 c (s.trans s2) q (am _ _ _ _ s2.tk w) (fun k q z H5 s5 l5 q5 => ?_) fun H3 s3 q3 => ?_
    · have hD5 := hA.same (s2.trans s5)
      refine ⟨kvs, k, q, rfl, l5, hD5, al i kvs _ c w, fun o d => ⟨same_put ((s.trans s2).trans s5) hD, _, d, am _ _ _ _ ?_ q5⟩⟩
      obtain ⟨es, he, _, _⟩ := hD5
      exact tk_do he
    · exact ⟨(s.trans s2).trans s3, kvs, hA.same (s2.trans s3), q3⟩
  · have : i = n := by omega
    subst this
    exact .inl ⟨wk.stop H' s, fin Dd kvs H' s hD hA w⟩
def tDcM {κ : Type} [DecidableEq κ] (P : Program) (w : World) (D : KD κ) (wi : TI) (g : TG) (tt : TT) (tk tv : TE) (vs : List Nat) : TE := fun σ H Q => wi σ H fun J H1 => DcR P w D J H1 g tt tk tv vs σ Q
theorem pe_dcM {X : Cx} {κ : Type} [DecidableEq κ] {D : KD κ} {kx vx tg iter : Expr} {ifs : List Expr} {scope : Scope} {own : List (Str × Nat)} {pos : Pos} {wi : TI} {g : TG} {tt : TT} {tk tv : TE} (hu : X.A.units + 64 < cLine) (hc : X.calm = true) (hN : X.N.Nodup) (hi : PI X tg iter wi) (ok : BlkOk X.N X.env.scope scope own)
    (hg : Blk X scope fun Y => PG Y tg g) (ht : Blk X scope fun Y => PTs Y ifs tt) (hk : Blk X scope fun Y => PE Y kx tk) (he : Blk X scope fun Y => PE Y vx tv) (hs : ∀ x, foldedSetIterable iter X.env x = pure x := by intro _; rfl) :
    PE X (.DictComp kx vx [⟨tg, iter, ifs, 0⟩] scope pos) (tDcM X.prog X.w D wi g tt tk tv (own.map (·.2))) := pe_dcN hu hc hN hi ok hg ht hk he hs
end
section
variable {g : Gr}
/-- a table to be read: what it tells at a seam -/
def TabR (g : Gr) (H : Hp) (d : Addr) (B : Bk) : Prop := ∃ kvs, DAt g.P g.w pairD H d kvs ∧ ∀ k, match valV kvs k with
  | some v => ∃ q, v = .ref q ∧ PairAt H q (B.f k.1 k.2)
  | none => B.f k.1 k.2 = k
theorem TabR.same {H H' : Hp} {d : Addr} {B : Bk} (h : TabR g H d B) (s : Same H H') : TabR g H' d B := by
  obtain ⟨kvs, h1, h2⟩ := h
  refine ⟨kvs, h1.same s, fun k => ?_⟩
  have q := h2 k
  cases e : valV kvs k with
  | some v =>
    rw [e] at q
    obtain ⟨b, e1, e2⟩ := q
    exact ⟨b, e1, e2.same s⟩
  | none =>
    rw [e] at q
    exact q
/-- the book object -/
def BookAt (g : Gr) (H : Hp) (x : Addr) (B : Bk) : Prop := ∃ dx d, H x = some (.ins (He.ga g.K "Book") dx [("kept_sounds", .int (B.s : Nat)), ("kept_ahead", .int (B.a : Nat)), ("kept_behind", .int (B.b : Nat)), ("kept_table", .ref d)]) ∧ TabR g H d B
theorem BookAt.same {H H' : Hp} {x : Addr} {B : Bk} (h : BookAt g H x B) (s : Same H H') : BookAt g H' x B := let ⟨dx, d, h1, h2⟩ := h; ⟨dx, d, s _ _ h1, h2.same s⟩
theorem look_of {t : List ((R × R) × (R × R))} {e : (R × R) × (R × R)} (nd : (t.map (·.1)).Nodup) (h : e ∈ t) : look t e.1 = some e.2 := by
  induction t with
  | nil => cases h
  | cons x t ih =>
    rw [List.map_cons, List.nodup_cons] at nd
    unfold look
    by_cases c : x.1 = e.1
    · rcases List.mem_cons.mp h with h | h
      · subst h; simp
      · exact absurd (List.mem_map.mpr ⟨e, h, c.symm⟩) nd.1
    · rcases List.mem_cons.mp h with h | h
      · subst h; exact absurd rfl c
      · have := ih nd.2 h
        unfold look at this
        rw [List.find?_cons, decide_eq_false c]
        exact this
theorem look_no {t : List ((R × R) × (R × R))} {k : R × R} (h : ∀ e ∈ t, e.1 ≠ k) : look t k = none := by
  unfold look
  rw [List.find?_eq_none.mpr fun e he => by simpa using h e he]; rfl
/-- what the kept table knows after i entries -/
def KeptI (t : List ((R × R) × (R × R))) (i : Nat) (kvs : List ((R × R) × V)) (H : Hp) : Prop := kvs.length ≤ i ∧ ∀ k, match valV kvs k with
  | some v => ∃ (j : Nat) (e : (R × R) × (R × R)) (b : Addr), j < i ∧ t[j]? = some e ∧ e.1 = k ∧ v = .ref b ∧ PairAt H b e.2
  | none => ∀ (j : Nat) (e : (R × R) × (R × R)), j < i → t[j]? = some e → e.1 = k → e.2 = k
theorem kept_tab {B : Bk} (o : B.Ok) {kvs : List ((R × R) × V)} {H : Hp} {d : Addr} (h : KeptI B.tbl B.tbl.length kvs H) (hd : DAt g.P g.w pairD H d kvs) : TabR g H d B := by
  refine ⟨kvs, hd, fun k => ?_⟩
  have q := h.2 k
  cases e : valV kvs k with
  | some v =>
    rw [e] at q
    obtain ⟨j, x, b, _, h1, h2, h3, h4⟩ := q
    refine ⟨b, h3, ?_⟩
    have : B.f k.1 k.2 = x.2 := by
      unfold Bk.f
      show (look B.tbl k).getD k = x.2
      rw [← h2, look_of o.nd (List.mem_of_getElem? h1)]; rfl
    rw [this]; exact h4
  | none =>
    rw [e] at q
    show (look B.tbl k).getD k = k
    by_cases c : ∃ x ∈ B.tbl, x.1 = k
    · obtain ⟨x, hx, hk⟩ := c
      obtain ⟨j, hj⟩ := List.mem_iff_getElem?.mp hx
      have := q j x (List.getElem?_eq_some_iff.mp hj).1 hj hk
      rw [← hk, look_of o.nd hx]
      show x.2 = x.1
      rw [hk]; exact this
    · rw [look_no fun x hx hk => c ⟨x, hx, hk⟩]; rfl
theorem KeptI.tk {t : List ((R × R) × (R × R))} {i : Nat} {kvs : List ((R × R) × V)} {H H' : Hp} (h : KeptI t i kvs H) (s : Tk H H') : KeptI t i kvs H' := by
  refine ⟨h.1, fun k => ?_⟩
  have q := h.2 k
  cases e : valV kvs k with
  | some v =>
    rw [e] at q
    obtain ⟨j, x, b, h0, h1, h2, h3, h4⟩ := q
    exact ⟨j, x, b, h0, h1, h2, h3, h4.tk s⟩
  | none =>
    rw [e] at q
    exact q
theorem KeptI.put {t : List ((R × R) × (R × R))} {i : Nat} {kvs : List ((R × R) × V)} {H : Hp} {e : (R × R) × (R × R)} {b : Addr} (h : KeptI t i kvs H) (he : t[i]? = some e) (hb : PairAt H b e.2) : KeptI t (i + 1) (putK kvs e.1 (.ref b)) H := by
  refine ⟨Nat.le_trans (length_putK _ _ _) (Nat.succ_le_succ h.1), fun k => ?_⟩
  rw [valV_put]
  by_cases c : k = e.1
  · rw [if_pos c]
    exact ⟨i, e, b, Nat.lt_succ_self i, he, c.symm, rfl, hb⟩
  · rw [if_neg c]
    have q := h.2 k
    cases e2 : valV kvs k with
    | some v =>
      rw [e2] at q
      obtain ⟨j, x, b, h0, h1, h2, h3, h4⟩ := q
      exact ⟨j, x, b, by omega, h1, h2, h3, h4⟩
    | none =>
      rw [e2] at q
      intro j x hj hx hk
      by_cases cj : j = i
      · subst cj
        rw [he] at hx; cases hx
        exact absurd hk.symm c
      · exact q j x (by omega) hx hk
theorem KeptI.skip {t : List ((R × R) × (R × R))} {i : Nat} {kvs : List ((R × R) × V)} {H : Hp} {e : (R × R) × (R × R)} (nd : (t.map (·.1)).Nodup) (h : KeptI t i kvs H) (he : t[i]? = some e) (hb : e.1 = e.2) : KeptI t (i + 1) kvs H := by
  refine ⟨Nat.le_succ_of_le h.1, fun k => ?_⟩
  have q := h.2 k
  cases e2 : valV kvs k with
  | some v =>
    rw [e2] at q
    obtain ⟨j, x, b, h0, h1, h2, h3, h4⟩ := q
    exact ⟨j, x, b, by omega, h1, h2, h3, h4⟩
  | none =>
    rw [e2] at q
    intro j x hj hx hk
    by_cases cj : j = i
    · subst cj
      rw [he] at hx; cases hx
      rw [← hb, hk]
    · exact q j x (by omega) hx hk
def pKeep (g : Gr) : Pr := fun vs H Q => ∃ (x d dx : Addr) (B : Bk) (es : Es (R × R)), vs = [V.ref x, .int (B.s : Nat), .int (B.a : Nat), .int (B.b : Nat), .ref d] ∧ B.Ok ∧ H x = some (.ins (He.ga g.K "Book") dx []) ∧ TabM g H d B.tbl es ∧ ∀ H', Sx [x] H H' → BookAt g H' x B → Q .non H'
theorem ok_keep (T : Tx g) : MetG g 1 "Book" "keep" (pKeep g) := by
  refine metD T.d_Book_keep T.c_Book T.t_Book_keep sc_Book_keep (fun _ _ _ _ _ _ us hl => match us, hl with | [_, _, _, _, _], _ => rfl) (fun vs H Q h => ?_) fun cdv A outer s0 H vs Q hr h => ?_
  · obtain ⟨x, d, dx, B, es, rfl, _⟩ := h; rfl
  · obtain ⟨x, d, dx, B, es, rfl, o, hx, tm, k⟩ := h
    refine ⟨_, (pss_cons (ps_fldM (K := g.K) (by rfl) (pv 0) (pv 1) rfl)
      (pss_cons (ps_fldM (K := g.K) (by rfl) (pv 0) (pv 2) rfl)
      (pss_cons (ps_fldM (K := g.K) (by rfl) (pv 0) (pv 3) rfl)
      (pss_one (ps_fldM (K := g.K) (by rfl) (pv 0) (pe_lock (pe_dcM (D := pairD) (g := gTup g.K 2 (gCons (gName 5) (gCons (gName 6) (gNil)))) (own := [("key", 5), ("told", 6)]) (by exact hr.units) (by rfl) sc_Book_keep.nd (pi_itemsN (D := pairD) false (pv 4)) (blkOk_by (own := [("key", 5), ("told", 6)]) (N := ["self", "sounds", "ahead", "behind", "table", "key", "told"]) (sc := defScope st_Book_keep) (by decide +kernel)) (fun _ _ _ _ _ => pg_tupG (K := g.K) (by rfl) (by rfl) (pgs_cons (pg_name (i := 5) sc_Book_keep.nd rfl (Or.inl rfl)) (pgs_cons (pg_name (i := 6) sc_Book_keep.nd rfl (Or.inl rfl)) pgs_nil))) (fun _ _ _ _ _ => (pts_one (pt_cmpR (op_neP (by exact hr.units)) (pv 5) (pv 6) (nomark _)))) (fun _ _ _ _ _ => (pv 5)) (fun _ _ _ _ _ => (pv 6)))) rfl))))), ?_⟩
    have dx_ : d ≠ x := fun z => by have := tm.at_; rw [z, hx] at this; cases this
    have clsB := T.c_Book
    refine ⟨_, rfl, _, rfl, x, _, dx, _, rfl, hx, clsB, T.n_Book_kept_sounds, n1000 rfl, fun K1 e1 => ?_⟩
    refine ⟨_, rfl, _, rfl, x, _, dx, _, rfl, by rw [e1]; exact upd_same, clsB, T.n_Book_kept_ahead, n1000 rfl, fun K2 e2 => ?_⟩
    refine ⟨_, rfl, _, rfl, x, _, dx, _, rfl, by rw [e2]; exact upd_same, clsB, T.n_Book_kept_behind, n1000 rfl, fun H1 eH => ?_⟩
    subst e1 e2
    have s1 : Sx [x] H H1 := by
      rw [eH]
      exact ((Sx.refl H).put (List.mem_singleton.mpr rfl)).put (List.mem_singleton.mpr rfl) |>.put (List.mem_singleton.mpr rfl)
    have hx1 : H1 x = some (.ins (He.ga g.K "Book") dx [("kept_sounds", .int (B.s : Nat)), ("kept_ahead", .int (B.a : Nat)), ("kept_behind", .int (B.b : Nat))]) := by
      rw [eH]; exact upd_same
    have k1 : Tk H H1 := s1.tk fun f hf xs e => by
      obtain rfl : f = x := List.mem_singleton.mp hf
      rw [hx] at e; cases e
    have hd1 : H1 d = some (DO g.P g.w pairD d es) := s1 _ _ (fun z => dx_ (List.mem_singleton.mp z)) tm.at_
    clear eH
    refine ⟨d, _, hd1, True.intro, fun od => ?_⟩
    refine ⟨_, rfl, d, es, rfl, od, upd_same, ?_⟩
    have kd := tk_do (o := HO.frz od (DO g.P g.w pairD d es)) hd1
    have h4 : es.length ≤ 4000 := by rw [tm.len]; exact o.few
    refine dc_wk (wk_items (R := Same (upd H1 d (.frz od (DO g.P g.w pairD d es)))) fun H' s => s _ _ upd_same) (KeptI B.tbl) (fun i acc _ _ t h => h.tk t) (fun i acc _ hi h => cc_lt (Nat.lt_of_le_of_lt h.1 hi) (by omega)) (fun _ _ => ⟨Nat.le_refl _, fun k => by rw [valV_nil]; intro j e hj; exact absurd hj (Nat.not_lt_zero _)⟩)
      (fun E N i y acc H2 hi s2 ⟨t, e, he, ey, ht⟩ hA yes no => ?_) fun Dd kvs H2 s2 nD hD hA => ?_
    · subst ey
      obtain ⟨en, hen⟩ : ∃ en, B.tbl[i]? = some en := ⟨_, List.getElem?_eq_getElem (by rw [← tm.len]; exact hi)⟩
      obtain ⟨q, b, he2, pq, pb⟩ := tm.key i en hen
      rw [he] at he2
      cases he2
      have k2 : Tk H H2 := k1.trans (kd.trans s2.tk)
      refine ⟨t, _, rfl, .inl (.inl ht), rfl, _, _, rfl, ⟨_, _, rfl, rfl, ?_⟩⟩
      refine ⟨rfl, _, rfl, _, rfl, q, b, en.1, en.2, rfl, rfl, pq.tk k2, pb.tk k2, _, rfl, ?_⟩
      by_cases c : en.1 = en.2
      · rw [decide_eq_true c]
        exact no _ (.refl _) (hA.skip o.nd hen c)
      · rw [decide_eq_false c]
        exact ⟨_, rfl, _, rfl, yes en.1 q _ _ (.refl _) (pq.tk k2) (hA.put hen (pb.tk k2))⟩
    · have s3 := same_unlock hd1 s2
      have ndD : Dd ≠ d := fun z => by rw [z, upd_same] at nD; cases nD
      refine ⟨s2 _ _ upd_same, _, rfl, x, _, dx, _, rfl, s3 _ _ hx1, clsB, T.n_Book_kept_table, n1000 rfl, fun KZ eZ => ?_⟩
      subst eZ
      refine k _ ((s1.trans s3.sx).put (List.mem_singleton.mpr rfl)) ⟨dx, Dd, upd_same, ?_⟩
      have kk : Tk H2 (upd (upd H2 d (DO g.P g.w pairD d es)) x (.ins (He.ga g.K "Book") dx [("kept_sounds", .int (B.s : Nat)), ("kept_ahead", .int (B.a : Nat)), ("kept_behind", .int (B.b : Nat)), ("kept_table", .ref Dd)])) := by
        refine Tk.trans (H1 := upd H2 d (DO g.P g.w pairD d es)) (fun c xs e => ?_) (tk_ins (s3 _ _ hx1))
        rw [upd_ne (fun z => by rw [z, s2 _ _ upd_same] at e; cases e)]; exact e
      have nDx : Dd ≠ x := fun z => by
        rw [z, upd_ne (fun z => dx_ z.symm), hx1] at nD; cases nD
      have hA2 := hA.tk kk
      rw [tm.len] at hA2
      refine kept_tab o hA2 ?_
      obtain ⟨es', e1, e2, e3⟩ := hD
      refine ⟨es', .inl ?_, e2, fun e he => (e3 e he).tk kk⟩
      rw [upd_ne nDx, upd_ne ndD]; exact e1
end
end K73
end

section
set_option linter.all false
set_option maxRecDepth 100000
set_option maxHeartbeats 2000000
/-! the book made; shapes -/
namespace K73
open PySem PySem.Spec PyProof.Rows L2
def rRepM : R2 := fun x y H Q => ∃ l v k, x = .ref l ∧ y = .int k ∧ H l = some (.lst [v]) ∧ 0 ≤ k ∧ k ≤ 1000 ∧ ∀ p H', Same H H' → H p = none → H' p = some (.lst (List.replicate k.toNat v)) → Q (.ref p) H'
theorem op_repM {X : Cx} : OpR X (binaryOp .Mult) rRepM := opr_imp op_rep fun x y H Q ⟨l, v, k, e1, e2, hl, h0, h1, q⟩ =>
  ⟨l, k, [v], e1, e2, hl, by omega, by omega, cc_le (n := 1000) (by rw [List.length_singleton]; omega) (by omega), fun p hp => q p _ (same_new hp) hp (by rw [upd_same]; simp)⟩
section
variable {g : Gr}
def pBook (g : Gr) : Pr := fun vs H Q => ∃ (x d dx : Addr) (B : Bk) (es : Es (R × R)), vs = [V.ref x, .int (B.s : Nat), .int (B.a : Nat), .int (B.b : Nat), .ref d] ∧ B.Ok ∧ H x = some (.ins (He.ga g.K "Book") dx []) ∧ TabM g H d B.tbl es ∧ ∀ H', Sx [x] H H' → BookAt g H' x B → Q .non H'
theorem TabM.same {H H' : Hp} {d : Addr} {t : List ((R × R) × (R × R))} {es : Es (R × R)} (h : TabM g H d t es) (s : Same H H') : TabM g H' d t es := ⟨s _ _ h.at_, h.len, fun i e he => let ⟨q, b, h1, h2, h3⟩ := h.key i e he; ⟨q, b, h1, h2.same s, h3.same s⟩⟩
theorem ok_Book (T : Tx g) : MakG g 7 "Book" (pBook g) := by
  have c_check_sizes := ok_check_sizes T
  have c_is_table := ok_is_table T
  have t_keep := ok_keep T
  refine makD T.d_Book_init T.m_Book T.g_Book sc_Book_init (fun _ _ _ _ _ _ us hl => match us, hl with | [_, _, _, _, _], _ => rfl) (fun vs H Q h => ?_) fun cdv A outer s0 H vs Q hr h => ?_
  · obtain ⟨x, d, dx, B, es, rfl, _⟩ := h; rfl
  · obtain ⟨x, d, dx, B, es, rfl, o, hx, tm, k⟩ := h
    refine ⟨_, (pss_cons (ps_expr (C8.pe_c c_check_sizes hr (by omega) (by rfl) (pa_cons (pv 1) (pa_cons (pv 2) (pa_cons (pv 3) pa_nil)))))
      (pss_cons (ps_if (pt_not (pt_val (C8.pe_c c_is_table hr (by omega) (by rfl) (pa_cons (pv 4) (pa_cons (pv 1) (pa_cons (pv 2) (pa_cons (pv 3) pa_nil)))))))
        (pss_one ps_never)
        pss_nil)
      (pss_one (ps_expr (C8.pe_mt t_keep hr (by omega) (pv 0) (pa_cons (pv 1) (pa_cons (pv 2) (pa_cons (pv 3) (pa_cons (pv 4) pa_nil))))))))), ?_⟩
    have s1 := o.s1
    have s8 := o.s8
    have a1 := o.a1
    have a4 := o.a4
    have b1 := o.b1
    have b4 := o.b4
    refine ⟨_, rfl, _, rfl, _, rfl, _, _, _, rfl, ⟨by omega, by omega⟩, ⟨by omega, by omega⟩, ⟨by omega, by omega⟩, ?_⟩
    refine ⟨_, rfl, _, rfl, _, rfl, _, rfl, d, B, es, rfl, o, tm, fun H1 h1 => ⟨true, rfl, ?_⟩⟩
    refine ⟨_, rfl, x, dx, [], rfl, h1 _ _ hx, rfl, _, rfl, _, rfl, _, rfl, _, rfl, x, d, dx, B, es, rfl, o, h1 _ _ hx, tm.same h1, fun H2 h2 hb => ?_⟩
    exact k _ (h1.sx.trans h2) hb
def pReach (g : Gr) : Pr := fun vs H Q => ∃ (x : Addr) (B : Bk), vs = [.ref x] ∧ BookAt g H x B ∧ Q (.int ((B.a : Nat) + (B.b : Nat))) H
theorem ok_reach (T : Tx g) : MetG g 1 "Book" "reach" (pReach g) := by
  refine metD T.d_Book_reach T.c_Book T.t_Book_reach sc_Book_reach (fun _ _ _ _ _ _ us hl => match us, hl with | [_], _ => rfl) (fun vs H Q h => ?_) fun cdv A outer s0 H vs Q hr h => ?_
  · obtain ⟨x, B, rfl, _⟩ := h; rfl
  · obtain ⟨x, B, rfl, ⟨dx, d, hx, _⟩, k⟩ := h
    exact ⟨_, (pss_one (ps_ret (pe_op op_add (pe_fldG (K := g.K) (by rfl) (pv 0) rfl) (pe_fldG (K := g.K) (by rfl) (pv 0) rfl)))), _, rfl, x, _, dx, _, _, rfl, hx, T.c_Book, T.n_Book_kept_ahead, rfl, _, rfl, x, _, dx, _, _, rfl, hx, T.c_Book, T.n_Book_kept_behind, rfl, _, _, rfl, rfl, k⟩
def pTold (g : Gr) : Pr := fun vs H Q => ∃ (x a b : Addr) (B : Bk) (l r : R), vs = [.ref x, .ref a, .ref b] ∧ BookAt g H x B ∧ RowAt H a l ∧ RowAt H b r ∧ ∀ q H', Same H H' → PairAt H' q (B.f l r) → Q (.ref q) H'
theorem two_le : (2 : Nat) ≤ sizeLine := by decide
theorem ok_told (T : Tx g) : CalG g 1 "told" (pTold g) := by
  refine calD T.d_told T.g_told sc_told (fun _ _ _ _ _ _ us hl => match us, hl with | [_, _, _], _ => rfl) (fun vs H Q h => ?_) fun cdv A outer s0 H vs Q hr h => ?_
  · obtain ⟨x, a, b, B, l, r, rfl, _⟩ := h; rfl
  · obtain ⟨x, a, b, B, l, r, rfl, ⟨dx, d, hx, kvs, hd, ht⟩, ha, hb, k⟩ := h
    refine ⟨_, (pss_one (ps_ret (pe_dget2N (D := pairD) (by exact hr.units) (pe_fldG (K := g.K) (by rfl) (pv 0) rfl) (pe_tupM (pa_cons (pv 1) (pa_cons (pv 2) pa_nil))) (pe_tupM (pa_cons (pv 1) (pa_cons (pv 2) pa_nil))) ⟨rfl, rfl, rfl, rfl⟩))), ?_⟩
    refine ⟨_, rfl, x, _, dx, _, _, rfl, hx, T.c_Book, T.n_Book_kept_table, rfl, d, kvs, rfl, hd, _, rfl, _, rfl, two_le, fun p H1 s1 _ hp => ?_⟩
    refine ⟨_, rfl, _, rfl, two_le, fun p2 H2 s2 _ hp2 => ?_⟩
    refine ⟨kvs, (l, r), p, rfl, hd.same (s1.trans s2), ⟨a, b, s2 _ _ hp, (s1.trans s2) _ _ ha, (s1.trans s2) _ _ hb⟩, ?_⟩
    have q := ht (l, r)
    cases e : valV kvs (l, r) with
    | some v =>
      rw [e] at q
      obtain ⟨c, rfl, hc⟩ := q
      exact k c _ (s1.trans s2) (hc.same (s1.trans s2))
    | none =>
      rw [e] at q
      refine k p2 _ (s1.trans s2) ?_
      rw [show B.f l r = (l, r) from q]
      exact ⟨a, b, hp2, (s1.trans s2) _ _ ha, (s1.trans s2) _ _ hb⟩

/-! ### shapes -/
def pLessened : Pr := fun vs H Q => ∃ (a : Addr) (n : Int) (r : R), vs = [.ref a, .int n] ∧ SpAt H a r ∧ r.length ≤ 800 ∧ ∀ q H', Same H H' → SpAt H' q (r.map (· - n)) → Q (.ref q) H'
theorem ok_lessened (T : Tx g) : CalG g 1 "lessened" pLessened := by
  refine calD T.d_lessened T.g_lessened sc_lessened (fun _ _ _ _ _ _ us hl => match us, hl with | [_, _], _ => rfl) (fun vs H Q h => ?_) fun cdv A outer s0 H vs Q hr h => ?_
  · obtain ⟨a, n, r, rfl, _⟩ := h; rfl
  · obtain ⟨a, n, r, rfl, ha, hl, k⟩ := h
    refine ⟨_, (pss_one (ps_ret (pe_callTy call_tupF (by rfl) T.f_tuple (by decide +kernel) (pa_cons (pe_lcM (own := [("depth", 2)]) (g := gName 2) (tt := tYes) (by rfl) sc_lessened.nd (pi_tup (pv 0)) (blkOk_by (own := [("depth", 2)]) (N := ["depths", "number", "depth"]) (sc := defScope st_lessened) (by decide +kernel)) (fun _ _ _ _ _ => pg_name (i := 2) sc_lessened.nd rfl (Or.inl rfl)) (fun _ _ _ _ _ => pts_nil) (fun _ _ _ _ _ => (pe_op op_sub (pv 2) (pv 1)))) pa_nil)))), ?_⟩
    refine ⟨_, rfl, a, rfl, ⟨_, sqF ha⟩, ?_⟩
    refine lc_wk (wk_tupF fun H' s' => ha.same s') (fun i acc _ => acc = ((r.map (· - n)).map V.int).take i) (fun _ _ _ _ _ e => e) (fun i acc _ hi e => ?_) (fun _ _ => rfl) (fun C i x acc H' hi s' hx e y no => ?_) fun D ys H' s' hD hys e => ?_
    · rw [List.length_map] at hi
      rw [e, List.length_take]
      exact cc_lt (n := 800) (by omega) (by omega)
    · rw [List.getElem?_map] at hx
      obtain ⟨v, hv, rfl⟩ := Option.map_eq_some_iff.mp hx
      refine ⟨rfl, _, rfl, _, rfl, _, _, rfl, rfl, y _ _ (.refl _) ?_⟩
      rw [e, take_snoc]
      rw [List.getElem?_map, List.getElem?_map, hv]; rfl
    · rw [List.take_of_length_le (by simp)] at e
      refine ⟨_, ys, rfl, hys, fun p H2 s2 hp => k p _ (s'.trans s2) (by rw [SpAt, ← e]; exact hp)⟩
theorem dep_shift : ∀ (t : T) (d : Int), t.dep (d + 1) = (t.dep d).map (· - (-1))
  | .lf, _ => rfl
  | .nd l r, d => by
    show l.dep (d + 1 + 1) ++ (d + 1) :: r.dep (d + 1 + 1) = (l.dep (d + 1) ++ d :: r.dep (d + 1)).map _
    rw [dep_shift l, dep_shift r, List.map_append, List.map_cons, Int.sub_neg]
def pWithRoot : Pr := fun vs H Q => ∃ (a b : Addr) (t u : K73.T), vs = [.ref a, .ref b] ∧ SpAt H a (t.dep 0) ∧ SpAt H b (u.dep 0) ∧ t.n ≤ 100 ∧ u.n ≤ 100 ∧ ∀ q H', Same H H' → SpAt H' q ((T.nd t u).dep 0) → Q (.ref q) H'
theorem ok_with_root (T : Tx g) : CalG g 2 "with_root" pWithRoot := by
  have c_lessened := ok_lessened T
  refine calD T.d_with_root T.g_with_root sc_with_root (fun _ _ _ _ _ _ us hl => match us, hl with | [_, _], _ => rfl) (fun vs H Q h => ?_) fun cdv A outer s0 H vs Q hr h => ?_
  · obtain ⟨a, b, t, u, rfl, _⟩ := h; rfl
  · obtain ⟨a, b, t, u, rfl, ha, hb, hl, hm, k⟩ := h
    refine ⟨_, (pss_one (ps_ret (pe_op op_catF (pe_op op_catF (C8.pe_c c_lessened hr (by omega) (by rfl) (pa_cons (pv 0) (pa_cons (pe_un un_neg pe_int) pa_nil))) (pe_tupF (pa_cons pe_int pa_nil))) (C8.pe_c c_lessened hr (by omega) (by rfl) (pa_cons (pv 1) (pa_cons (pe_un un_neg pe_int) pa_nil)))))), ?_⟩
    have lt := K73.T.dep_len t 0
    have lu := K73.T.dep_len u 0
    refine ⟨_, rfl, _, rfl, a, -1, _, rfl, ha, by omega, fun q H1 s1 hq => ?_⟩
    refine ⟨cc_le (n := 1) (Nat.le_refl _) (by omega), fun p H2 s2 _ hp => ?_⟩
    have hp : SpAt H2 p [0] := hp
    refine ⟨q, p, _, [0], rfl, rfl, hq.same s2, hp, cc_le (n := 102) (by rw [List.length_map, lt]; simp; omega) (by omega), fun p3 H3 s3 h3 => ?_⟩
    refine ⟨_, rfl, _, rfl, b, -1, _, rfl, hb.same ((s1.trans s2).trans s3), by omega, fun q4 H4 s4 h4 => ?_⟩
    refine ⟨p3, q4, _, _, rfl, rfl, h3.same s4, h4, cc_le (n := 300) (by simp only [List.length_append, List.length_map, lt, lu, List.length_singleton]; omega) (by omega), fun p5 H5 s5 h5 => ?_⟩
    refine k p5 _ ((((s1.trans s2).trans s3).trans s4).trans s5) ?_
    show SpAt H5 p5 (t.dep (0 + 1) ++ 0 :: u.dep (0 + 1))
    rw [dep_shift t 0, dep_shift u 0]
    have e : (t.dep 0).map (· - (-1)) ++ 0 :: (u.dep 0).map (· - (-1)) = (t.dep 0).map (· - (-1)) ++ [0] ++ (u.dep 0).map (· - (-1)) := by simp
    rw [e]
    exact h5
end
end K73
end

section
set_option linter.all false
set_option maxRecDepth 100000
set_option maxHeartbeats 4000000
/-! the joinings -/
namespace K73
open PySem PySem.Spec PyProof.Rows L2
section
variable {g : Gr}
def JoinAt (g : Gr) (H : Hp) (x : Addr) (t : K73.T) : Prop := ∃ dx f l ab, H x = some (.ins (He.ga g.K "Joinings") dx [("first", .ref f), ("last", .ref l), ("above", .ref ab), ("fair", .bl true)]) ∧
  H f = some (.lst ((List.range t.n).map fun k => V.int (t.fst 0 k : Nat))) ∧ H l = some (.lst ((List.range t.n).map fun k => V.int (t.lst 0 k : Nat)))
def JoinF (g : Gr) (H0 H : Hp) (x : Addr) (t : K73.T) : Prop := ∃ dx f l ab, H x = some (.ins (He.ga g.K "Joinings") dx [("first", .ref f), ("last", .ref l), ("above", .ref ab), ("fair", .bl true)]) ∧
  H f = some (.lst ((List.range t.n).map fun k => V.int (t.fst 0 k : Nat))) ∧ H l = some (.lst ((List.range t.n).map fun k => V.int (t.lst 0 k : Nat))) ∧ H0 f = none ∧ H0 l = none
theorem JoinAt.same {H H' : Hp} {x : Addr} {t : K73.T} (h : JoinAt g H x t) (s : Same H H') : JoinAt g H' x t := let ⟨dx, f, l, ab, h1, h2, h3⟩ := h; ⟨dx, f, l, ab, s _ _ h1, s _ _ h2, s _ _ h3⟩
def pJoinings (g : Gr) : Pr := fun vs H Q => ∃ (x a dx : Addr) (t : K73.T), vs = [.ref x, .ref a] ∧ H x = some (.ins (He.ga g.K "Joinings") dx []) ∧ SpAt H a (t.dep 0) ∧ t.n ≤ 100 ∧ ∀ H', Sx [x] H H' → JoinF g H H' x t → Q .non H'
/-- one thing that waits: from where, what tree, at what depth, its tuple -/
structure Wt where
  i : Nat
  t : K73.T
  d : Int
  v : V
structure WtOk (u : K73.T) (H : Hp) (e : Wt) : Prop where
  tup : ∃ r ab, e.v = .ref r ∧ H r = some (.tup [.int (e.i : Nat), .int ((e.i + e.t.n : Nat) : Int), .int e.d, ab])
  ist : IsT (fun k => (u.dep 0).getD k 0) e.i e.d e.t
  sub : Sub u e.i e.t
  le : e.i + e.t.n ≤ u.n
theorem WtOk.tk {u : K73.T} {H H' : Hp} {e : Wt} (h : WtOk u H e) (s : Tk H H') : WtOk u H' e := let ⟨r, ab, h1, h2⟩ := h.tup; ⟨⟨r, ab, h1, s _ _ h2⟩, h.ist, h.sub, h.le⟩
def wcost (es : List Wt) : Nat := (es.map fun e => 2 * e.t.n + 1).sum
/-- the arrays hold what is due, but where something waits -/
def Cov (u : K73.T) (es : List Wt) (Fs Ls : List V) : Prop := Fs.length = u.n ∧ Ls.length = u.n ∧ ∀ k, k < u.n → (Fs[k]? = some (.int (u.fst 0 k : Nat)) ∧ Ls[k]? = some (.int (u.lst 0 k : Nat))) ∨ ∃ e ∈ es, e.i ≤ k ∧ k < e.i + e.t.n
theorem Cov.lf {u : K73.T} {es : List Wt} {e : Wt} {Fs Ls : List V} (h : Cov u (es ++ [e]) Fs Ls) (z : e.t.n = 0) : Cov u es Fs Ls := ⟨h.1, h.2.1, fun k hk => by
  rcases h.2.2 k hk with q | ⟨x, hx, q⟩
  · exact .inl q
  · rcases List.mem_append.mp hx with hx | hx
    · exact .inr ⟨x, hx, q⟩
    · have : x = e := by simpa using hx
      subst this
      omega⟩
theorem Cov.nd {u l r : K73.T} {es : List Wt} {e : Wt} {Fs Ls : List V} {d1 d2 : Int} {v1 v2 : V} (h : Cov u (es ++ [e]) Fs Ls) (z : e.t = .nd l r) (s : Sub u e.i e.t) (le : e.i + e.t.n ≤ u.n) :
    Cov u ((es ++ [⟨e.i, l, d1, v1⟩]) ++ [⟨e.i + l.n + 1, r, d2, v2⟩]) (Fs.set (e.i + l.n) (.int (e.i : Nat))) (Ls.set (e.i + l.n) (.int ((e.i + e.t.n : Nat) : Int))) := by
  rw [z] at s
  have rt := s.root
  refine ⟨by rw [List.length_set]; exact h.1, by rw [List.length_set]; exact h.2.1, fun k hk => ?_⟩
  by_cases c : k = e.i + l.n
  · subst c
    left
    rw [List.getElem?_set_self (by rw [h.1]; exact hk), List.getElem?_set_self (by rw [h.2.1]; exact hk), rt.1, rt.2, z]
    exact ⟨rfl, rfl⟩
  · rcases h.2.2 k hk with q | ⟨x, hx, q⟩
    · left
      rw [List.getElem?_set_ne (fun z => c z.symm), List.getElem?_set_ne (fun z => c z.symm)]
      exact q
    · right
      rcases List.mem_append.mp hx with hx | hx
      · exact ⟨x, List.mem_append_left _ (List.mem_append_left _ hx), q⟩
      · have : x = e := by simpa using hx
        subst this
        rw [z] at q
        simp only [K73.T.n] at q
        by_cases c2 : k < x.i + l.n
        · exact ⟨⟨x.i, l, d1, v1⟩, List.mem_append_left _ (List.mem_append_right _ List.mem_cons_self), q.1, c2⟩
        · refine ⟨⟨x.i + l.n + 1, r, d2, v2⟩, List.mem_append_right _ List.mem_cons_self, ?_, ?_⟩
          · show x.i + l.n + 1 ≤ k
            omega
          · show k < x.i + l.n + 1 + r.n
            omega
theorem Cov.done {u : K73.T} {Fs Ls : List V} (h : Cov u [] Fs Ls) : Fs = (List.range u.n).map (fun k => V.int (u.fst 0 k : Nat)) ∧ Ls = (List.range u.n).map (fun k => V.int (u.lst 0 k : Nat)) := by
  constructor
  · refine List.ext_getElem? fun k => ?_
    by_cases c : k < u.n
    · rcases h.2.2 k c with q | ⟨x, hx, _⟩
      · rw [q.1, List.getElem?_map, List.getElem?_range c]; rfl
      · cases hx
    · rw [List.getElem?_eq_none (by rw [h.1]; omega), List.getElem?_eq_none (by simp; omega)]
  · refine List.ext_getElem? fun k => ?_
    by_cases c : k < u.n
    · rcases h.2.2 k c with q | ⟨x, hx, _⟩
      · rw [q.2, List.getElem?_map, List.getElem?_range c]; rfl
      · cases hx
    · rw [List.getElem?_eq_none (by rw [h.2.1]; omega), List.getElem?_eq_none (by simp; omega)]
theorem wcost_snoc (es : List Wt) (e : Wt) : wcost (es ++ [e]) = wcost es + (2 * e.t.n + 1) := by
  unfold wcost
  rw [List.map_append, List.sum_append]; simp
theorem wc_len : ∀ es : List Wt, es.length ≤ wcost es
  | [] => Nat.le_refl _
  | e :: es => by
    have := wc_len es
    unfold wcost at this ⊢
    rw [List.map_cons, List.sum_cons, List.length_cons]; omega
theorem snoc_or {α : Type} (l : List α) : l = [] ∨ ∃ l' x, l = l' ++ [x] := by
  rcases List.eq_nil_or_concat l with h | ⟨l', x, h⟩
  · exact .inl h
  · exact .inr ⟨l', x, by rw [h, List.concat_eq_append]⟩
theorem last_snoc {α : Type} (l : List α) (x : α) : (l ++ [x])[(l ++ [x]).length - 1]? = some x := by simp
/-- how the seams of one depth are found -/
theorem seam_at {u : K73.T} {i : Nat} {d : Int} {l r : K73.T} (h : IsT (fun k => (u.dep 0).getD k 0) i d (.nd l r)) (k : Nat) (hk : k < l.n + r.n + 1) : ((u.dep 0).getD (i + k) 0 ≤ d) ↔ k = l.n := by
  obtain ⟨e, hl, hr⟩ := h
  constructor
  · intro q
    by_cases c1 : k < l.n
    · have := isT_ge hl (i + k) (by omega) (by omega)
      first | omega | (simp only at this; omega)
    · by_cases c2 : k = l.n
      · exact c2
      · have := isT_ge hr (i + k) (by omega) (by omega)
        first | omega | (simp only at this; omega)
  · intro q
    subst q
    exact Int.le_of_eq e
theorem ok_Joinings (T : Tx g) : MakG g 1 "Joinings" (pJoinings g) := by
  refine makD T.d_Joinings_init T.m_Joinings T.g_Joinings sc_Joinings_init (fun _ _ _ _ _ _ us hl => match us, hl with | [_, _], _ => rfl) (fun vs H Q h => ?_) fun cdv A outer s0 H vs Q hr h => ?_
  · obtain ⟨x, a, dx, t, rfl, _⟩ := h; rfl
  · obtain ⟨x, a, dx, u, rfl, hx, ⟨sho, ha, hdn⟩, hn, k⟩ := h
    refine ⟨_, (pss_cons (ps_fldM (K := g.K) (by rfl) (pv 0) (pe_op op_repM (pe_lstM (pa_cons pe_non pa_nil)) (pe_callB call_lenF (by rfl) T.f_len (by decide +kernel) (pa_cons (pv 1) pa_nil))) rfl)
      (pss_cons (ps_fldM (K := g.K) (by rfl) (pv 0) (pe_op op_repM (pe_lstM (pa_cons pe_non pa_nil)) (pe_callB call_lenF (by rfl) T.f_len (by decide +kernel) (pa_cons (pv 1) pa_nil))) rfl)
      (pss_cons (ps_fldM (K := g.K) (by rfl) (pv 0) (pe_op op_repM (pe_lstM (pa_cons pe_non pa_nil)) (pe_callB call_lenF (by rfl) T.f_len (by decide +kernel) (pa_cons (pv 1) pa_nil))) rfl)
      (pss_cons (ps_fldM (K := g.K) (by rfl) (pv 0) pe_bl rfl)
      (pss_cons (ps_set (i := 2) sc_Joinings_init.nd rfl (by first | exact Or.inl rfl | exact Or.inr rfl) (pe_lstM (pa_cons (pe_tupM (pa_cons pe_int (pa_cons (pe_callB call_lenF (by rfl) T.f_len (by decide +kernel) (pa_cons (pv 1) pa_nil)) (pa_cons pe_int (pa_cons pe_non pa_nil))))) pa_nil)))
      (pss_one (ps_whileM PassesOwn.never (PW.pt (pw_and (pt_cmpR op_gt (pe_callB call_lenL (by rfl) T.f_len (by decide +kernel) (pa_cons (pv 2) pa_nil)) pe_int (nomark _)) (pw_and1 (pt_val (pe_fldG (K := g.K) (by rfl) (pv 0) rfl)))))
        (pss_cons (ps_asg (pe_bm0 PySem.F.plainAttrs_list PySem.F.slot_list_pop PySem.F.type_list_pop mt_popM (pv 2)) (pg_tupG (K := g.K) (by rfl) (by rfl) (pgs_cons (pg_name (i := 3) sc_Joinings_init.nd rfl (by first | exact Or.inl rfl | exact Or.inr rfl)) (pgs_cons (pg_name (i := 4) sc_Joinings_init.nd rfl (by first | exact Or.inl rfl | exact Or.inr rfl)) (pgs_cons (pg_name (i := 5) sc_Joinings_init.nd rfl (by first | exact Or.inl rfl | exact Or.inr rfl)) (pgs_cons (pg_name (i := 6) sc_Joinings_init.nd rfl (by first | exact Or.inl rfl | exact Or.inr rfl)) pgs_nil))))))
        (pss_one (ps_if (pt_cmpR op_lt (pv 3) (pv 4) (nomark _))
          (pss_cons (ps_setLcM (i := 7) (own := [("seam", 8)]) (g := gName 8) (by rfl) sc_Joinings_init.nd rfl rfl (sw_true rfl rfl rfl (by decide +kernel)) (pi_rangeM2 (by rfl) T.f_range (pa_cons (pv 3) (pa_cons (pv 4) pa_nil))) (blkOk_by (own := [("seam", 8)]) (N := ["self", "shape", "waiting", "first", "last", "depth", "above", "seams", "seam"]) (sc := defScope st_Joinings_init) (by decide +kernel)) (fun _ _ _ _ _ => pg_name (i := 8) sc_Joinings_init.nd rfl (Or.inl rfl)) (fun _ _ _ _ _ => (pts_one (pt_cmpR op_le (pe_ix ix_tupF (pv 1) (pv 8) (fun _ _ => rfl)) (pv 5) (nomark _)))) (fun _ _ _ _ _ => (pv 8)))
          (pss_one (ps_if (PW.pt (pw_or (pt_cmpR op_ne (pe_callB call_lenL (by rfl) T.f_len (by decide +kernel) (pa_cons (pv 7) pa_nil)) pe_int (nomark _)) (pw_or1 (pt_cmpR op_ne (pe_ix ix_tupF (pv 1) (pe_ix ix_lstM (pv 7) pe_int (fun _ _ => rfl)) (fun _ _ => rfl)) (pv 5) (nomark _)))))
            (pss_one (ps_fldM (K := g.K) (by rfl) (pv 0) pe_bl rfl))
            (pss_cons (ps_set (i := 8) sc_Joinings_init.nd rfl (by first | exact Or.inl rfl | exact Or.inr rfl) (pe_ix ix_lstM (pv 7) pe_int (fun _ _ => rfl)))
            (pss_cons (ps_asg (pv 3) (pg_sub (pe_fldG (K := g.K) (by rfl) (pv 0) rfl) (pv 8) set_listM))
            (pss_cons (ps_asg (pv 4) (pg_sub (pe_fldG (K := g.K) (by rfl) (pv 0) rfl) (pv 8) set_listM))
            (pss_cons (ps_asg (pv 6) (pg_sub (pe_fldG (K := g.K) (by rfl) (pv 0) rfl) (pv 8) set_listM))
            (pss_cons (ps_expr (pe_bm PySem.F.plainAttrs_list PySem.F.slot_list_append PySem.F.type_list_append mt_appendM (pv 2) (pa_cons (pe_tupM (pa_cons (pv 3) (pa_cons (pv 8) (pa_cons (pe_op op_add (pv 5) pe_int) (pa_cons (pv 8) pa_nil))))) pa_nil)))
            (pss_one (ps_expr (pe_bm PySem.F.plainAttrs_list PySem.F.slot_list_append PySem.F.type_list_append mt_appendM (pv 2) (pa_cons (pe_tupM (pa_cons (pe_op op_add (pv 8) pe_int) (pa_cons (pv 4) (pa_cons (pe_op op_add (pv 5) pe_int) (pa_cons (pv 8) pa_nil))))) pa_nil))))))))))))
          pss_nil)))))))))), ?_⟩
    have C := T.c_Joinings
    have lu := K73.T.dep_len u 0
    have nax : a ≠ x := ne_of ha hx (fun z => nomatch z)
    have nn : ((u.dep 0).length : Int).toNat = u.n := by rw [lu]; rfl
    refine ⟨cc_le (n := 1) (Nat.le_refl _) (by omega), fun p1 G1 g1 _ h1 => ?_⟩
    refine ⟨_, rfl, a, _, rfl, ⟨sho, g1 _ _ ha, hdn⟩, p1, .non, _, rfl, rfl, h1, by omega, by omega, fun f H1 s1 nf hf => ?_⟩
    rw [nn] at hf
    have hx1 := s1 _ _ (g1 _ _ hx)
    have hF : H f = none := g1.free nf
    refine ⟨_, rfl, x, _, dx, [], rfl, hx1, C, T.n_Joinings_first, n1000 rfl, fun K1 eK => ?_⟩
    have S1 : Sx [x] H K1 := by rw [eK]; exact (g1.trans s1).sx.put (List.mem_singleton.mpr rfl)
    have hf1 : K1 f = some (.lst (List.replicate u.n .non)) := by rw [eK, upd_ne (ne_of hf hx1 (fun z => nomatch z))]; exact hf
    have hX1 : K1 x = some (.ins (He.ga g.K "Joinings") dx [("first", .ref f)]) := by rw [eK]; exact upd_same
    have hA1 := S1 _ _ (fun z => nax (List.mem_singleton.mp z)) ha
    clear eK
    clear hx1 hf nf s1 h1 g1
    refine ⟨cc_le (n := 1) (Nat.le_refl _) (by omega), fun p2 G2 g2 _ h2 => ?_⟩
    refine ⟨_, rfl, a, _, rfl, ⟨sho, g2 _ _ hA1, hdn⟩, p2, .non, _, rfl, rfl, h2, by omega, by omega, fun l H2 s2 nl hl => ?_⟩
    rw [nn] at hl
    have hx2 := s2 _ _ (g2 _ _ hX1)
    have hL : H l = none := (S1.trans g2.sx).free nl (fun z => ne_of_none (g2 _ _ hX1) nl (List.mem_singleton.mp z).symm)
    have nfl : f ≠ l := ne_of_none (g2 _ _ hf1) nl
    refine ⟨_, rfl, x, _, dx, _, rfl, hx2, C, T.n_Joinings_last, n1000 rfl, fun K2 eK => ?_⟩
    have S2 : Sx [x] H K2 := by rw [eK]; exact (S1.trans (g2.trans s2).sx).put (List.mem_singleton.mpr rfl)
    have hf2 : K2 f = some (.lst (List.replicate u.n .non)) := by rw [eK, upd_ne (ne_of (s2 _ _ (g2 _ _ hf1)) hx2 (fun z => nomatch z))]; exact s2 _ _ (g2 _ _ hf1)
    have hl2 : K2 l = some (.lst (List.replicate u.n .non)) := by rw [eK, upd_ne (ne_of hl hx2 (fun z => nomatch z))]; exact hl
    have hX2 : K2 x = some (.ins (He.ga g.K "Joinings") dx [("first", .ref f), ("last", .ref l)]) := by rw [eK]; exact upd_same
    have hA2 := S2 _ _ (fun z => nax (List.mem_singleton.mp z)) ha
    clear eK
    clear hx2 hl nl s2 h2 g2 hf1 hX1 hA1 S1
    refine ⟨cc_le (n := 1) (Nat.le_refl _) (by omega), fun p3 G3 g3 _ h3 => ?_⟩
    refine ⟨_, rfl, a, _, rfl, ⟨sho, g3 _ _ hA2, hdn⟩, p3, .non, _, rfl, rfl, h3, by omega, by omega, fun ab H3 s3 nab hab => ?_⟩
    rw [nn] at hab
    have hx3 := s3 _ _ (g3 _ _ hX2)
    have hAb : H ab = none := (S2.trans g3.sx).free nab (fun z => ne_of_none (g3 _ _ hX2) nab (List.mem_singleton.mp z).symm)
    have nfa : f ≠ ab := ne_of_none (g3 _ _ hf2) nab
    have nla : l ≠ ab := ne_of_none (g3 _ _ hl2) nab
    refine ⟨_, rfl, x, _, dx, _, rfl, hx3, C, T.n_Joinings_above, n1000 rfl, fun K3' eK' => ?_⟩
    refine ⟨_, rfl, x, _, dx, _, rfl, by rw [eK']; exact upd_same, C, T.n_Joinings_fair, n1000 rfl, fun K3 eK => ?_⟩
    subst eK'
    have S3 : Sx [x] H K3 := by
      rw [eK]
      exact ((S2.trans (g3.trans s3).sx).put (List.mem_singleton.mpr rfl)).put (List.mem_singleton.mpr rfl)
    have hX3 : K3 x = some (.ins (He.ga g.K "Joinings") dx [("first", .ref f), ("last", .ref l), ("above", .ref ab), ("fair", .bl true)]) := by rw [eK]; exact upd_same
    have old : ∀ b o, b ≠ x → H3 b = some o → K3 b = some o := fun b o nb e => by rw [eK, upd_ne nb, upd_ne nb]; exact e
    have hf3 := old f _ (ne_of (s3 _ _ (g3 _ _ hf2)) hx3 (fun z => nomatch z)) (s3 _ _ (g3 _ _ hf2))
    have hl3 := old l _ (ne_of (s3 _ _ (g3 _ _ hl2)) hx3 (fun z => nomatch z)) (s3 _ _ (g3 _ _ hl2))
    have hab3 := old ab _ (ne_of hab hx3 (fun z => nomatch z)) hab
    have hA3 := S3 _ _ (fun z => nax (List.mem_singleton.mp z)) ha
    clear old eK hx3 hab nab s3 h3 g3 hf2 hl2 hX2 hA2 S2
    refine ⟨_, rfl, a, _, rfl, ⟨sho, hA3, hdn⟩, cc_le (n := 4) (Nat.le_refl _) (by omega), fun q G4 g4 _ h4 => ?_⟩
    rw [lu] at h4
    refine ⟨cc_le (n := 1) (Nat.le_refl _) (by omega), fun w H4 s4 nw hw => ?_⟩
    have S4 := S3.trans (g4.trans s4).sx
    have hW : H w = none := (S3.trans g4.sx).free nw (fun z => ne_of_none (g4 _ _ hX3) nw (List.mem_singleton.mp z).symm)
    have hX4 := s4 _ _ (g4 _ _ hX3)
    have hf4 := s4 _ _ (g4 _ _ hf3)
    have hl4 := s4 _ _ (g4 _ _ hl3)
    have hab4 := s4 _ _ (g4 _ _ hab3)
    have hA4 := s4 _ _ (g4 _ _ hA3)
    have hq4 := s4 _ _ h4
    have nfw : f ≠ w := ne_of_none (g4 _ _ hf3) nw
    have nlw : l ≠ w := ne_of_none (g4 _ _ hl3) nw
    have naw : ab ≠ w := ne_of_none (g4 _ _ hab3) nw
    have nfx : f ≠ x := ne_of hf4 hX4 (fun z => nomatch z)
    have nlx : l ≠ x := ne_of hl4 hX4 (fun z => nomatch z)
    have nax' : ab ≠ x := ne_of hab4 hX4 (fun z => nomatch z)
    have nwx : w ≠ x := ne_of hw hX4 (fun z => nomatch z)
    have hw0 := hw
    clear hX3 hf3 hl3 hab3 hA3 S3 s4 g4 h4
    refine while_m (fun m σ H' => ∃ y3 y4 y5 y6 y7 y8 es Fs Ls As, σ = [some (.ref x), some (.ref a), some (.ref w), y3, y4, y5, y6, y7, y8] ∧ Sx [f, l, ab, w] H4 H' ∧ H' f = some (.lst Fs) ∧ H' l = some (.lst Ls) ∧ H' ab = some (.lst As) ∧ H' w = some (.lst (es.map Wt.v)) ∧ As.length = u.n ∧ Cov u es Fs Ls ∧ (∀ e ∈ es, WtOk u H' e) ∧ wcost es = m ∧ es.length ≤ wcost es ∧ wcost es ≤ 2 * u.n + 1) ?_ ?_
    · refine ⟨wcost [⟨0, u, 0, .ref q⟩], _, _, _, _, _, _, [⟨0, u, 0, .ref q⟩], _, _, _, rfl, .refl _, hf4, hl4, hab4, hw, List.length_replicate .., ⟨List.length_replicate .., List.length_replicate .., fun k hk => .inr ⟨_, List.mem_singleton.mpr rfl, Nat.zero_le _, by simpa using hk⟩⟩, fun e he => ?_, rfl, by simp [wcost], by simp [wcost]⟩
      have : e = ⟨0, u, 0, .ref q⟩ := List.mem_singleton.mp he
      subst this
      exact ⟨⟨q, .non, rfl, by simpa using hq4⟩, isT_dep u 0, sub_self u, by simp⟩
    · rintro m σ H' E ⟨y3, y4, y5, y6, y7, y8, es, Fs, Ls, As, rfl, S, hf, hl, hab, hw, la, cov, ok, em, le1, le2⟩ yes no
      have hX := S _ _ (fun z => by
        simp only [List.mem_cons, List.not_mem_nil, or_false] at z
        rcases z with z | z | z | z
        · exact nfx z.symm
        · exact nlx z.symm
        · exact nax' z.symm
        · exact nwx z.symm) hX4
      have hA := S _ _ (fun z => by
        simp only [List.mem_cons, List.not_mem_nil, or_false] at z
        rcases z with z | z | z | z
        · exact ne_of hA4 hf4 (fun z => nomatch z) z
        · exact ne_of hA4 hl4 (fun z => nomatch z) z
        · exact ne_of hA4 hab4 (fun z => nomatch z) z
        · exact ne_of hA4 hw0 (fun z => nomatch z) z) hA4
      rcases snoc_or es with rfl | ⟨es, e, rfl⟩
      · refine ⟨_, rfl, w, _, rfl, hw, _, _, rfl, rfl, false, rfl, ?_⟩
        refine no _ (k _ (fun b o nb e => S b o (fun z => ?_) (S4 b o nb e)) ⟨dx, f, l, ab, hX, ?_, ?_, hF, hL⟩)
        · simp only [List.mem_cons, List.not_mem_nil, or_false] at z
          rcases z with z | z | z | z
          · rw [z, hF] at e; cases e
          · rw [z, hL] at e; cases e
          · rw [z, hAb] at e; cases e
          · rw [z, hW] at e; cases e
        · rw [hf, cov.done.1]
        · rw [hl, cov.done.2]
      · have oke := ok e (List.mem_append_right _ List.mem_cons_self)
        obtain ⟨r, av, er, htup⟩ := oke.tup
        have pos : decide ((0 : Int) < (((es ++ [e]).map Wt.v).length : Nat)) = true := decide_eq_true (by simp)
        refine ⟨_, rfl, w, _, rfl, hw, _, _, rfl, rfl, true, congrArg V.bl pos, ?_⟩
        refine ⟨_, rfl, x, _, dx, _, _, rfl, hX, C, T.n_Joinings_fair, rfl, true, rfl, yes _ ?_⟩
        rw [List.map_append] at hw
        have okr : ∀ z ∈ es, WtOk u H' z := fun z hz => ok z (List.mem_append_left _ hz)
        rw [wcost_snoc] at em le1 le2
        refine ⟨_, rfl, .inl ⟨rfl, _, .inl (.inl hw)⟩, w, _, e.v, rfl, rfl, hw, fun K1 eK => ?_⟩
        have SK : Sx [f, l, ab, w] H4 K1 := by rw [eK]; exact S.put (by simp)
        have tk1 : Tk H' K1 := by rw [eK]; exact tk_lst hw
        have hw1 : K1 w = some (.lst (es.map Wt.v)) := by rw [eK]; exact upd_same
        have hf1 : K1 f = some (.lst Fs) := by rw [eK, upd_ne nfw]; exact hf
        have hl1 : K1 l = some (.lst Ls) := by rw [eK, upd_ne nlw]; exact hl
        have hab1 : K1 ab = some (.lst As) := by rw [eK, upd_ne naw]; exact hab
        have hX1 := upd_keep eK nwx.symm (hX)
        have hA1 := upd_keep eK (ne_of hA hw (fun z => nomatch z)) hA
        clear eK
        refine ⟨r, _, er, .inl (.inl (tk1 _ _ htup)), rfl, _, _, rfl, _, _, rfl, _, _, rfl, _, _, rfl, rfl, ?_⟩
        have okr : ∀ z ∈ es, WtOk u K1 z := fun z hz => (ok z (List.mem_append_left _ hz)).tk tk1
        have ist := oke.ist
        have sub := oke.sub
        have ole := oke.le
        obtain ⟨tt, ht⟩ : ∃ tt, e.t = tt := ⟨_, rfl⟩
        cases tt with
        | lf =>
          have z0 : e.t.n = 0 := by rw [ht]; rfl
          refine ⟨_, rfl, _, rfl, _, _, rfl, rfl, false, congrArg V.bl (decide_eq_false (by rw [z0]; omega)), ?_⟩
          exact ⟨wcost es, by omega, _, _, _, _, _, _, es, Fs, Ls, As, rfl, SK, hf1, hl1, hab1, hw1, la, cov.lf z0, okr, rfl, by rw [List.length_append, List.length_singleton] at le1; omega, by omega⟩
        | nd lt rt =>
          have z1 : e.t.n = lt.n + rt.n + 1 := by rw [ht]; rfl
          rw [ht] at ist
          have hseam := seam_at ist
          refine ⟨_, rfl, _, rfl, _, _, rfl, rfl, true, congrArg V.bl (decide_eq_true (by rw [z1]; omega)), ?_⟩
          refine ⟨_, rfl, _, rfl, e.i, e.t.n, rfl, by omega, ?_⟩
          refine lc_wk (wk_rng (R := Same K1)) (fun j acc _ => acc = if j ≤ lt.n then [] else [V.int ((e.i + lt.n : Nat) : Int)]) (fun _ _ _ _ _ h => h) (fun j acc _ _ h => ?_) (fun _ _ => by rw [if_pos (Nat.zero_le _)]) (fun CC j y acc H2 hj s2 hy hacc y1 n1 => ?_) fun D ys H2 s2 nD hD hys => ?_
          · rw [h]; split
            · exact cc_lt (n := 1) (Nat.zero_lt_one) (by omega)
            · exact cc_lt (n := 2) (Nat.lt_succ_self 1) (by omega)
          · subst hy
            have q := hseam j (by rw [← z1]; exact hj)
            have gd : (u.dep 0).length = u.n := lu
            have hk : e.i + j < (u.dep 0).length := by rw [gd]; omega
            have ga : ((u.dep 0).map V.int)[e.i + j]? = some (V.int ((u.dep 0).getD (e.i + j) 0)) := by
              rw [List.getElem?_map, List.getElem?_eq_getElem hk, List.getD_eq_getElem?_getD, List.getElem?_eq_getElem hk]; rfl
            refine ⟨rfl, _, rfl, _, rfl, a, _, _, _, rfl, rfl, ⟨sho, s2 _ _ hA1, hdn⟩, (by
              have : ((e.i : Nat) : Int) + (j : Nat) = ((e.i + j : Nat) : Int) := by omega
              rw [this]; exact atI_nat _ ga), _, rfl, _, _, rfl, rfl, _, rfl, ?_⟩
            by_cases c : j = lt.n
            · refine ifT (decide_eq_true (q.mpr c)) ⟨_, rfl, y1 _ _ (.refl _) ?_⟩
              rw [hacc, if_pos (by omega), if_neg (by omega), c]
              congr 2
            · refine ifF (decide_eq_false (fun z => c (q.mp z))) (n1 _ (.refl _) ?_)
              rw [hacc]
              by_cases c2 : j ≤ lt.n
              · rw [if_pos c2, if_pos (by omega)]
              · rw [if_neg c2, if_neg (by omega)]
          · rw [if_neg (by omega)] at hys
            subst hys
            have hroot : (u.dep 0).getD (e.i + lt.n) 0 = e.d := ist.1
            have hk : e.i + lt.n < (u.dep 0).length := by rw [lu]; omega
            have ga : ((u.dep 0).map V.int)[e.i + lt.n]? = some (V.int e.d) := by
              rw [List.getElem?_map, List.getElem?_eq_getElem hk, ← hroot, List.getD_eq_getElem?_getD, List.getElem?_eq_getElem hk]; rfl
            refine ⟨_, rfl, D, _, rfl, hD, rfl, false, rfl, ?_⟩
            refine ⟨_, rfl, _, rfl, D, _, _, _, rfl, rfl, hD, rfl, a, _, _, _, rfl, rfl, ⟨sho, s2 _ _ hA1, hdn⟩, atI_nat _ ga, _, rfl, rfl, false, by rw [decide_eq_true rfl]; rfl, ?_⟩
            refine ⟨_, rfl, D, _, _, _, rfl, rfl, hD, rfl, ?_⟩
            have hX2 := s2 _ _ hX1
            have hf2 := s2 _ _ hf1
            have hl2 := s2 _ _ hl1
            have hab2 := s2 _ _ hab1
            have hw2 := s2 _ _ hw1
            have C2 := T.c_Joinings
            have hlF : (e.i + lt.n : Nat) < Fs.length := by rw [cov.1]; omega
            have hlL : (e.i + lt.n : Nat) < Ls.length := by rw [cov.2.1]; omega
            have hlA : (e.i + lt.n : Nat) < As.length := by rw [la]; omega
            refine ⟨_, rfl, _, rfl, x, _, dx, _, _, rfl, hX2, C2, T.n_Joinings_first, rfl, _, rfl, f, Fs, _, _, rfl, rfl, hf2, ixN_of (by omega) (by omega), fun K2 e2 => ?_⟩
            have hX3 := upd_keep e2 nfx.symm (hX2)
            have hl3 := upd_keep e2 nfl.symm (hl2)
            refine ⟨_, rfl, _, rfl, x, _, dx, _, _, rfl, hX3, C2, T.n_Joinings_last, rfl, _, rfl, l, Ls, _, _, rfl, rfl, hl3, ixN_of (by omega) (by omega), fun K3 e3 => ?_⟩
            have hX4' := upd_keep e3 nlx.symm (hX3)
            have hab4' := upd_keep e3 nla.symm (upd_keep e2 nfa.symm hab2)
            refine ⟨_, rfl, _, rfl, x, _, dx, _, _, rfl, hX4', C2, T.n_Joinings_above, rfl, _, rfl, ab, As, _, _, rfl, rfl, hab4', ixN_of (by omega) (by omega), fun K4 e4 => ?_⟩
            have hf4' : K4 f = some (.lst (Fs.set (e.i + lt.n) (.int (e.i : Nat)))) := by rw [e4, upd_ne nfa, e3, upd_ne nfl, e2, upd_same]; congr 2
            have hl4' : K4 l = some (.lst (Ls.set (e.i + lt.n) (.int ((e.i + e.t.n : Nat) : Int)))) := by rw [e4, upd_ne nla, e3, upd_same]; congr 2
            have hab5 : K4 ab = some (.lst (As.set (e.i + lt.n) av)) := by rw [e4, upd_same]; congr 2
            have hw4' : K4 w = some (.lst (es.map Wt.v)) := by rw [e4, upd_ne naw.symm, e3, upd_ne nlw.symm, e2, upd_ne nfw.symm]; exact hw2
            have tk4 : Tk K1 K4 := by
              rw [e4]
              refine Tk.trans ?_ (tk_lst hab4')
              rw [e3]
              refine Tk.trans ?_ (tk_lst hl3)
              rw [e2]
              exact s2.tk.trans (tk_lst hf2)
            have S5 : Sx [f, l, ab, w] H4 K4 := by
              rw [e4]
              refine Sx.put ?_ (by simp)
              rw [e3]
              refine Sx.put ?_ (by simp)
              rw [e2]
              exact (SK.trans s2.sx).put (by simp)
            clear e2 e3 e4
            have l24 : ∀ n, n ≤ 100 → n < sizeLine := fun n h => cc_lt (n := 101) (by omega) (by omega)
            refine ⟨_, rfl, .inl ⟨rfl, _, .inl (.inl hw4')⟩, ⟨_, rfl, _, rfl, _, rfl, _, _, rfl, rfl, _, rfl, cc_le (n := 4) (Nat.le_refl _) (by omega), fun q1 K5 s5 n5 h5 => ?_⟩⟩
            have lw : (es.map Wt.v).length ≤ 300 := by
              rw [List.length_append, List.length_singleton] at le1
              rw [List.length_map]; omega
            refine ⟨w, _, _, rfl, rfl, s5 _ _ hw4', cc_lt (n := 301) (by omega) (by omega), fun K6 e6 => ?_⟩
            have nwq : w ≠ q1 := ne_of_none hw4' n5
            have hw6 : K6 w = some (.lst (es.map Wt.v ++ [.ref q1])) := by rw [e6, upd_same]
            have tk6 : Tk K5 K6 := by rw [e6]; exact tk_lst (s5 _ _ hw4')
            have S6 : Sx [f, l, ab, w] H4 K6 := by rw [e6]; exact (S5.trans s5.sx).put (by simp)
            have hf6 := upd_keep e6 nfw (s5 _ _ hf4')
            have hl6 := upd_keep e6 nlw (s5 _ _ hl4')
            have hab6 := upd_keep e6 naw (s5 _ _ hab5)
            clear e6
            refine ⟨_, rfl, .inl ⟨rfl, _, .inl (.inl hw6)⟩, ⟨_, rfl, _, _, rfl, rfl, _, rfl, _, rfl, _, _, rfl, rfl, _, rfl, cc_le (n := 4) (Nat.le_refl _) (by omega), fun q2 K7 s7 n7 h7 => ?_⟩⟩
            refine ⟨w, _, _, rfl, rfl, s7 _ _ hw6, cc_lt (n := 400) (by rw [List.length_append, List.length_singleton]; omega) (by omega), fun K8 e8 => ?_⟩
            have hw8 : K8 w = some (.lst (es.map Wt.v ++ [.ref q1] ++ [.ref q2])) := by rw [e8, upd_same]
            have tk8 : Tk K7 K8 := by rw [e8]; exact tk_lst (s7 _ _ hw6)
            have S8 : Sx [f, l, ab, w] H4 K8 := by rw [e8]; exact (S6.trans s7.sx).put (by simp)
            have hf8 := upd_keep e8 nfw (s7 _ _ hf6)
            have hl8 := upd_keep e8 nlw (s7 _ _ hl6)
            have hab8 := upd_keep e8 naw (s7 _ _ hab6)
            clear e8
            have cost : wcost ((es ++ [⟨e.i, lt, e.d + 1, .ref q1⟩]) ++ [⟨e.i + lt.n + 1, rt, e.d + 1, .ref q2⟩]) = wcost es + (2 * lt.n + 1) + (2 * rt.n + 1) := by
              rw [wcost_snoc, wcost_snoc]
            refine ⟨_, ?_, _, _, _, _, _, _, (es ++ [⟨e.i, lt, e.d + 1, .ref q1⟩]) ++ [⟨e.i + lt.n + 1, rt, e.d + 1, .ref q2⟩], _, _, _, rfl, S8, hf8, hl8, hab8, ?_, ?_, cov.nd ht sub ole, ?_, rfl, ?_, ?_⟩
            · rw [cost]; omega
            · rw [hw8, List.map_append, List.map_append]; rfl
            · rw [List.length_set]; exact la
            · intro z hz
              rw [ht] at sub
              rcases List.mem_append.mp hz with hz | hz
              · rcases List.mem_append.mp hz with hz | hz
                · exact (okr z hz).tk (tk4.trans (s5.tk.trans (tk6.trans (s7.tk.trans tk8))))
                · have : z = ⟨e.i, lt, e.d + 1, .ref q1⟩ := by simpa using hz
                  subst this
                  exact ⟨⟨q1, _, rfl, (tk6.trans (s7.tk.trans tk8)) _ _ h5⟩, ist.2.1, sub.left, by show e.i + lt.n ≤ u.n; omega⟩
              · have : z = ⟨e.i + lt.n + 1, rt, e.d + 1, .ref q2⟩ := by simpa using hz
                subst this
                have h8 := tk8 _ _ h7
                have e9 : (((e.i + e.t.n : Nat) : Nat) : Int) = ((e.i + lt.n + 1 + rt.n : Nat) : Int) := by rw [z1]; omega
                rw [e9] at h8
                exact ⟨⟨q2, _, rfl, h8⟩, ist.2.2, sub.right, by show e.i + lt.n + 1 + rt.n ≤ u.n; omega⟩
            · rw [cost, List.length_append, List.length_append]
              have := wc_len es
              simp only [List.length_singleton]
              omega
            · rw [cost]; omega
end
end K73
end

section
set_option linter.all false
set_option maxRecDepth 100000
set_option maxHeartbeats 4000000
/-! shapes and words checked; the order of the joinings -/
namespace K73
open PySem PySem.Spec PyProof.Rows L2
theorem dep_ge {t : K73.T} {d : Int} {v : Int} (h : v ∈ t.dep d) : d ≤ v := by
  obtain ⟨k, hk⟩ := List.mem_iff_getElem?.mp h
  obtain ⟨hl, _⟩ := List.getElem?_eq_some_iff.mp hk
  have q := isT_ge (isT_dep t d) k (Nat.zero_le _) (by rw [K73.T.dep_len] at hl; omega)
  rw [List.getD_eq_getElem?_getD, hk] at q
  exact q
theorem same_mk {H H' : Hp} {x dx : Addr} {o o' : HO} (nx : H x = none) (nd : H dx = none) (s : Sx [x] (upd (upd H dx o) x o') H') : Same H H' := fun b u e => by
  have n1 : b ≠ x := fun z => by rw [z, nx] at e; cases e
  have n2 : b ≠ dx := fun z => by rw [z, nd] at e; cases e
  exact s b u (fun z => n1 (List.mem_singleton.mp z)) (by rw [upd_ne n1, upd_ne n2]; exact e)
theorem same_mk0 {H : Hp} {x dx : Addr} {o o' : HO} (nx : H x = none) (nd : H dx = none) : Same H (upd (upd H dx o) x o') := fun b u e => by
  rw [upd_ne (fun z => by rw [z, nx] at e; cases e), upd_ne (fun z => by rw [z, nd] at e; cases e)]; exact e
section
variable {X : Cx}
def rEqR : R2 := fun x y H Q => ∃ a b u v, x = .ref a ∧ y = .ref b ∧ RowAt H a u ∧ RowAt H b v ∧ Q (.bl (decide (u = v))) H
theorem op_eqR (hu : X.A.units + 64 < cLine) : OpR X (compareOp .Eq) rEqR := opr_imp (op_eqD hu) fun x y H Q ⟨a, b, u, v, e1, e2, ha, hb, q⟩ => by
  subst e1 e2
  exact ⟨_, _, dp_row ha, dp_row hb, row_shaped _, row_shaped _, by rw [eqv_row]; exact q⟩
def tRevM (te : TE) : TE := fun σ H Q => te σ H fun x H1 => ∃ a xs, x = .ref a ∧ H1 a = some (.lst xs) ∧ ∀ p H', Same H1 H' → H1 p = none → H' p = some (.lst xs.reverse) → Q (.ref p) H'
theorem pe_revM {e : Expr} {te : TE} {k : Nat} {p1 p2 p3 pos : Pos} (he : PE X e te) : PE X (.Subscript e (.Slice none none (some (.UnaryOp .USub (.Constant (.int 1) k p1) p2)) p3) pos) (tRevM te) := pe_imp (pe_revL (pe_m he)) fun σ H Q q => ⟨_, q, fun x H1 ⟨a, xs, e, h, r⟩ => ⟨a, xs, e, .inl (.inl h), fun p hp => r p _ (same_new hp) hp upd_same⟩⟩
end
section
variable {g : Gr}
def pIsShape : Pr := fun vs H Q => ∃ (a : Addr) (t : K73.T), vs = [.ref a] ∧ SpAt H a (t.dep 0) ∧ t.n ≤ 39 ∧ ∀ H', Same H H' → Q (.bl true) H'
theorem ok_is_fair (T : Tx g) : CalG g 3 "is_fair" pIsShape := by
  have c_is_integer := ok_is_integer T
  have m_Joinings := ok_Joinings T
  refine calD T.d_is_fair T.g_is_fair sc_is_fair (fun _ _ _ _ _ _ us hl => match us, hl with | [_], _ => rfl) (fun vs H Q h => ?_) fun cdv A outer s0 H vs Q hr h => ?_
  · obtain ⟨a, t, rfl, _⟩ := h; rfl
  · obtain ⟨a, t, rfl, ha, hn, k⟩ := h
    refine ⟨_, (pss_cons (ps_if (PW.pt (pw_or (pt_not (pt_val (pe_callB call_isiTupF (by rfl) T.f_isinstance (by decide +kernel) (pa_cons (pv 0) (pa_cons (pe_bltn (by rfl) T.f_tuple (by decide +kernel) (v := .ty "tuple") rfl) pa_nil))))) (pw_or1 (pt_not (pt_val (pe_callB (call_allM rfl) (by rfl) T.f_all (by decide +kernel) (pa_cons (pe_lcM (own := [("depth", 1)]) (g := gName 1) (tt := tYes) (by rfl) sc_is_fair.nd (pi_tup (pv 0)) (blkOk_by (own := [("depth", 1)]) (N := ["thing", "depth"]) (sc := defScope st_is_fair) (by decide +kernel)) (fun _ _ _ _ _ => pg_name (i := 1) sc_is_fair.nd rfl (Or.inl rfl)) (fun _ _ _ _ _ => pts_nil) (fun _ _ _ _ _ => (pe_and (C8.pe_c c_is_integer hr (by omega) (by rfl) (pa_cons (pv 1) pa_nil)) (pe_one (pe_cmpR op_ge (pv 1) pe_int (nomark _)))))) pa_nil)))))))
        (pss_one (ps_ret pe_bl))
        pss_nil)
      (pss_one (ps_ret (pe_fldG (K := g.K) (by rfl) (C8.pe_mk m_Joinings hr (by omega) (by rfl) (pa_cons (pv 0) pa_nil)) rfl)))), ?_⟩
    have lu := K73.T.dep_len t 0
    refine ⟨_, rfl, a, _, rfl, ha, true, rfl, _, rfl, a, rfl, ⟨_, sqF ha⟩, ?_⟩
    refine lc_wk (wk_tupF (fun H' s' => ha.same s')) (fun i acc _ => acc = List.replicate i (.bl true)) (fun _ _ _ _ _ e => e) (fun i acc _ hi e => ?_) (fun _ _ => rfl) (fun C i x acc H' hi s' hx e y n => ?_) fun D ys H1 s1 hD hys e => ?_
    · rw [List.length_map] at hi
      rw [e, List.length_replicate]
      exact cc_lt (n := 40) (by omega) (by omega)
    · rw [List.getElem?_map] at hx
      obtain ⟨v, hv, rfl⟩ := Option.map_eq_some_iff.mp hx
      have hvm := dep_ge (List.mem_of_getElem? hv)
      refine ⟨rfl, _, rfl, v, rfl, true, rfl, _, rfl, _, _, rfl, rfl, ?_⟩
      refine y _ _ (.refl _) ?_
      show acc ++ [V.bl (decide ((0 : Int) ≤ v))] = _
      rw [decide_eq_true hvm, e, List.replicate_succ']
    · subst e
      refine ⟨_, _, rfl, hys, true, rfl, ?_⟩
      refine ⟨_, rfl, fun x dx nx nd ne => ⟨x, a, dx, t, rfl, upd_same, ?_, by omega, fun H2 s2 hj => ⟨rfl, ?_⟩⟩⟩
      · exact (ha.same s1).same (same_mk0 nx nd)
      · obtain ⟨dx', f, l, ab, h1, _⟩ := hj
        exact ⟨x, _, dx', _, _, rfl, h1, T.c_Joinings, T.n_Joinings_fair, rfl, k _ (s1.trans (same_mk nx nd s2))⟩
theorem ok_is_shape (T : Tx g) : CalG g 4 "is_shape" pIsShape := by
  have c_is_fair := ok_is_fair T
  refine calD T.d_is_shape T.g_is_shape sc_is_shape (fun _ _ _ _ _ _ us hl => match us, hl with | [_], _ => rfl) (fun vs H Q h => ?_) fun cdv A outer s0 H vs Q hr h => ?_
  · obtain ⟨a, t, rfl, _⟩ := h; rfl
  · obtain ⟨a, t, rfl, ha, hn, k⟩ := h
    have lu := K73.T.dep_len t 0
    exact ⟨_, (pss_one (ps_ret (pe_and (pe_callB call_isiTupF (by rfl) T.f_isinstance (by decide +kernel) (pa_cons (pv 0) (pa_cons (pe_bltn (by rfl) T.f_tuple (by decide +kernel) (v := .ty "tuple") rfl) pa_nil))) (pe_and (pe_cmpR op_lt (pe_callB call_lenF (by rfl) T.f_len (by decide +kernel) (pa_cons (pv 0) pa_nil)) (C8.pe_gc (by rfl) T.v_MOST_WORDS) (nomark _)) (pe_one (C8.pe_c c_is_fair hr (by omega) (by rfl) (pa_cons (pv 0) pa_nil))))))), _, rfl, a, _, rfl, ha, true, rfl, _, rfl, a, _, rfl, ha, _, _, rfl, rfl, true, congrArg V.bl (decide_eq_true (by rw [lu]; omega)), _, rfl, a, t, rfl, ha, hn, k⟩
def pCheckShape : Pr := fun vs H Q => ∃ (a : Addr) (t : K73.T), vs = [.ref a] ∧ SpAt H a (t.dep 0) ∧ t.n ≤ 39 ∧ ∀ H', Same H H' → Q .non H'
theorem ok_check_shape (T : Tx g) : CalG g 5 "check_shape" pCheckShape := by
  have c_is_shape := ok_is_shape T
  refine calD T.d_check_shape T.g_check_shape sc_check_shape (fun _ _ _ _ _ _ us hl => match us, hl with | [_], _ => rfl) (fun vs H Q h => ?_) fun cdv A outer s0 H vs Q hr h => ?_
  · obtain ⟨a, t, rfl, _⟩ := h; rfl
  · obtain ⟨a, t, rfl, ha, hn, k⟩ := h
    exact ⟨_, (pss_one (ps_if (pt_not (pt_val (C8.pe_c c_is_shape hr (by omega) (by rfl) (pa_cons (pv 0) pa_nil))))
        (pss_one ps_never)
        pss_nil)), _, rfl, a, t, rfl, ha, hn, fun H' s => ⟨true, rfl, k _ s⟩⟩
def pJoinedShape : Pr := fun vs H Q => ∃ (a b : Addr) (t u : K73.T), vs = [.ref a, .ref b] ∧ SpAt H a (t.dep 0) ∧ SpAt H b (u.dep 0) ∧ t.n + u.n + 2 ≤ 40 ∧ ∀ q H', Same H H' → SpAt H' q ((K73.T.nd t u).dep 0) → Q (.ref q) H'
theorem ok_joined_shape (T : Tx g) : CalG g 6 "joined_shape" pJoinedShape := by
  have c_check_shape := ok_check_shape T
  have c_with_root := ok_with_root T
  refine calD T.d_joined_shape T.g_joined_shape sc_joined_shape (fun _ _ _ _ _ _ us hl => match us, hl with | [_, _], _ => rfl) (fun vs H Q h => ?_) fun cdv A outer s0 H vs Q hr h => ?_
  · obtain ⟨a, b, t, u, rfl, _⟩ := h; rfl
  · obtain ⟨a, b, t, u, rfl, ha, hb, hn, k⟩ := h
    have lt := K73.T.dep_len t 0
    have lu := K73.T.dep_len u 0
    refine ⟨_, (pss_cons (ps_expr (C8.pe_c c_check_shape hr (by omega) (by rfl) (pa_cons (pv 0) pa_nil)))
      (pss_cons (ps_expr (C8.pe_c c_check_shape hr (by omega) (by rfl) (pa_cons (pv 1) pa_nil)))
      (pss_cons (ps_if (pt_cmpR op_gt (pe_op op_add (pe_op op_add (pe_callB call_lenF (by rfl) T.f_len (by decide +kernel) (pa_cons (pv 0) pa_nil)) (pe_callB call_lenF (by rfl) T.f_len (by decide +kernel) (pa_cons (pv 1) pa_nil))) pe_int) (C8.pe_gc (by rfl) T.v_MOST_WORDS) (nomark _))
        (pss_one ps_never)
        pss_nil)
      (pss_one (ps_ret (C8.pe_c c_with_root hr (by omega) (by rfl) (pa_cons (pv 0) (pa_cons (pv 1) pa_nil)))))))), ?_⟩
    refine ⟨_, rfl, a, t, rfl, ha, by omega, fun H1 s1 => ?_⟩
    refine ⟨_, rfl, b, u, rfl, hb.same s1, by omega, fun H2 s2 => ?_⟩
    refine ⟨_, rfl, a, _, rfl, ha.same (s1.trans s2), _, rfl, b, _, rfl, hb.same (s1.trans s2), _, _, rfl, rfl, _, _, rfl, rfl, _, _, rfl, rfl, false, congrArg V.bl (decide_eq_false (by rw [lt, lu]; omega)), ?_⟩
    exact ⟨_, rfl, _, rfl, a, b, t, u, rfl, ha.same (s1.trans s2), hb.same (s1.trans s2), by omega, by omega, fun q H3 s3 hq => k q _ ((s1.trans s2).trans s3) hq⟩
def pCheckShapeFor : Pr := fun vs H Q => ∃ (a : Addr) (t : K73.T), vs = [.int ((t.n + 1 : Nat) : Int), .ref a] ∧ SpAt H a (t.dep 0) ∧ t.n ≤ 39 ∧ ∀ H', Same H H' → Q .non H'
theorem ok_check_shape_for (T : Tx g) : CalG g 5 "check_shape_for" pCheckShapeFor := by
  have c_is_shape := ok_is_shape T
  refine calD T.d_check_shape_for T.g_check_shape_for sc_check_shape_for (fun _ _ _ _ _ _ us hl => match us, hl with | [_, _], _ => rfl) (fun vs H Q h => ?_) fun cdv A outer s0 H vs Q hr h => ?_
  · obtain ⟨a, t, rfl, _⟩ := h; rfl
  · obtain ⟨a, t, rfl, ha, hn, k⟩ := h
    have lt := K73.T.dep_len t 0
    refine ⟨_, (pss_one (ps_if (PW.pt (pw_or (pt_not (pt_val (C8.pe_c c_is_shape hr (by omega) (by rfl) (pa_cons (pv 1) pa_nil)))) (pw_or1 (pt_cmpR op_ne (pe_op op_add (pe_callB call_lenF (by rfl) T.f_len (by decide +kernel) (pa_cons (pv 1) pa_nil)) pe_int) (pv 0) (nomark _)))))
        (pss_one ps_never)
        pss_nil)), _, rfl, a, t, rfl, ha, hn, fun H' s => ⟨true, rfl, ?_⟩⟩
    exact ⟨_, rfl, a, _, rfl, ha.same s, _, _, rfl, rfl, _, rfl, rfl, false, by rw [lt]; exact congrArg V.bl (by rw [decide_eq_true (by rfl)]; rfl), k _ s⟩

/-! ### words -/
def WsAt (H : Hp) (a : Addr) (ps : List (Addr × R)) : Prop := H a = some (.tup (ps.map fun p => V.ref p.1)) ∧ ∀ p ∈ ps, RowAt H p.1 p.2
theorem WsAt.tk {H H' : Hp} {a : Addr} {ps : List (Addr × R)} (h : WsAt H a ps) (s : Tk H H') : WsAt H' a ps := ⟨s _ _ h.1, fun p hp => s _ _ (h.2 p hp)⟩
theorem WsAt.same {H H' : Hp} {a : Addr} {ps : List (Addr × R)} (h : WsAt H a ps) (s : Same H H') : WsAt H' a ps := h.tk s.tk
def pIsWord : Pr := fun vs H Q => ∃ (a : Addr) (s : Nat) (r : R), vs = [.ref a, .int (s : Nat)] ∧ RowAt H a r ∧ Rw s r ∧ 1 ≤ r.length ∧ r.length ≤ 200 ∧ ∀ H', Same H H' → Q (.bl true) H'
theorem ok_is_word (T : Tx g) : CalG g 5 "is_word" pIsWord := by
  have c_is_sounds := ok_is_sounds T
  refine calD T.d_is_word T.g_is_word sc_is_word (fun _ _ _ _ _ _ us hl => match us, hl with | [_, _], _ => rfl) (fun vs H Q h => ?_) fun cdv A outer s0 H vs Q hr h => ?_
  · obtain ⟨a, t, r, rfl, _⟩ := h; rfl
  · obtain ⟨a, s, r, rfl, ha, hw, h1, h2, k⟩ := h
    exact ⟨_, (pss_one (ps_ret (C8.pe_c c_is_sounds hr (by omega) (by rfl) (pa_cons (pv 0) (pa_cons (pv 1) (pa_cons pe_int (pa_cons (C8.pe_gc (by rfl) T.v_MOST_WORD) pa_nil))))))), _, rfl, _, rfl, a, s, _, _, r, rfl, ha, hw, by omega, by omega, by omega, k⟩
def WsOk (s : Nat) (ps : List (Addr × R)) : Prop := ∀ p ∈ ps, Rw s p.2 ∧ 1 ≤ p.2.length ∧ p.2.length ≤ 200
def pCheckWords : Pr := fun vs H Q => ∃ (a : Addr) (s : Nat) (ps : List (Addr × R)), vs = [.int (s : Nat), .ref a] ∧ WsAt H a ps ∧ WsOk s ps ∧ 1 ≤ ps.length ∧ ps.length ≤ 40 ∧ ∀ H', Same H H' → Q .non H'
theorem ok_check_words (T : Tx g) : CalG g 6 "check_words" pCheckWords := by
  have c_is_word := ok_is_word T
  refine calD T.d_check_words T.g_check_words sc_check_words (fun _ _ _ _ _ _ us hl => match us, hl with | [_, _], _ => rfl) (fun vs H Q h => ?_) fun cdv A outer s0 H vs Q hr h => ?_
  · obtain ⟨a, s, ps, rfl, _⟩ := h; rfl
  · obtain ⟨a, s, ps, rfl, ha, hw, h1, h2, k⟩ := h
    refine ⟨_, (pss_cons (ps_if (PW.pt (pw_or (pt_not (pt_val (pe_callB call_isiTup (by rfl) T.f_isinstance (by decide +kernel) (pa_cons (pv 1) (pa_cons (pe_bltn (by rfl) T.f_tuple (by decide +kernel) (v := .ty "tuple") rfl) pa_nil))))) (pw_or1 (pt_not (pt_chain op_le op_le pe_int (pe_callB call_lenT (by rfl) T.f_len (by decide +kernel) (pa_cons (pv 1) pa_nil)) (C8.pe_gc (by rfl) T.v_MOST_WORDS))))))
        (pss_one ps_never)
        pss_nil)
      (pss_one (ps_if (pt_not (pt_val (pe_callB (call_allM rfl) (by rfl) T.f_all (by decide +kernel) (pa_cons (pe_lcM (own := [("word", 2)]) (g := gName 2) (tt := tYes) (by rfl) sc_check_words.nd (pi_tup (pv 1)) (blkOk_by (own := [("word", 2)]) (N := ["sounds", "thing", "word"]) (sc := defScope st_check_words) (by decide +kernel)) (fun _ _ _ _ _ => pg_name (i := 2) sc_check_words.nd rfl (Or.inl rfl)) (fun _ _ _ _ _ => pts_nil) (fun _ _ _ _ _ => (C8.pe_c c_is_word hr (by omega) (by rfl) (pa_cons (pv 2) (pa_cons (pv 0) pa_nil))))) pa_nil))))
        (pss_one ps_never)
        pss_nil))), ?_⟩
    have hl : (ps.map fun p => V.ref p.1).length = ps.length := List.length_map _
    refine ⟨_, rfl, a, _, rfl, ha.1, true, rfl, _, rfl, a, _, rfl, ha.1, _, _, rfl, rfl, _, rfl, ?_⟩
    refine ifT (decide_eq_true (by rw [hl]; omega)) ⟨_, _, rfl, rfl, true, congrArg V.bl (decide_eq_true (by rw [hl]; omega)), ?_⟩
    refine ⟨_, rfl, a, rfl, ⟨_, .inl (.inl ha.1)⟩, ?_⟩
    refine lc_wk (wk_tup (fun H' s' => s' _ _ ha.1)) (fun i acc _ => acc = List.replicate i (.bl true)) (fun _ _ _ _ _ e => e) (fun i acc _ hi e => ?_) (fun _ _ => rfl) (fun C i x acc H' hi s' hx e y n => ?_) fun D ys H1 s1 hD hys e => ?_
    · rw [hl] at hi
      rw [e, List.length_replicate]
      exact cc_lt (n := 40) (by omega) (by omega)
    · rw [List.getElem?_map] at hx
      obtain ⟨v, hv, rfl⟩ := Option.map_eq_some_iff.mp hx
      have hm := List.mem_of_getElem? hv
      have hwv := hw v hm
      refine ⟨rfl, _, rfl, _, rfl, v.1, s, v.2, rfl, s' _ _ (ha.2 v hm), hwv.1, hwv.2.1, hwv.2.2, fun H2 s2 => y _ _ s2 ?_⟩
      rw [e, List.replicate_succ']
    · subst e
      exact ⟨_, _, rfl, hys, true, rfl, k _ s1⟩
def pCheckPhrase (g : Gr) : Pr := fun vs H Q => ∃ (x a b : Addr) (B : Bk) (ps : List (Addr × R)) (t : K73.T), vs = [.ref x, .ref a, .ref b] ∧ BookAt g H x B ∧ WsAt H a ps ∧ WsOk B.s ps ∧ SpAt H b (t.dep 0) ∧ ps.length = t.n + 1 ∧ t.n ≤ 39 ∧ ∀ H', Same H H' → Q .non H'
theorem ok_check_phrase (T : Tx g) : CalG g 7 "check_phrase" (pCheckPhrase g) := by
  have c_check_words := ok_check_words T
  have c_check_shape_for := ok_check_shape_for T
  refine calD T.d_check_phrase T.g_check_phrase sc_check_phrase (fun _ _ _ _ _ _ us hl => match us, hl with | [_, _, _], _ => rfl) (fun vs H Q h => ?_) fun cdv A outer s0 H vs Q hr h => ?_
  · obtain ⟨x, a, b, B, ps, t, rfl, _⟩ := h; rfl
  · obtain ⟨x, a, b, B, ps, t, rfl, ⟨dx, d, hx, _⟩, ha, hw, hb, hl, hn, k⟩ := h
    refine ⟨_, (pss_cons (ps_expr (C8.pe_c c_check_words hr (by omega) (by rfl) (pa_cons (pe_fldG (K := g.K) (by rfl) (pv 0) rfl) (pa_cons (pv 1) pa_nil))))
      (pss_one (ps_expr (C8.pe_c c_check_shape_for hr (by omega) (by rfl) (pa_cons (pe_callB call_lenT (by rfl) T.f_len (by decide +kernel) (pa_cons (pv 1) pa_nil)) (pa_cons (pv 2) pa_nil)))))), ?_⟩
    refine ⟨_, rfl, x, _, dx, _, _, rfl, hx, T.c_Book, T.n_Book_kept_sounds, rfl, _, rfl, a, B.s, ps, rfl, ha, hw, by omega, by omega, fun H1 s1 => ?_⟩
    refine ⟨_, rfl, a, _, rfl, s1 _ _ ha.1, _, rfl, b, t, by rw [List.length_map, hl]; rfl, hb.same s1, hn, fun H2 s2 => k _ (s1.trans s2)⟩
def pCheckList (g : Gr) : Pr := fun vs H Q => ∃ (x a : Addr) (B : Bk) (ps : List (Addr × R)), vs = [.ref x, .ref a] ∧ BookAt g H x B ∧ WsAt H a ps ∧ WsOk B.s ps ∧ 1 ≤ ps.length ∧ ps.length ≤ 12 ∧ ∀ H', Same H H' → Q .non H'
theorem ok_check_list (T : Tx g) : CalG g 6 "check_list" (pCheckList g) := by
  have c_is_word := ok_is_word T
  refine calD T.d_check_list T.g_check_list sc_check_list (fun _ _ _ _ _ _ us hl => match us, hl with | [_, _], _ => rfl) (fun vs H Q h => ?_) fun cdv A outer s0 H vs Q hr h => ?_
  · obtain ⟨x, a, s, ps, rfl, _⟩ := h; rfl
  · obtain ⟨x, a, B, ps, rfl, ⟨dx, d, hx, _⟩, ha, hw, h1, h2, k⟩ := h
    refine ⟨_, (pss_cons (ps_if (PW.pt (pw_or (pt_not (pt_val (pe_callB call_isiTup (by rfl) T.f_isinstance (by decide +kernel) (pa_cons (pv 1) (pa_cons (pe_bltn (by rfl) T.f_tuple (by decide +kernel) (v := .ty "tuple") rfl) pa_nil))))) (pw_or1 (pt_not (pt_chain op_le op_le pe_int (pe_callB call_lenT (by rfl) T.f_len (by decide +kernel) (pa_cons (pv 1) pa_nil)) (C8.pe_gc (by rfl) T.v_MOST_LISTED))))))
        (pss_one ps_never)
        pss_nil)
      (pss_one (ps_if (pt_not (pt_val (pe_callB (call_allM rfl) (by rfl) T.f_all (by decide +kernel) (pa_cons (pe_lcM (own := [("word", 2)]) (g := gName 2) (tt := tYes) (by rfl) sc_check_list.nd (pi_tup (pv 1)) (blkOk_by (own := [("word", 2)]) (N := ["book", "thing", "word"]) (sc := defScope st_check_list) (by decide +kernel)) (fun _ _ _ _ _ => pg_name (i := 2) sc_check_list.nd rfl (Or.inl rfl)) (fun _ _ _ _ _ => pts_nil) (fun _ _ _ _ _ => (C8.pe_c c_is_word hr (by omega) (by rfl) (pa_cons (pv 2) (pa_cons (pe_fldG (K := g.K) (by rfl) (pv 0) rfl) pa_nil))))) pa_nil))))
        (pss_one ps_never)
        pss_nil))), ?_⟩
    have hl : (ps.map fun p => V.ref p.1).length = ps.length := List.length_map _
    refine ⟨_, rfl, a, _, rfl, ha.1, true, rfl, _, rfl, a, _, rfl, ha.1, _, _, rfl, rfl, _, rfl, ?_⟩
    refine ifT (decide_eq_true (by rw [hl]; omega)) ⟨_, _, rfl, rfl, true, congrArg V.bl (decide_eq_true (by rw [hl]; omega)), ?_⟩
    refine ⟨_, rfl, a, rfl, ⟨_, .inl (.inl ha.1)⟩, ?_⟩
    refine lc_wk (wk_tup (fun H' s' => s' _ _ ha.1)) (fun i acc _ => acc = List.replicate i (.bl true)) (fun _ _ _ _ _ e => e) (fun i acc _ hi e => ?_) (fun _ _ => rfl) (fun C i z acc H' hi s' hx' e y n => ?_) fun D ys H1 s1 hD hys e => ?_
    · rw [hl] at hi
      rw [e, List.length_replicate]
      exact cc_lt (n := 40) (by omega) (by omega)
    · rw [List.getElem?_map] at hx'
      obtain ⟨v, hv, rfl⟩ := Option.map_eq_some_iff.mp hx'
      have hm := List.mem_of_getElem? hv
      have hwv := hw v hm
      refine ⟨rfl, _, rfl, _, rfl, x, _, dx, _, _, rfl, s' _ _ hx, T.c_Book, T.n_Book_kept_sounds, rfl, v.1, B.s, v.2, rfl, s' _ _ (ha.2 v hm), hwv.1, hwv.2.1, hwv.2.2, fun H2 s2 => y _ _ s2 ?_⟩
      rw [e, List.replicate_succ']
    · subst e
      exact ⟨_, _, rfl, hys, true, rfl, k _ s1⟩
end
end K73
end

section
set_option linter.all false
set_option maxRecDepth 100000
set_option maxHeartbeats 4000000
/-! the order of the joinings -/
namespace K73
open PySem PySem.Spec PyProof.Rows L2
/-- what is still to come, the top of the stack first -/
def preS (es : List Wt) : List Nat := es.reverse.flatMap fun e => e.t.pre e.i
theorem preS_snoc (es : List Wt) (e : Wt) : preS (es ++ [e]) = e.t.pre e.i ++ preS es := by
  unfold preS
  rw [List.reverse_append, List.reverse_singleton, List.singleton_append, List.flatMap_cons]
structure Wt2 (u : K73.T) (H : Hp) (e : Wt) : Prop where
  tup : ∃ r, e.v = .ref r ∧ H r = some (.tup [.int (e.i : Nat), .int ((e.i + e.t.n : Nat) : Int)])
  sub : Sub u e.i e.t
  le : e.i + e.t.n ≤ u.n
theorem Wt2.tk {u : K73.T} {H H' : Hp} {e : Wt} (h : Wt2 u H e) (s : Tk H H') : Wt2 u H' e := let ⟨r, h1, h2⟩ := h.tup; ⟨⟨r, h1, s _ _ h2⟩, h.sub, h.le⟩
section
variable {g : Gr}
def pInnerFirst : Pr := fun vs H Q => ∃ (a : Addr) (t : K73.T), vs = [.ref a] ∧ SpAt H a (t.dep 0) ∧ t.n ≤ 100 ∧ ∀ q H', Same H H' → H q = none → H' q = some (.lst ((t.ord 0).map fun (k : Nat) => V.int (k : Int))) → Q (.ref q) H'
theorem ok_inner_first (T : Tx g) : CalG g 3 "inner_first" pInnerFirst := by
  have m_Joinings := ok_Joinings T
  refine calD T.d_inner_first T.g_inner_first sc_inner_first (fun _ _ _ _ _ _ us hl => match us, hl with | [_], _ => rfl) (fun vs H Q h => ?_) fun cdv A outer s0 H vs Q hr h => ?_
  · obtain ⟨a, t, rfl, _⟩ := h; rfl
  · obtain ⟨a, u, rfl, ha, hn, k⟩ := h
    refine ⟨_, (pss_cons (ps_set (i := 1) sc_inner_first.nd rfl (by first | exact Or.inl rfl | exact Or.inr rfl) (C8.pe_mk m_Joinings hr (by omega) (by rfl) (pa_cons (pv 0) pa_nil)))
      (pss_cons (ps_set (i := 2) sc_inner_first.nd rfl (by first | exact Or.inl rfl | exact Or.inr rfl) (pe_lstM pa_nil))
      (pss_cons (ps_set (i := 3) sc_inner_first.nd rfl (by first | exact Or.inl rfl | exact Or.inr rfl) (pe_lstM (pa_cons (pe_tupM (pa_cons pe_int (pa_cons (pe_callB call_lenF (by rfl) T.f_len (by decide +kernel) (pa_cons (pv 0) pa_nil)) pa_nil))) pa_nil)))
      (pss_cons (ps_whileM PassesOwn.never (pt_cmpR op_gt (pe_callB call_lenL (by rfl) T.f_len (by decide +kernel) (pa_cons (pv 3) pa_nil)) pe_int (nomark _))
        (pss_cons (ps_asg (pe_bm0 PySem.F.plainAttrs_list PySem.F.slot_list_pop PySem.F.type_list_pop mt_popM (pv 3)) (pg_tupG (K := g.K) (by rfl) (by rfl) (pgs_cons (pg_name (i := 4) sc_inner_first.nd rfl (by first | exact Or.inl rfl | exact Or.inr rfl)) (pgs_cons (pg_name (i := 5) sc_inner_first.nd rfl (by first | exact Or.inl rfl | exact Or.inr rfl)) pgs_nil))))
        (pss_one (ps_if (pt_cmpR op_lt (pv 4) (pv 5) (nomark _))
          (pss_cons (ps_set (i := 6) sc_inner_first.nd rfl (by first | exact Or.inl rfl | exact Or.inr rfl) (pe_ix ix_lstM (pe_lcM (own := [("one", 7)]) (g := gName 7) (by rfl) sc_inner_first.nd (pi_rangeM2 (by rfl) T.f_range (pa_cons (pv 4) (pa_cons (pv 5) pa_nil))) (blkOk_by (own := [("one", 7)]) (N := ["shape", "joinings", "found", "waiting", "first", "last", "seam", "one"]) (sc := defScope st_inner_first) (by decide +kernel)) (fun _ _ _ _ _ => pg_name (i := 7) sc_inner_first.nd rfl (Or.inl rfl)) (fun _ _ _ _ _ => (pts_one (pt_cmpR (op_eqR (by exact hr.units)) (pe_tupM (pa_cons (pe_ix ix_lstM (pe_fldG (K := g.K) (by rfl) (pv 1) rfl) (pv 7) (fun _ _ => rfl)) (pa_cons (pe_ix ix_lstM (pe_fldG (K := g.K) (by rfl) (pv 1) rfl) (pv 7) (fun _ _ => rfl)) pa_nil))) (pe_tupM (pa_cons (pv 4) (pa_cons (pv 5) pa_nil))) (nomark _)))) (fun _ _ _ _ _ => (pv 7))) pe_int (fun _ _ => rfl)))
          (pss_cons (ps_expr (pe_bm PySem.F.plainAttrs_list PySem.F.slot_list_append PySem.F.type_list_append mt_appendM (pv 2) (pa_cons (pv 6) pa_nil)))
          (pss_cons (ps_expr (pe_bm PySem.F.plainAttrs_list PySem.F.slot_list_append PySem.F.type_list_append mt_appendM (pv 3) (pa_cons (pe_tupM (pa_cons (pv 4) (pa_cons (pv 6) pa_nil))) pa_nil)))
          (pss_one (ps_expr (pe_bm PySem.F.plainAttrs_list PySem.F.slot_list_append PySem.F.type_list_append mt_appendM (pv 3) (pa_cons (pe_tupM (pa_cons (pe_op op_add (pv 6) pe_int) (pa_cons (pv 5) pa_nil))) pa_nil)))))))
          pss_nil))))
      (pss_one (ps_ret (pe_revM (pv 2)))))))), ?_⟩
    have lu := K73.T.dep_len u 0
    refine ⟨_, rfl, fun x dx nx nd ne => ⟨x, a, dx, u, rfl, upd_same, ha.same (same_mk0 nx nd), hn, fun H1 s1 hj => ⟨rfl, ?_⟩⟩⟩
    obtain ⟨dx', f, l, ab, hX1, hf1, hl1, _⟩ := hj
    have t1 := same_mk nx nd s1
    refine ⟨cc_le (n := 0) (Nat.le_refl _) (by omega), fun fo H2 s2 nfo hfo => ?_⟩
    have t2 := t1.trans s2
    refine ⟨_, rfl, a, _, rfl, ha.same t2, cc_le (n := 2) (Nat.le_refl _) (by omega), fun q G3 g3 _ h3 => ?_⟩
    refine ⟨cc_le (n := 1) (Nat.le_refl _) (by omega), fun w H3 s3 nw hw => ?_⟩
    have s23 := s2.trans (g3.trans s3)
    have hX3 := s23 _ _ hX1
    have hf3 := s23 _ _ hf1
    have hl3 := s23 _ _ hl1
    have nff : f ≠ fo := ne_of_none hf1 nfo
    have nlf : l ≠ fo := ne_of_none hl1 nfo
    have nf_w : f ≠ w := ne_of_none (g3 _ _ (s2 _ _ hf1)) nw
    have nl_w : l ≠ w := ne_of_none (g3 _ _ (s2 _ _ hl1)) nw
    have hfo3 := s3 _ _ (g3 _ _ hfo)
    have t3 := t2.trans (g3.trans s3)
    have nfw : fo ≠ w := ne_of_none (g3 _ _ hfo) nw
    have hF : H fo = none := t1.free nfo
    have hW : H w = none := (t2.trans g3).free nw
    have hq3 := s3 _ _ h3
    rw [lu] at hq3
    clear s1 s2 g3 s3 nfo nw hfo h3 t1 t2 s23 hX1 hf1 hl1
    refine while_m (fun m σ H' => ∃ y4 y5 y6 y7 es fs, σ = [some (.ref a), some (.ref x), some (.ref fo), some (.ref w), y4, y5, y6, y7] ∧ Sx [fo, w] H3 H' ∧ H' fo = some (.lst (fs.map fun (k : Nat) => V.int (k : Int))) ∧ H' w = some (.lst (es.map Wt.v)) ∧ fs ++ preS es = u.pre 0 ∧ (∀ e ∈ es, Wt2 u H' e) ∧ wcost es = m ∧ wcost es ≤ 2 * u.n + 1) ?_ ?_
    · refine ⟨wcost [⟨0, u, 0, .ref q⟩], _, _, _, _, [⟨0, u, 0, .ref q⟩], [], rfl, .refl _, hfo3, hw, by simp [preS], fun e he => ?_, rfl, by simp [wcost]⟩
      have : e = ⟨0, u, 0, .ref q⟩ := List.mem_singleton.mp he
      subst this
      exact ⟨⟨q, rfl, by simpa using hq3⟩, sub_self u, by simp⟩
    · rintro m σ H' E ⟨y4, y5, y6, y7, es, fs, rfl, S, hfo, hw', pr, ok, em, le2⟩ yes no
      have oth : ∀ b o, H3 b = some o → (∀ l, o ≠ .lst l) → H' b = some o := fun b o e n => S b o (fun z => by
        simp only [List.mem_cons, List.not_mem_nil, or_false] at z
        rcases z with z | z
        · rw [z, hfo3] at e; cases e; exact n _ rfl
        · rw [z, hw] at e; cases e; exact n _ rfl) e
      have hX := oth _ _ hX3 (fun _ z => nomatch z)
      have hf := S _ _ (fun z => by
        simp only [List.mem_cons, List.not_mem_nil, or_false] at z
        rcases z with z | z
        · exact nff z
        · exact nf_w z) hf3
      have hl := S _ _ (fun z => by
        simp only [List.mem_cons, List.not_mem_nil, or_false] at z
        rcases z with z | z
        · exact nlf z
        · exact nl_w z) hl3
      rcases snoc_or es with rfl | ⟨es, e, rfl⟩
      · refine ⟨_, rfl, w, _, rfl, hw', _, _, rfl, rfl, false, rfl, no _ ?_⟩
        refine ⟨_, rfl, fo, _, rfl, hfo, fun p H4 s4 n4 h4 => ?_⟩
        have S0 : Same H H' := fun b o e => S b o (fun z => ?_) (t3 b o e)
        refine k p _ (S0.trans s4) (S0.free n4) ?_
        · rw [h4, ← List.map_reverse]
          have : fs = u.pre 0 := by rw [← pr]; simp [preS]
          rw [this, pre_rev]
        · simp only [List.mem_cons, List.not_mem_nil, or_false] at z
          rcases z with z | z
          · rw [z, hF] at e; cases e
          · rw [z, hW] at e; cases e
      · have oke := ok e (List.mem_append_right _ List.mem_cons_self)
        obtain ⟨r, er, htup⟩ := oke.tup
        have pos : decide ((0 : Int) < (((es ++ [e]).map Wt.v).length : Nat)) = true := decide_eq_true (by simp)
        refine ⟨_, rfl, w, _, rfl, hw', _, _, rfl, rfl, true, congrArg V.bl pos, yes _ ?_⟩
        rw [List.map_append] at hw'
        rw [wcost_snoc] at em le2
        rw [preS_snoc] at pr
        have lf : fs.length ≤ u.n := by
          have := congrArg List.length pr
          rw [List.length_append, pre_len] at this; omega
        have les := wc_len es
        refine ⟨_, rfl, .inl ⟨rfl, _, .inl (.inl hw')⟩, w, _, e.v, rfl, rfl, hw', fun K1 eK => ?_⟩
        have SK : Sx [fo, w] H3 K1 := by rw [eK]; exact S.put (by simp)
        have tk1 : Tk H' K1 := by rw [eK]; exact tk_lst hw'
        have hw1 : K1 w = some (.lst (es.map Wt.v)) := by rw [eK]; exact upd_same
        have hfo1 := upd_keep eK nfw hfo
        have hf1 := upd_keep eK nf_w hf
        have hl1 := upd_keep eK nl_w hl
        have nXw : x ≠ w := ne_of hX hw' (fun z => nomatch z)
        have hX1 := upd_keep eK nXw hX
        clear eK
        refine ⟨r, _, er, .inl (.inl (tk1 _ _ htup)), rfl, _, _, rfl, _, _, rfl, rfl, ?_⟩
        have okr : ∀ z ∈ es, Wt2 u K1 z := fun z hz => (ok z (List.mem_append_left _ hz)).tk tk1
        have sub := oke.sub
        have ole := oke.le
        obtain ⟨tt, ht⟩ : ∃ tt, e.t = tt := ⟨_, rfl⟩
        cases tt with
        | lf =>
          have z0 : e.t.n = 0 := by rw [ht]; rfl
          refine ⟨_, rfl, _, rfl, _, _, rfl, rfl, false, congrArg V.bl (decide_eq_false (by rw [z0]; omega)), ?_⟩
          exact ⟨wcost es, by omega, _, _, _, _, es, fs, rfl, SK, hfo1, hw1, by rw [ht] at pr; exact pr, okr, rfl, by omega⟩
        | nd lt rt =>
          have z1 : e.t.n = lt.n + rt.n + 1 := by rw [ht]; rfl
          rw [ht] at sub pr
          refine ⟨_, rfl, _, rfl, _, _, rfl, rfl, true, congrArg V.bl (decide_eq_true (by rw [z1]; omega)), ?_⟩
          refine ⟨_, rfl, _, rfl, e.i, e.t.n, rfl, by omega, ?_⟩
          refine lc_wk (wk_rng (R := Same K1)) (fun j acc _ => acc = if j ≤ lt.n then [] else [V.int ((e.i + lt.n : Nat) : Int)]) (fun _ _ _ _ _ h => h) (fun j acc _ _ h => ?_) (fun _ _ => by rw [if_pos (Nat.zero_le _)]) (fun CC j y acc H2 hj s2 hy hacc y1 n1 => ?_) fun D ys H2 s2 nD hD hys => ?_
          · rw [h]; split
            · exact cc_lt (n := 1) (Nat.zero_lt_one) (by omega)
            · exact cc_lt (n := 2) (Nat.lt_succ_self 1) (by omega)
          · subst hy
            have q := root_only lt rt e.i (e.i + j) (by omega) (by show e.i + j < e.i + (lt.n + rt.n + 1); omega)
            have sb := sub (e.i + j) (by omega) (by show e.i + j < e.i + (lt.n + rt.n + 1); omega)
            rw [← sb.1, ← sb.2] at q
            have eJ : ((e.i : Nat) : Int) + (j : Nat) = ((e.i + j : Nat) : Int) := by omega
            have gf : ((List.range u.n).map fun k => V.int (u.fst 0 k : Nat))[e.i + j]? = some (V.int (u.fst 0 (e.i + j) : Nat)) := by
              rw [List.getElem?_map, List.getElem?_range (by omega)]; rfl
            have gl : ((List.range u.n).map fun k => V.int (u.lst 0 k : Nat))[e.i + j]? = some (V.int (u.lst 0 (e.i + j) : Nat)) := by
              rw [List.getElem?_map, List.getElem?_range (by omega)]; rfl
            refine ⟨rfl, _, rfl, x, _, dx', _, _, rfl, s2 _ _ hX1, T.c_Joinings, T.n_Joinings_first, rfl, _, rfl, f, _, _, _, rfl, rfl, s2 _ _ hf1, by rw [eJ]; exact atI_nat _ gf, ?_⟩
            refine ⟨_, rfl, x, _, dx', _, _, rfl, s2 _ _ hX1, T.c_Joinings, T.n_Joinings_last, rfl, _, rfl, l, _, _, _, rfl, rfl, s2 _ _ hl1, by rw [eJ]; exact atI_nat _ gl, cc_le (n := 2) (Nat.le_refl _) (by omega), fun p H3' s3' _ hp => ?_⟩
            refine ⟨_, rfl, _, rfl, cc_le (n := 2) (Nat.le_refl _) (by omega), fun p2 H4 s4 _ hp2 => ?_⟩
            refine ⟨p, p2, [(u.fst 0 (e.i + j) : Nat), (u.lst 0 (e.i + j) : Nat)], [(e.i : Nat), ((e.i + e.t.n : Nat) : Int)], rfl, rfl, s4 _ _ hp, hp2, _, rfl, ?_⟩
            by_cases c : j = lt.n
            · have qq := q.mpr (by rw [c])
              refine ifT (decide_eq_true (by rw [qq.1, qq.2, ht])) ⟨_, rfl, y1 _ _ (s3'.trans s4) ?_⟩
              rw [hacc, if_pos (by omega), if_neg (by omega), eJ, c]
              rfl
            · refine ifF (decide_eq_false (fun z => c ?_)) (n1 _ (s3'.trans s4) ?_)
              · injection z with z1 z2
                injection z2 with z2 _
                have := q.mp ⟨by omega, by rw [ht] at z2; omega⟩
                omega
              · rw [hacc]
                by_cases c2 : j ≤ lt.n
                · rw [if_pos c2, if_pos (by omega)]
                · rw [if_neg c2, if_neg (by omega)]
          · rw [if_neg (by omega)] at hys
            subst hys
            refine ⟨D, _, _, _, rfl, rfl, hD, rfl, ?_⟩
            have hfo2 := s2 _ _ hfo1
            have hw2 := s2 _ _ hw1
            refine ⟨_, rfl, .inl ⟨rfl, _, .inl (.inl hfo2)⟩, ⟨_, rfl, ?_⟩⟩
            refine ⟨fo, _, _, rfl, rfl, hfo2, cc_lt (n := 101) (by rw [List.length_map]; omega) (by omega), fun K3 e3 => ?_⟩
            have hfo3 : K3 fo = some (.lst ((fs ++ [e.i + lt.n]).map fun (k : Nat) => V.int (k : Int))) := by rw [e3, upd_same, List.map_append]; rfl
            have hw3 := upd_keep e3 nfw.symm hw2
            have tk3 : Tk H2 K3 := by rw [e3]; exact tk_lst hfo2
            have S3 : Sx [fo, w] H3 K3 := by rw [e3]; exact (SK.trans s2.sx).put (by simp)
            clear e3
            refine ⟨_, rfl, .inl ⟨rfl, _, .inl (.inl hw3)⟩, ⟨_, rfl, _, rfl, cc_le (n := 2) (Nat.le_refl _) (by omega), fun q1 K5 s5 n5 h5 => ?_⟩⟩
            have lw : (es.map Wt.v).length ≤ 300 := by rw [List.length_map]; omega
            refine ⟨w, _, _, rfl, rfl, s5 _ _ hw3, cc_lt (n := 301) (by omega) (by omega), fun K6 e6 => ?_⟩
            have hw6 : K6 w = some (.lst (es.map Wt.v ++ [.ref q1])) := by rw [e6, upd_same]
            have tk6 : Tk K5 K6 := by rw [e6]; exact tk_lst (s5 _ _ hw3)
            have S6 : Sx [fo, w] H3 K6 := by rw [e6]; exact (S3.trans s5.sx).put (by simp)
            have hfo6 := upd_keep e6 nfw (s5 _ _ hfo3)
            clear e6
            refine ⟨_, rfl, .inl ⟨rfl, _, .inl (.inl hw6)⟩, ⟨_, rfl, _, _, rfl, rfl, _, rfl, cc_le (n := 2) (Nat.le_refl _) (by omega), fun q2 K7 s7 n7 h7 => ?_⟩⟩
            refine ⟨w, _, _, rfl, rfl, s7 _ _ hw6, cc_lt (n := 400) (by rw [List.length_append, List.length_singleton]; omega) (by omega), fun K8 e8 => ?_⟩
            have hw8 : K8 w = some (.lst (es.map Wt.v ++ [.ref q1] ++ [.ref q2])) := by rw [e8, upd_same]
            have tk8 : Tk K7 K8 := by rw [e8]; exact tk_lst (s7 _ _ hw6)
            have S8 : Sx [fo, w] H3 K8 := by rw [e8]; exact (S6.trans s7.sx).put (by simp)
            have hfo8 := upd_keep e8 nfw (s7 _ _ hfo6)
            clear e8
            have cost : wcost ((es ++ [⟨e.i, lt, 0, .ref q1⟩]) ++ [⟨e.i + lt.n + 1, rt, 0, .ref q2⟩]) = wcost es + (2 * lt.n + 1) + (2 * rt.n + 1) := by
              rw [wcost_snoc, wcost_snoc]
            refine ⟨_, ?_, _, _, _, _, (es ++ [⟨e.i, lt, 0, .ref q1⟩]) ++ [⟨e.i + lt.n + 1, rt, 0, .ref q2⟩], fs ++ [e.i + lt.n], rfl, S8, hfo8, ?_, ?_, ?_, rfl, ?_⟩
            · rw [cost]; omega
            · rw [hw8, List.map_append, List.map_append]; rfl
            · rw [preS_snoc, preS_snoc, ← pr]
              show _ = fs ++ ((e.i + lt.n) :: (rt.pre (e.i + lt.n + 1) ++ lt.pre e.i) ++ preS es)
              simp
            · intro z hz
              rcases List.mem_append.mp hz with hz | hz
              · rcases List.mem_append.mp hz with hz | hz
                · exact (okr z hz).tk (s2.tk.trans (tk3.trans (s5.tk.trans (tk6.trans (s7.tk.trans tk8)))))
                · have : z = ⟨e.i, lt, 0, .ref q1⟩ := by simpa using hz
                  subst this
                  exact ⟨⟨q1, rfl, (tk6.trans (s7.tk.trans tk8)) _ _ h5⟩, sub.left, by show e.i + lt.n ≤ u.n; omega⟩
              · have : z = ⟨e.i + lt.n + 1, rt, 0, .ref q2⟩ := by simpa using hz
                subst this
                have h8 := tk8 _ _ h7
                have e9 : (((e.i + e.t.n : Nat) : Nat) : Int) = ((e.i + lt.n + 1 + rt.n : Nat) : Int) := by rw [z1]; omega
                rw [e9] at h8
                exact ⟨⟨q2, rfl, h8⟩, sub.right, by show e.i + lt.n + 1 + rt.n ≤ u.n; omega⟩
            · rw [cost]; omega
end
end K73
end

section
set_option linter.all false
set_option maxRecDepth 100000
set_option maxHeartbeats 4000000
/-! the sayer -/
namespace K73
open PySem PySem.Spec PyProof.Rows L2
theorem sIx_nat (n d k : Nat) : HT.sIx n d (some (k : Int)) = min k n := by
  unfold HT.sIx
  first | (simp; omega) | (simp; done) | (split <;> simp <;> omega)
section
variable {X : Cx}
def rSlLR (x : V) (lo hi : Option Int) (H : Hp) (Q : VK) : Prop := ∃ a, ∃ u : R, ∃ l n, x = .ref a ∧ H a = some (.lst (u.map V.int)) ∧ HT.sIx u.length 0 lo = l ∧ HT.sIx u.length u.length hi - HT.sIx u.length 0 lo = n ∧ ∀ p H', Same H H' → H p = none → H' p = some (.lst (((u.drop l).take n).map V.int)) → Q (.ref p) H'
theorem sl_listR : SlR X rSlLR := fun pins s σ H x v vl vu lo hi sl Q I rx hs pl pu ⟨a, u, l, n, ex, ha, el, en, h⟩ =>
  sl_list pins s σ H x v vl vu lo hi sl Q I rx hs pl pu ⟨a, _, ex, .inl (.inl ha), fun p hp => h p _ (same_new hp) hp (by
    rw [upd_same]
    unfold cutV
    rw [List.length_map, en, el, List.map_take, List.map_drop])⟩
def tDNewKM : TE := fun _ H Q => ∀ p H', Same H H' → H p = none → H' p = some (.dK []) → Q (.ref p) H'
theorem pe_dnewKM {pos : Pos} : PE X (.Dict [] [] pos) tDNewKM := pe_imp pe_dnewK fun σ H Q q p hp => q p _ (same_new hp) hp upd_same
def sDPutI (td ty tv : TE) : TS := fun D σ H => tv σ H fun v H1 => td σ H1 fun x H2 => ty σ H2 fun y H3 => ∃ a kvs k, x = .ref a ∧ y = .int k ∧ H3 a = some (.dK kvs) ∧ kvs.length < sizeLine ∧ ∀ H', H' = upd H3 a (.dK (putK kvs (.inl k) v)) → D.nx σ H'
theorem ps_dputI {o i value : Expr} {pos pos' : Pos} {td ty tv : TE} (hu : X.A.units + 1 < cLine) (ho : PE X o td) (hi : PE X i ty) (hv : PE X value tv) (hs : swapsWith value (some (.Subscript o i pos')) pos.line X.env = pure false) : PS X (.Assign [.Subscript o i pos'] value pos) (sDPutI td ty tv) :=
  ps_imp (ps_dput hu (pe_m ho) (pe_m hi) (pe_m hv) hs) fun D σ H q => ⟨_, q, fun v H1 q1 => ⟨_, q1, fun x H2 q2 => ⟨_, q2, fun y H3 ⟨a, kvs, k, e1, e2, h, hl, q3⟩ => ⟨a, _, e1, .inl ⟨kvs, .inl k, h, e2, hl, rfl⟩, q3 _ rfl⟩⟩⟩⟩
theorem cr_range2M : CallR X (.type "range") (fun vs H Q => ∃ i j, vs = [V.int i, V.int j] ∧ ∀ p H', Same H H' → H p = none → H' p = some (.rng i j) → Q (.ref p) H') :=
  call_imp cr_range2 fun vs H Q ⟨i, j, e, q⟩ => ⟨i, j, e, fun p hp => q p _ (same_new hp) hp upd_same⟩
end
theorem wk_zip {K : PySem.W.Frag} {R : Hp → Prop} {lo : Int} {b : Addr} {ys : List V} (h : ∀ H, R H → H b = some (.tup ys)) : Wk (ItzR K lo ys.length b) R ys.length fun i x H' => ∃ T y, x = .ref T ∧ ys[i]? = some y ∧ H' T = some (.tup [.int (lo + (i : Nat)), y]) where
  go := fun i H hi r => ⟨hi, ys, ys[i], .inl (.inl (h H r)), List.getElem?_eq_getElem hi⟩
  yld := fun i H x H' hi r ⟨T, y, e1, e2, e3, e4⟩ => by
    subst e3
    exact ⟨same_new e2, T, y, e1, e4 ys (.inl (.inl (h H r))), upd_same⟩
  stop := fun H r => ⟨rfl, ys, .inl (.inl (h H r)), Nat.le_refl _⟩
/-- where the parts of a sayer lie -/
structure SA where
  dx : Addr
  rb : Addr
  rr : Addr
  rs : Addr
  rj : Addr
  ro : Addr
  rc : Addr
  rl : Addr
  jd : Addr
  jf : Addr
  jl : Addr
  ja : Addr
section
variable {g : Gr}
structure SayAt (g : Gr) (H : Hp) (x : Addr) (s : SA) (B : Bk) (t : K73.T) (W : Nat → R) (row : R) (c : Nat) : Prop where
  at_ : H x = some (.ins (He.ga g.K "Sayer") s.dx [("book", .ref s.rb), ("row", .ref s.rr), ("starts", .ref s.rs), ("joinings", .ref s.rj), ("order", .ref s.ro), ("changed", .ref s.rc), ("looked", .ref s.rl)])
  book : BookAt g H s.rb B
  row : H s.rr = some (.lst (row.map V.int))
  starts : H s.rs = some (.lst ((List.range (t.n + 2)).map fun k => V.int (bgn W k : Nat)))
  jn : H s.rj = some (.ins (He.ga g.K "Joinings") s.jd [("first", .ref s.jf), ("last", .ref s.jl), ("above", .ref s.ja), ("fair", .bl true)])
  jf : H s.jf = some (.lst ((List.range t.n).map fun k => V.int (t.fst 0 k : Nat)))
  jl : H s.jl = some (.lst ((List.range t.n).map fun k => V.int (t.lst 0 k : Nat)))
  ord : H s.ro = some (.lst ((t.ord 0).map fun (k : Nat) => V.int (k : Int)))
  chg : ∃ ch, H s.rc = some (.lst ch) ∧ ch.length ≤ c
  lkd : ∃ kvs, H s.rl = some (.dK kvs) ∧ kvs.length ≤ c
  n1 : s.rs ≠ s.rr ∧ s.ro ≠ s.rr ∧ s.jf ≠ s.rr ∧ s.jl ≠ s.rr
  n2 : s.rs ≠ s.rc ∧ s.ro ≠ s.rc ∧ s.jf ≠ s.rc ∧ s.jl ≠ s.rc ∧ s.rr ≠ s.rc
theorem BookAt.sx {H H' : Hp} {x : Addr} {B : Bk} {fs : List Addr} (h : BookAt g H x B) (s : Sx fs H H') (m : ∀ f ∈ fs, (∃ l, H f = some (.lst l)) ∨ ∃ l, H f = some (.dK l)) : BookAt g H' x B := by
  have out : ∀ b o, H b = some o → (∀ l, o ≠ .lst l) → (∀ l, o ≠ .dK l) → H' b = some o := fun b o e n1 n2 => s b o (fun z => by
    rcases m b z with ⟨l, h⟩ | ⟨l, h⟩
    · rw [h] at e; cases e; exact n1 _ rfl
    · rw [h] at e; cases e; exact n2 _ rfl) e
  have tk : Tk H H' := fun b xs e => out b _ e (fun _ z => nomatch z) (fun _ z => nomatch z)
  obtain ⟨dx, d, h1, kvs, ⟨es, h2, h3, h4⟩, h5⟩ := h
  refine ⟨dx, d, out _ _ h1 (fun _ z => nomatch z) (fun _ z => nomatch z), kvs, ⟨es, ?_, h3, fun e he => (h4 e he).tk tk⟩, fun k => ?_⟩
  · rcases h2 with h2 | ⟨o, h2⟩
    · exact .inl (out _ _ h2 (fun _ z => nomatch z) (fun _ z => nomatch z))
    · exact .inr ⟨o, out _ _ h2 (fun _ z => nomatch z) (fun _ z => nomatch z)⟩
  · have q := h5 k
    cases e : valV kvs k with
    | some v =>
      rw [e] at q
      obtain ⟨b, e1, e2⟩ := q
      exact ⟨b, e1, e2.tk tk⟩
    | none =>
      rw [e] at q
      exact q
/-- the parts that a joining leaves alone -/
theorem SayAt.step {H H' : Hp} {x : Addr} {s : SA} {B : Bk} {t : K73.T} {W : Nat → R} {row row' : R} {c c' : Nat} (h : SayAt g H x s B t W row c) (S : Sx [s.rr, s.rc, s.rl] H H') (hr : H' s.rr = some (.lst (row'.map V.int))) (hc : ∃ ch, H' s.rc = some (.lst ch) ∧ ch.length ≤ c') (hl : ∃ kvs, H' s.rl = some (.dK kvs) ∧ kvs.length ≤ c') : SayAt g H' x s B t W row' c' := by
  obtain ⟨ch, h1, _⟩ := h.chg
  obtain ⟨kv, h2, _⟩ := h.lkd
  have kind : ∀ f ∈ [s.rr, s.rc, s.rl], (∃ l, H f = some (.lst l)) ∨ ∃ l, H f = some (.dK l) := fun f hf => by
    simp only [List.mem_cons, List.not_mem_nil, or_false] at hf
    rcases hf with z | z | z
    · rw [z]; exact .inl ⟨_, h.row⟩
    · rw [z]; exact .inl ⟨_, h1⟩
    · rw [z]; exact .inr ⟨_, h2⟩
  have out : ∀ b o, H b = some o → (∀ l, o ≠ .lst l) → (∀ l, o ≠ .dK l) → H' b = some o := fun b o e n1 n2 => S b o (fun z => by
    rcases kind b z with ⟨l, h⟩ | ⟨l, h⟩
    · rw [h] at e; cases e; exact n1 _ rfl
    · rw [h] at e; cases e; exact n2 _ rfl) e
  have lst : ∀ b l, H b = some (.lst l) → b ≠ s.rr → b ≠ s.rc → H' b = some (.lst l) := fun b l e n1 n2 => S b _ (fun z => by
    simp only [List.mem_cons, List.not_mem_nil, or_false] at z
    rcases z with z | z | z
    · exact n1 z
    · exact n2 z
    · rw [z, h2] at e; cases e) e
  exact ⟨out _ _ h.at_ (fun _ z => nomatch z) (fun _ z => nomatch z), h.book.sx S kind, hr, lst _ _ h.starts h.n1.1 h.n2.1, out _ _ h.jn (fun _ z => nomatch z) (fun _ z => nomatch z), lst _ _ h.jf h.n1.2.2.1 h.n2.2.2.1, lst _ _ h.jl h.n1.2.2.2 h.n2.2.2.2.1, lst _ _ h.ord h.n1.2.1 h.n2.2.1, hc, hl, h.n1, h.n2⟩
theorem SayAt.same {H H' : Hp} {x : Addr} {s : SA} {B : Bk} {t : K73.T} {W : Nat → R} {row : R} {c : Nat} (h : SayAt g H x s B t W row c) (S : Same H H') : SayAt g H' x s B t W row c :=
  h.step S.sx (S _ _ h.row) (let ⟨ch, h1, h2⟩ := h.chg; ⟨ch, S _ _ h1, h2⟩) (let ⟨ch, h1, h2⟩ := h.lkd; ⟨ch, S _ _ h1, h2⟩)
end
end K73
end

section
set_option linter.all false
set_option maxRecDepth 100000
set_option maxHeartbeats 4000000
/-! a joining in the row -/
namespace K73
open PySem PySem.Spec PyProof.Rows L2
def rowI (row new : R) (b i : Nat) : R := row.take b ++ new.take i ++ row.drop (b + i)
theorem rowI_zero (row new : R) (b : Nat) : rowI row new b 0 = row := by
  unfold rowI
  rw [List.take_zero, List.append_nil, Nat.add_zero, List.take_append_drop]
theorem rowI_set {row new : R} {b i : Nat} {v : Int} (hv : new[i]? = some v) (hl : b + i < row.length) : (rowI row new b i).set (b + i) v = rowI row new b (i + 1) := by
  obtain ⟨hi, _⟩ := List.getElem?_eq_some_iff.mp hv
  unfold rowI
  have l1 : (row.take b ++ new.take i).length = b + i := by
    rw [List.length_append, List.length_take, List.length_take]; omega
  rw [List.set_append_right _ _ (by rw [l1]; exact Nat.le_refl _), l1, Nat.sub_self, List.drop_eq_getElem_cons hl, List.set_cons_zero, ← take_snoc hv]
  simp [Nat.add_assoc]
theorem rowI_get {row new : R} {b i : Nat} (hi : i ≤ new.length) (hl : b + i < row.length) : ∃ w, (rowI row new b i)[b + i]? = some w := by
  refine ⟨_, List.getElem?_eq_getElem (?_ : b + i < (rowI row new b i).length)⟩
  unfold rowI
  rw [List.length_append, List.length_append, List.length_take, List.length_take, List.length_drop]
  omega
theorem rowI_len {row new : R} {b i : Nat} (hi : i ≤ new.length) (hl : b + i ≤ row.length) : (rowI row new b i).length = row.length := by
  unfold rowI
  rw [List.length_append, List.length_append, List.length_take, List.length_take, List.length_drop]
  omega
section
variable {g : Gr}
def pSJoin (g : Gr) : Pr := fun vs H Q => ∃ (x : Addr) (k : Nat) (s : SA) (B : Bk) (t : K73.T) (W : Nat → R) (row : R) (c : Nat), vs = [.ref x, .int (k : Nat)] ∧ SayAt g H x s B t W row c ∧ B.Ok ∧ k < t.n ∧ row.length = bgn W (t.n + 1) ∧ row.length ≤ 9000 ∧ c ≤ 9000 ∧
  ∀ H', Sx [s.rr, s.rc, s.rl] H H' → SayAt g H' x s B t W (joinAt B (bgn W) (t.fst 0) (t.lst 0) row k) (c + 8) → Q .non H'
theorem ok_Sayer_join (T : Tx g) : MetG g 2 "Sayer" "join" (pSJoin g) := by
  have c_told := ok_told T
  refine metD T.d_Sayer_join T.c_Sayer T.t_Sayer_join sc_Sayer_join (fun _ _ _ _ _ _ us hl => match us, hl with | [_, _], _ => rfl) (fun vs H Q h => ?_) fun cdv A outer s0 H vs Q hr h => ?_
  · obtain ⟨x, k, s, B, t, W, row, c, rfl, _⟩ := h; rfl
  · obtain ⟨x, k, s, B, t, W, row, c, rfl, h, o, hk, hrow, h9, hc9, kk⟩ := h
    refine ⟨_, (pss_cons (ps_set (i := 2) sc_Sayer_join.nd rfl (by first | exact Or.inl rfl | exact Or.inr rfl) (pe_ix ix_lstM (pe_fldG (K := g.K) (by rfl) (pv 0) rfl) (pe_ix ix_lstM (pe_fldG (K := g.K) (by rfl) (pe_fldG (K := g.K) (by rfl) (pv 0) rfl) rfl) (pv 1) (fun _ _ => rfl)) (fun _ _ => rfl)))
      (pss_cons (ps_set (i := 3) sc_Sayer_join.nd rfl (by first | exact Or.inl rfl | exact Or.inr rfl) (pe_ix ix_lstM (pe_fldG (K := g.K) (by rfl) (pv 0) rfl) (pe_op op_add (pv 1) pe_int) (fun _ _ => rfl)))
      (pss_cons (ps_set (i := 4) sc_Sayer_join.nd rfl (by first | exact Or.inl rfl | exact Or.inr rfl) (pe_ix ix_lstM (pe_fldG (K := g.K) (by rfl) (pv 0) rfl) (pe_op op_add (pe_ix ix_lstM (pe_fldG (K := g.K) (by rfl) (pe_fldG (K := g.K) (by rfl) (pv 0) rfl) rfl) (pv 1) (fun _ _ => rfl)) pe_int) (fun _ _ => rfl)))
      (pss_cons (ps_set (i := 5) sc_Sayer_join.nd rfl (by first | exact Or.inl rfl | exact Or.inr rfl) (pe_callB (call_max2 rfl) (by rfl) T.f_max (by decide +kernel) (pa_cons (pv 2) (pa_cons (pe_op op_sub (pv 3) (pe_fldG (K := g.K) (by rfl) (pe_fldG (K := g.K) (by rfl) (pv 0) rfl) rfl)) pa_nil))))
      (pss_cons (ps_set (i := 6) sc_Sayer_join.nd rfl (by first | exact Or.inl rfl | exact Or.inr rfl) (pe_callB (call_min2 rfl) (by rfl) T.f_min (by decide +kernel) (pa_cons (pv 4) (pa_cons (pe_op op_add (pv 3) (pe_fldG (K := g.K) (by rfl) (pe_fldG (K := g.K) (by rfl) (pv 0) rfl) rfl)) pa_nil))))
      (pss_cons (ps_asg (C8.pe_c c_told hr (by omega) (by rfl) (pa_cons (pe_fldG (K := g.K) (by rfl) (pv 0) rfl) (pa_cons (pe_callTy call_tupM (by rfl) T.f_tuple (by decide +kernel) (pa_cons (pe_slice sl_listR (pe_fldG (K := g.K) (by rfl) (pv 0) rfl) (po_some (pv 5)) (po_some (pv 3))) pa_nil)) (pa_cons (pe_callTy call_tupM (by rfl) T.f_tuple (by decide +kernel) (pa_cons (pe_slice sl_listR (pe_fldG (K := g.K) (by rfl) (pv 0) rfl) (po_some (pv 3)) (po_some (pv 6))) pa_nil)) pa_nil)))) (pg_tupG (K := g.K) (by rfl) (by rfl) (pgs_cons (pg_name (i := 7) sc_Sayer_join.nd rfl (by first | exact Or.inl rfl | exact Or.inr rfl)) (pgs_cons (pg_name (i := 8) sc_Sayer_join.nd rfl (by first | exact Or.inl rfl | exact Or.inr rfl)) pgs_nil))))
      (pss_one (ps_forM PassesOwn.never rfl (pi_zipR (by rfl) T.f_zip (pa_cons (pe_callTy cr_range2M (by rfl) T.f_range (by decide +kernel) (pa_cons (pv 5) (pa_cons (pv 6) pa_nil))) (pa_cons (pe_op op_catR (pv 7) (pv 8)) pa_nil))) (pg_tupG (K := g.K) (by rfl) (by rfl) (pgs_cons (pg_name (i := 9) sc_Sayer_join.nd rfl (by first | exact Or.inl rfl | exact Or.inr rfl)) (pgs_cons (pg_name (i := 10) sc_Sayer_join.nd rfl (by first | exact Or.inl rfl | exact Or.inr rfl)) pgs_nil)))
        (pss_cons (ps_dputI (by exact hu_of hr) (pe_fldG (K := g.K) (by rfl) (pv 0) rfl) (pv 9) pe_bl rfl)
        (pss_cons (ps_if (pt_cmpR op_ne (pe_ix ix_lstM (pe_fldG (K := g.K) (by rfl) (pv 0) rfl) (pv 9) (fun _ _ => rfl)) (pv 10) (nomark _))
          (pss_one (ps_expr (pe_bm PySem.F.plainAttrs_list PySem.F.slot_list_append PySem.F.type_list_append mt_appendM (pe_fldG (K := g.K) (by rfl) (pv 0) rfl) (pa_cons (pe_tupM (pa_cons (pv 1) (pa_cons (pv 9) (pa_cons (pe_ix ix_lstM (pe_fldG (K := g.K) (by rfl) (pv 0) rfl) (pv 9) (fun _ _ => rfl)) (pa_cons (pv 10) pa_nil))))) pa_nil))))
          pss_nil)
        (pss_one (ps_asg (pv 10) (pg_sub (pe_fldG (K := g.K) (by rfl) (pv 0) rfl) (pv 9) set_listM))))))))))))), ?_⟩
    have CS := T.c_Sayer
    have CJ := T.c_Joinings
    have CB := T.c_Book
    obtain ⟨bdx, bd, hB, hT⟩ := h.book
    have f1 := fst_le t 0 k (Nat.zero_le _) (by omega)
    have l1 := lst_ge t 0 k (Nat.zero_le _) (by omega)
    have l2 := lst_le t 0 k (Nat.zero_le _) (by omega)
    have st : ∀ j, j < t.n + 2 → ((List.range (t.n + 2)).map fun k => V.int (bgn W k : Nat))[j]? = some (V.int (bgn W j : Nat)) := fun j hj => by rw [List.getElem?_map, List.getElem?_range hj]; rfl
    have gf : ((List.range t.n).map fun k => V.int (t.fst 0 k : Nat))[k]? = some (V.int (t.fst 0 k : Nat)) := by rw [List.getElem?_map, List.getElem?_range hk]; rfl
    have gl : ((List.range t.n).map fun k => V.int (t.lst 0 k : Nat))[k]? = some (V.int (t.lst 0 k : Nat)) := by rw [List.getElem?_map, List.getElem?_range hk]; rfl
    have m1 := bgn_mono W (i := t.fst 0 k) (j := k + 1) (by omega)
    have m2 := bgn_mono W (i := k + 1) (j := t.lst 0 k + 1) (by omega)
    have m3 := bgn_mono W (i := t.lst 0 k + 1) (j := t.n + 1) (by omega)
    have ek : ((k : Nat) : Int) + 1 = ((k + 1 : Nat) : Int) := by omega
    have el : ((t.lst 0 k : Nat) : Int) + 1 = ((t.lst 0 k + 1 : Nat) : Int) := by omega
    refine ⟨_, rfl, x, _, _, _, _, rfl, h.at_, CS, T.n_Sayer_starts, rfl, _, rfl, x, _, _, _, _, rfl, h.at_, CS, T.n_Sayer_joinings, rfl, _, _, _, _, _, rfl, h.jn, CJ, T.n_Joinings_first, rfl, _, rfl, _, _, _, _, rfl, rfl, h.jf, atI_nat _ gf, _, _, _, _, rfl, rfl, h.starts, atI_nat _ (st _ (by omega)), ?_⟩
    refine ⟨_, rfl, x, _, _, _, _, rfl, h.at_, CS, T.n_Sayer_starts, rfl, _, rfl, _, _, rfl, rfl, _, _, _, _, rfl, rfl, h.starts, by rw [ek]; exact atI_nat _ (st _ (by omega)), ?_⟩
    refine ⟨_, rfl, x, _, _, _, _, rfl, h.at_, CS, T.n_Sayer_starts, rfl, _, rfl, x, _, _, _, _, rfl, h.at_, CS, T.n_Sayer_joinings, rfl, _, _, _, _, _, rfl, h.jn, CJ, T.n_Joinings_last, rfl, _, rfl, _, _, _, _, rfl, rfl, h.jl, atI_nat _ gl, _, _, rfl, rfl, _, _, _, _, rfl, rfl, h.starts, by rw [el]; exact atI_nat _ (st _ (by omega)), ?_⟩
    refine ⟨_, rfl, _, rfl, _, rfl, x, _, _, _, _, rfl, h.at_, CS, T.n_Sayer_book, rfl, _, _, _, _, _, rfl, hB, CB, T.n_Book_kept_ahead, rfl, _, _, rfl, rfl, _, _, rfl, ?_⟩
    refine ⟨_, rfl, _, rfl, _, rfl, x, _, _, _, _, rfl, h.at_, CS, T.n_Sayer_book, rfl, _, _, _, _, _, rfl, hB, CB, T.n_Book_kept_behind, rfl, _, _, rfl, rfl, _, _, rfl, ?_⟩
    have eb : (if ((bgn W (k + 1) : Nat) : Int) - (B.a : Nat) > ((bgn W (t.fst 0 k) : Nat) : Int) then ((bgn W (k + 1) : Nat) : Int) - (B.a : Nat) else ((bgn W (t.fst 0 k) : Nat) : Int)) = ((max (bgn W (t.fst 0 k)) (bgn W (k + 1) - B.a) : Nat) : Int) := by
      split <;> omega
    have ee : (if ((bgn W (k + 1) : Nat) : Int) + (B.b : Nat) < ((bgn W (t.lst 0 k + 1) : Nat) : Int) then ((bgn W (k + 1) : Nat) : Int) + (B.b : Nat) else ((bgn W (t.lst 0 k + 1) : Nat) : Int)) = ((min (bgn W (t.lst 0 k + 1)) (bgn W (k + 1) + B.b) : Nat) : Int) := by
      split <;> omega
    rw [eb, ee]
    clear eb ee
    have ha := o.a1
    have hb := o.b1
    have ha4 := o.a4
    have hb4 := o.b4
    obtain ⟨b0, eb0⟩ : ∃ b0, max (bgn W (t.fst 0 k)) (bgn W (k + 1) - B.a) = b0 := ⟨_, rfl⟩
    obtain ⟨e0, ee0⟩ : ∃ e0, min (bgn W (t.lst 0 k + 1)) (bgn W (k + 1) + B.b) = e0 := ⟨_, rfl⟩
    have key : joinAt B (bgn W) (t.fst 0) (t.lst 0) row k = row.take b0 ++ ((B.f ((row.take (bgn W (k + 1))).drop b0) ((row.take e0).drop (bgn W (k + 1)))).1 ++ (B.f ((row.take (bgn W (k + 1))).drop b0) ((row.take e0).drop (bgn W (k + 1)))).2) ++ row.drop e0 := by
      unfold joinAt
      rw [eb0, ee0]
    rw [eb0, ee0]
    have g1 : b0 ≤ bgn W (k + 1) := by omega
    have g2 : bgn W (k + 1) ≤ e0 := by omega
    have g3 : e0 ≤ row.length := by omega
    have g4 : bgn W (k + 1) - b0 ≤ 4 := by omega
    have g5 : e0 - bgn W (k + 1) ≤ 4 := by omega
    generalize bgn W (k + 1) = M at *
    clear eb0 ee0 st gf gl m1 m2 m3 ek el f1 l1 l2
    refine ⟨_, rfl, x, _, _, _, _, rfl, h.at_, CS, T.n_Sayer_book, rfl, ?_⟩
    refine ⟨_, rfl, x, _, _, _, _, rfl, h.at_, CS, T.n_Sayer_row, rfl, _, rfl, _, rfl, _, rfl, _, rfl, s.rr, row, _, _, rfl, h.row, rfl, rfl, fun p1 H1 s1 _ hp1 => ?_⟩
    refine ⟨_, _, rfl, hp1, fun p2 H2 s2 hp2 => ?_⟩
    have t2 := s1.trans s2
    have h2 := h.same t2
    refine ⟨_, rfl, x, _, _, _, _, rfl, h2.at_, CS, T.n_Sayer_row, rfl, _, rfl, _, rfl, _, rfl, _, rfl, s.rr, row, _, _, rfl, h2.row, rfl, rfl, fun p3 H3 s3 _ hp3 => ?_⟩
    refine ⟨_, _, rfl, hp3, fun p4 H4 s4 hp4 => ?_⟩
    have t4 := s3.trans s4
    rw [HT.sIx_nat, HT.sIx_nat, Nat.min_eq_left (by omega), Nat.min_eq_left (by omega)] at hp2 hp4
    have hp2' : RowAt H4 p2 ((row.take M).drop b0) := by rw [List.drop_take]; exact t4 _ _ hp2
    have hp4' : RowAt H4 p4 ((row.take e0).drop M) := by rw [List.drop_take]; exact hp4
    refine ⟨s.rb, p2, p4, B, _, _, rfl, (h2.same t4).book, hp2', hp4', fun q H5 s5 hq => ?_⟩
    have fl := f_len o ((row.take M).drop b0) ((row.take e0).drop M)
    generalize B.f ((row.take M).drop b0) ((row.take e0).drop M) = new at *
    obtain ⟨q1, q2, hqa, hq1, hq2⟩ := hq
    have n1 : new.1.length = M - b0 := by rw [fl.1, List.length_drop, List.length_take]; omega
    have n2 : new.2.length = e0 - M := by rw [fl.2, List.length_drop, List.length_take]; omega
    refine ⟨q, _, rfl, .inl (.inl hqa), rfl, _, _, rfl, _, _, rfl, rfl, ?_⟩
    have t5 := (t2.trans t4).trans s5
    refine ⟨_, rfl, _, rfl, _, _, rfl, fun r H6 s6 _ hr6 => ?_⟩
    refine ⟨_, rfl, _, rfl, q1, q2, new.1, new.2, rfl, rfl, s6 _ _ hq1, s6 _ _ hq2, cc_le (n := 8) (by omega) (by omega), fun b H7 s7 hb7 => ?_⟩
    have nl : (new.1 ++ new.2).length = e0 - b0 := by rw [List.length_append, n1, n2]; omega
    have key2 : row.take b0 ++ (new.1 ++ new.2) ++ row.drop e0 = rowI row (new.1 ++ new.2) b0 (new.1 ++ new.2).length := by
      unfold rowI
      rw [List.take_length, nl, show b0 + (e0 - b0) = e0 by omega]
    rw [key, key2] at kk
    generalize new.1 ++ new.2 = nw at *
    have t7 := (t5.trans s6).trans s7
    have h7 := h.same t7
    have hb7' : H7 b = some (.tup (nw.map V.int)) := hb7
    have zl : (nw.map V.int).length = e0 - b0 := by rw [List.length_map, nl]
    refine ⟨r, b, (b0 : Nat), (e0 : Nat), (nw.map V.int).length, nw.map V.int, rfl, s7 _ _ hr6, .inl (.inl hb7'), ⟨by omega, by omega, by omega, by omega⟩, by rw [zl]; omega, ?_⟩
    have nbr : b ≠ s.rr := ne_of hb7' h7.row (fun z => nomatch z)
    refine for_wk (wk_zip (R := fun H' => H' b = some (.tup (nw.map V.int))) fun H' r => r) (fun i σ H' => ∃ y9 y10, σ = [some (.ref x), some (.int (k : Nat)), some (.int (bgn W (t.fst 0 k) : Nat)), some (.int (M : Nat)), some (.int (bgn W (t.lst 0 k + 1) : Nat)), some (.int (b0 : Nat)), some (.int (e0 : Nat)), some (.ref q1), some (.ref q2), y9, y10] ∧ Sx [s.rr, s.rc, s.rl] H H' ∧ SayAt g H' x s B t W (rowI row nw b0 i) (c + i) ∧ H' b = some (.tup (nw.map V.int))) (fun _ _ _ ⟨_, _, _, _, _, h⟩ => h) ⟨_, _, rfl, t7.sx, by rw [rowI_zero]; exact h7, hb7'⟩ ?_ ?_
    · rintro σ H' ⟨y9, y10, rfl, S, hs, _⟩
      rw [List.length_map] at hs
      refine kk _ S (hs.step (Sx.refl _) hs.row ?_ ?_)
      · obtain ⟨ch, z1, z2⟩ := hs.chg
        exact ⟨ch, z1, by omega⟩
      · obtain ⟨ch, z1, z2⟩ := hs.lkd
        exact ⟨ch, z1, by omega⟩
    · rintro i y σ H8 H9 hi ⟨y9, y10, rfl, S, hs, hb8⟩ s9 ⟨tz, yv, rfl, hyv, htz⟩
      have hi' : i < nw.length := by rw [List.length_map] at hi; exact hi
      rw [List.getElem?_map] at hyv
      obtain ⟨v, hv, rfl⟩ := Option.map_eq_some_iff.mp hyv
      have h9 := hs.same s9
      obtain ⟨ch, hch, lch⟩ := h9.chg
      obtain ⟨kv, hkv, lkv⟩ := h9.lkd
      have eP : ((b0 : Nat) : Int) + (i : Nat) = ((b0 + i : Nat) : Int) := by omega
      refine ⟨tz, _, rfl, .inl (.inl htz), rfl, _, _, rfl, _, _, rfl, rfl, ?_⟩
      refine ⟨_, rfl, x, _, _, _, _, rfl, h9.at_, CS, T.n_Sayer_looked, rfl, _, rfl, s.rl, kv, _, rfl, rfl, hkv, cc_lt (n := 9100) (by omega) (by omega), fun G1 e1 => ?_⟩
      have nlr : s.rl ≠ s.rr := ne_of hkv h9.row (fun z => nomatch z)
      have nlc : s.rl ≠ s.rc := ne_of hkv hch (fun z => nomatch z)
      have S1 : Sx [s.rr, s.rc, s.rl] H9 G1 := by rw [e1]; exact (Sx.refl _).put (by simp)
      have hl1 : ∃ kvs, G1 s.rl = some (.dK kvs) ∧ kvs.length ≤ c + (i + 1) := ⟨_, by rw [e1]; exact upd_same, by have := length_putK kv (.inl ((b0 : Nat) + (i : Nat) : Int)) (.bl true); omega⟩
      have hr1 := upd_keep e1 nlr.symm h9.row
      have hc1 := upd_keep e1 nlc.symm hch
      have hb1 := upd_keep e1 (ne_of (s9 _ _ hb8) hkv (fun z => nomatch z)) (s9 _ _ hb8)
      have h1 : SayAt g G1 x s B t W (rowI row nw b0 i) (c + (i + 1)) := h9.step S1 hr1 ⟨_, hc1, by omega⟩ hl1
      clear e1
      obtain ⟨w, hw⟩ := rowI_get (row := row) (new := nw) (b := b0) (i := i) (by omega) (by omega)
      have hw' : ((rowI row nw b0 i).map V.int)[b0 + i]? = some (.int w) := by rw [List.getElem?_map, hw]; rfl
      have fin : ∀ G2, Sx [s.rr, s.rc, s.rl] H9 G2 → SayAt g G2 x s B t W (rowI row nw b0 i) (c + (i + 1)) → G2 b = some (.tup (nw.map V.int)) → ∀ G3, G3 = upd G2 s.rr (.lst (((rowI row nw b0 i).map V.int).set (b0 + i) (.int v))) → Sx [s.rr, s.rc, s.rl] H G3 ∧ SayAt g G3 x s B t W (rowI row nw b0 (i + 1)) (c + (i + 1)) ∧ G3 b = some (.tup (nw.map V.int)) := fun G2 S2 h2 hb2 G3 e3 => by
        have S3 : Sx [s.rr, s.rc, s.rl] G2 G3 := by rw [e3]; exact (Sx.refl _).put (by simp)
        refine ⟨(S.trans s9.sx).trans (S2.trans S3), h2.step S3 ?_ ?_ ?_, upd_keep e3 nbr hb2⟩
        · rw [e3, upd_same, ← rowI_set hv (by omega), List.map_set]
        · obtain ⟨ch, z1, z2⟩ := h2.chg
          exact ⟨ch, upd_keep e3 h2.n2.2.2.2.2.symm z1, z2⟩
        · obtain ⟨kv, z1, z2⟩ := h2.lkd
          exact ⟨kv, upd_keep e3 (ne_of z1 h2.row (fun z => nomatch z)) z1, z2⟩
      refine ⟨_, rfl, x, _, _, _, _, rfl, h1.at_, CS, T.n_Sayer_row, rfl, _, rfl, s.rr, _, _, _, rfl, rfl, h1.row, by rw [eP]; exact atI_nat _ hw', _, rfl, rfl, _, rfl, ?_⟩
      by_cases cw : V.int w = V.int v
      · refine ifF (by rw [decide_eq_true cw]; rfl) ⟨_, rfl, _, rfl, x, _, _, _, _, rfl, h1.at_, CS, T.n_Sayer_row, rfl, _, rfl, s.rr, _, _, _, rfl, rfl, h1.row, ixN_of (by omega) (by rw [List.length_map, rowI_len (by omega) (by omega)]; omega), fun G3 e3 => ?_⟩
        rw [show ((b0 : Nat) + (i : Nat) : Int).toNat = b0 + i by omega] at e3
        obtain ⟨z1, z2, z3⟩ := fin G1 S1 h1 hb1 G3 e3
        exact ⟨_, _, rfl, z1, z2, z3⟩
      · refine ifT (by rw [decide_eq_false cw]; rfl) ?_
        obtain ⟨ch1, hch1, lch1⟩ := h9.chg
        have ech : ch1 = ch := by rw [hch] at hch1; cases hch1; rfl
        subst ech
        refine ⟨_, rfl, x, _, _, _, _, rfl, h1.at_, CS, T.n_Sayer_changed, rfl, .inl ⟨rfl, _, .inl (.inl hc1)⟩, ?_⟩
        refine ⟨_, rfl, _, rfl, _, rfl, x, _, _, _, _, rfl, h1.at_, CS, T.n_Sayer_row, rfl, _, rfl, s.rr, _, _, _, rfl, rfl, h1.row, by rw [eP]; exact atI_nat _ hw', _, rfl, cc_le (n := 4) (Nat.le_refl _) (by omega), fun p G2 s2 np hp => ?_⟩
        refine ⟨s.rc, _, _, rfl, rfl, s2 _ _ hc1, cc_lt (n := 9100) (by omega) (by omega), fun G3 e3 => ?_⟩
        have S2 : Sx [s.rr, s.rc, s.rl] H9 G3 := by rw [e3]; exact (S1.trans s2.sx).put (by simp)
        have hc3 : ∃ ch, G3 s.rc = some (.lst ch) ∧ ch.length ≤ c + (i + 1) := ⟨_, by rw [e3]; exact upd_same, by rw [List.length_append, List.length_singleton]; omega⟩
        have hr3 := upd_keep e3 h1.n2.2.2.2.2 (s2 _ _ h1.row)
        have hb3 := upd_keep e3 (ne_of hb1 hc1 (fun z => nomatch z)) (s2 _ _ hb1)
        have hl3 : ∃ kvs, G3 s.rl = some (.dK kvs) ∧ kvs.length ≤ c + (i + 1) := by
          obtain ⟨kv', z1, z2⟩ := hl1
          exact ⟨kv', upd_keep e3 nlc (s2 _ _ z1), z2⟩
        have h3 := h9.step S2 hr3 hc3 hl3
        clear e3
        refine ⟨_, rfl, _, rfl, x, _, _, _, _, rfl, h3.at_, CS, T.n_Sayer_row, rfl, _, rfl, s.rr, _, _, _, rfl, rfl, h3.row, ixN_of (by omega) (by rw [List.length_map, rowI_len (by omega) (by omega)]; omega), fun G4 e4 => ?_⟩
        rw [show ((b0 : Nat) + (i : Nat) : Int).toNat = b0 + i by omega] at e4
        obtain ⟨z1, z2, z3⟩ := fin G3 S2 h3 hb3 G4 e4
        exact ⟨_, _, rfl, z1, z2, z3⟩
end
end K73
end

section
set_option linter.all false
set_option maxRecDepth 100000
set_option maxHeartbeats 4000000
/-! what is said -/
namespace K73
open PySem PySem.Spec PyProof.Rows L2
def wf (ps : List (Addr × R)) : Nat → R := fun k => (ps.map (·.2)).getD k []
theorem wf_at {ps : List (Addr × R)} {i : Nat} {p : Addr × R} (h : ps[i]? = some p) : wf ps i = p.2 := by
  unfold wf
  rw [List.getD_eq_getElem?_getD, List.getElem?_map, h]; rfl
theorem cat_snoc (W : Nat → R) (i : Nat) : cat W 0 (i + 1) = cat W 0 i ++ W i := by
  rw [cat_add]
  show cat W 0 i ++ (W (0 + i) ++ []) = _
  rw [Nat.zero_add, List.append_nil]
theorem bgn_le {s : Nat} {ps : List (Addr × R)} (h : WsOk s ps) : ∀ i, bgn (wf ps) i ≤ 200 * i
  | 0 => Nat.le_refl _
  | i + 1 => by
    have ih := bgn_le h i
    have : (wf ps i).length ≤ 200 := by
      cases e : ps[i]? with
      | none =>
        unfold wf
        rw [List.getD_eq_getElem?_getD, List.getElem?_map, e]; exact Nat.zero_le _
      | some p => rw [wf_at e]; exact (h p (List.mem_of_getElem? e)).2.2
    have e : bgn (wf ps) (i + 1) = bgn (wf ps) i + (wf ps i).length := by
      unfold bgn
      rw [cat_snoc, List.length_append]
    omega
section
variable {g : Gr}
def pSayer (g : Gr) : Pr := fun vs H Q => ∃ (x rb a sh dx : Addr) (B : Bk) (ps : List (Addr × R)) (t : K73.T), vs = [.ref x, .ref rb, .ref a, .ref sh] ∧ rb ≠ x ∧ H x = some (.ins (He.ga g.K "Sayer") dx []) ∧ BookAt g H rb B ∧ WsAt H a ps ∧ WsOk B.s ps ∧ SpAt H sh (t.dep 0) ∧ ps.length = t.n + 1 ∧ t.n ≤ 39 ∧
  ∀ H' s, Sx [x] H H' → H s.rr = none → H s.rc = none → H s.rl = none → SayAt g H' x s B t (wf ps) (cat (wf ps) 0 (t.n + 1)) 0 → Q .non H'
theorem BookAt.sx1 {H H' : Hp} {x rb : Addr} {B : Bk} {C dx : Addr} {fs : List (Str × V)} (h : BookAt g H rb B) (s : Sx [x] H H') (hx : H x = some (.ins C dx fs)) (ne : rb ≠ x) : BookAt g H' rb B := by
  have tk : Tk H H' := s.tk fun f hf xs e => by
    obtain rfl : f = x := List.mem_singleton.mp hf
    rw [hx] at e; cases e
  obtain ⟨bx, d, h1, kvs, ⟨es, h2, h3, h4⟩, h5⟩ := h
  have out : ∀ b o, H b = some o → b ≠ x → H' b = some o := fun b o e n => s b o (fun z => n (List.mem_singleton.mp z)) e
  refine ⟨bx, d, out _ _ h1 ne, kvs, ⟨es, ?_, h3, fun e he => (h4 e he).tk tk⟩, fun k => ?_⟩
  · rcases h2 with h2 | ⟨o, h2⟩
    · exact .inl (out _ _ h2 (ne_of h2 hx (fun z => nomatch z)))
    · exact .inr ⟨o, out _ _ h2 (ne_of h2 hx (fun z => nomatch z))⟩
  · have q := h5 k
    cases e : valV kvs k with
    | some v =>
      rw [e] at q
      obtain ⟨b, e1, e2⟩ := q
      exact ⟨b, e1, e2.tk tk⟩
    | none =>
      rw [e] at q
      exact q
theorem ok_Sayer (T : Tx g) : MakG g 4 "Sayer" (pSayer g) := by
  have m_Joinings := ok_Joinings T
  have c_inner_first := ok_inner_first T
  refine makD T.d_Sayer_init T.m_Sayer T.g_Sayer sc_Sayer_init (fun _ _ _ _ _ _ us hl => match us, hl with | [_, _, _, _], _ => rfl) (fun vs H Q h => ?_) fun cdv A outer s0 H vs Q hr h => ?_
  · obtain ⟨x, rb, a, sh, dx, B, ps, t, rfl, _⟩ := h; rfl
  · obtain ⟨x, rb, a, sh, dx, B, ps, t, rfl, nbx, hx, hbk, hps, hw, ⟨sho, hsh, hdn⟩, hl, hn, kk⟩ := h
    refine ⟨_, (pss_cons (ps_fldM (K := g.K) (by rfl) (pv 0) (pv 1) rfl)
      (pss_cons (ps_fldM (K := g.K) (by rfl) (pv 0) (pe_lstM pa_nil) rfl)
      (pss_cons (ps_fldM (K := g.K) (by rfl) (pv 0) (pe_lstM pa_nil) rfl)
      (pss_cons (ps_forM PassesOwn.never rfl (pi_tup (pv 2)) (pg_name (i := 4) sc_Sayer_init.nd rfl (by first | exact Or.inl rfl | exact Or.inr rfl))
        (pss_cons (ps_expr (pe_bm PySem.F.plainAttrs_list PySem.F.slot_list_append PySem.F.type_list_append mt_appendM (pe_fldG (K := g.K) (by rfl) (pv 0) rfl) (pa_cons (pe_callB call_lenL (by rfl) T.f_len (by decide +kernel) (pa_cons (pe_fldG (K := g.K) (by rfl) (pv 0) rfl) pa_nil)) pa_nil)))
        (pss_one (ps_expr (pe_bm PySem.F.plainAttrs_list PySem.F.slot_list_extend PySem.F.type_list_extend mt_extendM (pe_fldG (K := g.K) (by rfl) (pv 0) rfl) (pa_cons (pe_callTy call_lstM (by rfl) T.f_list (by decide +kernel) (pa_cons (pv 4) pa_nil)) pa_nil))))))
      (pss_cons (ps_expr (pe_bm PySem.F.plainAttrs_list PySem.F.slot_list_append PySem.F.type_list_append mt_appendM (pe_fldG (K := g.K) (by rfl) (pv 0) rfl) (pa_cons (pe_callB call_lenL (by rfl) T.f_len (by decide +kernel) (pa_cons (pe_fldG (K := g.K) (by rfl) (pv 0) rfl) pa_nil)) pa_nil)))
      (pss_cons (ps_fldM (K := g.K) (by rfl) (pv 0) (C8.pe_mk m_Joinings hr (by omega) (by rfl) (pa_cons (pv 3) pa_nil)) rfl)
      (pss_cons (ps_fldM (K := g.K) (by rfl) (pv 0) (C8.pe_c c_inner_first hr (by omega) (by rfl) (pa_cons (pv 3) pa_nil)) rfl)
      (pss_cons (ps_fldM (K := g.K) (by rfl) (pv 0) (pe_lstM pa_nil) rfl)
      (pss_one (ps_fldM (K := g.K) (by rfl) (pv 0) pe_dnewKM rfl)))))))))), ?_⟩
    have CS := T.c_Sayer
    have nax : a ≠ x := ne_of hps.1 hx (fun z => nomatch z)
    have nsx : sh ≠ x := ne_of hsh hx (fun z => nomatch z)
    have mem : x ∈ [x] := List.mem_singleton.mpr rfl
    refine ⟨_, rfl, _, rfl, x, _, dx, _, rfl, hx, CS, T.n_Sayer_book, n1000 rfl, fun K1 e1 => ?_⟩
    have S1 : Sx [x] H K1 := by rw [e1]; exact (Sx.refl _).put mem
    have hX1 : K1 x = some (.ins (He.ga g.K "Sayer") dx [("book", .ref rb)]) := by rw [e1]; exact upd_same
    clear e1
    refine ⟨cc_le (n := 0) (Nat.le_refl _) (by omega), fun rr H1 s1 nrr hrr => ?_⟩
    refine ⟨_, rfl, x, _, dx, _, rfl, s1 _ _ hX1, CS, T.n_Sayer_row, n1000 rfl, fun K2 e2 => ?_⟩
    have nrx : rr ≠ x := ne_of hrr (s1 _ _ hX1) (fun z => nomatch z)
    have F1 : H rr = none := S1.free nrr (fun z => nrx (List.mem_singleton.mp z))
    have S2 : Sx [x] H K2 := by rw [e2]; exact (S1.trans s1.sx).put mem
    have hX2 : K2 x = some (.ins (He.ga g.K "Sayer") dx [("book", .ref rb), ("row", .ref rr)]) := by rw [e2]; exact upd_same
    have hrr2 := upd_keep e2 nrx hrr
    clear e2
    refine ⟨cc_le (n := 0) (Nat.le_refl _) (by omega), fun rs H2 s2 nrs hrs => ?_⟩
    refine ⟨_, rfl, x, _, dx, _, rfl, s2 _ _ hX2, CS, T.n_Sayer_starts, n1000 rfl, fun K3 e3 => ?_⟩
    have nsx' : rs ≠ x := ne_of hrs (s2 _ _ hX2) (fun z => nomatch z)
    have nrsr : rr ≠ rs := ne_of_none hrr2 nrs
    have S3 : Sx [x] H K3 := by rw [e3]; exact (S2.trans s2.sx).put mem
    have hX3 : K3 x = some (.ins (He.ga g.K "Sayer") dx [("book", .ref rb), ("row", .ref rr), ("starts", .ref rs)]) := by rw [e3]; exact upd_same
    have hrr3 := upd_keep e3 nrx (s2 _ _ hrr2)
    have hrs3 := upd_keep e3 nsx' hrs
    have Frs : H rs = none := S2.free nrs (fun z => nsx' (List.mem_singleton.mp z))
    clear e3 s1 s2 hrr2 hrs hX1 hX2 S1 S2 hrr nrr nrs
    have tk3 : Tk H K3 := S3.tk fun f hf xs e => by
      obtain rfl : f = x := List.mem_singleton.mp hf
      rw [hx] at e; cases e
    have hps3 := hps.tk tk3
    have hsh3 := S3 _ _ (fun z => nsx (List.mem_singleton.mp z)) hsh
    have hbk3 := hbk.sx1 S3 hx nbx
    refine ⟨_, rfl, a, rfl, ⟨_, .inl (.inl hps3.1)⟩, ?_⟩
    have lps : (ps.map fun p => V.ref p.1).length = ps.length := List.length_map _
    have bl := bgn_le hw
    refine for_wk (wk_tup (R := fun H' => H' a = some (.tup (ps.map fun p => V.ref p.1))) fun H' r => r) (fun i σ H' => ∃ y4, σ = [some (.ref x), some (.ref rb), some (.ref a), some (.ref sh), y4] ∧ Sx [rr, rs] K3 H' ∧ H' rr = some (.lst ((cat (wf ps) 0 i).map V.int)) ∧ H' rs = some (.lst ((List.range i).map fun k => V.int (bgn (wf ps) k : Nat))) ∧ H' a = some (.tup (ps.map fun p => V.ref p.1)))
      (fun _ _ _ ⟨_, _, _, _, _, h⟩ => h) ⟨_, rfl, .refl _, hrr3, hrs3, hps3.1⟩ ?_ ?_
    · rintro σ H' ⟨y4, rfl, S, hr4, hs4, ha4⟩
      rw [lps] at hr4 hs4
      have nf : ∀ b o, K3 b = some o → (∀ l, o ≠ .lst l) → H' b = some o := fun b o e n => S b o (fun z => by
        simp only [List.mem_cons, List.not_mem_nil, or_false] at z
        rcases z with z | z
        · rw [z, hrr3] at e; cases e; exact n _ rfl
        · rw [z, hrs3] at e; cases e; exact n _ rfl) e
      have hX4 := nf _ _ hX3 (fun _ z => nomatch z)
      have hbk4 := hbk3.sx S (fun f hf => by
        simp only [List.mem_cons, List.not_mem_nil, or_false] at hf
        rcases hf with z | z
        · rw [z]; exact .inl ⟨_, hrr3⟩
        · rw [z]; exact .inl ⟨_, hrs3⟩)
      have hsh4 := nf _ _ hsh3 (fun _ z => nomatch z)
      have S4 : ∀ b o, b ≠ x → H b = some o → H' b = some o := fun b o n e => S b o (fun z => by
        simp only [List.mem_cons, List.not_mem_nil, or_false] at z
        rcases z with z | z
        · rw [z, F1] at e; cases e
        · rw [z, Frs] at e; cases e) (S3 b o (fun z => n (List.mem_singleton.mp z)) e)
      have S4 : Sx [x] H H' := fun b o n e => S4 b o (fun z => n (List.mem_singleton.mpr z)) e
      clear nf S
      refine ⟨_, rfl, x, _, dx, _, _, rfl, hX4, CS, T.n_Sayer_starts, rfl, .inl ⟨rfl, _, .inl (.inl hs4)⟩, ?_⟩
      refine ⟨_, rfl, x, _, dx, _, _, rfl, hX4, CS, T.n_Sayer_row, rfl, rr, _, rfl, hr4, rs, _, _, rfl, rfl, hs4, cc_lt (n := 100) (by rw [List.length_map, List.length_range]; omega) (by omega), fun K5 e5 => ?_⟩
      have hs5 : K5 rs = some (.lst ((List.range (t.n + 2)).map fun k => V.int (bgn (wf ps) k : Nat))) := by
        rw [e5, upd_same, List.length_map, show t.n + 2 = ps.length + 1 by omega, List.range_succ, List.map_append]; rfl
      have hr5 := upd_keep e5 nrsr hr4
      have hX5 := upd_keep e5 nsx'.symm hX4
      have hsh5 := upd_keep e5 (ne_of hsh4 hs4 (fun z => nomatch z)) hsh4
      have hbk5 : BookAt g K5 rb B := hbk4.sx (fs := [rs]) (by rw [e5]; exact (Sx.refl _).put (by simp)) (fun f hf => by
        rw [List.mem_singleton.mp hf]; exact .inl ⟨_, hs4⟩)
      have S5 : Sx [x] H K5 := fun b o n e => upd_keep e5 (fun z => by rw [z, Frs] at e; cases e) (S4 b o n e)
      clear e5 hs4 hr4 hX4 hsh4 hbk4 S4 ha4
      rw [hl] at hr5
      refine ⟨_, rfl, fun jx jdx njx njd nej => ⟨jx, sh, jdx, t, rfl, upd_same, ⟨sho, same_mk0 njx njd _ _ hsh5, hdn⟩, by omega, fun K6 s6 hj => ⟨rfl, ?_⟩⟩⟩
      have t6 := same_mk njx njd s6
      have hX6 := t6 _ _ hX5
      obtain ⟨jdx', jf, jl, jab, hj1, hj2, hj3, hj4, hj5⟩ := hj
      have njx' : jx ≠ x := ne_of_none hX5 njx |>.symm
      have nf : ∀ b l, K6 b = some (.lst l) → b ≠ x := fun b l e => ne_of e hX6 (fun z => nomatch z)
      have hr6 := t6 _ _ hr5
      have hs6 := t6 _ _ hs5
      refine ⟨_, rfl, x, _, dx, _, rfl, hX6, CS, T.n_Sayer_joinings, n1000 rfl, fun K7 e7 => ?_⟩
      have old : ∀ b o, K5 b = some o → (upd (upd K5 jdx (.own jx)) jx (.ins (He.ga g.K "Joinings") jdx [])) b = some o := fun b o e => same_mk0 njx njd b o e
      have jfr : jf ≠ rr := (ne_of_none (old _ _ hr5) hj4).symm
      have jlr : jl ≠ rr := (ne_of_none (old _ _ hr5) hj5).symm
      have hbk6 := hbk5.same t6
      have hsh6 := t6 _ _ hsh5
      have S7 : Sx [x] H K7 := by rw [e7]; exact (S5.trans t6.sx).put mem
      have hX7 : K7 x = some (.ins (He.ga g.K "Sayer") dx [("book", .ref rb), ("row", .ref rr), ("starts", .ref rs), ("joinings", .ref jx)]) := by rw [e7]; exact upd_same
      have hr7 := upd_keep e7 nrx hr6
      have hs7 := upd_keep e7 nsx' hs6
      have hj17 := upd_keep e7 njx' hj1
      have hj27 := upd_keep e7 (nf _ _ hj2) hj2
      have hj37 := upd_keep e7 (nf _ _ hj3) hj3
      have hbk7 : BookAt g K7 rb B := hbk6.sx1 (by rw [e7]; exact (Sx.refl _).put mem) hX6 nbx
      have hsh7 := upd_keep e7 (ne_of hsh6 hX6 (fun z => nomatch z)) hsh6
      clear e7 hr6 hs6 hj1 hj2 hj3 hX6 hX5 hr5 hs5 hsh5 hbk5 S5 old nf hbk6 hsh6 t6
      refine ⟨_, rfl, sh, t, rfl, ⟨sho, hsh7, hdn⟩, by omega, fun ro K8 s8 nro hro => ?_⟩
      have hX8 := s8 _ _ hX7
      have nrox : ro ≠ x := ne_of hro hX8 (fun z => nomatch z)
      refine ⟨_, rfl, x, _, dx, _, rfl, hX8, CS, T.n_Sayer_order, n1000 rfl, fun K9 e9 => ?_⟩
      have nror : ro ≠ rr := (ne_of_none hr7 nro).symm
      have S9 : Sx [x] H K9 := by rw [e9]; exact (S7.trans s8.sx).put mem
      have hX9 : K9 x = some (.ins (He.ga g.K "Sayer") dx [("book", .ref rb), ("row", .ref rr), ("starts", .ref rs), ("joinings", .ref jx), ("order", .ref ro)]) := by rw [e9]; exact upd_same
      have k9 : ∀ b o, b ≠ x → K7 b = some o → K9 b = some o := fun b o n e => upd_keep e9 n (s8 _ _ e)
      have hro9 := upd_keep e9 nrox hro
      have hbk9 : BookAt g K9 rb B := (hbk7.same s8).sx1 (by rw [e9]; exact (Sx.refl _).put mem) hX8 nbx
      have nl7 : ∀ b l, K7 b = some (.lst l) → b ≠ x := fun b l e => ne_of e hX7 (fun z => nomatch z)
      have hr9 := k9 _ _ nrx hr7
      have hs9 := k9 _ _ nsx' hs7
      have hj19 := k9 _ _ njx' hj17
      have hj29 := k9 _ _ (nl7 _ _ hj27) hj27
      have hj39 := k9 _ _ (nl7 _ _ hj37) hj37
      have jfx := nl7 _ _ hj27
      have jlx := nl7 _ _ hj37
      clear e9 k9 hr7 hs7 hj17 hj27 hj37 hX7 hX8 hro s8 S7 hbk7 hsh7 nro nl7
      refine ⟨cc_le (n := 0) (Nat.le_refl _) (by omega), fun rc K10 s10 nrc hrc => ?_⟩
      have hX10 := s10 _ _ hX9
      have nrcx : rc ≠ x := ne_of hrc hX10 (fun z => nomatch z)
      refine ⟨_, rfl, x, _, dx, _, rfl, hX10, CS, T.n_Sayer_changed, n1000 rfl, fun K11 e11 => ?_⟩
      have S11 : Sx [x] H K11 := by rw [e11]; exact (S9.trans s10.sx).put mem
      have hX11 : K11 x = some (.ins (He.ga g.K "Sayer") dx [("book", .ref rb), ("row", .ref rr), ("starts", .ref rs), ("joinings", .ref jx), ("order", .ref ro), ("changed", .ref rc)]) := by rw [e11]; exact upd_same
      have k11 : ∀ b o, b ≠ x → K9 b = some o → K11 b = some o := fun b o n e => upd_keep e11 n (s10 _ _ e)
      have hrc11 := upd_keep e11 nrcx hrc
      have hbk11 : BookAt g K11 rb B := (hbk9.same s10).sx1 (by rw [e11]; exact (Sx.refl _).put mem) hX10 nbx
      have Frc : H rc = none := S9.free nrc (fun z => nrcx (List.mem_singleton.mp z))
      have crr := ne_of_none hr9 nrc
      have crs := ne_of_none hs9 nrc
      have cjf := ne_of_none hj29 nrc
      have cjl := ne_of_none hj39 nrc
      have cro := ne_of_none hro9 nrc
      clear e11
      intro rl K12 s12 nrl hrl
      have hX12 := s12 _ _ hX11
      have nrlx : rl ≠ x := ne_of hrl hX12 (fun z => nomatch z)
      refine ⟨_, rfl, x, _, dx, _, rfl, hX12, CS, T.n_Sayer_looked, n1000 rfl, fun K13 e13 => ?_⟩
      have S13 : Sx [x] H K13 := by rw [e13]; exact (S11.trans s12.sx).put mem
      have k13 : ∀ b o, b ≠ x → K11 b = some o → K13 b = some o := fun b o n e => upd_keep e13 n (s12 _ _ e)
      have Frl : H rl = none := S11.free nrl (fun z => nrlx (List.mem_singleton.mp z))
      refine kk K13 ⟨dx, rb, rr, rs, jx, ro, rc, rl, jdx', jf, jl, jab⟩ S13 F1 Frc Frl ⟨by rw [e13]; exact upd_same, (hbk11.same s12).sx1 (by rw [e13]; exact (Sx.refl _).put mem) hX12 nbx, k13 _ _ nrx (k11 _ _ nrx hr9), k13 _ _ nsx' (k11 _ _ nsx' hs9), k13 _ _ njx' (k11 _ _ njx' hj19), k13 _ _ jfx (k11 _ _ jfx hj29), k13 _ _ jlx (k11 _ _ jlx hj39), k13 _ _ nrox (k11 _ _ nrox hro9), ⟨_, k13 _ _ nrcx hrc11, Nat.le_refl _⟩, ⟨_, upd_keep e13 nrlx hrl, Nat.le_refl _⟩, ⟨nrsr.symm, nror, jfr, jlr⟩, ⟨crs, cro, cjf, cjl, crr⟩⟩
    · rintro i y σ H8 H9 hi ⟨y4, rfl, S, hr8, hs8, ha8⟩ s9 hy
      rw [lps] at hi
      rw [List.getElem?_map] at hy
      obtain ⟨p, hp, rfl⟩ := Option.map_eq_some_iff.mp hy
      have hr9 := s9 _ _ hr8
      have hs9 := s9 _ _ hs8
      have hX9 := s9 _ _ (S _ _ (fun z => by
        simp only [List.mem_cons, List.not_mem_nil, or_false] at z
        rcases z with z | z
        · exact nrx z.symm
        · exact nsx' z.symm) hX3)
      have li := bl i
      have wi := wf_at hp
      have hwp := hw p (List.mem_of_getElem? hp)
      have hp9 : RowAt H9 p.1 p.2 := s9 _ _ (S _ _ (fun z => by
        have q := hps3.2 p (List.mem_of_getElem? hp)
        simp only [List.mem_cons, List.not_mem_nil, or_false] at z
        rcases z with z | z
        · rw [RowAt, z, hrr3] at q; cases q
        · rw [RowAt, z, hrs3] at q; cases q) (hps3.2 p (List.mem_of_getElem? hp)))
      refine ⟨_, rfl, x, _, dx, _, _, rfl, hX9, CS, T.n_Sayer_starts, rfl, .inl ⟨rfl, _, .inl (.inl hs9)⟩, ?_⟩
      refine ⟨_, rfl, x, _, dx, _, _, rfl, hX9, CS, T.n_Sayer_row, rfl, rr, _, rfl, hr9, rs, _, _, rfl, rfl, hs9, cc_lt (n := 100) (by rw [List.length_map, List.length_range]; omega) (by omega), fun K5 e5 => ?_⟩
      have hs5 : K5 rs = some (.lst ((List.range (i + 1)).map fun k => V.int (bgn (wf ps) k : Nat))) := by
        rw [e5, upd_same, List.length_map, List.range_succ, List.map_append]; rfl
      have hr5 := upd_keep e5 nrsr hr9
      have hX5 := upd_keep e5 nsx'.symm hX9
      have hp5 := upd_keep e5 (ne_of hp9 hs9 (fun z => nomatch z)) hp9
      have S5 : Sx [rr, rs] K3 K5 := by rw [e5]; exact (S.trans s9.sx).put (by simp)
      have ha5 := upd_keep e5 (ne_of (s9 _ _ ha8) hs9 (fun z => nomatch z)) (s9 _ _ ha8)
      clear e5
      refine ⟨_, rfl, x, _, dx, _, _, rfl, hX5, CS, T.n_Sayer_row, rfl, .inl ⟨rfl, _, .inl (.inl hr5)⟩, ?_⟩
      refine ⟨_, rfl, p.1, _, rfl, hp5, fun q K6 s6 nq hq => ?_⟩
      refine ⟨rr, q, _, _, rfl, rfl, s6 _ _ hr5, hq, cc_le (n := 9000) (by rw [List.length_map, List.length_map]; show (cat (wf ps) 0 i).length + _ ≤ _; unfold bgn at li; omega) (by omega), fun K7 e7 => ?_⟩
      refine ⟨_, rfl, by rw [e7]; exact (S5.trans s6.sx).put (by simp), ?_, upd_keep e7 nrsr.symm (s6 _ _ hs5), upd_keep e7 (ne_of (s6 _ _ ha5) (s6 _ _ hr5) (fun z => nomatch z)) (s6 _ _ ha5)⟩
      rw [e7, upd_same, cat_snoc, wi, List.map_append]
def pSay (g : Gr) : Pr := fun vs H Q => ∃ (x : Addr) (s : SA) (B : Bk) (t : K73.T) (W : Nat → R), vs = [.ref x] ∧ SayAt g H x s B t W (cat W 0 (t.n + 1)) 0 ∧ B.Ok ∧ t.n ≤ 39 ∧ bgn W (t.n + 1) ≤ 9000 ∧
  ∀ H' c, Sx [s.rr, s.rc, s.rl] H H' → SayAt g H' x s B t W (say B W 0 t) c → Q (.ref x) H'
theorem fold_lens {B : Bk} (o : B.Ok) {W : Nat → R} {t : K73.T} : ∀ (l : List Nat) (row : R), (∀ k ∈ l, k < t.n) → row.length = bgn W (t.n + 1) → (l.foldl (joinAt B (bgn W) (t.fst 0) (t.lst 0)) row).length = bgn W (t.n + 1)
  | [], row, _, h => h
  | k :: l, row, hk, h => by
    have k1 := hk k List.mem_cons_self
    have f1 := fst_le t 0 k (Nat.zero_le _) (by omega)
    have l1 := lst_ge t 0 k (Nat.zero_le _) (by omega)
    have l2 := lst_le t 0 k (Nat.zero_le _) (by omega)
    have m1 := bgn_mono W (i := t.fst 0 k) (j := k + 1) (by omega)
    have m2 := bgn_mono W (i := k + 1) (j := t.lst 0 k + 1) (by omega)
    have m3 := bgn_mono W (i := t.lst 0 k + 1) (j := t.n + 1) (by omega)
    exact fold_lens o l _ (fun j hj => hk j (List.mem_cons_of_mem _ hj)) (by rw [fold_len o m1 m2 (by omega)]; exact h)
theorem ord_len (t : K73.T) (i : Nat) : (t.ord i).length = t.n := by rw [← pre_rev, List.length_reverse, pre_len]
theorem ok_say (T : Tx g) : MetG g 3 "Sayer" "say" (pSay g) := by
  have t_join := ok_Sayer_join T
  refine metD T.d_Sayer_say T.c_Sayer T.t_Sayer_say sc_Sayer_say (fun _ _ _ _ _ _ us hl => match us, hl with | [_], _ => rfl) (fun vs H Q h => ?_) fun cdv A outer s0 H vs Q hr h => ?_
  · obtain ⟨x, s, B, t, W, rfl, _⟩ := h; rfl
  · obtain ⟨x, s, B, t, W, rfl, h, o, hn, h9, kk⟩ := h
    refine ⟨_, (pss_cons (ps_forM PassesOwn.never rfl (pi_list (pe_fldG (K := g.K) (by rfl) (pv 0) rfl)) (pg_name (i := 1) sc_Sayer_say.nd rfl (by first | exact Or.inl rfl | exact Or.inr rfl))
        (pss_one (ps_expr (C8.pe_mt t_join hr (by omega) (pv 0) (pa_cons (pv 1) pa_nil)))))
      (pss_one (ps_ret (pv 0)))), ?_⟩
    have ll : ((t.ord 0).map fun (k : Nat) => V.int (k : Int)).length = t.n := by rw [List.length_map, ord_len]
    refine ⟨_, rfl, x, _, _, _, _, rfl, h.at_, T.c_Sayer, T.n_Sayer_order, rfl, s.ro, rfl, ⟨_, .inl (.inl h.ord)⟩, ?_⟩
    refine for_wk (wk_lst (R := fun H' => H' s.ro = some (.lst ((t.ord 0).map fun (k : Nat) => V.int (k : Int)))) fun H' r => r) (fun i σ H' => ∃ y1, σ = [some (.ref x), y1] ∧ Sx [s.rr, s.rc, s.rl] H H' ∧ SayAt g H' x s B t W (((t.ord 0).take i).foldl (joinAt B (bgn W) (t.fst 0) (t.lst 0)) (cat W 0 (t.n + 1))) (8 * i))
      (fun _ _ _ ⟨_, _, _, h⟩ => h.ord) ⟨_, rfl, .refl _, h⟩ ?_ ?_
    · rintro σ H' ⟨y1, rfl, S, hs⟩
      rw [ll, List.take_of_length_le (by rw [ord_len]; exact Nat.le_refl _), run_all o] at hs
      exact ⟨_, rfl, kk _ _ S hs⟩
    · rintro i y σ H8 H9 hi ⟨y1, rfl, S, hs⟩ s9 hy
      rw [ll] at hi
      rw [List.getElem?_map] at hy
      obtain ⟨k, hk, rfl⟩ := Option.map_eq_some_iff.mp hy
      have hm := ord_mem (List.mem_of_getElem? hk)
      have lr : (((t.ord 0).take i).foldl (joinAt B (bgn W) (t.fst 0) (t.lst 0)) (cat W 0 (t.n + 1))).length = bgn W (t.n + 1) := fold_lens o _ _ (fun j hj => by have := ord_mem (List.mem_of_mem_take hj); omega) rfl
      refine ⟨_, rfl, x, _, _, rfl, (hs.same s9).at_, rfl, _, rfl, x, k, s, B, t, W, _, _, rfl, hs.same s9, o, by omega, lr, by omega, by omega, fun H' S' hs' => ?_⟩
      refine ⟨_, rfl, (S.trans s9.sx).trans S', ?_⟩
      have e : ((t.ord 0).take (i + 1)) = (t.ord 0).take i ++ [k] := (take_snoc hk).symm
      rw [e, List.foldl_append]
      exact hs'
def pSaid (g : Gr) : Pr := fun vs H Q => ∃ (rb a sh : Addr) (B : Bk) (ps : List (Addr × R)) (t : K73.T), vs = [.ref rb, .ref a, .ref sh] ∧ BookAt g H rb B ∧ B.Ok ∧ WsAt H a ps ∧ WsOk B.s ps ∧ SpAt H sh (t.dep 0) ∧ ps.length = t.n + 1 ∧ t.n ≤ 39 ∧ ∀ q H', Same H H' → RowAt H' q (say B (wf ps) 0 t) → Q (.ref q) H'
theorem ok_said_row (T : Tx g) : CalG g 6 "said_row" (pSaid g) := by
  have m_Sayer := ok_Sayer T
  have t_say := ok_say T
  refine calD T.d_said_row T.g_said_row sc_said_row (fun _ _ _ _ _ _ us hl => match us, hl with | [_, _, _], _ => rfl) (fun vs H Q h => ?_) fun cdv A outer s0 H vs Q hr h => ?_
  · obtain ⟨rb, a, sh, B, ps, t, rfl, _⟩ := h; rfl
  · obtain ⟨rb, a, sh, B, ps, t, rfl, hb, o, hps, hw, hsh, hl, hn, kk⟩ := h
    refine ⟨_, (pss_one (ps_ret (pe_callTy call_tupM (by rfl) T.f_tuple (by decide +kernel) (pa_cons (pe_fldG (K := g.K) (by rfl) (C8.pe_mt0 t_say hr (by omega) (C8.pe_mk m_Sayer hr (by omega) (by rfl) (pa_cons (pv 0) (pa_cons (pv 1) (pa_cons (pv 2) pa_nil))))) rfl) pa_nil)))), ?_⟩
    refine ⟨_, rfl, _, rfl, _, rfl, fun x dx nx nd ne => ?_⟩
    have s0 := same_mk0 (o := HO.own x) (o' := HO.ins (He.ga g.K "Sayer") dx []) nx nd
    have nbx : rb ≠ x := by
      obtain ⟨_, _, z, _⟩ := hb
      exact ne_of_none z nx
    refine ⟨x, rb, a, sh, dx, B, ps, t, rfl, nbx, upd_same, hb.same s0, hps.same s0, hw, hsh.same s0, hl, hn, fun H1 s S1 f1 f2 f3 hs => ⟨rfl, ?_⟩⟩
    refine ⟨x, _, _, rfl, hs.at_, rfl, ?_⟩
    have bl := bgn_le hw (t.n + 1)
    refine ⟨x, s, B, t, wf ps, rfl, hs, o, hn, by omega, fun H2 c S2 hs2 => ?_⟩
    refine ⟨x, _, _, _, _, rfl, hs2.at_, T.c_Sayer, T.n_Sayer_row, rfl, s.rr, _, rfl, hs2.row, fun p H3 s3 hp => ?_⟩
    refine kk p _ (Same.trans (fun b o e => ?_) s3) hp
    have e0 := s0 _ _ e
    refine S2 b o (fun z => ?_) (same_mk nx nd S1 _ _ e)
    simp only [List.mem_cons, List.not_mem_nil, or_false] at z
    rcases z with z | z | z
    · rw [z, f1] at e0; cases e0
    · rw [z, f2] at e0; cases e0
    · rw [z, f3] at e0; cases e0
theorem ok_said (T : Tx g) : CalG g 8 "said" (pSaid g) := by
  have c_check_phrase := ok_check_phrase T
  have c_said_row := ok_said_row T
  refine calD T.d_said T.g_said sc_said (fun _ _ _ _ _ _ us hl => match us, hl with | [_, _, _], _ => rfl) (fun vs H Q h => ?_) fun cdv A outer s0 H vs Q hr h => ?_
  · obtain ⟨rb, a, sh, B, ps, t, rfl, _⟩ := h; rfl
  · obtain ⟨rb, a, sh, B, ps, t, rfl, hb, o, hps, hw, hsh, hl, hn, kk⟩ := h
    refine ⟨_, (pss_cons (ps_expr (C8.pe_c c_check_phrase hr (by omega) (by rfl) (pa_cons (pv 0) (pa_cons (pv 1) (pa_cons (pv 2) pa_nil)))))
      (pss_one (ps_ret (C8.pe_c c_said_row hr (by omega) (by rfl) (pa_cons (pv 0) (pa_cons (pv 1) (pa_cons (pv 2) pa_nil))))))), ?_⟩
    refine ⟨_, rfl, _, rfl, _, rfl, rb, a, sh, B, ps, t, rfl, hb, hps, hw, hsh, hl, hn, fun H1 s1 => ?_⟩
    exact ⟨_, rfl, _, rfl, _, rfl, rb, a, sh, B, ps, t, rfl, hb.same s1, o, hps.same s1, hw, hsh.same s1, hl, hn, fun q H2 s2 hq => kk q _ (s1.trans s2) hq⟩
end
end K73
end

section
set_option linter.all false
set_option maxRecDepth 100000
set_option maxHeartbeats 4000000
/-! rows that meet; summaries -/
namespace K73
open PySem PySem.Spec PyProof.Rows L2
theorem sIx_neg (n a : Nat) (h : 1 ≤ a) : HT.sIx n 0 (some (-(a : Int))) = n - a := by
  show (if (-(a : Int)) < 0 then ((-(a : Int)) + (n : Int)).toNat else min (-(a : Int)).toNat n) = n - a
  rw [if_pos (by omega)]
  omega
theorem la_cut {B : Bk} (x : R) : ((x.drop (x.length - B.a)).take (x.length - (x.length - B.a))) = B.la x := by
  unfold Bk.la
  rw [List.take_of_length_le (by rw [List.length_drop]; exact Nat.le_refl _)]
theorem fb_cut {B : Bk} (x : R) : ((x.drop 0).take (min B.b x.length - 0)) = B.fb x := by
  unfold Bk.fb
  rw [List.drop_zero, Nat.sub_zero]
  by_cases c : B.b ≤ x.length
  · rw [Nat.min_eq_left c]
  · rw [Nat.min_eq_right (by omega), List.take_length, List.take_of_length_le (by omega)]
section
variable {g : Gr}
def pJoined (g : Gr) : Pr := fun vs H Q => ∃ (rb a b : Addr) (B : Bk) (x y : R), vs = [.ref rb, .ref a, .ref b] ∧ BookAt g H rb B ∧ B.Ok ∧ RowAt H a x ∧ RowAt H b y ∧ x.length ≤ 1000 ∧ y.length ≤ 1000 ∧
  ∀ q H', Same H H' → PairAt H' q (x.take (x.length - B.a) ++ (B.f (B.la x) (B.fb y)).1, (B.f (B.la x) (B.fb y)).2 ++ y.drop (B.fb y).length) → Q (.ref q) H'
theorem ok_joined_rows (T : Tx g) : CalG g 2 "joined_rows" (pJoined g) := by
  have c_told := ok_told T
  refine calD T.d_joined_rows T.g_joined_rows sc_joined_rows (fun _ _ _ _ _ _ us hl => match us, hl with | [_, _, _], _ => rfl) (fun vs H Q h => ?_) fun cdv A outer s0 H vs Q hr h => ?_
  · obtain ⟨rb, a, b, B, x, y, rfl, _⟩ := h; rfl
  · obtain ⟨rb, a, b, B, x, y, rfl, hb, o, hx, hy, lx, ly, kk⟩ := h
    refine ⟨_, (pss_cons (ps_set (i := 3) sc_joined_rows.nd rfl (by first | exact Or.inl rfl | exact Or.inr rfl) (pe_slice sl_tupR (pv 1) (po_some (pe_un un_neg (pe_fldG (K := g.K) (by rfl) (pv 0) rfl))) po_none))
      (pss_cons (ps_set (i := 4) sc_joined_rows.nd rfl (by first | exact Or.inl rfl | exact Or.inr rfl) (pe_slice sl_tupR (pv 2) po_none (po_some (pe_fldG (K := g.K) (by rfl) (pv 0) rfl))))
      (pss_cons (ps_asg (C8.pe_c c_told hr (by omega) (by rfl) (pa_cons (pv 0) (pa_cons (pv 3) (pa_cons (pv 4) pa_nil)))) (pg_tupG (K := g.K) (by rfl) (by rfl) (pgs_cons (pg_name (i := 5) sc_joined_rows.nd rfl (by first | exact Or.inl rfl | exact Or.inr rfl)) (pgs_cons (pg_name (i := 6) sc_joined_rows.nd rfl (by first | exact Or.inl rfl | exact Or.inr rfl)) pgs_nil))))
      (pss_one (ps_ret (pe_tupM (pa_cons (pe_op op_catR (pe_slice sl_tupR (pv 1) po_none (po_some (pe_op op_sub (pe_callB call_lenR (by rfl) T.f_len (by decide +kernel) (pa_cons (pv 1) pa_nil)) (pe_callB call_lenR (by rfl) T.f_len (by decide +kernel) (pa_cons (pv 3) pa_nil))))) (pv 5)) (pa_cons (pe_op op_catR (pv 6) (pe_slice sl_tupR (pv 2) (po_some (pe_callB call_lenR (by rfl) T.f_len (by decide +kernel) (pa_cons (pv 4) pa_nil))) po_none)) pa_nil)))))))), ?_⟩
    obtain ⟨bdx, bd, hB, _⟩ := id hb
    have CB := T.c_Book
    have a1 := o.a1
    have b1 := o.b1
    refine ⟨_, rfl, _, rfl, _, _, _, _, _, rfl, hB, CB, T.n_Book_kept_ahead, rfl, _, rfl, _, rfl, a, x, _, _, rfl, hx, rfl, rfl, fun q1 H1 s1 h1 => ?_⟩
    rw [sIx_neg _ _ a1, HT.sIx_none, la_cut] at h1
    refine ⟨_, rfl, _, rfl, _, _, _, _, _, rfl, s1 _ _ hB, CB, T.n_Book_kept_behind, rfl, _, rfl, b, y, _, _, rfl, s1 _ _ hy, rfl, rfl, fun q2 H2 s2 h2 => ?_⟩
    rw [HT.sIx_none, HT.sIx_nat, fb_cut] at h2
    have t2 := s1.trans s2
    refine ⟨_, rfl, _, rfl, _, rfl, rb, q1, q2, B, _, _, rfl, hb.same t2, s2 _ _ h1, h2, fun q3 H3 s3 h3 => ?_⟩
    have fl := f_len o (B.la x) (B.fb y)
    have ll := la_len (B := B) x
    have lf := fb_len (B := B) y
    obtain ⟨c1, c2, hc, hc1, hc2⟩ := h3
    have t3 := t2.trans s3
    refine ⟨q3, _, rfl, .inl (.inl hc), rfl, _, _, rfl, _, _, rfl, rfl, ?_⟩
    have lal : (B.la x).length = x.length - (x.length - B.a) := by unfold Bk.la; rw [List.length_drop]
    have eH : ((x.length : Nat) : Int) - ((B.la x).length : Nat) = ((x.length - B.a : Nat) : Int) := by omega
    refine ⟨_, rfl, _, rfl, a, x, rfl, t3 _ _ hx, _, rfl, q1, _, rfl, (s2.trans s3) _ _ h1, _, _, rfl, rfl, _, rfl, a, x, _, _, rfl, t3 _ _ hx, rfl, rfl, fun q4 H4 s4 h4 => ?_⟩
    rw [eH, HT.sIx_none, HT.sIx_nat, Nat.min_eq_left (by omega), List.drop_zero, Nat.sub_zero] at h4
    refine ⟨_, rfl, q4, c1, _, _, rfl, rfl, h4, s4 _ _ hc1, cc_le (n := 2000) (by rw [List.length_take, fl.1]; omega) (by omega), fun q5 H5 s5 h5 => ?_⟩
    have t5 := (t3.trans s4).trans s5
    refine ⟨_, rfl, _, rfl, _, rfl, q2, _, rfl, (s3.trans (s4.trans s5)) _ _ h2, _, rfl, b, y, _, _, rfl, t5 _ _ hy, rfl, rfl, fun q6 H6 s6 h6 => ?_⟩
    rw [HT.sIx_none, HT.sIx_nat, Nat.min_eq_left (by omega), List.take_of_length_le (by rw [List.length_drop]; exact Nat.le_refl _)] at h6
    refine ⟨c2, q6, _, _, rfl, rfl, (s4.trans (s5.trans s6)) _ _ hc2, h6, cc_le (n := 2000) (by rw [List.length_drop, fl.2]; omega) (by omega), fun q7 H7 s7 h7 => ?_⟩
    refine ⟨cc_le (n := 2) (Nat.le_refl _) (by omega), fun q8 H8 s8 _ h8 => kk q8 _ (((t5.trans s6).trans s7).trans s8) ⟨q5, q7, h8, (s6.trans (s7.trans s8)) _ _ h5, s8 _ _ h7⟩⟩
def pMetRows (g : Gr) : Pr := fun vs H Q => ∃ (rb a b : Addr) (B : Bk) (x y : R), vs = [.ref rb, .ref a, .ref b] ∧ BookAt g H rb B ∧ B.Ok ∧ RowAt H a x ∧ RowAt H b y ∧ x.length ≤ 1000 ∧ y.length ≤ 1000 ∧ ∀ q H', Same H H' → RowAt H' q (B.met x y) → Q (.ref q) H'
theorem ok_met_rows (T : Tx g) : CalG g 3 "met_rows" (pMetRows g) := by
  have c_joined_rows := ok_joined_rows T
  refine calD T.d_met_rows T.g_met_rows sc_met_rows (fun _ _ _ _ _ _ us hl => match us, hl with | [_, _, _], _ => rfl) (fun vs H Q h => ?_) fun cdv A outer s0 H vs Q hr h => ?_
  · obtain ⟨rb, a, b, B, x, y, rfl, _⟩ := h; rfl
  · obtain ⟨rb, a, b, B, x, y, rfl, hb, o, hx, hy, lx, ly, kk⟩ := h
    refine ⟨_, (pss_cons (ps_asg (C8.pe_c c_joined_rows hr (by omega) (by rfl) (pa_cons (pv 0) (pa_cons (pv 1) (pa_cons (pv 2) pa_nil)))) (pg_tupG (K := g.K) (by rfl) (by rfl) (pgs_cons (pg_name (i := 3) sc_met_rows.nd rfl (by first | exact Or.inl rfl | exact Or.inr rfl)) (pgs_cons (pg_name (i := 4) sc_met_rows.nd rfl (by first | exact Or.inl rfl | exact Or.inr rfl)) pgs_nil))))
      (pss_one (ps_ret (pe_op op_catR (pv 3) (pv 4))))), ?_⟩
    refine ⟨_, rfl, _, rfl, _, rfl, rb, a, b, B, x, y, rfl, hb, o, hx, hy, lx, ly, fun q H1 s1 ⟨c1, c2, hc, h1, h2⟩ => ?_⟩
    have fl := f_len o (B.la x) (B.fb y)
    have ll := la_len (B := B) x
    have lf := fb_len (B := B) y
    exact ⟨q, _, rfl, .inl (.inl hc), rfl, _, _, rfl, _, _, rfl, rfl, _, rfl, _, rfl, c1, c2, _, _, rfl, rfl, h1, h2, cc_le (n := 4000) (by rw [List.length_append, List.length_append, List.length_take, List.length_drop, fl.1, fl.2]; omega) (by omega), fun p H2 s2 hp => kk p _ (s1.trans s2) hp⟩
def pMatters (g : Gr) : Pr := fun vs H Q => ∃ (rb a b c : Addr) (B : Bk) (x y z : R), vs = [.ref rb, .ref a, .ref b, .ref c] ∧ BookAt g H rb B ∧ B.Ok ∧ RowAt H a x ∧ RowAt H b y ∧ RowAt H c z ∧ x.length ≤ 100 ∧ y.length ≤ 100 ∧ z.length ≤ 100 ∧ ∀ H', Same H H' → Q (.bl (!decide (B.met x (B.met y z) = B.met (B.met x y) z))) H'
theorem ok_matters_at (T : Tx g) : CalG g 4 "matters_at" (pMatters g) := by
  have c_met_rows := ok_met_rows T
  refine calD T.d_matters_at T.g_matters_at sc_matters_at (fun _ _ _ _ _ _ us hl => match us, hl with | [_, _, _, _], _ => rfl) (fun vs H Q h => ?_) fun cdv A outer s0 H vs Q hr h => ?_
  · obtain ⟨rb, a, b, c, B, x, y, z, rfl, _⟩ := h; rfl
  · obtain ⟨rb, a, b, c, B, x, y, z, rfl, hb, o, hx, hy, hz, lx, ly, lz, kk⟩ := h
    refine ⟨_, (pss_one (ps_ret (pe_cmpR (op_neR (by exact hr.units)) (C8.pe_c c_met_rows hr (by omega) (by rfl) (pa_cons (pv 0) (pa_cons (pv 1) (pa_cons (C8.pe_c c_met_rows hr (by omega) (by rfl) (pa_cons (pv 0) (pa_cons (pv 2) (pa_cons (pv 3) pa_nil)))) pa_nil)))) (C8.pe_c c_met_rows hr (by omega) (by rfl) (pa_cons (pv 0) (pa_cons (C8.pe_c c_met_rows hr (by omega) (by rfl) (pa_cons (pv 0) (pa_cons (pv 1) (pa_cons (pv 2) pa_nil)))) (pa_cons (pv 3) pa_nil)))) (nomark _)))), ?_⟩
    refine ⟨_, rfl, _, rfl, _, rfl, _, rfl, _, rfl, rb, b, c, B, y, z, rfl, hb, o, hy, hz, by omega, by omega, fun q1 H1 s1 h1 => ?_⟩
    refine ⟨rb, a, q1, B, x, _, rfl, hb.same s1, o, s1 _ _ hx, h1, by omega, by rw [met_len o]; omega, fun q2 H2 s2 h2 => ?_⟩
    have t2 := s1.trans s2
    refine ⟨_, rfl, _, rfl, _, rfl, _, rfl, rb, a, b, B, x, y, rfl, hb.same t2, o, t2 _ _ hx, t2 _ _ hy, by omega, by omega, fun q3 H3 s3 h3 => ?_⟩
    have t3 := t2.trans s3
    refine ⟨_, rfl, rb, q3, c, B, _, z, rfl, hb.same t3, o, h3, t3 _ _ hz, by rw [met_len o]; omega, by omega, fun q4 H4 s4 h4 => ?_⟩
    exact ⟨q2, q4, _, _, rfl, rfl, (s3.trans s4) _ _ h2, h4, kk _ (t3.trans s4)⟩
def pSummed (g : Gr) : Pr := fun vs H Q => ∃ (rb a : Addr) (B : Bk) (x : R), vs = [.ref rb, .ref a] ∧ BookAt g H rb B ∧ B.Ok ∧ RowAt H a x ∧ ∀ q H', Same H H' → PairAt H' q (B.sm x) → Q (.ref q) H'
theorem ok_summed_up (T : Tx g) : CalG g 2 "summed_up" (pSummed g) := by
  have t_reach := ok_reach T
  refine calD T.d_summed_up T.g_summed_up sc_summed_up (fun _ _ _ _ _ _ us hl => match us, hl with | [_, _], _ => rfl) (fun vs H Q h => ?_) fun cdv A outer s0 H vs Q hr h => ?_
  · obtain ⟨rb, a, B, x, rfl, _⟩ := h; rfl
  · obtain ⟨rb, a, B, x, rfl, hb, o, hx, kk⟩ := h
    refine ⟨_, (pss_cons (ps_if (pt_cmpR op_lt (pe_callB call_lenR (by rfl) T.f_len (by decide +kernel) (pa_cons (pv 1) pa_nil)) (C8.pe_mt0 t_reach hr (by omega) (pv 0)) (nomark _))
        (pss_one (ps_ret (pe_tupM (pa_cons (pv 1) (pa_cons (pe_tupM pa_nil) pa_nil)))))
        pss_nil)
      (pss_one (ps_ret (pe_tupM (pa_cons (pe_slice sl_tupR (pv 1) po_none (po_some (pe_fldG (K := g.K) (by rfl) (pv 0) rfl))) (pa_cons (pe_slice sl_tupR (pv 1) (po_some (pe_un un_neg (pe_fldG (K := g.K) (by rfl) (pv 0) rfl))) po_none) pa_nil)))))), ?_⟩
    obtain ⟨bdx, bd, hB, _⟩ := id hb
    have CB := T.c_Book
    have a1 := o.a1
    refine ⟨_, rfl, a, x, rfl, hx, _, rfl, rb, _, _, rfl, hB, rfl, rb, B, rfl, hb, _, _, rfl, rfl, _, rfl, ?_⟩
    by_cases c : x.length < B.a + B.b
    · refine ifT (decide_eq_true (by omega)) ⟨_, rfl, ⟨cc_le (n := 0) (Nat.le_refl _) (by omega), fun q1 H1 s1 _ h1 => ⟨cc_le (n := 2) (Nat.le_refl _) (by omega), fun q2 H2 s2 _ h2 => kk q2 _ (s1.trans s2) ?_⟩⟩⟩
      rw [sm_short c]
      exact ⟨a, q1, h2, (s1.trans s2) _ _ hx, s2 _ _ h1⟩
    · refine ifF (decide_eq_false (by omega)) ?_
      refine ⟨_, rfl, _, rfl, _, _, _, _, _, rfl, hB, CB, T.n_Book_kept_behind, rfl, _, rfl, a, x, _, _, rfl, hx, rfl, rfl, fun q1 H1 s1 h1 => ?_⟩
      rw [HT.sIx_none, HT.sIx_nat, fb_cut] at h1
      refine ⟨_, rfl, _, rfl, _, _, _, _, _, rfl, s1 _ _ hB, CB, T.n_Book_kept_ahead, rfl, _, rfl, _, rfl, a, x, _, _, rfl, s1 _ _ hx, rfl, rfl, fun q2 H2 s2 h2 => ?_⟩
      rw [sIx_neg _ _ a1, HT.sIx_none, la_cut] at h2
      refine ⟨cc_le (n := 2) (Nat.le_refl _) (by omega), fun q3 H3 s3 _ h3 => kk q3 _ ((s1.trans s2).trans s3) ?_⟩
      rw [sm_long c]
      exact ⟨q1, q2, h3, (s2.trans s3) _ _ h1, s3 _ _ h2⟩
def pStanding : Pr := fun vs H Q => ∃ (a : Addr) (p : R × R), vs = [.ref a] ∧ PairAt H a p ∧ p.1.length ≤ 100 ∧ p.2.length ≤ 100 ∧ ∀ q H', Same H H' → RowAt H' q (st p) → Q (.ref q) H'
theorem ok_standing_for (T : Tx g) : CalG g 1 "standing_for" pStanding := by
  refine calD T.d_standing_for T.g_standing_for sc_standing_for (fun _ _ _ _ _ _ us hl => match us, hl with | [_], _ => rfl) (fun vs H Q h => ?_) fun cdv A outer s0 H vs Q hr h => ?_
  · obtain ⟨a, p, rfl, _⟩ := h; rfl
  · obtain ⟨a, p, rfl, ⟨b, c, h1, h2, h3⟩, l1, l2, kk⟩ := h
    exact ⟨_, (pss_one (ps_ret (pe_op op_catR (pe_ix ix_tupM (pv 0) pe_int (fun _ _ => rfl)) (pe_ix ix_tupM (pv 0) pe_int (fun _ _ => rfl))))), _, rfl, a, _, _, _, rfl, rfl, h1, rfl, _, rfl, a, _, _, _, rfl, rfl, h1, rfl, b, c, _, _, rfl, rfl, h2, h3, cc_le (n := 200) (by omega) (by omega), kk⟩
def pIsPair (g : Gr) : Pr := fun vs H Q => ∃ (rb a : Addr) (B : Bk) (p : R × R), vs = [.ref rb, .ref a] ∧ BookAt g H rb B ∧ PairAt H a p ∧ B.Ok ∧ Rw B.s p.1 ∧ Rw B.s p.2 ∧ p.1.length ≤ B.a + B.b ∧ p.2.length ≤ B.a + B.b ∧ ∀ H', Same H H' → Q (.bl true) H'
theorem ok_is_pair_of_rows (T : Tx g) : CalG g 5 "is_pair_of_rows" (pIsPair g) := by
  have c_is_sounds := ok_is_sounds T
  have t_reach := ok_reach T
  refine calD T.d_is_pair_of_rows T.g_is_pair_of_rows sc_is_pair_of_rows (fun _ _ _ _ _ _ us hl => match us, hl with | [_, _], _ => rfl) (fun vs H Q h => ?_) fun cdv A outer s0 H vs Q hr h => ?_
  · obtain ⟨rb, a, B, p, rfl, _⟩ := h; rfl
  · obtain ⟨rb, a, B, p, rfl, hb, ⟨b, c, h1, h2, h3⟩, o, w1, w2, l1, l2, kk⟩ := h
    refine ⟨_, (pss_cons (ps_if (PW.pt (pw_or (pt_not (pt_val (pe_callB call_isiTup (by rfl) T.f_isinstance (by decide +kernel) (pa_cons (pv 1) (pa_cons (pe_bltn (by rfl) T.f_tuple (by decide +kernel) (v := .ty "tuple") rfl) pa_nil))))) (pw_or1 (pt_cmpR op_ne (pe_callB call_lenT (by rfl) T.f_len (by decide +kernel) (pa_cons (pv 1) pa_nil)) pe_int (nomark _)))))
        (pss_one (ps_ret pe_bl))
        pss_nil)
      (pss_one (ps_ret (pe_callB (call_allM rfl) (by rfl) T.f_all (by decide +kernel) (pa_cons (pe_lcM (own := [("row", 2)]) (g := gName 2) (tt := tYes) (by rfl) sc_is_pair_of_rows.nd (pi_tup (pv 1)) (blkOk_by (own := [("row", 2)]) (N := ["book", "thing", "row"]) (sc := defScope st_is_pair_of_rows) (by decide +kernel)) (fun _ _ _ _ _ => pg_name (i := 2) sc_is_pair_of_rows.nd rfl (Or.inl rfl)) (fun _ _ _ _ _ => pts_nil) (fun _ _ _ _ _ => (C8.pe_c c_is_sounds hr (by omega) (by rfl) (pa_cons (pv 2) (pa_cons (pe_fldG (K := g.K) (by rfl) (pv 0) rfl) (pa_cons pe_int (pa_cons (C8.pe_mt0 t_reach hr (by omega) (pv 0)) pa_nil))))))) pa_nil))))), ?_⟩
    have a4 := o.a4
    have b4 := o.b4
    obtain ⟨bdx, bd, hB, _⟩ := id hb
    refine ⟨_, rfl, a, _, rfl, h1, true, rfl, _, rfl, a, _, rfl, h1, rfl, false, rfl, ?_⟩
    refine ⟨_, rfl, a, rfl, ⟨_, .inl (.inl h1)⟩, ?_⟩
    refine lc_wk (wk_tup (fun H' s' => s' _ _ h1)) (fun i acc _ => acc = List.replicate i (.bl true)) (fun _ _ _ _ _ e => e) (fun i acc _ hi e => ?_) (fun _ _ => rfl) (fun C i z acc H' hi s' hx' e y n => ?_) fun D ys H1 s1 hD hys e => ?_
    · rw [e, List.length_replicate]
      exact cc_lt (n := 2) hi (by omega)
    · have go : ∀ q r, RowAt H q r → Rw B.s r → r.length ≤ B.a + B.b → z = .ref q → gName 2 z (wipe (L2.start ["book", "thing", "row"] [V.ref rb, V.ref a]) [2]) H' fun σ2 H2 => wipe σ2 [2] = wipe (L2.start ["book", "thing", "row"] [V.ref rb, V.ref a]) [2] ∧ tYes σ2 H2 fun b H3 => if b = true then tCall pIsSounds.sp [] C8.E0 (tCons (tVar 2) (tCons (tFld g.K (tVar 0) "kept_sounds") (tCons (tC (.int 0)) (tCons (tMeth (He.ga g.K "Book") "reach" (pReach g).sp [] C8.E0 (tVar 0) tNil) tNil)))) σ2 H3 (fun y H4 => C (some y) H4) else C none H3 := fun q r hq hw hl ez => by
        subst ez
        refine ⟨rfl, _, rfl, _, rfl, _, _, _, _, _, rfl, s' _ _ hB, T.c_Book, T.n_Book_kept_sounds, rfl, _, rfl, rb, _, _, rfl, s' _ _ hB, rfl, rb, B, rfl, hb.same s', ?_⟩
        exact ⟨q, B.s, 0, _, r, rfl, s' _ _ hq, hw, by omega, by omega, by omega, fun H2 s2 => y _ _ s2 (by rw [e, List.replicate_succ'])⟩
      match i, hi, hx' with
      | 0, _, hx' => cases hx'; exact go b p.1 h2 w1 l1 rfl
      | 1, _, hx' => cases hx'; exact go c p.2 h3 w2 l2 rfl
    · subst e
      exact ⟨_, _, rfl, hys, kk _ s1⟩
def pIsShort : Pr := fun vs H Q => ∃ (a : Addr) (p : R × R), vs = [.ref a] ∧ PairAt H a p ∧ Q (.bl (decide (p.2.length = 0))) H
theorem ok_is_short (T : Tx g) : CalG g 1 "is_short" pIsShort := by
  refine calD T.d_is_short T.g_is_short sc_is_short (fun _ _ _ _ _ _ us hl => match us, hl with | [_], _ => rfl) (fun vs H Q h => ?_) fun cdv A outer s0 H vs Q hr h => ?_
  · obtain ⟨a, p, rfl, _⟩ := h; rfl
  · obtain ⟨a, p, rfl, ⟨b, c, h1, h2, h3⟩, kk⟩ := h
    refine ⟨_, (pss_one (ps_ret (pe_cmpR op_eq (pe_callB call_lenR (by rfl) T.f_len (by decide +kernel) (pa_cons (pe_ix ix_tupM (pv 0) pe_int (fun _ _ => rfl)) pa_nil)) pe_int (nomark _)))), _, rfl, a, _, _, _, rfl, rfl, h1, rfl, c, _, rfl, h3, rfl, ?_⟩
    have e : decide (V.int (p.2.length : Nat) = V.int 0) = decide (p.2.length = 0) := by
      by_cases z : p.2.length = 0
      · rw [z]; rfl
      · rw [decide_eq_false z, decide_eq_false (fun q => z (by injection q with q; omega))]
    rw [e]
    exact kk
end
end K73
end

section
set_option linter.all false
set_option maxRecDepth 100000
set_option maxHeartbeats 4000000
/-! the closing: its parts, add, joined, join -/
namespace K73
open PySem PySem.Spec PyProof.Rows L2
section
variable {X : Cx} {κ : Type} [DecidableEq κ] {D : KD κ}
def sDPutM (P : Program) (w : World) (D : KD κ) (td ty tv : TE) : TS := fun E σ H => tv σ H fun v H1 => td σ H1 fun x H2 => ty σ H2 fun y H3 => ∃ a kvs k b, x = .ref a ∧ y = .ref b ∧ DMt P w D H3 a kvs ∧ D.lies H3 b k ∧ kvs.length < sizeLine ∧
  ∀ o H', H' = upd H3 a o → DMt P w D H' a (putK kvs k v) → E.nx σ H'
theorem ps_dputM {o i value : Expr} {pos pos' : Pos} {td ty tv : TE} (hu : X.A.units + 64 < cLine) (ho : PE X o td) (hi : PE X i ty) (hv : PE X value tv) (hs : swapsWith value (some (.Subscript o i pos')) pos.line X.env = pure false) :
    PS X (.Assign [.Subscript o i pos'] value pos) (sDPutM X.prog X.w D td ty tv) := ps_imp (ps_dputN hu (pe_m ho) (pe_m hi) (pe_m hv) hs) fun E σ H q =>
  ⟨_, q, fun v H1 q1 => ⟨_, q1, fun x H2 q2 => ⟨_, q2, fun y H3 ⟨a, kvs, k, b, e1, e2, d, l, hl, q3⟩ => ⟨a, kvs, k, b, e1, e2, d, l, hl, fun o => q3 o _ rfl⟩⟩⟩⟩
def tDNewM (P : Program) (w : World) (D : KD κ) : TE := fun _ H Q => ∀ p H', Same H H' → H p = none → H' p = some (DO P w D p []) → Q (.ref p) H'
theorem pe_dnewM {pos : Pos} : PE X (.Dict [] [] pos) (tDNewM X.prog X.w D) := pe_imp pe_dnewN fun σ H Q q p hp => q p _ (same_new hp) hp upd_same
end
theorem keys_put {κ : Type} [DecidableEq κ] {kvs : List (κ × V)} {k : κ} {v : V} (h : k ∈ kvs.map (·.1)) : (putK kvs k v).map (·.1) = kvs.map (·.1) := by
  obtain ⟨p, hp, e⟩ := List.mem_map.mp h
  have q : (kvs.any fun kv => decide (kv.1 = k)) = true := List.any_eq_true.mpr ⟨p, hp, decide_eq_true e⟩
  unfold putK
  rw [if_pos q, List.map_map]
  refine List.map_congr_left fun x _ => ?_
  show (if x.1 = k then (x.1, v) else x).1 = x.1
  split <;> rfl
theorem keys_new {κ : Type} [DecidableEq κ] {kvs : List (κ × V)} {k : κ} {v : V} (h : k ∉ kvs.map (·.1)) : (putK kvs k v).map (·.1) = kvs.map (·.1) ++ [k] := by
  have q : valV kvs k = none := by
    cases e : valV kvs k with
    | none => rfl
    | some x => exact absurd (valV_in e) h
  rw [putK_new v q, List.map_append]; rfl
/-- a dict whose keys are F, each value as P says -/
def DF (g : Gr) (H : Hp) (d : Addr) (F : List (R × R)) (P : R × R → V → Prop) : Prop := ∃ kvs, DMt g.P g.w pairD H d kvs ∧ kvs.map (·.1) = F ∧ ∀ p ∈ F, ∃ v, valV kvs p = some v ∧ P p v
section
variable {g : Gr}
theorem DMt.tks {κ : Type} [DecidableEq κ] {D : KD κ} {P : Program} {w : World} {H H' : Hp} {d : Addr} {kvs : List (κ × V)} (h : DMt P w D H d kvs) (t : Tk H H') (e : ∀ o, H d = some o → H' d = some o) : DMt P w D H' d kvs := by
  obtain ⟨es, h1, h2, h3⟩ := h
  exact ⟨es, e _ h1, h2, fun x hx => D.mono t (h3 x hx)⟩
theorem DF.put {H' : Hp} {d : Addr} {F : List (R × R)} {P P' : R × R → V → Prop} {kvs : List ((R × R) × V)} {p : R × R} {v : V} (h2 : kvs.map (·.1) = F) (h3 : ∀ p ∈ F, ∃ v, valV kvs p = some v ∧ P p v) (hn : DMt g.P g.w pairD H' d (putK kvs p v)) (hv : P' p v) (hk : ∀ q ∈ F, q ≠ p → ∀ u, P q u → P' q u) :
    DF g H' d (if p ∈ F then F else F ++ [p]) P' := by
  refine ⟨_, hn, ?_, fun q hq => ?_⟩
  · by_cases c : p ∈ F
    · rw [if_pos c, keys_put (by rw [h2]; exact c), h2]
    · rw [if_neg c, keys_new (by rw [h2]; exact c), h2]
  · rw [valV_put]
    by_cases c : q = p
    · rw [if_pos c, c]; exact ⟨v, rfl, hv⟩
    · rw [if_neg c]
      have hq' : q ∈ F := by
        by_cases c2 : p ∈ F
        · rw [if_pos c2] at hq; exact hq
        · rw [if_neg c2] at hq
          rcases List.mem_append.mp hq with z | z
          · exact z
          · exact absurd (List.mem_singleton.mp z) c
      obtain ⟨u, e1, e2⟩ := h3 q hq'
      exact ⟨u, e1, hk q hq' c u e2⟩
def MdAt (H : Hp) (v : V) : Md → Prop
  | .w x => ∃ q, v = .ref q ∧ RowAt H q x
  | .p a b => ∃ q c d, v = .ref q ∧ H q = some (.tup [.ref c, .ref d]) ∧ PairAt H c a ∧ PairAt H d b
theorem MdAt.tk {H H' : Hp} {v : V} {m : Md} (h : MdAt H v m) (t : Tk H H') : MdAt H' v m := by
  cases m with
  | w x => obtain ⟨q, e, h⟩ := h; exact ⟨q, e, t _ _ h⟩
  | p a b => obtain ⟨q, c, d, e, h1, h2, h3⟩ := h; exact ⟨q, c, d, e, t _ _ h1, h2.tk t, h3.tk t⟩
/-- where the parts of a closing lie -/
structure CA where
  dx : Addr
  rb : Addr
  fl : Addr
  d1 : Addr
  d2 : Addr
def ces (c : CA) : List Addr := [c.fl, c.d1, c.d2]
structure ClosAt (g : Gr) (H : Hp) (x : Addr) (c : CA) (B : Bk) (es : List (Addr × (R × R))) (fw : R × R → Int) (md : R × R → Md) : Prop where
  at_ : H x = some (.ins (He.ga g.K "Closing") c.dx [("book", .ref c.rb), ("found", .ref c.fl), ("fewest", .ref c.d1), ("made_of", .ref c.d2)])
  bk : ∃ H0, BookAt g H0 c.rb B ∧ Same H0 H ∧ ∀ f ∈ ces c, H0 f = none
  fnd : H c.fl = some (.lst (es.map fun e => V.ref e.1))
  els : ∀ e ∈ es, PairAt H e.1 e.2
  few : DF g H c.d1 (es.map (·.2)) fun p v => v = .int (fw p)
  mo : DF g H c.d2 (es.map (·.2)) fun p v => MdAt H v (md p)
  ne : c.d1 ≠ c.d2
theorem ClosAt.book {H : Hp} {x : Addr} {c : CA} {B : Bk} {es : List (Addr × (R × R))} {fw : R × R → Int} {md : R × R → Md} (h : ClosAt g H x c B es fw md) : BookAt g H c.rb B := let ⟨H0, h1, h2, _⟩ := h.bk; h1.same h2
theorem ClosAt.kind {H : Hp} {x : Addr} {c : CA} {B : Bk} {es : List (Addr × (R × R))} {fw : R × R → Int} {md : R × R → Md} (h : ClosAt g H x c B es fw md) : ∀ f ∈ ces c, (∃ l, H f = some (.lst l)) ∨ ∃ φ, H f = some (.ext φ) := fun f hf => by
  unfold ces at hf
  simp only [List.mem_cons, List.not_mem_nil, or_false] at hf
  obtain ⟨k1, ⟨e1, h1, _⟩, _⟩ := h.few
  obtain ⟨k2, ⟨e2, h2, _⟩, _⟩ := h.mo
  rcases hf with z | z | z
  · rw [z]; exact .inl ⟨_, h.fnd⟩
  · rw [z]; exact .inr ⟨_, h1⟩
  · rw [z]; exact .inr ⟨_, h2⟩
theorem Sx.tkc {H H' : Hp} {fs : List Addr} (s : Sx fs H H') (k : ∀ f ∈ fs, (∃ l, H f = some (.lst l)) ∨ ∃ φ, H f = some (.ext φ)) : Tk H H' := s.tk fun f hf xs e => by
  rcases k f hf with ⟨l, h⟩ | ⟨φ, h⟩
  · rw [h] at e; cases e
  · rw [h] at e; cases e
theorem ClosAt.same {H H' : Hp} {x : Addr} {c : CA} {B : Bk} {es : List (Addr × (R × R))} {fw : R × R → Int} {md : R × R → Md} (h : ClosAt g H x c B es fw md) (s : Same H H') : ClosAt g H' x c B es fw md := by
  obtain ⟨k1, h1, h2, h3⟩ := h.few
  obtain ⟨k2, h4, h5, h6⟩ := h.mo
  exact ⟨s _ _ h.at_, let ⟨H0, b1, b2, b3⟩ := h.bk; ⟨H0, b1, b2.trans s, b3⟩, s _ _ h.fnd, fun e he => (h.els e he).same s, ⟨k1, h1.same s, h2, h3⟩, ⟨k2, h4.same s, h5, fun p hp => let ⟨v, e1, e2⟩ := h6 p hp; ⟨v, e1, e2.tk s.tk⟩⟩, h.ne⟩
def pClJoined (g : Gr) : Pr := fun vs H Q => ∃ (x a b : Addr) (c : CA) (B : Bk) (es : List (Addr × (R × R))) (fw : R × R → Int) (md : R × R → Md) (p q : R × R), vs = [.ref x, .ref a, .ref b] ∧ ClosAt g H x c B es fw md ∧ B.Ok ∧ PairAt H a p ∧ PairAt H b q ∧ Sg B p ∧ Sg B q ∧ ∀ r H', Same H H' → PairAt H' r (B.jn p q) → Q (.ref r) H'
theorem st_len {B : Bk} (o : B.Ok) {p : R × R} (h : Sg B p) : p.1.length ≤ 8 ∧ p.2.length ≤ 8 ∧ (st p).length ≤ 16 := by
  have := h.len
  have := o.a4
  have := o.b4
  unfold st
  rw [List.length_append]
  omega
theorem ok_cl_joined (T : Tx g) : MetG g 4 "Closing" "joined" (pClJoined g) := by
  have c_summed_up := ok_summed_up T
  have c_met_rows := ok_met_rows T
  have c_standing_for := ok_standing_for T
  refine metD T.d_Closing_joined T.c_Closing T.t_Closing_joined sc_Closing_joined (fun _ _ _ _ _ _ us hl => match us, hl with | [_, _, _], _ => rfl) (fun vs H Q h => ?_) fun cdv A outer s0 H vs Q hr h => ?_
  · obtain ⟨x, a, b, c, B, es, fw, md, p, q, rfl, _⟩ := h; rfl
  · obtain ⟨x, a, b, c, B, es, fw, md, p, q, rfl, h, o, ha, hb, sp, sq, kk⟩ := h
    refine ⟨_, (pss_one (ps_ret (C8.pe_c c_summed_up hr (by omega) (by rfl) (pa_cons (pe_fldG (K := g.K) (by rfl) (pv 0) rfl) (pa_cons (C8.pe_c c_met_rows hr (by omega) (by rfl) (pa_cons (pe_fldG (K := g.K) (by rfl) (pv 0) rfl) (pa_cons (C8.pe_c c_standing_for hr (by omega) (by rfl) (pa_cons (pv 1) pa_nil)) (pa_cons (C8.pe_c c_standing_for hr (by omega) (by rfl) (pa_cons (pv 2) pa_nil)) pa_nil)))) pa_nil))))), ?_⟩
    have CC := T.c_Closing
    have l1 := st_len o sp
    have l2 := st_len o sq
    refine ⟨_, rfl, x, _, _, _, _, rfl, h.at_, CC, T.n_Closing_book, rfl, _, rfl, x, _, _, _, _, rfl, h.at_, CC, T.n_Closing_book, rfl, _, rfl, a, p, rfl, ha, by omega, by omega, fun r1 H1 s1 h1 => ?_⟩
    refine ⟨_, rfl, b, q, rfl, hb.same s1, by omega, by omega, fun r2 H2 s2 h2 => ?_⟩
    have t2 := s1.trans s2
    refine ⟨c.rb, r1, r2, B, _, _, rfl, h.book.same t2, o, s2 _ _ h1, h2, by omega, by omega, fun r3 H3 s3 h3 => ?_⟩
    exact ⟨c.rb, r3, B, _, rfl, h.book.same (t2.trans s3), o, h3, fun r4 H4 s4 h4 => kk r4 _ ((t2.trans s3).trans s4) h4⟩
/-- what may stand in the closing for a summary -/
def MdPre (B : Bk) (W : R → Prop) (F : List (R × R)) (fw : R × R → Int) (p : R × R) (n : Int) : Md → Prop
  | .w x => n = 1 ∧ W x ∧ B.sm x = p
  | .p q r => q ∈ F ∧ r ∈ F ∧ B.jn q r = p ∧ fw q + fw r ≤ n
def pAdd (g : Gr) : Pr := fun vs H Q => ∃ (x q : Addr) (n : Int) (v : V) (c : CA) (B : Bk) (W : R → Prop) (es : List (Addr × (R × R))) (fw : R × R → Int) (md : R × R → Md) (p : R × R) (m : Md), vs = [.ref x, .ref q, .int n, v] ∧ ClosAt g H x c B es fw md ∧ B.Ok ∧ CI B W (es.map (·.2)) fw md ∧ PairAt H q p ∧ Sg B p ∧ 1 ≤ n ∧ MdAt H v m ∧ MdPre B W (es.map (·.2)) fw p n m ∧
  ∀ H' es' fw' md', Sx (ces c) H H' → ClosAt g H' x c B es' fw' md' → CI B W (es'.map (·.2)) fw' md' → (∃ ex, es' = es ++ ex) → p ∈ es'.map (·.2) → (∀ r ∈ es.map (·.2), fw' r = fw r) → (p ∉ es.map (·.2) → fw' p = n) → (∀ r ∈ es'.map (·.2), r ∈ es.map (·.2) ∨ r = p) → Q .non H'
theorem ok_add (T : Tx g) : MetG g 1 "Closing" "add" (pAdd g) := by
  refine metD T.d_Closing_add T.c_Closing T.t_Closing_add sc_Closing_add (fun _ _ _ _ _ _ us hl => match us, hl with | [_, _, _, _], _ => rfl) (fun vs H Q h => ?_) fun cdv A outer s0 H vs Q hr h => ?_
  · obtain ⟨x, q, n, v, c, B, W, es, fw, md, p, m, rfl, _⟩ := h; rfl
  · obtain ⟨x, q, n, v, c, B, W, es, fw, md, p, m, rfl, h, o, ci, hq, sp, hn, hm, pre, kk⟩ := h
    refine ⟨_, (pss_one (ps_if (pt_cmp (pc_dnotinN (D := pairD) (by exact hr.units) (pv 1) (pe_fldG (K := g.K) (by rfl) (pv 0) rfl)))
        (pss_cons (ps_dputM (D := pairD) (by exact hr.units) (pe_fldG (K := g.K) (by rfl) (pv 0) rfl) (pv 1) (pv 2) rfl)
        (pss_cons (ps_dputM (D := pairD) (by exact hr.units) (pe_fldG (K := g.K) (by rfl) (pv 0) rfl) (pv 1) (pv 3) rfl)
        (pss_cons (ps_expr (pe_bm PySem.F.plainAttrs_list PySem.F.slot_list_append PySem.F.type_list_append mt_appendM (pe_fldG (K := g.K) (by rfl) (pv 0) rfl) (pa_cons (pv 1) pa_nil)))
        (pss_one (ps_if (pt_cmpR op_gt (pe_callB call_lenL (by rfl) T.f_len (by decide +kernel) (pa_cons (pe_fldG (K := g.K) (by rfl) (pv 0) rfl) pa_nil)) (C8.pe_gc (by rfl) T.v_MOST_SUMMARIES) (nomark _))
          (pss_one ps_never)
          pss_nil)))))
        pss_nil)), ?_⟩
    have CC := T.c_Closing
    obtain ⟨k1, d1, e1, f1⟩ := h.few
    obtain ⟨k2, d2, e2, f2⟩ := h.mo
    refine ⟨_, rfl, _, rfl, x, _, _, _, _, rfl, h.at_, CC, T.n_Closing_fewest, rfl, c.d1, k1, p, q, rfl, rfl, d1.rd, hq, _, rfl, ?_⟩
    by_cases hp : p ∈ es.map (·.2)
    · obtain ⟨u, hu, _⟩ := f1 p hp
      refine ifF (by rw [hu]; rfl) (kk H es fw md (.refl _) h ci ⟨[], by rw [List.append_nil]⟩ hp (fun _ _ => rfl) (fun z => absurd hp z) fun r hr => .inl hr)
    · have hno : valV k1 p = none := by
        cases e : valV k1 p with
        | none => rfl
        | some u => exact absurd (e1 ▸ valV_in e) hp
      refine ifT (by rw [hno]; rfl) ?_
      have lenF := ci.len o
      have lk1 : k1.length ≤ 400 := by rw [← e1, List.length_map] at lenF; exact lenF
      have lk2 : k2.length ≤ 400 := by
        have := ci.len o
        rw [← e2, List.length_map] at this; exact this
      have kd := h.kind
      obtain ⟨es1, hd1, _, _⟩ := id d1
      obtain ⟨es2, hd2, _, _⟩ := id d2
      refine ⟨_, rfl, _, rfl, x, _, _, _, _, rfl, h.at_, CC, T.n_Closing_fewest, rfl, _, rfl, c.d1, k1, p, q, rfl, rfl, d1, hq, cc_lt (n := 401) (by omega) (by omega), fun o1 K1 g1 dn1 => ?_⟩
      have t1 : Tk H K1 := by rw [g1]; exact tk_ext hd1
      have hX1 := upd_keep g1 (ne_of h.at_ hd1 (fun z => nomatch z)) h.at_
      have hf1 := upd_keep g1 (ne_of h.fnd hd1 (fun z => nomatch z)) h.fnd
      have d21 : DMt g.P g.w pairD K1 c.d2 k2 := d2.tks t1 fun o e => upd_keep g1 h.ne.symm e
      have S1 : Sx (ces c) H K1 := by rw [g1]; exact (Sx.refl _).put (by simp [ces])
      refine ⟨_, rfl, _, rfl, x, _, _, _, _, rfl, hX1, CC, T.n_Closing_made_of, rfl, _, rfl, c.d2, k2, p, q, rfl, rfl, d21, hq.tk t1, cc_lt (n := 401) (by omega) (by omega), fun o2 K2 g2 dn2 => ?_⟩
      obtain ⟨es3, hd3, _, _⟩ := id d21
      have t2 : Tk K1 K2 := by rw [g2]; exact tk_ext hd3
      have hX2 := upd_keep g2 (ne_of hX1 hd3 (fun z => nomatch z)) hX1
      have hf2 := upd_keep g2 (ne_of hf1 hd3 (fun z => nomatch z)) hf1
      have dn12 : DMt g.P g.w pairD K2 c.d1 (putK k1 p (.int n)) := dn1.tks t2 fun o e => upd_keep g2 h.ne e
      have S2 : Sx (ces c) H K2 := by rw [g2]; exact S1.put (by simp [ces])
      refine ⟨_, rfl, x, _, _, _, _, rfl, hX2, CC, T.n_Closing_found, rfl, .inl ⟨rfl, _, .inl (.inl hf2)⟩, _, rfl, ?_⟩
      have lE : (es.map fun e => V.ref e.1).length ≤ 400 := by rw [List.length_map] at lenF ⊢; exact lenF
      refine ⟨c.fl, _, _, rfl, rfl, hf2, cc_lt (n := 401) (by omega) (by omega), fun K3 g3 => ?_⟩
      have t3 : Tk K2 K3 := by rw [g3]; exact tk_lst hf2
      have hX3 := upd_keep g3 (ne_of hX2 hf2 (fun z => nomatch z)) hX2
      have hf3 : K3 c.fl = some (.lst ((es ++ [(q, p)]).map fun e => V.ref e.1)) := by rw [g3, upd_same, List.map_append]; rfl
      obtain ⟨_, hh1, _, _⟩ := id dn12
      obtain ⟨_, hh2, _, _⟩ := id dn2
      have D1 : DMt g.P g.w pairD K3 c.d1 (putK k1 p (.int n)) := dn12.tks t3 fun o e => upd_keep g3 (ne_of hh1 hf2 (fun z => nomatch z)) e
      have D2 : DMt g.P g.w pairD K3 c.d2 (putK k2 p v) := dn2.tks t3 fun o e => upd_keep g3 (ne_of hh2 hf2 (fun z => nomatch z)) e
      have S3 : Sx (ces c) H K3 := by rw [g3]; exact S2.put (by simp [ces])
      have T3 : Tk H K3 := S3.tkc kd
      have hbk : ∃ H0, BookAt g H0 c.rb B ∧ Same H0 K3 ∧ ∀ f ∈ ces c, H0 f = none := let ⟨H0, b1, b2, b3⟩ := h.bk; ⟨H0, b1, S3.same b2 b3, b3⟩
      have ci' := ci_add (n := n) (m := m) ci hp sp hn (by cases m <;> exact pre)
      have ef : (es ++ [(q, p)]).map (·.2) = es.map (·.2) ++ [p] := by rw [List.map_append]; rfl
      have cl : ClosAt g K3 x c B (es ++ [(q, p)]) (setAt fw p n) (setAt md p m) := by
        refine ⟨hX3, hbk, hf3, fun e he => ?_, ?_, ?_, h.ne⟩
        · rcases List.mem_append.mp he with he | he
          · exact (h.els e he).tk T3
          · rw [List.mem_singleton.mp he]; exact hq.tk T3
        · have := DF.put (g := g) (P' := fun p' v => v = .int (setAt fw p n p')) e1 f1 D1 (by rw [setAt_same]) (fun r _ hne u hu => by rw [setAt_ne hne]; exact hu)
          rw [if_neg hp] at this
          rw [ef]; exact this
        · have := DF.put (g := g) (P' := fun p' v => MdAt K3 v (setAt md p m p')) e2 f2 D2 (by rw [setAt_same]; exact hm.tk T3) (fun r _ hne u hu => by rw [setAt_ne hne]; exact hu.tk T3)
          rw [if_neg hp] at this
          rw [ef]; exact this
      rw [← ef] at ci'
      refine ⟨_, rfl, x, _, _, _, _, rfl, hX3, CC, T.n_Closing_found, rfl, c.fl, _, rfl, hf3, _, _, rfl, rfl, false, congrArg V.bl (decide_eq_false ?_), ?_⟩
      · have := ci'.len o
        rw [List.length_map] at this ⊢
        omega
      · exact kk K3 _ _ _ S3 cl ci' ⟨[(q, p)], rfl⟩ (by rw [ef]; exact List.mem_append_right _ List.mem_cons_self) (fun r hr => setAt_ne (fun e => hp (e ▸ hr))) (fun _ => setAt_same) fun r hr => by
          rw [ef] at hr
          rcases List.mem_append.mp hr with hr | hr
          · exact .inl hr
          · exact .inr (List.mem_singleton.mp hr)
end
end K73
end

section
set_option linter.all false
set_option maxRecDepth 100000
set_option maxHeartbeats 4000000
/-! the closing: join, made -/
namespace K73
open PySem PySem.Spec PyProof.Rows L2
section
variable {g : Gr}
theorem DF.get {H : Hp} {d : Addr} {F : List (R × R)} {P : R × R → V → Prop} {p : R × R} (h : DF g H d F P) (hp : p ∈ F) : ∃ kvs v, DAt g.P g.w pairD H d kvs ∧ valV kvs p = some v ∧ P p v := by
  obtain ⟨kvs, h1, h2, h3⟩ := h
  obtain ⟨v, e1, e2⟩ := h3 p hp
  exact ⟨kvs, v, h1.rd, e1, e2⟩
def pClJoin (g : Gr) : Pr := fun vs H Q => ∃ (x a b : Addr) (c : CA) (B : Bk) (W : R → Prop) (es : List (Addr × (R × R))) (fw : R × R → Int) (md : R × R → Md) (p q : R × R), vs = [.ref x, .ref a, .ref b] ∧ ClosAt g H x c B es fw md ∧ B.Ok ∧ CI B W (es.map (·.2)) fw md ∧ PairAt H a p ∧ PairAt H b q ∧ p ∈ es.map (·.2) ∧ q ∈ es.map (·.2) ∧
  ∀ H' es' fw' md', Sx (ces c) H H' → ClosAt g H' x c B es' fw' md' → CI B W (es'.map (·.2)) fw' md' → (∃ ex, es' = es ++ ex) → B.jn p q ∈ es'.map (·.2) → (∀ r ∈ es.map (·.2), fw' r = fw r) → Q .non H'
theorem ok_cl_join (T : Tx g) : MetG g 5 "Closing" "join" (pClJoin g) := by
  have t_add := ok_add T
  have t_joined := ok_cl_joined T
  refine metD T.d_Closing_join T.c_Closing T.t_Closing_join sc_Closing_join (fun _ _ _ _ _ _ us hl => match us, hl with | [_, _, _], _ => rfl) (fun vs H Q h => ?_) fun cdv A outer s0 H vs Q hr h => ?_
  · obtain ⟨x, a, b, c, B, W, es, fw, md, p, q, rfl, _⟩ := h; rfl
  · obtain ⟨x, a, b, c, B, W, es, fw, md, p, q, rfl, h, o, ci, ha, hb, hp, hq, kk⟩ := h
    refine ⟨_, (pss_one (ps_expr (C8.pe_mt t_add hr (by omega) (pv 0) (pa_cons (C8.pe_mt t_joined hr (by omega) (pv 0) (pa_cons (pv 1) (pa_cons (pv 2) pa_nil))) (pa_cons (pe_op op_add (pe_dgetN (D := pairD) (by exact hr.units) (pe_fldG (K := g.K) (by rfl) (pv 0) rfl) (pv 1) (fun _ _ => rfl)) (pe_dgetN (D := pairD) (by exact hr.units) (pe_fldG (K := g.K) (by rfl) (pv 0) rfl) (pv 2) (fun _ _ => rfl))) (pa_cons (pe_tupM (pa_cons (pv 1) (pa_cons (pv 2) pa_nil))) pa_nil)))))), ?_⟩
    have CC := T.c_Closing
    have sp := ci.sg p hp
    have sq := ci.sg q hq
    refine ⟨_, rfl, x, _, _, rfl, h.at_, rfl, _, rfl, x, _, _, rfl, h.at_, rfl, _, rfl, _, rfl, x, a, b, c, B, es, fw, md, p, q, rfl, h, o, ha, hb, sp, sq, fun r H1 s1 h1 => ?_⟩
    have c1 := h.same s1
    obtain ⟨k1, v1, d1, e1, rfl⟩ := c1.few.get hp
    obtain ⟨k2, v2, d2, e2, rfl⟩ := c1.few.get hq
    refine ⟨_, rfl, x, _, _, _, _, rfl, c1.at_, CC, T.n_Closing_fewest, rfl, _, rfl, c.d1, k1, p, a, _, rfl, rfl, d1, ha.same s1, e1, ?_⟩
    refine ⟨_, rfl, x, _, _, _, _, rfl, c1.at_, CC, T.n_Closing_fewest, rfl, _, rfl, c.d1, k2, q, b, _, rfl, rfl, d2, hb.same s1, e2, _, _, rfl, rfl, ?_⟩
    refine ⟨_, rfl, _, rfl, cc_le (n := 2) (Nat.le_refl _) (by omega), fun tq H2 s2 _ h2 => ?_⟩
    have t2 := s1.trans s2
    have pp := ci.pos p hp
    have pq := ci.pos q hq
    refine ⟨x, r, fw p + fw q, .ref tq, c, B, W, es, fw, md, _, .p p q, rfl, c1.same s2, o, ci, h1.same s2, sg_jn o sp sq, by omega, ⟨tq, a, b, rfl, h2, ha.same t2, hb.same t2⟩, ⟨hp, hq, rfl, Int.le_refl _⟩, fun H3 es' fw' md' s3 c3 ci3 ex hin fk _ _ => kk H3 es' fw' md' (t2.sx.trans s3) c3 ci3 ex hin fk⟩
def pClosing (g : Gr) : Pr := fun vs H Q => ∃ (x rb a dx : Addr) (B : Bk) (ps : List (Addr × R)) (H0 : Hp), vs = [.ref x, .ref rb, .ref a] ∧ H x = some (.ins (He.ga g.K "Closing") dx []) ∧ Same H0 H ∧ H0 x = none ∧ BookAt g H0 rb B ∧ B.Ok ∧ WsAt H0 a ps ∧ WsOk B.s ps ∧ ps.length ≤ 12 ∧
  ∀ H' c es fw md, Same H0 H' → (∀ f ∈ ces c, H0 f = none) → c.rb = rb → ClosAt g H' x c B es fw md → CI B (fun r => r ∈ ps.map (·.2)) (es.map (·.2)) fw md → (∀ p ∈ ps, B.sm p.2 ∈ es.map (·.2)) → (∀ p ∈ es.map (·.2), ∀ q ∈ es.map (·.2), B.jn p q ∈ es.map (·.2)) → (∀ p ∈ ps, fw (B.sm p.2) = 1) → Q .non H'
theorem sub_ex {es es' : List (Addr × (R × R))} {p : R × R} (h : ∃ ex, es' = es ++ ex) (hp : p ∈ es.map (·.2)) : p ∈ es'.map (·.2) := by
  obtain ⟨ex, rfl⟩ := h
  rw [List.map_append]
  exact List.mem_append_left _ hp
theorem get_ex {es es' : List (Addr × (R × R))} {i : Nat} {e : Addr × (R × R)} (h : ∃ ex, es' = es ++ ex) (hp : es[i]? = some e) : es'[i]? = some e := by
  obtain ⟨ex, rfl⟩ := h
  obtain ⟨hl, _⟩ := List.getElem?_eq_some_iff.mp hp
  rw [List.getElem?_append_left hl]; exact hp
theorem ex_trans {es es' es2 : List (Addr × (R × R))} (h : ∃ ex, es' = es ++ ex) (k : ∃ ex, es2 = es' ++ ex) : ∃ ex, es2 = es ++ ex := by
  obtain ⟨ex, rfl⟩ := h
  obtain ⟨ex2, rfl⟩ := k
  exact ⟨ex ++ ex2, by rw [List.append_assoc]⟩
/-- the first n are joined with each other -/
def Cl2 (B : Bk) (es : List (Addr × (R × R))) (n : Nat) : Prop := ∀ i j e f, i < n → j < n → es[i]? = some e → es[j]? = some f → B.jn e.2 f.2 ∈ es.map (·.2)
theorem ok_Closing (T : Tx g) : MakG g 6 "Closing" (pClosing g) := by
  have t_add := ok_add T
  have t_join := ok_cl_join T
  have c_summed_up := ok_summed_up T
  refine makD T.d_Closing_init T.m_Closing T.g_Closing sc_Closing_init (fun _ _ _ _ _ _ us hl => match us, hl with | [_, _, _], _ => rfl) (fun vs H Q h => ?_) fun cdv A outer s0 H vs Q hr h => ?_
  · obtain ⟨x, rb, a, dx, B, ps, H0, rfl, _⟩ := h; rfl
  · obtain ⟨x, rb, a, dx, B, ps, H0, rfl, hx, b0, nx, hbk, o, hps, hw, h12, kk⟩ := h
    refine ⟨_, (pss_cons (ps_fldM (K := g.K) (by rfl) (pv 0) (pv 1) rfl)
      (pss_cons (ps_fldM (K := g.K) (by rfl) (pv 0) (pe_lstM pa_nil) rfl)
      (pss_cons (ps_fldM (K := g.K) (by rfl) (pv 0) (pe_dnewM (D := pairD)) rfl)
      (pss_cons (ps_fldM (K := g.K) (by rfl) (pv 0) (pe_dnewM (D := pairD)) rfl)
      (pss_cons (ps_forM PassesOwn.never rfl (pi_tup (pv 2)) (pg_name (i := 3) sc_Closing_init.nd rfl (by first | exact Or.inl rfl | exact Or.inr rfl))
        (pss_one (ps_expr (C8.pe_mt t_add hr (by omega) (pv 0) (pa_cons (C8.pe_c c_summed_up hr (by omega) (by rfl) (pa_cons (pv 1) (pa_cons (pv 3) pa_nil))) (pa_cons pe_int (pa_cons (pv 3) pa_nil)))))))
      (pss_cons (ps_set (i := 4) sc_Closing_init.nd rfl (by first | exact Or.inl rfl | exact Or.inr rfl) pe_int)
      (pss_one (ps_whileM PassesOwn.never (pt_cmpR op_lt (pv 4) (pe_callB call_lenL (by rfl) T.f_len (by decide +kernel) (pa_cons (pe_fldG (K := g.K) (by rfl) (pv 0) rfl) pa_nil)) (nomark _))
        (pss_cons (ps_forM PassesOwn.never rfl (pi_rangeM1 (by rfl) T.f_range (pa_cons (pe_op op_add (pv 4) pe_int) pa_nil)) (pg_name (i := 5) sc_Closing_init.nd rfl (by first | exact Or.inl rfl | exact Or.inr rfl))
          (pss_cons (ps_expr (C8.pe_mt t_join hr (by omega) (pv 0) (pa_cons (pe_ix ix_lstM (pe_fldG (K := g.K) (by rfl) (pv 0) rfl) (pv 4) (fun _ _ => rfl)) (pa_cons (pe_ix ix_lstM (pe_fldG (K := g.K) (by rfl) (pv 0) rfl) (pv 5) (fun _ _ => rfl)) pa_nil))))
          (pss_one (ps_expr (C8.pe_mt t_join hr (by omega) (pv 0) (pa_cons (pe_ix ix_lstM (pe_fldG (K := g.K) (by rfl) (pv 0) rfl) (pv 5) (fun _ _ => rfl)) (pa_cons (pe_ix ix_lstM (pe_fldG (K := g.K) (by rfl) (pv 0) rfl) (pv 4) (fun _ _ => rfl)) pa_nil)))))))
        (pss_one (ps_aug (i := 4) sc_Closing_init.nd rfl (by first | exact Or.inl rfl | exact Or.inr rfl) pe_int ip_add))))))))))), ?_⟩
    have CC := T.c_Closing
    have mem : x ∈ [x] := List.mem_singleton.mpr rfl
    have fx : ∀ f ∈ [x], H0 f = none := fun f hf => by rw [List.mem_singleton.mp hf]; exact nx
    refine ⟨_, rfl, _, rfl, x, _, dx, _, rfl, hx, CC, T.n_Closing_book, n1000 rfl, fun K1 e1 => ?_⟩
    have B1 : Same H0 K1 := by rw [e1]; exact same_put b0 nx
    have hX1 : K1 x = some (.ins (He.ga g.K "Closing") dx [("book", .ref rb)]) := by rw [e1]; exact upd_same
    clear e1
    refine ⟨cc_le (n := 0) (Nat.le_refl _) (by omega), fun fl H1 s1 nfl hfl => ?_⟩
    refine ⟨_, rfl, x, _, dx, _, rfl, s1 _ _ hX1, CC, T.n_Closing_found, n1000 rfl, fun K2 e2 => ?_⟩
    have flx : fl ≠ x := ne_of hfl (s1 _ _ hX1) (fun z => nomatch z)
    have F1 : H0 fl = none := B1.free nfl
    have B2 : Same H0 K2 := by rw [e2]; exact same_put (B1.trans s1) nx
    have hX2 : K2 x = some (.ins (He.ga g.K "Closing") dx [("book", .ref rb), ("found", .ref fl)]) := by rw [e2]; exact upd_same
    have hfl2 := upd_keep e2 flx hfl
    clear e2
    intro d1 H2 s2 nd1 hd1
    refine ⟨_, rfl, x, _, dx, _, rfl, s2 _ _ hX2, CC, T.n_Closing_fewest, n1000 rfl, fun K3 e3 => ?_⟩
    have d1x : d1 ≠ x := ne_of hd1 (s2 _ _ hX2) (fun z => nomatch z)
    have F2 : H0 d1 = none := B2.free nd1
    have B3 : Same H0 K3 := by rw [e3]; exact same_put (B2.trans s2) nx
    have hX3 : K3 x = some (.ins (He.ga g.K "Closing") dx [("book", .ref rb), ("found", .ref fl), ("fewest", .ref d1)]) := by rw [e3]; exact upd_same
    have hfl3 := upd_keep e3 flx (s2 _ _ hfl2)
    have hd13 := upd_keep e3 d1x hd1
    clear e3
    intro d2 H3 s3 nd2 hd2
    refine ⟨_, rfl, x, _, dx, _, rfl, s3 _ _ hX3, CC, T.n_Closing_made_of, n1000 rfl, fun K4 e4 => ?_⟩
    have d2x : d2 ≠ x := ne_of hd2 (s3 _ _ hX3) (fun z => nomatch z)
    have F3 : H0 d2 = none := B3.free nd2
    have n12 : d1 ≠ d2 := ne_of_none hd13 nd2
    have B4 : Same H0 K4 := by rw [e4]; exact same_put (B3.trans s3) nx
    have hX4 : K4 x = some (.ins (He.ga g.K "Closing") dx [("book", .ref rb), ("found", .ref fl), ("fewest", .ref d1), ("made_of", .ref d2)]) := by rw [e4]; exact upd_same
    have hfl4 := upd_keep e4 flx (s3 _ _ hfl3)
    have hd14 := upd_keep e4 d1x (s3 _ _ hd13)
    have hd24 := upd_keep e4 d2x hd2
    clear e4 s1 s2 s3 hX1 hX2 hX3 hfl2 hfl3 hd13 nfl nd1 nd2 hd1 hd2 hfl
    have fre : ∀ f ∈ ces ⟨dx, rb, fl, d1, d2⟩, H0 f = none := fun f hf => by
      unfold ces at hf
      simp only [List.mem_cons, List.not_mem_nil, or_false] at hf
      rcases hf with z | z | z
      · rw [z]; exact F1
      · rw [z]; exact F2
      · rw [z]; exact F3
    have c0 : ClosAt g K4 x ⟨dx, rb, fl, d1, d2⟩ B [] (fun _ => 0) (fun _ => .w []) := ⟨hX4, ⟨H0, hbk, B4, fre⟩, hfl4, (fun e he => nomatch he), ⟨[], ⟨[], hd14, rfl, fun _ h => (nomatch h)⟩, rfl, fun _ h => (nomatch h)⟩, ⟨[], ⟨[], hd24, rfl, fun _ h => (nomatch h)⟩, rfl, fun _ h => (nomatch h)⟩, n12⟩
    have hps4 := hps.same B4
    refine ⟨_, rfl, a, rfl, ⟨_, .inl (.inl hps4.1)⟩, ?_⟩
    have hc : CA.rb ⟨dx, rb, fl, d1, d2⟩ = rb := rfl
    generalize (⟨dx, rb, fl, d1, d2⟩ : CA) = c at c0 fre hc
    have lps : (ps.map fun p => V.ref p.1).length = ps.length := List.length_map _
    clear hX4 hfl4 hd14 hd24 n12
    refine for_wk (wk_tup (R := fun H' => Same H0 H') fun H' r => r _ _ hps.1) (fun i σ H' => ∃ y3 y4 y5 es fw md, σ = [some (.ref x), some (.ref rb), some (.ref a), y3, y4, y5] ∧ Same H0 H' ∧ ClosAt g H' x c B es fw md ∧ CI B (fun r => r ∈ ps.map (·.2)) (es.map (·.2)) fw md ∧ (∀ j p, j < i → ps[j]? = some p → B.sm p.2 ∈ es.map (·.2)) ∧ ∀ r ∈ es.map (·.2), fw r = 1)
      (fun _ _ _ ⟨_, _, _, _, _, _, _, h, _⟩ => h) ⟨_, _, _, [], _, _, rfl, B4, c0, ci_nil, (fun j p hj => absurd hj (Nat.not_lt_zero _)), (fun _ h => nomatch h)⟩ ?_ ?_
    · rintro σ H' ⟨y3, y4, y5, es, fw, md, rfl, b5, h5, ci5, all5, one5⟩
      rw [lps] at all5
      have all5 : ∀ p ∈ ps, B.sm p.2 ∈ es.map (·.2) := fun p hp => by
        obtain ⟨j, hj⟩ := List.mem_iff_getElem?.mp hp
        exact all5 j p (List.getElem?_eq_some_iff.mp hj).1 hj
      refine while_m (fun m σ H' => ∃ (at_ : Nat) (y3 y5 : Option V) (es : List (Addr × (R × R))) (fw : R × R → Int) (md : R × R → Md), σ = [some (.ref x), some (.ref rb), some (.ref a), y3, some (.int (at_ : Nat)), y5] ∧ Same H0 H' ∧ ClosAt g H' x c B es fw md ∧ CI B (fun r => r ∈ ps.map (·.2)) (es.map (·.2)) fw md ∧ (∀ p ∈ ps, B.sm p.2 ∈ es.map (·.2)) ∧ Cl2 B es at_ ∧ at_ + m = 401 ∧ ∀ p ∈ ps, fw (B.sm p.2) = 1) ?_ ?_
      · exact ⟨401, 0, _, _, es, fw, md, rfl, b5, h5, ci5, all5, (fun i j e f hi => absurd hi (Nat.not_lt_zero _)), by omega, fun p hp => one5 _ (all5 p hp)⟩
      · rintro m σ H6 E ⟨at_, y3, y5, es, fw, md, rfl, b6, h6, ci6, all6, cl, em, one6⟩ yes no
        have lenF := ci6.len o
        rw [List.length_map] at lenF
        refine ⟨_, rfl, _, rfl, x, _, _, _, _, rfl, h6.at_, CC, T.n_Closing_found, rfl, c.fl, _, rfl, h6.fnd, _, _, rfl, rfl, _, rfl, ?_⟩
        rw [List.length_map]
        by_cases hat : at_ < es.length
        · rw [decide_eq_true (by omega)]
          refine yes _ ?_
          obtain ⟨ea, hea⟩ : ∃ ea, es[at_]? = some ea := ⟨_, List.getElem?_eq_getElem hat⟩
          refine ⟨_, rfl, _, _, rfl, rfl, at_ + 1, rfl, by omega, ?_⟩
          refine for_wk (wk_rng (R := fun _ => True)) (fun i σ H' => ∃ (y3 y5 : Option V) (es' : List (Addr × (R × R))) (fw : R × R → Int) (md : R × R → Md), σ = [some (.ref x), some (.ref rb), some (.ref a), y3, some (.int (at_ : Nat)), y5] ∧ Same H0 H' ∧ ClosAt g H' x c B es' fw md ∧ CI B (fun r => r ∈ ps.map (·.2)) (es'.map (·.2)) fw md ∧ (∃ ex, es' = es ++ ex) ∧ (∀ j f, j < i → es[j]? = some f → B.jn ea.2 f.2 ∈ es'.map (·.2) ∧ B.jn f.2 ea.2 ∈ es'.map (·.2)) ∧ ∀ p ∈ ps, fw (B.sm p.2) = 1) (fun _ _ _ _ => trivial)
            ⟨_, _, es, _, _, rfl, b6, h6, ci6, ⟨[], by rw [List.append_nil]⟩, (fun j f hj => absurd hj (Nat.not_lt_zero _)), one6⟩ ?_ ?_
          · rintro σ H7 ⟨y3, y5, es', fw', md', rfl, b7, h7, ci7, ex, dn, one7⟩
            refine ⟨_, rfl, _, _, rfl, rfl, ?_⟩
            refine ⟨m - 1, by omega, at_ + 1, _, _, es', fw', md', rfl, b7, h7, ci7, fun p hp => sub_ex ex (all6 p hp), ?_, by omega, one7⟩
            intro i j e f hi hj he hf
            have lt : ∀ k, k < at_ + 1 → ∀ e, es'[k]? = some e → es[k]? = some e := fun k hk e he => by
              obtain ⟨z, hz⟩ : ∃ z, es[k]? = some z := ⟨_, List.getElem?_eq_getElem (by omega)⟩
              rw [get_ex ex hz] at he
              rw [hz]; exact he
            have he' := lt i hi e he
            have hf' := lt j hj f hf
            by_cases ci' : i = at_
            · subst ci'
              rw [hea] at he'; cases he'
              exact (dn j f hj hf').1
            · by_cases cj : j = at_
              · subst cj
                rw [hea] at hf'; cases hf'
                exact (dn i e hi he').2
              · exact sub_ex ex (cl i j e f (by omega) (by omega) he' hf')
          · rintro i y σ H7 H8 hi ⟨y3, y5, es', fw', md', rfl, b7, h7, ci7, ex, dn, one7⟩ s8 rfl
            have h8 := h7.same s8
            have b8 := b7.trans s8
            rw [Int.zero_add]
            obtain ⟨eo, heo⟩ : ∃ eo, es[i]? = some eo := ⟨_, List.getElem?_eq_getElem (by omega)⟩
            have mA : ∀ {k : Nat} {e : Addr × (R × R)} {l : List (Addr × (R × R))}, l[k]? = some e → (l.map fun e => V.ref e.1)[k]? = some (V.ref e.1) := fun h => by rw [List.getElem?_map, h]; rfl
            have mI : ∀ {k : Nat} {e : Addr × (R × R)} {l : List (Addr × (R × R))}, l[k]? = some e → e.2 ∈ l.map (·.2) := fun h => List.mem_map.mpr ⟨_, List.mem_of_getElem? h, rfl⟩
            have gA := get_ex ex hea
            have gO := get_ex ex heo
            refine ⟨_, rfl, x, _, _, rfl, h8.at_, rfl, _, rfl, x, _, _, _, _, rfl, h8.at_, CC, T.n_Closing_found, rfl, _, rfl, c.fl, _, _, _, rfl, rfl, h8.fnd, atI_nat _ (mA gA), _, rfl, x, _, _, _, _, rfl, h8.at_, CC, T.n_Closing_found, rfl, _, rfl, c.fl, _, _, _, rfl, rfl, h8.fnd, atI_nat _ (mA gO), ?_⟩
            refine ⟨x, ea.1, eo.1, c, B, _, es', fw', md', ea.2, eo.2, rfl, h8, o, ci7, h8.els _ (List.mem_of_getElem? gA), h8.els _ (List.mem_of_getElem? gO), mI gA, mI gO, fun H9 es2 fw2 md2 s9 h9 ci9 ex9 in9 fk9 => ?_⟩
            have b9 := s9.same b8 fre
            have gA2 := get_ex ex9 gA
            have gO2 := get_ex ex9 gO
            refine ⟨_, rfl, x, _, _, rfl, h9.at_, rfl, _, rfl, x, _, _, _, _, rfl, h9.at_, CC, T.n_Closing_found, rfl, _, rfl, c.fl, _, _, _, rfl, rfl, h9.fnd, atI_nat _ (mA gO2), _, rfl, x, _, _, _, _, rfl, h9.at_, CC, T.n_Closing_found, rfl, _, rfl, c.fl, _, _, _, rfl, rfl, h9.fnd, atI_nat _ (mA gA2), ?_⟩
            refine ⟨x, eo.1, ea.1, c, B, _, es2, fw2, md2, eo.2, ea.2, rfl, h9, o, ci9, h9.els _ (List.mem_of_getElem? gO2), h9.els _ (List.mem_of_getElem? gA2), mI gO2, mI gA2, fun H10 es3 fw3 md3 s10 h10 ci10 ex10 in10 fk10 => ?_⟩
            refine ⟨_, _, es3, fw3, md3, rfl, s10.same b9 fre, h10, ci10, ex_trans (ex_trans ex ex9) ex10, fun j f hj hf => ?_, fun p hp => by
              have m1 := sub_ex ex (all6 p hp)
              rw [fk10 _ (sub_ex ex9 m1), fk9 _ m1]; exact one7 p hp⟩
            by_cases cj : j = i
            · subst cj
              rw [heo] at hf; cases hf
              exact ⟨sub_ex ex10 in9, in10⟩
            · obtain ⟨z1, z2⟩ := dn j f (by omega) hf
              exact ⟨sub_ex (ex_trans ex9 ex10) z1, sub_ex (ex_trans ex9 ex10) z2⟩
        · rw [decide_eq_false (by omega)]
          refine no _ (kk _ c es fw md b6 fre hc h6 ci6 all6 (fun p hp q hq => ?_) one6)
          obtain ⟨e, he, rfl⟩ := List.mem_map.mp hp
          obtain ⟨f, hf, rfl⟩ := List.mem_map.mp hq
          obtain ⟨i, hi⟩ := List.mem_iff_getElem?.mp he
          obtain ⟨j, hj⟩ := List.mem_iff_getElem?.mp hf
          have := (List.getElem?_eq_some_iff.mp hi).1
          have := (List.getElem?_eq_some_iff.mp hj).1
          exact cl i j e f (by omega) (by omega) hi hj
    · rintro i y σ H5 H6 hi ⟨y3, y4, y5, es, fw, md, rfl, b5, h5, ci5, all5, one5⟩ s6 hy
      rw [List.getElem?_map] at hy
      obtain ⟨p, hp, rfl⟩ := Option.map_eq_some_iff.mp hy
      have hm := List.mem_of_getElem? hp
      have b6 := b5.trans s6
      have h6 := h5.same s6
      have wp := hw p hm
      refine ⟨_, rfl, x, _, _, rfl, h6.at_, rfl, _, rfl, _, rfl, rb, p.1, B, p.2, rfl, hbk.same b6, o, b6 _ _ (hps.2 p hm), fun r H7 s7 h7 => ?_⟩
      have b7 := b6.trans s7
      refine ⟨_, rfl, x, r, 1, .ref p.1, c, B, _, es, fw, md, B.sm p.2, .w p.2, rfl, h6.same s7, o, ci5, h7, ⟨p.2, wp.1, rfl⟩, Int.le_refl _, ⟨p.1, rfl, b7 _ _ (hps.2 p hm)⟩, ⟨rfl, List.mem_map.mpr ⟨p, hm, rfl⟩, rfl⟩, fun H8 es2 fw2 md2 s8 h8 ci8 ex8 in8 fk8 fn8 or8 => ?_⟩
      refine ⟨_, _, _, es2, fw2, md2, rfl, s8.same b7 fre, h8, ci8, fun j q hj hq => ?_, fun q hq => ?_⟩
      rotate_left
      · by_cases c : B.sm p.2 ∈ es.map (·.2)
        · rcases or8 q hq with z | z
          · rw [fk8 q z]; exact one5 q z
          · rw [z, fk8 _ c]; exact one5 _ c
        · rcases or8 q hq with z | z
          · rw [fk8 q z]; exact one5 q z
          · rw [z]; exact fn8 c
      by_cases cj : j = i
      · subst cj
        rw [hp] at hq; cases hq
        exact in8
      · exact sub_ex ex8 (all5 j q (by omega) hq)
end
end K73
end

section
set_option linter.all false
set_option maxRecDepth 100000
set_option maxHeartbeats 4000000
/-! the closing settled; phrases -/
namespace K73
open PySem PySem.Spec PyProof.Rows L2
section
variable {g : Gr}
def pSettle (g : Gr) : Pr := fun vs H Q => ∃ (x : Addr) (c : CA) (B : Bk) (W : R → Prop) (es : List (Addr × (R × R))) (fw : R × R → Int) (md : R × R → Md), vs = [.ref x] ∧ ClosAt g H x c B es fw md ∧ B.Ok ∧ CI B W (es.map (·.2)) fw md ∧ (∀ p ∈ es.map (·.2), ∀ q ∈ es.map (·.2), B.jn p q ∈ es.map (·.2)) ∧
  ∀ H' fw' md', Sx (ces c) H H' → ClosAt g H' x c B es fw' md' → CI B W (es.map (·.2)) fw' md' → Stl B (es.map (·.2)) fw' → (∀ r, fw' r ≤ fw r) → Q .non H'
def Upto (B : Bk) (es : List (Addr × (R × R))) (fw : R × R → Int) (i j : Nat) : Prop := ∀ i' j' e f, (i' < i ∨ (i' = i ∧ j' < j)) → es[i']? = some e → es[j']? = some f → fw (B.jn e.2 f.2) ≤ fw e.2 + fw f.2
theorem ok_settle (T : Tx g) : MetG g 5 "Closing" "settle" (pSettle g) := by
  have t_joined := ok_cl_joined T
  refine metD T.d_Closing_settle T.c_Closing T.t_Closing_settle sc_Closing_settle (fun _ _ _ _ _ _ us hl => match us, hl with | [_], _ => rfl) (fun vs H Q h => ?_) fun cdv A outer s0 H vs Q hr h => ?_
  · obtain ⟨x, c, B, W, es, fw, md, rfl, _⟩ := h; rfl
  · obtain ⟨x, c, B, W, es, fwI, md, rfl, h, o, ci, clo, kk⟩ := h
    refine ⟨_, (pss_cons (ps_set (i := 1) sc_Closing_settle.nd rfl (by first | exact Or.inl rfl | exact Or.inr rfl) pe_bl)
      (pss_one (ps_whileM PassesOwn.never (pt_val (pv 1))
        (pss_cons (ps_set (i := 1) sc_Closing_settle.nd rfl (by first | exact Or.inl rfl | exact Or.inr rfl) pe_bl)
        (pss_one (ps_forM PassesOwn.never rfl (pi_list (pe_fldG (K := g.K) (by rfl) (pv 0) rfl)) (pg_name (i := 2) sc_Closing_settle.nd rfl (by first | exact Or.inl rfl | exact Or.inr rfl))
          (pss_one (ps_forM PassesOwn.never rfl (pi_list (pe_fldG (K := g.K) (by rfl) (pv 0) rfl)) (pg_name (i := 3) sc_Closing_settle.nd rfl (by first | exact Or.inl rfl | exact Or.inr rfl))
            (pss_cons (ps_set (i := 4) sc_Closing_settle.nd rfl (by first | exact Or.inl rfl | exact Or.inr rfl) (C8.pe_mt t_joined hr (by omega) (pv 0) (pa_cons (pv 2) (pa_cons (pv 3) pa_nil))))
            (pss_cons (ps_set (i := 5) sc_Closing_settle.nd rfl (by first | exact Or.inl rfl | exact Or.inr rfl) (pe_op op_add (pe_dgetN (D := pairD) (by exact hr.units) (pe_fldG (K := g.K) (by rfl) (pv 0) rfl) (pv 2) (fun _ _ => rfl)) (pe_dgetN (D := pairD) (by exact hr.units) (pe_fldG (K := g.K) (by rfl) (pv 0) rfl) (pv 3) (fun _ _ => rfl))))
            (pss_one (ps_if (pt_cmpR op_lt (pv 5) (pe_dgetN (D := pairD) (by exact hr.units) (pe_fldG (K := g.K) (by rfl) (pv 0) rfl) (pv 4) (fun _ _ => rfl)) (nomark _))
              (pss_cons (ps_dputM (D := pairD) (by exact hr.units) (pe_fldG (K := g.K) (by rfl) (pv 0) rfl) (pv 4) (pv 5) rfl)
              (pss_cons (ps_dputM (D := pairD) (by exact hr.units) (pe_fldG (K := g.K) (by rfl) (pv 0) rfl) (pv 4) (pe_tupM (pa_cons (pv 2) (pa_cons (pv 3) pa_nil))) rfl)
              (pss_one (ps_set (i := 1) sc_Closing_settle.nd rfl (by first | exact Or.inl rfl | exact Or.inr rfl) pe_bl))))
              pss_nil)))))))))))), ?_⟩
    have CC := T.c_Closing
    have lE : (es.map fun e => V.ref e.1).length = es.length := List.length_map _
    have l400 : es.length ≤ 400 := by have := ci.len o; rw [List.length_map] at this; exact this
    have mI : ∀ {k : Nat} {e : Addr × (R × R)}, es[k]? = some e → e.2 ∈ es.map (·.2) := fun h => List.mem_map.mpr ⟨_, List.mem_of_getElem? h, rfl⟩
    refine while_m (fun m σ H' => ∃ gr y2 y3 y4 y5 fw md, σ = [some (.ref x), some (.bl gr), y2, y3, y4, y5] ∧ Sx (ces c) H H' ∧ ClosAt g H' x c B es fw md ∧ CI B W (es.map (·.2)) fw md ∧ (gr = false → Stl B (es.map (·.2)) fw) ∧ m = 2 * total (es.map (·.2)) fw + (if gr = true then 1 else 0) ∧ ∀ r, fw r ≤ fwI r) ?_ ?_
    · exact ⟨_, true, _, _, _, _, fwI, md, rfl, .refl _, h, ci, (fun z => nomatch z), rfl, fun _ => Int.le_refl _⟩
    · rintro m σ H1 E ⟨gr, y2, y3, y4, y5, fw0, md0, rfl, S1, h1, ci1, st1, em, le1⟩ yes no
      refine ⟨_, rfl, gr, rfl, ?_⟩
      cases gr with
      | false => exact no _ (kk _ _ _ S1 h1 ci1 (st1 rfl) le1)
      | true =>
        rw [if_pos rfl] at em
        refine yes _ ⟨_, rfl, x, _, _, _, _, rfl, h1.at_, CC, T.n_Closing_found, rfl, c.fl, rfl, ⟨_, .inl (.inl h1.fnd)⟩, ?_⟩
        refine for_wk (wk_lst (R := fun H' => H' c.fl = some (.lst (es.map fun e => V.ref e.1))) fun H' r => r) (fun i σ H' => ∃ gr y2 y3 y4 y5 fw md, σ = [some (.ref x), some (.bl gr), y2, y3, y4, y5] ∧ Sx (ces c) H H' ∧ ClosAt g H' x c B es fw md ∧ CI B W (es.map (·.2)) fw md ∧ (gr = false → fw = fw0 ∧ Upto B es fw0 i 0) ∧ (gr = true → total (es.map (·.2)) fw < total (es.map (·.2)) fw0) ∧ ∀ r, fw r ≤ fwI r) (fun _ _ _ ⟨_, _, _, _, _, _, _, _, _, h, _⟩ => h.fnd)
          ⟨false, _, _, _, _, fw0, md0, rfl, S1, h1, ci1, fun _ => ⟨rfl, fun i' j' e f hh => by rcases hh with hh | hh <;> omega⟩, (fun z => nomatch z), le1⟩ ?_ ?_
        · rintro σ H2 ⟨gr, y2, y3, y4, y5, fw2, md2, rfl, S2, h2, ci2, nf, nt, le2⟩
          cases gr with
          | false =>
            obtain ⟨rfl, up⟩ := nf rfl
            refine ⟨2 * total (es.map (·.2)) fw2, by omega, false, _, _, _, _, _, _, rfl, S2, h2, ci2, fun _ p hp q hq => ?_, by rw [if_neg (fun z => nomatch z)]; omega, le2⟩
            obtain ⟨e, he, rfl⟩ := List.mem_map.mp hp
            obtain ⟨f, hf, rfl⟩ := List.mem_map.mp hq
            obtain ⟨i, hi⟩ := List.mem_iff_getElem?.mp he
            obtain ⟨j, hj⟩ := List.mem_iff_getElem?.mp hf
            have := (List.getElem?_eq_some_iff.mp hi).1
            exact up i j e f (.inl (by rw [lE]; exact this)) hi hj
          | true =>
            have := nt rfl
            exact ⟨2 * total (es.map (·.2)) fw2 + 1, by omega, true, _, _, _, _, _, _, rfl, S2, h2, ci2, (fun z => nomatch z), by rw [if_pos rfl], le2⟩
        · rintro i z σ H2 H3 hi ⟨gr, y2, y3, y4, y5, fw2, md2, rfl, S2, h2, ci2, nf, nt, le2⟩ s3 hz
          rw [List.getElem?_map] at hz
          obtain ⟨ea, hea, rfl⟩ := Option.map_eq_some_iff.mp hz
          have h3 := h2.same s3
          refine ⟨_, rfl, x, _, _, _, _, rfl, h3.at_, CC, T.n_Closing_found, rfl, c.fl, rfl, ⟨_, .inl (.inl h3.fnd)⟩, ?_⟩
          refine for_wk (wk_lst (R := fun H' => H' c.fl = some (.lst (es.map fun e => V.ref e.1))) fun H' r => r) (fun j σ H' => ∃ gr y3 y4 y5 fw md, σ = [some (.ref x), some (.bl gr), some (.ref ea.1), y3, y4, y5] ∧ Sx (ces c) H H' ∧ ClosAt g H' x c B es fw md ∧ CI B W (es.map (·.2)) fw md ∧ (gr = false → fw = fw0 ∧ Upto B es fw0 i j) ∧ (gr = true → total (es.map (·.2)) fw < total (es.map (·.2)) fw0) ∧ ∀ r, fw r ≤ fwI r) (fun _ _ _ ⟨_, _, _, _, _, _, _, _, h, _⟩ => h.fnd)
            ⟨gr, _, _, _, fw2, md2, rfl, S2.trans s3.sx, h3, ci2, nf, nt, le2⟩ ?_ ?_
          · rintro σ H4 ⟨gr, y3, y4, y5, fw4, md4, rfl, S4, h4, ci4, nf, nt, le4⟩
            refine ⟨gr, _, _, _, _, _, _, rfl, S4, h4, ci4, fun z => ⟨(nf z).1, fun i' j' e f hh he hf => (nf z).2 i' j' e f ?_ he hf⟩, nt, le4⟩
            have := (List.getElem?_eq_some_iff.mp hf).1
            rcases hh with hh | hh
            · by_cases c1 : i' = i
              · exact .inr ⟨c1, by rw [lE]; exact this⟩
              · exact .inl (by omega)
            · omega
          · rintro j z σ H4 H5 hj ⟨gr, y3, y4, y5, fw4, md4, rfl, S4, h4, ci4, nf, nt, le4⟩ s5 hz
            rw [List.getElem?_map] at hz
            obtain ⟨eb, heb, rfl⟩ := Option.map_eq_some_iff.mp hz
            have h5 := h4.same s5
            have pa := h5.els ea (List.mem_of_getElem? hea)
            have pb := h5.els eb (List.mem_of_getElem? heb)
            have ma := mI hea
            have mb := mI heb
            have mj := clo _ ma _ mb
            refine ⟨_, rfl, x, _, _, rfl, h5.at_, rfl, _, rfl, _, rfl, x, ea.1, eb.1, c, B, es, fw4, md4, ea.2, eb.2, rfl, h5, o, pa, pb, ci4.sg _ ma, ci4.sg _ mb, fun r H6 s6 hr6 => ?_⟩
            have h6 := h5.same s6
            obtain ⟨k1, v1, d1, e1, rfl⟩ := h6.few.get ma
            obtain ⟨k2, v2, d2, e2, rfl⟩ := h6.few.get mb
            obtain ⟨k3, v3, d3, e3, rfl⟩ := h6.few.get mj
            refine ⟨_, rfl, x, _, _, _, _, rfl, h6.at_, CC, T.n_Closing_fewest, rfl, _, rfl, c.d1, k1, _, ea.1, _, rfl, rfl, d1, pa.same s6, e1, ?_⟩
            refine ⟨_, rfl, x, _, _, _, _, rfl, h6.at_, CC, T.n_Closing_fewest, rfl, _, rfl, c.d1, k2, _, eb.1, _, rfl, rfl, d2, pb.same s6, e2, _, _, rfl, rfl, ?_⟩
            refine ⟨_, rfl, _, rfl, x, _, _, _, _, rfl, h6.at_, CC, T.n_Closing_fewest, rfl, _, rfl, c.d1, k3, _, r, _, rfl, rfl, d3, hr6, e3, _, _, rfl, rfl, _, rfl, ?_⟩
            by_cases lt : fw4 ea.2 + fw4 eb.2 < fw4 (B.jn ea.2 eb.2)
            · refine ifT (decide_eq_true lt) ?_
              have S6 := (S4.trans s5.sx).trans s6.sx
              obtain ⟨q1, dd1, f1, f2⟩ := h6.few
              obtain ⟨q2, dd2, f3, f4⟩ := h6.mo
              have lq1 : q1.length ≤ 400 := by have := congrArg List.length f1; rw [List.length_map, List.length_map] at this; omega
              have lq2 : q2.length ≤ 400 := by have := congrArg List.length f3; rw [List.length_map, List.length_map] at this; omega
              obtain ⟨es1, hd1, _, _⟩ := id dd1
              refine ⟨_, rfl, _, rfl, x, _, _, _, _, rfl, h6.at_, CC, T.n_Closing_fewest, rfl, _, rfl, c.d1, q1, _, r, rfl, rfl, dd1, hr6, cc_lt (n := 401) (by omega) (by omega), fun o1 K1 g1 dn1 => ?_⟩
              have t1 : Tk H6 K1 := by rw [g1]; exact tk_ext hd1
              have hX1 := upd_keep g1 (ne_of h6.at_ hd1 (fun z => nomatch z)) h6.at_
              have hf1 := upd_keep g1 (ne_of h6.fnd hd1 (fun z => nomatch z)) h6.fnd
              have d21 : DMt g.P g.w pairD K1 c.d2 q2 := dd2.tks t1 fun o e => upd_keep g1 h6.ne.symm e
              have T1 : Sx (ces c) H6 K1 := by rw [g1]; exact (Sx.refl _).put (by simp [ces])
              refine ⟨_, rfl, _, rfl, cc_le (n := 2) (Nat.le_refl _) (by omega), fun tq K2 s2 _ hq2 => ?_⟩
              have d22 := d21.same s2
              refine ⟨_, rfl, x, _, _, _, _, rfl, s2 _ _ hX1, CC, T.n_Closing_made_of, rfl, _, rfl, c.d2, q2, _, r, rfl, rfl, d22, hr6.tk (t1.trans s2.tk), cc_lt (n := 401) (by omega) (by omega), fun o2 K3 g3 dn3 => ?_⟩
              obtain ⟨es3, hd3, _, _⟩ := id d22
              have t3 : Tk K2 K3 := by rw [g3]; exact tk_ext hd3
              have hX3 := upd_keep g3 (ne_of (s2 _ _ hX1) hd3 (fun z => nomatch z)) (s2 _ _ hX1)
              have hf3 := upd_keep g3 (ne_of (s2 _ _ hf1) hd3 (fun z => nomatch z)) (s2 _ _ hf1)
              have dn13 := (dn1.same s2).tks t3 fun o e => upd_keep g3 h6.ne e
              have T3 : Sx (ces c) H6 K3 := by rw [g3]; exact (T1.trans s2.sx).put (by simp [ces])
              have TK := T3.tkc h6.kind
              have ci5 := ci_less ci4 ma mb mj lt
              have tl := ci_total ci4 ma mb mj lt
              have D1 := DF.put (g := g) (P' := fun p' v => v = .int (setAt fw4 (B.jn ea.2 eb.2) (fw4 ea.2 + fw4 eb.2) p')) f1 f2 dn13 (by rw [setAt_same]) (fun r _ hne u hu => by rw [setAt_ne hne]; exact hu)
              have D2 := DF.put (g := g) (P' := fun p' v => MdAt K3 v (setAt md4 (B.jn ea.2 eb.2) (.p ea.2 eb.2) p')) f3 f4 dn3 (by rw [setAt_same]; exact ⟨tq, ea.1, eb.1, rfl, t3 _ _ hq2, (pa.same s6).tk TK, (pb.same s6).tk TK⟩) (fun r _ hne u hu => by rw [setAt_ne hne]; exact hu.tk TK)
              rw [if_pos mj] at D1 D2
              have cl : ClosAt g K3 x c B es (setAt fw4 (B.jn ea.2 eb.2) (fw4 ea.2 + fw4 eb.2)) (setAt md4 (B.jn ea.2 eb.2) (.p ea.2 eb.2)) := ⟨hX3, let ⟨H0, b1, b2, b3⟩ := h6.bk; ⟨H0, b1, T3.same b2 b3, b3⟩, hf3, fun e he => (h6.els e he).tk TK, D1, D2, h6.ne⟩
              refine ⟨true, _, _, _, _, _, rfl, S6.trans T3, cl, ci5, (fun z => nomatch z), fun _ => ?_, fun r => ?_⟩
              rotate_left
              · by_cases c : r = B.jn ea.2 eb.2
                · rw [c, setAt_same]; have := le4 (B.jn ea.2 eb.2); omega
                · rw [setAt_ne c]; exact le4 r
              cases gr with
              | false => rw [← (nf rfl).1]; exact tl
              | true => exact Nat.lt_trans tl (nt rfl)
            · refine ifF (decide_eq_false lt) ⟨gr, _, _, _, fw4, md4, rfl, (S4.trans s5.sx).trans s6.sx, h6, ci4, fun z => ⟨(nf z).1, ?_⟩, nt, le4⟩
              intro i' j' e f hh he hf
              by_cases cc : i' = i ∧ j' = j
              · obtain ⟨rfl, rfl⟩ := cc
                rw [hea] at he
                rw [heb] at hf
                cases he
                cases hf
                rw [← (nf z).1]
                omega
              · exact (nf z).2 i' j' e f (by omega) he hf
end
end K73
end

section
set_option linter.all false
set_option maxRecDepth 100000
set_option maxHeartbeats 4000000
/-! phrases -/
namespace K73
open PySem PySem.Spec PyProof.Rows L2
section
variable {g : Gr}
def PhrAt (H : Hp) (r : Addr) (ps : List (Addr × R)) (t : K73.T) : Prop := ∃ a b, H r = some (.tup [.ref a, .ref b]) ∧ WsAt H a ps ∧ SpAt H b (t.dep 0)
theorem PhrAt.same {H H' : Hp} {r : Addr} {ps : List (Addr × R)} {t : K73.T} (h : PhrAt H r ps t) (s : Same H H') : PhrAt H' r ps t := let ⟨a, b, h1, h2, h3⟩ := h; ⟨a, b, s _ _ h1, h2.same s, h3.same s⟩
def pPhrase (g : Gr) (n : Nat) : Pr := fun vs H Q => ∃ (x q : Addr) (c : CA) (B : Bk) (W : R → Prop) (es : List (Addr × (R × R))) (fw : R × R → Int) (md : R × R → Md) (p : R × R), vs = [.ref x, .ref q] ∧ ClosAt g H x c B es fw md ∧ B.Ok ∧ CI B W (es.map (·.2)) fw md ∧ Stl B (es.map (·.2)) fw ∧ PairAt H q p ∧ p ∈ es.map (·.2) ∧ fw p ≤ (n : Int) ∧
  ∀ H' r ps t, Same H H' → PhrAt H' r ps t → Ph B W p (ps.map (·.2)) t → ((t.n : Int) + 1 = fw p) → Q (.ref r) H'
theorem ok_phrase (T : Tx g) : ∀ n : Nat, n ≤ 40 → MetG g (n + 3) "Closing" "phrase" (pPhrase g n)
  | 0, _ => by
    refine metD T.d_Closing_phrase T.c_Closing T.t_Closing_phrase sc_Closing_phrase (fun _ _ _ _ _ _ us hl => match us, hl with | [_, _], _ => rfl) (fun vs H Q h => ?_) fun cdv A outer s0 H vs Q hr h => ?_
    · obtain ⟨x, q, c, B, W, es, fw, md, p, rfl, _⟩ := h; rfl
    · obtain ⟨x, q, c, B, W, es, fw, md, p, rfl, h, o, ci, stl, hq, hp, hn, kk⟩ := h
      have := ci.pos p hp
      exact absurd hn (by omega)
  | n + 1, hn40 => by
    have t_phrase := ok_phrase T n (by omega)
    have c_with_root := ok_with_root T
    refine metD T.d_Closing_phrase T.c_Closing T.t_Closing_phrase sc_Closing_phrase (fun _ _ _ _ _ _ us hl => match us, hl with | [_, _], _ => rfl) (fun vs H Q h => ?_) fun cdv A outer s0 H vs Q hr h => ?_
    · obtain ⟨x, q, c, B, W, es, fw, md, p, rfl, _⟩ := h; rfl
    · obtain ⟨x, q, c, B, W, es, fw, md, p, rfl, h, o, ci, stl, hq, hp, hn, kk⟩ := h
      refine ⟨_, (pss_cons (ps_set (i := 2) sc_Closing_phrase.nd rfl (by first | exact Or.inl rfl | exact Or.inr rfl) (pe_dgetN (D := pairD) (by exact hr.units) (pe_fldG (K := g.K) (by rfl) (pv 0) rfl) (pv 1) (fun _ _ => rfl)))
      (pss_cons (ps_if (pt_cmpR op_eq (pe_dgetN (D := pairD) (by exact hr.units) (pe_fldG (K := g.K) (by rfl) (pv 0) rfl) (pv 1) (fun _ _ => rfl)) pe_int (nomark _))
        (pss_one (ps_ret (pe_tupM (pa_cons (pe_tupM (pa_cons (pv 2) pa_nil)) (pa_cons (pe_tupF pa_nil) pa_nil)))))
        pss_nil)
      (pss_cons (ps_set (i := 3) sc_Closing_phrase.nd rfl (by first | exact Or.inl rfl | exact Or.inr rfl) (C8.pe_mt t_phrase hr (by omega) (pv 0) (pa_cons (pe_ix ix_tupM (pv 2) pe_int (fun _ _ => rfl)) pa_nil)))
      (pss_cons (ps_set (i := 4) sc_Closing_phrase.nd rfl (by first | exact Or.inl rfl | exact Or.inr rfl) (C8.pe_mt t_phrase hr (by omega) (pv 0) (pa_cons (pe_ix ix_tupM (pv 2) pe_int (fun _ _ => rfl)) pa_nil)))
      (pss_one (ps_ret (pe_tupM (pa_cons (pe_op op_catM (pe_ix ix_tupM (pv 3) pe_int (fun _ _ => rfl)) (pe_ix ix_tupM (pv 4) pe_int (fun _ _ => rfl))) (pa_cons (C8.pe_c c_with_root hr (by omega) (by rfl) (pa_cons (pe_ix ix_tupM (pv 3) pe_int (fun _ _ => rfl)) (pa_cons (pe_ix ix_tupM (pv 4) pe_int (fun _ _ => rfl)) pa_nil))) pa_nil))))))))), ?_⟩
      have CC := T.c_Closing
      obtain ⟨k1, v1, d1, e1, hv⟩ := h.mo.get hp
      obtain ⟨k2, v2, d2, e2, rfl⟩ := h.few.get hp
      refine ⟨_, rfl, x, _, _, _, _, rfl, h.at_, CC, T.n_Closing_made_of, rfl, _, rfl, c.d2, k1, p, q, v1, rfl, rfl, d1, hq, e1, ?_⟩
      refine ⟨_, rfl, x, _, _, _, _, rfl, h.at_, CC, T.n_Closing_fewest, rfl, _, rfl, c.d1, k2, p, q, _, rfl, rfl, d2, hq, e2, rfl, _, rfl, ?_⟩
      have mo := ci.mo p hp
      cases em : md p with
      | w w =>
        rw [em] at mo hv
        obtain ⟨m1, m2, m3⟩ := mo
        obtain ⟨qw, rfl, hw⟩ := hv
        refine ifT (by rw [m1]; rfl) ?_
        refine ⟨_, rfl, cc_le (n := 1) (Nat.le_refl _) (by omega), fun r1 H1 s1 _ h1 => ?_⟩
        refine ⟨cc_le (n := 0) (Nat.le_refl _) (by omega), fun r2 H2 s2 _ h2 => ⟨cc_le (n := 2) (Nat.le_refl _) (by omega), fun r3 H3 s3 _ h3 => ?_⟩⟩
        refine kk H3 r3 [(qw, w)] .lf ((s1.trans s2).trans s3) ⟨r1, r2, h3, ⟨(s2.trans s3) _ _ h1, fun p hp => ?_⟩, h2.same s3⟩ (Ph.lf m2 m3) (by rw [m1]; rfl)
        rw [List.mem_singleton.mp hp]
        exact ((s1.trans s2).trans s3) _ _ hw
      | p a b =>
        obtain ⟨ha, hb, hj, hs, pa, pb⟩ := stl_eq ci stl hp em
        rw [em] at hv
        obtain ⟨qt, ca, cb, rfl, hqt, hca, hcb⟩ := hv
        refine ifF (decide_eq_false (fun z => by injection z with z; omega)) ?_
        refine ⟨_, rfl, x, _, _, rfl, h.at_, rfl, _, rfl, qt, _, _, _, rfl, rfl, hqt, rfl, x, ca, c, B, W, es, fw, md, a, rfl, h, o, ci, stl, hca, ha, by omega, fun H1 r1 ps1 t1 s1 hr1 ph1 n1 => ?_⟩
        have h1 := h.same s1
        refine ⟨_, rfl, x, _, _, rfl, h1.at_, rfl, _, rfl, qt, _, _, _, rfl, rfl, s1 _ _ hqt, rfl, x, cb, c, B, W, es, fw, md, b, rfl, h1, o, ci, stl, hcb.same s1, hb, by omega, fun H2 r2 ps2 t2 s2 hr2 ph2 n2 => ?_⟩
        obtain ⟨a1, b1, z1, z2, z3⟩ := hr1.same s2
        obtain ⟨a2, b2, y1, y2, y3⟩ := hr2
        have l1 : ps1.length = t1.n + 1 := by have := ph1.len; rw [List.length_map] at this; exact this
        have l2 : ps2.length = t2.n + 1 := by have := ph2.len; rw [List.length_map] at this; exact this
        refine ⟨_, rfl, r1, _, _, _, rfl, rfl, z1, rfl, _, rfl, r2, _, _, _, rfl, rfl, y1, rfl, a1, a2, _, _, rfl, rfl, z2.1, y2.1, cc_le (n := 200) (by rw [List.length_map, List.length_map]; omega) (by omega), fun r3 H3 s3 h3 => ?_⟩
        refine ⟨_, rfl, r1, _, _, _, rfl, rfl, s3 _ _ z1, rfl, _, rfl, r2, _, _, _, rfl, rfl, s3 _ _ y1, rfl, b1, b2, t1, t2, rfl, z3.same s3, y3.same s3, by omega, by omega, fun r4 H4 s4 h4 => ?_⟩
        refine ⟨cc_le (n := 2) (Nat.le_refl _) (by omega), fun r5 H5 s5 _ h5 => ?_⟩
        have tt := s3.trans (s4.trans s5)
        refine kk H5 r5 (ps1 ++ ps2) (.nd t1 t2) ((s1.trans s2).trans tt) ⟨r3, r4, h5, ⟨?_, fun p hp => ?_⟩, h4.same s5⟩ ?_ ?_
        · rw [List.map_append]; exact (s4.trans s5) _ _ h3
        · rcases List.mem_append.mp hp with hp | hp
          · exact tt _ _ (z2.2 p hp)
          · exact tt _ _ (y2.2 p hp)
        · rw [List.map_append, ← hj]
          exact ph1.nd o ph2
        · rw [hs, ← n1, ← n2]
          show ((t1.n + t2.n + 1 : Nat) : Int) + 1 = _
          omega
end
end K73
end

section
set_option linter.all false
set_option maxRecDepth 100000
set_option maxHeartbeats 4000000
/-! a def called where the caller's frame is known: its promise may speak of the heap -/
namespace K73
open PySem PySem.Spec PyProof.Rows L2 NdefX LamX
/-- the callee's context, entered from X -/
abbrev cxY (X : Cx) (N : List Str) (x : Str) (st : Stmt) (f : Addr) (cdv : Value) (s : Shared) (H : Hp) : Cx := (cxOf CX0 X.prog X.w X.K X.mg X.base N x (defScope st) f cdv X.A X.stack s H E0).nox
theorem run_here {X : Cx} {k : Nat} {x : Str} {st : Stmt} {N ps : List Str} {f : Addr} {fd : FuncData} (F : FunD X.K x x (defArgs st) (defBody st) (defScope st) [] [] f fd) (S : FnScope N ps (defScope st)) (hr : Room (k + 1) X.A) (b : BindW x x st ps)
    {pins : List (Addr × Obj)} {σ : L2.St} {H : Hp} {s : Shared} {vs : List V} {us : List Value} {Q : VK} (I : Inv X pins σ H s) (r : Vals vs us) (hl : vs.length = ps.length)
    (body : ∀ cdv, Room k (cxY X N x st f cdv s H).A → ∃ t, PSs (cxY X N x st f cdv s H) (defBody st) t ∧ t { nx := fun _ H' => Q .non H', rt := Q } (start N vs) H) :
    wpAny (model X.prog X.w) X.A (call (.ref f) us) (EP X pins σ Q) X.xe s := by
  obtain ⟨oc, od, dV, kV, doc, pm, an, cdv, ct, osl, rfl, lk, hcd, _, _⟩ := F.ex
  have e0 := I.env0
  have KX : X.K.In s.heap := e0.mod.kin.keeps fun b o e => (e0.bs b o e).1
  have us_l : us.length = ps.length := by rw [← r.length]; exact hl
  refine wpAny_call (codeAny_mono (R := CR CX0 X.stack X.prog X.w H s Q E0) ?_ fun q s' hq => ?_)
  · have lim : s.heap.NoLimit := e0.mod.nolimit.keeps fun b o e => (e0.bs b o e).1
    have kinds : ∀ y ∈ ps.zip us, (defScope st).names.lookup y.1 = some .local ∨ ((defScope st).names.lookup y.1 = some .cell ∧ ((cellsFrom (s.heap.objs.size + 1) (defScope st).names []).lookup y.1).isSome = true) := by
      rintro ⟨n, v⟩ hy
      rcases S.par n (List.of_mem_zip hy).1 with q | q
      · exact Or.inl q
      · exact Or.inr ⟨q, PySem.W.cellsFrom_some _ _ _ (Or.inl q)⟩
    have B := F.bindsN b s us KX (by rw [List.append_nil]; exact us_l)
    rw [List.append_nil] at B
    refine codeAny_call_function hr.depth (KX _ _ lk) rfl S.co S.gen rfl (PySem.W.codeRec_of KX hcd) (B _ _ _ _ ?_)
    refine wpAny_newFunctionEnv_cells S.kind kinds ?_
    rintro env rfl s1 nw
    refine ⟨lim.keeps nw.toInCall.keep, codeAny_func ?_⟩
    obtain ⟨t, ht, hq⟩ := body cdv (hr.deeper _)
    have J := inv_start (CX := CX0) (E := E0) S hr.hd e0 hl r nw
    refine wpAny_mono ((PSs.nox ht).run [] s1 (start N vs) H _ J hq) (fun fl s' hs => ?_) fun e s' hs => hs
    have fin : ∀ {σ' : L2.St} {H' : Hp} {v : V} {u : Value}, Inv (cxOf CX0 X.prog X.w X.K X.mg X.base N x (defScope st) f cdv X.A X.stack s H E0) [] σ' H' s' → RelV v u → Q v H' → CE X.stack X.prog X.w H s Q u s' := by
      intro σ' H' v u L rv q
      exact ⟨v, H', L.os, L.bare, L.base, L.hok, rv, q⟩
    cases fl with
    | next =>
      obtain ⟨_, H', L, q⟩ := hs
      exact fin (v := V.non) (u := Value.none) L rfl q
    | ret u =>
      obtain ⟨v, _, H', L, rv, q⟩ := hs
      exact fin L rv q
    | brk => exact (hs.choose_spec.choose_spec.2).elim
    | cont => exact (hs.choose_spec.choose_spec.2).elim
  · cases q with
    | error e => exact hq.elim
    | ok fl => cases fl with
      | ret u => exact I.after hq
      | next => exact hq.elim
      | brk => exact hq.elim
      | cont => exact hq.elim
/-- f(..), f a def of the top: sp may speak of the caller's frame and heap -/
def tHere (sp : L2.St → List V → Hp → VK → Prop) (t : TA) : TE := fun σ H Q => t σ H fun vs H1 => sp σ vs H1 Q
theorem pe_here {X : Cx} {k j : Nat} {x : Str} {st : Stmt} {N ps : List Str} {f : Addr} {sp : L2.St → List V → Hp → VK → Prop} {p pos : Pos} {e : Expr} {es : List Expr} {t : TA} (F : ∃ fd, FunD X.K x x (defArgs st) (defBody st) (defScope st) [] [] f fd) (S : FnScope N ps (defScope st)) (hm : X.mg x = some (.ref f)) (hr : Room j X.A) (hk : k + 1 ≤ j) (b : BindW x x st ps)
    (len : ∀ σ vs H Q, sp σ vs H Q → vs.length = ps.length)
    (body : ∀ (pins : List (Addr × Obj)) (σ : L2.St) (H : Hp) (s : Shared) (vs : List V) (Q : VK) (cdv : Value), Inv X pins σ H s → sp σ vs H Q → Room k (cxY X N x st f cdv s H).A → ∃ t, PSs (cxY X N x st f cdv s H) (defBody st) t ∧ t { nx := fun _ H' => Q .non H', rt := Q } (start N vs) H)
    (hg : Gl X x) (ha : PA X (e :: es) t) (hdb : (x == ("__debug__" : Str)) = false := by decide) (he : starEach (e :: es) X.env = (false, eval e X.env) :: starEach es X.env := by rfl) (hpl : (backTo pos (starEach es X.env)).any (·.1) = false := by rfl) :
    PE X (.Call (.Name x p) (e :: es) [] pos) (tHere sp t) := by
  obtain ⟨fd, F⟩ := F
  refine ⟨fun pins s σ H Q I h => wpAny_Call_Name_kw (ld_glob I hg hm ?_ hdb)⟩
  refine PySem.W.callWith_K (h₀ := X.base) I.ok.mod.kin F.kp (thn (ha.run pos pins s σ H _ I h) fun us s1 hs => ?_) he hpl
  obtain ⟨vs, H1, I1, r, q⟩ := hs
  exact ⟨I1.kIn, run_here F S (hr.mono hk) b I1 r (len _ _ _ _ q) fun cdv room => body pins σ H1 s1 vs Q cdv I1 q room⟩

/-! ### a function that the def got, called -/
/-- the captured cells of F are not the callers' frames, and hold ws at the entry -/
structure Entry (X : Cx) (F : NF) (fr : List Str) (ws : List (Option V)) : Prop where
  at_ : CellsAt F.cl fr ws X.s_0.heap X.H_0
  nf : ∀ y c, F.cl.lookup y = some c → c ∉ X.fs
  nx : ∀ y c, F.cl.lookup y = some c → c ∉ X.ex
/-- the slot i holds the function F at f -/
def tCallW (f : Addr) (F : NF) (i : Nat) (ws : List (Option V)) (sp : List (Option V) → Sp) (t : TA) : TE := fun σ H Q => σ[i]? = some (some (.ref f)) ∧ H f = some (FnO f F) ∧
  t σ H fun vs H1 => H1 f = some (FnO f F) ∧ H1 F.c = some (CodeO F.c F.qual) ∧ sp ws vs H1 Q E0
theorem pe_callW {X : Cx} {k j i : Nat} {x : Str} {f : Addr} {F : NF} {ps fr : List Str} {ws : List (Option V)} {sp : List (Option V) → Sp} {p pos : Pos} {e : Expr} {es : List Expr} {t : TA} (Fn : NOk X.prog X.w X.K X.mg X.base CX0 k f F ps fr sp) (en : Entry X F fr ws) (hr : Room j X.A) (hk : k ≤ j) (hN : X.N[i]? = some x) (hv : Vis X.env.scope x) (ha : PA X (e :: es) t)
    (hd : (x == ("__debug__" : Str)) = false := by decide) (hcd : (x == ("__classdict__" : Str)) = false := by decide) (he : starEach (e :: es) X.env = (false, eval e X.env) :: starEach es X.env := by rfl) (hpl : (backTo pos (starEach es X.env)).any (·.1) = false := by rfl) :
    PE X (.Call (.Name x p) (e :: es) [] pos) (tCallW f F i ws sp t) := by
  refine ⟨fun pins s σ H Q I h => ?_⟩
  obtain ⟨hs, hf, ht⟩ := h
  have ld := (pe_var (pos := p) hN hv hd hcd).run pins s σ H (fun v H1 => v = V.ref f ∧ H1 = H) I ⟨V.ref f, hs, rfl, rfl⟩
  refine wpAny_Call_Name_kw (thn ld fun u s1 hu => ?_)
  obtain ⟨v, H1, I1, r1, rfl, rfl⟩ := hu
  obtain rfl : u = Value.ref f := r1
  refine PySem.W.callWith_F (first := []) (fnAt_of I1 hf) (thn (ha.run pos pins s1 σ _ _ I1 ht) fun us s2 hs2 => ?_) he hpl
  obtain ⟨vs, H2, I2, r, h1, h2, q⟩ := hs2
  refine ⟨fnAt_of I2 h1, ?_⟩
  have C := en.at_.later en.nf en.nx I2
  refine wpAny_call (codeAny_mono (Fn.run X.A X.stack s2 H2 us vs ws Q E0 (hr.mono hk) I2.env0 h1 h2 C r q) fun z s' hq => ?_)
  cases z with
  | error e => exact hq.elim
  | ok fl => cases fl with
    | ret u => exact I2.after hq
    | next => exact hq.elim
    | brk => exact hq.elim
    | cont => exact hq.elim
/-- what a caller's cells are to a callee that is entered from it -/
theorem entry_of {X : Cx} {pins : List (Addr × Obj)} {σ : L2.St} {H : Hp} {s : Shared} {F : NF} {fr : List Str} {js : List Nat} {N : List Str} {x : Str} {st : Stmt} {f : Addr} {cdv : Value} (I : Inv X pins σ H s) (c : Caps X F.cl fr js) (own : ∀ y ∈ fr, X.fn y = true) (cover : ∀ y c, F.cl.lookup y = some c → y ∈ fr) :
    Entry (cxY X N x st f cdv s H) F fr (js.map (slotAt σ)) where
  at_ := cells_of I c
  nf := fun y a e hm => by
    have e2 := c.sub y a e
    have ge := I.ok.cab y a (own y (cover y a e)) e2
    have hm : a ∈ frs X.stack := hm
    have low : a ∉ X.fs := fun hb => by
      obtain ⟨_, o, ho, _⟩ := I.ok.funs.mem hb
      exact absurd (Heap.lt_size ho) (Nat.not_lt_of_le ge)
    rcases I.ok.stk with z | ⟨z, zf⟩
    · rw [z] at hm; exact low hm
    · rw [z] at hm
      have hm : a ∈ (X.env :: X.outer).filterMap (·.frame) := hm
      rw [List.filterMap_cons_some zf] at hm
      rcases List.mem_cons.mp hm with q | q
      · exact I.cne y a e2 q
      · exact low q
  nx := fun y a e hm => nomatch hm
end K73
end

section
set_option linter.all false
set_option maxRecDepth 100000
set_option maxHeartbeats 4000000
/-! the windows of the closing -/
namespace K73
open PySem PySem.Spec PyProof.Rows L2 NdefX LamX
abbrev st_last : Stmt := (defBody st_three_of).getD 1 (.Pass ⟨0, 0, 0, 0⟩)
abbrev st_first : Stmt := (defBody st_three_of).getD 2 (.Pass ⟨0, 0, 0, 0⟩)
section
variable {g : Gr}
/-- a window of a row -/
def spW (g : Gr) (win : Bk → R → R) (ws : List (Option V)) : Sp := fun vs H Q _ => ∃ rb B r a, ws = [some (.ref rb)] ∧ vs = [.ref a] ∧ RowAt H a r ∧ BookAt g H rb B ∧ B.Ok ∧ ∀ q H', Same H H' → RowAt H' q (win B r) → Q (.ref q) H'
theorem nsc_last : NScope ["row", "book"] ["row"] ["book"] (C8.fnScope st_last) := nscope_by (by decide +kernel)
theorem nsc_first : NScope ["row", "book"] ["row"] ["book"] (C8.fnScope st_first) := nscope_by (by decide +kernel)
theorem ok_last (T : Tx g) (f : Addr) (q : Str) (cl : List (Str × Addr)) (c : Addr) : NOk g.P g.w g.K g.mg g.base CX0 1 f (NF.of st_last "last_ones" q cl c) ["row"] ["book"] (spW g Bk.la) := by
  refine nok_of nsc_last (fun _ _ _ us hl => match us, hl with | [_], _ => rfl) (fun ws vs H Q E h => ?_) fun A outer s H vs ws Q E hr hf hc hl h => ?_
  · obtain ⟨rb, B, r, a, rfl, rfl, _⟩ := h; rfl
  · obtain ⟨rb, B, r, a, rfl, rfl, ha, hb, o, kk⟩ := h
    obtain ⟨bdx, bd, hB, _⟩ := id hb
    refine ⟨_, pss_one (ps_ret (pe_slice sl_tupR (pv 0) (po_some (pe_un un_neg (pe_fldG (K := g.K) (by rfl) (pv 1) rfl))) po_none)), ?_⟩
    refine ⟨_, rfl, _, rfl, _, _, _, _, _, rfl, hB, T.c_Book, T.n_Book_kept_ahead, rfl, _, rfl, _, rfl, a, r, _, _, rfl, ha, rfl, rfl, fun p H1 s1 h1 => kk p _ s1 ?_⟩
    rw [sIx_neg _ _ o.a1, HT.sIx_none, la_cut] at h1
    exact h1
theorem ok_first (T : Tx g) (f : Addr) (q : Str) (cl : List (Str × Addr)) (c : Addr) : NOk g.P g.w g.K g.mg g.base CX0 1 f (NF.of st_first "first_ones" q cl c) ["row"] ["book"] (spW g Bk.fb) := by
  refine nok_of nsc_first (fun _ _ _ us hl => match us, hl with | [_], _ => rfl) (fun ws vs H Q E h => ?_) fun A outer s H vs ws Q E hr hf hc hl h => ?_
  · obtain ⟨rb, B, r, a, rfl, rfl, _⟩ := h; rfl
  · obtain ⟨rb, B, r, a, rfl, rfl, ha, hb, o, kk⟩ := h
    obtain ⟨bdx, bd, hB, _⟩ := id hb
    refine ⟨_, pss_one (ps_ret (pe_slice sl_tupR (pv 0) po_none (po_some (pe_fldG (K := g.K) (by rfl) (pv 1) rfl)))), ?_⟩
    refine ⟨_, rfl, _, rfl, _, _, _, _, _, rfl, hB, T.c_Book, T.n_Book_kept_behind, rfl, _, rfl, a, r, _, _, rfl, ha, rfl, rfl, fun p H1 s1 h1 => kk p _ s1 ?_⟩
    rw [HT.sIx_none, HT.sIx_nat, fb_cut] at h1
    exact h1
/-- the windows of the rows that stand for the summaries, each with one of them -/
def WinAt (g : Gr) (H : Hp) (d : Addr) (B : Bk) (win : Bk → R → R) (es : List (Addr × (R × R))) (kvs : List (R × V)) : Prop := DMt g.P g.w rowD H d kvs ∧ (∀ x ∈ kvs, ∃ e ∈ es, x.2 = .ref e.1 ∧ win B (st e.2) = x.1) ∧ ∀ e ∈ es, win B (st e.2) ∈ kvs.map (·.1)
/-- by_windows(found, window): f, F the window; ws what its cells hold -/
def spB (g : Gr) (win : Bk → R → R) (f : Addr) (F : NF) (ws : List (Option V)) (vs : List V) (H : Hp) (Q : VK) : Prop := ∃ (rb fl : Addr) (B : Bk) (es : List (Addr × (R × R))), vs = [V.ref fl, .ref f] ∧ ws = [some (.ref rb)] ∧ BookAt g H rb B ∧ B.Ok ∧ H fl = some (.lst (es.map fun e => V.ref e.1)) ∧ (∀ e ∈ es, PairAt H e.1 e.2) ∧ (∀ e ∈ es, Sg B e.2) ∧ es.length ≤ 400 ∧
  H f = some (FnO f F) ∧ H F.c = some (CodeO F.c F.qual) ∧ ∀ d kvs H', Same H H' → H d = none → WinAt g H' d B win es kvs → Q (.ref d) H'
theorem valV_mem {κ : Type} [DecidableEq κ] {kvs : List (κ × V)} {k : κ} {v : V} (h : valV kvs k = some v) : (k, v) ∈ kvs := by
  unfold valV at h
  obtain ⟨e, he, hv⟩ := Option.map_eq_some_iff.mp h
  have h1 := List.find?_some he
  have h2 := List.mem_of_find?_eq_some he
  have h3 : e.1 = k := of_decide_eq_true h1
  rw [← h3, ← hv]; exact h2
theorem bw_body (T : Tx g) {X : Cx} {f : Addr} {cdv : Value} {A : Around} {outer : List Env} {s : Shared} {H : Hp} {vs : List V} {Q : VK} {win : Bk → R → R} {fw : Addr} {F : NF} {ws : List (Option V)} (Fn : NOk g.P g.w g.K g.mg g.base CX0 1 fw F ["row"] ["book"] (spW g win))
    (eX : X = (cxOf CX0 g.P g.w g.K g.mg g.base ["found", "window", "known", "one"] "by_windows" (defScope st_by_windows) f cdv A outer s H E0).nox) (en : Entry X F ["book"] ws) (hr : Room 1 X.A) (h : spB g win fw F ws vs H Q) :
    ∃ t, PSs X (defBody st_by_windows) t ∧ t { nx := fun _ H' => Q .non H', rt := Q } (start ["found", "window", "known", "one"] vs) H := by
  subst eX
  have c_standing_for := ok_standing_for T
  obtain ⟨rb, fl, B, es, rfl, rfl, hb, o, hfl, els, sg, l400, hf, hc, kk⟩ := h
  refine ⟨_, (pss_cons (ps_set (i := 2) sc_by_windows.nd rfl (by first | exact Or.inl rfl | exact Or.inr rfl) (pe_dnewM (D := rowD)))
      (pss_cons (ps_forM PassesOwn.never rfl (pi_list (pv 0)) (pg_name (i := 3) sc_by_windows.nd rfl (by first | exact Or.inl rfl | exact Or.inr rfl))
        (pss_one (ps_expr (pe_dsetdN (D := rowD) (by exact hr.units) (pv 2) (pe_callW (i := 1) Fn en hr (by omega) rfl (by first | exact Or.inl rfl | exact Or.inr (Or.inl rfl)) (pa_cons (C8.pe_c c_standing_for hr (by omega) (by rfl) (pa_cons (pv 3) pa_nil)) pa_nil)) (pv 3) ⟨rfl, rfl, rfl, rfl⟩))))
      (pss_one (ps_ret (pv 2))))), ?_⟩
  intro d H1 s1 nd hd
  refine ⟨_, rfl, fl, rfl, ⟨_, .inl (.inl (s1 _ _ hfl))⟩, ?_⟩
  have lE : (es.map fun e => V.ref e.1).length = es.length := List.length_map _
  refine for_wk (wk_lst (R := fun H' => Same H H') fun H' r => r _ _ hfl) (fun i σ H' => ∃ y3 kvs, σ = [some (.ref fl), some (.ref fw), some (.ref d), y3] ∧ Same H H' ∧ DMt g.P g.w rowD H' d kvs ∧ kvs.length ≤ i ∧ (∀ x ∈ kvs, ∃ e ∈ es, x.2 = .ref e.1 ∧ win B (st e.2) = x.1) ∧ ∀ j e, j < i → es[j]? = some e → win B (st e.2) ∈ kvs.map (·.1))
    (fun _ _ _ ⟨_, _, _, h, _⟩ => h) ⟨_, [], rfl, s1, ⟨[], hd, rfl, fun _ h => (nomatch h)⟩, Nat.le_refl _, fun _ h => (nomatch h), fun j e hj => absurd hj (Nat.not_lt_zero _)⟩ ?_ ?_
  · rintro σ H2 ⟨y3, kvs, rfl, s2, dm, _, p1, p2⟩
    refine ⟨_, rfl, kk d kvs H2 s2 nd ⟨dm, p1, fun e he => ?_⟩⟩
    obtain ⟨j, hj⟩ := List.mem_iff_getElem?.mp he
    exact p2 j e (by rw [lE]; exact (List.getElem?_eq_some_iff.mp hj).1) hj
  · rintro i y σ H2 H3 hi ⟨y3, kvs, rfl, s2, dm, lk, p1, p2⟩ s3 hy
    rw [lE] at hi
    rw [List.getElem?_map] at hy
    obtain ⟨e, he, rfl⟩ := Option.map_eq_some_iff.mp hy
    have hm := List.mem_of_getElem? he
    have t3 := s2.trans s3
    have l := st_len o (sg e hm)
    refine ⟨_, rfl, d, kvs, rfl, (dm.same s3).rd, rfl, t3 _ _ hf, _, rfl, e.1, e.2, rfl, (els e hm).same t3, by omega, by omega, fun q H4 s4 h4 => ?_⟩
    refine ⟨(t3.trans s4) _ _ hf, (t3.trans s4) _ _ hc, rb, B, _, q, rfl, rfl, h4, hb.same (t3.trans s4), o, fun q2 H5 s5 h5 => ?_⟩
    have t5 := (t3.trans s4).trans s5
    have dm5 := dm.same (s3.trans (s4.trans s5))
    refine ⟨_, rfl, kvs, win B (st e.2), q2, rfl, dm5, h5, cc_lt (n := 401) (by omega) (by omega), fun v hv => ?_, fun hv o2 dn => ?_⟩
    · refine ⟨_, kvs, rfl, t5, dm5, by omega, p1, fun j f hj hf => ?_⟩
      by_cases c : j = i
      · subst c
        rw [he] at hf; cases hf
        exact valV_in hv
      · exact p2 j f (by omega) hf
    · rw [putK_new _ hv] at dn
      refine ⟨_, _, rfl, same_put t5 nd, dn, by rw [List.length_append, List.length_singleton]; omega, fun x hx => ?_, fun j f hj hf => ?_⟩
      · rcases List.mem_append.mp hx with hx | hx
        · exact p1 x hx
        · rw [List.mem_singleton.mp hx]
          exact ⟨e, hm, rfl, rfl⟩
      · rw [List.map_append]
        by_cases c : j = i
        · subst c
          rw [he] at hf; cases hf
          exact List.mem_append_right _ (List.mem_singleton.mpr rfl)
        · exact List.mem_append_left _ (p2 j f (by omega) hf)
end
end K73
end

section
set_option linter.all false
set_option maxRecDepth 100000
set_option maxHeartbeats 8000000
/-! three_of -/
namespace K73
open PySem PySem.Spec PyProof.Rows L2 NdefX LamX
abbrev N3 : List Str := ["book", "words", "found", "last_ones", "first_ones", "others", "left", "one", "middle", "right", "other"]
abbrev cells3 (s : Shared) : List (Str × Addr) := (envOfC "three_of" (defScope st_three_of) s.heap.objs.size 0 .none).cells
abbrev qual3 : Str := (envOfC "three_of" (defScope st_three_of) 0 0 .none).qual
def nm3 : Nat → Nat → Str := fun l _ => if l = 296 then qual3 ++ "last_ones" else qual3 ++ "first_ones"
/-- a summary of something that can be said -/
def Su (B : Bk) (W : R → Prop) (p : R × R) : Prop := ∃ x, Said B W x ∧ B.sm x = p
theorem su_of {B : Bk} (o : B.Ok) {W : R → Prop} {F : List (R × R)} {fw : R × R → Int} {md : R × R → Md} (ci : CI B W F fw md) : ∀ (n : Nat) (p : R × R), p ∈ F → fw p ≤ n → Su B W p
  | 0, p, hp, h => by have := ci.pos p hp; omega
  | n + 1, p, hp, h => by
    have mo := ci.mo p hp
    cases e : md p with
    | w x =>
      rw [e] at mo
      exact ⟨x, .word mo.2.1, mo.2.2⟩
    | p a b =>
      rw [e] at mo
      obtain ⟨ha, hb, hj, hs⟩ := mo
      have pa := ci.pos a ha
      have pb := ci.pos b hb
      obtain ⟨x, hx, ex⟩ := su_of o ci n a ha (by omega)
      obtain ⟨y, hy, ey⟩ := su_of o ci n b hb (by omega)
      exact ⟨B.met x y, .join hx hy, by rw [← sm_met o, ex, ey, hj]⟩
theorem su_all {B : Bk} (o : B.Ok) {W : R → Prop} {F : List (R × R)} {fw : R × R → Int} {md : R × R → Md} (ci : CI B W F fw md) {p : R × R} (hp : p ∈ F) : Su B W p := su_of o ci (fw p).toNat p hp (by omega)
section
variable {g : Gr}
theorem ext_tk {H H' : Hp} (e : ExtN H H') : Tk H H' := fun b xs h => e b _ h (fun _ z => nomatch z)
theorem BookAt.ext {H H' : Hp} {x : Addr} {B : Bk} (h : BookAt g H x B) (s : ExtN H H') : BookAt g H' x B := by
  have tk := ext_tk s
  obtain ⟨dx, d, h1, kvs, ⟨es, h2, h3, h4⟩, h5⟩ := h
  refine ⟨dx, d, s _ _ h1 (fun _ z => nomatch z), kvs, ⟨es, ?_, h3, fun e he => (h4 e he).tk tk⟩, fun k => ?_⟩
  · rcases h2 with h2 | ⟨o, h2⟩
    · exact .inl (s _ _ h2 (fun _ z => nomatch z))
    · exact .inr ⟨o, s _ _ h2 (fun _ z => nomatch z)⟩
  · have q := h5 k
    cases e : valV kvs k with
    | some v =>
      rw [e] at q
      obtain ⟨b, e1, e2⟩ := q
      exact ⟨b, e1, e2.tk tk⟩
    | none =>
      rw [e] at q
      exact q
def pThree (g : Gr) (P : Addr) : Pr := fun vs H Q => ∃ (rb a : Addr) (B : Bk) (ps : List (Addr × R)), vs = [.ref rb, .ref a] ∧ BookAt g H rb B ∧ B.Ok ∧ WsAt H a ps ∧ WsOk B.s ps ∧ ps.length ≤ 12 ∧ H P = some (.tbl #[]) ∧
  (∀ H', ExtN H H' → (∀ x y z, Said B (fun r => r ∈ ps.map (·.2)) x → Said B (fun r => r ∈ ps.map (·.2)) y → Said B (fun r => r ∈ ps.map (·.2)) z → As B x y z) → Q .non H') ∧
  ∀ H' r a1 a2 a3 p m q, ExtN H H' → H' r = some (.tup [.ref a1, .ref a2, .ref a3]) → PairAt H' a1 p → PairAt H' a2 m → PairAt H' a3 q → Su B (fun r => r ∈ ps.map (·.2)) p → Su B (fun r => r ∈ ps.map (·.2)) m → Su B (fun r => r ∈ ps.map (·.2)) q → m.2.length = 0 → ¬ As B (B.la (st p)) m.1 (B.fb (st q)) → Q (.ref r) H'
theorem lk1 {b y : Str} {v c : Addr} (h : [(b, v)].lookup y = some c) : y ∈ [b] := by
  rw [List.lookup_cons] at h
  cases e : y == b with
  | true => exact List.mem_singleton.mpr (beq_iff_eq.mp e)
  | false => rw [e] at h; cases h
theorem coverL (cells : List (Str × Addr)) : ∀ y c, (cloFrom cells (C8.fnScope st_last).names []).lookup y = some c → y ∈ (["book"] : List Str) := fun y c h => by
  have e : cloFrom cells (C8.fnScope st_last).names [] = [(("book" : Str), (cells.lookup ("book" : Str)).getD 0)] := rfl
  rw [e] at h
  exact lk1 h
theorem coverF (cells : List (Str × Addr)) : ∀ y c, (cloFrom cells (C8.fnScope st_first).names []).lookup y = some c → y ∈ (["book"] : List Str) := fun y c h => by
  have e : cloFrom cells (C8.fnScope st_first).names [] = [(("book" : Str), (cells.lookup ("book" : Str)).getD 0)] := rfl
  rw [e] at h
  exact lk1 h
theorem freeL : ∀ y ∈ (C8.fnScope st_last).names, y.2 = .free → (defScope st_three_of).names.lookup y.1 = some .cell ∨ (defScope st_three_of).names.lookup y.1 = some .free := ndef_free (fr := ["book"]) (by decide +kernel)
theorem entL {X : Cx} {pins : List (Addr × Obj)} {σ : L2.St} {H : Hp} {s : Shared} {N : List Str} {x : Str} {st : Stmt} {f : Addr} {cdv : Value} (hs : X.env.scope = defScope st_three_of) (hN : X.N = N3) (hfn : ∀ y, X.fn y = true) (I : Inv X pins σ H s) (q : Str) (c : Addr) :
    Entry (cxY X N x st f cdv s H) (NF.of st_last "last_ones" q (cloFrom X.env.cells (C8.fnScope st_last).names []) c) ["book"] [slotAt σ 0] :=
  entry_of (js := [0]) I (Caps.made I.ok (by rw [hs]; exact freeL) (ndef_fr (sc := defScope st_three_of) (by decide +kernel)) (by rw [hN]; rfl)) (fun y _ => hfn y) (coverL _)
theorem freeF : ∀ y ∈ (C8.fnScope st_first).names, y.2 = .free → (defScope st_three_of).names.lookup y.1 = some .cell ∨ (defScope st_three_of).names.lookup y.1 = some .free := ndef_free (fr := ["book"]) (by decide +kernel)
theorem entF {X : Cx} {pins : List (Addr × Obj)} {σ : L2.St} {H : Hp} {s : Shared} {N : List Str} {x : Str} {st : Stmt} {f : Addr} {cdv : Value} (hs : X.env.scope = defScope st_three_of) (hN : X.N = N3) (hfn : ∀ y, X.fn y = true) (I : Inv X pins σ H s) (q : Str) (c : Addr) :
    Entry (cxY X N x st f cdv s H) (NF.of st_first "first_ones" q (cloFrom X.env.cells (C8.fnScope st_first).names []) c) ["book"] [slotAt σ 0] :=
  entry_of (js := [0]) I (Caps.made I.ok (by rw [hs]; exact freeF) (ndef_fr (sc := defScope st_three_of) (by decide +kernel)) (by rw [hN]; rfl)) (fun y _ => hfn y) (coverF _)
theorem ok_three_of (T : Tx g) {P : Addr} (tb : TabB g.base g.mg (He.cT g.K ("three_of", none)).1 P) : CalG g 8 "three_of" (pThree g P) := by
  have m_Closing := ok_Closing T
  have c_is_short := ok_is_short T
  have c_matters_at := ok_matters_at T
  obtain ⟨fd, F⟩ := T.d_three_of
  have F0 := F
  obtain ⟨oc, od, dV, kV, doc, pm, an, cdv, ct, osl, rfl, lk, hcd, _, _⟩ := F.ex
  obtain ⟨c3, rfl⟩ := He.codeIn_ref hcd
  have ec : (He.cT g.K ("three_of", none)).1 = c3 := He.codeOf_eq (p := ("three_of", none)) lk rfl
  rw [ec] at tb
  refine ⟨_, _, ["book", "words"], [], fn_of (k := 7) (N := N3) lk hcd sc_three_of (fun vs H Q E h => ?_) (fun A outer s0 H vs Q E hr h => ?_), T.g_three_of, F0.kp, F0.bindsN (fun _ _ _ _ _ _ us hl => match us, hl with | [_, _], _ => rfl), .nil⟩
  · obtain ⟨rb, a, B, ps, rfl, _⟩ := h; rfl
  · obtain ⟨rb, a, B, ps, rfl, hb, o, hps, hw, h12, hP, kn, ks⟩ := h
    have hcode : (cxG g N3 "three_of" (defScope st_three_of) (He.ga g.K "three_of") (.ref c3) A outer s0 H).env.code = .ref c3 := rfl
    refine ⟨_, PSs.nox (X := cxOf CX0 g.P g.w g.K g.mg g.base N3 "three_of" (defScope st_three_of) (He.ga g.K "three_of") (.ref c3) A outer s0 H E) (pss_cons (ps_set (i := 2) sc_three_of.nd rfl (by first | exact Or.inl rfl | exact Or.inr rfl) (pe_fldG (K := g.K) (by rfl) (C8.pe_mk m_Closing hr (by omega) (by rfl) (pa_cons (pv 0) (pa_cons (pv 1) pa_nil))) rfl))
      (pss_cons (ps_ndefS (st := st_last) (i := 3) (T := [(P, nm3)]) (nm := nm3) rfl tb hcode (List.mem_singleton.mpr rfl) (by rfl) (fun p hp _ => by rw [List.mem_singleton.mp hp]) freeL rfl rfl rfl sc_three_of.nd rfl (Or.inl rfl) (Or.inr rfl))
      (pss_cons (ps_ndefS (st := st_first) (i := 4) (T := [(P, nm3)]) (nm := nm3) rfl tb hcode (List.mem_singleton.mpr rfl) (by rfl) (fun p hp _ => by rw [List.mem_singleton.mp hp]) freeF rfl rfl rfl sc_three_of.nd rfl (Or.inl rfl) (Or.inr rfl))
      (pss_cons (ps_set (i := 5) sc_three_of.nd rfl (by first | exact Or.inl rfl | exact Or.inr rfl) (pe_here (k := 1) (x := "by_windows") (st := st_by_windows) (sp := fun σ vs H Q => ∃ f c, spB g Bk.fb f (NF.of st_first "first_ones" (qual3 ++ "first_ones") (cloFrom (cells3 s0) (C8.fnScope st_first).names []) c) [slotAt σ 0] vs H Q) T.d_by_windows sc_by_windows T.g_by_windows hr (by omega) (fun _ _ _ _ _ _ us hl => match us, hl with | [_, _], _ => rfl) (fun σ vs H Q h => by obtain ⟨_, _, _, _, _, _, rfl, _⟩ := h; rfl) (fun pins σ H s vs Q cdv I h room => by obtain ⟨f, c, h⟩ := h; exact bw_body T (ok_first T f _ _ c) rfl (entF rfl rfl (fun _ => rfl) I _ c) room h) (by rfl) (pa_cons (pv 2) (pa_cons (pv 4) pa_nil))))
      (pss_cons (ps_forM PassesOwn.never rfl (pi_itemsN (D := rowD) true (pe_here (k := 1) (x := "by_windows") (st := st_by_windows) (sp := fun σ vs H Q => ∃ f c, spB g Bk.la f (NF.of st_last "last_ones" (qual3 ++ "last_ones") (cloFrom (cells3 s0) (C8.fnScope st_last).names []) c) [slotAt σ 0] vs H Q) T.d_by_windows sc_by_windows T.g_by_windows hr (by omega) (fun _ _ _ _ _ _ us hl => match us, hl with | [_, _], _ => rfl) (fun σ vs H Q h => by obtain ⟨_, _, _, _, _, _, rfl, _⟩ := h; rfl) (fun pins σ H s vs Q cdv I h room => by obtain ⟨f, c, h⟩ := h; exact bw_body T (ok_last T f _ _ c) rfl (entL rfl rfl (fun _ => rfl) I _ c) room h) (by rfl) (pa_cons (pv 2) (pa_cons (pv 3) pa_nil)))) (pg_tupG (K := g.K) (by rfl) (by rfl) (pgs_cons (pg_name (i := 6) sc_three_of.nd rfl (by first | exact Or.inl rfl | exact Or.inr rfl)) (pgs_cons (pg_name (i := 7) sc_three_of.nd rfl (by first | exact Or.inl rfl | exact Or.inr rfl)) pgs_nil)))
        (pss_one (ps_forM PassesOwn.never rfl (pi_list (pv 2)) (pg_name (i := 8) sc_three_of.nd rfl (by first | exact Or.inl rfl | exact Or.inr rfl))
          (pss_one (ps_if (pt_val (C8.pe_c c_is_short hr (by omega) (by rfl) (pa_cons (pv 8) pa_nil)))
            (pss_one (ps_lock (ps_forM PassesOwn.never rfl (pi_itemsN (D := rowD) false (pv 5)) (pg_tupG (K := g.K) (by rfl) (by rfl) (pgs_cons (pg_name (i := 9) sc_three_of.nd rfl (by first | exact Or.inl rfl | exact Or.inr rfl)) (pgs_cons (pg_name (i := 10) sc_three_of.nd rfl (by first | exact Or.inl rfl | exact Or.inr rfl)) pgs_nil)))
              (pss_one (ps_if (pt_val (C8.pe_c c_matters_at hr (by omega) (by rfl) (pa_cons (pv 0) (pa_cons (pv 6) (pa_cons (pe_ix ix_tupM (pv 8) pe_int (fun _ _ => rfl)) (pa_cons (pv 9) pa_nil))))))
                (pss_one (ps_ret (pe_tupM (pa_cons (pv 7) (pa_cons (pv 8) (pa_cons (pv 10) pa_nil))))))
                pss_nil)))))
            pss_nil)))))
      (pss_one (ps_ret pe_non))))))), ?_⟩
    have CC := T.c_Closing
    refine ⟨_, rfl, _, rfl, fun x dx nx nd ne => ⟨x, rb, a, dx, B, ps, H, rfl, upd_same, same_mk0 nx nd, nx, hb, o, hps, hw, h12, fun H1 c es fw md s1 _ hrb h1 ci all clo _ => ⟨rfl, x, _, _, _, _, rfl, h1.at_, CC, T.n_Closing_found, rfl, ?_⟩⟩⟩
    refine ⟨fun p hp => by rw [List.mem_singleton.mp hp]; exact TabN.nil (s1 _ _ hP), fun f1 c1 H2 e2 tb2 nf1 hf1 hc1 => ⟨tb2, fun f2 c2 H3 e3 tb3 nf2 hf2 hc2 => ?_⟩⟩
    have e13 := e2.trans e3
    have hb1 : BookAt g H1 rb B := hb.same s1
    have hb3 := hb1.ext e13
    have fl3 := e13 _ _ h1.fnd (fun _ z => nomatch z)
    have els3 : ∀ e ∈ es, PairAt H3 e.1 e.2 := fun e he => (h1.els e he).tk (ext_tk e13)
    have hf13 := e3 _ _ hf1 (fun ps z => fnO_ne ps z)
    have hc13 := e3 _ _ hc1 (fun ps z => codeO_ne ps z)
    have sg : ∀ e ∈ es, Sg B e.2 := fun e he => ci.sg _ (List.mem_map.mpr ⟨e, he, rfl⟩)
    have l400 : es.length ≤ 400 := by have := ci.len o; rw [List.length_map] at this; exact this
    have lE : (es.map fun e => V.ref e.1).length = es.length := List.length_map _
    have e03 : ExtN H H3 := (ExtN.of s1).trans e13
    clear e2 e3 e13 hf1 hc1 tb2 tb3 hb1
    refine ⟨_, rfl, _, rfl, f2, c2, rb, c.fl, B, es, rfl, rfl, hb3, o, fl3, els3, sg, l400, hf2, hc2, fun d1 kv1 H4 s4 nd1 w1 => ?_⟩
    refine ⟨_, rfl, _, rfl, f1, c1, rb, c.fl, B, es, rfl, rfl, hb3.same s4, o, s4 _ _ fl3, (fun e he => (els3 e he).same s4), sg, l400, s4 _ _ hf13, s4 _ _ hc13, fun d2 kv2 H5 s5 nd2 w2 => ?_⟩
    obtain ⟨⟨es1, hd1, ev1, lies1⟩, p11, p12⟩ := w1
    obtain ⟨⟨es2, hd2, ev2, lies2⟩, p21, p22⟩ := w2
    refine ⟨d2, es2, rfl, hd2, fun od2 => ?_⟩
    have s46 : Same H4 (upd H5 d2 (.frz od2 (DO g.P g.w rowD d2 es2))) := same_put s5 nd2
    have tk56 : Tk H5 (upd H5 d2 (.frz od2 (DO g.P g.w rowD d2 es2))) := tk_do hd2
    have hd26 : (upd H5 d2 (.frz od2 (DO g.P g.w rowD d2 es2))) d2 = some (.frz od2 (DO g.P g.w rowD d2 es2)) := upd_same
    obtain ⟨H6, e6⟩ : ∃ X, X = upd H5 d2 (.frz od2 (DO g.P g.w rowD d2 es2)) := ⟨_, rfl⟩
    rw [← e6] at s46 tk56 hd26
    have s36 := s4.trans s46
    have e06 : ExtN H H6 := e03.trans (ExtN.of s36)
    have hd16 := s46 _ _ hd1
    have l1 : ∀ e ∈ es1, RowAt H6 e.2.1 e.1 := fun e he => s46 _ _ (lies1 e he)
    have l2 : ∀ e ∈ es2, RowAt H6 e.2.1 e.1 := fun e he => tk56 _ _ (lies2 e he)
    have q1 : ∀ e ∈ es1, ∃ u ∈ es, e.2.2 = .ref u.1 ∧ B.fb (st u.2) = e.1 := fun e he => p11 (e.1, e.2.2) (by rw [← ev1]; exact List.mem_map.mpr ⟨e, he, rfl⟩)
    have q2 : ∀ e ∈ es2, ∃ u ∈ es, e.2.2 = .ref u.1 ∧ B.la (st u.2) = e.1 := fun e he => p21 (e.1, e.2.2) (by rw [← ev2]; exact List.mem_map.mpr ⟨e, he, rfl⟩)
    have k1 : ∀ u ∈ es, ∃ e ∈ es1, e.1 = B.fb (st u.2) := fun u hu => by
      have := p12 u hu
      rw [← ev1] at this
      obtain ⟨y, hy, e⟩ := List.mem_map.mp this
      obtain ⟨z, hz, rfl⟩ := List.mem_map.mp hy
      exact ⟨z, hz, e⟩
    have k2 : ∀ u ∈ es, ∃ e ∈ es2, e.1 = B.la (st u.2) := fun u hu => by
      have := p22 u hu
      rw [← ev2] at this
      obtain ⟨y, hy, e⟩ := List.mem_map.mp this
      obtain ⟨z, hz, rfl⟩ := List.mem_map.mp hy
      exact ⟨z, hz, e⟩
    have hb6 := hb3.same s36
    have fl6 := s36 _ _ fl3
    have els6 : ∀ e ∈ es, PairAt H6 e.1 e.2 := fun e he => (els3 e he).same s36
    have lenK1 : ∀ e ∈ es1, e.1.length ≤ 4 := fun e he => by
      obtain ⟨u, _, _, z⟩ := q1 e he
      rw [← z, fb_len]; have := o.b4; omega
    have lenK2 : ∀ e ∈ es2, e.1.length ≤ 4 := fun e he => by
      obtain ⟨u, _, _, z⟩ := q2 e he
      rw [← z, la_len]; have := o.a4; omega
    clear fl3 els3 hf13 hc13 p11 p12 p21 p22 hd1 hd2 lies1 lies2 s4 s5 s46 tk56 e03 hf2 hc2
    refine for_wk (wk_items (R := fun H' => Same H6 H') fun H' r => r _ _ hd26) (fun i σ H' => ∃ y6 y7 y8 y9 y10, σ = [some (.ref rb), some (.ref a), some (.ref c.fl), some (.ref f1), some (.ref f2), some (.ref d1), y6, y7, y8, y9, y10] ∧ Same H6 H' ∧ ∀ i' e, i' < i → es2[i']? = some e → ∀ m ∈ es, m.2.2.length = 0 → ∀ z ∈ es1, As B e.1 m.2.1 z.1)
      (fun _ _ _ ⟨_, _, _, _, _, _, h, _⟩ => h) ⟨_, _, _, _, _, rfl, (by rw [e6]; exact Same.refl _), fun i' e hi => absurd hi (Nat.not_lt_zero _)⟩ ?_ ?_
    · rintro σ H7 ⟨y6, y7, y8, y9, y10, rfl, s7, done⟩
      refine kn H7 (e06.trans (ExtN.of s7)) ?_
      have h1 : ∀ w, (fun r => r ∈ ps.map (·.2)) w → B.sm w ∈ es.map (·.2) := fun w hw => by
        obtain ⟨p, hp, rfl⟩ := List.mem_map.mp hw
        exact all p hp
      intro X Y Z hX hY hZ
      refine as_said o h1 clo (fun p hp m hm hm0 q hq => ?_) hX hY hZ
      obtain ⟨ep, hep, rfl⟩ := List.mem_map.mp hp
      obtain ⟨em, hem, rfl⟩ := List.mem_map.mp hm
      obtain ⟨eq, heq, rfl⟩ := List.mem_map.mp hq
      obtain ⟨z1, hz1, r1⟩ := k1 eq heq
      obtain ⟨z2, hz2, r2⟩ := k2 ep hep
      obtain ⟨i, hi⟩ := List.mem_iff_getElem?.mp hz2
      rw [← r1, ← r2]
      exact done i z2 (List.getElem?_eq_some_iff.mp hi).1 hi em hem hm0 z1 hz1
    · rintro i y σ H7 H8 hi ⟨y6, y7, y8, y9, y10, rfl, s7, done⟩ s8 ⟨tq, e2, he2, rfl, htq⟩
      have m2 := List.mem_of_getElem? he2
      obtain ⟨u2, hu2, v2, w2⟩ := q2 e2 m2
      rw [v2] at htq
      have t8 := s7.trans s8
      refine ⟨tq, _, rfl, .inl (.inl htq), rfl, _, _, rfl, _, _, rfl, rfl, ?_⟩
      refine ⟨_, rfl, c.fl, rfl, ⟨_, .inl (.inl (t8 _ _ fl6))⟩, ?_⟩
      refine for_wk (wk_lst (R := fun H' => Same H6 H') fun H' r => r _ _ fl6) (fun j σ H' => ∃ y8 y9 y10, σ = [some (.ref rb), some (.ref a), some (.ref c.fl), some (.ref f1), some (.ref f2), some (.ref d1), some (.ref e2.2.1), some (.ref u2.1), y8, y9, y10] ∧ Same H6 H' ∧ ∀ j' m, j' < j → es[j']? = some m → m.2.2.length = 0 → ∀ z ∈ es1, As B e2.1 m.2.1 z.1)
        (fun _ _ _ ⟨_, _, _, _, h, _⟩ => h) ⟨_, _, _, rfl, t8, fun j' e hj => absurd hj (Nat.not_lt_zero _)⟩ ?_ ?_
      · rintro σ H9 ⟨y8, y9, y10, rfl, s9, dn⟩
        refine ⟨_, _, _, _, _, rfl, s9, fun i' e hi' he m hm hm0 z hz => ?_⟩
        by_cases ci' : i' = i
        · subst ci'
          rw [he2] at he; cases he
          obtain ⟨j, hj⟩ := List.mem_iff_getElem?.mp hm
          exact dn j m (by rw [lE]; exact (List.getElem?_eq_some_iff.mp hj).1) hj hm0 z hz
        · exact done i' e (by omega) he m hm hm0 z hz
      · rintro j y σ H9 H10 hj ⟨y8, y9, y10, rfl, s9, dn⟩ s10 hy
        rw [List.getElem?_map] at hy
        obtain ⟨em, hem, rfl⟩ := Option.map_eq_some_iff.mp hy
        have mm := List.mem_of_getElem? hem
        have t10 := s9.trans s10
        have pm := (els6 em mm).same t10
        refine ⟨_, rfl, em.1, em.2, rfl, pm, _, rfl, ?_⟩
        by_cases short : em.2.2.length = 0
        · refine ifT (decide_eq_true short) ⟨d1, _, t10 _ _ hd16, True.intro, fun od1 => ?_⟩
          have tkL : Tk H10 (upd H10 d1 (.frz od1 (DO g.P g.w rowD d1 es1))) := tk_do (t10 _ _ hd16)
          refine ⟨_, rfl, d1, es1, rfl, od1, upd_same, ?_⟩
          obtain ⟨qa, qb, pm1, pm2, pm3⟩ := id pm
          refine for_wk (wk_items (R := fun H' => Same (upd H10 d1 (.frz od1 (DO g.P g.w rowD d1 es1))) H') fun H' r => r _ _ upd_same) (fun k σ H' => ∃ y9 y10, σ = [some (.ref rb), some (.ref a), some (.ref c.fl), some (.ref f1), some (.ref f2), some (.ref d1), some (.ref e2.2.1), some (.ref u2.1), some (.ref em.1), y9, y10] ∧ Same (upd H10 d1 (.frz od1 (DO g.P g.w rowD d1 es1))) H' ∧ ∀ k' z, k' < k → es1[k']? = some z → As B e2.1 em.2.1 z.1)
            (fun _ _ _ ⟨_, _, _, h, _⟩ => h) ⟨_, _, rfl, .refl _, fun k' e hk => absurd hk (Nat.not_lt_zero _)⟩ ?_ ?_
          · rintro σ H11 ⟨y9, y10, rfl, s11, dk⟩
            refine ⟨s11 _ _ upd_same, _, _, _, rfl, t10.trans (same_unlock (t10 _ _ hd16) s11), fun j' m hj' hm hm0 z hz => ?_⟩
            by_cases cj : j' = j
            · subst cj
              rw [hem] at hm; cases hm
              obtain ⟨k, hk⟩ := List.mem_iff_getElem?.mp hz
              exact dk k z (List.getElem?_eq_some_iff.mp hk).1 hk
            · exact dn j' m (by omega) hm hm0 z hz
          · rintro k y σ H11 H12 hk ⟨y9, y10, rfl, s11, dk⟩ s12 ⟨tr, e1, he1, rfl, htr⟩
            have m1 := List.mem_of_getElem? he1
            obtain ⟨u1, hu1, v1, w1⟩ := q1 e1 m1
            rw [v1] at htr
            have tL := s11.trans s12
            have tk12 : Tk H10 H12 := tkL.trans tL.tk
            have bk12 : BookAt g H12 rb B := hb3.same ((same_put (s36.trans t10) nd1).trans tL)
            refine ⟨tr, _, rfl, .inl (.inl htr), rfl, _, _, rfl, _, _, rfl, rfl, ?_⟩
            refine ⟨_, rfl, _, rfl, _, rfl, em.1, _, _, _, rfl, rfl, tk12 _ _ pm1, rfl, _, rfl, rb, e2.2.1, qa, e1.2.1, B, e2.1, em.2.1, e1.1, rfl, bk12, o, tk12 _ _ (t10 _ _ (l2 e2 m2)), tk12 _ _ pm2, tk12 _ _ (t10 _ _ (l1 e1 m1)), by have := lenK2 e2 m2; omega, by have := st_len o (sg em mm); omega, by have := lenK1 e1 m1; omega, fun H13 s13 => ⟨_, rfl, ?_⟩⟩
            by_cases as : B.met e2.1 (B.met em.2.1 e1.1) = B.met (B.met e2.1 em.2.1) e1.1
            · refine ifF (by rw [decide_eq_true as]; rfl) ⟨_, _, rfl, tL.trans s13, fun k' z hk' hz => ?_⟩
              by_cases ck : k' = k
              · subst ck
                rw [he1] at hz; cases hz
                exact as
              · exact dk k' z (by omega) hz
            · refine ifT (by rw [decide_eq_false as]; rfl) ⟨_, rfl, _, rfl, _, rfl, cc_le (n := 3) (Nat.le_refl _) (by omega), fun r H14 s14 _ h14 => ?_⟩
              have tA := (tL.trans s13).trans s14
              have sU := same_unlock (t10 _ _ hd16) tA
              have mI : ∀ e ∈ es, e.2 ∈ es.map (·.2) := fun e he => List.mem_map.mpr ⟨e, he, rfl⟩
              have eU : ExtN H (upd H14 d1 (DO g.P g.w rowD d1 es1)) := e06.trans (ExtN.of (t10.trans sU))
              have tU := t10.trans sU
              refine ⟨tA _ _ upd_same, ks _ r u2.1 em.1 u1.1 u2.2 em.2 u1.2 eU ?_ ((els6 u2 hu2).same tU) ((els6 em mm).same tU) ((els6 u1 hu1).same tU) (su_all o ci (mI u2 hu2)) (su_all o ci (mI em mm)) (su_all o ci (mI u1 hu1)) short ?_⟩
              · rw [upd_ne (fun z => by
                  have q := tA _ _ upd_same
                  rw [← z, h14] at q; cases q)]
                exact h14
              · rw [w2, w1]; exact as
        · exact ifF (decide_eq_false short) ⟨_, _, _, rfl, t10, fun j' m hj' hm hm0 z hz => by
            by_cases cj : j' = j
            · subst cj
              rw [hem] at hm; cases hm
              exact absurd hm0 short
            · exact dn j' m (by omega) hm hm0 z hz⟩
end
end K73
end

section
set_option linter.all false
set_option maxRecDepth 100000
set_option maxHeartbeats 4000000
/-! ever_matters, phrase_for -/
namespace K73
open PySem PySem.Spec PyProof.Rows L2 NdefX LamX
theorem u65 {k : Nat} {A : Around} (r : Room k A) : A.units + 65 < cLine := by have := r.un; omega
theorem dp_pairs {K : PySem.W.Frag} {H : Hp} : ∀ {es : List (Addr × (R × R))}, (∀ e ∈ es, PairAt H e.1 e.2) → DpAll K H (es.map fun e => V.ref e.1) (es.map fun e => pairDt e.2)
  | [], _ => .nil
  | e :: es, h => .cons (dp_pair (h e List.mem_cons_self)) (dp_pairs fun x hx => h x (List.mem_cons_of_mem _ hx))
theorem pairs_lay : ∀ es : List (R × R), PyData.canLayAll0 (es.map pairDt) = true
  | [] => by simp [PyData.canLayAll0]
  | x :: r => by simp [PyData.canLayAll0, pair_lay, pairs_lay r]
theorem pairs_depth : ∀ es : List (R × R), PyData.depthAll (es.map pairDt) ≤ 2
  | [] => by simp [PyData.depthAll]
  | x :: r => by
    have := pairs_depth r
    rw [List.map_cons, PyData.depthAll, pair_depth]; omega
theorem pairs_shaped (es : List (R × R)) : SeqAt.shaped (.list (es.map pairDt)) = true := by
  have h2 : PyData.depth (.list (es.map pairDt)) ≤ 64 := by
    have := pairs_depth es
    rw [PyData.depth]; omega
  show (PyData.canLay0 (.list (es.map pairDt)) && decide (PyData.depth (.list (es.map pairDt)) ≤ 64)) = true
  rw [decide_eq_true h2, PyData.canLay0, pairs_lay]; rfl
section
variable {X : Cx}
def rNotInP : R2 := fun x y H Q => ∃ a fl p, ∃ es : List (Addr × (R × R)), x = .ref a ∧ y = .ref fl ∧ PairAt H a p ∧ H fl = some (.lst (es.map fun e => V.ref e.1)) ∧ (∀ e ∈ es, PairAt H e.1 e.2) ∧ p ∈ es.map (·.2) ∧ Q (.bl false) H
theorem op_notInP (hu : X.A.units + 65 < cLine) : OpR X (compareOp .NotIn) rNotInP := opr_imp (op_notInD hu) fun x y H Q ⟨a, fl, p, es, e1, e2, hp, hf, he, hm, q⟩ => by
  subst e1 e2
  have em : (es.map fun e => pairDt e.2) = (es.map (·.2)).map pairDt := by rw [List.map_map]; rfl
  refine ⟨pairDt p, es.map fun e => pairDt e.2, dp_pair hp, .lst (.inl (.inl hf)) (dp_pairs he), pair_shaped p, by rw [em]; exact pairs_shaped _, ?_⟩
  have : ((es.map fun e => pairDt e.2).any fun z => PyData.eqv z (pairDt p)) = true := by
    rw [em]
    exact List.any_eq_true.mpr ⟨pairDt p, List.mem_map.mpr ⟨p, hm, rfl⟩, by rw [eqv_pair]; exact decide_eq_true rfl⟩
  rw [this]
  exact q
end
section
variable {g : Gr}
theorem ok_ever_matters (T : Tx g) {P : Addr} (tb : TabB g.base g.mg (He.cT g.K ("three_of", none)).1 P) : CalG g 9 "ever_matters" (fun vs H Q => pThree g P vs H Q ∧ ∀ rb a ps, vs = [.ref rb, .ref a] → WsAt H a ps → 1 ≤ ps.length) := by
  have c_check_list := ok_check_list T
  have c_three_of := ok_three_of T tb
  refine calD T.d_ever_matters T.g_ever_matters sc_ever_matters (fun _ _ _ _ _ _ us hl => match us, hl with | [_, _], _ => rfl) (fun vs H Q h => ?_) fun cdv A outer s0 H vs Q hr h => ?_
  · obtain ⟨⟨rb, a, B, ps, rfl, _⟩, _⟩ := h; rfl
  · obtain ⟨⟨rb, a, B, ps, rfl, hb, o, hps, hw, h12, hP, kn, ks⟩, h1⟩ := h
    have h1 := h1 rb a ps rfl hps
    refine ⟨_, (pss_cons (ps_expr (C8.pe_c c_check_list hr (by omega) (by rfl) (pa_cons (pv 0) (pa_cons (pv 1) pa_nil))))
      (pss_one (ps_ret (C8.pe_c c_three_of hr (by omega) (by rfl) (pa_cons (pv 0) (pa_cons (pv 1) pa_nil)))))), ?_⟩
    refine ⟨_, rfl, _, rfl, rb, a, B, ps, rfl, hb, hps, hw, h1, h12, fun H1 s1 => ?_⟩
    exact ⟨_, rfl, _, rfl, rb, a, B, ps, rfl, hb.same s1, o, hps.same s1, hw, h12, s1 _ _ hP, fun H2 e2 as => kn H2 ((ExtN.of s1).trans e2) as, fun H2 r a1 a2 a3 p m q e2 => ks H2 r a1 a2 a3 p m q ((ExtN.of s1).trans e2)⟩
/-- no summary of the book's words needs more than 40 words -/
def Few (B : Bk) : Prop := ∀ (W : R → Prop) (F : List (R × R)) (fw : R × R → Int) (md : R × R → Md), CI B W F fw md → Stl B F fw → (∀ w, W w → B.sm w ∈ F) → (∀ p ∈ F, ∀ q ∈ F, B.jn p q ∈ F) → (∀ w, W w → 1 ≤ w.length) → (∀ w, W w → fw (B.sm w) ≤ 1) → ∀ p ∈ F, fw p ≤ 40
def pPhraseFor (g : Gr) : Pr := fun vs H Q => ∃ (rb a th : Addr) (B : Bk) (ps : List (Addr × R)) (p : R × R), vs = [.ref rb, .ref a, .ref th] ∧ BookAt g H rb B ∧ B.Ok ∧ Few B ∧ WsAt H a ps ∧ WsOk B.s ps ∧ 1 ≤ ps.length ∧ ps.length ≤ 12 ∧ PairAt H th p ∧ Su B (fun r => r ∈ ps.map (·.2)) p ∧
  ∀ H' r qs t, Same H H' → PhrAt H' r qs t → Ph B (fun r => r ∈ ps.map (·.2)) p (qs.map (·.2)) t → t.n + 1 ≤ 40 → Q (.ref r) H'
theorem ok_phrase_for (T : Tx g) : CalG g 44 "phrase_for" (pPhraseFor g) := by
  have c_check_list := ok_check_list T
  have m_Closing := ok_Closing T
  have c_is_pair_of_rows := ok_is_pair_of_rows T
  have t_settle := ok_settle T
  have t_phrase := ok_phrase T 40 (Nat.le_refl _)
  refine calD T.d_phrase_for T.g_phrase_for sc_phrase_for (fun _ _ _ _ _ _ us hl => match us, hl with | [_, _, _], _ => rfl) (fun vs H Q h => ?_) fun cdv A outer s0 H vs Q hr h => ?_
  · obtain ⟨rb, a, th, B, ps, p, rfl, _⟩ := h; rfl
  · obtain ⟨rb, a, th, B, ps, p, rfl, hb, o, few, hps, hw, h1, h12, hth, su, kk⟩ := h
    refine ⟨_, (pss_cons (ps_expr (C8.pe_c c_check_list hr (by omega) (by rfl) (pa_cons (pv 0) (pa_cons (pv 1) pa_nil))))
      (pss_cons (ps_set (i := 3) sc_phrase_for.nd rfl (by first | exact Or.inl rfl | exact Or.inr rfl) (C8.pe_mk m_Closing hr (by omega) (by rfl) (pa_cons (pv 0) (pa_cons (pv 1) pa_nil))))
      (pss_cons (ps_if (PW.pt (pw_or (pt_not (pt_val (C8.pe_c c_is_pair_of_rows hr (by omega) (by rfl) (pa_cons (pv 0) (pa_cons (pv 2) pa_nil))))) (pw_or1 (pt_cmpR (op_notInP (by exact u65 hr)) (pv 2) (pe_fldG (K := g.K) (by rfl) (pv 3) rfl) rfl))))
        (pss_one (ps_ret pe_non))
        pss_nil)
      (pss_cons (ps_expr (C8.pe_mt0 t_settle hr (by omega) (pv 3)))
      (pss_cons (ps_if (pt_cmpR op_gt (pe_dgetN (D := pairD) (by exact hr.units) (pe_fldG (K := g.K) (by rfl) (pv 3) rfl) (pv 2) (fun _ _ => rfl)) (C8.pe_gc (by rfl) T.v_MOST_WORDS) (nomark _))
        (pss_one ps_never)
        pss_nil)
      (pss_one (ps_ret (C8.pe_mt t_phrase hr (by omega) (pv 3) (pa_cons (pv 2) pa_nil))))))))), ?_⟩
    have CC := T.c_Closing
    refine ⟨_, rfl, _, rfl, rb, a, B, ps, rfl, hb, hps, hw, h1, h12, fun H1 s1 => ?_⟩
    have hb1 := hb.same s1
    have hps1 := hps.same s1
    refine ⟨_, rfl, _, rfl, fun x dx nx nd ne => ⟨x, rb, a, dx, B, ps, H1, rfl, upd_same, same_mk0 nx nd, nx, hb1, o, hps1, hw, h12, fun H2 c es fw md s2 fre hrb h2 ci all clo one => ⟨rfl, ?_⟩⟩⟩
    have words : ∀ w, (fun r => r ∈ ps.map (·.2)) w → B.sm w ∈ es.map (·.2) := fun w hw => by
      obtain ⟨q, hq, rfl⟩ := List.mem_map.mp hw
      exact all q hq
    have hp : p ∈ es.map (·.2) := by
      obtain ⟨y, hy, rfl⟩ := su
      exact said_in o words clo hy
    have sp := ci.sg p hp
    have rw1 := sp.rw1
    have len1 := sp.len
    have t2 := s1.trans s2
    refine ⟨_, rfl, _, rfl, rb, th, B, p, rfl, hb.same t2, hth.same t2, o, rw1.1, rw1.2, len1.1, len1.2, fun H3 s3 => ⟨true, rfl, ?_⟩⟩
    have h3 := h2.same s3
    have t3 := t2.trans s3
    refine ⟨_, rfl, _, rfl, x, _, _, _, _, rfl, h3.at_, CC, T.n_Closing_found, rfl, th, c.fl, p, es, rfl, rfl, hth.same t3, h3.fnd, h3.els, hp, false, rfl, ?_⟩
    refine ⟨_, rfl, x, _, _, rfl, h3.at_, rfl, x, c, B, _, es, fw, md, rfl, h3, o, ci, clo, fun H4 fw' md' s4 h4 ci4 stl le4 => ?_⟩
    have hth4 : PairAt H4 th p := (hth.same t3).tk (s4.tkc h3.kind)
    have f40 := few _ _ _ _ ci4 stl words clo (fun w hw' => by
      obtain ⟨q, hq, rfl⟩ := List.mem_map.mp hw'
      exact (hw q hq).2.1) (fun w hw' => by
      obtain ⟨q, hq, rfl⟩ := List.mem_map.mp hw'
      have := le4 (B.sm q.2)
      rw [one q hq] at this
      exact this) p hp
    obtain ⟨k2, v2, d2, e2, rfl⟩ := h4.few.get hp
    refine ⟨_, rfl, x, _, _, _, _, rfl, h4.at_, CC, T.n_Closing_fewest, rfl, _, rfl, c.d1, k2, p, th, _, rfl, rfl, d2, hth4, e2, _, _, rfl, rfl, false, congrArg V.bl (decide_eq_false (by omega)), ?_⟩
    refine ⟨_, rfl, x, _, _, rfl, h4.at_, rfl, _, rfl, x, th, c, B, _, es, fw', md', p, rfl, h4, o, ci4, stl, hth4, hp, f40, fun H5 r qs t s5 hr5 ph nt => ?_⟩
    refine kk H5 r qs t ?_ hr5 ph (by omega)
    exact s1.trans ((s4.same (s2.trans s3) fre).trans s5)
end
end K73
end

section
set_option linter.all false
set_option maxRecDepth 100000
set_option maxHeartbeats 4000000
/-! the dice -/
namespace K73
open PySem PySem.Spec PyProof.Rows L2 NdefX LamX
def dL (c : Addr) (i b s n : Int) : List V := [.ref c, .int i, .int b, .int s, .int n]
structure DGood (i b s : Int) : Prop where
  i0 : 0 ≤ i
  b0 : 0 ≤ b
  s0 : 0 ≤ s
  s1 : s < 2147483648
/-- the dice list at d: what it holds is not told, only that it holds what dice hold -/
def DiceO (d c : Addr) : HO := .ext fun h => ∃ i b s n, DGood i b s ∧ ∃ (its : List Value) (m : Nat), Vals (dL c i b s n) its ∧ h.get? d = some { cls := .type "list", data := .seq its.toArray m }
section
variable {X : Cx} {pins : List (Addr × Obj)} {σ : L2.St} {H : Hp} {s : Shared} {d c : Addr}
theorem inv_open (I : Inv X pins σ H s) (h : H d = some (DiceO d c)) : ∃ i b z n, DGood i b z ∧ Inv X pins σ (upd H d (.lst (dL c i b z n))) s := by
  obtain ⟨⟨i, b, z, n, gd, its, m, rv, ho⟩, _, _⟩ := (show ObjOk X.prog X.w H s.heap d (DiceO d c) from I.hok d _ h)
  exact ⟨i, b, z, n, gd, I.write (x := d) (e := d) (t' := s.toks) (h' := s.heap) (by rw [h]; exact True.intro) (.inl rfl) (fun _ _ _ q => q) ⟨_, ho⟩ ⟨by show 5 ≤ sizeLine; decide, its, m, rv, ho⟩⟩
theorem inv_close {i b z n : Int} (I : Inv X pins σ H s) (h : H d = some (.lst (dL c i b z n))) (gd : DGood i b z) : Inv X pins σ (upd H d (DiceO d c)) s := by
  obtain ⟨_, its, m, rv, ho⟩ := (show ObjOk X.prog X.w H s.heap d (.lst (dL c i b z n)) from I.hok d _ h)
  refine I.write (x := d) (e := d) (t' := s.toks) (h' := s.heap) (by rw [h]; exact True.intro) (.inl rfl) (fun _ _ _ q => q) ⟨_, ho⟩ ⟨⟨i, b, z, n, gd, its, m, rv, ho⟩, ⟨_, ho⟩, ?_⟩
  rintro h1 h2 ⟨i, b, z, n, gd, its, m, rv, ho⟩ k
  exact ⟨i, b, z, n, gd, its, m, rv, k _ ho⟩
/-- the end of a part in which the dice lie open -/
def DEnd (d c : Addr) (K : Hp → Prop) (H' : Hp) : Prop := ∃ i b z n, H' d = some (.lst (dL c i b z n)) ∧ DGood i b z ∧ K (upd H' d (DiceO d c))
def tOpen (t : TS) : TS := fun D σ H => ∃ d c, H d = some (DiceO d c) ∧ ∀ i b z n H1, DGood i b z → H1 = upd H d (.lst (dL c i b z n)) → t ⟨fun σ' => DEnd d c (D.nx σ'), fun v => DEnd d c (D.rt v), fun σ' => DEnd d c (D.bk σ'), fun σ' => DEnd d c (D.ct σ')⟩ σ H1
theorem pss_open {l : List Stmt} {t : TS} (h : PSs X l t) : PSs X l (tOpen t) := by
  refine ⟨fun pins s σ H D I hw => ?_⟩
  obtain ⟨d, c, hd, hw⟩ := hw
  obtain ⟨i, b, z, n, gd, I1⟩ := inv_open I hd
  refine thn (h.run pins s σ _ _ I1 (hw i b z n _ gd rfl)) fun f s1 q => ?_
  cases f with
  | next => obtain ⟨σ', H', I2, i, b, z, n, e, gd, q⟩ := q; exact ⟨σ', _, inv_close I2 e gd, q⟩
  | brk => obtain ⟨σ', H', I2, i, b, z, n, e, gd, q⟩ := q; exact ⟨σ', _, inv_close I2 e gd, q⟩
  | cont => obtain ⟨σ', H', I2, i, b, z, n, e, gd, q⟩ := q; exact ⟨σ', _, inv_close I2 e gd, q⟩
  | ret v => obtain ⟨x, σ', H', I2, r, i, b, z, n, e, gd, q⟩ := q; exact ⟨x, σ', _, inv_close I2 e gd, r, q⟩
/-- a dice list just made is closed -/
def tClose (t : TE) : TE := fun σ H Q => t σ H fun v H1 => ∃ d c i b z n, v = .ref d ∧ H1 d = some (.lst (dL c i b z n)) ∧ DGood i b z ∧ ∀ H', H' = upd H1 d (DiceO d c) → Q v H'
theorem pe_close {e : Expr} {t : TE} (h : PE X e t) : PE X e (tClose t) := by
  refine ⟨fun pins s σ H Q I hw => thn (h.run pins s σ H _ I hw) fun u s1 hq => ?_⟩
  obtain ⟨v, H1, I1, r, d, c, i, b, z, n, e, hd, gd, q⟩ := hq
  exact ⟨v, _, inv_close I1 hd gd, r, q _ rfl⟩
end
section
variable {X : Cx}
def rSlK (K : PySem.W.Frag) (x : V) (lo hi : Option Int) (H : Hp) (Q : VK) : Prop := ∃ a, ∃ ns : List Int, x = .ref a ∧ SqL K H a (ns.map V.int) ∧ ∀ p H', Same H H' → H p = none → H' p = some (.lst (((ns.drop (HT.sIx ns.length 0 lo)).take (HT.sIx ns.length ns.length hi - HT.sIx ns.length 0 lo)).map V.int)) → Q (.ref p) H'
theorem sl_lstK {K : PySem.W.Frag} (hK : X.K = K) : SlR X (rSlK K) := fun pins s σ H x v vl vu lo hi sl Q I rx hs pl pu ⟨a, ns, ex, ha, h⟩ => by
  subst hK
  refine sl_list pins s σ H x v vl vu lo hi sl Q I rx hs pl pu ⟨a, _, ex, ha, fun p hp => h p _ (same_new hp) hp ?_⟩
  rw [upd_same]
  unfold cutV
  rw [List.length_map, List.map_take, List.map_drop]
end
def DiceAt (H : Hp) (d : Addr) : Prop := ∃ c, ∃ ns : List Int, H d = some (DiceO d c) ∧ H c = some (.lst (ns.map V.int)) ∧ (∀ z ∈ ns, 0 ≤ z) ∧ ns.length ≤ 1000
theorem DiceAt.same {H H' : Hp} {d : Addr} (h : DiceAt H d) (s : Same H H') : DiceAt H' d := let ⟨c, ns, h1, h2, h3, h4⟩ := h; ⟨c, ns, s _ _ h1, s _ _ h2, h3, h4⟩
section
variable {g : Gr}
def pDice (g : Gr) : Pr := fun vs H Q => ∃ (a : Addr) (ns : List Int), vs = [.ref a] ∧ SqL g.K H a (ns.map V.int) ∧ ∀ d H', Same H H' → DiceAt H' d → Q (.ref d) H'
theorem ok_dice (T : Tx g) : CalG g 1 "_law_dice" (pDice g) := by
  refine calD T.d__law_dice T.g__law_dice sc__law_dice (fun _ _ _ _ _ _ us hl => match us, hl with | [_], _ => rfl) (fun vs H Q h => ?_) fun cdv A outer s0 H vs Q hr h => ?_
  · obtain ⟨a, ns, rfl, _⟩ := h; rfl
  · obtain ⟨a, ns, rfl, ha, kk⟩ := h
    refine ⟨_, (pss_one (ps_ret (pe_close (pe_lstM (pa_cons (pe_lcM (own := [("_law_cell", 1)]) (g := gName 1) (tt := tYes) (by rfl) sc__law_dice.nd (pi_list (pe_slice (sl_lstK (K := g.K) (by rfl)) (pv 0) po_none (po_some pe_int))) (blkOk_by (own := [("_law_cell", 1)]) (N := ["_law_script", "_law_cell"]) (sc := defScope st__law_dice) (by decide +kernel)) (fun _ _ _ _ _ => pg_name (i := 1) sc__law_dice.nd rfl (Or.inl rfl)) (fun _ _ _ _ _ => pts_nil) (fun _ _ _ _ _ => (pe_callB call_abs (by rfl) T.f_abs (by decide +kernel) (pa_cons (pe_callTy call_int1 (by rfl) T.f_int (by decide +kernel) (pa_cons (pv 1) pa_nil)) pa_nil)))) (pa_cons pe_int (pa_cons pe_int (pa_cons pe_int (pa_cons pe_int pa_nil))))))))), ?_⟩
    refine ⟨_, rfl, _, rfl, a, ns, rfl, ha, fun p H1 s1 np hp => ?_⟩
    generalize em : (List.drop _ ns).take _ = m at hp
    have lm : m.length ≤ 63 := by
      rw [← em, List.length_take]
      have e := HT.sIx_nat ns.length ns.length 63
      have e : HT.sIx ns.length ns.length (some 63) = min 63 ns.length := e
      rw [e]; omega
    refine ⟨p, rfl, ⟨_, .inl (.inl hp)⟩, ?_⟩
    refine lc_wk (wk_lst (R := Same H1) fun H' r => r _ _ hp) (fun i acc _ => acc = ((m.map fun z => if z < 0 then -z else z).map V.int).take i) (fun _ _ _ _ _ e => e) (fun i acc _ hi e => ?_) (fun _ _ => rfl) (fun C i x acc H' hi s' hx e y no => ?_) fun D ys H2 s2 hD hys e => ?_
    · rw [List.length_map] at hi
      rw [e, List.length_take]
      exact cc_lt (n := 64) (by omega) (by omega)
    · rw [List.getElem?_map] at hx
      obtain ⟨v, hv, rfl⟩ := Option.map_eq_some_iff.mp hx
      refine ⟨rfl, _, rfl, .inl ⟨_, rfl, _, rfl, y _ _ (.refl _) ?_⟩⟩
      rw [e, take_snoc]
      rw [List.getElem?_map, List.getElem?_map, hv]; rfl
    · rw [List.take_of_length_le (by simp)] at e
      refine ⟨cc_le (n := 5) (Nat.le_refl _) (by omega), fun d H3 s3 nd hd => ?_⟩
      refine ⟨d, D, 0, 0, 1, 0, rfl, hd, ⟨Int.le_refl _, Int.le_refl _, by omega, by omega⟩, fun H4 e4 => ?_⟩
      have s13 := s1.trans (s2.trans s3)
      have fd : H d = none := (s1.trans s2).free nd
      have ndD : D ≠ d := ne_of_none hys nd
      subst e4
      refine kk d _ (same_put s13 fd) ⟨D, _, upd_same, (by rw [upd_ne ndD, s3 _ _ hys, e]), fun z hz => ?_, by rw [List.length_map]; omega⟩
      obtain ⟨w, hw, rfl⟩ := List.mem_map.mp hz
      split <;> omega
def pDraw : Pr := fun vs H Q => ∃ (d : Addr) (n : Nat), vs = [.ref d, .int (n : Nat)] ∧ DiceAt H d ∧ 1 ≤ n ∧ n ≤ 1000 ∧ ∀ (v : Nat) H', Same H H' → v < n → Q (.int (v : Nat)) H'
theorem ok_draw (T : Tx g) : CalG g 1 "_law_draw" pDraw := by
  refine calD T.d__law_draw T.g__law_draw sc__law_draw (fun _ _ _ _ _ _ us hl => match us, hl with | [_, _], _ => rfl) (fun vs H Q h => ?_) fun cdv A outer s0 H vs Q hr h => ?_
  · obtain ⟨d, n, rfl, _⟩ := h; rfl
  · obtain ⟨d, N, rfl, ⟨c, ns, hd, hc, h0, hl⟩, n1, n2, kk⟩ := h
    refine ⟨_, pss_open (pss_cons (ps_if (PW.pt (pw_and (pt_cmpR op_eq (pe_ix ix_lstM (pv 0) pe_int (fun _ _ => rfl)) pe_int (nomark _)) (pw_and1 (pt_cmpR op_lt (pe_ix ix_lstM (pv 0) pe_int (fun _ _ => rfl)) (pe_callB call_lenL (by rfl) T.f_len (by decide +kernel) (pa_cons (pe_ix ix_lstM (pv 0) pe_int (fun _ _ => rfl)) pa_nil)) (nomark _)))))
        (pss_cons (ps_set (i := 2) sc__law_draw.nd rfl (by first | exact Or.inl rfl | exact Or.inr rfl) (pe_ix ix_lstM (pe_ix ix_lstM (pv 0) pe_int (fun _ _ => rfl)) (pe_ix ix_lstM (pv 0) pe_int (fun _ _ => rfl)) (fun _ _ => rfl)))
        (pss_cons (ps_asg (pe_op op_add (pe_ix ix_lstM (pv 0) pe_int (fun _ _ => rfl)) pe_int) (pg_sub (pv 0) pe_int set_listM))
        (pss_one (ps_if (pt_cmpR op_ge (pv 2) (pe_op op_pow pe_int pe_int) (nomark _))
          (pss_one (ps_asg (pv 2) (pg_sub (pv 0) pe_int set_listM)))
          (pss_one (ps_asg (pe_op op_mod (pe_callTy call_int1 (by rfl) T.f_int (by decide +kernel) (pa_cons (pe_op op_add (pe_op op_add (pe_op op_mul (pe_ix ix_lstM (pv 0) pe_int (fun _ _ => rfl)) pe_int) (pe_op op_mul (pv 2) pe_int)) (pe_ix ix_lstM (pv 0) pe_int (fun _ _ => rfl))) pa_nil)) pe_int) (pg_sub (pv 0) pe_int set_listM)))))))
        pss_nil)
      (pss_cons (ps_if (pt_cmpR op_gt (pe_ix ix_lstM (pv 0) pe_int (fun _ _ => rfl)) pe_int (nomark _))
        (pss_cons (ps_set (i := 3) sc__law_draw.nd rfl (by first | exact Or.inl rfl | exact Or.inr rfl) (pe_op op_mod (pe_callTy call_int1 (by rfl) T.f_int (by decide +kernel) (pa_cons (pe_ix ix_lstM (pv 0) pe_int (fun _ _ => rfl)) pa_nil)) (pv 1)))
        (pss_cons (ps_asg (pe_op op_fdiv (pe_callTy call_int1 (by rfl) T.f_int (by decide +kernel) (pa_cons (pe_ix ix_lstM (pv 0) pe_int (fun _ _ => rfl)) pa_nil)) (pv 1)) (pg_sub (pv 0) pe_int set_listM))
        (pss_one (ps_ret (pv 3)))))
        pss_nil)
      (pss_cons (ps_asg (pe_op op_add (pe_ix ix_lstM (pv 0) pe_int (fun _ _ => rfl)) pe_int) (pg_sub (pv 0) pe_int set_listM))
      (pss_cons (ps_asg (pe_op op_mod (pe_callTy call_int1 (by rfl) T.f_int (by decide +kernel) (pa_cons (pe_op op_add (pe_op op_add (pe_op op_mul (pe_ix ix_lstM (pv 0) pe_int (fun _ _ => rfl)) pe_int) (pe_op op_mul (pe_ix ix_lstM (pv 0) pe_int (fun _ _ => rfl)) pe_int)) pe_int) pa_nil)) pe_int) (pg_sub (pv 0) pe_int set_listM))
      (pss_cons (ps_set (i := 4) sc__law_draw.nd rfl (by first | exact Or.inl rfl | exact Or.inr rfl) (pe_op op_mod (pe_callTy call_int1 (by rfl) T.f_int (by decide +kernel) (pa_cons (pe_op op_mul (pe_ix ix_lstM (pv 0) pe_int (fun _ _ => rfl)) (pe_op op_add (pe_op op_fdiv (pe_ix ix_lstM (pv 0) pe_int (fun _ _ => rfl)) pe_int) pe_int)) pa_nil)) pe_int))
      (pss_cons (ps_set (i := 4) sc__law_draw.nd rfl (by first | exact Or.inl rfl | exact Or.inr rfl) (pe_op op_mod (pe_callTy call_int1 (by rfl) T.f_int (by decide +kernel) (pa_cons (pe_op op_mul (pv 4) (pe_op op_add (pe_op op_fdiv (pv 4) pe_int) pe_int)) pa_nil)) pe_int))
      (pss_one (ps_ret (pe_op op_mod (pe_callTy call_int1 (by rfl) T.f_int (by decide +kernel) (pa_cons (pe_op op_fdiv (pv 4) pe_int) pa_nil)) (pv 1)))))))))), ?_⟩
    refine ⟨d, c, hd, fun i b z n H1 gd e1 => ?_⟩
    have ncd : c ≠ d := ne_of hc hd (fun z => nomatch z)
    have S1 : Sx [d] H H1 := by rw [e1]; exact (Sx.refl _).put (by simp)
    have hd1 : H1 d = some (.lst (dL c i b z n)) := by rw [e1]; exact upd_same
    have hc1 := upd_keep e1 ncd hc
    have hN : (0 : Int) < (N : Int) := by omega
    have hN2 : (N : Int) < 1073741824 := by omega
    have fin : ∀ (v : Int) (H' : Hp), Sx [d] H H' → 0 ≤ v → v < (N : Int) → Q (.int v) (upd H' d (DiceO d c)) := fun v H' S v0 v1 => by
      have e : v = ((v.toNat : Nat) : Int) := by omega
      rw [e]
      refine kk _ _ (fun x u q => ?_) (by omega)
      by_cases cx : x = d
      · subst cx
        rw [hd] at q; cases q
        exact upd_same
      · rw [upd_ne cx]; exact S x u (fun z => cx (List.mem_singleton.mp z)) q
    clear e1 kk
    refine ⟨_, rfl, d, _, _, _, rfl, rfl, hd1, rfl, rfl, _, rfl, ?_⟩
    by_cases bz : V.int b = V.int 0
    · refine ifT (decide_eq_true bz) ⟨_, rfl, d, _, _, _, rfl, rfl, hd1, rfl, _, rfl, d, _, _, _, rfl, rfl, hd1, rfl, c, _, rfl, hc1, _, _, rfl, rfl, _, rfl, ?_⟩
      rw [List.length_map]
      by_cases il : i < (ns.length : Int)
      · refine ifT (decide_eq_true il) ?_
        obtain ⟨cv, hcv⟩ : ∃ cv, ns[i.toNat]? = some cv := ⟨_, List.getElem?_eq_getElem (by have := gd.i0; omega)⟩
        have cv0 := h0 cv (List.mem_of_getElem? hcv)
        refine ⟨_, rfl, d, _, _, _, rfl, rfl, hd1, rfl, _, rfl, d, _, _, _, rfl, rfl, hd1, rfl, c, _, _, _, rfl, rfl, hc1, atI_of gd.i0 (by rw [List.getElem?_map, hcv]; rfl), ?_⟩
        refine ⟨_, rfl, d, _, _, _, rfl, rfl, hd1, rfl, _, _, rfl, rfl, _, rfl, d, _, _, _, rfl, rfl, hd1, rfl, fun H2 e2 => ?_⟩
        have hd2 : H2 d = some (.lst (dL c (i + 1) b z n)) := by rw [e2, upd_same]; rfl
        have S2 : Sx [d] H H2 := by rw [e2]; exact S1.put (by simp)
        clear e2
        have i0 := gd.i0
        refine ⟨_, rfl, _, _, rfl, rfl, ⟨by omega, by omega, by decide⟩, _, _, rfl, rfl, _, rfl, ?_⟩
        by_cases big : (10 : Int) ^ (18 : Int).toNat ≤ cv
        · refine ifT (decide_eq_true big) ⟨_, rfl, _, rfl, d, _, _, _, rfl, rfl, hd2, rfl, fun H3 e3 => ?_⟩
          have hd3 : H3 d = some (.lst (dL c (i + 1) cv z n)) := by rw [e3, upd_same]; rfl
          have S3 : Sx [d] H H3 := by rw [e3]; exact S2.put (by simp)
          have gd3 : DGood (i + 1) cv z := ⟨by omega, cv0, gd.s0, gd.s1⟩
          clear e3
          refine ⟨_, rfl, d, _, _, _, rfl, rfl, hd3, rfl, _, _, rfl, rfl, _, rfl, ?_⟩
          by_cases pb : (0 : Int) < cv
          · refine ifT (decide_eq_true pb) ⟨_, rfl, d, _, _, _, rfl, rfl, hd3, rfl, .inl ⟨_, rfl, _, rfl, _, _, rfl, rfl, hN, ?_⟩⟩
            refine ⟨_, rfl, d, _, _, _, rfl, rfl, hd3, rfl, .inl ⟨_, rfl, _, rfl, _, _, rfl, rfl, ⟨hN, hN2⟩, _, rfl, d, _, _, _, rfl, rfl, hd3, rfl, fun K1 k1 => ?_⟩⟩
            exact ⟨_, rfl, (i + 1), cv / (N : Int), z, n, by rw [k1, upd_same]; rfl, ⟨gd3.i0, Int.ediv_nonneg gd3.b0 (by omega), gd3.s0, gd3.s1⟩, fin _ _ (by rw [k1]; exact S3.put (by simp)) (Int.emod_nonneg _ (by omega)) (Int.emod_lt_of_pos _ hN)⟩
          · refine ifF (decide_eq_false pb) ⟨_, rfl, d, _, _, _, rfl, rfl, hd3, rfl, _, _, rfl, rfl, _, rfl, d, _, _, _, rfl, rfl, hd3, rfl, fun K1 k1 => ?_⟩
            have hk1 : K1 d = some (.lst (dL c (i + 1) cv z (n + 1))) := by rw [k1, upd_same]; rfl
            refine ⟨_, rfl, d, _, _, _, rfl, rfl, hk1, rfl, _, _, rfl, rfl, .inr (by omega), _, rfl, d, _, _, _, rfl, rfl, hk1, rfl, _, _, rfl, rfl, .inr (by omega), _, _, rfl, rfl, _, _, rfl, rfl, .inl ⟨_, rfl, _, _, rfl, rfl, (by omega), _, rfl, d, _, _, _, rfl, rfl, hk1, rfl, fun K2 k2 => ?_⟩⟩
            have z0 := Int.emod_nonneg (z * 48271 + (n + 1) * 7919 + 1) (show (2147483647 : Int) ≠ 0 by omega)
            have z1 := Int.emod_lt_of_pos (z * 48271 + (n + 1) * 7919 + 1) (show (0 : Int) < 2147483647 by omega)
            have hk2 : K2 d = some (.lst (dL c (i + 1) cv ((z * 48271 + (n + 1) * 7919 + 1) % 2147483647) (n + 1))) := by rw [k2, upd_same]; rfl
            generalize (z * 48271 + (n + 1) * 7919 + 1) % 2147483647 = zz at hk2 z0 z1
            refine ⟨_, rfl, d, _, _, _, rfl, rfl, hk2, rfl, _, rfl, d, _, _, _, rfl, rfl, hk2, rfl, _, _, rfl, rfl, ⟨by omega, by omega⟩, _, _, rfl, rfl, _, _, rfl, rfl, .inl (by omega), .inl ⟨_, rfl, _, _, rfl, rfl, (by omega), ?_⟩⟩
            have m0 := Int.emod_nonneg (zz * (zz / 1009 + 69623)) (show (2147483399 : Int) ≠ 0 by omega)
            have m1 := Int.emod_lt_of_pos (zz * (zz / 1009 + 69623)) (show (0 : Int) < 2147483399 by omega)
            refine ⟨_, rfl, _, rfl, _, _, rfl, rfl, ⟨by omega, by omega⟩, _, _, rfl, rfl, _, _, rfl, rfl, .inl (by omega), .inl ⟨_, rfl, _, _, rfl, rfl, (by omega), ?_⟩⟩
            refine ⟨_, rfl, _, _, rfl, rfl, ⟨by omega, by omega⟩, .inl ⟨_, rfl, _, rfl, _, _, rfl, rfl, hN, ?_⟩⟩
            exact ⟨(i + 1), cv, zz, n + 1, hk2, ⟨gd3.i0, gd3.b0, z0, by omega⟩, fin _ _ (by rw [k2]; exact (Sx.put (by rw [k1]; exact S3.put (by simp)) (by simp))) (Int.emod_nonneg _ (by omega)) (Int.emod_lt_of_pos _ hN)⟩
        · refine ifF (decide_eq_false big) ⟨_, rfl, d, _, _, _, rfl, rfl, hd2, rfl, _, _, rfl, rfl, .inr (by omega), _, rfl, _, _, rfl, rfl, .inr (by omega), _, _, rfl, rfl, _, rfl, d, _, _, _, rfl, rfl, hd2, rfl, _, _, rfl, rfl, .inl ⟨_, rfl, _, _, rfl, rfl, (by omega), _, rfl, d, _, _, _, rfl, rfl, hd2, rfl, fun H3 e3 => ?_⟩⟩
          have q0 := Int.emod_nonneg (z * 69621 + cv * 40692 + (i + 1)) (show (2147483647 : Int) ≠ 0 by omega)
          have q1 := Int.emod_lt_of_pos (z * 69621 + cv * 40692 + (i + 1)) (show (0 : Int) < 2147483647 by omega)
          have hd3 : H3 d = some (.lst (dL c (i + 1) b ((z * 69621 + cv * 40692 + (i + 1)) % 2147483647) n)) := by rw [e3, upd_same]; rfl
          have S3 : Sx [d] H H3 := by rw [e3]; exact S2.put (by simp)
          generalize (z * 69621 + cv * 40692 + (i + 1)) % 2147483647 = z3 at hd3 q0 q1
          have gd3 : DGood (i + 1) b z3 := ⟨by omega, gd.b0, q0, by omega⟩
          clear e3
          refine ⟨_, rfl, d, _, _, _, rfl, rfl, hd3, rfl, _, _, rfl, rfl, _, rfl, ?_⟩
          by_cases pb : (0 : Int) < b
          · refine ifT (decide_eq_true pb) ⟨_, rfl, d, _, _, _, rfl, rfl, hd3, rfl, .inl ⟨_, rfl, _, rfl, _, _, rfl, rfl, hN, ?_⟩⟩
            refine ⟨_, rfl, d, _, _, _, rfl, rfl, hd3, rfl, .inl ⟨_, rfl, _, rfl, _, _, rfl, rfl, ⟨hN, hN2⟩, _, rfl, d, _, _, _, rfl, rfl, hd3, rfl, fun K1 k1 => ?_⟩⟩
            exact ⟨_, rfl, (i + 1), b / (N : Int), z3, n, by rw [k1, upd_same]; rfl, ⟨gd3.i0, Int.ediv_nonneg gd3.b0 (by omega), gd3.s0, gd3.s1⟩, fin _ _ (by rw [k1]; exact S3.put (by simp)) (Int.emod_nonneg _ (by omega)) (Int.emod_lt_of_pos _ hN)⟩
          · refine ifF (decide_eq_false pb) ⟨_, rfl, d, _, _, _, rfl, rfl, hd3, rfl, _, _, rfl, rfl, _, rfl, d, _, _, _, rfl, rfl, hd3, rfl, fun K1 k1 => ?_⟩
            have hk1 : K1 d = some (.lst (dL c (i + 1) b z3 (n + 1))) := by rw [k1, upd_same]; rfl
            refine ⟨_, rfl, d, _, _, _, rfl, rfl, hk1, rfl, _, _, rfl, rfl, .inr (by omega), _, rfl, d, _, _, _, rfl, rfl, hk1, rfl, _, _, rfl, rfl, .inr (by omega), _, _, rfl, rfl, _, _, rfl, rfl, .inl ⟨_, rfl, _, _, rfl, rfl, (by omega), _, rfl, d, _, _, _, rfl, rfl, hk1, rfl, fun K2 k2 => ?_⟩⟩
            have z0 := Int.emod_nonneg (z3 * 48271 + (n + 1) * 7919 + 1) (show (2147483647 : Int) ≠ 0 by omega)
            have z1 := Int.emod_lt_of_pos (z3 * 48271 + (n + 1) * 7919 + 1) (show (0 : Int) < 2147483647 by omega)
            have hk2 : K2 d = some (.lst (dL c (i + 1) b ((z3 * 48271 + (n + 1) * 7919 + 1) % 2147483647) (n + 1))) := by rw [k2, upd_same]; rfl
            generalize (z3 * 48271 + (n + 1) * 7919 + 1) % 2147483647 = zz at hk2 z0 z1
            refine ⟨_, rfl, d, _, _, _, rfl, rfl, hk2, rfl, _, rfl, d, _, _, _, rfl, rfl, hk2, rfl, _, _, rfl, rfl, ⟨by omega, by omega⟩, _, _, rfl, rfl, _, _, rfl, rfl, .inl (by omega), .inl ⟨_, rfl, _, _, rfl, rfl, (by omega), ?_⟩⟩
            have m0 := Int.emod_nonneg (zz * (zz / 1009 + 69623)) (show (2147483399 : Int) ≠ 0 by omega)
            have m1 := Int.emod_lt_of_pos (zz * (zz / 1009 + 69623)) (show (0 : Int) < 2147483399 by omega)
            refine ⟨_, rfl, _, rfl, _, _, rfl, rfl, ⟨by omega, by omega⟩, _, _, rfl, rfl, _, _, rfl, rfl, .inl (by omega), .inl ⟨_, rfl, _, _, rfl, rfl, (by omega), ?_⟩⟩
            refine ⟨_, rfl, _, _, rfl, rfl, ⟨by omega, by omega⟩, .inl ⟨_, rfl, _, rfl, _, _, rfl, rfl, hN, ?_⟩⟩
            exact ⟨(i + 1), b, zz, n + 1, hk2, ⟨gd3.i0, gd3.b0, z0, by omega⟩, fin _ _ (by rw [k2]; exact (Sx.put (by rw [k1]; exact S3.put (by simp)) (by simp))) (Int.emod_nonneg _ (by omega)) (Int.emod_lt_of_pos _ hN)⟩
      · refine ifF (decide_eq_false il) ?_
        refine ⟨_, rfl, d, _, _, _, rfl, rfl, hd1, rfl, _, _, rfl, rfl, _, rfl, ?_⟩
        by_cases pb : (0 : Int) < b
        · refine ifT (decide_eq_true pb) ⟨_, rfl, d, _, _, _, rfl, rfl, hd1, rfl, .inl ⟨_, rfl, _, rfl, _, _, rfl, rfl, hN, ?_⟩⟩
          refine ⟨_, rfl, d, _, _, _, rfl, rfl, hd1, rfl, .inl ⟨_, rfl, _, rfl, _, _, rfl, rfl, ⟨hN, hN2⟩, _, rfl, d, _, _, _, rfl, rfl, hd1, rfl, fun K1 k1 => ?_⟩⟩
          exact ⟨_, rfl, i, b / (N : Int), z, n, by rw [k1, upd_same]; rfl, ⟨gd.i0, Int.ediv_nonneg gd.b0 (by omega), gd.s0, gd.s1⟩, fin _ _ (by rw [k1]; exact S1.put (by simp)) (Int.emod_nonneg _ (by omega)) (Int.emod_lt_of_pos _ hN)⟩
        · refine ifF (decide_eq_false pb) ⟨_, rfl, d, _, _, _, rfl, rfl, hd1, rfl, _, _, rfl, rfl, _, rfl, d, _, _, _, rfl, rfl, hd1, rfl, fun K1 k1 => ?_⟩
          have hk1 : K1 d = some (.lst (dL c i b z (n + 1))) := by rw [k1, upd_same]; rfl
          refine ⟨_, rfl, d, _, _, _, rfl, rfl, hk1, rfl, _, _, rfl, rfl, .inr (by omega), _, rfl, d, _, _, _, rfl, rfl, hk1, rfl, _, _, rfl, rfl, .inr (by omega), _, _, rfl, rfl, _, _, rfl, rfl, .inl ⟨_, rfl, _, _, rfl, rfl, (by omega), _, rfl, d, _, _, _, rfl, rfl, hk1, rfl, fun K2 k2 => ?_⟩⟩
          have z0 := Int.emod_nonneg (z * 48271 + (n + 1) * 7919 + 1) (show (2147483647 : Int) ≠ 0 by omega)
          have z1 := Int.emod_lt_of_pos (z * 48271 + (n + 1) * 7919 + 1) (show (0 : Int) < 2147483647 by omega)
          have hk2 : K2 d = some (.lst (dL c i b ((z * 48271 + (n + 1) * 7919 + 1) % 2147483647) (n + 1))) := by rw [k2, upd_same]; rfl
          generalize (z * 48271 + (n + 1) * 7919 + 1) % 2147483647 = zz at hk2 z0 z1
          refine ⟨_, rfl, d, _, _, _, rfl, rfl, hk2, rfl, _, rfl, d, _, _, _, rfl, rfl, hk2, rfl, _, _, rfl, rfl, ⟨by omega, by omega⟩, _, _, rfl, rfl, _, _, rfl, rfl, .inl (by omega), .inl ⟨_, rfl, _, _, rfl, rfl, (by omega), ?_⟩⟩
          have m0 := Int.emod_nonneg (zz * (zz / 1009 + 69623)) (show (2147483399 : Int) ≠ 0 by omega)
          have m1 := Int.emod_lt_of_pos (zz * (zz / 1009 + 69623)) (show (0 : Int) < 2147483399 by omega)
          refine ⟨_, rfl, _, rfl, _, _, rfl, rfl, ⟨by omega, by omega⟩, _, _, rfl, rfl, _, _, rfl, rfl, .inl (by omega), .inl ⟨_, rfl, _, _, rfl, rfl, (by omega), ?_⟩⟩
          refine ⟨_, rfl, _, _, rfl, rfl, ⟨by omega, by omega⟩, .inl ⟨_, rfl, _, rfl, _, _, rfl, rfl, hN, ?_⟩⟩
          exact ⟨i, b, zz, n + 1, hk2, ⟨gd.i0, gd.b0, z0, by omega⟩, fin _ _ (by rw [k2]; exact (Sx.put (by rw [k1]; exact S1.put (by simp)) (by simp))) (Int.emod_nonneg _ (by omega)) (Int.emod_lt_of_pos _ hN)⟩
    · refine ifF (decide_eq_false bz) ?_
      refine ⟨_, rfl, d, _, _, _, rfl, rfl, hd1, rfl, _, _, rfl, rfl, _, rfl, ?_⟩
      by_cases pb : (0 : Int) < b
      · refine ifT (decide_eq_true pb) ⟨_, rfl, d, _, _, _, rfl, rfl, hd1, rfl, .inl ⟨_, rfl, _, rfl, _, _, rfl, rfl, hN, ?_⟩⟩
        refine ⟨_, rfl, d, _, _, _, rfl, rfl, hd1, rfl, .inl ⟨_, rfl, _, rfl, _, _, rfl, rfl, ⟨hN, hN2⟩, _, rfl, d, _, _, _, rfl, rfl, hd1, rfl, fun K1 k1 => ?_⟩⟩
        exact ⟨_, rfl, i, b / (N : Int), z, n, by rw [k1, upd_same]; rfl, ⟨gd.i0, Int.ediv_nonneg gd.b0 (by omega), gd.s0, gd.s1⟩, fin _ _ (by rw [k1]; exact S1.put (by simp)) (Int.emod_nonneg _ (by omega)) (Int.emod_lt_of_pos _ hN)⟩
      · refine ifF (decide_eq_false pb) ⟨_, rfl, d, _, _, _, rfl, rfl, hd1, rfl, _, _, rfl, rfl, _, rfl, d, _, _, _, rfl, rfl, hd1, rfl, fun K1 k1 => ?_⟩
        have hk1 : K1 d = some (.lst (dL c i b z (n + 1))) := by rw [k1, upd_same]; rfl
        refine ⟨_, rfl, d, _, _, _, rfl, rfl, hk1, rfl, _, _, rfl, rfl, .inr (by omega), _, rfl, d, _, _, _, rfl, rfl, hk1, rfl, _, _, rfl, rfl, .inr (by omega), _, _, rfl, rfl, _, _, rfl, rfl, .inl ⟨_, rfl, _, _, rfl, rfl, (by omega), _, rfl, d, _, _, _, rfl, rfl, hk1, rfl, fun K2 k2 => ?_⟩⟩
        have z0 := Int.emod_nonneg (z * 48271 + (n + 1) * 7919 + 1) (show (2147483647 : Int) ≠ 0 by omega)
        have z1 := Int.emod_lt_of_pos (z * 48271 + (n + 1) * 7919 + 1) (show (0 : Int) < 2147483647 by omega)
        have hk2 : K2 d = some (.lst (dL c i b ((z * 48271 + (n + 1) * 7919 + 1) % 2147483647) (n + 1))) := by rw [k2, upd_same]; rfl
        generalize (z * 48271 + (n + 1) * 7919 + 1) % 2147483647 = zz at hk2 z0 z1
        refine ⟨_, rfl, d, _, _, _, rfl, rfl, hk2, rfl, _, rfl, d, _, _, _, rfl, rfl, hk2, rfl, _, _, rfl, rfl, ⟨by omega, by omega⟩, _, _, rfl, rfl, _, _, rfl, rfl, .inl (by omega), .inl ⟨_, rfl, _, _, rfl, rfl, (by omega), ?_⟩⟩
        have m0 := Int.emod_nonneg (zz * (zz / 1009 + 69623)) (show (2147483399 : Int) ≠ 0 by omega)
        have m1 := Int.emod_lt_of_pos (zz * (zz / 1009 + 69623)) (show (0 : Int) < 2147483399 by omega)
        refine ⟨_, rfl, _, rfl, _, _, rfl, rfl, ⟨by omega, by omega⟩, _, _, rfl, rfl, _, _, rfl, rfl, .inl (by omega), .inl ⟨_, rfl, _, _, rfl, rfl, (by omega), ?_⟩⟩
        refine ⟨_, rfl, _, _, rfl, rfl, ⟨by omega, by omega⟩, .inl ⟨_, rfl, _, rfl, _, _, rfl, rfl, hN, ?_⟩⟩
        exact ⟨i, b, zz, n + 1, hk2, ⟨gd.i0, gd.b0, z0, by omega⟩, fin _ _ (by rw [k2]; exact (Sx.put (by rw [k1]; exact S1.put (by simp)) (by simp))) (Int.emod_nonneg _ (by omega)) (Int.emod_lt_of_pos _ hN)⟩
end
end K73
end

section
set_option linter.all false
set_option maxRecDepth 100000
set_option maxHeartbeats 8000000
/-! a drawn shape -/
namespace K73
open PySem PySem.Spec PyProof.Rows L2 NdefX LamX
structure Wq where
  i : Nat
  m : Nat
  d : Int
  v : V
def qcost (es : List Wq) : Nat := (es.map fun e => 2 * e.m + 1).sum
theorem qcost_snoc (es : List Wq) (e : Wq) : qcost (es ++ [e]) = qcost es + (2 * e.m + 1) := by
  unfold qcost
  rw [List.map_append, List.sum_append]; simp
theorem qc_len : ∀ es : List Wq, es.length ≤ qcost es
  | [] => Nat.le_refl _
  | e :: es => by
    have := qc_len es
    unfold qcost at this ⊢
    rw [List.map_cons, List.sum_cons, List.length_cons]; omega
def Cin (es : List Wq) (k : Nat) : Prop := ∃ e ∈ es, e.i ≤ k ∧ k < e.i + e.m
/-- whatever trees the open places come to, all is a tree -/
structure Open (n : Nat) (fs : List Int) (es : List Wq) : Prop where
  len : fs.length = n
  le : ∀ e ∈ es, e.i + e.m ≤ n
  dis : es.Pairwise fun e f => e.i + e.m ≤ f.i ∨ f.i + f.m ≤ e.i
  all : ∀ g : Nat → Int, (∀ k, k < n → ¬ Cin es k → g k = fs.getD k 0) → (∀ e ∈ es, ∃ t : K73.T, t.n = e.m ∧ IsT g e.i e.d t) → ∃ t : K73.T, t.n = n ∧ IsT g 0 0 t
theorem Open.start (n : Nat) (fs : List Int) (v : V) (h : fs.length = n) : Open n fs [⟨0, n, 0, v⟩] :=
  ⟨h, fun e he => by rw [List.mem_singleton.mp he]; simp, List.pairwise_singleton _ _, fun g _ ht => by
    obtain ⟨t, h1, h2⟩ := ht _ (List.mem_singleton.mpr rfl)
    exact ⟨t, h1, h2⟩⟩
theorem Open.lf {n : Nat} {fs : List Int} {es : List Wq} {e : Wq} (h : Open n fs (es ++ [e])) (z : e.m = 0) : Open n fs es :=
  ⟨h.len, fun x hx => h.le x (List.mem_append_left _ hx), (List.pairwise_append.mp h.dis).1, fun g hg ht => h.all g (fun k hk hc => hg k hk fun ⟨x, hx, q⟩ => hc ⟨x, List.mem_append_left _ hx, q⟩) fun x hx => by
    rcases List.mem_append.mp hx with hx | hx
    · exact ht x hx
    · rw [List.mem_singleton.mp hx]
      exact ⟨.lf, by rw [z]; rfl, trivial⟩⟩
theorem Open.nd {n : Nat} {fs : List Int} {es : List Wq} {e : Wq} {s : Nat} {v1 v2 : V} (h : Open n fs (es ++ [e])) (hs : s < e.m) : Open n (fs.set (e.i + s) e.d) ((es ++ [⟨e.i, s, e.d + 1, v1⟩]) ++ [⟨e.i + s + 1, e.m - s - 1, e.d + 1, v2⟩]) := by
  have pw := List.pairwise_append.mp h.dis
  have le := h.le e (List.mem_append_right _ List.mem_cons_self)
  have away : ∀ x ∈ es, x.i + x.m ≤ e.i ∨ e.i + e.m ≤ x.i := fun x hx => pw.2.2 x hx e List.mem_cons_self
  refine ⟨by rw [List.length_set]; exact h.len, fun x hx => ?_, ?_, fun g hg ht => ?_⟩
  · rcases List.mem_append.mp hx with hx | hx
    · rcases List.mem_append.mp hx with hx | hx
      · exact h.le x (List.mem_append_left _ hx)
      · rw [List.mem_singleton.mp hx]
        show e.i + s ≤ n
        omega
    · rw [List.mem_singleton.mp hx]
      show e.i + s + 1 + (e.m - s - 1) ≤ n
      omega
  · refine List.pairwise_append.mpr ⟨List.pairwise_append.mpr ⟨pw.1, List.pairwise_singleton _ _, fun x hx y hy => ?_⟩, List.pairwise_singleton _ _, fun x hx y hy => ?_⟩
    · rw [List.mem_singleton.mp hy]
      have := away x hx
      show x.i + x.m ≤ e.i ∨ e.i + s ≤ x.i
      omega
    · rw [List.mem_singleton.mp hy]
      rcases List.mem_append.mp hx with hx | hx
      · have := away x hx
        show x.i + x.m ≤ e.i + s + 1 ∨ e.i + s + 1 + (e.m - s - 1) ≤ x.i
        omega
      · rw [List.mem_singleton.mp hx]
        show e.i + s ≤ e.i + s + 1 ∨ _
        omega
  · have noC : ¬ Cin ((es ++ [⟨e.i, s, e.d + 1, v1⟩]) ++ [⟨e.i + s + 1, e.m - s - 1, e.d + 1, v2⟩]) (e.i + s) := by
      rintro ⟨x, hx, q1, q2⟩
      rcases List.mem_append.mp hx with hx | hx
      · rcases List.mem_append.mp hx with hx | hx
        · have := away x hx
          omega
        · rw [List.mem_singleton.mp hx] at q2
          have q2 : e.i + s < e.i + s := q2
          omega
      · rw [List.mem_singleton.mp hx] at q1
        have q1 : e.i + s + 1 ≤ e.i + s := q1
        omega
    refine h.all g (fun k hk hc => ?_) fun x hx => ?_
    · have ne : k ≠ e.i + s := fun z => hc ⟨e, List.mem_append_right _ List.mem_cons_self, by omega, by omega⟩
      have q := hg k hk (by
        rintro ⟨x, hx, q1, q2⟩
        rcases List.mem_append.mp hx with hx | hx
        · rcases List.mem_append.mp hx with hx | hx
          · exact hc ⟨x, List.mem_append_left _ hx, q1, q2⟩
          · rw [List.mem_singleton.mp hx] at q1 q2
            have q1 : e.i ≤ k := q1
            have q2 : k < e.i + s := q2
            exact hc ⟨e, List.mem_append_right _ List.mem_cons_self, by omega, by omega⟩
        · rw [List.mem_singleton.mp hx] at q1 q2
          have q1 : e.i + s + 1 ≤ k := q1
          have q2 : k < e.i + s + 1 + (e.m - s - 1) := q2
          exact hc ⟨e, List.mem_append_right _ List.mem_cons_self, by omega, by omega⟩)
      rw [q, List.getD_eq_getElem?_getD, List.getD_eq_getElem?_getD, List.getElem?_set_ne (fun z => ne z.symm)]
    · rcases List.mem_append.mp hx with hx | hx
      · exact ht x (List.mem_append_left _ (List.mem_append_left _ hx))
      · rw [List.mem_singleton.mp hx]
        obtain ⟨t1, a1, b1⟩ := ht ⟨e.i, s, e.d + 1, v1⟩ (List.mem_append_left _ (List.mem_append_right _ List.mem_cons_self))
        obtain ⟨t2, a2, b2⟩ := ht ⟨e.i + s + 1, e.m - s - 1, e.d + 1, v2⟩ (List.mem_append_right _ List.mem_cons_self)
        have a1 : t1.n = s := a1
        have a2 : t2.n = e.m - s - 1 := a2
        refine ⟨.nd t1 t2, by show t1.n + t2.n + 1 = e.m; omega, ?_, b1, by rw [a1]; exact b2⟩
        rw [a1, hg _ (by omega) noC, List.getD_eq_getElem?_getD, List.getElem?_set_self (by rw [h.len]; omega)]
        rfl
theorem Open.done {n : Nat} {fs : List Int} (h : Open n fs []) : ∃ t : K73.T, t.n = n ∧ t.dep 0 = fs := by
  obtain ⟨t, h1, h2⟩ := h.all (fun k => fs.getD k 0) (fun _ _ _ => rfl) (fun _ h => nomatch h)
  refine ⟨t, h1, ?_⟩
  rw [dep_of_isT h2, h1]
  refine List.ext_getElem? fun k => ?_
  rw [List.getElem?_map]
  by_cases c : k < n
  · rw [List.getElem?_range c]
    show some (fs.getD (0 + k) 0) = _
    rw [Nat.zero_add, List.getD_eq_getElem?_getD, List.getElem?_eq_getElem (by rw [h.len]; exact c)]; rfl
  · rw [List.getElem?_eq_none (by simp; omega), List.getElem?_eq_none (by rw [h.len]; omega)]; rfl
def QOk (H : Hp) (e : Wq) : Prop := ∃ r, e.v = .ref r ∧ H r = some (.tup [.int (e.i : Nat), .int ((e.i + e.m : Nat) : Int), .int e.d])
theorem QOk.tk {H H' : Hp} {e : Wq} (h : QOk H e) (s : Tk H H') : QOk H' e := let ⟨r, h1, h2⟩ := h; ⟨r, h1, s _ _ h2⟩
section
variable {g : Gr}
def pShapeD : Pr := fun vs H Q => ∃ (d : Addr) (n : Nat), vs = [.ref d, .int ((n + 1 : Nat) : Int)] ∧ DiceAt H d ∧ n + 1 ≤ 40 ∧ ∀ q H' (t : K73.T), Same H H' → t.n = n → SpAt H' q (t.dep 0) → Q (.ref q) H'
theorem ok_shapeD (T : Tx g) : CalG g 2 "_law_drawn_shape" pShapeD := by
  have c__law_draw := ok_draw T
  refine calD T.d__law_drawn_shape T.g__law_drawn_shape sc__law_drawn_shape (fun _ _ _ _ _ _ us hl => match us, hl with | [_, _], _ => rfl) (fun vs H Q h => ?_) fun cdv A outer s0 H vs Q hr h => ?_
  · obtain ⟨d, n, rfl, _⟩ := h; rfl
  · obtain ⟨d, n, rfl, hd, hn, kk⟩ := h
    refine ⟨_, (pss_cons (ps_set (i := 2) sc__law_drawn_shape.nd rfl (by first | exact Or.inl rfl | exact Or.inr rfl) (C8.pe_c c__law_draw hr (by omega) (by rfl) (pa_cons (pv 0) (pa_cons pe_int pa_nil))))
      (pss_cons (ps_setLcM (i := 3) (own := [("_law_seam", 9)]) (g := gName 9) (tt := tYes) (by rfl) sc__law_drawn_shape.nd rfl rfl (sw_true rfl rfl rfl (by decide +kernel)) (pi_rangeM1 (by rfl) T.f_range (pa_cons (pe_op op_sub (pv 1) pe_int) pa_nil)) (blkOk_by (own := [("_law_seam", 9)]) (N := ["_law_dice_here", "_law_words", "_law_lean", "_law_found", "_law_waiting", "_law_turn", "_law_first", "_law_last", "_law_depth", "_law_seam"]) (sc := defScope st__law_drawn_shape) (by decide +kernel)) (fun _ _ _ _ _ => pg_name (i := 9) sc__law_drawn_shape.nd rfl (Or.inl rfl)) (fun _ _ _ _ _ => pts_nil) (fun _ _ _ _ _ => pe_int))
      (pss_cons (ps_set (i := 4) sc__law_drawn_shape.nd rfl (by first | exact Or.inl rfl | exact Or.inr rfl) (pe_lstM (pa_cons (pe_tupM (pa_cons pe_int (pa_cons (pe_op op_sub (pv 1) pe_int) (pa_cons pe_int pa_nil)))) pa_nil)))
      (pss_cons (ps_forM PassesOwn.never rfl (pi_rangeM1 (by rfl) T.f_range (pa_cons (pe_op op_mul pe_int (pv 1)) pa_nil)) (pg_name (i := 5) sc__law_drawn_shape.nd rfl (by first | exact Or.inl rfl | exact Or.inr rfl))
        (pss_one (ps_if (pt_cmpR op_gt (pe_callB call_lenL (by rfl) T.f_len (by decide +kernel) (pa_cons (pv 4) pa_nil)) pe_int (nomark _))
          (pss_cons (ps_asg (pe_bm0 PySem.F.plainAttrs_list PySem.F.slot_list_pop PySem.F.type_list_pop mt_popM (pv 4)) (pg_tupG (K := g.K) (by rfl) (by rfl) (pgs_cons (pg_name (i := 6) sc__law_drawn_shape.nd rfl (by first | exact Or.inl rfl | exact Or.inr rfl)) (pgs_cons (pg_name (i := 7) sc__law_drawn_shape.nd rfl (by first | exact Or.inl rfl | exact Or.inr rfl)) (pgs_cons (pg_name (i := 8) sc__law_drawn_shape.nd rfl (by first | exact Or.inl rfl | exact Or.inr rfl)) pgs_nil)))))
          (pss_one (ps_if (pt_cmpR op_lt (pv 6) (pv 7) (nomark _))
            (pss_cons (ps_set (i := 9) sc__law_drawn_shape.nd rfl (by first | exact Or.inl rfl | exact Or.inr rfl) (pe_op op_add (pv 6) (C8.pe_c c__law_draw hr (by omega) (by rfl) (pa_cons (pv 0) (pa_cons (pe_op op_sub (pv 7) (pv 6)) pa_nil)))))
            (pss_cons (ps_if (PW.pt (pw_and (pt_cmpR op_eq (pv 2) pe_int (nomark _)) (pw_and1 (pt_cmpR op_gt (C8.pe_c c__law_draw hr (by omega) (by rfl) (pa_cons (pv 0) (pa_cons pe_int pa_nil))) pe_int (nomark _)))))
              (pss_one (ps_set (i := 9) sc__law_drawn_shape.nd rfl (by first | exact Or.inl rfl | exact Or.inr rfl) (pe_op op_sub (pv 7) pe_int)))
              pss_nil)
            (pss_cons (ps_if (PW.pt (pw_and (pt_cmpR op_eq (pv 2) pe_int (nomark _)) (pw_and1 (pt_cmpR op_gt (C8.pe_c c__law_draw hr (by omega) (by rfl) (pa_cons (pv 0) (pa_cons pe_int pa_nil))) pe_int (nomark _)))))
              (pss_one (ps_set (i := 9) sc__law_drawn_shape.nd rfl (by first | exact Or.inl rfl | exact Or.inr rfl) (pv 6)))
              pss_nil)
            (pss_cons (ps_asg (pv 8) (pg_sub (pv 3) (pv 9) set_listM))
            (pss_cons (ps_expr (pe_bm PySem.F.plainAttrs_list PySem.F.slot_list_append PySem.F.type_list_append mt_appendM (pv 4) (pa_cons (pe_tupM (pa_cons (pv 6) (pa_cons (pv 9) (pa_cons (pe_op op_add (pv 8) pe_int) pa_nil)))) pa_nil)))
            (pss_one (ps_expr (pe_bm PySem.F.plainAttrs_list PySem.F.slot_list_append PySem.F.type_list_append mt_appendM (pv 4) (pa_cons (pe_tupM (pa_cons (pe_op op_add (pv 9) pe_int) (pa_cons (pv 7) (pa_cons (pe_op op_add (pv 8) pe_int) pa_nil)))) pa_nil)))))))))
            pss_nil)))
          pss_nil)))
      (pss_one (ps_ret (pe_callTy call_tupF (by rfl) T.f_tuple (by decide +kernel) (pa_cons (pv 3) pa_nil)))))))), ?_⟩
    have e1 : ((n + 1 : Nat) : Int) - 1 = (n : Nat) := by omega
    refine ⟨_, rfl, d, 3, rfl, hd, by omega, by omega, fun lean H1 s1 hlean => ?_⟩
    refine ⟨_, rfl, _, _, rfl, rfl, n, (by show [V.int (((n + 1 : Nat) : Int) - 1)] = _; rw [e1]), by omega, ?_⟩
    refine lc_wk (wk_rng (R := Same H1)) (fun i acc _ => acc = (List.replicate i (0 : Int)).map V.int) (fun _ _ _ _ _ h => h) (fun i acc _ hi h => by rw [h, List.length_map, List.length_replicate]; exact cc_lt (n := 40) (by omega) (by omega)) (fun _ _ => rfl) (fun C i x acc H' hi s' hx e y no => ⟨rfl, y _ _ (.refl _) (by rw [e, List.replicate_succ', List.map_append]; rfl)⟩) fun fo ys H2 s2 nfo hfo ey => ?_
    subst ey
    refine ⟨_, rfl, _, _, rfl, rfl, cc_le (n := 3) (Nat.le_refl _) (by omega), fun q G3 g3 _ h3 => ?_⟩
    have h3 : G3 q = some (.tup [.int 0, .int (n : Nat), .int 0]) := by rw [h3]; show some (HO.tup [V.int 0, V.int (((n + 1 : Nat) : Int) - 1), V.int 0]) = _; rw [e1]
    refine ⟨cc_le (n := 1) (Nat.le_refl _) (by omega), fun w H3 s3 nw hw => ?_⟩
    have hfo3 := s3 _ _ (g3 _ _ hfo)
    have nfw : fo ≠ w := ne_of_none (g3 _ _ hfo) nw
    have t2 := s1.trans s2
    have t3 := t2.trans (g3.trans s3)
    have hF : H fo = none := s1.free nfo
    have hW : H w = none := (t2.trans g3).free nw
    have hq3 := s3 _ _ h3
    have hfr : ∀ f ∈ [fo, w], H f = none := fun f hf => by
      simp only [List.mem_cons, List.not_mem_nil, or_false] at hf
      rcases hf with z | z
      · rw [z]; exact hF
      · rw [z]; exact hW
    clear s1 s2 g3 s3 nfo nw hfo h3 t2
    refine ⟨_, rfl, _, _, rfl, rfl, .inl ⟨by omega, by omega⟩, 2 * (n + 1), (by show [V.int ((2 : Int) * ((n + 1 : Nat) : Int))] = _; congr 2), by omega, ?_⟩
    refine for_wk (wk_rng (R := fun _ => True)) (fun k σ H' => ∃ y5 y6 y7 y8 y9 es fs, σ = [some (.ref d), some (.int ((n + 1 : Nat) : Int)), some (.int (lean : Nat)), some (.ref fo), some (.ref w), y5, y6, y7, y8, y9] ∧ Sx [fo, w] H3 H' ∧ H' fo = some (.lst (fs.map V.int)) ∧ H' w = some (.lst (es.map Wq.v)) ∧ Open n fs es ∧ (∀ e ∈ es, QOk H' e) ∧ (es = [] ∨ qcost es + k ≤ 2 * n + 1)) (fun _ _ _ _ => trivial)
      ⟨_, _, _, _, _, [⟨0, n, 0, .ref q⟩], List.replicate n 0, rfl, .refl _, hfo3, hw, Open.start n _ _ (List.length_replicate ..), fun e he => by rw [List.mem_singleton.mp he]; exact ⟨q, rfl, by simpa using hq3⟩, .inr (by simp [qcost])⟩ ?_ ?_
    · rintro σ H' ⟨y5, y6, y7, y8, y9, es, fs, rfl, S, hf', hw', op, ok, cost⟩
      have ee : es = [] := by
        rcases cost with z | z
        · exact z
        · omega
      subst ee
      obtain ⟨t, ht, hdep⟩ := op.done
      refine ⟨_, rfl, fo, _, rfl, hf', fun p H4 s4 hp => kk p _ t (Same.trans (fun b o e => S b o (fun z => ?_) (t3 b o e)) s4) ht (by rw [hdep]; exact hp)⟩
      simp only [List.mem_cons, List.not_mem_nil, or_false] at z
      rcases z with z | z
      · rw [z, hF] at e; cases e
      · rw [z, hW] at e; cases e
    · rintro k yv σ H' H'' hk ⟨y5, y6, y7, y8, y9, es, fs, rfl, S, hf', hw', op, ok, cost⟩ s'' rfl
      have S' := S.trans s''.sx
      have hf2 := s'' _ _ hf'
      have hw2 := s'' _ _ hw'
      have ok2 : ∀ e ∈ es, QOk H'' e := fun e he => (ok e he).tk s''.tk
      clear S hf' hw' ok s''
      have hd2 : DiceAt H'' d := hd.same (S'.same t3 hfr)
      rcases snoc_or es with rfl | ⟨es, e, rfl⟩
      · exact ⟨_, rfl, w, _, rfl, hw2, _, _, rfl, rfl, false, rfl, _, _, _, _, _, [], fs, rfl, S', hf2, hw2, op, ok2, .inl rfl⟩
      · have pos : decide ((0 : Int) < (((es ++ [e]).map Wq.v).length : Nat)) = true := decide_eq_true (by simp)
        refine ⟨_, rfl, w, _, rfl, hw2, _, _, rfl, rfl, true, congrArg V.bl pos, ?_⟩
        have cost : qcost (es ++ [e]) + k ≤ 2 * n + 1 := by
          rcases cost with z | z
          · simp at z
          · exact z
        rw [qcost_snoc] at cost
        rw [List.map_append] at hw2
        obtain ⟨r, er, htup⟩ := ok2 e (List.mem_append_right _ List.mem_cons_self)
        refine ⟨_, rfl, .inl ⟨rfl, _, .inl (.inl hw2)⟩, w, _, e.v, rfl, rfl, hw2, fun K1 eK => ?_⟩
        have SK : Sx [fo, w] H3 K1 := by rw [eK]; exact S'.put (by simp)
        have tk1 : Tk H'' K1 := by rw [eK]; exact tk_lst hw2
        have hw1 : K1 w = some (.lst (es.map Wq.v)) := by rw [eK]; exact upd_same
        have hfo1 := upd_keep eK nfw hf2
        have hd1 : DiceAt K1 d := hd.same (SK.same t3 hfr)
        have htup1 := tk1 _ _ htup
        have okr : ∀ z ∈ es, QOk K1 z := fun z hz => (ok2 z (List.mem_append_left _ hz)).tk tk1
        clear eK
        have lE := qc_len es
        have ole := op.le e (List.mem_append_right _ List.mem_cons_self)
        refine ⟨r, _, er, .inl (.inl htup1), rfl, _, _, rfl, _, _, rfl, _, _, rfl, rfl, ?_⟩
        by_cases m0 : e.m = 0
        · refine ⟨_, rfl, _, rfl, _, _, rfl, rfl, false, congrArg V.bl (decide_eq_false (by rw [m0]; omega)), ?_⟩
          exact ⟨_, _, _, _, _, es, fs, rfl, SK, hfo1, hw1, op.lf m0, okr, .inr (by omega)⟩
        · refine ⟨_, rfl, _, rfl, _, _, rfl, rfl, true, congrArg V.bl (decide_eq_true (by omega)), ?_⟩
          have em : (((e.i + e.m : Nat) : Int) - ((e.i : Nat) : Int)) = ((e.m : Nat) : Int) := by omega
          refine ⟨_, rfl, _, rfl, _, rfl, _, rfl, _, _, rfl, rfl, d, e.m, by rw [← em]; rfl, hd1, by omega, by omega, fun s K2 s2 hs => ?_⟩
          refine ⟨_, _, rfl, rfl, ?_⟩
          have lens : lean = 0 ∨ lean = 1 ∨ lean = 2 := by omega
          have es0 : ((e.i : Nat) : Int) + ((s : Nat) : Int) = ((e.i + s : Nat) : Int) := by omega
          have ne12 : decide (V.int ((2 : Nat) : Int) = V.int 1) = false := rfl
          rcases lens with hz | hz | hz
          · subst hz
            refine ⟨_, rfl, rfl, false, rfl, _, rfl, rfl, false, rfl, ?_⟩
            refine ⟨_, rfl, _, rfl, _, rfl, fo, _, _, _, rfl, rfl, s2 _ _ hfo1, (by
              have z : ixN (fs.map V.int).length ((e.i + s : Nat) : Int) = some (e.i + s) := ixN_of (by omega) (by rw [List.length_map, op.len]; omega)
              rw [← es0] at z
              exact z), fun G1 x1 => ?_⟩
            have hfoG : G1 fo = some (.lst ((fs.set (e.i + s) e.d).map V.int)) := by rw [x1, upd_same, List.map_set]
            have hwG := upd_keep x1 nfw.symm (s2 _ _ hw1)
            have tkG : Tk K1 G1 := by rw [x1]; exact (s2).tk.trans (tk_lst (s2 _ _ hfo1))
            have SG : Sx [fo, w] H3 G1 := by rw [x1]; exact (SK.trans (s2).sx).put (by simp)
            clear x1
            refine ⟨_, rfl, .inl ⟨rfl, _, .inl (.inl hwG)⟩, ⟨_, rfl, _, rfl, _, rfl, _, _, rfl, rfl, cc_le (n := 3) (Nat.le_refl _) (by omega), fun q1 G2 g2 _ hq1 => ?_⟩⟩
            have hq1 : G2 q1 = some (.tup [.int (e.i : Nat), .int ((e.i + s : Nat) : Int), .int (e.d + 1)]) := by rw [← es0]; exact hq1
            refine ⟨w, _, _, rfl, rfl, g2 _ _ hwG, cc_lt (n := 300) (by rw [List.length_map]; omega) (by omega), fun G3 x3 => ?_⟩
            have hwG3 : G3 w = some (.lst (es.map Wq.v ++ [.ref q1])) := by rw [x3, upd_same]
            have tkG3 : Tk G2 G3 := by rw [x3]; exact tk_lst (g2 _ _ hwG)
            have SG3 : Sx [fo, w] H3 G3 := by rw [x3]; exact (SG.trans g2.sx).put (by simp)
            have hfoG3 := upd_keep x3 nfw (g2 _ _ hfoG)
            clear x3
            refine ⟨_, rfl, .inl ⟨rfl, _, .inl (.inl hwG3)⟩, ⟨_, rfl, _, _, rfl, rfl, _, rfl, _, rfl, _, _, rfl, rfl, cc_le (n := 3) (Nat.le_refl _) (by omega), fun q2 G4 g4 _ hq2 => ?_⟩⟩
            have hq2 : G4 q2 = some (.tup [.int (((e.i + s : Nat) : Int) + 1), .int ((e.i + e.m : Nat) : Int), .int (e.d + 1)]) := by rw [← es0]; exact hq2
            refine ⟨w, _, _, rfl, rfl, g4 _ _ hwG3, cc_lt (n := 300) (by rw [List.length_append, List.length_map, List.length_singleton]; omega) (by omega), fun G5 x5 => ?_⟩
            have hwG5 : G5 w = some (.lst (es.map Wq.v ++ [.ref q1] ++ [.ref q2])) := by rw [x5, upd_same]
            have tkG5 : Tk G4 G5 := by rw [x5]; exact tk_lst (g4 _ _ hwG3)
            have SG5 : Sx [fo, w] H3 G5 := by rw [x5]; exact (SG3.trans g4.sx).put (by simp)
            have hfoG5 := upd_keep x5 nfw (g4 _ _ hfoG3)
            clear x5
            have cs : qcost ((es ++ [⟨e.i, s, e.d + 1, .ref q1⟩]) ++ [⟨e.i + s + 1, e.m - s - 1, e.d + 1, .ref q2⟩]) = qcost es + (2 * s + 1) + (2 * (e.m - s - 1) + 1) := by rw [qcost_snoc, qcost_snoc]
            refine ⟨_, _, _, _, _, (es ++ [⟨e.i, s, e.d + 1, .ref q1⟩]) ++ [⟨e.i + s + 1, e.m - s - 1, e.d + 1, .ref q2⟩], _, rfl, SG5, hfoG5, by rw [hwG5, List.map_append, List.map_append]; rfl, op.nd (by omega), fun z hz => ?_, .inr (by rw [cs]; omega)⟩
            rcases List.mem_append.mp hz with hz | hz
            · rcases List.mem_append.mp hz with hz | hz
              · exact (okr z hz).tk (tkG.trans (g2.tk.trans (tkG3.trans (g4.tk.trans tkG5))))
              · rw [List.mem_singleton.mp hz]
                exact ⟨q1, rfl, (tkG3.trans (g4.tk.trans tkG5)) _ _ hq1⟩
            · rw [List.mem_singleton.mp hz]
              have h8 := tkG5 _ _ hq2
              have e9 : ((e.i + e.m : Nat) : Int) = ((e.i + s + 1 + (e.m - s - 1) : Nat) : Int) := by omega
              rw [e9] at h8
              exact ⟨q2, rfl, h8⟩
          · subst hz
            refine ⟨_, rfl, rfl, true, rfl, _, rfl, d, 4, rfl, hd1.same s2, by omega, by omega, fun v K3 s3 hv => ⟨_, _, rfl, rfl, _, rfl, ?_⟩⟩
            by_cases vp : (0 : Int) < (v : Int)
            · refine ifT (decide_eq_true vp) ⟨_, rfl, _, _, rfl, rfl, _, rfl, rfl, false, rfl, ?_⟩
              have el : (((e.i + e.m : Nat) : Int) - 1) = ((e.i + (e.m - 1) : Nat) : Int) := by omega
              refine ⟨_, rfl, _, rfl, _, rfl, fo, _, _, _, rfl, rfl, (s2.trans s3) _ _ hfo1, (by
                have z : ixN (fs.map V.int).length ((e.i + (e.m - 1) : Nat) : Int) = some (e.i + (e.m - 1)) := ixN_of (by omega) (by rw [List.length_map, op.len]; omega)
                rw [← el] at z
                exact z), fun G1 x1 => ?_⟩
              have hfoG : G1 fo = some (.lst ((fs.set (e.i + (e.m - 1)) e.d).map V.int)) := by rw [x1, upd_same, List.map_set]
              have hwG := upd_keep x1 nfw.symm ((s2.trans s3) _ _ hw1)
              have tkG : Tk K1 G1 := by rw [x1]; exact ((s2.trans s3)).tk.trans (tk_lst ((s2.trans s3) _ _ hfo1))
              have SG : Sx [fo, w] H3 G1 := by rw [x1]; exact (SK.trans ((s2.trans s3)).sx).put (by simp)
              clear x1
              refine ⟨_, rfl, .inl ⟨rfl, _, .inl (.inl hwG)⟩, ⟨_, rfl, _, rfl, _, rfl, _, _, rfl, rfl, cc_le (n := 3) (Nat.le_refl _) (by omega), fun q1 G2 g2 _ hq1 => ?_⟩⟩
              have hq1 : G2 q1 = some (.tup [.int (e.i : Nat), .int ((e.i + (e.m - 1) : Nat) : Int), .int (e.d + 1)]) := by rw [← el]; exact hq1
              refine ⟨w, _, _, rfl, rfl, g2 _ _ hwG, cc_lt (n := 300) (by rw [List.length_map]; omega) (by omega), fun G3 x3 => ?_⟩
              have hwG3 : G3 w = some (.lst (es.map Wq.v ++ [.ref q1])) := by rw [x3, upd_same]
              have tkG3 : Tk G2 G3 := by rw [x3]; exact tk_lst (g2 _ _ hwG)
              have SG3 : Sx [fo, w] H3 G3 := by rw [x3]; exact (SG.trans g2.sx).put (by simp)
              have hfoG3 := upd_keep x3 nfw (g2 _ _ hfoG)
              clear x3
              refine ⟨_, rfl, .inl ⟨rfl, _, .inl (.inl hwG3)⟩, ⟨_, rfl, _, _, rfl, rfl, _, rfl, _, rfl, _, _, rfl, rfl, cc_le (n := 3) (Nat.le_refl _) (by omega), fun q2 G4 g4 _ hq2 => ?_⟩⟩
              have hq2 : G4 q2 = some (.tup [.int (((e.i + (e.m - 1) : Nat) : Int) + 1), .int ((e.i + e.m : Nat) : Int), .int (e.d + 1)]) := by rw [← el]; exact hq2
              refine ⟨w, _, _, rfl, rfl, g4 _ _ hwG3, cc_lt (n := 300) (by rw [List.length_append, List.length_map, List.length_singleton]; omega) (by omega), fun G5 x5 => ?_⟩
              have hwG5 : G5 w = some (.lst (es.map Wq.v ++ [.ref q1] ++ [.ref q2])) := by rw [x5, upd_same]
              have tkG5 : Tk G4 G5 := by rw [x5]; exact tk_lst (g4 _ _ hwG3)
              have SG5 : Sx [fo, w] H3 G5 := by rw [x5]; exact (SG3.trans g4.sx).put (by simp)
              have hfoG5 := upd_keep x5 nfw (g4 _ _ hfoG3)
              clear x5
              have cs : qcost ((es ++ [⟨e.i, (e.m - 1), e.d + 1, .ref q1⟩]) ++ [⟨e.i + (e.m - 1) + 1, e.m - (e.m - 1) - 1, e.d + 1, .ref q2⟩]) = qcost es + (2 * (e.m - 1) + 1) + (2 * (e.m - (e.m - 1) - 1) + 1) := by rw [qcost_snoc, qcost_snoc]
              refine ⟨_, _, _, _, _, (es ++ [⟨e.i, (e.m - 1), e.d + 1, .ref q1⟩]) ++ [⟨e.i + (e.m - 1) + 1, e.m - (e.m - 1) - 1, e.d + 1, .ref q2⟩], _, rfl, SG5, hfoG5, by rw [hwG5, List.map_append, List.map_append]; rfl, op.nd (by omega), fun z hz => ?_, .inr (by rw [cs]; omega)⟩
              rcases List.mem_append.mp hz with hz | hz
              · rcases List.mem_append.mp hz with hz | hz
                · exact (okr z hz).tk (tkG.trans (g2.tk.trans (tkG3.trans (g4.tk.trans tkG5))))
                · rw [List.mem_singleton.mp hz]
                  exact ⟨q1, rfl, (tkG3.trans (g4.tk.trans tkG5)) _ _ hq1⟩
              · rw [List.mem_singleton.mp hz]
                have h8 := tkG5 _ _ hq2
                have e9 : ((e.i + e.m : Nat) : Int) = ((e.i + (e.m - 1) + 1 + (e.m - (e.m - 1) - 1) : Nat) : Int) := by omega
                rw [e9] at h8
                exact ⟨q2, rfl, h8⟩
            · refine ifF (decide_eq_false vp) ⟨_, rfl, rfl, false, rfl, ?_⟩
              refine ⟨_, rfl, _, rfl, _, rfl, fo, _, _, _, rfl, rfl, (s2.trans s3) _ _ hfo1, (by
                have z : ixN (fs.map V.int).length ((e.i + s : Nat) : Int) = some (e.i + s) := ixN_of (by omega) (by rw [List.length_map, op.len]; omega)
                rw [← es0] at z
                exact z), fun G1 x1 => ?_⟩
              have hfoG : G1 fo = some (.lst ((fs.set (e.i + s) e.d).map V.int)) := by rw [x1, upd_same, List.map_set]
              have hwG := upd_keep x1 nfw.symm ((s2.trans s3) _ _ hw1)
              have tkG : Tk K1 G1 := by rw [x1]; exact ((s2.trans s3)).tk.trans (tk_lst ((s2.trans s3) _ _ hfo1))
              have SG : Sx [fo, w] H3 G1 := by rw [x1]; exact (SK.trans ((s2.trans s3)).sx).put (by simp)
              clear x1
              refine ⟨_, rfl, .inl ⟨rfl, _, .inl (.inl hwG)⟩, ⟨_, rfl, _, rfl, _, rfl, _, _, rfl, rfl, cc_le (n := 3) (Nat.le_refl _) (by omega), fun q1 G2 g2 _ hq1 => ?_⟩⟩
              have hq1 : G2 q1 = some (.tup [.int (e.i : Nat), .int ((e.i + s : Nat) : Int), .int (e.d + 1)]) := by rw [← es0]; exact hq1
              refine ⟨w, _, _, rfl, rfl, g2 _ _ hwG, cc_lt (n := 300) (by rw [List.length_map]; omega) (by omega), fun G3 x3 => ?_⟩
              have hwG3 : G3 w = some (.lst (es.map Wq.v ++ [.ref q1])) := by rw [x3, upd_same]
              have tkG3 : Tk G2 G3 := by rw [x3]; exact tk_lst (g2 _ _ hwG)
              have SG3 : Sx [fo, w] H3 G3 := by rw [x3]; exact (SG.trans g2.sx).put (by simp)
              have hfoG3 := upd_keep x3 nfw (g2 _ _ hfoG)
              clear x3
              refine ⟨_, rfl, .inl ⟨rfl, _, .inl (.inl hwG3)⟩, ⟨_, rfl, _, _, rfl, rfl, _, rfl, _, rfl, _, _, rfl, rfl, cc_le (n := 3) (Nat.le_refl _) (by omega), fun q2 G4 g4 _ hq2 => ?_⟩⟩
              have hq2 : G4 q2 = some (.tup [.int (((e.i + s : Nat) : Int) + 1), .int ((e.i + e.m : Nat) : Int), .int (e.d + 1)]) := by rw [← es0]; exact hq2
              refine ⟨w, _, _, rfl, rfl, g4 _ _ hwG3, cc_lt (n := 300) (by rw [List.length_append, List.length_map, List.length_singleton]; omega) (by omega), fun G5 x5 => ?_⟩
              have hwG5 : G5 w = some (.lst (es.map Wq.v ++ [.ref q1] ++ [.ref q2])) := by rw [x5, upd_same]
              have tkG5 : Tk G4 G5 := by rw [x5]; exact tk_lst (g4 _ _ hwG3)
              have SG5 : Sx [fo, w] H3 G5 := by rw [x5]; exact (SG3.trans g4.sx).put (by simp)
              have hfoG5 := upd_keep x5 nfw (g4 _ _ hfoG3)
              clear x5
              have cs : qcost ((es ++ [⟨e.i, s, e.d + 1, .ref q1⟩]) ++ [⟨e.i + s + 1, e.m - s - 1, e.d + 1, .ref q2⟩]) = qcost es + (2 * s + 1) + (2 * (e.m - s - 1) + 1) := by rw [qcost_snoc, qcost_snoc]
              refine ⟨_, _, _, _, _, (es ++ [⟨e.i, s, e.d + 1, .ref q1⟩]) ++ [⟨e.i + s + 1, e.m - s - 1, e.d + 1, .ref q2⟩], _, rfl, SG5, hfoG5, by rw [hwG5, List.map_append, List.map_append]; rfl, op.nd (by omega), fun z hz => ?_, .inr (by rw [cs]; omega)⟩
              rcases List.mem_append.mp hz with hz | hz
              · rcases List.mem_append.mp hz with hz | hz
                · exact (okr z hz).tk (tkG.trans (g2.tk.trans (tkG3.trans (g4.tk.trans tkG5))))
                · rw [List.mem_singleton.mp hz]
                  exact ⟨q1, rfl, (tkG3.trans (g4.tk.trans tkG5)) _ _ hq1⟩
              · rw [List.mem_singleton.mp hz]
                have h8 := tkG5 _ _ hq2
                have e9 : ((e.i + e.m : Nat) : Int) = ((e.i + s + 1 + (e.m - s - 1) : Nat) : Int) := by omega
                rw [e9] at h8
                exact ⟨q2, rfl, h8⟩
          · subst hz
            refine ⟨_, rfl, rfl, false, rfl, _, rfl, rfl, true, rfl, _, rfl, d, 4, rfl, hd1.same s2, by omega, by omega, fun v K3 s3 hv => ⟨_, _, rfl, rfl, _, rfl, ?_⟩⟩
            by_cases vp : (0 : Int) < (v : Int)
            · refine ifT (decide_eq_true vp) ⟨_, rfl, ?_⟩
              have el : ((e.i : Nat) : Int) = ((e.i + 0 : Nat) : Int) := by omega
              refine ⟨_, rfl, _, rfl, _, rfl, fo, _, _, _, rfl, rfl, (s2.trans s3) _ _ hfo1, (by
                have z : ixN (fs.map V.int).length ((e.i + 0 : Nat) : Int) = some (e.i + 0) := ixN_of (by omega) (by rw [List.length_map, op.len]; omega)
                rw [← el] at z
                exact z), fun G1 x1 => ?_⟩
              have hfoG : G1 fo = some (.lst ((fs.set (e.i + 0) e.d).map V.int)) := by rw [x1, upd_same, List.map_set]
              have hwG := upd_keep x1 nfw.symm ((s2.trans s3) _ _ hw1)
              have tkG : Tk K1 G1 := by rw [x1]; exact ((s2.trans s3)).tk.trans (tk_lst ((s2.trans s3) _ _ hfo1))
              have SG : Sx [fo, w] H3 G1 := by rw [x1]; exact (SK.trans ((s2.trans s3)).sx).put (by simp)
              clear x1
              refine ⟨_, rfl, .inl ⟨rfl, _, .inl (.inl hwG)⟩, ⟨_, rfl, _, rfl, _, rfl, _, _, rfl, rfl, cc_le (n := 3) (Nat.le_refl _) (by omega), fun q1 G2 g2 _ hq1 => ?_⟩⟩
              have hq1 : G2 q1 = some (.tup [.int (e.i : Nat), .int ((e.i + 0 : Nat) : Int), .int (e.d + 1)]) := by rw [← el]; exact hq1
              refine ⟨w, _, _, rfl, rfl, g2 _ _ hwG, cc_lt (n := 300) (by rw [List.length_map]; omega) (by omega), fun G3 x3 => ?_⟩
              have hwG3 : G3 w = some (.lst (es.map Wq.v ++ [.ref q1])) := by rw [x3, upd_same]
              have tkG3 : Tk G2 G3 := by rw [x3]; exact tk_lst (g2 _ _ hwG)
              have SG3 : Sx [fo, w] H3 G3 := by rw [x3]; exact (SG.trans g2.sx).put (by simp)
              have hfoG3 := upd_keep x3 nfw (g2 _ _ hfoG)
              clear x3
              refine ⟨_, rfl, .inl ⟨rfl, _, .inl (.inl hwG3)⟩, ⟨_, rfl, _, _, rfl, rfl, _, rfl, _, rfl, _, _, rfl, rfl, cc_le (n := 3) (Nat.le_refl _) (by omega), fun q2 G4 g4 _ hq2 => ?_⟩⟩
              have hq2 : G4 q2 = some (.tup [.int (((e.i + 0 : Nat) : Int) + 1), .int ((e.i + e.m : Nat) : Int), .int (e.d + 1)]) := by rw [← el]; exact hq2
              refine ⟨w, _, _, rfl, rfl, g4 _ _ hwG3, cc_lt (n := 300) (by rw [List.length_append, List.length_map, List.length_singleton]; omega) (by omega), fun G5 x5 => ?_⟩
              have hwG5 : G5 w = some (.lst (es.map Wq.v ++ [.ref q1] ++ [.ref q2])) := by rw [x5, upd_same]
              have tkG5 : Tk G4 G5 := by rw [x5]; exact tk_lst (g4 _ _ hwG3)
              have SG5 : Sx [fo, w] H3 G5 := by rw [x5]; exact (SG3.trans g4.sx).put (by simp)
              have hfoG5 := upd_keep x5 nfw (g4 _ _ hfoG3)
              clear x5
              have cs : qcost ((es ++ [⟨e.i, 0, e.d + 1, .ref q1⟩]) ++ [⟨e.i + 0 + 1, e.m - 0 - 1, e.d + 1, .ref q2⟩]) = qcost es + (2 * 0 + 1) + (2 * (e.m - 0 - 1) + 1) := by rw [qcost_snoc, qcost_snoc]
              refine ⟨_, _, _, _, _, (es ++ [⟨e.i, 0, e.d + 1, .ref q1⟩]) ++ [⟨e.i + 0 + 1, e.m - 0 - 1, e.d + 1, .ref q2⟩], _, rfl, SG5, hfoG5, by rw [hwG5, List.map_append, List.map_append]; rfl, op.nd (by omega), fun z hz => ?_, .inr (by rw [cs]; omega)⟩
              rcases List.mem_append.mp hz with hz | hz
              · rcases List.mem_append.mp hz with hz | hz
                · exact (okr z hz).tk (tkG.trans (g2.tk.trans (tkG3.trans (g4.tk.trans tkG5))))
                · rw [List.mem_singleton.mp hz]
                  exact ⟨q1, rfl, (tkG3.trans (g4.tk.trans tkG5)) _ _ hq1⟩
              · rw [List.mem_singleton.mp hz]
                have h8 := tkG5 _ _ hq2
                have e9 : ((e.i + e.m : Nat) : Int) = ((e.i + 0 + 1 + (e.m - 0 - 1) : Nat) : Int) := by omega
                rw [e9] at h8
                exact ⟨q2, rfl, h8⟩
            · refine ifF (decide_eq_false vp) ?_
              refine ⟨_, rfl, _, rfl, _, rfl, fo, _, _, _, rfl, rfl, (s2.trans s3) _ _ hfo1, (by
                have z : ixN (fs.map V.int).length ((e.i + s : Nat) : Int) = some (e.i + s) := ixN_of (by omega) (by rw [List.length_map, op.len]; omega)
                rw [← es0] at z
                exact z), fun G1 x1 => ?_⟩
              have hfoG : G1 fo = some (.lst ((fs.set (e.i + s) e.d).map V.int)) := by rw [x1, upd_same, List.map_set]
              have hwG := upd_keep x1 nfw.symm ((s2.trans s3) _ _ hw1)
              have tkG : Tk K1 G1 := by rw [x1]; exact ((s2.trans s3)).tk.trans (tk_lst ((s2.trans s3) _ _ hfo1))
              have SG : Sx [fo, w] H3 G1 := by rw [x1]; exact (SK.trans ((s2.trans s3)).sx).put (by simp)
              clear x1
              refine ⟨_, rfl, .inl ⟨rfl, _, .inl (.inl hwG)⟩, ⟨_, rfl, _, rfl, _, rfl, _, _, rfl, rfl, cc_le (n := 3) (Nat.le_refl _) (by omega), fun q1 G2 g2 _ hq1 => ?_⟩⟩
              have hq1 : G2 q1 = some (.tup [.int (e.i : Nat), .int ((e.i + s : Nat) : Int), .int (e.d + 1)]) := by rw [← es0]; exact hq1
              refine ⟨w, _, _, rfl, rfl, g2 _ _ hwG, cc_lt (n := 300) (by rw [List.length_map]; omega) (by omega), fun G3 x3 => ?_⟩
              have hwG3 : G3 w = some (.lst (es.map Wq.v ++ [.ref q1])) := by rw [x3, upd_same]
              have tkG3 : Tk G2 G3 := by rw [x3]; exact tk_lst (g2 _ _ hwG)
              have SG3 : Sx [fo, w] H3 G3 := by rw [x3]; exact (SG.trans g2.sx).put (by simp)
              have hfoG3 := upd_keep x3 nfw (g2 _ _ hfoG)
              clear x3
              refine ⟨_, rfl, .inl ⟨rfl, _, .inl (.inl hwG3)⟩, ⟨_, rfl, _, _, rfl, rfl, _, rfl, _, rfl, _, _, rfl, rfl, cc_le (n := 3) (Nat.le_refl _) (by omega), fun q2 G4 g4 _ hq2 => ?_⟩⟩
              have hq2 : G4 q2 = some (.tup [.int (((e.i + s : Nat) : Int) + 1), .int ((e.i + e.m : Nat) : Int), .int (e.d + 1)]) := by rw [← es0]; exact hq2
              refine ⟨w, _, _, rfl, rfl, g4 _ _ hwG3, cc_lt (n := 300) (by rw [List.length_append, List.length_map, List.length_singleton]; omega) (by omega), fun G5 x5 => ?_⟩
              have hwG5 : G5 w = some (.lst (es.map Wq.v ++ [.ref q1] ++ [.ref q2])) := by rw [x5, upd_same]
              have tkG5 : Tk G4 G5 := by rw [x5]; exact tk_lst (g4 _ _ hwG3)
              have SG5 : Sx [fo, w] H3 G5 := by rw [x5]; exact (SG3.trans g4.sx).put (by simp)
              have hfoG5 := upd_keep x5 nfw (g4 _ _ hfoG3)
              clear x5
              have cs : qcost ((es ++ [⟨e.i, s, e.d + 1, .ref q1⟩]) ++ [⟨e.i + s + 1, e.m - s - 1, e.d + 1, .ref q2⟩]) = qcost es + (2 * s + 1) + (2 * (e.m - s - 1) + 1) := by rw [qcost_snoc, qcost_snoc]
              refine ⟨_, _, _, _, _, (es ++ [⟨e.i, s, e.d + 1, .ref q1⟩]) ++ [⟨e.i + s + 1, e.m - s - 1, e.d + 1, .ref q2⟩], _, rfl, SG5, hfoG5, by rw [hwG5, List.map_append, List.map_append]; rfl, op.nd (by omega), fun z hz => ?_, .inr (by rw [cs]; omega)⟩
              rcases List.mem_append.mp hz with hz | hz
              · rcases List.mem_append.mp hz with hz | hz
                · exact (okr z hz).tk (tkG.trans (g2.tk.trans (tkG3.trans (g4.tk.trans tkG5))))
                · rw [List.mem_singleton.mp hz]
                  exact ⟨q1, rfl, (tkG3.trans (g4.tk.trans tkG5)) _ _ hq1⟩
              · rw [List.mem_singleton.mp hz]
                have h8 := tkG5 _ _ hq2
                have e9 : ((e.i + e.m : Nat) : Int) = ((e.i + s + 1 + (e.m - s - 1) : Nat) : Int) := by omega
                rw [e9] at h8
                exact ⟨q2, rfl, h8⟩
end
end K73
end

section
set_option linter.all false
set_option maxRecDepth 100000
set_option maxHeartbeats 8000000
/-! rows, words drawn -/
namespace K73
open PySem PySem.Spec PyProof.Rows L2 NdefX LamX
theorem op_catLM {X : Cx} : OpR X (binaryOp .Add) (fun x y H Q => ∃ l b xs zs, x = .ref l ∧ y = .ref b ∧ H l = some (.lst xs) ∧ H b = some (.lst zs) ∧ xs.length + zs.length ≤ sizeLine ∧ ∀ p H', Same H H' → H p = none → H' p = some (.lst (xs ++ zs)) → Q (.ref p) H') :=
  opr_imp op_cat fun x y H Q ⟨l, b, xs, zs, e1, e2, h1, h2, hl, q⟩ => ⟨l, b, xs, zs, e1, e2, h1, h2, hl, fun p hp => q p _ (same_new hp) hp upd_same⟩
def lastR (s : Nat) : Nat → List R
  | 0 => [[]]
  | k + 1 => (lastR s k).flatMap fun r => (List.range s).map fun (v : Nat) => r ++ [(v : Int)]
def foundR (s : Nat) : Nat → List R
  | 0 => []
  | k + 1 => foundR s k ++ lastR s (k + 1)
theorem lastR_ok {s : Nat} : ∀ {k : Nat} {r : R}, r ∈ lastR s k → r.length = k ∧ Rw s r
  | 0, r, h => by
    rw [List.mem_singleton.mp h]
    exact ⟨rfl, fun _ h => nomatch h⟩
  | k + 1, r, h => by
    obtain ⟨r0, h0, h1⟩ := List.mem_flatMap.mp h
    obtain ⟨v, hv, rfl⟩ := List.mem_map.mp h1
    have q := lastR_ok h0
    refine ⟨by rw [List.length_append, q.1]; rfl, q.2.app fun w hw => ?_⟩
    rw [List.mem_singleton.mp hw]
    have := List.mem_range.mp hv
    omega
theorem foundR_ok {s : Nat} : ∀ {m : Nat} {r : R}, r ∈ foundR s m → 1 ≤ r.length ∧ r.length ≤ m ∧ Rw s r
  | 0, r, h => nomatch h
  | k + 1, r, h => by
    rcases List.mem_append.mp h with h | h
    · have := foundR_ok h
      exact ⟨this.1, by omega, this.2.2⟩
    · have := lastR_ok h
      exact ⟨by omega, by omega, this.2⟩
/-- a list of rows -/
def RsAt (H : Hp) (a : Addr) (ps : List (Addr × R)) : Prop := H a = some (.lst (ps.map fun p => V.ref p.1)) ∧ ∀ p ∈ ps, RowAt H p.1 p.2
theorem RsAt.same {H H' : Hp} {a : Addr} {ps : List (Addr × R)} (h : RsAt H a ps) (s : Same H H') : RsAt H' a ps := ⟨s _ _ h.1, fun p hp => s _ _ (h.2 p hp)⟩
theorem RsAt.sx {H H' : Hp} {a l : Addr} {ps : List (Addr × R)} (h : RsAt H a ps) (s : Sx [l] H H') (n : a ≠ l) (t : Tk H H') : RsAt H' a ps := ⟨s _ _ (fun z => n (List.mem_singleton.mp z)) h.1, fun p hp => t _ _ (h.2 p hp)⟩
section
variable {g : Gr}
def pRows : Pr := fun vs H Q => ∃ s m : Nat, vs = [.int (s : Nat), .int (m : Nat)] ∧ s ≤ 8 ∧ m ≤ 4 ∧ (∀ k, k ≤ m → (lastR s k).length ≤ 1000 ∧ (foundR s k).length ≤ 1000) ∧ ∀ q H' ps, Same H H' → RsAt H' q ps → ps.map (·.2) = foundR s m → Q (.ref q) H'
theorem ok_rows (T : Tx g) : CalG g 1 "_law_rows" pRows := by
  refine calD T.d__law_rows T.g__law_rows sc__law_rows (fun _ _ _ _ _ _ us hl => match us, hl with | [_, _], _ => rfl) (fun vs H Q h => ?_) fun cdv A outer s0 H vs Q hr h => ?_
  · obtain ⟨s, m, rfl, _⟩ := h; rfl
  · obtain ⟨s, m, rfl, hs8, hm4, hl, kk⟩ := h
    refine ⟨_, (pss_cons (ps_set (i := 2) sc__law_rows.nd rfl (by first | exact Or.inl rfl | exact Or.inr rfl) (pe_lstM pa_nil))
      (pss_cons (ps_set (i := 3) sc__law_rows.nd rfl (by first | exact Or.inl rfl | exact Or.inr rfl) (pe_lstM (pa_cons (pe_tupM pa_nil) pa_nil)))
      (pss_cons (ps_forM PassesOwn.never rfl (pi_rangeM1 (by rfl) T.f_range (pa_cons (pv 1) pa_nil)) (pg_name (i := 4) sc__law_rows.nd rfl (by first | exact Or.inl rfl | exact Or.inr rfl))
        (pss_cons (ps_set (i := 5) sc__law_rows.nd rfl (by first | exact Or.inl rfl | exact Or.inr rfl) (pe_lstM pa_nil))
        (pss_cons (ps_forM PassesOwn.never rfl (pi_list (pv 3)) (pg_name (i := 6) sc__law_rows.nd rfl (by first | exact Or.inl rfl | exact Or.inr rfl))
          (pss_one (ps_expr (pe_bm PySem.F.plainAttrs_list PySem.F.slot_list_extend PySem.F.type_list_extend mt_extendM (pv 5) (pa_cons (pe_lcM (own := [("_law_sound", 7)]) (g := gName 7) (tt := tYes) (by rfl) sc__law_rows.nd (pi_rangeM1 (by rfl) T.f_range (pa_cons (pv 0) pa_nil)) (blkOk_by (own := [("_law_sound", 7)]) (N := ["_law_sounds", "_law_most", "_law_found", "_law_last", "_law_k", "_law_longer", "_law_row_here", "_law_sound"]) (sc := defScope st__law_rows) (by decide +kernel)) (fun _ _ _ _ _ => pg_name (i := 7) sc__law_rows.nd rfl (Or.inl rfl)) (fun _ _ _ _ _ => pts_nil) (fun _ _ _ _ _ => (pe_op op_catR (pv 6) (pe_tupM (pa_cons (pv 7) pa_nil))))) pa_nil)))))
        (pss_cons (ps_set (i := 2) sc__law_rows.nd rfl (by first | exact Or.inl rfl | exact Or.inr rfl) (pe_op op_catLM (pv 2) (pv 5)))
        (pss_one (ps_set (i := 3) sc__law_rows.nd rfl (by first | exact Or.inl rfl | exact Or.inr rfl) (pv 5)))))))
      (pss_one (ps_ret (pv 2)))))), ?_⟩
    refine ⟨cc_le (n := 0) (Nat.le_refl _) (by omega), fun fo H1 s1 nfo hfo => ?_⟩
    refine ⟨cc_le (n := 0) (Nat.le_refl _) (by omega), fun em H2 s2 _ hem => ⟨cc_le (n := 1) (Nat.le_refl _) (by omega), fun la H3 s3 _ hla => ?_⟩⟩
    refine ⟨_, rfl, m, rfl, by omega, ?_⟩
    refine for_wk (wk_rng (R := fun _ => True)) (fun k σ H' => ∃ fo la y4 y5 y6 y7 pf pl, σ = [some (.int (s : Nat)), some (.int (m : Nat)), some (.ref fo), some (.ref la), y4, y5, y6, y7] ∧ Same H H' ∧ RsAt H' fo pf ∧ RsAt H' la pl ∧ pf.map (·.2) = foundR s k ∧ pl.map (·.2) = lastR s k) (fun _ _ _ _ => trivial)
      ⟨fo, la, _, _, _, _, [], [(em, [])], rfl, (s1.trans s2).trans s3, ⟨(s2.trans s3) _ _ hfo, fun _ h => nomatch h⟩, ⟨hla, fun p hp => by rw [List.mem_singleton.mp hp]; exact s3 _ _ hem⟩, rfl, rfl⟩ ?_ ?_
    · rintro σ H' ⟨fo, la, y4, y5, y6, y7, pf, pl, rfl, S, hf, hl', ef, el⟩
      exact ⟨_, rfl, kk fo H' pf S hf ef⟩
    · rintro k y σ H4 H5 hk ⟨fo, la, y4, y5, y6, y7, pf, pl, rfl, S4, hf4, hl4, ef, el⟩ s5 rfl
      have S5 := S4.trans s5
      have hf5 := hf4.same s5
      have hl5 := hl4.same s5
      have lk := hl k (by omega)
      have lk1 := hl (k + 1) (by omega)
      have lpl : pl.length = (lastR s k).length := by rw [← el, List.length_map]
      have lpf : pf.length = (foundR s k).length := by rw [← ef, List.length_map]
      refine ⟨cc_le (n := 0) (Nat.le_refl _) (by omega), fun lo H6 s6 nlo hlo => ?_⟩
      have S6 := S5.trans s6
      have hF := S5.free nlo
      have nfl : fo ≠ lo := ne_of_none hf5.1 nlo
      have nll : la ≠ lo := ne_of_none hl5.1 nlo
      refine ⟨_, rfl, la, rfl, ⟨_, .inl (.inl (s6 _ _ hl5.1))⟩, ?_⟩
      have lE : (pl.map fun p => V.ref p.1).length = pl.length := List.length_map _
      refine for_wk (wk_lst (R := fun H' => H' la = some (.lst (pl.map fun p => V.ref p.1))) fun H' r => r) (fun i σ H' => ∃ y6 y7 pn, σ = [some (.int (s : Nat)), some (.int (m : Nat)), some (.ref fo), some (.ref la), some (.int (0 + (k : Nat))), some (.ref lo), y6, y7] ∧ Same H H' ∧ RsAt H' fo pf ∧ RsAt H' la pl ∧ RsAt H' lo pn ∧ pn.map (·.2) = (pl.take i).flatMap fun p => (List.range s).map fun (v : Nat) => p.2 ++ [(v : Int)])
        (fun _ _ _ ⟨_, _, _, _, _, _, h, _⟩ => h.1) ⟨_, _, [], rfl, S6, hf5.same s6, hl5.same s6, ⟨hlo, fun _ h => nomatch h⟩, rfl⟩ ?_ ?_
      · rintro σ H7 ⟨y6, y7, pn, rfl, S7, hf7, hl7, hn7, en⟩
        have en2 : pn.map (·.2) = lastR s (k + 1) := by
          rw [en, List.take_of_length_le (by rw [lE]; exact Nat.le_refl _)]
          show _ = (lastR s k).flatMap _
          rw [← el, List.flatMap_map]
        have lpn : pn.length = (lastR s (k + 1)).length := by rw [← en2, List.length_map]
        refine ⟨_, rfl, _, rfl, fo, lo, _, _, rfl, rfl, hf7.1, hn7.1, cc_le (n := 3000) (by rw [List.length_map, List.length_map]; omega) (by omega), fun p H8 s8 _ hp => ?_⟩
        refine ⟨_, rfl, p, lo, _, _, _, _, pf ++ pn, pn, rfl, S7.trans s8, ⟨by rw [hp, List.map_append], fun x hx => ?_⟩, hn7.same s8, ?_, en2⟩
        · rcases List.mem_append.mp hx with hx | hx
          · exact s8 _ _ (hf7.2 x hx)
          · exact s8 _ _ (hn7.2 x hx)
        · rw [List.map_append, ef, en2]; rfl
      · rintro i y σ H7 H8 hi ⟨y6, y7, pn, rfl, S7, hf7, hl7, hn7, en⟩ s8 hy
        rw [List.getElem?_map] at hy
        obtain ⟨pr, hpr, rfl⟩ := Option.map_eq_some_iff.mp hy
        have S8 := S7.trans s8
        have hf8 := hf7.same s8
        have hl8 := hl7.same s8
        have hn8 := hn7.same s8
        have mr := List.mem_of_getElem? hpr
        have hrow := hl8.2 pr mr
        have lrow : pr.2.length = k := (lastR_ok (show pr.2 ∈ lastR s k by rw [← el]; exact List.mem_map.mpr ⟨pr, mr, rfl⟩)).1
        have lpn : pn.length ≤ 8 * pl.length := by
          have := congrArg List.length en
          rw [List.length_map, List.length_flatMap] at this
          have hb : ∀ l : List (Addr × R), (l.map fun p => ((List.range s).map fun (v : Nat) => p.2 ++ [(v : Int)]).length).sum = l.length * s := fun l => by
            induction l with
            | nil => simp
            | cons a l ih => rw [List.map_cons, List.sum_cons, ih, List.length_map, List.length_range, List.length_cons, Nat.succ_mul]; omega
          rw [hb, List.length_take] at this
          have : pn.length ≤ pl.length * 8 := by
            rw [this]; exact Nat.mul_le_mul (Nat.min_le_right _ _) hs8
          omega
        refine ⟨_, rfl, .inl ⟨rfl, _, .inl (.inl hn8.1)⟩, ?_⟩
        refine ⟨_, rfl, s, rfl, by omega, ?_⟩
        refine lc_wk (wk_rng (R := Same H8)) (fun j acc H' => ∃ pc : List (Addr × R), acc = pc.map (fun p => V.ref p.1) ∧ (∀ p ∈ pc, RowAt H' p.1 p.2) ∧ pc.map (·.2) = (List.range j).map fun (v : Nat) => pr.2 ++ [(v : Int)]) (fun j acc Ha Hb t ⟨pc, z1, z2, z3⟩ => ⟨pc, z1, fun p hp => t _ _ (z2 p hp), z3⟩) (fun j acc _ hj ⟨pc, z1, z2, z3⟩ => ?_) (fun _ _ => ⟨[], rfl, (fun _ h => nomatch h), rfl⟩) (fun C j x acc H' hj s' hx ⟨pc, z1, z2, z3⟩ yes no => ?_) fun D ys H9 s9 nD hD ⟨pc, z1, z2, z3⟩ => ?_
        · have := congrArg List.length z3
          rw [List.length_map, List.length_map, List.length_range] at this
          rw [z1, List.length_map, this]
          exact cc_lt (n := 8) (by omega) (by omega)
        · subst hx
          refine ⟨rfl, _, rfl, _, rfl, cc_le (n := 1) (Nat.le_refl _) (by omega), fun t Ha sa _ ht => ?_⟩
          have ht : RowAt Ha t [((j : Nat) : Int)] := by rw [RowAt, ht, Int.zero_add]; rfl
          refine ⟨pr.1, t, _, _, rfl, rfl, (s'.trans sa) _ _ hrow, ht, cc_le (n := 100) (by rw [lrow, List.length_singleton]; omega) (by omega), fun p Hb sb hp => ?_⟩
          refine yes _ _ (sa.trans sb) ⟨pc ++ [(p, pr.2 ++ [((j : Nat) : Int)])], by rw [z1, List.map_append]; rfl, fun x hx => ?_, by rw [List.map_append, z3, List.range_succ, List.map_append]; rfl⟩
          rcases List.mem_append.mp hx with hx | hx
          · exact (sa.trans sb) _ _ (z2 x hx)
          · rw [List.mem_singleton.mp hx]; exact hp
        · subst z1
          have lpc : pc.length = s := by
            have := congrArg List.length z3
            rw [List.length_map, List.length_map, List.length_range] at this; exact this
          have hn9 := hn8.same s9
          refine ⟨lo, D, _, _, rfl, rfl, hn9.1, hD, cc_le (n := 9000) (by rw [List.length_map, List.length_map]; omega) (by omega), fun Ha ea => ?_⟩
          have SA : Sx [lo] H9 Ha := by rw [ea]; exact (Sx.refl _).put (by simp)
          have tA : Tk H9 Ha := by rw [ea]; exact tk_lst hn9.1
          refine ⟨_, _, pn ++ pc, rfl, ?_, (hf8.same s9).sx SA nfl tA, (hl8.same s9).sx SA nll tA, ⟨by rw [ea, upd_same, List.map_append], fun x hx => ?_⟩, ?_⟩
          · rw [ea]; exact same_put (S8.trans s9) hF
          · rcases List.mem_append.mp hx with hx | hx
            · exact tA _ _ (hn9.2 x hx)
            · exact tA _ _ (z2 x hx)
          · rw [List.map_append, en, z3, ← take_snoc hpr, List.flatMap_append]
            simp
def pLike : Pr := fun vs H Q => ∃ (d a : Addr) (s : Nat) (r : R), vs = [.ref d, .int (s : Nat), .ref a] ∧ DiceAt H d ∧ RowAt H a r ∧ Rw s r ∧ 1 ≤ s ∧ s ≤ 8 ∧ r.length ≤ 10 ∧ ∀ q H' r', Same H H' → RowAt H' q r' → Rw s r' → r'.length = r.length → Q (.ref q) H'
theorem ok_like (T : Tx g) : CalG g 2 "_law_like" pLike := by
  have c__law_draw := ok_draw T
  refine calD T.d__law_like T.g__law_like sc__law_like (fun _ _ _ _ _ _ us hl => match us, hl with | [_, _, _], _ => rfl) (fun vs H Q h => ?_) fun cdv A outer s0 H vs Q hr h => ?_
  · obtain ⟨d, a, s, r, rfl, _⟩ := h; rfl
  · obtain ⟨d, a, s, r, rfl, hd, ha, hw, h1, h8, hl, kk⟩ := h
    refine ⟨_, (pss_one (ps_ret (pe_callTy call_tupM (by rfl) T.f_tuple (by decide +kernel) (pa_cons (pe_lcM (own := [("_law_sound", 3)]) (g := gName 3) (tt := tYes) (by rfl) sc__law_like.nd (pi_tup (pv 2)) (blkOk_by (own := [("_law_sound", 3)]) (N := ["_law_dice_here", "_law_sounds", "_law_row_here", "_law_sound"]) (sc := defScope st__law_like) (by decide +kernel)) (fun _ _ _ _ _ => pg_name (i := 3) sc__law_like.nd rfl (Or.inl rfl)) (fun _ _ _ _ _ => pts_nil) (fun _ _ _ _ _ => (pe_ifExp (pt_cmpR op_eq (C8.pe_c c__law_draw hr (by omega) (by rfl) (pa_cons (pv 0) (pa_cons pe_int pa_nil))) pe_int (nomark _)) (C8.pe_c c__law_draw hr (by omega) (by rfl) (pa_cons (pv 0) (pa_cons (pv 1) pa_nil))) (pv 3)))) pa_nil)))), ?_⟩
    refine ⟨_, rfl, a, rfl, ⟨_, .inl (.inl ha)⟩, ?_⟩
    refine lc_wk (wk_tup (fun H' s' => s' _ _ ha)) (fun i acc _ => ∃ r' : R, acc = r'.map V.int ∧ Rw s r' ∧ r'.length = i) (fun _ _ _ _ _ e => e) (fun i acc _ hi ⟨r', e1, _, e3⟩ => ?_) (fun _ _ => ⟨[], rfl, (fun _ h => nomatch h), rfl⟩) (fun C i x acc H' hi s' hx ⟨r', e1, e2, e3⟩ yes no => ?_) fun D ys H1 s1 hD hys ⟨r', e1, e2, e3⟩ => ?_
    · rw [List.length_map] at hi
      rw [e1, List.length_map, e3]
      exact cc_lt (n := 10) (by omega) (by omega)
    · rw [List.getElem?_map] at hx
      obtain ⟨v, hv, rfl⟩ := Option.map_eq_some_iff.mp hx
      have hwv := hw v (List.mem_of_getElem? hv)
      have fin : ∀ (u : Int) (H4 : Hp), Same H' H4 → 0 ≤ u → u < (s : Int) → C (some (.int u)) H4 := fun u H4 s4 u0 u1 => by
        refine yes _ _ s4 ⟨r' ++ [u], by rw [e1, List.map_append]; rfl, e2.app fun z hz => ?_, by rw [List.length_append, e3]; rfl⟩
        rw [List.mem_singleton.mp hz]; exact ⟨u0, u1⟩
      refine ⟨rfl, _, rfl, d, 2, rfl, hd.same s', by omega, by omega, fun w H3 s3 hw3 => ⟨rfl, _, rfl, ?_⟩⟩
      by_cases w0 : V.int (w : Nat) = V.int 0
      · refine ifT (decide_eq_true w0) ⟨_, rfl, _, rfl, d, s, rfl, hd.same (s'.trans s3), h1, by omega, fun u H4 s4 hu => fin u H4 (s3.trans s4) (by omega) (by omega)⟩
      · exact ifF (decide_eq_false w0) ⟨_, rfl, fin v H3 s3 hwv.1 hwv.2⟩
    · subst e1
      rw [List.length_map] at e3
      exact ⟨_, _, rfl, hys, fun p H2 s2 hp => kk p _ r' (s1.trans s2) hp e2 e3⟩
def pRowD : Pr := fun vs H Q => ∃ (d : Addr) (s m : Nat), vs = [.ref d, .int (s : Nat), .int (m : Nat)] ∧ DiceAt H d ∧ 1 ≤ s ∧ s ≤ 8 ∧ 1 ≤ m ∧ m ≤ 200 ∧ ∀ q H' r, Same H H' → RowAt H' q r → Rw s r → 1 ≤ r.length → r.length ≤ m → Q (.ref q) H'
theorem ok_rowD (T : Tx g) : CalG g 2 "_law_row" pRowD := by
  have c__law_draw := ok_draw T
  refine calD T.d__law_row T.g__law_row sc__law_row (fun _ _ _ _ _ _ us hl => match us, hl with | [_, _, _], _ => rfl) (fun vs H Q h => ?_) fun cdv A outer s0 H vs Q hr h => ?_
  · obtain ⟨d, s, m, rfl, _⟩ := h; rfl
  · obtain ⟨d, s, m, rfl, hd, h1, h8, m1, m2, kk⟩ := h
    refine ⟨_, (pss_one (ps_ret (pe_callTy call_tupM (by rfl) T.f_tuple (by decide +kernel) (pa_cons (pe_lcM (own := [("_law_k", 3)]) (g := gName 3) (tt := tYes) (by rfl) sc__law_row.nd (pi_rangeM1 (by rfl) T.f_range (pa_cons (pe_op op_add pe_int (C8.pe_c c__law_draw hr (by omega) (by rfl) (pa_cons (pv 0) (pa_cons (pv 2) pa_nil)))) pa_nil)) (blkOk_by (own := [("_law_k", 3)]) (N := ["_law_dice_here", "_law_sounds", "_law_most", "_law_k"]) (sc := defScope st__law_row) (by decide +kernel)) (fun _ _ _ _ _ => pg_name (i := 3) sc__law_row.nd rfl (Or.inl rfl)) (fun _ _ _ _ _ => pts_nil) (fun _ _ _ _ _ => (C8.pe_c c__law_draw hr (by omega) (by rfl) (pa_cons (pv 0) (pa_cons (pv 1) pa_nil))))) pa_nil)))), ?_⟩
    refine ⟨_, rfl, _, rfl, d, m, rfl, hd, by omega, by omega, fun w H1 s1 hw => ⟨_, _, rfl, rfl, 1 + w, rfl, by omega, ?_⟩⟩
    refine lc_wk (wk_rng (R := Same H1)) (fun i acc _ => ∃ r' : R, acc = r'.map V.int ∧ Rw s r' ∧ r'.length = i) (fun _ _ _ _ _ e => e) (fun i acc _ hi ⟨r', e1, _, e3⟩ => ?_) (fun _ _ => ⟨[], rfl, (fun _ h => nomatch h), rfl⟩) (fun C i x acc H' hi s' hx ⟨r', e1, e2, e3⟩ yes no => ?_) fun D ys H2 s2 hD hys ⟨r', e1, e2, e3⟩ => ?_
    · rw [e1, List.length_map, e3]
      exact cc_lt (n := 300) (by omega) (by omega)
    · refine ⟨rfl, _, rfl, _, rfl, d, s, rfl, hd.same (s1.trans s'), h1, by omega, fun u H3 s3 hu => yes _ _ s3 ⟨r' ++ [(u : Int)], by rw [e1, List.map_append]; rfl, e2.app fun z hz => ?_, by rw [List.length_append, e3]; rfl⟩⟩
      rw [List.mem_singleton.mp hz]
      omega
    · subst e1
      exact ⟨_, _, rfl, hys, fun p H3 s3 hp => kk p _ r' ((s1.trans s2).trans s3) hp e2 (by omega) (by omega)⟩
def pFew : Pr := fun vs H Q => ∃ (d b : Addr) (s n m : Nat) (v1 v2 v3 : V), vs = [.ref d, .ref b, .int (n : Nat), .int (m : Nat)] ∧ DiceAt H d ∧ H b = some (.tup [.int (s : Nat), v1, v2, v3]) ∧ 1 ≤ s ∧ s ≤ 8 ∧ 1 ≤ m ∧ m ≤ 200 ∧ n ≤ 12 ∧ ∀ q H' ps, Same H H' → WsAt H' q ps → WsOk s ps → ps.length = n → Q (.ref q) H'
theorem ok_few (T : Tx g) : CalG g 3 "_law_few_words" pFew := by
  have c__law_row := ok_rowD T
  refine calD T.d__law_few_words T.g__law_few_words sc__law_few_words (fun _ _ _ _ _ _ us hl => match us, hl with | [_, _, _, _], _ => rfl) (fun vs H Q h => ?_) fun cdv A outer s0 H vs Q hr h => ?_
  · obtain ⟨d, b, s, n, m, v1, v2, v3, rfl, _⟩ := h; rfl
  · obtain ⟨d, b, s, n, m, v1, v2, v3, rfl, hd, hb, h1, h8, m1, m2, n12, kk⟩ := h
    refine ⟨_, (pss_one (ps_ret (pe_callTy call_tupM (by rfl) T.f_tuple (by decide +kernel) (pa_cons (pe_lcM (own := [("_law_k", 4)]) (g := gName 4) (tt := tYes) (by rfl) sc__law_few_words.nd (pi_rangeM1 (by rfl) T.f_range (pa_cons (pv 2) pa_nil)) (blkOk_by (own := [("_law_k", 4)]) (N := ["_law_dice_here", "_law_book_here", "_law_many", "_law_most", "_law_k"]) (sc := defScope st__law_few_words) (by decide +kernel)) (fun _ _ _ _ _ => pg_name (i := 4) sc__law_few_words.nd rfl (Or.inl rfl)) (fun _ _ _ _ _ => pts_nil) (fun _ _ _ _ _ => (C8.pe_c c__law_row hr (by omega) (by rfl) (pa_cons (pv 0) (pa_cons (pe_ix ix_tupM (pv 1) pe_int (fun _ _ => rfl)) (pa_cons (pv 3) pa_nil)))))) pa_nil)))), ?_⟩
    refine ⟨_, rfl, n, rfl, by omega, ?_⟩
    refine lc_wk (wk_rng (R := Same H)) (fun i acc H' => ∃ ps : List (Addr × R), acc = ps.map (fun p => V.ref p.1) ∧ (∀ p ∈ ps, RowAt H' p.1 p.2) ∧ WsOk s ps ∧ ps.length = i) (fun j acc Ha Hb t ⟨ps, z1, z2, z3⟩ => ⟨ps, z1, fun p hp => t _ _ (z2 p hp), z3⟩) (fun i acc _ hi ⟨ps, e1, _, _, e3⟩ => ?_) (fun _ _ => ⟨[], rfl, (fun _ h => nomatch h), (fun _ h => nomatch h), rfl⟩) (fun C i x acc H' hi s' hx ⟨ps, e1, e2, e3, e4⟩ yes no => ?_) fun D ys H2 s2 hD hys ⟨ps, e1, e2, e3, e4⟩ => ?_
    · rw [e1, List.length_map, e3]
      exact cc_lt (n := 12) (by omega) (by omega)
    · refine ⟨rfl, _, rfl, _, rfl, b, _, _, _, rfl, rfl, s' _ _ hb, rfl, _, rfl, d, s, m, rfl, hd.same s', h1, h8, m1, m2, fun q H3 r s3 hq hr1 hr2 hr3 => yes _ _ s3 ⟨ps ++ [(q, r)], by rw [e1, List.map_append]; rfl, fun p hp => ?_, fun p hp => ?_, by rw [List.length_append, e4]; rfl⟩⟩
      · rcases List.mem_append.mp hp with hp | hp
        · exact s3 _ _ (e2 p hp)
        · rw [List.mem_singleton.mp hp]; exact hq
      · rcases List.mem_append.mp hp with hp | hp
        · exact e3 p hp
        · rw [List.mem_singleton.mp hp]; exact ⟨hr1, hr2, by show r.length ≤ 200; omega⟩
    · subst e1
      exact ⟨_, _, rfl, hys, fun p H3 s3 hp => kk p _ ps (s2.trans s3) ⟨hp, fun x hx => s3 _ _ (e2 x hx)⟩ e3 e4⟩
abbrev Sz := Nat × Nat × Nat
def SzT (z : Sz) : HO := .tup [.int (z.1 : Nat), .int (z.2.1 : Nat), .int (z.2.2 : Nat)]
/-- a list of sizes -/
def SzAt (H : Hp) (q : Addr) (zs : List (Addr × Sz)) : Prop := H q = some (.lst (zs.map fun z => V.ref z.1)) ∧ ∀ z ∈ zs, H z.1 = some (SzT z.2)
theorem SzAt.same {H H' : Hp} {a : Addr} {ps : List (Addr × Sz)} (h : SzAt H a ps) (s : Same H H') : SzAt H' a ps := ⟨s _ _ h.1, fun p hp => s _ _ (h.2 p hp)⟩
def small : List Sz := [(2, 1, 1), (2, 1, 1), (2, 2, 1), (2, 1, 2), (3, 1, 1), (2, 2, 2), (3, 2, 1)]
def great : List Sz := [(5, 1, 1), (4, 1, 1)]
def pSmall : Pr := fun vs H Q => vs = [] ∧ ∀ q H' zs, Same H H' → SzAt H' q zs → zs.map (·.2) = small → Q (.ref q) H'
theorem ok_small (T : Tx g) : CalG g 1 "_law_small_sizes" pSmall := by
  refine calD T.d__law_small_sizes T.g__law_small_sizes sc__law_small_sizes (fun _ _ _ _ _ _ us hl => match us, hl with | [], _ => rfl) (fun vs H Q h => ?_) fun cdv A outer s0 H vs Q hr h => ?_
  · obtain ⟨rfl, _⟩ := h; rfl
  · obtain ⟨rfl, kk⟩ := h
    refine ⟨_, (pss_one (ps_ret (pe_lstM (pa_cons (pe_tupM (pa_cons pe_int (pa_cons pe_int (pa_cons pe_int pa_nil)))) (pa_cons (pe_tupM (pa_cons pe_int (pa_cons pe_int (pa_cons pe_int pa_nil)))) (pa_cons (pe_tupM (pa_cons pe_int (pa_cons pe_int (pa_cons pe_int pa_nil)))) (pa_cons (pe_tupM (pa_cons pe_int (pa_cons pe_int (pa_cons pe_int pa_nil)))) (pa_cons (pe_tupM (pa_cons pe_int (pa_cons pe_int (pa_cons pe_int pa_nil)))) (pa_cons (pe_tupM (pa_cons pe_int (pa_cons pe_int (pa_cons pe_int pa_nil)))) (pa_cons (pe_tupM (pa_cons pe_int (pa_cons pe_int (pa_cons pe_int pa_nil)))) pa_nil)))))))))), ?_⟩
    have l3 : (3 : Nat) ≤ sizeLine := by decide
    refine ⟨l3, fun p1 H1 s1 _ h1 => ⟨l3, fun p2 H2 s2 _ h2 => ⟨l3, fun p3 H3 s3 _ h3 => ⟨l3, fun p4 H4 s4 _ h4 => ⟨l3, fun p5 H5 s5 _ h5 => ⟨l3, fun p6 H6 s6 _ h6 => ⟨l3, fun p7 H7 s7 _ h7 => ?_⟩⟩⟩⟩⟩⟩⟩
    refine ⟨cc_le (n := 7) (Nat.le_refl _) (by omega), fun q H8 s8 _ hq => ?_⟩
    have t7 := s8
    have t6 := s7.trans t7
    have t5 := s6.trans t6
    have t4 := s5.trans t5
    have t3 := s4.trans t4
    have t2 := s3.trans t3
    have t1 := s2.trans t2
    refine kk q H8 [(p1, (2, 1, 1)), (p2, (2, 1, 1)), (p3, (2, 2, 1)), (p4, (2, 1, 2)), (p5, (3, 1, 1)), (p6, (2, 2, 2)), (p7, (3, 2, 1))] (s1.trans t1) ⟨hq, fun z hz => ?_⟩ rfl
    simp only [List.mem_cons, List.not_mem_nil, or_false] at hz
    rcases hz with z | z | z | z | z | z | z <;> rw [z]
    · exact t1 _ _ h1
    · exact t2 _ _ h2
    · exact t3 _ _ h3
    · exact t4 _ _ h4
    · exact t5 _ _ h5
    · exact t6 _ _ h6
    · exact t7 _ _ h7
end
end K73
end

section
set_option linter.all false
set_option maxRecDepth 100000
set_option maxHeartbeats 8000000
/-! the book drawn -/
namespace K73
open PySem PySem.Spec PyProof.Rows L2 NdefX LamX
structure SzOk (z : Sz) : Prop where
  s1 : 1 ≤ z.1
  s8 : z.1 ≤ 8
  a1 : 1 ≤ z.2.1
  a4 : z.2.1 ≤ 4
  b1 : 1 ≤ z.2.2
  b4 : z.2.2 ≤ 4
  la : ∀ k, k ≤ z.2.1 → (lastR z.1 k).length ≤ 1000 ∧ (foundR z.1 k).length ≤ 1000
  lb : ∀ k, k ≤ z.2.2 → (lastR z.1 k).length ≤ 1000 ∧ (foundR z.1 k).length ≤ 1000
  na : (foundR z.1 z.2.1).Nodup
  nb : (foundR z.1 z.2.2).Nodup
  few : (foundR z.1 z.2.1).length * (foundR z.1 z.2.2).length ≤ 4000
  uni : (Bk.univ ⟨z.1, z.2.1, z.2.2, []⟩).length ≤ 400
theorem le_two {P : Nat → Prop} {n : Nat} (h : n ≤ 2) (h0 : P 0) (h1 : P 1) (h2 : P 2) : ∀ k, k ≤ n → P k := fun k hk => by
  match k, hk with
  | 0, _ => exact h0
  | 1, _ => exact h1
  | 2, _ => exact h2
  | k + 3, hk => omega
theorem sz_ok : ∀ z ∈ small ++ great, SzOk z := by
  intro z hz
  have hz : z = (2, 1, 1) ∨ z = (2, 2, 1) ∨ z = (2, 1, 2) ∨ z = (3, 1, 1) ∨ z = (2, 2, 2) ∨ z = (3, 2, 1) ∨ z = (5, 1, 1) ∨ z = (4, 1, 1) := by
    simp only [small, great, List.cons_append, List.nil_append, List.mem_cons, List.not_mem_nil, or_false] at hz
    rcases hz with z | z | z | z | z | z | z | z | z <;> simp [z]
  rcases hz with rfl | rfl | rfl | rfl | rfl | rfl | rfl | rfl <;>
    exact ⟨by decide, by decide, by decide, by decide, by decide, by decide, le_two (by decide) (by decide) (by decide) (by decide), le_two (by decide) (by decide) (by decide) (by decide), by decide, by decide, by decide, by decide +kernel⟩
section
variable {g : Gr}
/-- the table while it is drawn -/
def TabK (g : Gr) (H : Hp) (d : Addr) (t : List ((R × R) × (R × R))) : Prop := ∃ kvs, DMt g.P g.w pairD H d kvs ∧ kvs.map (·.1) = t.map (·.1) ∧ ∀ (i : Nat) (e : (R × R) × (R × R)), t[i]? = some e → ∃ b, kvs[i]? = some (e.1, V.ref b) ∧ PairAt H b e.2
theorem TabK.same {H H' : Hp} {d : Addr} {t : List ((R × R) × (R × R))} (h : TabK g H d t) (s : Same H H') : TabK g H' d t := let ⟨kvs, h1, h2, h3⟩ := h; ⟨kvs, h1.same s, h2, fun i e he => let ⟨b, x, y⟩ := h3 i e he; ⟨b, x, y.same s⟩⟩
theorem TabK.tab {H : Hp} {d : Addr} {t : List ((R × R) × (R × R))} (h : TabK g H d t) : ∃ es, TabM g H d t es := by
  obtain ⟨kvs, ⟨es, h1, h2, h3⟩, h4, h5⟩ := h
  have l1 : es.length = t.length := by
    have := congrArg List.length h4
    rw [List.length_map, List.length_map, ← h2] at this
    simpa [esV] using this
  refine ⟨es, h1, l1, fun i e he => ?_⟩
  obtain ⟨b, hb, hp⟩ := h5 i e he
  obtain ⟨u, hu⟩ : ∃ u, es[i]? = some u := ⟨_, List.getElem?_eq_getElem (by rw [l1]; exact (List.getElem?_eq_some_iff.mp he).1)⟩
  rw [← h2] at hb
  have hb : (es.map fun e => (e.1, e.2.2))[i]? = some (e.1, V.ref b) := hb
  rw [List.getElem?_map, hu] at hb
  have hb : (u.1, u.2.2) = (e.1, V.ref b) := Option.some.inj hb
  have e1 : u.1 = e.1 := congrArg (·.1) hb
  have e2 : u.2.2 = V.ref b := congrArg (·.2) hb
  refine ⟨u.2.1, b, ?_, ?_, hp⟩
  · rw [hu, ← e1, ← e2]
  · rw [← e1]; exact h3 u (List.mem_of_getElem? hu)
theorem TabK.put {H H' : Hp} {d b : Addr} {t : List ((R × R) × (R × R))} {kvs : List ((R × R) × V)} {k v : R × R} (h4 : kvs.map (·.1) = t.map (·.1)) (h5 : ∀ (i : Nat) (e : (R × R) × (R × R)), t[i]? = some e → ∃ b, kvs[i]? = some (e.1, V.ref b) ∧ PairAt H b e.2) (tk : Tk H H') (dn : DMt g.P g.w pairD H' d (putK kvs k (.ref b))) (hb : PairAt H' b v) (nk : k ∉ t.map (·.1)) : TabK g H' d (t ++ [(k, v)]) := by
  have lk : kvs.length = t.length := by
    have := congrArg List.length h4
    rw [List.length_map, List.length_map] at this; exact this
  have hn : valV kvs k = none := by
    cases e : valV kvs k with
    | none => rfl
    | some u => exact absurd (h4 ▸ valV_in e) nk
  rw [putK_new _ hn] at dn
  refine ⟨_, dn, by rw [List.map_append, List.map_append, h4]; rfl, fun i e he => ?_⟩
  by_cases c : i < t.length
  · rw [List.getElem?_append_left c] at he
    obtain ⟨b', x, y⟩ := h5 i e he
    exact ⟨b', by rw [List.getElem?_append_left (by rw [lk]; exact c)]; exact x, y.tk tk⟩
  · have hi := (List.getElem?_eq_some_iff.mp he).1
    rw [List.length_append, List.length_singleton] at hi
    have ei : i = t.length := by omega
    subst ei
    rw [List.getElem?_append_right (Nat.le_refl _), Nat.sub_self] at he
    have he : some (k, v) = some e := he
    cases he
    exact ⟨b, by rw [List.getElem?_append_right (by rw [lk]; exact Nat.le_refl _), lk, Nat.sub_self]; rfl, hb⟩
/-- the keys that were visited -/
def Vis2 (LA LB : List R) (i j : Nat) (k : R × R) : Prop := ∃ i' j', (i' < i ∨ (i' = i ∧ j' < j)) ∧ LA[i']? = some k.1 ∧ LB[j']? = some k.2
structure DrawnT (s a b : Nat) (LA LB : List R) (i j : Nat) (t : List ((R × R) × (R × R))) : Prop where
  nd : (t.map (·.1)).Nodup
  ent : ∀ e ∈ t, Ent s a b e
  vis : ∀ e ∈ t, Vis2 LA LB i j e.1
  len : t.length ≤ i * LB.length + j
theorem nodup_ix {α : Type} : ∀ {l : List α}, l.Nodup → ∀ {i j : Nat} {x : α}, l[i]? = some x → l[j]? = some x → i = j
  | [], _, i, j, x, hi, _ => by simp at hi
  | y :: l, h, 0, 0, x, _, _ => rfl
  | y :: l, h, 0, j + 1, x, hi, hj => by
    have e : y = x := by simpa using hi
    have m : x ∈ l := List.mem_of_getElem? (by simpa using hj)
    exact absurd (e ▸ m) (List.nodup_cons.mp h).1
  | y :: l, h, i + 1, 0, x, hi, hj => by
    have e : y = x := by simpa using hj
    have m : x ∈ l := List.mem_of_getElem? (by simpa using hi)
    exact absurd (e ▸ m) (List.nodup_cons.mp h).1
  | y :: l, h, i + 1, j + 1, x, hi, hj => congrArg (· + 1) (nodup_ix (List.nodup_cons.mp h).2 (by simpa using hi) (by simpa using hj))
theorem sIx_m1 (n d : Nat) : HT.sIx n d (some (-1)) = n - 1 := by
  show (if (-1 : Int) < 0 then ((-1 : Int) + (n : Int)).toNat else min ((-1 : Int)).toNat n) = n - 1
  rw [if_pos (by omega)]
  omega
theorem DrawnT.skip {s a b : Nat} {LA LB : List R} {i j : Nat} {t : List ((R × R) × (R × R))} (h : DrawnT s a b LA LB i j t) : DrawnT s a b LA LB i (j + 1) t :=
  ⟨h.nd, h.ent, fun e he => let ⟨i', j', c, x, y⟩ := h.vis e he; ⟨i', j', by omega, x, y⟩, by have := h.len; omega⟩
theorem DrawnT.row {s a b : Nat} {LA LB : List R} {i : Nat} {t : List ((R × R) × (R × R))} (h : DrawnT s a b LA LB i LB.length t) : DrawnT s a b LA LB (i + 1) 0 t :=
  ⟨h.nd, h.ent, fun e he => let ⟨i', j', c, x, y⟩ := h.vis e he; ⟨i', j', by omega, x, y⟩, by have := h.len; rw [Nat.succ_mul]; omega⟩
theorem DrawnT.fresh {s a b : Nat} {LA LB : List R} {i j : Nat} {t : List ((R × R) × (R × R))} {l r : R} (h : DrawnT s a b LA LB i j t) (na : LA.Nodup) (nb : LB.Nodup) (hl : LA[i]? = some l) (hr : LB[j]? = some r) : (l, r) ∉ t.map (·.1) := fun hm => by
  obtain ⟨e, he, hk⟩ := List.mem_map.mp hm
  obtain ⟨i', j', c, x, y⟩ := h.vis e he
  rw [hk] at x y
  have e1 := nodup_ix na x hl
  have e2 := nodup_ix nb y hr
  omega
theorem DrawnT.put {s a b : Nat} {LA LB : List R} {i j : Nat} {t : List ((R × R) × (R × R))} {l r : R} {v : R × R} (h : DrawnT s a b LA LB i j t) (na : LA.Nodup) (nb : LB.Nodup) (hl : LA[i]? = some l) (hr : LB[j]? = some r) (he : Ent s a b ((l, r), v)) : DrawnT s a b LA LB i (j + 1) (t ++ [((l, r), v)]) := by
  have fr := h.fresh na nb hl hr
  refine ⟨?_, fun e hm => ?_, fun e hm => ?_, by rw [List.length_append, List.length_singleton]; have := h.len; omega⟩
  · rw [List.map_append]
    exact nd_snoc h.nd fr
  · rcases List.mem_append.mp hm with hm | hm
    · exact h.ent e hm
    · rw [List.mem_singleton.mp hm]; exact he
  · rcases List.mem_append.mp hm with hm | hm
    · exact h.skip.vis e hm
    · rw [List.mem_singleton.mp hm]
      exact ⟨i, j, .inr ⟨rfl, Nat.lt_succ_self j⟩, hl, hr⟩
/-- the law's book -/
def LBk (g : Gr) (H : Hp) (q : Addr) (B : Bk) (dt : Addr) (es : Es (R × R)) : Prop := H q = some (.tup [.int (B.s : Nat), .int (B.a : Nat), .int (B.b : Nat), .ref dt]) ∧ TabM g H dt B.tbl es
theorem ok_of {z : Sz} (o : SzOk z) {t : List ((R × R) × (R × R))} {i : Nat} (h : DrawnT z.1 z.2.1 z.2.2 (foundR z.1 z.2.1) (foundR z.1 z.2.2) (foundR z.1 z.2.1).length 0 t) : Bk.Ok ⟨z.1, z.2.1, z.2.2, t⟩ :=
  ⟨o.s1, o.s8, o.a1, o.a4, o.b1, o.b4, by have := h.len; have := o.few; show t.length ≤ 4000; omega, h.nd, h.ent, o.uni⟩
theorem atI_last {xs : List V} (h : 1 ≤ xs.length) {v : V} (e : xs[xs.length - 1]? = some v) : atI xs (-1) = some v := by
  unfold atI ixN
  rw [if_neg (by omega), if_pos (by omega)]
  have : ((-1 : Int) + (xs.length : Nat)).toNat = xs.length - 1 := by omega
  rw [this]
  exact e
theorem rw_set {s : Nat} {r : R} {u : Int} (h : Rw s r) (h0 : 0 ≤ u) (h1 : u < (s : Int)) : Rw s (r.take (r.length - 1) ++ [u]) := (h.take _).app fun w hw => by
  rw [List.mem_singleton.mp hw]; exact ⟨h0, h1⟩
def pBookD (g : Gr) : Pr := fun vs H Q => ∃ (d z : Addr) (zs : List (Addr × Sz)), vs = [.ref d, .ref z] ∧ DiceAt H d ∧ SzAt H z zs ∧ 1 ≤ zs.length ∧ zs.length ≤ 100 ∧ (∀ x ∈ zs, SzOk x.2) ∧
  ∀ q H' B dt es, Same H H' → LBk g H' q B dt es → B.Ok → (B.s, B.a, B.b) ∈ zs.map (·.2) → Q (.ref q) H'
theorem ok_bookD (T : Tx g) : CalG g 3 "_law_book" (pBookD g) := by
  have c__law_draw := ok_draw T
  have c__law_rows := ok_rows T
  have c__law_like := ok_like T
  refine calD T.d__law_book T.g__law_book sc__law_book (fun _ _ _ _ _ _ us hl => match us, hl with | [_, _], _ => rfl) (fun vs H Q h => ?_) fun cdv A outer s0 H vs Q hr h => ?_
  · obtain ⟨d, z, zs, rfl, _⟩ := h; rfl
  · obtain ⟨d, z, zs, rfl, hd, hz, l1, l100, oz, kk⟩ := h
    refine ⟨_, (pss_cons (ps_asg (pe_ix ix_lstM (pv 1) (C8.pe_c c__law_draw hr (by omega) (by rfl) (pa_cons (pv 0) (pa_cons (pe_callB call_lenL (by rfl) T.f_len (by decide +kernel) (pa_cons (pv 1) pa_nil)) pa_nil))) (fun _ _ => rfl)) (pg_tupG (K := g.K) (by rfl) (by rfl) (pgs_cons (pg_name (i := 2) sc__law_book.nd rfl (by first | exact Or.inl rfl | exact Or.inr rfl)) (pgs_cons (pg_name (i := 3) sc__law_book.nd rfl (by first | exact Or.inl rfl | exact Or.inr rfl)) (pgs_cons (pg_name (i := 4) sc__law_book.nd rfl (by first | exact Or.inl rfl | exact Or.inr rfl)) pgs_nil)))))
      (pss_cons (ps_set (i := 5) sc__law_book.nd rfl (by first | exact Or.inl rfl | exact Or.inr rfl) (C8.pe_c c__law_draw hr (by omega) (by rfl) (pa_cons (pv 0) (pa_cons pe_int pa_nil))))
      (pss_cons (ps_set (i := 6) sc__law_book.nd rfl (by first | exact Or.inl rfl | exact Or.inr rfl) (pe_ix ix_lstM (pe_lstM (pa_cons pe_int (pa_cons pe_int (pa_cons pe_int (pa_cons pe_int (pa_cons pe_int (pa_cons pe_int pa_nil))))))) (pv 5) (fun _ _ => rfl)))
      (pss_cons (ps_setLcM (i := 7) (own := [("_law_sound", 12)]) (g := gName 12) (tt := tYes) (by rfl) sc__law_book.nd rfl rfl (sw_true rfl rfl rfl (by decide +kernel)) (pi_rangeM1 (by rfl) T.f_range (pa_cons (pv 2) pa_nil)) (blkOk_by (own := [("_law_sound", 12)]) (N := ["_law_dice_here", "_law_sizes", "_law_sounds", "_law_ahead", "_law_behind", "_law_kind", "_law_chance", "_law_own", "_law_table", "_law_left", "_law_right", "_law_drawn", "_law_sound"]) (sc := defScope st__law_book) (by decide +kernel)) (fun _ _ _ _ _ => pg_name (i := 12) sc__law_book.nd rfl (Or.inl rfl)) (fun _ _ _ _ _ => pts_nil) (fun _ _ _ _ _ => (C8.pe_c c__law_draw hr (by omega) (by rfl) (pa_cons (pv 0) (pa_cons (pv 2) pa_nil)))))
      (pss_cons (ps_set (i := 8) sc__law_book.nd rfl (by first | exact Or.inl rfl | exact Or.inr rfl) (pe_dnewM (D := pairD)))
      (pss_cons (ps_forM PassesOwn.never rfl (pi_list (C8.pe_c c__law_rows hr (by omega) (by rfl) (pa_cons (pv 2) (pa_cons (pv 3) pa_nil)))) (pg_name (i := 9) sc__law_book.nd rfl (by first | exact Or.inl rfl | exact Or.inr rfl))
        (pss_one (ps_forM PassesOwn.never rfl (pi_list (C8.pe_c c__law_rows hr (by omega) (by rfl) (pa_cons (pv 2) (pa_cons (pv 4) pa_nil)))) (pg_name (i := 10) sc__law_book.nd rfl (by first | exact Or.inl rfl | exact Or.inr rfl))
          (pss_cons (ps_set (i := 11) sc__law_book.nd rfl (by first | exact Or.inl rfl | exact Or.inr rfl) (pe_cmpR op_lt (C8.pe_c c__law_draw hr (by omega) (by rfl) (pa_cons (pv 0) (pa_cons pe_int pa_nil))) (pv 6) (nomark _)))
          (pss_one (ps_if (pt_cmpR op_eq (pv 5) pe_int (nomark _))
            (pss_one (ps_dputM (D := pairD) (by exact hr.units) (pv 8) (pe_tupM (pa_cons (pv 9) (pa_cons (pv 10) pa_nil))) (pe_tupM (pa_cons (pe_op op_catR (pe_slice sl_tupR (pv 9) po_none (po_some (pe_un un_neg pe_int))) (pe_tupM (pa_cons (pe_ix ix_lstM (pv 7) (pe_ix ix_tupM (pv 9) (pe_un un_neg pe_int) (fun _ _ => rfl)) (fun _ _ => rfl)) pa_nil))) (pa_cons (pv 10) pa_nil))) rfl))
            (pss_one (ps_if (PW.pt (pw_and (pt_cmpR op_gt (pv 5) pe_int (nomark _)) (pw_and1 (pt_val (pv 11)))))
              (pss_one (ps_dputM (D := pairD) (by exact hr.units) (pv 8) (pe_tupM (pa_cons (pv 9) (pa_cons (pv 10) pa_nil))) (pe_tupM (pa_cons (C8.pe_c c__law_like hr (by omega) (by rfl) (pa_cons (pv 0) (pa_cons (pv 2) (pa_cons (pv 9) pa_nil)))) (pa_cons (C8.pe_c c__law_like hr (by omega) (by rfl) (pa_cons (pv 0) (pa_cons (pv 2) (pa_cons (pv 10) pa_nil)))) pa_nil))) rfl))
              pss_nil))))))))
      (pss_one (ps_ret (pe_tupM (pa_cons (pv 2) (pa_cons (pv 3) (pa_cons (pv 4) (pa_cons (pv 8) pa_nil))))))))))))), ?_⟩
    have lz : (zs.map fun z => V.ref z.1).length = zs.length := List.length_map _
    refine ⟨_, rfl, _, rfl, _, rfl, z, _, rfl, hz.1, d, zs.length, (by rw [lz]; rfl), hd, l1, by omega, fun v H1 s1 hv => ?_⟩
    obtain ⟨y, hy⟩ : ∃ y, zs[v]? = some y := ⟨_, List.getElem?_eq_getElem hv⟩
    have my := List.mem_of_getElem? hy
    have o := oz y my
    have hy1 := s1 _ _ (hz.2 y my)
    refine ⟨z, _, _, _, rfl, rfl, s1 _ _ hz.1, atI_nat _ (by rw [List.getElem?_map, hy]; rfl), ?_⟩
    have my2 : y.2 ∈ zs.map (·.2) := List.mem_map.mpr ⟨y, my, rfl⟩
    obtain ⟨ya, s, a, b⟩ := y
    refine ⟨ya, _, rfl, .inl (.inl hy1), rfl, _, _, rfl, _, _, rfl, _, _, rfl, rfl, ?_⟩
    have hs1 : 1 ≤ s := o.s1
    have hs8 : s ≤ 8 := o.s8
    have ha4 : a ≤ 4 := o.a4
    have hb4 : b ≤ 4 := o.b4
    refine ⟨_, rfl, d, 6, rfl, hd.same s1, by omega, by omega, fun kind H2 s2 hkind => ?_⟩
    have t2 := s1.trans s2
    refine ⟨cc_le (n := 6) (Nat.le_refl _) (by omega), fun cl H3 s3 _ hcl => ?_⟩
    obtain ⟨chance, hchance⟩ : ∃ c : Int, ([V.int 1, .int 2, .int 6, .int 12, .int 12, .int 3])[kind]? = some (.int c) := by
      have : kind = 0 ∨ kind = 1 ∨ kind = 2 ∨ kind = 3 ∨ kind = 4 ∨ kind = 5 := by omega
      rcases this with rfl | rfl | rfl | rfl | rfl | rfl <;> exact ⟨_, rfl⟩
    refine ⟨_, rfl, cl, _, _, _, rfl, rfl, hcl, atI_nat _ hchance, ?_⟩
    have t3 := t2.trans s3
    refine ⟨_, rfl, s, rfl, by omega, ?_⟩
    refine lc_wk (wk_rng (R := Same H3)) (fun i acc _ => ∃ r' : R, acc = r'.map V.int ∧ Rw s r' ∧ r'.length = i) (fun _ _ _ _ _ e => e) (fun i acc _ hi ⟨r', e1, _, e3⟩ => ?_) (fun _ _ => ⟨[], rfl, (fun _ h => nomatch h), rfl⟩) (fun C i x acc H' hi s' hx ⟨r', e1, e2, e3⟩ yes no => ?_) fun ow ys H4 s4 _ how ⟨os, e1, e2, e3⟩ => ?_
    · rw [e1, List.length_map, e3]
      exact cc_lt (n := 8) (by omega) (by omega)
    · refine ⟨rfl, _, rfl, _, rfl, d, s, rfl, hd.same (t3.trans s'), hs1, by omega, fun u H3 s3 hu => yes _ _ s3 ⟨r' ++ [(u : Int)], by rw [e1, List.map_append]; rfl, e2.app fun z hz => ?_, by rw [List.length_append, e3]; rfl⟩⟩
      rw [List.mem_singleton.mp hz]
      omega
    subst e1
    have t4 := t3.trans s4
    intro dt H5 s5 ndt hdt
    have t5 := t4.trans s5
    have fdt : H dt = none := t4.free ndt
    have how5 := s5 _ _ how
    refine ⟨_, rfl, _, rfl, s, a, rfl, hs8, ha4, o.la, fun la H6 pl s6 hpl epl => ?_⟩
    refine ⟨la, rfl, ⟨_, .inl (.inl hpl.1)⟩, ?_⟩
    have t6 := t5.trans s6
    have how6 := s6 _ _ how5
    have lpl : pl.length = (foundR s a).length := by rw [← epl, List.length_map]
    have lE : (pl.map fun p => V.ref p.1).length = pl.length := List.length_map _
    have hdt6 : DMt g.P g.w pairD H6 dt [] := ⟨[], s6 _ _ hdt, rfl, fun _ h => nomatch h⟩
    refine for_wk (wk_lst (R := fun H' => H' la = some (.lst (pl.map fun p => V.ref p.1))) fun H' r => r) (fun i σ H' => ∃ y9 y10 y11 y12 t, σ = [some (.ref d), some (.ref z), some (.int (s : Nat)), some (.int (a : Nat)), some (.int (b : Nat)), some (.int (kind : Nat)), some (.int chance), some (.ref ow), some (.ref dt), y9, y10, y11, y12] ∧ Same H H' ∧ RsAt H' la pl ∧ H' ow = some (.lst (os.map V.int)) ∧ TabK g H' dt t ∧ DrawnT s a b (foundR s a) (foundR s b) i 0 t)
      (fun _ _ _ ⟨_, _, _, _, _, _, _, h, _⟩ => h.1) ⟨_, _, _, _, [], rfl, t6, hpl, how6, ⟨[], hdt6, rfl, fun i e he => nomatch he⟩, ⟨List.nodup_nil, (fun _ h => nomatch h), (fun _ h => nomatch h), Nat.zero_le _⟩⟩ ?_ ?_
    · rintro σ H7 ⟨y9, y10, y11, y12, t, rfl, S, hp7, ho7, tk7, dr⟩
      rw [lE, lpl] at dr
      refine ⟨_, rfl, _, rfl, _, rfl, _, rfl, cc_le (n := 4) (Nat.le_refl _) (by omega), fun q H8 s8 _ hq => ?_⟩
      obtain ⟨es, tm⟩ := (tk7.same s8).tab
      exact kk q H8 ⟨s, a, b, t⟩ dt es (S.trans s8) ⟨hq, tm⟩ (ok_of (z := (s, a, b)) (i := 0) o dr) my2
    · rintro i yv σ H7 H8 hi ⟨y9, y10, y11, y12, t, rfl, S7, hp7, ho7, tk7, dr⟩ s8 hyv
      rw [lE] at hi
      rw [List.getElem?_map] at hyv
      obtain ⟨pL, hpL, rfl⟩ := Option.map_eq_some_iff.mp hyv
      have S8 := S7.trans s8
      have mL := List.mem_of_getElem? hpL
      have gL : (foundR s a)[i]? = some pL.2 := by rw [← epl, List.getElem?_map, hpL]; rfl
      have okL := foundR_ok (List.mem_of_getElem? gL)
      refine ⟨_, rfl, _, rfl, s, b, rfl, hs8, hb4, o.lb, fun lb H9 pr s9 hpr epr => ?_⟩
      refine ⟨lb, rfl, ⟨_, .inl (.inl hpr.1)⟩, ?_⟩
      have S9 := S8.trans s9
      have lpr : pr.length = (foundR s b).length := by rw [← epr, List.length_map]
      have lE2 : (pr.map fun p => V.ref p.1).length = pr.length := List.length_map _
      refine for_wk (wk_lst (R := fun H' => H' lb = some (.lst (pr.map fun p => V.ref p.1))) fun H' r => r) (fun j σ H' => ∃ y10 y11 y12 t, σ = [some (.ref d), some (.ref z), some (.int (s : Nat)), some (.int (a : Nat)), some (.int (b : Nat)), some (.int (kind : Nat)), some (.int chance), some (.ref ow), some (.ref dt), some (.ref pL.1), y10, y11, y12] ∧ Same H H' ∧ RsAt H' la pl ∧ RsAt H' lb pr ∧ H' ow = some (.lst (os.map V.int)) ∧ TabK g H' dt t ∧ DrawnT s a b (foundR s a) (foundR s b) i j t)
        (fun _ _ _ ⟨_, _, _, _, _, _, _, h, _⟩ => h.1) ⟨_, _, _, t, rfl, S9, (hp7.same s8).same s9, hpr, s9 _ _ (s8 _ _ ho7), (tk7.same s8).same s9, dr⟩ ?_ ?_
      · rintro σ H10 ⟨y10, y11, y12, t, rfl, S10, hp10, hr10, ho10, tk10, dr⟩
        rw [lE2, lpr] at dr
        exact ⟨_, _, _, _, t, rfl, S10, hp10, ho10, tk10, dr.row⟩
      · rintro j yv σ H10 H11 hj ⟨y10, y11, y12, t, rfl, S10, hp10, hr10, ho10, tk10, dr⟩ s11 hyv
        rw [lE2] at hj
        rw [List.getElem?_map] at hyv
        obtain ⟨pR, hpR, rfl⟩ := Option.map_eq_some_iff.mp hyv
        have mR := List.mem_of_getElem? hpR
        have gR : (foundR s b)[j]? = some pR.2 := by rw [← epr, List.getElem?_map, hpR]; rfl
        have okR := foundR_ok (List.mem_of_getElem? gR)
        have S11 := S10.trans s11
        refine ⟨_, rfl, d, 12, rfl, hd.same S11, by omega, by omega, fun w H12 s12 hw => ⟨_, rfl, _, _, rfl, rfl, ?_⟩⟩
        have S12 := S11.trans s12
        have hp12 := (hp10.same s11).same s12
        have hr12 := (hr10.same s11).same s12
        have ho12 := s12 _ _ (s11 _ _ ho10)
        have tk12 := (tk10.same s11).same s12
        have rL := hp12.2 pL mL
        have rR := hr12.2 pR mR
        -- the entry stored
        have fin : ∀ (vL vR : R) (bq : Addr) (G1 : Hp) (σ' : L2.St) (y11 y12 : Option V), Same H12 G1 → PairAt G1 bq (vL, vR) → vL.length = pL.2.length → vR.length = pR.2.length → Rw s vL → Rw s vR → ∀ (kq : Addr) (G2 : Hp), Same G1 G2 → PairAt G2 kq (pL.2, pR.2) →
            ∃ a0 kvs k b0, V.ref dt = .ref a0 ∧ V.ref kq = .ref b0 ∧ DMt g.P g.w pairD G2 a0 kvs ∧ pairD.lies G2 b0 k ∧ kvs.length < sizeLine ∧ ∀ o H', H' = upd G2 a0 o → DMt g.P g.w pairD H' a0 (putK kvs k (.ref bq)) →
              ∃ t, Same H H' ∧ RsAt H' la pl ∧ RsAt H' lb pr ∧ H' ow = some (.lst (os.map V.int)) ∧ TabK g H' dt t ∧ DrawnT s a b (foundR s a) (foundR s b) i (j + 1) t := by
          intro vL vR bq G1 σ' y11 y12 g1 hbq lL lR wL wR kq G2 g2 hkq
          obtain ⟨kvs, dm, kk1, kk2⟩ := (tk12.same g1).same g2
          have lk : kvs.length ≤ 4000 := by
            have e1 := congrArg List.length kk1
            rw [List.length_map, List.length_map] at e1
            have e2 := dr.len
            have e3 := o.few
            have e4 : (i + 1) * (foundR s b).length ≤ (foundR s a).length * (foundR s b).length := Nat.mul_le_mul_right _ (by omega)
            have e3 : (foundR s a).length * (foundR s b).length ≤ 4000 := e3
            rw [Nat.succ_mul] at e4
            omega
          refine ⟨dt, kvs, (pL.2, pR.2), kq, rfl, rfl, dm, hkq, cc_lt (n := 4001) (by omega) (by omega), fun o2 H' e2 dn => ?_⟩
          obtain ⟨es2, hdo, _, _⟩ := id dm
          have g12 := g1.trans g2
          have tkH : Tk G2 H' := by rw [e2]; exact tk_ext hdo
          have kp : ∀ q l, G2 q = some (.lst l) → H' q = some (.lst l) := fun q l h => upd_keep e2 (ne_of h hdo (fun z => nomatch z)) h
          refine ⟨t ++ [((pL.2, pR.2), (vL, vR))], by rw [e2]; exact same_put (S12.trans g12) fdt, ⟨kp _ _ (g12 _ _ hp12.1), fun p hp => tkH _ _ (g12 _ _ (hp12.2 p hp))⟩, ⟨kp _ _ (g12 _ _ hr12.1), fun p hp => tkH _ _ (g12 _ _ (hr12.2 p hp))⟩, kp _ _ (g12 _ _ ho12), TabK.put kk1 kk2 tkH dn ((hbq.same g2).tk tkH) (dr.fresh o.na o.nb gL gR), dr.put o.na o.nb gL gR ⟨okL.1, okL.2.1, okR.1, okR.2.1, lL, lR, okL.2.2, okR.2.2, wL, wR⟩⟩
        have lL4 : pL.2.length ≤ 4 := by omega
        have lR4 : pR.2.length ≤ 4 := by omega
        refine ⟨_, rfl, rfl, _, rfl, ?_⟩
        by_cases k5 : V.int (kind : Nat) = V.int 5
        · refine ifT (decide_eq_true k5) ?_
          obtain ⟨lv, hlv⟩ : ∃ lv, pL.2[pL.2.length - 1]? = some lv := ⟨_, List.getElem?_eq_getElem (by omega)⟩
          have wlv := okL.2.2 lv (List.mem_of_getElem? hlv)
          obtain ⟨ov, hov⟩ : ∃ ov, os[lv.toNat]? = some ov := ⟨_, List.getElem?_eq_getElem (by omega)⟩
          have wov := e2 ov (List.mem_of_getElem? hov)
          refine ⟨_, rfl, _, rfl, _, rfl, pL.1, pL.2, _, _, rfl, rL, rfl, rfl, fun p1 G1 g1 h1 => ?_⟩
          have h1 : RowAt G1 p1 (pL.2.take (pL.2.length - 1)) := by
            have e : HT.sIx pL.2.length pL.2.length (some (-1)) - HT.sIx pL.2.length 0 none = pL.2.length - 1 := by rw [sIx_m1]; rfl
            rw [← e]
            exact h1
          refine ⟨_, rfl, _, rfl, _, rfl, pL.1, _, _, _, rfl, rfl, g1 _ _ rL, atI_last (by rw [List.length_map]; exact okL.1) (by rw [List.length_map, List.getElem?_map, hlv]; rfl), ow, _, _, _, rfl, rfl, g1 _ _ ho12, atI_of wlv.1 (by rw [List.getElem?_map, hov]; rfl), cc_le (n := 1) (Nat.le_refl _) (by omega), fun p2 G2 g2 _ h2 => ?_⟩
          refine ⟨p1, p2, _, [ov], rfl, rfl, g2 _ _ h1, h2, cc_le (n := 100) (by rw [List.length_take, List.length_singleton]; omega) (by omega), fun p3 G3 g3 h3 => ?_⟩
          refine ⟨_, rfl, two_le, fun p4 G4 g4 _ h4 => ⟨_, rfl, _, rfl, _, rfl, two_le, fun p5 G5 g5 _ h5 => ?_⟩⟩
          have g14 := ((g1.trans g2).trans g3).trans g4
          obtain ⟨a', kvs, k, b', z1, z2, z3, z4, z5, z6⟩ := fin (pL.2.take (pL.2.length - 1) ++ [ov]) pR.2 p4 G4 [] none none g14 ⟨p3, pR.1, h4, g4 _ _ h3, g14 _ _ rR⟩ (by rw [List.length_append, List.length_take, List.length_singleton]; omega) rfl (rw_set okL.2.2 wov.1 wov.2) okR.2.2 p5 G5 g5 ⟨pL.1, pR.1, h5, (g14.trans g5) _ _ rL, (g14.trans g5) _ _ rR⟩
          refine ⟨a', kvs, k, b', z1, z2, z3, z4, z5, fun o' H' eH dn => ?_⟩
          obtain ⟨t', y1, y2, y3, y4, y5, y6⟩ := z6 o' H' eH dn
          exact ⟨_, _, _, t', rfl, y1, y2, y3, y4, y5, y6⟩
        · refine ifF (decide_eq_false k5) ⟨_, rfl, _, _, rfl, rfl, _, rfl, ?_⟩
          have done : ∀ (σ' : L2.St), (∃ y10 y11 y12, σ' = [some (.ref d), some (.ref z), some (.int (s : Nat)), some (.int (a : Nat)), some (.int (b : Nat)), some (.int (kind : Nat)), some (.int chance), some (.ref ow), some (.ref dt), some (.ref pL.1), y10, y11, y12]) → ∃ y10 y11 y12 t, σ' = [some (.ref d), some (.ref z), some (.int (s : Nat)), some (.int (a : Nat)), some (.int (b : Nat)), some (.int (kind : Nat)), some (.int chance), some (.ref ow), some (.ref dt), some (.ref pL.1), y10, y11, y12] ∧ Same H H12 ∧ RsAt H12 la pl ∧ RsAt H12 lb pr ∧ H12 ow = some (.lst (os.map V.int)) ∧ TabK g H12 dt t ∧ DrawnT s a b (foundR s a) (foundR s b) i (j + 1) t :=
            fun σ' ⟨y10, y11, y12, e⟩ => ⟨y10, y11, y12, t, e, S12, hp12, hr12, ho12, tk12, dr.skip⟩
          by_cases kp : (0 : Int) < (kind : Int)
          · refine ifT (decide_eq_true kp) ⟨_, rfl, _, rfl, ?_⟩
            by_cases wc : ((w : Nat) : Int) < chance
            · refine ifT (decide_eq_true wc) ?_
              refine ⟨_, rfl, _, rfl, _, rfl, d, pL.1, s, pL.2, rfl, hd.same S12, rL, okL.2.2, hs1, hs8, by omega, fun p1 G1 vL g1 h1 w1 l1 => ?_⟩
              refine ⟨_, rfl, _, rfl, _, rfl, d, pR.1, s, pR.2, rfl, hd.same (S12.trans g1), g1 _ _ rR, okR.2.2, hs1, hs8, by omega, fun p2 G2 vR g2 h2 w2 l2 => ?_⟩
              refine ⟨two_le, fun p4 G4 g4 _ h4 => ⟨_, rfl, _, rfl, _, rfl, two_le, fun p5 G5 g5 _ h5 => ?_⟩⟩
              have g14 := (g1.trans g2).trans g4
              obtain ⟨a', kvs, k, b', z1, z2, z3, z4, z5, z6⟩ := fin vL vR p4 G4 [] none none g14 ⟨p1, p2, h4, (g2.trans g4) _ _ h1, g4 _ _ h2⟩ l1 l2 w1 w2 p5 G5 g5 ⟨pL.1, pR.1, h5, (g14.trans g5) _ _ rL, (g14.trans g5) _ _ rR⟩
              refine ⟨a', kvs, k, b', z1, z2, z3, z4, z5, fun o' H' eH dn => ?_⟩
              obtain ⟨t', y1, y2, y3, y4, y5, y6⟩ := z6 o' H' eH dn
              exact ⟨_, _, _, t', rfl, y1, y2, y3, y4, y5, y6⟩
            · exact ifF (decide_eq_false wc) (done _ ⟨_, _, _, rfl⟩)
          · exact ifF (decide_eq_false kp) (done _ ⟨_, _, _, rfl⟩)
end
end K73
end

section
set_option linter.all false
set_option maxRecDepth 100000
set_option maxHeartbeats 8000000
/-! the law's own book made, its joining, its saying -/
namespace K73
open PySem PySem.Spec PyProof.Rows L2 NdefX LamX
section
variable {X : Cx}
def rSlF (x : V) (lo hi : Option Int) (H : Hp) (Q : VK) : Prop := ∃ a u l n, x = .ref a ∧ SpAt H a u ∧ HT.sIx u.length 0 lo = l ∧ HT.sIx u.length u.length hi - HT.sIx u.length 0 lo = n ∧ ∀ p H', Same H H' → SpAt H' p ((u.drop l).take n) → Q (.ref p) H'
theorem sl_tupF : SlR X rSlF := by
  intro pins s σ H x v vl vu lo hi sl Q I rx hs pl pu h
  obtain ⟨a, u, l, n, rfl, ha, el, en, q⟩ := h
  obtain rfl : v = .ref a := rx
  obtain ⟨its, r, ht, hz⟩ := I.tuple (sqF ha)
  have hlen : its.toArray.size = u.length := by
    rw [List.size_toArray, ← r.length, List.length_map]
  have lu : (u.map V.int).length = u.length := List.length_map _
  refine ⟨"tuple", _, PyProof.Rows.slot_tuple_getitem.lookup, ht.typeIs, ?_⟩
  by_cases hw : HT.sIx u.length 0 lo = 0 ∧ HT.sIx u.length u.length hi = u.length
  · refine getItem_tuple_whole ht hs pl pu (by rw [hlen]; exact hw) ⟨.ref a, H, I, rfl, q a H (.refl H) ?_⟩
    have e : (u.drop l).take n = u := by
      rw [← el, ← en, hw.1, hw.2, List.drop_zero, Nat.sub_zero, List.take_length]
    rw [e]; exact ha
  · refine HT.getItem_tuple_cut ht hs pl pu (by rw [hlen]; exact hw) ?_ (by rw [hlen, ← lu]; exact hz)
    rw [hlen]
    have rv : Vals (((u.drop l).take n).map V.int) ((its.drop (HT.sIx u.length 0 lo)).take (HT.sIx u.length u.length hi - HT.sIx u.length 0 lo)) := by
      rw [List.map_take, List.map_drop, ← el, ← en]
      exact (r.drop (HT.sIx u.length 0 lo)).take (HT.sIx u.length u.length hi - HT.sIx u.length 0 lo)
    have lz : (((u.drop l).take n).map V.int).length ≤ sizeLine := by
      rw [List.length_map, List.length_take, List.length_drop]
      rw [lu] at hz
      omega
    obtain ⟨H', I2, sm, nn, sp⟩ := laid_sp I lz rv (h' := s.heap.push { cls := .type "tuple", data := .seq ((its.drop (HT.sIx u.length 0 lo)).take (HT.sIx u.length u.length hi - HT.sIx u.length 0 lo)).toArray }) (fun b o e => Heap.get?_push_of_some _ e) (Heap.get?_push_size _ rfl)
    exact ⟨.ref s.heap.objs.size, H', I2, rfl, q _ _ sm sp⟩
/-- t.m(..), t a shape -/
def tBMF (r : V → List V → Hp → VK → Prop) (to : TE) (t : TA) : TE := fun σ H Q => to σ H fun x H1 => (∃ a xs, x = .ref a ∧ SpV H1 a xs) ∧ t σ H1 fun xs H2 => r x xs H2 Q
theorem pe_bmF {id : String} {o e : Expr} {es : List Expr} {to : TE} {t : TA} {name : Str} {apos cpos : Pos} {r : V → List V → Hp → VK → Prop} (pa : PlainAttrs "tuple") (slot : Slot "tuple" name id) (hty : typeOf (.builtin id) = pure (.type "method_descriptor")) (hm : MtR X id r) (ho : PE X o to) (ha : PA X (e :: es) t)
    (hbase : attributeBase o name X.env (eval o X.env) = eval o X.env := by rfl)
    (hfew : ((backTo cpos (starEach (e :: es) X.env)).all (fun x => !x.1) && (backToKw cpos (keywordEach [] X.env)).all (fun x => x.1.isSome) && decide ((e :: es).length + ([] : List Keyword).length + (if ([] : List Keyword).isEmpty then 0 else 1) < 30)) = true := by rfl)
    (hline : (apos.endLine == cpos.line) = true := by rfl) (hs : starEach (e :: es) X.env = (false, eval e X.env) :: starEach es X.env := by rfl) (hplain : (backTo cpos (starEach es X.env)).any (·.1) = false := by rfl) :
    PE X (.Call (.Attribute o name apos) (e :: es) [] cpos) (tBMF r to t) := by
  refine ⟨fun pins s σ H Q I h => wpAny_Call_method_late hbase hfew hline rfl (thn (ho.run pins s σ H _ I h) fun v s1 hv => ?_)⟩
  obtain ⟨x, H1, I1, r1, ⟨a, xs, rfl, ob, hob, hdn⟩, q1⟩ := hv
  obtain rfl : v = .ref a := r1
  obtain ⟨hget, _, its, _, ob2, h2, hc, _⟩ := (show ObjOk X.prog X.w H1 s1.heap a (.frz ob (.tup xs)) from I1.hok a _ hob)
  rw [hget] at h2
  cases h2
  refine ⟨"tuple", id, pa, slot, hty, ⟨ob, hget, hc⟩, fun b e => by cases e; exact ⟨ob, hget, hdn⟩, ?_⟩
  have hA := ha.run cpos pins s1 σ H1 _ I1 q1
  rw [hs] at hA ⊢
  refine Calls.callWith_builtin (by show (false || (backTo cpos (starEach es X.env)).any (·.1)) = false; rw [hplain]; rfl) (Calls.evalArgs_plain (thn hA fun us s2 hq => ?_))
  obtain ⟨vs, H2, I2, r2, q2⟩ := hq
  exact hm pins s2 σ H2 (.ref a) vs _ us Q I2 (show RelV (.ref a) (Value.ref a) from rfl) r2 q2
theorem cr_minF (hc : X.calm = true) (hu : X.A.units + 64 < cLine) : CallR X (.builtin "min") (fun vs H Q => ∃ (a : Addr) (ns : List Int), vs = [V.ref a] ∧ SpAt H a ns ∧ 0 < ns.length ∧ ∀ m, m ∈ ns → (∀ y, y ∈ ns → m ≤ y) → Q (.int m) H) :=
  call_imp (cr_minT hc hu) fun vs H Q ⟨a, ns, e, h, q⟩ => ⟨a, ns, e, sqF h, q⟩
theorem mt_tupIxF : MtR X "tuple.index" (fun x xs H Q => ∃ p, ∃ ys : List Int, ∃ z j, x = .ref p ∧ xs = [.int z] ∧ SpAt H p ys ∧ ys[j]? = some z ∧ (∀ m, m < j → ys[m]? ≠ some z) ∧ Q (.int (j : Nat)) H) :=
  mt_imp mt_tupIx fun x xs H Q ⟨p, ys, z, j, e1, e2, h, q⟩ => ⟨p, ys, z, j, e1, e2, sqF h, q⟩
end
section
variable {g : Gr}
theorem TabM.rd {H : Hp} {d : Addr} {B : Bk} {es : Es (R × R)} (o : B.Ok) (h : TabM g H d B.tbl es) : TabR g H d B := by
  refine ⟨esV es, ⟨es, .inl h.at_, rfl, h.lies⟩, fun k => ?_⟩
  cases e : valV (esV es) k with
  | some v =>
    have hm := valV_mem e
    obtain ⟨u, hu, eu⟩ := List.mem_map.mp hm
    obtain ⟨i, hi⟩ := List.mem_iff_getElem?.mp hu
    have il : i < B.tbl.length := by rw [← h.len]; exact (List.getElem?_eq_some_iff.mp hi).1
    obtain ⟨x, hx⟩ : ∃ x, B.tbl[i]? = some x := ⟨_, List.getElem?_eq_getElem il⟩
    obtain ⟨q, b, h1, h2, h3⟩ := h.key i x hx
    rw [hi] at h1
    cases h1
    cases eu
    refine ⟨b, rfl, ?_⟩
    have : B.f x.1.1 x.1.2 = x.2 := by
      unfold Bk.f
      show (look B.tbl x.1).getD x.1 = x.2
      rw [look_of o.nd (List.mem_of_getElem? hx)]; rfl
    rw [this]; exact h3
  | none =>
    have nk := valV_not e
    show (look B.tbl k).getD k = k
    rw [look_no fun x hx hk => nk ?_]; rfl
    have ek : (esV es).map (·.1) = B.tbl.map (·.1) := by rw [← h.keys]; unfold esV; rw [List.map_map]; rfl
    rw [ek]
    exact List.mem_map.mpr ⟨x, hx, hk⟩
def LBr (g : Gr) (H : Hp) (q : Addr) (B : Bk) : Prop := ∃ dt, H q = some (.tup [.int (B.s : Nat), .int (B.a : Nat), .int (B.b : Nat), .ref dt]) ∧ TabR g H dt B
theorem LBr.same {H H' : Hp} {q : Addr} {B : Bk} (h : LBr g H q B) (s : Same H H') : LBr g H' q B := let ⟨dt, h1, h2⟩ := h; ⟨dt, s _ _ h1, h2.same s⟩
theorem LBk.rd {H : Hp} {q dt : Addr} {B : Bk} {es : Es (R × R)} (o : B.Ok) (h : LBk g H q B dt es) : LBr g H q B := ⟨dt, h.1, h.2.rd o⟩
def pMade (g : Gr) : Pr := fun vs H Q => ∃ (q dt : Addr) (B : Bk) (es : Es (R × R)), vs = [.ref q] ∧ LBk g H q B dt es ∧ B.Ok ∧ ∀ x H', Same H H' → BookAt g H' x B → Q (.ref x) H'
theorem ok_made (T : Tx g) : CalG g 9 "_law_made" (pMade g) := by
  have m_Book := ok_Book T
  refine calD T.d__law_made T.g__law_made sc__law_made (fun _ _ _ _ _ _ us hl => match us, hl with | [_], _ => rfl) (fun vs H Q h => ?_) fun cdv A outer s0 H vs Q hr h => ?_
  · obtain ⟨q, dt, B, es, rfl, _⟩ := h; rfl
  · obtain ⟨q, dt, B, es, rfl, ⟨hq, tm⟩, o, kk⟩ := h
    refine ⟨_, (pss_one (ps_ret (C8.pe_mk m_Book hr (by omega) (by rfl) (pa_cons (pe_ix ix_tupM (pv 0) pe_int (fun _ _ => rfl)) (pa_cons (pe_ix ix_tupM (pv 0) pe_int (fun _ _ => rfl)) (pa_cons (pe_ix ix_tupM (pv 0) pe_int (fun _ _ => rfl)) (pa_cons (pe_ix ix_tupM (pv 0) pe_int (fun _ _ => rfl)) pa_nil))))))), ?_⟩
    refine ⟨_, rfl, q, _, _, _, rfl, rfl, hq, rfl, _, rfl, q, _, _, _, rfl, rfl, hq, rfl, _, rfl, q, _, _, _, rfl, rfl, hq, rfl, _, rfl, q, _, _, _, rfl, rfl, hq, rfl, fun x dx nx nd ne => ?_⟩
    exact ⟨x, dt, dx, B, es, rfl, o, upd_same, tm.same (same_mk0 nx nd), fun H1 s1 hb => ⟨rfl, kk x _ (same_mk nx nd s1) hb⟩⟩
def pLMet (g : Gr) : Pr := fun vs H Q => ∃ (q a b : Addr) (B : Bk) (x y : R), vs = [.ref q, .ref a, .ref b] ∧ LBr g H q B ∧ B.Ok ∧ RowAt H a x ∧ RowAt H b y ∧ x.length ≤ 9000 ∧ y.length ≤ 9000 ∧ ∀ p H', Same H H' → RowAt H' p (B.met x y) → Q (.ref p) H'
theorem ok_lmet (T : Tx g) : CalG g 1 "_law_met" (pLMet g) := by
  refine calD T.d__law_met T.g__law_met sc__law_met (fun _ _ _ _ _ _ us hl => match us, hl with | [_, _, _], _ => rfl) (fun vs H Q h => ?_) fun cdv A outer s0 H vs Q hr h => ?_
  · obtain ⟨q, a, b, B, x, y, rfl, _⟩ := h; rfl
  · obtain ⟨q, a, b, B, x, y, rfl, ⟨dt, hq, ht⟩, o, hx, hy, lx, ly, kk⟩ := h
    refine ⟨_, (pss_cons (ps_set (i := 3) sc__law_met.nd rfl (by first | exact Or.inl rfl | exact Or.inr rfl) (pe_slice sl_tupR (pv 1) (po_some (pe_callB (call_max2 rfl) (by rfl) T.f_max (by decide +kernel) (pa_cons pe_int (pa_cons (pe_op op_sub (pe_callB call_lenR (by rfl) T.f_len (by decide +kernel) (pa_cons (pv 1) pa_nil)) (pe_ix ix_tupM (pv 0) pe_int (fun _ _ => rfl))) pa_nil)))) po_none))
      (pss_cons (ps_set (i := 4) sc__law_met.nd rfl (by first | exact Or.inl rfl | exact Or.inr rfl) (pe_slice sl_tupR (pv 2) po_none (po_some (pe_ix ix_tupM (pv 0) pe_int (fun _ _ => rfl)))))
      (pss_cons (ps_asg (pe_dget2N (D := pairD) (by exact hr.units) (pe_ix ix_tupM (pv 0) pe_int (fun _ _ => rfl)) (pe_tupM (pa_cons (pv 3) (pa_cons (pv 4) pa_nil))) (pe_tupM (pa_cons (pv 3) (pa_cons (pv 4) pa_nil))) ⟨rfl, rfl, rfl, rfl⟩) (pg_tupG (K := g.K) (by rfl) (by rfl) (pgs_cons (pg_name (i := 5) sc__law_met.nd rfl (by first | exact Or.inl rfl | exact Or.inr rfl)) (pgs_cons (pg_name (i := 6) sc__law_met.nd rfl (by first | exact Or.inl rfl | exact Or.inr rfl)) pgs_nil))))
      (pss_one (ps_ret (pe_op op_catR (pe_op op_catR (pe_op op_catR (pe_slice sl_tupR (pv 1) po_none (po_some (pe_op op_sub (pe_callB call_lenR (by rfl) T.f_len (by decide +kernel) (pa_cons (pv 1) pa_nil)) (pe_callB call_lenR (by rfl) T.f_len (by decide +kernel) (pa_cons (pv 3) pa_nil))))) (pv 5)) (pv 6)) (pe_slice sl_tupR (pv 2) (po_some (pe_callB call_lenR (by rfl) T.f_len (by decide +kernel) (pa_cons (pv 4) pa_nil))) po_none))))))), ?_⟩
    have a1 := o.a1
    have b1 := o.b1
    have em : (if ((x.length : Nat) : Int) - (B.a : Nat) > (0 : Int) then ((x.length : Nat) : Int) - (B.a : Nat) else (0 : Int)) = ((x.length - B.a : Nat) : Int) := by split <;> omega
    refine ⟨_, rfl, _, rfl, a, x, rfl, hx, _, rfl, q, _, _, _, rfl, rfl, hq, rfl, _, _, rfl, rfl, _, _, rfl, _, rfl, a, x, _, _, rfl, hx, rfl, rfl, fun q1 H1 s1 h1 => ?_⟩
    rw [em, HT.sIx_nat, HT.sIx_none, Nat.min_eq_left (by omega), la_cut] at h1
    refine ⟨_, rfl, _, rfl, q, _, _, _, rfl, rfl, s1 _ _ hq, rfl, _, rfl, b, y, _, _, rfl, s1 _ _ hy, rfl, rfl, fun q2 H2 s2 h2 => ?_⟩
    rw [HT.sIx_none, HT.sIx_nat, fb_cut] at h2
    have t2 := s1.trans s2
    obtain ⟨kvs, hd, hk⟩ := ht
    refine ⟨_, rfl, q, _, _, _, rfl, rfl, t2 _ _ hq, rfl, dt, kvs, rfl, hd.same t2, _, rfl, _, rfl, two_le, fun p1 H3 s3 _ hp1 => ?_⟩
    refine ⟨_, rfl, _, rfl, two_le, fun p2 H4 s4 _ hp2 => ?_⟩
    have t4 := t2.trans (s3.trans s4)
    have s34 := s3.trans s4
    refine ⟨kvs, (B.la x, B.fb y), p1, rfl, hd.same t4, ⟨q1, q2, s4 _ _ hp1, (s2.trans s34) _ _ h1, s34 _ _ h2⟩, ?_⟩
    have pr : ∃ pq, (valV kvs (B.la x, B.fb y)).getD (.ref p2) = .ref pq ∧ PairAt H4 pq (B.f (B.la x) (B.fb y)) := by
      have z := hk (B.la x, B.fb y)
      cases e : valV kvs (B.la x, B.fb y) with
      | some v =>
        rw [e] at z
        obtain ⟨c, rfl, hc⟩ := z
        exact ⟨c, rfl, hc.same t4⟩
      | none =>
        rw [e] at z
        refine ⟨p2, rfl, ?_⟩
        rw [show B.f (B.la x) (B.fb y) = (B.la x, B.fb y) from z]
        exact ⟨q1, q2, hp2, (s2.trans s34) _ _ h1, s34 _ _ h2⟩
    obtain ⟨pq, epq, c1, c2, hc, hc1, hc2⟩ := pr
    rw [epq]
    have fl := f_len o (B.la x) (B.fb y)
    have ll := la_len (B := B) x
    have lf := fb_len (B := B) y
    refine ⟨pq, _, rfl, .inl (.inl hc), rfl, _, _, rfl, _, _, rfl, rfl, ?_⟩
    have lal : (B.la x).length = x.length - (x.length - B.a) := by unfold Bk.la; rw [List.length_drop]
    have eH : ((x.length : Nat) : Int) - ((B.la x).length : Nat) = ((x.length - B.a : Nat) : Int) := by omega
    refine ⟨_, rfl, _, rfl, a, x, rfl, t4 _ _ hx, _, rfl, q1, _, rfl, (s2.trans s34) _ _ h1, _, _, rfl, rfl, _, rfl, a, x, _, _, rfl, t4 _ _ hx, rfl, rfl, fun q4 H5 s5 h4 => ?_⟩
    rw [eH, HT.sIx_none, HT.sIx_nat, Nat.min_eq_left (by omega), List.drop_zero, Nat.sub_zero] at h4
    refine ⟨_, rfl, q4, c1, _, _, rfl, rfl, h4, s5 _ _ hc1, cc_le (n := 20000) (by rw [List.length_take, fl.1]; omega) (by omega), fun q5 H6 s6 h5 => ?_⟩
    refine ⟨_, rfl, q5, c2, _, _, rfl, rfl, h5, (s5.trans s6) _ _ hc2, cc_le (n := 30000) (by rw [List.length_append, List.length_take, fl.1, fl.2]; omega) (by omega), fun q6 H7 s7 h6 => ?_⟩
    have t7 := t4.trans (s5.trans (s6.trans s7))
    refine ⟨_, rfl, _, rfl, q2, _, rfl, (s34.trans (s5.trans (s6.trans s7))) _ _ h2, _, rfl, b, y, _, _, rfl, t7 _ _ hy, rfl, rfl, fun q8 H8 s8 h8 => ?_⟩
    rw [HT.sIx_none, HT.sIx_nat, Nat.min_eq_left (by omega), List.take_of_length_le (by rw [List.length_drop]; exact Nat.le_refl _)] at h8
    refine ⟨q6, q8, _, _, rfl, rfl, s8 _ _ h6, h8, cc_le (n := 50000) (by simp only [List.length_append, List.length_take, List.length_drop, fl.1, fl.2]; omega) (by omega), fun q9 H9 s9 h9 => kk q9 _ ((t7.trans s8).trans s9) ?_⟩
    unfold Bk.met
    rw [← List.append_assoc]
    exact h9
def pLSay (g : Gr) (n : Nat) : Pr := fun vs H Q => ∃ (q a sh : Addr) (B : Bk) (ps : List (Addr × R)) (ds : List Int) (i : Nat) (d : Int) (t : K73.T), vs = [.ref q, .ref a, .ref sh, .int (i : Nat), .int ((i + t.n : Nat) : Int)] ∧ LBr g H q B ∧ B.Ok ∧ WsAt H a ps ∧ WsOk B.s ps ∧ ps.length ≤ 40 ∧ SpAt H sh ds ∧ ds.length + 1 = ps.length ∧ IsT (fun k => ds.getD k 0) i d t ∧ i + t.n < ps.length ∧ t.n < n ∧
  ∀ p H', Same H H' → RowAt H' p (say B (wf ps) i t) → Q (.ref p) H'
theorem ok_lsay (T : Tx g) : ∀ n : Nat, n ≤ 41 → CalG g (n + 3) "_law_say" (pLSay g n)
  | 0, _ => by
    obtain ⟨fd, F⟩ := T.d__law_say
    exact ⟨_, fd, _, [], F.ok sc__law_say (fun vs H Q E h => by obtain ⟨_, _, _, _, _, _, _, _, _, rfl, _⟩ := h; rfl) (fun cdv A outer s H vs Q E hr h => by obtain ⟨_, _, _, _, _, _, _, _, _, _, _, _, _, _, _, _, _, _, _, z, _⟩ := h; exact absurd z (Nat.not_lt_zero _)), T.g__law_say, F.kp, F.bindsN (fun _ _ _ _ _ _ us hl => match us, hl with | [_, _, _, _, _], _ => rfl), .nil⟩
  | n + 1, h41 => by
    have c__law_say := ok_lsay T n (by omega)
    have c__law_met := ok_lmet T
    refine calD T.d__law_say T.g__law_say sc__law_say (fun _ _ _ _ _ _ us hl => match us, hl with | [_, _, _, _, _], _ => rfl) (fun vs H Q h => ?_) fun cdv A outer s0 H vs Q hr h => ?_
    · obtain ⟨q, a, sh, B, ps, ds, i, d, t, rfl, _⟩ := h; rfl
    · obtain ⟨q, a, sh, B, ps, ds, i, d, t, rfl, hb, o, hps, hw, l40, hsh, lds, ist, hin, htn, kk⟩ := h
      refine ⟨_, (pss_cons (ps_if (pt_cmpR op_eq (pv 3) (pv 4) (nomark _))
        (pss_one (ps_ret (pe_ix ix_tupM (pv 1) (pv 3) (fun _ _ => rfl))))
        pss_nil)
      (pss_cons (ps_set (i := 5) sc__law_say.nd rfl (by first | exact Or.inl rfl | exact Or.inr rfl) (pe_slice sl_tupF (pv 2) (po_some (pv 3)) (po_some (pv 4))))
      (pss_cons (ps_set (i := 6) sc__law_say.nd rfl (by first | exact Or.inl rfl | exact Or.inr rfl) (pe_op op_add (pv 3) (pe_bmF PySem.F.plainAttrs_tuple PySem.F.slot_tuple_index PySem.F.type_tuple_index (mt_tupIxF) (pv 5) (pa_cons (pe_callB (cr_minF rfl (by exact hr.units)) (by rfl) T.f_min (by decide +kernel) (pa_cons (pv 5) pa_nil)) pa_nil))))
      (pss_cons (ps_set (i := 7) sc__law_say.nd rfl (by first | exact Or.inl rfl | exact Or.inr rfl) (C8.pe_c c__law_say hr (by omega) (by rfl) (pa_cons (pv 0) (pa_cons (pv 1) (pa_cons (pv 2) (pa_cons (pv 3) (pa_cons (pv 6) pa_nil)))))))
      (pss_one (ps_ret (C8.pe_c c__law_met hr (by omega) (by rfl) (pa_cons (pv 0) (pa_cons (pv 7) (pa_cons (C8.pe_c c__law_say hr (by omega) (by rfl) (pa_cons (pv 0) (pa_cons (pv 1) (pa_cons (pv 2) (pa_cons (pe_op op_add (pv 6) pe_int) (pa_cons (pv 4) pa_nil)))))) pa_nil)))))))))), ?_⟩
      have long : ∀ (t : K73.T) (j : Nat), j + t.n < ps.length → (say B (wf ps) j t).length ≤ 9000 := fun t j hj => by
        rw [say_len o]
        have h1 := bgn_add (wf ps) j (t.n + 1)
        have h2 := bgn_le hw (j + (t.n + 1))
        omega
      cases t with
      | lf =>
        obtain ⟨p, hp⟩ : ∃ p, ps[i]? = some p := ⟨_, List.getElem?_eq_getElem (by have : (K73.T.lf).n = 0 := rfl; omega)⟩
        refine ⟨_, rfl, _, rfl, rfl, true, congrArg V.bl (decide_eq_true rfl), _, rfl, _, rfl, a, _, _, _, rfl, rfl, hps.1, atI_nat _ (by rw [List.getElem?_map, hp]; rfl), kk p.1 H (.refl H) ?_⟩
        show RowAt H p.1 (wf ps i)
        rw [wf_at hp]
        exact hps.2 p (List.mem_of_getElem? hp)
      | nd l r =>
        have tn : (K73.T.nd l r).n = l.n + r.n + 1 := rfl
        rw [tn] at hin htn
        obtain ⟨i1, i2, i3⟩ := id ist
        refine ⟨_, rfl, _, rfl, rfl, false, congrArg V.bl (decide_eq_false (fun z => by injection z with z; rw [tn] at z; omega)), ?_⟩
        refine ⟨_, rfl, _, rfl, _, rfl, _, rfl, _, rfl, sh, ds, _, _, rfl, hsh, rfl, rfl, fun p1 H1 s1 h1 => ?_⟩
        rw [HT.sIx_nat, HT.sIx_nat, Nat.min_eq_left (show i + (K73.T.nd l r).n ≤ ds.length by rw [tn]; omega), Nat.min_eq_left (show i ≤ ds.length by omega), show i + (K73.T.nd l r).n - i = l.n + r.n + 1 by rw [tn]; omega] at h1
        have at1 : ∀ j, j < l.n + r.n + 1 → ((ds.drop i).take (l.n + r.n + 1))[j]? = some (ds.getD (i + j) 0) := fun j hj => by
          rw [List.getElem?_take_of_lt hj, List.getElem?_drop, List.getD_eq_getElem?_getD, List.getElem?_eq_getElem (by omega)]; rfl
        have len1 : ((ds.drop i).take (l.n + r.n + 1)).length = l.n + r.n + 1 := by rw [List.length_take, List.length_drop]; omega
        generalize (ds.drop i).take (l.n + r.n + 1) = dl at h1 at1 len1
        have rt : dl[l.n]? = some d := by rw [at1 l.n (by omega)]; exact congrArg some i1
        have ge : ∀ y ∈ dl, d ≤ y := fun y hy => by
          obtain ⟨j, hj⟩ := List.mem_iff_getElem?.mp hy
          have hj2 := (List.getElem?_eq_some_iff.mp hj).1
          rw [len1] at hj2
          rw [at1 j hj2] at hj
          cases hj
          exact isT_ge ist (i + j) (by omega) (by rw [tn]; omega)
        refine ⟨_, rfl, _, rfl, ⟨p1, _, rfl, h1⟩, _, rfl, p1, dl, rfl, h1, by omega, fun m hm hle => ?_⟩
        have em : m = d := by
          have := ge m hm
          have := hle d (List.mem_of_getElem? rt)
          omega
        subst em
        refine ⟨p1, dl, m, l.n, rfl, rfl, h1, rt, fun j hj hc => ?_, _, _, rfl, rfl, ?_⟩
        · rw [at1 j (by omega)] at hc
          have hc : ds.getD (i + j) 0 = m := Option.some.inj hc
          have q : m + 1 ≤ ds.getD (i + j) 0 := isT_ge i2 (i + j) (by omega) (by omega)
          omega
        have hb1 := hb.same s1
        have hps1 := hps.same s1
        have hsh1 := hsh.same s1
        refine ⟨_, rfl, _, rfl, _, rfl, _, rfl, _, rfl, q, a, sh, B, ps, ds, i, m + 1, l, rfl, hb1, o, hps1, hw, l40, hsh1, lds, i2, by omega, by omega, fun p2 H2 s2 h2 => ?_⟩
        refine ⟨_, rfl, _, rfl, _, rfl, _, rfl, _, rfl, _, rfl, _, _, rfl, rfl, _, rfl, q, a, sh, B, ps, ds, i + l.n + 1, m + 1, r, ?_, hb1.same s2, o, hps1.same s2, hw, l40, hsh1.same s2, lds, i3, by omega, by omega, fun p3 H3 s3 h3 => ?_⟩
        · have e1 : ((i + (K73.T.nd l r).n : Nat) : Int) = ((i + l.n + 1 + r.n : Nat) : Int) := by rw [tn]; omega
          rw [e1]
          rfl
        · refine ⟨q, p2, p3, B, _, _, rfl, (hb1.same s2).same s3, o, s3 _ _ h2, h3, long l i (by omega), long r _ (by omega), fun p4 H4 s4 h4 => kk p4 _ (((s1.trans s2).trans s3).trans s4) h4⟩
end
end K73
end

section
set_option linter.all false
set_option maxRecDepth 100000
set_option maxHeartbeats 8000000
/-! the case, a phrase, what is said alike -/
namespace K73
open PySem PySem.Spec PyProof.Rows L2 NdefX LamX
theorem pe_c0 {X : Cx} {k j : Nat} {x : Str} {sp : Sp} {dvs : List V} {p pos : Pos} (c : C8.Cal X.prog X.w X.K X.mg X.base k x sp dvs) (hr : Room j X.A) (hk : k ≤ j) (hg : Gl X x) (hdb : (x == ("__debug__" : Str)) = false := by decide) : PE X (.Call (.Name x p) [] [] pos) (tCall sp dvs C8.E0 tNil) := by
  obtain ⟨f, fd, ps, ds, F, hm, kp, b, d⟩ := c.ex
  exact pe_call0 F (hr.mono hk) hg hm kp b d C8.pass0 hdb
section
variable {g : Gr}
def pCase (g : Gr) : Pr := fun vs H Q => ∃ (d z : Addr) (zs : List (Addr × Sz)), vs = [.ref d, .int 3, .ref z] ∧ DiceAt H d ∧ SzAt H z zs ∧ zs.map (·.2) = great ∧
  ∀ r H' q a B dt es ps, Same H H' → H' r = some (.tup [.ref q, .ref a]) → LBk g H' q B dt es → B.Ok → (B.s, B.a, B.b) ∈ small ++ great → WsAt H' a ps → WsOk B.s ps → 1 ≤ ps.length → ps.length ≤ 12 → Q (.ref r) H'
theorem LBk.same {H H' : Hp} {q dt : Addr} {B : Bk} {es : Es (R × R)} (h : LBk g H q B dt es) (s : Same H H') : LBk g H' q B dt es := ⟨s _ _ h.1, h.2.same s⟩
theorem sz_all {zs : List (Addr × Sz)} {l : List Sz} (h : zs.map (·.2) = l) (k : ∀ z ∈ l, z ∈ small ++ great) : ∀ x ∈ zs, SzOk x.2 := fun x hx => sz_ok _ (k _ (by rw [← h]; exact List.mem_map.mpr ⟨x, hx, rfl⟩))
theorem WsOk.mono {s : Nat} {ps qs : List (Addr × R)} (h : WsOk s ps) (k : WsOk s qs) : WsOk s (ps ++ qs) := fun p hp => (List.mem_append.mp hp).elim (h p) (k p)
theorem WsAt.app {H : Hp} {a : Addr} {ps qs : List (Addr × R)} (e : H a = some (.tup ((ps.map fun p => V.ref p.1) ++ qs.map fun p => V.ref p.1))) (h : ∀ p ∈ ps, RowAt H p.1 p.2) (k : ∀ p ∈ qs, RowAt H p.1 p.2) : WsAt H a (ps ++ qs) := ⟨by rw [List.map_append]; exact e, fun p hp => (List.mem_append.mp hp).elim (h p) (k p)⟩
theorem ok_case (T : Tx g) : CalG g 4 "_law_case" (pCase g) := by
  have c__law_draw := ok_draw T
  have c__law_book := ok_bookD T
  have c__law_small_sizes := ok_small T
  have c__law_few_words := ok_few T
  have c__law_row := ok_rowD T
  refine calD T.d__law_case T.g__law_case sc__law_case (fun _ _ _ _ _ _ us hl => match us, hl with | [_, _, _], _ => rfl) (fun vs H Q h => ?_) fun cdv A outer s0 H vs Q hr h => ?_
  · obtain ⟨d, z, zs, rfl, _⟩ := h; rfl
  · obtain ⟨d, z, zs, rfl, hd, hz, ez, kk⟩ := h
    refine ⟨_, (pss_cons (ps_if (pt_cmpR op_gt (C8.pe_c c__law_draw hr (by omega) (by rfl) (pa_cons (pv 0) (pa_cons pe_int pa_nil))) pe_int (nomark _))
        (pss_cons (ps_set (i := 3) sc__law_case.nd rfl (by first | exact Or.inl rfl | exact Or.inr rfl) (C8.pe_c c__law_book hr (by omega) (by rfl) (pa_cons (pv 0) (pa_cons (pe_c0 c__law_small_sizes hr (by omega) (by rfl)) pa_nil))))
        (pss_one (ps_ret (pe_tupM (pa_cons (pv 3) (pa_cons (C8.pe_c c__law_few_words hr (by omega) (by rfl) (pa_cons (pv 0) (pa_cons (pv 3) (pa_cons (pe_op op_add pe_int (C8.pe_c c__law_draw hr (by omega) (by rfl) (pa_cons (pv 0) (pa_cons (pv 1) pa_nil)))) (pa_cons pe_int pa_nil))))) pa_nil))))))
        pss_nil)
      (pss_cons (ps_set (i := 3) sc__law_case.nd rfl (by first | exact Or.inl rfl | exact Or.inr rfl) (C8.pe_c c__law_book hr (by omega) (by rfl) (pa_cons (pv 0) (pa_cons (pv 2) pa_nil))))
      (pss_cons (ps_set (i := 4) sc__law_case.nd rfl (by first | exact Or.inl rfl | exact Or.inr rfl) (C8.pe_c c__law_few_words hr (by omega) (by rfl) (pa_cons (pv 0) (pa_cons (pv 3) (pa_cons (pe_op op_add pe_int (C8.pe_c c__law_draw hr (by omega) (by rfl) (pa_cons (pv 0) (pa_cons pe_int pa_nil)))) (pa_cons pe_int pa_nil))))))
      (pss_one (ps_ret (pe_tupM (pa_cons (pv 3) (pa_cons (pe_op op_catM (pv 4) (pe_tupM (pa_cons (C8.pe_c c__law_row hr (by omega) (by rfl) (pa_cons (pv 0) (pa_cons (pe_ix ix_tupM (pv 3) pe_int (fun _ _ => rfl)) (pa_cons pe_int pa_nil)))) pa_nil))) pa_nil)))))))), ?_⟩
    have lz : zs.length = 2 := by rw [← List.length_map (·.2), ez]; rfl
    refine ⟨_, rfl, d, 40, rfl, hd, by omega, by omega, fun w H1 s1 hw => ⟨_, _, rfl, rfl, _, rfl, ?_⟩⟩
    by_cases wp : (0 : Int) < (w : Int)
    · refine ifT (decide_eq_true wp) ?_
      refine ⟨_, rfl, rfl, fun z2 H2 zs2 s2 hz2 ez2 => ?_⟩
      have t2 := s1.trans s2
      have lz2 : zs2.length = 7 := by rw [← List.length_map (·.2), ez2]; rfl
      refine ⟨d, z2, zs2, rfl, hd.same t2, hz2, by omega, by omega, sz_all ez2 (fun z hz => List.mem_append_left _ hz), fun q H3 B dt es s3 hb o hsz => ?_⟩
      have t3 := t2.trans s3
      refine ⟨_, rfl, _, rfl, _, rfl, _, rfl, _, rfl, d, 3, rfl, hd.same t3, by omega, by omega, fun v H4 s4 hv => ⟨_, _, rfl, rfl, ?_⟩⟩
      have t4 := t3.trans s4
      have hb4 := hb.same s4
      refine ⟨d, q, B.s, 1 + v, 3, _, _, _, rfl, hd.same t4, hb4.1, o.s1, o.s8, by omega, by omega, by omega, fun a H5 ps s5 ha hw hl => ?_⟩
      refine ⟨two_le, fun r H6 s6 _ h6 => kk r H6 q a B dt es ps ((t4.trans s5).trans s6) h6 ((hb4.same s5).same s6) o (by rw [ez2] at hsz; exact List.mem_append_left _ hsz) (ha.same s6) hw (by omega) (by omega)⟩
    · refine ifF (decide_eq_false wp) ?_
      refine ⟨_, rfl, _, rfl, d, z, zs, rfl, hd.same s1, hz.same s1, by omega, by omega, sz_all ez (fun z hz => List.mem_append_right _ hz), fun q H3 B dt es s3 hb o hsz => ?_⟩
      have t3 := s1.trans s3
      refine ⟨_, rfl, _, rfl, _, rfl, d, 8, rfl, hd.same t3, by omega, by omega, fun v H4 s4 hv => ⟨_, _, rfl, rfl, ?_⟩⟩
      have t4 := t3.trans s4
      have hb4 := hb.same s4
      refine ⟨d, q, B.s, 4 + v, 9, _, _, _, rfl, hd.same t4, hb4.1, o.s1, o.s8, by omega, by omega, by omega, fun a H5 ps s5 ha hw hl => ?_⟩
      have t5 := t4.trans s5
      have hb5 := hb4.same s5
      refine ⟨_, rfl, _, rfl, _, rfl, _, rfl, q, _, _, _, rfl, rfl, hb5.1, rfl, d, B.s, 200, rfl, hd.same t5, o.s1, o.s8, by omega, by omega, fun p H6 rw6 s6 h6 hw6 l6 l6' => ?_⟩
      refine ⟨cc_le (n := 1) (Nat.le_refl _) (by omega), fun t H7 s7 _ h7 => ?_⟩
      have ha7 := (ha.same s6).same s7
      refine ⟨a, t, _, _, rfl, rfl, ha7.1, h7, cc_le (n := 100) (by rw [List.length_map, List.length_singleton]; omega) (by omega), fun a8 H8 s8 h8 => ?_⟩
      refine ⟨two_le, fun r H9 s9 _ h9 => ?_⟩
      have s89 := s8.trans s9
      refine kk r H9 q a8 B dt es (ps ++ [(p, rw6)]) ((((t5.trans s6).trans s7).trans s8).trans s9) h9 (hb5.same ((s6.trans s7).trans s89)) o (by rw [ez] at hsz; exact List.mem_append_right _ hsz) (WsAt.app (s9 _ _ h8) (fun x hx => s89 _ _ (ha7.2 x hx)) fun x hx => ?_) (hw.mono fun x hx => ?_) (by rw [List.length_append]; omega) (by rw [List.length_append, List.length_singleton]; omega)
      · rw [List.mem_singleton.mp hx]
        exact (s7.trans s89) _ _ h6
      · rw [List.mem_singleton.mp hx]
        exact ⟨hw6, l6, l6'⟩
theorem ok_lphrase (T : Tx g) : CalG g 45 "_law_phrase" (pPhraseFor g) := by
  have c_phrase_for := ok_phrase_for T
  refine calD T.d__law_phrase T.g__law_phrase sc__law_phrase (fun _ _ _ _ _ _ us hl => match us, hl with | [_, _, _], _ => rfl) (fun vs H Q h => ?_) fun cdv A outer s0 H vs Q hr h => ?_
  · obtain ⟨rb, a, th, B, ps, p, rfl, _⟩ := h; rfl
  · obtain ⟨rb, a, th, B, ps, p, rfl, hb, o, few, hps, hw, h1, h12, hth, su, kk⟩ := h
    exact ⟨_, (pss_cons (ps_set (i := 3) sc__law_phrase.nd rfl (by first | exact Or.inl rfl | exact Or.inr rfl) pe_non)
      (pss_cons (ps_try_thru0 (pss_one (ps_set (i := 3) sc__law_phrase.nd rfl (by first | exact Or.inl rfl | exact Or.inr rfl) (C8.pe_c c_phrase_for hr (by omega) (by rfl) (pa_cons (pv 0) (pa_cons (pv 1) (pa_cons (pv 2) pa_nil)))))))
      (pss_one (ps_ret (pv 3))))), _, rfl, _, rfl, _, rfl, rb, a, th, B, ps, p, rfl, hb, o, few, hps, hw, h1, h12, hth, su, fun H' r qs t s hr ph n40 => ⟨_, rfl, kk H' r qs t s hr ph n40⟩⟩
def pAlike (g : Gr) : Pr := fun vs H Q => ∃ (d q rb a : Addr) (B : Bk) (ps : List (Addr × R)), vs = [.ref d, .ref q, .ref rb, .ref a] ∧ DiceAt H d ∧ LBr g H q B ∧ BookAt g H rb B ∧ B.Ok ∧ WsAt H a ps ∧ WsOk B.s ps ∧ 1 ≤ ps.length ∧ ps.length ≤ 12 ∧
  (∀ x y z, Said B (fun r => r ∈ ps.map (·.2)) x → Said B (fun r => r ∈ ps.map (·.2)) y → Said B (fun r => r ∈ ps.map (·.2)) z → As B x y z) ∧ ∀ H', Same H H' → Q (.bl true) H'
theorem ok_alike (T : Tx g) : CalG g 45 "_law_alike" (pAlike g) := by
  have c__law_draw := ok_draw T
  have c__law_drawn_shape := ok_shapeD T
  have c__law_say := ok_lsay T 41 (Nat.le_refl _)
  have c_said := ok_said T
  refine calD T.d__law_alike T.g__law_alike sc__law_alike (fun _ _ _ _ _ _ us hl => match us, hl with | [_, _, _, _], _ => rfl) (fun vs H Q h => ?_) fun cdv A outer s0 H vs Q hr h => ?_
  · obtain ⟨d, q, rb, a, B, ps, rfl, _⟩ := h; rfl
  · obtain ⟨d, q, rb, a, B, ps, rfl, hd, hq, hb, o, hps, hw, l1, l12, as, kk⟩ := h
    refine ⟨_, (pss_cons (ps_forM PassesOwn.never rfl (pi_rangeM1 (by rfl) T.f_range (pa_cons pe_int pa_nil)) (pg_name (i := 4) sc__law_alike.nd rfl (by first | exact Or.inl rfl | exact Or.inr rfl))
        (pss_cons (ps_set (i := 5) sc__law_alike.nd rfl (by first | exact Or.inl rfl | exact Or.inr rfl) (pe_op op_add pe_int (C8.pe_c c__law_draw hr (by omega) (by rfl) (pa_cons (pv 0) (pa_cons pe_int pa_nil)))))
        (pss_cons (ps_set (i := 6) sc__law_alike.nd rfl (by first | exact Or.inl rfl | exact Or.inr rfl) (pe_callTy call_tupM (by rfl) T.f_tuple (by decide +kernel) (pa_cons (pe_lcM (own := [("_law_k", 9)]) (g := gName 9) (tt := tYes) (by rfl) sc__law_alike.nd (pi_rangeM1 (by rfl) T.f_range (pa_cons (pv 5) pa_nil)) (blkOk_by (own := [("_law_k", 9)]) (N := ["_law_dice_here", "_law_book_here", "_law_made_here", "_law_words", "_law_turn", "_law_many", "_law_phrase_here", "_law_due", "_law_again", "_law_k"]) (sc := defScope st__law_alike) (by decide +kernel)) (fun _ _ _ _ _ => pg_name (i := 9) sc__law_alike.nd rfl (Or.inl rfl)) (fun _ _ _ _ _ => pts_nil) (fun _ _ _ _ _ => (pe_ix ix_tupM (pv 3) (C8.pe_c c__law_draw hr (by omega) (by rfl) (pa_cons (pv 0) (pa_cons (pe_callB call_lenT (by rfl) T.f_len (by decide +kernel) (pa_cons (pv 3) pa_nil)) pa_nil))) (fun _ _ => rfl)))) pa_nil)))
        (pss_cons (ps_set (i := 7) sc__law_alike.nd rfl (by first | exact Or.inl rfl | exact Or.inr rfl) (C8.pe_c c__law_say hr (by omega) (by rfl) (pa_cons (pv 1) (pa_cons (pv 6) (pa_cons (C8.pe_c c__law_drawn_shape hr (by omega) (by rfl) (pa_cons (pv 0) (pa_cons (pv 5) pa_nil))) (pa_cons pe_int (pa_cons (pe_op op_sub (pv 5) pe_int) pa_nil)))))))
        (pss_one (ps_forM PassesOwn.never rfl (pi_rangeM1 (by rfl) T.f_range (pa_cons pe_int pa_nil)) (pg_name (i := 8) sc__law_alike.nd rfl (by first | exact Or.inl rfl | exact Or.inr rfl))
          (pss_one (ps_if (pt_cmpR (op_neR (by exact hr.units)) (C8.pe_c c_said hr (by omega) (by rfl) (pa_cons (pv 2) (pa_cons (pv 6) (pa_cons (C8.pe_c c__law_drawn_shape hr (by omega) (by rfl) (pa_cons (pv 0) (pa_cons (pv 5) pa_nil))) pa_nil)))) (pv 7) (nomark _))
            (pss_one (ps_ret pe_bl))
            pss_nil))))))))
      (pss_one (ps_ret pe_bl))), ?_⟩
    have lps : (ps.map fun p => V.ref p.1).length = ps.length := List.length_map _
    refine ⟨3, rfl, by omega, ?_⟩
    refine for_wk (wk_rng (R := fun _ => True)) (fun i σ H' => ∃ y4 y5 y6 y7 y8 y9, σ = [some (.ref d), some (.ref q), some (.ref rb), some (.ref a), y4, y5, y6, y7, y8, y9] ∧ Same H H') (fun _ _ _ _ => trivial) ⟨_, _, _, _, _, _, rfl, .refl _⟩ ?_ ?_
    · rintro σ H' ⟨y4, y5, y6, y7, y8, y9, rfl, S⟩
      exact kk H' S
    · rintro i y σ H1 H2 hi ⟨y4, y5, y6, y7, y8, y9, rfl, S1⟩ s2 rfl
      have S2 := S1.trans s2
      refine ⟨_, rfl, d, 9, rfl, hd.same S2, by omega, by omega, fun v H3 s3 hv => ⟨_, _, rfl, rfl, ?_⟩⟩
      have S3 := S2.trans s3
      refine ⟨_, rfl, 1 + v, rfl, by omega, ?_⟩
      refine lc_wk (wk_rng (R := Same H3)) (fun j acc H' => ∃ qs : List (Addr × R), acc = qs.map (fun p => V.ref p.1) ∧ (∀ p ∈ qs, p ∈ ps ∧ RowAt H' p.1 p.2) ∧ qs.length = j) (fun j acc Ha Hb t ⟨qs, z1, z2, z3⟩ => ⟨qs, z1, fun p hp => ⟨(z2 p hp).1, t _ _ (z2 p hp).2⟩, z3⟩) (fun j acc _ hj ⟨qs, e1, _, e3⟩ => ?_) (fun _ _ => ⟨[], rfl, (fun _ h => nomatch h), rfl⟩) (fun C j x acc H' hj s' hx ⟨qs, e1, e2, e3⟩ yes no => ?_) fun D ys H4 s4 hD hys ⟨qs, e1, e2, e3⟩ => ?_
      · rw [e1, List.length_map, e3]
        exact cc_lt (n := 12) (by omega) (by omega)
      · have ha' := (hps.same S3).same s'
        refine ⟨rfl, _, rfl, _, rfl, _, rfl, a, _, rfl, ha'.1, d, ps.length, (by rw [lps]; rfl), hd.same (S3.trans s'), l1, by omega, fun u Hb sb hu => ?_⟩
        obtain ⟨p, hp⟩ : ∃ p, ps[u]? = some p := ⟨_, List.getElem?_eq_getElem hu⟩
        refine ⟨a, _, _, _, rfl, rfl, (ha'.same sb).1, atI_nat _ (by rw [List.getElem?_map, hp]; rfl), yes _ _ sb ⟨qs ++ [p], by rw [e1, List.map_append]; rfl, fun x hx => ?_, by rw [List.length_append, e3]; rfl⟩⟩
        rcases List.mem_append.mp hx with hx | hx
        · exact ⟨(e2 x hx).1, sb _ _ (e2 x hx).2⟩
        · rw [List.mem_singleton.mp hx]
          have hm := List.mem_of_getElem? hp
          exact ⟨hm, (ha'.same sb).2 p hm⟩
      · subst e1
        refine ⟨_, _, rfl, hys, fun pa H5 s5 h5 => ?_⟩
        have S5 := S3.trans (s4.trans s5)
        have hqs : WsAt H5 pa qs := ⟨h5, fun x hx => s5 _ _ (e2 x hx).2⟩
        have wqs : WsOk B.s qs := fun x hx => hw x (e2 x hx).1
        have cast : (1 : Int) + (v : Nat) = ((v + 1 : Nat) : Int) := by omega
        refine ⟨_, rfl, _, rfl, _, rfl, _, rfl, d, v, (by show [V.ref d, V.int ((1 : Int) + (v : Nat))] = _; rw [cast]), hd.same S5, by omega, fun sh H6 t s6 ht hsh => ?_⟩
        have S6 := S5.trans s6
        have dl : (t.dep 0).length = v := by rw [K73.T.dep_len, ht]
        refine ⟨_, rfl, _, _, rfl, rfl, ?_⟩
        refine ⟨q, pa, sh, B, qs, t.dep 0, 0, 0, t, ?_, hq.same S6, o, hqs.same s6, wqs, by omega, hsh, by rw [dl]; omega, isT_dep t 0, by omega, by omega, fun du H7 s7 h7 => ?_⟩
        · have e : ((1 : Int) + (v : Nat)) - 1 = ((0 + t.n : Nat) : Int) := by omega
          show [V.ref q, V.ref pa, V.ref sh, V.int 0, V.int (((1 : Int) + (v : Nat)) - 1)] = _
          rw [e]
          rfl
        · have S7 := S6.trans s7
          have hqs7 := (hqs.same s6).same s7
          refine ⟨3, rfl, by omega, ?_⟩
          refine for_wk (wk_rng (R := fun _ => True)) (fun i2 σ H' => ∃ y8 y9, σ = [some (.ref d), some (.ref q), some (.ref rb), some (.ref a), some (.int (0 + (i : Nat))), some (.int (1 + (v : Nat))), some (.ref pa), some (.ref du), y8, y9] ∧ Same H7 H') (fun _ _ _ _ => trivial) ⟨_, _, rfl, .refl _⟩ ?_ ?_
          · rintro σ H' ⟨y8, y9, rfl, S⟩
            exact ⟨_, _, _, _, _, _, rfl, S7.trans S⟩
          · rintro i2 y σ H8 H9 hi2 ⟨y8, y9, rfl, S8⟩ s9 rfl
            have S9 := S7.trans (S8.trans s9)
            refine ⟨_, rfl, _, rfl, _, rfl, _, rfl, d, v, (by show [V.ref d, V.int ((1 : Int) + (v : Nat))] = _; rw [cast]), hd.same S9, by omega, fun sh2 Ha u sa hu hsh2 => ?_⟩
            have Sa := S9.trans sa
            refine ⟨rb, pa, sh2, B, qs, u, rfl, hb.same Sa, o, hqs7.same ((S8.trans s9).trans sa), wqs, hsh2, by omega, by omega, fun r Hb sb hr2 => ?_⟩
            have same : say B (wf qs) 0 u = say B (wf qs) 0 t := by
              refine say_alike (P := fun r => r ∈ ps.map (·.2)) as (by rw [hu, ht]) fun k hk => ?_
              obtain ⟨x, hx⟩ : ∃ x, qs[k]? = some x := ⟨_, List.getElem?_eq_getElem (by omega)⟩
              rw [wf_at hx]
              exact List.mem_map.mpr ⟨x, (e2 x (List.mem_of_getElem? hx)).1, rfl⟩
            refine ⟨_, rfl, r, du, _, _, rfl, rfl, hr2, (((S8.trans s9).trans sa).trans sb) _ _ h7, _, rfl, ifF (by rw [decide_eq_true same]; rfl) ⟨_, _, rfl, ((S8.trans s9).trans sa).trans sb⟩⟩
end
end K73
end

section
set_option linter.all false
set_option maxRecDepth 100000
set_option maxHeartbeats 16000000
/-! the law -/
namespace K73
open PySem PySem.Spec PyProof.Rows L2 NdefX LamX
theorem DiceAt.ext {H H' : Hp} {d : Addr} (h : DiceAt H d) (s : ExtN H H') : DiceAt H' d := let ⟨c, ns, h1, h2, h3, h4⟩ := h; ⟨c, ns, s _ _ h1 (fun _ z => by unfold DiceO at z; cases z), s _ _ h2 (fun _ z => nomatch z), h3, h4⟩
/-- all but lists are as they were -/
def Nk (H H' : Hp) : Prop := ∀ b o, H b = some o → (∀ l, o ≠ .lst l) → H' b = some o
theorem _root_.L2.Same.nk {H H' : Hp} (s : Same H H') : Nk H H' := fun b o h _ => s b o h
theorem nk_lst {H : Hp} {d : Addr} {l : List V} {o : HO} (h : H d = some (.lst l)) : Nk H (upd H d o) := fun b u e n => by
  rw [upd_ne (fun z => by rw [z, h] at e; cases e; exact n _ rfl)]; exact e
theorem lc_wkN {H : Hp} {Q : VK} {J : It} {n : Nat} {I : Nat → V → Hp → Prop} (wk : Wk J (Same H) n I) {g : TG} {tt : TT} {te : TE} {vs : List Nat} {σ : L2.St} (A : Nat → List V → Hp → Prop) (am : ∀ i acc H1 H2, Nk H1 H2 → A i acc H1 → A i acc H2) (al : ∀ i acc H, i < n → A i acc H → acc.length < sizeLine) (a0 : ∀ H', Same H H' → A 0 [] H')
    (step : ∀ (C : Option V → Hp → Prop) i x acc H', i < n → Same H H' → I i x H' → A i acc H' → (∀ y H4, Same H' H4 → A (i + 1) (acc ++ [y]) H4 → C (some y) H4) → (∀ H3, Same H' H3 → A (i + 1) acc H3 → C none H3) →
      g x (wipe σ vs) H' fun σ2 H2 => wipe σ2 vs = wipe σ vs ∧ tt σ2 H2 fun b H3 => if b = true then te σ2 H3 fun y H4 => C (some y) H4 else C none H3)
    (fin : ∀ D ys H', Same H H' → H D = none → H' D = some (.lst ys) → A n ys H' → Q (.ref D) H') : LcR J H g tt te vs σ Q := by
  intro D hD
  refine ⟨fun i m H' => i + m = n ∧ Same H H' ∧ ∃ acc, H' D = some (.lst acc) ∧ A i acc H', ⟨n, Nat.zero_add n, same_new hD, [], upd_same, a0 _ (same_new hD)⟩, fun i m H' w => ?_⟩
  obtain ⟨e, s, acc, hA, w⟩ := w
  by_cases c : i < n
  · refine .inr ⟨wk.go i H' c s, fun H2 => Same H H2 ∧ ∃ acc, H2 D = some (.lst acc) ∧ A (i + 1) acc H2, fun H2 h => ⟨m - 1, by omega, by omega, h⟩, fun x H2 y => ?_⟩
    obtain ⟨s2, q⟩ := wk.yld i H' x H2 c s y
    refine step (fun r H4 => match r with
      | some y => ∃ acc, H4 D = some (.lst acc) ∧ acc.length < sizeLine ∧ (Same H (upd H4 D (.lst (acc ++ [y]))) ∧ ∃ acc', (upd H4 D (.lst (acc ++ [y]))) D = some (.lst acc') ∧ A (i + 1) acc' (upd H4 D (.lst (acc ++ [y]))))
      | none => Same H H4 ∧ ∃ acc, H4 D = some (.lst acc) ∧ A (i + 1) acc H4) i x acc H2 c (s.trans s2) q (am _ _ _ _ s2.nk w) (fun y H4 s4 q4 => ?_) fun H3 s3 q3 => ?_
    · have hD4 := s4 _ _ (s2 _ _ hA)
      exact ⟨acc, hD4, al i acc _ c w, same_put ((s.trans s2).trans s4) hD, _, upd_same, am _ _ _ _ (nk_lst hD4) q4⟩
    · exact ⟨(s.trans s2).trans s3, acc, s3 _ _ (s2 _ _ hA), q3⟩
  · have : i = n := by omega
    subst this
    exact .inl ⟨wk.stop H' s, fin D acc H' s hD hA w⟩
/-- a phrase told -/
structure Pd where
  r : Addr
  ps : List (Addr × R)
  t : K73.T
def PdAt (H : Hp) (x : Pd) : Prop := PhrAt H x.r x.ps x.t
theorem PdAt.nk {H H' : Hp} {x : Pd} (h : PdAt H x) (s : Nk H H') : PdAt H' x := by
  obtain ⟨a, b, h1, h2, o, h3, h4⟩ := h
  have tk : Tk H H' := fun b xs e => s b _ e (fun _ z => nomatch z)
  exact ⟨a, b, tk _ _ h1, h2.tk tk, o, s _ _ h3 (fun _ z => nomatch z), h4⟩
def PhsI (B : Bk) (W : R → Prop) (l : List (R × R)) (i : Nat) (acc : List V) (H' : Hp) : Prop := ∃ xs : List Pd, acc = xs.map (fun x => V.ref x.r) ∧ xs.length = i ∧ (∀ x ∈ xs, PdAt H' x ∧ x.t.n + 1 ≤ 40) ∧ ∀ (j : Nat) (x : Pd) (pj : R × R), xs[j]? = some x → l[j]? = some pj → Ph B W pj (x.ps.map (·.2)) x.t
def pdD (x : Pd) : PyData := .tuple [.tuple (x.ps.map fun p => rowDt p.2), rowDt (x.t.dep 0)]
theorem dp_rows {K : PySem.W.Frag} {H : Hp} : ∀ {ps : List (Addr × R)}, (∀ p ∈ ps, RowAt H p.1 p.2) → DpAll K H (ps.map fun p => V.ref p.1) (ps.map fun p => rowDt p.2)
  | [], _ => .nil
  | e :: es, h => .cons (dp_row (h e List.mem_cons_self)) (dp_rows fun x hx => h x (List.mem_cons_of_mem _ hx))
theorem dp_pd {K : PySem.W.Frag} {H : Hp} {x : Pd} (h : PdAt H x) : Dp K H (.ref x.r) (pdD x) := by
  obtain ⟨a, b, h1, h2, h3⟩ := h
  exact .tup (.inl (.inl h1)) (.cons (.tup (.inl (.inl h2.1)) (dp_rows h2.2)) (.cons (.tup (sqF h3) (dp_ints _)) .nil))
theorem dp_pds {K : PySem.W.Frag} {H : Hp} : ∀ {xs : List Pd}, (∀ x ∈ xs, PdAt H x) → DpAll K H (xs.map fun x => V.ref x.r) (xs.map pdD)
  | [], _ => .nil
  | e :: es, h => .cons (dp_pd (h e List.mem_cons_self)) (dp_pds fun x hx => h x (List.mem_cons_of_mem _ hx))
theorem rows_lay : ∀ l : List (Addr × R), PyData.canLayAll0 (l.map fun p => rowDt p.2) = true
  | [] => by simp [PyData.canLayAll0]
  | x :: r => by simp [PyData.canLayAll0, row_lay, rows_lay r]
theorem rows_depth : ∀ l : List (Addr × R), PyData.depthAll (l.map fun p => rowDt p.2) ≤ 1
  | [] => by simp [PyData.depthAll]
  | x :: r => by
    have := rows_depth r
    rw [List.map_cons, PyData.depthAll, row_depth]; omega
theorem pd_lay (x : Pd) : (pdD x).canLay0 = true := by simp [pdD, PyData.canLay0, PyData.canLayAll0, row_lay, rows_lay]
theorem pd_depth (x : Pd) : (pdD x).depth ≤ 3 := by
  have := rows_depth x.ps
  simp only [pdD, PyData.depth, PyData.depthAll, row_depth]
  omega
theorem pds_lay : ∀ l : List Pd, PyData.canLayAll0 (l.map pdD) = true
  | [] => by simp [PyData.canLayAll0]
  | x :: r => by simp [PyData.canLayAll0, pd_lay, pds_lay r]
theorem pds_depth : ∀ l : List Pd, PyData.depthAll (l.map pdD) ≤ 3
  | [] => by simp [PyData.depthAll]
  | x :: r => by
    have := pds_depth r
    have := pd_depth x
    rw [List.map_cons, PyData.depthAll]; omega
theorem pds_shaped (l : List Pd) : SeqAt.shaped (.list (l.map pdD)) = true := by
  have h2 : PyData.depth (.list (l.map pdD)) ≤ 64 := by
    have := pds_depth l
    rw [PyData.depth]; omega
  show (PyData.canLay0 (.list (l.map pdD)) && decide (PyData.depth (.list (l.map pdD)) ≤ 64)) = true
  rw [decide_eq_true h2, PyData.canLay0, pds_lay]; rfl
theorem no_none (l : List Pd) : ((l.map pdD).any fun z => PyData.eqv z .none) = false := by
  rw [List.any_map]
  refine List.any_eq_false.mpr fun x _ => ?_
  simp [pdD, PyData.eqv]
def nilD : PyData := .tuple [.tuple [], .tuple []]
theorem no_nil (l : List Pd) (h : ∀ x ∈ l, x.ps ≠ []) : ((l.map pdD).any fun z => PyData.eqv z nilD) = false := by
  rw [List.any_map]
  refine List.any_eq_false.mpr fun x hx => ?_
  obtain ⟨p, ps, e⟩ := List.exists_cons_of_ne_nil (h x hx)
  simp [pdD, nilD, PyData.eqv, PyData.eqvAll, e]
section
variable {g : Gr}
theorem LBr.ext {H H' : Hp} {q : Addr} {B : Bk} (h : LBr g H q B) (s : ExtN H H') : LBr g H' q B := by
  have tk := ext_tk s
  obtain ⟨dt, h1, kvs, ⟨es, h2, h3, h4⟩, h5⟩ := h
  refine ⟨dt, tk _ _ h1, kvs, ⟨es, ?_, h3, fun e he => (h4 e he).tk tk⟩, fun k => ?_⟩
  · rcases h2 with h2 | ⟨o, h2⟩
    · exact .inl (s _ _ h2 (fun _ z => nomatch z))
    · exact .inr ⟨o, s _ _ h2 (fun _ z => nomatch z)⟩
  · have q := h5 k
    cases e : valV kvs k with
    | some v =>
      rw [e] at q
      obtain ⟨b, e1, e2⟩ := q
      exact ⟨b, e1, e2.tk tk⟩
    | none =>
      rw [e] at q
      exact q
def pLaw (g : Gr) (P : Addr) : Pr := fun vs H Q => ∃ (a : Addr) (ns : List Int), vs = [.ref a] ∧ SqL g.K H a (ns.map V.int) ∧ H P = some (.tbl #[]) ∧ ∀ H', Q (.bl true) H'
theorem ok_law (T : Tx g) {P : Addr} (tb : TabB g.base g.mg (He.cT g.K ("three_of", none)).1 P) (few : ∀ B : Bk, B.Ok → (B.s, B.a, B.b) ∈ small ++ great → Few B) {fd : FuncData} (F : FunD g.K "law" "law" (defArgs st_law) (defBody st_law) (defScope st_law) [] [] (He.ga g.K "law") fd) :
    FnOk g.P g.w g.K g.mg g.base CX0 46 (He.ga g.K "law") fd ["_law_script"] (pLaw g P).sp := by
  have c__law_dice := ok_dice T
  have c__law_case := ok_case T
  have c__law_made := ok_made T
  have c_ever_matters := ok_ever_matters T tb
  have c__law_alike := ok_alike T
  have c__law_phrase := ok_lphrase T
  have c_joined_shape := ok_joined_shape T
  have c_said := ok_said T
  have c__law_say := ok_lsay T 41 (Nat.le_refl _)
  refine keeps_fn F sc_law (fun vs H Q h => ?_) fun cdv A outer s0 H vs Q hr h => ?_
  · obtain ⟨a, ns, rfl, _⟩ := h; rfl
  · obtain ⟨a0, ns, rfl, ha0, hP, kk⟩ := h
    refine ⟨_, (pss_cons (ps_set (i := 1) sc_law.nd rfl (by first | exact Or.inl rfl | exact Or.inr rfl) (C8.pe_c c__law_dice hr (by omega) (by rfl) (pa_cons (pv 0) pa_nil)))
      (pss_cons (ps_asg (C8.pe_c c__law_case hr (by omega) (by rfl) (pa_cons (pv 1) (pa_cons pe_int (pa_cons (pe_lstM (pa_cons (pe_tupM (pa_cons pe_int (pa_cons pe_int (pa_cons pe_int pa_nil)))) (pa_cons (pe_tupM (pa_cons pe_int (pa_cons pe_int (pa_cons pe_int pa_nil)))) pa_nil))) pa_nil)))) (pg_tupG (K := g.K) (by rfl) (by rfl) (pgs_cons (pg_name (i := 2) sc_law.nd rfl (by first | exact Or.inl rfl | exact Or.inr rfl)) (pgs_cons (pg_name (i := 3) sc_law.nd rfl (by first | exact Or.inl rfl | exact Or.inr rfl)) pgs_nil))))
      (pss_cons (ps_set (i := 4) sc_law.nd rfl (by first | exact Or.inl rfl | exact Or.inr rfl) (C8.pe_c c__law_made hr (by omega) (by rfl) (pa_cons (pv 2) pa_nil)))
      (pss_cons (ps_set (i := 5) sc_law.nd rfl (by first | exact Or.inl rfl | exact Or.inr rfl) (C8.pe_c c_ever_matters hr (by omega) (by rfl) (pa_cons (pv 4) (pa_cons (pv 3) pa_nil))))
      (pss_cons (ps_if (pt_cmp (pc_isN (pv 5)))
        (pss_one (ps_ret (C8.pe_c c__law_alike hr (by omega) (by rfl) (pa_cons (pv 1) (pa_cons (pv 2) (pa_cons (pv 4) (pa_cons (pv 3) pa_nil)))))))
        pss_nil)
      (pss_cons (ps_setLcM (i := 6) (own := [("_law_here", 11)]) (g := gName 11) (tt := tYes) (by rfl) sc_law.nd rfl rfl (sw_true rfl rfl rfl (by decide +kernel)) (pi_tup (pv 5)) (blkOk_by (own := [("_law_here", 11)]) (N := ["_law_script", "_law_dice_here", "_law_book_here", "_law_words", "_law_made_here", "_law_told", "_law_phrases", "_law_many", "_law_whole", "_law_one", "_law_other", "_law_here", "_law_there", "_law_phrase_here"]) (sc := defScope st_law) (by decide +kernel)) (fun _ _ _ _ _ => pg_name (i := 11) sc_law.nd rfl (Or.inl rfl)) (fun _ _ _ _ _ => pts_nil) (fun _ _ _ _ _ => (C8.pe_c c__law_phrase hr (by omega) (by rfl) (pa_cons (pv 4) (pa_cons (pv 3) (pa_cons (pv 11) pa_nil))))))
      (pss_cons (ps_if (pt_cmpR (op_inD (by exact u65 hr)) pe_non (pv 6) rfl)
        (pss_one (ps_ret pe_bl))
        pss_nil)
      (pss_cons (ps_set (i := 7) sc_law.nd rfl (by first | exact Or.inl rfl | exact Or.inr rfl) (pe_callB (cr_sum rfl) (by rfl) T.f_sum (by decide +kernel) (pa_cons (pe_lcM (own := [("_law_phrase_here", 13)]) (g := gName 13) (tt := tYes) (by rfl) sc_law.nd (pi_list (pv 6)) (blkOk_by (own := [("_law_phrase_here", 13)]) (N := ["_law_script", "_law_dice_here", "_law_book_here", "_law_words", "_law_made_here", "_law_told", "_law_phrases", "_law_many", "_law_whole", "_law_one", "_law_other", "_law_here", "_law_there", "_law_phrase_here"]) (sc := defScope st_law) (by decide +kernel)) (fun _ _ _ _ _ => pg_name (i := 13) sc_law.nd rfl (Or.inl rfl)) (fun _ _ _ _ _ => pts_nil) (fun _ _ _ _ _ => (pe_callB call_lenT (by rfl) T.f_len (by decide +kernel) (pa_cons (pe_ix ix_tupM (pv 13) pe_int (fun _ _ => rfl)) pa_nil)))) pa_nil)))
      (pss_cons (ps_if (PW.pt (pw_or (pt_cmpR (op_inD (by exact u65 hr)) (pe_tupM (pa_cons (pe_tupM pa_nil) (pa_cons (pe_tupM pa_nil) pa_nil))) (pv 6) rfl) (pw_or1 (pt_cmpR op_gt (pv 7) pe_int (nomark _)))))
        (pss_one (ps_ret pe_bl))
        pss_nil)
      (pss_cons (ps_set (i := 8) sc_law.nd rfl (by first | exact Or.inl rfl | exact Or.inr rfl) (pe_op op_catM (pe_op op_catM (pe_ix ix_tupM (pe_ix ix_lstM (pv 6) pe_int (fun _ _ => rfl)) pe_int (fun _ _ => rfl)) (pe_ix ix_tupM (pe_ix ix_lstM (pv 6) pe_int (fun _ _ => rfl)) pe_int (fun _ _ => rfl))) (pe_ix ix_tupM (pe_ix ix_lstM (pv 6) pe_int (fun _ _ => rfl)) pe_int (fun _ _ => rfl))))
      (pss_cons (ps_set (i := 9) sc_law.nd rfl (by first | exact Or.inl rfl | exact Or.inr rfl) (C8.pe_c c_joined_shape hr (by omega) (by rfl) (pa_cons (pe_ix ix_tupM (pe_ix ix_lstM (pv 6) pe_int (fun _ _ => rfl)) pe_int (fun _ _ => rfl)) (pa_cons (C8.pe_c c_joined_shape hr (by omega) (by rfl) (pa_cons (pe_ix ix_tupM (pe_ix ix_lstM (pv 6) pe_int (fun _ _ => rfl)) pe_int (fun _ _ => rfl)) (pa_cons (pe_ix ix_tupM (pe_ix ix_lstM (pv 6) pe_int (fun _ _ => rfl)) pe_int (fun _ _ => rfl)) pa_nil))) pa_nil))))
      (pss_cons (ps_set (i := 10) sc_law.nd rfl (by first | exact Or.inl rfl | exact Or.inr rfl) (C8.pe_c c_joined_shape hr (by omega) (by rfl) (pa_cons (C8.pe_c c_joined_shape hr (by omega) (by rfl) (pa_cons (pe_ix ix_tupM (pe_ix ix_lstM (pv 6) pe_int (fun _ _ => rfl)) pe_int (fun _ _ => rfl)) (pa_cons (pe_ix ix_tupM (pe_ix ix_lstM (pv 6) pe_int (fun _ _ => rfl)) pe_int (fun _ _ => rfl)) pa_nil))) (pa_cons (pe_ix ix_tupM (pe_ix ix_lstM (pv 6) pe_int (fun _ _ => rfl)) pe_int (fun _ _ => rfl)) pa_nil))))
      (pss_cons (ps_set (i := 11) sc_law.nd rfl (by first | exact Or.inl rfl | exact Or.inr rfl) (C8.pe_c c_said hr (by omega) (by rfl) (pa_cons (pv 4) (pa_cons (pv 8) (pa_cons (pv 9) pa_nil)))))
      (pss_cons (ps_set (i := 12) sc_law.nd rfl (by first | exact Or.inl rfl | exact Or.inr rfl) (C8.pe_c c_said hr (by omega) (by rfl) (pa_cons (pv 4) (pa_cons (pv 8) (pa_cons (pv 10) pa_nil)))))
      (pss_cons (ps_if (PW.pt (pw_or (pt_cmpR (op_neR (by exact hr.units)) (pv 11) (C8.pe_c c__law_say hr (by omega) (by rfl) (pa_cons (pv 2) (pa_cons (pv 8) (pa_cons (pv 9) (pa_cons pe_int (pa_cons (pe_op op_sub (pv 7) pe_int) pa_nil)))))) (nomark _)) (pw_or1 (pt_cmpR (op_neR (by exact hr.units)) (pv 12) (C8.pe_c c__law_say hr (by omega) (by rfl) (pa_cons (pv 2) (pa_cons (pv 8) (pa_cons (pv 10) (pa_cons pe_int (pa_cons (pe_op op_sub (pv 7) pe_int) pa_nil)))))) (nomark _)))))
        (pss_one (ps_ret pe_bl))
        pss_nil)
      (pss_one (ps_ret (pe_cmpR (op_neR (by exact hr.units)) (pv 11) (pv 12) (nomark _))))))))))))))))))), ?_⟩
    refine ⟨_, rfl, a0, ns, rfl, ha0, fun d H1 s1 hd1 => ?_⟩
    refine ⟨_, rfl, cc_le (n := 3) (Nat.le_refl _) (by omega), fun z1 H2 s2 _ hz1 => ⟨cc_le (n := 3) (Nat.le_refl _) (by omega), fun z2 H3 s3 _ hz2 => ⟨cc_le (n := 2) (Nat.le_refl _) (by omega), fun zl H4 s4 _ hzl => ?_⟩⟩⟩
    have t4 := s1.trans (s2.trans (s3.trans s4))
    have hd4 := hd1.same (s2.trans (s3.trans s4))
    refine ⟨d, zl, [(z1, (5, 1, 1)), (z2, (4, 1, 1))], rfl, hd4, ⟨hzl, fun z hz => ?_⟩, rfl, fun r H5 q a B dt es ps s5 hr5 hb5 o hsz hps hw l1 l12 => ?_⟩
    · simp only [List.mem_cons, List.not_mem_nil, or_false] at hz
      rcases hz with hz | hz <;> rw [hz]
      · exact (s3.trans s4) _ _ hz1
      · exact s4 _ _ hz2
    refine ⟨r, _, rfl, .inl (.inl hr5), rfl, _, _, rfl, _, _, rfl, rfl, ?_⟩
    refine ⟨_, rfl, q, dt, B, es, rfl, hb5, o, fun rb H6 s6 hbk => ?_⟩
    have t6 := (t4.trans s5).trans s6
    have hd6 := hd4.same (s5.trans s6)
    have hq6 := (hb5.rd o).same s6
    have hps6 := hps.same s6
    clear hb5 hr5 hd1 hd4 hz1 hz2 hzl s1 s2 s3 s4 s5 s6 t4 hps
    refine ⟨_, rfl, _, rfl, ⟨rb, a, B, ps, rfl, hbk, o, hps6, hw, l12, t6 _ _ hP, fun H7 e7 as => ?_, fun H7 r7 a1 a2 a3 p m q' e7 h7 hp1 hp2 hp3 sp sm sq hm0 nas => ?_⟩, fun rb' a' ps' e h => ?_⟩
    · refine ⟨_, rfl, true, rfl, ?_⟩
      exact ⟨_, rfl, _, rfl, _, rfl, _, rfl, d, q, rb, a, B, ps, rfl, hd6.ext e7, hq6.ext e7, hbk.ext e7, o, hps6.tk (ext_tk e7), hw, l1, l12, as, fun H8 _ => kk H8⟩
    · refine ⟨_, rfl, false, rfl, ?_⟩
      have hb7 := hbk.ext e7
      have hq7 := hq6.ext e7
      have hps7 := hps6.tk (ext_tk e7)
      have fewB := few B o hsz
      refine ⟨_, rfl, r7, rfl, ⟨_, .inl (.inl h7)⟩, ?_⟩
      refine lc_wkN (wk_tup (R := Same H7) fun H' r => r _ _ h7) (PhsI B (fun r => r ∈ ps.map (·.2)) [p, m, q']) (fun i acc Ha Hb t ⟨xs, y1, y2, y3, y4⟩ => ⟨xs, y1, y2, fun x hx => ⟨(y3 x hx).1.nk t, (y3 x hx).2⟩, y4⟩) (fun i acc _ hi ⟨xs, y1, y2, _, _⟩ => ?_) (fun _ _ => ⟨[], rfl, rfl, (fun _ h => nomatch h), fun j x pj h => by simp at h⟩) (fun C i x acc H' hi s' hx ⟨xs, y1, y2, y3, y4⟩ yes no => ?_) fun D ys H8 s8 hD hys ⟨xs, y1, y2, y3, y4⟩ => ?_
      · have hi : i < 3 := hi
        rw [y1, List.length_map, y2]
        exact cc_lt (n := 4) (by omega) (by omega)
      · have go : ∀ (ai : Addr) (pi : R × R), PairAt H7 ai pi → Su B (fun r => r ∈ ps.map (·.2)) pi → x = .ref ai → ([p, m, q'] : List (R × R))[i]? = some pi → gName 11 x (wipe [some (V.ref a0), some (V.ref d), some (V.ref q), some (V.ref a), some (V.ref rb), some (V.ref r7), none, none, none, none, none, none, none, none] [11]) H' fun σ2 H2 => wipe σ2 [11] = wipe [some (V.ref a0), some (V.ref d), some (V.ref q), some (V.ref a), some (V.ref rb), some (V.ref r7), none, none, none, none, none, none, none, none] [11] ∧ tYes σ2 H2 fun b H3 => if b = true then tCall (pPhraseFor g).sp [] C8.E0 (tCons (tVar 4) (tCons (tVar 3) (tCons (tVar 11) tNil))) σ2 H3 (fun y H4 => C (some y) H4) else C none H3 := fun ai pi hpi su ex hix => by
          subst ex
          refine ⟨rfl, _, rfl, _, rfl, _, rfl, rb, a, ai, B, ps, pi, rfl, hb7.same s', o, fewB, hps7.same s', hw, l1, l12, hpi.same s', su, fun H9 r9 qs t s9 hr9 ph n40 => ?_⟩
          refine yes _ _ s9 ⟨xs ++ [⟨r9, qs, t⟩], by rw [y1, List.map_append]; rfl, by rw [List.length_append, y2]; rfl, fun x hx => ?_, fun j x pj hj hpj => ?_⟩
          · rcases List.mem_append.mp hx with hx | hx
            · exact ⟨(y3 x hx).1.nk s9.nk, (y3 x hx).2⟩
            · rw [List.mem_singleton.mp hx]; exact ⟨hr9, n40⟩
          · by_cases cj : j < xs.length
            · rw [List.getElem?_append_left cj] at hj
              exact y4 j x pj hj hpj
            · have jl := (List.getElem?_eq_some_iff.mp hj).1
              rw [List.length_append, List.length_singleton] at jl
              have ej : j = xs.length := by omega
              rw [List.getElem?_append_right (by omega), ej, Nat.sub_self] at hj
              have hj : some (⟨r9, qs, t⟩ : Pd) = some x := hj
              cases hj
              rw [ej, y2, hix] at hpj
              cases hpj
              exact ph
        have i3 : i = 0 ∨ i = 1 ∨ i = 2 := by
          have : i < 3 := hi
          omega
        rcases i3 with e | e | e
        · subst e; cases hx; exact go a1 p hp1 sp rfl rfl
        · subst e; cases hx; exact go a2 m hp2 sm rfl rfl
        · subst e; cases hx; exact go a3 q' hp3 sq rfl rfl
      · match xs, y2 with
        | [x0, x1, x2], _ =>
        subst y1
        have ph0 := y4 0 x0 p rfl rfl
        have ph1 := y4 1 x1 m rfl rfl
        have ph2 := y4 2 x2 q' rfl rfl
        have pd0 := (y3 x0 (by simp)).1
        have pd1 := (y3 x1 (by simp)).1
        have pd2 := (y3 x2 (by simp)).1
        have n0 := (y3 x0 (by simp)).2
        have n1 := (y3 x1 (by simp)).2
        have n2 := (y3 x2 (by simp)).2
        have l0 : x0.ps.length = x0.t.n + 1 := by have := ph0.len; rw [List.length_map] at this; exact this
        have l1' : x1.ps.length = x1.t.n + 1 := by have := ph1.len; rw [List.length_map] at this; exact this
        have l2 : x2.ps.length = x2.t.n + 1 := by have := ph2.len; rw [List.length_map] at this; exact this
        have all3 : ∀ x ∈ [x0, x1, x2], PdAt H8 x := fun x hx => (y3 x hx).1
        have hys' : H8 D = some (.lst [.ref x0.r, .ref x1.r, .ref x2.r]) := hys
        refine ⟨_, rfl, .none, [x0, x1, x2].map pdD, .non, .lst (.inl (.inl hys)) (dp_pds all3), rfl, pds_shaped _, false, congrArg V.bl (no_none _), ?_⟩
        obtain ⟨w0, b0, r0, hw0, hs0⟩ := id pd0
        obtain ⟨w1, b1, r1, hw1, hs1⟩ := id pd1
        obtain ⟨w2, b2, r2, hw2, hs2⟩ := id pd2
        refine ⟨_, rfl, D, rfl, ⟨_, .inl (.inl hys)⟩, ?_⟩
        refine lc_wk (wk_lst (R := Same H8) fun H' r => r _ _ hys') (fun i acc _ => acc = ([x0.ps.length, x1.ps.length, x2.ps.length].map fun (k : Nat) => V.int (k : Int)).take i) (fun _ _ _ _ _ e => e) (fun i acc _ hi e => ?_) (fun _ _ => rfl) (fun C i x acc H' hi s' hx e yes no => ?_) fun D2 ys2 H9 s9 hD2 hys2 e => ?_
        · have hi : i < 3 := hi
          rw [e, List.length_take]
          exact cc_lt (n := 4) (by omega) (by omega)
        · match i, hi, hx with
          | 0, _, hx =>
            cases hx
            exact ⟨rfl, _, rfl, x0.r, _, _, _, rfl, rfl, s' _ _ r0, rfl, w0, _, rfl, s' _ _ hw0.1, yes _ _ (.refl _) (by rw [e, List.length_map]; rfl)⟩
          | 1, _, hx =>
            cases hx
            exact ⟨rfl, _, rfl, x1.r, _, _, _, rfl, rfl, s' _ _ r1, rfl, w1, _, rfl, s' _ _ hw1.1, yes _ _ (.refl _) (by rw [e, List.length_map]; rfl)⟩
          | 2, _, hx =>
            cases hx
            exact ⟨rfl, _, rfl, x2.r, _, _, _, rfl, rfl, s' _ _ r2, rfl, w2, _, rfl, s' _ _ hw2.1, yes _ _ (.refl _) (by rw [e, List.length_map]; rfl)⟩
        · subst e
          refine ⟨D2, [(x0.ps.length : Int), (x1.ps.length : Int), (x2.ps.length : Int)], rfl, .inl (.inl hys2), ?_⟩
          have esum : ([(x0.ps.length : Int), (x1.ps.length : Int), (x2.ps.length : Int)]).sum = ((x0.ps.length + x1.ps.length + x2.ps.length : Nat) : Int) := by
            simp only [List.sum_cons, List.sum_nil]; omega
          rw [esum]
          refine ⟨cc_le (n := 0) (Nat.le_refl _) (by omega), fun e1 H10 s10 _ he1 => ⟨cc_le (n := 0) (Nat.le_refl _) (by omega), fun e2 H11 s11 _ he2 => ⟨two_le, fun e3 H12 s12 _ he3 => ?_⟩⟩⟩
          have s912 := s9.trans (s10.trans (s11.trans s12))
          have all12 : ∀ x ∈ [x0, x1, x2], PdAt H12 x := fun x hx => (all3 x hx).same s912
          have dn : Dp g.K H12 (.ref e3) nilD := .tup (.inl (.inl he3)) (.cons (.tup (.inl (.inl ((s11.trans s12) _ _ he1))) .nil) (.cons (.tup (.inl (.inl (s12 _ _ he2))) .nil) .nil))
          refine ⟨_, rfl, nilD, [x0, x1, x2].map pdD, dn, .lst (.inl (.inl (s912 _ _ hys))) (dp_pds all12), rfl, pds_shaped _, false, congrArg V.bl (no_nil _ fun x hx => ?_), ?_⟩
          · have hn : x.ps.length ≠ 0 := by
              simp only [List.mem_cons, List.not_mem_nil, or_false] at hx
              rcases hx with z | z | z <;> rw [z] <;> omega
            intro z
            rw [z] at hn
            exact hn rfl
          refine ⟨_, rfl, _, _, rfl, rfl, _, rfl, ?_⟩
          by_cases big : (40 : Int) < ((x0.ps.length + x1.ps.length + x2.ps.length : Nat) : Int)
          · exact ifT (decide_eq_true big) (kk H12)
          · refine ifF (decide_eq_false big) ?_
            have r0' := s912 _ _ r0
            have r1' := s912 _ _ r1
            have r2' := s912 _ _ r2
            have hD12 := s912 _ _ hys'
            have w0' := hw0.same s912
            have w1' := hw1.same s912
            have w2' := hw2.same s912
            refine ⟨_, rfl, D, _, _, _, rfl, rfl, hD12, rfl, x0.r, _, _, _, rfl, rfl, r0', rfl, _, rfl, D, _, _, _, rfl, rfl, hD12, rfl, x1.r, _, _, _, rfl, rfl, r1', rfl, w0, w1, _, _, rfl, rfl, w0'.1, w1'.1, cc_le (n := 200) (by rw [List.length_map, List.length_map]; omega) (by omega), fun pa Ga ga ha => ?_⟩
            refine ⟨_, rfl, D, _, _, _, rfl, rfl, ga _ _ hD12, rfl, x2.r, _, _, _, rfl, rfl, ga _ _ r2', rfl, pa, w2, _, _, rfl, rfl, ha, ga _ _ w2'.1, cc_le (n := 200) (by rw [List.length_append, List.length_map, List.length_map, List.length_map]; omega) (by omega), fun pw Gb gb hpw => ?_⟩
            have sb := s912.trans (ga.trans gb)
            have hDb := (ga.trans gb) _ _ hD12
            have r0b := (ga.trans gb) _ _ r0'
            have r1b := (ga.trans gb) _ _ r1'
            have r2b := (ga.trans gb) _ _ r2'
            have c0 := hs0.same sb
            have c1 := hs1.same sb
            have c2 := hs2.same sb
            have hws : WsAt Gb pw (x0.ps ++ x1.ps ++ x2.ps) := by
              refine WsAt.app (by rw [List.map_append]; exact hpw) (fun x hx => ?_) fun x hx => (ga.trans gb) _ _ (w2'.2 x hx)
              rcases List.mem_append.mp hx with hx | hx
              · exact (ga.trans gb) _ _ (w0'.2 x hx)
              · exact (ga.trans gb) _ _ (w1'.2 x hx)
            have okw : ∀ (x : Pd) (pj : R × R), Ph B (fun r => r ∈ ps.map (·.2)) pj (x.ps.map (·.2)) x.t → WsOk B.s x.ps := fun x pj ph y hy => by
              obtain ⟨z, hz, e⟩ := List.mem_map.mp (ph.all y.2 (List.mem_map.mpr ⟨y, hy, rfl⟩))
              have := hw z hz
              rw [e] at this
              exact this
            have hwo : WsOk B.s (x0.ps ++ x1.ps ++ x2.ps) := ((okw x0 p ph0).mono (okw x1 m ph1)).mono (okw x2 q' ph2)
            clear r0' r1' r2' hD12 w0' w1' w2' ha hpw
            refine ⟨_, rfl, D, _, _, _, rfl, rfl, hDb, rfl, x0.r, _, _, _, rfl, rfl, r0b, rfl, _, rfl, D, _, _, _, rfl, rfl, hDb, rfl, x1.r, _, _, _, rfl, rfl, r1b, rfl, _, rfl, D, _, _, _, rfl, rfl, hDb, rfl, x2.r, _, _, _, rfl, rfl, r2b, rfl, b1, b2, x1.t, x2.t, rfl, c1, c2, by omega, fun q1 Gc gc hq1 => ?_⟩
            refine ⟨b0, q1, x0.t, .nd x1.t x2.t, rfl, c0.same gc, hq1, by show x0.t.n + (x1.t.n + x2.t.n + 1) + 2 ≤ 40; omega, fun one Gd gd hone => ?_⟩
            have gbd := gc.trans gd
            refine ⟨_, rfl, D, _, _, _, rfl, rfl, gbd _ _ hDb, rfl, x0.r, _, _, _, rfl, rfl, gbd _ _ r0b, rfl, _, rfl, D, _, _, _, rfl, rfl, gbd _ _ hDb, rfl, x1.r, _, _, _, rfl, rfl, gbd _ _ r1b, rfl, b0, b1, x0.t, x1.t, rfl, c0.same gbd, c1.same gbd, by omega, fun q2 Ge ge hq2 => ?_⟩
            have gbe := gbd.trans ge
            refine ⟨_, rfl, D, _, _, _, rfl, rfl, gbe _ _ hDb, rfl, x2.r, _, _, _, rfl, rfl, gbe _ _ r2b, rfl, q2, b2, .nd x0.t x1.t, x2.t, rfl, hq2, c2.same gbe, by show x0.t.n + x1.t.n + 1 + x2.t.n + 2 ≤ 40; omega, fun other Gf gf hoth => ?_⟩
            have gbf := gbe.trans gf
            have s8f := sb.trans gbf
            have bk8 := hb7.same s8
            have bkf := bk8.same s8f
            have lqs : (x0.ps ++ x1.ps ++ x2.ps).length = x0.t.n + x1.t.n + x2.t.n + 3 := by rw [List.length_append, List.length_append]; omega
            have hone' := hone.same (ge.trans gf)
            have hwf := hws.same gbf
            refine ⟨_, rfl, _, rfl, _, rfl, rb, pw, one, B, _, .nd x0.t (.nd x1.t x2.t), rfl, bkf, o, hwf, hwo, hone', by rw [lqs]; show _ = x0.t.n + (x1.t.n + x2.t.n + 1) + 1 + 1; omega, by show x0.t.n + (x1.t.n + x2.t.n + 1) + 1 ≤ 39; omega, fun rh Gg gg hrh => ?_⟩
            refine ⟨_, rfl, _, rfl, _, rfl, rb, pw, other, B, _, .nd (.nd x0.t x1.t) x2.t, rfl, bkf.same gg, o, hwf.same gg, hwo, hoth.same gg, by rw [lqs]; show _ = x0.t.n + x1.t.n + 1 + x2.t.n + 1 + 1; omega, by show x0.t.n + x1.t.n + 1 + x2.t.n + 1 ≤ 39; omega, fun rt Gh gh hrt => ?_⟩
            have gfh := gg.trans gh
            have lbh := (hq7.same s8).same (s8f.trans gfh)
            have d1 : ((K73.T.nd x0.t (.nd x1.t x2.t)).dep 0).length = x0.t.n + (x1.t.n + x2.t.n + 1) + 1 := by rw [K73.T.dep_len]; rfl
            have d2 : ((K73.T.nd (.nd x0.t x1.t) x2.t).dep 0).length = x0.t.n + x1.t.n + 1 + x2.t.n + 1 := by rw [K73.T.dep_len]; rfl
            have eN1 : ((x0.ps.length + x1.ps.length + x2.ps.length : Nat) : Int) - 1 = ((0 + (K73.T.nd x0.t (.nd x1.t x2.t)).n : Nat) : Int) := by
              show _ = ((0 + (x0.t.n + (x1.t.n + x2.t.n + 1) + 1) : Nat) : Int)
              omega
            have eN2 : ((x0.ps.length + x1.ps.length + x2.ps.length : Nat) : Int) - 1 = ((0 + (K73.T.nd (.nd x0.t x1.t) x2.t).n : Nat) : Int) := by
              show _ = ((0 + (x0.t.n + x1.t.n + 1 + x2.t.n + 1) : Nat) : Int)
              omega
            refine ⟨_, rfl, _, rfl, _, rfl, _, rfl, _, rfl, _, _, rfl, rfl, q, pw, one, B, x0.ps ++ x1.ps ++ x2.ps, (K73.T.nd x0.t (.nd x1.t x2.t)).dep 0, 0, 0, .nd x0.t (.nd x1.t x2.t), ?_, lbh, o, hwf.same gfh, hwo, by omega, hone'.same gfh, by rw [d1, lqs]; omega, isT_dep _ 0, by rw [lqs]; show 0 + (x0.t.n + (x1.t.n + x2.t.n + 1) + 1) < _; omega, by show x0.t.n + (x1.t.n + x2.t.n + 1) + 1 < 41; omega, fun rs Gi gi hrs => ?_⟩
            · show [V.ref q, V.ref pw, V.ref one, V.int 0, V.int (((x0.ps.length + x1.ps.length + x2.ps.length : Nat) : Int) - 1)] = _
              rw [eN1]
              rfl
            refine ⟨rh, rs, _, _, rfl, rfl, (gh.trans gi) _ _ hrh, hrs, false, by rw [decide_eq_true rfl]; rfl, ?_⟩
            refine ⟨_, rfl, _, rfl, _, rfl, _, rfl, _, rfl, _, _, rfl, rfl, q, pw, other, B, x0.ps ++ x1.ps ++ x2.ps, (K73.T.nd (.nd x0.t x1.t) x2.t).dep 0, 0, 0, .nd (.nd x0.t x1.t) x2.t, ?_, lbh.same gi, o, (hwf.same gfh).same gi, hwo, by omega, (hoth.same gfh).same gi, by rw [d2, lqs]; omega, isT_dep _ 0, by rw [lqs]; show 0 + (x0.t.n + x1.t.n + 1 + x2.t.n + 1) < _; omega, by show x0.t.n + x1.t.n + 1 + x2.t.n + 1 < 41; omega, fun rs2 Gj gj hrs2 => ?_⟩
            · show [V.ref q, V.ref pw, V.ref other, V.int 0, V.int (((x0.ps.length + x1.ps.length + x2.ps.length : Nat) : Int) - 1)] = _
              rw [eN2]
              rfl
            refine ⟨rt, rs2, _, _, rfl, rfl, (gi.trans gj) _ _ hrt, hrs2, false, by rw [decide_eq_true rfl]; rfl, ?_⟩
            refine ⟨_, rfl, _, rfl, rh, rt, _, _, rfl, rfl, (gh.trans (gi.trans gj)) _ _ hrh, (gi.trans gj) _ _ hrt, ?_⟩
            have ew : (x0.ps ++ x1.ps ++ x2.ps).map (·.2) = x0.ps.map (·.2) ++ (x1.ps.map (·.2) ++ x2.ps.map (·.2)) := by rw [List.map_append, List.map_append, List.append_assoc]
            have ew2 : (x0.ps ++ x1.ps ++ x2.ps).map (·.2) = (x0.ps.map (·.2) ++ x1.ps.map (·.2)) ++ x2.ps.map (·.2) := by rw [List.map_append, List.map_append]
            have m12 : (x1.ps.map (·.2) ++ x2.ps.map (·.2)).length = (K73.T.nd x1.t x2.t).n + 1 := by
              rw [List.length_append, ph1.len, ph2.len]; show _ = x1.t.n + x2.t.n + 1 + 1; omega
            have m01 : (x0.ps.map (·.2) ++ x1.ps.map (·.2)).length = (K73.T.nd x0.t x1.t).n + 1 := by
              rw [List.length_append, ph0.len, ph1.len]; show _ = x0.t.n + x1.t.n + 1 + 1; omega
            have sA : say B (wf (x0.ps ++ x1.ps ++ x2.ps)) 0 (.nd x0.t (.nd x1.t x2.t)) = B.met (say B (fun k => (x0.ps.map (·.2)).getD k []) 0 x0.t) (B.met (say B (fun k => (x1.ps.map (·.2)).getD k []) 0 x1.t) (say B (fun k => (x2.ps.map (·.2)).getD k []) 0 x2.t)) := by
              unfold wf
              rw [ew, say_nd ph0.len m12, say_nd ph1.len ph2.len]
            have sB : say B (wf (x0.ps ++ x1.ps ++ x2.ps)) 0 (.nd (.nd x0.t x1.t) x2.t) = B.met (B.met (say B (fun k => (x0.ps.map (·.2)).getD k []) 0 x0.t) (say B (fun k => (x1.ps.map (·.2)).getD k []) 0 x1.t)) (say B (fun k => (x2.ps.map (·.2)).getD k []) 0 x2.t) := by
              unfold wf
              rw [ew2, say_nd m01 ph2.len, say_nd ph0.len ph1.len]
            have dif := nas_of o hm0 nas ph0.sm ph1.sm ph2.sm
            have nd : ¬ say B (wf (x0.ps ++ x1.ps ++ x2.ps)) 0 (.nd x0.t (.nd x1.t x2.t)) = say B (wf (x0.ps ++ x1.ps ++ x2.ps)) 0 (.nd (.nd x0.t x1.t) x2.t) := fun z => dif (by rw [sA, sB] at z; exact z)
            rw [decide_eq_false nd]
            exact kk _
    · cases e
      have z := hps6.1.symm.trans h.1
      injection z with z
      injection z with z
      have := congrArg List.length z
      rw [List.length_map, List.length_map] at this
      omega
end
end K73
end

section
set_option linter.all false
set_option maxRecDepth 100000
set_option maxHeartbeats 4000000
/-! few words are enough, for the sizes drawn -/
namespace K73
theorem few_sz {s a b : Nat} {t : List ((R × R) × (R × R))} (o : Bk.Ok ⟨s, a, b, t⟩) (h : (((a + b : Nat) : Int) - 1) * (((rowsLen s b).length : Nat) + ((rowsLen s a).length : Nat) + 2) ≤ 40) : Few ⟨s, a, b, t⟩ := fun W F fw md ci st hw clo w1 f1 p hp => Int.le_trans (few_bound o ci st hw clo w1 f1 hp) h
theorem few_all : ∀ B : Bk, B.Ok → (B.s, B.a, B.b) ∈ small ++ great → Few B := by
  rintro ⟨s, a, b, t⟩ o h
  have h : (s, a, b) ∈ small ++ great := h
  have hz : (s, a, b) = (2, 1, 1) ∨ (s, a, b) = (2, 2, 1) ∨ (s, a, b) = (2, 1, 2) ∨ (s, a, b) = (3, 1, 1) ∨ (s, a, b) = (2, 2, 2) ∨ (s, a, b) = (3, 2, 1) ∨ (s, a, b) = (5, 1, 1) ∨ (s, a, b) = (4, 1, 1) := by
    simp only [small, great, List.cons_append, List.nil_append, List.mem_cons, List.not_mem_nil, or_false] at h
    rcases h with z | z | z | z | z | z | z | z | z <;> simp [z]
  rcases hz with z | z | z | z | z | z | z | z <;> cases z <;> exact few_sz o (by decide)
end K73
end

section
set_option linter.all false
set_option maxRecDepth 100000
set_option maxHeartbeats 0
/-! the head: the facts of the top by one run; the end -/
namespace K73
open PySem PySem.Spec PyProof.Rows L2 NdefX LamX
abbrev Rr : PySem.W.OpenRow := PySem.W.OpenLaw.row PySem.Challenge.rw_heardseams_k73_whole_phrases_that_are_he
def hn0 : List PySem.Str := ["_wall", "__name__", "SeamError", "NoShape", "NoWords", "NoList", "NoBook", "TooMany", "is_integer", "is_between", "is_index", "MOST_SOUNDS", "MOST_SIDE", "MOST_ENTRIES"]
def hn1 : List PySem.Str := ["is_sounds", "is_side_pair", "is_table", "check_sizes", "Book", "told", "MOST_WORDS", "Joinings", "is_fair", "is_shape", "check_shape", "lessened", "with_root", "joined_shape"]
def hn2 : List PySem.Str := ["check_shape_for", "MOST_WORD", "is_word", "check_words", "check_phrase", "joined_rows", "inner_first", "Sayer", "said_row", "said", "met_rows", "matters_at", "MOST_LISTED", "MOST_SUMMARIES"]
def hn3 : List PySem.Str := ["check_list", "summed_up", "standing_for", "is_pair_of_rows", "is_short", "Closing", "by_windows", "ever_matters", "three_of", "phrase_for", "_law_dice", "_law_draw", "_law_drawn_shape", "_law_rows"]
def hn4 : List PySem.Str := ["_law_like", "_law_book", "_law_made", "_law_met", "_law_row", "_law_say", "_law_few_words", "_law_small_sizes", "_law_case", "_law_phrase", "_law_alike"]
def nms : List PySem.Str := hn0 ++ (hn1 ++ (hn2 ++ (hn3 ++ (hn4))))
def tf3 : List He.Defn := [("three_of", none)]
abbrev hk : PySem.W.Hook := He.hookX 4 FA FN [] tf3 fun _ => true
def ob (s : PySem.W.SharedT) : He.AlX := He.obsX 4 FA FN [] tf3 (fun _ => true) (HandSHeadRun.getT s)
theorem ob_eq (s : PySem.W.SharedT) : ob s = hk.obs s.abs := He.obsX_eq (HandSHeadRun.getT_eq s)
theorem run (w : World) : HandSHeadRun.RunEq Rr (PySem.W.view Rr.prog [75]) hk ob 6000 nms w := by
  intro os
  kernel_rfl
end K73
end

section
set_option linter.all false
set_option maxRecDepth 100000
set_option maxHeartbeats 0
/-! the end: the walk of the law at the head's facts -/
namespace K73
open PySem PySem.Spec PyProof.Rows L2 NdefX LamX
theorem law_at {Pr : Program} {w : World} {K : PySem.W.Frag} {mg : Str → Option Value} {h : Heap} {fa : Addr} (KX : K.In h) (G : h.Ns mainGlobals mg) (hmg : mg ("law" : Str) = some (.ref fa)) (c : He.SaysX FA FN [] tf3 (fun _ => true) w h K) :
    ∃ (fd : FuncData) (cs : List (Addr × Addr)) (sp : Sp), (∀ p ∈ cs, h.get? p.2 = some { cls := .none, data := .fields #[] }) ∧ (∀ p ∈ cs, K.lookup p.2 = none) ∧ (∀ p ∈ cs, PySem.W.CodeHd h p.1 p.2) ∧ (∀ (s : Shared) (u : Value), BindsTo s fd ⟨[u], []⟩ [("_law_script", u)]) ∧
      (∀ (H : Hp) (a : Addr) (ns : List Int), ns.length ≤ 63 → (∀ z ∈ ns, Builtin.Int.intBits z ≤ 1048576) → (∀ p ∈ cs, H p.2 = some (.tbl #[])) → SqL K H a (ns.map V.int) → sp [.ref a] H (fun v _ => v = .bl true) fun _ _ _ => False) ∧
      ∀ base : Heap, K.In base → base.Ns mainGlobals mg → (∀ p ∈ cs, TabB base mg p.1 p.2) → FnOk Pr w K mg base CX0 46 fa fd ["_law_script"] sp := by
  have T : ∀ base : Heap, Tx ⟨Pr, w, K, mg, base⟩ := fun base => ⟨c.t.d, h, KX, G⟩
  have m3 : (("three_of", none) : He.Defn) ∈ tf3 := List.mem_cons_self
  obtain ⟨fd, F⟩ := (T h).d_law
  have e := hmg.symm.trans (T h).g_law
  cases e
  have b := FunD.bindsA (ps := ["_law_script"]) F fun _ _ _ _ _ _ us hl => match us, hl with | [_], _ => rfl
  refine ⟨fd, [He.cT K ("three_of", none)], (pLaw ⟨Pr, w, K, mg, h⟩ (He.cT K ("three_of", none)).2).sp, ?_, ?_, ?_, fun s u => b s [u] rfl, ?_, ?_⟩
  · intro p hp
    cases List.mem_singleton.mp hp
    exact c.empty _ m3
  · intro p hp
    cases List.mem_singleton.mp hp
    exact c.out _ m3
  · intro p hp
    cases List.mem_singleton.mp hp
    exact PySem.W.codeHd_of_K KX (c.hd _ m3)
  · intro H a ns _ _ hH hS
    exact ⟨a, ns, rfl, hS, hH _ (List.mem_singleton.mpr rfl), fun _ => rfl⟩
  · intro base hB hN tb
    exact ok_law (T base) (tb _ (List.mem_singleton.mpr rfl)) few_all F
end K73
end

open PySem PySem.W PySem.Calls PyProof.Rows
theorem PySem.Challenge.cw_heardseams_k73_whole_phrases_that_are_he_holds : PySem.Challenge.rw_heardseams_k73_whole_phrases_that_are_he.Holds := by
  w_on; o_law
  refine HandSHeadRun.head_any (r := OpenLaw.row PySem.Challenge.rw_heardseams_k73_whole_phrases_that_are_he) (q := view (OpenLaw.row PySem.Challenge.rw_heardseams_k73_whole_phrases_that_are_he).prog [75]) (H := K73.hk) (ob := K73.ob) (M := 6000) (loose := K73.nms) (d := HandSHeadRun.topDef (OpenLaw.row PySem.Challenge.rw_heardseams_k73_whole_phrases_that_are_he).prog 75) (kwd := []) K73.ob_eq
    (by kernel_rfl) (fun s => by kernel_rfl) K73.run (by kernel_rfl) (by kernel_rfl) (by kernel_rfl) (by rfl) (by first | assumption | decide +kernel) (by decide +kernel) ⟨rfl, rfl, rfl, rfl, rfl, by decide +kernel⟩ ?hw ?hc
  case hw => w_witness2
  case hc =>
    refine LamX.walk_ofTsE (l := PySem.Challenge.rw_heardseams_k73_whole_phrases_that_are_he) (n := 63) (k := 46) (x := "_law_script") (CX := fun _ => L2.CX0) rfl (by decide) (by kernel_rfl) ⟨rfl, by decide, by decide⟩ ?F (fun _ _ _ _ _ z => z)
    intro w mg fa h Y G hmg0
    obtain ⟨K, KX, c⟩ := Y
    have hmg : mg ("law" : PySem.Str) = some (.ref fa) := by
      have e : (HandSHeadRun.topDef (OpenLaw.row PySem.Challenge.rw_heardseams_k73_whole_phrases_that_are_he).prog 75).name = ("law" : PySem.Str) := by kernel_rfl
      rw [← e]
      exact hmg0
    exact ⟨K, KX, K73.law_at KX G hmg c⟩

import PyProof.Rows.All
import Wide.All
import OpenK.AllK
import Wide.FinOn
import KE.KStateDown
import KE.GoesEnum
import Lean
import HandS.ForMost
import HandS.Defaults
import HandS.Evl
import HandS.IsInst
import HandS.Style
import HandS.SetFor
import HandS.TupSets
import HandS.Head0
import HandS.Head1
import HandS.Head2
import HandS.HeadEnd
import HandS.HeadHook1
import HandS.HeadHook2
import HandS.Strs
import HandS.Conv
import HandS.SortInts
import HandS.SortRule
import HandS.TupAny
import HandS.Zip
import PySem.Challenge.RW_staytariffs_k19_whole_the_cheapest_far_o
set_option Elab.async false
set_option linter.all false
set_option maxRecDepth 100000
set_option maxHeartbeats 4000000
/-! Base: the tariffs and their prices as plain functions, and what holds of them. -/
structure Tar where
  grace : Int
  rows : List (Int × Int)
  unit : Int
  more : Int
  cap : Option Int
namespace Ma
def rowOk (p : Int × Int) : Bool := (decide (1 ≤ p.1) && decide (p.1 ≤ 95)) && (decide (0 ≤ p.2) && decide (p.2 ≤ 1000000))
def adjOk (q : (Int × Int) × (Int × Int)) : Bool := decide (q.1.1 < q.2.1) && decide (q.1.2 ≤ q.2.2)
def rowsOk (ps : List (Int × Int)) : Bool := decide (ps.length ≤ 4) && (ps.all rowOk && (ps.zip (ps.drop 1)).all adjOk)
def capOk : Option Int → Bool
  | none => true
  | some c => decide (0 ≤ c) && decide (c ≤ 1000000)
def tarOk (t : Tar) : Bool := (decide (0 ≤ t.grace) && decide (t.grace ≤ 96)) && (rowsOk t.rows && ((decide (1 ≤ t.unit) && decide (t.unit ≤ 96)) && ((decide (0 ≤ t.more) && decide (t.more ≤ 1000000)) && capOk t.cap)))
def rawP (L unit more : Int) : List (Int × Int) → Int → Int → Int
  | [], s, q => q + more * ((L - s + unit - 1) / unit)
  | (u, p) :: r, s, q => if L ≤ u then p else rawP L unit more r u p
theorem rawP_nil (L unit more s q : Int) : rawP L unit more [] s q = q + more * ((L - s + unit - 1) / unit) := rfl
theorem rawP_cons (L unit more u p s q : Int) (r : List (Int × Int)) : rawP L unit more ((u, p) :: r) s q = if L ≤ u then p else rawP L unit more r u p := rfl
def capped : Option Int → Int → Int
  | none, x => x
  | some c, x => min c x
def dayP (t : Tar) (L : Int) : Int := if L ≤ t.grace then 0 else capped t.cap (rawP L t.unit t.more t.rows 0 0)
def stayP (t : Tar) (L : Int) : Int := if L = 0 then 0 else (L - 1) / 96 * dayP t 96 + dayP t (L - (L - 1) / 96 * 96)
theorem rowOk_iff {p : Int × Int} : rowOk p = true ↔ (1 ≤ p.1 ∧ p.1 ≤ 95) ∧ 0 ≤ p.2 ∧ p.2 ≤ 1000000 := by
  simp [rowOk]
theorem adjOk_iff {q : (Int × Int) × (Int × Int)} : adjOk q = true ↔ q.1.1 < q.2.1 ∧ q.1.2 ≤ q.2.2 := by simp [adjOk]
/-- rows in order from (s, q) on -/
def Asc : List (Int × Int) → Int → Int → Prop
  | [], _, _ => True
  | (u, p) :: r, s, q => s < u ∧ q ≤ p ∧ u ≤ 95 ∧ p ≤ 1000000 ∧ Asc r u p
theorem asc_of : ∀ (ps : List (Int × Int)) (a : Int × Int), (∀ p ∈ ps, rowOk p = true) → ((a :: ps).zip ps).all adjOk = true → Asc ps a.1 a.2
  | [], _, _, _ => trivial
  | (u, p) :: r, a, h, g => by
    have h1 := rowOk_iff.mp (h (u, p) List.mem_cons_self)
    rw [List.zip_cons_cons, List.all_cons, Bool.and_eq_true] at g
    have g1 := adjOk_iff.mp g.1
    exact ⟨g1.1, g1.2, h1.1.2, h1.2.2, asc_of r (u, p) (fun x hx => h x (List.mem_cons_of_mem _ hx)) g.2⟩
theorem rowsOk_asc {ps : List (Int × Int)} (h : rowsOk ps = true) : Asc ps 0 0 := by
  unfold rowsOk at h
  rw [Bool.and_eq_true, Bool.and_eq_true] at h
  obtain ⟨_, h1, h2⟩ := h
  have h1' := List.all_eq_true.mp h1
  cases ps with
  | nil => trivial
  | cons a r =>
    obtain ⟨u, p⟩ := a
    have q := rowOk_iff.mp (h1' (u, p) List.mem_cons_self)
    exact ⟨by have := q.1.1; omega, q.2.1, q.1.2, q.2.2, asc_of r (u, p) (fun x hx => h1' x (List.mem_cons_of_mem _ hx)) h2⟩
theorem pw_zip {α : Type} {R : α → α → Prop} : ∀ {l : List α}, l.Pairwise R → ∀ q ∈ l.zip (l.drop 1), R q.1 q.2
  | [], _, q, hq => by simp at hq
  | [a], _, q, hq => by simp at hq
  | a :: b :: r, h, q, hq => by
    rw [List.drop_one, List.tail_cons, List.zip_cons_cons] at hq
    obtain ⟨h1, h2⟩ := List.pairwise_cons.mp h
    rcases List.mem_cons.mp hq with z | z
    · rw [z]
      exact h1 b List.mem_cons_self
    · refine pw_zip h2 q ?_
      rw [List.drop_one, List.tail_cons]
      exact z
theorem rowsOk_of {ps : List (Int × Int)} (hl : ps.length ≤ 4) (ha : ∀ p ∈ ps, (1 ≤ p.1 ∧ p.1 ≤ 95) ∧ 0 ≤ p.2 ∧ p.2 ≤ 1000000) (hp : ps.Pairwise fun a b => a.1 < b.1 ∧ a.2 ≤ b.2) : rowsOk ps = true := by
  unfold rowsOk
  rw [Bool.and_eq_true, Bool.and_eq_true, decide_eq_true_eq]
  exact ⟨hl, List.all_eq_true.mpr fun p h => rowOk_iff.mpr (ha p h), List.all_eq_true.mpr fun q h => adjOk_iff.mpr (pw_zip hp q h)⟩
theorem rowsOk_pw {ps : List (Int × Int)} (h : rowsOk ps = true) : ps.length ≤ 4 ∧ (∀ p ∈ ps, (1 ≤ p.1 ∧ p.1 ≤ 95) ∧ 0 ≤ p.2 ∧ p.2 ≤ 1000000) ∧ ps.Pairwise fun a b => a.1 < b.1 ∧ a.2 ≤ b.2 := by
  have ha := rowsOk_asc h
  unfold rowsOk at h
  rw [Bool.and_eq_true, Bool.and_eq_true, decide_eq_true_eq] at h
  obtain ⟨h1, h2, _⟩ := h
  refine ⟨h1, fun p hp => rowOk_iff.mp (List.all_eq_true.mp h2 p hp), ?_⟩
  have key : ∀ (l : List (Int × Int)) (s q : Int), Asc l s q → (∀ p ∈ l, s < p.1 ∧ q ≤ p.2) ∧ l.Pairwise fun a b => a.1 < b.1 ∧ a.2 ≤ b.2 := by
    intro l
    induction l with
    | nil => intro s q _; exact ⟨fun p hp => absurd hp (by simp), .nil⟩
    | cons a r ih =>
      intro s q h
      obtain ⟨u, p⟩ := a
      obtain ⟨a1, a2, _, _, a5⟩ := h
      obtain ⟨i1, i2⟩ := ih u p a5
      refine ⟨fun x hx => ?_, List.pairwise_cons.mpr ⟨fun x hx => i1 x hx, i2⟩⟩
      rcases List.mem_cons.mp hx with z | z
      · rw [z]; exact ⟨a1, a2⟩
      · have := i1 x z
        omega
  exact (key ps 0 0 ha).2
theorem rowsOk_take {ps : List (Int × Int)} (h : rowsOk ps = true) (n : Nat) : rowsOk (ps.take n) = true := by
  obtain ⟨h1, h2, h3⟩ := rowsOk_pw h
  exact rowsOk_of (by rw [List.length_take]; omega) (fun p hp => h2 p (List.mem_of_mem_take hp)) (h3.sublist (List.take_sublist _ _))
theorem capOk_some {c : Int} (h0 : 0 ≤ c) (h1 : c ≤ 1000000) : capOk (some c) = true := by
  show (decide (0 ≤ c) && decide (c ≤ 1000000)) = true
  rw [decide_eq_true h0, decide_eq_true h1] <;> rfl
/-- the last until one less -/
theorem rowsOk_last {ps : List (Int × Int)} {pl : Int × Int} (h : rowsOk ps = true) (hl : ps[ps.length - 1]? = some pl) (h1 : 1 < pl.1) (h2 : ∀ x, 2 ≤ ps.length → ps[ps.length - 2]? = some x → x.1 < pl.1 - 1) : rowsOk (ps.take (ps.length - 1) ++ [(pl.1 - 1, pl.2)]) = true := by
  obtain ⟨k1, k2, k3⟩ := rowsOk_pw h
  have hm := k2 pl (List.mem_of_getElem? hl)
  obtain ⟨hlt, hle⟩ := List.getElem?_eq_some_iff.mp hl
  refine rowsOk_of (by rw [List.length_append, List.length_take]; show min _ _ + 1 ≤ 4; omega) (fun p hp => ?_) ?_
  · rcases List.mem_append.mp hp with z | z
    · exact k2 p (List.mem_of_mem_take z)
    · rw [List.mem_singleton.mp z]
      show (1 ≤ pl.1 - 1 ∧ pl.1 - 1 ≤ 95) ∧ 0 ≤ pl.2 ∧ pl.2 ≤ 1000000
      omega
  · rw [List.pairwise_append]
    refine ⟨k3.sublist (List.take_sublist _ _), List.pairwise_singleton _ _, fun a ha b hb => ?_⟩
    rw [List.mem_singleton.mp hb]
    obtain ⟨j, hj, ej⟩ := List.getElem_of_mem ha
    rw [List.length_take] at hj
    rw [List.getElem_take] at ej
    have q := List.pairwise_iff_getElem.mp k3 j (ps.length - 1) (by omega) hlt (by omega)
    rw [ej, hle] at q
    refine ⟨?_, q.2⟩
    show a.1 < pl.1 - 1
    have hk : ps.length - 2 < ps.length := by omega
    have c := h2 _ (by omega) (List.getElem?_eq_getElem hk)
    by_cases z : j = ps.length - 2
    · subst z
      rw [ej] at c
      exact c
    · have q2 := List.pairwise_iff_getElem.mp k3 j (ps.length - 2) (by omega) hk (by omega)
      rw [ej] at q2
      omega
structure Ok (t : Tar) : Prop where
  g0 : 0 ≤ t.grace
  g1 : t.grace ≤ 96
  ro : rowsOk t.rows = true
  u0 : 1 ≤ t.unit
  u1 : t.unit ≤ 96
  m0 : 0 ≤ t.more
  m1 : t.more ≤ 1000000
  ca : capOk t.cap = true
theorem ok_iff {t : Tar} : tarOk t = true ↔ Ok t := by
  unfold tarOk
  simp only [Bool.and_eq_true, decide_eq_true_eq]
  exact ⟨fun ⟨⟨a, b⟩, c, ⟨d, e⟩, ⟨f, g⟩, h⟩ => ⟨a, b, c, d, e, f, g, h⟩, fun ⟨a, b, c, d, e, f, g, h⟩ => ⟨⟨a, b⟩, c, ⟨d, e⟩, ⟨f, g⟩, h⟩⟩
theorem Ok.len {t : Tar} (o : Ok t) : t.rows.length ≤ 1000 := by
  have h := o.ro
  unfold rowsOk at h
  rw [Bool.and_eq_true, decide_eq_true_eq] at h
  omega
theorem row_pos {t : Tar} (o : Ok t) {i : Nat} {p : Int × Int} (h : t.rows[i]? = some p) : 1 ≤ p.1 := by
  have r := o.ro
  unfold rowsOk at r
  rw [Bool.and_eq_true, Bool.and_eq_true] at r
  exact (rowOk_iff.mp (List.all_eq_true.mp r.2.1 p (List.mem_of_getElem? h))).1.1
theorem ceil_le {x u : Int} (hu : 1 ≤ u) (hx : 0 ≤ x) : 0 ≤ (x + u - 1) / u ∧ (x + u - 1) / u ≤ x := by
  constructor
  · exact Int.ediv_nonneg (by omega) (by omega)
  · have h1 : x * 1 ≤ x * u := Int.mul_le_mul_of_nonneg_left hu hx
    have h2 : (x + u - 1) / u < x + 1 := Int.ediv_lt_of_lt_mul (by omega) (by rw [Int.add_mul]; omega)
    omega
theorem ceil_mono {x y u : Int} (hu : 1 ≤ u) (h : x ≤ y) : (x + u - 1) / u ≤ (y + u - 1) / u := Int.ediv_le_ediv (by omega) (by omega)
/-- the price ahead of the cap: its bounds, at least q -/
theorem raw_bd {L unit more : Int} (hu : 1 ≤ unit) (m0 : 0 ≤ more) (m1 : more ≤ 1000000) : ∀ (ps : List (Int × Int)) (s q : Int), Asc ps s q → 0 ≤ s → s ≤ L → L ≤ 96 → 0 ≤ q → q ≤ 1000000 →
    q ≤ rawP L unit more ps s q ∧ rawP L unit more ps s q ≤ 97000000
  | [], s, q, _, h0, h1, h2, q0, q1 => by
    have c := ceil_le hu (show 0 ≤ L - s by omega)
    unfold rawP
    have a := Int.mul_nonneg m0 c.1
    have b : more * ((L - s + unit - 1) / unit) ≤ 1000000 * 96 := Int.mul_le_mul m1 (by omega) c.1 (by omega)
    omega
  | (u, p) :: r, s, q, h, h0, h1, h2, q0, q1 => by
    obtain ⟨a1, a2, a3, a4, a5⟩ := h
    unfold rawP
    by_cases c : L ≤ u
    · rw [if_pos c]; omega
    · rw [if_neg c]
      have ih := raw_bd (L := L) hu m0 m1 r u p a5 (by omega) (by omega) h2 (by omega) a4
      omega
theorem raw_mono {L M unit more : Int} (hu : 1 ≤ unit) (m0 : 0 ≤ more) (m1 : more ≤ 1000000) (hLM : L ≤ M) : ∀ (ps : List (Int × Int)) (s q : Int), Asc ps s q → 0 ≤ s → s ≤ L → M ≤ 96 → 0 ≤ q → q ≤ 1000000 →
    rawP L unit more ps s q ≤ rawP M unit more ps s q
  | [], s, q, _, h0, h1, h2, q0, q1 => by
    unfold rawP
    have c := ceil_mono hu (show L - s ≤ M - s by omega)
    have a := Int.mul_le_mul_of_nonneg_left c m0
    omega
  | (u, p) :: r, s, q, h, h0, h1, h2, q0, q1 => by
    obtain ⟨a1, a2, a3, a4, a5⟩ := h
    unfold rawP
    by_cases c : L ≤ u
    · rw [if_pos c]
      by_cases d : M ≤ u
      · rw [if_pos d]; omega
      · rw [if_neg d]
        exact (raw_bd hu m0 m1 r u p a5 (by omega) (by omega) h2 (by omega) a4).1
    · rw [if_neg c, if_neg (by omega)]
      exact raw_mono hu m0 m1 hLM r u p a5 (by omega) (by omega) h2 (by omega) a4
theorem capped_mono {c : Option Int} {x y : Int} (h : x ≤ y) : capped c x ≤ capped c y := by
  cases c with
  | none => exact h
  | some c => show min c x ≤ min c y; omega
theorem capped_bd {c : Option Int} {x : Int} (hc : capOk c = true) (h : 0 ≤ x) : 0 ≤ capped c x ∧ capped c x ≤ x := by
  cases c with
  | none => exact ⟨h, Int.le_refl _⟩
  | some c =>
    simp [capOk] at hc
    show 0 ≤ min c x ∧ min c x ≤ x
    omega
section
variable {t : Tar} (o : Ok t)
include o
theorem day_bd {L : Int} (h0 : 0 ≤ L) (h1 : L ≤ 96) : 0 ≤ dayP t L ∧ dayP t L ≤ 97000000 := by
  unfold dayP
  by_cases c : L ≤ t.grace
  · rw [if_pos c]; omega
  · rw [if_neg c]
    have r := raw_bd (L := L) o.u0 o.m0 o.m1 t.rows 0 0 (rowsOk_asc o.ro) (by omega) h0 h1 (by omega) (by omega)
    have b := capped_bd (x := rawP L t.unit t.more t.rows 0 0) o.ca r.1
    omega
theorem day_mono {a b : Int} (h0 : 0 ≤ a) (h : a ≤ b) (h1 : b ≤ 96) : dayP t a ≤ dayP t b := by
  by_cases c : a ≤ t.grace
  · have e : dayP t a = 0 := by unfold dayP; rw [if_pos c]
    rw [e]
    exact (day_bd o (by omega) h1).1
  · unfold dayP
    rw [if_neg c, if_neg (by omega)]
    exact capped_mono (raw_mono o.u0 o.m0 o.m1 h t.rows 0 0 (rowsOk_asc o.ro) (by omega) h0 h1 (by omega) (by omega))
end
end Ma

/-! Core: the steps of a reading (one lemma a word of the layer), the data of this program in the abstract heap. -/
namespace Sy
open PySem PySem.Spec PyProof.Rows L2
open Evl (Ex)
section
variable {σ σ' : L2.St} {H H' : Hp} {i j k : Int} {v x y : V} {ta tb te tv : TE} {K : PySem.W.Frag} {Q : VK} {D : Ends} {t u : TS} {tt tu : TT} {g : TG}
theorem st_eq (e : σ = σ') (h : t D σ' H) : t D σ H := e ▸ h
/-! ### values -/
theorem g_var {n : Nat} (h : σ[n]? = some (some v)) (q : Q v H) : tVar n σ H Q := ⟨v, h, q⟩
theorem g_c (q : Q v H) : tC v σ H Q := q
theorem g_op {r : R2} (h : ta σ H fun x H1 => tb σ H1 fun y H2 => r x y H2 Q) : tOp r ta tb σ H Q := h
theorem g_un {r : V → Hp → VK → Prop} (h : ta σ H fun x H1 => r x H1 Q) : tUn r ta σ H Q := h
theorem g_I0 {f : Int → Int → V} (q : Q (f i j) H) : rI0 f (.int i) (.int j) H Q := ⟨i, j, rfl, rfl, q⟩
theorem g_I {C : Int → Int → Prop} {f : Int → Int → V} (q : Q (f i j) H) (c : C i j) : rI C f (.int i) (.int j) H Q := ⟨i, j, rfl, rfl, c, q⟩
theorem g_U {f : Int → V} (q : Q (f i) H) : rU f (.int i) H Q := ⟨i, rfl, q⟩
theorem g_eqI (q : Q (.bl (decide (i = j))) H) : rEq (.int i) (.int j) H Q := by
  refine ⟨rfl, ?_⟩
  have e : decide (V.int i = V.int j) = decide (i = j) := by
    by_cases h : i = j
    · simp [h]
    · rw [decide_eq_false h, decide_eq_false (fun z => h (V.int.inj z))]
  rw [e]
  exact q
theorem g_neI (q : Q (.bl (!decide (i = j))) H) : rNe (.int i) (.int j) H Q := by
  refine ⟨rfl, ?_⟩
  have e : decide (V.int i = V.int j) = decide (i = j) := by
    by_cases h : i = j
    · simp [h]
    · rw [decide_eq_false h, decide_eq_false (fun z => h (V.int.inj z))]
  rw [e]
  exact q
theorem g_eqB {a b : Bool} (q : Q (.bl (decide (a = b))) H) : rEq (.bl a) (.bl b) H Q := by
  refine ⟨rfl, ?_⟩
  have e : decide (V.bl a = V.bl b) = decide (a = b) := by cases a <;> cases b <;> rfl
  rw [e]
  exact q
theorem g_neB {a b : Bool} (q : Q (.bl (!decide (a = b))) H) : rNe (.bl a) (.bl b) H Q := by
  refine ⟨rfl, ?_⟩
  have e : decide (V.bl a = V.bl b) = decide (a = b) := by cases a <;> cases b <;> rfl
  rw [e]
  exact q
/-! ### tests -/
theorem g_test {R : Bool → Hp → Prop} (h : te σ H fun x H' => ∃ k, x = .bl k ∧ R k H') : tTest te σ H R := h
theorem g_B {R : Bool → Hp → Prop} (h : te σ H fun x H' => ∃ k, x = .bl k ∧ R k H') : tB te σ H R := h
theorem g_k {b : Bool} {R : Bool → Prop} (q : R b) : ∃ k, V.bl b = .bl k ∧ R k := ⟨b, rfl, q⟩
theorem g_and {R : Bool → Hp → Prop} (h : tt σ H fun c H1 => if c = true then tu σ H1 R else R false H1) : tAnd tt tu σ H R := h
theorem g_or {R : Bool → Hp → Prop} (h : tt σ H fun c H1 => if c = true then R true H1 else tu σ H1 R) : tOr tt tu σ H R := h
theorem g_not {R : Bool → Hp → Prop} (h : tt σ H fun c H1 => R (!c) H1) : tNot tt σ H R := h
theorem g_andV (h : ta σ H fun x H1 => ∃ c, x = .bl c ∧ if c = true then tb σ H1 Q else Q (.bl false) H1) : tAndV ta tb σ H Q := h
theorem g_orV (h : ta σ H fun x H1 => ∃ c, x = .bl c ∧ if c = true then Q (.bl true) H1 else tb σ H1 Q) : tOrV ta tb σ H Q := h
theorem g_notV (h : ta σ H fun x H1 => ∃ c, x = .bl c ∧ Q (.bl (!c)) H1) : tNotV ta σ H Q := h
theorem g_if (h : tt σ H fun c H1 => if c = true then ta σ H1 Q else tb σ H1 Q) : tIf tt ta tb σ H Q := h
theorem g_chain {r r' : R2} {tc : TE} (h : ta σ H fun x H1 => tb σ H1 fun y H2 => r x y H2 fun z H3 => ∃ k, z = .bl k ∧ (if k = true then tc σ H3 fun w' H4 => r' y w' H4 Q else Q (.bl false) H3)) : tChain r r' ta tb tc σ H Q := h
/-! ### arguments, calls -/
theorem g_nil {R : List V → Hp → Prop} (q : R [] H) : tNil σ H R := q
theorem g_cons {tr : TA} {R : List V → Hp → Prop} (h : ta σ H fun x H1 => tr σ H1 fun xs H2 => R (x :: xs) H2) : tCons ta tr σ H R := h
theorem g_cb {r : List V → Hp → VK → Prop} {tr : TA} (h : tr σ H fun vs H1 => r vs H1 Q) : tCB r tr σ H Q := h
theorem g_call {sp : Sp} {E : XK} {tr : TA} (h : tr σ H fun vs H1 => sp (vs ++ []) H1 Q E) : tCall sp [] E tr σ H Q := h
def MkTup (xs : List V) (H : Hp) (Q : VK) : Prop := xs.length ≤ sizeLine ∧ ∀ p, H p = none → Q (.ref p) (upd H p (.tup xs))
def MkLst (xs : List V) (H : Hp) (Q : VK) : Prop := xs.length ≤ sizeLine ∧ ∀ p, H p = none → Q (.ref p) (upd H p (.lst xs))
theorem g_tup {tr : TA} (h : tr σ H fun xs H1 => MkTup xs H1 Q) : tTup tr σ H Q := h
theorem g_lst {tr : TA} (h : tr σ H fun xs H1 => MkLst xs H1 Q) : tLst tr σ H Q := h
/-! ### statements -/
theorem g_seq (h : t { D with nx := u D } σ H) : tSeq t u D σ H := h
theorem g_next (h : D.nx σ H) : tNext D σ H := h
theorem g_asg (h : te σ H fun x H1 => g x σ H1 D.nx) : tAsg te g D σ H := h
theorem g_name {n : Nat} {R : L2.St → Hp → Prop} (h : R (σ.set n (some v)) H) : gName n v σ H R := h
theorem g_par {a b : Nat} {tr : TA} (h : tr σ H fun vs H1 => ∃ v w, vs = [v, w] ∧ D.nx ((σ.set a (some v)).set b (some w)) H1) : tPar a b tr D σ H := h
theorem g_two {R : V → V → Prop} (q : R x y) : ∃ v w, [x, y] = [v, w] ∧ R v w := ⟨x, y, rfl, q⟩
theorem g_ifS (h : tt σ H fun b H1 => if b = true then t D σ H1 else u D σ H1) : tIfS tt t u D σ H := h
theorem g_ret (h : te σ H D.rt) : tRet te D σ H := h
theorem g_drop (h : te σ H fun _ H1 => D.nx σ H1) : tDrop te D σ H := h
theorem g_gtup {n : Nat} {tg : TGs} {R : L2.St → Hp → Prop} {p : Addr} {xs : List V} (h : SqT K H p xs) (hn : xs.length = n) (q : tg xs σ H R) : gTup K n tg (.ref p) σ H R := ⟨p, xs, rfl, h, hn, q⟩
theorem g_gnil {R : L2.St → Hp → Prop} (q : R σ H) : gNil [] σ H R := ⟨rfl, q⟩
theorem g_gcons {tg : TG} {tgs : TGs} {xs : List V} {R : L2.St → Hp → Prop} (q : tg x σ H fun σ' H' => tgs xs σ' H' R) : gCons tg tgs (x :: xs) σ H R := ⟨x, xs, rfl, q⟩
/-! ### branches -/
theorem b_true {c A B : Prop} [Decidable c] (hc : c) (h : A) : if decide c = true then A else B := by rw [decide_eq_true hc, if_pos rfl]; exact h
theorem b_false {c A B : Prop} [Decidable c] (hc : ¬ c) (h : B) : if decide c = true then A else B := by rw [decide_eq_false hc, if_neg Bool.false_ne_true]; exact h
theorem b_dec {c A B : Prop} [Decidable c] (h1 : c → A) (h2 : ¬ c → B) : if decide c = true then A else B := by
  by_cases h : c
  · exact b_true h (h1 h)
  · exact b_false h (h2 h)
theorem n_true {c A B : Prop} [Decidable c] (hc : ¬ c) (h : A) : if (!decide c) = true then A else B := by rw [decide_eq_false hc]; exact h
theorem n_false {c A B : Prop} [Decidable c] (hc : c) (h : B) : if (!decide c) = true then A else B := by rw [decide_eq_true hc, Bool.not_true, if_neg Bool.false_ne_true]; exact h
theorem n_dec {c A B : Prop} [Decidable c] (h1 : ¬ c → A) (h2 : c → B) : if (!decide c) = true then A else B := by
  by_cases h : c
  · exact n_false h (h2 h)
  · exact n_true h (h1 h)
theorem b_bool {b : Bool} {A B : Prop} (h1 : b = true → A) (h2 : b = false → B) : if b = true then A else B := by
  cases b
  · exact h2 rfl
  · exact h1 rfl
theorem b_T {A B : Prop} (h : A) : if true = true then A else B := h
theorem b_F {A B : Prop} (h : B) : if false = true then A else B := h
theorem b_nF {A B : Prop} (h : A) : if (!false) = true then A else B := h
theorem b_nT {A B : Prop} (h : B) : if (!true) = true then A else B := h
/-! ### named readings of rules that have none -/
def rMax2 : List V → Hp → VK → Prop := fun xs H Q => ∃ i j, xs = [.int i, .int j] ∧ Q (.int (if j > i then j else i)) H
def rMin2 : List V → Hp → VK → Prop := fun xs H Q => ∃ i j, xs = [.int i, .int j] ∧ Q (.int (if j < i then j else i)) H
theorem c_max2 {X : Cx} (hc : X.calm = true) : CallR X (.builtin "max") rMax2 := call_max2 hc
theorem c_min2 {X : Cx} (hc : X.calm = true) : CallR X (.builtin "min") rMin2 := call_min2 hc
theorem g_max2 (q : Q (.int (max i j)) H) : rMax2 [.int i, .int j] H Q := ⟨i, j, rfl, by
  have e : (if j > i then j else i) = max i j := by
    by_cases h : j > i
    · rw [if_pos h]; omega
    · rw [if_neg h]; omega
  rw [e]; exact q⟩
theorem g_min2 (q : Q (.int (min i j)) H) : rMin2 [.int i, .int j] H Q := ⟨i, j, rfl, by
  have e : (if j < i then j else i) = min i j := by
    by_cases h : j < i
    · rw [if_pos h]; omega
    · rw [if_neg h]; omega
  rw [e]; exact q⟩
def rIsN : R2 := fun x y H Q => y = .non ∧ Q (.bl (decide (x = .non))) H
def rNotN : R2 := fun x y H Q => y = .non ∧ Q (.bl (!decide (x = .non))) H
theorem o_isN {X : Cx} : OpR X (compareOp .Is) rIsN := op_isN
theorem o_notN {X : Cx} : OpR X (compareOp .IsNot) rNotN := op_notN
/-- an int or nothing -/
def ov : Option Int → V
  | none => .non
  | some i => .int i
theorem ov_some (c : Int) : ov (some c) = .int c := rfl
theorem ov_none : ov none = .non := rfl
theorem g_isN {o : Option Int} (q : Q (.bl (decide (o = none))) H) : rIsN (ov o) .non H Q := by
  refine ⟨rfl, ?_⟩
  cases o with
  | none => exact q
  | some i => exact q
theorem g_notN {o : Option Int} (q : Q (.bl (!decide (o = none))) H) : rNotN (ov o) .non H Q := by
  refine ⟨rfl, ?_⟩
  cases o with
  | none => exact q
  | some i => exact q
theorem g_isNi (q : Q (.bl false) H) : rIsN (.int i) .non H Q := ⟨rfl, q⟩
theorem g_isNn (q : Q (.bl true) H) : rIsN .non .non H Q := ⟨rfl, q⟩
theorem g_notNi (q : Q (.bl true) H) : rNotN (.int i) .non H Q := ⟨rfl, q⟩
theorem g_notNn (q : Q (.bl false) H) : rNotN .non .non H Q := ⟨rfl, q⟩
/-- items -/
theorem g_ixL {p : Addr} {xs : List V} (h : SqL K H p xs) (ha : atI xs i = some v) (q : Q v H) : rIxL K (.ref p) (.int i) H Q := ⟨p, xs, i, v, rfl, rfl, h, ha, q⟩
theorem g_ixT {p : Addr} {xs : List V} (h : SqT K H p xs) (ha : atI xs i = some v) (q : Q v H) : rIxT K (.ref p) (.int i) H Q := ⟨p, xs, i, v, rfl, rfl, h, ha, q⟩
def rLenQ (K : PySem.W.Frag) : List V → Hp → VK → Prop := fun xs H Q => ∃ p ys, xs = [.ref p] ∧ (SqL K H p ys ∨ SqT K H p ys) ∧ Q (.int ys.length) H
theorem c_len {X : Cx} : CallR X (.builtin "len") (rLenQ X.K) := call_len_seq
theorem g_lenL {p : Addr} {xs : List V} (h : SqL K H p xs) (q : Q (.int (xs.length : Int)) H) : rLenQ K [.ref p] H Q := ⟨p, xs, rfl, .inl h, q⟩
theorem g_lenT {p : Addr} {xs : List V} (h : SqT K H p xs) (q : Q (.int (xs.length : Int)) H) : rLenQ K [.ref p] H Q := ⟨p, xs, rfl, .inr h, q⟩
def rTupOf (K : PySem.W.Frag) : List V → Hp → VK → Prop := fun xs H Q => ∃ p ys, xs = [.ref p] ∧ ((SqL K H p ys ∧ ∀ l, H l = none → Q (.ref l) (upd H l (.tup ys))) ∨ (SqT K H p ys ∧ Q (.ref p) H))
theorem c_tuple_of {X : Cx} : CallR X (.type "tuple") (rTupOf X.K) := call_tuple_of
/-- isinstance, a built-in type -/
theorem g_isi {x : V} {a c : String} {b : Bool} (ty : TyX K H x (.type a)) (h : kitB a c = some b) (q : Q (.bl b) H) : rIsi K [x, .ty c] H Q := ⟨x, .ty c, .type a, .type c, b, rfl, .ty c, ty, kit_ty h, q⟩
theorem ty_int : TyX K H (.int i) (.type "int") := .base (.int i)
theorem ty_tupT {p : Addr} {xs : List V} (h : SqT K H p xs) : TyX K H (.ref p) (.type "tuple") := by
  rcases h with (h | ⟨o, h⟩) | ⟨o, its, n, h, hc, _⟩
  · exact .base (.tup h)
  · exact .fTuple h
  · exact .kTuple h hc
end
end Sy
namespace Sy
open PySem PySem.Spec PyProof.Rows L2
open Evl (Ex)
/-! ### defs by names -/
def fdOf (K : PySem.W.Frag) (a : Addr) : FuncData := match K.lookup a with
  | some ⟨_, _, .func fd, _⟩ => fd
  | _ => default
theorem fd_of {K : PySem.W.Frag} {x qual : Str} {params : Arguments} {body : List Stmt} {scope : Scope} {dvs : List V} {kws : List (Str × V)} {f : Addr} (h : ∃ fd, FunD K x qual params body scope dvs kws f fd) :
    FunD K x qual params body scope dvs kws f (fdOf K f) := by
  obtain ⟨fd, F⟩ := h
  obtain ⟨oc, od, dV, kV, doc, pm, an, cdv, ct, osl, e, lk, _⟩ := F.ex
  have e2 : fdOf K f = fd := by
    unfold fdOf
    rw [lk]
  rw [e2]
  exact F
/-! ### paired lists -/
section
variable {α β : Type} {F G : α → β → Prop}
theorem pd_len {xs : List α} {ys : List β} (h : Paired F xs ys) : xs.length = ys.length := Paired.length h
theorem pd_at : ∀ {xs : List α} {ys : List β} {i : Nat} {x : α}, Paired F xs ys → xs[i]? = some x → ∃ y, ys[i]? = some y ∧ F x y
  | _, _, _, _, .nil, h => by simp at h
  | _, _, 0, _, .cons r _, h => by simp at h; subst h; exact ⟨_, rfl, r⟩
  | _, _, i + 1, x, .cons _ t, h => by
    obtain ⟨y, e, r⟩ := pd_at (i := i) (x := x) t (by simpa using h)
    exact ⟨y, by simpa using e, r⟩
theorem pd_at2 : ∀ {xs : List α} {ys : List β} {i : Nat} {y : β}, Paired F xs ys → ys[i]? = some y → ∃ x, xs[i]? = some x ∧ F x y
  | _, _, _, _, .nil, h => by simp at h
  | _, _, 0, _, .cons r _, h => by simp at h; subst h; exact ⟨_, rfl, r⟩
  | _, _, i + 1, x, .cons _ t, h => by
    obtain ⟨y, e, r⟩ := pd_at2 (i := i) (y := x) t (by simpa using h)
    exact ⟨y, by simpa using e, r⟩
theorem pd_imp : ∀ {xs : List α} {ys : List β}, (∀ a b, F a b → G a b) → Paired F xs ys → Paired G xs ys
  | _, _, _, .nil => .nil
  | _, _, f, .cons r t => .cons (f _ _ r) (pd_imp f t)
theorem pd_app : ∀ {xs xs' : List α} {ys ys' : List β}, Paired F xs ys → Paired F xs' ys' → Paired F (xs ++ xs') (ys ++ ys')
  | _, _, _, _, .nil, h => h
  | _, _, _, _, .cons r t, h => .cons r (pd_app t h)
theorem pd_one {a : α} {b : β} (h : F a b) : Paired F [a] [b] := .cons h .nil
theorem pd_take : ∀ (n : Nat) {xs : List α} {ys : List β}, Paired F xs ys → Paired F (xs.take n) (ys.take n)
  | 0, _, _, _ => .nil
  | _ + 1, _, _, .nil => .nil
  | n + 1, _, _, .cons r t => .cons r (pd_take n t)
theorem pd_drop : ∀ (n : Nat) {xs : List α} {ys : List β}, Paired F xs ys → Paired F (xs.drop n) (ys.drop n)
  | 0, _, _, h => h
  | _ + 1, _, _, .nil => .nil
  | n + 1, _, _, .cons _ t => pd_drop n t
theorem pd_rev {xs : List α} {ys : List β} (h : Paired F xs ys) : Paired F xs.reverse ys.reverse := by
  induction h with
  | nil => exact .nil
  | cons r t ih =>
    rw [List.reverse_cons, List.reverse_cons]
    exact pd_app ih (pd_one r)
end
/-! ### the data of the program in a heap -/
section
variable (K : PySem.W.Frag) (H : Hp)
/-- a pair of ints -/
def Pr (v : V) (p : Int × Int) : Prop := ∃ a, v = .ref a ∧ SqT K H a [.int p.1, .int p.2]
/-- a tuple of pairs; a list of pairs -/
def TPr (v : V) (ps : List (Int × Int)) : Prop := ∃ a vs, v = .ref a ∧ SqT K H a vs ∧ Paired (Pr K H) vs ps
def LPr (v : V) (ps : List (Int × Int)) : Prop := ∃ a vs, v = .ref a ∧ SqL K H a vs ∧ Paired (Pr K H) vs ps
def LI (v : V) (ns : List Int) : Prop := ∃ a, v = .ref a ∧ SqL K H a (ns.map V.int)
def TIn (v : V) (ns : List Int) : Prop := ∃ a, v = .ref a ∧ SqT K H a (ns.map V.int)
end
def TarAt (K : PySem.W.Frag) (H : Hp) (v : V) (t : Tar) : Prop := ∃ a r, v = .ref a ∧ SqT K H a [.int t.grace, r, .int t.unit, .int t.more, ov t.cap] ∧ TPr K H r t.rows
def TarsAt (K : PySem.W.Frag) (H : Hp) (v : V) (ts : List Tar) : Prop := ∃ a vs, v = .ref a ∧ SqT K H a vs ∧ Paired (TarAt K H) vs ts
section
variable {K : PySem.W.Frag} {H H' : Hp} {v : V}
theorem Pr.ex {p : Int × Int} (e : Ex H H') (h : Pr K H v p) : Pr K H' v p := by
  obtain ⟨a, rfl, h⟩ := h
  exact ⟨a, rfl, Evl.ex_t e h⟩
theorem prs_ex {vs : List V} {ps : List (Int × Int)} (e : Ex H H') (h : Paired (Pr K H) vs ps) : Paired (Pr K H') vs ps := pd_imp (fun _ _ => Pr.ex e) h
theorem TPr.ex {ps : List (Int × Int)} (e : Ex H H') (h : TPr K H v ps) : TPr K H' v ps := by
  obtain ⟨a, vs, rfl, h, p⟩ := h
  exact ⟨a, vs, rfl, Evl.ex_t e h, prs_ex e p⟩
theorem LPr.ex {ps : List (Int × Int)} (e : Ex H H') (h : LPr K H v ps) : LPr K H' v ps := by
  obtain ⟨a, vs, rfl, h, p⟩ := h
  exact ⟨a, vs, rfl, Evl.ex_l e h, prs_ex e p⟩
theorem LI.ex {ns : List Int} (e : Ex H H') (h : LI K H v ns) : LI K H' v ns := by
  obtain ⟨a, rfl, h⟩ := h
  exact ⟨a, rfl, Evl.ex_l e h⟩
theorem TIn.ex {ns : List Int} (e : Ex H H') (h : TIn K H v ns) : TIn K H' v ns := by
  obtain ⟨a, rfl, h⟩ := h
  exact ⟨a, rfl, Evl.ex_t e h⟩
theorem TarAt.ex {t : Tar} (e : Ex H H') (h : TarAt K H v t) : TarAt K H' v t := by
  obtain ⟨a, r, rfl, h, p⟩ := h
  exact ⟨a, r, rfl, Evl.ex_t e h, p.ex e⟩
theorem tars_ex {vs : List V} {ts : List Tar} (e : Ex H H') (h : Paired (TarAt K H) vs ts) : Paired (TarAt K H') vs ts := pd_imp (fun _ _ => TarAt.ex e) h
theorem TarsAt.ex {ts : List Tar} (e : Ex H H') (h : TarsAt K H v ts) : TarsAt K H' v ts := by
  obtain ⟨a, vs, rfl, h, p⟩ := h
  exact ⟨a, vs, rfl, Evl.ex_t e h, tars_ex e p⟩
theorem map_at {α : Type} {f : α → V} {ns : List α} {i : Nat} {y : V} (h : (ns.map f)[i]? = some y) : ∃ z, ns[i]? = some z ∧ y = f z := by
  rw [List.getElem?_map] at h
  cases e : ns[i]? with
  | none =>
    rw [e] at h
    cases h
  | some z =>
    rw [e] at h
    exact ⟨z, rfl, (Option.some.inj h).symm⟩
end
end Sy
namespace Sy
open PySem PySem.Spec PyProof.Rows L2
open Evl (Ex)
/-! ### what is walked: n items, told by src -/
structure Drv (J : It) (n : Nat) (src : Nat → V → Hp → Hp → Prop) (ok : Hp → Prop) : Prop where
  go : ∀ i H, i < n → ok H → J.go i H
  stop : ∀ H, ok H → J.stop n H
  yld : ∀ i H x H', i < n → ok H → J.yld i H x H' → Ex H H' ∧ src i x H H'
section
variable {K : PySem.W.Frag}
theorem drv_list {a : Addr} {xs : List V} : Drv (Itl K a) xs.length (fun i x H H' => H' = H ∧ xs[i]? = some x) (fun H => SqL K H a xs) where
  go := fun i H h ok => ⟨xs, xs[i], ok, List.getElem?_eq_getElem h⟩
  stop := fun H ok => ⟨xs, ok, Nat.le_refl _⟩
  yld := fun i H x H' h ok y => by
    obtain ⟨rfl, q⟩ := y
    exact ⟨Ex.refl _, rfl, q xs ok⟩
theorem drv_tup {a : Addr} {xs : List V} : Drv (Itt K a) xs.length (fun i x H H' => H' = H ∧ xs[i]? = some x) (fun H => SqT K H a xs) where
  go := fun i H h ok => ⟨xs, xs[i], ok, List.getElem?_eq_getElem h⟩
  stop := fun H ok => ⟨xs, ok, Nat.le_refl _⟩
  yld := fun i H x H' h ok y => by
    obtain ⟨rfl, q⟩ := y
    exact ⟨Ex.refl _, rfl, q xs ok⟩
theorem drv_rng {lo : Int} {n : Nat} : Drv (Itr lo n) n (fun i x H H' => H' = H ∧ x = .int (lo + (i : Nat))) (fun _ => True) where
  go := fun i H h _ => h
  stop := fun H _ => Nat.le_refl _
  yld := fun i H x H' h _ y => by
    obtain ⟨rfl, q⟩ := y
    exact ⟨Ex.refl _, rfl, q⟩
theorem drv_enum {a : Addr} {xs : List V} : Drv (Ite K a) xs.length (fun i x H H' => ∃ T y, x = .ref T ∧ H T = none ∧ H' T = some (.tup [.int (i : Nat), y]) ∧ xs[i]? = some y) (fun H => SqL K H a xs) where
  go := fun i H h ok => ⟨xs, xs[i], ok, List.getElem?_eq_getElem h⟩
  stop := fun H ok => ⟨xs, ok, Nat.le_refl _⟩
  yld := fun i H x H' h ok y => by
    obtain ⟨T, z, rfl, hT, rfl, q⟩ := y
    exact ⟨Ex.new hT, T, z, rfl, hT, upd_same, q xs ok⟩
theorem drv_zipL {a b : Addr} {xs ys : List V} {n : Nat} (e : n = min xs.length ys.length) : Drv (Itz K a b) n (fun i v H H' => ∃ T x y, v = .ref T ∧ H T = none ∧ H' T = some (.tup [x, y]) ∧ xs[i]? = some x ∧ ys[i]? = some y) (fun H => SqL K H a xs ∧ SqL K H b ys) where
  go := fun i H h ok => ⟨xs, ys, xs[i]'(by omega), ys[i]'(by omega), ok.1, ok.2, List.getElem?_eq_getElem _, List.getElem?_eq_getElem _⟩
  stop := fun H ok => ⟨xs, ys, ok.1, ok.2, by omega⟩
  yld := fun i H x H' h ok y => by
    obtain ⟨T, z, u, rfl, hT, rfl, q1, q2⟩ := y
    exact ⟨Ex.new hT, T, z, u, rfl, hT, upd_same, q1 xs ok.1, q2 ys ok.2⟩
theorem drv_zipT {a b : Addr} {xs ys : List V} {n : Nat} (e : n = min xs.length ys.length) : Drv (RZ.ItzT K a b) n (fun i v H H' => ∃ T x y, v = .ref T ∧ H T = none ∧ H' T = some (.tup [x, y]) ∧ xs[i]? = some x ∧ ys[i]? = some y) (fun H => SqT K H a xs ∧ SqT K H b ys) where
  go := fun i H h ok => ⟨xs, ys, xs[i]'(by omega), ys[i]'(by omega), ok.1, ok.2, List.getElem?_eq_getElem _, List.getElem?_eq_getElem _⟩
  stop := fun H ok => ⟨xs, ys, ok.1, ok.2, by omega⟩
  yld := fun i H x H' h ok y => by
    obtain ⟨T, z, u, rfl, hT, rfl, q1, q2⟩ := y
    exact ⟨Ex.new hT, T, z, u, rfl, hT, upd_same, q1 xs ok.1, q2 ys ok.2⟩
end
/-- a for loop over J, from (σ, H) -/
def ForW (J : It) (g : TG) (tb : TS) (D : Ends) (σ : L2.St) (H : Hp) : Prop := ∃ W : Nat → Nat → L2.St → Hp → Prop, (∃ m, W 0 m σ H) ∧ ∀ i m σ H, W i m σ H →
  (J.stop i H ∧ D.nx σ H) ∨ (J.go i H ∧ ∃ N : L2.St → Hp → Prop, (∀ σ' H', N σ' H' → ∃ m', m' < m ∧ W (i + 1) m' σ' H') ∧ ∀ x H', J.yld i H x H' → g x σ H' fun σ2 H2 => tb { D with nx := N, ct := N, bk := D.nx } σ2 H2)
section
variable {K : PySem.W.Frag} {J : It} {n : Nat} {src : Nat → V → Hp → Hp → Prop} {ok : Hp → Prop} {g : TG} {tb : TS} {D : Ends} {σ : L2.St} {H : Hp} {wi : TI} {Q : VK} {tt : TT} {te : TE} {vs : List Nat}
theorem forJ (dr : Drv J n src ok) (Pv : Nat → L2.St → Hp → Prop) (h0 : Pv 0 σ H) (hl : ∀ i σ H, i ≤ n → Pv i σ H → ok H)
    (hs : ∀ i x σ H H', i < n → Pv i σ H → Ex H H' → src i x H H' → g x σ H' fun σ2 H2 => tb { D with nx := Pv (i + 1), ct := Pv (i + 1), bk := D.nx } σ2 H2) (hd : ∀ σ H, Pv n σ H → D.nx σ H) : ForW J g tb D σ H := by
  refine ⟨fun i m σ H => i ≤ n ∧ m = n - i ∧ Pv i σ H, ⟨n, Nat.zero_le _, rfl, h0⟩, ?_⟩
  rintro i m σ H ⟨hi, rfl, hP⟩
  have hok := hl i σ H hi hP
  by_cases c : i < n
  · refine .inr ⟨dr.go i H c hok, Pv (i + 1), fun σ' H' q => ⟨n - (i + 1), by omega, by omega, rfl, q⟩, fun x H' y => ?_⟩
    obtain ⟨e, s⟩ := dr.yld i H x H' c hok y
    exact hs i x σ H H' c hP e s
  · have e : i = n := by omega
    subst e
    exact .inl ⟨dr.stop H hok, hd σ H hP⟩
theorem g_for (h : wi σ H fun J H1 => ForW J g tb D σ H1) : tFor wi g tb D σ H := h
theorem g_iL {tl : TE} {R : It → Hp → Prop} (h : tl σ H fun x H1 => ∃ a, x = .ref a ∧ (∃ xs, SqL K H1 a xs) ∧ R (Itl K a) H1) : iList K tl σ H R := h
theorem g_iT {tl : TE} {R : It → Hp → Prop} (h : tl σ H fun x H1 => ∃ a, x = .ref a ∧ (∃ xs, SqT K H1 a xs) ∧ R (Itt K a) H1) : iTup K tl σ H R := h
theorem g_iE {ta : TA} {R : It → Hp → Prop} (h : ta σ H fun vs H1 => ∃ a xs, vs = [.ref a] ∧ SqL K H1 a xs ∧ R (Ite K a) H1) : iEnum K ta σ H R := h
theorem g_iZ {ta : TA} {R : It → Hp → Prop} (h : ta σ H fun vs H1 => ∃ a b xs ys, vs = [.ref a, .ref b] ∧ ((SqL K H1 a xs ∧ SqL K H1 b ys ∧ R (Itz K a b) H1) ∨ (SqT K H1 a xs ∧ SqT K H1 b ys ∧ R (RZ.ItzT K a b) H1))) : RZ.iZipA K ta σ H R := h
theorem g_iR1 {ta : TA} {R : It → Hp → Prop} (h : ta σ H fun vs H1 => ∃ j : Int, vs = [.int j] ∧ -(2 ^ 62) ≤ j ∧ j < 2 ^ 62 ∧ R (Itr 0 j.toNat) H1) : iRng1 ta σ H R := h
theorem g_iR2 {ta : TA} {R : It → Hp → Prop} (h : ta σ H fun vs H1 => ∃ i j : Int, vs = [.int i, .int j] ∧ (-(2 ^ 62) ≤ i ∧ i < 2 ^ 62 ∧ -(2 ^ 62) ≤ j ∧ j < 2 ^ 62) ∧ R (Itr i (j - i).toNat) H1) : iRng2 ta σ H R := h
theorem i_L {a : Addr} {xs : List V} {R : Addr → Prop} (h : SqL K H a xs) (q : R a) : ∃ b, V.ref a = .ref b ∧ (∃ xs, SqL K H b xs) ∧ R b := ⟨a, rfl, ⟨xs, h⟩, q⟩
theorem i_T {a : Addr} {xs : List V} {R : Addr → Prop} (h : SqT K H a xs) (q : R a) : ∃ b, V.ref a = .ref b ∧ (∃ xs, SqT K H b xs) ∧ R b := ⟨a, rfl, ⟨xs, h⟩, q⟩
theorem i_E {a : Addr} {xs : List V} {R : Addr → Prop} (h : SqL K H a xs) (q : R a) : ∃ b ys, [V.ref a] = [.ref b] ∧ SqL K H b ys ∧ R b := ⟨a, xs, rfl, h, q⟩
theorem i_ET {a : Addr} {xs : List V} {R : Addr → Prop} (h : SqT K H a xs) (q : R a) : ∃ b ys, [V.ref a] = [.ref b] ∧ SqT K H b ys ∧ R b := ⟨a, xs, rfl, h, q⟩
theorem i_ZL {a b : Addr} {xs ys : List V} {R S : Addr → Addr → Prop} (h : SqL K H a xs) (h2 : SqL K H b ys) (q : R a b) :
    ∃ a' b' xs ys, [V.ref a, V.ref b] = [.ref a', .ref b'] ∧ ((SqL K H a' xs ∧ SqL K H b' ys ∧ R a' b') ∨ (SqT K H a' xs ∧ SqT K H b' ys ∧ S a' b')) := ⟨a, b, xs, ys, rfl, .inl ⟨h, h2, q⟩⟩
theorem i_ZT {a b : Addr} {xs ys : List V} {R S : Addr → Addr → Prop} (h : SqT K H a xs) (h2 : SqT K H b ys) (q : S a b) :
    ∃ a' b' xs ys, [V.ref a, V.ref b] = [.ref a', .ref b'] ∧ ((SqL K H a' xs ∧ SqL K H b' ys ∧ R a' b') ∨ (SqT K H a' xs ∧ SqT K H b' ys ∧ S a' b')) := ⟨a, b, xs, ys, rfl, .inr ⟨h, h2, q⟩⟩
theorem i_R1 {j : Int} {R : Int → Prop} (h : 0 ≤ j ∧ j ≤ 1000000) (q : R j) : ∃ k : Int, [V.int j] = [.int k] ∧ -(2 ^ 62) ≤ k ∧ k < 2 ^ 62 ∧ R k := ⟨j, rfl, by omega, by omega, q⟩
theorem i_R2 {i j : Int} {R : Int → Int → Prop} (h : 0 ≤ i ∧ i ≤ 1000000 ∧ 0 ≤ j ∧ j ≤ 1000000) (q : R i j) : ∃ k l : Int, [V.int i, V.int j] = [.int k, .int l] ∧ (-(2 ^ 62) ≤ k ∧ k < 2 ^ 62 ∧ -(2 ^ 62) ≤ l ∧ l < 2 ^ 62) ∧ R k l := ⟨i, j, rfl, by omega, q⟩
/-! ### comprehensions -/
def LcW (J : It) (g : TG) (tt : TT) (te : TE) (vs : List Nat) (σ : L2.St) (Q : VK) (H1 : Hp) : Prop := ∀ D, H1 D = none → ∃ W : Nat → Nat → Hp → Prop, (∃ m, W 0 m (upd H1 D (.lst []))) ∧ ∀ i m H, W i m H →
  (J.stop i H ∧ Q (.ref D) H) ∨ (J.go i H ∧ ∃ Nx : Hp → Prop, (∀ H', Nx H' → ∃ m', m' < m ∧ W (i + 1) m' H') ∧ ∀ x H', J.yld i H x H' → g x (wipe σ vs) H' fun σ2 H2 => wipe σ2 vs = wipe σ vs ∧ tt σ2 H2 fun b H3 =>
    if b = true then te σ2 H3 fun y H4 => ∃ acc, H4 D = some (.lst acc) ∧ acc.length < sizeLine ∧ Nx (upd H4 D (.lst (acc ++ [y]))) else Nx H3)
theorem g_lc (h : wi σ H fun J H1 => LcW J g tt te vs σ Q H1) : tLc wi g tt te vs σ H Q := h
theorem g_yes {R : Bool → Hp → Prop} (q : R true H) : tYes σ H R := q
/-- what is made does not speak of the heap -/
theorem lcJ (dr : Drv J n src ok) (hm : ∀ H1, Ex H H1 → ok H1) (hn : n ≤ 1000000) (Iv : Nat → List V → Prop) (h0 : Iv 0 [])
    (hs : ∀ i x acc H1 H2 (Y : V → Hp → Prop) (Z : Hp → Prop), i < n → Iv i acc → Ex H H1 → Ex H1 H2 → src i x H1 H2 → (∀ y H5, Ex H2 H5 → Iv (i + 1) (acc ++ [y]) → Y y H5) → (∀ H5, Ex H2 H5 → Iv (i + 1) acc → Z H5) →
      g x (wipe σ vs) H2 fun σ2 H3 => wipe σ2 vs = wipe σ vs ∧ tt σ2 H3 fun b H4 => if b = true then te σ2 H4 Y else Z H4)
    (hd : ∀ p acc H2, H p = none → Ex H H2 → H2 p = some (.lst acc) → acc.length ≤ n → Iv n acc → Q (.ref p) H2) : LcW J g tt te vs σ Q H := by
  intro D hD
  refine ⟨fun i m H' => i ≤ n ∧ m = n - i ∧ ∃ acc, H' D = some (.lst acc) ∧ Ex H H' ∧ acc.length ≤ i ∧ Iv i acc, ⟨n, Nat.zero_le _, rfl, [], upd_same, Ex.new hD, Nat.le_refl _, h0⟩, ?_⟩
  rintro i m H1 ⟨hi, rfl, acc, hA, e, hl, iv⟩
  have hok := hm H1 e
  by_cases c : i < n
  · refine .inr ⟨dr.go i H1 c hok, (fun H' => ∃ acc, H' D = some (.lst acc) ∧ Ex H H' ∧ acc.length ≤ i + 1 ∧ Iv (i + 1) acc), fun H' q => ⟨n - (i + 1), by omega, by omega, rfl, q⟩, fun x H2 y => ?_⟩
    obtain ⟨e2, s⟩ := dr.yld i H1 x H2 c hok y
    refine hs i x acc H1 H2 _ _ c iv e e2 s (fun y H5 e5 iv5 => ?_) (fun H5 e5 iv5 => ?_)
    · have hA5 := e5 D _ (e2 D _ hA)
      refine ⟨acc, hA5, by have : (1000001 : Nat) ≤ sizeLine := by decide
                           omega, acc ++ [y], upd_same, Ex.mut ((e.trans e2).trans e5) hD, by rw [List.length_append]; show acc.length + 1 ≤ i + 1; omega, iv5⟩
    · exact ⟨acc, e5 D _ (e2 D _ hA), (e.trans e2).trans e5, by omega, iv5⟩
  · have en : i = n := by omega
    subst en
    exact .inl ⟨dr.stop H1 hok, hd D acc H1 hD e hA hl iv⟩
/-- one value an item -/
theorem lcMap (dr : Drv J n src ok) (hm : ∀ H1, Ex H H1 → ok H1) (hn : n ≤ 1000000) (f : Nat → V)
    (hs : ∀ i x H1 H2 (Y : V → Hp → Prop), i < n → Ex H H1 → Ex H1 H2 → src i x H1 H2 → (∀ H5, Ex H2 H5 → Y (f i) H5) → g x (wipe σ vs) H2 fun σ2 H3 => wipe σ2 vs = wipe σ vs ∧ te σ2 H3 Y)
    (hd : ∀ p H2, H p = none → Ex H H2 → H2 p = some (.lst ((List.range n).map f)) → Q (.ref p) H2) : LcW J g tYes te vs σ Q H := by
  refine lcJ dr hm hn (fun i acc => acc = (List.range i).map f) rfl (fun i x acc H1 H2 Y Z hi iv e1 e2 s hY hZ => ?_) (fun p acc H2 h1 h2 h3 _ iv => hd p H2 h1 h2 (iv ▸ h3))
  exact hs i x H1 H2 Y hi e1 e2 s (fun H5 e5 => hY _ H5 e5 (by rw [iv, List.range_succ, List.map_append]; rfl))
end
end Sy
namespace Sy
open PySem PySem.Spec PyProof.Rows L2
open Evl (Ex)
section
variable {K : PySem.W.Frag} {σ : L2.St} {H : Hp} {Q : VK} {te : TE} {tl th : TO} {i : Int} {v : V}
/-! ### new tuples, lists, slices, sums of tuples -/
theorem mk_tup {xs : List V} (hz : xs.length ≤ sizeLine) (q : ∀ p H', H p = none → Ex H H' → H' p = some (.tup xs) → Q (.ref p) H') : MkTup xs H Q :=
  ⟨hz, fun p hp => q p _ hp (Ex.new hp) upd_same⟩
theorem mk_lst {xs : List V} (hz : xs.length ≤ sizeLine) (q : ∀ p H', H p = none → Ex H H' → H' p = some (.lst xs) → Q (.ref p) H') : MkLst xs H Q :=
  ⟨hz, fun p hp => q p _ hp (Ex.new hp) upd_same⟩
theorem g_sl {r : V → Option Int → Option Int → Hp → VK → Prop} (h : te σ H fun x H1 => tl σ H1 fun l H2 => th σ H2 fun u H3 => r x l u H3 Q) : tSl r te tl th σ H Q := h
theorem g_part {R : Option Int → Hp → Prop} (h : te σ H fun x H1 => ∃ i, x = .int i ∧ R (some i) H1) : tPart te σ H R := h
theorem g_nopart {R : Option Int → Hp → Prop} (h : R none H) : tNoPart σ H R := h
theorem g_pi {R : Int → Prop} (q : R i) : ∃ k, V.int i = .int k ∧ R k := ⟨i, rfl, q⟩
theorem six_whole {xs : List V} {lo hi : Option Int} (h : HT.sIx xs.length 0 lo = 0 ∧ HT.sIx xs.length xs.length hi = xs.length) : cutV xs lo hi = xs := by
  unfold cutV
  rw [h.1, h.2]
  simp
theorem g_slA {p : Addr} {xs : List V} {lo hi : Option Int} (h : SqT K H p xs) (q : ∀ p' H', Ex H H' → SqT K H' p' (cutV xs lo hi) → Q (.ref p') H') : rSlA K (.ref p) lo hi H Q := by
  refine ⟨p, xs, rfl, h, fun w => ?_, fun _ p' hp => ?_⟩
  · refine q p H (Ex.refl _) ?_
    rw [six_whole w]
    exact h
  · exact q p' _ (Ex.new hp) (SqT.of upd_same)
theorem cut_from (xs : List V) (k : Nat) : cutV xs (some (k : Int)) none = xs.drop k := by
  unfold cutV
  rw [HT.sIx_nat, HT.sIx_none]
  rcases Nat.le_total k xs.length with h | h
  · rw [Nat.min_eq_left h, List.take_of_length_le]
    rw [List.length_drop]
    exact Nat.le_refl _
  · rw [Nat.min_eq_right h, List.drop_eq_nil_of_le (Nat.le_refl _), List.drop_eq_nil_of_le h, List.take_nil]
theorem cut_to (xs : List V) (k : Nat) : cutV xs none (some (k : Int)) = xs.take k := by
  unfold cutV
  rw [HT.sIx_nat, HT.sIx_none, List.drop_zero, Nat.sub_zero]
  rcases Nat.le_total k xs.length with h | h
  · rw [Nat.min_eq_left h]
  · rw [Nat.min_eq_right h, List.take_of_length_le (Nat.le_refl _), List.take_of_length_le h]
theorem cut_last (xs : List V) : cutV xs none (some (-1)) = xs.dropLast := by
  unfold cutV
  rw [HT.sIx_none, List.drop_zero, Nat.sub_zero]
  have e : HT.sIx xs.length xs.length (some (-1)) = xs.length - 1 := by
    show (if (-1 : Int) < 0 then (-1 + (xs.length : Int)).toNat else min (-1 : Int).toNat xs.length) = xs.length - 1
    rw [if_pos (by decide)]
    omega
  rw [e, List.dropLast_eq_take]
theorem g_catA {p r : Addr} {xs ys : List V} (h : SqT K H p xs) (h2 : SqT K H r ys) (hz : xs.length + ys.length ≤ sizeLine) (q : ∀ p' H', Ex H H' → SqT K H' p' (xs ++ ys) → Q (.ref p') H') : rCatA K (.ref p) (.ref r) H Q := by
  refine ⟨p, r, xs, ys, rfl, rfl, h, h2, hz, fun e => ?_, fun _ e => ?_, fun _ _ p' hp => ?_⟩
  · subst e
    exact q r H (Ex.refl _) h2
  · subst e
    refine q p H (Ex.refl _) ?_
    rw [List.append_nil]
    exact h
  · exact q p' _ (Ex.new hp) (SqT.of upd_same)
theorem g_cat {p r : Addr} {xs ys : List V} (h : H p = some (.lst xs)) (h2 : H r = some (.lst ys)) (hz : xs.length + ys.length ≤ sizeLine) (q : ∀ p' H', H p' = none → Ex H H' → H' p' = some (.lst (xs ++ ys)) → Q (.ref p') H') : rCat (.ref p) (.ref r) H Q :=
  ⟨p, r, xs, ys, rfl, rfl, h, h2, hz, fun p' hp => q p' _ hp (Ex.new hp) upd_same⟩
theorem g_slL {p : Addr} {xs : List V} {lo hi : Option Int} (h : SqL K H p xs) (q : ∀ p' H', H p' = none → Ex H H' → H' p' = some (.lst (cutV xs lo hi)) → Q (.ref p') H') : rSlL K (.ref p) lo hi H Q :=
  ⟨p, xs, rfl, h, fun p' hp => q p' _ hp (Ex.new hp) upd_same⟩
theorem g_tupOfL {p : Addr} {xs : List V} (h : SqL K H p xs) (q : ∀ p' H', H p' = none → Ex H H' → H' p' = some (.tup xs) → Q (.ref p') H') : rTupOf K [.ref p] H Q :=
  ⟨p, xs, rfl, .inl ⟨h, fun p' hp => q p' _ hp (Ex.new hp) upd_same⟩⟩
/-! ### all, any, sum, min, max of a list -/
theorem g_all {p : Addr} {bs : List Bool} (h : SqL K H p (bs.map V.bl)) (q : Q (.bl (bs.all id)) H) : rAll K [.ref p] H Q := ⟨p, bs, rfl, h, q⟩
theorem g_any {p : Addr} {bs : List Bool} (h : SqL K H p (bs.map V.bl)) (q : Q (.bl (bs.any id)) H) : rAny K [.ref p] H Q := ⟨p, bs, rfl, h, q⟩
theorem g_sum {p : Addr} {ns : List Int} (h : SqL K H p (ns.map V.int)) (q : Q (.int ns.sum) H) : rSum K [.ref p] H Q := ⟨p, ns, rfl, h, q⟩
theorem g_min {p : Addr} {ns : List Int} (h : SqL K H p (ns.map V.int)) (hn : 0 < ns.length) (q : ∀ m, m ∈ ns → (∀ y ∈ ns, m ≤ y) → Q (.int m) H) : rMin K [.ref p] H Q := ⟨p, ns, rfl, h, hn, fun m h1 h2 => q m h1 h2⟩
theorem g_max {p : Addr} {ns : List Int} (h : SqL K H p (ns.map V.int)) (hn : 0 < ns.length) (q : ∀ m, m ∈ ns → (∀ y ∈ ns, y ≤ m) → Q (.int m) H) : rMax K [.ref p] H Q := ⟨p, ns, rfl, h, hn, fun m h1 h2 => q m h1 h2⟩
theorem getD_of {α : Type} {l : List α} {i : Nat} {x d : α} (h : l[i]? = some x) : l.getD i d = x := by rw [List.getD_eq_getElem?_getD, h] <;> rfl
theorem range_getD {α β : Type} (f : α → β) (d : α) : ∀ l : List α, (List.range l.length).map (fun i => f (l.getD i d)) = l.map f := by
  intro l
  apply List.ext_getElem?
  intro i
  rw [List.getElem?_map, List.getElem?_map]
  rcases Nat.lt_or_ge i l.length with h | h
  · rw [List.getElem?_range h, List.getElem?_eq_getElem h]
    show some (f (l.getD i d)) = some (f l[i])
    rw [getD_of (List.getElem?_eq_getElem h)]
  · rw [List.getElem?_eq_none (by rw [List.length_range]; exact h), List.getElem?_eq_none h] <;> rfl
theorem app_ok {p : Addr} {xs : List V} (h : H p = some (.lst xs)) (hz : xs.length < sizeLine) (q : Q .non (upd H p (.lst (xs ++ [v])))) : rAppend (.ref p) [v] H Q := ⟨p, xs, v, rfl, rfl, h, hz, q⟩
theorem g_bm {T : String} {r : V → List V → Hp → VK → Prop} {ta : TA} (h : te σ H fun x H1 => tyV K T x H1 ∧ ta σ H1 fun xs H2 => r x xs H2 Q) : tBM K T r te ta σ H Q := h
theorem tyL {p : Addr} {xs : List V} (h : SqL K H p xs) : tyV K "list" (.ref p) H := .inl ⟨rfl, xs, h⟩
end
end Sy

/-! Rules: what the layer lacks: enumerate over a tuple; the laws' bags of numbers as objects whose place is not told. -/
namespace Sy
open PySem PySem.Spec PyProof.Rows L2
open Evl (Ex)
/-! ### enumerate(a tuple) -/
section
variable {v : Value} {o : Obj} {Hh : Heap → Prop}
theorem enum1_meets (B : Begins v o Hh) : Meets (Builtin.«enumerate.__new__» ⟨[.type "enumerate", v], []⟩) (fun _ R s => Hh s.heap ∧
    R (.ok (.ret (.ref (s.heap.push o).objs.size)))
      { s with heap := (s.heap.push o).push { cls := .type "enumerate", data := .fields #[.none, .bool false, .ref s.heap.objs.size, rawInt 0, .none, .none] } }) := by
  refine .of_wp fun prog w A R s h => ?_
  obtain ⟨hp, g, d, tk, os⟩ := s
  obtain ⟨h1, h⟩ := h
  have hsub := sub_enumerate
  have step {A' : Around} {E : Value → Shared → Prop} {Q : Value → Shared → Prop} (q : Q (.ref hp.objs.size) ⟨hp.push o, g, d, tk, os⟩) :
      wpAny (model prog w) A' (pyIter v) Q E ⟨hp, g, d, tk, os⟩ := B.iter prog w _ _ ⟨hp, g, d, tk, os⟩ _ h1 q
  wp_walk using step
  refine wpAny_stack_any fun st => ?_
  refine wpAny_pure ?_
  split
  · rename_i c _ _ _ _ _
    cases (c == Value.type "enumerate") <;> (wp_walk using step) <;> exact ⟨_, rfl, h⟩
  · (wp_walk using step); exact ⟨_, rfl, h⟩
theorem enum1_call {prog : Program} {w : World} {A : Around} {E : Value → Shared → Prop} {s : Shared} {Q : Value → Shared → Prop} (B : Begins v o Hh) (h1 : Hh s.heap)
    (h : ∀ h', IsEnum h' (s.heap.objs.size + 1) s.heap.objs.size 0 .none → h'.get? s.heap.objs.size = some o →
      (∀ b u, s.heap.get? b = some u → h'.get? b = some u) → Q (.ref (s.heap.objs.size + 1)) { s with heap := h' }) : wpAny (model prog w) A (call (.type "enumerate") [v]) Q E s := by
  have hz : (s.heap.push o).objs.size = s.heap.objs.size + 1 := Heap.size_push ..
  refine callType_new F.called_enumerate (by decide) (F.typeCall_enumerate_1 _)
    (F.newCall_enumerate_1 _) (fun obj => F.args_object_init_2 obj _) F.entry_enumerate_new (enum1_meets B) ⟨h1, ?_⟩
  show _ ∧ _
  rw [hz]
  have he := Heap.get?_push_size (s.heap.push o)
    (o := { cls := .type "enumerate", data := .fields #[.none, .bool false, .ref s.heap.objs.size, rawInt 0, .none, .none] }) rfl
  rw [hz] at he
  exact ⟨⟨_, he, rfl⟩, h _ he (Heap.get?_push_of_some _ (Heap.get?_push_size _ B.free)) fun b u x => Heap.get?_push_of_some _ (Heap.get?_push_of_some _ x)⟩
end
/-- the tuple at a, each item in a new pair with its place -/
def IteT (K : PySem.W.Frag) (a : Addr) : It where
  go := fun i H => ∃ (xs : List V) (x : V), SqT K H a xs ∧ xs[i]? = some x
  yld := fun i H v H' => ∃ T x, v = .ref T ∧ H T = none ∧ H' = upd H T (.tup [.int (i : Nat), x]) ∧ ∀ xs, SqT K H a xs → xs[i]? = some x
  stop := fun i H => ∃ xs : List V, SqT K H a xs ∧ xs.length = i
theorem turn_enumT {P : Program} {w : World} {K : PySem.W.Frag} {elts : List Expr} {kk : Nat} {tpos : Pos} (a e it : Addr) :
    Turn P w K (.Tuple elts kk tpos) (IteT K a) [e, it] e (fun i h => (∃ old, IsEnum h e it ((i : Nat) : Int) old) ∧ (h.IsTupleIter it a i ∧ e ≠ it)) where
  mem := List.mem_cons_self
  obj := by
    rintro i h ⟨⟨old, he⟩, ⟨o, ho, hc, hd⟩, _⟩ b hb
    rcases List.mem_cons.mp hb with z | z
    · subst z
      exact ⟨_, he, fun v q => nomatch q⟩
    · rw [List.mem_singleton.mp z]
      refine ⟨o, ho, fun v q => ?_⟩
      rw [hd] at q
      cases q
  keep := by
    rintro i h h' ⟨⟨old, he⟩, hi, hne⟩ k
    exact ⟨⟨old, k e List.mem_cons_self _ he⟩, hi.at fun o q => k it (List.mem_cons_of_mem _ List.mem_cons_self) o q, hne⟩
  item := by
    rintro X hP hw hK hc i pins s σ H E I hf ⟨⟨old, he⟩, hit, hne⟩ ⟨xs, x, hq, hx⟩
    subst hP hw hK
    obtain ⟨its, rv, p, hz⟩ := I.tuple hq
    obtain ⟨u, hu, ru⟩ := rv.get hx
    have hel : e < s.heap.objs.size := Heap.lt_size he
    have hil : it < s.heap.objs.size := (let ⟨_, q, _⟩ := hit; Heap.lt_size q)
    have ani : a ≠ it := by
      rintro rfl
      obtain ⟨o1, h1, c1, _⟩ := hit
      obtain ⟨o2, h2, c2, _⟩ := p
      rw [h1] at h2
      rw [Option.some.inj h2, c2] at c1
      exact absurd c1 (by decide)
    have lt : i < its.toArray.size := by
      rw [List.size_toArray]
      exact (List.getElem?_eq_some_iff.mp hu).1
    refine wpAny_pyNext_enum_itemD (Draws.tuple (A := X.A.in1) (I.ok.hd hc) it a ani its.toArray) he ⟨hit, p⟩ lt hne (fun z => ?_) fun y h' tk hy ho hst hT hsz hk => ?_
    · rcases List.mem_cons.mp z with z | z
      · exact hne z
      · obtain ⟨o1, h1, c1, _⟩ := p
        rw [← List.mem_singleton.mp z, he] at h1
        rw [← Option.some.inj h1] at c1
        exact absurd (show Value.type "enumerate" = Value.type "tuple" from c1) (by decide)
    have ey : y = u := by
      have q : its.toArray[i]? = some u := by simpa using hu
      exact Option.some.inj (hy.symm.trans q)
    subst ey
    refine ⟨_, rfl, wpAny_letOwnedTupleGo_enum (s := { s with heap := h', toks := tk + 1 }) ho fun h2 he2 sb => ?_⟩
    have fresh : H s.heap.objs.size = none := I.hok.fresh (Nat.le_refl _)
    have hT2 := (sb.2 _ (Nat.ne_of_gt hel)).trans hT
    have new : ObjOk X.prog X.w (upd H s.heap.objs.size (.tup [.int (i : Nat), x])) h2 s.heap.objs.size (.tup [.int (i : Nat), x]) :=
      ⟨(by decide : 2 ≤ sizeLine), [.int i tk, y], .cons ⟨_, rfl⟩ (.cons ru .nil), ⟨_, hT2, rfl, _, rfl⟩⟩
    have I1 := I.turnedNew (t' := tk + 1) (ch := [e, it]) (fun b ob hb q => (sb.2 b (fun z => hb (z ▸ List.mem_cons_self))).trans
      (hk b ob (fun z => hb (z ▸ List.mem_cons_self)) (fun z => hb (z ▸ List.mem_cons_of_mem _ List.mem_cons_self)) q)) hf (Nat.le_refl _) new
    refine ⟨.ref s.heap.objs.size, _, I1, rfl, ⟨_, x, rfl, fresh, rfl, fun ys hy => ?_⟩, ⟨⟨y, ?_⟩, hst.1.at fun o q => (sb.2 it (Ne.symm hne)).trans q, hne⟩, fun b hb => ?_⟩
    · rw [I.tuple_inj hy hq]
      exact hx
    · rw [show ((i + 1 : Nat) : Int) = (i : Int) + 1 by omega]
      exact he2
    · have hb' : b < s.heap.objs.size := by
        rcases List.mem_cons.mp hb with z | z
        · rw [z]; exact hel
        · rw [List.mem_singleton.mp z]; exact hil
      rw [upd_ne (Nat.ne_of_lt hb')]
      exact (hf b hb).1
  done := by
    rintro X hP hw hK hc i pins s σ H E I hf ⟨⟨old, he⟩, hit, hne⟩ ⟨xs, hq, hx⟩
    subst hP hw hK
    obtain ⟨its, rv, p, hz⟩ := I.tuple hq
    obtain ⟨f0, f1, f2, f3, f4, f5⟩ := hf it (List.mem_cons_of_mem _ List.mem_cons_self)
    have hl := rv.length
    have ani : a ≠ it := by
      rintro rfl
      obtain ⟨o1, h1, c1, _⟩ := hit
      obtain ⟨o2, h2, c2, _⟩ := p
      rw [h1] at h2
      rw [Option.some.inj h2, c2] at c1
      exact absurd c1 (by decide)
    have hi : i = its.toArray.size := by rw [List.size_toArray]; omega
    subst hi
    exact wpAny_pyNext_enum_endD (Draws.tuple (A := X.A.in1) (I.ok.hd hc) it a ani its.toArray) he ⟨hit, p⟩ fun h' eb =>
      ⟨rfl, I.turned (t' := s.toks) (fun b o hb q => eb b o hb q) f0 f1 f3 f4 f5⟩
  self := fun A i s Q E st h => (let ⟨⟨_, he⟩, _⟩ := st; wpAny_pyIter_enum he h)
def iEnumT (K : PySem.W.Frag) (ta : TA) : TI := fun σ H R => ta σ H fun vs H1 => ∃ a xs, vs = [.ref a] ∧ SqT K H1 a xs ∧ R (IteT K a) H1
theorem pi_enumT {X : Cx} {e : Expr} {ta : TA} {p pos tpos : Pos} {elts : List Expr} {kk : Nat} (hg : Gl X "enumerate") (hm : X.mg "enumerate" = none) (ha : PA X [e] ta)
    (hs : starEach [e] X.env = [(false, eval e X.env)] := by rfl) : PI X (.Tuple elts kk tpos) (.Call (.Name "enumerate" p) [e] [] pos) (iEnumT X.K ta) := by
  constructor
  intro pins s σ H R I h
  refine Call_ (ld_blt I hg hm boot_enumerate ?_)
  refine PyProof.Rows.callWith_type1 (thn (ha.run pos pins s σ H _ I h) ?_) hs rfl
  rintro us s1 ⟨vs, H1, I1, r1, a, xs, rfl, hq, q⟩
  rw [Vals.ref1 r1]
  obtain ⟨its, rv, p', hz⟩ := I1.tuple hq
  refine enum1_call (begins_tuple a its.toArray) p' fun h' he hit hk => wpAny_pyIter_enum he ?_
  have I2 : Inv X pins σ H1 { s1 with heap := h' } := I1.kept (t' := s1.toks) hk
  refine ⟨s1.heap.objs.size + 1, _, _, _, H1, rfl, I2, turn_enumT a (s1.heap.objs.size + 1) s1.heap.objs.size, ⟨⟨.none, he⟩, ⟨_, hit, rfl, rfl⟩, Nat.succ_ne_self _⟩, fun b hb => ?_, q⟩
  have hle : s1.heap.objs.size ≤ b := by
    rcases List.mem_cons.mp hb with z | z
    · rw [z]; exact Nat.le_add_right _ _
    · rw [List.mem_singleton.mp z]; exact Nat.le_refl _
  exact I1.fpOk hle (I1.hok.fresh hle)
theorem drv_enumT {K : PySem.W.Frag} {a : Addr} {xs : List V} : Drv (IteT K a) xs.length (fun i x H H' => ∃ T y, x = .ref T ∧ H T = none ∧ H' T = some (.tup [.int (i : Nat), y]) ∧ xs[i]? = some y) (fun H => SqT K H a xs) where
  go := fun i H h ok => ⟨xs, xs[i], ok, List.getElem?_eq_getElem h⟩
  stop := fun H ok => ⟨xs, ok, rfl⟩
  yld := fun i H x H' h ok y => by
    obtain ⟨T, z, rfl, hT, rfl, q⟩ := y
    exact ⟨Ex.new hT, T, z, rfl, hT, upd_same, q xs ok⟩
theorem g_iET {K : PySem.W.Frag} {σ : L2.St} {H : Hp} {ta : TA} {R : It → Hp → Prop} (h : ta σ H fun vs H1 => ∃ a xs, vs = [.ref a] ∧ SqT K H1 a xs ∧ R (IteT K a) H1) : iEnumT K ta σ H R := h
end Sy
namespace Sy
open PySem PySem.Spec PyProof.Rows L2
open Evl (Ex)
/-! ### a bag: a list [numbers, place]; its place is some number from 0 on, and is not told -/
def bagIs (b d : Addr) (h : Heap) : Prop := ∃ (c : Int) (t : Tok) (n : Nat), 0 ≤ c ∧ h.get? b = some { cls := .type "list", data := .seq ([.ref d, .int c t] : List Value).toArray n }
def BagO (b d : Addr) : HO := .ext (bagIs b d)
def IsBag (K : PySem.W.Frag) (H : Hp) (v : V) : Prop := ∃ (b d : Addr) (ns : List Int), v = .ref b ∧ H b = some (BagO b d) ∧ SqL K H d (ns.map V.int) ∧ ns.length = 400 ∧ ∀ n ∈ ns, 0 ≤ n ∧ n < 1000
theorem IsBag.ex {K : PySem.W.Frag} {H H' : Hp} {v : V} (e : Ex H H') (h : IsBag K H v) : IsBag K H' v := by
  obtain ⟨b, d, ns, rfl, h1, h2, h3⟩ := h
  exact ⟨b, d, ns, rfl, e _ _ h1, Evl.ex_l e h2, h3⟩
section
variable {X : Cx}
theorem bag_ok {P : Program} {w : World} {H : Hp} {h : Heap} {b d : Addr} (x : bagIs b d h) : ObjOk P w H h b (BagO b d) :=
  ⟨x, (let ⟨_, _, _, _, e⟩ := x; ⟨_, e⟩), fun _ _ y k => (let ⟨c, t, n, h0, e⟩ := y; ⟨c, t, n, h0, k _ e⟩)⟩
/-- b[0], b[1] of a bag -/
def rIxB : R2 := fun x y H Q => ∃ b d, x = .ref b ∧ H b = some (BagO b d) ∧ ((y = .int 0 ∧ Q (.ref d) H) ∨ (y = .int 1 ∧ ∀ c : Int, 0 ≤ c → Q (.int c) H))
theorem ix_bag : IxR X rIxB := by
  intro value slice pins s σ H x y v u Q I rx ry h hs
  obtain ⟨b, d, rfl, hb, h⟩ := h
  obtain ⟨c, t, n, h0, ho⟩ : bagIs b d s.heap := (I.hok b _ hb).1
  cases rx
  have hl : s.heap.IsList b ([.ref d, .int c t] : List Value).toArray := ⟨_, ho, rfl, n, rfl⟩
  rcases h with ⟨rfl, q⟩ | ⟨rfl, q⟩
  · obtain ⟨t', rfl⟩ := ry
    refine item_listR hl (by decide) (by decide) (x := .ref d) rfl ?_ hs
    exact ⟨.ref d, H, I, rfl, q⟩
  · obtain ⟨t', rfl⟩ := ry
    refine item_listR hl (by decide) (by decide) (x := .int c t) rfl ?_ hs
    exact ⟨.int c, H, I, ⟨t, rfl⟩, q c h0⟩
/-- b[1] = c -/
def rSetB : TSet := fun o i v H Q => ∃ b d c, o = .ref b ∧ i = .int 1 ∧ v = .int c ∧ 0 ≤ c ∧ H b = some (BagO b d) ∧ Q H
theorem set_bag : PSet X rSetB := by
  intro pins s σ H o i v ov iv u Q I ro ri rv h
  obtain ⟨b, d, c, rfl, rfl, rfl, h0, hb, q⟩ := h
  cases ro
  obtain ⟨t', rfl⟩ := ri
  obtain ⟨tc, rfl⟩ := rv
  obtain ⟨c1, t1, n, h1, ho⟩ : bagIs b d s.heap := (I.hok b _ hb).1
  refine PySem.W.ki_setAt ho (by decide) (by decide) (show (1 : Int) < 2 by decide) ?_
  have hf := mapSeq_set [.ref d, .int c1 t1] n 1 (.int c tc)
  have e : (s.heap.update b (Obj.mapSeq (·.setIfInBounds 1 (.int c tc)))).get? b = some { cls := .type "list", data := .seq ([.ref d, .int c tc] : List Value).toArray n } := by
    rw [Heap.get?_update_self _ ho (by rw [hf] <;> rfl), hf] <;> rfl
  have J := I.write (x := b) (e := b) (o := BagO b d) (t' := s.toks) (by rw [hb]; trivial) (.inl rfl)
    (fun b' u' hne g => (Heap.get?_update_other _ _ (Ne.symm hne)).trans g) ⟨_, e⟩ (bag_ok ⟨c, tc, n, h0, e⟩)
  have eH : upd H b (BagO b d) = H := by
    funext a
    by_cases z : a = b
    · rw [z, upd_same, hb]
    · rw [upd_ne z]
  rw [eH] at J
  exact ⟨H, J, q⟩
/-- a list [numbers, 0] just made is a bag from here on -/
def tBag (te : TE) : TE := fun σ H Q => te σ H fun v H1 => ∃ b d c, v = .ref b ∧ H1 b = some (.lst [.ref d, .int c]) ∧ 0 ≤ c ∧ Q v (upd H1 b (BagO b d))
theorem pe_bag {e : Expr} {te : TE} (he : PE X e te) : PE X e (tBag te) := by
  constructor
  intro pins s σ H Q I h
  refine thn (he.run pins s σ H _ I h) ?_
  rintro u s1 ⟨v, H1, I1, r, b, d, c, rfl, hb, h0, q⟩
  obtain ⟨its, n, rv, ho, _⟩ := I1.lst hb
  cases rv with
  | cons r1 rv =>
    cases rv with
    | cons r2 rv =>
      cases rv
      cases r1
      obtain ⟨t, rfl⟩ := r2
      have J := I1.write (x := b) (e := b) (o := BagO b d) (h' := s1.heap) (t' := s1.toks) (by rw [hb]; trivial) (.inl rfl) (fun _ _ _ g => g) ⟨_, ho⟩ (bag_ok ⟨c, t, n, h0, ho⟩)
      exact ⟨.ref b, _, J, r, q⟩
end
section
variable {K : PySem.W.Frag} {σ : L2.St} {H : Hp} {te : TE} {Q : VK}
theorem g_bag (h : te σ H fun v H1 => ∃ b d c, v = .ref b ∧ H1 b = some (.lst [.ref d, .int c]) ∧ 0 ≤ c ∧ Q v (upd H1 b (BagO b d))) : tBag te σ H Q := h
theorem g_ixB0 {b d : Addr} (h : H b = some (BagO b d)) (q : Q (.ref d) H) : rIxB (.ref b) (.int 0) H Q := ⟨b, d, rfl, h, .inl ⟨rfl, q⟩⟩
theorem g_ixB1 {b d : Addr} (h : H b = some (BagO b d)) (q : ∀ c : Int, 0 ≤ c → Q (.int c) H) : rIxB (.ref b) (.int 1) H Q := ⟨b, d, rfl, h, .inr ⟨rfl, q⟩⟩
theorem g_setB {b d : Addr} {c : Int} {R : Hp → Prop} (h : H b = some (BagO b d)) (h0 : 0 ≤ c) (q : R H) : rSetB (.ref b) (.int 1) (.int c) H R := ⟨b, d, c, rfl, rfl, rfl, h0, h, q⟩
theorem g_sub {to ti : TE} {t : TSet} {v : V} {R : L2.St → Hp → Prop} (h : to σ H fun o H1 => ti σ H1 fun i H2 => t o i v H2 fun H3 => R σ H3) : gSub to ti t v σ H R := h
end
end Sy

/-! Sets: set(a list), the adding told by the caller; sets of ints; sets of pairs of any number. -/
namespace Sy
open PySem PySem.Spec PyProof.Rows L2
open Evl (Ex)
/-- an empty set as set() lays it -/
abbrev set0 (w : World) : Obj := { cls := .type "set", dict := none, data := .set #[] 0 (.fresh 0 0 (!w.params.followText "set-order")) }
section
variable {P : Program} {w : World} {A : Around} {E : Value → Shared → Prop} {s : Shared}
/-- the loop: Z i tells the set at S behind i items; h0's objects stand -/
theorem set_loop {items : Array Value} {l I S : Addr} (h0 : Heap) (Z : Nat → Heap → Prop) (hh : A.handled = none) (hlI : l ≠ I) (hSI : S ≠ I) (hS0 : h0.get? S = none) (hI0 : h0.get? I = none) (hl0 : h0.IsList l items)
    (zk : ∀ i h h', Z i h → (∀ o, h.get? S = some o → h'.get? S = some o) → (∀ b o, h0.get? b = some o → h'.get? b = some o) → Z i h')
    (zadd : ∀ i v (s : Shared) (Q : Bool → Shared → Prop) (E : Value → Shared → Prop), items[i]? = some v → (∀ b o, h0.get? b = some o → s.heap.get? b = some o) → Z i s.heap →
      (∀ r h' tk, s.toks ≤ tk → Heap.SameBut S s.heap h' → Z (i + 1) h' → Q r { s with heap := h', toks := tk }) → wpAny (model P w) A.in1 (setAdd S v) Q E s) :
    ∀ (k i : Nat) (s : Shared) (R : Result → Shared → Prop), items.size - i = k → i ≤ items.size → s.heap.IsListIter I l i → (∀ b o, h0.get? b = some o → s.heap.get? b = some o) → Z i s.heap →
      (∀ h' tk, Z items.size h' → (∀ b o, h0.get? b = some o → h'.get? b = some o) → R (.ok (.ret .none)) { s with heap := h', toks := tk }) →
      codeAny (model P w) A (.builtin "set.update.loop" ⟨[.ref S, .ref I], []⟩) R s := by
  have W : Walks P w A.in1 I [I, l] [I] items.size (fun i v => items[i]? = some v) (fun i h => h.IsListIter I l i ∧ h.IsList l items) := Walks.list (A := A.in1) hh I l hlI items
  have lst : ∀ h : Heap, (∀ b o, h0.get? b = some o → h.get? b = some o) → h.IsList l items := fun h k => hl0.at fun o e => k l o e
  have old : ∀ b o, h0.get? b = some o → b ∉ [I] := fun b o e hb => by
    rw [List.mem_singleton.mp hb, hI0] at e
    cases e
  intro k
  induction k with
  | zero =>
    intro i s R hk hi hit keep z hR
    have hin : items.size = i := by omega
    refine codeAny_builtin PyProof.Rows.F.entry_set_update_loop ?_
    rw [Around.under_plainId PyProof.Rows.F.plain_set_update_loop _]
    show wpAny _ A.in1 (pyNext (.ref I) >>= _) _ _ s
    refine wpAny_bind (W.toS.done s _ _ (hin ▸ ⟨hit, lst _ keep⟩) fun s' hm => ?_)
    have keep' : ∀ b o, h0.get? b = some o → s'.heap.get? b = some o := fun b o e => hm.heap b o (old b o e) (keep b o e)
    have es : s' = { s with heap := s'.heap, toks := s'.toks } := by
      obtain ⟨_, hg, hd, ho, _⟩ := hm
      cases s'; cases s
      cases hg; cases hd; cases ho
      rfl
    show wpAny _ A.in1 (ret Value.none) _ _ s'
    refine wpAny_pure ?_
    rw [es]
    exact hR s'.heap s'.toks (zk _ _ _ (hin ▸ z) (fun o e => hm.heap S o (fun hb => hSI (List.mem_singleton.mp hb)) e) keep') keep'
  | succ k ih =>
    intro i s R hk hi hit keep z hR
    have hlt : i < items.size := by omega
    refine codeAny_builtin PyProof.Rows.F.entry_set_update_loop ?_
    rw [Around.under_plainId PyProof.Rows.F.plain_set_update_loop _]
    show wpAny _ A.in1 (pyNext (.ref I) >>= _) _ _ s
    refine wpAny_bind (W.toS.item i s _ _ hlt ⟨hit, lst _ keep⟩ fun v s' hP hst' hm => ?_)
    have keep' : ∀ b o, h0.get? b = some o → s'.heap.get? b = some o := fun b o e => hm.heap b o (old b o e) (keep b o e)
    have es : s' = { s with heap := s'.heap, toks := s'.toks } := by
      obtain ⟨_, hg, hd, ho, _⟩ := hm
      cases s'; cases s
      cases hg; cases hd; cases ho
      rfl
    have z' : Z i s'.heap := zk _ _ _ z (fun o e => hm.heap S o (fun hb => hSI (List.mem_singleton.mp hb)) e) keep'
    show wpAny _ A.in1 (holding [v] (setAdd S v) >>= _) _ _ s'
    refine wpAny_bind (wpAny_holding ?_)
    refine zadd i v s' _ _ hP keep' z' fun r h2 tk ht sb z2 => ?_
    have keep2 : ∀ b o, h0.get? b = some o → h2.get? b = some o := fun b o e => (sb.2 b (fun q => by rw [q, hS0] at e; cases e)).trans (keep' b o e)
    refine wpAny_pure ⟨plainId_quiet PyProof.Rows.F.plain_set_update_loop _, ?_⟩
    rw [es]
    exact ih (i + 1) { s with heap := h2, toks := tk } R (by omega) hlt (hst'.1.at fun o e => (sb.2 I (Ne.symm hSI)).trans e) keep2 z2 fun h' tk' a b => hR h' tk' a b
/-- set(a list): all but the loop -/
theorem set_call0 {items : Array Value} {l S : Addr} {Q : Value → Shared → Prop} {G : Heap → Prop} (eS : S = s.heap.objs.size) (hh : A.handled = none) (hl : s.heap.IsList l items)
    (hloop : ∀ (A' : Around) (R : Result → Shared → Prop) (h1 : Heap), A'.units ≤ A.units + 3 → A'.handled = none → h1.get? S = some (set0 w) → h1.IsListIter (S + 1) l 0 → (∀ b o, s.heap.get? b = some o → h1.get? b = some o) →
      (∀ h' tk, G h' → R (.ok (.ret .none)) { s with heap := h', toks := tk }) → codeAny (model P w) A' (.builtin "set.update.loop" ⟨[.ref S, .ref (S + 1)], []⟩) R { s with heap := h1 })
    (h : ∀ h' tk, G h' → Q (.ref S) { s with heap := h', toks := tk }) : wpAny (model P w) A (call (.type "set") [.ref l]) Q E s := by
  have called := F.called_set
  obtain ⟨c, tl, hmro⟩ := called.mro
  have hmade := called.made
  have hsub := called.sub
  have h1 := called.notType
  have h2 := called.canCreate
  have hct := F.typeCall_set_1 (.ref l)
  refine wpAny_call ?_
  refine codeAny_of_tree ?_
  show wpAny _ _ (callAny (.type "set") _) _ _ _
  refine wpAny_pure ?_
  refine ⟨Code.quiet_builtin _ (by decide +kernel), ?_⟩
  refine codeAny_builtin F.entry_type_call ?_
  rw [Around.under_plain (weight_type_call_type "set" [.ref l] []) rfl]
  repeat (any_goals (first | assumption | wp_step))
  refine codeAny_mono (code_set_led1 (.ref l) (E := E) (Q₁ := fun obj s₁ => obj = .ref S ∧ s₁ = { s with heap := s.heap.push (set0 w) }) ⟨congrArg _ eS.symm, rfl⟩) ?_
  rintro (e | fl) s₁ hr
  · exact hr
  cases fl with
  | ret obj =>
    obtain ⟨rfl, rfl⟩ := hr
    have hS : (s.heap.push (set0 w)).get? S = some (set0 w) := eS ▸ Heap.get?_push_size _ rfl
    have hT : Shared.TypeIs { s with heap := s.heap.push (set0 w) } (.ref S) "set" := ⟨_, hS, rfl⟩
    have hli := called.init.lookup
    have hbi := called.init.bind (.ref S)
    repeat (any_goals (first | assumption | wp_step))
    refine codeAny_mono (codeAny_call_builtin (R := wants (fun r s₂ => r = .none ∧ ∃ h' tk, s₂ = { s with heap := h', toks := tk } ∧ G h') E) called.init.plain F.entry_set_init (check_set_init_1 hT ?_)) ?_
    · obtain ⟨⟨oc, od, odt, osl⟩, hol, hcl, nl, hdl⟩ := hl
      cases (show oc = .type "list" from hcl)
      cases (show odt = .seq items nl from hdl)
      have hol1 := Heap.get?_push_of_some (set0 w) hol
      have hsls := F.sub_list_set
      have hslf := F.sub_list_frozenset
      have hne : (Value.type "list" == Value.type "dict") = false := by decide
      have hL1 : (s.heap.push (set0 w)).IsList l items := ⟨_, hol1, rfl, nl, rfl⟩
      unfold Builtin.«set.__init__» noKeywords Builtin.Frozenset.updateFrom
      generalize hPI : pyIter = PI
      wp_walk
      subst hPI
      refine wpAny_pyIter_list hL1 ?_
      refine wpAny_bind (wpAny_runValue ?_)
      have hz1 : (s.heap.push (set0 w)).objs.size = S + 1 := by rw [Heap.size_push, eS]
      have hSI := Heap.get?_push_of_some { cls := .type "list_iterator", data := .fields #[.ref l, .int 0 0] } hS
      have hII := Heap.get?_push_size (s.heap.push (set0 w)) (o := { cls := .type "list_iterator", data := .fields #[.ref l, .int 0 0] }) rfl
      show codeAny _ _ _ _ { s with heap := (s.heap.push (set0 w)).push _ }
      rw [hz1] at hII ⊢
      refine hloop _ _ _ (by simp) (by simp [hh]) hSI ⟨_, hII, rfl, rfl⟩ (fun b o e => Heap.get?_push_of_some _ (Heap.get?_push_of_some _ e)) ?_
      intro h' tk g
      show wpAny _ _ _ _ _ _
      refine wpAny_pure ?_
      show wpAny _ _ (ret Value.none) _ _ _
      exact wpAny_pure ⟨rfl, h', tk, rfl, g⟩
    · rintro (e | fl₂) s₂ hr₂
      · exact hr₂
      cases fl₂ with
      | ret r =>
        obtain ⟨rfl, h', tk, rfl, g⟩ := hr₂
        repeat (any_goals (first | assumption | wp_step))
        exact h _ _ g
      | _ => exact hr₂.elim
  | _ => exact hr.elim
theorem set_call {items : Array Value} {l S : Addr} {Q : Value → Shared → Prop} (Z : Nat → Heap → Prop) (eS : S = s.heap.objs.size) (hh : A.handled = none) (hl : s.heap.IsList l items)
    (z0 : ∀ h', h'.get? S = some (set0 w) → (∀ b o, s.heap.get? b = some o → h'.get? b = some o) → Z 0 h')
    (zk : ∀ i h h', Z i h → (∀ o, h.get? S = some o → h'.get? S = some o) → (∀ b o, s.heap.get? b = some o → h'.get? b = some o) → Z i h')
    (zadd : ∀ i v (A' : Around) (s' : Shared) (Q : Bool → Shared → Prop) (E : Value → Shared → Prop), A'.units ≤ A.units + 4 → items[i]? = some v → (∀ b o, s.heap.get? b = some o → s'.heap.get? b = some o) → Z i s'.heap →
      (∀ r h' tk, s'.toks ≤ tk → Heap.SameBut S s'.heap h' → Z (i + 1) h' → Q r { s' with heap := h', toks := tk }) → wpAny (model P w) A' (setAdd S v) Q E s')
    (h : ∀ h' tk, Z items.size h' → (∀ b o, s.heap.get? b = some o → h'.get? b = some o) → Q (.ref S) { s with heap := h', toks := tk }) :
    wpAny (model P w) A (call (.type "set") [.ref l]) Q E s := by
  have none_of : ∀ b, S ≤ b → s.heap.get? b = none := fun b hb => by
    cases q : s.heap.get? b with
    | none => rfl
    | some o => exact absurd (Nat.lt_of_lt_of_le (Heap.lt_size q) (eS ▸ hb)) (Nat.lt_irrefl _)
  have hlS : l < S := by
    obtain ⟨o, ho, _⟩ := hl
    exact eS ▸ Heap.lt_size ho
  refine set_call0 (G := fun h' => Z items.size h' ∧ ∀ b o, s.heap.get? b = some o → h'.get? b = some o) eS hh hl (fun A' R h1 hu hh' hS hit kp hR => ?_) fun h' tk g => h h' tk g.1 g.2
  exact set_loop (A := A') s.heap Z hh' (Nat.ne_of_lt (Nat.lt_succ_of_lt hlS)) (Nat.ne_of_lt (Nat.lt_succ_self _)) (none_of _ (Nat.le_refl _)) (none_of _ (Nat.le_succ _)) hl zk
    (fun i v s' Q E hv k z q => zadd i v _ s' Q E (by have : A'.in1.units = A'.units + 1 := rfl
                                                      omega) hv k z q) (items.size - 0) 0 _ R rfl (Nat.zero_le _) hit kp (z0 _ hS kp) fun h' tk z k => hR h' tk ⟨z, k⟩
end
end Sy

/-! SetsI: set(a list of ints). -/
namespace Sy
open PySem PySem.Spec PyProof.Rows L2
open Evl (Ex)
theorem nodup_le : ∀ (l D : List Int), l.Nodup → (∀ x ∈ l, x ∈ D) → l.length ≤ D.length
  | [], _, _, _ => Nat.zero_le _
  | x :: l, D, hn, hs => by
    obtain ⟨h1, h2⟩ := List.nodup_cons.mp hn
    have hx := hs x List.mem_cons_self
    have ih := nodup_le l (D.erase x) h2 fun y hy => (List.mem_erase_of_ne (a := y) (b := x) (fun e => h1 (e ▸ hy))).2 (hs y (List.mem_cons_of_mem _ hy))
    have e := List.length_erase_of_mem hx
    have := List.length_pos_of_mem hx
    show l.length + 1 ≤ _
    omega
theorem setR_le {w : World} {h : Heap} {a : Addr} {S : Int → Bool} {n : Nat} (R : SetR w h a S n) (D : List Int) (hD : ∀ k, S k = true → k ∈ D) : n ≤ D.length := by
  obtain ⟨o, es, ep, t, _, _, _, _, nd, hm, _, _, hn, _⟩ := R
  have e : (es.toList.map keyOf).length = n := by rw [List.length_map, Array.length_toList, hn]
  rw [← e]
  exact nodup_le _ D nd fun k hk => hD k ((hm k).mpr hk)
section
variable {P : Program} {w : World} {A : Around} {E : Value → Shared → Prop} {s : Shared}
theorem set_ints {items : Array Value} {l S : Addr} {ns : List Int} {Q : Value → Shared → Prop} (eS : S = s.heap.objs.size) (hh : A.handled = none) (hl : s.heap.IsList l items) (hi : IntsAre items.toList ns) (hz : ns.length < 4000)
    (h : ∀ h' tk n, SetR w h' S (fun k => decide (k ∈ ns)) n → (∀ b o, s.heap.get? b = some o → h'.get? b = some o) → Q (.ref S) { s with heap := h', toks := tk }) :
    wpAny (model P w) A (call (.type "set") [.ref l]) Q E s := by
  have hsz : items.size = ns.length := by rw [← Array.length_toList]; exact IntsAre.length hi
  refine set_call (fun i h => ∃ n, n ≤ i ∧ SetR w h S (fun k => decide (k ∈ ns.take i)) n) eS hh hl (fun h' hS _ => ⟨0, Nat.le_refl _, setR_new_at hS⟩) (fun i h h' ⟨n, hn, R⟩ k _ => ⟨n, hn, R.at k⟩) ?_ ?_
  · rintro i v A' s' Q' E' hu hv hk ⟨n, hn, R⟩ q
    obtain ⟨t, rfl⟩ := IntsAre.int_at hi i v (by rw [Array.getElem?_toList]; exact hv)
    have hil : i < ns.length := by
      rw [← hsz]
      exact (Array.getElem?_eq_some_iff.mp hv).1
    have ei : ns[i]? = some (ns.getD i 0) := by rw [List.getElem?_eq_getElem hil, getD_of (List.getElem?_eq_getElem hil)]
    unfold setAdd
    refine wpAny_holding ?_
    refine wpAny_bind ((intKind P w).pyHash (k := ns.getD i 0) (intKind_is _ _ _ _) ?_)
    refine setR_add_hashed (s := { s' with toks := s'.toks + 1 }) R (by unfold scanBound; omega) fun h' sb R2 => ?_
    refine q _ h' (s'.toks + 1) (Nat.le_succ _) sb ⟨_, ?_, R2.congr fun k => ?_⟩
    · split <;> omega
    · rw [List.take_succ, ei]
      simp only [Option.toList_some, List.mem_append, List.mem_singleton]
      by_cases c1 : k ∈ ns.take i <;> by_cases c2 : k = ns.getD i 0 <;> simp [c1, c2]
  · rintro h' tk ⟨n, hn, R⟩ k
    refine h h' tk n (R.congr fun k => ?_) k
    rw [hsz, List.take_length]
end
section
variable {X : Cx}
def rSetOfI (K : PySem.W.Frag) (w : World) : List V → Hp → VK → Prop := fun xs H Q => ∃ (l : Addr) (ns : List Int), xs = [.ref l] ∧ SqL K H l (ns.map V.int) ∧ ns.length < 4000 ∧
  ∀ a n, H a = none → (∀ D : List Int, (∀ k ∈ ns, k ∈ D) → n ≤ D.length) → Q (.ref a) (upd H a (SetO w a (fun k => decide (k ∈ ns)) n))
theorem c_setI (hc : X.calm = true) : CallR X (.type "set") (rSetOfI X.K X.w) := by
  intro pins s σ H xs us Q I r h
  obtain ⟨l, ns, rfl, hl, hz, q⟩ := h
  rw [Vals.ref1 r]
  obtain ⟨its, rv, pl, _⟩ := I.list hl
  have hn : H s.heap.objs.size = none := I.hok.fresh (Nat.le_refl _)
  refine set_ints (P := X.prog) (w := X.w) rfl (I.ok.hd hc) pl.isList (by simpa using rv.ints) hz fun h' tk n R k => ?_
  exact ⟨.ref s.heap.objs.size, _, I.laid (t' := tk) k (Nat.le_refl _) (setO_new R), rfl, q _ n hn fun D hD => setR_le R D fun k hk => hD k (of_decide_eq_true hk)⟩
/-- sorted(set(a list of ints)): the members, rising -/
theorem g_setI {K : PySem.W.Frag} {w : World} {H : Hp} {Q : VK} {l : Addr} {ns D : List Int} (h : SqL K H l (ns.map V.int)) (hz : ns.length < 4000) (hD : ∀ k ∈ ns, k ∈ D) (hD2 : D.length < 64)
    (q : ∀ a n H', Ex H H' → H' a = some (SetO w a (fun k => decide (k ∈ ns)) n) → n < 64 → Q (.ref a) H') : rSetOfI K w [.ref l] H Q :=
  ⟨l, ns, rfl, h, hz, fun a n ha hn => q a n _ (Ex.new ha) upd_same (Nat.lt_of_le_of_lt (hn D hD) hD2)⟩
theorem g_sortedSet {w : World} {H : Hp} {Q : VK} {a : Addr} {ns : List Int} {n : Nat} (h : H a = some (SetO w a (fun k => decide (k ∈ ns)) n)) (h64 : n < 64)
    (q : ∀ (ms : List Int) p H', Ex H H' → H p = none → H' p = some (.lst (ms.map V.int)) → ms.Pairwise (· < ·) → (∀ k, k ∈ ms ↔ k ∈ ns) → ms.length = n → Q (.ref p) H') : rSortedSet w [.ref a] H Q :=
  ⟨a, _, n, rfl, h, h64, fun ms p h1 h2 h3 hp => q ms p _ (Ex.new hp) hp upd_same h1 (fun k => (h2 k).trans decide_eq_true_iff) h3⟩
end
end Sy

/-! Core2: comprehensions whose items are new objects; items of displays. -/
namespace Sy
open PySem PySem.Spec PyProof.Rows L2
open Evl (Ex)
/-- the heap without what stands at D -/
def msk (D : Addr) (H : Hp) : Hp := fun b => if b = D then none else H b
theorem msk_ne {D b : Addr} {H : Hp} (h : b ≠ D) : msk D H b = H b := if_neg h
theorem msk_at {D : Addr} {H : Hp} : msk D H D = none := if_pos rfl
theorem msk_ex {D : Addr} {H H' : Hp} (e : Ex H H') : Ex (msk D H) (msk D H') := fun a o h => by
  by_cases z : a = D
  · subst z
    rw [msk_at] at h
    cases h
  · rw [msk_ne z] at h ⊢
    exact e a o h
theorem msk_in {D : Addr} {H : Hp} : Ex (msk D H) H := fun a o h => by
  by_cases z : a = D
  · subst z
    rw [msk_at] at h
    cases h
  · rw [msk_ne z] at h
    exact h
theorem msk_of {D : Addr} {H H' : Hp} (hD : H D = none) (e : Ex H H') : Ex H (msk D H') := fun a o h => by
  have z : a ≠ D := fun z => by
    rw [z, hD] at h
    cases h
  rw [msk_ne z]
  exact e a o h
theorem msk_upd {D : Addr} {H : Hp} {o : HO} : msk D (upd H D o) = msk D H := by
  funext b
  by_cases z : b = D
  · rw [z, msk_at, msk_at]
  · rw [msk_ne z, msk_ne z, upd_ne z]
section
variable {K : PySem.W.Frag} {J : It} {n : Nat} {src : Nat → V → Hp → Hp → Prop} {ok : Hp → Prop} {g : TG} {σ : L2.St} {H : Hp} {Q : VK} {tt : TT} {te : TE} {vs : List Nat}
/-- what is made may speak of the heap, but for the new list itself -/
theorem lcH (dr : Drv J n src ok) (hm : ∀ H1, Ex H H1 → ok H1) (hn : n ≤ 1000000) (Iv : Nat → List V → Hp → Prop) (mono : ∀ i acc H1 H2, Ex H1 H2 → Iv i acc H1 → Iv i acc H2) (h0 : ∀ H1, Iv 0 [] H1)
    (hs : ∀ i x acc D H1 H2 (Y : V → Hp → Prop) (Z : Hp → Prop), i < n → H D = none → H1 D = some (.lst acc) → Iv i acc (msk D H1) → Ex H H1 → Ex H1 H2 → src i x H1 H2 →
      (∀ y H5, Ex H2 H5 → Iv (i + 1) (acc ++ [y]) (msk D H5) → Y y H5) → (∀ H5, Ex H2 H5 → Iv (i + 1) acc (msk D H5) → Z H5) →
      g x (wipe σ vs) H2 fun σ2 H3 => wipe σ2 vs = wipe σ vs ∧ tt σ2 H3 fun b H4 => if b = true then te σ2 H4 Y else Z H4)
    (hd : ∀ p acc H2, H p = none → Ex H H2 → H2 p = some (.lst acc) → acc.length ≤ n → Iv n acc H2 → Q (.ref p) H2) : LcW J g tt te vs σ Q H := by
  intro D hD
  refine ⟨fun i m H' => i ≤ n ∧ m = n - i ∧ ∃ acc, H' D = some (.lst acc) ∧ Ex H H' ∧ acc.length ≤ i ∧ Iv i acc (msk D H'), ⟨n, Nat.zero_le _, rfl, [], upd_same, Ex.new hD, Nat.le_refl _, h0 _⟩, ?_⟩
  rintro i m H1 ⟨hi, rfl, acc, hA, e, hl, iv⟩
  have hok := hm H1 e
  by_cases c : i < n
  · refine .inr ⟨dr.go i H1 c hok, (fun H' => ∃ acc, H' D = some (.lst acc) ∧ Ex H H' ∧ acc.length ≤ i + 1 ∧ Iv (i + 1) acc (msk D H')), fun H' q => ⟨n - (i + 1), by omega, by omega, rfl, q⟩, fun x H2 y => ?_⟩
    obtain ⟨e2, s⟩ := dr.yld i H1 x H2 c hok y
    refine hs i x acc D H1 H2 _ _ c hD hA iv e e2 s (fun y H5 e5 iv5 => ?_) (fun H5 e5 iv5 => ?_)
    · have hA5 := e5 D _ (e2 D _ hA)
      have big : (1000001 : Nat) ≤ sizeLine := by decide
      refine ⟨acc, hA5, by omega, acc ++ [y], upd_same, Ex.mut ((e.trans e2).trans e5) hD, by rw [List.length_append]; show acc.length + 1 ≤ i + 1; omega, ?_⟩
      rw [msk_upd]
      exact iv5
    · exact ⟨acc, e5 D _ (e2 D _ hA), (e.trans e2).trans e5, by omega, iv5⟩
  · have en : i = n := by omega
    subst en
    exact .inl ⟨dr.stop H1 hok, hd D acc H1 hD e hA hl (mono _ _ _ _ msk_in iv)⟩
theorem new_tup {xs : List V} (hz : Nat.ble xs.length 1000 = true) (q : ∀ p H', H p = none → Ex H H' → H' p = some (.tup xs) → Q (.ref p) H') : MkTup xs H Q :=
  mk_tup (Nat.le_trans (Nat.le_of_ble_eq_true hz) (by decide)) q
theorem new_lst {xs : List V} (hz : Nat.ble xs.length 1000 = true) (q : ∀ p H', H p = none → Ex H H' → H' p = some (.lst xs) → Q (.ref p) H') : MkLst xs H Q :=
  mk_lst (Nat.le_trans (Nat.le_of_ble_eq_true hz) (by decide)) q
theorem g_ixLn {p : Addr} {xs : List V} {r : Int} (h : SqL K H p xs) (h0 : 0 ≤ r) (h1 : r < xs.length) (q : ∀ v, v ∈ xs → Q v H) : rIxL K (.ref p) (.int r) H Q := by
  have hlt : r.toNat < xs.length := by omega
  refine g_ixL h (at_of (j := r.toNat) (by omega) (List.getElem?_eq_getElem hlt)) (q _ (List.getElem_mem hlt))
theorem g_setI2 {w : World} {l : Addr} {ns D : List Int} (h : SqL K H l (ns.map V.int)) (hz : ns.length < 4000) (hD : ∀ k ∈ ns, k ∈ D) (hD2 : D.length < 64)
    (q : ∀ a n H', Ex H H' → H' a = some (SetO w a (fun k => decide (k ∈ ns)) n) → n ≤ D.length → Q (.ref a) H') : rSetOfI K w [.ref l] H Q :=
  ⟨l, ns, rfl, h, hz, fun a n ha hn => q a n _ (Ex.new ha) upd_same (hn D hD)⟩
end
end Sy

/-! Eqs: == and != of the lists and tuples of this program. -/
namespace Sy
open PySem PySem.Spec PyProof.Rows L2
open Evl (Ex)
def dPr (p : Int × Int) : PyData := .tuple [.int p.1, .int p.2]
theorem eqv_pr (p q : Int × Int) : PyData.eqv (dPr p) (dPr q) = decide (p = q) := by
  obtain ⟨a, b⟩ := p
  obtain ⟨c, d⟩ := q
  simp only [dPr, PyData.eqv, PyData.eqvAll, Prod.mk.injEq, Bool.and_true]
  by_cases h1 : a = c <;> by_cases h2 : b = d <;> simp [h1, h2]
theorem eqvAll_map {α : Type} [DecidableEq α] {f : α → PyData} (hf : ∀ a b, PyData.eqv (f a) (f b) = decide (a = b)) : ∀ xs ys : List α, PyData.eqvAll (xs.map f) (ys.map f) = decide (xs = ys)
  | [], [] => rfl
  | [], y :: ys => by simp [PyData.eqvAll]
  | x :: xs, [] => by simp [PyData.eqvAll]
  | x :: xs, y :: ys => by
    rw [List.map_cons, List.map_cons, PyData.eqvAll, hf, eqvAll_map hf xs ys]
    by_cases h1 : x = y <;> by_cases h2 : xs = ys <;> simp [h1, h2]
theorem lay_map {α : Type} {f : α → PyData} {n : Nat} (hf : ∀ a, (f a).canLay0 = true ∧ (f a).depth ≤ n) : ∀ xs : List α, PyData.canLayAll0 (xs.map f) = true ∧ PyData.depthAll (xs.map f) ≤ n
  | [] => ⟨by simp [PyData.canLayAll0], by simp [PyData.depthAll]⟩
  | x :: xs => by
    obtain ⟨h1, h2⟩ := lay_map hf xs
    obtain ⟨h3, h4⟩ := hf x
    exact ⟨by simp [PyData.canLayAll0, h1, h3], by simp only [List.map_cons, PyData.depthAll]; omega⟩
theorem lay_int (i : Int) : (PyData.int i).canLay0 = true ∧ (PyData.int i).depth ≤ 0 := ⟨by simp [PyData.canLay0], by simp [PyData.depth]⟩
theorem lay_pr (p : Int × Int) : (dPr p).canLay0 = true ∧ (dPr p).depth ≤ 1 := ⟨by simp [dPr, PyData.canLay0, PyData.canLayAll0], by simp [dPr, PyData.depth, PyData.depthAll]⟩
theorem shaped_list {ds : List PyData} {n : Nat} (h : PyData.canLayAll0 ds = true ∧ PyData.depthAll ds ≤ n) (hn : n ≤ 60) : SeqAt.shaped (.list ds) = true ∧ SeqAt.shaped (.tuple ds) = true := by
  constructor <;>
  · unfold SeqAt.shaped
    rw [Bool.and_eq_true, decide_eq_true_eq]
    refine ⟨by simpa [PyData.canLay0] using h.1, ?_⟩
    simp only [PyData.depth]
    omega
section
variable {K : PySem.W.Frag} {H : Hp} {Q : VK} {x y : V}
theorem dp_all {α : Type} {F : V → α → Prop} {f : α → PyData} (hf : ∀ v a, F v a → Dp K H v (f a)) : ∀ {vs : List V} {as : List α}, Paired F vs as → DpAll K H vs (as.map f)
  | _, _, .nil => .nil
  | _, _, .cons r t => .cons (hf _ _ r) (dp_all hf t)
theorem dp_pr {v : V} {p : Int × Int} (h : Pr K H v p) : Dp K H v (dPr p) := by
  obtain ⟨a, rfl, h⟩ := h
  exact .tup h (.cons (.int _) (.cons (.int _) .nil))
theorem dp_tp {v : V} {ps : List (Int × Int)} (h : TPr K H v ps) : Dp K H v (.tuple (ps.map dPr)) := by
  obtain ⟨a, vs, rfl, h, hp⟩ := h
  exact .tup h (dp_all (f := dPr) (fun _ _ => dp_pr) hp)
theorem dp_lp {v : V} {ps : List (Int × Int)} (h : LPr K H v ps) : Dp K H v (.list (ps.map dPr)) := by
  obtain ⟨a, vs, rfl, h, hp⟩ := h
  exact .lst h (dp_all (f := dPr) (fun _ _ => dp_pr) hp)
theorem dp_ints : ∀ ns : List Int, DpAll K H (ns.map V.int) (ns.map PyData.int)
  | [] => .nil
  | n :: ns => .cons (.int n) (dp_ints ns)
theorem dp_li {v : V} {ns : List Int} (h : LI K H v ns) : Dp K H v (.list (ns.map PyData.int)) := by
  obtain ⟨a, rfl, h⟩ := h
  exact .lst h (dp_ints ns)
theorem eqv_int (a b : Int) : PyData.eqv (.int a) (.int b) = decide (a = b) := by
  simp only [PyData.eqv]
  by_cases h : a = b <;> simp [h]
theorem g_neTP {ps qs : List (Int × Int)} (hx : TPr K H x ps) (hy : TPr K H y qs) (q : Q (.bl (!decide (ps = qs))) H) : rNeD K x y H Q :=
  ⟨_, _, dp_tp hx, dp_tp hy, (shaped_list (lay_map lay_pr ps) (by decide)).2, (shaped_list (lay_map lay_pr qs) (by decide)).2, by
    rw [show PyData.eqv (.tuple (ps.map dPr)) (.tuple (qs.map dPr)) = decide (ps = qs) from by rw [PyData.eqv]; exact eqvAll_map eqv_pr ps qs]
    exact q⟩
theorem g_eqTP {ps qs : List (Int × Int)} (hx : TPr K H x ps) (hy : TPr K H y qs) (q : Q (.bl (decide (ps = qs))) H) : rEqD K x y H Q :=
  ⟨_, _, dp_tp hx, dp_tp hy, (shaped_list (lay_map lay_pr ps) (by decide)).2, (shaped_list (lay_map lay_pr qs) (by decide)).2, by
    rw [show PyData.eqv (.tuple (ps.map dPr)) (.tuple (qs.map dPr)) = decide (ps = qs) from by rw [PyData.eqv]; exact eqvAll_map eqv_pr ps qs]
    exact q⟩
theorem g_neLP {ps qs : List (Int × Int)} (hx : LPr K H x ps) (hy : LPr K H y qs) (q : Q (.bl (!decide (ps = qs))) H) : rNeD K x y H Q :=
  ⟨_, _, dp_lp hx, dp_lp hy, (shaped_list (lay_map lay_pr ps) (by decide)).1, (shaped_list (lay_map lay_pr qs) (by decide)).1, by
    rw [show PyData.eqv (.list (ps.map dPr)) (.list (qs.map dPr)) = decide (ps = qs) from by rw [PyData.eqv]; exact eqvAll_map eqv_pr ps qs]
    exact q⟩
theorem g_eqLP {ps qs : List (Int × Int)} (hx : LPr K H x ps) (hy : LPr K H y qs) (q : Q (.bl (decide (ps = qs))) H) : rEqD K x y H Q :=
  ⟨_, _, dp_lp hx, dp_lp hy, (shaped_list (lay_map lay_pr ps) (by decide)).1, (shaped_list (lay_map lay_pr qs) (by decide)).1, by
    rw [show PyData.eqv (.list (ps.map dPr)) (.list (qs.map dPr)) = decide (ps = qs) from by rw [PyData.eqv]; exact eqvAll_map eqv_pr ps qs]
    exact q⟩
theorem g_neLI {ns ms : List Int} (hx : LI K H x ns) (hy : LI K H y ms) (q : Q (.bl (!decide (ns = ms))) H) : rNeD K x y H Q :=
  ⟨_, _, dp_li hx, dp_li hy, (shaped_list (lay_map lay_int ns) (by decide)).1, (shaped_list (lay_map lay_int ms) (by decide)).1, by
    rw [show PyData.eqv (.list (ns.map PyData.int)) (.list (ms.map PyData.int)) = decide (ns = ms) from by rw [PyData.eqv]; exact eqvAll_map eqv_int ns ms]
    exact q⟩
theorem g_eqLI {ns ms : List Int} (hx : LI K H x ns) (hy : LI K H y ms) (q : Q (.bl (decide (ns = ms))) H) : rEqD K x y H Q :=
  ⟨_, _, dp_li hx, dp_li hy, (shaped_list (lay_map lay_int ns) (by decide)).1, (shaped_list (lay_map lay_int ms) (by decide)).1, by
    rw [show PyData.eqv (.list (ns.map PyData.int)) (.list (ms.map PyData.int)) = decide (ns = ms) from by rw [PyData.eqv]; exact eqvAll_map eqv_int ns ms]
    exact q⟩
/-- if c: .. (no else), then the rest, which is shown once -/
theorem g_cutIf {tt : TT} {tu rest : TS} {D : Ends} {σ : L2.St} (h : ∀ N : L2.St → Hp → Prop, (∀ H1, Ex H H1 → N σ H1) → tt σ H fun b H1 => if b = true then tu { D with nx := N } σ H1 else tNext { D with nx := N } σ H1)
    (hrest : ∀ H1, Ex H H1 → rest D σ H1) : tSeq (tIfS tt tu tNext) rest D σ H := h (rest D) hrest
/-- a or b, both told -/
theorem g_orB {tt tu : TT} {σ : L2.St} {R : Bool → Hp → Prop} {c1 c2 : Prop} [Decidable c1] [Decidable c2] (h1 : ∀ R : Bool → Hp → Prop, R (decide c1) H → tt σ H R) (h2 : ¬ c1 → ∀ R : Bool → Hp → Prop, R (decide c2) H → tu σ H R)
    (q : R (decide (c1 ∨ c2)) H) : tOr tt tu σ H R := by
  refine h1 _ ?_
  by_cases h : c1
  · rw [decide_eq_true (show c1 ∨ c2 from .inl h)] at q
    exact b_true h q
  · refine b_false h (h2 h _ ?_)
    by_cases h' : c2
    · rw [decide_eq_true h']
      rw [decide_eq_true (show c1 ∨ c2 from .inr h')] at q
      exact q
    · rw [decide_eq_false h']
      rw [decide_eq_false (show ¬ (c1 ∨ c2) from fun z => z.elim h h')] at q
      exact q
/-- an item by a place from the end -/
theorem atI_back {α : Type} {xs : List α} {k : Nat} {v : α} (hk : 1 ≤ k) (h : xs[xs.length - k]? = some v) (hl : k ≤ xs.length) : atI xs (-(k : Int)) = some v := by
  unfold atI ixN
  rw [if_neg (by omega), if_pos (by omega)]
  show xs[(-(k : Int) + (xs.length : Int)).toNat]? = some v
  rw [show (-(k : Int) + (xs.length : Int)).toNat = xs.length - k by omega]
  exact h
theorem g_ixBk {p : Addr} {xs : List V} {i : Int} {v : V} (k : Nat) (h : SqT K H p xs) (e : i = -(k : Int)) (hk : 1 ≤ k) (hl : k ≤ xs.length) (hv : xs[xs.length - k]? = some v) (q : Q v H) : rIxT K (.ref p) (.int i) H Q := by
  subst e
  exact g_ixT h (atI_back hk hv hl) q
end
end Sy

/-! Choose: the cheapest of several tariffs, as plain functions, and what the law of it asks. -/
namespace Ma
def dT : Tar := ⟨0, [], 1, 0, none⟩
/-- t is a cheapest one at L -/
def isCheap (ts : List Tar) (L : Int) (i : Nat) : Bool := ts.all fun t => decide (stayP (ts.getD i dT) L ≤ stayP t L)
def cheapL (ts : List Tar) (L : Int) : List Nat := (List.range ts.length).filter (isCheap ts L)
/-- behind some number of full days and a last part L the i-th costs least -/
def Best (ts : List Tar) (i : Nat) (L : Int) : Prop := ∃ k : Int, 0 ≤ k ∧ ∀ t ∈ ts, k * dayP (ts.getD i dT) 96 + dayP (ts.getD i dT) L ≤ k * dayP t 96 + dayP t L
noncomputable def isNever (ts : List Tar) (i : Nat) : Bool := @decide (∀ L, 1 ≤ L → L ≤ 96 → ¬ Best ts i L) (Classical.propDecidable _)
theorem isNever_iff {ts : List Tar} {i : Nat} : isNever ts i = true ↔ ∀ L, 1 ≤ L → L ≤ 96 → ¬ Best ts i L := by unfold isNever; exact @decide_eq_true_iff _ (Classical.propDecidable _)
noncomputable def neverL (ts : List Tar) : List Nat := (List.range ts.length).filter (isNever ts)
def Fin (ts : List Tar) (i : Nat) : Prop := (∀ t ∈ ts, dayP (ts.getD i dT) 96 ≤ dayP t 96) ∧ ∃ L, 1 ≤ L ∧ L ≤ 96 ∧ ∀ t ∈ ts, dayP t 96 = dayP (ts.getD i dT) 96 → dayP (ts.getD i dT) L ≤ dayP t L
noncomputable def isFin (ts : List Tar) (i : Nat) : Bool := @decide (Fin ts i) (Classical.propDecidable _)
theorem isFin_iff {ts : List Tar} {i : Nat} : isFin ts i = true ↔ Fin ts i := by unfold isFin; exact @decide_eq_true_iff _ (Classical.propDecidable _)
noncomputable def finL (ts : List Tar) : List Nat := (List.range ts.length).filter (isFin ts)
theorem isCheap_iff {ts : List Tar} {L : Int} {i : Nat} : isCheap ts L i = true ↔ ∀ t ∈ ts, stayP (ts.getD i dT) L ≤ stayP t L := by
  unfold isCheap
  rw [List.all_eq_true]
  exact ⟨fun h t ht => of_decide_eq_true (h t ht), fun h t ht => decide_eq_true (h t ht)⟩
theorem mem_cheap {ts : List Tar} {L : Int} {i : Nat} : i ∈ cheapL ts L ↔ i < ts.length ∧ ∀ t ∈ ts, stayP (ts.getD i dT) L ≤ stayP t L := by
  unfold cheapL
  rw [List.mem_filter, List.mem_range, isCheap_iff]
theorem mem_never {ts : List Tar} {i : Nat} : i ∈ neverL ts ↔ i < ts.length ∧ ∀ L, 1 ≤ L → L ≤ 96 → ¬ Best ts i L := by
  unfold neverL
  rw [List.mem_filter, List.mem_range, isNever_iff]
theorem mem_fin {ts : List Tar} {i : Nat} : i ∈ finL ts ↔ i < ts.length ∧ Fin ts i := by
  unfold finL
  rw [List.mem_filter, List.mem_range, isFin_iff]
theorem getD_mem {ts : List Tar} {i : Nat} (h : i < ts.length) : ts.getD i dT ∈ ts := by
  rw [List.getD_eq_getElem?_getD, List.getElem?_eq_getElem h]
  exact List.getElem_mem h
/-- a stay by its full days and its last part -/
theorem stay_split (t : Tar) {k p : Int} (hk : 0 ≤ k) (h0 : 1 ≤ p) (h1 : p ≤ 96) : stayP t (96 * k + p) = k * dayP t 96 + dayP t p := by
  unfold stayP
  rw [if_neg (by omega)]
  have e : (96 * k + p - 1) / 96 = k := by omega
  rw [e]
  have e2 : 96 * k + p - k * 96 = p := by omega
  rw [e2]
theorem stay_parts {L : Int} (h : 1 ≤ L) : ∃ k p, 0 ≤ k ∧ 1 ≤ p ∧ p ≤ 96 ∧ L = 96 * k + p := ⟨(L - 1) / 96, L - 96 * ((L - 1) / 96), by omega, by omega, by omega, by omega⟩
section
variable {ts : List Tar} (ok : ∀ t ∈ ts, Ok t)
include ok
theorem cheap_best {L : Int} {i : Nat} (hL : 1 ≤ L) (h : i ∈ cheapL ts L) : i ∉ neverL ts := by
  intro hn
  obtain ⟨hi, hc⟩ := mem_cheap.mp h
  obtain ⟨k, p, k0, p0, p1, rfl⟩ := stay_parts hL
  refine (mem_never.mp hn).2 p p0 p1 ⟨k, k0, fun t ht => ?_⟩
  have q := hc t ht
  rw [stay_split _ k0 p0 p1, stay_split _ k0 p0 p1] at q
  exact q
theorem cheap_far {p : Int} {i : Nat} (hi : i < ts.length) (h0 : 1 ≤ p) (h1 : p ≤ 96) : i ∈ cheapL ts (96 * 1000000000000 + p) ↔
    (∀ t ∈ ts, dayP (ts.getD i dT) 96 ≤ dayP t 96) ∧ ∀ t ∈ ts, dayP t 96 = dayP (ts.getD i dT) 96 → dayP (ts.getD i dT) p ≤ dayP t p := by
  rw [mem_cheap]
  have oi := ok _ (getD_mem hi)
  have bi := day_bd oi (L := p) (by omega) h1
  have bi2 := day_bd oi (L := 96) (by omega) (by omega)
  constructor
  · rintro ⟨_, h⟩
    have key : ∀ t ∈ ts, 1000000000000 * dayP (ts.getD i dT) 96 + dayP (ts.getD i dT) p ≤ 1000000000000 * dayP t 96 + dayP t p := fun t ht => by
      have q := h t ht
      rw [stay_split _ (by decide) h0 h1, stay_split _ (by decide) h0 h1] at q
      exact q
    refine ⟨fun t ht => ?_, fun t ht e => ?_⟩
    · have b := day_bd (ok t ht) (L := p) (by omega) h1
      have q := key t ht
      omega
    · have q := key t ht
      rw [e] at q
      omega
  · rintro ⟨hd, hp⟩
    refine ⟨hi, fun t ht => ?_⟩
    rw [stay_split _ (by decide) h0 h1, stay_split _ (by decide) h0 h1]
    have b := day_bd (ok t ht) (L := p) (by omega) h1
    have q := hd t ht
    rcases Int.lt_or_le (dayP (ts.getD i dT) 96) (dayP t 96) with c | c
    · omega
    · have e : dayP t 96 = dayP (ts.getD i dT) 96 := by omega
      have r := hp t ht e
      rw [e]
      omega
theorem fin_seen {i : Nat} : i ∈ finL ts ↔ ∃ p : Int, 1 ≤ p ∧ p ≤ 96 ∧ i ∈ cheapL ts (96 * 1000000000000 + p) := by
  constructor
  · intro h
    obtain ⟨hi, hd, p, p0, p1, hp⟩ := mem_fin.mp h
    exact ⟨p, p0, p1, (cheap_far ok hi p0 p1).mpr ⟨hd, hp⟩⟩
  · rintro ⟨p, p0, p1, h⟩
    have hi := (mem_cheap.mp h).1
    obtain ⟨hd, hp⟩ := (cheap_far ok hi p0 p1).mp h
    exact mem_fin.mpr ⟨hi, hd, p, p0, p1, hp⟩
theorem fin_not_never {i : Nat} (h : i ∈ finL ts) : i ∉ neverL ts := by
  obtain ⟨p, p0, p1, hc⟩ := (fin_seen ok).mp h
  exact cheap_best ok (by omega) hc
theorem fin_some (hn : 1 ≤ ts.length) : finL ts ≠ [] := by
  -- the least price of a day
  have key : ∀ l : List Tar, l ≠ [] → ∃ t ∈ l, ∀ u ∈ l, dayP t 96 ≤ dayP u 96 := by
    intro l
    induction l with
    | nil => intro h; exact absurd rfl h
    | cons a r ih =>
      intro _
      by_cases hr : r = []
      · subst hr
        exact ⟨a, List.mem_cons_self, fun u hu => by rw [List.mem_singleton.mp hu]; exact Int.le_refl _⟩
      · obtain ⟨t, ht, hm⟩ := ih hr
        by_cases c : dayP a 96 ≤ dayP t 96
        · refine ⟨a, List.mem_cons_self, fun u hu => ?_⟩
          rcases List.mem_cons.mp hu with z | z
          · rw [z]; exact Int.le_refl _
          · exact Int.le_trans c (hm u z)
        · refine ⟨t, List.mem_cons_of_mem _ ht, fun u hu => ?_⟩
          rcases List.mem_cons.mp hu with z | z
          · rw [z]; omega
          · exact hm u z
  have hne : ts ≠ [] := by intro e; rw [e] at hn; simp at hn
  obtain ⟨t, ht, hm⟩ := key ts hne
  obtain ⟨i, hi, e⟩ := List.getElem_of_mem ht
  have eg : ts.getD i dT = t := by rw [List.getD_eq_getElem?_getD, List.getElem?_eq_getElem hi, ← e] <;> rfl
  have hf : i ∈ finL ts := mem_fin.mpr ⟨hi, by rw [eg]; exact hm, 96, by decide, by decide, fun u _ e => by rw [e]; exact Int.le_refl _⟩
  intro e2
  rw [e2] at hf
  exact absurd hf (by simp)
theorem never_len (hn : 1 ≤ ts.length) : (neverL ts).length ≠ ts.length := by
  intro e
  have all : ∀ i ∈ List.range ts.length, isNever ts i = true := List.length_filter_eq_length_iff.mp (by rw [List.length_range]; exact e)
  obtain ⟨i, hi⟩ := List.exists_mem_of_ne_nil _ (fin_some ok hn)
  have h1 := (mem_fin.mp hi).1
  exact fin_not_never ok hi (List.mem_filter.mpr ⟨List.mem_range.mpr h1, all i (List.mem_range.mpr h1)⟩)
theorem cheap_zero : cheapL ts 0 = List.range ts.length := by
  unfold cheapL
  rw [List.filter_eq_self]
  intro i _
  refine isCheap_iff.mpr fun t _ => ?_
  unfold stayP
  rw [if_pos rfl, if_pos rfl]
  exact Int.le_refl _
theorem cheap_under {L : Int} {one other : Nat} (hL : 1 ≤ L) (h1 : one < ts.length) (hb : other ∈ cheapL ts L) (hd : ∀ p, 1 ≤ p → p ≤ 96 → dayP (ts.getD one dT) p ≤ dayP (ts.getD other dT) p) : one ∈ cheapL ts L := by
  obtain ⟨ho, hc⟩ := mem_cheap.mp hb
  refine mem_cheap.mpr ⟨h1, fun t ht => Int.le_trans ?_ (hc t ht)⟩
  obtain ⟨k, p, k0, p0, p1, rfl⟩ := stay_parts hL
  rw [stay_split _ k0 p0 p1, stay_split _ k0 p0 p1]
  have a := Int.mul_le_mul_of_nonneg_left (hd 96 (by decide) (by decide)) k0
  have b := hd p p0 p1
  omega
end
theorem best_more {ts : List Tar} {i : Nat} {L : Int} (hi : i < ts.length) (t0 : Tar) (h0 : t0 ∈ ts) : Best (ts ++ [t0]) i L ↔ Best ts i L := by
  have e : (ts ++ [t0]).getD i dT = ts.getD i dT := by
    rw [List.getD_eq_getElem?_getD, List.getD_eq_getElem?_getD, List.getElem?_append_left hi]
  unfold Best
  rw [e]
  constructor
  · rintro ⟨k, k0, h⟩
    exact ⟨k, k0, fun t ht => h t (List.mem_append_left _ ht)⟩
  · rintro ⟨k, k0, h⟩
    refine ⟨k, k0, fun t ht => ?_⟩
    rcases List.mem_append.mp ht with z | z
    · exact h t z
    · rw [List.mem_singleton.mp z]; exact h t0 h0
theorem never_more {ts : List Tar} (t0 : Tar) (h0 : t0 ∈ ts) : (neverL (ts ++ [t0])).filter (fun i => decide (i < ts.length)) = neverL ts := by
  unfold neverL
  rw [List.length_append, List.filter_filter]
  show (List.range (ts.length + 1)).filter _ = _
  rw [List.range_succ, List.filter_append]
  have e1 : [ts.length].filter (fun a => decide (a < ts.length) && isNever (ts ++ [t0]) a) = [] := by simp
  rw [e1, List.append_nil]
  apply List.filter_congr
  intro i hi
  have hi' := List.mem_range.mp hi
  rw [decide_eq_true hi', Bool.true_and, Bool.eq_iff_iff, isNever_iff, isNever_iff]
  exact ⟨fun h L a b q => h L a b ((best_more hi' t0 h0).mpr q), fun h L a b q => h L a b ((best_more hi' t0 h0).mp q)⟩
/-! ### the bounds of the number of days -/
theorem days_pos {k D p E q : Int} (h : 0 < D - E) : k * D + p ≤ k * E + q ↔ k ≤ (q - p) / (D - E) := by
  rw [Int.le_ediv_iff_mul_le h, Int.mul_sub]
  omega
theorem days_neg {k D p E q : Int} (h : D - E < 0) : k * D + p ≤ k * E + q ↔ 0 - (q - p) / (0 - (D - E)) ≤ k := by
  have e : 0 - (q - p) / (0 - (D - E)) ≤ k ↔ -k ≤ (q - p) / (0 - (D - E)) := by omega
  rw [e, Int.le_ediv_iff_mul_le (by omega)]
  have e2 : -k * (0 - (D - E)) = k * D - k * E := by
    rw [Int.neg_mul, Int.zero_sub, Int.mul_neg, Int.neg_neg, Int.mul_sub]
  rw [e2]
  omega
theorem days_zero {k D p E q : Int} (h : D - E = 0) : k * D + p ≤ k * E + q ↔ 0 ≤ q - p := by
  have : D = E := by omega
  subst this
  omega
/-- what the loop over the first tariffs knows: from low to high -/
def Bnd (ts : List Tar) (D p L : Int) (low : Int) (high : Option Int) : Prop := 0 ≤ low ∧ ∀ k, 0 ≤ k → ((∀ t ∈ ts, k * D + p ≤ k * dayP t 96 + dayP t L) ↔ low ≤ k ∧ ∀ h, high = some h → k ≤ h)
theorem Bnd.nil (D p L : Int) : Bnd [] D p L 0 none := ⟨Int.le_refl _, fun k h => ⟨fun _ => ⟨h, fun _ e => by cases e⟩, fun _ t ht => absurd ht (by simp)⟩⟩
theorem Bnd.snoc {ts : List Tar} {D p L low : Int} {high : Option Int} (b : Bnd ts D p L low high) (t : Tar) {low' : Int} {high' : Option Int} (h0 : 0 ≤ low')
    (h : ∀ k, 0 ≤ k → (((low ≤ k ∧ ∀ h, high = some h → k ≤ h) ∧ k * D + p ≤ k * dayP t 96 + dayP t L) ↔ low' ≤ k ∧ ∀ h, high' = some h → k ≤ h)) : Bnd (ts ++ [t]) D p L low' high' := by
  refine ⟨h0, fun k hk => ?_⟩
  rw [← h k hk, ← b.2 k hk]
  constructor
  · intro q
    exact ⟨fun u hu => q u (List.mem_append_left _ hu), q t (List.mem_append_right _ List.mem_cons_self)⟩
  · rintro ⟨q1, q2⟩ u hu
    rcases List.mem_append.mp hu with z | z
    · exact q1 u z
    · rw [List.mem_singleton.mp z]; exact q2
theorem Bnd.none {ts : List Tar} {i : Nat} {L low : Int} (b : Bnd ts (dayP (ts.getD i dT) 96) (dayP (ts.getD i dT) L) L low none) : Best ts i L :=
  ⟨low, b.1, (b.2 low b.1).mpr ⟨Int.le_refl _, fun _ e => by cases e⟩⟩
theorem Bnd.some {ts : List Tar} {i : Nat} {L low h : Int} (b : Bnd ts (dayP (ts.getD i dT) 96) (dayP (ts.getD i dT) L) L low (some h)) : Best ts i L ↔ low ≤ h := by
  constructor
  · rintro ⟨k, k0, q⟩
    obtain ⟨q1, q2⟩ := (b.2 k k0).mp q
    have := q2 h rfl
    omega
  · intro q
    exact ⟨low, b.1, (b.2 low b.1).mpr ⟨Int.le_refl _, fun _ e => by cases e; exact q⟩⟩
end Ma

local macro_rules | `(tactic| walk_at "g0") => `(tactic| first
  | ((with_reducible refine' Sy.g_var ?hh ?_); (case hh => rfl))
  | with_reducible refine' Sy.g_c ?_
  | with_reducible refine' Sy.g_op ?_
  | with_reducible refine' Sy.g_I0 ?_
  | with_reducible refine' Sy.g_cons ?_
  | with_reducible refine' Sy.g_nil ?_
  | with_reducible refine' Sy.g_asg ?_
  | with_reducible refine' Sy.g_name ?_
  | with_reducible refine' Sy.g_call ?_
  | with_reducible refine' Sy.g_cb ?_
  | with_reducible refine' Sy.g_test ?_
  | with_reducible refine' Sy.g_k ?_
  | with_reducible refine' Sy.g_B ?_
  | with_reducible refine' Sy.g_eqI ?_
  | with_reducible refine' Sy.g_neI ?_
  | with_reducible refine' Sy.g_eqB ?_
  | with_reducible refine' Sy.g_neB ?_
  | with_reducible refine' Sy.g_ifS ?_
  | with_reducible refine' Sy.g_ret ?_
  | with_reducible refine' Sy.g_par ?_
  | with_reducible refine' Sy.g_two ?_
  | with_reducible refine' Sy.g_and ?_
  | with_reducible refine' Sy.g_or ?_
  | with_reducible refine' Sy.g_not ?_
  | with_reducible refine' Sy.g_andV ?_
  | with_reducible refine' Sy.g_orV ?_
  | with_reducible refine' Sy.g_notV ?_
  | with_reducible refine' Sy.g_if ?_
  | with_reducible refine' Sy.g_chain ?_
  | with_reducible refine' Sy.g_tup ?_
  | with_reducible refine' Sy.g_lst ?_
  | with_reducible refine' Sy.g_un ?_
  | with_reducible refine' Sy.g_U ?_
  | with_reducible refine' Sy.g_next ?_
  | with_reducible refine' Sy.g_drop ?_
  | with_reducible refine' Sy.g_max2 ?_
  | with_reducible refine' Sy.g_min2 ?_
  | with_reducible refine' Sy.g_isN ?_
  | with_reducible refine' Sy.g_notN ?_
  | with_reducible refine' Sy.g_isNi ?_
  | with_reducible refine' Sy.g_isNn ?_
  | with_reducible refine' Sy.g_notNi ?_
  | with_reducible refine' Sy.g_notNn ?_
  | with_reducible refine' Sy.g_gnil ?_
  | with_reducible refine' Sy.g_gcons ?_
  | with_reducible refine' Sy.b_T ?_
  | with_reducible refine' Sy.b_F ?_
  | with_reducible refine' Sy.b_nF ?_
  | with_reducible refine' Sy.b_nT ?_
  | with_reducible refine' Sy.g_for ?_
  | with_reducible refine' Sy.g_lc ?_
  | with_reducible refine' Sy.g_yes ?_
  | with_reducible refine' Sy.g_iL ?_
  | with_reducible refine' Sy.g_iT ?_
  | with_reducible refine' Sy.g_iE ?_
  | with_reducible refine' Sy.g_iZ ?_
  | with_reducible refine' Sy.g_iR1 ?_
  | with_reducible refine' Sy.g_iR2 ?_
  | with_reducible refine' Sy.g_sl ?_
  | with_reducible refine' Sy.g_part ?_
  | with_reducible refine' Sy.g_nopart ?_
  | with_reducible refine' Sy.g_pi ?_
  | with_reducible refine' Sy.g_bm ?_
  | with_reducible refine' Sy.g_iET ?_
  | with_reducible refine' Sy.g_bag ?_
  | with_reducible refine' Sy.g_sub ?_)
local macro_rules | `(tactic| walk_at "gs") => `(tactic| repeat (walk_at "g0"))
local macro_rules | `(tactic| walk_at "go") => `(tactic| repeat (first | walk_at "g0" | with_reducible refine' Sy.g_seq ?_))
namespace St
open PySem PySem.Spec PyProof.Rows L2
def natV (i : Nat) : V := .int (i : Int)
abbrev PW : Program := PySem.Challenge.pw_staytariffs_k19_whole_the_cheapest_far_o
def top (i : Nat) : Stmt := PW.main.body.getD i (.Pass ⟨0, 0, 0, 0⟩)
abbrev s_is_integer : Stmt := (top 9)
abbrev N_is_integer : List Str := ["value", "low", "high"]
theorem sc_is_integer : FnScope N_is_integer ["value", "low", "high"] (defScope s_is_integer) := ⟨rfl, rfl, rfl, by decide +kernel, rfl, by decide +kernel, by decide +kernel⟩
abbrev s_is_row : Stmt := (top 10)
abbrev N_is_row : List Str := ["value"]
theorem sc_is_row : FnScope N_is_row ["value"] (defScope s_is_row) := ⟨rfl, rfl, rfl, by decide +kernel, rfl, by decide +kernel, by decide +kernel⟩
abbrev s_are_rows : Stmt := (top 11)
abbrev N_are_rows : List Str := ["value", "row", "one", "other"]
theorem sc_are_rows : FnScope N_are_rows ["value"] (defScope s_are_rows) := ⟨rfl, rfl, rfl, by decide +kernel, rfl, by decide +kernel, by decide +kernel⟩
abbrev s_is_tariff : Stmt := (top 12)
abbrev N_is_tariff : List Str := ["value", "grace", "rows", "unit", "unit_price", "cap"]
theorem sc_is_tariff : FnScope N_is_tariff ["value"] (defScope s_is_tariff) := ⟨rfl, rfl, rfl, by decide +kernel, rfl, by decide +kernel, by decide +kernel⟩
abbrev s_need_tariff : Stmt := (top 13)
abbrev N_need_tariff : List Str := ["value"]
theorem sc_need_tariff : FnScope N_need_tariff ["value"] (defScope s_need_tariff) := ⟨rfl, rfl, rfl, by decide +kernel, rfl, by decide +kernel, by decide +kernel⟩
abbrev s_need_tariffs : Stmt := (top 14)
abbrev N_need_tariffs : List Str := ["value", "one"]
theorem sc_need_tariffs : FnScope N_need_tariffs ["value"] (defScope s_need_tariffs) := ⟨rfl, rfl, rfl, by decide +kernel, rfl, by decide +kernel, by decide +kernel⟩
abbrev s_need_length : Stmt := (top 15)
abbrev N_need_length : List Str := ["value"]
theorem sc_need_length : FnScope N_need_length ["value"] (defScope s_need_length) := ⟨rfl, rfl, rfl, by decide +kernel, rfl, by decide +kernel, by decide +kernel⟩
abbrev s_day_price : Stmt := (top 16)
abbrev N_day_price : List Str := ["tariff", "length", "grace", "rows", "unit", "unit_price", "cap", "start", "paid", "until", "row_price"]
theorem sc_day_price : FnScope N_day_price ["tariff", "length"] (defScope s_day_price) := ⟨rfl, rfl, rfl, by decide +kernel, rfl, by decide +kernel, by decide +kernel⟩
abbrev s_stay_price : Stmt := (top 17)
abbrev N_stay_price : List Str := ["tariff", "length", "days"]
theorem sc_stay_price : FnScope N_stay_price ["tariff", "length"] (defScope s_stay_price) := ⟨rfl, rfl, rfl, by decide +kernel, rfl, by decide +kernel, by decide +kernel⟩
abbrev s_price : Stmt := (top 18)
abbrev N_price : List Str := ["tariff", "length"]
theorem sc_price : FnScope N_price ["tariff", "length"] (defScope s_price) := ⟨rfl, rfl, rfl, by decide +kernel, rfl, by decide +kernel, by decide +kernel⟩
abbrev s_cheapest : Stmt := (top 20)
abbrev N_cheapest : List Str := ["tariffs", "length", "rows", "tariff", "index", "cost"]
theorem sc_cheapest : FnScope N_cheapest ["tariffs", "length"] (defScope s_cheapest) := ⟨rfl, rfl, rfl, by decide +kernel, rfl, by decide +kernel, by decide +kernel⟩
abbrev s_is_best_somewhere : Stmt := (top 21)
abbrev N_is_best_somewhere : List Str := ["tariffs", "index", "length", "low", "high", "whole", "part", "other", "slope", "gap"]
theorem sc_is_best_somewhere : FnScope N_is_best_somewhere ["tariffs", "index", "length"] (defScope s_is_best_somewhere) := ⟨rfl, rfl, rfl, by decide +kernel, rfl, by decide +kernel, by decide +kernel⟩
abbrev s_never_cheapest : Stmt := (top 22)
abbrev N_never_cheapest : List Str := ["tariffs", "found", "index", "length"]
theorem sc_never_cheapest : FnScope N_never_cheapest ["tariffs"] (defScope s_never_cheapest) := ⟨rfl, rfl, rfl, by decide +kernel, rfl, by decide +kernel, by decide +kernel⟩
abbrev s_finally_cheapest : Stmt := (top 23)
abbrev N_finally_cheapest : List Str := ["tariffs", "least", "found", "rows", "lowest", "length", "index", "tariff", "costs", "row", "one", "other"]
theorem sc_finally_cheapest : FnScope N_finally_cheapest ["tariffs"] (defScope s_finally_cheapest) := ⟨rfl, rfl, rfl, by decide +kernel, rfl, by decide +kernel, by decide +kernel⟩
abbrev s_excesses : Stmt := (top 25)
abbrev N_excesses : List Str := ["first", "second", "length"]
theorem sc_excesses : FnScope N_excesses ["first", "second"] (defScope s_excesses) := ⟨rfl, rfl, rfl, by decide +kernel, rfl, by decide +kernel, by decide +kernel⟩
abbrev s_never_dearer : Stmt := (top 26)
abbrev N_never_dearer : List Str := ["first", "second"]
theorem sc_never_dearer : FnScope N_never_dearer ["first", "second"] (defScope s_never_dearer) := ⟨rfl, rfl, rfl, by decide +kernel, rfl, by decide +kernel, by decide +kernel⟩
abbrev s__law_cell_at : Stmt := (top 28)
abbrev N__law_cell_at : List Str := ["_law_script", "_law_k"]
theorem sc__law_cell_at : FnScope N__law_cell_at ["_law_script", "_law_k"] (defScope s__law_cell_at) := ⟨rfl, rfl, rfl, by decide +kernel, rfl, by decide +kernel, by decide +kernel⟩
abbrev s__law_draws : Stmt := (top 29)
abbrev N__law_draws : List Str := ["_law_cell", "_law_many", "_law_size", "_law_found", "_law_rest", "_law_stirred", "_law_k"]
theorem sc__law_draws : FnScope N__law_draws ["_law_cell", "_law_many", "_law_size"] (defScope s__law_draws) := ⟨rfl, rfl, rfl, by decide +kernel, rfl, by decide +kernel, by decide +kernel⟩
abbrev s__law_bag : Stmt := (top 30)
abbrev N__law_bag : List Str := ["_law_script", "_law_k"]
theorem sc__law_bag : FnScope N__law_bag ["_law_script", "_law_k"] (defScope s__law_bag) := ⟨rfl, rfl, rfl, by decide +kernel, rfl, by decide +kernel, by decide +kernel⟩
abbrev s__law_bags : Stmt := (top 31)
abbrev N__law_bags : List Str := ["_law_script", "_law_limit", "_law_k"]
theorem sc__law_bags : FnScope N__law_bags ["_law_script", "_law_limit"] (defScope s__law_bags) := ⟨rfl, rfl, rfl, by decide +kernel, rfl, by decide +kernel, by decide +kernel⟩
abbrev s__law_take : Stmt := (top 32)
abbrev N__law_take : List Str := ["_law_bag_here", "_law_many"]
theorem sc__law_take : FnScope N__law_take ["_law_bag_here", "_law_many"] (defScope s__law_take) := ⟨rfl, rfl, rfl, by decide +kernel, rfl, by decide +kernel, by decide +kernel⟩
abbrev s__law_far_draw : Stmt := (top 33)
abbrev N__law_far_draw : List Str := ["_law_bag_here", "_law_many", "_law_found", "_law_much"]
theorem sc__law_far_draw : FnScope N__law_far_draw ["_law_bag_here", "_law_many"] (defScope s__law_far_draw) := ⟨rfl, rfl, rfl, by decide +kernel, rfl, by decide +kernel, by decide +kernel⟩
abbrev s__law_tariff : Stmt := (top 34)
abbrev N__law_tariff : List Str := ["_law_bag_here", "_law_wide", "_law_untils", "_law_rows", "_law_paid", "_law_until", "_law_grace", "_law_unit", "_law_cap", "_law_turn"]
theorem sc__law_tariff : FnScope N__law_tariff ["_law_bag_here", "_law_wide"] (defScope s__law_tariff) := ⟨rfl, rfl, rfl, by decide +kernel, rfl, by decide +kernel, by decide +kernel⟩
abbrev s__law_similar : Stmt := (top 35)
abbrev N__law_similar : List Str := ["_law_bag_here", "_law_tariff_here", "_law_grace", "_law_rows", "_law_unit", "_law_more", "_law_cap", "_law_way"]
theorem sc__law_similar : FnScope N__law_similar ["_law_bag_here", "_law_tariff_here"] (defScope s__law_similar) := ⟨rfl, rfl, rfl, by decide +kernel, rfl, by decide +kernel, by decide +kernel⟩
abbrev s_law : Stmt := (top 36)
abbrev N_law : List Str := ["_law_script", "_law_bag_here", "_law_tariffs", "_law_turn", "_law_some", "_law_never", "_law_last", "_law_days", "_law_seen", "_law_part", "_law_length", "_law_best", "_law_one", "_law_under", "_law_more", "_law_tariff_here", "_law_index", "_law_other"]
theorem sc_law : FnScope N_law ["_law_script"] (defScope s_law) := ⟨rfl, rfl, rfl, by decide +kernel, rfl, by decide +kernel, by decide +kernel⟩
structure Txt (K : PySem.W.Frag) (mg : Str → Option Value) : Prop where
  g_is_integer : mg "is_integer" = some (.ref (He.ga K "is_integer"))
  g_is_row : mg "is_row" = some (.ref (He.ga K "is_row"))
  g_are_rows : mg "are_rows" = some (.ref (He.ga K "are_rows"))
  g_is_tariff : mg "is_tariff" = some (.ref (He.ga K "is_tariff"))
  g_need_tariff : mg "need_tariff" = some (.ref (He.ga K "need_tariff"))
  g_need_tariffs : mg "need_tariffs" = some (.ref (He.ga K "need_tariffs"))
  g_need_length : mg "need_length" = some (.ref (He.ga K "need_length"))
  g_day_price : mg "day_price" = some (.ref (He.ga K "day_price"))
  g_stay_price : mg "stay_price" = some (.ref (He.ga K "stay_price"))
  g_price : mg "price" = some (.ref (He.ga K "price"))
  g_cheapest : mg "cheapest" = some (.ref (He.ga K "cheapest"))
  g_is_best_somewhere : mg "is_best_somewhere" = some (.ref (He.ga K "is_best_somewhere"))
  g_never_cheapest : mg "never_cheapest" = some (.ref (He.ga K "never_cheapest"))
  g_finally_cheapest : mg "finally_cheapest" = some (.ref (He.ga K "finally_cheapest"))
  g_excesses : mg "excesses" = some (.ref (He.ga K "excesses"))
  g_never_dearer : mg "never_dearer" = some (.ref (He.ga K "never_dearer"))
  g__law_cell_at : mg "_law_cell_at" = some (.ref (He.ga K "_law_cell_at"))
  g__law_draws : mg "_law_draws" = some (.ref (He.ga K "_law_draws"))
  g__law_bag : mg "_law_bag" = some (.ref (He.ga K "_law_bag"))
  g__law_bags : mg "_law_bags" = some (.ref (He.ga K "_law_bags"))
  g__law_take : mg "_law_take" = some (.ref (He.ga K "_law_take"))
  g__law_far_draw : mg "_law_far_draw" = some (.ref (He.ga K "_law_far_draw"))
  g__law_tariff : mg "_law_tariff" = some (.ref (He.ga K "_law_tariff"))
  g__law_similar : mg "_law_similar" = some (.ref (He.ga K "_law_similar"))
  g_law : mg "law" = some (.ref (He.ga K "law"))
  i_DAY : ∃ t, mg "DAY" = some (.int 96 t)
  i_MAX_LENGTH : ∃ t, mg "MAX_LENGTH" = some (.int 1000000000000000 t)
  i_MAX_PRICE : ∃ t, mg "MAX_PRICE" = some (.int 1000000 t)
  n_all : mg "all" = none
  n_any : mg "any" = none
  n_bool : mg "bool" = none
  n_enumerate : mg "enumerate" = none
  n_int : mg "int" = none
  n_isinstance : mg "isinstance" = none
  n_len : mg "len" = none
  n_list : mg "list" = none
  n_max : mg "max" = none
  n_min : mg "min" = none
  n_range : mg "range" = none
  n_set : mg "set" = none
  n_sorted : mg "sorted" = none
  n_tuple : mg "tuple" = none
  n_zip : mg "zip" = none
  f_is_integer : FunD K "is_integer" "is_integer" (defArgs s_is_integer) (defBody s_is_integer) (defScope s_is_integer) [] [] (He.ga K "is_integer") (Sy.fdOf K (He.ga K "is_integer"))
  f_is_row : FunD K "is_row" "is_row" (defArgs s_is_row) (defBody s_is_row) (defScope s_is_row) [] [] (He.ga K "is_row") (Sy.fdOf K (He.ga K "is_row"))
  f_are_rows : FunD K "are_rows" "are_rows" (defArgs s_are_rows) (defBody s_are_rows) (defScope s_are_rows) [] [] (He.ga K "are_rows") (Sy.fdOf K (He.ga K "are_rows"))
  f_is_tariff : FunD K "is_tariff" "is_tariff" (defArgs s_is_tariff) (defBody s_is_tariff) (defScope s_is_tariff) [] [] (He.ga K "is_tariff") (Sy.fdOf K (He.ga K "is_tariff"))
  f_need_tariff : FunD K "need_tariff" "need_tariff" (defArgs s_need_tariff) (defBody s_need_tariff) (defScope s_need_tariff) [] [] (He.ga K "need_tariff") (Sy.fdOf K (He.ga K "need_tariff"))
  f_need_tariffs : FunD K "need_tariffs" "need_tariffs" (defArgs s_need_tariffs) (defBody s_need_tariffs) (defScope s_need_tariffs) [] [] (He.ga K "need_tariffs") (Sy.fdOf K (He.ga K "need_tariffs"))
  f_need_length : FunD K "need_length" "need_length" (defArgs s_need_length) (defBody s_need_length) (defScope s_need_length) [] [] (He.ga K "need_length") (Sy.fdOf K (He.ga K "need_length"))
  f_day_price : FunD K "day_price" "day_price" (defArgs s_day_price) (defBody s_day_price) (defScope s_day_price) [] [] (He.ga K "day_price") (Sy.fdOf K (He.ga K "day_price"))
  f_stay_price : FunD K "stay_price" "stay_price" (defArgs s_stay_price) (defBody s_stay_price) (defScope s_stay_price) [] [] (He.ga K "stay_price") (Sy.fdOf K (He.ga K "stay_price"))
  f_price : FunD K "price" "price" (defArgs s_price) (defBody s_price) (defScope s_price) [] [] (He.ga K "price") (Sy.fdOf K (He.ga K "price"))
  f_cheapest : FunD K "cheapest" "cheapest" (defArgs s_cheapest) (defBody s_cheapest) (defScope s_cheapest) [] [] (He.ga K "cheapest") (Sy.fdOf K (He.ga K "cheapest"))
  f_is_best_somewhere : FunD K "is_best_somewhere" "is_best_somewhere" (defArgs s_is_best_somewhere) (defBody s_is_best_somewhere) (defScope s_is_best_somewhere) [] [] (He.ga K "is_best_somewhere") (Sy.fdOf K (He.ga K "is_best_somewhere"))
  f_never_cheapest : FunD K "never_cheapest" "never_cheapest" (defArgs s_never_cheapest) (defBody s_never_cheapest) (defScope s_never_cheapest) [] [] (He.ga K "never_cheapest") (Sy.fdOf K (He.ga K "never_cheapest"))
  f_finally_cheapest : FunD K "finally_cheapest" "finally_cheapest" (defArgs s_finally_cheapest) (defBody s_finally_cheapest) (defScope s_finally_cheapest) [] [] (He.ga K "finally_cheapest") (Sy.fdOf K (He.ga K "finally_cheapest"))
  f_excesses : FunD K "excesses" "excesses" (defArgs s_excesses) (defBody s_excesses) (defScope s_excesses) [] [] (He.ga K "excesses") (Sy.fdOf K (He.ga K "excesses"))
  f_never_dearer : FunD K "never_dearer" "never_dearer" (defArgs s_never_dearer) (defBody s_never_dearer) (defScope s_never_dearer) [] [] (He.ga K "never_dearer") (Sy.fdOf K (He.ga K "never_dearer"))
  f__law_cell_at : FunD K "_law_cell_at" "_law_cell_at" (defArgs s__law_cell_at) (defBody s__law_cell_at) (defScope s__law_cell_at) [] [] (He.ga K "_law_cell_at") (Sy.fdOf K (He.ga K "_law_cell_at"))
  f__law_draws : FunD K "_law_draws" "_law_draws" (defArgs s__law_draws) (defBody s__law_draws) (defScope s__law_draws) [] [] (He.ga K "_law_draws") (Sy.fdOf K (He.ga K "_law_draws"))
  f__law_bag : FunD K "_law_bag" "_law_bag" (defArgs s__law_bag) (defBody s__law_bag) (defScope s__law_bag) [] [] (He.ga K "_law_bag") (Sy.fdOf K (He.ga K "_law_bag"))
  f__law_bags : FunD K "_law_bags" "_law_bags" (defArgs s__law_bags) (defBody s__law_bags) (defScope s__law_bags) [] [] (He.ga K "_law_bags") (Sy.fdOf K (He.ga K "_law_bags"))
  f__law_take : FunD K "_law_take" "_law_take" (defArgs s__law_take) (defBody s__law_take) (defScope s__law_take) [] [] (He.ga K "_law_take") (Sy.fdOf K (He.ga K "_law_take"))
  f__law_far_draw : FunD K "_law_far_draw" "_law_far_draw" (defArgs s__law_far_draw) (defBody s__law_far_draw) (defScope s__law_far_draw) [] [] (He.ga K "_law_far_draw") (Sy.fdOf K (He.ga K "_law_far_draw"))
  f__law_tariff : FunD K "_law_tariff" "_law_tariff" (defArgs s__law_tariff) (defBody s__law_tariff) (defScope s__law_tariff) [] [] (He.ga K "_law_tariff") (Sy.fdOf K (He.ga K "_law_tariff"))
  f__law_similar : FunD K "_law_similar" "_law_similar" (defArgs s__law_similar) (defBody s__law_similar) (defScope s__law_similar) [] [] (He.ga K "_law_similar") (Sy.fdOf K (He.ga K "_law_similar"))
  f_law : FunD K "law" "law" (defArgs s_law) (defBody s_law) (defScope s_law) [] [] (He.ga K "law") (Sy.fdOf K (He.ga K "law"))
section
variable {K : PySem.W.Frag} {mg : Str → Option Value}
theorem b_is_integer (T : Txt K mg) : Binds K (Sy.fdOf K (He.ga K "is_integer")) ["value", "low", "high"] [] := T.f_is_integer.bindsN fun _ _ _ _ _ _ us hl => match us, hl with | [_, _, _], _ => rfl
theorem b_is_row (T : Txt K mg) : Binds K (Sy.fdOf K (He.ga K "is_row")) ["value"] [] := T.f_is_row.bindsN fun _ _ _ _ _ _ us hl => match us, hl with | [_], _ => rfl
theorem b_are_rows (T : Txt K mg) : Binds K (Sy.fdOf K (He.ga K "are_rows")) ["value"] [] := T.f_are_rows.bindsN fun _ _ _ _ _ _ us hl => match us, hl with | [_], _ => rfl
theorem b_is_tariff (T : Txt K mg) : Binds K (Sy.fdOf K (He.ga K "is_tariff")) ["value"] [] := T.f_is_tariff.bindsN fun _ _ _ _ _ _ us hl => match us, hl with | [_], _ => rfl
theorem b_need_tariff (T : Txt K mg) : Binds K (Sy.fdOf K (He.ga K "need_tariff")) ["value"] [] := T.f_need_tariff.bindsN fun _ _ _ _ _ _ us hl => match us, hl with | [_], _ => rfl
theorem b_need_tariffs (T : Txt K mg) : Binds K (Sy.fdOf K (He.ga K "need_tariffs")) ["value"] [] := T.f_need_tariffs.bindsN fun _ _ _ _ _ _ us hl => match us, hl with | [_], _ => rfl
theorem b_need_length (T : Txt K mg) : Binds K (Sy.fdOf K (He.ga K "need_length")) ["value"] [] := T.f_need_length.bindsN fun _ _ _ _ _ _ us hl => match us, hl with | [_], _ => rfl
theorem b_day_price (T : Txt K mg) : Binds K (Sy.fdOf K (He.ga K "day_price")) ["tariff", "length"] [] := T.f_day_price.bindsN fun _ _ _ _ _ _ us hl => match us, hl with | [_, _], _ => rfl
theorem b_stay_price (T : Txt K mg) : Binds K (Sy.fdOf K (He.ga K "stay_price")) ["tariff", "length"] [] := T.f_stay_price.bindsN fun _ _ _ _ _ _ us hl => match us, hl with | [_, _], _ => rfl
theorem b_price (T : Txt K mg) : Binds K (Sy.fdOf K (He.ga K "price")) ["tariff", "length"] [] := T.f_price.bindsN fun _ _ _ _ _ _ us hl => match us, hl with | [_, _], _ => rfl
theorem b_cheapest (T : Txt K mg) : Binds K (Sy.fdOf K (He.ga K "cheapest")) ["tariffs", "length"] [] := T.f_cheapest.bindsN fun _ _ _ _ _ _ us hl => match us, hl with | [_, _], _ => rfl
theorem b_is_best_somewhere (T : Txt K mg) : Binds K (Sy.fdOf K (He.ga K "is_best_somewhere")) ["tariffs", "index", "length"] [] := T.f_is_best_somewhere.bindsN fun _ _ _ _ _ _ us hl => match us, hl with | [_, _, _], _ => rfl
theorem b_never_cheapest (T : Txt K mg) : Binds K (Sy.fdOf K (He.ga K "never_cheapest")) ["tariffs"] [] := T.f_never_cheapest.bindsN fun _ _ _ _ _ _ us hl => match us, hl with | [_], _ => rfl
theorem b_finally_cheapest (T : Txt K mg) : Binds K (Sy.fdOf K (He.ga K "finally_cheapest")) ["tariffs"] [] := T.f_finally_cheapest.bindsN fun _ _ _ _ _ _ us hl => match us, hl with | [_], _ => rfl
theorem b_excesses (T : Txt K mg) : Binds K (Sy.fdOf K (He.ga K "excesses")) ["first", "second"] [] := T.f_excesses.bindsN fun _ _ _ _ _ _ us hl => match us, hl with | [_, _], _ => rfl
theorem b_never_dearer (T : Txt K mg) : Binds K (Sy.fdOf K (He.ga K "never_dearer")) ["first", "second"] [] := T.f_never_dearer.bindsN fun _ _ _ _ _ _ us hl => match us, hl with | [_, _], _ => rfl
theorem b__law_cell_at (T : Txt K mg) : Binds K (Sy.fdOf K (He.ga K "_law_cell_at")) ["_law_script", "_law_k"] [] := T.f__law_cell_at.bindsN fun _ _ _ _ _ _ us hl => match us, hl with | [_, _], _ => rfl
theorem b__law_draws (T : Txt K mg) : Binds K (Sy.fdOf K (He.ga K "_law_draws")) ["_law_cell", "_law_many", "_law_size"] [] := T.f__law_draws.bindsN fun _ _ _ _ _ _ us hl => match us, hl with | [_, _, _], _ => rfl
theorem b__law_bag (T : Txt K mg) : Binds K (Sy.fdOf K (He.ga K "_law_bag")) ["_law_script", "_law_k"] [] := T.f__law_bag.bindsN fun _ _ _ _ _ _ us hl => match us, hl with | [_, _], _ => rfl
theorem b__law_bags (T : Txt K mg) : Binds K (Sy.fdOf K (He.ga K "_law_bags")) ["_law_script", "_law_limit"] [] := T.f__law_bags.bindsN fun _ _ _ _ _ _ us hl => match us, hl with | [_, _], _ => rfl
theorem b__law_take (T : Txt K mg) : Binds K (Sy.fdOf K (He.ga K "_law_take")) ["_law_bag_here", "_law_many"] [] := T.f__law_take.bindsN fun _ _ _ _ _ _ us hl => match us, hl with | [_, _], _ => rfl
theorem b__law_far_draw (T : Txt K mg) : Binds K (Sy.fdOf K (He.ga K "_law_far_draw")) ["_law_bag_here", "_law_many"] [] := T.f__law_far_draw.bindsN fun _ _ _ _ _ _ us hl => match us, hl with | [_, _], _ => rfl
theorem b__law_tariff (T : Txt K mg) : Binds K (Sy.fdOf K (He.ga K "_law_tariff")) ["_law_bag_here", "_law_wide"] [] := T.f__law_tariff.bindsN fun _ _ _ _ _ _ us hl => match us, hl with | [_, _], _ => rfl
theorem b__law_similar (T : Txt K mg) : Binds K (Sy.fdOf K (He.ga K "_law_similar")) ["_law_bag_here", "_law_tariff_here"] [] := T.f__law_similar.bindsN fun _ _ _ _ _ _ us hl => match us, hl with | [_, _], _ => rfl
theorem b_law (T : Txt K mg) : Binds K (Sy.fdOf K (He.ga K "law")) ["_law_script"] [] := T.f_law.bindsN fun _ _ _ _ _ _ us hl => match us, hl with | [_], _ => rfl
end
end St
namespace St
open PySem PySem.Spec PyProof.Rows L2 Sy
open Evl (Ex)
def sp__law_cell_at (K : PySem.W.Frag) : Sp := fun vs H Q _ => ∃ (a : Addr) (ns : List Int) (k : Int), vs = [.ref a, .int k] ∧ SqL K H a (ns.map V.int) ∧ 0 ≤ k ∧ ∀ c : Int, Q (.int c) H
end St
namespace St
open PySem PySem.Spec PyProof.Rows L2
open Evl (Ex)
open Sy
section
variable {P : Program} {w : World} {K : PySem.W.Frag} {mg : Str → Option Value} {base : Heap}
theorem ok__law_cell_at (T : Txt K mg) : FnOk P w K mg base CX0 1 (He.ga K "_law_cell_at") (Sy.fdOf K (He.ga K "_law_cell_at")) ["_law_script", "_law_k"] (sp__law_cell_at K) := by
  refine T.f__law_cell_at.ok sc__law_cell_at (fun vs H Q E h => ?_) (fun cdv A outer s H vs Q E hr h => ?_)
  · skip
    obtain ⟨a, ns, k, rfl, _⟩ := h
    rfl
  · refine ⟨_, PSs.nox ((pss_cons (ps_if (pt_cmpR op_lt (pv 1) (pe_callB (show CallR _ _ (rLenQ K) from c_len) (by rfl) T.n_len (by decide +kernel) (pa_cons (pv 0) pa_nil)) (nomark _)) (pss_one (ps_ret (pe_ix (show IxR _ (rIxL K) from ix_list) (pv 0) (pv 1) (fun _ _ => rfl)))) pss_nil)
        (pss_one (ps_ret pe_int)))), ?_⟩
    obtain ⟨a, ns, k, rfl, hl, k0, q⟩ := h
    refine st_eq (σ' := [some (.ref a), some (.int k)]) rfl ?_
    walk_at "go"
    refine g_lenL hl ?_
    walk_at "go"
    refine b_dec (fun c => ?_) (fun c => ?_)
    · walk_at "go"
      refine g_ixLn hl k0 c fun v hv => ?_
      obtain ⟨x, _, rfl⟩ := List.mem_map.mp hv
      exact q x
    · walk_at "go"
      exact q 0
end
end St
namespace St
open PySem PySem.Spec PyProof.Rows L2 Sy
open Evl (Ex)
def sp__law_draws (K : PySem.W.Frag) : Sp := fun vs H Q _ => ∃ c : Int, vs = [.int c, .int 400, .int 1000] ∧
  ∀ (ns : List Int) p H', Ex H H' → H p = none → H' p = some (.lst (ns.map V.int)) → ns.length = 400 → (∀ n ∈ ns, 0 ≤ n ∧ n < 1000) → Q (.ref p) H'
end St
namespace St
open PySem PySem.Spec PyProof.Rows L2
open Evl (Ex)
open Sy
section
variable {P : Program} {w : World} {K : PySem.W.Frag} {mg : Str → Option Value} {base : Heap}
theorem ok__law_draws (T : Txt K mg) : FnOk P w K mg base CX0 1 (He.ga K "_law_draws") (Sy.fdOf K (He.ga K "_law_draws")) ["_law_cell", "_law_many", "_law_size"] (sp__law_draws K) := by
  refine T.f__law_draws.ok sc__law_draws (fun vs H Q E h => ?_) (fun cdv A outer s H vs Q E hr h => ?_)
  · skip
    obtain ⟨c, rfl, _⟩ := h
    rfl
  · refine ⟨_, PSs.nox ((pss_cons (ps_set (i := 3) sc__law_draws.nd rfl (Or.inl rfl) (pe_lst pa_nil))
        (pss_cons (ps_set (i := 4) sc__law_draws.nd rfl (Or.inl rfl) (pe_op op_mul (pv 0) (pe_callTy call_int1 (by rfl) T.n_int (by decide +kernel) (pa_cons (pe_cmpR op_ge (pv 0) (pe_op op_pow pe_int pe_int) (nomark _)) pa_nil))))
        (pss_cons (ps_set (i := 5) sc__law_draws.nd rfl (Or.inl rfl) (pe_op op_mod (pv 0) pe_int))
        (pss_cons (ps_for PassesOwn.never rfl (pi_range1 (by rfl) T.n_range (pa_cons (pe_op op_add (pv 1) pe_int) pa_nil)) (pg_name (i := 6) sc__law_draws.nd rfl (Or.inl rfl)) (pss_cons (ps_set (i := 5) sc__law_draws.nd rfl (Or.inl rfl) (pe_op op_mod (pe_op op_add (pe_op op_add (pe_op op_add (pe_op op_mul (pv 5) (pv 5)) (pe_op op_mul pe_int (pv 5))) (pv 6)) pe_int) pe_int))
        (pss_one (ps_if (PW.pt (pw_and (pt_cmpR op_gt (pv 6) pe_int (nomark _)) (pw_and1 (pt_cmpR op_gt (pv 4) pe_int (nomark _))))) (pss_cons (ps_expr (show PE _ _ (tBM K "list" rAppend _ _) from pe_bm PySem.F.plainAttrs_list PySem.F.slot_list_append PySem.F.type_list_append mt_append (pv 3) (pa_cons (pe_op op_mod (pv 4) (pv 2)) pa_nil)))
        (pss_one (ps_set (i := 4) sc__law_draws.nd rfl (Or.inl rfl) (pe_op op_fdiv (pv 4) (pv 2))))) (pss_one (ps_if (pt_cmpR op_gt (pv 6) pe_int (nomark _)) (pss_one (ps_expr (show PE _ _ (tBM K "list" rAppend _ _) from pe_bm PySem.F.plainAttrs_list PySem.F.slot_list_append PySem.F.type_list_append mt_append (pv 3) (pa_cons (pe_op op_mod (pe_op op_fdiv (pv 5) pe_int) (pv 2)) pa_nil)))) pss_nil))))))
        (pss_one (ps_ret (pv 3)))))))), ?_⟩
    obtain ⟨c, rfl, q⟩ := h
    refine st_eq (σ' := [some (.int c), some (.int 400), some (.int 1000), none, none, none, none]) rfl ?_
    walk_at "go"
    refine new_lst rfl fun p H1 hp e1 hp1 => ?_
    walk_at "go"
    refine g_I ?_ ⟨by decide, by decide, by decide⟩
    walk_at "go"
    have hb : ∃ r : Int, 0 ≤ r ∧ c * (if decide (10 ^ (18 : Int).toNat ≤ c) = true then 1 else 0) = r := by
      refine ⟨_, ?_, rfl⟩
      have e : (10 : Int) ^ (18 : Int).toNat = 1000000000000000000 := by decide
      rw [e]
      by_cases h : (1000000000000000000 : Int) ≤ c
      · rw [decide_eq_true h, if_pos rfl]; omega
      · rw [decide_eq_false h, if_neg Bool.false_ne_true]; omega
    refine .inr ⟨_, rfl, ?_⟩
    refine g_I ?_ (.inr ⟨by split <;> decide, by split <;> decide⟩)
    obtain ⟨r, r0, er⟩ := hb
    rw [er]
    walk_at "go"
    refine g_I ?_ (by decide)
    walk_at "go"
    have hm : 0 ≤ c % 2305843009213693951 ∧ c % 2305843009213693951 < 2305843009213693951 := ⟨Int.emod_nonneg _ (by decide), Int.emod_lt_of_pos _ (by decide)⟩
    refine i_R1 (by decide) ?_
    refine forJ drv_rng (fun i σ H' => ∃ (ns : List Int) (r s : Int) (k : Option V), σ = [some (.int c), some (.int 400), some (.int 1000), some (.ref p), some (.int r), some (.int s), k] ∧ Ex H H' ∧ H' p = some (.lst (ns.map V.int)) ∧ ns.length = i - 3 ∧ (∀ n ∈ ns, 0 ≤ n ∧ n < 1000) ∧ 0 ≤ r ∧ 0 ≤ s ∧ s < 2305843009213693951) ?_ (fun _ _ _ _ _ => trivial) ?_ ?_
    · exact ⟨[], r, c % 2305843009213693951, none, rfl, e1, hp1, rfl, fun n hn => absurd hn (by simp), r0, hm.1, hm.2⟩
    · rintro i x σ H2 H2' hi ⟨ns, r, s, k, rfl, e2, hl, hlen, hall, r0, s0, s1⟩ _ ⟨rfl, rfl⟩
      walk_at "go"
      refine g_I ?_ (.inl ⟨by omega, by omega⟩)
      walk_at "go"
      refine g_I ?_ (.inl ⟨by decide, by decide⟩)
      walk_at "go"
      refine g_I ?_ (by decide)
      generalize hs' : (s * s + 48271 * s + (0 + ↑i) + 1) % 2305843009213693951 = s'
      have hm' : 0 ≤ s' ∧ s' < 2305843009213693951 := by
        rw [← hs']
        exact ⟨Int.emod_nonneg _ (by decide), Int.emod_lt_of_pos _ (by decide)⟩
      walk_at "go"
      have big : (100000 : Nat) < sizeLine := by decide
      have hi' : i < 403 := hi
      have fin : ∀ x : Int, 0 ≤ x → x < 1000 → (∀ n ∈ ns ++ [x], 0 ≤ n ∧ n < 1000) := fun x h0 h1 n hn => by
        rcases List.mem_append.mp hn with z | z
        · exact hall n z
        · rw [List.mem_singleton.mp z]; exact ⟨h0, h1⟩
      refine b_dec (fun c1 => ?_) (fun c1 => ?_)
      · walk_at "go"
        refine b_dec (fun c2 => ?_) (fun c2 => ?_)
        · walk_at "go"
          refine ⟨tyL (.of hl), ?_⟩
          walk_at "go"
          refine g_I ?_ (by decide)
          walk_at "go"
          refine app_ok hl (by rw [List.length_map]; omega) ?_
          walk_at "go"
          refine g_I ?_ ⟨by decide, by decide⟩
          walk_at "go"
          have m0 : 0 ≤ r % 1000 ∧ r % 1000 < 1000 := ⟨Int.emod_nonneg _ (by decide), Int.emod_lt_of_pos _ (by decide)⟩
          exact ⟨ns ++ [r % 1000], r / 1000, s', _, rfl, Ex.mut e2 hp, by rw [upd_same, List.map_append] <;> rfl, by rw [List.length_append, hlen]; show i - 3 + 1 = i + 1 - 3; omega, fin _ m0.1 m0.2, by omega, hm'.1, hm'.2⟩
        · walk_at "go"
          refine b_true c1 ?_
          walk_at "go"
          refine ⟨tyL (.of hl), ?_⟩
          walk_at "go"
          refine g_I ?_ ⟨by decide, by decide⟩
          walk_at "go"
          refine g_I ?_ (by decide)
          walk_at "go"
          refine app_ok hl (by rw [List.length_map]; omega) ?_
          walk_at "go"
          have m0 : 0 ≤ s' / 4096 % 1000 ∧ s' / 4096 % 1000 < 1000 := ⟨Int.emod_nonneg _ (by decide), Int.emod_lt_of_pos _ (by decide)⟩
          exact ⟨ns ++ [s' / 4096 % 1000], r, s', _, rfl, Ex.mut e2 hp, by rw [upd_same, List.map_append] <;> rfl, by rw [List.length_append, hlen]; show i - 3 + 1 = i + 1 - 3; omega, fin _ m0.1 m0.2, by omega, hm'.1, hm'.2⟩
      · walk_at "go"
        refine b_false c1 ?_
        walk_at "go"
        exact ⟨ns, r, s', _, rfl, e2, hl, by omega, hall, r0, hm'.1, hm'.2⟩
    · rintro σ H2 ⟨ns, r, s, k, rfl, e2, hl, hlen, hall, r0, s0, s1⟩
      walk_at "go"
      exact q ns p H2 e2 hp hl hlen hall
end
end St
namespace St
open PySem PySem.Spec PyProof.Rows L2 Sy
open Evl (Ex)
def sp__law_bag (K : PySem.W.Frag) : Sp := fun vs H Q _ => ∃ (a : Addr) (ns : List Int) (k : Int), vs = [.ref a, .int k] ∧ SqL K H a (ns.map V.int) ∧ 0 ≤ k ∧
  ∀ (b d : Addr) (ds : List Int) H', Ex H H' → H b = none → H d = none → H' b = some (BagO b d) → H' d = some (.lst (ds.map V.int)) → ds.length = 400 → (∀ n ∈ ds, 0 ≤ n ∧ n < 1000) → Q (.ref b) H'
end St
namespace St
open PySem PySem.Spec PyProof.Rows L2
open Evl (Ex)
open Sy
section
variable {P : Program} {w : World} {K : PySem.W.Frag} {mg : Str → Option Value} {base : Heap}
theorem ok__law_bag (T : Txt K mg) : FnOk P w K mg base CX0 2 (He.ga K "_law_bag") (Sy.fdOf K (He.ga K "_law_bag")) ["_law_script", "_law_k"] (sp__law_bag K) := by
  have G__law_cell_at : FnOk P w K mg base CX0 1 (He.ga K "_law_cell_at") (Sy.fdOf K (He.ga K "_law_cell_at")) ["_law_script", "_law_k"] (sp__law_cell_at K) := ok__law_cell_at T
  have G__law_draws : FnOk P w K mg base CX0 1 (He.ga K "_law_draws") (Sy.fdOf K (He.ga K "_law_draws")) ["_law_cell", "_law_many", "_law_size"] (sp__law_draws K) := ok__law_draws T
  refine T.f__law_bag.ok sc__law_bag (fun vs H Q E h => ?_) (fun cdv A outer s H vs Q E hr h => ?_)
  · skip
    obtain ⟨a, ns, k, rfl, _⟩ := h
    rfl
  · refine ⟨_, PSs.nox ((pss_one (ps_ret (pe_bag (pe_lst (pa_cons (pe_call G__law_draws (hr.mono (by decide)) rfl T.g__law_draws T.f__law_draws.kp (b__law_draws T) .nil pass0 (pa_cons (pe_call G__law_cell_at (hr.mono (by decide)) rfl T.g__law_cell_at T.f__law_cell_at.kp (b__law_cell_at T) .nil pass0 (pa_cons (pv 0) (pa_cons (pv 1) pa_nil))) (pa_cons pe_int (pa_cons pe_int pa_nil)))) (pa_cons pe_int pa_nil))))))), ?_⟩
    obtain ⟨a, ns, k, rfl, hl, k0, q⟩ := h
    refine st_eq (σ' := [some (.ref a), some (.int k)]) rfl ?_
    walk_at "go"
    refine ⟨a, ns, k, rfl, hl, k0, fun c => ?_⟩
    walk_at "go"
    refine ⟨c, rfl, fun ds d H1 e1 hd hd1 hlen hall => ?_⟩
    walk_at "go"
    refine new_lst rfl fun b H2 hb e2 hb2 => ?_
    refine ⟨b, d, 0, rfl, hb2, Int.le_refl _, ?_⟩
    have db : d ≠ b := ne_of_none hd1 hb
    refine q b d ds _ (Ex.mut (e1.trans e2) (Evl.fresh_back e1 hb)) (Evl.fresh_back e1 hb) hd upd_same ?_ hlen hall
    rw [upd_ne db]
    exact e2 _ _ hd1
end
end St
namespace St
open PySem PySem.Spec PyProof.Rows L2 Sy
open Evl (Ex)
def sp__law_bags (K : PySem.W.Frag) : Sp := fun vs H Q _ => ∃ (a : Addr) (ns : List Int) (m : Int), vs = [.ref a, .int m] ∧ SqL K H a (ns.map V.int) ∧ 1 ≤ m ∧ m ≤ 100 ∧
  ∀ (p : Addr) (bs : List V) H', Ex H H' → H p = none → H' p = some (.lst bs) → (∀ b ∈ bs, IsBag K H' b) → Q (.ref p) H'
end St
namespace St
open PySem PySem.Spec PyProof.Rows L2
open Evl (Ex)
open Sy
section
variable {P : Program} {w : World} {K : PySem.W.Frag} {mg : Str → Option Value} {base : Heap}
theorem ok__law_bags (T : Txt K mg) : FnOk P w K mg base CX0 3 (He.ga K "_law_bags") (Sy.fdOf K (He.ga K "_law_bags")) ["_law_script", "_law_limit"] (sp__law_bags K) := by
  have G__law_bag : FnOk P w K mg base CX0 2 (He.ga K "_law_bag") (Sy.fdOf K (He.ga K "_law_bag")) ["_law_script", "_law_k"] (sp__law_bag K) := ok__law_bag T
  refine T.f__law_bags.ok sc__law_bags (fun vs H Q E h => ?_) (fun cdv A outer s H vs Q E hr h => ?_)
  · skip
    obtain ⟨a, ns, m, rfl, _⟩ := h
    rfl
  · refine ⟨_, PSs.nox ((pss_one (ps_ret (pe_lc (own := [("_law_k", 2)]) rfl sc__law_bags.nd (pi_range1 (by rfl) T.n_range (pa_cons (pe_callB (c_max2 rfl) (by rfl) T.n_max (by decide +kernel) (pa_cons pe_int (pa_cons (pe_callB (c_min2 rfl) (by rfl) T.n_min (by decide +kernel) (pa_cons (pv 1) (pa_cons (pe_callB (show CallR _ _ (rLenQ K) from c_len) (by rfl) T.n_len (by decide +kernel) (pa_cons (pv 0) pa_nil)) pa_nil))) pa_nil))) pa_nil)) (blkOk_by (own := [("_law_k", 2)]) (N := N__law_bags) (sc := defScope s__law_bags) (by decide +kernel)) (fun _ _ _ _ _ => (pg_name (i := 2) sc__law_bags.nd rfl (Or.inl rfl))) (fun _ _ _ _ _ => pts_nil) (fun _ _ _ _ _ => (pe_call G__law_bag (hr.mono (by decide)) rfl T.g__law_bag T.f__law_bag.kp (b__law_bag T) .nil pass0 (pa_cons (pv 0) (pa_cons (pv 2) pa_nil)))))))), ?_⟩
    obtain ⟨a, ns, m, rfl, hl, m0, m1, q⟩ := h
    refine st_eq (σ' := [some (.ref a), some (.int m), none]) rfl ?_
    walk_at "go"
    refine g_lenL hl ?_
    walk_at "go"
    refine i_R1 (by omega) ?_
    refine lcH drv_rng (fun _ _ => trivial) (by omega) (fun i acc H' => ∀ b ∈ acc, IsBag K H' b) (fun i acc H1 H2 e h b hb => (h b hb).ex e) (fun H1 b hb => absurd hb (by simp)) ?_ ?_
    · rintro i x acc D H1 H2 Y Z hi hD hA iv e1 _ ⟨rfl, rfl⟩ hY hZ
      walk_at "go"
      refine ⟨rfl, ?_⟩
      walk_at "go"
      refine ⟨a, ns, _, rfl, Evl.ex_l e1 hl, by omega, fun b d ds H3 e3 hb hd hb3 hd3 hlen hall => ?_⟩
      have nb : b ≠ D := (ne_of_none hA hb).symm
      have nd : d ≠ D := (ne_of_none hA hd).symm
      refine hY _ H3 e3 fun v hv => ?_
      rcases List.mem_append.mp hv with z | z
      · exact (iv v z).ex (msk_ex e3)
      · rw [List.mem_singleton.mp z]
        exact ⟨b, d, ds, rfl, by rw [msk_ne nb]; exact hb3, .of (by rw [msk_ne nd]; exact hd3), hlen, hall⟩
    · intro p acc H2 hp e hp2 _ iv
      exact q p acc H2 e hp hp2 iv
end
end St
namespace St
open PySem PySem.Spec PyProof.Rows L2 Sy
open Evl (Ex)
def sp__law_take (K : PySem.W.Frag) : Sp := fun vs H Q _ => ∃ (v : V) (m : Int), vs = [v, .int m] ∧ IsBag K H v ∧ 0 < m ∧ ∀ r : Int, 0 ≤ r → r < m → Q (.int r) H
end St
namespace St
open PySem PySem.Spec PyProof.Rows L2
open Evl (Ex)
open Sy
section
variable {P : Program} {w : World} {K : PySem.W.Frag} {mg : Str → Option Value} {base : Heap}
theorem ok__law_take (T : Txt K mg) : FnOk P w K mg base CX0 1 (He.ga K "_law_take") (Sy.fdOf K (He.ga K "_law_take")) ["_law_bag_here", "_law_many"] (sp__law_take K) := by
  refine T.f__law_take.ok sc__law_take (fun vs H Q E h => ?_) (fun cdv A outer s H vs Q E hr h => ?_)
  · skip
    obtain ⟨v, m, rfl, _⟩ := h
    rfl
  · refine ⟨_, PSs.nox ((pss_cons (ps_asg (pe_op op_add (pe_ix ix_bag (pv 0) pe_int (fun _ _ => rfl)) pe_int) (pg_sub (pv 0) pe_int set_bag))
        (pss_one (ps_ret (pe_op op_mod (pe_ix (show IxR _ (rIxL K) from ix_list) (pe_ix ix_bag (pv 0) pe_int (fun _ _ => rfl)) (pe_op op_mod (pe_ix ix_bag (pv 0) pe_int (fun _ _ => rfl)) (pe_callB (show CallR _ _ (rLenQ K) from c_len) (by rfl) T.n_len (by decide +kernel) (pa_cons (pe_ix ix_bag (pv 0) pe_int (fun _ _ => rfl)) pa_nil))) (fun _ _ => rfl)) (pv 1)))))), ?_⟩
    obtain ⟨v, m, rfl, ⟨b, d, ns, rfl, hb, hd, hlen, hall⟩, hm, q⟩ := h
    refine st_eq (σ' := [some (.ref b), some (.int m)]) rfl ?_
    walk_at "go"
    refine g_ixB1 hb fun c c0 => ?_
    walk_at "go"
    refine g_setB hb (by omega) ?_
    walk_at "go"
    refine g_ixB0 hb ?_
    walk_at "go"
    refine g_ixB1 hb fun c c0 => ?_
    walk_at "go"
    refine g_ixB0 hb ?_
    walk_at "go"
    refine g_lenL hd ?_
    have hl : ((ns.map V.int).length : Int) = 400 := by rw [List.length_map, hlen] <;> rfl
    rw [hl]
    refine g_I ?_ (by decide)
    refine g_ixLn hd ?_ ?_ fun v hv => ?_
    · exact Int.emod_nonneg _ (by decide)
    · rw [hl]
      exact Int.emod_lt_of_pos _ (by decide)
    obtain ⟨x, hx, rfl⟩ := List.mem_map.mp hv
    walk_at "go"
    refine g_I ?_ hm
    exact q _ (Int.emod_nonneg _ (by omega)) (Int.emod_lt_of_pos _ hm)
end
end St
namespace St
open PySem PySem.Spec PyProof.Rows L2 Sy
open Evl (Ex)
def sp__law_far_draw (K : PySem.W.Frag) : Sp := fun vs H Q _ => ∃ (v : V) (m : Int), vs = [v, .int m] ∧ IsBag K H v ∧ 0 < m ∧ ∀ (r : Int) H', Ex H H' → 0 ≤ r → r < m → Q (.int r) H'
end St
namespace St
open PySem PySem.Spec PyProof.Rows L2
open Evl (Ex)
open Sy
section
variable {P : Program} {w : World} {K : PySem.W.Frag} {mg : Str → Option Value} {base : Heap}
theorem ok__law_far_draw (T : Txt K mg) : FnOk P w K mg base CX0 2 (He.ga K "_law_far_draw") (Sy.fdOf K (He.ga K "_law_far_draw")) ["_law_bag_here", "_law_many"] (sp__law_far_draw K) := by
  have G__law_take : FnOk P w K mg base CX0 1 (He.ga K "_law_take") (Sy.fdOf K (He.ga K "_law_take")) ["_law_bag_here", "_law_many"] (sp__law_take K) := ok__law_take T
  refine T.f__law_far_draw.ok sc__law_far_draw (fun vs H Q E h => ?_) (fun cdv A outer s H vs Q E hr h => ?_)
  · skip
    obtain ⟨v, m, rfl, _⟩ := h
    rfl
  · refine ⟨_, PSs.nox ((pss_cons (ps_par (i := 2) (j := 3) rfl sc__law_far_draw.nd rfl rfl (by decide) rfl rfl (pa_cons pe_int (pa_cons (pv 1) pa_nil)) (by rfl))
        (pss_cons (ps_while PassesOwn.never (pt_cmpR op_gt (pv 3) pe_int (nomark _)) (pss_one (ps_par (i := 2) (j := 3) rfl sc__law_far_draw.nd rfl rfl (by decide) rfl rfl (pa_cons (pe_op op_add (pe_op op_mul pe_int (pv 2)) (pe_call G__law_take (hr.mono (by decide)) rfl T.g__law_take T.f__law_take.kp (b__law_take T) .nil pass0 (pa_cons (pv 0) (pa_cons pe_int pa_nil)))) (pa_cons (pe_op op_fdiv (pv 3) pe_int) pa_nil)) (by rfl))))
        (pss_one (ps_ret (pe_ix (show IxR _ (rIxL K) from ix_list) (pe_lst (pa_cons (pe_op op_mod (pv 2) (pv 1)) (pa_cons pe_int (pa_cons (pe_op op_sub (pv 1) pe_int) (pa_cons (pe_op op_mod (pv 2) (pv 1)) pa_nil))))) (pe_call G__law_take (hr.mono (by decide)) rfl T.g__law_take T.f__law_take.kp (b__law_take T) .nil pass0 (pa_cons (pv 0) (pa_cons pe_int pa_nil))) (fun _ _ => rfl))))))), ?_⟩
    obtain ⟨v, m, rfl, hb, hm, q⟩ := h
    refine st_eq (σ' := [some v, some (.int m), none, none]) rfl ?_
    walk_at "go"
    refine ⟨fun (mm : Nat) σ H' => ∃ f u : Int, σ = [some v, some (.int m), some (.int f), some (.int u)] ∧ Ex H H' ∧ 0 ≤ u ∧ mm = u.toNat, ⟨m.toNat, 0, m, rfl, Ex.refl _, by omega, rfl⟩, ?_⟩
    rintro mm σ H' ⟨f, u, rfl, e, u0, rfl⟩
    walk_at "go"
    refine b_dec (fun c => ?_) (fun c => ?_)
    · refine ⟨fun σ H'' => ∃ f u' : Int, σ = [some v, some (.int m), some (.int f), some (.int u')] ∧ Ex H H'' ∧ 0 ≤ u' ∧ u' < u, ?_, ?_⟩
      · rintro σ' H'' ⟨f', u', rfl, e', h0, h1⟩
        exact ⟨u'.toNat, by omega, f', u', rfl, e', h0, rfl⟩
      · walk_at "go"
        refine g_I ?_ (.inl ⟨by decide, by decide⟩)
        walk_at "go"
        refine ⟨v, 1000, rfl, hb.ex e, by decide, fun r r0 r1 => ?_⟩
        walk_at "go"
        refine g_I ?_ ⟨by decide, by decide⟩
        walk_at "go"
        exact ⟨_, _, rfl, e, by omega, by omega⟩
    · walk_at "go"
      refine g_I ?_ hm
      walk_at "go"
      refine g_I ?_ hm
      walk_at "go"
      refine new_lst rfl fun p H2 hp e2 hp2 => ?_
      walk_at "go"
      refine ⟨v, 4, rfl, (hb.ex e).ex e2, by decide, fun r r0 r1 => ?_⟩
      have m0 : 0 ≤ f % m := Int.emod_nonneg _ (by omega)
      have m1 : f % m < m := Int.emod_lt_of_pos _ hm
      refine g_ixLn (.of hp2) r0 r1 fun y hy => ?_
      simp only [List.mem_cons, List.not_mem_nil, or_false] at hy
      have fin : ∃ x : Int, y = .int x ∧ 0 ≤ x ∧ x < m := by
        rcases hy with rfl | rfl | rfl | rfl
        · exact ⟨_, rfl, m0, m1⟩
        · exact ⟨_, rfl, by omega, hm⟩
        · exact ⟨_, rfl, by omega, by omega⟩
        · exact ⟨_, rfl, m0, m1⟩
      obtain ⟨x, rfl, x0, x1⟩ := fin
      exact q x H2 (e.trans e2) x0 x1
end
end St
namespace St
open PySem PySem.Spec PyProof.Rows L2 Sy
open Evl (Ex)
def sp__law_similar (K : PySem.W.Frag) : Sp := fun vs H Q _ => ∃ (v x : V) (t : Tar), vs = [v, x] ∧ IsBag K H v ∧ TarAt K H x t ∧ Ma.Ok t ∧ t.more ≤ 900000 ∧ ∀ (u : V) (t' : Tar) H', Ex H H' → TarAt K H' u t' → Ma.Ok t' → t'.more ≤ t.more + 1 → Q u H'
end St
namespace St
open PySem PySem.Spec PyProof.Rows L2
open Evl (Ex)
open Sy
section
variable {P : Program} {w : World} {K : PySem.W.Frag} {mg : Str → Option Value} {base : Heap}
theorem ok__law_similar (T : Txt K mg) : FnOk P w K mg base CX0 2 (He.ga K "_law_similar") (Sy.fdOf K (He.ga K "_law_similar")) ["_law_bag_here", "_law_tariff_here"] (sp__law_similar K) := by
  have G__law_take : FnOk P w K mg base CX0 1 (He.ga K "_law_take") (Sy.fdOf K (He.ga K "_law_take")) ["_law_bag_here", "_law_many"] (sp__law_take K) := ok__law_take T
  refine T.f__law_similar.ok sc__law_similar (fun vs H Q E h => ?_) (fun cdv A outer s H vs Q E hr h => ?_)
  · skip
    obtain ⟨v, x, t, rfl, _⟩ := h
    rfl
  · refine ⟨_, PSs.nox ((pss_cons (ps_asg (pv 1) (show PG _ _ (gTup K 5 (gCons (gName 2) (gCons (gName 3) (gCons (gName 4) (gCons (gName 5) (gCons (gName 6) gNil)))))) from pg_tup rfl (pgs_cons (pg_name (i := 2) sc__law_similar.nd rfl (Or.inl rfl)) (pgs_cons (pg_name (i := 3) sc__law_similar.nd rfl (Or.inl rfl)) (pgs_cons (pg_name (i := 4) sc__law_similar.nd rfl (Or.inl rfl)) (pgs_cons (pg_name (i := 5) sc__law_similar.nd rfl (Or.inl rfl)) (pgs_cons (pg_name (i := 6) sc__law_similar.nd rfl (Or.inl rfl)) pgs_nil)))))))
        (pss_cons (ps_set (i := 7) sc__law_similar.nd rfl (Or.inl rfl) (pe_call G__law_take (hr.mono (by decide)) rfl T.g__law_take T.f__law_take.kp (b__law_take T) .nil pass0 (pa_cons (pv 0) (pa_cons pe_int pa_nil))))
        (pss_cons (ps_if (pt_cmpR op_eq (pv 7) pe_int (nomark _)) (pss_one (ps_ret (pe_tup (pa_cons (pe_op op_mod (pe_callB (c_max2 rfl) (by rfl) T.n_max (by decide +kernel) (pa_cons pe_int (pa_cons (pe_op op_add (pv 2) (pe_ix (show IxR _ (rIxL K) from ix_list) (pe_lst (pa_cons pe_int (pa_cons (pe_un un_neg pe_int) pa_nil))) (pe_call G__law_take (hr.mono (by decide)) rfl T.g__law_take T.f__law_take.kp (b__law_take T) .nil pass0 (pa_cons (pv 0) (pa_cons pe_int pa_nil))) (fun _ _ => rfl))) pa_nil))) pe_int) (pa_cons (pv 3) (pa_cons (pv 4) (pa_cons (pv 5) (pa_cons (pv 6) pa_nil)))))))) pss_nil)
        (pss_cons (ps_if (PW.pt (pw_and (pt_cmpR op_eq (pv 7) pe_int (nomark _)) (pw_and1 (pt_cmpR (show OpR _ _ (rNeD K) from op_neD hr.units) (pv 3) (pe_tup pa_nil) (nomark _))))) (pss_one (ps_ret (pe_tup (pa_cons (pv 2) (pa_cons (pe_slice (show SlR _ (rSlA K) from sl_tupA) (pv 3) po_none (po_some (pe_un un_neg pe_int))) (pa_cons (pv 4) (pa_cons (pv 5) (pa_cons (pv 6) pa_nil)))))))) pss_nil)
        (pss_cons (ps_if (pt_cmpR op_eq (pv 7) pe_int (nomark _)) (pss_one (ps_ret (pe_tup (pa_cons (pv 2) (pa_cons (pv 3) (pa_cons (pe_callB (c_min2 rfl) (by rfl) T.n_min (by decide +kernel) (pa_cons pe_int (pa_cons (pe_op op_add (pv 4) pe_int) pa_nil))) (pa_cons (pv 5) (pa_cons (pv 6) pa_nil)))))))) pss_nil)
        (pss_cons (ps_if (pt_cmpR op_eq (pv 7) pe_int (nomark _)) (pss_one (ps_ret (pe_tup (pa_cons (pv 2) (pa_cons (pv 3) (pa_cons (pv 4) (pa_cons (pe_callB (c_max2 rfl) (by rfl) T.n_max (by decide +kernel) (pa_cons pe_int (pa_cons (pe_op op_add (pv 5) (pe_ix (show IxR _ (rIxL K) from ix_list) (pe_lst (pa_cons pe_int (pa_cons (pe_un un_neg pe_int) pa_nil))) (pe_call G__law_take (hr.mono (by decide)) rfl T.g__law_take T.f__law_take.kp (b__law_take T) .nil pass0 (pa_cons (pv 0) (pa_cons pe_int pa_nil))) (fun _ _ => rfl))) pa_nil))) (pa_cons (pv 6) pa_nil)))))))) pss_nil)
        (pss_cons (ps_if (pt_cmpR op_eq (pv 7) pe_int (nomark _)) (pss_one (ps_ret (pe_tup (pa_cons (pv 2) (pa_cons (pv 3) (pa_cons (pv 4) (pa_cons (pv 5) (pa_cons (pe_ifExp (PW.pt (pw_and (pt_cmpR o_notN (pv 6) pe_non (nomark _)) (pw_and1 (pt_cmpR op_eq (pe_call G__law_take (hr.mono (by decide)) rfl T.g__law_take T.f__law_take.kp (b__law_take T) .nil pass0 (pa_cons (pv 0) (pa_cons pe_int pa_nil))) pe_int (nomark _))))) pe_non (pe_call G__law_take (hr.mono (by decide)) rfl T.g__law_take T.f__law_take.kp (b__law_take T) .nil pass0 (pa_cons (pv 0) (pa_cons pe_int pa_nil)))) pa_nil)))))))) pss_nil)
        (pss_cons (ps_if (PW.pt (pw_and (pt_cmpR (show OpR _ _ (rNeD K) from op_neD hr.units) (pv 3) (pe_tup pa_nil) (nomark _)) (pw_and (PW.pt (pw_or (pt_cmpR op_lt (pe_callB (show CallR _ _ (rLenQ K) from c_len) (by rfl) T.n_len (by decide +kernel) (pa_cons (pv 3) pa_nil)) pe_int (nomark _)) (pw_or1 (pt_cmpR op_lt (pe_ix (show IxR _ (rIxT K) from ix_tup) (pe_ix (show IxR _ (rIxT K) from ix_tup) (pv 3) (pe_un un_neg pe_int) (fun _ _ => rfl)) pe_int (fun _ _ => rfl)) (pe_op op_sub (pe_ix (show IxR _ (rIxT K) from ix_tup) (pe_ix (show IxR _ (rIxT K) from ix_tup) (pv 3) (pe_un un_neg pe_int) (fun _ _ => rfl)) pe_int (fun _ _ => rfl)) pe_int) (nomark _))))) (pw_and1 (pt_cmpR op_gt (pe_ix (show IxR _ (rIxT K) from ix_tup) (pe_ix (show IxR _ (rIxT K) from ix_tup) (pv 3) (pe_un un_neg pe_int) (fun _ _ => rfl)) pe_int (fun _ _ => rfl)) pe_int (nomark _)))))) (pss_one (ps_ret (pe_tup (pa_cons (pv 2) (pa_cons (pe_op (show OpR _ _ (rCatA K) from op_catA) (pe_slice (show SlR _ (rSlA K) from sl_tupA) (pv 3) po_none (po_some (pe_un un_neg pe_int))) (pe_tup (pa_cons (pe_tup (pa_cons (pe_op op_sub (pe_ix (show IxR _ (rIxT K) from ix_tup) (pe_ix (show IxR _ (rIxT K) from ix_tup) (pv 3) (pe_un un_neg pe_int) (fun _ _ => rfl)) pe_int (fun _ _ => rfl)) pe_int) (pa_cons (pe_ix (show IxR _ (rIxT K) from ix_tup) (pe_ix (show IxR _ (rIxT K) from ix_tup) (pv 3) (pe_un un_neg pe_int) (fun _ _ => rfl)) pe_int (fun _ _ => rfl)) pa_nil))) pa_nil))) (pa_cons (pv 4) (pa_cons (pv 5) (pa_cons (pv 6) pa_nil)))))))) pss_nil)
        (pss_one (ps_ret (pv 1)))))))))))), ?_⟩
    obtain ⟨v, x, t, rfl, hb, ht, ok, hmore, q⟩ := h
    refine st_eq (σ' := [some v, some x, none, none, none, none, none, none]) rfl ?_
    obtain ⟨a, r, rfl, ha, hr2⟩ := id ht
    walk_at "go"
    refine g_gtup ha rfl ?_
    walk_at "go"
    refine ⟨v, 6, rfl, hb, by decide, fun w0 w00 w01 => ?_⟩
    walk_at "go"
    have fin : ∀ (g u m : Int) (rv : V) (rows : List (Int × Int)) (c : Option Int) p H', Ex H H' → H' p = some (.tup [.int g, rv, .int u, .int m, ov c]) → TPr K H' rv rows → 0 ≤ g → g ≤ 96 → 1 ≤ u → u ≤ 96 → 0 ≤ m → m ≤ t.more + 1 → Ma.rowsOk rows = true → Ma.capOk c = true → Q (.ref p) H' :=
      fun g u m rv rows c p H' e hp hrv g0 g1 u0 u1 m0 m1 hro hca => q (.ref p) ⟨g, rows, u, m, c⟩ H' e ⟨p, rv, rfl, .of hp, hrv⟩ ⟨g0, g1, hro, u0, u1, m0, by show m ≤ 1000000; omega, hca⟩ m1
    obtain ⟨g0, g1, ro, u0, u1, m0, m1, ca⟩ := id ok
    refine b_dec (fun c => ?_) (fun c => ?_)
    · walk_at "go"
      refine new_lst rfl fun p1 H1 hp1 e1 hp12 => ?_
      walk_at "go"
      refine ⟨v, 2, rfl, hb.ex e1, by decide, fun k k0 k1 => ?_⟩
      refine g_ixLn (.of hp12) k0 k1 fun y hy => ?_
      have hy2 : ∃ m : Int, y = .int m ∧ -1 ≤ m ∧ m ≤ 1 := by
        simp only [List.mem_cons, List.not_mem_nil, or_false] at hy
        rcases hy with rfl | rfl
        · exact ⟨1, rfl, by decide, by decide⟩
        · exact ⟨-1, rfl, by decide, by decide⟩
      obtain ⟨d, rfl, d0, d1⟩ := hy2
      walk_at "go"
      refine g_I ?_ (by decide)
      walk_at "go"
      refine new_tup rfl fun p2 H2 hp2 e2 hp22 => ?_
      exact fin _ _ _ _ _ _ p2 H2 (e1.trans e2) hp22 ((hr2.ex e1).ex e2) (Int.emod_nonneg _ (by decide)) (by have := Int.emod_lt_of_pos (max 0 (t.grace + d)) (show (0 : Int) < 97 by decide); omega) u0 u1 m0 (by omega) ro ca
    walk_at "gs"
    with_reducible refine' g_cutIf (fun N hN => ?_) (fun H1 e1 => ?_)
    · walk_at "go"
      refine b_dec (fun c => ?_) (fun c => ?_)
      · walk_at "go"
        refine new_tup rfl fun p1 H1 hp1 e1 hp12 => ?_
        refine g_neTP (hr2.ex e1) (qs := []) ⟨p1, [], rfl, .of hp12, .nil⟩ ?_
        walk_at "go"
        refine n_dec (fun c => ?_) (fun c => ?_)
        · walk_at "go"
          obtain ⟨rp, rvs, rfl, hrp, hrs⟩ := hr2.ex e1
          refine g_slA hrp fun p2 H2 e2 hp2 => ?_
          walk_at "go"
          refine new_tup rfl fun p3 H3 hp3 e3 hp32 => ?_
          have e1' : cutV rvs none (some (-1 : Int)) = rvs.dropLast := cut_last rvs
          rw [e1', List.dropLast_eq_take] at hp2
          have hrl : rvs.length = t.rows.length := pd_len hrs
          refine fin _ _ _ _ (t.rows.take (rvs.length - 1)) _ p3 H3 ((e1.trans e2).trans e3) hp32 ⟨p2, _, rfl, Evl.ex_t e3 hp2, prs_ex (e2.trans e3) (pd_take _ hrs)⟩ g0 g1 u0 u1 m0 (by omega) (Ma.rowsOk_take ro _) ca
        · walk_at "go"
          exact hN _ e1
      · walk_at "go"
        exact hN _ (Ex.refl _)
    walk_at "go"
    refine b_dec (fun c => ?_) (fun c => ?_)
    · walk_at "go"
      refine new_tup rfl fun p3 H3 hp3 e3 hp32 => ?_
      exact fin _ _ _ _ _ _ p3 H3 (e1.trans e3) hp32 ((hr2.ex e1).ex e3) g0 g1 (by omega) (by omega) m0 (by omega) ro ca
    walk_at "go"
    refine b_dec (fun c => ?_) (fun c => ?_)
    · walk_at "go"
      refine new_lst rfl fun p1 H2 hp1 e2 hp12 => ?_
      walk_at "go"
      refine ⟨v, 2, rfl, (hb.ex e1).ex e2, by decide, fun k k0 k1 => ?_⟩
      refine g_ixLn (.of hp12) k0 k1 fun y hy => ?_
      have hy2 : ∃ m : Int, y = .int m ∧ -1 ≤ m ∧ m ≤ 1 := by
        simp only [List.mem_cons, List.not_mem_nil, or_false] at hy
        rcases hy with rfl | rfl
        · exact ⟨1, rfl, by decide, by decide⟩
        · exact ⟨-1, rfl, by decide, by decide⟩
      obtain ⟨d, rfl, d0, d1⟩ := hy2
      walk_at "go"
      refine new_tup rfl fun p3 H3 hp3 e3 hp32 => ?_
      exact fin _ _ _ _ _ _ p3 H3 ((e1.trans e2).trans e3) hp32 (((hr2.ex e1).ex e2).ex e3) g0 g1 u0 u1 (by omega) (by omega) ro ca
    walk_at "gs"
    with_reducible refine' g_cutIf (fun N hN => ?_) (fun H1 e2 => ?_)
    · walk_at "go"
      refine b_dec (fun c => ?_) (fun c => ?_)
      · walk_at "go"
        have hbe := hb.ex e1
        have hrE := hr2.ex e1
        refine n_dec (fun hc => ?_) (fun hc => ?_)
        · walk_at "go"
          refine ⟨v, 2, rfl, hbe, by decide, fun k k0 k1 => ?_⟩
          walk_at "go"
          refine b_dec (fun hk => ?_) (fun hk => ?_)
          · walk_at "go"
            refine new_tup rfl fun p3 H3 hp3 e3 hp32 => ?_
            exact fin _ _ _ _ _ none p3 H3 (e1.trans e3) hp32 (hrE.ex e3) g0 g1 u0 u1 m0 (by omega) ro rfl
          · walk_at "go"
            refine ⟨v, 60, rfl, hbe, by decide, fun k k0 k1 => ?_⟩
            walk_at "go"
            refine new_tup rfl fun p3 H3 hp3 e3 hp32 => ?_
            exact fin _ _ _ _ _ (some k) p3 H3 (e1.trans e3) hp32 (hrE.ex e3) g0 g1 u0 u1 m0 (by omega) ro (Ma.capOk_some (by omega) (by omega))
        · walk_at "go"
          refine ⟨v, 60, rfl, hbe, by decide, fun k k0 k1 => ?_⟩
          walk_at "go"
          refine new_tup rfl fun p3 H3 hp3 e3 hp32 => ?_
          exact fin _ _ _ _ _ (some k) p3 H3 (e1.trans e3) hp32 (hrE.ex e3) g0 g1 u0 u1 m0 (by omega) ro (Ma.capOk_some (by omega) (by omega))
      · walk_at "go"
        exact hN _ (Ex.refl _)
    walk_at "gs"
    with_reducible refine' g_cutIf (fun N hN => ?_) (fun H1 e3 => ?_)
    · walk_at "go"
      refine new_tup rfl fun p4 H4 hp4 e4 hp42 => ?_
      have E4 := (e1.trans e2).trans e4
      refine g_neTP (hr2.ex E4) (qs := []) ⟨p4, [], rfl, .of hp42, .nil⟩ ?_
      walk_at "g0"
      refine n_dec (fun c => ?_) (fun c => ?_)
      · obtain ⟨rp, rvs, rfl, hrp, hrs⟩ := hr2.ex E4
        have hrl : rvs.length = t.rows.length := pd_len hrs
        obtain ⟨h4, hall, hpw⟩ := Ma.rowsOk_pw ro
        have hpos : 0 < t.rows.length := by
          rcases Nat.eq_zero_or_pos t.rows.length with z | z
          · exact absurd (List.eq_nil_of_length_eq_zero z) c
          · exact z
        have hlast : t.rows[t.rows.length - 1]? = some (t.rows[t.rows.length - 1]'(by omega)) := List.getElem?_eq_getElem _
        obtain ⟨pl, hpl⟩ : ∃ pl, t.rows[t.rows.length - 1]? = some pl := ⟨_, hlast⟩
        obtain ⟨vl, hvl, al, rfl, hal⟩ := pd_at2 hrs hpl
        rw [← hrl] at hvl
        have hpm := hall pl (List.mem_of_getElem? hpl)
        with_reducible refine' g_and ?_
        with_reducible refine' g_orB (c1 := (rvs.length : Int) < 2) (c2 := ∀ x, t.rows[t.rows.length - 2]? = some x → x.1 < pl.1 - 1) ?_ ?_ ?_
        · intro R hR
          walk_at "go"
          refine g_lenT hrp ?_
          walk_at "go"
          exact hR
        · intro hn R hR
          obtain ⟨pk, hpk⟩ : ∃ pk, t.rows[t.rows.length - 2]? = some pk := ⟨_, List.getElem?_eq_getElem (by omega)⟩
          obtain ⟨vk, hvk, ak, rfl, hak⟩ := pd_at2 hrs hpk
          rw [← hrl] at hvk
          walk_at "go"
          refine g_ixBk 2 hrp rfl (by decide) (by omega) hvk ?_
          walk_at "go"
          refine g_ixT hak (atI_nat (j := 0) rfl) ?_
          walk_at "go"
          refine g_ixBk 1 hrp rfl (by decide) (by omega) hvl ?_
          walk_at "go"
          refine g_ixT hal (atI_nat (j := 0) rfl) ?_
          walk_at "go"
          have e : decide (∀ x, t.rows[t.rows.length - 2]? = some x → x.1 < pl.1 - 1) = decide (pk.1 < pl.1 - 1) := decide_eq_decide.mpr ⟨fun h => h pk hpk, fun h x hx => by rw [hpk] at hx; cases hx; exact h⟩
          rw [← e]
          exact hR
        refine b_dec (fun hc => ?_) (fun hc => ?_)
        · walk_at "go"
          refine g_ixBk 1 hrp rfl (by decide) (by omega) hvl ?_
          walk_at "go"
          refine g_ixT hal (atI_nat (j := 0) rfl) ?_
          walk_at "go"
          refine b_dec (fun hc2 => ?_) (fun hc2 => ?_)
          · walk_at "go"
            refine g_slA hrp fun p5 H5 e5 hp5 => ?_
            walk_at "go"
            refine g_ixBk 1 (Evl.ex_t e5 hrp) rfl (by decide) (by omega) hvl ?_
            walk_at "go"
            refine g_ixT (Evl.ex_t e5 hal) (atI_nat (j := 0) rfl) ?_
            walk_at "go"
            refine g_ixBk 1 (Evl.ex_t e5 hrp) rfl (by decide) (by omega) hvl ?_
            walk_at "go"
            refine g_ixT (Evl.ex_t e5 hal) (atI_nat (j := 1) rfl) ?_
            walk_at "go"
            refine new_tup rfl fun p6 H6 hp6 e6 hp62 => ?_
            walk_at "go"
            refine new_tup rfl fun p7 H7 hp7 e7 hp72 => ?_
            have e1' : cutV rvs none (some (-1 : Int)) = rvs.dropLast := cut_last rvs
            rw [e1', List.dropLast_eq_take] at hp5
            have big : (100 : Nat) ≤ sizeLine := by decide
            have hcl : (rvs.take (rvs.length - 1)).length + [V.ref p6].length ≤ sizeLine := by
              rw [List.length_take]
              show min (rvs.length - 1) rvs.length + 1 ≤ sizeLine
              omega
            refine g_catA (Evl.ex_t e7 (Evl.ex_t e6 hp5)) (.of hp72) hcl fun p8 H8 e8 hp8 => ?_
            walk_at "go"
            refine new_tup rfl fun p9 H9 hp9 e9 hp92 => ?_
            have E9 := ((e6.trans e7).trans e8).trans e9
            refine fin _ _ _ _ (t.rows.take (rvs.length - 1) ++ [(pl.1 - 1, pl.2)]) _ p9 H9 ((E4.trans e5).trans E9) hp92
              ⟨p8, _, rfl, Evl.ex_t e9 hp8, pd_app (prs_ex (e5.trans E9) (pd_take _ hrs)) (pd_one ⟨p6, rfl, .of (e9 _ _ (e8 _ _ (e7 _ _ hp62)))⟩)⟩ g0 g1 u0 u1 m0 (by omega) ?_ ca
            rw [hrl]
            exact Ma.rowsOk_last ro hpl (by omega) (fun x h2 hx => by
              rcases hc with z | z
              · exfalso
                omega
              · exact z x hx)
          · walk_at "go"
            exact hN _ (e4)
        · walk_at "go"
          exact hN _ (e4)
      · walk_at "go"
        exact hN _ (e4)
    walk_at "go"
    exact q _ t _ (e1.trans (e2.trans e3)) (ht.ex (e1.trans (e2.trans e3))) ok (by omega)
end
end St
namespace St
open PySem PySem.Spec PyProof.Rows L2 Sy
open Evl (Ex)
/-- a drawn tariff: prices below a bound that grows with wide -/
structure Drawn (t : Tar) (W : Int) : Prop where
  ok : Ma.Ok t
  more : t.more ≤ W
  cap : ∀ c, t.cap = some c → c ≤ 8 * W
def sp__law_tariff (K : PySem.W.Frag) : Sp := fun vs H Q _ => ∃ (v : V) (W : Int), vs = [v, .int W] ∧ IsBag K H v ∧ 1 ≤ W ∧ W ≤ 1000 ∧ ∀ (u : V) (t : Tar) H', Ex H H' → TarAt K H' u t → Drawn t W → Q u H'
end St
namespace St
open PySem PySem.Spec PyProof.Rows L2
open Evl (Ex)
open Sy
section
variable {P : Program} {w : World} {K : PySem.W.Frag} {mg : Str → Option Value} {base : Heap}
theorem ok__law_tariff (T : Txt K mg) : FnOk P w K mg base CX0 2 (He.ga K "_law_tariff") (Sy.fdOf K (He.ga K "_law_tariff")) ["_law_bag_here", "_law_wide"] (sp__law_tariff K) := by
  have G__law_take : FnOk P w K mg base CX0 1 (He.ga K "_law_take") (Sy.fdOf K (He.ga K "_law_take")) ["_law_bag_here", "_law_many"] (sp__law_take K) := ok__law_take T
  refine T.f__law_tariff.ok sc__law_tariff (fun vs H Q E h => ?_) (fun cdv A outer s H vs Q E hr h => ?_)
  · skip
    obtain ⟨v, m, rfl, _⟩ := h
    rfl
  · refine ⟨_, PSs.nox ((pss_cons (ps_set (i := 2) sc__law_tariff.nd rfl (Or.inl rfl) (pe_callB (show CallR _ _ (rSortedSet w) from cr_sortedSet rfl) (by rfl) T.n_sorted (by decide +kernel) (pa_cons (pe_callTy (show CallR _ _ (rSetOfI K w) from c_setI rfl) (by rfl) T.n_set (by decide +kernel) (pa_cons (pe_lc (own := [("_law_turn", 9)]) rfl sc__law_tariff.nd (pi_range1 (by rfl) T.n_range (pa_cons (pe_call G__law_take (hr.mono (by decide)) rfl T.g__law_take T.f__law_take.kp (b__law_take T) .nil pass0 (pa_cons (pv 0) (pa_cons pe_int pa_nil))) pa_nil)) (blkOk_by (own := [("_law_turn", 9)]) (N := N__law_tariff) (sc := defScope s__law_tariff) (by decide +kernel)) (fun _ _ _ _ _ => (pg_name (i := 9) sc__law_tariff.nd rfl (Or.inl rfl))) (fun _ _ _ _ _ => pts_nil) (fun _ _ _ _ _ => (pe_op op_add pe_int (pe_call G__law_take (hr.mono (by decide)) rfl T.g__law_take T.f__law_take.kp (b__law_take T) .nil pass0 (pa_cons (pv 0) (pa_cons (pe_ix (show IxR _ (rIxL K) from ix_list) (pe_lst (pa_cons pe_int (pa_cons pe_int pa_nil))) (pe_call G__law_take (hr.mono (by decide)) rfl T.g__law_take T.f__law_take.kp (b__law_take T) .nil pass0 (pa_cons (pv 0) (pa_cons pe_int pa_nil))) (fun _ _ => rfl)) pa_nil)))))) pa_nil)) pa_nil)))
        (pss_cons (ps_asg (pe_tup (pa_cons (pe_tup pa_nil) (pa_cons pe_int pa_nil))) (show PG _ _ (gTup K 2 (gCons (gName 3) (gCons (gName 4) gNil))) from pg_tup rfl (pgs_cons (pg_name (i := 3) sc__law_tariff.nd rfl (Or.inl rfl)) (pgs_cons (pg_name (i := 4) sc__law_tariff.nd rfl (Or.inl rfl)) pgs_nil))))
        (pss_cons (ps_for PassesOwn.never rfl (show PI _ _ _ (iList K _) from pi_list (pv 2)) (pg_name (i := 5) sc__law_tariff.nd rfl (Or.inl rfl)) (pss_cons (ps_set (i := 4) sc__law_tariff.nd rfl (Or.inl rfl) (pe_op op_add (pv 4) (pe_ix (show IxR _ (rIxL K) from ix_list) (pe_lst (pa_cons pe_int (pa_cons (pe_call G__law_take (hr.mono (by decide)) rfl T.g__law_take T.f__law_take.kp (b__law_take T) .nil pass0 (pa_cons (pv 0) (pa_cons (pv 1) pa_nil))) (pa_cons (pe_op op_fdiv (pv 1) pe_int) pa_nil)))) (pe_call G__law_take (hr.mono (by decide)) rfl T.g__law_take T.f__law_take.kp (b__law_take T) .nil pass0 (pa_cons (pv 0) (pa_cons pe_int pa_nil))) (fun _ _ => rfl))))
        (pss_one (ps_set (i := 3) sc__law_tariff.nd rfl (Or.inl rfl) (pe_op (show OpR _ _ (rCatA K) from op_catA) (pv 3) (pe_tup (pa_cons (pe_tup (pa_cons (pv 5) (pa_cons (pv 4) pa_nil))) pa_nil)))))))
        (pss_cons (ps_set (i := 6) sc__law_tariff.nd rfl (Or.inl rfl) (pe_ix (show IxR _ (rIxL K) from ix_list) (pe_lst (pa_cons pe_int (pa_cons pe_int (pa_cons pe_int (pa_cons (pe_call G__law_take (hr.mono (by decide)) rfl T.g__law_take T.f__law_take.kp (b__law_take T) .nil pass0 (pa_cons (pv 0) (pa_cons pe_int pa_nil))) (pa_cons (pe_call G__law_take (hr.mono (by decide)) rfl T.g__law_take T.f__law_take.kp (b__law_take T) .nil pass0 (pa_cons (pv 0) (pa_cons pe_int pa_nil))) pa_nil)))))) (pe_call G__law_take (hr.mono (by decide)) rfl T.g__law_take T.f__law_take.kp (b__law_take T) .nil pass0 (pa_cons (pv 0) (pa_cons pe_int pa_nil))) (fun _ _ => rfl)))
        (pss_cons (ps_set (i := 7) sc__law_tariff.nd rfl (Or.inl rfl) (pe_op op_add pe_int (pe_call G__law_take (hr.mono (by decide)) rfl T.g__law_take T.f__law_take.kp (b__law_take T) .nil pass0 (pa_cons (pv 0) (pa_cons (pe_ix (show IxR _ (rIxL K) from ix_list) (pe_lst (pa_cons pe_int (pa_cons pe_int pa_nil))) (pe_call G__law_take (hr.mono (by decide)) rfl T.g__law_take T.f__law_take.kp (b__law_take T) .nil pass0 (pa_cons (pv 0) (pa_cons pe_int pa_nil))) (fun _ _ => rfl)) pa_nil)))))
        (pss_cons (ps_set (i := 8) sc__law_tariff.nd rfl (Or.inl rfl) (pe_ix (show IxR _ (rIxL K) from ix_list) (pe_lst (pa_cons pe_non (pa_cons (pe_op op_add (pv 4) (pe_call G__law_take (hr.mono (by decide)) rfl T.g__law_take T.f__law_take.kp (b__law_take T) .nil pass0 (pa_cons (pv 0) (pa_cons (pe_op op_mul pe_int (pv 1)) pa_nil)))) (pa_cons (pe_call G__law_take (hr.mono (by decide)) rfl T.g__law_take T.f__law_take.kp (b__law_take T) .nil pass0 (pa_cons (pv 0) (pa_cons (pe_op op_add (pe_op op_mul pe_int (pv 1)) pe_int) pa_nil))) pa_nil)))) (pe_call G__law_take (hr.mono (by decide)) rfl T.g__law_take T.f__law_take.kp (b__law_take T) .nil pass0 (pa_cons (pv 0) (pa_cons pe_int pa_nil))) (fun _ _ => rfl)))
        (pss_one (ps_ret (pe_tup (pa_cons (pv 6) (pa_cons (pv 3) (pa_cons (pv 7) (pa_cons (pe_ix (show IxR _ (rIxL K) from ix_list) (pe_lst (pa_cons pe_int (pa_cons (pe_call G__law_take (hr.mono (by decide)) rfl T.g__law_take T.f__law_take.kp (b__law_take T) .nil pass0 (pa_cons (pv 0) (pa_cons (pv 1) pa_nil))) (pa_cons (pe_op op_add pe_int (pe_call G__law_take (hr.mono (by decide)) rfl T.g__law_take T.f__law_take.kp (b__law_take T) .nil pass0 (pa_cons (pv 0) (pa_cons (pv 1) pa_nil)))) pa_nil)))) (pe_call G__law_take (hr.mono (by decide)) rfl T.g__law_take T.f__law_take.kp (b__law_take T) .nil pass0 (pa_cons (pv 0) (pa_cons pe_int pa_nil))) (fun _ _ => rfl)) (pa_cons (pv 8) pa_nil))))))))))))))), ?_⟩
    obtain ⟨v, W, rfl, hb, w0, w1, q⟩ := h
    refine st_eq (σ' := [some v, some (.int W), none, none, none, none, none, none, none, none]) rfl ?_
    walk_at "go"
    refine ⟨v, 5, rfl, hb, by decide, fun r r0 r1 => ?_⟩
    walk_at "go"
    refine i_R1 ⟨r0, by omega⟩ ?_
    refine lcJ drv_rng (fun _ _ => trivial) (by omega) (fun i acc => ∃ ns : List Int, acc = ns.map V.int ∧ ns.length = i ∧ ∀ n ∈ ns, 1 ≤ n ∧ n ≤ 95) ⟨[], rfl, rfl, fun n hn => absurd hn (by simp)⟩ ?_ ?_
    · rintro i x acc H1 H2 Y Z hi ⟨ns, rfl, hlen, hall⟩ e1 _ ⟨rfl, rfl⟩ hY hZ
      walk_at "go"
      refine ⟨rfl, ?_⟩
      walk_at "go"
      refine new_lst rfl fun p H3 hp e3 hp3 => ?_
      walk_at "go"
      have hb3 := (hb.ex e1).ex e3
      refine ⟨v, 2, rfl, hb3, by decide, fun k k0 k1 => ?_⟩
      refine g_ixLn (.of hp3) k0 k1 fun y hy => ?_
      have hy2 : ∃ m : Int, y = .int m ∧ 0 < m ∧ m ≤ 95 := by
        simp only [List.mem_cons, List.not_mem_nil, or_false] at hy
        rcases hy with rfl | rfl
        · exact ⟨8, rfl, by decide, by decide⟩
        · exact ⟨95, rfl, by decide, by decide⟩
      obtain ⟨m, rfl, m0, m1⟩ := hy2
      walk_at "go"
      refine ⟨v, m, rfl, hb3, m0, fun z z0 z1 => ?_⟩
      walk_at "go"
      refine hY _ H3 e3 ⟨ns ++ [1 + z], by rw [List.map_append] <;> rfl, by rw [List.length_append, hlen] <;> rfl, fun n hn => ?_⟩
      rcases List.mem_append.mp hn with h | h
      · exact hall n h
      · rw [List.mem_singleton.mp h]
        omega
    · intro p acc H2 hp e hp2 hl2 ⟨ns, eacc, hlen, hall⟩
      subst eacc
      walk_at "go"
      refine g_setI2 (.of hp2) (by omega) (fun k hk => hk) (by omega) fun a n H3 e3 ha hn => ?_
      walk_at "go"
      refine g_sortedSet ha (by omega) fun us pu H4 e4 hpu hpu2 hus hmem hulen => ?_
      walk_at "go"
      refine new_tup rfl fun p5 H5 hp5 e5 hp52 => ?_
      walk_at "go"
      refine new_tup rfl fun p6 H6 hp6 e6 hp62 => ?_
      refine g_gtup (.of hp62) rfl ?_
      walk_at "go"
      have E4 := ((e.trans e3).trans e4)
      have E6 := (E4.trans e5).trans e6
      refine i_L (.of (e6 _ _ (e5 _ _ hpu2))) ?_
      have hulen4 : us.length ≤ 4 := by omega
      have huml : (us.map V.int).length = us.length := List.length_map ..
      refine forJ (drv_list (K := K) (a := pu) (xs := us.map V.int)) (fun i σ H' => ∃ (rv : V) (rows : List (Int × Int)) (pd : Int) (x : Option V), σ = [some v, some (.int W), some (.ref pu), some rv, some (.int pd), x, none, none, none, none] ∧ Ex H6 H' ∧ TPr K H' rv rows ∧
        rows.map (·.1) = us.take i ∧ rows.Pairwise (fun a b => a.1 < b.1 ∧ a.2 ≤ b.2) ∧ (∀ r ∈ rows, 0 ≤ r.2 ∧ r.2 ≤ pd) ∧ 0 ≤ pd ∧ pd ≤ (i : Int) * W) ?_ ?_ ?_ ?_
      · exact ⟨.ref p5, [], 0, none, rfl, Ex.refl _, ⟨p5, [], rfl, .of (e6 _ _ hp52), .nil⟩, rfl, .nil, fun r hr => absurd hr (by simp), Int.le_refl _, by simp⟩
      · rintro i σ H' hi ⟨rv, rows, pd, x, rfl, e', _⟩
        exact Evl.ex_l e' (.of (e6 _ _ (e5 _ _ hpu2)))
      · rintro i x σ H7 H8 hi ⟨rv, rows, pd, x', rfl, e7, hrv, hfst, hpw, hpr, pd0, pd1⟩ _ ⟨rfl, hx⟩
        obtain ⟨u, hu, rfl⟩ := map_at hx
        walk_at "go"
        have hb7 := (hb.ex E6).ex e7
        refine ⟨v, W, rfl, hb7, by omega, fun d d0 d1 => ?_⟩
        walk_at "go"
        refine g_I ?_ ⟨by decide, by decide⟩
        walk_at "go"
        refine new_lst rfl fun p H9 hp e9 hp9 => ?_
        walk_at "go"
        refine ⟨v, 3, rfl, hb7.ex e9, by decide, fun k k0 k1 => ?_⟩
        refine g_ixLn (.of hp9) k0 k1 fun y hy => ?_
        have hy2 : ∃ m : Int, y = .int m ∧ 0 ≤ m ∧ m ≤ W := by
          simp only [List.mem_cons, List.not_mem_nil, or_false] at hy
          rcases hy with rfl | rfl | rfl
          · exact ⟨0, rfl, by decide, by omega⟩
          · exact ⟨d, rfl, by omega, by omega⟩
          · exact ⟨W / 2, rfl, by omega, by omega⟩
        obtain ⟨m, rfl, m0, m1⟩ := hy2
        walk_at "go"
        refine new_tup rfl fun p10 H10 hp10 e10 hp102 => ?_
        walk_at "go"
        refine new_tup rfl fun p11 H11 hp11 e11 hp112 => ?_
        obtain ⟨ra, rvs, rfl, hra, hrp⟩ := ((hrv.ex e9).ex e10).ex e11
        have hil : i < us.length := (List.getElem?_eq_some_iff.mp hu).1
        have hrl : rows.length = i := by
          have q := congrArg List.length hfst
          rw [List.length_map, List.length_take] at q
          omega
        have hrvl : rvs.length = rows.length := pd_len hrp
        refine g_catA hra (.of hp112) (by have : (100 : Nat) ≤ sizeLine := by decide
                                          show rvs.length + 1 ≤ sizeLine
                                          omega) fun p12 H12 e12 hp12 => ?_
        walk_at "go"
        have hmul : ((i + 1 : Nat) : Int) * W = (i : Int) * W + W := by rw [Int.natCast_add, Int.add_mul]; omega
        refine ⟨.ref p12, rows ++ [(u, pd + m)], pd + m, _, rfl, (((e7.trans e9).trans e10).trans e11).trans e12,
          ⟨p12, _, rfl, hp12, pd_app (prs_ex e12 hrp) (pd_one ⟨p10, rfl, .of (e12 _ _ (e11 _ _ hp102))⟩)⟩, ?_, ?_, ?_, by omega, by rw [hmul]; omega⟩
        · rw [List.map_append, hfst, List.take_succ, hu] <;> rfl
        · rw [List.pairwise_append]
          refine ⟨hpw, List.pairwise_singleton _ _, fun a ha b hb => ?_⟩
          rw [List.mem_singleton.mp hb]
          have h1 : a.1 ∈ us.take i := hfst ▸ List.mem_map.mpr ⟨a, ha, rfl⟩
          have h2 := hpr a ha
          refine ⟨?_, by show a.2 ≤ pd + m; omega⟩
          obtain ⟨j, hj, ej⟩ := List.getElem_of_mem h1
          rw [List.getElem_take] at ej
          rw [List.length_take] at hj
          have h3 := List.pairwise_iff_getElem.mp hus j i (by omega) hil (by omega)
          rw [ej] at h3
          have h4 : us[i] = u := (List.getElem?_eq_some_iff.mp hu).2
          show a.1 < u
          omega
        · intro r hr
          rcases List.mem_append.mp hr with h | h
          · have := hpr r h
            omega
          · rw [List.mem_singleton.mp h]
            show 0 ≤ pd + m ∧ pd + m ≤ pd + m
            omega
      · rintro σ H7 ⟨rv, rows, pd, x, rfl, e7, hrv, hfst, hpw, hpr, pd0, pd1⟩
        rw [huml, List.take_length] at hfst
        rw [huml] at pd1
        have pd4 : pd ≤ 4 * W := by
          have : (us.length : Int) * W ≤ 4 * W := Int.mul_le_mul_of_nonneg_right (by omega) (by omega)
          omega
        have hrok : Ma.rowsOk rows = true := Ma.rowsOk_of (by
          have q := congrArg List.length hfst
          rw [List.length_map] at q
          omega) (fun r hr => by
            have h1 : r.1 ∈ us := hfst ▸ List.mem_map.mpr ⟨r, hr, rfl⟩
            have h2 := hall r.1 ((hmem r.1).mp h1)
            have h3 := hpr r hr
            omega) hpw
        have hb7 := (hb.ex E6).ex e7
        -- grace
        walk_at "go"
        refine ⟨v, 5, rfl, hb7, by decide, fun d d0 d1 => ?_⟩
        walk_at "go"
        refine ⟨v, 97, rfl, hb7, by decide, fun d' d'0 d'1 => ?_⟩
        walk_at "go"
        refine new_lst rfl fun p8 H8 hp8 e8 hp82 => ?_
        walk_at "go"
        have hb8 := hb7.ex e8
        refine ⟨v, 5, rfl, hb8, by decide, fun k k0 k1 => ?_⟩
        refine g_ixLn (.of hp82) k0 k1 fun y hy => ?_
        have hy2 : ∃ m : Int, y = .int m ∧ 0 ≤ m ∧ m ≤ 96 := by
          simp only [List.mem_cons, List.not_mem_nil, or_false] at hy
          rcases hy with rfl | rfl | rfl | rfl | rfl
          · exact ⟨0, rfl, by decide, by decide⟩
          · exact ⟨0, rfl, by decide, by decide⟩
          · exact ⟨0, rfl, by decide, by decide⟩
          · exact ⟨d, rfl, by omega, by omega⟩
          · exact ⟨d', rfl, by omega, by omega⟩
        obtain ⟨gr, rfl, g0, g1⟩ := hy2
        -- unit
        walk_at "go"
        refine new_lst rfl fun p9 H9 hp9 e9 hp92 => ?_
        walk_at "go"
        have hb9 := hb8.ex e9
        refine ⟨v, 2, rfl, hb9, by decide, fun k k0 k1 => ?_⟩
        refine g_ixLn (.of hp92) k0 k1 fun y hy => ?_
        have hy2 : ∃ m : Int, y = .int m ∧ 1 ≤ m ∧ m ≤ 96 := by
          simp only [List.mem_cons, List.not_mem_nil, or_false] at hy
          rcases hy with rfl | rfl
          · exact ⟨4, rfl, by decide, by decide⟩
          · exact ⟨96, rfl, by decide, by decide⟩
        obtain ⟨um, rfl, um0, um1⟩ := hy2
        walk_at "go"
        refine ⟨v, um, rfl, hb9, by omega, fun un un0 un1 => ?_⟩
        -- cap
        walk_at "go"
        refine g_I ?_ (.inl ⟨by decide, by decide⟩)
        walk_at "go"
        refine ⟨v, _, rfl, hb9, by omega, fun c1 c10 c11 => ?_⟩
        walk_at "go"
        refine g_I ?_ (.inl ⟨by decide, by decide⟩)
        walk_at "go"
        refine ⟨v, _, rfl, hb9, by omega, fun c2 c20 c21 => ?_⟩
        walk_at "go"
        refine new_lst rfl fun p10 H10 hp10 e10 hp102 => ?_
        walk_at "go"
        have hb10 := hb9.ex e10
        refine ⟨v, 3, rfl, hb10, by decide, fun k k0 k1 => ?_⟩
        refine g_ixLn (.of hp102) k0 k1 fun y hy => ?_
        have hy2 : ∃ o : Option Int, y = ov o ∧ ∀ c, o = some c → 0 ≤ c ∧ c ≤ 8 * W := by
          simp only [List.mem_cons, List.not_mem_nil, or_false] at hy
          rcases hy with rfl | rfl | rfl
          · exact ⟨none, rfl, fun c h => by cases h⟩
          · exact ⟨some (pd + c1), rfl, fun c h => by cases h; omega⟩
          · exact ⟨some c2, rfl, fun c h => by cases h; omega⟩
        obtain ⟨cp, rfl, hcp⟩ := hy2
        -- the tuple
        walk_at "go"
        refine ⟨v, W, rfl, hb10, by omega, fun m1 m10 m11 => ?_⟩
        walk_at "go"
        refine ⟨v, W, rfl, hb10, by omega, fun m2 m20 m21 => ?_⟩
        walk_at "go"
        refine new_lst rfl fun p11 H11 hp11 e11 hp112 => ?_
        walk_at "go"
        have hb11 := hb10.ex e11
        refine ⟨v, 3, rfl, hb11, by decide, fun k k0 k1 => ?_⟩
        refine g_ixLn (.of hp112) k0 k1 fun y hy => ?_
        have hy2 : ∃ m : Int, y = .int m ∧ 0 ≤ m ∧ m ≤ W := by
          simp only [List.mem_cons, List.not_mem_nil, or_false] at hy
          rcases hy with rfl | rfl | rfl
          · exact ⟨0, rfl, by decide, by omega⟩
          · exact ⟨m1, rfl, by omega, by omega⟩
          · exact ⟨1 + m2, rfl, by omega, by omega⟩
        obtain ⟨mo, rfl, mo0, mo1⟩ := hy2
        walk_at "go"
        refine new_tup rfl fun p12 H12 hp12 e12 hp122 => ?_
        refine q (.ref p12) ⟨gr, rows, 1 + un, mo, cp⟩ H12 (((((((E6.trans e7).trans e8).trans e9).trans e10).trans e11)).trans e12)
          ⟨p12, rv, rfl, .of hp122, ((((hrv.ex e8).ex e9).ex e10).ex e11).ex e12⟩ ⟨⟨g0, g1, hrok, by show 1 ≤ 1 + un; omega, by show 1 + un ≤ 96; omega, mo0, by show mo ≤ 1000000; omega, ?_⟩, mo1, fun c hc => (hcp c hc).2⟩
        cases cp with
        | none => rfl
        | some c =>
          have := hcp c rfl
          show (decide (0 ≤ c) && decide (c ≤ 1000000)) = true
          rw [decide_eq_true (by omega), decide_eq_true (by omega)] <;> rfl
end
end St
namespace St
open PySem PySem.Spec PyProof.Rows L2
def sp_is_integer (K : PySem.W.Frag) : Sp := fun vs H Q _ => ∃ v lo hi : Int, vs = [.int v, .int lo, .int hi] ∧ Q (.bl (decide (lo ≤ v) && decide (v ≤ hi))) H
end St
namespace St
open PySem PySem.Spec PyProof.Rows L2
open Evl (Ex)
open Sy
section
variable {P : Program} {w : World} {K : PySem.W.Frag} {mg : Str → Option Value} {base : Heap}
theorem ok_is_integer (T : Txt K mg) : FnOk P w K mg base CX0 1 (He.ga K "is_integer") (Sy.fdOf K (He.ga K "is_integer")) ["value", "low", "high"] (sp_is_integer K) := by
  refine T.f_is_integer.ok sc_is_integer (fun vs H Q E h => ?_) (fun cdv A outer s H vs Q E hr h => ?_)
  · skip
    obtain ⟨v, lo, hi, rfl, _⟩ := h
    rfl
  · refine ⟨_, PSs.nox ((pss_one (ps_ret (pe_and (pe_callB (show CallR _ _ (rIsi K) from call_isi) (by rfl) T.n_isinstance (by decide +kernel) (pa_cons (pv 0) (pa_cons (pe_bltn (v := .ty "int") (by rfl) T.n_int (by decide +kernel) rfl) pa_nil))) (pe_and (pe_not (pe_callB (show CallR _ _ (rIsi K) from call_isi) (by rfl) T.n_isinstance (by decide +kernel) (pa_cons (pv 0) (pa_cons (pe_bltn (v := .ty "bool") (by rfl) T.n_bool (by decide +kernel) rfl) pa_nil)))) (pe_one (pe_chain op_le op_le (pv 1) (pv 0) (pv 2)))))))), ?_⟩
    obtain ⟨v, lo, hi, rfl, q⟩ := h
    refine st_eq (σ' := [some (.int v), some (.int lo), some (.int hi)]) rfl ?_
    walk_at "go"
    refine g_isi (b := true) ty_int (by decide +kernel) ?_
    walk_at "go"
    refine g_isi (b := false) ty_int (by decide +kernel) ?_
    walk_at "go"
    by_cases h1 : lo ≤ v
    · refine b_true h1 ?_
      walk_at "go"
      rw [decide_eq_true h1] at q
      exact q
    · refine b_false h1 ?_
      rw [decide_eq_false h1] at q
      exact q
end
end St
namespace St
open PySem PySem.Spec PyProof.Rows L2
def sp_need_length (K : PySem.W.Frag) : Sp := fun vs H Q _ => ∃ v : Int, vs = [.int v] ∧ 0 ≤ v ∧ v ≤ 1000000000000000 ∧ Q .non H
end St
namespace St
open PySem PySem.Spec PyProof.Rows L2
open Evl (Ex)
open Sy
section
variable {P : Program} {w : World} {K : PySem.W.Frag} {mg : Str → Option Value} {base : Heap}
theorem ok_need_length (T : Txt K mg) : FnOk P w K mg base CX0 2 (He.ga K "need_length") (Sy.fdOf K (He.ga K "need_length")) ["value"] (sp_need_length K) := by
  have G_is_integer : FnOk P w K mg base CX0 1 (He.ga K "is_integer") (Sy.fdOf K (He.ga K "is_integer")) ["value", "low", "high"] (sp_is_integer K) := ok_is_integer T
  refine T.f_need_length.ok sc_need_length (fun vs H Q E h => ?_) (fun cdv A outer s H vs Q E hr h => ?_)
  · skip
    obtain ⟨v, rfl, _⟩ := h
    rfl
  · refine ⟨_, PSs.nox ((pss_one (ps_if (pt_not (pt_val (pe_call G_is_integer (hr.mono (by decide)) rfl T.g_is_integer T.f_is_integer.kp (b_is_integer T) .nil pass0 (pa_cons (pv 0) (pa_cons pe_int (pa_cons (pe_glob (v := .int 1000000000000000) rfl T.i_MAX_LENGTH.choose_spec ⟨_, rfl⟩) pa_nil)))))) (pss_one ps_never) pss_nil))), ?_⟩
    obtain ⟨v, rfl, h0, h1, q⟩ := h
    refine st_eq (σ' := [some (.int v)]) rfl ?_
    walk_at "go"
    refine ⟨_, _, _, rfl, ?_⟩
    rw [decide_eq_true h0, decide_eq_true h1]
    walk_at "go"
    exact q
end
end St
namespace St
open PySem PySem.Spec PyProof.Rows L2 Sy
def sp_is_row (K : PySem.W.Frag) : Sp := fun vs H Q _ => ∃ (v : V) (p : Int × Int), vs = [v] ∧ Pr K H v p ∧ Q (.bl (Ma.rowOk p)) H
end St
namespace St
open PySem PySem.Spec PyProof.Rows L2
open Evl (Ex)
open Sy
section
variable {P : Program} {w : World} {K : PySem.W.Frag} {mg : Str → Option Value} {base : Heap}
theorem ok_is_row (T : Txt K mg) : FnOk P w K mg base CX0 2 (He.ga K "is_row") (Sy.fdOf K (He.ga K "is_row")) ["value"] (sp_is_row K) := by
  have G_is_integer : FnOk P w K mg base CX0 1 (He.ga K "is_integer") (Sy.fdOf K (He.ga K "is_integer")) ["value", "low", "high"] (sp_is_integer K) := ok_is_integer T
  refine T.f_is_row.ok sc_is_row (fun vs H Q E h => ?_) (fun cdv A outer s H vs Q E hr h => ?_)
  · skip
    obtain ⟨v, p, rfl, _⟩ := h
    rfl
  · refine ⟨_, PSs.nox ((pss_cons (ps_if (PW.pt (pw_or (pt_not (pt_val (pe_callB (show CallR _ _ (rIsi K) from call_isi) (by rfl) T.n_isinstance (by decide +kernel) (pa_cons (pv 0) (pa_cons (pe_bltn (v := .ty "tuple") (by rfl) T.n_tuple (by decide +kernel) rfl) pa_nil))))) (pw_or1 (pt_cmpR op_ne (pe_callB (show CallR _ _ (rLenQ K) from c_len) (by rfl) T.n_len (by decide +kernel) (pa_cons (pv 0) pa_nil)) pe_int (nomark _))))) (pss_one (ps_ret pe_bl)) pss_nil)
        (pss_one (ps_ret (pe_and (pe_call G_is_integer (hr.mono (by decide)) rfl T.g_is_integer T.f_is_integer.kp (b_is_integer T) .nil pass0 (pa_cons (pe_ix (show IxR _ (rIxT K) from ix_tup) (pv 0) pe_int (fun _ _ => rfl)) (pa_cons pe_int (pa_cons (pe_op op_sub (pe_glob (v := .int 96) rfl T.i_DAY.choose_spec ⟨_, rfl⟩) pe_int) pa_nil)))) (pe_one (pe_call G_is_integer (hr.mono (by decide)) rfl T.g_is_integer T.f_is_integer.kp (b_is_integer T) .nil pass0 (pa_cons (pe_ix (show IxR _ (rIxT K) from ix_tup) (pv 0) pe_int (fun _ _ => rfl)) (pa_cons pe_int (pa_cons (pe_glob (v := .int 1000000) rfl T.i_MAX_PRICE.choose_spec ⟨_, rfl⟩) pa_nil)))))))))), ?_⟩
    obtain ⟨v, p, rfl, ⟨a, rfl, ha⟩, q⟩ := h
    refine st_eq (σ' := [some (.ref a)]) rfl ?_
    walk_at "go"
    refine g_isi (b := true) (ty_tupT ha) (by decide +kernel) ?_
    walk_at "go"
    refine g_lenT ha ?_
    walk_at "go"
    refine n_false rfl ?_
    walk_at "go"
    refine g_ixT ha (atI_nat (j := 0) rfl) ?_
    walk_at "go"
    refine ⟨_, _, _, rfl, ?_⟩
    unfold Ma.rowOk at q
    walk_at "go"
    refine b_bool (fun e1 => ?_) (fun e1 => ?_)
    · have e2 : (decide (1 ≤ p.1) && decide (p.1 ≤ 95)) = true := e1
      walk_at "go"
      refine g_ixT ha (atI_nat (j := 1) rfl) ?_
      walk_at "go"
      refine ⟨_, _, _, rfl, ?_⟩
      rw [e2] at q
      exact q
    · have e2 : (decide (1 ≤ p.1) && decide (p.1 ≤ 95)) = false := e1
      rw [e2] at q
      exact q
end
end St
namespace St
open PySem PySem.Spec PyProof.Rows L2 Sy
open Evl (Ex)
def sp_are_rows (K : PySem.W.Frag) : Sp := fun vs H Q _ => ∃ (v : V) (ps : List (Int × Int)), vs = [v] ∧ TPr K H v ps ∧ ps.length ≤ 1000 ∧ ∀ H', Ex H H' → Q (.bl (Ma.rowsOk ps)) H'
end St
namespace St
open PySem PySem.Spec PyProof.Rows L2
open Evl (Ex)
open Sy
section
variable {P : Program} {w : World} {K : PySem.W.Frag} {mg : Str → Option Value} {base : Heap}
theorem ok_are_rows (T : Txt K mg) : FnOk P w K mg base CX0 3 (He.ga K "are_rows") (Sy.fdOf K (He.ga K "are_rows")) ["value"] (sp_are_rows K) := by
  have G_is_row : FnOk P w K mg base CX0 2 (He.ga K "is_row") (Sy.fdOf K (He.ga K "is_row")) ["value"] (sp_is_row K) := ok_is_row T
  refine T.f_are_rows.ok sc_are_rows (fun vs H Q E h => ?_) (fun cdv A outer s H vs Q E hr h => ?_)
  · skip
    obtain ⟨v, p, rfl, _⟩ := h
    rfl
  · refine ⟨_, PSs.nox ((pss_cons (ps_if (PW.pt (pw_or (pt_not (pt_val (pe_callB (show CallR _ _ (rIsi K) from call_isi) (by rfl) T.n_isinstance (by decide +kernel) (pa_cons (pv 0) (pa_cons (pe_bltn (v := .ty "tuple") (by rfl) T.n_tuple (by decide +kernel) rfl) pa_nil))))) (pw_or (pt_cmpR op_gt (pe_callB (show CallR _ _ (rLenQ K) from c_len) (by rfl) T.n_len (by decide +kernel) (pa_cons (pv 0) pa_nil)) pe_int (nomark _)) (pw_or1 (pt_not (pt_val (pe_callB (show CallR _ _ (rAll K) from cr_all rfl) (by rfl) T.n_all (by decide +kernel) (pa_cons (pe_lc (own := [("row", 1)]) rfl sc_are_rows.nd (show PI _ _ _ (iTup K _) from pi_tup (pv 0)) (blkOk_by (own := [("row", 1)]) (N := N_are_rows) (sc := defScope s_are_rows) (by decide +kernel)) (fun _ _ _ _ _ => (pg_name (i := 1) sc_are_rows.nd rfl (Or.inl rfl))) (fun _ _ _ _ _ => pts_nil) (fun _ _ _ _ _ => (pe_call G_is_row (hr.mono (by decide)) rfl T.g_is_row T.f_is_row.kp (b_is_row T) .nil pass0 (pa_cons (pv 1) pa_nil)))) pa_nil)))))))) (pss_one (ps_ret pe_bl)) pss_nil)
        (pss_one (ps_ret (pe_callB (show CallR _ _ (rAll K) from cr_all rfl) (by rfl) T.n_all (by decide +kernel) (pa_cons (pe_lc (own := [("one", 2), ("other", 3)]) rfl sc_are_rows.nd (show PI _ _ _ (RZ.iZipA K _) from RZ.pi_zipA (by rfl) T.n_zip (pa_cons (pv 0) (pa_cons (pe_slice (show SlR _ (rSlA K) from sl_tupA) (pv 0) (po_some pe_int) po_none) pa_nil))) (blkOk_by (own := [("one", 2), ("other", 3)]) (N := N_are_rows) (sc := defScope s_are_rows) (by decide +kernel)) (fun _ _ _ _ _ => (show PG _ _ (gTup K 2 (gCons (gName 2) (gCons (gName 3) gNil))) from pg_tup rfl (pgs_cons (pg_name (i := 2) sc_are_rows.nd rfl (Or.inl rfl)) (pgs_cons (pg_name (i := 3) sc_are_rows.nd rfl (Or.inl rfl)) pgs_nil)))) (fun _ _ _ _ _ => pts_nil) (fun _ _ _ _ _ => (pe_and (pe_cmpR op_lt (pe_ix (show IxR _ (rIxT K) from ix_tup) (pv 2) pe_int (fun _ _ => rfl)) (pe_ix (show IxR _ (rIxT K) from ix_tup) (pv 3) pe_int (fun _ _ => rfl)) (nomark _)) (pe_one (pe_cmpR op_le (pe_ix (show IxR _ (rIxT K) from ix_tup) (pv 2) pe_int (fun _ _ => rfl)) (pe_ix (show IxR _ (rIxT K) from ix_tup) (pv 3) pe_int (fun _ _ => rfl)) (nomark _)))))) pa_nil)))))), ?_⟩
    obtain ⟨v, ps, rfl, ⟨a, us, rfl, ha, hp⟩, hz, q⟩ := h
    refine st_eq (σ' := [some (.ref a), none, none, none]) rfl ?_
    walk_at "go"
    refine g_isi (b := true) (ty_tupT ha) (by decide +kernel) ?_
    walk_at "go"
    refine g_lenT ha ?_
    walk_at "go"
    have hl : us.length = ps.length := pd_len hp
    unfold Ma.rowsOk at q
    refine b_dec (fun c => ?_) (fun c => ?_)
    · walk_at "go"
      have e : decide (ps.length ≤ 4) = false := decide_eq_false (by omega)
      rw [e] at q
      exact q H (Ex.refl _)
    · walk_at "go"
      have e : decide (ps.length ≤ 4) = true := decide_eq_true (by omega)
      rw [e] at q
      refine i_T ha ?_
      refine lcMap (drv_tup (a := a) (xs := us)) (fun H1 e => Evl.ex_t e ha) (by omega) (fun i => .bl (Ma.rowOk (ps.getD i (0, 0)))) ?_ ?_
      · rintro i x H1 H2 Y hi e1 e2 ⟨rfl, hx⟩ hY
        refine ⟨rfl, ?_⟩
        walk_at "go"
        obtain ⟨p, hpi, pr⟩ := pd_at hp hx
        rw [getD_of hpi] at hY
        exact ⟨x, p, rfl, pr.ex e1, hY _ (Ex.refl _)⟩
      · intro p H2 hp0 e2 hp2
        rw [hl, range_getD (fun p => V.bl (Ma.rowOk p))] at hp2
        walk_at "go"
        refine g_all (bs := ps.map Ma.rowOk) (.of (by rw [List.map_map]; exact hp2)) ?_
        walk_at "go"
        have ea : (ps.map Ma.rowOk).all id = ps.all Ma.rowOk := by rw [List.all_map] <;> rfl
        rw [ea]
        cases hall : ps.all Ma.rowOk with
        | false =>
          walk_at "go"
          rw [hall] at q
          exact q H2 e2
        | true =>
          walk_at "go"
          rw [hall] at q
          refine g_slA (Evl.ex_t e2 ha) fun r H3 e3 hr => ?_
          have e1 : cutV us (some (1 : Int)) none = us.drop 1 := cut_from us 1
          rw [e1] at hr
          walk_at "go"
          refine i_ZT (Evl.ex_t e3 (Evl.ex_t e2 ha)) hr ?_
          have hlz : (ps.zip (ps.drop 1)).length = min us.length (us.drop 1).length := by rw [List.length_zip, List.length_drop, List.length_drop, hl]
          refine lcMap (drv_zipT (a := a) (b := r) (xs := us) (ys := us.drop 1) rfl) (fun H1 e => ⟨Evl.ex_t e (Evl.ex_t e3 (Evl.ex_t e2 ha)), Evl.ex_t e hr⟩) (by omega) (fun i => .bl (Ma.adjOk ((ps.zip (ps.drop 1)).getD i ((0, 0), (0, 0))))) ?_ ?_
          · rintro i x H4 H5 Y hi e4 e5 ⟨T, y, z, rfl, _, hT, hy, hz⟩ hY
            obtain ⟨p, hpi, pr, rfl, prS⟩ := pd_at hp hy
            obtain ⟨p', hpi', pr', rfl, prS'⟩ := pd_at (pd_drop 1 hp) hz
            refine g_gtup (.of hT) rfl ?_
            walk_at "go"
            refine ⟨rfl, ?_⟩
            walk_at "go"
            have E5 := ((e2.trans e3).trans e4).trans e5
            refine g_ixT (Evl.ex_t E5 prS) (atI_nat (j := 0) rfl) ?_
            walk_at "go"
            refine g_ixT (Evl.ex_t E5 prS') (atI_nat (j := 0) rfl) ?_
            walk_at "go"
            have ez : (ps.zip (ps.drop 1)).getD i ((0, 0), (0, 0)) = (p, p') := getD_of (List.getElem?_zip_eq_some.mpr ⟨hpi, hpi'⟩)
            rw [ez] at hY
            unfold Ma.adjOk at hY
            refine b_dec (fun c => ?_) (fun c => ?_)
            · walk_at "go"
              refine g_ixT (Evl.ex_t E5 prS) (atI_nat (j := 1) rfl) ?_
              walk_at "go"
              refine g_ixT (Evl.ex_t E5 prS') (atI_nat (j := 1) rfl) ?_
              walk_at "go"
              rw [decide_eq_true c] at hY
              exact hY _ (Ex.refl _)
            · rw [decide_eq_false c] at hY
              exact hY _ (Ex.refl _)
          · intro p H4 hp0 e4 hp4
            rw [← hlz, range_getD (fun q => V.bl (Ma.adjOk q))] at hp4
            walk_at "go"
            refine g_all (bs := (ps.zip (ps.drop 1)).map Ma.adjOk) (.of (by rw [List.map_map]; exact hp4)) ?_
            have ea : ((ps.zip (ps.drop 1)).map Ma.adjOk).all id = (ps.zip (ps.drop 1)).all Ma.adjOk := by rw [List.all_map] <;> rfl
            rw [ea]
            exact q H4 ((e2.trans e3).trans e4)
end
end St
namespace St
open PySem PySem.Spec PyProof.Rows L2 Sy
open Evl (Ex)
def sp_is_tariff (K : PySem.W.Frag) : Sp := fun vs H Q _ => ∃ (v : V) (t : Tar), vs = [v] ∧ TarAt K H v t ∧ t.rows.length ≤ 1000 ∧ ∀ H', Ex H H' → Q (.bl (Ma.tarOk t)) H'
end St
namespace St
open PySem PySem.Spec PyProof.Rows L2
open Evl (Ex)
open Sy
section
variable {P : Program} {w : World} {K : PySem.W.Frag} {mg : Str → Option Value} {base : Heap}
theorem ok_is_tariff (T : Txt K mg) : FnOk P w K mg base CX0 4 (He.ga K "is_tariff") (Sy.fdOf K (He.ga K "is_tariff")) ["value"] (sp_is_tariff K) := by
  have G_are_rows : FnOk P w K mg base CX0 3 (He.ga K "are_rows") (Sy.fdOf K (He.ga K "are_rows")) ["value"] (sp_are_rows K) := ok_are_rows T
  have G_is_integer : FnOk P w K mg base CX0 1 (He.ga K "is_integer") (Sy.fdOf K (He.ga K "is_integer")) ["value", "low", "high"] (sp_is_integer K) := ok_is_integer T
  refine T.f_is_tariff.ok sc_is_tariff (fun vs H Q E h => ?_) (fun cdv A outer s H vs Q E hr h => ?_)
  · skip
    obtain ⟨v, p, rfl, _⟩ := h
    rfl
  · refine ⟨_, PSs.nox ((pss_cons (ps_if (PW.pt (pw_or (pt_not (pt_val (pe_callB (show CallR _ _ (rIsi K) from call_isi) (by rfl) T.n_isinstance (by decide +kernel) (pa_cons (pv 0) (pa_cons (pe_bltn (v := .ty "tuple") (by rfl) T.n_tuple (by decide +kernel) rfl) pa_nil))))) (pw_or1 (pt_cmpR op_ne (pe_callB (show CallR _ _ (rLenQ K) from c_len) (by rfl) T.n_len (by decide +kernel) (pa_cons (pv 0) pa_nil)) pe_int (nomark _))))) (pss_one (ps_ret pe_bl)) pss_nil)
        (pss_cons (ps_asg (pv 0) (show PG _ _ (gTup K 5 (gCons (gName 1) (gCons (gName 2) (gCons (gName 3) (gCons (gName 4) (gCons (gName 5) gNil)))))) from pg_tup rfl (pgs_cons (pg_name (i := 1) sc_is_tariff.nd rfl (Or.inl rfl)) (pgs_cons (pg_name (i := 2) sc_is_tariff.nd rfl (Or.inl rfl)) (pgs_cons (pg_name (i := 3) sc_is_tariff.nd rfl (Or.inl rfl)) (pgs_cons (pg_name (i := 4) sc_is_tariff.nd rfl (Or.inl rfl)) (pgs_cons (pg_name (i := 5) sc_is_tariff.nd rfl (Or.inl rfl)) pgs_nil)))))))
        (pss_cons (ps_if (PW.pt (pw_or (pt_not (pt_val (pe_call G_is_integer (hr.mono (by decide)) rfl T.g_is_integer T.f_is_integer.kp (b_is_integer T) .nil pass0 (pa_cons (pv 1) (pa_cons pe_int (pa_cons (pe_glob (v := .int 96) rfl T.i_DAY.choose_spec ⟨_, rfl⟩) pa_nil)))))) (pw_or (pt_not (pt_val (pe_call G_are_rows (hr.mono (by decide)) rfl T.g_are_rows T.f_are_rows.kp (b_are_rows T) .nil pass0 (pa_cons (pv 2) pa_nil)))) (pw_or1 (pt_not (pt_val (pe_call G_is_integer (hr.mono (by decide)) rfl T.g_is_integer T.f_is_integer.kp (b_is_integer T) .nil pass0 (pa_cons (pv 3) (pa_cons pe_int (pa_cons (pe_glob (v := .int 96) rfl T.i_DAY.choose_spec ⟨_, rfl⟩) pa_nil)))))))))) (pss_one (ps_ret pe_bl)) pss_nil)
        (pss_one (ps_ret (pe_and (pe_call G_is_integer (hr.mono (by decide)) rfl T.g_is_integer T.f_is_integer.kp (b_is_integer T) .nil pass0 (pa_cons (pv 4) (pa_cons pe_int (pa_cons (pe_glob (v := .int 1000000) rfl T.i_MAX_PRICE.choose_spec ⟨_, rfl⟩) pa_nil)))) (pe_one (pe_or (pe_cmpR o_isN (pv 5) pe_non (nomark _)) (pe_one (pe_call G_is_integer (hr.mono (by decide)) rfl T.g_is_integer T.f_is_integer.kp (b_is_integer T) .nil pass0 (pa_cons (pv 5) (pa_cons pe_int (pa_cons (pe_glob (v := .int 1000000) rfl T.i_MAX_PRICE.choose_spec ⟨_, rfl⟩) pa_nil)))))))))))))), ?_⟩
    obtain ⟨v, t, rfl, ⟨a, r, rfl, ha, hr2⟩, hz, q⟩ := h
    refine st_eq (σ' := [some (.ref a), none, none, none, none, none]) rfl ?_
    walk_at "go"
    refine g_isi (b := true) (ty_tupT ha) (by decide +kernel) ?_
    walk_at "go"
    refine g_lenT ha ?_
    walk_at "go"
    refine n_false rfl ?_
    walk_at "go"
    refine g_gtup ha rfl ?_
    walk_at "go"
    unfold Ma.tarOk at q
    refine ⟨_, _, _, rfl, ?_⟩
    walk_at "go"
    refine b_bool (fun e1 => ?_) (fun e1 => ?_)
    · have e1' : (decide (0 ≤ t.grace) && decide (t.grace ≤ 96)) = false := (Bool.not_eq_true' _).mp e1
      walk_at "go"
      rw [e1'] at q
      exact q H (Ex.refl _)
    have e1' : (decide (0 ≤ t.grace) && decide (t.grace ≤ 96)) = true := (Bool.not_eq_false' _).mp e1
    rw [e1'] at q
    walk_at "go"
    refine ⟨_, _, rfl, hr2, hz, fun H1 e2 => ?_⟩
    walk_at "go"
    cases hro : Ma.rowsOk t.rows with
    | false =>
      walk_at "go"
      rw [hro] at q
      exact q H1 e2
    | true =>
      rw [hro] at q
      walk_at "go"
      refine ⟨_, _, _, rfl, ?_⟩
      walk_at "go"
      refine b_bool (fun e1 => ?_) (fun e1 => ?_)
      · have e1' : (decide (1 ≤ t.unit) && decide (t.unit ≤ 96)) = false := (Bool.not_eq_true' _).mp e1
        walk_at "go"
        rw [e1'] at q
        exact q H1 e2
      have e1' : (decide (1 ≤ t.unit) && decide (t.unit ≤ 96)) = true := (Bool.not_eq_false' _).mp e1
      rw [e1'] at q
      walk_at "go"
      refine ⟨_, _, _, rfl, ?_⟩
      walk_at "go"
      refine b_bool (fun e1 => ?_) (fun e1 => ?_)
      · rw [e1] at q
        walk_at "go"
        refine b_dec (fun hc => ?_) (fun hc => ?_)
        · rw [hc] at q
          walk_at "go"
          exact q H1 e2
        · obtain ⟨c, hc⟩ := Option.ne_none_iff_exists'.mp hc
          rw [hc] at q ⊢
          rw [ov_some]
          walk_at "go"
          refine ⟨_, _, _, rfl, ?_⟩
          exact q H1 e2
      · rw [e1] at q
        exact q H1 e2
end
end St
namespace St
open PySem PySem.Spec PyProof.Rows L2 Sy
open Evl (Ex)
def sp_need_tariffs (K : PySem.W.Frag) : Sp := fun vs H Q _ => ∃ (v : V) (ts : List Tar), vs = [v] ∧ TarsAt K H v ts ∧ (∀ t ∈ ts, Ma.Ok t) ∧ 1 ≤ ts.length ∧ ts.length ≤ 8 ∧ ∀ H', Ex H H' → Q .non H'
end St
namespace St
open PySem PySem.Spec PyProof.Rows L2
open Evl (Ex)
open Sy
section
variable {P : Program} {w : World} {K : PySem.W.Frag} {mg : Str → Option Value} {base : Heap}
theorem ok_need_tariffs (T : Txt K mg) : FnOk P w K mg base CX0 5 (He.ga K "need_tariffs") (Sy.fdOf K (He.ga K "need_tariffs")) ["value"] (sp_need_tariffs K) := by
  have G_is_tariff : FnOk P w K mg base CX0 4 (He.ga K "is_tariff") (Sy.fdOf K (He.ga K "is_tariff")) ["value"] (sp_is_tariff K) := ok_is_tariff T
  refine T.f_need_tariffs.ok sc_need_tariffs (fun vs H Q E h => ?_) (fun cdv A outer s H vs Q E hr h => ?_)
  · skip
    obtain ⟨v, p, rfl, _⟩ := h
    rfl
  · refine ⟨_, PSs.nox ((pss_one (ps_if (PW.pt (pw_or (pt_not (pt_val (pe_callB (show CallR _ _ (rIsi K) from call_isi) (by rfl) T.n_isinstance (by decide +kernel) (pa_cons (pv 0) (pa_cons (pe_bltn (v := .ty "tuple") (by rfl) T.n_tuple (by decide +kernel) rfl) pa_nil))))) (pw_or (pt_not (pt_chain op_le op_le pe_int (pe_callB (show CallR _ _ (rLenQ K) from c_len) (by rfl) T.n_len (by decide +kernel) (pa_cons (pv 0) pa_nil)) pe_int)) (pw_or1 (pt_not (pt_val (pe_callB (show CallR _ _ (rAll K) from cr_all rfl) (by rfl) T.n_all (by decide +kernel) (pa_cons (pe_lc (own := [("one", 1)]) rfl sc_need_tariffs.nd (show PI _ _ _ (iTup K _) from pi_tup (pv 0)) (blkOk_by (own := [("one", 1)]) (N := N_need_tariffs) (sc := defScope s_need_tariffs) (by decide +kernel)) (fun _ _ _ _ _ => (pg_name (i := 1) sc_need_tariffs.nd rfl (Or.inl rfl))) (fun _ _ _ _ _ => pts_nil) (fun _ _ _ _ _ => (pe_call G_is_tariff (hr.mono (by decide)) rfl T.g_is_tariff T.f_is_tariff.kp (b_is_tariff T) .nil pass0 (pa_cons (pv 1) pa_nil)))) pa_nil)))))))) (pss_one ps_never) pss_nil))), ?_⟩
    obtain ⟨v, ts, rfl, ⟨a, us, rfl, ha, hp⟩, ok, h1, h8, q⟩ := h
    have hl : us.length = ts.length := pd_len hp
    refine st_eq (σ' := [some (.ref a), none]) rfl ?_
    walk_at "go"
    refine g_isi (b := true) (ty_tupT ha) (by decide +kernel) ?_
    walk_at "go"
    refine g_lenT ha ?_
    walk_at "go"
    refine b_true (by omega) ?_
    walk_at "go"
    rw [decide_eq_true (show (us.length : Int) ≤ 8 by omega)]
    walk_at "go"
    refine i_T ha ?_
    refine lcMap (drv_tup (a := a) (xs := us)) (fun H1 e => Evl.ex_t e ha) (by omega) (fun i => .bl true) ?_ ?_
    · rintro i x H1 H2 Y hi e1 e2 ⟨rfl, hx⟩ hY
      refine ⟨rfl, ?_⟩
      walk_at "go"
      obtain ⟨t, hti, ht⟩ := pd_at hp hx
      have okt := ok t (List.mem_of_getElem? hti)
      refine ⟨x, t, rfl, ht.ex e1, okt.len, fun H3 e3 => ?_⟩
      rw [Ma.ok_iff.mpr okt]
      exact hY _ e3
    · intro p H2 hp0 e2 hp2
      walk_at "go"
      refine g_all (bs := (List.range us.length).map fun _ => true) (.of (by rw [List.map_map]; exact hp2)) ?_
      have e : ((List.range us.length).map fun _ => true).all id = true := by simp
      rw [e]
      walk_at "go"
      exact q H2 e2
end
end St
namespace St
open PySem PySem.Spec PyProof.Rows L2 Sy
open Evl (Ex)
def sp_day_price (K : PySem.W.Frag) : Sp := fun vs H Q _ => ∃ (v : V) (t : Tar) (L : Int), vs = [v, .int L] ∧ TarAt K H v t ∧ Ma.Ok t ∧ 0 ≤ L ∧ L ≤ 96 ∧ ∀ H', Ex H H' → Q (.int (Ma.dayP t L)) H'
end St
namespace St
open PySem PySem.Spec PyProof.Rows L2
open Evl (Ex)
open Sy
section
variable {P : Program} {w : World} {K : PySem.W.Frag} {mg : Str → Option Value} {base : Heap}
theorem ok_day_price (T : Txt K mg) : FnOk P w K mg base CX0 1 (He.ga K "day_price") (Sy.fdOf K (He.ga K "day_price")) ["tariff", "length"] (sp_day_price K) := by
  refine T.f_day_price.ok sc_day_price (fun vs H Q E h => ?_) (fun cdv A outer s H vs Q E hr h => ?_)
  · skip
    obtain ⟨v, t, L, rfl, _⟩ := h
    rfl
  · refine ⟨_, PSs.nox ((pss_cons (ps_asg (pv 0) (show PG _ _ (gTup K 5 (gCons (gName 2) (gCons (gName 3) (gCons (gName 4) (gCons (gName 5) (gCons (gName 6) gNil)))))) from pg_tup rfl (pgs_cons (pg_name (i := 2) sc_day_price.nd rfl (Or.inl rfl)) (pgs_cons (pg_name (i := 3) sc_day_price.nd rfl (Or.inl rfl)) (pgs_cons (pg_name (i := 4) sc_day_price.nd rfl (Or.inl rfl)) (pgs_cons (pg_name (i := 5) sc_day_price.nd rfl (Or.inl rfl)) (pgs_cons (pg_name (i := 6) sc_day_price.nd rfl (Or.inl rfl)) pgs_nil)))))))
        (pss_cons (ps_if (pt_cmpR op_le (pv 1) (pv 2) (nomark _)) (pss_one (ps_ret pe_int)) pss_nil)
        (pss_cons (ps_asg (pe_tup (pa_cons pe_int (pa_cons pe_int pa_nil))) (show PG _ _ (gTup K 2 (gCons (gName 7) (gCons (gName 8) gNil))) from pg_tup rfl (pgs_cons (pg_name (i := 7) sc_day_price.nd rfl (Or.inl rfl)) (pgs_cons (pg_name (i := 8) sc_day_price.nd rfl (Or.inl rfl)) pgs_nil))))
        (pss_cons (ps_for PassesOwn.never rfl (show PI _ _ _ (iTup K _) from pi_tup (pv 3)) (show PG _ _ (gTup K 2 (gCons (gName 9) (gCons (gName 10) gNil))) from pg_tup rfl (pgs_cons (pg_name (i := 9) sc_day_price.nd rfl (Or.inl rfl)) (pgs_cons (pg_name (i := 10) sc_day_price.nd rfl (Or.inl rfl)) pgs_nil))) (pss_cons (ps_if (pt_cmpR op_le (pv 1) (pv 9) (nomark _)) (pss_one (ps_ret (pe_ifExp (pt_cmpR o_isN (pv 6) pe_non (nomark _)) (pv 10) (pe_callB (c_min2 rfl) (by rfl) T.n_min (by decide +kernel) (pa_cons (pv 6) (pa_cons (pv 10) pa_nil)))))) pss_nil)
        (pss_one (ps_par (i := 7) (j := 8) rfl sc_day_price.nd rfl rfl (by decide) rfl rfl (pa_cons (pv 9) (pa_cons (pv 10) pa_nil)) (by rfl)))))
        (pss_cons (ps_set (i := 8) sc_day_price.nd rfl (Or.inl rfl) (pe_op op_add (pv 8) (pe_op op_mul (pv 5) (pe_op op_fdiv (pe_op op_sub (pe_op op_add (pe_op op_sub (pv 1) (pv 7)) (pv 4)) pe_int) (pv 4)))))
        (pss_one (ps_ret (pe_ifExp (pt_cmpR o_isN (pv 6) pe_non (nomark _)) (pv 8) (pe_callB (c_min2 rfl) (by rfl) T.n_min (by decide +kernel) (pa_cons (pv 6) (pa_cons (pv 8) pa_nil)))))))))))), ?_⟩
    obtain ⟨v, t, L, rfl, ⟨a, r, rfl, ha, ⟨b, us, rfl, hb, hp⟩⟩, ok, l0, l1, q⟩ := h
    refine st_eq (σ' := [some (.ref a), some (.int L), none, none, none, none, none, none, none, none, none]) rfl ?_
    walk_at "go"
    refine g_gtup ha rfl ?_
    walk_at "go"
    unfold Ma.dayP at q
    refine b_dec (fun c => ?_) (fun c => ?_)
    · rw [if_pos c] at q
      walk_at "go"
      exact q H (Ex.refl _)
    rw [if_neg c] at q
    walk_at "go"
    refine new_tup rfl fun p0 H0 _ e0 hp0 => ?_
    refine g_gtup (.of hp0) rfl ?_
    walk_at "go"
    refine i_T (Evl.ex_t e0 hb) ?_
    have hl : us.length = t.rows.length := pd_len hp
    refine forJ (drv_tup (a := b) (xs := us)) (fun i σ H' => ∃ s p x y, σ = [some (.ref a), some (.int L), some (.int t.grace), some (.ref b), some (.int t.unit), some (.int t.more), some (ov t.cap), some (.int s), some (.int p), x, y] ∧ Ex H H' ∧ 0 ≤ s ∧ s ≤ L ∧
        Ma.rawP L t.unit t.more t.rows 0 0 = Ma.rawP L t.unit t.more (t.rows.drop i) s p) ?_ ?_ ?_ ?_
    · exact ⟨0, 0, none, none, rfl, e0, by omega, by omega, rfl⟩
    · rintro i σ H' hi ⟨s, p, x, y, rfl, e, _⟩
      exact Evl.ex_t e hb
    · rintro i x σ H1 H2 hi ⟨s, p, y, z, rfl, e, s0, s1, hraw⟩ e2 ⟨rfl, hx⟩
      obtain ⟨pr, hpi, c2, rfl, hS⟩ := pd_at hp hx
      refine g_gtup (Evl.ex_t e hS) rfl ?_
      have hd : t.rows.drop i = pr :: t.rows.drop (i + 1) := by
        have hlt := (List.getElem?_eq_some_iff.mp hpi)
        obtain ⟨h1, h2⟩ := hlt
        rw [List.drop_eq_getElem_cons h1, h2]
      rw [hd] at hraw
      obtain ⟨u, pp⟩ := pr
      rw [Ma.rawP_cons] at hraw
      walk_at "go"
      refine b_dec (fun c => ?_) (fun c => ?_)
      · rw [if_pos c] at hraw
        rw [hraw] at q
        walk_at "go"
        refine b_dec (fun hc => ?_) (fun hc => ?_)
        · rw [hc] at q
          walk_at "go"
          exact q _ e
        · obtain ⟨c, hc⟩ := Option.ne_none_iff_exists'.mp hc
          rw [hc] at q ⊢
          rw [ov_some]
          walk_at "go"
          exact q _ e
      · rw [if_neg c] at hraw
        walk_at "go"
        exact ⟨u, pp, some (.int u), some (.int pp), rfl, e, by have := Ma.row_pos ok hpi; omega, by omega, hraw⟩
    · rintro σ H1 ⟨s, p, y, z, rfl, e, s0, s1, hraw⟩
      rw [hl, List.drop_length] at hraw
      rw [Ma.rawP_nil] at hraw
      rw [hraw] at q
      walk_at "go"
      refine g_I ?_ ⟨by have := ok.u0; omega, by have := ok.u1; omega⟩
      walk_at "go"
      refine g_I ?_ (.inl ⟨by have := ok.m0; omega, by have := ok.m1; omega⟩)
      walk_at "go"
      refine b_dec (fun hc => ?_) (fun hc => ?_)
      · rw [hc] at q
        walk_at "go"
        exact q _ e
      · obtain ⟨c, hc⟩ := Option.ne_none_iff_exists'.mp hc
        rw [hc] at q ⊢
        rw [ov_some]
        walk_at "go"
        exact q _ e
end
end St
namespace St
open PySem PySem.Spec PyProof.Rows L2 Sy
open Evl (Ex)
def sp_stay_price (K : PySem.W.Frag) : Sp := fun vs H Q _ => ∃ (v : V) (t : Tar) (L : Int), vs = [v, .int L] ∧ TarAt K H v t ∧ Ma.Ok t ∧ 0 ≤ L ∧ ∀ H', Ex H H' → Q (.int (Ma.stayP t L)) H'
end St
namespace St
open PySem PySem.Spec PyProof.Rows L2
open Evl (Ex)
open Sy
section
variable {P : Program} {w : World} {K : PySem.W.Frag} {mg : Str → Option Value} {base : Heap}
theorem ok_stay_price (T : Txt K mg) : FnOk P w K mg base CX0 2 (He.ga K "stay_price") (Sy.fdOf K (He.ga K "stay_price")) ["tariff", "length"] (sp_stay_price K) := by
  have G_day_price : FnOk P w K mg base CX0 1 (He.ga K "day_price") (Sy.fdOf K (He.ga K "day_price")) ["tariff", "length"] (sp_day_price K) := ok_day_price T
  refine T.f_stay_price.ok sc_stay_price (fun vs H Q E h => ?_) (fun cdv A outer s H vs Q E hr h => ?_)
  · skip
    obtain ⟨v, t, L, rfl, _⟩ := h
    rfl
  · refine ⟨_, PSs.nox ((pss_cons (ps_if (pt_cmpR op_eq (pv 1) pe_int (nomark _)) (pss_one (ps_ret pe_int)) pss_nil)
        (pss_cons (ps_set (i := 2) sc_stay_price.nd rfl (Or.inl rfl) (pe_op op_fdiv (pe_op op_sub (pv 1) pe_int) (pe_glob (v := .int 96) rfl T.i_DAY.choose_spec ⟨_, rfl⟩)))
        (pss_one (ps_ret (pe_op op_add (pe_op op_mul (pv 2) (pe_call G_day_price (hr.mono (by decide)) rfl T.g_day_price T.f_day_price.kp (b_day_price T) .nil pass0 (pa_cons (pv 0) (pa_cons (pe_glob (v := .int 96) rfl T.i_DAY.choose_spec ⟨_, rfl⟩) pa_nil)))) (pe_call G_day_price (hr.mono (by decide)) rfl T.g_day_price T.f_day_price.kp (b_day_price T) .nil pass0 (pa_cons (pv 0) (pa_cons (pe_op op_sub (pv 1) (pe_op op_mul (pv 2) (pe_glob (v := .int 96) rfl T.i_DAY.choose_spec ⟨_, rfl⟩))) pa_nil))))))))), ?_⟩
    obtain ⟨v, t, L, rfl, ht, ok, l0, q⟩ := h
    refine st_eq (σ' := [some v, some (.int L), none]) rfl ?_
    walk_at "go"
    unfold Ma.stayP at q
    refine b_dec (fun c => ?_) (fun c => ?_)
    · rw [if_pos c] at q
      walk_at "go"
      exact q H (Ex.refl _)
    rw [if_neg c] at q
    walk_at "go"
    refine g_I ?_ ⟨by omega, by omega⟩
    walk_at "go"
    have hd := Ma.day_bd ok (L := 96) (by omega) (by omega)
    refine ⟨v, t, _, rfl, ht, ok, by omega, by omega, fun H1 e1 => ?_⟩
    refine g_I ?_ (.inr ⟨by omega, by omega⟩)
    walk_at "go"
    refine g_I ?_ (.inr ⟨by omega, by omega⟩)
    walk_at "go"
    refine ⟨v, t, _, rfl, ht.ex e1, ok, by omega, by omega, fun H2 e2 => ?_⟩
    walk_at "go"
    exact q H2 (e1.trans e2)
end
end St
namespace St
open PySem PySem.Spec PyProof.Rows L2 Sy
open Evl (Ex)
def sp_cheapest (K : PySem.W.Frag) : Sp := fun vs H Q _ => ∃ (v : V) (ts : List Tar) (L : Int), vs = [v, .int L] ∧ TarsAt K H v ts ∧ (∀ t ∈ ts, Ma.Ok t) ∧ 1 ≤ ts.length ∧ ts.length ≤ 8 ∧ 0 ≤ L ∧ L ≤ 1000000000000000 ∧
  ∀ p H', Ex H H' → H p = none → H' p = some (.lst ((Ma.cheapL ts L).map natV)) → Q (.ref p) H'
end St
namespace St
open PySem PySem.Spec PyProof.Rows L2
open Evl (Ex)
open Sy
section
variable {P : Program} {w : World} {K : PySem.W.Frag} {mg : Str → Option Value} {base : Heap}
theorem ok_cheapest (T : Txt K mg) : FnOk P w K mg base CX0 6 (He.ga K "cheapest") (Sy.fdOf K (He.ga K "cheapest")) ["tariffs", "length"] (sp_cheapest K) := by
  have G_need_length : FnOk P w K mg base CX0 2 (He.ga K "need_length") (Sy.fdOf K (He.ga K "need_length")) ["value"] (sp_need_length K) := ok_need_length T
  have G_need_tariffs : FnOk P w K mg base CX0 5 (He.ga K "need_tariffs") (Sy.fdOf K (He.ga K "need_tariffs")) ["value"] (sp_need_tariffs K) := ok_need_tariffs T
  have G_stay_price : FnOk P w K mg base CX0 2 (He.ga K "stay_price") (Sy.fdOf K (He.ga K "stay_price")) ["tariff", "length"] (sp_stay_price K) := ok_stay_price T
  refine T.f_cheapest.ok sc_cheapest (fun vs H Q E h => ?_) (fun cdv A outer s H vs Q E hr h => ?_)
  · skip
    obtain ⟨v, ts, L, rfl, _⟩ := h
    rfl
  · refine ⟨_, PSs.nox ((pss_cons (ps_expr (pe_call G_need_tariffs (hr.mono (by decide)) rfl T.g_need_tariffs T.f_need_tariffs.kp (b_need_tariffs T) .nil pass0 (pa_cons (pv 0) pa_nil)))
        (pss_cons (ps_expr (pe_call G_need_length (hr.mono (by decide)) rfl T.g_need_length T.f_need_length.kp (b_need_length T) .nil pass0 (pa_cons (pv 1) pa_nil)))
        (pss_cons (ps_set (i := 2) sc_cheapest.nd rfl (Or.inr rfl) (pe_lc (own := [("tariff", 3)]) rfl sc_cheapest.nd (show PI _ _ _ (iTup K _) from pi_tup (pv 0)) (blkOk_by (own := [("tariff", 3)]) (N := N_cheapest) (sc := defScope s_cheapest) (by decide +kernel)) (fun _ _ _ _ _ => (pg_name (i := 3) sc_cheapest.nd rfl (Or.inl rfl))) (fun _ _ _ _ _ => pts_nil) (fun _ _ _ _ _ => (pe_call G_stay_price (hr.mono (by decide)) rfl T.g_stay_price T.f_stay_price.kp (b_stay_price T) .nil pass0 (pa_cons (pv 3) (pa_cons (pv 1) pa_nil))))))
        (pss_one (ps_ret (pe_lc (own := [("index", 4), ("cost", 5)]) rfl sc_cheapest.nd (show PI _ _ _ (iEnum K _) from pi_enum (by rfl) T.n_enumerate (pa_cons (pv 2) pa_nil)) (blkOk_by (own := [("index", 4), ("cost", 5)]) (N := N_cheapest) (sc := defScope s_cheapest) (by decide +kernel)) (fun _ _ _ _ _ => (show PG _ _ (gTup K 2 (gCons (gName 4) (gCons (gName 5) gNil))) from pg_tup rfl (pgs_cons (pg_name (i := 4) sc_cheapest.nd rfl (Or.inl rfl)) (pgs_cons (pg_name (i := 5) sc_cheapest.nd rfl (Or.inl rfl)) pgs_nil)))) (fun _ _ _ _ _ => (pts_one (pt_cmpR op_eq (pv 5) (pe_callB (show CallR _ _ (rMin K) from cr_min rfl) (by rfl) T.n_min (by decide +kernel) (pa_cons (pv 2) pa_nil)) (nomark _)))) (fun _ _ _ _ _ => (pv 4))))))))), ?_⟩
    obtain ⟨v, ts, L, rfl, ht, ok, h1, h8, l0, l1, q⟩ := h
    obtain ⟨a, us, rfl, ha, hp⟩ := id ht
    have hl : us.length = ts.length := pd_len hp
    refine st_eq (σ' := [some (.ref a), some (.int L), none, none, none, none]) rfl ?_
    walk_at "go"
    refine ⟨_, ts, rfl, ht, ok, h1, h8, fun H1 e1 => ?_⟩
    walk_at "go"
    refine ⟨_, rfl, l0, l1, ?_⟩
    walk_at "go"
    refine i_T (Evl.ex_t e1 ha) ?_
    refine lcMap (drv_tup (a := a) (xs := us)) (fun H2 e => Evl.ex_t e (Evl.ex_t e1 ha)) (by omega) (fun i => .int (Ma.stayP (ts.getD i Ma.dT) L)) ?_ ?_
    · rintro i x H2 H3 Y hi e2 _ ⟨rfl, hx⟩ hY
      obtain ⟨t, hti, htt⟩ := pd_at hp hx
      rw [getD_of hti] at hY
      refine ⟨rfl, ?_⟩
      walk_at "go"
      exact ⟨x, t, L, rfl, htt.ex (e1.trans e2), ok t (List.mem_of_getElem? hti), l0, hY⟩
    intro p H2 hp0 e2 hp2
    rw [hl, range_getD (fun t => V.int (Ma.stayP t L))] at hp2
    walk_at "go"
    have hp3 : SqL K H2 p (ts.map fun t => V.int (Ma.stayP t L)) := .of hp2
    refine i_E hp3 ?_
    have hl2 : (ts.map fun t => V.int (Ma.stayP t L)).length = ts.length := List.length_map ..
    refine lcJ drv_enum (fun H3 e => Evl.ex_l e hp3) (by omega) (fun i acc => acc = ((List.range i).filter (Ma.isCheap ts L)).map natV) rfl ?_ ?_
    · rintro i x acc H3 H4 Y Z hi rfl e3 e4 ⟨T', y, rfl, _, hT, hy⟩ hY hZ
      obtain ⟨t, hti, rfl⟩ := map_at hy
      refine g_gtup (.of hT) rfl ?_
      walk_at "go"
      refine ⟨rfl, ?_⟩
      walk_at "go"
      have hm : (ts.map fun t => V.int (Ma.stayP t L)) = (ts.map fun t => Ma.stayP t L).map V.int := by rw [List.map_map] <;> rfl
      have hp5 : SqL K H4 p ((ts.map fun t => Ma.stayP t L).map V.int) := by
        rw [← hm]
        exact Evl.ex_l (e3.trans e4) hp3
      refine g_min hp5 (by rw [List.length_map]; omega) fun m hm1 hm2 => ?_
      walk_at "go"
      obtain ⟨t2, ht2, rfl⟩ := List.mem_map.mp hm1
      have hc : Ma.isCheap ts L i = true ↔ Ma.stayP t L = Ma.stayP t2 L := by
        rw [Ma.isCheap_iff, getD_of hti]
        constructor
        · intro h
          have a1 := h t2 ht2
          have a2 := hm2 _ (List.mem_map.mpr ⟨t, List.mem_of_getElem? hti, rfl⟩)
          omega
        · intro h u hu
          rw [h]
          exact hm2 _ (List.mem_map.mpr ⟨u, hu, rfl⟩)
      refine b_dec (fun c => ?_) (fun c => ?_)
      · walk_at "go"
        refine hY _ _ (Ex.refl _) ?_
        rw [List.range_succ, List.filter_append, List.filter_cons_of_pos (hc.mpr c), List.map_append] <;> rfl
      · refine hZ _ (Ex.refl _) ?_
        rw [List.range_succ, List.filter_append, List.filter_cons_of_neg (fun z => c (hc.mp z)), List.filter_nil, List.append_nil]
    · intro p' acc H3 hp' e3 hp'2 _ hacc
      rw [hl2] at hacc
      subst hacc
      exact q p' H3 ((e1.trans e2).trans e3) (Evl.fresh_back (e1.trans e2) hp') hp'2
end
end St
namespace St
open PySem PySem.Spec PyProof.Rows L2 Sy
open Evl (Ex)
def sp_finally_cheapest (K : PySem.W.Frag) : Sp := fun vs H Q _ => ∃ (v : V) (ts : List Tar), vs = [v] ∧ TarsAt K H v ts ∧ (∀ t ∈ ts, Ma.Ok t) ∧ 1 ≤ ts.length ∧ ts.length ≤ 8 ∧
  ∀ p H', Ex H H' → H p = none → H' p = some (.lst ((Ma.finL ts).map natV)) → Q (.ref p) H'
end St
namespace St
open PySem PySem.Spec PyProof.Rows L2
open Evl (Ex)
open Sy
section
variable {P : Program} {w : World} {K : PySem.W.Frag} {mg : Str → Option Value} {base : Heap}
theorem ok_finally_cheapest (T : Txt K mg) : FnOk P w K mg base CX0 6 (He.ga K "finally_cheapest") (Sy.fdOf K (He.ga K "finally_cheapest")) ["tariffs"] (sp_finally_cheapest K) := by
  have G_day_price : FnOk P w K mg base CX0 1 (He.ga K "day_price") (Sy.fdOf K (He.ga K "day_price")) ["tariff", "length"] (sp_day_price K) := ok_day_price T
  have G_need_tariffs : FnOk P w K mg base CX0 5 (He.ga K "need_tariffs") (Sy.fdOf K (He.ga K "need_tariffs")) ["value"] (sp_need_tariffs K) := ok_need_tariffs T
  refine T.f_finally_cheapest.ok sc_finally_cheapest (fun vs H Q E h => ?_) (fun cdv A outer s H vs Q E hr h => ?_)
  · skip
    obtain ⟨v, ts, rfl, _⟩ := h
    rfl
  · refine ⟨_, PSs.nox ((pss_cons (ps_expr (pe_call G_need_tariffs (hr.mono (by decide)) rfl T.g_need_tariffs T.f_need_tariffs.kp (b_need_tariffs T) .nil pass0 (pa_cons (pv 0) pa_nil)))
        (pss_cons (ps_asg (pe_tup (pa_cons (pe_callB (show CallR _ _ (rMin K) from cr_min rfl) (by rfl) T.n_min (by decide +kernel) (pa_cons (pe_lc (own := [("tariff", 7)]) rfl sc_finally_cheapest.nd (show PI _ _ _ (iTup K _) from pi_tup (pv 0)) (blkOk_by (own := [("tariff", 7)]) (N := N_finally_cheapest) (sc := defScope s_finally_cheapest) (by decide +kernel)) (fun _ _ _ _ _ => (pg_name (i := 7) sc_finally_cheapest.nd rfl (Or.inl rfl))) (fun _ _ _ _ _ => pts_nil) (fun _ _ _ _ _ => (pe_call G_day_price (hr.mono (by decide)) rfl T.g_day_price T.f_day_price.kp (b_day_price T) .nil pass0 (pa_cons (pv 7) (pa_cons (pe_glob (v := .int 96) rfl T.i_DAY.choose_spec ⟨_, rfl⟩) pa_nil))))) pa_nil)) (pa_cons (pe_lst pa_nil) pa_nil))) (show PG _ _ (gTup K 2 (gCons (gName 1) (gCons (gName 2) gNil))) from pg_tup rfl (pgs_cons (pg_name (i := 1) sc_finally_cheapest.nd rfl (Or.inr rfl)) (pgs_cons (pg_name (i := 2) sc_finally_cheapest.nd rfl (Or.inl rfl)) pgs_nil))))
        (pss_cons (ps_setLc (i := 3) (own := [("tariff", 7)]) rfl sc_finally_cheapest.nd rfl rfl (sw_true rfl rfl rfl (by decide +kernel)) (show PI _ _ _ (iTup K _) from pi_tup (pv 0)) (blkOk_by (own := [("tariff", 7)]) (N := N_finally_cheapest) (sc := defScope s_finally_cheapest) (by decide +kernel)) (fun _ _ _ _ _ => (pg_name (i := 7) sc_finally_cheapest.nd rfl (Or.inl rfl))) (fun _ _ _ _ _ => (pts_one (pt_cmpR op_eq (pe_call G_day_price (hr.mono (by decide)) rfl T.g_day_price T.f_day_price.kp (b_day_price T) .nil pass0 (pa_cons (pv 7) (pa_cons (pe_glob (v := .int 96) rfl T.i_DAY.choose_spec ⟨_, rfl⟩) pa_nil))) (pv 1) (nomark _)))) (fun _ _ _ _ _ => (pv 7)))
        (pss_cons (ps_set (i := 4) sc_finally_cheapest.nd rfl (Or.inl rfl) (pe_lst pa_nil))
        (pss_cons (ps_for PassesOwn.never rfl (pi_range2 (by rfl) T.n_range (pa_cons pe_int (pa_cons (pe_op op_add (pe_glob (v := .int 96) rfl T.i_DAY.choose_spec ⟨_, rfl⟩) pe_int) pa_nil))) (pg_name (i := 5) sc_finally_cheapest.nd rfl (Or.inr rfl)) (pss_one (ps_expr (show PE _ _ (tBM K "list" rAppend _ _) from pe_bm PySem.F.plainAttrs_list PySem.F.slot_list_append PySem.F.type_list_append mt_append (pv 4) (pa_cons (pe_callB (show CallR _ _ (rMin K) from cr_min rfl) (by rfl) T.n_min (by decide +kernel) (pa_cons (pe_lc (own := [("row", 9)]) rfl sc_finally_cheapest.nd (show PI _ _ _ (iList K _) from pi_list (pv 3)) (blkOk_by (own := [("row", 9)]) (N := N_finally_cheapest) (sc := defScope s_finally_cheapest) (by decide +kernel)) (fun _ _ _ _ _ => (pg_name (i := 9) sc_finally_cheapest.nd rfl (Or.inl rfl))) (fun _ _ _ _ _ => pts_nil) (fun _ _ _ _ _ => (pe_call G_day_price (hr.mono (by decide)) rfl T.g_day_price T.f_day_price.kp (b_day_price T) .nil pass0 (pa_cons (pv 9) (pa_cons (pv 5) pa_nil))))) pa_nil)) pa_nil)))))
        (pss_cons (ps_for PassesOwn.never rfl (show PI _ _ _ (iEnumT K _) from pi_enumT (by rfl) T.n_enumerate (pa_cons (pv 0) pa_nil)) (show PG _ _ (gTup K 2 (gCons (gName 6) (gCons (gName 7) gNil))) from pg_tup rfl (pgs_cons (pg_name (i := 6) sc_finally_cheapest.nd rfl (Or.inl rfl)) (pgs_cons (pg_name (i := 7) sc_finally_cheapest.nd rfl (Or.inr rfl)) pgs_nil))) (pss_cons (ps_setLc (i := 8) (own := [("length", 5)]) rfl sc_finally_cheapest.nd rfl rfl (sw_true rfl rfl rfl (by decide +kernel)) (pi_range2 (by rfl) T.n_range (pa_cons pe_int (pa_cons (pe_op op_add (pe_glob (v := .int 96) rfl T.i_DAY.choose_spec ⟨_, rfl⟩) pe_int) pa_nil))) (blkOk_by (own := [("length", 5)]) (N := N_finally_cheapest) (sc := defScope s_finally_cheapest) (by decide +kernel)) (fun _ _ _ _ _ => (pg_name (i := 5) sc_finally_cheapest.nd rfl (Or.inl rfl))) (fun _ _ _ _ _ => pts_nil) (fun _ _ _ _ _ => (pe_call G_day_price (hr.mono (by decide)) rfl T.g_day_price T.f_day_price.kp (b_day_price T) .nil pass0 (pa_cons (pv 7) (pa_cons (pv 5) pa_nil)))))
        (pss_one (ps_if (PW.pt (pw_and (pt_cmpR op_eq (pe_ix (show IxR _ (rIxL K) from ix_list) (pv 8) (pe_un un_neg pe_int) (fun _ _ => rfl)) (pv 1) (nomark _)) (pw_and1 (pt_val (pe_callB (show CallR _ _ (rAny K) from cr_any rfl) (by rfl) T.n_any (by decide +kernel) (pa_cons (pe_lc (own := [("one", 10), ("other", 11)]) rfl sc_finally_cheapest.nd (show PI _ _ _ (RZ.iZipA K _) from RZ.pi_zipA (by rfl) T.n_zip (pa_cons (pv 8) (pa_cons (pv 4) pa_nil))) (blkOk_by (own := [("one", 10), ("other", 11)]) (N := N_finally_cheapest) (sc := defScope s_finally_cheapest) (by decide +kernel)) (fun _ _ _ _ _ => (show PG _ _ (gTup K 2 (gCons (gName 10) (gCons (gName 11) gNil))) from pg_tup rfl (pgs_cons (pg_name (i := 10) sc_finally_cheapest.nd rfl (Or.inl rfl)) (pgs_cons (pg_name (i := 11) sc_finally_cheapest.nd rfl (Or.inl rfl)) pgs_nil)))) (fun _ _ _ _ _ => pts_nil) (fun _ _ _ _ _ => (pe_cmpR op_eq (pv 10) (pv 11) (nomark _)))) pa_nil)))))) (pss_one (ps_expr (show PE _ _ (tBM K "list" rAppend _ _) from pe_bm PySem.F.plainAttrs_list PySem.F.slot_list_append PySem.F.type_list_append mt_append (pv 2) (pa_cons (pv 6) pa_nil)))) pss_nil))))
        (pss_one (ps_ret (pv 2)))))))))), ?_⟩
    obtain ⟨v, ts, rfl, ht, ok, h1, h8, q⟩ := h
    obtain ⟨a, us, rfl, ha, hp⟩ := id ht
    have hl : us.length = ts.length := pd_len hp
    refine st_eq (σ' := [some (.ref a), none, none, none, none, none, none, none, none, none, none, none]) rfl ?_
    walk_at "go"
    refine ⟨_, ts, rfl, ht, ok, h1, h8, fun H1 e1 => ?_⟩
    walk_at "go"
    refine i_T (Evl.ex_t e1 ha) ?_
    refine lcMap (drv_tup (a := a) (xs := us)) (fun H2 e => Evl.ex_t e (Evl.ex_t e1 ha)) (by omega) (fun i => .int (Ma.dayP (ts.getD i Ma.dT) 96)) ?_ ?_
    · rintro i x H2 H3 Y hi e2 _ ⟨rfl, hx⟩ hY
      obtain ⟨t, hti, htt⟩ := pd_at hp hx
      rw [getD_of hti] at hY
      refine ⟨rfl, ?_⟩
      walk_at "go"
      exact ⟨x, t, 96, rfl, htt.ex (e1.trans e2), ok t (List.mem_of_getElem? hti), by decide, by decide, hY⟩
    intro pm H2 hpm e2 hpm2
    rw [hl, range_getD (fun t => V.int (Ma.dayP t 96))] at hpm2
    walk_at "go"
    have hpm3 : SqL K H2 pm ((ts.map fun t => Ma.dayP t 96).map V.int) := .of (by rw [hpm2, List.map_map] <;> rfl)
    refine g_min hpm3 (by rw [List.length_map]; omega) fun D hD1 hD2 => ?_
    have hDmin : ∀ t ∈ ts, D ≤ Ma.dayP t 96 := fun t ht => hD2 _ (List.mem_map.mpr ⟨t, ht, rfl⟩)
    obtain ⟨tD, htD, hDe⟩ := List.mem_map.mp hD1
    walk_at "go"
    refine new_lst rfl fun pf H3 hpf e3 hpf2 => ?_
    walk_at "go"
    refine new_tup rfl fun pt H4 hpt e4 hpt2 => ?_
    refine g_gtup (.of hpt2) rfl ?_
    walk_at "go"
    have E4 := ((e1.trans e2).trans e3).trans e4
    have hpfH : H pf = none := Evl.fresh_back (e1.trans e2) hpf
    have hpf4 := e4 _ _ hpf2
    refine i_T (Evl.ex_t E4 ha) ?_
    -- the rows with the least day
    refine lcJ (drv_tup (a := a) (xs := us)) (fun H5 e => Evl.ex_t e (Evl.ex_t E4 ha)) (by omega) (fun i acc => Paired (TarAt K H4) acc ((ts.take i).filter fun t => decide (Ma.dayP t 96 = D))) .nil ?_ ?_
    · rintro i x acc H5 H6 Y Z hi hacc e5 _ ⟨rfl, hx⟩ hY hZ
      obtain ⟨t, hti, htt⟩ := pd_at hp hx
      have htk : ts.take (i + 1) = ts.take i ++ [t] := by rw [List.take_succ, hti] <;> rfl
      walk_at "go"
      refine ⟨rfl, ?_⟩
      walk_at "go"
      refine ⟨x, t, 96, rfl, htt.ex (E4.trans e5), ok t (List.mem_of_getElem? hti), by decide, by decide, fun H7 e7 => ?_⟩
      walk_at "go"
      refine b_dec (fun c => ?_) (fun c => ?_)
      · walk_at "go"
        refine hY _ H7 e7 ?_
        rw [htk, List.filter_append, List.filter_cons_of_pos (by rw [decide_eq_true_iff]; exact c)]
        exact pd_app hacc (pd_one (htt.ex E4))
      · refine hZ H7 e7 ?_
        rw [htk, List.filter_append, List.filter_cons_of_neg (by rw [decide_eq_true_iff]; exact c), List.filter_nil, List.append_nil]
        exact hacc
    rintro pr rs H5 hpr e5 hpr2 hrl hrs
    rw [hl, List.take_length] at hrs
    generalize hrows : (ts.filter fun t => decide (Ma.dayP t 96 = D)) = rows at hrs
    have hrow : ∀ t, t ∈ rows ↔ t ∈ ts ∧ Ma.dayP t 96 = D := fun t => by rw [← hrows, List.mem_filter, decide_eq_true_iff]
    have hrlen : rs.length = rows.length := pd_len hrs
    have hr0 : 0 < rows.length := by
      cases rows with
      | nil => exact absurd ((hrow tD).mpr ⟨htD, hDe⟩) (by simp)
      | cons => simp
    walk_at "go"
    refine new_lst rfl fun pl H6 hpl e6 hpl2 => ?_
    walk_at "go"
    have E6 := (E4.trans e5).trans e6
    have hplH : H pl = none := Evl.fresh_back (E4.trans e5) hpl
    refine i_R2 (by omega) ?_
    refine forJ (drv_rng (lo := 1) (n := 96)) (fun i σ H' => ∃ (x y z : Option V), σ = [some (.ref a), some (.int D), some (.ref pf), some (.ref pr), some (.ref pl), x, none, none, none, none, none, none] ∧ Ex H H' ∧ Ex H5 H' ∧ ∃ ms : List Int, H' pl = some (.lst (ms.map V.int)) ∧ ms.length = i ∧
      ∀ (k : Nat) m, ms[k]? = some m → (∃ t ∈ rows, m = Ma.dayP t (1 + (k : Int))) ∧ ∀ t ∈ rows, m ≤ Ma.dayP t (1 + (k : Int))) ?_ (fun _ _ _ _ _ => trivial) ?_ ?_
    · exact ⟨none, none, none, rfl, E6, e6, [], hpl2, rfl, fun k m h => by simp at h⟩
    · rintro i x σ H7 H8 hi ⟨x1, _, _, rfl, e7, e57, ms, hms, hml, hmp⟩ _ ⟨rfl, rfl⟩
      walk_at "go"
      refine ⟨tyL (.of hms), ?_⟩
      walk_at "go"
      have hpr7 : SqL K H8 pr rs := .of (e57 _ _ hpr2)
      refine i_L hpr7 ?_
      refine lcMap (drv_list (a := pr) (xs := rs)) (fun H9 e => Evl.ex_l e hpr7) (by omega) (fun j => .int (Ma.dayP (rows.getD j Ma.dT) (1 + (i : Int)))) ?_ ?_
      · rintro j y H9 H10 Y hj e8 _ ⟨rfl, hy⟩ hY
        obtain ⟨t, hti, htt⟩ := pd_at hrs hy
        have htr := (hrow t).mp (List.mem_of_getElem? hti)
        rw [getD_of hti] at hY
        refine ⟨rfl, ?_⟩
        walk_at "go"
        exact ⟨y, t, _, rfl, ((htt.ex e5).ex e57).ex e8, ok t htr.1, by omega, by omega, hY⟩
      · intro pk H9 hpk e8 hpk2
        rw [hrlen, range_getD (fun t => V.int (Ma.dayP t (1 + (i : Int))))] at hpk2
        walk_at "go"
        have hpk3 : SqL K H9 pk ((rows.map fun t => Ma.dayP t (1 + (i : Int))).map V.int) := .of (by rw [hpk2, List.map_map] <;> rfl)
        refine g_min hpk3 (by rw [List.length_map]; omega) fun m hm1 hm2 => ?_
        walk_at "go"
        have big : (1000001 : Nat) ≤ sizeLine := by decide
        refine app_ok (e8 _ _ hms) (by rw [List.length_map]; omega) ?_
        walk_at "go"
        have hpl5 : H5 pl = none := hpl
        refine ⟨_, none, none, rfl, Ex.mut (e7.trans e8) hplH, Ex.mut (e57.trans e8) hpl5, ms ++ [m], by rw [upd_same, List.map_append] <;> rfl, by rw [List.length_append, hml] <;> rfl, fun k c hc => ?_⟩
        by_cases hk : k < ms.length
        · rw [List.getElem?_append_left hk] at hc
          exact hmp k c hc
        · rw [List.getElem?_append_right (by omega)] at hc
          have hk2 : k = i := by
            by_cases z : k - ms.length = 0
            · omega
            · rw [List.getElem?_eq_none (by simp; omega)] at hc
              cases hc
          subst hk2
          rw [show k - ms.length = 0 by omega] at hc
          have : m = c := Option.some.inj hc
          rw [← this]
          obtain ⟨t, htr, rfl⟩ := List.mem_map.mp hm1
          exact ⟨⟨t, htr, rfl⟩, fun u hu => hm2 _ (List.mem_map.mpr ⟨u, hu, rfl⟩)⟩
    rintro σ H7 ⟨x1, _, _, rfl, e7, e57, ms, hms, hml, hmp⟩
    have hpf7 := e57 _ _ (e5 _ _ hpf4)
    have hpfl : pl ≠ pf := fun z => by
      rw [z, e5 _ _ hpf4] at hpl
      cases hpl
    have hpf0 : H2 pf = none := hpf
    have e27 : Ex H2 H7 := ((e3.trans e4).trans e5).trans e57
    have e02 := e1.trans e2
    walk_at "go"
    refine i_ET (Evl.ex_t e7 ha) ?_
    refine forJ (drv_enumT (a := a) (xs := us)) (fun i σ H' => ∃ (x y z : Option V), σ = [some (.ref a), some (.int D), some (.ref pf), some (.ref pr), some (.ref pl), x1, y, z, x, none, none, none] ∧ Ex H2 H' ∧ H' pl = some (.lst (ms.map V.int)) ∧
      H' pf = some (.lst (((List.range i).filter (Ma.isFin ts)).map natV))) ?_ ?_ ?_ ?_
    · exact ⟨none, none, none, rfl, e27, hms, hpf7⟩
    · rintro i σ H' hi ⟨x, y, z, rfl, e, _⟩
      exact Evl.ex_t (e02.trans e) ha
    · rintro i x σ H8 H9 hi ⟨x2, y2, z2, rfl, e8, hpl8, hpf8⟩ e9 ⟨T', y, rfl, _, hT, hy⟩
      obtain ⟨t, hti, htt⟩ := pd_at hp hy
      have okt := ok t (List.mem_of_getElem? hti)
      have htm := List.mem_of_getElem? hti
      have hits : i < ts.length := by omega
      have hgi : ts.getD i Ma.dT = t := getD_of hti
      have hpl9 := e9 _ _ hpl8
      have hpf9 := e9 _ _ hpf8
      have e29 := e8.trans e9
      refine g_gtup (.of hT) rfl ?_
      walk_at "go"
      refine i_R2 (by omega) ?_
      refine lcMap (drv_rng (lo := 1) (n := 96)) (fun _ _ => trivial) (by omega) (fun k => .int (Ma.dayP t (1 + (k : Nat)))) ?_ ?_
      · rintro k x H10 H11 Y hk e10 _ ⟨rfl, rfl⟩ hY
        refine ⟨rfl, ?_⟩
        walk_at "go"
        exact ⟨y, t, _, rfl, htt.ex ((e02.trans e29).trans e10), okt, by omega, by omega, hY⟩
      intro pc H10 hpc e10 hpc2
      have hpc3 : H10 pc = some (.lst (((List.range 96).map fun (k : Nat) => Ma.dayP t (1 + (k : Nat))).map V.int)) := by rw [hpc2, List.map_map] <;> rfl
      have hcl : ((List.range 96).map fun (k : Nat) => Ma.dayP t (1 + (k : Nat))).length = 96 := by rw [List.length_map, List.length_range]
      have hcg : ∀ k : Nat, k < 96 → ((List.range 96).map fun (k : Nat) => Ma.dayP t (1 + (k : Nat)))[k]? = some (Ma.dayP t (1 + (k : Int))) := fun k hk => by
        rw [List.getElem?_map, List.getElem?_range hk] <;> rfl
      generalize ((List.range 96).map fun (k : Nat) => Ma.dayP t (1 + (k : Nat))) = cs at hpc3 hcl hcg
      have hpl10 := e10 _ _ hpl9
      have hpf10 := e10 _ _ hpf9
      have hfin : Ma.isFin ts i = true ↔ Ma.dayP t 96 = D ∧ ∃ k : Nat, k < 96 ∧ cs[k]? = ms[k]? := by
        rw [Ma.isFin_iff]
        unfold Ma.Fin
        rw [hgi]
        constructor
        · rintro ⟨hd, L, l0, l1, hL⟩
          have hD : Ma.dayP t 96 = D := Int.le_antisymm (hDe ▸ hd tD htD) (hDmin t htm)
          refine ⟨hD, (L - 1).toNat, by omega, ?_⟩
          obtain ⟨m, hm⟩ : ∃ m, ms[(L - 1).toNat]? = some m := ⟨_, List.getElem?_eq_getElem (by omega)⟩
          obtain ⟨⟨u, hu, rfl⟩, hmin⟩ := hmp _ _ hm
          rw [hm, hcg _ (by omega)]
          have a1 := hmin t ((hrow t).mpr ⟨htm, hD⟩)
          have hu2 := (hrow u).mp hu
          have a2 := hL u hu2.1 (by rw [hu2.2, hD])
          rw [show (1 + ((L - 1).toNat : Int)) = L by omega] at a1 ⊢
          rw [Int.le_antisymm a2 a1]
        · rintro ⟨hD, k, hk, hkk⟩
          refine ⟨fun u hu => by rw [hD]; exact hDmin u hu, 1 + (k : Int), by omega, by omega, fun u hu hue => ?_⟩
          rw [hcg k hk] at hkk
          exact (hmp k _ hkk.symm).2 u ((hrow u).mpr ⟨hu, by rw [hue, hD]⟩)
      have e210 := e29.trans e10
      have more : ∀ b, b = Ma.isFin ts i → b = true → Ma.isFin ts i = true := fun b h1 h2 => by rw [← h1, h2]
      walk_at "gs"
      refine g_ixL (.of hpc3) (atI_back (k := 1) (by decide) (by rw [List.length_map, hcl, List.getElem?_map, hcg 95 (by decide)] <;> rfl) (by rw [List.length_map, hcl]; decide)) ?_
      walk_at "go"
      rw [show (1 + ((95 : Nat) : Int)) = 96 from rfl]
      have no : ∀ H', Ex H2 H' → H' pl = some (.lst (ms.map V.int)) → H' pf = some (.lst (((List.range i).filter (Ma.isFin ts)).map natV)) → ¬ (Ma.isFin ts i = true) →
          Ex H2 H' ∧ H' pl = some (.lst (ms.map V.int)) ∧ H' pf = some (.lst (((List.range (i + 1)).filter (Ma.isFin ts)).map natV)) := fun H' a1 a2 a3 a4 => by
        refine ⟨a1, a2, ?_⟩
        rw [List.range_succ, List.filter_append, List.filter_cons_of_neg a4, List.filter_nil, List.append_nil]
        exact a3
      refine b_dec (fun c => ?_) (fun c => ?_)
      · walk_at "go"
        refine i_ZL (.of hpc3) (.of hpl10) ?_
        refine lcMap (drv_zipL (a := pc) (b := pl) (xs := cs.map V.int) (ys := ms.map V.int) (n := 96) (by rw [List.length_map, List.length_map, hcl, hml] <;> rfl)) (fun H11 e => ⟨.of (e _ _ hpc3), .of (e _ _ hpl10)⟩) (by omega) (fun k => .bl (decide (cs[k]? = ms[k]?))) ?_ ?_
        · rintro k x H11 H12 Y hk e11 e12 ⟨T2, v1, v2, rfl, _, hT2, h1, h2⟩ hY
          obtain ⟨n1, h1', rfl⟩ := map_at h1
          obtain ⟨n2, h2', rfl⟩ := map_at h2
          refine g_gtup (.of hT2) rfl ?_
          walk_at "go"
          refine ⟨rfl, ?_⟩
          walk_at "go"
          have := hY _ (Ex.refl _)
          have hd : decide (cs[k]? = ms[k]?) = decide (n1 = n2) := by
            rw [Bool.eq_iff_iff, decide_eq_true_iff, decide_eq_true_iff, h1', h2', Option.some.injEq]
          rw [hd] at this
          exact this
        intro pz H11 hpz e11 hpz2
        walk_at "go"
        refine g_any (bs := (List.range 96).map fun k => decide (cs[k]? = ms[k]?)) (.of (by rw [hpz2, List.map_map] <;> rfl)) ?_
        walk_at "go"
        have hany : ((List.range 96).map fun k => decide (cs[k]? = ms[k]?)).any id = true ↔ ∃ k : Nat, k < 96 ∧ cs[k]? = ms[k]? := by
          rw [List.any_map, List.any_eq_true]
          constructor
          · rintro ⟨k, hk, h⟩
            exact ⟨k, List.mem_range.mp hk, of_decide_eq_true h⟩
          · rintro ⟨k, hk, h⟩
            exact ⟨k, List.mem_range.mpr hk, decide_eq_true h⟩
        refine b_bool (fun hb => ?_) (fun hb => ?_)
        · walk_at "go"
          refine ⟨tyL (.of (e11 _ _ hpf10)), ?_⟩
          walk_at "go"
          have big : (1000001 : Nat) ≤ sizeLine := by decide
          refine app_ok (e11 _ _ hpf10) (by rw [List.length_map]; have := List.length_filter_le (Ma.isFin ts) (List.range i); rw [List.length_range] at this; omega) ?_
          walk_at "go"
          refine ⟨_, _, _, rfl, Ex.mut (e210.trans e11) hpf0, ?_, ?_⟩
          · rw [upd_ne hpfl]
            exact e11 _ _ hpl10
          · rw [upd_same, List.range_succ, List.filter_append, List.filter_cons_of_pos (hfin.mpr ⟨c, hany.mp hb⟩), List.map_append] <;> rfl
        · walk_at "go"
          exact ⟨_, _, _, rfl, no _ (e210.trans e11) (e11 _ _ hpl10) (e11 _ _ hpf10) fun z => by rw [hany.mpr (hfin.mp z).2] at hb; cases hb⟩
      · walk_at "go"
        exact ⟨_, _, _, rfl, no _ e210 hpl10 hpf10 fun z => c (hfin.mp z).1⟩
    · rintro σ H8 ⟨x, y, z, rfl, e8, _, hpf8⟩
      rw [hl] at hpf8
      walk_at "go"
      exact q pf H8 (e02.trans e8) hpfH hpf8
end
end St
namespace St
open PySem PySem.Spec PyProof.Rows L2 Sy
open Evl (Ex)
def sp_is_best_somewhere (K : PySem.W.Frag) : Sp := fun vs H Q _ => ∃ (v : V) (ts : List Tar) (i : Nat) (L : Int), vs = [v, .int (i : Int), .int L] ∧ TarsAt K H v ts ∧ (∀ t ∈ ts, Ma.Ok t) ∧ ts.length ≤ 100 ∧ i < ts.length ∧ 1 ≤ L ∧ L ≤ 96 ∧
  ∀ b H', Ex H H' → (b = true ↔ Ma.Best ts i L) → Q (.bl b) H'
end St
namespace St
open PySem PySem.Spec PyProof.Rows L2
open Evl (Ex)
open Sy
section
variable {P : Program} {w : World} {K : PySem.W.Frag} {mg : Str → Option Value} {base : Heap}
theorem ok_is_best_somewhere (T : Txt K mg) : FnOk P w K mg base CX0 2 (He.ga K "is_best_somewhere") (Sy.fdOf K (He.ga K "is_best_somewhere")) ["tariffs", "index", "length"] (sp_is_best_somewhere K) := by
  have G_day_price : FnOk P w K mg base CX0 1 (He.ga K "day_price") (Sy.fdOf K (He.ga K "day_price")) ["tariff", "length"] (sp_day_price K) := ok_day_price T
  refine T.f_is_best_somewhere.ok sc_is_best_somewhere (fun vs H Q E h => ?_) (fun cdv A outer s H vs Q E hr h => ?_)
  · skip
    obtain ⟨v, ts, i, L, rfl, _⟩ := h
    rfl
  · refine ⟨_, PSs.nox ((pss_cons (ps_asg (pe_tup (pa_cons pe_int (pa_cons pe_non pa_nil))) (show PG _ _ (gTup K 2 (gCons (gName 3) (gCons (gName 4) gNil))) from pg_tup rfl (pgs_cons (pg_name (i := 3) sc_is_best_somewhere.nd rfl (Or.inl rfl)) (pgs_cons (pg_name (i := 4) sc_is_best_somewhere.nd rfl (Or.inl rfl)) pgs_nil))))
        (pss_cons (ps_par (i := 5) (j := 6) rfl sc_is_best_somewhere.nd rfl rfl (by decide) rfl rfl (pa_cons (pe_call G_day_price (hr.mono (by decide)) rfl T.g_day_price T.f_day_price.kp (b_day_price T) .nil pass0 (pa_cons (pe_ix (show IxR _ (rIxT K) from ix_tup) (pv 0) (pv 1) (fun _ _ => rfl)) (pa_cons (pe_glob (v := .int 96) rfl T.i_DAY.choose_spec ⟨_, rfl⟩) pa_nil))) (pa_cons (pe_call G_day_price (hr.mono (by decide)) rfl T.g_day_price T.f_day_price.kp (b_day_price T) .nil pass0 (pa_cons (pe_ix (show IxR _ (rIxT K) from ix_tup) (pv 0) (pv 1) (fun _ _ => rfl)) (pa_cons (pv 2) pa_nil))) pa_nil)) (by rfl))
        (pss_cons (ps_for PassesOwn.never rfl (show PI _ _ _ (iTup K _) from pi_tup (pv 0)) (pg_name (i := 7) sc_is_best_somewhere.nd rfl (Or.inl rfl)) (pss_cons (ps_par (i := 8) (j := 9) rfl sc_is_best_somewhere.nd rfl rfl (by decide) rfl rfl (pa_cons (pe_op op_sub (pv 5) (pe_call G_day_price (hr.mono (by decide)) rfl T.g_day_price T.f_day_price.kp (b_day_price T) .nil pass0 (pa_cons (pv 7) (pa_cons (pe_glob (v := .int 96) rfl T.i_DAY.choose_spec ⟨_, rfl⟩) pa_nil)))) (pa_cons (pe_op op_sub (pe_call G_day_price (hr.mono (by decide)) rfl T.g_day_price T.f_day_price.kp (b_day_price T) .nil pass0 (pa_cons (pv 7) (pa_cons (pv 2) pa_nil))) (pv 6)) pa_nil)) (by rfl))
        (pss_cons (ps_if (PW.pt (pw_and (pt_cmpR op_eq (pv 8) pe_int (nomark _)) (pw_and1 (pt_cmpR op_lt (pv 9) pe_int (nomark _))))) (pss_one (ps_ret pe_bl)) pss_nil)
        (pss_cons (ps_if (pt_cmpR op_gt (pv 8) pe_int (nomark _)) (pss_one (ps_set (i := 4) sc_is_best_somewhere.nd rfl (Or.inl rfl) (pe_ifExp (pt_cmpR o_isN (pv 4) pe_non (nomark _)) (pe_op op_fdiv (pv 9) (pv 8)) (pe_callB (c_min2 rfl) (by rfl) T.n_min (by decide +kernel) (pa_cons (pv 4) (pa_cons (pe_op op_fdiv (pv 9) (pv 8)) pa_nil)))))) pss_nil)
        (pss_one (ps_if (pt_cmpR op_lt (pv 8) pe_int (nomark _)) (pss_one (ps_set (i := 3) sc_is_best_somewhere.nd rfl (Or.inl rfl) (pe_callB (c_max2 rfl) (by rfl) T.n_max (by decide +kernel) (pa_cons (pv 3) (pa_cons (pe_op op_sub pe_int (pe_op op_fdiv (pv 9) (pe_op op_sub pe_int (pv 8)))) pa_nil))))) pss_nil))))))
        (pss_one (ps_ret (pe_or (pe_cmpR o_isN (pv 4) pe_non (nomark _)) (pe_one (pe_cmpR op_le (pv 3) (pv 4) (nomark _)))))))))), ?_⟩
    obtain ⟨v, ts, j, L, rfl, ht, ok, hn, hj, l0, l1, q⟩ := h
    obtain ⟨a, us, rfl, ha, hp⟩ := id ht
    have hl : us.length = ts.length := pd_len hp
    refine st_eq (σ' := [some (.ref a), some (.int (j : Int)), some (.int L), none, none, none, none, none, none, none]) rfl ?_
    walk_at "go"
    refine new_tup rfl fun p0 H0 _ e0 hp0 => ?_
    refine g_gtup (.of hp0) rfl ?_
    walk_at "go"
    obtain ⟨tj, htj⟩ : ∃ t, ts[j]? = some t := ⟨_, List.getElem?_eq_getElem hj⟩
    obtain ⟨xj, hxj, htx⟩ := pd_at2 hp htj
    have okj := ok tj (List.mem_of_getElem? htj)
    have hgj : ts.getD j Ma.dT = tj := getD_of htj
    refine g_ixT (Evl.ex_t e0 ha) (atI_nat hxj) ?_
    walk_at "go"
    refine ⟨xj, tj, 96, rfl, htx.ex e0, okj, by decide, by decide, fun H1 e1 => ?_⟩
    walk_at "go"
    refine g_ixT (Evl.ex_t e1 (Evl.ex_t e0 ha)) (atI_nat hxj) ?_
    walk_at "go"
    refine ⟨xj, tj, L, rfl, (htx.ex e0).ex e1, okj, by omega, l1, fun H2 e2 => ?_⟩
    walk_at "go"
    have E2 := (e0.trans e1).trans e2
    refine i_T (Evl.ex_t E2 ha) ?_
    refine forJ (drv_tup (a := a) (xs := us)) (fun i σ H' => ∃ (low : Int) (high : Option Int) (x y z : Option V), σ = [some (.ref a), some (.int (j : Int)), some (.int L), some (.int low), some (ov high), some (.int (Ma.dayP tj 96)), some (.int (Ma.dayP tj L)), x, y, z] ∧ Ex H H' ∧
        Ma.Bnd (ts.take i) (Ma.dayP tj 96) (Ma.dayP tj L) L low high) ?_ ?_ ?_ ?_
    · exact ⟨0, none, none, none, none, rfl, E2, Ma.Bnd.nil _ _ _⟩
    · rintro i σ H' hi ⟨low, high, x, y, z, rfl, e, _⟩
      exact Evl.ex_t e ha
    · rintro i x σ H3 H4 hi ⟨low, high, x1, y1, z1, rfl, e3, hb⟩ _ ⟨rfl, hx⟩
      obtain ⟨t, hti, htt⟩ := pd_at hp hx
      have okt := ok t (List.mem_of_getElem? hti)
      have htk : ts.take (i + 1) = ts.take i ++ [t] := by rw [List.take_succ, hti] <;> rfl
      walk_at "go"
      refine ⟨x, t, 96, rfl, htt.ex e3, okt, by decide, by decide, fun H5 e5 => ?_⟩
      walk_at "go"
      refine ⟨x, t, L, rfl, (htt.ex e3).ex e5, okt, by omega, l1, fun H6 e6 => ?_⟩
      have E6 := (e3.trans e5).trans e6
      have bj := Ma.day_bd okj (L := 96) (by omega) (by omega)
      have bt := Ma.day_bd okt (L := 96) (by omega) (by omega)
      have cut : ∀ low' high', 0 ≤ low' → (∀ k, 0 ≤ k → (((low ≤ k ∧ ∀ h, high = some h → k ≤ h) ∧ k * Ma.dayP tj 96 + Ma.dayP tj L ≤ k * Ma.dayP t 96 + Ma.dayP t L) ↔ low' ≤ k ∧ ∀ h, high' = some h → k ≤ h)) →
          Ma.Bnd (ts.take (i + 1)) (Ma.dayP tj 96) (Ma.dayP tj L) L low' high' := fun low' high' h0 h => by rw [htk]; exact hb.snoc t h0 h
      rcases Int.lt_trichotomy (Ma.dayP tj 96 - Ma.dayP t 96) 0 with c | c | c
      · have dn := fun k => Ma.days_neg (k := k) (p := Ma.dayP tj L) (q := Ma.dayP t L) c
        walk_at "go"
        refine b_false (by omega) ?_
        walk_at "go"
        refine b_false (by omega) ?_
        walk_at "go"
        refine b_true (by omega) ?_
        walk_at "go"
        refine g_I ?_ ⟨by omega, by omega⟩
        walk_at "go"
        refine ⟨_, high, _, _, _, rfl, E6, cut _ _ (Int.le_trans hb.1 (Int.le_max_left _ _)) fun k k0 => ?_⟩
        rw [dn k]
        generalize hz : 0 - (Ma.dayP t L - Ma.dayP tj L) / (0 - (Ma.dayP tj 96 - Ma.dayP t 96)) = z
        constructor
        · rintro ⟨⟨a, b⟩, g⟩
          exact ⟨by omega, b⟩
        · rintro ⟨a, b⟩
          exact ⟨⟨by omega, b⟩, by omega⟩
      · have dz := fun k => Ma.days_zero (k := k) (p := Ma.dayP tj L) (q := Ma.dayP t L) c
        walk_at "go"
        refine b_true c ?_
        walk_at "go"
        refine b_dec (fun g => ?_) (fun g => ?_)
        · walk_at "go"
          refine q false H6 E6 ⟨fun e => Bool.noConfusion e, fun hB => ?_⟩
          obtain ⟨k, k0, hk⟩ := hB
          have hk' := hk t (List.mem_of_getElem? hti)
          rw [hgj] at hk'
          have := (dz k).mp hk'
          omega
        · walk_at "go"
          refine b_false (by omega) ?_
          walk_at "go"
          refine b_false (by omega) ?_
          walk_at "go"
          refine ⟨low, high, _, _, _, rfl, E6, cut _ _ hb.1 fun k k0 => ?_⟩
          rw [dz k]
          exact ⟨fun h => h.1, fun h => ⟨h, by omega⟩⟩
      · have dp := fun k => Ma.days_pos (k := k) (p := Ma.dayP tj L) (q := Ma.dayP t L) c
        walk_at "go"
        refine b_false (by omega) ?_
        walk_at "go"
        refine b_true (by omega) ?_
        walk_at "go"
        cases high with
        | none =>
          refine b_true rfl ?_
          walk_at "go"
          refine g_I ?_ ⟨by omega, by omega⟩
          walk_at "go"
          refine b_false (by omega) ?_
          walk_at "go"
          refine ⟨low, some _, _, _, _, rfl, E6, cut _ _ hb.1 fun k k0 => ?_⟩
          rw [dp k]
          exact ⟨fun h => ⟨h.1.1, fun h' e => by cases e; exact h.2⟩, fun h => ⟨⟨h.1, fun _ e => by cases e⟩, h.2 _ rfl⟩⟩
        | some hi' =>
          refine b_false (by simp) ?_
          walk_at "go"
          refine g_I ?_ ⟨by omega, by omega⟩
          walk_at "go"
          rw [ov_some]
          walk_at "go"
          refine b_false (by omega) ?_
          walk_at "go"
          refine ⟨low, some _, _, _, _, rfl, E6, cut _ _ hb.1 fun k k0 => ?_⟩
          rw [dp k]
          generalize (Ma.dayP t L - Ma.dayP tj L) / (Ma.dayP tj 96 - Ma.dayP t 96) = z
          constructor
          · rintro ⟨⟨a, b⟩, g⟩
            have b' := b _ rfl
            refine ⟨a, fun h e => ?_⟩
            cases e
            omega
          · rintro ⟨a, b⟩
            have b' := b _ rfl
            refine ⟨⟨a, fun h e => ?_⟩, by omega⟩
            cases e
            omega
    · rintro σ H3 ⟨low, high, x, y, z, rfl, e3, hb⟩
      rw [hl, List.take_length] at hb
      walk_at "go"
      rw [← hgj] at hb
      cases high with
      | none =>
        refine b_true rfl ?_
        exact q true H3 e3 ⟨fun _ => hb.none, fun _ => rfl⟩
      | some h =>
        refine b_false (by simp) ?_
        walk_at "go"
        rw [ov_some]
        walk_at "go"
        refine q _ H3 e3 ?_
        rw [decide_eq_true_iff]
        exact hb.some.symm
end
end St
namespace St
open PySem PySem.Spec PyProof.Rows L2 Sy
open Evl (Ex)
def sp_never_cheapest (K : PySem.W.Frag) : Sp := fun vs H Q _ => ∃ (v : V) (ts : List Tar), vs = [v] ∧ TarsAt K H v ts ∧ (∀ t ∈ ts, Ma.Ok t) ∧ 1 ≤ ts.length ∧ ts.length ≤ 8 ∧
  ∀ p H', Ex H H' → H p = none → H' p = some (.lst ((Ma.neverL ts).map natV)) → Q (.ref p) H'
end St
namespace St
open PySem PySem.Spec PyProof.Rows L2
open Evl (Ex)
open Sy
section
variable {P : Program} {w : World} {K : PySem.W.Frag} {mg : Str → Option Value} {base : Heap}
theorem ok_never_cheapest (T : Txt K mg) : FnOk P w K mg base CX0 6 (He.ga K "never_cheapest") (Sy.fdOf K (He.ga K "never_cheapest")) ["tariffs"] (sp_never_cheapest K) := by
  have G_is_best_somewhere : FnOk P w K mg base CX0 2 (He.ga K "is_best_somewhere") (Sy.fdOf K (He.ga K "is_best_somewhere")) ["tariffs", "index", "length"] (sp_is_best_somewhere K) := ok_is_best_somewhere T
  have G_need_tariffs : FnOk P w K mg base CX0 5 (He.ga K "need_tariffs") (Sy.fdOf K (He.ga K "need_tariffs")) ["value"] (sp_need_tariffs K) := ok_need_tariffs T
  refine T.f_never_cheapest.ok sc_never_cheapest (fun vs H Q E h => ?_) (fun cdv A outer s H vs Q E hr h => ?_)
  · skip
    obtain ⟨v, ts, rfl, _⟩ := h
    rfl
  · refine ⟨_, PSs.nox ((pss_cons (ps_expr (pe_call G_need_tariffs (hr.mono (by decide)) rfl T.g_need_tariffs T.f_need_tariffs.kp (b_need_tariffs T) .nil pass0 (pa_cons (pv 0) pa_nil)))
        (pss_cons (ps_set (i := 1) sc_never_cheapest.nd rfl (Or.inl rfl) (pe_lst pa_nil))
        (pss_cons (ps_for PassesOwn.never rfl (pi_range1 (by rfl) T.n_range (pa_cons (pe_callB (show CallR _ _ (rLenQ K) from c_len) (by rfl) T.n_len (by decide +kernel) (pa_cons (pv 0) pa_nil)) pa_nil)) (pg_name (i := 2) sc_never_cheapest.nd rfl (Or.inr rfl)) (pss_one (ps_if (pt_not (pt_val (pe_callB (show CallR _ _ (rAny K) from cr_any rfl) (by rfl) T.n_any (by decide +kernel) (pa_cons (pe_lc (own := [("length", 3)]) rfl sc_never_cheapest.nd (pi_range2 (by rfl) T.n_range (pa_cons pe_int (pa_cons (pe_op op_add (pe_glob (v := .int 96) rfl T.i_DAY.choose_spec ⟨_, rfl⟩) pe_int) pa_nil))) (blkOk_by (own := [("length", 3)]) (N := N_never_cheapest) (sc := defScope s_never_cheapest) (by decide +kernel)) (fun _ _ _ _ _ => (pg_name (i := 3) sc_never_cheapest.nd rfl (Or.inl rfl))) (fun _ _ _ _ _ => pts_nil) (fun _ _ _ _ _ => (pe_call G_is_best_somewhere (hr.mono (by decide)) rfl T.g_is_best_somewhere T.f_is_best_somewhere.kp (b_is_best_somewhere T) .nil pass0 (pa_cons (pv 0) (pa_cons (pv 2) (pa_cons (pv 3) pa_nil)))))) pa_nil)))) (pss_one (ps_expr (show PE _ _ (tBM K "list" rAppend _ _) from pe_bm PySem.F.plainAttrs_list PySem.F.slot_list_append PySem.F.type_list_append mt_append (pv 1) (pa_cons (pv 2) pa_nil)))) pss_nil)))
        (pss_one (ps_ret (pv 1))))))), ?_⟩
    obtain ⟨v, ts, rfl, ht, ok, h1, h8, q⟩ := h
    obtain ⟨a, us, rfl, ha, hp⟩ := id ht
    have hl : us.length = ts.length := pd_len hp
    refine st_eq (σ' := [some (.ref a), none, none, none]) rfl ?_
    walk_at "go"
    refine ⟨_, ts, rfl, ht, ok, h1, h8, fun H1 e1 => ?_⟩
    walk_at "go"
    refine new_lst rfl fun p0 H2 hp0 e2 hp2 => ?_
    walk_at "go"
    refine g_lenT (Evl.ex_t (e1.trans e2) ha) ?_
    walk_at "go"
    refine i_R1 (by omega) ?_
    have hpH : H p0 = none := Evl.fresh_back e1 hp0
    refine forJ (drv_rng (lo := 0) (n := us.length)) (fun i σ H' => ∃ (x y : Option V), σ = [some (.ref a), some (.ref p0), x, y] ∧ Ex H H' ∧ H' p0 = some (.lst (((List.range i).filter (Ma.isNever ts)).map natV))) ?_ (fun _ _ _ _ _ => trivial) ?_ ?_
    · exact ⟨none, none, rfl, e1.trans e2, hp2⟩
    · rintro i x σ H3 H4 hi ⟨x1, y1, rfl, e3, hl3⟩ _ ⟨rfl, rfl⟩
      have hits : i < ts.length := by omega
      have ez : (0 : Int) + (i : Int) = (i : Int) := Int.zero_add _
      walk_at "go"
      refine i_R2 (by omega) ?_
      refine lcJ (drv_rng (lo := 1) (n := 96)) (fun _ _ => trivial) (by omega) (fun m acc => ∃ bs : List Bool, acc = bs.map V.bl ∧ bs.length = m ∧ ∀ (k : Nat) b, bs[k]? = some b → (b = true ↔ Ma.Best ts i (1 + (k : Int)))) ⟨[], rfl, rfl, fun k b hb => by simp at hb⟩ ?_ ?_
      · rintro m x acc H5 H6 Y Z hm ⟨bs, rfl, hbl, hbs⟩ e5 _ ⟨rfl, rfl⟩ hY hZ
        walk_at "go"
        refine ⟨rfl, ?_⟩
        walk_at "go"
        refine ⟨_, ts, i, _, by rw [ez] <;> rfl, ht.ex (e3.trans e5), ok, by omega, hits, by omega, by omega, fun b H7 e7 hb => ?_⟩
        walk_at "go"
        refine hY _ H7 e7 ⟨bs ++ [b], by rw [List.map_append] <;> rfl, by rw [List.length_append, hbl] <;> rfl, fun k c hc => ?_⟩
        by_cases hk : k < bs.length
        · rw [List.getElem?_append_left hk] at hc
          exact hbs k c hc
        · rw [List.getElem?_append_right (by omega)] at hc
          have hk2 : k = m := by
            by_cases z : k - bs.length = 0
            · omega
            · rw [List.getElem?_eq_none (by simp; omega)] at hc
              cases hc
          subst hk2
          rw [show k - bs.length = 0 by omega] at hc
          have : b = c := Option.some.inj hc
          rw [← this]
          exact hb
      · rintro p acc H5 hp5 e5 hp52 hacc ⟨bs, rfl, hbl, hbs⟩
        walk_at "go"
        refine g_any (bs := bs) (.of hp52) ?_
        walk_at "go"
        have hne : Ma.isNever ts i = true ↔ bs.any id = false := by
          rw [Ma.isNever_iff, List.any_eq_false]
          constructor
          · intro h b hb ht
            obtain ⟨k, hk⟩ := List.getElem?_of_mem hb
            have hk2 : k < bs.length := (List.getElem?_eq_some_iff.mp hk).1
            exact h (1 + (k : Int)) (by omega) (by omega) ((hbs k b hk).mp ht)
          · intro h L l0 l1 hB
            obtain ⟨b, hb⟩ : ∃ b, bs[(L - 1).toNat]? = some b := ⟨_, List.getElem?_eq_getElem (by omega)⟩
            refine h b (List.mem_of_getElem? hb) ((hbs _ b hb).mpr ?_)
            rw [show (1 + ((L - 1).toNat : Int)) = L by omega]
            exact hB
        have hl5 := e5 _ _ hl3
        cases hc : bs.any id with
        | true =>
          walk_at "go"
          refine ⟨_, _, rfl, e3.trans e5, ?_⟩
          rw [List.range_succ, List.filter_append, List.filter_cons_of_neg (by rw [hne, hc]; exact fun z => Bool.noConfusion z), List.filter_nil, List.append_nil]
          exact hl5
        | false =>
          walk_at "go"
          refine ⟨tyL (.of hl5), ?_⟩
          walk_at "go"
          refine app_ok hl5 (by rw [List.length_map]; have := List.length_filter_le (Ma.isNever ts) (List.range i); rw [List.length_range] at this; have big : (1000001 : Nat) ≤ sizeLine := by decide
                                omega) ?_
          walk_at "go"
          refine ⟨_, _, rfl, Ex.mut (e3.trans e5) hpH, ?_⟩
          rw [upd_same, List.range_succ, List.filter_append, List.filter_cons_of_pos (hne.mpr hc), List.map_append, ez] <;> rfl
    · rintro σ H3 ⟨x, y, rfl, e3, hl3⟩
      rw [hl] at hl3
      walk_at "go"
      exact q p0 H3 e3 hpH hl3
end
end St
namespace St
open PySem PySem.Spec PyProof.Rows L2 Sy
open Evl (Ex)
def sp_excesses (K : PySem.W.Frag) : Sp := fun vs H Q _ => ∃ (v v2 : V) (t t2 : Tar), vs = [v, v2] ∧ TarAt K H v t ∧ TarAt K H v2 t2 ∧ Ma.Ok t ∧ Ma.Ok t2 ∧
  ∀ p H', Ex H H' → H p = none → H' p = some (.lst ((List.range 96).map fun (i : Nat) => .int (Ma.dayP t (1 + (i : Nat)) - Ma.dayP t2 (1 + (i : Nat))))) → Q (.ref p) H'
end St
namespace St
open PySem PySem.Spec PyProof.Rows L2
open Evl (Ex)
open Sy
section
variable {P : Program} {w : World} {K : PySem.W.Frag} {mg : Str → Option Value} {base : Heap}
theorem ok_excesses (T : Txt K mg) : FnOk P w K mg base CX0 2 (He.ga K "excesses") (Sy.fdOf K (He.ga K "excesses")) ["first", "second"] (sp_excesses K) := by
  have G_day_price : FnOk P w K mg base CX0 1 (He.ga K "day_price") (Sy.fdOf K (He.ga K "day_price")) ["tariff", "length"] (sp_day_price K) := ok_day_price T
  refine T.f_excesses.ok sc_excesses (fun vs H Q E h => ?_) (fun cdv A outer s H vs Q E hr h => ?_)
  · skip
    obtain ⟨v, v2, t, t2, rfl, _⟩ := h
    rfl
  · refine ⟨_, PSs.nox ((pss_one (ps_ret (pe_lc (own := [("length", 2)]) rfl sc_excesses.nd (pi_range2 (by rfl) T.n_range (pa_cons pe_int (pa_cons (pe_op op_add (pe_glob (v := .int 96) rfl T.i_DAY.choose_spec ⟨_, rfl⟩) pe_int) pa_nil))) (blkOk_by (own := [("length", 2)]) (N := N_excesses) (sc := defScope s_excesses) (by decide +kernel)) (fun _ _ _ _ _ => (pg_name (i := 2) sc_excesses.nd rfl (Or.inl rfl))) (fun _ _ _ _ _ => pts_nil) (fun _ _ _ _ _ => (pe_op op_sub (pe_call G_day_price (hr.mono (by decide)) rfl T.g_day_price T.f_day_price.kp (b_day_price T) .nil pass0 (pa_cons (pv 0) (pa_cons (pv 2) pa_nil))) (pe_call G_day_price (hr.mono (by decide)) rfl T.g_day_price T.f_day_price.kp (b_day_price T) .nil pass0 (pa_cons (pv 1) (pa_cons (pv 2) pa_nil))))))))), ?_⟩
    obtain ⟨v, v2, t, t2, rfl, ht, ht2, ok, ok2, q⟩ := h
    refine st_eq (σ' := [some v, some v2, none]) rfl ?_
    walk_at "go"
    refine i_R2 (by omega) ?_
    refine lcMap (drv_rng (lo := 1) (n := 96)) (fun _ _ => trivial) (by omega) (fun i => .int (Ma.dayP t (1 + (i : Nat)) - Ma.dayP t2 (1 + (i : Nat)))) ?_ ?_
    · rintro i x H2 H3 Y hi e2 _ ⟨rfl, rfl⟩ hY
      walk_at "go"
      refine ⟨rfl, ?_⟩
      walk_at "go"
      refine ⟨v, t, _, rfl, ht.ex e2, ok, by omega, by omega, fun H4 e4 => ?_⟩
      walk_at "go"
      refine ⟨v2, t2, _, rfl, (ht2.ex e2).ex e4, ok2, by omega, by omega, fun H5 e5 => ?_⟩
      walk_at "go"
      exact hY H5 (e4.trans e5)
    intro p H2 hp0 e2 hp2
    exact q p H2 e2 hp0 hp2
end
end St
namespace St
open PySem PySem.Spec PyProof.Rows L2 Sy
open Evl (Ex)
def sp_need_tariff (K : PySem.W.Frag) : Sp := fun vs H Q _ => ∃ (v : V) (t : Tar), vs = [v] ∧ TarAt K H v t ∧ Ma.Ok t ∧ ∀ H', Ex H H' → Q .non H'
end St
namespace St
open PySem PySem.Spec PyProof.Rows L2
open Evl (Ex)
open Sy
section
variable {P : Program} {w : World} {K : PySem.W.Frag} {mg : Str → Option Value} {base : Heap}
theorem ok_need_tariff (T : Txt K mg) : FnOk P w K mg base CX0 5 (He.ga K "need_tariff") (Sy.fdOf K (He.ga K "need_tariff")) ["value"] (sp_need_tariff K) := by
  have G_is_tariff : FnOk P w K mg base CX0 4 (He.ga K "is_tariff") (Sy.fdOf K (He.ga K "is_tariff")) ["value"] (sp_is_tariff K) := ok_is_tariff T
  refine T.f_need_tariff.ok sc_need_tariff (fun vs H Q E h => ?_) (fun cdv A outer s H vs Q E hr h => ?_)
  · skip
    obtain ⟨v, p, rfl, _⟩ := h
    rfl
  · refine ⟨_, PSs.nox ((pss_one (ps_if (pt_not (pt_val (pe_call G_is_tariff (hr.mono (by decide)) rfl T.g_is_tariff T.f_is_tariff.kp (b_is_tariff T) .nil pass0 (pa_cons (pv 0) pa_nil)))) (pss_one ps_never) pss_nil))), ?_⟩
    obtain ⟨v, t, rfl, ht, ok, q⟩ := h
    refine st_eq (σ' := [some v]) rfl ?_
    walk_at "go"
    refine ⟨_, _, rfl, ht, Ma.Ok.len ok, fun H1 e1 => ?_⟩
    rw [Ma.ok_iff.mpr ok]
    walk_at "go"
    exact q H1 e1
end
end St
namespace St
open PySem PySem.Spec PyProof.Rows L2 Sy
open Evl (Ex)
def sp_never_dearer (K : PySem.W.Frag) : Sp := fun vs H Q _ => ∃ (v v2 : V) (t t2 : Tar), vs = [v, v2] ∧ TarAt K H v t ∧ TarAt K H v2 t2 ∧ Ma.Ok t ∧ Ma.Ok t2 ∧
  ∀ b H', Ex H H' → (b = true ↔ ∀ L, 1 ≤ L → L ≤ 96 → Ma.dayP t L ≤ Ma.dayP t2 L) → Q (.bl b) H'
end St
namespace St
open PySem PySem.Spec PyProof.Rows L2
open Evl (Ex)
open Sy
section
variable {P : Program} {w : World} {K : PySem.W.Frag} {mg : Str → Option Value} {base : Heap}
theorem ok_never_dearer (T : Txt K mg) : FnOk P w K mg base CX0 6 (He.ga K "never_dearer") (Sy.fdOf K (He.ga K "never_dearer")) ["first", "second"] (sp_never_dearer K) := by
  have G_excesses : FnOk P w K mg base CX0 2 (He.ga K "excesses") (Sy.fdOf K (He.ga K "excesses")) ["first", "second"] (sp_excesses K) := ok_excesses T
  have G_need_tariff : FnOk P w K mg base CX0 5 (He.ga K "need_tariff") (Sy.fdOf K (He.ga K "need_tariff")) ["value"] (sp_need_tariff K) := ok_need_tariff T
  refine T.f_never_dearer.ok sc_never_dearer (fun vs H Q E h => ?_) (fun cdv A outer s H vs Q E hr h => ?_)
  · skip
    obtain ⟨v, v2, t, t2, rfl, _⟩ := h
    rfl
  · refine ⟨_, PSs.nox ((pss_cons (ps_expr (pe_call G_need_tariff (hr.mono (by decide)) rfl T.g_need_tariff T.f_need_tariff.kp (b_need_tariff T) .nil pass0 (pa_cons (pv 0) pa_nil)))
        (pss_cons (ps_expr (pe_call G_need_tariff (hr.mono (by decide)) rfl T.g_need_tariff T.f_need_tariff.kp (b_need_tariff T) .nil pass0 (pa_cons (pv 1) pa_nil)))
        (pss_one (ps_ret (pe_cmpR op_le (pe_callB (show CallR _ _ (rMax K) from cr_max rfl) (by rfl) T.n_max (by decide +kernel) (pa_cons (pe_call G_excesses (hr.mono (by decide)) rfl T.g_excesses T.f_excesses.kp (b_excesses T) .nil pass0 (pa_cons (pv 0) (pa_cons (pv 1) pa_nil))) pa_nil)) pe_int (nomark _))))))), ?_⟩
    obtain ⟨v, v2, t, t2, rfl, ht, ht2, ok, ok2, q⟩ := h
    refine st_eq (σ' := [some v, some v2]) rfl ?_
    walk_at "go"
    refine ⟨_, t, rfl, ht, ok, fun H1 e1 => ?_⟩
    walk_at "go"
    refine ⟨_, t2, rfl, ht2.ex e1, ok2, fun H2 e2 => ?_⟩
    walk_at "go"
    refine ⟨_, _, t, t2, rfl, (ht.ex e1).ex e2, (ht2.ex e1).ex e2, ok, ok2, fun p H3 e3 hp0 hp => ?_⟩
    walk_at "go"
    have hq : H3 p = some (.lst (((List.range 96).map fun (i : Nat) => Ma.dayP t (1 + (i : Nat)) - Ma.dayP t2 (1 + (i : Nat))).map V.int)) := by
      rw [hp, List.map_map] <;> rfl
    refine g_max (.of hq) (by rw [List.length_map, List.length_range]; omega) fun m hm hm2 => ?_
    walk_at "go"
    refine q _ _ ((e1.trans e2).trans e3) ?_
    rw [decide_eq_true_iff]
    obtain ⟨i, _, rfl⟩ := List.mem_map.mp hm
    constructor
    · intro hle L l0 l1
      have h := hm2 _ (List.mem_map.mpr ⟨(L - 1).toNat, List.mem_range.mpr (by omega), rfl⟩)
      rw [show (1 + ((L - 1).toNat : Int)) = L by omega] at h
      omega
    · intro h
      have hi := List.mem_range.mp ‹i ∈ List.range 96›
      have := h (1 + (i : Int)) (by omega) (by omega)
      omega
end
end St
namespace St
open PySem PySem.Spec PyProof.Rows L2 Sy
open Evl (Ex)
def sp_price (K : PySem.W.Frag) : Sp := fun vs H Q _ => ∃ (v : V) (t : Tar) (L : Int), vs = [v, .int L] ∧ TarAt K H v t ∧ Ma.Ok t ∧ 0 ≤ L ∧ L ≤ 1000000000000000 ∧ ∀ H', Ex H H' → Q (.int (Ma.stayP t L)) H'
end St
namespace St
open PySem PySem.Spec PyProof.Rows L2
open Evl (Ex)
open Sy
section
variable {P : Program} {w : World} {K : PySem.W.Frag} {mg : Str → Option Value} {base : Heap}
theorem ok_price (T : Txt K mg) : FnOk P w K mg base CX0 6 (He.ga K "price") (Sy.fdOf K (He.ga K "price")) ["tariff", "length"] (sp_price K) := by
  have G_need_length : FnOk P w K mg base CX0 2 (He.ga K "need_length") (Sy.fdOf K (He.ga K "need_length")) ["value"] (sp_need_length K) := ok_need_length T
  have G_need_tariff : FnOk P w K mg base CX0 5 (He.ga K "need_tariff") (Sy.fdOf K (He.ga K "need_tariff")) ["value"] (sp_need_tariff K) := ok_need_tariff T
  have G_stay_price : FnOk P w K mg base CX0 2 (He.ga K "stay_price") (Sy.fdOf K (He.ga K "stay_price")) ["tariff", "length"] (sp_stay_price K) := ok_stay_price T
  refine T.f_price.ok sc_price (fun vs H Q E h => ?_) (fun cdv A outer s H vs Q E hr h => ?_)
  · skip
    obtain ⟨v, t, L, rfl, _⟩ := h
    rfl
  · refine ⟨_, PSs.nox ((pss_cons (ps_expr (pe_call G_need_tariff (hr.mono (by decide)) rfl T.g_need_tariff T.f_need_tariff.kp (b_need_tariff T) .nil pass0 (pa_cons (pv 0) pa_nil)))
        (pss_cons (ps_expr (pe_call G_need_length (hr.mono (by decide)) rfl T.g_need_length T.f_need_length.kp (b_need_length T) .nil pass0 (pa_cons (pv 1) pa_nil)))
        (pss_one (ps_ret (pe_call G_stay_price (hr.mono (by decide)) rfl T.g_stay_price T.f_stay_price.kp (b_stay_price T) .nil pass0 (pa_cons (pv 0) (pa_cons (pv 1) pa_nil)))))))), ?_⟩
    obtain ⟨v, t, L, rfl, ht, ok, l0, l1, q⟩ := h
    refine st_eq (σ' := [some v, some (.int L)]) rfl ?_
    walk_at "go"
    refine ⟨v, t, rfl, ht, ok, fun H1 e1 => ?_⟩
    walk_at "go"
    refine ⟨_, rfl, l0, l1, ?_⟩
    walk_at "go"
    exact ⟨v, t, _, rfl, ht.ex e1, ok, l0, fun H2 e2 => q H2 (e1.trans e2)⟩
end
end St
namespace St
open PySem PySem.Spec PyProof.Rows L2 Sy
open Evl (Ex)
section
variable {K : PySem.W.Frag} {H : Hp} {Q : VK}
theorem in_nat {l : List Nat} {i : Nat} : inV (.int (i : Int)) (l.map natV) = decide (i ∈ l) := by
  unfold inV
  rw [List.any_map, Bool.eq_iff_iff, List.any_eq_true, decide_eq_true_iff]
  constructor
  · rintro ⟨k, hk, h⟩
    have h2 : ((k : Int) == (i : Int)) = true := h
    have : (k : Int) = (i : Int) := by simpa using h2
    have : k = i := by omega
    exact this ▸ hk
  · intro h
    refine ⟨i, h, ?_⟩
    show ((i : Int) == (i : Int)) = true
    simp
theorem flat_nat (l : List Nat) : (l.map natV).all flatV = true := by
  rw [List.all_map, List.all_eq_true]
  intro _ _
  rfl
theorem g_inN {p : Addr} {l : List Nat} {i : Nat} (h : SqL K H p (l.map natV)) (q : Q (.bl (decide (i ∈ l))) H) : rIn K false (.int (i : Int)) (.ref p) H Q :=
  ⟨p, _, rfl, .inl h, rfl, flat_nat l, by rw [if_neg Bool.false_ne_true, in_nat]; exact q⟩
theorem g_notInN {p : Addr} {l : List Nat} {i : Nat} (h : SqL K H p (l.map natV)) (q : Q (.bl (!decide (i ∈ l))) H) : rIn K true (.int (i : Int)) (.ref p) H Q :=
  ⟨p, _, rfl, .inl h, rfl, flat_nat l, by rw [if_pos rfl, in_nat]; exact q⟩
theorem nat_ints (l : List Nat) : l.map natV = (l.map fun i : Nat => (i : Int)).map V.int := by rw [List.map_map] <;> rfl
theorem li_nat {p : Addr} {l : List Nat} (h : H p = some (.lst (l.map natV))) : LI K H (.ref p) (l.map fun i : Nat => (i : Int)) := ⟨p, rfl, .of (by rw [h, nat_ints])⟩
theorem li_nil {p : Addr} (h : H p = some (.lst [])) : LI K H (.ref p) [] := ⟨p, rfl, .of h⟩
theorem nat_inj {l m : List Nat} : (l.map fun i : Nat => (i : Int)) = (m.map fun i : Nat => (i : Int)) ↔ l = m := ⟨fun h => List.map_inj_right (fun a b e => by omega) |>.mp h, fun h => by rw [h]⟩
end
theorem g_lstRg {te : TE} {σ : L2.St} {H : Hp} {Q : VK} (h : te σ H fun x H1 => ∃ n : Nat, x = .int (n : Int) ∧ n ≤ 1000000 ∧ ∀ q H2, Ex H1 H2 → H2 q = some (.lst ((List.range n).map natV)) → Q (.ref q) H2)
    (mono : ∀ R S : V → Hp → Prop, (∀ x H, R x H → S x H) → te σ H R → te σ H S) : tLstRg (tRg1 te) σ H Q := by
  refine mono _ _ (fun x H1 hx => ?_) h
  obtain ⟨n, rfl, hn, q⟩ := hx
  refine ⟨(n : Int), rfl, RgOk.of_le (by omega) (by omega) (by omega) (by omega), fun p hp => q p _ (Ex.new hp) ?_⟩
  rw [upd_same]
  unfold rgV
  have e : ((n : Int) - 0).toNat = n := by omega
  rw [e]
  have e2 : (List.range n).map (fun i : Nat => V.int (0 + (i : Int))) = (List.range n).map natV := List.map_congr_left fun i _ => by
    show V.int (0 + (i : Int)) = V.int (i : Int)
    rw [Int.zero_add]
  rw [e2]
theorem rise_ext : ∀ {l m : List Int}, l.Pairwise (· < ·) → m.Pairwise (· < ·) → (∀ k, k ∈ l ↔ k ∈ m) → l = m
  | [], [], _, _, _ => rfl
  | [], b :: m, _, _, h => absurd ((h b).mpr List.mem_cons_self) (by simp)
  | a :: l, [], _, _, h => absurd ((h a).mp List.mem_cons_self) (by simp)
  | a :: l, b :: m, h1, h2, h => by
    have c1 := List.pairwise_cons.mp h1
    have c2 := List.pairwise_cons.mp h2
    have e : a = b := by
      rcases List.mem_cons.mp ((h a).mp List.mem_cons_self) with z | z
      · exact z
      · rcases List.mem_cons.mp ((h b).mpr List.mem_cons_self) with y | y
        · exact y.symm
        · have := c1.1 b y
          have := c2.1 a z
          omega
    subst e
    rw [rise_ext c1.2 c2.2 fun k => ⟨fun hk => ?_, fun hk => ?_⟩]
    · rcases List.mem_cons.mp ((h k).mp (List.mem_cons_of_mem _ hk)) with z | z
      · have := c1.1 k hk
        omega
      · exact z
    · rcases List.mem_cons.mp ((h k).mpr (List.mem_cons_of_mem _ hk)) with z | z
      · have := c2.1 k hk
        omega
      · exact z
theorem rise_fil (n : Nat) (f : Nat → Bool) : (((List.range n).filter f).map fun i : Nat => (i : Int)).Pairwise (· < ·) := by
  rw [List.pairwise_map]
  refine List.Pairwise.imp (fun h => by omega) (List.Pairwise.filter f (List.pairwise_lt_range (n := n)))
theorem fil_len (n : Nat) (f : Nat → Bool) : ((List.range n).filter f).length ≤ n := by
  have := List.length_filter_le f (List.range n)
  rw [List.length_range] at this
  exact this
def sp_law (K : PySem.W.Frag) : Sp := fun vs H Q _ => ∃ (a : Addr) (ns : List Int), vs = [.ref a] ∧ SqL K H a (ns.map V.int) ∧ ∀ H', Ex H H' → Q (.bl true) H'
end St
namespace St
open PySem PySem.Spec PyProof.Rows L2
open Evl (Ex)
open Sy
section
variable {P : Program} {w : World} {K : PySem.W.Frag} {mg : Str → Option Value} {base : Heap}
theorem ok_law (T : Txt K mg) : FnOk P w K mg base CX0 7 (He.ga K "law") (Sy.fdOf K (He.ga K "law")) ["_law_script"] (sp_law K) := by
  have G__law_bags : FnOk P w K mg base CX0 3 (He.ga K "_law_bags") (Sy.fdOf K (He.ga K "_law_bags")) ["_law_script", "_law_limit"] (sp__law_bags K) := ok__law_bags T
  have G__law_far_draw : FnOk P w K mg base CX0 2 (He.ga K "_law_far_draw") (Sy.fdOf K (He.ga K "_law_far_draw")) ["_law_bag_here", "_law_many"] (sp__law_far_draw K) := ok__law_far_draw T
  have G__law_similar : FnOk P w K mg base CX0 2 (He.ga K "_law_similar") (Sy.fdOf K (He.ga K "_law_similar")) ["_law_bag_here", "_law_tariff_here"] (sp__law_similar K) := ok__law_similar T
  have G__law_take : FnOk P w K mg base CX0 1 (He.ga K "_law_take") (Sy.fdOf K (He.ga K "_law_take")) ["_law_bag_here", "_law_many"] (sp__law_take K) := ok__law_take T
  have G__law_tariff : FnOk P w K mg base CX0 2 (He.ga K "_law_tariff") (Sy.fdOf K (He.ga K "_law_tariff")) ["_law_bag_here", "_law_wide"] (sp__law_tariff K) := ok__law_tariff T
  have G_cheapest : FnOk P w K mg base CX0 6 (He.ga K "cheapest") (Sy.fdOf K (He.ga K "cheapest")) ["tariffs", "length"] (sp_cheapest K) := ok_cheapest T
  have G_finally_cheapest : FnOk P w K mg base CX0 6 (He.ga K "finally_cheapest") (Sy.fdOf K (He.ga K "finally_cheapest")) ["tariffs"] (sp_finally_cheapest K) := ok_finally_cheapest T
  have G_never_cheapest : FnOk P w K mg base CX0 6 (He.ga K "never_cheapest") (Sy.fdOf K (He.ga K "never_cheapest")) ["tariffs"] (sp_never_cheapest K) := ok_never_cheapest T
  have G_never_dearer : FnOk P w K mg base CX0 6 (He.ga K "never_dearer") (Sy.fdOf K (He.ga K "never_dearer")) ["first", "second"] (sp_never_dearer K) := ok_never_dearer T
  have G_price : FnOk P w K mg base CX0 6 (He.ga K "price") (Sy.fdOf K (He.ga K "price")) ["tariff", "length"] (sp_price K) := ok_price T
  refine T.f_law.ok sc_law (fun vs H Q E h => ?_) (fun cdv A outer s H vs Q E hr h => ?_)
  · skip
    obtain ⟨a, ns, rfl, _⟩ := h
    rfl
  · refine ⟨_, PSs.nox ((pss_cons (ps_for PassesOwn.never rfl (show PI _ _ _ (iList K _) from pi_list (pe_call G__law_bags (hr.mono (by decide)) rfl T.g__law_bags T.f__law_bags.kp (b__law_bags T) .nil pass0 (pa_cons (pv 0) (pa_cons pe_int pa_nil)))) (pg_name (i := 1) sc_law.nd rfl (Or.inl rfl)) (pss_cons (ps_set (i := 2) sc_law.nd rfl (Or.inr rfl) (pe_tup (pa_cons (pe_call G__law_tariff (hr.mono (by decide)) rfl T.g__law_tariff T.f__law_tariff.kp (b__law_tariff T) .nil pass0 (pa_cons (pv 1) (pa_cons (pe_ix (show IxR _ (rIxL K) from ix_list) (pe_lst (pa_cons pe_int (pa_cons pe_int pa_nil))) (pe_call G__law_take (hr.mono (by decide)) rfl T.g__law_take T.f__law_take.kp (b__law_take T) .nil pass0 (pa_cons (pv 1) (pa_cons pe_int pa_nil))) (fun _ _ => rfl)) pa_nil))) pa_nil)))
        (pss_cons (ps_for PassesOwn.never rfl (pi_range1 (by rfl) T.n_range (pa_cons (pe_op op_add pe_int (pe_call G__law_take (hr.mono (by decide)) rfl T.g__law_take T.f__law_take.kp (b__law_take T) .nil pass0 (pa_cons (pv 1) (pa_cons pe_int pa_nil)))) pa_nil)) (pg_name (i := 3) sc_law.nd rfl (Or.inl rfl)) (pss_cons (ps_set (i := 4) sc_law.nd rfl (Or.inl rfl) (pe_lst (pa_cons (pe_call G__law_tariff (hr.mono (by decide)) rfl T.g__law_tariff T.f__law_tariff.kp (b__law_tariff T) .nil pass0 (pa_cons (pv 1) (pa_cons pe_int pa_nil))) (pa_cons (pe_call G__law_similar (hr.mono (by decide)) rfl T.g__law_similar T.f__law_similar.kp (b__law_similar T) .nil pass0 (pa_cons (pv 1) (pa_cons (pe_ix (show IxR _ (rIxT K) from ix_tup) (pv 2) (pe_un un_neg pe_int) (fun _ _ => rfl)) pa_nil))) pa_nil))))
        (pss_one (ps_set (i := 2) sc_law.nd rfl (Or.inr rfl) (pe_op (show OpR _ _ (rCatA K) from op_catA) (pv 2) (pe_tup (pa_cons (pe_ix (show IxR _ (rIxL K) from ix_list) (pv 4) (pe_call G__law_take (hr.mono (by decide)) rfl T.g__law_take T.f__law_take.kp (b__law_take T) .nil pass0 (pa_cons (pv 1) (pa_cons pe_int pa_nil))) (fun _ _ => rfl)) pa_nil)))))))
        (pss_cons (ps_asg (pe_tup (pa_cons (pe_call G_never_cheapest (hr.mono (by decide)) rfl T.g_never_cheapest T.f_never_cheapest.kp (b_never_cheapest T) .nil pass0 (pa_cons (pv 2) pa_nil)) (pa_cons (pe_call G_finally_cheapest (hr.mono (by decide)) rfl T.g_finally_cheapest T.f_finally_cheapest.kp (b_finally_cheapest T) .nil pass0 (pa_cons (pv 2) pa_nil)) pa_nil))) (show PG _ _ (gTup K 2 (gCons (gName 5) (gCons (gName 6) gNil))) from pg_tup rfl (pgs_cons (pg_name (i := 5) sc_law.nd rfl (Or.inr rfl)) (pgs_cons (pg_name (i := 6) sc_law.nd rfl (Or.inl rfl)) pgs_nil))))
        (pss_cons (ps_set (i := 7) sc_law.nd rfl (Or.inr rfl) (pe_lc (own := [("_law_tariff_here", 15)]) rfl sc_law.nd (show PI _ _ _ (iTup K _) from pi_tup (pv 2)) (blkOk_by (own := [("_law_tariff_here", 15)]) (N := N_law) (sc := defScope s_law) (by decide +kernel)) (fun _ _ _ _ _ => (pg_name (i := 15) sc_law.nd rfl (Or.inl rfl))) (fun _ _ _ _ _ => pts_nil) (fun _ _ _ _ _ => (pe_call G_price (hr.mono (by decide)) rfl T.g_price T.f_price.kp (b_price T) .nil pass0 (pa_cons (pv 15) (pa_cons pe_int pa_nil))))))
        (pss_cons (ps_if (PW.pt (pw_or (pt_cmpR (show OpR _ _ (rEqD K) from op_eqD hr.units) (pv 6) (pe_lst pa_nil) (nomark _)) (pw_or1 (pt_cmpR op_eq (pe_callB (show CallR _ _ (rLenQ K) from c_len) (by rfl) T.n_len (by decide +kernel) (pa_cons (pv 5) pa_nil)) (pe_callB (show CallR _ _ (rLenQ K) from c_len) (by rfl) T.n_len (by decide +kernel) (pa_cons (pv 2) pa_nil)) (nomark _))))) (pss_one (ps_ret pe_bl)) pss_nil)
        (pss_cons (ps_if (pt_cmpR (show OpR _ _ (rNeD K) from op_neD hr.units) (pe_lc (own := [("_law_index", 16)]) rfl sc_law.nd (show PI _ _ _ (iList K _) from pi_list (pv 6)) (blkOk_by (own := [("_law_index", 16)]) (N := N_law) (sc := defScope s_law) (by decide +kernel)) (fun _ _ _ _ _ => (pg_name (i := 16) sc_law.nd rfl (Or.inl rfl))) (fun _ _ _ _ _ => (pts_one (pt_cmpR op_ne (pe_ix (show IxR _ (rIxL K) from ix_list) (pv 7) (pv 16) (fun _ _ => rfl)) (pe_callB (show CallR _ _ (rMin K) from cr_min rfl) (by rfl) T.n_min (by decide +kernel) (pa_cons (pv 7) pa_nil)) (nomark _)))) (fun _ _ _ _ _ => (pv 16))) (pe_lst pa_nil) (nomark _)) (pss_one (ps_ret pe_bl)) pss_nil)
        (pss_cons (ps_if (pt_cmpR (show OpR _ _ (rNeD K) from op_neD hr.units) (pe_lc (own := [("_law_index", 16)]) rfl sc_law.nd (show PI _ _ _ (iList K _) from pi_list (pv 6)) (blkOk_by (own := [("_law_index", 16)]) (N := N_law) (sc := defScope s_law) (by decide +kernel)) (fun _ _ _ _ _ => (pg_name (i := 16) sc_law.nd rfl (Or.inl rfl))) (fun _ _ _ _ _ => (pts_one (pt_cmpR (show OpR _ _ (rIn K false) from op_in_seq) (pv 16) (pv 5) (by rfl)))) (fun _ _ _ _ _ => (pv 16))) (pe_lst pa_nil) (nomark _)) (pss_one (ps_ret pe_bl)) pss_nil)
        (pss_cons (ps_set (i := 8) sc_law.nd rfl (Or.inl rfl) (pe_lst pa_nil))
        (pss_cons (ps_for PassesOwn.never rfl (pi_range2 (by rfl) T.n_range (pa_cons pe_int (pa_cons pe_int pa_nil))) (pg_name (i := 9) sc_law.nd rfl (Or.inl rfl)) (pss_one (ps_set (i := 8) sc_law.nd rfl (Or.inl rfl) (pe_op op_cat (pv 8) (pe_call G_cheapest (hr.mono (by decide)) rfl T.g_cheapest T.f_cheapest.kp (b_cheapest T) .nil pass0 (pa_cons (pv 2) (pa_cons (pe_op op_add (pe_op op_mul pe_int (pe_op op_pow pe_int pe_int)) (pv 9)) pa_nil)))))))
        (pss_cons (ps_if (pt_cmpR (show OpR _ _ (rNeD K) from op_neD hr.units) (pe_callB (show CallR _ _ (rSortedSet w) from cr_sortedSet rfl) (by rfl) T.n_sorted (by decide +kernel) (pa_cons (pe_callTy (show CallR _ _ (rSetOfI K w) from c_setI rfl) (by rfl) T.n_set (by decide +kernel) (pa_cons (pv 8) pa_nil)) pa_nil)) (pv 6) (nomark _)) (pss_one (ps_ret pe_bl)) pss_nil)
        (pss_cons (ps_for PassesOwn.never rfl (pi_range1 (by rfl) T.n_range (pa_cons pe_int pa_nil)) (pg_name (i := 3) sc_law.nd rfl (Or.inl rfl)) (pss_cons (ps_set (i := 4) sc_law.nd rfl (Or.inl rfl) (pe_lst (pa_cons (pe_call G__law_take (hr.mono (by decide)) rfl T.g__law_take T.f__law_take.kp (b__law_take T) .nil pass0 (pa_cons (pv 1) (pa_cons pe_int pa_nil))) (pa_cons (pe_call G__law_take (hr.mono (by decide)) rfl T.g__law_take T.f__law_take.kp (b__law_take T) .nil pass0 (pa_cons (pv 1) (pa_cons pe_int pa_nil))) (pa_cons (pe_call G__law_far_draw (hr.mono (by decide)) rfl T.g__law_far_draw T.f__law_far_draw.kp (b__law_far_draw T) .nil pass0 (pa_cons (pv 1) (pa_cons (pe_op op_pow pe_int pe_int) pa_nil))) pa_nil)))))
        (pss_cons (ps_set (i := 10) sc_law.nd rfl (Or.inl rfl) (pe_op op_add pe_int (pe_ix (show IxR _ (rIxL K) from ix_list) (pv 4) (pe_call G__law_take (hr.mono (by decide)) rfl T.g__law_take T.f__law_take.kp (b__law_take T) .nil pass0 (pa_cons (pv 1) (pa_cons pe_int pa_nil))) (fun _ _ => rfl))))
        (pss_cons (ps_set (i := 11) sc_law.nd rfl (Or.inl rfl) (pe_call G_cheapest (hr.mono (by decide)) rfl T.g_cheapest T.f_cheapest.kp (b_cheapest T) .nil pass0 (pa_cons (pv 2) (pa_cons (pv 10) pa_nil))))
        (pss_cons (ps_if (pt_cmpR (show OpR _ _ (rNeD K) from op_neD hr.units) (pe_lc (own := [("_law_index", 16)]) rfl sc_law.nd (show PI _ _ _ (iList K _) from pi_list (pv 11)) (blkOk_by (own := [("_law_index", 16)]) (N := N_law) (sc := defScope s_law) (by decide +kernel)) (fun _ _ _ _ _ => (pg_name (i := 16) sc_law.nd rfl (Or.inl rfl))) (fun _ _ _ _ _ => (pts_one (pt_cmpR (show OpR _ _ (rIn K false) from op_in_seq) (pv 16) (pv 5) (by rfl)))) (fun _ _ _ _ _ => (pv 16))) (pe_lst pa_nil) (nomark _)) (pss_one (ps_ret pe_bl)) pss_nil)
        (pss_one (ps_for PassesOwn.never rfl (pi_range1 (by rfl) T.n_range (pa_cons (pe_callB (show CallR _ _ (rLenQ K) from c_len) (by rfl) T.n_len (by decide +kernel) (pa_cons (pv 2) pa_nil)) pa_nil)) (pg_name (i := 12) sc_law.nd rfl (Or.inr rfl)) (pss_cons (ps_setLc (i := 13) (own := [("_law_other", 17)]) rfl sc_law.nd rfl rfl (sw_true rfl rfl rfl (by decide +kernel)) (show PI _ _ _ (iList K _) from pi_list (pv 11)) (blkOk_by (own := [("_law_other", 17)]) (N := N_law) (sc := defScope s_law) (by decide +kernel)) (fun _ _ _ _ _ => (pg_name (i := 17) sc_law.nd rfl (Or.inl rfl))) (fun _ _ _ _ _ => (pts_one (pt_val (pe_call G_never_dearer (hr.mono (by decide)) rfl T.g_never_dearer T.f_never_dearer.kp (b_never_dearer T) .nil pass0 (pa_cons (pe_ix (show IxR _ (rIxT K) from ix_tup) (pv 2) (pv 12) (fun _ _ => rfl)) (pa_cons (pe_ix (show IxR _ (rIxT K) from ix_tup) (pv 2) (pv 17) (fun _ _ => rfl)) pa_nil)))))) (fun _ _ _ _ _ => (pv 17)))
        (pss_one (ps_if (PW.pt (pw_and (pt_cmpR (show OpR _ _ (rIn K true) from op_notIn_seq) (pv 12) (pv 11) (by rfl)) (pw_and1 (pt_cmpR (show OpR _ _ (rNeD K) from op_neD hr.units) (pv 13) (pe_lst pa_nil) (nomark _))))) (pss_one (ps_ret pe_bl)) pss_nil))))))))))
        (pss_cons (ps_set (i := 14) sc_law.nd rfl (Or.inl rfl) (pe_call G_never_cheapest (hr.mono (by decide)) rfl T.g_never_cheapest T.f_never_cheapest.kp (b_never_cheapest T) .nil pass0 (pa_cons (pe_op (show OpR _ _ (rCatA K) from op_catA) (pv 2) (pe_slice (show SlR _ (rSlA K) from sl_tupA) (pv 2) po_none (po_some pe_int))) pa_nil)))
        (pss_cons (ps_if (pt_cmpR (show OpR _ _ (rNeD K) from op_neD hr.units) (pe_lc (own := [("_law_index", 16)]) rfl sc_law.nd (show PI _ _ _ (iList K _) from pi_list (pv 14)) (blkOk_by (own := [("_law_index", 16)]) (N := N_law) (sc := defScope s_law) (by decide +kernel)) (fun _ _ _ _ _ => (pg_name (i := 16) sc_law.nd rfl (Or.inl rfl))) (fun _ _ _ _ _ => (pts_one (pt_cmpR op_lt (pv 16) (pe_callB (show CallR _ _ (rLenQ K) from c_len) (by rfl) T.n_len (by decide +kernel) (pa_cons (pv 2) pa_nil)) (nomark _)))) (fun _ _ _ _ _ => (pv 16))) (pv 5) (nomark _)) (pss_one (ps_ret pe_bl)) pss_nil)
        (pss_one (ps_if (pt_cmpR (show OpR _ _ (rNeD K) from op_neD hr.units) (pe_call G_cheapest (hr.mono (by decide)) rfl T.g_cheapest T.f_cheapest.kp (b_cheapest T) .nil pass0 (pa_cons (pv 2) (pa_cons pe_int pa_nil))) (pe_listRg rfl rfl T.n_list (prg_1 rfl T.n_range (pe_callB (show CallR _ _ (rLenQ K) from c_len) (by rfl) T.n_len (by decide +kernel) (pa_cons (pv 2) pa_nil)))) (nomark _)) (pss_one (ps_ret pe_bl)) pss_nil))))))))))))))))
        (pss_one (ps_ret pe_bl)))), ?_⟩
    obtain ⟨a, ns, rfl, hl, q⟩ := h
    refine st_eq (σ' := [some (.ref a), none, none, none, none, none, none, none, none, none, none, none, none, none, none, none, none, none]) rfl ?_
    walk_at "go"
    refine ⟨a, ns, 6, rfl, hl, by decide, by decide, fun pb bs H1 e1 hpb hpb2 hbs => ?_⟩
    walk_at "go"
    refine i_L (.of hpb2) ?_
    refine forJ (drv_list (a := pb) (xs := bs)) (fun i σ H' => ∃ x1 x2 x3 x4 x5 x6 x7 x8 x9 x10 x11 x12 x13 x14 : Option V, σ = [some (.ref a), x1, x2, x3, x4, x5, x6, x7, x8, x9, x10, x11, x12, x13, x14, none, none, none] ∧ Ex H1 H') ?_ ?_ ?_ ?_
    · exact ⟨_, _, _, _, _, _, _, _, _, _, _, _, _, _, rfl, Ex.refl _⟩
    · rintro i σ H' _ ⟨_, _, _, _, _, _, _, _, _, _, _, _, _, _, _, e⟩
      exact .of (e _ _ hpb2)
    rotate_left
    · rintro σ H' ⟨x1, x2, x3, x4, x5, x6, x7, x8, x9, x10, x11, x12, x13, x14, rfl, e⟩
      walk_at "go"
      exact q H' (e1.trans e)
    rintro i b σ H2 H2' hi ⟨x1, x2, x3, x4, x5, x6, x7, x8, x9, x10, x11, x12, x13, x14, rfl, e12⟩ _ ⟨rfl, hb⟩
    have hbag : IsBag K H2' b := (hbs b (List.mem_of_getElem? hb)).ex e12
    clear hb hi i
    walk_at "go"
    refine new_lst rfl fun p3 H3 hp3 e3 hp32 => ?_
    walk_at "go"
    have hb3 := hbag.ex e3
    refine ⟨b, 2, rfl, hb3, by decide, fun k k0 k1 => ?_⟩
    walk_at "go"
    refine g_ixLn (.of hp32) k0 k1 fun y hy => ?_
    have hy2 : ∃ m : Int, y = .int m ∧ 1 ≤ m ∧ m ≤ 900 := by
      simp only [List.mem_cons, List.not_mem_nil, or_false] at hy
      rcases hy with rfl | rfl
      · exact ⟨6, rfl, by decide, by decide⟩
      · exact ⟨900, rfl, by decide, by decide⟩
    obtain ⟨m, rfl, m0, m1⟩ := hy2
    walk_at "go"
    refine ⟨b, m, rfl, hb3, m0, by omega, fun u t H4 e4 ht hdr => ?_⟩
    walk_at "go"
    refine new_tup rfl fun p5 H5 hp5 e5 hp52 => ?_
    walk_at "go"
    have hb5 := (hb3.ex e4).ex e5
    refine ⟨b, 5, rfl, hb5, by decide, fun n n0 n1 => ?_⟩
    walk_at "go"
    refine i_R1 (by omega) ?_
    have e15 := (e12.trans e3).trans (e4.trans e5)
    refine forJ (drv_rng (lo := 0) (n := (1 + n).toNat)) (fun i σ H' => ∃ (v : V) (x3' x4' : Option V) (ts : List Tar), σ = [some (.ref a), some b, some v, x3', x4', x5, x6, x7, x8, x9, x10, x11, x12, x13, x14, none, none, none] ∧ Ex H5 H' ∧ TarsAt K H' v ts ∧ ts.length = i + 1 ∧
      ∀ t ∈ ts, Ma.Ok t ∧ t.more ≤ 1000 + (i : Int)) ?_ (fun _ _ _ _ _ => trivial) ?_ ?_
    · refine ⟨_, x3, x4, [t], rfl, Ex.refl _, ⟨p5, [u], rfl, .of hp52, pd_one (ht.ex e5)⟩, rfl, fun t' ht' => ?_⟩
      rw [List.mem_singleton.mp ht']
      exact ⟨hdr.ok, by have := hdr.more; omega⟩
    · rintro i x σ H6 H6' hi ⟨v, x3', x4', ts, rfl, e56, hts, hlen, hall⟩ _ ⟨rfl, rfl⟩
      have hb6 := hb5.ex e56
      walk_at "go"
      refine ⟨b, 900, rfl, hb6, by decide, by decide, fun u1 t1 H7 e7 ht1 hdr1 => ?_⟩
      walk_at "go"
      obtain ⟨a2, us, rfl, ha2, hp⟩ := id hts
      have hul : us.length = ts.length := pd_len hp
      obtain ⟨t2, ht2⟩ : ∃ t, ts[us.length - 1]? = some t := ⟨_, List.getElem?_eq_getElem (by omega)⟩
      obtain ⟨u2, hu2, htu2⟩ := pd_at2 hp ht2
      refine g_ixBk 1 (Evl.ex_t e7 ha2) rfl (by decide) (by omega) hu2 ?_
      walk_at "go"
      have ok2 := hall t2 (List.mem_of_getElem? ht2)
      refine ⟨b, u2, t2, rfl, hb6.ex e7, htu2.ex e7, ok2.1, by have := ok2.2; omega, fun u3 t3 H8 e8 ht3 ok3 more3 => ?_⟩
      walk_at "go"
      refine new_lst rfl fun p9 H9 hp9 e9 hp92 => ?_
      walk_at "go"
      have e79 := (e7.trans e8).trans e9
      refine ⟨b, 2, rfl, hb6.ex e79, by decide, fun k k0 k1 => ?_⟩
      walk_at "go"
      have hpk : ∃ u t, [u1, u3][k.toNat]? = some u ∧ TarAt K H9 u t ∧ Ma.Ok t ∧ t.more ≤ 1000 + ((i + 1 : Nat) : Int) := by
        have hk : k = 0 ∨ k = 1 := by omega
        rcases hk with rfl | rfl
        · exact ⟨u1, t1, rfl, (ht1.ex e8).ex e9, hdr1.ok, by have := hdr1.more; omega⟩
        · exact ⟨u3, t3, rfl, ht3.ex e9, ok3, by have := ok2.2; omega⟩
      obtain ⟨u4, t4, hu4, ht4, ok4, more4⟩ := hpk
      refine g_ixL (.of hp92) (at_of (j := k.toNat) (by omega) hu4) ?_
      walk_at "go"
      refine new_tup rfl fun p10 H10 hp10 e10 hp102 => ?_
      walk_at "go"
      have big : (1000001 : Nat) ≤ sizeLine := by decide
      refine g_catA (Evl.ex_t e10 (Evl.ex_t e79 ha2)) (.of hp102) (by show us.length + 1 ≤ _; omega) fun p11 H11 e11 hp11 => ?_
      walk_at "go"
      refine ⟨_, _, _, ts ++ [t4], rfl, ((e56.trans e79).trans e10).trans e11, ⟨p11, us ++ [u4], rfl, hp11, pd_app (tars_ex ((e79.trans e10).trans e11) hp) (pd_one ((ht4.ex e10).ex e11))⟩, by rw [List.length_append, hlen] <;> rfl, fun t' ht' => ?_⟩
      rcases List.mem_append.mp ht' with z | z
      · have := hall t' z
        exact ⟨this.1, by have := this.2; omega⟩
      · rw [List.mem_singleton.mp z]
        exact ⟨ok4, more4⟩
    rintro σ H6 ⟨v, x3', x4', ts, rfl, e56, hts, hlen, hall⟩
    have ok : ∀ t ∈ ts, Ma.Ok t := fun t ht => (hall t ht).1
    have l1 : 1 ≤ ts.length := by omega
    have l8 : ts.length ≤ 7 := by omega
    have hb6 := hb5.ex e56
    have e16 := e15.trans e56
    clear hall hlen e56 e15 hb5 n0 n1 n hp52 hp5 ht hdr e5 e4 hb3 hbag e12 k0 k1 m0 m1 e3 hp32
    obtain ⟨a2, us, rfl, ha2, hp⟩ := id hts
    have hul : us.length = ts.length := pd_len hp
    walk_at "go"
    refine ⟨_, ts, rfl, hts, ok, l1, by omega, fun pn H7 e7 hpn hpn2 => ?_⟩
    walk_at "go"
    refine ⟨_, ts, rfl, hts.ex e7, ok, l1, by omega, fun pf H8 e8 hpf hpf2 => ?_⟩
    walk_at "go"
    refine new_tup rfl fun pt H9 hpt e9 hpt2 => ?_
    refine g_gtup (.of hpt2) rfl ?_
    walk_at "go"
    have e69 := (e7.trans e8).trans e9
    refine i_T (Evl.ex_t e69 ha2) ?_
    refine lcMap (drv_tup (a := a2) (xs := us)) (fun H2 e => Evl.ex_t e (Evl.ex_t e69 ha2)) (by omega) (fun i => .int (Ma.stayP (ts.getD i Ma.dT) 96)) ?_ ?_
    · rintro i x H2 H3 Y hi e2 _ ⟨rfl, hx⟩ hY
      obtain ⟨t, hti, htt⟩ := pd_at hp hx
      rw [getD_of hti] at hY
      refine ⟨rfl, ?_⟩
      walk_at "go"
      exact ⟨x, t, 96, rfl, htt.ex (e69.trans e2), ok t (List.mem_of_getElem? hti), by decide, by decide, hY⟩
    intro pd H10 hpd e10 hpd2
    rw [hul, range_getD (fun t => V.int (Ma.stayP t 96))] at hpd2
    have hpn10 := e10 _ _ (e9 _ _ (e8 _ _ hpn2))
    have hpf10 := e10 _ _ (e9 _ _ hpf2)
    have e610 := e69.trans e10
    have ld : (ts.map fun t => Ma.stayP t 96).length = ts.length := List.length_map ..
    have hpd3 : H10 pd = some (.lst ((ts.map fun t => Ma.stayP t 96).map V.int)) := by rw [hpd2, List.map_map] <;> rfl
    clear hpd2 hpd hpt2 hpt hpf2 hpf hpn2 hpn e7 e8 e9 e10 e69
    walk_at "go"
    refine new_lst rfl fun p1 H11 hp1 e11 hp12 => ?_
    walk_at "go"
    refine g_eqLI (li_nat (e11 _ _ hpf10)) (li_nil hp12) ?_
    walk_at "go"
    refine b_false (fun z => Ma.fin_some ok l1 (List.map_eq_nil_iff.mp z)) ?_
    walk_at "go"
    refine g_lenL (.of (e11 _ _ hpn10)) ?_
    walk_at "go"
    refine g_lenT (Evl.ex_t (e610.trans e11) ha2) ?_
    walk_at "go"
    rw [List.length_map, hul]
    refine b_false (fun z => Ma.never_len ok l1 (by omega)) ?_
    walk_at "go"
    -- the last ones have the least day
    refine i_L (.of (e11 _ _ hpf10)) ?_
    refine lcJ (drv_list (a := pf) (xs := (Ma.finL ts).map natV)) (fun H12 e => .of (e _ _ (e11 _ _ hpf10))) (by rw [List.length_map]; have := List.length_filter_le (Ma.isFin ts) (List.range ts.length); rw [List.length_range] at this; unfold Ma.finL; omega) (fun i acc => acc = []) rfl ?_ ?_
    · rintro i x acc H12 H13 Y Z hi rfl e12 _ ⟨rfl, hx⟩ hY hZ
      obtain ⟨k, hk, rfl⟩ := map_at hx
      have hkf := List.mem_of_getElem? hk
      obtain ⟨hkl, hday, _⟩ := Ma.mem_fin.mp hkf
      walk_at "go"
      refine ⟨rfl, ?_⟩
      walk_at "go"
      have hpd12 : SqL K H13 pd ((ts.map fun t => Ma.stayP t 96).map V.int) := .of (e12 _ _ (e11 _ _ hpd3))
      obtain ⟨t, ht⟩ : ∃ t, ts[k]? = some t := ⟨_, List.getElem?_eq_getElem hkl⟩
      refine g_ixL hpd12 (atI_nat (by rw [List.getElem?_map, List.getElem?_map, ht] <;> rfl)) ?_
      walk_at "go"
      refine g_min hpd12 (by omega) fun m hm1 hm2 => ?_
      walk_at "go"
      obtain ⟨t2, ht2, rfl⟩ := List.mem_map.mp hm1
      have hd96 : ∀ t : Tar, Ma.stayP t 96 = Ma.dayP t 96 := fun t => by
        have := Ma.stay_split t (k := 0) (p := 96) (by decide) (by decide) (by decide)
        rw [Int.zero_mul, Int.zero_add] at this
        exact this
      refine n_false ?_ ?_
      · rw [getD_of ht] at hday
        have a1 := hm2 _ (List.mem_map.mpr ⟨t, List.mem_of_getElem? ht, rfl⟩)
        have a2 := hday t2 ht2
        have b1 := hd96 t
        have b2 := hd96 t2
        show Ma.stayP t 96 = Ma.stayP t2 96
        have a1' : Ma.stayP t2 96 ≤ Ma.stayP t 96 := a1
        omega
      · exact hZ _ (Ex.refl _) rfl
    intro p2 acc H12 hp2 e12 hp22 _ hacc
    subst hacc
    walk_at "go"
    refine new_lst rfl fun p3 H13 hp3 e13 hp32 => ?_
    walk_at "go"
    refine g_neLI (li_nil (e13 _ _ hp22)) (li_nil hp32) ?_
    walk_at "go"
    refine n_false rfl ?_
    walk_at "go"
    have e1013 := (e11.trans e12).trans e13
    have hpf13 := e1013 _ _ hpf10
    have hpn13 := e1013 _ _ hpn10
    clear hp22 hp2 hp32 hp3 e11 e12 e13 hp12 hp1
    refine i_L (.of hpf13) ?_
    refine lcJ (drv_list (a := pf) (xs := (Ma.finL ts).map natV)) (fun H14 e => .of (e _ _ hpf13)) (by rw [List.length_map]; have := fil_len ts.length (Ma.isFin ts); unfold Ma.finL; omega) (fun i acc => acc = []) rfl ?_ ?_
    · rintro i x acc H14 H15 Y Z hi rfl e14 _ ⟨rfl, hx⟩ hY hZ
      obtain ⟨k, hk, rfl⟩ := map_at hx
      have hkf := List.mem_of_getElem? hk
      walk_at "go"
      refine ⟨rfl, ?_⟩
      walk_at "go"
      refine g_inN (.of (e14 _ _ hpn13)) ?_
      walk_at "go"
      exact b_false (Ma.fin_not_never ok hkf) (hZ _ (Ex.refl _) rfl)
    intro p4 acc H14 hp4 e14 hp42 _ hacc
    subst hacc
    walk_at "go"
    refine new_lst rfl fun p5 H15 hp5 e15 hp52 => ?_
    walk_at "go"
    refine g_neLI (li_nil (e15 _ _ hp42)) (li_nil hp52) ?_
    walk_at "go"
    refine n_false rfl ?_
    walk_at "go"
    refine new_lst rfl fun p6 H16 hp6 e16b hp62 => ?_
    walk_at "go"
    refine i_R2 (by omega) ?_
    have e616 : Ex H6 H16 := ((e610.trans e1013).trans (e14.trans e15)).trans e16b
    have hpf16 := (e14.trans e15).trans e16b _ _ hpf13
    have hpn16 := (e14.trans e15).trans e16b _ _ hpn13
    clear e14 e15 e16b hp52 hp5 hp42 hp4 hpf13 hpn13 e1013 hpn10 hpf10 hpd3
    refine forJ (drv_rng (lo := 1) (n := 96)) (fun i σ H' => ∃ (sn : Addr) (x9' : Option V) (acc : List Nat), σ = [some (.ref a), some b, some (.ref a2), x3', x4', some (.ref pn), some (.ref pf), some (.ref pd), some (.ref sn), x9', x10, x11, x12, x13, x14, none, none, none] ∧ Ex H16 H' ∧ H' sn = some (.lst (acc.map natV)) ∧ acc.length ≤ 8 * i ∧
      ∀ k, k ∈ acc ↔ ∃ p : Int, 1 ≤ p ∧ p ≤ (i : Int) ∧ k ∈ Ma.cheapL ts (96 * 1000000000000 + p)) ?_ (fun _ _ _ _ _ => trivial) ?_ ?_
    · exact ⟨p6, x9, [], rfl, Ex.refl _, hp62, Nat.zero_le _, fun k => ⟨fun h => absurd h (by simp), fun ⟨p, h1, h2, _⟩ => by omega⟩⟩
    · rintro i x σ H17 H17' hi ⟨sn, x9', acc, rfl, e17, hsn, hal, hmem⟩ _ ⟨rfl, rfl⟩
      walk_at "go"
      refine g_I ?_ ⟨by decide, by decide, by decide⟩
      walk_at "go"
      rw [show (10 : Int) ^ (12 : Int).toNat = 1000000000000 from rfl]
      refine g_I ?_ (.inl (by decide))
      walk_at "go"
      rw [show (96 : Int) * 1000000000000 + (1 + (i : Int)) = 96 * 1000000000000 + (1 + (i : Int)) from rfl]
      refine ⟨_, ts, _, rfl, hts.ex (e616.trans e17), ok, l1, by omega, ?_, ?_, fun pc H18 e18 hpc hpc2 => ?_⟩
      · omega
      · omega
      walk_at "go"
      have big : (1000001 : Nat) ≤ sizeLine := by decide
      have hcl : (Ma.cheapL ts (96 * 1000000000000 + (1 + (i : Int)))).length ≤ ts.length := fil_len _ _
      refine g_cat (e18 _ _ hsn) hpc2 ?_ fun pk H19 hpk e19 hpk2 => ?_
      · rw [List.length_map, List.length_map]
        exact Nat.le_trans (Nat.add_le_add hal hcl) (by omega)
      walk_at "go"
      refine ⟨pk, _, acc ++ Ma.cheapL ts (96 * 1000000000000 + (1 + (i : Int))), rfl, (e17.trans e18).trans e19, by rw [hpk2, List.map_append] <;> rfl, by rw [List.length_append]; omega, fun k => ?_⟩
      rw [List.mem_append, hmem]
      constructor
      · rintro (⟨p, h1, h2, h3⟩ | h)
        · exact ⟨p, h1, by omega, h3⟩
        · exact ⟨1 + (i : Int), by omega, by omega, h⟩
      · rintro ⟨p, h1, h2, h3⟩
        by_cases hp : p ≤ (i : Int)
        · exact .inl ⟨p, h1, hp, h3⟩
        · rw [show p = 1 + (i : Int) by omega] at h3
          exact .inr h3
    rintro σ H17 ⟨sn, x9', acc, rfl, e17, hsn, hal, hmem⟩
    have hmem2 : ∀ k, k ∈ acc ↔ k ∈ Ma.finL ts := fun k => by rw [hmem, Ma.fin_seen ok] <;> rfl
    walk_at "go"
    have hsn2 : SqL K H17 sn ((acc.map fun i : Nat => (i : Int)).map V.int) := .of (by rw [hsn, nat_ints])
    refine g_setI2 (D := (List.range 7).map fun i : Nat => (i : Int)) hsn2 (by rw [List.length_map]; omega) (fun k hk => ?_) (by decide) fun sp n H18 e18 hsp hnl => ?_
    · obtain ⟨j, hj, rfl⟩ := List.mem_map.mp hk
      have := (Ma.mem_fin.mp ((hmem2 j).mp hj)).1
      exact List.mem_map.mpr ⟨j, List.mem_range.mpr (by omega), rfl⟩
    walk_at "go"
    refine g_sortedSet hsp (by rw [List.length_map, List.length_range] at hnl; omega) fun ms pm H19 e19 hpm hpm2 hrise hms hml => ?_
    walk_at "go"
    have hms2 : ms = (Ma.finL ts).map fun i : Nat => (i : Int) := rise_ext hrise (rise_fil _ _) fun k => by
      rw [hms, List.mem_map, List.mem_map]
      exact ⟨fun ⟨j, h1, h2⟩ => ⟨j, (hmem2 j).mp h1, h2⟩, fun ⟨j, h1, h2⟩ => ⟨j, (hmem2 j).mpr h1, h2⟩⟩
    have e1719 := e17.trans (e18.trans e19)
    refine g_neLI ⟨pm, rfl, .of hpm2⟩ (li_nat (e1719 _ _ hpf16)) ?_
    walk_at "go"
    refine n_false hms2 ?_
    walk_at "go"
    refine i_R1 (by omega) ?_
    have e619 := e616.trans e1719
    have hpn19 := e1719 _ _ hpn16
    clear hms2 hpm2 hpm hms hml hrise e18 e19 hsp hsn2 hnl hmem2 hmem hal e17 hpn16 hpf16 e616 hsn hp62 hp6
    refine forJ (drv_rng (lo := 0) (n := 12)) (fun i σ H' => ∃ (x3 x4 x10 x11 x12 x13 : Option V), σ = [some (.ref a), some b, some (.ref a2), x3, x4, some (.ref pn), some (.ref pf), some (.ref pd), some (.ref sn), x9', x10, x11, x12, x13, x14, none, none, none] ∧ Ex H19 H') ?_ (fun _ _ _ _ _ => trivial) ?_ ?_
    · exact ⟨_, _, _, _, _, _, rfl, Ex.refl _⟩
    · rintro i x σ H20 H20' hi ⟨y3, y4, y10, y11, y12, y13, rfl, e20⟩ _ ⟨rfl, rfl⟩
      have hb20 := (hb6.ex e619).ex e20
      walk_at "go"
      refine ⟨b, 96, rfl, hb20, by decide, fun r1 r10 r11 => ?_⟩
      walk_at "go"
      refine ⟨b, 900, rfl, hb20, by decide, fun r2 r20 r21 => ?_⟩
      walk_at "go"
      refine g_I ?_ ⟨by decide, by decide, by decide⟩
      walk_at "go"
      refine ⟨b, _, rfl, hb20, by decide, fun r3 H21 e21 r30 r31 => ?_⟩
      walk_at "go"
      have hr3 : r3 < 1000000 := r31
      refine new_lst rfl fun p7 H22 hp7 e22 hp72 => ?_
      walk_at "go"
      refine ⟨b, 3, rfl, (hb20.ex e21).ex e22, by decide, fun k k0 k1 => ?_⟩
      walk_at "go"
      refine g_ixLn (.of hp72) k0 k1 fun y hy => ?_
      have hy2 : ∃ m : Int, y = .int m ∧ 0 ≤ m ∧ m ≤ 1000000 := by
        simp only [List.mem_cons, List.not_mem_nil, or_false] at hy
        rcases hy with rfl | rfl | rfl
        · exact ⟨_, rfl, by omega, by omega⟩
        · exact ⟨_, rfl, by omega, by omega⟩
        · exact ⟨_, rfl, by omega, by omega⟩
      obtain ⟨m, rfl, m0, m1⟩ := hy2
      walk_at "go"
      have E22 := ((e619.trans e20).trans e21).trans e22
      refine ⟨_, ts, _, rfl, hts.ex E22, ok, l1, by omega, by omega, by omega, fun pq H23 e23 hpq hpq2 => ?_⟩
      walk_at "go"
      refine i_L (.of hpq2) ?_
      refine lcJ (drv_list (a := pq) (xs := (Ma.cheapL ts (1 + m)).map natV)) (fun H e => .of (e _ _ hpq2)) (by rw [List.length_map]; have := fil_len ts.length (Ma.isCheap ts (1 + m)); unfold Ma.cheapL; omega) (fun i acc => acc = []) rfl ?_ ?_
      · rintro i x acc H24 H25 Y Z hi rfl e24 _ ⟨rfl, hx⟩ hY hZ
        obtain ⟨k, hk, rfl⟩ := map_at hx
        have hkf := List.mem_of_getElem? hk
        walk_at "go"
        refine ⟨rfl, ?_⟩
        walk_at "go"
        refine g_inN (.of (e24 _ _ (e23 _ _ (e22 _ _ (e21 _ _ (e20 _ _ hpn19)))))) ?_
        walk_at "go"
        exact b_false (Ma.cheap_best ok (by omega) hkf) (hZ _ (Ex.refl _) rfl)
      intro p4 acc H24 hp4 e24 hp42 _ hacc
      subst hacc
      walk_at "go"
      refine new_lst rfl fun p5 H25 hp5 e25 hp52 => ?_
      walk_at "go"
      refine g_neLI (li_nil (e25 _ _ hp42)) (li_nil hp52) ?_
      walk_at "go"
      refine n_false rfl ?_
      walk_at "go"
      have E25 := (E22.trans e23).trans (e24.trans e25)
      have hpq25 := e25 _ _ (e24 _ _ hpq2)
      refine g_lenT (Evl.ex_t E25 ha2) ?_
      walk_at "go"
      refine i_R1 (by omega) ?_
      refine forJ (drv_rng (lo := 0) (n := us.length)) (fun i' σ H' => ∃ (y12 y13 : Option V), σ = [some (.ref a), some b, some (.ref a2), some (.int (0 + (i : Int))), some (.ref p7), some (.ref pn), some (.ref pf), some (.ref pd), some (.ref sn), x9', some (.int (1 + m)), some (.ref pq), y12, y13, x14, none, none, none] ∧ Ex H25 H') ?_ (fun _ _ _ _ _ => trivial) ?_ ?_
      · exact ⟨_, _, rfl, Ex.refl _⟩
      · rintro one x σ H26 H26' hone ⟨z12, z13, rfl, e26⟩ _ ⟨rfl, rfl⟩
        have h1 : one < ts.length := by omega
        have hpq26 := e26 _ _ hpq25
        rw [Int.zero_add]
        obtain ⟨t1, ht1⟩ : ∃ t, ts[one]? = some t := ⟨_, List.getElem?_eq_getElem h1⟩
        obtain ⟨u1, hu1, htu1⟩ := pd_at2 hp ht1
        walk_at "go"
        refine i_L (.of hpq26) ?_
        refine lcJ (drv_list (a := pq) (xs := (Ma.cheapL ts (1 + m)).map natV)) (fun H e => .of (e _ _ hpq26)) (by rw [List.length_map]; have := fil_len ts.length (Ma.isCheap ts (1 + m)); unfold Ma.cheapL; omega) (fun i acc => ∃ l : List Nat, acc = l.map natV ∧ (l ≠ [] → one ∈ Ma.cheapL ts (1 + m))) ⟨[], rfl, fun h => absurd rfl h⟩ ?_ ?_
        · rintro j x acc H27 H28 Y Z hj ⟨l, rfl, hl⟩ e27 _ ⟨rfl, hx⟩ hY hZ
          obtain ⟨k, hk, rfl⟩ := map_at hx
          have hkf := List.mem_of_getElem? hk
          have hkl := (Ma.mem_cheap.mp hkf).1
          obtain ⟨t2, ht2⟩ : ∃ t, ts[k]? = some t := ⟨_, List.getElem?_eq_getElem hkl⟩
          obtain ⟨u2, hu2, htu2⟩ := pd_at2 hp ht2
          have E27 := (E25.trans e26).trans e27
          walk_at "go"
          refine ⟨rfl, ?_⟩
          walk_at "go"
          refine g_ixT (Evl.ex_t E27 ha2) (atI_nat hu1) ?_
          walk_at "go"
          refine g_ixT (Evl.ex_t E27 ha2) (atI_nat hu2) ?_
          walk_at "go"
          refine ⟨u1, u2, t1, t2, rfl, htu1.ex E27, htu2.ex E27, ok t1 (List.mem_of_getElem? ht1), ok t2 (List.mem_of_getElem? ht2), fun c H29 e29 hc => ?_⟩
          walk_at "go"
          refine b_bool (fun hct => ?_) (fun hcf => ?_)
          · walk_at "go"
            refine hY _ H29 e29 ⟨l ++ [k], by rw [List.map_append] <;> rfl, fun _ => ?_⟩
            refine Ma.cheap_under ok (by omega) h1 hkf fun p p0 p1 => ?_
            rw [getD_of ht1, getD_of ht2]
            exact hc.mp hct p p0 p1
          · exact hZ H29 e29 ⟨l, rfl, hl⟩
        rintro pu acc H27 hpu e27 hpu2 _ ⟨l, rfl, hl⟩
        walk_at "go"
        refine g_notInN (.of (e27 _ _ hpq26)) ?_
        walk_at "go"
        refine n_dec (fun hno => ?_) (fun hyes => ?_)
        · have hln : l = [] := Decidable.byContradiction fun z => hno (hl z)
          subst hln
          walk_at "go"
          refine new_lst rfl fun p8 H28 hp8 e28 hp82 => ?_
          walk_at "go"
          refine g_neLI (li_nil (e28 _ _ hpu2)) (li_nil hp82) ?_
          walk_at "go"
          refine n_false rfl ?_
          walk_at "go"
          exact ⟨_, _, rfl, (e26.trans e27).trans e28⟩
        · walk_at "go"
          exact ⟨_, _, rfl, e26.trans e27⟩
      · rintro σ H26 ⟨z12, z13, rfl, e26⟩
        walk_at "go"
        exact ⟨_, _, _, _, _, _, rfl, ((((e20.trans e21).trans e22).trans e23).trans (e24.trans e25)).trans e26⟩
    · rintro σ H20 ⟨y3, y4, y10, y11, y12, y13, rfl, e20⟩
      walk_at "go"
      have E20 := e619.trans e20
      refine g_slA (Evl.ex_t E20 ha2) fun r H21 e21 hr => ?_
      have e1 : cutV us none (some (1 : Int)) = us.take 1 := cut_to us 1
      rw [e1] at hr
      walk_at "go"
      have big : (1000001 : Nat) ≤ sizeLine := by decide
      refine g_catA (Evl.ex_t (E20.trans e21) ha2) hr ?_ fun p9 H22 e22 hp9 => ?_
      · rw [List.length_take]
        omega
      walk_at "go"
      obtain ⟨t0, ht0⟩ : ∃ t, ts = t :: ts.tail := by
        cases ts with
        | nil => exact absurd l1 (by decide)
        | cons t r => exact ⟨t, rfl⟩
      have htk : ts.take 1 = [t0] := by
        rw [ht0]
        rfl
      have ht0m : t0 ∈ ts := by
        rw [ht0]
        exact List.mem_cons_self
      have E22 := (E20.trans e21).trans e22
      have hp22 : Paired (TarAt K H22) (us ++ us.take 1) (ts ++ [t0]) := by
        rw [← htk]
        exact pd_app (tars_ex E22 hp) (pd_take 1 (tars_ex E22 hp))
      refine ⟨_, ts ++ [t0], rfl, ⟨p9, _, rfl, hp9, hp22⟩, fun t ht => ?_, by rw [List.length_append]; omega, by rw [List.length_append]; show _ + 1 ≤ 8; omega, fun pm H23 e23 hpm hpm2 => ?_⟩
      · rcases List.mem_append.mp ht with z | z
        · exact ok t z
        · rw [List.mem_singleton.mp z]
          exact ok t0 ht0m
      walk_at "go"
      refine i_L (.of hpm2) ?_
      refine lcJ (drv_list (a := pm) (xs := (Ma.neverL (ts ++ [t0])).map natV)) (fun H e => .of (e _ _ hpm2)) (by rw [List.length_map]; have := fil_len (ts ++ [t0]).length (Ma.isNever (ts ++ [t0])); rw [List.length_append] at this; have e1 : [t0].length = 1 := rfl; unfold Ma.neverL; rw [List.length_append]; omega) (fun i acc => acc = (((Ma.neverL (ts ++ [t0])).take i).filter fun i => decide (i < ts.length)).map natV) rfl ?_ ?_
      · rintro j x acc H24 H25 Y Z hj rfl e24 _ ⟨rfl, hx⟩ hY hZ
        obtain ⟨k, hk, rfl⟩ := map_at hx
        have htk2 : (Ma.neverL (ts ++ [t0])).take (j + 1) = (Ma.neverL (ts ++ [t0])).take j ++ [k] := by rw [List.take_succ, hk] <;> rfl
        walk_at "go"
        refine ⟨rfl, ?_⟩
        walk_at "go"
        refine g_lenT (Evl.ex_t (((E20.trans e21).trans e22).trans (e23.trans e24)) ha2) ?_
        walk_at "go"
        refine g_I0 (i := (k : Int)) ?_
        walk_at "go"
        refine b_dec (fun c => ?_) (fun c => ?_)
        · walk_at "go"
          refine hY _ _ (Ex.refl _) ?_
          rw [htk2, List.filter_append, List.filter_cons_of_pos (p := fun i => decide (i < ts.length)) (decide_eq_true (by omega : k < ts.length)), List.map_append] <;> rfl
        · refine hZ _ (Ex.refl _) ?_
          rw [htk2, List.filter_append, List.filter_cons_of_neg (p := fun i => decide (i < ts.length)) (fun z => absurd (of_decide_eq_true z) (by omega)), List.filter_nil, List.append_nil]
      intro p4 acc H24 hp4 e24 hp42 _ hacc
      rw [List.length_map, List.take_length, Ma.never_more t0 ht0m] at hacc
      subst hacc
      walk_at "go"
      have E24 := E22.trans (e23.trans e24)
      refine g_neLI (li_nat hp42) (li_nat ((((e20.trans e21).trans e22).trans (e23.trans e24)) _ _ hpn19)) ?_
      walk_at "go"
      refine n_false rfl ?_
      walk_at "go"
      refine ⟨_, ts, 0, rfl, hts.ex E24, ok, l1, by omega, by decide, by decide, fun pc H25 e25 hpc hpc2 => ?_⟩
      walk_at "go"
      show tLstRg (tRg1 (tCB (rLenQ K) (tCons (tVar 2) tNil))) _ _ _
      refine g_lstRg ?_ ?_
      rotate_left
      · intro R S hRS hR
        obtain ⟨v, hv, p, xs, e1, e2, e3⟩ := hR
        exact ⟨v, hv, p, xs, e1, e2, hRS _ _ e3⟩
      walk_at "go"
      refine g_lenT (Evl.ex_t (E24.trans e25) ha2) ?_
      walk_at "go"
      refine ⟨us.length, rfl, by omega, fun pr H26 e26 hpr => ?_⟩
      walk_at "go"
      refine g_neLI (li_nat (e26 _ _ hpc2)) (li_nat hpr) ?_
      walk_at "go"
      refine n_false ?_ ?_
      · rw [Ma.cheap_zero ok, hul]
      · walk_at "go"
        exact ⟨_, _, _, _, _, _, _, _, _, _, _, _, _, _, rfl, e16.trans ((E24.trans e25).trans e26)⟩
end
end St
set_option maxHeartbeats 0
namespace St
open PySem PySem.Spec PyProof.Rows L2
def dd (x : Str) (i : Nat) : He.DefD := ⟨(x, none), x, x, defArgs (top i), defBody (top i), defScope (top i), [], []⟩
def dm (C m q : Str) (i j : Nat) : He.DefD := ⟨(C, some m), m, q, defArgs (inClass (top i) j), defBody (inClass (top i) j), defScope (inClass (top i) j), [], []⟩
def fn0 : List He.DefD := [dd "is_integer" 9, dd "is_row" 10, dd "are_rows" 11, dd "is_tariff" 12, dd "need_tariff" 13, dd "need_tariffs" 14, dd "need_length" 15, dd "day_price" 16, dd "stay_price" 17, dd "price" 18, dd "cheapest" 20, dd "is_best_somewhere" 21, dd "never_cheapest" 22, dd "finally_cheapest" 23, dd "excesses" 25, dd "never_dearer" 26, dd "_law_cell_at" 28, dd "_law_draws" 29, dd "_law_bag" 30, dd "_law_bags" 31, dd "_law_take" 32, dd "_law_far_draw" 33, dd "_law_tariff" 34, dd "_law_similar" 35, dd "law" 36]
def fn : List He.DefD := fn0
def fa0 : List He.Fa := [.glo "is_integer", .glo "is_row", .glo "are_rows", .glo "is_tariff", .glo "need_tariff", .glo "need_tariffs", .glo "need_length", .glo "day_price", .glo "stay_price", .glo "price", .glo "cheapest", .glo "is_best_somewhere", .glo "never_cheapest", .glo "finally_cheapest", .glo "excesses", .glo "never_dearer", .glo "_law_cell_at", .glo "_law_draws", .glo "_law_bag", .glo "_law_bags", .glo "_law_take", .glo "_law_far_draw", .glo "_law_tariff", .glo "_law_similar", .glo "law", .int "DAY" 96, .int "MAX_LENGTH" 1000000000000000, .int "MAX_PRICE" 1000000, .free "all", .free "any"]
def fa1 : List He.Fa := [.free "bool", .free "enumerate", .free "int", .free "isinstance", .free "len", .free "list", .free "max", .free "min", .free "range", .free "set", .free "sorted", .free "tuple", .free "zip"]
def fa : List He.Fa := fa0 ++ fa1
def loose0 : List Str := ["TariffError", "InvalidTariff", "InvalidLength", "InvalidTariffs", "DAY", "MAX_PRICE", "MAX_LENGTH", "is_integer", "is_row", "are_rows", "is_tariff", "need_tariff", "need_tariffs", "need_length", "day_price", "stay_price", "price", "cheapest", "is_best_somewhere", "never_cheapest", "finally_cheapest", "excesses", "never_dearer", "_law_cell_at", "_law_draws", "_law_bag", "_law_bags", "_law_take", "_law_far_draw", "_law_tariff"]
def loose1 : List Str := ["_law_similar"]
def loose : List Str := loose0 ++ loose1
abbrev R : PySem.W.OpenRow := PySem.W.OpenLaw.row PySem.Challenge.rw_staytariffs_k19_whole_the_cheapest_far_o
abbrev hk : PySem.W.Hook := He.hookD 5 fa fn
def ob (s : PySem.W.SharedT) : He.AlD := He.obsDG 5 fa fn (HandSHeadRun.getT s)
theorem ob_eq (s : PySem.W.SharedT) : ob s = hk.obs s.abs := He.obsDG_eq (HandSHeadRun.getT_eq s)
theorem run (w : World) : HandSHeadRun.RunEq R (PySem.W.view R.prog [36]) hk ob 6000 loose w := by
  intro os
  kernel_rfl
theorem txt {K : PySem.W.Frag} {h : Heap} {mg : Str → Option Value} (X : K.In h) (G : h.Ns mainGlobals mg) (c : He.SaysD fa fn K) : Txt K mg where
  g_is_integer := He.glo_ok X G (c.fact 0 rfl)
  g_is_row := He.glo_ok X G (c.fact 1 rfl)
  g_are_rows := He.glo_ok X G (c.fact 2 rfl)
  g_is_tariff := He.glo_ok X G (c.fact 3 rfl)
  g_need_tariff := He.glo_ok X G (c.fact 4 rfl)
  g_need_tariffs := He.glo_ok X G (c.fact 5 rfl)
  g_need_length := He.glo_ok X G (c.fact 6 rfl)
  g_day_price := He.glo_ok X G (c.fact 7 rfl)
  g_stay_price := He.glo_ok X G (c.fact 8 rfl)
  g_price := He.glo_ok X G (c.fact 9 rfl)
  g_cheapest := He.glo_ok X G (c.fact 10 rfl)
  g_is_best_somewhere := He.glo_ok X G (c.fact 11 rfl)
  g_never_cheapest := He.glo_ok X G (c.fact 12 rfl)
  g_finally_cheapest := He.glo_ok X G (c.fact 13 rfl)
  g_excesses := He.glo_ok X G (c.fact 14 rfl)
  g_never_dearer := He.glo_ok X G (c.fact 15 rfl)
  g__law_cell_at := He.glo_ok X G (c.fact 16 rfl)
  g__law_draws := He.glo_ok X G (c.fact 17 rfl)
  g__law_bag := He.glo_ok X G (c.fact 18 rfl)
  g__law_bags := He.glo_ok X G (c.fact 19 rfl)
  g__law_take := He.glo_ok X G (c.fact 20 rfl)
  g__law_far_draw := He.glo_ok X G (c.fact 21 rfl)
  g__law_tariff := He.glo_ok X G (c.fact 22 rfl)
  g__law_similar := He.glo_ok X G (c.fact 23 rfl)
  g_law := He.glo_ok X G (c.fact 24 rfl)
  i_DAY := He.int_ok X G (c.fact 25 rfl)
  i_MAX_LENGTH := He.int_ok X G (c.fact 26 rfl)
  i_MAX_PRICE := He.int_ok X G (c.fact 27 rfl)
  n_all := He.free_ok X G (c.fact 28 rfl)
  n_any := He.free_ok X G (c.fact 29 rfl)
  n_bool := He.free_ok X G (c.fact 30 rfl)
  n_enumerate := He.free_ok X G (c.fact 31 rfl)
  n_int := He.free_ok X G (c.fact 32 rfl)
  n_isinstance := He.free_ok X G (c.fact 33 rfl)
  n_len := He.free_ok X G (c.fact 34 rfl)
  n_list := He.free_ok X G (c.fact 35 rfl)
  n_max := He.free_ok X G (c.fact 36 rfl)
  n_min := He.free_ok X G (c.fact 37 rfl)
  n_range := He.free_ok X G (c.fact 38 rfl)
  n_set := He.free_ok X G (c.fact 39 rfl)
  n_sorted := He.free_ok X G (c.fact 40 rfl)
  n_tuple := He.free_ok X G (c.fact 41 rfl)
  n_zip := He.free_ok X G (c.fact 42 rfl)
  f_is_integer := Sy.fd_of (c.def_ 0 (d := dd "is_integer" 9) rfl)
  f_is_row := Sy.fd_of (c.def_ 1 (d := dd "is_row" 10) rfl)
  f_are_rows := Sy.fd_of (c.def_ 2 (d := dd "are_rows" 11) rfl)
  f_is_tariff := Sy.fd_of (c.def_ 3 (d := dd "is_tariff" 12) rfl)
  f_need_tariff := Sy.fd_of (c.def_ 4 (d := dd "need_tariff" 13) rfl)
  f_need_tariffs := Sy.fd_of (c.def_ 5 (d := dd "need_tariffs" 14) rfl)
  f_need_length := Sy.fd_of (c.def_ 6 (d := dd "need_length" 15) rfl)
  f_day_price := Sy.fd_of (c.def_ 7 (d := dd "day_price" 16) rfl)
  f_stay_price := Sy.fd_of (c.def_ 8 (d := dd "stay_price" 17) rfl)
  f_price := Sy.fd_of (c.def_ 9 (d := dd "price" 18) rfl)
  f_cheapest := Sy.fd_of (c.def_ 10 (d := dd "cheapest" 20) rfl)
  f_is_best_somewhere := Sy.fd_of (c.def_ 11 (d := dd "is_best_somewhere" 21) rfl)
  f_never_cheapest := Sy.fd_of (c.def_ 12 (d := dd "never_cheapest" 22) rfl)
  f_finally_cheapest := Sy.fd_of (c.def_ 13 (d := dd "finally_cheapest" 23) rfl)
  f_excesses := Sy.fd_of (c.def_ 14 (d := dd "excesses" 25) rfl)
  f_never_dearer := Sy.fd_of (c.def_ 15 (d := dd "never_dearer" 26) rfl)
  f__law_cell_at := Sy.fd_of (c.def_ 16 (d := dd "_law_cell_at" 28) rfl)
  f__law_draws := Sy.fd_of (c.def_ 17 (d := dd "_law_draws" 29) rfl)
  f__law_bag := Sy.fd_of (c.def_ 18 (d := dd "_law_bag" 30) rfl)
  f__law_bags := Sy.fd_of (c.def_ 19 (d := dd "_law_bags" 31) rfl)
  f__law_take := Sy.fd_of (c.def_ 20 (d := dd "_law_take" 32) rfl)
  f__law_far_draw := Sy.fd_of (c.def_ 21 (d := dd "_law_far_draw" 33) rfl)
  f__law_tariff := Sy.fd_of (c.def_ 22 (d := dd "_law_tariff" 34) rfl)
  f__law_similar := Sy.fd_of (c.def_ 23 (d := dd "_law_similar" 35) rfl)
  f_law := Sy.fd_of (c.def_ 24 (d := dd "law" 36) rfl)
theorem facts {P : Program} {w : World} {K : PySem.W.Frag} {h : Heap} {mg : Str → Option Value} {f : Addr} (X : K.In h) (G : h.Ns mainGlobals mg) (hfa : mg ("law" : Str) = some (.ref f)) (c : He.SaysD fa fn K) :
    ∃ fd : FuncData, (∀ (s : Shared) (v : Value), BindsTo s fd ⟨[v], []⟩ [("_law_script", v)]) ∧ ∀ base : Heap, K.In base → base.Ns mainGlobals mg → FnOk P w K mg base CX0 7 f fd ["_law_script"] (sp_law K) := by
  have T := txt X G c
  have e := hfa.symm.trans (He.glo_ok X G (c.fact 24 rfl))
  cases e
  have b := FunD.bindsA (ps := ["_law_script"]) T.f_law fun _ _ _ _ _ _ us hl => match us, hl with | [_], _ => rfl
  exact ⟨_, fun s v => b s [v] rfl, fun base _ _ => ok_law T⟩
end St
open PySem PySem.W PySem.Calls PyProof.Rows
theorem PySem.Challenge.cw_staytariffs_k19_whole_the_cheapest_far_o_holds : PySem.Challenge.rw_staytariffs_k19_whole_the_cheapest_far_o.Holds := by
  w_on; o_law
  refine HandSHeadRun.head_any (r := OpenLaw.row PySem.Challenge.rw_staytariffs_k19_whole_the_cheapest_far_o) (q := view (OpenLaw.row PySem.Challenge.rw_staytariffs_k19_whole_the_cheapest_far_o).prog [36]) (H := St.hk) (ob := St.ob) (M := 6000) (loose := St.loose) (d := HandSHeadRun.topDef (OpenLaw.row PySem.Challenge.rw_staytariffs_k19_whole_the_cheapest_far_o).prog 36) (kwd := []) St.ob_eq
    (by kernel_rfl) (fun s => by kernel_rfl) St.run (by kernel_rfl) (by kernel_rfl) (by kernel_rfl) (by rfl) (by first | assumption | decide +kernel) (by decide +kernel) ⟨rfl, rfl, rfl, rfl, rfl, by decide +kernel⟩ ?hw ?hc
  case hw => w_witness2
  case hc =>
    refine L2.walk_ofE (l := PySem.Challenge.rw_staytariffs_k19_whole_the_cheapest_far_o) (n := 63) (k := 7) (x := "_law_script") (CX := L2.CX0) rfl (by decide) (by kernel_rfl) ⟨rfl, by decide, by decide⟩ ?F (fun _ _ _ _ z => z)
    intro w mg fa h Y G hmg0
    obtain ⟨K, KX, c⟩ := Y
    have hmg : mg ("law" : PySem.Str) = some (.ref fa) := by
      have e : (HandSHeadRun.topDef (OpenLaw.row PySem.Challenge.rw_staytariffs_k19_whole_the_cheapest_far_o).prog 36).name = ("law" : PySem.Str) := by kernel_rfl
      rw [← e]
      exact hmg0
    obtain ⟨fd, hb, hF⟩ := St.facts (P := (PySem.Challenge.rw_staytariffs_k19_whole_the_cheapest_far_o).prog) (w := w) KX G hmg c
    exact ⟨K, fd, St.sp_law K, KX, hb, fun H a ns hl _ hS => ⟨a, ns, rfl, hS, fun _ _ => rfl⟩, hF⟩


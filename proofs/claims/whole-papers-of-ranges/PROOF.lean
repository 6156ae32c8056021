import PyProof.Rows.All
import Wide.All
import OpenK.AllK
import Wide.FinOn
import HandS.ForMost
import HandS.Property
import HandS.Defaults
import HandS.MakeKwOnly
import PySem.Challenge.RW_waypapers_k77_whole_papers_of_ranges_are
import HandS.Deep
import HandS.Walk
import HandS.TupAny
import HandS.SortKw
import KE.GoesMore
import KE.GoesEnum
import KE.SortData
import KE.SortKeyHeap
import HandS.NoneIn
import HandS.Style
set_option Elab.async false
set_option linter.all false
set_option maxRecDepth 100000
set_option maxHeartbeats 4000000
/-! The plain law: roads, entering, labels, what a paper shows. No program in sight. -/
namespace Wp
open PySem

structure Road where
  name : Str
  start : Str
  stop : Str
  mins : Int
  kinds : List Str
  hours : Option (List (Int × Int))

structure Parts where
  day : Int
  places : List Str
  kinds : List Str
  roads : List Road
  bars : List (Str × Str)

/-! ### hours and entering -/
/-- pairs of a day, ascending and apart, all behind b -/
def Asc (day : Int) : Int → List (Int × Int) → Prop
  | _, [] => True
  | b, p :: ps => b < p.1 ∧ p.1 < p.2 ∧ p.2 ≤ day ∧ Asc day p.2 ps

def HoursOk (day : Int) : Option (List (Int × Int)) → Prop
  | none => True
  | some ps => ps.length ≤ 3 ∧ Asc day (-1) ps

/-- the first pair that is not over, or the next day's first opening fb; x the minute -/
def entX (day x fb : Int) : List (Int × Int) → Int
  | [] => day + fb
  | p :: ps => if x < p.2 then (if p.1 > x then p.1 else x) else entX day x fb ps

theorem entX_nil (day x fb : Int) : entX day x fb [] = day + fb := rfl
theorem entX_cons (day x fb : Int) (p : Int × Int) (ps : List (Int × Int)) : entX day x fb (p :: ps) = if x < p.2 then (if p.1 > x then p.1 else x) else entX day x fb ps := rfl

def fbOf : List (Int × Int) → Int
  | [] => 0
  | p :: _ => p.1

def ent (day : Int) (hs : Option (List (Int × Int))) (m : Int) : Int :=
  match hs with
  | none => m
  | some ps => m - m % day + entX day (m % day) (fbOf ps) ps

def arr (day : Int) (r : Road) (m : Int) : Int := ent day r.hours m + r.mins

theorem Asc.weaken {day : Int} : ∀ {ps : List (Int × Int)} {b b' : Int}, b' ≤ b → Asc day b ps → Asc day b' ps
  | [], _, _, _, _ => trivial
  | _ :: _, _, _, h, ⟨h1, h2, h3, h4⟩ => ⟨by omega, h2, h3, h4⟩

theorem entX_ge {day x fb : Int} (hx : x < day) (hf : 0 ≤ fb) : ∀ (ps : List (Int × Int)), x ≤ entX day x fb ps
  | [] => by unfold entX; omega
  | p :: ps => by
    unfold entX
    have := entX_ge hx hf ps
    split
    · split <;> omega
    · exact this
/-- not ahead of the first opening that may come -/
theorem entX_lo {day x fb c : Int} (hc : c ≤ day + fb) : ∀ {ps : List (Int × Int)} {b : Int}, c ≤ b + 1 → Asc day b ps → c ≤ entX day x fb ps
  | [], _, _, _ => by unfold entX; exact hc
  | p :: ps, b, h, ⟨h1, h2, h3, h4⟩ => by
    unfold entX
    have := entX_lo hc (ps := ps) (b := p.2) (by omega) h4 (x := x)
    split
    · split <;> omega
    · exact this
theorem entX_hi {day x fb : Int} (hx : x < day) (hf : 0 ≤ fb) : ∀ {ps : List (Int × Int)} {b : Int}, Asc day b ps → entX day x fb ps ≤ day + fb
  | [], _, _ => by unfold entX; omega
  | p :: ps, b, ⟨h1, h2, h3, h4⟩ => by
    unfold entX
    have := entX_hi hx hf (ps := ps) h4
    split
    · split <;> omega
    · exact this
theorem entX_mono {day x y fb : Int} (hxy : x ≤ y) (hy : y < day) (hf : 0 ≤ fb) : ∀ {ps : List (Int × Int)} {b : Int}, Asc day b ps → entX day x fb ps ≤ entX day y fb ps
  | [], _, _ => by unfold entX; omega
  | p :: ps, b, ⟨h1, h2, h3, h4⟩ => by
    unfold entX
    have ih := entX_mono hxy hy hf (ps := ps) h4
    have lo := entX_lo (x := y) (fb := fb) (c := p.2) (by omega) (ps := ps) (b := p.2) (by omega) h4
    split
    · split
      · split
        · split <;> omega
        · omega
      · split
        · split <;> omega
        · omega
    · split
      · omega
      · exact ih

theorem Asc.fb {day : Int} {ps : List (Int × Int)} (h : Asc day (-1) ps) : 0 ≤ fbOf ps := by
  cases ps with
  | nil => exact Int.le_refl _
  | cons p ps => obtain ⟨h1, _⟩ := h; show 0 ≤ p.1; omega
theorem Asc.fbd {day : Int} (hd : 0 < day) {ps : List (Int × Int)} (h : Asc day (-1) ps) : fbOf ps < day := by
  cases ps with
  | nil => exact hd
  | cons p ps => obtain ⟨h1, h2, h3, _⟩ := h; show p.1 < day; omega
theorem entX_fb {day x : Int} (hd : 0 < day) {ps : List (Int × Int)} (h : Asc day (-1) ps) : fbOf ps ≤ entX day x (fbOf ps) ps := by
  cases ps with
  | nil => unfold entX fbOf; omega
  | cons p ps =>
    obtain ⟨h1, h2, h3, h4⟩ := h
    show p.1 ≤ entX day x p.1 (p :: ps)
    unfold entX
    have lo := entX_lo (x := x) (fb := p.1) (c := p.1) (by omega) (ps := ps) (b := p.2) (by omega) h4
    split
    · split <;> omega
    · exact lo

theorem ent_ge {day : Int} (hd : 0 < day) {hs : Option (List (Int × Int))} (h : HoursOk day hs) (m : Int) : m ≤ ent day hs m := by
  cases hs with
  | none => exact Int.le_refl _
  | some ps =>
    have := entX_ge (fb := fbOf ps) (Int.emod_lt_of_pos m hd) (Asc.fb h.2) ps
    show m ≤ m - m % day + entX day (m % day) (fbOf ps) ps
    omega
theorem ent_mono {day : Int} (hd : 0 < day) {hs : Option (List (Int × Int))} (h : HoursOk day hs) {m n : Int} (hmn : m ≤ n) : ent day hs m ≤ ent day hs n := by
  cases hs with
  | none => exact hmn
  | some ps =>
    have e1 := Int.mul_ediv_add_emod m day
    have e2 := Int.mul_ediv_add_emod n day
    have l1 := Int.emod_nonneg m (Int.ne_of_gt hd)
    have l2 := Int.emod_lt_of_pos m hd
    have k1 := Int.emod_nonneg n (Int.ne_of_gt hd)
    have k2 := Int.emod_lt_of_pos n hd
    show m - m % day + entX day (m % day) (fbOf ps) ps ≤ n - n % day + entX day (n % day) (fbOf ps) ps
    have hq : m / day ≤ n / day := Int.ediv_le_ediv hd hmn
    rcases Int.lt_or_eq_of_le hq with hlt | heq
    · have hm1 : day * (m / day) + day ≤ day * (n / day) := by
        have : day * (m / day + 1) ≤ day * (n / day) := Int.mul_le_mul_of_nonneg_left (by omega) (Int.le_of_lt hd)
        rw [Int.mul_add, Int.mul_one] at this
        exact this
      have a := entX_hi (x := m % day) l2 (Asc.fb h.2) h.2
      have b := entX_fb (x := n % day) hd h.2
      omega
    · rw [heq] at e1
      have a := entX_mono (x := m % day) (y := n % day) (by omega) k2 (Asc.fb h.2) h.2
      omega

/-! ### roads that may be driven, labels -/
def May (P : Parts) (k place : Str) (before : Option Str) (r : Road) : Prop :=
  r.start = place ∧ k ∈ r.kinds ∧ r.hours ≠ some [] ∧ ∀ b, before = some b → (b, r.name) ∉ P.bars

structure RoadOk (P : Parts) (r : Road) : Prop where
  mins : 1 ≤ r.mins ∧ r.mins ≤ 1000
  hours : HoursOk P.day r.hours

/-- what the walk keeps of a map -/
structure Good (P : Parts) : Prop where
  day : 0 < P.day
  roads : ∀ r ∈ P.roads, RoadOk P r
  names : (P.roads.map (·.name)).Nodup

theorem arr_gt {P : Parts} (G : Good P) {r : Road} (hr : r ∈ P.roads) (m : Int) : m < arr P.day r m := by
  have := ent_ge G.day (G.roads r hr).hours m
  have := (G.roads r hr).mins
  unfold arr
  omega
theorem arr_mono {P : Parts} (G : Good P) {r : Road} (hr : r ∈ P.roads) {m n : Int} (h : m ≤ n) : arr P.day r m ≤ arr P.day r n := by
  have := ent_mono G.day (G.roads r hr).hours h
  unfold arr
  omega

/-- v is an arrival at the end of r by some route -/
inductive Lab (P : Parts) (k s : Str) (m : Int) : Road → Int → Prop
  | base {r : Road} : r ∈ P.roads → May P k s none r → Lab P k s m r (arr P.day r m)
  | step {r o : Road} {v : Int} : Lab P k s m r v → o ∈ P.roads → May P k r.stop (some r.name) o → Lab P k s m o (arr P.day o v)

theorem Lab.mem {P : Parts} {k s : Str} {m : Int} {r : Road} {v : Int} (h : Lab P k s m r v) : r ∈ P.roads := by
  cases h with
  | base h _ => exact h
  | step _ h _ => exact h
theorem Lab.gt {P : Parts} (G : Good P) {k s : Str} {m : Int} {r : Road} {v : Int} (h : Lab P k s m r v) : m < v := by
  induction h with
  | base h _ => exact arr_gt G h m
  | step _ h _ ih => exact Int.lt_trans ih (arr_gt G h _)

/-- the least arrival at the end of a road -/
theorem Lab.least {P : Parts} (G : Good P) {k s : Str} {m : Int} {r : Road} : ∀ (n : Nat) {v : Int}, (v - m).toNat ≤ n → Lab P k s m r v → ∃ d, Lab P k s m r d ∧ d ≤ v ∧ ∀ v', Lab P k s m r v' → d ≤ v'
  | 0, v, hn, h => by
    have := h.gt G
    omega
  | n + 1, v, hn, h => by
    by_cases hx : ∃ v', Lab P k s m r v' ∧ v' < v
    · obtain ⟨v', h', lt⟩ := hx
      have := h'.gt G
      obtain ⟨d, a, b, c⟩ := Lab.least G n (v := v') (by omega) h'
      exact ⟨d, a, by omega, c⟩
    · exact ⟨v, h, Int.le_refl _, fun v' h' => Int.not_lt.mp fun z => hx ⟨v', h', z⟩⟩

/-! ### tables: pairs of a name and an integer -/
abbrev Tab := List (Str × Int)
def get (D : Tab) (n : Str) : Option Int := D.lookup n

/-- a table of arrivals: each is one -/
def Sound (P : Parts) (k s : Str) (m : Int) (D : Tab) : Prop := ∀ n v, get D n = some v → ∃ r, r ∈ P.roads ∧ r.name = n ∧ Lab P k s m r v
/-- and none is missed or later -/
def Full (P : Parts) (k s : Str) (m : Int) (D : Tab) : Prop := ∀ r v, Lab P k s m r v → ∃ v', v' ≤ v ∧ get D r.name = some v'
/-- nothing is lost, nothing grows -/
def Le (D E : Tab) : Prop := ∀ n v, get D n = some v → ∃ v', v' ≤ v ∧ get E n = some v'
theorem Le.refl (D : Tab) : Le D D := fun _ v h => ⟨v, Int.le_refl _, h⟩
theorem Le.trans {D E F : Tab} (a : Le D E) (b : Le E F) : Le D F := fun n v h => by
  obtain ⟨v', h1, h2⟩ := a n v h
  obtain ⟨v'', h3, h4⟩ := b n v' h2
  exact ⟨v'', by omega, h4⟩

/-- the roads whose ends are come to ahead of v -/
noncomputable def rank (P : Parts) (k s : Str) (m v : Int) : Nat := by
  classical
  exact P.roads.countP fun r => decide (∃ v', Lab P k s m r v' ∧ v' < v)

theorem countP_lt {α : Type} {p q : α → Bool} : ∀ {l : List α} {a : α}, a ∈ l → (∀ x, p x = true → q x = true) → q a = true → p a = false → l.countP p < l.countP q
  | x :: l, a, hm, h, hq, hp => by
    rw [List.countP_cons, List.countP_cons]
    have hle : l.countP p ≤ l.countP q := List.countP_mono_left fun x _ => h x
    rcases List.mem_cons.mp hm with rfl | hm
    · rw [if_pos hq, if_neg (by rw [hp]; exact Bool.false_ne_true)]
      omega
    · have ih := countP_lt hm h hq hp
      by_cases hpx : p x = true
      · rw [if_pos hpx, if_pos (h x hpx)]
        omega
      · rw [if_neg hpx]
        split <;> omega

theorem rank_le (P : Parts) (k s : Str) (m v : Int) : rank P k s m v ≤ P.roads.length := by
  unfold rank
  exact List.countP_le_length

/-- D t is the table behind t rounds -/
theorem full_of_rounds {P : Parts} (G : Good P) {k s : Str} {m : Int} (D : Nat → Tab)
    (h0 : ∀ r ∈ P.roads, May P k s none r → ∃ v', v' ≤ arr P.day r m ∧ get (D 0) r.name = some v')
    (hle : ∀ t, Le (D t) (D (t + 1)))
    (hs : ∀ t r v, r ∈ P.roads → get (D t) r.name = some v → ∀ o ∈ P.roads, May P k r.stop (some r.name) o → ∃ v', v' ≤ arr P.day o v ∧ get (D (t + 1)) o.name = some v') :
    Full P k s m (D P.roads.length) := by
  have hle0 : ∀ t, Le (D 0) (D t) := fun t => by
    induction t with
    | zero => exact Le.refl _
    | succ t ih => exact ih.trans (hle t)
  classical
  have main : ∀ t r v, Lab P k s m r v → rank P k s m v ≤ t → ∃ v', v' ≤ v ∧ get (D t) r.name = some v' := by
    intro t
    induction t with
    | zero =>
      intro r v h hr
      cases h with
      | base h hm => exact h0 r h hm
      | @step r' o v' h hm hy =>
        exfalso
        have : 0 < rank P k s m (arr P.day r v') := by
          unfold rank
          refine List.countP_pos_iff.mpr ⟨r', h.mem, ?_⟩
          exact decide_eq_true ⟨v', h, arr_gt G hm v'⟩
        omega
    | succ t ih =>
      intro r v h hr
      cases h with
      | base h hm =>
        obtain ⟨v', h1, h2⟩ := h0 r h hm
        obtain ⟨v'', h3, h4⟩ := hle0 (t + 1) _ _ h2
        exact ⟨v'', by omega, h4⟩
      | @step r' o v' h hm hy =>
        obtain ⟨d, hd, hdv, hmin⟩ := h.least G _ (Nat.le_refl _)
        have hlt : rank P k s m d < rank P k s m (arr P.day r v') := by
          have g1 := arr_gt G hm v'
          unfold rank
          refine countP_lt h.mem (fun x hx => ?_) (decide_eq_true ⟨v', h, g1⟩) (decide_eq_false fun ⟨v'', a, b⟩ => ?_)
          · obtain ⟨v'', a, b⟩ := of_decide_eq_true hx
            exact decide_eq_true ⟨v'', a, by omega⟩
          · have := hmin v'' a
            omega
        obtain ⟨c, h1, h2⟩ := ih r' d hd (by omega)
        obtain ⟨c', h3, h4⟩ := hs t r' c h.mem h2 r hm hy
        have := arr_mono G hm (show c ≤ v' by omega)
        exact ⟨c', by omega, h4⟩
  exact fun r v h => main _ r v h (rank_le P k s m v)

/-! ### what a paper shows -/
/-- a road needs no label behind a moment, or has one that is not above its arrival -/
def IsLab (P : Parts) (k : Str) (L : Tab) (bound : Int) (place : Str) (t : Int) (before : Option Str) (r : Road) : Prop :=
  May P k place before r → arr P.day r t > bound ∨ ∃ l, get L r.name = some l ∧ l ≤ arr P.day r t

structure Shows (P : Parts) (k s : Str) (m bound : Int) (places : List Str) (L : Tab) : Prop where
  start : s ∈ places
  base : ∀ r ∈ P.roads, r.start = s → IsLab P k L bound s m none r
  end_ : ∀ r ∈ P.roads, ∀ l, get L r.name = some l → l ≤ bound → r.stop ∈ places
  step : ∀ r ∈ P.roads, ∀ l, get L r.name = some l → l ≤ bound → ∀ o ∈ P.roads, o.start = r.stop → IsLab P k L bound r.stop l (some r.name) o

theorem Shows.sound {P : Parts} (G : Good P) {k s : Str} {m bound : Int} {places : List Str} {L : Tab} (S : Shows P k s m bound places L) {r : Road} {v : Int} (h : Lab P k s m r v) :
    v > bound ∨ ∃ l, get L r.name = some l ∧ l ≤ v := by
  induction h with
  | base h hm => exact S.base _ h hm.1 hm
  | @step r o v h hm hy ih =>
    rcases ih with hv | ⟨l, h1, h2⟩
    · have := arr_gt G hm v
      exact .inl (by omega)
    · by_cases hb : l ≤ bound
      · have mo := arr_mono G hm h2
        rcases S.step r h.mem l h1 hb o hm hy.1 hy with hv | ⟨l', h3, h4⟩
        · exact .inl (by omega)
        · exact .inr ⟨l', h3, by omega⟩
      · have := arr_gt G hm v
        exact .inl (by omega)
/-- no place is missed -/
theorem Shows.place {P : Parts} (G : Good P) {k s : Str} {m bound : Int} {places : List Str} {L : Tab} (S : Shows P k s m bound places L) {r : Road} {v : Int} (h : Lab P k s m r v) (hv : v ≤ bound) : r.stop ∈ places := by
  rcases S.sound G h with h1 | ⟨l, h1, h2⟩
  · omega
  · exact S.end_ r h.mem l h1 (by omega)
/-- the earliest arrivals, with all places, show it -/
theorem shows_exact {P : Parts} {k s : Str} {m bound : Int} {D : Tab} (hs : Sound P k s m D) (hf : Full P k s m D) (hn : (P.roads.map (·.name)).Nodup) (places : List Str) (h1 : s ∈ places) (h2 : ∀ r ∈ P.roads, r.stop ∈ places) : Shows P k s m bound places D where
  start := h1
  base := fun r hr _ hm => by
    obtain ⟨v, a, b⟩ := hf r _ (.base hr hm)
    exact .inr ⟨v, b, a⟩
  end_ := fun r hr _ _ _ => h2 r hr
  step := fun r hr l hl _ o ho _ hm => by
    obtain ⟨r', hr', en, hL⟩ := hs _ _ hl
    have : r' = r := by
      have inj : ∀ {l : List Road}, (l.map (·.name)).Nodup → ∀ {a b : Road}, a ∈ l → b ∈ l → a.name = b.name → a = b := by
        intro l
        induction l with
        | nil => intro _ a b ha; cases ha
        | cons x l ih =>
          intro hn a b ha hb e
          rw [List.map_cons, List.nodup_cons] at hn
          rcases List.mem_cons.mp ha with ea | ha1 <;> rcases List.mem_cons.mp hb with eb | hb1
          · rw [ea, eb]
          · exact (hn.1 (List.mem_map.mpr ⟨b, hb1, by rw [← e, ea]⟩)).elim
          · exact (hn.1 (List.mem_map.mpr ⟨a, ha1, by rw [e, eb]⟩)).elim
          · exact ih hn.2 ha1 hb1 e
      exact inj hn hr' hr en
    subst this
    obtain ⟨v, a, b⟩ := hf o _ (.step hL ho hm)
    exact .inr ⟨v, b, a⟩
end Wp
/-! The text by places: each def, its names by slot, its function object. Printed by gen_text.py. -/
namespace Wp
open PySem PySem.Spec PyProof.Rows L2
def top (i : Nat) : Stmt := PySem.Challenge.pw_waypapers_k77_whole_papers_of_ranges_are.main.body.getD i (.Pass ⟨0, 0, 0, 0⟩)
abbrev s_check_kind : Stmt := top 6
abbrev N_check_kind : List Str := ["chart", "kind"]
theorem sc_check_kind : FnScope N_check_kind ["chart", "kind"] (defScope s_check_kind) := ⟨rfl, rfl, rfl, by decide +kernel, rfl, by decide +kernel, by decide +kernel⟩
abbrev s_check_trip : Stmt := top 7
abbrev N_check_trip : List Str := ["chart", "kind", "start"]
theorem sc_check_trip : FnScope N_check_trip ["chart", "kind", "start"] (defScope s_check_trip) := ⟨rfl, rfl, rfl, by decide +kernel, rfl, by decide +kernel, by decide +kernel⟩
abbrev s_enter : Stmt := top 8
abbrev N_enter : List Str := ["chart", "name", "moment", "hours", "minute", "opened", "closed"]
theorem sc_enter : FnScope N_enter ["chart", "name", "moment"] (defScope s_enter) := ⟨rfl, rfl, rfl, by decide +kernel, rfl, by decide +kernel, by decide +kernel⟩
abbrev s_arrive : Stmt := top 9
abbrev N_arrive : List Str := ["chart", "name", "moment", "entered"]
theorem sc_arrive : FnScope N_arrive ["chart", "name", "moment"] (defScope s_arrive) := ⟨rfl, rfl, rfl, by decide +kernel, rfl, by decide +kernel, by decide +kernel⟩
abbrev s_is_drivable : Stmt := top 10
abbrev N_is_drivable : List Str := ["chart", "kind", "place", "before", "name", "road"]
theorem sc_is_drivable : FnScope N_is_drivable ["chart", "kind", "place", "before", "name"] (defScope s_is_drivable) := ⟨rfl, rfl, rfl, by decide +kernel, rfl, by decide +kernel, by decide +kernel⟩
abbrev s_least_labels : Stmt := top 12
abbrev N_least_labels : List Str := ["chart", "paper", "found", "name", "label"]
theorem sc_least_labels : FnScope N_least_labels ["chart", "paper"] (defScope s_least_labels) := ⟨rfl, rfl, rfl, by decide +kernel, rfl, by decide +kernel, by decide +kernel⟩
abbrev s_check_range : Stmt := top 13
abbrev N_check_range : List Str := ["chart", "kind", "start", "moment", "minutes", "places", "paper", "place", "least", "bound", "name", "label", "end", "behind", "other"]
theorem sc_check_range : FnScope N_check_range ["chart", "kind", "start", "moment", "minutes", "places", "paper"] (defScope s_check_range) := ⟨rfl, rfl, rfl, by decide +kernel, rfl, by decide +kernel, by decide +kernel⟩
abbrev s_is_labelled : Stmt := top 14
abbrev N_is_labelled : List Str := ["chart", "kind", "least", "bound", "place", "moment", "name", "before", "arrival"]
theorem sc_is_labelled : FnScope N_is_labelled ["chart", "kind", "least", "bound", "place", "moment", "name", "before"] (defScope s_is_labelled) := ⟨rfl, rfl, rfl, by decide +kernel, rfl, by decide +kernel, by decide +kernel⟩
abbrev s_is_name : Stmt := top 26
abbrev N_is_name : List Str := ["text", "char"]
theorem sc_is_name : FnScope N_is_name ["text"] (defScope s_is_name) := ⟨rfl, rfl, rfl, by decide +kernel, rfl, by decide +kernel, by decide +kernel⟩
abbrev s_are_different : Stmt := top 27
abbrev N_are_different : List Str := ["parts", "number", "part"]
theorem sc_are_different : FnScope N_are_different ["parts"] (defScope s_are_different) := ⟨rfl, rfl, rfl, by decide +kernel, rfl, by decide +kernel, by decide +kernel⟩
abbrev s_are_hours : Stmt := top 28
abbrev N_are_hours : List Str := ["hours", "day", "before", "opened", "closed"]
theorem sc_are_hours : FnScope N_are_hours ["hours", "day"] (defScope s_are_hours) := ⟨rfl, rfl, rfl, by decide +kernel, rfl, by decide +kernel, by decide +kernel⟩
abbrev s_name_of : Stmt := top 29
abbrev N_name_of : List Str := ["road"]
theorem sc_name_of : FnScope N_name_of ["road"] (defScope s_name_of) := ⟨rfl, rfl, rfl, by decide +kernel, rfl, by decide +kernel, by decide +kernel⟩
abbrev s_require : Stmt := top 30
abbrev N_require : List Str := ["holds"]
theorem sc_require : FnScope N_require ["holds"] (defScope s_require) := ⟨rfl, rfl, rfl, by decide +kernel, rfl, by decide +kernel, by decide +kernel⟩
abbrev s_init : Stmt := inClass (top 31) 0
abbrev N_init : List Str := ["self", "day", "kinds", "places", "roads", "bars", "place", "kind", "road", "bar"]
theorem sc_init : FnScope N_init ["self", "day", "kinds", "places", "roads", "bars"] (defScope s_init) := ⟨rfl, rfl, rfl, by decide +kernel, rfl, by decide +kernel, by decide +kernel⟩
abbrev s_checked : Stmt := inClass (top 31) 1
abbrev N_checked : List Str := ["self", "road", "name", "start", "end", "minutes", "kinds", "hours", "ordered", "kind", "pair"]
theorem sc_checked : FnScope N_checked ["self", "road"] (defScope s_checked) := ⟨rfl, rfl, rfl, by decide +kernel, rfl, by decide +kernel, by decide +kernel⟩
abbrev s_checked_bar : Stmt := inClass (top 31) 2
abbrev N_checked_bar : List Str := ["self", "bar"]
theorem sc_checked_bar : FnScope N_checked_bar ["self", "bar"] (defScope s_checked_bar) := ⟨rfl, rfl, rfl, by decide +kernel, rfl, by decide +kernel, by decide +kernel⟩
abbrev s_road_names : Stmt := inClass (top 31) 3
abbrev N_road_names : List Str := ["self", "road"]
theorem sc_road_names : FnScope N_road_names ["self"] (defScope s_road_names) := ⟨rfl, rfl, rfl, by decide +kernel, rfl, by decide +kernel, by decide +kernel⟩
abbrev s_road : Stmt := inClass (top 31) 4
abbrev N_road : List Str := ["self", "name", "road"]
theorem sc_road : FnScope N_road ["self", "name"] (defScope s_road) := ⟨rfl, rfl, rfl, by decide +kernel, rfl, by decide +kernel, by decide +kernel⟩
abbrev s_check_place : Stmt := inClass (top 31) 5
abbrev N_check_place : List Str := ["self", "place"]
theorem sc_check_place : FnScope N_check_place ["self", "place"] (defScope s_check_place) := ⟨rfl, rfl, rfl, by decide +kernel, rfl, by decide +kernel, by decide +kernel⟩
abbrev s_roads_from : Stmt := inClass (top 31) 6
abbrev N_roads_from : List Str := ["self", "place", "road"]
theorem sc_roads_from : FnScope N_roads_from ["self", "place"] (defScope s_roads_from) := ⟨rfl, rfl, rfl, by decide +kernel, rfl, by decide +kernel, by decide +kernel⟩
abbrev s_is_barred : Stmt := inClass (top 31) 8
abbrev N_is_barred : List Str := ["self", "first", "second"]
theorem sc_is_barred : FnScope N_is_barred ["self", "first", "second"] (defScope s_is_barred) := ⟨rfl, rfl, rfl, by decide +kernel, rfl, by decide +kernel, by decide +kernel⟩
abbrev s_l_row : Stmt := top 33
abbrev N_l_row : List Str := ["_law_cell", "_law_many", "_law_row_here", "_law_rest", "_law_mixed", "_law_k"]
theorem sc_l_row : FnScope N_l_row ["_law_cell", "_law_many"] (defScope s_l_row) := ⟨rfl, rfl, rfl, by decide +kernel, rfl, by decide +kernel, by decide +kernel⟩
abbrev s_l_numbers : Stmt := top 34
abbrev N_l_numbers : List Str := ["_law_script", "_law_many", "_law_cells", "_law_each", "_law_numbers_here", "_law_cell", "_law_number"]
theorem sc_l_numbers : FnScope N_l_numbers ["_law_script", "_law_many"] (defScope s_l_numbers) := ⟨rfl, rfl, rfl, by decide +kernel, rfl, by decide +kernel, by decide +kernel⟩
abbrev s_l_names : Stmt := top 35
abbrev N_l_names : List Str := ["_law_number", "_law_many", "_law_letters", "_law_size", "_law_k", "_law_rest", "_law_place", "_law_names_here", "_law_own", "_law_spot", "_law_step"]
theorem sc_l_names : FnScope N_l_names ["_law_number", "_law_many"] (defScope s_l_names) := ⟨rfl, rfl, rfl, by decide +kernel, rfl, by decide +kernel, by decide +kernel⟩
abbrev s_l_some : Stmt := top 36
abbrev N_l_some : List Str := ["_law_number", "_law_rights", "_law_found", "_law_rest", "_law_right"]
theorem sc_l_some : FnScope N_l_some ["_law_number", "_law_rights"] (defScope s_l_some) := ⟨rfl, rfl, rfl, by decide +kernel, rfl, by decide +kernel, by decide +kernel⟩
abbrev s_l_hours : Stmt := top 37
abbrev N_l_hours : List Str := ["_law_numbers_here", "_law_at", "_law_day", "_law_kind", "_law_pairs", "_law_last", "_law_k", "_law_opened", "_law_closed"]
theorem sc_l_hours : FnScope N_l_hours ["_law_numbers_here", "_law_at", "_law_day"] (defScope s_l_hours) := ⟨rfl, rfl, rfl, by decide +kernel, rfl, by decide +kernel, by decide +kernel⟩
abbrev s_l_map : Stmt := top 38
abbrev N_l_map : List Str := ["_law_numbers_here", "_law_at", "_law_day", "_law_places", "_law_kinds", "_law_names_here", "_law_roads", "_law_k", "_law_spot", "_law_start", "_law_end", "_law_minutes", "_law_used", "_law_bars", "_law_rest", "_law_one", "_law_other"]
theorem sc_l_map : FnScope N_l_map ["_law_numbers_here", "_law_at"] (defScope s_l_map) := ⟨rfl, rfl, rfl, by decide +kernel, rfl, by decide +kernel, by decide +kernel⟩
abbrev s_l_made : Stmt := top 39
abbrev N_l_made : List Str := ["_law_parts", "_law_day", "_law_places", "_law_kinds", "_law_roads", "_law_bars"]
theorem sc_l_made : FnScope N_l_made ["_law_parts"] (defScope s_l_made) := ⟨rfl, rfl, rfl, by decide +kernel, rfl, by decide +kernel, by decide +kernel⟩
abbrev s_l_soon : Stmt := top 40
abbrev N_l_soon : List Str := ["_law_day", "_law_hours_here", "_law_moment", "_law_minute", "_law_best", "_law_opened", "_law_closed", "_law_entered"]
theorem sc_l_soon : FnScope N_l_soon ["_law_day", "_law_hours_here", "_law_moment"] (defScope s_l_soon) := ⟨rfl, rfl, rfl, by decide +kernel, rfl, by decide +kernel, by decide +kernel⟩
abbrev s_l_may : Stmt := top 42
abbrev N_l_may : List Str := ["_law_parts", "_law_kind", "_law_place", "_law_before", "_law_road_here"]
theorem sc_l_may : FnScope N_l_may ["_law_parts", "_law_kind", "_law_place", "_law_before", "_law_road_here"] (defScope s_l_may) := ⟨rfl, rfl, rfl, by decide +kernel, rfl, by decide +kernel, by decide +kernel⟩
abbrev s_l_labels : Stmt := top 43
abbrev N_l_labels : List Str := ["_law_parts", "_law_kind", "_law_start", "_law_moment", "_law_found", "_law_road_here", "_law_turn", "_law_other", "_law_arrival"]
theorem sc_l_labels : FnScope N_l_labels ["_law_parts", "_law_kind", "_law_start", "_law_moment"] (defScope s_l_labels) := ⟨rfl, rfl, rfl, by decide +kernel, rfl, by decide +kernel, by decide +kernel⟩
abbrev s_l_reach : Stmt := top 44
abbrev N_l_reach : List Str := ["_law_parts", "_law_kind", "_law_start", "_law_moment", "_law_known", "_law_found", "_law_road_here"]
theorem sc_l_reach : FnScope N_l_reach ["_law_parts", "_law_kind", "_law_start", "_law_moment"] (defScope s_l_reach) := ⟨rfl, rfl, rfl, by decide +kernel, rfl, by decide +kernel, by decide +kernel⟩
abbrev s_l_trip : Stmt := top 45
abbrev N_l_trip : List Str := ["_law_parts", "_law_numbers_here", "_law_at", "_law_moment"]
theorem sc_l_trip : FnScope N_l_trip ["_law_parts", "_law_numbers_here", "_law_at"] (defScope s_l_trip) := ⟨rfl, rfl, rfl, by decide +kernel, rfl, by decide +kernel, by decide +kernel⟩
abbrev s_law : Stmt := top 46
abbrev N_law : List Str := ["_law_script", "_law_numbers_here", "_law_parts", "_law_chart", "_law_kind", "_law_start", "_law_moment", "_law_minutes", "_law_roads", "_law_near", "_law_paper", "_law_k", "_law_name", "_law_label", "_law_places", "_law_exact", "_law_place"]
theorem sc_law : FnScope N_law ["_law_script"] (defScope s_law) := ⟨rfl, rfl, rfl, by decide +kernel, rfl, by decide +kernel, by decide +kernel⟩
/-- a def of the module -/
structure GFun (K : PySem.W.Frag) (mg : Str → Option Value) (x : Str) (st : Stmt) (ps : List Str) (f : Addr) (fd : FuncData) : Prop where
  fn : Fun K x x st f fd
  gl : mg x = some (.ref f)
  bi : Binds K fd ps []
/-- a method of the class at C -/
structure MFun (K : PySem.W.Frag) (C : Addr) (x qual : Str) (st : Stmt) (ps : List Str) (f : Addr) (fd : FuncData) : Prop where
  fn : Fun K x qual st f fd
  me : Meth K C x f
  bi : Binds K fd ps []
/-- the addresses of the defs, and their function objects -/
structure Ad where
  C : Addr
  prop : Addr
  f_check_kind : Addr
  d_check_kind : FuncData
  f_check_trip : Addr
  d_check_trip : FuncData
  f_enter : Addr
  d_enter : FuncData
  f_arrive : Addr
  d_arrive : FuncData
  f_is_drivable : Addr
  d_is_drivable : FuncData
  f_least_labels : Addr
  d_least_labels : FuncData
  f_check_range : Addr
  d_check_range : FuncData
  f_is_labelled : Addr
  d_is_labelled : FuncData
  f_is_name : Addr
  d_is_name : FuncData
  f_are_different : Addr
  d_are_different : FuncData
  f_are_hours : Addr
  d_are_hours : FuncData
  f_name_of : Addr
  d_name_of : FuncData
  f_require : Addr
  d_require : FuncData
  f_init : Addr
  d_init : FuncData
  f_checked : Addr
  d_checked : FuncData
  f_checked_bar : Addr
  d_checked_bar : FuncData
  f_road_names : Addr
  d_road_names : FuncData
  f_road : Addr
  d_road : FuncData
  f_check_place : Addr
  d_check_place : FuncData
  f_roads_from : Addr
  d_roads_from : FuncData
  f_is_barred : Addr
  d_is_barred : FuncData
  f_l_row : Addr
  d_l_row : FuncData
  f_l_numbers : Addr
  d_l_numbers : FuncData
  f_l_names : Addr
  d_l_names : FuncData
  f_l_some : Addr
  d_l_some : FuncData
  f_l_hours : Addr
  d_l_hours : FuncData
  f_l_map : Addr
  d_l_map : FuncData
  f_l_made : Addr
  d_l_made : FuncData
  f_l_soon : Addr
  d_l_soon : FuncData
  f_l_may : Addr
  d_l_may : FuncData
  f_l_labels : Addr
  d_l_labels : FuncData
  f_l_reach : Addr
  d_l_reach : FuncData
  f_l_trip : Addr
  d_l_trip : FuncData
  f_law : Addr
  d_law : FuncData
/-- what the walk asks of what the top has written -/
structure Txt (K : PySem.W.Frag) (mg : Str → Option Value) (a : Ad) : Prop where
  cl : Cls K a.C
  mgC : mg "Map" = some (.ref a.C)
  mkC : Mk K a.C a.f_init
  pr : PropOf K a.C "road_names" a.prop a.f_road_names
  n_day : NoAttr K a.C "day"
  n_places : NoAttr K a.C "places"
  n_kinds : NoAttr K a.C "kinds"
  n_roads : NoAttr K a.C "roads"
  n_bars : NoAttr K a.C "bars"
  check_kind : GFun K mg "check_kind" s_check_kind ["chart", "kind"] a.f_check_kind a.d_check_kind
  check_trip : GFun K mg "check_trip" s_check_trip ["chart", "kind", "start"] a.f_check_trip a.d_check_trip
  enter : GFun K mg "enter" s_enter ["chart", "name", "moment"] a.f_enter a.d_enter
  arrive : GFun K mg "arrive" s_arrive ["chart", "name", "moment"] a.f_arrive a.d_arrive
  is_drivable : GFun K mg "is_drivable" s_is_drivable ["chart", "kind", "place", "before", "name"] a.f_is_drivable a.d_is_drivable
  least_labels : GFun K mg "least_labels" s_least_labels ["chart", "paper"] a.f_least_labels a.d_least_labels
  check_range : GFun K mg "check_range" s_check_range ["chart", "kind", "start", "moment", "minutes", "places", "paper"] a.f_check_range a.d_check_range
  is_labelled : GFun K mg "is_labelled" s_is_labelled ["chart", "kind", "least", "bound", "place", "moment", "name", "before"] a.f_is_labelled a.d_is_labelled
  is_name : GFun K mg "is_name" s_is_name ["text"] a.f_is_name a.d_is_name
  are_different : GFun K mg "are_different" s_are_different ["parts"] a.f_are_different a.d_are_different
  are_hours : GFun K mg "are_hours" s_are_hours ["hours", "day"] a.f_are_hours a.d_are_hours
  name_of : GFun K mg "name_of" s_name_of ["road"] a.f_name_of a.d_name_of
  require : GFun K mg "require" s_require ["holds"] a.f_require a.d_require
  init : Fun K "__init__" "Map.__init__" s_init a.f_init a.d_init
  checked : MFun K a.C "checked" "Map.checked" s_checked ["self", "road"] a.f_checked a.d_checked
  checked_bar : MFun K a.C "checked_bar" "Map.checked_bar" s_checked_bar ["self", "bar"] a.f_checked_bar a.d_checked_bar
  road_names : Fun K "road_names" "Map.road_names" s_road_names a.f_road_names a.d_road_names
  road : MFun K a.C "road" "Map.road" s_road ["self", "name"] a.f_road a.d_road
  check_place : MFun K a.C "check_place" "Map.check_place" s_check_place ["self", "place"] a.f_check_place a.d_check_place
  roads_from : MFun K a.C "roads_from" "Map.roads_from" s_roads_from ["self", "place"] a.f_roads_from a.d_roads_from
  is_barred : MFun K a.C "is_barred" "Map.is_barred" s_is_barred ["self", "first", "second"] a.f_is_barred a.d_is_barred
  l_row : GFun K mg "_law_row" s_l_row ["_law_cell", "_law_many"] a.f_l_row a.d_l_row
  l_numbers : GFun K mg "_law_numbers" s_l_numbers ["_law_script", "_law_many"] a.f_l_numbers a.d_l_numbers
  l_names : GFun K mg "_law_names" s_l_names ["_law_number", "_law_many"] a.f_l_names a.d_l_names
  l_some : GFun K mg "_law_some" s_l_some ["_law_number", "_law_rights"] a.f_l_some a.d_l_some
  l_hours : GFun K mg "_law_hours" s_l_hours ["_law_numbers_here", "_law_at", "_law_day"] a.f_l_hours a.d_l_hours
  l_map : GFun K mg "_law_map" s_l_map ["_law_numbers_here", "_law_at"] a.f_l_map a.d_l_map
  l_made : GFun K mg "_law_made" s_l_made ["_law_parts"] a.f_l_made a.d_l_made
  l_soon : GFun K mg "_law_soon" s_l_soon ["_law_day", "_law_hours_here", "_law_moment"] a.f_l_soon a.d_l_soon
  l_may : GFun K mg "_law_may" s_l_may ["_law_parts", "_law_kind", "_law_place", "_law_before", "_law_road_here"] a.f_l_may a.d_l_may
  l_labels : GFun K mg "_law_labels" s_l_labels ["_law_parts", "_law_kind", "_law_start", "_law_moment"] a.f_l_labels a.d_l_labels
  l_reach : GFun K mg "_law_reach" s_l_reach ["_law_parts", "_law_kind", "_law_start", "_law_moment"] a.f_l_reach a.d_l_reach
  l_trip : GFun K mg "_law_trip" s_l_trip ["_law_parts", "_law_numbers_here", "_law_at"] a.f_l_trip a.d_l_trip
  law_ : GFun K mg "law" s_law ["_law_script"] a.f_law a.d_law
  b_road_names : Binds K a.d_road_names ["self"] []
  NAME_CHARS : ∃ t, mg "NAME_CHARS" = some (.str "abcdefghijklmnopqrstuvwxyz0123456789" t)
  MOST_NAME_CHARS : ∃ t, mg "MOST_NAME_CHARS" = some (.int 12 t)
  MOST_DAY : ∃ t, mg "MOST_DAY" = some (.int 1440 t)
  MOST_PLACES : ∃ t, mg "MOST_PLACES" = some (.int 30 t)
  MOST_KINDS : ∃ t, mg "MOST_KINDS" = some (.int 4 t)
  MOST_ROADS : ∃ t, mg "MOST_ROADS" = some (.int 60 t)
  MOST_BARS : ∃ t, mg "MOST_BARS" = some (.int 40 t)
  MOST_MINUTES : ∃ t, mg "MOST_MINUTES" = some (.int 1000 t)
  MOST_HOURS : ∃ t, mg "MOST_HOURS" = some (.int 4 t)
  ROAD_PARTS : ∃ t, mg "ROAD_PARTS" = some (.int 6 t)
  z_abs : mg "abs" = none
  z_all : mg "all" = none
  z_enumerate : mg "enumerate" = none
  z_int : mg "int" = none
  z_len : mg "len" = none
  z_list : mg "list" = none
  z_max : mg "max" = none
  z_min : mg "min" = none
  z_range : mg "range" = none
  z_sorted : mg "sorted" = none
  z_tuple : mg "tuple" = none
end Wp
/-! Rules that the hand layer lacks: enumerate of a tuple, x in a tuple of data, a < b < c <= d, sorted of pairs of texts, sorted by a key def. -/
namespace Wp
open PySem PySem.Spec PyProof.Rows L2

/-! ### enumerate(list or tuple) -/
theorem meets_enum1 {v : Value} {o : Obj} {H : Heap → Prop} (B : Begins v o H) :
    Meets (Builtin.«enumerate.__new__» ⟨[.type "enumerate", v], []⟩) (fun _ R s => H s.heap ∧
      R (.ok (.ret (.ref (s.heap.push o).objs.size))) { s with heap := (s.heap.push o).push { cls := .type "enumerate", data := .fields #[.none, .bool false, .ref s.heap.objs.size, rawInt 0, .none, .none] } }) :=
  .of_wp fun prog w A R s h => by
    obtain ⟨hp, g, d, tk, os⟩ := s; obtain ⟨h1, h⟩ := h
    have hsub := sub_enumerate
    have q1 : ∀ {A' : Around} {E : Value → Shared → Prop} {Q : Value → Shared → Prop}, Q (.ref hp.objs.size) ⟨hp.push o, g, d, tk, os⟩ → wpAny (model prog w) A' (pyIter v) Q E ⟨hp, g, d, tk, os⟩ :=
      fun q => B.iter prog w _ _ ⟨hp, g, d, tk, os⟩ _ h1 q
    wp_walk using q1
    refine wpAny_stack_any fun st => wpAny_pure ?_
    split
    · rename_i c _ _ _ _ _
      cases (c == Value.type "enumerate")
      · wp_walk using q1
        exact ⟨_, rfl, h⟩
      · wp_walk using q1
        exact ⟨_, rfl, h⟩
    · wp_walk using q1
      exact ⟨_, rfl, h⟩
section
variable {prog : Program} {w : World} {A : Around} {E : Value → Shared → Prop} {s : Shared}
theorem enum_begins1 {v : Value} {o : Obj} {H : Heap → Prop} {Q : Value → Shared → Prop} (B : Begins v o H) (h1 : H s.heap)
    (h : ∀ h', IsEnum h' (s.heap.objs.size + 1) s.heap.objs.size 0 .none → h'.get? s.heap.objs.size = some o → h'.objs.size = s.heap.objs.size + 2 →
      (∀ b o, s.heap.get? b = some o → h'.get? b = some o) → Q (.ref (s.heap.objs.size + 1)) { s with heap := h' }) :
    wpAny (model prog w) A (call (.type "enumerate") [v]) Q E s := by
  refine callType_new F.called_enumerate (by decide) (F.typeCall_enumerate_1 _) (F.newCall_enumerate_1 _) (fun obj => F.args_object_init_2 obj _) F.entry_enumerate_new
    (meets_enum1 B) ⟨h1, ?_⟩
  have hz : (s.heap.push o).objs.size = s.heap.objs.size + 1 := Heap.size_push ..
  show _ ∧ _
  rw [hz]
  have he : IsEnum ((s.heap.push o).push { cls := .type "enumerate", data := .fields #[.none, .bool false, .ref s.heap.objs.size, rawInt 0, .none, .none] }) (s.heap.objs.size + 1) s.heap.objs.size 0 .none := by
    have := Heap.get?_push_size (s.heap.push o) (o := { cls := .type "enumerate", data := .fields #[.none, .bool false, .ref s.heap.objs.size, rawInt 0, .none, .none] }) rfl
    rw [hz] at this; exact this
  refine ⟨⟨_, he, rfl⟩, h _ he (Heap.get?_push_of_some _ (Heap.get?_push_size _ B.free)) (by rw [Heap.size_push, hz]) fun b o x => Heap.get?_push_of_some _ (Heap.get?_push_of_some _ x)⟩
end

/-- a list (true) or a tuple (false) of xs stands at a -/
def SqB (K : PySem.W.Frag) : Bool → Hp → Addr → List V → Prop
  | true => SqL K
  | false => SqT K
/-- the list or tuple at a as it stands at each turn, each item in a new pair -/
def IteS (K : PySem.W.Frag) (t : Bool) (a : Addr) : It :=
  ⟨fun i H => ∃ (xs : List V) (x : V), SqB K t H a xs ∧ xs[i]? = some x, fun i H v H' => ∃ T x, v = .ref T ∧ H T = none ∧ H' = upd H T (.tup [.int (i : Nat), x]) ∧ ∀ xs, SqB K t H a xs → xs[i]? = some x, fun i H => ∃ xs : List V, SqB K t H a xs ∧ xs.length ≤ i⟩
theorem turn_enumT {P : Program} {w : World} {K : PySem.W.Frag} {elts : List Expr} {kk : Nat} {tpos : Pos} (a e it : Addr) :
    Turn P w K (.Tuple elts kk tpos) (IteS K false a) [e, it] e (fun i h => (∃ old, IsEnum h e it ((i : Nat) : Int) old) ∧ h.IsTupleIter it a i ∧ e ≠ it) where
  mem := by simp
  obj := fun i h st b hb => by
    obtain ⟨⟨old, he⟩, ⟨o, ho, hc, hd⟩, _⟩ := st
    have e' : b = e ∨ b = it := by simpa using hb
    rcases e' with z | z
    · rw [z]; exact ⟨_, he, fun v q => nomatch q⟩
    · rw [z]; exact ⟨o, ho, fun v q => by rw [hd] at q; cases q⟩
  keep := fun i h h' st k => let ⟨⟨old, he⟩, hi, hne⟩ := st; ⟨⟨old, k e (by simp) _ he⟩, hi.at fun o q => k it (by simp) o q, hne⟩
  item := by
    intro X hP hw hK hc i pins s σ H E I hf st hg
    subst hP hw hK
    obtain ⟨⟨old, he⟩, hit, hne⟩ := st
    obtain ⟨xs, x, hq, hx⟩ := hg
    have hq : SqT X.K H a xs := hq
    obtain ⟨its, rv, p, hz⟩ := I.tuple hq
    obtain ⟨u, hu, ru⟩ := rv.get hx
    have pt : s.heap.IsTuple a its.toArray := p
    have hel : e < s.heap.objs.size := Heap.lt_size he
    have hil : it < s.heap.objs.size := by obtain ⟨_, q, _⟩ := hit; exact Heap.lt_size q
    have hai : a ≠ it := fun z => by
      obtain ⟨o1, q1, c1, _⟩ := hit
      obtain ⟨o2, q2, c2, _⟩ := pt
      rw [← z] at q1
      rw [q1] at q2
      cases q2
      rw [c1] at c2
      exact absurd c2 (by decide)
    have hae : e ≠ a := fun z => by
      obtain ⟨o2, q2, c2, _⟩ := pt
      have he' : s.heap.get? e = some _ := he
      rw [← z, he'] at q2
      cases q2
      have c3 : Value.type "enumerate" = Value.type "tuple" := c2
      exact absurd c3 (by decide)
    have hsz : i < its.toArray.size := by
      have := (List.getElem?_eq_some_iff.mp hu).1
      simpa using this
    refine wpAny_pyNext_enum_itemD (Draws.tuple (A := X.A.in1) (I.ok.hd hc) it a hai its.toArray) he ⟨hit, pt⟩ hsz hne (by simp only [List.mem_cons, List.not_mem_nil, or_false, not_or]; exact ⟨hne, hae⟩) fun x' h' tk hx' ho hit' hT hsz hk => ?_
    have hx2 : x' = u := by
      have hu' : its.toArray[i]? = some u := by simpa using hu
      have : its.toArray[i]? = some x' := hx'
      rw [hu'] at this
      exact (Option.some.inj this).symm
    subst hx2
    refine ⟨_, rfl, wpAny_letOwnedTupleGo_enum (s := { s with heap := h', toks := tk + 1 }) ho fun h'' he' sb => ?_⟩
    have hT2 : h''.get? s.heap.objs.size = some { cls := .type "tuple", data := .seq #[.int i tk, x'] } := (sb.2 _ (Nat.ne_of_gt hel)).trans hT
    have new : ObjOk X.prog X.w (upd H s.heap.objs.size (.tup [.int (i : Nat), x])) h'' s.heap.objs.size (.tup [.int (i : Nat), x]) :=
      ⟨by show 2 ≤ sizeLine; decide, [.int i tk, x'], .cons ⟨_, rfl⟩ (.cons ru .nil), ⟨_, hT2, rfl, _, rfl⟩⟩
    have I1 : Inv X pins σ (upd H s.heap.objs.size (.tup [.int (i : Nat), x])) { s with heap := h'', toks := tk + 1 } :=
      I.turnedNew (ch := [e, it]) (fun b ob hb q => (sb.2 b (fun z => hb (by simp [z]))).trans (hk b ob (fun z => hb (by simp [z])) (fun z => hb (by simp [z])) q)) hf (Nat.le_refl _) new
    refine ⟨.ref s.heap.objs.size, _, I1, rfl, ⟨_, x, rfl, I.hok.fresh (Nat.le_refl _), rfl, fun ys hy => by rw [I.tuple_inj (show SqT X.K H a ys from hy) hq]; exact hx⟩, ⟨⟨x', ?_⟩, hit'.1.at fun o q => (sb.2 it (Ne.symm hne)).trans q, hne⟩, fun b hb => ?_⟩
    · have e1 : ((i + 1 : Nat) : Int) = (i : Int) + 1 := by omega
      rw [e1]; exact he'
    · have hb' : b < s.heap.objs.size := by
        have e' : b = e ∨ b = it := by simpa using hb
        rcases e' with z | z
        · rw [z]; exact hel
        · rw [z]; exact hil
      rw [upd_ne (Nat.ne_of_lt hb')]
      exact (hf b hb).1
  done := by
    intro X hP hw hK hc i pins s σ H E I hf st hg
    subst hP hw hK
    obtain ⟨⟨old, he⟩, hit, hne⟩ := st
    obtain ⟨xs, hq, hx⟩ := hg
    have hq : SqT X.K H a xs := hq
    obtain ⟨its, rv, p, hz⟩ := I.tuple hq
    have pt : s.heap.IsTuple a its.toArray := p
    obtain ⟨f0, f1, f2, f3, f4, f5⟩ := hf it (by simp)
    have hl := rv.length
    have hin : its.toArray[i]? = none := by simp; omega
    have hT : s.TypeIs (.ref e) "enumerate" := ⟨_, he, rfl⟩
    unfold pyNext
    refine wpAny_bind (wpAny_attempt (wpAny_callSpecial?_slot (name := Str.ofString "__next__") hT F.slot_enumerate_next
      (wpAny_call_entry F.slot_enumerate_next hT F.entry_enumerate_next ?_ (F.args_enumerate_next_1 _))))
    show wpAny _ _ (field (.ref e) 2 >>= _) _ _ _
    refine wpAny_bind (wpAny_field he rfl (x := .ref it) rfl ?_)
    refine wpAny_bind (wpAny_nextOf_tuple_end (A := X.A.in1) (I.ok.hd hc) hit pt hin fun h' x he' hx' => ?_)
    obtain ⟨o, ho, hc⟩ := hx'
    refine wpAny_bind (wpAny_isInstance (T := "StopIteration") (b := true) ⟨o, ho, hc⟩ isSubtype_stop ?_)
    exact wpAny_pure ⟨rfl, I.turned (t' := s.toks) (fun b o hb q => he' b o hb q) f0 f1 f3 f4 f5⟩
  self := fun A i s Q E st h => let ⟨⟨_, he⟩, _⟩ := st; wpAny_pyIter_enum he h
/-- enumerate(xs), xs a list or a tuple -/
def iEnumS (K : PySem.W.Frag) (ta : TA) : TI := fun σ H R => ta σ H fun vs H1 => ∃ t a xs, vs = [.ref a] ∧ SqB K t H1 a xs ∧ R (IteS K t a) H1
theorem pi_enumS {X : Cx} {e : Expr} {ta : TA} {p pos tpos : Pos} {elts : List Expr} {kk : Nat} (hg : Gl X "enumerate") (hm : X.mg "enumerate" = none) (ha : PA X [e] ta) (hs : starEach [e] X.env = [(false, eval e X.env)] := by rfl) :
    PI X (.Tuple elts kk tpos) (.Call (.Name "enumerate" p) [e] [] pos) (iEnumS X.K ta) := by
  refine ⟨fun pins s σ H R I h => ?_⟩
  refine Call_ (ld_blt I hg hm boot_enumerate (PyProof.Rows.callWith_type1 (thn (ha.run pos pins s σ H _ I h) fun us s1 ⟨vs, H1, I1, r1, q1⟩ => ?_) hs rfl))
  obtain ⟨t, a, xs, ex, hq, q⟩ := q1
  subst ex
  cases r1 with
  | cons r rr =>
    cases rr
    cases r
    have mem : ∀ b, b ∈ [s1.heap.objs.size + 1, s1.heap.objs.size] → s1.heap.objs.size ≤ b := fun b hb => by
      have e' : b = s1.heap.objs.size + 1 ∨ b = s1.heap.objs.size := by simpa using hb
      rcases e' with z | z
      · rw [z]; exact Nat.le_add_right _ _
      · rw [z]; exact Nat.le_refl _
    cases t with
    | true =>
      obtain ⟨its, rv, p', hz⟩ := I1.list (show SqL X.K H1 a xs from hq)
      refine call_enumerate_list p'.isList fun h' he hit hsz hk => wpAny_pyIter_enum he ?_
      have I2 : Inv X pins σ H1 { s1 with heap := h' } := I1.kept (t' := s1.toks) hk
      exact ⟨s1.heap.objs.size + 1, [s1.heap.objs.size + 1, s1.heap.objs.size], _, _, H1, rfl, I2, turn_enum a (s1.heap.objs.size + 1) s1.heap.objs.size, ⟨⟨.none, he⟩, hit, Nat.succ_ne_self _⟩, fun b hb => I1.fpOk (mem b hb) (I1.hok.fresh (mem b hb)), q⟩
    | false =>
      obtain ⟨its, rv, p', hz⟩ := I1.tuple (show SqT X.K H1 a xs from hq)
      refine enum_begins1 (begins_tuple a its.toArray) (show s1.heap.IsTuple a its.toArray from p') fun h' he hit hsz hk => wpAny_pyIter_enum he ?_
      have I2 : Inv X pins σ H1 { s1 with heap := h' } := I1.kept (t' := s1.toks) hk
      exact ⟨s1.heap.objs.size + 1, [s1.heap.objs.size + 1, s1.heap.objs.size], _, _, H1, rfl, I2, turn_enumT a (s1.heap.objs.size + 1) s1.heap.objs.size, ⟨⟨.none, he⟩, ⟨_, hit, rfl, rfl⟩, Nat.succ_ne_self _⟩, fun b hb => I1.fpOk (mem b hb) (I1.hok.fresh (mem b hb)), q⟩
theorem walk_enumS {K : PySem.W.Frag} {t : Bool} {a : Addr} {xs : List V} : Walk (IteS K t a) xs.length (fun H => SqB K t H a xs) (YPair (fun i => some (.int (i : Nat))) (fun i => xs[i]?)) where
  goes := fun i H hi hG => ⟨xs, xs[i], hG, List.getElem?_eq_getElem hi⟩
  stops := fun H hG => ⟨xs, hG, Nat.le_refl _⟩
  yields := fun i H x H' hi hG hy => by
    obtain ⟨T, y, e, n, eh, f⟩ := hy
    exact ⟨T, _, y, e, n, eh, rfl, f xs hG⟩

/-! ### x in a list or a tuple of data -/
section
variable {X : Cx}
def rInS (K : PySem.W.Frag) (neg : Bool) : R2 := fun x y H Q => ∃ d ds, Dp K H x d ∧ (Dp K H y (.list ds) ∨ Dp K H y (.tuple ds)) ∧ SeqAt.shaped d = true ∧ PyData.canLayAll0 ds = true ∧
  Q (.bl (if neg then !ds.any fun z => PyData.eqv z d else ds.any fun z => PyData.eqv z d)) H
theorem op_inS (hu : X.A.units + 65 < cLine) : OpR X (compareOp .In) (rInS X.K false) := by
  intro pins s σ H x y v u Q I rx ry h
  obtain ⟨d, ds, hd, he, sd, se, q⟩ := h
  obtain ⟨as, r1⟩ := Dp.reads I d x v hd rx
  rcases he with he | he
  · obtain ⟨bs, r2⟩ := Dp.reads I (.list ds) y u he ry
    exact SeqAt.in_list_reads r2 r1 se (SeqAt.canLay_of_shaped sd) (room_in_shaped sd hu) ⟨.bl _, H, I, rfl, q⟩
  · obtain ⟨bs, r2⟩ := Dp.reads I (.tuple ds) y u he ry
    exact SeqAt.in_tuple_reads r2 r1 se (SeqAt.canLay_of_shaped sd) (room_in_shaped sd hu) ⟨.bl _, H, I, rfl, q⟩
theorem op_notInS (hu : X.A.units + 65 < cLine) : OpR X (compareOp .NotIn) (rInS X.K true) := by
  intro pins s σ H x y v u Q I rx ry h
  obtain ⟨d, ds, hd, he, sd, se, q⟩ := h
  obtain ⟨as, r1⟩ := Dp.reads I d x v hd rx
  rcases he with he | he
  · obtain ⟨bs, r2⟩ := Dp.reads I (.list ds) y u he ry
    exact SeqAt.notIn_list_reads r2 r1 se (SeqAt.canLay_of_shaped sd) (room_in_shaped sd hu) ⟨.bl _, H, I, rfl, q⟩
  · obtain ⟨bs, r2⟩ := Dp.reads I (.tuple ds) y u he ry
    exact SeqAt.notIn_tuple_reads r2 r1 se (SeqAt.canLay_of_shaped sd) (room_in_shaped sd hu) ⟨.bl _, H, I, rfl, q⟩
/-! ### a op1 b op2 c op3 d, as a test -/
def tChain3 (r r' r'' : R2) (ta tb tc td : TE) : TT := fun σ H Q => ta σ H fun x H1 => tb σ H1 fun y H2 => r x y H2 fun z H3 => ∃ k, z = .bl k ∧
  (if k = true then tc σ H3 fun u H4 => r' y u H4 fun z' H5 => ∃ k', z' = .bl k' ∧ (if k' = true then td σ H5 fun v H6 => r'' u v H6 fun z'' H7 => ∃ k'', z'' = .bl k'' ∧ Q k'' H7 else Q false H5) else Q false H3)
theorem pt_chain3 {a b c d : Expr} {pos : Pos} {ta tb tc td : TE} {op op' op'' : CmpOp} {r r' r'' : R2} (ho : OpR X (compareOp op) r) (ho' : OpR X (compareOp op') r') (ho'' : OpR X (compareOp op'') r'') (ha : PE X a ta) (hb : PE X b tb) (hc : PE X c tc) (hd : PE X d td)
    (hm : lastMarks [op, op', op''] [b, c, d] = false := by with_unfolding_all rfl) : PT X (.Compare a [op, op', op''] [b, c, d] pos) (tChain3 r r' r'' ta tb tc td) := by
  refine ⟨fun pins s σ H Q I h => ?_⟩
  refine isTrue_chain (thn (ha.run pins s σ H _ I h) fun v s1 ⟨x, H1, I1, r1, q1⟩ => test_link (thn (hb.run pins s1 σ H1 _ I1 q1) fun u s2 ⟨y, H2, I2, r2, q2⟩ =>
    thn (ho pins s2 σ H2 x y v u _ I2 r1 r2 q2) fun d s3 ⟨z, H3, I3, r3, k, e, q3⟩ => ?_)) hm
  subst e
  cases r3
  refine wpAny_truthy_bool ?_
  cases k with
  | false => exact ite_ff ⟨H3, I3, q3⟩
  | true =>
    refine ite_tt (test_link (thn (hc.run pins s3 σ H3 _ I3 q3) fun w' s4 ⟨z', H4, I4, r4, q4⟩ => thn (ho' pins s4 σ H4 y z' u w' _ I4 r2 r4 q4) fun d' s5 ⟨z2, H5, I5, r5, k2, e2, q5⟩ => ?_))
    subst e2
    cases r5
    refine wpAny_truthy_bool ?_
    cases k2 with
    | false => exact ite_ff ⟨H5, I5, q5⟩
    | true =>
      refine ite_tt (test_last (thn (hd.run pins s5 σ H5 _ I5 q5) fun w3 s6 ⟨z3, H6, I6, r6, q6⟩ => thn (ho'' pins s6 σ H6 z' z3 w' w3 _ I6 r4 r6 q6) fun d3 s7 ⟨z4, H7, I7, r7, k3, e3, q7⟩ => ?_))
      subst e3
      cases r7
      exact wpAny_truthy_bool ⟨H7, I7, q7⟩

/-! ### sorted of pairs of texts -/
def rSortedTT (K : PySem.W.Frag) : List V → Hp → VK → Prop := fun vs H Q => ∃ a xs, vs = [V.ref a] ∧ SqL K H a xs ∧ (∀ x ∈ xs, ∃ t y z, x = V.ref t ∧ H t = some (.tup [.str y, .str z])) ∧
  ∀ ys p, ys.Perm xs → H p = none → Q (.ref p) (upd H p (.lst ys))
def encP (p : Str × Str) : PyData := .tuple [.str p.1, .str p.2]
theorem cr_sortedTT (hu : X.A.units + 64 < cLine) : CallR X (.builtin "sorted") (rSortedTT X.K) := by
  intro pins s σ H vs us Q I r h
  obtain ⟨a, xs, rfl, hs, hx, q⟩ := h
  obtain ⟨its, rv, hl, hz⟩ := I.list hs
  obtain ⟨u, rfl, ru⟩ := vals1 r
  obtain rfl : u = Value.ref a := ru
  obtain ⟨e1, e2⟩ := refs_back rv fun x m => by
    obtain ⟨t, _, _, e, _⟩ := hx x m
    exact ⟨t, e⟩
  -- each item reads as a pair of texts
  have rd : ∀ v ∈ its, ∃ p : Str × Str, ∃ as, Reads s.heap v (encP p) as := fun v hv => by
    obtain ⟨t, rfl⟩ := e2 v hv
    have hm : V.ref t ∈ xs := by rw [e1]; exact List.mem_map.mpr ⟨_, hv, rfl⟩
    obtain ⟨t', y, z, e, ht⟩ := hx _ hm
    cases e
    exact ⟨(y, z), Dp.reads I (encP (y, z)) (.ref t) (.ref t) (.tup (SqT.of ht) (.cons (.str y) (.cons (.str z) .nil))) rfl⟩
  have ex : ∃ bs : List (Value × (Str × Str)), PySem.W.EachIs (fun v b => b.1 = v ∧ ∃ as, Reads s.heap v (encP b.2) as) its bs := by
    clear q hx e1 e2 hl rv
    induction its with
    | nil => exact ⟨[], .nil⟩
    | cons v r ih =>
      obtain ⟨p, hp⟩ := rd v (List.mem_cons_self ..)
      obtain ⟨bs, hb⟩ := ih fun w hw => rd w (List.mem_cons_of_mem _ hw)
      exact ⟨(v, p) :: bs, .cons ⟨rfl, hp⟩ hb⟩
  obtain ⟨bs, hb⟩ := ex
  have fstEq : ∀ {us : List Value} {cs : List (Value × (Str × Str))}, PySem.W.EachIs (fun v (b : Value × (Str × Str)) => b.1 = v) us cs → us = cs.map (·.1) := by
    intro us cs h
    induction h with
    | nil => rfl
    | cons h _ ih => rw [List.map_cons, ← ih, h]
  have hb1 : PySem.W.EachIs (fun v (b : Value × (Str × Str)) => b.1 = v) its bs := hb.mono fun _ _ h => h.1
  have hb2 : PySem.W.EachIs (fun v (b : Value × (Str × Str)) => ∃ as, Reads s.heap v (encP b.2) as) its bs := hb.mono fun _ _ h => h.2
  refine PySem.W.sorted_data (enc := fun b : Value × (Str × Str) => encP b.2) hl.isList hb1 hb2 (PySem.W.AllAlike.of fun b b' => by simp [encP, PySem.W.alike, PySem.W.alikeAll]) (PySem.W.Sortable.tuples fun b => ⟨_, _, rfl⟩) (by rw [← hb.length, ← rv.length]; exact hz)
    (fun b _ => by
      have : (encP b.2).depth ≤ 2 := by simp [encP, PyData.depth, PyData.depthAll]
      omega) fun out ho eo => ?_
  have hperm : out.Perm its := by
    rw [fstEq eo, fstEq hb1]
    exact (List.mergeSort_perm _ _).map _
  have h3 : ∀ u ∈ out, ∃ a, u = Value.ref a := fun u hu => e2 u (hperm.mem_iff.mp hu)
  obtain ⟨n, hn⟩ := PyProof.Rows.sortedAll_at s.heap its out.toArray
  refine ⟨.ref _, upd H (s.heap.objs.size + 1) (.lst (out.map backV)), I.laid (t' := s.toks) (fun _ _ => PyProof.Rows.sortedAll_old) (Nat.le_succ _) ⟨?_, out, n, vals_back h3, hn⟩, rfl, q _ _ ?_ (I.hok.fresh (Nat.le_succ _))⟩
  · rw [List.length_map, hperm.length_eq, ← rv.length]; exact hz
  · rw [e1]; exact hperm.map backV
end
end Wp
/-! sorted(xs, key=f), f a def whose body is «return road[0]», xs tuples that begin with a text. -/
namespace Wp
open PySem PySem.Spec PyProof.Rows L2
section
variable {P : Program} {w : World} {K : PySem.W.Frag} {A : Around} {E : Value → Shared → Prop} {s : Shared}
theorem key_first {x qual : Str} {st : Stmt} {f : Addr} {fd : FuncData} {p1 p2 p3 p4 : Pos} {j : Nat} (F : Fun K x qual st f fd) (hb : defBody st = [.Return (some (.Subscript (.Name "road" p1) (.Constant (.int 0) j p2) p3)) p4]) (S : FnScope ["road"] ["road"] (defScope st))
    (hloc : (defScope st).names.lookup ("road" : Str) = some .local) (bF : Binds K fd ["road"] []) (X : K.In s.heap) (lim : s.heap.NoLimit) (hroom : A.depth < recursionLimit) {t : Addr} {its : Array Value} {v : Value} (ht : IsTup s.heap t its) (h0 : its[0]? = some v) {Q : Value → Shared → Prop}
    (hQ : ∀ h' tk, (∀ b o, s.heap.get? b = some o → h'.get? b = some o) → Q v { s with heap := h', toks := tk }) : wpAny (model P w) A (call (.ref f) [.ref t]) Q E s := by
  obtain ⟨oc, od, kV, doc, pm, an, cdv, ct, osl, rfl, lk, hcd⟩ := F.ex
  have hbi := bF s [.ref t] X rfl
  refine wpAny_call (Att.call_fn X lim lk hcd hroom hbi (by simp [hloc]) (fun s1 x1 => ?_) S.co S.gen S.kind)
  obtain ⟨h1, tk, es, hk⟩ := x1.done
  have hns := x1.toInCall.ns
  rw [hb]
  have e0 : bindL (envOfC qual (defScope st) s.heap.objs.size f cdv).kindOf ([("road" : Str)].zip ([Value.ref t] ++ [])) (fun _ => none) "road" = some (.ref t) :=
    bindL_get (i := 0) (by simp) rfl rfl hloc
  have hload : ∀ Q' : Value → Shared → Prop, ∀ E' : Value → Shared → Prop, Q' (.ref t) s1 → wpAny (model P w) (A.deeper (envOfC qual (defScope st) s.heap.objs.size f cdv)) (eval (.Name "road" p1) (envOfC qual (defScope st) s.heap.objs.size f cdv)) Q' E' s1 := fun Q' E' hq =>
    wpAny_Name (wpAny_loadName_local S.kind hloc hns e0 hq) (by decide)
  subst es
  have ht1 : IsTup h1 t its := ht.keeps hk
  have hn : 0 < its.size := by
    have := (Array.getElem?_eq_some_iff.mp h0).1
    omega
  have fin : ∀ (E' : Value → Shared → Prop), wpAny (model P w) (A.deeper (envOfC qual (defScope st) s.heap.objs.size f cdv)) (eval (.Subscript (.Name "road" p1) (.Constant (.int 0) j p2) p3) (envOfC qual (defScope st) s.heap.objs.size f cdv)) (fun u s' => u = v ∧ ∃ h' tk, s' = { s with heap := h', toks := tk } ∧ ∀ b o, s.heap.get? b = some o → h'.get? b = some o) E' { s with heap := h1, toks := tk } := fun E' => by
    refine Subscript_ (hload _ _ (wpAny_Constant_int ?_))
    refine subscriptTail_builtinR (x := v) (T := "tuple") ht1.typeIs slot_tuple_getitem.lookup ?_ rfl
    refine getItem_tuple (j := 0) ht1 (by decide) (by decide) ?_ h0 ⟨rfl, rfl, _, _, rfl, hk⟩
    exact seqIndex_of (by decide) (by omega)
  refine wpAny_execs_cons (wpAny_Return_some (wpAny_mono (fin _) (fun u s' hu => ?_) fun _ _ x => x))
  obtain ⟨rfl, h', tk', rfl, hk'⟩ := hu
  exact hQ _ _ hk'
end
/-- sorted(xs, key=f): a new list of the same items, in some order -/
def rSortedF (K : PySem.W.Frag) (f : Addr) : List V → List V → Hp → VK → Prop := fun vs zs H Q => ∃ a xs, vs = [V.ref a] ∧ zs = [V.ref f] ∧ SqL K H a xs ∧ (∀ x ∈ xs, ∃ t n r, x = V.ref t ∧ H t = some (.tup (.str n :: r))) ∧
  ∀ ys p, ys.Perm xs → H p = none → Q (.ref p) (upd H p (.lst ys))
theorem cr_sortedF {X : Cx} {x qual : Str} {st : Stmt} {f : Addr} {fd : FuncData} {p1 p2 p3 p4 : Pos} {j : Nat} (F : Fun X.K x qual st f fd) (hb : defBody st = [.Return (some (.Subscript (.Name "road" p1) (.Constant (.int 0) j p2) p3)) p4]) (S : FnScope ["road"] ["road"] (defScope st))
    (hloc : (defScope st).names.lookup ("road" : Str) = some .local) (bF : Binds X.K fd ["road"] []) (hr : Room 2 X.A) : CallRK X (.builtin "sorted") [Str.ofString "key"] (rSortedF X.K f) := by
  intro pins s σ H vs zs us ws Q I r rz h
  obtain ⟨a, xs, rfl, rfl, hs, hx, q⟩ := h
  obtain ⟨its, rv, hl, hz⟩ := I.list hs
  obtain ⟨u, rfl, ru⟩ := vals1 r
  obtain rfl : u = Value.ref a := ru
  obtain ⟨w1, rfl, ew⟩ := vals1 rz
  obtain rfl : w1 = Value.ref f := ew
  obtain ⟨e1, e2⟩ := refs_back rv fun x m => by
    obtain ⟨t, _, _, e, _⟩ := hx x m
    exact ⟨t, e⟩
  have rd : ∀ v ∈ its, ∃ n : Str, ∃ t its2 tk, v = Value.ref t ∧ IsTup s.heap t its2 ∧ its2[0]? = some (Value.str n tk) := fun v hv => by
    obtain ⟨t, rfl⟩ := e2 v hv
    have hm : V.ref t ∈ xs := by rw [e1]; exact List.mem_map.mpr ⟨_, hv, rfl⟩
    obtain ⟨t', n, r, e, ht⟩ := hx _ hm
    cases e
    obtain ⟨its2, rv2, pt, _⟩ := I.tuple (SqT.of ht)
    obtain ⟨w, hw, rw'⟩ := rv2.get (i := 0) rfl
    obtain ⟨tk, rfl⟩ := rw'
    exact ⟨n, t, its2.toArray, tk, rfl, pt, by simpa using hw⟩
  have ex : ∃ bs : List (Value × Str), PySem.W.EachIs (fun v b => b.1 = v ∧ ∃ t its2 tk, v = Value.ref t ∧ IsTup s.heap t its2 ∧ its2[0]? = some (Value.str b.2 tk)) its bs := by
    clear q hx e1 e2 hl rv
    induction its with
    | nil => exact ⟨[], .nil⟩
    | cons v r ih =>
      obtain ⟨n, hp⟩ := rd v (List.mem_cons_self ..)
      obtain ⟨bs, hb⟩ := ih fun w hw => rd w (List.mem_cons_of_mem _ hw)
      exact ⟨(v, n) :: bs, .cons ⟨rfl, hp⟩ hb⟩
  obtain ⟨bs, hbs⟩ := ex
  have fstEq : ∀ {us : List Value} {cs : List (Value × Str)}, PySem.W.EachIs (fun v (b : Value × Str) => b.1 = v) us cs → us = cs.map (·.1) := by
    intro us cs h
    induction h with
    | nil => rfl
    | cons h _ ih => rw [List.map_cons, ← ih, h]
  have hb1 : PySem.W.EachIs (fun v (b : Value × Str) => b.1 = v) its bs := hbs.mono fun _ _ h => h.1
  refine PySem.W.sorted_key_data (b := false) (k := fun b : Value × Str => PyData.str b.2) hl.isList hbs (PySem.W.AllAlike.of fun b b' => by simp [PySem.W.alike]) (PySem.W.Sortable.others fun b => ⟨by simp, by simp⟩) (by rw [← hb1.length, ← rv.length]; exact hz)
    (fun b _ => by
      have e : (PyData.str b.2).depth = 0 := by simp [PyData.depth]
      have := hr.units
      omega) (PyProof.Rows.ksk_s1 _ _) (fun _ => PyProof.Rows.ksk_l1 _ _) (fun _ => PyProof.Rows.ksk_t1 _ _) (fun v b hv _ h tk hk => ?_) fun out c h' tk hk hfr hn ho eo => ?_
  · obtain ⟨_, t, its2, tk2, rfl, pt, h0⟩ := hv
    refine key_first (s := { s with heap := h, toks := tk }) F hb S hloc bF (I.kIn.keeps hk) (I.nolimit.keeps hk) (hr.in1.in1 (k := 0)).depth (pt.keeps hk) h0 fun h2 tk3 hk2 => ?_
    exact ⟨h2, tk3, rfl, hk2, Reads.str _ _⟩
  · have eo1 : PySem.W.EachIs (fun v (b : Value × Str) => b.1 = v) out _ := eo.mono fun _ _ h => h.1
    have hperm : out.Perm its := by
      rw [fstEq eo1, fstEq hb1]
      exact (List.mergeSort_perm _ _).map _
    have h3 : ∀ u ∈ out, ∃ a, u = Value.ref a := fun u hu => e2 u (hperm.mem_iff.mp hu)
    refine ⟨.ref _, upd H (s.heap.objs.size + 1) (.lst (out.map backV)), I.laid (t' := tk) hk (Nat.le_succ _) ⟨?_, out, c, vals_back h3, hn⟩, rfl, q _ _ ?_ (I.hok.fresh (Nat.le_succ _))⟩
    · rw [List.length_map, hperm.length_eq, ← rv.length]; exact hz
    · rw [e1]; exact hperm.map backV
end Wp
/-! How the data stand in the heap. -/
namespace Wp
open PySem PySem.Spec PyProof.Rows L2

/-! ### what is never changed: tuples, instances -/
def isT : HO → Bool
  | .tup _ => true
  | .ins _ _ _ => true
  | _ => false
/-- tuples and instances stand as they stood -/
def Keep (H H' : Hp) : Prop := ∀ b o, isT o = true → H b = some o → H' b = some o
theorem Keep.refl (H : Hp) : Keep H H := fun _ _ _ h => h
theorem Keep.trans {H H1 H2 : Hp} (a : Keep H H1) (b : Keep H1 H2) : Keep H H2 := fun c o t h => b c o t (a c o t h)
theorem _root_.L2.Same.keep {H H' : Hp} (s : Same H H') : Keep H H' := fun b o _ h => s b o h
/-- a new object is laid -/
theorem same_new {H : Hp} {p : Addr} {o : HO} (h : H p = none) : Same H (upd H p o) := fun b x e => by
  rw [upd_ne (ne_of_none e h)]
  exact e
/-- what is no tuple and no instance is written -/
theorem keep_upd {H : Hp} {d : Addr} {o u : HO} (h : H d = some u) (hu : isT u = false) : Keep H (upd H d o) := fun b x t e => by
  have hb : b ≠ d := fun q => by
    rw [q, h] at e
    cases e
    rw [hu] at t
    cases t
  rw [upd_ne hb]
  exact e
/-- what was laid behind H is written -/
theorem same_upd_new {H H1 : Hp} {d : Addr} {o : HO} (s : Same H H1) (h : H d = none) : Same H (upd H1 d o) := fun b x e => by
  rw [upd_ne (ne_of_none e h)]
  exact s b x e

/-! ### pairs, hours, roads, bars -/
def PairAt (H : Hp) (v : V) (p : Int × Int) : Prop := ∃ t, v = .ref t ∧ H t = some (.tup [.int p.1, .int p.2])
def HoursAt (H : Hp) (v : V) : Option (List (Int × Int)) → Prop
  | none => v = .non
  | some ps => ∃ t ts, v = .ref t ∧ H t = some (.tup ts) ∧ Paired (PairAt H) ts ps
def RoadAt (H : Hp) (v : V) (r : Road) : Prop := ∃ t k h, v = .ref t ∧ H t = some (.tup [.str r.name, .str r.start, .str r.stop, .int r.mins, .ref k, h]) ∧ H k = some (.tup (r.kinds.map V.str)) ∧ HoursAt H h r.hours
def BarAt (H : Hp) (v : V) (b : Str × Str) : Prop := ∃ t, v = .ref t ∧ H t = some (.tup [.str b.1, .str b.2])
theorem PairAt.keep {H H' : Hp} (k : Keep H H') {v : V} {p : Int × Int} (h : PairAt H v p) : PairAt H' v p := by
  obtain ⟨t, e, h⟩ := h
  exact ⟨t, e, k _ _ rfl h⟩
theorem HoursAt.keep {H H' : Hp} (k : Keep H H') {v : V} {p : Option (List (Int × Int))} (h : HoursAt H v p) : HoursAt H' v p := by
  cases p with
  | none => exact h
  | some ps =>
    obtain ⟨t, ts, e, h, q⟩ := h
    exact ⟨t, ts, e, k _ _ rfl h, Paired.mapP q fun _ _ z => z.keep k⟩
theorem RoadAt.keep {H H' : Hp} (k : Keep H H') {v : V} {r : Road} (h : RoadAt H v r) : RoadAt H' v r := by
  obtain ⟨t, kk, hh, e, h1, h2, h3⟩ := h
  exact ⟨t, kk, hh, e, k _ _ rfl h1, k _ _ rfl h2, h3.keep k⟩
theorem BarAt.keep {H H' : Hp} (k : Keep H H') {v : V} {b : Str × Str} (h : BarAt H v b) : BarAt H' v b := by
  obtain ⟨t, e, h⟩ := h
  exact ⟨t, e, k _ _ rfl h⟩

/-! ### Paired, by places -/
theorem paired_len {α β : Type} {R : α → β → Prop} : ∀ {as : List α} {bs : List β}, Paired R as bs → as.length = bs.length
  | _, _, .nil => rfl
  | _, _, .cons _ t => congrArg Nat.succ (paired_len t)
theorem paired_get {α β : Type} {R : α → β → Prop} : ∀ {as : List α} {bs : List β} {i : Nat} {a : α}, Paired R as bs → as[i]? = some a → ∃ b, bs[i]? = some b ∧ R a b
  | _, _, _, _, .nil, h => by simp at h
  | _, _, 0, _, .cons r _, h => by
    simp at h
    subst h
    exact ⟨_, rfl, r⟩
  | _, _, i + 1, a, .cons _ t, h => by
    obtain ⟨b, h1, h2⟩ := paired_get (i := i) t (by simpa using h)
    exact ⟨b, by simpa using h1, h2⟩
theorem paired_snoc {α β : Type} {R : α → β → Prop} {a : α} {b : β} (r : R a b) : ∀ {as : List α} {bs : List β}, Paired R as bs → Paired R (as ++ [a]) (bs ++ [b])
  | _, _, .nil => .cons r .nil
  | _, _, .cons r' t => .cons r' (paired_snoc r t)
theorem paired_perm {α β : Type} {R : α → β → Prop} {as as' : List α} (p : as'.Perm as) : ∀ {bs : List β}, Paired R as bs → ∃ bs', bs'.Perm bs ∧ Paired R as' bs' := by
  induction p with
  | nil => exact fun {bs} h => ⟨bs, List.Perm.refl _, h⟩
  | cons x _ ih =>
    intro bs h
    cases h with
    | cons r t =>
      obtain ⟨bs', p', h'⟩ := ih t
      exact ⟨_ :: bs', p'.cons _, .cons r h'⟩
  | swap x y l =>
    intro bs h
    cases h with
    | cons r t =>
      cases t with
      | cons r' t' => exact ⟨_, List.Perm.swap _ _ _, .cons r' (.cons r t')⟩
  | trans _ _ ih1 ih2 =>
    intro bs h
    obtain ⟨b1, p1, h1⟩ := ih2 h
    obtain ⟨b2, p2, h2⟩ := ih1 h1
    exact ⟨b2, p2.trans p1, h2⟩
theorem paired_take {α β : Type} {R : α → β → Prop} (n : Nat) : ∀ {as : List α} {bs : List β}, Paired R as bs → Paired R (as.take n) (bs.take n) := by
  induction n with
  | zero => intro as bs _; exact .nil
  | succ n ih =>
    intro as bs h
    cases h with
    | nil => exact .nil
    | cons r t => exact .cons r (ih t)
theorem paired_mem {α β : Type} {R : α → β → Prop} : ∀ {as : List α} {bs : List β} {a : α}, Paired R as bs → a ∈ as → ∃ b, b ∈ bs ∧ R a b
  | _, _, _, .nil, h => by cases h
  | _, _, _, .cons r t, h => by
    rcases List.mem_cons.mp h with rfl | h
    · exact ⟨_, List.mem_cons_self .., r⟩
    · obtain ⟨b, h1, h2⟩ := paired_mem t h
      exact ⟨b, List.mem_cons_of_mem _ h1, h2⟩

/-! ### the map as the program keeps it -/
/-- the names of the methods are no attributes -/
def FsOk (fs : List (Str × V)) : Prop := ∀ m ∈ (["checked", "checked_bar", "road", "check_place", "roads_from", "is_barred"] : List Str), fs.lookup m = none
/-- an instance at p with these attributes -/
def ObAt (C : Addr) (H : Hp) (p : Addr) (fs : List (Str × V)) : Prop := FsOk fs ∧ ∃ dx, H p = some (.ins C dx fs)
theorem ObAt.keep {C : Addr} {H H' : Hp} (k : Keep H H') {p : Addr} {fs : List (Str × V)} (h : ObAt C H p fs) : ObAt C H' p fs := by
  obtain ⟨f, dx, h⟩ := h
  exact ⟨f, dx, k _ _ rfl h⟩
/-- attribute f of fs is a tuple of texts -/
def TxtF (H : Hp) (fs : List (Str × V)) (f : Str) (xs : List Str) : Prop := ∃ a, fs.lookup f = some (.ref a) ∧ H a = some (.tup (xs.map V.str))
theorem TxtF.keep {H H' : Hp} (k : Keep H H') {fs : List (Str × V)} {f : Str} {xs : List Str} (h : TxtF H fs f xs) : TxtF H' fs f xs := by
  obtain ⟨a, e, h⟩ := h
  exact ⟨a, e, k _ _ rfl h⟩
def RoadsF (H : Hp) (fs : List (Str × V)) (rs : List Road) : Prop := ∃ a vs, fs.lookup ("roads" : Str) = some (.ref a) ∧ H a = some (.tup vs) ∧ Paired (RoadAt H) vs rs
theorem RoadsF.keep {H H' : Hp} (k : Keep H H') {fs : List (Str × V)} {xs : List Road} (h : RoadsF H fs xs) : RoadsF H' fs xs := by
  obtain ⟨a, vs, e, h, q⟩ := h
  exact ⟨a, vs, e, k _ _ rfl h, Paired.mapP q fun _ _ z => z.keep k⟩
def BarsF (H : Hp) (fs : List (Str × V)) (bs : List (Str × Str)) : Prop := ∃ a vs, fs.lookup ("bars" : Str) = some (.ref a) ∧ H a = some (.tup vs) ∧ Paired (BarAt H) vs bs
theorem BarsF.keep {H H' : Hp} (k : Keep H H') {fs : List (Str × V)} {xs : List (Str × Str)} (h : BarsF H fs xs) : BarsF H' fs xs := by
  obtain ⟨a, vs, e, h, q⟩ := h
  exact ⟨a, vs, e, k _ _ rfl h, Paired.mapP q fun _ _ z => z.keep k⟩
structure ChartAt (C : Addr) (H : Hp) (p : Addr) (M : Parts) : Prop where
  ex : ∃ fs, ObAt C H p fs ∧ fs.lookup ("day" : Str) = some (.int M.day) ∧ TxtF H fs "places" M.places ∧ TxtF H fs "kinds" M.kinds ∧ RoadsF H fs M.roads ∧ BarsF H fs M.bars
theorem ChartAt.keep {C : Addr} {H H' : Hp} (k : Keep H H') {p : Addr} {M : Parts} (h : ChartAt C H p M) : ChartAt C H' p M := by
  obtain ⟨fs, a, b, c, d, e, f⟩ := h.ex
  exact ⟨fs, a.keep k, b, c.keep k, d.keep k, e.keep k, f.keep k⟩

/-! ### what stands in lists -/
/-- law's own parts: the list of five at p -/
structure PartsAt (H : Hp) (p : Addr) (P : Parts) : Prop where
  ex : ∃ pl kd rd br rvs bvs, H p = some (.lst [.int P.day, .ref pl, .ref kd, .ref rd, .ref br]) ∧ H pl = some (.lst (P.places.map V.str)) ∧ H kd = some (.lst (P.kinds.map V.str)) ∧
    H rd = some (.lst rvs) ∧ Paired (RoadAt H) rvs P.roads ∧ H br = some (.lst bvs) ∧ Paired (BarAt H) bvs P.bars
theorem PartsAt.same {H H' : Hp} (k : Same H H') {p : Addr} {M : Parts} (h : PartsAt H p M) : PartsAt H' p M := by
  obtain ⟨pl, kd, rd, br, rvs, bvs, a, b, c, d, e, f, g⟩ := h.ex
  exact ⟨pl, kd, rd, br, rvs, bvs, k _ _ a, k _ _ b, k _ _ c, k _ _ d, Paired.mapP e fun _ _ z => z.keep k.keep, k _ _ f, Paired.mapP g fun _ _ z => z.keep k.keep⟩

/-! ### data of any depth -/
theorem BarAt.dp {K : PySem.W.Frag} {H : Hp} {v : V} {b : Str × Str} (h : BarAt H v b) : Dp K H v (encP b) := by
  obtain ⟨t, rfl, h⟩ := h
  exact .tup (SqT.of h) (.cons (.str _) (.cons (.str _) .nil))
theorem bars_dp {K : PySem.W.Frag} {H : Hp} : ∀ {vs : List V} {bs : List (Str × Str)}, Paired (BarAt H) vs bs → DpAll K H vs (bs.map encP)
  | _, _, .nil => .nil
  | _, _, .cons r t => .cons r.dp (bars_dp t)
theorem strs_dp {K : PySem.W.Frag} {H : Hp} : ∀ (xs : List Str), DpAll K H (xs.map V.str) (xs.map PyData.str)
  | [] => .nil
  | x :: xs => .cons (.str x) (strs_dp xs)
theorem enc_eqv (a b : Str × Str) : PyData.eqv (encP a) (encP b) = decide (a = b) := by
  obtain ⟨x, y⟩ := a
  obtain ⟨z, w⟩ := b
  have e : PyData.eqv (encP (x, y)) (encP (z, w)) = ((x == z) && ((y == w) && true)) := by simp only [encP, PyData.eqv, PyData.eqvAll]
  rw [e]
  by_cases h1 : x = z
  · by_cases h2 : y = w
    · subst h1 h2
      simp
    · have : ¬ ((x, y) : Str × Str) = (z, w) := fun q => h2 (Prod.mk.inj q).2
      simp [h2]
  · have : ¬ ((x, y) : Str × Str) = (z, w) := fun q => h1 (Prod.mk.inj q).1
    simp [h1]
theorem str_eqv (a b : Str) : PyData.eqv (.str a) (.str b) = decide (a = b) := by
  simp only [PyData.eqv]
  by_cases h : a = b
  · subst h; simp
  · simp [h]
/-! ### names -/
def LetC (c : Nat) : Prop := (97 ≤ c ∧ c ≤ 122) ∨ (48 ≤ c ∧ c ≤ 57)
def GoodName (x : Str) : Prop := ∃ c r, x.cps.toList = c :: r ∧ 97 ≤ c ∧ c ≤ 122 ∧ r.length ≤ 11 ∧ ∀ d ∈ r, LetC d
theorem GoodName.ok {x : Str} (h : GoodName x) : PyData.strOk x = true := by
  obtain ⟨c, r, e, h1, h2, h3, h4⟩ := h
  unfold PyData.strOk
  rw [← Array.all_toList, e, List.all_eq_true]
  intro d hd
  rcases List.mem_cons.mp hd with rfl | hd
  · exact decide_eq_true (by omega)
  · have := h4 d hd
    unfold LetC at this
    exact decide_eq_true (by omega)
def GoodBar (b : Str × Str) : Prop := GoodName b.1 ∧ GoodName b.2
theorem enc_shaped {b : Str × Str} (g : GoodBar b) : SeqAt.shaped (encP b) = true := by
  show ((encP b).canLay0 && decide ((encP b).depth ≤ 64)) = true
  rw [Bool.and_eq_true]
  exact ⟨by simp [encP, PyData.canLay0, PyData.canLayAll0, g.1.ok, g.2.ok], decide_eq_true (by simp [encP, PyData.depth, PyData.depthAll])⟩
theorem str_shaped {x : Str} (g : GoodName x) : SeqAt.shaped (.str x) = true := by
  show ((PyData.str x).canLay0 && decide ((PyData.str x).depth ≤ 64)) = true
  rw [Bool.and_eq_true]
  exact ⟨by simp [PyData.canLay0, g.ok], decide_eq_true (by simp [PyData.depth])⟩
theorem encs_lay : ∀ {bs : List (Str × Str)}, (∀ b ∈ bs, GoodBar b) → PyData.canLayAll0 (bs.map encP) = true
  | [], _ => by simp [PyData.canLayAll0]
  | b :: bs, g => by
    have h := encs_lay fun c hc => g c (List.mem_cons_of_mem _ hc)
    have gb := g b (List.mem_cons_self ..)
    simp only [List.map_cons, PyData.canLayAll0, h, Bool.and_true]
    simp [encP, PyData.canLay0, PyData.canLayAll0, gb.1.ok, gb.2.ok]
theorem strs_lay : ∀ {bs : List Str}, (∀ b ∈ bs, GoodName b) → PyData.canLayAll0 (bs.map PyData.str) = true
  | [], _ => by simp [PyData.canLayAll0]
  | b :: bs, g => by
    have h := strs_lay fun c hc => g c (List.mem_cons_of_mem _ hc)
    simp only [List.map_cons, PyData.canLayAll0, h, Bool.and_true]
    simp [PyData.canLay0, (g b (List.mem_cons_self ..)).ok]
theorem GoodName.len {x : Str} (h : GoodName x) : 1 ≤ x.length ∧ x.length ≤ 12 := by
  obtain ⟨c, r, e, _, _, h3, _⟩ := h
  have : x.length = (c :: r).length := by rw [← e]; exact (Array.length_toList).symm
  rw [this, List.length_cons]
  omega

/-! ### a whole map that the program takes -/
structure RoadWf (P : Parts) (r : Road) : Prop where
  name : GoodName r.name
  start : r.start ∈ P.places
  stop : r.stop ∈ P.places
  mins : 1 ≤ r.mins ∧ r.mins ≤ 1000
  kindsN : r.kinds.Nodup
  kinds : ∀ k ∈ r.kinds, k ∈ P.kinds
  hours : HoursOk P.day r.hours
structure Wf (P : Parts) : Prop where
  day : 1 ≤ P.day ∧ P.day ≤ 1440
  placesL : 1 ≤ P.places.length ∧ P.places.length ≤ 30
  placesN : P.places.Nodup
  placesG : ∀ x ∈ P.places, GoodName x
  kindsL : 1 ≤ P.kinds.length ∧ P.kinds.length ≤ 4
  kindsN : P.kinds.Nodup
  kindsG : ∀ x ∈ P.kinds, GoodName x
  roadsL : P.roads.length ≤ 9
  roadsN : (P.roads.map (·.name)).Nodup
  roads : ∀ r ∈ P.roads, RoadWf P r
  barsL : P.bars.length ≤ 40
  barsN : P.bars.Nodup
  bars : ∀ b ∈ P.bars, ∃ r ∈ P.roads, ∃ o ∈ P.roads, r.name = b.1 ∧ o.name = b.2 ∧ r.stop = o.start
theorem Wf.good {P : Parts} (W : Wf P) : Good P := ⟨by have := W.day; omega, fun r hr => ⟨(W.roads r hr).mins, (W.roads r hr).hours⟩, W.roadsN⟩
theorem Wf.bar {P : Parts} (W : Wf P) : ∀ b ∈ P.bars, GoodBar b := fun b hb => by
  obtain ⟨r, hr, o, ho, e1, e2, _⟩ := W.bars b hb
  exact ⟨e1 ▸ (W.roads r hr).name, e2 ▸ (W.roads o ho).name⟩
theorem road_inj : ∀ {l : List Road}, (l.map (·.name)).Nodup → ∀ {a b : Road}, a ∈ l → b ∈ l → a.name = b.name → a = b := by
  intro l
  induction l with
  | nil => intro _ a b ha; cases ha
  | cons x l ih =>
    intro hn a b ha hb e
    rw [List.map_cons, List.nodup_cons] at hn
    rcases List.mem_cons.mp ha with ea | ha1 <;> rcases List.mem_cons.mp hb with eb | hb1
    · rw [ea, eb]
    · exact (hn.1 (List.mem_map.mpr ⟨b, hb1, by rw [← e, ea]⟩)).elim
    · exact (hn.1 (List.mem_map.mpr ⟨a, ha1, by rw [e, eb]⟩)).elim
    · exact ih hn.2 ha1 hb1 e
end Wp
/-! The small defs and the map's readers. -/
namespace Wp
open PySem PySem.Spec PyProof.Rows L2
section
variable {P : Program} {w : World} {K : PySem.W.Frag} {mg : Str → Option Value} {base : Heap} {a : Ad}

/-! ### require -/
def sp_require : Sp := fun vs H Q _ => vs = [.bl true] ∧ Q .non H
theorem ok_require (T : Txt K mg a) : FnOk P w K mg base CX0 1 a.f_require a.d_require ["holds"] sp_require := by
  refine T.require.fn.ok sc_require (fun vs H Q E h => ?_) (fun cdv A outer s H vs Q E hr h => ?_)
  · obtain ⟨rfl, _⟩ := h
    rfl
  · obtain ⟨rfl, k⟩ := h
    refine ⟨_, pss_one (ps_if (pt_not (pt_val (pv 0))) pss_never pss_nil), ?_⟩
    exact ⟨_, rfl, true, rfl, iteF k⟩

/-! ### Map.road -/
def sp_road (C : Addr) : Sp := fun vs H Q _ => ∃ p n fs rs r, vs = [.ref p, .str n] ∧ ObAt C H p fs ∧ RoadsF H fs rs ∧ r ∈ rs ∧ r.name = n ∧ (rs.map (·.name)).Nodup ∧ ∀ v, RoadAt H v r → Q v H
theorem ok_road (T : Txt K mg a) : FnOk P w K mg base CX0 1 a.f_road a.d_road ["self", "name"] (sp_road a.C) := by
  refine T.road.fn.ok sc_road (fun vs H Q E h => ?_) (fun cdv A outer s H vs Q E hr h => ?_)
  · obtain ⟨p, n, fs, rs, r, rfl, _⟩ := h
    rfl
  · obtain ⟨p, n, fs, rs, r, rfl, ⟨hfs, dx, hp⟩, ⟨rd, rvs, lr, hrd, hrs⟩, hr1, rfl, hnd, k⟩ := h
    refine ⟨_, pss_cons (ps_for PassesOwn.never rfl (pi_tup (pe_fld (pv 0) rfl)) (pg_name (i := 2) sc_road.nd rfl (Or.inl rfl))
        (pss_one (ps_if (pt_cmpR op_eq (pe_ix ix_tup (pv 2) pe_int (fun _ _ => rfl)) (pv 1) (nomark _)) (pss_one (ps_ret (pv 2))) pss_nil)))
      (pss_one ps_never), ?_⟩
    refine ⟨_, rfl, p, a.C, dx, fs, _, rfl, hp, T.cl, T.n_roads, lr, rd, rfl, ⟨rvs, SqT.of hrd⟩, ?_⟩
    refine for_it (walk_tup (K := K) (a := rd) (xs := rvs)) (fun i σ H' => H' = H ∧ (∃ v, σ = [some (.ref p), some (.str r.name), v]) ∧ ∀ (j : Nat) r', j < i → rs[j]? = some r' → r'.name ≠ r.name)
      ⟨rfl, ⟨none, rfl⟩, fun j r' h => absurd h (Nat.not_lt_zero _)⟩ (fun i σ H' _ h => by rw [h.1]; exact SqT.of hrd) ?_ ?_
    · rintro i x σ H' H2 hi ⟨rfl, ⟨v, rfl⟩, hno⟩ ⟨rfl, hx⟩
      obtain ⟨r', hr', hR⟩ := paired_get hrs hx
      obtain ⟨t, kk, hh, rfl, ht, hk2⟩ := id hR
      refine ⟨_, rfl, t, _, 0, .str r'.name, rfl, rfl, SqT.of ht, atI_nat (j := 0) rfl, _, rfl, rfl, _, rfl, ite2 (fun e => ?_) (fun e => ?_)⟩
      · have e1 : r'.name = r.name := V.str.inj (of_decide_eq_true e)
        have e2 : r' = r := road_inj hnd (List.mem_of_getElem? hr') hr1 e1
        subst e2
        exact ⟨_, rfl, k _ hR⟩
      · refine ⟨rfl, ⟨_, rfl⟩, fun j r2 hj hj2 => ?_⟩
        rcases Nat.lt_succ_iff_lt_or_eq.mp hj with hj | hj
        · exact hno j r2 hj hj2
        · subst hj
          rw [hr'] at hj2
          cases hj2
          exact fun z => e (decide_eq_true (by rw [z]))
    · rintro σ H' ⟨rfl, _, hno⟩
      obtain ⟨j, hj⟩ := List.getElem?_of_mem hr1
      have hl := paired_len hrs
      exact absurd rfl (hno j r (by have := (List.getElem?_eq_some_iff.mp hj).1; omega) hj)

/-! ### Map.check_place -/
def sp_check_place (C : Addr) : Sp := fun vs H Q _ => ∃ p x fs xs, vs = [.ref p, .str x] ∧ ObAt C H p fs ∧ TxtF H fs "places" xs ∧ x ∈ xs ∧ Q .non H
theorem flat_strs : ∀ xs : List Str, (xs.map V.str).all flatV = true
  | [] => rfl
  | x :: xs => by
    rw [List.map_cons, List.all_cons, flat_strs xs]
    rfl
theorem inV_str (x : Str) (xs : List Str) : inV (.str x) (xs.map V.str) = decide (x ∈ xs) := by
  unfold inV
  rw [List.any_map]
  by_cases h : x ∈ xs
  · rw [decide_eq_true h, List.any_eq_true]
    exact ⟨x, h, by simp [eqV]⟩
  · rw [decide_eq_false h, List.any_eq_false]
    intro y hy
    simp [eqV]
    intro e
    subst e
    exact h hy
theorem ok_check_place (T : Txt K mg a) : FnOk P w K mg base CX0 1 a.f_check_place a.d_check_place ["self", "place"] (sp_check_place a.C) := by
  refine T.check_place.fn.ok sc_check_place (fun vs H Q E h => ?_) (fun cdv A outer s H vs Q E hr h => ?_)
  · obtain ⟨p, n, fs, rs, rfl, _⟩ := h
    rfl
  · obtain ⟨p, x, fs, xs, rfl, ⟨hfs, dx, hp⟩, ⟨pl, lp, hpl⟩, hx, k⟩ := h
    refine ⟨_, pss_one (ps_if (pt_cmpR op_notIn_seq (pv 1) (pe_fld (pv 0) rfl) (by rfl)) pss_never pss_nil), ?_⟩
    refine ⟨_, rfl, _, rfl, p, a.C, dx, fs, _, rfl, hp, T.cl, T.n_places, lp, pl, _, rfl, .inr (SqT.of hpl), rfl, flat_strs xs, _, rfl, ?_⟩
    rw [if_pos rfl, inV_str, decide_eq_true hx]
    exact iteF k
end
end Wp
namespace Wp
open PySem PySem.Spec PyProof.Rows L2
section
variable {P : Program} {w : World} {K : PySem.W.Frag} {mg : Str → Option Value} {base : Heap} {a : Ad}
theorem room65 {A : Around} {k : Nat} (hr : Room k A) : A.units + 65 < cLine := by have := hr.un; omega
theorem _root_.L2.Same.seqT {K : PySem.W.Frag} {H H' : Hp} {a : Addr} {xs : List V} (e : Same H H') (h : SqT K H a xs) : SqT K H' a xs := by
  rcases h with (h | ⟨o, h⟩) | h
  · exact .inl (.inl (e _ _ h))
  · exact .inl (.inr ⟨o, e _ _ h⟩)
  · exact .inr h
theorem line10k {n : Nat} (h : n ≤ 10000) : n < sizeLine := Nat.lt_of_le_of_lt h (by decide)

/-! ### Map.road_names -/
def sp_road_names (C : Addr) : Sp := fun vs H Q _ => ∃ p fs rs, vs = [.ref p] ∧ ObAt C H p fs ∧ RoadsF H fs rs ∧ rs.length ≤ 100 ∧ ∀ H' q, Same H H' → H' q = some (.tup ((rs.map (·.name)).map V.str)) → Q (.ref q) H'
theorem ok_road_names (T : Txt K mg a) : FnOk P w K mg base CX0 1 a.f_road_names a.d_road_names ["self"] (sp_road_names a.C) := by
  refine T.road_names.ok sc_road_names (fun vs H Q E h => ?_) (fun cdv A outer s H vs Q E hr h => ?_)
  · obtain ⟨p, fs, rs, rfl, _⟩ := h
    rfl
  · obtain ⟨p, fs, rs, rfl, ⟨hfs, dx, hp⟩, ⟨rd, rvs, lr, hrd, hrs⟩, hlen, k⟩ := h
    refine ⟨_, pss_one (ps_ret (pe_callTy call_tuple_of (by rfl) T.z_tuple (by decide +kernel) (pa_cons
      (pe_lc (own := [("road", 1)]) (g := gName 1) (tt := tYes) rfl sc_road_names.nd (pi_tup (pe_fld (pv 0) rfl)) (blkOk_by (own := [("road", 1)]) (N := N_road_names) (sc := defScope s_road_names) (by decide +kernel))
        (fun _ _ _ _ _ => pg_name (i := 1) sc_road_names.nd rfl (Or.inl rfl)) (fun _ _ _ _ _ => pts_nil) (fun _ _ _ _ _ => pe_ix (r := rIxT K) ix_tup (pv 1) pe_int (fun _ _ => rfl))) pa_nil))), ?_⟩
    refine ⟨_, rfl, p, a.C, dx, fs, _, rfl, hp, T.cl, T.n_roads, lr, rd, rfl, ⟨rvs, SqT.of hrd⟩, fun D hD => ?_⟩
    have hl := paired_len hrs
    refine lc_it (walk_tup (K := K) (a := rd) (xs := rvs)) (fun i H' => Same H H' ∧ H' D = some (.lst (((rs.take i).map (·.name)).map V.str)))
      ⟨same_new hD, by rw [upd_same]; rfl⟩ (fun i H' _ h => h.1.seqT (SqT.of hrd)) ?_ ?_
    · rintro i x H' H2 hi ⟨sm, hd⟩ ⟨rfl, hx⟩
      obtain ⟨r', hr', hR⟩ := paired_get hrs hx
      obtain ⟨t, kk, hh, rfl, ht, hk2⟩ := hR.keep sm.keep
      refine ⟨rfl, _, rfl, t, _, 0, .str r'.name, rfl, rfl, SqT.of ht, atI_nat (j := 0) rfl, _, hd, ?_, same_upd_new sm hD, ?_⟩
      · rw [List.length_map, List.length_map, List.length_take]
        exact line10k (by omega)
      · rw [upd_same, List.take_add_one, hr', List.map_append, List.map_append]
        rfl
    · rintro H' ⟨sm, hd⟩
      rw [hl, List.take_length] at hd
      exact ⟨D, _, rfl, .inl ⟨SqL.of hd, fun l hl => k _ l (sm.trans (same_new hl)) upd_same⟩⟩

/-! ### Map.roads_from -/
def sp_roads_from (C : Addr) : Sp := fun vs H Q _ => ∃ p x fs xs rs, vs = [.ref p, .str x] ∧ ObAt C H p fs ∧ TxtF H fs "places" xs ∧ x ∈ xs ∧ RoadsF H fs rs ∧ rs.length ≤ 100 ∧
  ∀ H' q, Same H H' → H' q = some (.lst (((rs.filter fun r => decide (r.start = x)).map (·.name)).map V.str)) → Q (.ref q) H'
theorem ok_roads_from (T : Txt K mg a) : FnOk P w K mg base CX0 2 a.f_roads_from a.d_roads_from ["self", "place"] (sp_roads_from a.C) := by
  refine T.roads_from.fn.ok sc_roads_from (fun vs H Q E h => ?_) (fun cdv A outer s H vs Q E hr h => ?_)
  · obtain ⟨p, x, fs, xs, rs, rfl, _⟩ := h
    rfl
  · obtain ⟨p, x, fs, xs, rs, rfl, ho, hpl, hx, ⟨rd, rvs, lr, hrd, hrs⟩, hlen, k⟩ := h
    obtain ⟨hfs, dx, hp⟩ := id ho
    refine ⟨_, pss_cons (ps_expr (pe_meth (pv 0) T.cl T.check_place.me (ok_check_place T) hr T.check_place.bi .nil pass0 (pa_cons (pv 1) pa_nil)))
      (pss_one (ps_ret (pe_lc (own := [("road", 2)]) (g := gName 2) rfl sc_roads_from.nd (pi_tup (pe_fld (pv 0) rfl)) (blkOk_by (own := [("road", 2)]) (N := N_roads_from) (sc := defScope s_roads_from) (by decide +kernel))
        (fun _ _ _ _ _ => pg_name (i := 2) sc_roads_from.nd rfl (Or.inl rfl)) (fun _ _ _ _ _ => pts_one (pt_cmpR op_eq (pe_ix (r := rIxT K) ix_tup (pv 2) pe_int (fun _ _ => rfl)) (pv 1) (nomark _))) (fun _ _ _ _ _ => pe_ix (r := rIxT K) ix_tup (pv 2) pe_int (fun _ _ => rfl))))), ?_⟩
    refine ⟨_, rfl, p, dx, fs, rfl, hp, hfs _ (by simp), _, rfl, p, x, fs, xs, rfl, ho, hpl, hx, ?_⟩
    refine ⟨_, rfl, p, a.C, dx, fs, _, rfl, hp, T.cl, T.n_roads, lr, rd, rfl, ⟨rvs, SqT.of hrd⟩, fun D hD => ?_⟩
    have hl := paired_len hrs
    refine lc_it (walk_tup (K := K) (a := rd) (xs := rvs)) (fun i H' => Same H H' ∧ H' D = some (.lst ((((rs.take i).filter fun r => decide (r.start = x)).map (·.name)).map V.str)))
      ⟨same_new hD, by rw [upd_same]; rfl⟩ (fun i H' _ h => h.1.seqT (SqT.of hrd)) ?_ ?_
    · rintro i y H' H2 hi ⟨sm, hd⟩ ⟨rfl, hy⟩
      obtain ⟨r', hr', hR⟩ := paired_get hrs hy
      obtain ⟨t, kk, hh, rfl, ht, hk2⟩ := hR.keep sm.keep
      have et : (rs.take (i + 1)).filter (fun r => decide (r.start = x)) = (rs.take i).filter (fun r => decide (r.start = x)) ++ (if r'.start = x then [r'] else []) := by
        rw [List.take_add_one, hr', List.filter_append]
        by_cases e : r'.start = x <;> simp [e]
      refine ⟨rfl, _, rfl, t, _, 1, .str r'.start, rfl, rfl, SqT.of ht, atI_nat (j := 1) rfl, _, rfl, rfl, _, rfl, ite2 (fun e => ?_) (fun e => ?_)⟩
      · have e1 : r'.start = x := V.str.inj (of_decide_eq_true e)
        refine ⟨_, rfl, t, _, 0, .str r'.name, rfl, rfl, SqT.of ht, atI_nat (j := 0) rfl, _, hd, ?_, same_upd_new sm hD, ?_⟩
        · rw [List.length_map, List.length_map]
          exact line10k (Nat.le_trans (List.length_filter_le _ _) (by rw [List.length_take]; omega))
        · rw [upd_same, et, if_pos e1, List.map_append, List.map_append]
          rfl
      · have e1 : ¬ r'.start = x := fun z => e (decide_eq_true (by rw [z]))
        rw [if_neg e1, List.append_nil] at et
        exact ⟨sm, by rw [et]; exact hd⟩
    · rintro H' ⟨sm, hd⟩
      rw [hl, List.take_length] at hd
      exact k _ D sm hd

/-! ### Map.is_barred -/
def sp_is_barred (C : Addr) : Sp := fun vs H Q _ => ∃ p x y fs rs bs, vs = [.ref p, .str x, .str y] ∧ ObAt C H p fs ∧ RoadsF H fs rs ∧ (rs.map (·.name)).Nodup ∧ x ∈ rs.map (·.name) ∧ y ∈ rs.map (·.name) ∧ (∀ r ∈ rs, GoodName r.name) ∧ BarsF H fs bs ∧ (∀ b ∈ bs, GoodBar b) ∧
  ∀ H', Same H H' → Q (.bl (decide ((x, y) ∈ bs))) H'
theorem any_enc (b : Str × Str) (bs : List (Str × Str)) : ((bs.map encP).any fun z => PyData.eqv z (encP b)) = decide (b ∈ bs) := by
  rw [List.any_map]
  by_cases h : b ∈ bs
  · rw [decide_eq_true h, List.any_eq_true]
    exact ⟨b, h, by show PyData.eqv (encP b) (encP b) = true; rw [enc_eqv]; exact decide_eq_true rfl⟩
  · rw [decide_eq_false h, List.any_eq_false]
    intro y hy
    show ¬ PyData.eqv (encP y) (encP b) = true
    rw [enc_eqv]
    intro e
    exact h (of_decide_eq_true e ▸ hy)
theorem ok_is_barred (T : Txt K mg a) : FnOk P w K mg base CX0 2 a.f_is_barred a.d_is_barred ["self", "first", "second"] (sp_is_barred a.C) := by
  refine T.is_barred.fn.ok sc_is_barred (fun vs H Q E h => ?_) (fun cdv A outer s H vs Q E hr h => ?_)
  · obtain ⟨p, x, y, fs, rs, bs, rfl, _⟩ := h
    rfl
  · obtain ⟨p, x, y, fs, rs, bs, rfl, ho, hR, hnd, hx, hy, hg, ⟨bd, bvs, lb, hbd, hbs⟩, hgb, k⟩ := h
    obtain ⟨hfs, dx, hp⟩ := id ho
    obtain ⟨r1, h1, e1⟩ := List.mem_map.mp hx
    obtain ⟨r2, h2, e2⟩ := List.mem_map.mp hy
    refine ⟨_, pss_cons (ps_expr (pe_meth (pv 0) T.cl T.road.me (ok_road T) hr T.road.bi .nil pass0 (pa_cons (pv 1) pa_nil)))
      (pss_cons (ps_expr (pe_meth (pv 0) T.cl T.road.me (ok_road T) hr T.road.bi .nil pass0 (pa_cons (pv 2) pa_nil)))
      (pss_one (ps_ret (pe_cmpR (op_inS (room65 hr)) (pe_tup (pa_cons (pv 1) (pa_cons (pv 2) pa_nil))) (pe_fld (pv 0) rfl) (by rfl))))), ?_⟩
    refine ⟨_, rfl, p, dx, fs, rfl, hp, hfs _ (by simp), _, rfl, p, x, fs, rs, r1, rfl, ho, hR, h1, e1, hnd, fun v1 _ => ?_⟩
    refine ⟨_, rfl, p, dx, fs, rfl, hp, hfs _ (by simp), _, rfl, p, y, fs, rs, r2, rfl, ho, hR, h2, e2, hnd, fun v2 _ => ?_⟩
    refine ⟨_, rfl, _, rfl, by show 2 ≤ sizeLine; decide, fun t ht => ?_⟩
    have sm : Same H (upd H t (.tup [.str x, .str y])) := same_new ht
    have gxy : GoodBar (x, y) := ⟨e1 ▸ hg r1 h1, e2 ▸ hg r2 h2⟩
    refine ⟨_, rfl, p, a.C, dx, fs, _, rfl, sm _ _ hp, T.cl, T.n_bars, lb, encP (x, y), bs.map encP, BarAt.dp ⟨t, rfl, upd_same⟩, .inr (.tup (SqT.of (sm _ _ hbd)) (bars_dp (Paired.mapP hbs fun _ _ z => z.keep sm.keep))), enc_shaped gxy, encs_lay hgb, ?_⟩
    show Q (.bl ((bs.map encP).any fun z => PyData.eqv z (encP (x, y)))) _
    rw [any_enc]
    exact k _ sm
end
end Wp
/-! Tables of a name and an integer, as dicts. -/
namespace Wp
open PySem PySem.Spec PyProof.Rows L2
def kvsOf (L : Tab) : List (Key × V) := L.map fun p => ((Sum.inr p.1 : Key), V.int p.2)
def put (L : Tab) (n : Str) (v : Int) : Tab := if (L.any fun p => decide (p.1 = n)) = true then L.map (fun p => if p.1 = n then (p.1, v) else p) else L ++ [(n, v)]
theorem kvs_len (L : Tab) : (kvsOf L).length = L.length := by unfold kvsOf; rw [List.length_map]
theorem get_cons (p : Str × Int) (L : Tab) (n : Str) : get (p :: L) n = if n = p.1 then some p.2 else get L n := by
  obtain ⟨a, b⟩ := p
  unfold get
  rw [List.lookup_cons]
  by_cases h : n = a
  · subst h; simp
  · rw [if_neg (show ¬ n = (a, b).1 from h)]
    have : (n == a) = false := by simpa using h
    rw [this]
theorem valV_kvs (L : Tab) (n : Str) : valV (kvsOf L) (Sum.inr n : Key) = (get L n).map V.int := by
  induction L with
  | nil => rfl
  | cons p L ih =>
    rw [get_cons]
    show valV (((Sum.inr p.1 : Key), V.int p.2) :: kvsOf L) _ = _
    by_cases h : n = p.1
    · rw [if_pos h, valV_pos (by show (Sum.inr p.1 : Key) = Sum.inr n; rw [h])]
      rfl
    · rw [if_neg h, valV_neg (by intro e; exact h (Sum.inr.inj e).symm), ih]
theorem keys_kvs (L : Tab) : (kvsOf L).map (·.1) = (L.map (·.1)).map Sum.inr := by
  unfold kvsOf
  rw [List.map_map, List.map_map]
  rfl
theorem putK_kvs (L : Tab) (n : Str) (v : Int) : putK (kvsOf L) (Sum.inr n : Key) (V.int v) = kvsOf (put L n v) := by
  have e : ((kvsOf L).any fun kv => decide (kv.1 = (Sum.inr n : Key))) = (L.any fun p => decide (p.1 = n)) := by
    unfold kvsOf
    rw [List.any_map]
    congr 1
    funext p
    show decide ((Sum.inr p.1 : Key) = Sum.inr n) = decide (p.1 = n)
    rw [key_rr]
  unfold putK put
  rw [e]
  split
  · unfold kvsOf
    rw [List.map_map, List.map_map]
    refine List.map_congr_left fun p _ => ?_
    show (if (Sum.inr p.1 : Key) = Sum.inr n then ((Sum.inr p.1 : Key), V.int v) else ((Sum.inr p.1 : Key), V.int p.2)) = _
    by_cases h : p.1 = n
    · rw [if_pos (congrArg Sum.inr h)]
      show _ = ((Sum.inr (if p.1 = n then (p.1, v) else p).1 : Key), V.int (if p.1 = n then (p.1, v) else p).2)
      rw [if_pos h]
    · rw [if_neg (fun q => h (Sum.inr.inj q))]
      show _ = ((Sum.inr (if p.1 = n then (p.1, v) else p).1 : Key), V.int (if p.1 = n then (p.1, v) else p).2)
      rw [if_neg h]
  · unfold kvsOf
    rw [List.map_append]
    rfl
theorem get_put (L : Tab) (n j : Str) (v : Int) : get (put L n v) j = if j = n then some v else get L j := by
  have h := valV_put (kvsOf L) (Sum.inr n : Key) (Sum.inr j : Key) (V.int v)
  rw [putK_kvs, valV_kvs, valV_kvs] at h
  by_cases e : j = n
  · rw [if_pos (congrArg Sum.inr e)] at h
    rw [if_pos e]
    cases q : get (put L n v) j with
    | none => rw [q] at h; cases h
    | some x => rw [q] at h; cases h; rfl
  · rw [if_neg (fun z => e (Sum.inr.inj z))] at h
    rw [if_neg e]
    cases q : get (put L n v) j with
    | none =>
      rw [q] at h
      cases q2 : get L j with
      | none => rfl
      | some x => rw [q2] at h; cases h
    | some x =>
      rw [q] at h
      cases q2 : get L j with
      | none => rw [q2] at h; cases h
      | some y => rw [q2] at h; cases h; rfl
theorem get_mem {L : Tab} {n : Str} {v : Int} (h : get L n = some v) : (n, v) ∈ L := by
  induction L with
  | nil => cases h
  | cons p L ih =>
    rw [get_cons] at h
    by_cases e : n = p.1
    · rw [if_pos e] at h
      cases h
      rw [e]
      exact List.mem_cons_self ..
    · rw [if_neg e] at h
      exact List.mem_cons_of_mem _ (ih h)
theorem get_of_mem {L : Tab} (hn : (L.map (·.1)).Nodup) {n : Str} {v : Int} (h : (n, v) ∈ L) : get L n = some v := by
  induction L with
  | nil => cases h
  | cons p L ih =>
    rw [List.map_cons, List.nodup_cons] at hn
    rw [get_cons]
    rcases List.mem_cons.mp h with e | h
    · rw [if_pos (by rw [← e]), ← e]
    · rw [if_neg, ih hn.2 h]
      intro e
      exact hn.1 (List.mem_map.mpr ⟨(n, v), h, e⟩)
theorem get_none {L : Tab} {n : Str} (h : get L n = none) : n ∉ L.map (·.1) := by
  induction L with
  | nil => simp
  | cons p L ih =>
    rw [get_cons] at h
    by_cases e : n = p.1
    · rw [if_pos e] at h
      cases h
    · rw [if_neg e] at h
      rw [List.map_cons, List.mem_cons, not_or]
      exact ⟨e, ih h⟩
theorem put_len (L : Tab) (n : Str) (v : Int) : (put L n v).length ≤ L.length + 1 := by
  unfold put
  split
  · rw [List.length_map]; omega
  · rw [List.length_append]; exact Nat.le_refl _
theorem put_keys (L : Tab) (n : Str) (v : Int) : (put L n v).map (·.1) = if n ∈ L.map (·.1) then L.map (·.1) else L.map (·.1) ++ [n] := by
  unfold put
  by_cases h : n ∈ L.map (·.1)
  · rw [if_pos h]
    obtain ⟨p, hp, e⟩ := List.mem_map.mp h
    rw [if_pos (List.any_eq_true.mpr ⟨p, hp, decide_eq_true e⟩), List.map_map]
    refine List.map_congr_left fun q _ => ?_
    show (if q.1 = n then (q.1, v) else q).1 = q.1
    split <;> rfl
  · rw [if_neg h, if_neg]
    · rw [List.map_append]; rfl
    · intro q
      obtain ⟨p, hp, e⟩ := List.any_eq_true.mp q
      exact h (List.mem_map.mpr ⟨p, hp, of_decide_eq_true e⟩)
theorem put_nodup {L : Tab} (hn : (L.map (·.1)).Nodup) (n : Str) (v : Int) : ((put L n v).map (·.1)).Nodup := by
  rw [put_keys]
  split
  · exact hn
  · exact nd_snoc hn (by assumption)
theorem put_key_mem {L : Tab} {n x : Str} {v : Int} (h : x ∈ (put L n v).map (·.1)) : x = n ∨ x ∈ L.map (·.1) := by
  rw [put_keys] at h
  split at h
  · exact .inr h
  · rcases List.mem_append.mp h with h | h
    · exact .inr h
    · exact .inl (List.mem_singleton.mp h)
theorem mem_of_get {L : Tab} {n : Str} {v : Int} (h : get L n = some v) : n ∈ L.map (·.1) := List.mem_map.mpr ⟨(n, v), get_mem h, rfl⟩
/-- a table read at n -/
theorem dget {H : Hp} {d : Addr} {L : Tab} (h : Rd H d (.dK (kvsOf L))) (n : Str) : DGet H d (.str n) ((get L n).map V.int) := by
  rw [← valV_kvs]
  exact .inl ⟨_, Sum.inr n, h, rfl, rfl⟩
/-- L has the least label of each name of ps -/
structure Least (ps L : Tab) : Prop where
  nd : (L.map (·.1)).Nodup
  mem : ∀ n v, get L n = some v → (n, v) ∈ ps
  le : ∀ n v, (n, v) ∈ ps → ∃ v', v' ≤ v ∧ get L n = some v'
theorem Least.nil : Least [] [] := ⟨List.nodup_nil, fun _ _ h => (nomatch h), fun _ _ h => (nomatch h)⟩
theorem Least.snoc {ps L : Tab} (h : Least ps L) (n : Str) (l : Int) : Least (ps ++ [(n, l)]) (put L n (if (get L n).getD l < l then (get L n).getD l else l)) where
  nd := put_nodup h.nd n _
  mem := fun m v hm => by
    rw [get_put] at hm
    by_cases e : m = n
    · rw [if_pos e] at hm
      have hv := Option.some.inj hm
      subst e
      cases q : get L m with
      | none =>
        rw [q] at hv
        simp at hv
        subst hv
        exact List.mem_append_right _ (List.mem_singleton.mpr rfl)
      | some x =>
        rw [q] at hv
        simp only [Option.getD_some] at hv
        by_cases hx : x < l
        · rw [if_pos hx] at hv
          subst hv
          exact List.mem_append_left _ (h.mem _ _ q)
        · rw [if_neg hx] at hv
          subst hv
          exact List.mem_append_right _ (List.mem_singleton.mpr rfl)
    · rw [if_neg e] at hm
      exact List.mem_append_left _ (h.mem _ _ hm)
  le := fun m v hm => by
    rw [get_put]
    by_cases e : m = n
    · rw [if_pos e]
      subst e
      refine ⟨_, ?_, rfl⟩
      rcases List.mem_append.mp hm with hm | hm
      · obtain ⟨v', a, b⟩ := h.le _ _ hm
        rw [b]
        simp only [Option.getD_some]
        split <;> omega
      · have hv := (Prod.mk.inj (List.mem_singleton.mp hm)).2
        subst hv
        split <;> omega
    · rw [if_neg e]
      rcases List.mem_append.mp hm with hm | hm
      · exact h.le _ _ hm
      · exact absurd (Prod.mk.inj (List.mem_singleton.mp hm)).1 e
end Wp
/-! check_kind, check_trip, enter, arrive, is_drivable, is_labelled. -/
namespace Wp
open PySem PySem.Spec PyProof.Rows L2
section
variable {P : Program} {w : World} {K : PySem.W.Frag} {mg : Str → Option Value} {base : Heap} {a : Ad}

/-! ### check_kind, check_trip -/
def sp_check_kind (C : Addr) : Sp := fun vs H Q _ => ∃ p k M, vs = [.ref p, .str k] ∧ ChartAt C H p M ∧ k ∈ M.kinds ∧ Q .non H
theorem ok_check_kind (T : Txt K mg a) : FnOk P w K mg base CX0 1 a.f_check_kind a.d_check_kind ["chart", "kind"] (sp_check_kind a.C) := by
  refine T.check_kind.fn.ok sc_check_kind (fun vs H Q E h => ?_) (fun cdv A outer s H vs Q E hr h => ?_)
  · obtain ⟨p, k, M, rfl, _⟩ := h
    rfl
  · obtain ⟨p, x, M, rfl, hM, hx, k⟩ := h
    obtain ⟨fs, ⟨hfs, dx, hp⟩, hday, hpl, ⟨kd, lk, hkd⟩, hR, hB⟩ := hM.ex
    refine ⟨_, pss_one (ps_if (pt_cmpR op_notIn_seq (pv 1) (pe_fld (pv 0) rfl) (by rfl)) pss_never pss_nil), ?_⟩
    refine ⟨_, rfl, _, rfl, p, a.C, dx, fs, _, rfl, hp, T.cl, T.n_kinds, lk, kd, _, rfl, .inr (SqT.of hkd), rfl, flat_strs _, _, rfl, ?_⟩
    rw [if_pos rfl, inV_str, decide_eq_true hx]
    exact iteF k
def sp_check_trip (C : Addr) : Sp := fun vs H Q _ => ∃ p k x M, vs = [.ref p, .str k, .str x] ∧ ChartAt C H p M ∧ k ∈ M.kinds ∧ x ∈ M.places ∧ Q .non H
theorem ok_check_trip (T : Txt K mg a) : FnOk P w K mg base CX0 2 a.f_check_trip a.d_check_trip ["chart", "kind", "start"] (sp_check_trip a.C) := by
  refine T.check_trip.fn.ok sc_check_trip (fun vs H Q E h => ?_) (fun cdv A outer s H vs Q E hr h => ?_)
  · obtain ⟨p, k, x, M, rfl, _⟩ := h
    rfl
  · obtain ⟨p, kd, x, M, rfl, hM, hk, hx, k⟩ := h
    obtain ⟨fs, ho, hday, hpl, _⟩ := hM.ex
    obtain ⟨hfs, dx, hp⟩ := id ho
    refine ⟨_, pss_cons (ps_expr (pe_call (ok_check_kind T) hr (by rfl) T.check_kind.gl T.check_kind.fn.kp T.check_kind.bi .nil pass0 (pa_cons (pv 0) (pa_cons (pv 1) pa_nil))))
      (pss_one (ps_expr (pe_meth (pv 0) T.cl T.check_place.me (ok_check_place T) hr T.check_place.bi .nil pass0 (pa_cons (pv 2) pa_nil)))), ?_⟩
    refine ⟨_, rfl, _, rfl, p, kd, M, rfl, hM, hk, ?_⟩
    exact ⟨_, rfl, p, dx, fs, rfl, hp, hfs _ (by simp), _, rfl, p, x, fs, _, rfl, ho, hpl, hx, k⟩

/-! ### enter -/
def sp_enter (C : Addr) : Sp := fun vs H Q _ => ∃ p m M r, vs = [.ref p, .str r.name, .int m] ∧ ChartAt C H p M ∧ Good M ∧ r ∈ M.roads ∧ r.hours ≠ some [] ∧ Q (.int (ent M.day r.hours m)) H
theorem ok_enter (T : Txt K mg a) : FnOk P w K mg base CX0 2 a.f_enter a.d_enter ["chart", "name", "moment"] (sp_enter a.C) := by
  refine T.enter.fn.ok sc_enter (fun vs H Q E h => ?_) (fun cdv A outer s H vs Q E hr h => ?_)
  · obtain ⟨p, m, M, r, rfl, _⟩ := h
    rfl
  · obtain ⟨p, m, M, r, rfl, hM, G, hrm, hne, k⟩ := h
    obtain ⟨fs, ho, hday, hpl, _, hR, hB⟩ := hM.ex
    obtain ⟨hfs, dx, hp⟩ := id ho
    refine ⟨_, pss_cons (ps_set (i := 3) sc_enter.nd rfl (Or.inl rfl) (pe_ix (r := rIxT K) ix_tup (pe_meth (pv 0) T.cl T.road.me (ok_road T) hr T.road.bi .nil pass0 (pa_cons (pv 1) pa_nil)) pe_int (fun _ _ => rfl)))
      (pss_cons (ps_if (pt_cmpR op_isN (pv 3) pe_non (nomark _)) (pss_one (ps_ret (pv 2))) pss_nil)
      (pss_cons (ps_if (pt_not (pt_truth (pv 3) (by intro _; rfl))) (pss_one (ps_ret pe_non)) pss_nil)
      (pss_cons (ps_set (i := 4) sc_enter.nd rfl (Or.inl rfl) (pe_op op_mod (pv 2) (pe_fld (pv 0) rfl)))
      (pss_cons (ps_for PassesOwn.never rfl (pi_tup (pv 3)) (pg_tup (by rfl) (pgs_cons (pg_name (i := 5) sc_enter.nd rfl (Or.inl rfl)) (pgs_cons (pg_name (i := 6) sc_enter.nd rfl (Or.inl rfl)) pgs_nil)))
        (pss_one (ps_if (pt_cmpR op_lt (pv 4) (pv 6) (nomark _)) (pss_one (ps_ret (pe_op op_add (pe_op op_sub (pv 2) (pv 4)) (pe_callB (call_max2 rfl) (by rfl) T.z_max (by decide +kernel) (pa_cons (pv 4) (pa_cons (pv 5) pa_nil)))))) pss_nil)))
      (pss_one (ps_ret (pe_op op_add (pe_op op_add (pe_op op_sub (pv 2) (pv 4)) (pe_fld (pv 0) rfl)) (pe_ix (r := rIxT K) ix_tup (pe_ix (r := rIxT K) ix_tup (pv 3) pe_int (fun _ _ => rfl)) pe_int (fun _ _ => rfl))))))))), ?_⟩
    -- hours = chart.road(name)[5]
    refine ⟨_, rfl, p, dx, fs, rfl, hp, hfs _ (by simp), _, rfl, p, r.name, fs, M.roads, r, rfl, ho, hR, hrm, rfl, G.names, fun v hv => ?_⟩
    obtain ⟨t, kk, hh, rfl, ht, hk2, hhrs⟩ := hv
    refine ⟨t, _, 5, hh, rfl, rfl, SqT.of ht, atI_nat (j := 5) rfl, ?_⟩
    cases eh : r.hours with
    | none =>
      rw [eh] at hhrs
      obtain rfl : hh = V.non := hhrs
      refine ⟨_, rfl, rfl, _, rfl, iteT ⟨_, rfl, ?_⟩⟩
      rw [eh] at k
      exact k
    | some ps =>
      rw [eh] at hhrs k hne
      obtain ⟨tp, ts, rfl, htp, hpr⟩ := hhrs
      have hl := paired_len hpr
      have hps : ps ≠ [] := fun z => hne (by rw [z])
      have hOk : HoursOk M.day (some ps) := by
        have := (G.roads r hrm).hours
        rw [eh] at this
        exact this
      refine ⟨_, rfl, rfl, _, rfl, iteF ⟨_, rfl, true, .inr (.inl ⟨ts, SqT.of htp, ?_⟩), iteF ?_⟩⟩
      · cases ts with
        | nil => exact absurd (List.length_eq_zero_iff.mp hl.symm) hps
        | cons x r => rfl
      refine ⟨_, rfl, _, rfl, p, a.C, dx, fs, _, rfl, hp, T.cl, T.n_day, hday, _, _, rfl, rfl, G.day, ?_⟩
      refine ⟨_, rfl, tp, rfl, ⟨ts, SqT.of htp⟩, ?_⟩
      refine for_it (walk_tup (K := K) (a := tp) (xs := ts)) (fun i σ H' => H' = H ∧ (∃ v1 v2, σ = [some (.ref p), some (.str r.name), some (.int m), some (.ref tp), some (.int (m % M.day)), v1, v2]) ∧ entX M.day (m % M.day) (fbOf ps) (ps.drop i) = entX M.day (m % M.day) (fbOf ps) ps)
        ⟨rfl, ⟨none, none, rfl⟩, rfl⟩ (fun i σ H' _ h => by rw [h.1]; exact SqT.of htp) ?_ ?_
      · rintro i x σ H' H2 hi ⟨rfl, ⟨v1, v2, rfl⟩, hx⟩ ⟨rfl, hxi⟩
        obtain ⟨q, hq, t2, rfl, ht2⟩ := paired_get hpr hxi
        have ed : ps.drop i = q :: ps.drop (i + 1) := by
          obtain ⟨h1, h2⟩ := List.getElem?_eq_some_iff.mp hq
          rw [List.drop_eq_getElem_cons h1, h2]
        rw [ed, entX_cons] at hx
        refine ⟨t2, [.int q.1, .int q.2], rfl, SqT.of ht2, rfl, _, _, rfl, _, _, rfl, rfl, _, rfl, _, rfl, _, _, rfl, rfl, _, rfl, ite2 (fun e => ?_) (fun e => ?_)⟩
        · rw [if_pos (of_decide_eq_true e)] at hx
          refine ⟨_, rfl, _, rfl, _, _, rfl, rfl, _, rfl, _, rfl, _, _, rfl, _, _, rfl, rfl, ?_⟩
          show Q (.int (m - m % M.day + (if q.1 > m % M.day then q.1 else m % M.day))) _
          rw [hx]
          exact k
        · rw [if_neg (fun z => e (decide_eq_true z))] at hx
          exact ⟨rfl, ⟨_, _, rfl⟩, hx⟩
      · rintro σ H' ⟨rfl, ⟨v1, v2, rfl⟩, hx⟩
        rw [hl, List.drop_length, entX_nil] at hx
        obtain ⟨q, qs, rfl⟩ : ∃ q qs, ps = q :: qs := by
          cases ps with
          | nil => exact absurd rfl hps
          | cons q qs => exact ⟨q, qs, rfl⟩
        obtain ⟨v0, hv0⟩ : ∃ v0, ts[0]? = some v0 := ⟨_, List.getElem?_eq_getElem (by rw [hl]; exact Nat.succ_pos _)⟩
        obtain ⟨q', hq', t2, rfl, ht2⟩ := paired_get hpr hv0
        obtain rfl : q = q' := Option.some.inj hq'
        refine ⟨_, rfl, _, rfl, _, _, rfl, rfl, _, rfl, p, a.C, dx, fs, _, rfl, hp, T.cl, T.n_day, hday, _, _, rfl, rfl, _, rfl, tp, ts, 0, .ref t2, rfl, rfl, SqT.of htp, atI_nat (j := 0) hv0,
          t2, _, 0, .int q.1, rfl, rfl, SqT.of ht2, atI_nat (j := 0) rfl, _, _, rfl, rfl, ?_⟩
        have e : m - m % M.day + M.day + q.1 = m - m % M.day + entX M.day (m % M.day) (fbOf (q :: qs)) (q :: qs) := by
          rw [← hx]
          show _ = m - m % M.day + (M.day + q.1)
          omega
        show Q (.int (m - m % M.day + M.day + q.1)) _
        rw [e]
        exact k

/-! ### arrive -/
def sp_arrive (C : Addr) : Sp := fun vs H Q _ => ∃ p m M r, vs = [.ref p, .str r.name, .int m] ∧ ChartAt C H p M ∧ Good M ∧ r ∈ M.roads ∧ r.hours ≠ some [] ∧ Q (.int (arr M.day r m)) H
theorem ok_arrive (T : Txt K mg a) : FnOk P w K mg base CX0 3 a.f_arrive a.d_arrive ["chart", "name", "moment"] (sp_arrive a.C) := by
  refine T.arrive.fn.ok sc_arrive (fun vs H Q E h => ?_) (fun cdv A outer s H vs Q E hr h => ?_)
  · obtain ⟨p, m, M, r, rfl, _⟩ := h
    rfl
  · obtain ⟨p, m, M, r, rfl, hM, G, hrm, hne, k⟩ := h
    obtain ⟨fs, ho, hday, hpl, _, hR, hB⟩ := hM.ex
    obtain ⟨hfs, dx, hp⟩ := id ho
    refine ⟨_, pss_cons (ps_set (i := 3) sc_arrive.nd rfl (Or.inl rfl) (pe_call (ok_enter T) hr (by rfl) T.enter.gl T.enter.fn.kp T.enter.bi .nil pass0 (pa_cons (pv 0) (pa_cons (pv 1) (pa_cons (pv 2) pa_nil)))))
      (pss_cons (ps_if (pt_cmpR op_isN (pv 3) pe_non (nomark _)) (pss_one (ps_ret pe_non)) pss_nil)
      (pss_one (ps_ret (pe_op op_add (pv 3) (pe_ix (r := rIxT K) ix_tup (pe_meth (pv 0) T.cl T.road.me (ok_road T) (hr.mono (by decide)) T.road.bi .nil pass0 (pa_cons (pv 1) pa_nil)) pe_int (fun _ _ => rfl)))))), ?_⟩
    refine ⟨_, rfl, _, rfl, _, rfl, p, m, M, r, rfl, hM, G, hrm, hne, ?_⟩
    refine ⟨_, rfl, rfl, _, rfl, iteF ?_⟩
    refine ⟨_, rfl, _, rfl, p, dx, fs, rfl, hp, hfs _ (by simp), _, rfl, p, r.name, fs, M.roads, r, rfl, ho, hR, hrm, rfl, G.names, fun v hv => ?_⟩
    obtain ⟨t, kk, hh, rfl, ht, hk2, hhrs⟩ := hv
    exact ⟨t, _, 3, _, rfl, rfl, SqT.of ht, atI_nat (j := 3) rfl, _, _, rfl, rfl, k⟩
end
end Wp
/-! is_drivable, is_labelled, least_labels. -/
namespace Wp
open PySem PySem.Spec PyProof.Rows L2
/-- the road before, as a value -/
def befV : Option Str → V
  | none => .non
  | some b => .str b
def encH : Option (List (Int × Int)) → PyData
  | none => .none
  | some ps => .tuple (ps.map fun p => .tuple [.int p.1, .int p.2])
theorem pairs_dp {K : PySem.W.Frag} {H : Hp} : ∀ {vs : List V} {ps : List (Int × Int)}, Paired (PairAt H) vs ps → DpAll K H vs (ps.map fun p => .tuple [.int p.1, .int p.2])
  | _, _, .nil => .nil
  | _, _, .cons ⟨t, e, h⟩ r => by
    subst e
    exact .cons (.tup (SqT.of h) (.cons (.int _) (.cons (.int _) .nil))) (pairs_dp r)
theorem HoursAt.dp {K : PySem.W.Frag} {H : Hp} {v : V} {hs : Option (List (Int × Int))} (h : HoursAt H v hs) : Dp K H v (encH hs) := by
  cases hs with
  | none =>
    obtain rfl : v = .non := h
    exact .non
  | some ps =>
    obtain ⟨t, ts, rfl, ht, hp⟩ := h
    exact .tup (SqT.of ht) (pairs_dp hp)
theorem pairs_lay : ∀ ps : List (Int × Int), PyData.canLayAll0 (ps.map fun p => PyData.tuple [.int p.1, .int p.2]) = true
  | [] => by simp [PyData.canLayAll0]
  | p :: ps => by
    have h := pairs_lay ps
    simp only [List.map_cons, PyData.canLayAll0, h, Bool.and_true]
    simp [PyData.canLay0, PyData.canLayAll0]
theorem pairs_depth : ∀ ps : List (Int × Int), PyData.depthAll (ps.map fun p => PyData.tuple [.int p.1, .int p.2]) ≤ 2
  | [] => by simp [PyData.depthAll]
  | p :: ps => by
    have h := pairs_depth ps
    simp only [List.map_cons, PyData.depthAll, PyData.depth]
    omega
theorem encH_shaped (hs : Option (List (Int × Int))) : SeqAt.shaped (encH hs) = true := by
  cases hs with
  | none =>
    show ((PyData.none).canLay0 && decide ((PyData.none).depth ≤ 64)) = true
    simp [PyData.canLay0, PyData.depth]
  | some ps =>
    show ((encH (some ps)).canLay0 && decide ((encH (some ps)).depth ≤ 64)) = true
    rw [Bool.and_eq_true]
    refine ⟨by simp only [encH, PyData.canLay0]; exact pairs_lay ps, decide_eq_true ?_⟩
    have := pairs_depth ps
    simp only [encH, PyData.depth]
    omega
theorem nil_shaped : SeqAt.shaped (.tuple []) = true := by
  show ((PyData.tuple []).canLay0 && decide ((PyData.tuple []).depth ≤ 64)) = true
  simp [PyData.canLay0, PyData.canLayAll0, PyData.depth, PyData.depthAll]
theorem encH_nil (hs : Option (List (Int × Int))) : PyData.eqv (encH hs) (.tuple []) = decide (hs = some []) := by
  cases hs with
  | none => simp [encH, PyData.eqv]
  | some ps =>
    cases ps with
    | nil => simp [encH, PyData.eqv, PyData.eqvAll]
    | cons p ps => simp [encH, PyData.eqv, PyData.eqvAll]
section
variable {P : Program} {w : World} {K : PySem.W.Frag} {mg : Str → Option Value} {base : Heap} {a : Ad}

/-! ### is_drivable -/
/-- what the readers ask of the map -/
structure MapOk (M : Parts) : Prop where
  good : Good M
  names : ∀ r ∈ M.roads, GoodName r.name
  bars : ∀ b ∈ M.bars, GoodBar b
  stops : ∀ r ∈ M.roads, r.stop ∈ M.places
  len : M.roads.length ≤ 100
def sp_is_drivable (C : Addr) : Sp := fun vs H Q _ => ∃ p k pl b M r, vs = [.ref p, .str k, .str pl, befV b, .str r.name] ∧ ChartAt C H p M ∧ MapOk M ∧ r ∈ M.roads ∧ (∀ x, b = some x → x ∈ M.roads.map (·.name)) ∧
  ∀ c H', (c = true ↔ May M k pl b r) → Same H H' → Q (.bl c) H'
theorem ok_is_drivable (T : Txt K mg a) : FnOk P w K mg base CX0 3 a.f_is_drivable a.d_is_drivable ["chart", "kind", "place", "before", "name"] (sp_is_drivable a.C) := by
  refine T.is_drivable.fn.ok sc_is_drivable (fun vs H Q E h => ?_) (fun cdv A outer s H vs Q E hr h => ?_)
  · obtain ⟨p, k, pl, b, M, r, rfl, _⟩ := h
    rfl
  · obtain ⟨p, kd, pl, b, M, r, rfl, hM, G, hrm, hb, k⟩ := h
    obtain ⟨fs, ho, hday, hpl, _, hR, hB⟩ := hM.ex
    obtain ⟨hfs, dx, hp⟩ := id ho
    refine ⟨_, pss_cons (ps_set (i := 5) sc_is_drivable.nd rfl (Or.inl rfl) (pe_meth (pv 0) T.cl T.road.me (ok_road T) (hr.mono (by decide)) T.road.bi .nil pass0 (pa_cons (pv 4) pa_nil)))
      (pss_cons (ps_if (pw_or (pt_cmpR op_ne (pe_ix (r := rIxT K) ix_tup (pv 5) pe_int (fun _ _ => rfl)) (pv 2) (nomark _))
          (pw_or (pt_cmpR op_notIn_seq (pv 1) (pe_ix (r := rIxT K) ix_tup (pv 5) pe_int (fun _ _ => rfl)) (by rfl))
          (pw_or1 (pt_cmpR (op_eqD hr.units) (pe_ix (r := rIxT K) ix_tup (pv 5) pe_int (fun _ _ => rfl)) (pe_tup pa_nil) (nomark _))))).pt (pss_one (ps_ret pe_bl)) pss_nil)
      (pss_one (ps_ret (pe_or (pe_cmp (pc_isN (pv 3))) (pe_one (pe_not (pe_meth (pv 0) T.cl T.is_barred.me (ok_is_barred T) hr T.is_barred.bi .nil pass0 (pa_cons (pv 3) (pa_cons (pv 4) pa_nil))))))))), ?_⟩
    refine ⟨_, rfl, p, dx, fs, rfl, hp, hfs _ (by simp), _, rfl, p, r.name, fs, M.roads, r, rfl, ho, hR, hrm, rfl, G.good.names, fun v hv => ?_⟩
    obtain ⟨t, kk, hh, rfl, ht, hk2, hhrs⟩ := hv
    refine ⟨_, rfl, t, _, 1, _, rfl, rfl, SqT.of ht, atI_nat (j := 1) rfl, _, rfl, rfl, _, rfl, ite2 (fun e => iteT ?_) (fun e => ?_)⟩
    · have hne : ¬ r.start = pl := fun z => by
        rw [z] at e
        simp at e
      exact k false H ⟨fun z => Bool.noConfusion z, fun z => absurd z.1 hne⟩ (Same.refl H)
    have hst : r.start = pl := by
      by_cases z : r.start = pl
      · exact z
      · exact absurd (by simp [z]) e
    refine ⟨_, rfl, _, rfl, t, _, 4, _, rfl, rfl, SqT.of ht, atI_nat (j := 4) rfl, kk, _, rfl, .inr (SqT.of hk2), rfl, flat_strs _, _, rfl, ?_⟩
    rw [if_pos rfl, inV_str]
    by_cases hk : kd ∈ r.kinds
    · rw [decide_eq_true hk]
      refine iteF ?_
      refine ⟨_, rfl, t, _, 5, _, rfl, rfl, SqT.of ht, atI_nat (j := 5) rfl, Nat.zero_le _, fun q hq => ?_⟩
      have sm : Same H (upd H q (.tup [])) := same_new hq
      refine ⟨encH r.hours, .tuple [], (hhrs.keep sm.keep).dp, .tup (SqT.of upd_same) .nil, encH_shaped _, nil_shaped, _, rfl, ?_⟩
      rw [encH_nil]
      refine ite2 (fun e => ?_) (fun e => ?_)
      · exact k false _ ⟨fun z => Bool.noConfusion z, fun z => absurd (of_decide_eq_true e) z.2.2.1⟩ sm
      · have hh : r.hours ≠ some [] := fun z => e (decide_eq_true z)
        refine ⟨_, rfl, _, rfl, ?_⟩
        cases b with
        | none =>
          refine iteT ?_
          exact k true _ ⟨fun _ => ⟨hst, hk, hh, fun _ z => (nomatch z)⟩, fun _ => rfl⟩ sm
        | some x =>
          refine iteF ?_
          refine ⟨_, rfl, p, dx, fs, rfl, sm _ _ hp, hfs _ (by simp), _, rfl, _, rfl, p, x, r.name, fs, M.roads, M.bars, rfl, ho.keep sm.keep, hR.keep sm.keep, G.good.names, hb x rfl, List.mem_map.mpr ⟨r, hrm, rfl⟩, G.names, hB.keep sm.keep, G.bars, fun H' s2 => ?_⟩
          refine ⟨_, rfl, ?_⟩
          refine k _ _ ⟨fun z => ⟨hst, hk, hh, fun y hy => ?_⟩, fun z => ?_⟩ (sm.trans s2)
          · cases hy
            intro hm
            rw [decide_eq_true hm] at z
            cases z
          · have := z.2.2.2 x rfl
            rw [decide_eq_false this]
            rfl
    · rw [decide_eq_false hk]
      refine iteT ?_
      exact k false H ⟨fun z => Bool.noConfusion z, fun z => absurd z.2.1 hk⟩ (Same.refl H)

/-! ### is_labelled -/
def sp_is_labelled (C : Addr) : Sp := fun vs H Q _ => ∃ p k d bound pl t b M r L, vs = [.ref p, .str k, .ref d, .int bound, .str pl, .int t, .str r.name, befV b] ∧ ChartAt C H p M ∧ MapOk M ∧ r ∈ M.roads ∧ (∀ x, b = some x → x ∈ M.roads.map (·.name)) ∧
  Rd H d (.dK (kvsOf L)) ∧ ∀ c H', (c = true ↔ IsLab M k L bound pl t b r) → Same H H' → Q (.bl c) H'
theorem _root_.L2.Same.rd {H H' : Hp} (s : Same H H') {d : Addr} {u : HO} (h : Rd H d u) : Rd H' d u := by
  rcases h with h | ⟨o, h⟩
  · exact .inl (s _ _ h)
  · exact .inr ⟨o, s _ _ h⟩
theorem ok_is_labelled (T : Txt K mg a) : FnOk P w K mg base CX0 4 a.f_is_labelled a.d_is_labelled ["chart", "kind", "least", "bound", "place", "moment", "name", "before"] (sp_is_labelled a.C) := by
  refine T.is_labelled.fn.ok sc_is_labelled (fun vs H Q E h => ?_) (fun cdv A outer s H vs Q E hr h => ?_)
  · obtain ⟨p, k, d, bd, pl, t, b, M, r, L, rfl, _⟩ := h
    rfl
  · obtain ⟨p, kd, d, bd, pl, t, b, M, r, L, rfl, hM, G, hrm, hb, hL, k⟩ := h
    have hu := hu_of hr
    refine ⟨_, pss_cons (ps_if (pt_not (pt_val (pe_call (ok_is_drivable T) hr (by rfl) T.is_drivable.gl T.is_drivable.fn.kp T.is_drivable.bi .nil pass0 (pa_cons (pv 0) (pa_cons (pv 1) (pa_cons (pv 4) (pa_cons (pv 7) (pa_cons (pv 6) pa_nil)))))))) (pss_one (ps_ret pe_bl)) pss_nil)
      (pss_cons (ps_set (i := 8) sc_is_labelled.nd rfl (Or.inl rfl) (pe_call (ok_arrive T) hr (by rfl) T.arrive.gl T.arrive.fn.kp T.arrive.bi .nil pass0 (pa_cons (pv 0) (pa_cons (pv 6) (pa_cons (pv 5) pa_nil)))))
      (pss_one (ps_ret (pe_or (pe_cmpR op_gt (pv 8) (pv 3) (nomark _)) (pe_one (pe_and (pe_cmp (pc_din hu (pv 6) (pv 2))) (pe_one (pe_cmpR op_le (pe_dget hu (pv 2) (pv 6) (fun _ _ => rfl)) (pv 8) (nomark _))))))))), ?_⟩
    refine ⟨_, rfl, _, rfl, _, rfl, _, rfl, _, rfl, p, kd, pl, b, M, r, rfl, hM, G, hrm, hb, fun c H1 hc s1 => ?_⟩
    refine ⟨c, rfl, ?_⟩
    cases c with
    | false =>
      refine iteT ?_
      exact k true H1 ⟨fun _ hm => absurd (hc.mpr hm) (by simp), fun _ => rfl⟩ s1
    | true =>
      refine iteF ?_
      have hm := hc.mp rfl
      refine ⟨_, rfl, _, rfl, _, rfl, p, t, M, r, rfl, hM.keep s1.keep, G.good, hrm, hm.2.2.1, ?_⟩
      refine ⟨_, rfl, _, rfl, _, _, rfl, rfl, _, rfl, ite2 (fun e => ?_) (fun e => ?_)⟩
      · exact k true H1 ⟨fun _ _ => .inl (of_decide_eq_true e), fun _ => rfl⟩ s1
      · have hgt : ¬ arr M.day r t > bd := fun z => e (decide_eq_true z)
        refine ⟨_, rfl, _, rfl, d, _, rfl, dget (s1.rd hL) r.name, _, rfl, ?_⟩
        cases q : get L r.name with
        | none =>
          refine iteF ?_
          refine k false H1 ⟨fun z => Bool.noConfusion z, fun z => ?_⟩ s1
          rcases z hm with z | ⟨l, z, _⟩
          · exact absurd z hgt
          · rw [q] at z
            cases z
        | some l =>
          refine iteT ?_
          have hd := dget (s1.rd hL) r.name
          rw [q] at hd
          refine ⟨_, rfl, _, rfl, d, _, rfl, hd, _, rfl, _, _, rfl, rfl, ?_⟩
          refine k _ H1 ⟨fun z _ => .inr ⟨l, q, of_decide_eq_true z⟩, fun z => ?_⟩ s1
          rcases z hm with z | ⟨l', z, h⟩
          · exact absurd z hgt
          · rw [q] at z
            cases z
            exact decide_eq_true h

/-! ### least_labels -/
def LabAt (H : Hp) (v : V) (p : Str × Int) : Prop := ∃ t, v = .ref t ∧ H t = some (.tup [.str p.1, .int p.2])
theorem LabAt.keep {H H' : Hp} (k : Keep H H') {v : V} {p : Str × Int} (h : LabAt H v p) : LabAt H' v p := by
  obtain ⟨t, e, h⟩ := h
  exact ⟨t, e, k _ _ rfl h⟩
def sp_least_labels (C : Addr) : Sp := fun vs H Q _ => ∃ p l pvs ps M, vs = [.ref p, .ref l] ∧ ChartAt C H p M ∧ MapOk M ∧ H l = some (.lst pvs) ∧ Paired (LabAt H) pvs ps ∧ ps.length ≤ 100 ∧ (∀ q ∈ ps, q.1 ∈ M.roads.map (·.name)) ∧
  ∀ d L H', Same H H' → H' d = some (.dK (kvsOf L)) → Least ps L → Q (.ref d) H'
theorem ok_least_labels (T : Txt K mg a) : FnOk P w K mg base CX0 2 a.f_least_labels a.d_least_labels ["chart", "paper"] (sp_least_labels a.C) := by
  refine T.least_labels.fn.ok sc_least_labels (fun vs H Q E h => ?_) (fun cdv A outer s H vs Q E hr h => ?_)
  · obtain ⟨p, l, pvs, ps, M, rfl, _⟩ := h
    rfl
  · obtain ⟨p, l, pvs, ps, M, rfl, hM, G, hl, hps, hlen, hn, k⟩ := h
    have hu := hu_of hr
    refine ⟨_, pss_cons (ps_set (i := 2) sc_least_labels.nd rfl (Or.inl rfl) pe_dnewK)
      (pss_cons (ps_for PassesOwn.never rfl (pi_list (pv 1)) (pg_tup (by rfl) (pgs_cons (pg_name (i := 3) sc_least_labels.nd rfl (Or.inl rfl)) (pgs_cons (pg_name (i := 4) sc_least_labels.nd rfl (Or.inl rfl)) pgs_nil)))
        (pss_cons (ps_expr (pe_meth (pv 0) T.cl T.road.me (ok_road T) hr T.road.bi .nil pass0 (pa_cons (pv 3) pa_nil)))
        (pss_one (ps_dput hu (pv 2) (pv 3) (pe_callB (call_min2 rfl) (by rfl) T.z_min (by decide +kernel) (pa_cons (pv 4) (pa_cons (pe_dget2 hu (pv 2) (pv 3) (pv 4) ⟨rfl, rfl, rfl, rfl⟩) pa_nil))) rfl))))
      (pss_one (ps_ret (pv 2)))), ?_⟩
    intro d hd
    have s0 : Same H (upd H d (.dK [])) := same_new hd
    have hll := paired_len hps
    refine ⟨_, rfl, l, rfl, ⟨pvs, SqL.of (s0 _ _ hl)⟩, ?_⟩
    refine for_it (walk_list (K := K) (a := l) (xs := pvs)) (fun i σ H' => Same H H' ∧ (∃ v1 v2, σ = [some (.ref p), some (.ref l), some (.ref d), v1, v2]) ∧ ∃ L, H' d = some (.dK (kvsOf L)) ∧ L.length ≤ i ∧ Least (ps.take i) L)
      ⟨s0, ⟨none, none, rfl⟩, [], upd_same, Nat.le_refl _, Least.nil⟩ (fun i σ H' _ h => h.1.seq (SqL.of hl)) ?_ ?_
    · rintro i x σ H' H2 hi ⟨sm, ⟨v1, v2, rfl⟩, L, hL, hlL, hle⟩ ⟨rfl, hx⟩
      obtain ⟨q, hq, t, rfl, ht⟩ := paired_get hps hx
      have ht := sm _ _ ht
      have hM' := hM.keep sm.keep
      obtain ⟨fs, ho, hday, hpl, _, hR, hB⟩ := hM'.ex
      obtain ⟨hfs, dx, hp⟩ := id ho
      obtain ⟨r, hrm, er⟩ := List.mem_map.mp (hn q (List.mem_of_getElem? hq))
      refine ⟨t, [.str q.1, .int q.2], rfl, SqT.of ht, rfl, _, _, rfl, _, _, rfl, rfl, ?_⟩
      refine ⟨_, rfl, p, dx, fs, rfl, hp, hfs _ (by simp), _, rfl, p, q.1, fs, M.roads, r, rfl, ho, hR, hrm, er, G.good.names, fun v hv => ?_⟩
      refine ⟨_, rfl, _, rfl, d, rfl, .inl ⟨_, .inl hL⟩, _, rfl, _, rfl, _, dget (.inl hL) q.1, ?_⟩
      have eg : ((get L q.1).map V.int).getD (.int q.2) = .int ((get L q.1).getD q.2) := by
        cases get L q.1 <;> rfl
      rw [eg]
      refine ⟨_, _, rfl, ?_⟩
      refine ⟨_, rfl, _, rfl, d, _, rfl, DPut.k (k := Sum.inr q.1) hL (by rw [kvs_len]; exact line10k (by omega)), ?_⟩
      rw [putK_kvs]
      refine ⟨same_upd_new sm hd, ⟨_, _, rfl⟩, _, upd_same, ?_, ?_⟩
      · have := put_len L q.1 (if (get L q.1).getD q.2 < q.2 then (get L q.1).getD q.2 else q.2)
        omega
      · rw [List.take_add_one, hq]
        exact hle.snoc q.1 q.2
    · rintro σ H' ⟨sm, ⟨v1, v2, rfl⟩, L, hL, _, hle⟩
      rw [hll, List.take_length] at hle
      exact ⟨_, rfl, k d L _ sm hL hle⟩
end
end Wp
/-! check_range. -/
namespace Wp
open PySem PySem.Spec PyProof.Rows L2
/-- behind a lock all stands as it stood -/
theorem same_lock {H H' : Hp} {d : Addr} {o u : HO} (h : H d = some u) (s : Same (upd H d o) H') : Same H (upd H' d u) := fun b x e => by
  by_cases hb : b = d
  · rw [hb, h] at e
    rw [hb, upd_same]
    exact e
  · rw [upd_ne hb]
    exact s b x (by rw [upd_ne hb]; exact e)
theorem all_iff_snoc {bs : List Bool} {c : Bool} {A B : Prop} (h : bs.all id = true ↔ A) (hc : c = true ↔ B) : (bs ++ [c]).all id = true ↔ A ∧ B := by
  rw [List.all_append, Bool.and_eq_true, h, List.all_cons, List.all_nil, Bool.and_true]
  exact and_congr Iff.rfl hc
section
variable {P : Program} {w : World} {K : PySem.W.Frag} {mg : Str → Option Value} {base : Heap} {a : Ad}
def sp_check_range (C : Addr) : Sp := fun vs H Q _ => ∃ p k s m mi pla pap pls pvs ps M, vs = [.ref p, .str k, .str s, .int m, .int mi, .ref pla, .ref pap] ∧ ChartAt C H p M ∧ MapOk M ∧ k ∈ M.kinds ∧ s ∈ M.places ∧
  H pla = some (.lst (pls.map V.str)) ∧ (∀ x ∈ pls, x ∈ M.places) ∧ H pap = some (.lst pvs) ∧ Paired (LabAt H) pvs ps ∧ ps.length ≤ 100 ∧ (∀ q ∈ ps, q.1 ∈ M.roads.map (·.name)) ∧
  ∀ b L H', Same H H' → Least ps L → (b = true ↔ Shows M k s m (m + mi) pls L) → Q (.bl b) H'
theorem ok_check_range (T : Txt K mg a) : FnOk P w K mg base CX0 5 a.f_check_range a.d_check_range ["chart", "kind", "start", "moment", "minutes", "places", "paper"] (sp_check_range a.C) := by
  refine T.check_range.fn.ok sc_check_range (fun vs H Q E h => ?_) (fun cdv A outer s H vs Q E hr h => ?_)
  · obtain ⟨p, k, s, m, mi, pla, pap, pls, pvs, ps, M, rfl, _⟩ := h
    rfl
  · obtain ⟨p, kd, st, m, mi, pla, pap, pls, pvs, ps, M, rfl, hM, G, hkd, hst, hpla, hpls, hpap, hps, hlen, hn, k⟩ := h
    have nd := sc_check_range.nd
    refine ⟨_, pss_cons (ps_expr (pe_call (ok_check_trip T) (hr.mono (by decide)) (by rfl) T.check_trip.gl T.check_trip.fn.kp T.check_trip.bi .nil pass0 (pa_cons (pv 0) (pa_cons (pv 1) (pa_cons (pv 2) pa_nil)))))
      (pss_cons (ps_for PassesOwn.never rfl (pi_list (pv 5)) (pg_name (i := 7) nd rfl (Or.inl rfl))
        (pss_one (ps_expr (pe_meth (pv 0) T.cl T.check_place.me (ok_check_place T) (hr.mono (by decide)) T.check_place.bi .nil pass0 (pa_cons (pv 7) pa_nil)))))
      (pss_cons (ps_set (i := 8) nd rfl (Or.inr rfl) (pe_call (ok_least_labels T) (hr.mono (by decide)) (by rfl) T.least_labels.gl T.least_labels.fn.kp T.least_labels.bi .nil pass0 (pa_cons (pv 0) (pa_cons (pv 6) pa_nil))))
      (pss_cons (ps_set (i := 9) nd rfl (Or.inr rfl) (pe_op op_add (pv 3) (pv 4)))
      (pss_cons (ps_if (pt_cmpR op_notIn_seq (pv 2) (pv 5) (by rfl)) (pss_one (ps_ret pe_bl)) pss_nil)
      (pss_cons (ps_if (pt_not (pt_val (pe_callB (cr_all rfl) (by rfl) T.z_all (by decide +kernel) (pa_cons
          (pe_lc (own := [("name", 10)]) (g := gName 10) (tt := tYes) rfl nd (pi_list (pe_meth (pv 0) T.cl T.roads_from.me (ok_roads_from T) (hr.mono (by decide)) T.roads_from.bi .nil pass0 (pa_cons (pv 2) pa_nil)))
            (blkOk_by (own := [("name", 10)]) (N := N_check_range) (sc := defScope s_check_range) (by decide +kernel)) (fun _ _ _ _ _ => pg_name (i := 10) nd rfl (Or.inl rfl)) (fun _ _ _ _ _ => pts_nil)
            (fun _ _ _ _ _ => pe_call (ok_is_labelled T) hr (by rfl) T.is_labelled.gl T.is_labelled.fn.kp T.is_labelled.bi .nil pass0 (pa_cons (pv 0) (pa_cons (pv 1) (pa_cons (pv 8) (pa_cons (pv 9) (pa_cons (pv 2) (pa_cons (pv 3) (pa_cons (pv 10) (pa_cons pe_non pa_nil))))))))))
          pa_nil)))) (pss_one (ps_ret pe_bl)) pss_nil)
      (pss_cons (ps_lock (ps_for PassesOwn.never rfl (pi_items (pv 8)) (pg_tup (by rfl) (pgs_cons (pg_name (i := 10) nd rfl (Or.inr rfl)) (pgs_cons (pg_name (i := 11) nd rfl (Or.inr rfl)) pgs_nil)))
        (pss_cons (ps_set (i := 12) nd rfl (Or.inr rfl) (pe_ix (r := rIxT K) ix_tup (pe_meth (pv 0) T.cl T.road.me (ok_road T) (hr.mono (by decide)) T.road.bi .nil pass0 (pa_cons (pv 10) pa_nil)) pe_int (fun _ _ => rfl)))
        (pss_cons (ps_if (pt_cmpR op_gt (pv 11) (pv 9) (nomark _)) (pss_one ps_continue) pss_nil)
        (pss_cons (ps_if (pt_cmpR op_notIn_seq (pv 12) (pv 5) (by rfl)) (pss_one (ps_ret pe_bl)) pss_nil)
        (pss_cons (ps_set (i := 13) nd rfl (Or.inl rfl) (pe_meth (pv 0) T.cl T.roads_from.me (ok_roads_from T) (hr.mono (by decide)) T.roads_from.bi .nil pass0 (pa_cons (pv 12) pa_nil)))
        (pss_one (ps_if (pt_not (pt_val (pe_callB (cr_all rfl) (by rfl) T.z_all (by decide +kernel) (pa_cons
          (pe_lc (own := [("other", 14)]) (g := gName 14) (tt := tYes) rfl nd (pi_list (pv 13))
            (blkOk_by (own := [("other", 14)]) (N := N_check_range) (sc := defScope s_check_range) (by decide +kernel)) (fun _ _ _ _ _ => pg_name (i := 14) nd rfl (Or.inl rfl)) (fun _ _ _ _ _ => pts_nil)
            (fun _ _ _ _ _ => pe_call (ok_is_labelled T) hr (by rfl) T.is_labelled.gl T.is_labelled.fn.kp T.is_labelled.bi .nil pass0 (pa_cons (pv 0) (pa_cons (pv 1) (pa_cons (pv 8) (pa_cons (pv 9) (pa_cons (pv 12) (pa_cons (pv 11) (pa_cons (pv 14) (pa_cons (pv 10) pa_nil))))))))))
          pa_nil)))) (pss_one (ps_ret pe_bl)) pss_nil))))))))
      (pss_one (ps_ret pe_bl)))))))), ?_⟩
    -- check_trip(chart, kind, start)
    refine ⟨_, rfl, _, rfl, _, rfl, p, kd, st, M, rfl, hM, hkd, hst, ?_⟩
    -- for place in places
    refine ⟨_, rfl, pla, rfl, ⟨_, SqL.of hpla⟩, ?_⟩
    refine for_it (walk_list (K := K) (a := pla) (xs := pls.map V.str)) (fun i σ H' => H' = H ∧ ∃ v, σ = [some (.ref p), some (.str kd), some (.str st), some (.int m), some (.int mi), some (.ref pla), some (.ref pap), v, none, none, none, none, none, none, none])
      ⟨rfl, none, rfl⟩ (fun i σ H' _ h => by rw [h.1]; exact SqL.of hpla) ?_ ?_
    · rintro i x σ H' H2 hi ⟨rfl, v, rfl⟩ ⟨rfl, hx⟩
      rw [List.getElem?_map] at hx
      cases q : pls[i]? with
      | none => rw [q] at hx; cases hx
      | some y =>
        rw [q] at hx
        obtain rfl : V.str y = x := Option.some.inj hx
        obtain ⟨fs, ho, hday, hpl, _⟩ := hM.ex
        obtain ⟨hfs, dx, hp⟩ := id ho
        exact ⟨_, rfl, p, dx, fs, rfl, hp, hfs _ (by simp), _, rfl, p, y, fs, _, rfl, ho, hpl, hpls y (List.mem_of_getElem? q), rfl, _, rfl⟩
    rintro σ H' ⟨rfl, v7, rfl⟩
    -- least = least_labels(chart, paper); bound = moment + minutes
    refine ⟨_, rfl, _, rfl, p, pap, pvs, ps, M, rfl, hM, G, hpap, hps, hlen, hn, fun d L H1 s1 hL hle => ?_⟩
    refine ⟨_, rfl, _, rfl, _, _, rfl, rfl, ?_⟩
    -- if start not in places
    refine ⟨_, rfl, _, rfl, pla, _, rfl, .inl (SqL.of (s1 _ _ hpla)), rfl, flat_strs _, _, rfl, ?_⟩
    rw [if_pos rfl, inV_str]
    by_cases hsp : st ∈ pls
    case neg =>
      rw [decide_eq_false hsp]
      exact iteT (k false L H1 s1 hle ⟨fun z => Bool.noConfusion z, fun z => absurd z.start hsp⟩)
    rw [decide_eq_true hsp]
    refine iteF ?_
    -- all the first roads are labelled
    have hM1 := hM.keep s1.keep
    obtain ⟨fs, ho, hday, hpl, _, hR, hB⟩ := hM1.ex
    obtain ⟨hfs, dx, hp⟩ := id ho
    refine ⟨_, rfl, p, dx, fs, rfl, hp, hfs _ (by simp), _, rfl, p, st, fs, _, M.roads, rfl, ho, hpl, hst, hR, G.len, fun H2 q s2 hq => ?_⟩
    refine ⟨q, rfl, ⟨_, SqL.of hq⟩, fun D hD => ?_⟩
    have hfl : ∀ (x : Str) (i : Nat) (v : V), (((M.roads.filter fun r => decide (r.start = x)).map (·.name)).map V.str)[i]? = some v → ∃ r, (M.roads.filter fun r => decide (r.start = x))[i]? = some r ∧ v = .str r.name ∧ r ∈ M.roads ∧ r.start = x := by
      intro x i v hv
      rw [List.getElem?_map, List.getElem?_map] at hv
      cases q : (M.roads.filter fun r => decide (r.start = x))[i]? with
      | none => rw [q] at hv; cases hv
      | some r =>
        rw [q] at hv
        have hm := List.mem_filter.mp (List.mem_of_getElem? q)
        exact ⟨r, rfl, (Option.some.inj hv).symm, hm.1, of_decide_eq_true hm.2⟩
    have hfn : ∀ x, (M.roads.filter fun r => decide (r.start = x)).length ≤ 100 := fun x => Nat.le_trans (List.length_filter_le _ _) G.len
    have hall : ∀ (x : Str) (Pr : Road → Prop), (∀ (j : Nat) r, j < (((M.roads.filter fun r => decide (r.start = x)).map (·.name)).map V.str).length → (M.roads.filter fun r => decide (r.start = x))[j]? = some r → Pr r) ↔ ∀ r ∈ M.roads, r.start = x → Pr r := by
      intro x Pr
      rw [List.length_map, List.length_map]
      constructor
      · intro h r hr e
        obtain ⟨j, hj⟩ := List.getElem?_of_mem (show r ∈ M.roads.filter (fun r => decide (r.start = x)) from List.mem_filter.mpr ⟨hr, decide_eq_true e⟩)
        exact h j r (List.getElem?_eq_some_iff.mp hj).1 hj
      · intro h j r _ hj
        have hm := List.mem_filter.mp (List.mem_of_getElem? hj)
        exact h r hm.1 (of_decide_eq_true hm.2)
    have snoc : ∀ (l : List Road) (i : Nat) (r : Road) (Pr : Road → Prop), l[i]? = some r → (((∀ (j : Nat) r, j < i → l[j]? = some r → Pr r) ∧ Pr r) ↔ ∀ (j : Nat) r, j < i + 1 → l[j]? = some r → Pr r) := by
      intro l i r Pr hi
      constructor
      · rintro ⟨h1, h2⟩ j r' hj hr'
        rcases Nat.lt_succ_iff_lt_or_eq.mp hj with hj | rfl
        · exact h1 j r' hj hr'
        · rw [hi] at hr'
          cases hr'
          exact h2
      · intro h
        exact ⟨fun j r' hj => h j r' (Nat.lt_succ_of_lt hj), h i r (Nat.lt_succ_self i) hi⟩
    refine lc_it (walk_list (K := K) (a := q) (xs := ((M.roads.filter fun r => decide (r.start = st)).map (·.name)).map V.str))
      (fun i H' => Same H2 H' ∧ ∃ bs : List Bool, H' D = some (.lst (bs.map V.bl)) ∧ bs.length = i ∧ (bs.all id = true ↔ ∀ (j : Nat) r, j < i → (M.roads.filter fun r => decide (r.start = st))[j]? = some r → IsLab M kd L (m + mi) st m none r))
      ⟨same_new hD, [], upd_same, rfl, ⟨fun _ j r hj => absurd hj (Nat.not_lt_zero j), fun _ => rfl⟩⟩ (fun i H' _ h => h.1.seq (SqL.of hq)) ?_ ?_
    · rintro i x H3 H4 hi ⟨s3, bs, hbs, hbl, hba⟩ ⟨rfl, hx⟩
      obtain ⟨r, hr1, rfl, hrm, hrs⟩ := hfl _ _ _ hx
      rw [List.length_map, List.length_map] at hi
      have hs3 := s2.trans s3
      refine ⟨rfl, _, rfl, _, rfl, _, rfl, _, rfl, _, rfl, _, rfl, _, rfl, p, kd, d, m + mi, st, m, none, M, r, L, rfl, hM1.keep hs3.keep, G, hrm, (fun _ z => nomatch z), .inl (hs3 _ _ hL), fun c H5 hc s5 => ?_⟩
      refine ⟨_, s5 _ _ hbs, ?_, same_upd_new (s3.trans s5) hD, bs ++ [c], ?_, ?_, ?_⟩
      · rw [List.length_map]
        have := hfn st
        exact line10k (by omega)
      · rw [upd_same, List.map_append]
        rfl
      · rw [List.length_append, hbl]
        rfl
      · exact (all_iff_snoc hba hc).trans (snoc _ i r _ hr1)
    rintro H3 ⟨s3, bs, hbs, hbl, hba⟩
    rw [hall st (fun r => IsLab M kd L (m + mi) st m none r)] at hba
    refine ⟨D, bs, rfl, SqL.of hbs, _, rfl, ?_⟩
    have s13 : Same H1 H3 := s2.trans s3
    cases hb : bs.all id with
    | false =>
      refine iteT (k false L H3 (s1.trans s13) hle ⟨fun z => Bool.noConfusion z, fun z => ?_⟩)
      rw [hba.mpr z.base] at hb
      cases hb
    | true =>
    refine iteF ?_
    have hbase := hba.mp hb
    -- for name, label in least.items()
    have hL3 : H3 d = some (.dK (kvsOf L)) := s13 _ _ hL
    refine ⟨d, _, hL3, trivial, fun od => ?_⟩
    have kL : Keep H3 (upd H3 d (.frz od (.dK (kvsOf L)))) := keep_upd hL3 rfl
    have hML := (hM1.keep s13.keep).keep kL
    have hdL : (upd H3 d (.frz od (.dK (kvsOf L)))) d = some (.frz od (.dK (kvsOf L))) := upd_same
    have hplL : (upd H3 d (.frz od (.dK (kvsOf L)))) pla = some (.lst (pls.map V.str)) := by
      have h1 := s13 _ _ (s1 _ _ hpla)
      rw [upd_ne (ne_of h1 hL3 (by intro z; cases z))]
      exact h1
    generalize hHL : upd H3 d (.frz od (.dK (kvsOf L))) = HL at hML hdL hplL
    refine ⟨_, rfl, d, od, kvsOf L, rfl, hdL, ?_⟩
    refine for_it (walk_items (d := d) (o := od) (kvs := kvsOf L)) (fun i σ H' => Same HL H' ∧ (∃ v10 v11 v12 v13, σ = [some (.ref p), some (.str kd), some (.str st), some (.int m), some (.int mi), some (.ref pla), some (.ref pap), v7, some (.ref d), some (.int (m + mi)), v10, v11, v12, v13, none]) ∧
        ∀ (j : Nat) e, j < i → L[j]? = some e → e.2 ≤ m + mi → ∀ r ∈ M.roads, r.name = e.1 → r.stop ∈ pls ∧ ∀ o ∈ M.roads, o.start = r.stop → IsLab M kd L (m + mi) r.stop e.2 (some r.name) o)
      ⟨Same.refl _, ⟨none, none, none, none, rfl⟩, fun j e hj => absurd hj (Nat.not_lt_zero j)⟩ (fun i σ H' _ h => h.1 _ _ hdL) ?_ ?_
    · rintro i x σ H4 H5 hi ⟨s4, ⟨v10, v11, v12, v13, rfl⟩, hinv⟩ ⟨t, x1, x2, rfl, ht, rfl, hx1, hx2⟩
      obtain ⟨e, he⟩ : ∃ e, L[i]? = some e := ⟨_, List.getElem?_eq_getElem (by rw [kvs_len] at hi; exact hi)⟩
      have hk : (kvsOf L)[i]? = some ((Sum.inr e.1 : Key), V.int e.2) := by
        unfold kvsOf
        rw [List.getElem?_map, he]
        rfl
      have hx1 : (kvsOf L)[i]?.map (fun kv => kV kv.1) = some x1 := hx1
      have hx2 : (kvsOf L)[i]?.map Prod.snd = some x2 := hx2
      rw [hk] at hx1 hx2
      obtain rfl : V.str e.1 = x1 := Option.some.inj hx1
      obtain rfl : V.int e.2 = x2 := Option.some.inj hx2
      have s5 : Same HL (upd H4 t (.tup [.str e.1, .int e.2])) := s4.trans (same_new ht)
      obtain ⟨hkey, _⟩ : e.1 ∈ M.roads.map (·.name) ∧ True := by
        have hg := get_of_mem hle.nd (n := e.1) (v := e.2) (List.mem_of_getElem? he)
        exact ⟨hn _ (hle.mem _ _ hg), trivial⟩
      obtain ⟨r, hrm, er⟩ := List.mem_map.mp hkey
      have hM5 := hML.keep s5.keep
      obtain ⟨fs, ho, hday, hpl, _, hR, hB⟩ := hM5.ex
      obtain ⟨hfs, dx, hp⟩ := id ho
      refine ⟨t, [.str e.1, .int e.2], rfl, SqT.of upd_same, rfl, _, _, rfl, _, _, rfl, rfl, ?_⟩
      -- end = chart.road(name)[2]
      refine ⟨_, rfl, p, dx, fs, rfl, hp, hfs _ (by simp), _, rfl, p, e.1, fs, M.roads, r, rfl, ho, hR, hrm, er, G.good.names, fun v hv => ?_⟩
      obtain ⟨t2, kk, hh, rfl, ht2, hk2, hhrs⟩ := hv
      refine ⟨t2, _, 2, _, rfl, rfl, SqT.of ht2, atI_nat (j := 2) rfl, ?_⟩
      -- if label > bound: continue
      have next : ∀ {H' : Hp}, Same HL H' → ((e.2 ≤ m + mi) → r.stop ∈ pls ∧ ∀ o ∈ M.roads, o.start = r.stop → IsLab M kd L (m + mi) r.stop e.2 (some r.name) o) →
          ∀ (j : Nat) e', j < i + 1 → L[j]? = some e' → e'.2 ≤ m + mi → ∀ r ∈ M.roads, r.name = e'.1 → r.stop ∈ pls ∧ ∀ o ∈ M.roads, o.start = r.stop → IsLab M kd L (m + mi) r.stop e'.2 (some r.name) o := by
        intro H' _ hnew j e' hj he' hle' r' hr' en
        rcases Nat.lt_succ_iff_lt_or_eq.mp hj with hj | rfl
        · exact hinv j e' hj he' hle' r' hr' en
        · rw [he] at he'
          cases he'
          have := road_inj G.good.names hr' hrm (en.trans er.symm)
          subst this
          exact hnew hle'
      refine ⟨_, rfl, _, rfl, _, _, rfl, rfl, _, rfl, ite2 (fun c => ?_) (fun c => ?_)⟩
      · have hgt := of_decide_eq_true c
        exact ⟨s5, ⟨_, _, _, _, rfl⟩, next s5 fun z => by omega⟩
      have hbd : e.2 ≤ m + mi := Int.not_lt.mp fun z => c (decide_eq_true z)
      -- if end not in places: return False
      refine ⟨_, rfl, _, rfl, pla, _, rfl, .inl (SqL.of (s5 _ _ hplL)), rfl, flat_strs _, _, rfl, ?_⟩
      rw [if_pos rfl, inV_str]
      have hge : get L r.name = some e.2 := get_of_mem hle.nd (er ▸ List.mem_of_getElem? he)
      have back : ∀ {H' : Hp}, Same HL H' → H' d = some (.frz od (.dK (kvsOf L))) ∧ Same _ (upd H' d (.dK (kvsOf L))) := fun sm =>
        ⟨sm _ _ hdL, (s1.trans s13).trans (same_lock hL3 (hHL ▸ sm))⟩
      by_cases hend : r.stop ∈ pls
      case neg =>
        rw [decide_eq_false hend]
        refine iteT ⟨(back s5).1, k false L _ (back s5).2 hle ⟨fun z => Bool.noConfusion z, fun z => absurd (z.end_ r hrm _ hge hbd) hend⟩⟩
      rw [decide_eq_true hend]
      refine iteF ?_
      -- behind = chart.roads_from(end)
      refine ⟨_, rfl, p, dx, fs, rfl, hp, hfs _ (by simp), _, rfl, p, r.stop, fs, _, M.roads, rfl, ho, hpl, G.stops r hrm, hR, G.len, fun H6 q6 s6 hq6 => ?_⟩
      refine ⟨_, rfl, q6, rfl, ⟨_, SqL.of hq6⟩, fun D6 hD6 => ?_⟩
      have s56 := s5.trans s6
      refine lc_it (walk_list (K := K) (a := q6) (xs := ((M.roads.filter fun o => decide (o.start = r.stop)).map (·.name)).map V.str))
        (fun i H' => Same H6 H' ∧ ∃ bs : List Bool, H' D6 = some (.lst (bs.map V.bl)) ∧ bs.length = i ∧ (bs.all id = true ↔ ∀ (j : Nat) o, j < i → (M.roads.filter fun o => decide (o.start = r.stop))[j]? = some o → IsLab M kd L (m + mi) r.stop e.2 (some r.name) o))
        ⟨same_new hD6, [], upd_same, rfl, ⟨fun _ j r hj => absurd hj (Nat.not_lt_zero j), fun _ => rfl⟩⟩ (fun i H' _ h => h.1.seq (SqL.of hq6)) ?_ ?_
      · rintro i7 x H7 H8 hi ⟨s7, bs, hbs, hbl, hba⟩ ⟨rfl, hx⟩
        obtain ⟨o, ho1, rfl, hom, hos⟩ := hfl _ _ _ hx
        rw [List.length_map, List.length_map] at hi
        have hs7 := s56.trans s7
        refine ⟨rfl, _, rfl, _, rfl, _, rfl, _, rfl, _, rfl, _, rfl, _, rfl, _, rfl, p, kd, d, m + mi, r.stop, e.2, some r.name, M, o, L, ?_, hML.keep hs7.keep, G, hom, (fun x z => ?_), .inr ⟨od, hs7 _ _ hdL⟩, fun c H9 hc s9 => ?_⟩
        · rw [er]
          rfl
        · cases z
          exact List.mem_map.mpr ⟨r, hrm, rfl⟩
        refine ⟨_, s9 _ _ hbs, ?_, same_upd_new (s7.trans s9) hD6, bs ++ [c], ?_, ?_, ?_⟩
        · rw [List.length_map]
          have := hfn r.stop
          exact line10k (by omega)
        · rw [upd_same, List.map_append]
          rfl
        · rw [List.length_append, hbl]
          rfl
        · exact (all_iff_snoc hba hc).trans (snoc _ i7 o _ ho1)
      rintro H7 ⟨s7, bs7, hbs7, hbl7, hba7⟩
      rw [hall r.stop (fun o => IsLab M kd L (m + mi) r.stop e.2 (some r.name) o)] at hba7
      refine ⟨D6, bs7, rfl, SqL.of hbs7, _, rfl, ?_⟩
      have s57 := s56.trans s7
      cases hb7 : bs7.all id with
      | false =>
        refine iteT ⟨(back s57).1, k false L _ (back s57).2 hle ⟨fun z => Bool.noConfusion z, fun z => ?_⟩⟩
        rw [hba7.mpr (z.step r hrm _ hge hbd)] at hb7
        cases hb7
      | true =>
        refine iteF ?_
        exact ⟨s57, ⟨_, _, _, _, rfl⟩, next s57 fun _ => ⟨hend, hba7.mp hb7⟩⟩
    · -- return True
      rintro σ H4 ⟨s4, ⟨v10, v11, v12, v13, rfl⟩, hinv⟩
      refine ⟨s4 _ _ hdL, ?_⟩
      refine k true L _ ((s1.trans s13).trans (same_lock hL3 (hHL ▸ s4))) hle ⟨fun _ => ?_, fun _ => rfl⟩
      have at_ : ∀ r ∈ M.roads, ∀ l, get L r.name = some l → l ≤ m + mi → r.stop ∈ pls ∧ ∀ o ∈ M.roads, o.start = r.stop → IsLab M kd L (m + mi) r.stop l (some r.name) o := by
        intro r hr l hl hb
        obtain ⟨j, hj⟩ := List.getElem?_of_mem (get_mem hl)
        exact hinv j (r.name, l) (by rw [kvs_len]; exact (List.getElem?_eq_some_iff.mp hj).1) hj hb r hr rfl
      exact ⟨hsp, hbase, fun r hr l hl hb => (at_ r hr l hl hb).1, fun r hr l hl hb => (at_ r hr l hl hb).2⟩
end
end Wp
/-! is_name, are_different, are_hours. -/
namespace Wp
open PySem PySem.Spec PyProof.Rows L2
def letters : Str := "abcdefghijklmnopqrstuvwxyz0123456789"
def digits : Str := "0123456789"
theorem letters_has (c : Nat) (h : LetC c) : decide (c ∈ letters.cps.toList) = true := by
  have : ∀ c : Fin 123, ((97 ≤ c.val ∧ c.val ≤ 122) ∨ (48 ≤ c.val ∧ c.val ≤ 57)) → decide (c.val ∈ letters.cps.toList) = true := by decide +kernel
  exact this ⟨c, by unfold LetC at h; omega⟩ h
theorem digits_no (c : Nat) (h : 97 ≤ c) : decide (c ∈ digits.cps.toList) = false := by
  have e : digits.cps.toList = [48, 49, 50, 51, 52, 53, 54, 55, 56, 57] := by decide +kernel
  rw [e]
  refine decide_eq_false fun z => ?_
  simp only [List.mem_cons, List.not_mem_nil, or_false] at z
  omega
theorem dT {p : Prop} [Decidable p] (h : p) : V.bl (decide p) = V.bl true := by rw [decide_eq_true h]
theorem dF {p : Prop} [Decidable p] (h : ¬ p) : V.bl (decide p) = V.bl false := by rw [decide_eq_false h]
theorem line12 {n : Nat} (h : n ≤ 12) : n ≤ sizeLine := Nat.le_trans h (by decide)
section
variable {P : Program} {w : World} {K : PySem.W.Frag} {mg : Str → Option Value} {base : Heap} {a : Ad}

/-! ### is_name -/
def sp_is_name : Sp := fun vs H Q _ => ∃ x, vs = [.str x] ∧ GoodName x ∧ ∀ H', Same H H' → Q (.bl true) H'
theorem ok_is_name (T : Txt K mg a) : FnOk P w K mg base CX0 1 a.f_is_name a.d_is_name ["text"] sp_is_name := by
  refine T.is_name.fn.ok sc_is_name (fun vs H Q E h => ?_) (fun cdv A outer s H vs Q E hr h => ?_)
  · obtain ⟨x, rfl, _⟩ := h
    rfl
  · obtain ⟨x, rfl, G, k⟩ := h
    obtain ⟨t1, g1⟩ := T.MOST_NAME_CHARS
    obtain ⟨t2, g2⟩ := T.NAME_CHARS
    have nd := sc_is_name.nd
    refine ⟨_, pss_cons (ps_if (pw_or (pt_not (pt_chain op_le op_le pe_int (pe_callB call_len_str (by rfl) T.z_len PySem.boot_len (pa_cons (pv 0) pa_nil)) (pe_glob (v := .int 12) (by rfl) g1 ⟨_, rfl⟩)))
        (pw_or1 (pt_cmpR op_in_sign (pe_ix ix_str (pv 0) pe_int (fun _ _ => rfl)) pe_str (by rfl)))).pt (pss_one (ps_ret pe_bl)) pss_nil)
      (pss_one (ps_ret (pe_callB (cr_all rfl) (by rfl) T.z_all (by decide +kernel) (pa_cons
        (pe_lc (own := [("char", 1)]) (g := gName 1) (tt := tYes) rfl nd (pi_str (pv 0)) (blkOk_by (own := [("char", 1)]) (N := N_is_name) (sc := defScope s_is_name) (by decide +kernel))
          (fun _ _ _ _ _ => pg_name (i := 1) nd rfl (Or.inl rfl)) (fun _ _ _ _ _ => pts_nil) (fun _ _ _ _ _ => pe_cmpR op_in_sign (pv 1) (pe_glob (v := .str letters) (by rfl) g2 ⟨_, rfl⟩) (by rfl))) pa_nil)))), ?_⟩
    have hl := G.len
    obtain ⟨c, r, e, h1, h2, h3, h4⟩ := id G
    have hall : ∀ d ∈ x.cps.toList, LetC d := by
      rw [e]
      intro d hd
      rcases List.mem_cons.mp hd with rfl | hd
      · exact .inl ⟨h1, h2⟩
      · exact h4 d hd
    refine ⟨_, rfl, x, rfl, line12 hl.2, _, _, rfl, rfl, true, ?_, ?_⟩
    · exact dT (show (1 : Int) ≤ (x.length : Nat) by omega)
    refine iteT ⟨_, _, rfl, rfl, true, ?_, iteF ?_⟩
    · exact dT (show ((x.length : Nat) : Int) ≤ 12 by omega)
    refine ⟨_, rfl, x, 0, c, rfl, rfl, line12 hl.2, ?_, c, digits, rfl, rfl, _, rfl, ?_⟩
    · rw [e]
      exact atI_nat (j := 0) rfl
    rw [digits_no c h1]
    refine iteF ?_
    refine ⟨_, rfl, x, rfl, fun D hD => ?_⟩
    refine lc_it (walk_str (z := x)) (fun i H' => Same H H' ∧ H' D = some (.lst ((List.replicate i true).map V.bl))) ⟨same_new hD, upd_same⟩ (fun _ _ _ _ => trivial) ?_ ?_
    · rintro i v H1 H2 hi ⟨sm, hd⟩ ⟨rfl, d, hdc, rfl⟩
      have hdm : d ∈ x.cps.toList := by
        have := Array.mem_of_getElem? hdc
        exact Array.mem_toList_iff.mpr this
      refine ⟨rfl, _, rfl, d, letters, rfl, rfl, _, hd, ?_, same_upd_new sm hD, ?_⟩
      · rw [List.length_map, List.length_replicate]
        have : x.cps.size = x.length := rfl
        exact line10k (by omega)
      · rw [upd_same, letters_has d (hall d hdm), List.replicate_succ', List.map_append]
        rfl
    · rintro H1 ⟨sm, hd⟩
      refine ⟨D, _, rfl, SqL.of hd, ?_⟩
      have : (List.replicate x.cps.size true).all id = true := by
        rw [List.all_eq_true]
        intro b hb
        rw [(List.mem_replicate.mp hb).2]
        rfl
      rw [this]
      exact k _ sm

/-! ### are_different -/
theorem cut_to (xs : List V) (i : Nat) (h : i ≤ xs.length) : cutV xs none (some (i : Int)) = xs.take i := by
  unfold cutV
  rw [HT.sIx_none, HT.sIx_nat, Nat.min_eq_left h]
  rfl
theorem dpAll_take {K : PySem.W.Frag} {H : Hp} : ∀ {xs : List V} {ds : List PyData} (n : Nat), DpAll K H xs ds → DpAll K H (xs.take n) (ds.take n)
  | _, _, 0, _ => .nil
  | _, _, _ + 1, .nil => .nil
  | _, _, n + 1, .cons h t => .cons h (dpAll_take n t)
theorem dpAll_get {K : PySem.W.Frag} {H : Hp} : ∀ {xs : List V} {ds : List PyData} {i : Nat} {x : V}, DpAll K H xs ds → xs[i]? = some x → ∃ d, ds[i]? = some d ∧ Dp K H x d
  | _, _, _, _, .nil, h => by simp at h
  | _, _, 0, _, .cons h _, e => by
    simp at e
    subst e
    exact ⟨_, rfl, h⟩
  | _, _, i + 1, x, .cons _ t, e => by
    obtain ⟨d, h1, h2⟩ := dpAll_get (i := i) t (by simpa using e)
    exact ⟨d, by simpa using h1, h2⟩
theorem dpAll_len {K : PySem.W.Frag} {H : Hp} : ∀ {xs : List V} {ds : List PyData}, DpAll K H xs ds → xs.length = ds.length
  | _, _, .nil => rfl
  | _, _, .cons _ t => congrArg Nat.succ (dpAll_len t)
theorem lay_take : ∀ {ds : List PyData} (n : Nat), PyData.canLayAll0 ds = true → PyData.canLayAll0 (ds.take n) = true
  | _, 0, _ => by simp [PyData.canLayAll0]
  | [], _ + 1, _ => by simp [PyData.canLayAll0]
  | d :: ds, n + 1, h => by
    simp only [PyData.canLayAll0, Bool.and_eq_true] at h
    simp only [List.take_succ_cons, PyData.canLayAll0, Bool.and_eq_true]
    exact ⟨h.1, lay_take n h.2⟩
mutual
theorem dpSame {K : PySem.W.Frag} {H H' : Hp} (s : Same H H') : ∀ (d : PyData) (v : V), Dp K H v d → Dp K H' v d
  | .none, _, h => by cases h; exact .non
  | .bool b, _, h => by cases h; exact .bl b
  | .int b, _, h => by cases h; exact .int b
  | .str b, _, h => by cases h; exact .str b
  | .list ds, _, h => by
    cases h with
    | lst h1 h2 => exact .lst (s.seq h1) (dpAllSame s ds _ h2)
  | .tuple ds, _, h => by
    cases h with
    | tup h1 h2 => exact .tup (s.seqT h1) (dpAllSame s ds _ h2)
  | .dict _, _, h => by cases h
theorem dpAllSame {K : PySem.W.Frag} {H H' : Hp} (s : Same H H') : ∀ (ds : List PyData) (vs : List V), DpAll K H vs ds → DpAll K H' vs ds
  | [], _, h => by cases h; exact .nil
  | d :: ds, _, h => by
    cases h with
    | cons h1 h2 => exact .cons (dpSame s d _ h1) (dpAllSame s ds _ h2)
end
theorem SqB.same {K : PySem.W.Frag} {t : Bool} {H H' : Hp} {a : Addr} {xs : List V} (s : Same H H') (h : SqB K t H a xs) : SqB K t H' a xs := by
  cases t with
  | true => exact s.seq h
  | false => exact s.seqT h
/-- the pairwise difference of data -/
def Apart (ds : List PyData) : Prop := ∀ (i j : Nat) d e, j < i → ds[i]? = some d → ds[j]? = some e → PyData.eqv e d = false
def sp_are_different (K : PySem.W.Frag) : Sp := fun vs H Q _ => ∃ q t xs ds, vs = [.ref q] ∧ SqB K t H q xs ∧ DpAll K H xs ds ∧ PyData.canLayAll0 ds = true ∧ (∀ d ∈ ds, SeqAt.shaped d = true) ∧ Apart ds ∧ ∀ H', Same H H' → Q (.bl true) H'
theorem ok_are_different (T : Txt K mg a) : FnOk P w K mg base CX0 1 a.f_are_different a.d_are_different ["parts"] (sp_are_different K) := by
  refine T.are_different.fn.ok sc_are_different (fun vs H Q E h => ?_) (fun cdv A outer s H vs Q E hr h => ?_)
  · obtain ⟨q, t, xs, ds, rfl, _⟩ := h
    rfl
  · obtain ⟨q, t, xs, ds, rfl, hq, hds, hlay, hsh, hap, k⟩ := h
    have nd := sc_are_different.nd
    refine ⟨_, pss_cons (ps_for PassesOwn.never rfl (pi_enumS (by rfl) T.z_enumerate (pa_cons (pv 0) pa_nil)) (pg_tup (by rfl) (pgs_cons (pg_name (i := 1) nd rfl (Or.inl rfl)) (pgs_cons (pg_name (i := 2) nd rfl (Or.inl rfl)) pgs_nil)))
        (pss_one (ps_if (pt_cmpR (op_inS (room65 hr)) (pv 2) (pe_slice (SlR.or sl_list sl_tup) (pv 0) po_none (po_some (pv 1))) (by rfl)) (pss_one (ps_ret pe_bl)) pss_nil)))
      (pss_one (ps_ret pe_bl)), ?_⟩
    refine ⟨_, rfl, t, q, xs, rfl, hq, ?_⟩
    have hl := dpAll_len hds
    refine for_it walk_enumS (fun i σ H' => Same H H' ∧ ∃ v1 v2, σ = [some (.ref q), v1, v2]) ⟨Same.refl H, none, none, rfl⟩ (fun i σ H' _ h => hq.same h.1) ?_ ?_
    · rintro i x σ H1 H2 hi ⟨sm, v1, v2, rfl⟩ ⟨tt, x1, x2, rfl, ht, rfl, hx1, hx2⟩
      obtain rfl : V.int (i : Nat) = x1 := Option.some.inj hx1
      have hx2 : xs[i]? = some x2 := hx2
      obtain ⟨d, hd, hdx⟩ := dpAll_get hds hx2
      have s1 := sm.trans (same_new (o := .tup [.int (i : Nat), x2]) ht)
      refine ⟨tt, _, rfl, SqT.of upd_same, rfl, _, _, rfl, _, _, rfl, rfl, ?_⟩
      have fin : ∀ (p : Addr) (o : HO) (ys : List V) (H3 : Hp), (o = .lst (cutV xs none (some (i : Int))) ∨ o = .tup (cutV xs none (some (i : Int)))) → Same H H3 → H3 p = none →
          ∃ d ds, Dp K (upd H3 p o) x2 d ∧ (Dp K (upd H3 p o) (.ref p) (.list ds) ∨ Dp K (upd H3 p o) (.ref p) (.tuple ds)) ∧ SeqAt.shaped d = true ∧ PyData.canLayAll0 ds = true ∧ (ds.any fun z => PyData.eqv z d) = false ∧ Same H (upd H3 p o) := by
        intro p o ys H3 ho s3 hp
        have s4 : Same H (upd H3 p o) := same_upd_new s3 (s3.free hp)
        refine ⟨d, ds.take i, dpSame s4 d _ hdx, ?_, hsh d (List.mem_of_getElem? hd), lay_take i hlay, ?_, s4⟩
        · have hcut := cut_to xs i (by omega)
          have hda := dpAllSame s4 _ _ (dpAll_take i hds)
          rcases ho with rfl | rfl
          · exact .inl (.lst (SqL.of upd_same) (hcut ▸ hda))
          · exact .inr (.tup (SqT.of upd_same) (hcut ▸ hda))
        · rw [List.any_eq_false]
          intro e he
          obtain ⟨j, hj⟩ := List.getElem?_of_mem he
          rw [List.getElem?_take] at hj
          split at hj
          · rw [hap i j d e (by assumption) hd hj]
            exact Bool.false_ne_true
          · cases hj
      refine ⟨_, rfl, _, rfl, _, rfl, i, rfl, ?_⟩
      have hq2 := hq.same s1
      cases t with
      | true =>
        refine .inl ⟨q, xs, rfl, hq2, fun p hp => ?_⟩
        obtain ⟨d', ds', h1, h2, h3, h4, h5, h6⟩ := fin p _ xs _ (.inl rfl) s1 hp
        refine ⟨d', ds', h1, h2, h3, h4, _, rfl, ?_⟩
        rw [if_neg Bool.false_ne_true, h5]
        exact iteF ⟨h6, _, _, rfl⟩
      | false =>
        refine .inr ⟨q, xs, rfl, hq2, ?_, fun p hp => ?_⟩
        · rw [HT.sIx_nat]
          rintro ⟨_, h⟩
          omega
        obtain ⟨d', ds', h1, h2, h3, h4, h5, h6⟩ := fin p _ xs _ (.inr rfl) s1 hp
        refine ⟨d', ds', h1, h2, h3, h4, _, rfl, ?_⟩
        rw [if_neg Bool.false_ne_true, h5]
        exact iteF ⟨h6, _, _, rfl⟩
    · rintro σ H1 ⟨sm, v1, v2, rfl⟩
      exact k _ sm

/-! ### are_hours -/
def sp_are_hours : Sp := fun vs H Q _ => ∃ q ts ps day, vs = [.ref q, .int day] ∧ H q = some (.tup ts) ∧ Paired (PairAt H) ts ps ∧ ps.length ≤ 4 ∧ Asc day (-1) ps ∧ Q (.bl true) H
theorem ok_are_hours (T : Txt K mg a) : FnOk P w K mg base CX0 1 a.f_are_hours a.d_are_hours ["hours", "day"] sp_are_hours := by
  refine T.are_hours.fn.ok sc_are_hours (fun vs H Q E h => ?_) (fun cdv A outer s H vs Q E hr h => ?_)
  · obtain ⟨q, ts, ps, day, rfl, _⟩ := h
    rfl
  · obtain ⟨q, ts, ps, day, rfl, hq, hps, hlen, hasc, k⟩ := h
    have nd := sc_are_hours.nd
    obtain ⟨t1, g1⟩ := T.MOST_HOURS
    refine ⟨_, pss_cons (ps_if (pt_cmpR op_gt (pe_callB call_len_seq (by rfl) T.z_len PySem.boot_len (pa_cons (pv 0) pa_nil)) (pe_glob (v := .int 4) (by rfl) g1 ⟨_, rfl⟩) (nomark _)) (pss_one (ps_ret pe_bl)) pss_nil)
      (pss_cons (ps_set (i := 2) nd rfl (Or.inl rfl) (pe_un un_neg pe_int))
      (pss_cons (ps_for PassesOwn.never rfl (pi_tup (pv 0)) (pg_tup (by rfl) (pgs_cons (pg_name (i := 3) nd rfl (Or.inl rfl)) (pgs_cons (pg_name (i := 4) nd rfl (Or.inl rfl)) pgs_nil)))
        (pss_cons (ps_if (pt_not (pt_chain3 op_lt op_lt op_le (pv 2) (pv 3) (pv 4) (pv 1))) (pss_one (ps_ret pe_bl)) pss_nil)
        (pss_one (ps_set (i := 2) nd rfl (Or.inl rfl) (pv 4)))))
      (pss_one (ps_ret pe_bl)))), ?_⟩
    have hl := paired_len hps
    refine ⟨_, rfl, q, ts, rfl, .inr (SqT.of hq), _, _, rfl, rfl, false, ?_, iteF ?_⟩
    · exact dF (show ¬ (4 : Int) < (ts.length : Nat) by omega)
    refine ⟨1, rfl, _, rfl, q, rfl, ⟨ts, SqT.of hq⟩, ?_⟩
    refine for_it (walk_tup (K := K) (a := q) (xs := ts)) (fun i σ H' => H' = H ∧ ∃ b v1 v2, σ = [some (.ref q), some (.int day), some (.int b), v1, v2] ∧ Asc day b (ps.drop i)) ⟨rfl, -1, none, none, rfl, hasc⟩ (fun i σ H' _ h => by rw [h.1]; exact SqT.of hq) ?_ ?_
    · rintro i x σ H1 H2 hi ⟨rfl, b, v1, v2, rfl, ha⟩ ⟨rfl, hx⟩
      obtain ⟨pr, hpr, t2, rfl, ht2⟩ := paired_get hps hx
      have ed : ps.drop i = pr :: ps.drop (i + 1) := by
        obtain ⟨h1, h2⟩ := List.getElem?_eq_some_iff.mp hpr
        rw [List.drop_eq_getElem_cons h1, h2]
      rw [ed] at ha
      obtain ⟨a1, a2, a3, a4⟩ := ha
      refine ⟨t2, _, rfl, SqT.of ht2, rfl, _, _, rfl, _, _, rfl, rfl, ?_⟩
      refine ⟨_, rfl, _, rfl, _, _, rfl, rfl, true, dT a1, iteT ?_⟩
      refine ⟨_, rfl, _, _, rfl, rfl, true, dT a2, iteT ?_⟩
      refine ⟨_, rfl, _, _, rfl, rfl, true, dT a3, iteF ?_⟩
      exact ⟨_, rfl, rfl, pr.2, _, _, rfl, a4⟩
    · rintro σ H1 ⟨rfl, b, v1, v2, rfl, _⟩
      exact k
end
end Wp
/-! Map.checked, Map.checked_bar. -/
namespace Wp
open PySem PySem.Spec PyProof.Rows L2
def normR (kds : List Str) (r : Road) : Road := { r with kinds := kds.filter fun k => decide (k ∈ r.kinds) }
theorem nodup_apart {α : Type} {f : α → PyData} (hf : ∀ x y, PyData.eqv (f x) (f y) = true → x = y) {xs : List α} (h : xs.Nodup) : Apart (xs.map f) := by
  intro i j d e hj hd he
  rw [List.getElem?_map] at hd he
  cases q1 : xs[i]? with
  | none => rw [q1] at hd; cases hd
  | some x =>
    cases q2 : xs[j]? with
    | none => rw [q2] at he; cases he
    | some y =>
      rw [q1] at hd
      rw [q2] at he
      obtain rfl := Option.some.inj hd
      obtain rfl := Option.some.inj he
      cases q : PyData.eqv (f y) (f x) with
      | false => rfl
      | true =>
        have e := hf y x q
        subst e
        have := nd_ix h q1 q2
        omega
theorem apart_strs {xs : List Str} (h : xs.Nodup) : Apart (xs.map PyData.str) := nodup_apart (fun x y e => by rw [str_eqv] at e; exact of_decide_eq_true e) h
theorem apart_bars {xs : List (Str × Str)} (h : xs.Nodup) : Apart (xs.map encP) := nodup_apart (fun x y e => by rw [enc_eqv] at e; exact of_decide_eq_true e) h
theorem all_true (n : Nat) : (List.replicate n true).all id = true := by
  rw [List.all_eq_true]
  intro b hb
  rw [(List.mem_replicate.mp hb).2]
  rfl
def rLenS (K : PySem.W.Frag) : List V → Hp → VK → Prop := fun xs H Q => ∃ p ys, xs = [.ref p] ∧ (SqL K H p ys ∨ SqT K H p ys) ∧ Q (.int ys.length) H
def rTupOf (K : PySem.W.Frag) : List V → Hp → VK → Prop := fun xs H Q => ∃ p ys, xs = [.ref p] ∧ ((SqL K H p ys ∧ ∀ l, H l = none → Q (.ref l) (upd H l (.tup ys))) ∨ (SqT K H p ys ∧ Q (.ref p) H))
section
variable {P : Program} {w : World} {K : PySem.W.Frag} {mg : Str → Option Value} {base : Heap} {a : Ad}

def sp_checked (C : Addr) : Sp := fun vs H Q _ => ∃ p v fs pls kds day r, vs = [.ref p, v] ∧ ObAt C H p fs ∧ fs.lookup ("day" : Str) = some (.int day) ∧ TxtF H fs "places" pls ∧ TxtF H fs "kinds" kds ∧ RoadAt H v r ∧
  GoodName r.name ∧ r.start ∈ pls ∧ r.stop ∈ pls ∧ 1 ≤ r.mins ∧ r.mins ≤ 1000 ∧ r.kinds.Nodup ∧ (∀ k ∈ r.kinds, k ∈ kds) ∧ (∀ k ∈ kds, GoodName k) ∧ kds.length ≤ 100 ∧ r.kinds.length ≤ 100 ∧ HoursOk day r.hours ∧
  ∀ v' H', Same H H' → RoadAt H' v' (normR kds r) → Q v' H'
theorem ok_checked (T : Txt K mg a) : FnOk P w K mg base CX0 2 a.f_checked a.d_checked ["self", "road"] (sp_checked a.C) := by
  refine T.checked.fn.ok sc_checked (fun vs H Q E h => ?_) (fun cdv A outer s H vs Q E hr h => ?_)
  · obtain ⟨p, v, fs, pls, kds, day, r, rfl, _⟩ := h
    rfl
  · obtain ⟨p, v, fs, pls, kds, day, r, rfl, ho, hday, hpl, hkd, hR, g1, g2, g3, g4, g5, g6, g7, g8, g9, g10, g11, k⟩ := h
    have nd := sc_checked.nd
    obtain ⟨c1, e1⟩ := T.ROAD_PARTS
    obtain ⟨c2, e2⟩ := T.MOST_MINUTES
    refine ⟨_, pss_cons (ps_expr (pe_call (ok_require T) hr (by rfl) T.require.gl T.require.fn.kp T.require.bi .nil pass0 (pa_cons (pe_cmpR op_eq (pe_callB call_len_seq (by rfl) T.z_len PySem.boot_len (pa_cons (pv 1) pa_nil)) (pe_glob (v := .int 6) (by rfl) e1 ⟨_, rfl⟩) (nomark _)) pa_nil)))
      <| pss_cons (ps_asg (pv 1) (pg_tup (by rfl) (pgs_cons (pg_name (i := 2) nd rfl (Or.inl rfl)) (pgs_cons (pg_name (i := 3) nd rfl (Or.inl rfl)) (pgs_cons (pg_name (i := 4) nd rfl (Or.inl rfl)) (pgs_cons (pg_name (i := 5) nd rfl (Or.inl rfl)) (pgs_cons (pg_name (i := 6) nd rfl (Or.inr rfl)) (pgs_cons (pg_name (i := 7) nd rfl (Or.inl rfl)) pgs_nil))))))))
      <| pss_cons (ps_expr (pe_call (ok_require T) hr (by rfl) T.require.gl T.require.fn.kp T.require.bi .nil pass0 (pa_cons (pe_and (pe_call (ok_is_name T) hr (by rfl) T.is_name.gl T.is_name.fn.kp T.is_name.bi .nil pass0 (pa_cons (pv 2) pa_nil))
          (pe_and (pe_cmpR op_in_seq (pv 3) (pe_fld (pv 0) rfl) (by rfl)) (pe_and (pe_cmpR op_in_seq (pv 4) (pe_fld (pv 0) rfl) (by rfl)) (pe_one (pe_chain op_le op_le pe_int (pv 5) (pe_glob (v := .int 1000) (by rfl) e2 ⟨_, rfl⟩)))))) pa_nil)))
      <| pss_cons (ps_expr (pe_call (ok_require T) hr (by rfl) T.require.gl T.require.fn.kp T.require.bi .nil pass0 (pa_cons (pe_and (pe_call (ok_are_different T) hr (by rfl) T.are_different.gl T.are_different.fn.kp T.are_different.bi .nil pass0 (pa_cons (pv 6) pa_nil))
          (pe_one (pe_callB (cr_all rfl) (by rfl) T.z_all (by decide +kernel) (pa_cons
            (pe_lc (own := [("kind", 9)]) (g := gName 9) (tt := tYes) (te := tOp (rIn K false) (tVar 9) (tFld K (tVar 0) "kinds")) rfl nd (pi_tup (pv 6)) (blkOk_by (own := [("kind", 9)]) (N := N_checked) (sc := defScope s_checked) (by decide +kernel))
              (fun _ _ _ _ _ => pg_name (i := 9) nd rfl (Or.inl rfl)) (fun _ _ _ _ _ => pts_nil) (fun _ _ _ _ _ => pe_cmpR op_in_seq (pv 9) (pe_fld (pv 0) rfl) (by rfl))) pa_nil)))) pa_nil)))
      <| pss_cons (ps_set (i := 8) nd rfl (Or.inl rfl) (pe_callTy call_tuple_of (by rfl) T.z_tuple (by decide +kernel) (pa_cons
            (pe_lc (own := [("kind", 9)]) (g := gName 9) (tt := tTest (tOp (rIn K false) (tVar 9) (tVar 6))) (te := tVar 9) rfl nd (pi_tup (pe_fld (pv 0) rfl)) (blkOk_by (own := [("kind", 9)]) (N := N_checked) (sc := defScope s_checked) (by decide +kernel))
              (fun _ _ _ _ _ => pg_name (i := 9) nd rfl (Or.inl rfl)) (fun _ _ _ _ _ => pts_one (pt_cmpR op_in_seq (pv 9) (pv 6) (by rfl))) (fun _ _ _ _ _ => pv 9)) pa_nil)))
      <| pss_cons (ps_if (pt_cmpR op_isN (pv 7) pe_non (nomark _)) (pss_one (ps_ret (pe_tup (pa_cons (pv 2) (pa_cons (pv 3) (pa_cons (pv 4) (pa_cons (pv 5) (pa_cons (pv 8) (pa_cons pe_non pa_nil))))))))) pss_nil)
      <| pss_cons (ps_expr (pe_call (ok_require T) hr (by rfl) T.require.gl T.require.fn.kp T.require.bi .nil pass0 (pa_cons (pe_and (pe_callB (cr_all rfl) (by rfl) T.z_all (by decide +kernel) (pa_cons
            (pe_lc (own := [("pair", 10)]) (g := gName 10) (tt := tYes) (te := tOp rEq (tCB (rLenS K) (tCons (tVar 10) tNil)) (tC (.int 2))) rfl nd (pi_tup (pv 7)) (blkOk_by (own := [("pair", 10)]) (N := N_checked) (sc := defScope s_checked) (by decide +kernel))
              (fun _ _ _ _ _ => pg_name (i := 10) nd rfl (Or.inl rfl)) (fun _ _ _ _ _ => pts_nil) (fun _ _ _ _ _ => pe_cmpR op_eq (pe_callB call_len_seq (by rfl) T.z_len PySem.boot_len (pa_cons (pv 10) pa_nil)) pe_int (nomark _))) pa_nil))
          (pe_one (pe_call (ok_are_hours T) hr (by rfl) T.are_hours.gl T.are_hours.fn.kp T.are_hours.bi .nil pass0 (pa_cons (pv 7) (pa_cons (pe_fld (pv 0) rfl) pa_nil))))) pa_nil)))
      <| pss_one (ps_ret (pe_tup (pa_cons (pv 2) (pa_cons (pv 3) (pa_cons (pv 4) (pa_cons (pv 5) (pa_cons (pv 8) (pa_cons
          (pe_callTy call_tuple_of (by rfl) T.z_tuple (by decide +kernel) (pa_cons
            (pe_lc (own := [("pair", 10)]) (g := gName 10) (tt := tYes) (te := tCB (rTupOf K) (tCons (tVar 10) tNil)) rfl nd (pi_tup (pv 7)) (blkOk_by (own := [("pair", 10)]) (N := N_checked) (sc := defScope s_checked) (by decide +kernel))
              (fun _ _ _ _ _ => pg_name (i := 10) nd rfl (Or.inl rfl)) (fun _ _ _ _ _ => pts_nil) (fun _ _ _ _ _ => pe_callTy call_tuple_of (by rfl) T.z_tuple (by decide +kernel) (pa_cons (pv 10) pa_nil))) pa_nil)) pa_nil)))))))), ?_⟩
    obtain ⟨t, kk, hh, rfl, ht, hkk, hhrs⟩ := id hR
    obtain ⟨hfs, dx, hp⟩ := id ho
    obtain ⟨pa, lp, hpa⟩ := id hpl
    obtain ⟨ka, lk, hka⟩ := id hkd
    -- require(len(road) == ROAD_PARTS)
    refine ⟨_, rfl, t, _, rfl, .inr (SqT.of ht), rfl, congrArg (fun x => [x]) (dT rfl), ?_⟩
    refine ⟨_, rfl, t, _, rfl, SqT.of ht, rfl, _, _, rfl, _, _, rfl, _, _, rfl, _, _, rfl, _, _, rfl, _, _, rfl, rfl, ?_⟩
    -- the names and the minutes
    refine ⟨_, rfl, r.name, rfl, g1, fun H1 s1 => ?_⟩
    refine ⟨true, rfl, iteT ?_⟩
    refine ⟨_, rfl, _, rfl, p, a.C, dx, fs, _, rfl, s1 _ _ hp, T.cl, T.n_places, lp, pa, _, rfl, .inr (SqT.of (s1 _ _ hpa)), rfl, flat_strs _, true, ?_, iteT ?_⟩
    · rw [if_neg Bool.false_ne_true, inV_str, decide_eq_true g2]
    refine ⟨_, rfl, _, rfl, p, a.C, dx, fs, _, rfl, s1 _ _ hp, T.cl, T.n_places, lp, pa, _, rfl, .inr (SqT.of (s1 _ _ hpa)), rfl, flat_strs _, true, ?_, iteT ?_⟩
    · rw [if_neg Bool.false_ne_true, inV_str, decide_eq_true g3]
    refine ⟨_, rfl, _, _, rfl, rfl, true, dT g4, iteT ⟨_, _, rfl, rfl, congrArg (fun x => [x]) (dT g5), ?_⟩⟩
    -- the kinds
    have lay := strs_lay fun b hb => g8 b (g7 b hb)
    refine ⟨_, rfl, kk, false, _, r.kinds.map PyData.str, rfl, SqT.of (s1 _ _ hkk), strs_dp _, lay, ?_, apart_strs g6, fun H2 s2 => ?_⟩
    · intro d hd
      obtain ⟨x, hx, rfl⟩ := List.mem_map.mp hd
      exact str_shaped (g8 x (g7 x hx))
    have s12 := s1.trans s2
    refine ⟨true, rfl, iteT ?_⟩
    refine ⟨_, rfl, kk, rfl, ⟨_, SqT.of (s12 _ _ hkk)⟩, fun D hD => ?_⟩
    refine lc_it (walk_tup (K := K) (a := kk) (xs := r.kinds.map V.str)) (fun i H' => Same H2 H' ∧ H' D = some (.lst ((List.replicate i true).map V.bl))) ⟨same_new hD, upd_same⟩ (fun i H' _ h => h.1.seqT (SqT.of (s12 _ _ hkk))) ?_ ?_
    · rintro i x H3 H4 hi ⟨s3, hd⟩ ⟨rfl, hx⟩
      rw [List.length_map] at hi
      obtain ⟨y, hy, hyr⟩ : ∃ y, V.str y = x ∧ y ∈ r.kinds := by
        rw [List.getElem?_map] at hx
        cases q : r.kinds[i]? with
        | none => rw [q] at hx; cases hx
        | some y => rw [q] at hx; exact ⟨y, Option.some.inj hx, List.mem_of_getElem? q⟩
      subst hy
      have s123 := s12.trans s3
      refine ⟨rfl, _, rfl, _, rfl, p, a.C, dx, fs, _, rfl, s123 _ _ hp, T.cl, T.n_kinds, lk, ka, _, rfl, .inr (SqT.of (s123 _ _ hka)), rfl, flat_strs _, _, hd, ?_, same_upd_new s3 hD, ?_⟩
      · rw [List.length_map, List.length_replicate]
        exact line10k (by omega)
      · rw [upd_same, if_neg Bool.false_ne_true, inV_str, decide_eq_true (g7 y hyr), List.replicate_succ', List.map_append]
        rfl
    rintro H3 ⟨s3, hd3⟩
    refine ⟨D, _, rfl, SqL.of hd3, by rw [all_true]; rfl, ?_⟩
    have s13 := s12.trans s3
    -- ordered
    refine ⟨_, rfl, p, a.C, dx, fs, _, rfl, s13 _ _ hp, T.cl, T.n_kinds, lk, ka, rfl, ⟨_, SqT.of (s13 _ _ hka)⟩, fun D2 hD2 => ?_⟩
    refine lc_it (walk_tup (K := K) (a := ka) (xs := kds.map V.str)) (fun i H' => Same H3 H' ∧ H' D2 = some (.lst (((kds.take i).filter fun k => decide (k ∈ r.kinds)).map V.str))) ⟨same_new hD2, by rw [upd_same]; rfl⟩ (fun i H' _ h => h.1.seqT (SqT.of (s13 _ _ hka))) ?_ ?_
    · rintro i x H4 H5 hi ⟨s4, hd⟩ ⟨rfl, hx⟩
      rw [List.length_map] at hi
      obtain ⟨y, hy, hyi⟩ : ∃ y, V.str y = x ∧ kds[i]? = some y := by
        rw [List.getElem?_map] at hx
        cases q : kds[i]? with
        | none => rw [q] at hx; cases hx
        | some y => rw [q] at hx; exact ⟨y, Option.some.inj hx, rfl⟩
      subst hy
      have s14 := s13.trans s4
      have et : (kds.take (i + 1)).filter (fun k => decide (k ∈ r.kinds)) = (kds.take i).filter (fun k => decide (k ∈ r.kinds)) ++ (if y ∈ r.kinds then [y] else []) := by
        rw [List.take_add_one, hyi, List.filter_append]
        by_cases e : y ∈ r.kinds <;> simp [e]
      refine ⟨rfl, _, rfl, _, rfl, kk, _, rfl, .inr (SqT.of (s14 _ _ hkk)), rfl, flat_strs _, _, rfl, ?_⟩
      rw [if_neg Bool.false_ne_true, inV_str]
      refine ite2 (fun e => ?_) (fun e => ?_)
      · rw [if_pos (of_decide_eq_true e)] at et
        refine ⟨_, rfl, _, hd, ?_, same_upd_new s4 hD2, ?_⟩
        · rw [List.length_map]
          exact line10k (Nat.le_trans (List.length_filter_le _ _) (by rw [List.length_take]; omega))
        · rw [upd_same, et, List.map_append]
          rfl
      · rw [if_neg (fun z => e (decide_eq_true z)), List.append_nil] at et
        exact ⟨s4, by rw [et]; exact hd⟩
    rintro H4 ⟨s4, hd4⟩
    rw [List.length_map, List.take_length] at hd4
    have s14 := s13.trans s4
    refine ⟨D2, _, rfl, .inl ⟨SqL.of hd4, fun o ho5 => ?_⟩⟩
    have s15 := s14.trans (same_new (o := .tup ((kds.filter fun k => decide (k ∈ r.kinds)).map V.str)) ho5)
    generalize hH5 : upd H4 o (.tup ((kds.filter fun k => decide (k ∈ r.kinds)).map V.str)) = H5 at s15
    have hord : H5 o = some (.tup ((normR kds r).kinds.map V.str)) := by rw [← hH5]; exact upd_same
    have h5 := hhrs.keep s15.keep
    -- hours
    cases eh : r.hours with
    | none =>
      rw [eh] at h5
      obtain rfl : hh = V.non := h5
      refine ⟨_, rfl, rfl, _, rfl, iteT ?_⟩
      refine ⟨_, rfl, _, rfl, _, rfl, _, rfl, _, rfl, (by show 6 ≤ sizeLine; decide), fun q hq => ?_⟩
      have s6 := same_new (o := .tup [.str r.name, .str r.start, .str r.stop, .int r.mins, .ref o, .non]) hq
      exact k _ _ (s15.trans s6) ⟨q, o, .non, rfl, upd_same, s6 _ _ hord, by show HoursAt _ _ r.hours; rw [eh]; rfl⟩
    | some ps =>
      rw [eh] at h5 g11
      obtain ⟨tp, ts, rfl, htp, hpr⟩ := h5
      have hl := paired_len hpr
      obtain ⟨g12, g13⟩ := g11
      refine ⟨_, rfl, rfl, _, rfl, iteF ?_⟩
      refine ⟨_, rfl, tp, rfl, ⟨_, SqT.of htp⟩, fun D6 hD6 => ?_⟩
      refine lc_it (walk_tup (K := K) (a := tp) (xs := ts)) (fun i H' => Same H5 H' ∧ H' D6 = some (.lst ((List.replicate i true).map V.bl))) ⟨same_new hD6, upd_same⟩ (fun i H' _ h => h.1.seqT (SqT.of htp)) ?_ ?_
      · rintro i x H7 H8 hi ⟨s7, hd⟩ ⟨rfl, hx⟩
        obtain ⟨pr, hpr1, t2, rfl, ht2⟩ := paired_get hpr hx
        refine ⟨rfl, _, rfl, t2, _, rfl, .inr (SqT.of (s7 _ _ ht2)), rfl, _, hd, ?_, same_upd_new s7 hD6, ?_⟩
        · rw [List.length_map, List.length_replicate]
          exact line10k (by omega)
        · rw [upd_same, List.replicate_succ', List.map_append]
          rfl
      rintro H6 ⟨s6, hd6⟩
      refine ⟨D6, _, rfl, SqL.of hd6, true, by rw [all_true], iteT ?_⟩
      refine ⟨_, rfl, _, rfl, p, a.C, dx, fs, _, rfl, s6 _ _ (s15 _ _ hp), T.cl, T.n_day, hday, tp, ts, ps, day, rfl, s6 _ _ htp, Paired.mapP hpr fun _ _ z => z.keep s6.keep, by omega, g13, rfl, ?_⟩
      -- the copy of the hours
      refine ⟨_, rfl, _, rfl, _, rfl, _, rfl, _, rfl, _, rfl, tp, rfl, ⟨_, SqT.of (s6 _ _ htp)⟩, fun D7 hD7 => ?_⟩
      refine lc_it (walk_tup (K := K) (a := tp) (xs := ts)) (fun i H' => Same H6 H' ∧ H' D7 = some (.lst (ts.take i))) ⟨same_new hD7, upd_same⟩ (fun i H' _ h => h.1.seqT (SqT.of (s6 _ _ htp))) ?_ ?_
      · rintro i x H7 H8 hi ⟨s7, hd⟩ ⟨rfl, hx⟩
        obtain ⟨pr, hpr1, t2, rfl, ht2⟩ := paired_get hpr hx
        refine ⟨rfl, _, rfl, t2, _, rfl, .inr ⟨SqT.of (s7 _ _ (s6 _ _ ht2)), _, hd, ?_, same_upd_new s7 hD7, ?_⟩⟩
        · rw [List.length_take]
          exact line10k (by omega)
        · rw [upd_same, List.take_add_one, hx]
          rfl
      rintro H7 ⟨s7, hd7⟩
      rw [List.take_length] at hd7
      refine ⟨D7, _, rfl, .inl ⟨SqL.of hd7, fun u hu => ?_⟩⟩
      have s8 := (s6.trans s7).trans (same_new (o := .tup ts) hu)
      refine ⟨by show 6 ≤ sizeLine; decide, fun q hq => ?_⟩
      have s9 := s8.trans (same_new (o := .tup [.str r.name, .str r.start, .str r.stop, .int r.mins, .ref o, .ref u]) hq)
      refine k _ _ (s15.trans s9) ⟨q, o, .ref u, rfl, upd_same, s9 _ _ hord, ?_⟩
      show HoursAt _ _ r.hours
      rw [eh]
      refine ⟨u, ts, rfl, ?_, Paired.mapP hpr fun _ _ z => z.keep s9.keep⟩
      exact same_new hq _ _ upd_same
end
end Wp
/-! Map.checked_bar. -/
namespace Wp
open PySem PySem.Spec PyProof.Rows L2
section
variable {P : Program} {w : World} {K : PySem.W.Frag} {mg : Str → Option Value} {base : Heap} {a : Ad}
def sp_checked_bar (C : Addr) : Sp := fun vs H Q _ => ∃ p v fs rs b r o, vs = [.ref p, v] ∧ ObAt C H p fs ∧ RoadsF H fs rs ∧ (rs.map (·.name)).Nodup ∧ rs.length ≤ 100 ∧ BarAt H v b ∧ r ∈ rs ∧ o ∈ rs ∧ r.name = b.1 ∧ o.name = b.2 ∧ r.stop = o.start ∧
  ∀ H', Same H H' → Q v H'
theorem ok_checked_bar (T : Txt K mg a) : FnOk P w K mg base CX0 3 a.f_checked_bar a.d_checked_bar ["self", "bar"] (sp_checked_bar a.C) := by
  refine T.checked_bar.fn.ok sc_checked_bar (fun vs H Q E h => ?_) (fun cdv A outer s H vs Q E hr h => ?_)
  · obtain ⟨p, v, fs, rs, b, r, o, rfl, _⟩ := h
    rfl
  · obtain ⟨p, v, fs, rs, b, r, o, rfl, ho, hR, hnd, hlen, ⟨t, rfl, ht⟩, hr1, hr2, e1, e2, e3, k⟩ := h
    refine ⟨_, pss_cons (ps_expr (pe_call (ok_require T) (hr.mono (by decide)) (by rfl) T.require.gl T.require.fn.kp T.require.bi .nil pass0 (pa_cons
          (pe_and (pe_cmpR op_eq (pe_callB call_len_seq (by rfl) T.z_len PySem.boot_len (pa_cons (pv 1) pa_nil)) pe_int (nomark _))
          (pe_and (pe_cmpR op_in_seq (pe_ix (r := rIxT K) ix_tup (pv 1) pe_int (fun _ _ => rfl)) (pe_prop (pv 0) T.cl T.pr (ok_road_names T) hr T.b_road_names .nil pass0 rfl) (by rfl))
          (pe_one (pe_cmpR op_in_seq (pe_ix (r := rIxT K) ix_tup (pv 1) pe_int (fun _ _ => rfl)) (pe_prop (pv 0) T.cl T.pr (ok_road_names T) hr T.b_road_names .nil pass0 rfl) (by rfl))))) pa_nil)))
      <| pss_cons (ps_expr (pe_call (ok_require T) (hr.mono (by decide)) (by rfl) T.require.gl T.require.fn.kp T.require.bi .nil pass0 (pa_cons
          (pe_cmpR op_eq (pe_ix (r := rIxT K) ix_tup (pe_meth (pv 0) T.cl T.road.me (ok_road T) (hr.mono (by decide)) T.road.bi .nil pass0 (pa_cons (pe_ix (r := rIxT K) ix_tup (pv 1) pe_int (fun _ _ => rfl)) pa_nil)) pe_int (fun _ _ => rfl))
            (pe_ix (r := rIxT K) ix_tup (pe_meth (pv 0) T.cl T.road.me (ok_road T) (hr.mono (by decide)) T.road.bi .nil pass0 (pa_cons (pe_ix (r := rIxT K) ix_tup (pv 1) pe_int (fun _ _ => rfl)) pa_nil)) pe_int (fun _ _ => rfl)) (nomark _)) pa_nil)))
      <| pss_one (ps_ret (pe_callTy call_tuple_of (by rfl) T.z_tuple (by decide +kernel) (pa_cons (pv 1) pa_nil))), ?_⟩
    obtain ⟨hfs, dx, hp⟩ := id ho
    have inn : ∀ {r : Road}, r ∈ rs → r.name ∈ rs.map (·.name) := fun h => List.mem_map.mpr ⟨_, h, rfl⟩
    refine ⟨_, rfl, t, _, rfl, .inr (SqT.of ht), rfl, true, dT rfl, iteT ?_⟩
    refine ⟨_, rfl, t, _, 0, _, rfl, rfl, SqT.of ht, atI_nat (j := 0) rfl, _, rfl, p, dx, fs, rfl, hp, p, fs, rs, rfl, ho, hR, hlen, fun H1 q1 s1 hq1 => ?_⟩
    refine ⟨q1, _, rfl, .inr (SqT.of hq1), rfl, flat_strs _, true, ?_, iteT ?_⟩
    · rw [if_neg Bool.false_ne_true, inV_str, decide_eq_true (e1 ▸ inn hr1)]
    refine ⟨_, rfl, t, _, 1, _, rfl, rfl, SqT.of (s1 _ _ ht), atI_nat (j := 1) rfl, _, rfl, p, dx, fs, rfl, s1 _ _ hp, p, fs, rs, rfl, ho.keep s1.keep, hR.keep s1.keep, hlen, fun H2 q2 s2 hq2 => ?_⟩
    refine ⟨q2, _, rfl, .inr (SqT.of hq2), rfl, flat_strs _, ?_, ?_⟩
    · rw [if_neg Bool.false_ne_true, inV_str, decide_eq_true (e2 ▸ inn hr2)]
      rfl
    have s12 := s1.trans s2
    have ho2 := ho.keep s12.keep
    have hR2 := hR.keep s12.keep
    refine ⟨_, rfl, p, dx, fs, rfl, s12 _ _ hp, hfs _ (by simp), _, rfl, t, _, 0, _, rfl, rfl, SqT.of (s12 _ _ ht), atI_nat (j := 0) rfl, p, b.1, fs, rs, r, rfl, ho2, hR2, hr1, e1, hnd, fun v1 hv1 => ?_⟩
    obtain ⟨t1, k1, h1, rfl, ht1, _⟩ := hv1
    refine ⟨t1, _, 2, _, rfl, rfl, SqT.of ht1, atI_nat (j := 2) rfl, ?_⟩
    refine ⟨_, rfl, p, dx, fs, rfl, s12 _ _ hp, hfs _ (by simp), _, rfl, t, _, 1, _, rfl, rfl, SqT.of (s12 _ _ ht), atI_nat (j := 1) rfl, p, b.2, fs, rs, o, rfl, ho2, hR2, hr2, e2, hnd, fun v2 hv2 => ?_⟩
    obtain ⟨t2, k2, h2, rfl, ht2, _⟩ := hv2
    refine ⟨t2, _, 1, _, rfl, rfl, SqT.of ht2, atI_nat (j := 1) rfl, rfl, congrArg (fun x => [x]) (dT (by rw [e3])), ?_⟩
    exact ⟨_, rfl, t, _, rfl, .inr ⟨SqT.of (s12 _ _ ht), k _ s12⟩⟩
end
end Wp
/-! The map as the program orders it says the same. -/
namespace Wp
open PySem PySem.Spec PyProof.Rows L2
structure Like (P M : Parts) : Prop where
  day : M.day = P.day
  places : M.places.Perm P.places
  kinds : M.kinds.Perm P.kinds
  roads : M.roads.Perm (P.roads.map (normR M.kinds))
  bars : M.bars.Perm P.bars
theorem Like.to {P M : Parts} (Lk : Like P M) {r : Road} (h : r ∈ P.roads) : normR M.kinds r ∈ M.roads := Lk.roads.mem_iff.mpr (List.mem_map.mpr ⟨r, h, rfl⟩)
theorem Like.from {P M : Parts} (Lk : Like P M) {r : Road} (h : r ∈ M.roads) : ∃ r', r' ∈ P.roads ∧ r = normR M.kinds r' := by
  obtain ⟨r', h1, h2⟩ := List.mem_map.mp (Lk.roads.mem_iff.mp h)
  exact ⟨r', h1, h2.symm⟩
theorem Like.may {P M : Parts} (W : Wf P) (Lk : Like P M) {k pl : Str} {b : Option Str} {r : Road} (hr : r ∈ P.roads) : May M k pl b (normR M.kinds r) ↔ May P k pl b r := by
  have hk : k ∈ (normR M.kinds r).kinds ↔ k ∈ r.kinds := by
    show k ∈ M.kinds.filter _ ↔ _
    rw [List.mem_filter]
    constructor
    · rintro ⟨_, h⟩
      exact of_decide_eq_true h
    · intro h
      exact ⟨Lk.kinds.mem_iff.mpr ((W.roads r hr).kinds k h), decide_eq_true h⟩
  constructor
  · rintro ⟨h1, h2, h3, h4⟩
    exact ⟨h1, hk.mp h2, h3, fun x hx z => h4 x hx (Lk.bars.mem_iff.mpr z)⟩
  · rintro ⟨h1, h2, h3, h4⟩
    exact ⟨h1, hk.mpr h2, h3, fun x hx z => h4 x hx (Lk.bars.mem_iff.mp z)⟩
theorem Like.arr {P M : Parts} (Lk : Like P M) (r : Road) (m : Int) : arr M.day (normR M.kinds r) m = arr P.day r m := by
  rw [Lk.day]
  rfl
theorem Like.isLab {P M : Parts} (W : Wf P) (Lk : Like P M) {k pl : Str} {L : Tab} {bd t : Int} {b : Option Str} {r : Road} (hr : r ∈ P.roads) : IsLab M k L bd pl t b (normR M.kinds r) ↔ IsLab P k L bd pl t b r := by
  unfold IsLab
  rw [Lk.may W hr, Lk.arr]
  exact Iff.rfl
theorem Like.shows {P M : Parts} (W : Wf P) (Lk : Like P M) {k s : Str} {m bd : Int} {pls : List Str} {L : Tab} : Shows M k s m bd pls L ↔ Shows P k s m bd pls L := by
  constructor
  · intro S
    exact ⟨S.start, fun r hr e => (Lk.isLab W hr).mp (S.base _ (Lk.to hr) e), fun r hr l hl hb => S.end_ (normR M.kinds r) (Lk.to hr) l hl hb,
      fun r hr l hl hb o ho e => (Lk.isLab W ho).mp (S.step (normR M.kinds r) (Lk.to hr) l hl hb _ (Lk.to ho) e)⟩
  · intro S
    refine ⟨S.start, fun r hr e => ?_, fun r hr l hl hb => ?_, fun r hr l hl hb o ho e => ?_⟩
    · obtain ⟨r', h1, rfl⟩ := Lk.from hr
      exact (Lk.isLab W h1).mpr (S.base _ h1 e)
    · obtain ⟨r', h1, rfl⟩ := Lk.from hr
      exact S.end_ r' h1 l hl hb
    · obtain ⟨r', h1, rfl⟩ := Lk.from hr
      obtain ⟨o', h2, rfl⟩ := Lk.from ho
      exact (Lk.isLab W h2).mpr (S.step r' h1 l hl hb o' h2 e)
theorem normR_names (ks : List Str) (rs : List Road) : (rs.map (normR ks)).map (·.name) = rs.map (·.name) := by
  rw [List.map_map]
  rfl
theorem Like.names {P M : Parts} (Lk : Like P M) : (M.roads.map (·.name)).Perm (P.roads.map (·.name)) := by
  have := Lk.roads.map (·.name)
  rw [normR_names] at this
  exact this
theorem Like.ok {P M : Parts} (W : Wf P) (Lk : Like P M) : MapOk M where
  good := ⟨by rw [Lk.day]; exact W.good.day, fun r hr => by
    obtain ⟨r', h1, rfl⟩ := Lk.from hr
    have := W.good.roads r' h1
    exact ⟨this.mins, by rw [Lk.day]; exact this.hours⟩, Lk.names.nodup_iff.mpr W.roadsN⟩
  names := fun r hr => by
    obtain ⟨r', h1, rfl⟩ := Lk.from hr
    exact (W.roads r' h1).name
  bars := fun b hb => W.bar b (Lk.bars.mem_iff.mp hb)
  stops := fun r hr => by
    obtain ⟨r', h1, rfl⟩ := Lk.from hr
    exact Lk.places.mem_iff.mpr (W.roads r' h1).stop
  len := by
    have := Lk.roads.length_eq
    rw [List.length_map] at this
    have := W.roadsL
    omega
end Wp
/-! Map.__init__. -/
namespace Wp
open PySem PySem.Spec PyProof.Rows L2
/-- tuples stand as they stood -/
def KeepT (H H' : Hp) : Prop := ∀ b xs, H b = some (.tup xs) → H' b = some (.tup xs)
theorem KeepT.trans {H H1 H2 : Hp} (a : KeepT H H1) (b : KeepT H1 H2) : KeepT H H2 := fun c o h => b c o (a c o h)
theorem _root_.L2.Same.tups {H H' : Hp} (s : Same H H') : KeepT H H' := fun b o h => s b _ h
theorem HoursAt.keepT {H H' : Hp} (k : KeepT H H') {v : V} {p : Option (List (Int × Int))} (h : HoursAt H v p) : HoursAt H' v p := by
  cases p with
  | none => exact h
  | some ps =>
    obtain ⟨t, ts, e, h, q⟩ := h
    refine ⟨t, ts, e, k _ _ h, Paired.mapP q ?_⟩
    rintro _ _ ⟨t, e, h⟩
    exact ⟨t, e, k _ _ h⟩
theorem RoadAt.keepT {H H' : Hp} (k : KeepT H H') {v : V} {r : Road} (h : RoadAt H v r) : RoadAt H' v r := by
  obtain ⟨t, kk, hh, e, h1, h2, h3⟩ := h
  exact ⟨t, kk, hh, e, k _ _ h1, k _ _ h2, h3.keepT k⟩
theorem BarAt.keepT {H H' : Hp} (k : KeepT H H') {v : V} {b : Str × Str} (h : BarAt H v b) : BarAt H' v b := by
  obtain ⟨t, e, h⟩ := h
  exact ⟨t, e, k _ _ h⟩
/-- an attribute is stored -/
theorem keepT_fld {H : Hp} {p C dx : Addr} {fs : List (Str × V)} {o : HO} (h : H p = some (.ins C dx fs)) : KeepT H (upd H p o) := fun b xs e => by
  rw [upd_ne (ne_of e h (by intro z; cases z))]
  exact e
theorem fsOk_put {fs : List (Str × V)} {f : Str} {v : V} (h : FsOk fs) (hf : ∀ m ∈ (["checked", "checked_bar", "road", "check_place", "roads_from", "is_barred"] : List Str), m ≠ f) : FsOk (putF f v fs) := fun m hm => by
  rw [lookup_putF, if_neg (hf m hm)]
  exact h m hm
theorem fsOk_nil : FsOk [] := fun _ _ => rfl
theorem lk_same {fs : List (Str × V)} {f : Str} {v : V} : (putF f v fs).lookup f = some v := by rw [lookup_putF, if_pos rfl]
theorem lk_ne {fs : List (Str × V)} {f g : Str} {v : V} {r : Option V} (h : g ≠ f) (e : fs.lookup g = r) : (putF f v fs).lookup g = r := by rw [lookup_putF, if_neg h]; exact e
section
variable {P : Program} {w : World} {K : PySem.W.Frag} {mg : Str → Option Value} {base : Heap} {a : Ad}
def sp_init (C : Addr) : Sp := fun vs H Q _ => ∃ H0 p dx kd pl rd br rvs bvs P, vs = [.ref p, .int P.day, .ref kd, .ref pl, .ref rd, .ref br] ∧ Same H0 H ∧ H0 p = none ∧ H p = some (.ins C dx []) ∧
  H0 pl = some (.lst (P.places.map V.str)) ∧ H0 kd = some (.lst (P.kinds.map V.str)) ∧ H0 rd = some (.lst rvs) ∧ Paired (RoadAt H0) rvs P.roads ∧ H0 br = some (.lst bvs) ∧ Paired (BarAt H0) bvs P.bars ∧ Wf P ∧
  ∀ M H', Like P M → Same H0 H' → ChartAt C H' p M → Q .non H'
theorem names_comp {K : PySem.W.Frag} {l D : Addr} {xs : List Str} {H : Hp} {n : Nat} {Qd : Hp → Prop} {σ : L2.St} (hl : H l = some (.lst (xs.map V.str))) (hlen : xs.length ≤ 100) (hg : ∀ x ∈ xs, GoodName x) (hD : H D = none) (hn : n < σ.length)
    (k : ∀ H', Same H H' → H' D = some (.lst ((List.replicate xs.length true).map V.bl)) → Qd H') :
    ∃ W : Nat → Nat → Hp → Prop, (∃ m, W 0 m (upd H D (.lst []))) ∧ ∀ i m H, W i m H →
      ((Itl K l).stop i H ∧ Qd H) ∨ ((Itl K l).go i H ∧ ∃ Nx : Hp → Prop, (∀ H', Nx H' → ∃ m', m' < m ∧ W (i + 1) m' H') ∧ ∀ x H', (Itl K l).yld i H x H' → gName n x (wipe σ [n]) H' fun σ2 H2 => wipe σ2 [n] = wipe σ [n] ∧ tYes σ2 H2 fun b H3 =>
        if b = true then tCall sp_is_name [] E0 (tCons (tVar n) tNil) σ2 H3 fun y H4 => ∃ acc, H4 D = some (.lst acc) ∧ acc.length < sizeLine ∧ Nx (upd H4 D (.lst (acc ++ [y]))) else Nx H3) := by
  refine lc_it (walk_list (K := K) (a := l) (xs := xs.map V.str)) (fun i H' => Same H H' ∧ H' D = some (.lst ((List.replicate i true).map V.bl))) ⟨same_new hD, upd_same⟩ (fun i H' _ h => h.1.seq (SqL.of hl)) ?_ ?_
  · rintro i x H1 H2 hi ⟨sm, hd⟩ ⟨rfl, hx⟩
    rw [List.length_map] at hi
    obtain ⟨y, rfl, hy⟩ : ∃ y, V.str y = x ∧ y ∈ xs := by
      rw [List.getElem?_map] at hx
      cases q : xs[i]? with
      | none => rw [q] at hx; cases hx
      | some y => rw [q] at hx; exact ⟨y, Option.some.inj hx, List.mem_of_getElem? q⟩
    have hs : (((σ.set n none).set n (some (V.str y)))[n]?) = some (some (V.str y)) := List.getElem?_set_self (by rw [List.length_set]; exact hn)
    refine ⟨by show ((σ.set n none).set n _).set n none = σ.set n none; rw [List.set_set, List.set_set], ?_⟩
    refine ⟨_, hs, y, rfl, hg y hy, fun H3 s3 => ?_⟩
    refine ⟨_, s3 _ _ hd, ?_, same_upd_new (sm.trans s3) hD, ?_⟩
    · rw [List.length_map, List.length_replicate]
      exact line10k (by omega)
    · rw [upd_same, List.replicate_succ', List.map_append]
      rfl
  · rintro H' ⟨sm, hd⟩
    rw [List.length_map] at hd
    exact k H' sm hd
theorem strs_shaped {xs : List Str} (g : ∀ x ∈ xs, GoodName x) : ∀ d ∈ xs.map PyData.str, SeqAt.shaped d = true := by
  intro d hd
  obtain ⟨x, hx, rfl⟩ := List.mem_map.mp hd
  exact str_shaped (g x hx)
theorem ok_init (T : Txt K mg a) : FnOk P w K mg base CX0 4 a.f_init a.d_init ["self", "day", "kinds", "places", "roads", "bars"] (sp_init a.C) := by
  refine T.init.ok sc_init (fun vs H Q E h => ?_) (fun cdv A outer s H vs Q E hr h => ?_)
  · obtain ⟨H0, p, dx, kd, pl, rd, br, rvs, bvs, P, rfl, _⟩ := h
    rfl
  · obtain ⟨H0, p, dx, kd, pl, rd, br, rvs, bvs, P, rfl, s0, h0p, hp, hpl, hkd, hrd, hrv, hbr, hbv, W, k⟩ := h
    have nd := sc_init.nd
    obtain ⟨c1, e1⟩ := T.MOST_DAY
    obtain ⟨c2, e2⟩ := T.MOST_PLACES
    obtain ⟨c3, e3⟩ := T.MOST_KINDS
    obtain ⟨c4, e4⟩ := T.MOST_ROADS
    obtain ⟨c5, e5⟩ := T.MOST_BARS
    have hr1 : Room 1 _ := hr.mono (by decide)
    have hr2 : Room 2 _ := hr.mono (by decide)
    refine ⟨_, pss_cons (ps_expr (pe_call (ok_require T) hr1 (by rfl) T.require.gl T.require.fn.kp T.require.bi .nil pass0 (pa_cons (pe_chain op_le op_le pe_int (pv 1) (pe_glob (v := .int 1440) (by rfl) e1 ⟨_, rfl⟩)) pa_nil)))
      <| pss_cons (ps_expr (pe_call (ok_require T) hr1 (by rfl) T.require.gl T.require.fn.kp T.require.bi .nil pass0 (pa_cons
          (pe_and (pe_cmpR op_le (pe_callB call_len_seq (by rfl) T.z_len PySem.boot_len (pa_cons (pv 3) pa_nil)) (pe_glob (v := .int 30) (by rfl) e2 ⟨_, rfl⟩) (nomark _))
          (pe_and (pe_call (ok_are_different T) hr1 (by rfl) T.are_different.gl T.are_different.fn.kp T.are_different.bi .nil pass0 (pa_cons (pv 3) pa_nil))
          (pe_one (pe_callB (cr_all rfl) (by rfl) T.z_all (by decide +kernel) (pa_cons
            (pe_lc (own := [("place", 6)]) (g := gName 6) (tt := tYes) rfl nd (pi_list (pv 3)) (blkOk_by (own := [("place", 6)]) (N := N_init) (sc := defScope s_init) (by decide +kernel))
              (fun _ _ _ _ _ => pg_name (i := 6) nd rfl (Or.inl rfl)) (fun _ _ _ _ _ => pts_nil) (fun _ _ _ _ _ => pe_call (ok_is_name T) hr1 (by rfl) T.is_name.gl T.is_name.fn.kp T.is_name.bi .nil pass0 (pa_cons (pv 6) pa_nil))) pa_nil))))) pa_nil)))
      <| pss_cons (ps_expr (pe_call (ok_require T) hr1 (by rfl) T.require.gl T.require.fn.kp T.require.bi .nil pass0 (pa_cons
          (pe_and (pe_chain op_le op_le pe_int (pe_callB call_len_seq (by rfl) T.z_len PySem.boot_len (pa_cons (pv 2) pa_nil)) (pe_glob (v := .int 4) (by rfl) e3 ⟨_, rfl⟩))
          (pe_and (pe_call (ok_are_different T) hr1 (by rfl) T.are_different.gl T.are_different.fn.kp T.are_different.bi .nil pass0 (pa_cons (pv 2) pa_nil))
          (pe_one (pe_callB (cr_all rfl) (by rfl) T.z_all (by decide +kernel) (pa_cons
            (pe_lc (own := [("kind", 7)]) (g := gName 7) (tt := tYes) rfl nd (pi_list (pv 2)) (blkOk_by (own := [("kind", 7)]) (N := N_init) (sc := defScope s_init) (by decide +kernel))
              (fun _ _ _ _ _ => pg_name (i := 7) nd rfl (Or.inl rfl)) (fun _ _ _ _ _ => pts_nil) (fun _ _ _ _ _ => pe_call (ok_is_name T) hr1 (by rfl) T.is_name.gl T.is_name.fn.kp T.is_name.bi .nil pass0 (pa_cons (pv 7) pa_nil))) pa_nil))))) pa_nil)))
      <| pss_cons (ps_fld (pv 0) (pv 1) rfl)
      <| pss_cons (ps_fld (pv 0) (pe_callTy call_tuple_of (by rfl) T.z_tuple (by decide +kernel) (pa_cons (pe_callB cr_sortedS (by rfl) T.z_sorted (by decide +kernel) (pa_cons (pv 3) pa_nil)) pa_nil)) rfl)
      <| pss_cons (ps_fld (pv 0) (pe_callTy call_tuple_of (by rfl) T.z_tuple (by decide +kernel) (pa_cons (pe_callB cr_sortedS (by rfl) T.z_sorted (by decide +kernel) (pa_cons (pv 2) pa_nil)) pa_nil)) rfl)
      <| pss_cons (ps_expr (pe_call (ok_require T) hr1 (by rfl) T.require.gl T.require.fn.kp T.require.bi .nil pass0 (pa_cons (pe_cmpR op_le (pe_callB call_len_seq (by rfl) T.z_len PySem.boot_len (pa_cons (pv 4) pa_nil)) (pe_glob (v := .int 60) (by rfl) e4 ⟨_, rfl⟩) (nomark _)) pa_nil)))
      <| pss_cons (ps_fld (pv 0) (pe_callTy call_tuple_of (by rfl) T.z_tuple (by decide +kernel) (pa_cons
            (pe_callBK (cr_sortedF T.name_of.fn rfl sc_name_of rfl T.name_of.bi hr2) (by rfl) T.z_sorted (by decide +kernel) (pa_cons
              (pe_lc (own := [("road", 8)]) (g := gName 8) (tt := tYes) rfl nd (pi_list (pv 4)) (blkOk_by (own := [("road", 8)]) (N := N_init) (sc := defScope s_init) (by decide +kernel))
                (fun _ _ _ _ _ => pg_name (i := 8) nd rfl (Or.inl rfl)) (fun _ _ _ _ _ => pts_nil) (fun _ _ _ _ _ => pe_meth (pv 0) T.cl T.checked.me (ok_checked T) hr2 T.checked.bi .nil pass0 (pa_cons (pv 8) pa_nil))) pa_nil)
              (pk_cons (pe_glob (v := .ref a.f_name_of) (by rfl) T.name_of.gl rfl) pk_nil)) pa_nil)) rfl)
      <| pss_cons (ps_expr (pe_call (ok_require T) hr1 (by rfl) T.require.gl T.require.fn.kp T.require.bi .nil pass0 (pa_cons (pe_call (ok_are_different T) hr1 (by rfl) T.are_different.gl T.are_different.fn.kp T.are_different.bi .nil pass0 (pa_cons (pe_prop (pv 0) T.cl T.pr (ok_road_names T) hr2 T.b_road_names .nil pass0 rfl) pa_nil)) pa_nil)))
      <| pss_cons (ps_expr (pe_call (ok_require T) hr1 (by rfl) T.require.gl T.require.fn.kp T.require.bi .nil pass0 (pa_cons (pe_cmpR op_le (pe_callB call_len_seq (by rfl) T.z_len PySem.boot_len (pa_cons (pv 5) pa_nil)) (pe_glob (v := .int 40) (by rfl) e5 ⟨_, rfl⟩) (nomark _)) pa_nil)))
      <| pss_cons (ps_fld (pv 0) (pe_callTy call_tuple_of (by rfl) T.z_tuple (by decide +kernel) (pa_cons
            (pe_callB (cr_sortedTT hr.units) (by rfl) T.z_sorted (by decide +kernel) (pa_cons
              (pe_lc (own := [("bar", 9)]) (g := gName 9) (tt := tYes) rfl nd (pi_list (pv 5)) (blkOk_by (own := [("bar", 9)]) (N := N_init) (sc := defScope s_init) (by decide +kernel))
                (fun _ _ _ _ _ => pg_name (i := 9) nd rfl (Or.inl rfl)) (fun _ _ _ _ _ => pts_nil) (fun _ _ _ _ _ => pe_meth (pv 0) T.cl T.checked_bar.me (ok_checked_bar T) hr T.checked_bar.bi .nil pass0 (pa_cons (pv 9) pa_nil))) pa_nil)) pa_nil)) rfl)
      <| pss_one (ps_expr (pe_call (ok_require T) hr1 (by rfl) T.require.gl T.require.fn.kp T.require.bi .nil pass0 (pa_cons (pe_call (ok_are_different T) hr1 (by rfl) T.are_different.gl T.are_different.fn.kp T.are_different.bi .nil pass0 (pa_cons (pe_fld (pv 0) rfl) pa_nil)) pa_nil))), ?_⟩
    -- the day
    refine ⟨_, rfl, _, _, rfl, rfl, true, dT W.day.1, iteT ⟨_, _, rfl, rfl, congrArg (fun x => [x]) (dT W.day.2), ?_⟩⟩
    -- the places
    have lp : ((P.places.map V.str).length : Int) ≤ 30 := by
      rw [List.length_map]
      have := W.placesL
      omega
    refine ⟨_, rfl, pl, _, rfl, .inl (SqL.of (s0 _ _ hpl)), _, _, rfl, rfl, true, dT lp, iteT ?_⟩
    refine ⟨_, rfl, pl, true, _, _, rfl, SqL.of (s0 _ _ hpl), strs_dp _, strs_lay W.placesG, strs_shaped W.placesG, apart_strs W.placesN, fun H1 s1 => ⟨true, rfl, iteT ?_⟩⟩
    have s01 := s0.trans s1
    refine ⟨_, rfl, pl, rfl, ⟨_, SqL.of (s01 _ _ hpl)⟩, fun D1 hD1 => names_comp (s01 _ _ hpl) (by have := W.placesL; omega) W.placesG hD1 (show 6 < 10 by decide) fun H2 s2 hd2 => ?_⟩
    refine ⟨D1, _, rfl, SqL.of hd2, by rw [all_true]; rfl, ?_⟩
    have s02 := s01.trans s2
    have hp2 := s2 _ _ (s1 _ _ hp)
    -- the kinds
    have lk1 : (1 : Int) ≤ ((P.kinds.map V.str).length : Int) := by
      rw [List.length_map]
      have := W.kindsL
      omega
    have lk2 : ((P.kinds.map V.str).length : Int) ≤ 4 := by
      rw [List.length_map]
      have := W.kindsL
      omega
    refine ⟨_, rfl, kd, _, rfl, .inl (SqL.of (s02 _ _ hkd)), _, _, rfl, rfl, true, dT lk1, iteT ⟨_, _, rfl, rfl, true, dT lk2, iteT ?_⟩⟩
    refine ⟨_, rfl, kd, true, _, _, rfl, SqL.of (s02 _ _ hkd), strs_dp _, strs_lay W.kindsG, strs_shaped W.kindsG, apart_strs W.kindsN, fun H3 s3 => ⟨true, rfl, iteT ?_⟩⟩
    have s03 := s02.trans s3
    refine ⟨_, rfl, kd, rfl, ⟨_, SqL.of (s03 _ _ hkd)⟩, fun D2 hD2 => names_comp (s03 _ _ hkd) (by have := W.kindsL; omega) W.kindsG hD2 (show 7 < 10 by decide) fun H4 s4 hd4 => ?_⟩
    refine ⟨D2, _, rfl, SqL.of hd4, by rw [all_true]; rfl, ?_⟩
    have s04 := s03.trans s4
    have hp4 := s4 _ _ (s3 _ _ hp2)
    -- self.day = day
    refine ⟨_, rfl, _, rfl, p, a.C, dx, [], rfl, hp4, T.cl, T.n_day, (by show 0 < 1000; decide), ?_⟩
    have s05 : Same H0 (upd H4 p (.ins a.C dx (putF "day" (.int P.day) []))) := same_upd_new s04 h0p
    have hp5 : (upd H4 p (.ins a.C dx (putF "day" (.int P.day) []))) p = some (.ins a.C dx (putF "day" (.int P.day) [])) := upd_same
    have f5 : FsOk (putF "day" (.int P.day) []) := fsOk_put fsOk_nil (by decide +kernel)
    have ll5 : (putF "day" (.int P.day) []).length ≤ 1 := length_putF _ _ _
    have ld5 : (putF "day" (.int P.day) []).lookup ("day" : Str) = some (.int P.day) := lk_same
    generalize (putF ("day" : Str) (V.int P.day) []) = fs5 at s05 hp5 f5 ll5 ld5
    generalize (upd H4 p (.ins a.C dx fs5)) = H5 at s05 hp5
    -- self.places = tuple(sorted(places))
    refine ⟨_, rfl, pl, P.places, rfl, SqL.of (s05 _ _ hpl), (by have := W.placesL; omega), fun ys1 q1 pm1 _ hq1 => ?_⟩
    refine ⟨q1, _, rfl, .inl ⟨SqL.of upd_same, fun l1 hl1 => ?_⟩⟩
    have s56 : Same H5 (upd (upd H5 q1 (.lst (ys1.map V.str))) l1 (.tup (ys1.map V.str))) := (same_new hq1).trans (same_new hl1)
    have hl6 : (upd (upd H5 q1 (.lst (ys1.map V.str))) l1 (.tup (ys1.map V.str))) l1 = some (.tup (ys1.map V.str)) := upd_same
    generalize (upd (upd H5 q1 (.lst (ys1.map V.str))) l1 (.tup (ys1.map V.str))) = H6 at s56 hl6
    have hp6 := s56 _ _ hp5
    refine ⟨_, rfl, p, a.C, dx, fs5, rfl, hp6, T.cl, T.n_places, (by omega), ?_⟩
    have s07 : Same H0 (upd H6 p (.ins a.C dx (putF "places" (.ref l1) fs5))) := same_upd_new (s05.trans s56) h0p
    have hp7 : (upd H6 p (.ins a.C dx (putF "places" (.ref l1) fs5))) p = some (.ins a.C dx (putF "places" (.ref l1) fs5)) := upd_same
    have hl7 := keepT_fld (o := .ins a.C dx (putF "places" (.ref l1) fs5)) hp6 _ _ hl6
    have f7 : FsOk (putF "places" (.ref l1) fs5) := fsOk_put f5 (by decide +kernel)
    have ll7 : (putF "places" (.ref l1) fs5).length ≤ 2 := Nat.le_trans (length_putF _ _ _) (by omega)
    have ld7 : (putF "places" (.ref l1) fs5).lookup ("day" : Str) = some (.int P.day) := lk_ne (by decide +kernel) ld5
    have lp7 : (putF "places" (.ref l1) fs5).lookup ("places" : Str) = some (.ref l1) := lk_same
    generalize (putF ("places" : Str) (V.ref l1) fs5) = fs7 at s07 hp7 hl7 f7 ll7 ld7 lp7
    generalize (upd H6 p (.ins a.C dx fs7)) = H7 at s07 hp7 hl7
    -- self.kinds = tuple(sorted(kinds))
    refine ⟨_, rfl, kd, P.kinds, rfl, SqL.of (s07 _ _ hkd), (by have := W.kindsL; omega), fun ys2 q2 pm2 _ hq2 => ?_⟩
    refine ⟨q2, _, rfl, .inl ⟨SqL.of upd_same, fun l2 hl2 => ?_⟩⟩
    have s78 : Same H7 (upd (upd H7 q2 (.lst (ys2.map V.str))) l2 (.tup (ys2.map V.str))) := (same_new hq2).trans (same_new hl2)
    have hl8 : (upd (upd H7 q2 (.lst (ys2.map V.str))) l2 (.tup (ys2.map V.str))) l2 = some (.tup (ys2.map V.str)) := upd_same
    generalize (upd (upd H7 q2 (.lst (ys2.map V.str))) l2 (.tup (ys2.map V.str))) = H8 at s78 hl8
    have hp8 := s78 _ _ hp7
    refine ⟨_, rfl, p, a.C, dx, fs7, rfl, hp8, T.cl, T.n_kinds, (by omega), ?_⟩
    have s09 : Same H0 (upd H8 p (.ins a.C dx (putF "kinds" (.ref l2) fs7))) := same_upd_new (s07.trans s78) h0p
    have hp9 : (upd H8 p (.ins a.C dx (putF "kinds" (.ref l2) fs7))) p = some (.ins a.C dx (putF "kinds" (.ref l2) fs7)) := upd_same
    have hk9 := keepT_fld (o := .ins a.C dx (putF "kinds" (.ref l2) fs7)) hp8 _ _ hl8
    have hl9 := keepT_fld (o := .ins a.C dx (putF "kinds" (.ref l2) fs7)) hp8 _ _ (s78 _ _ hl7)
    have f9 : FsOk (putF "kinds" (.ref l2) fs7) := fsOk_put f7 (by decide +kernel)
    have ll9 : (putF "kinds" (.ref l2) fs7).length ≤ 3 := Nat.le_trans (length_putF _ _ _) (by omega)
    have ld9 : (putF "kinds" (.ref l2) fs7).lookup ("day" : Str) = some (.int P.day) := lk_ne (by decide +kernel) ld7
    have lp9 : (putF "kinds" (.ref l2) fs7).lookup ("places" : Str) = some (.ref l1) := lk_ne (by decide +kernel) lp7
    have lk9 : (putF "kinds" (.ref l2) fs7).lookup ("kinds" : Str) = some (.ref l2) := lk_same
    generalize (putF ("kinds" : Str) (V.ref l2) fs7) = fs9 at s09 hp9 hk9 hl9 f9 ll9 ld9 lp9 lk9
    generalize (upd H8 p (.ins a.C dx fs9)) = H9 at s09 hp9 hk9 hl9
    -- require(len(roads) <= MOST_ROADS)
    have lrv := paired_len hrv
    have lbv := paired_len hbv
    have lr : ((rvs.length : Nat) : Int) ≤ 60 := by
      have := W.roadsL
      omega
    refine ⟨_, rfl, rd, _, rfl, .inl (SqL.of (s09 _ _ hrd)), _, _, rfl, rfl, congrArg (fun x => [x]) (dT lr), ?_⟩
    -- self.roads
    refine ⟨_, rfl, rd, rfl, ⟨_, SqL.of (s09 _ _ hrd)⟩, fun D3 hD3 => ?_⟩
    refine lc_it (walk_list (K := K) (a := rd) (xs := rvs)) (fun i H' => Same H9 H' ∧ ∃ acc, H' D3 = some (.lst acc) ∧ Paired (RoadAt H') acc ((P.roads.take i).map (normR ys2))) ⟨same_new hD3, [], upd_same, .nil⟩ (fun i H' _ h => h.1.seq (SqL.of (s09 _ _ hrd))) ?_ ?_
    · rintro i x H10 H11 hi ⟨sm, acc, hd, hac⟩ ⟨rfl, hx⟩
      obtain ⟨r, hr1, hR⟩ := paired_get hrv hx
      have s9' := s09.trans sm
      have Wr := W.roads r (List.mem_of_getElem? hr1)
      have hlk : r.kinds.length ≤ P.kinds.length := by
        have : ∀ {l m : List Str}, l.Nodup → (∀ x ∈ l, x ∈ m) → l.length ≤ m.length := by
          intro l
          induction l with
          | nil => intro m _ _; exact Nat.zero_le _
          | cons x l ih =>
            intro m hn hs
            rw [List.nodup_cons] at hn
            have hx := hs x (List.mem_cons_self ..)
            have := ih (m := m.erase x) hn.2 fun y hy => by
              refine (List.mem_erase_of_ne fun e => ?_).mpr (hs y (List.mem_cons_of_mem _ hy))
              subst e
              exact hn.1 hy
            rw [List.length_erase_of_mem hx] at this
            have := List.length_pos_of_mem hx
            rw [List.length_cons]
            omega
        exact this Wr.kindsN Wr.kinds
      have hkl := W.kindsL
      refine ⟨rfl, _, rfl, p, dx, fs9, rfl, sm _ _ hp9, f9 _ (by simp), _, rfl, p, x, fs9, ys1, ys2, P.day, r, rfl, ⟨f9, dx, sm _ _ hp9⟩, ld9, ⟨l1, lp9, sm _ _ hl9⟩, ⟨l2, lk9, sm _ _ hk9⟩, hR.keepT s9'.tups, Wr.name, pm1.mem_iff.mpr Wr.start, pm1.mem_iff.mpr Wr.stop, Wr.mins.1, Wr.mins.2, Wr.kindsN,
        (fun z hz => pm2.mem_iff.mpr (Wr.kinds z hz)), (fun z hz => W.kindsG z (pm2.mem_iff.mp hz)), (by rw [pm2.length_eq]; omega), (by omega), Wr.hours, fun v' H12 s12 hv' => ?_⟩
      refine ⟨_, s12 _ _ hd, ?_, same_upd_new (sm.trans s12) hD3, _, upd_same, ?_⟩
      · have := paired_len hac
        rw [List.length_map, List.length_take] at this
        have := W.roadsL
        exact line10k (by omega)
      · rw [List.take_add_one, hr1, List.map_append]
        have ne : ∀ b xs, H12 b = some (.tup xs) → (upd H12 D3 (.lst (acc ++ [v']))) b = some (.tup xs) := fun b xs e => by
          rw [upd_ne (ne_of e (s12 _ _ hd) (by intro z; cases z))]
          exact e
        exact paired_snoc (hv'.keepT ne) (Paired.mapP hac fun _ _ z => z.keepT (KeepT.trans s12.tups ne))
    rintro H10 ⟨s10, acc, hd10, hac⟩
    rw [lrv, List.take_length] at hac
    refine ⟨D3, acc, rfl, rfl, SqL.of hd10, fun x hx => ?_, fun ys3 q3 pm3 hq3 => ?_⟩
    · obtain ⟨r, _, t, kk, hh, rfl, ht, _⟩ := paired_mem hac hx
      exact ⟨t, _, _, rfl, ht⟩
    refine ⟨q3, _, rfl, .inl ⟨SqL.of upd_same, fun l3 hl3 => ?_⟩⟩
    obtain ⟨rs3, pr3, hR3⟩ := paired_perm pm3 hac
    have s11 : Same H10 (upd (upd H10 q3 (.lst ys3)) l3 (.tup ys3)) := (same_new hq3).trans (same_new hl3)
    have hl11 : (upd (upd H10 q3 (.lst ys3)) l3 (.tup ys3)) l3 = some (.tup ys3) := upd_same
    generalize (upd (upd H10 q3 (.lst ys3)) l3 (.tup ys3)) = H11 at s11 hl11
    have s911 := s10.trans s11
    have hp11 := s911 _ _ hp9
    refine ⟨_, rfl, p, a.C, dx, fs9, rfl, hp11, T.cl, T.n_roads, (by omega), ?_⟩
    have s012 : Same H0 (upd H11 p (.ins a.C dx (putF "roads" (.ref l3) fs9))) := same_upd_new (s09.trans s911) h0p
    have hp12 : (upd H11 p (.ins a.C dx (putF "roads" (.ref l3) fs9))) p = some (.ins a.C dx (putF "roads" (.ref l3) fs9)) := upd_same
    have kt12 := keepT_fld (o := .ins a.C dx (putF "roads" (.ref l3) fs9)) hp11
    have f12 : FsOk (putF "roads" (.ref l3) fs9) := fsOk_put f9 (by decide +kernel)
    have ll12 : (putF "roads" (.ref l3) fs9).length ≤ 4 := Nat.le_trans (length_putF _ _ _) (by omega)
    have ld12 : (putF "roads" (.ref l3) fs9).lookup ("day" : Str) = some (.int P.day) := lk_ne (by decide +kernel) ld9
    have lp12 : (putF "roads" (.ref l3) fs9).lookup ("places" : Str) = some (.ref l1) := lk_ne (by decide +kernel) lp9
    have lk12 : (putF "roads" (.ref l3) fs9).lookup ("kinds" : Str) = some (.ref l2) := lk_ne (by decide +kernel) lk9
    have lr12 : (putF "roads" (.ref l3) fs9).lookup ("roads" : Str) = some (.ref l3) := lk_same
    have hl12 := kt12 _ _ hl11
    have hlp12 := kt12 _ _ (s911 _ _ hl9)
    have hlk12 := kt12 _ _ (s911 _ _ hk9)
    have hR12 : Paired (RoadAt (upd H11 p (.ins a.C dx (putF "roads" (.ref l3) fs9)))) ys3 rs3 := Paired.mapP hR3 fun _ _ z => z.keepT (KeepT.trans s11.tups kt12)
    clear kt12
    generalize (putF ("roads" : Str) (V.ref l3) fs9) = fs12 at s012 hp12 f12 ll12 ld12 lp12 lk12 lr12 hl12 hlp12 hlk12 hR12
    generalize (upd H11 p (.ins a.C dx fs12)) = H12 at s012 hp12 hl12 hlp12 hlk12 hR12
    -- require(are_different(self.road_names))
    have hnm : (rs3.map (·.name)).Perm (P.roads.map (·.name)) := by
      have := pr3.map (·.name)
      rw [normR_names] at this
      exact this
    have hnd : (rs3.map (·.name)).Nodup := hnm.nodup_iff.mpr W.roadsN
    have hgn : ∀ x ∈ rs3.map (·.name), GoodName x := fun x hx => by
      obtain ⟨r, hr, rfl⟩ := List.mem_map.mp (hnm.mem_iff.mp hx)
      exact (W.roads r hr).name
    have hlen3 : rs3.length ≤ 100 := by
      have := pr3.length_eq
      rw [List.length_map] at this
      have := W.roadsL
      omega
    have ho12 : ObAt a.C H12 p fs12 := ⟨f12, dx, hp12⟩
    have hRF12 : RoadsF H12 fs12 rs3 := ⟨l3, ys3, lr12, hl12, hR12⟩
    refine ⟨_, rfl, p, dx, fs12, rfl, hp12, p, fs12, rs3, rfl, ho12, hRF12, hlen3, fun H13 q13 s13 hq13 => ?_⟩
    refine ⟨q13, false, _, _, rfl, SqT.of hq13, strs_dp _, strs_lay hgn, strs_shaped hgn, apart_strs hnd, fun H14 s14 => ⟨rfl, ?_⟩⟩
    have s1214 := s13.trans s14
    have s014 := s012.trans s1214
    -- require(len(bars) <= MOST_BARS)
    have lb : ((bvs.length : Nat) : Int) ≤ 40 := by
      have := W.barsL
      omega
    refine ⟨_, rfl, br, _, rfl, .inl (SqL.of (s014 _ _ hbr)), _, _, rfl, rfl, congrArg (fun x => [x]) (dT lb), ?_⟩
    -- self.bars
    have ho14 := ho12.keep s1214.keep
    have hRF14 := hRF12.keep s1214.keep
    refine ⟨_, rfl, br, rfl, ⟨_, SqL.of (s014 _ _ hbr)⟩, fun D4 hD4 => ?_⟩
    refine lc_it (walk_list (K := K) (a := br) (xs := bvs)) (fun i H' => Same H14 H' ∧ H' D4 = some (.lst (bvs.take i))) ⟨same_new hD4, upd_same⟩ (fun i H' _ h => h.1.seq (SqL.of (s014 _ _ hbr))) ?_ ?_
    · rintro i x H15 H16 hi ⟨sm, hd⟩ ⟨rfl, hx⟩
      obtain ⟨b, hb1, hB⟩ := paired_get hbv hx
      obtain ⟨r, hr, o, ho, en1, en2, en3⟩ := W.bars b (List.mem_of_getElem? hb1)
      have inn : ∀ r ∈ P.roads, normR ys2 r ∈ rs3 := fun r hr => pr3.mem_iff.mpr (List.mem_map.mpr ⟨r, hr, rfl⟩)
      refine ⟨rfl, _, rfl, p, dx, fs12, rfl, sm _ _ (s1214 _ _ hp12), f12 _ (by simp), _, rfl, p, x, fs12, rs3, b, normR ys2 r, normR ys2 o, rfl, ho14.keep sm.keep, hRF14.keep sm.keep, hnd, hlen3, hB.keep (s014.trans sm).keep, inn r hr, inn o ho, en1, en2, en3, fun H17 s17 => ?_⟩
      refine ⟨_, s17 _ _ hd, ?_, same_upd_new (sm.trans s17) hD4, ?_⟩
      · rw [List.length_take]
        exact line10k (by omega)
      · rw [upd_same, List.take_add_one, hx]
        rfl
    rintro H15 ⟨s15, hd15⟩
    rw [List.take_length] at hd15
    refine ⟨D4, bvs, rfl, SqL.of hd15, fun x hx => ?_, fun ys4 q4 pm4 hq4 => ?_⟩
    · obtain ⟨b, _, t, rfl, ht⟩ := paired_mem hbv hx
      exact ⟨t, _, _, rfl, s15 _ _ (s014 _ _ ht)⟩
    refine ⟨q4, _, rfl, .inl ⟨SqL.of upd_same, fun l4 hl4 => ?_⟩⟩
    obtain ⟨bs4, pr4, hB4⟩ := paired_perm pm4 hbv
    have s16 : Same H15 (upd (upd H15 q4 (.lst ys4)) l4 (.tup ys4)) := (same_new hq4).trans (same_new hl4)
    have hl16 : (upd (upd H15 q4 (.lst ys4)) l4 (.tup ys4)) l4 = some (.tup ys4) := upd_same
    generalize (upd (upd H15 q4 (.lst ys4)) l4 (.tup ys4)) = H16 at s16 hl16
    have s1416 := s15.trans s16
    have s1216 := s1214.trans s1416
    have hp16 := s1216 _ _ hp12
    refine ⟨_, rfl, p, a.C, dx, fs12, rfl, hp16, T.cl, T.n_bars, (by omega), ?_⟩
    have s017 : Same H0 (upd H16 p (.ins a.C dx (putF "bars" (.ref l4) fs12))) := same_upd_new (s012.trans s1216) h0p
    have hp17 : (upd H16 p (.ins a.C dx (putF "bars" (.ref l4) fs12))) p = some (.ins a.C dx (putF "bars" (.ref l4) fs12)) := upd_same
    have kt17 := keepT_fld (o := .ins a.C dx (putF "bars" (.ref l4) fs12)) hp16
    have f17 : FsOk (putF "bars" (.ref l4) fs12) := fsOk_put f12 (by decide +kernel)
    have ld17 : (putF "bars" (.ref l4) fs12).lookup ("day" : Str) = some (.int P.day) := lk_ne (by decide +kernel) ld12
    have lp17 : (putF "bars" (.ref l4) fs12).lookup ("places" : Str) = some (.ref l1) := lk_ne (by decide +kernel) lp12
    have lk17 : (putF "bars" (.ref l4) fs12).lookup ("kinds" : Str) = some (.ref l2) := lk_ne (by decide +kernel) lk12
    have lr17 : (putF "bars" (.ref l4) fs12).lookup ("roads" : Str) = some (.ref l3) := lk_ne (by decide +kernel) lr12
    have lb17 : (putF "bars" (.ref l4) fs12).lookup ("bars" : Str) = some (.ref l4) := lk_same
    have hl17 := kt17 _ _ hl16
    have hlp17 := kt17 _ _ (s1216 _ _ hlp12)
    have hlk17 := kt17 _ _ (s1216 _ _ hlk12)
    have hlr17 := kt17 _ _ (s1216 _ _ hl12)
    have hR17 : Paired (RoadAt (upd H16 p (.ins a.C dx (putF "bars" (.ref l4) fs12)))) ys3 rs3 := Paired.mapP hR12 fun _ _ z => z.keepT (KeepT.trans s1216.tups kt17)
    have hB17 : Paired (BarAt (upd H16 p (.ins a.C dx (putF "bars" (.ref l4) fs12)))) ys4 bs4 := Paired.mapP hB4 fun _ _ z => z.keepT (KeepT.trans (s012.trans s1216).tups kt17)
    clear kt17
    generalize (putF ("bars" : Str) (V.ref l4) fs12) = fs17 at s017 hp17 f17 ld17 lp17 lk17 lr17 lb17 hl17 hlp17 hlk17 hlr17 hR17 hB17
    generalize (upd H16 p (.ins a.C dx fs17)) = H17 at s017 hp17 hl17 hlp17 hlk17 hlr17 hR17 hB17
    -- require(are_different(self.bars))
    have gb4 : ∀ b ∈ bs4, GoodBar b := fun b hb => W.bar b (pr4.mem_iff.mp hb)
    refine ⟨_, rfl, p, a.C, dx, fs17, _, rfl, hp17, T.cl, T.n_bars, lb17, l4, false, _, _, rfl, SqT.of hl17, bars_dp hB17, encs_lay gb4, ?_, apart_bars (pr4.nodup_iff.mpr W.barsN), fun H18 s18 => ⟨rfl, ?_⟩⟩
    · intro d hd
      obtain ⟨x, hx, rfl⟩ := List.mem_map.mp hd
      exact enc_shaped (gb4 x hx)
    refine k ⟨P.day, ys1, ys2, rs3, bs4⟩ H18 ⟨rfl, pm1, pm2, pr3, pr4⟩ (s017.trans s18) (ChartAt.keep s18.keep ⟨fs17, ⟨f17, dx, hp17⟩, ld17, ⟨l1, lp17, hlp17⟩, ⟨l2, lk17, hlk17⟩, ⟨l3, ys3, lr17, hlr17, hR17⟩, ⟨l4, ys4, lb17, hl17, hB17⟩⟩)
end
end Wp
/-! _law_row, _law_numbers. -/
namespace Wp
open PySem PySem.Spec PyProof.Rows L2
/-- numbers of a script: each from 0 to 1008 -/
def Small (ns : List Int) : Prop := ∀ n ∈ ns, 0 ≤ n ∧ n < 1009
theorem Small.nil : Small [] := fun _ h => by cases h
theorem Small.snoc {ns : List Int} {z : Int} (h : Small ns) (hz : 0 ≤ z ∧ z < 1009) : Small (ns ++ [z]) := fun n hn => by
  rcases List.mem_append.mp hn with hn | hn
  · exact h n hn
  · rw [List.mem_singleton.mp hn]
    exact hz
theorem small_mod (z : Int) : 0 ≤ z % 1009 ∧ z % 1009 < 1009 := ⟨Int.emod_nonneg _ (by decide), Int.emod_lt_of_pos _ (by decide)⟩
theorem lst_snoc (ns : List Int) (z : Int) : ns.map V.int ++ [.int z] = (ns ++ [z]).map V.int := by
  rw [List.map_append]
  rfl
section
variable {P : Program} {w : World} {K : PySem.W.Frag} {mg : Str → Option Value} {base : Heap} {a : Ad}
def sp_row : Sp := fun vs H Q _ => ∃ c m, vs = [.int c, .int m] ∧ 0 ≤ m ∧ m ≤ 1000 ∧ ∀ ns p H', (ns.length : Int) = m → Small ns → H p = none → Same H H' → H' p = some (.lst (ns.map V.int)) → Q (.ref p) H'
theorem ok_row (T : Txt K mg a) : FnOk P w K mg base CX0 1 a.f_l_row a.d_l_row ["_law_cell", "_law_many"] sp_row := by
  refine T.l_row.fn.ok sc_l_row (fun vs H Q E h => ?_) (fun cdv A outer s H vs Q E hr h => ?_)
  · obtain ⟨c, m, rfl, _⟩ := h
    rfl
  · obtain ⟨c, m, rfl, h0, h1, k⟩ := h
    have nd := sc_l_row.nd
    refine ⟨_, pss_cons (ps_set (i := 2) nd rfl (Or.inl rfl) (pe_lst pa_nil))
      <| pss_cons (ps_set (i := 3) nd rfl (Or.inl rfl) (pe_callB call_abs (by rfl) T.z_abs (by decide +kernel) (pa_cons (pv 0) pa_nil)))
      <| pss_cons (ps_set (i := 4) nd rfl (Or.inl rfl) (pe_op op_mod (pe_callTy call_int1 (by rfl) T.z_int (by decide +kernel) (pa_cons (pe_op op_add (pe_op op_mul (pv 3) pe_int) pe_int) pa_nil)) pe_int))
      <| pss_cons (ps_for PassesOwn.never rfl (pi_range1 rfl T.z_range (pa_cons (pv 1) pa_nil)) (pg_name (i := 5) nd rfl (Or.inl rfl))
        (pss_cons (ps_set (i := 4) nd rfl (Or.inl rfl) (pe_op op_mod (pe_callTy call_int1 (by rfl) T.z_int (by decide +kernel) (pa_cons (pe_op op_add (pe_op op_mul (pv 4) pe_int) (pe_op op_mul pe_int (pe_op op_add (pv 5) pe_int))) pa_nil)) pe_int))
        <| pss_one (ps_if (pt_cmpR op_ge (pe_callB call_abs (by rfl) T.z_abs (by decide +kernel) (pa_cons (pv 0) pa_nil)) (pe_op op_pow pe_int pe_int) (nomark _))
          (pss_cons (ps_expr (pe_bm PySem.F.plainAttrs_list PySem.F.slot_list_append PySem.F.type_list_append mt_append (pv 2) (pa_cons (pe_op op_mod (pe_callTy call_int1 (by rfl) T.z_int (by decide +kernel) (pa_cons (pv 3) pa_nil)) pe_int) pa_nil)))
          <| pss_one (ps_set (i := 3) nd rfl (Or.inl rfl) (pe_op op_fdiv (pv 3) pe_int)))
          (pss_one (ps_expr (pe_bm PySem.F.plainAttrs_list PySem.F.slot_list_append PySem.F.type_list_append mt_append (pv 2) (pa_cons (pe_op op_mod (pe_callTy call_int1 (by rfl) T.z_int (by decide +kernel) (pa_cons (pe_op op_fdiv (pv 4) pe_int) pa_nil)) pe_int) pa_nil)))))))
      <| pss_one (ps_ret (pv 2)), ?_⟩
    refine ⟨Nat.zero_le _, fun p hp => ?_⟩
    have s1 : Same H (upd H p (.lst [])) := same_new hp
    refine ⟨_, rfl, _, rfl, ?_⟩
    refine ⟨_, rfl, _, _, rfl, rfl, .inr (by decide), _, _, rfl, rfl, .inl ⟨_, rfl, _, _, rfl, rfl, (by show (0 : Int) < 2147483647; decide), ?_⟩⟩
    refine ⟨_, rfl, m, rfl, by omega, by omega, ?_⟩
    refine for_it walk_range (fun i σ H' => Same H H' ∧ ∃ r x v, ∃ ns : List Int, σ = [some (.int c), some (.int m), some (.ref p), some (.int r), some (.int x), v] ∧ ns.length = i ∧ Small ns ∧ H' p = some (.lst (ns.map V.int)))
      ⟨s1, _, _, none, [], rfl, rfl, Small.nil, upd_same⟩ (fun _ _ _ _ _ => trivial) ?_ ?_
    · rintro i x σ H1 H2 hi ⟨sm, r, y, v, ns, rfl, hl, hs, hd⟩ ⟨rfl, rfl⟩
      refine ⟨_, rfl, _, _, rfl, rfl, .inr (by decide), _, rfl, _, _, rfl, rfl, _, _, rfl, rfl, .inl (by decide), _, _, rfl, rfl, .inl ⟨_, rfl, _, _, rfl, rfl, (by show (0 : Int) < 2147483629; decide), ?_⟩⟩
      have hln : (ns.map V.int).length < sizeLine := by
        rw [List.length_map]
        exact line10k (by omega)
      refine ⟨_, rfl, _, rfl, _, _, rfl, rfl, ⟨by decide, by decide, by decide⟩, _, _, rfl, rfl, _, rfl, ite2 (fun e => ?_) (fun e => ?_)⟩
      · refine ⟨_, rfl, .inl ⟨rfl, _, SqL.of hd⟩, _, rfl, .inl ⟨_, rfl, _, _, rfl, rfl, (by show (0 : Int) < 1009; decide), ?_⟩⟩
        refine ⟨p, _, _, rfl, rfl, hd, hln, ?_⟩
        refine ⟨_, rfl, _, _, rfl, rfl, ⟨by decide, by decide⟩, ?_⟩
        exact ⟨same_upd_new sm hp, _, _, _, ns ++ [r % 1009], rfl, by rw [List.length_append, hl]; rfl, hs.snoc (small_mod _), by rw [upd_same, lst_snoc]⟩
      · refine ⟨_, rfl, .inl ⟨rfl, _, SqL.of hd⟩, _, rfl, _, _, rfl, rfl, ⟨by decide, by decide⟩, .inl ⟨_, rfl, _, _, rfl, rfl, (by show (0 : Int) < 1009; decide), ?_⟩⟩
        refine ⟨p, _, _, rfl, rfl, hd, hln, ?_⟩
        exact ⟨same_upd_new sm hp, _, _, _, ns ++ [_], rfl, by rw [List.length_append, hl]; rfl, hs.snoc (small_mod _), by rw [upd_same, lst_snoc]⟩
    · rintro σ H1 ⟨sm, r, y, v, ns, rfl, hl, hs, hd⟩
      exact ⟨_, rfl, k ns p _ (by omega) hs hp sm hd⟩

theorem ints_get {ns : List Int} {i : Nat} {x : V} (h : (ns.map V.int)[i]? = some x) : ∃ z, x = .int z ∧ ns[i]? = some z := by
  rw [List.getElem?_map] at h
  cases q : ns[i]? with
  | none => rw [q] at h; cases h
  | some z => rw [q] at h; exact ⟨z, (Option.some.inj h).symm, rfl⟩
def sp_numbers (K : PySem.W.Frag) : Sp := fun vs H Q _ => ∃ (l : Addr) (ns : List Int), vs = [.ref l, .int 140] ∧ SqL K H l (ns.map V.int) ∧ ns.length ≤ 63 ∧ ∀ (zs : List Int) p H', zs.length = 140 → Small zs → Same H H' → H' p = some (.lst (zs.map V.int)) → Q (.ref p) H'
theorem ok_numbers (T : Txt K mg a) : FnOk P w K mg base CX0 2 a.f_l_numbers a.d_l_numbers ["_law_script", "_law_many"] (sp_numbers K) := by
  refine T.l_numbers.fn.ok sc_l_numbers (fun vs H Q E h => ?_) (fun cdv A outer s H vs Q E hr h => ?_)
  · obtain ⟨l, ns, rfl, _⟩ := h
    rfl
  · obtain ⟨l, ns, rfl, hl, hn, k⟩ := h
    have nd := sc_l_numbers.nd
    refine ⟨_, pss_cons (ps_set (i := 2) nd rfl (Or.inl rfl) (pe_slice sl_list (pv 0) po_none (po_some pe_int)))
      <| pss_cons (ps_set (i := 3) nd rfl (Or.inl rfl) (pe_op op_add pe_int (pe_op op_fdiv (pv 1) (pe_callB (call_max2 rfl) (by rfl) T.z_max (by decide +kernel) (pa_cons pe_int (pa_cons (pe_callB call_len_seq (by rfl) T.z_len PySem.boot_len (pa_cons (pv 2) pa_nil)) pa_nil))))))
      <| pss_cons (ps_set (i := 4) nd rfl (Or.inl rfl) (pe_lst pa_nil))
      <| pss_cons (ps_for PassesOwn.never rfl (pi_list (pv 2)) (pg_name (i := 5) nd rfl (Or.inl rfl))
        (pss_one (ps_for PassesOwn.never rfl (pi_list (pe_call (ok_row T) hr (by rfl) T.l_row.gl T.l_row.fn.kp T.l_row.bi .nil pass0 (pa_cons (pv 5) (pa_cons (pv 3) pa_nil)))) (pg_name (i := 6) nd rfl (Or.inl rfl))
          (pss_one (ps_expr (pe_bm PySem.F.plainAttrs_list PySem.F.slot_list_append PySem.F.type_list_append mt_append (pv 4) (pa_cons (pv 6) pa_nil)))))))
      <| pss_cons (ps_while PassesOwn.never (pt_cmpR op_lt (pe_callB call_len_seq (by rfl) T.z_len PySem.boot_len (pa_cons (pv 4) pa_nil)) (pv 1) (nomark _))
        (pss_one (ps_expr (pe_bm PySem.F.plainAttrs_list PySem.F.slot_list_append PySem.F.type_list_append mt_append (pv 4) (pa_cons pe_int pa_nil)))))
      <| pss_one (ps_ret (pe_slice sl_list (pv 4) po_none (po_some (pv 1)))), ?_⟩
    refine ⟨_, rfl, 63, rfl, l, _, rfl, hl, fun c hc => ?_⟩
    have ecut : cutV (ns.map V.int) none (some (63 : Int)) = ns.map V.int := by
      unfold cutV
      rw [HT.sIx_none, show (63 : Int) = ((63 : Nat) : Int) from rfl, HT.sIx_nat, List.length_map, Nat.min_eq_right hn]
      show (ns.map V.int).take (ns.length - 0) = _
      exact List.take_of_length_le (by rw [List.length_map]; omega)
    rw [ecut]
    have s1 : Same H (upd H c (.lst (ns.map V.int))) := same_new hc
    have hc1 : (upd H c (.lst (ns.map V.int))) c = some (.lst (ns.map V.int)) := upd_same
    generalize upd H c (.lst (ns.map V.int)) = H1 at s1 hc1
    refine ⟨_, rfl, _, rfl, c, _, rfl, .inl (SqL.of hc1), _, _, rfl, ?_⟩
    have hmx : ∀ x : Int, x = (if (((ns.map V.int).length : Nat) : Int) > 1 then (((ns.map V.int).length : Nat) : Int) else 1) → 1 ≤ x ∧ x ≤ 63 := by
      rintro x rfl
      rw [List.length_map]
      split <;> omega
    have hx := hmx _ rfl
    generalize (if (((ns.map V.int).length : Nat) : Int) > 1 then (((ns.map V.int).length : Nat) : Int) else 1) = mx at hx
    refine ⟨_, _, rfl, rfl, ⟨by omega, by omega⟩, _, _, rfl, rfl, ?_⟩
    have hd0 : 0 ≤ (140 : Int) / mx := Int.ediv_nonneg (by decide) (by omega)
    have hd1 : (140 : Int) / mx ≤ 140 := Int.ediv_le_self _ (by decide)
    have he : 0 ≤ 1 + (140 : Int) / mx ∧ 1 + (140 : Int) / mx ≤ 141 := ⟨by omega, by omega⟩
    generalize hE : 1 + (140 : Int) / mx = each at he
    refine ⟨Nat.zero_le _, fun p hp => ?_⟩
    have s2 : Same H1 (upd H1 p (.lst [])) := same_new hp
    refine ⟨_, rfl, c, rfl, ⟨_, SqL.of (s2 _ _ hc1)⟩, ?_⟩
    refine for_it (walk_list (K := K) (a := c) (xs := ns.map V.int)) (fun i σ H' => Same H1 H' ∧ ∃ v5 v6, ∃ zs : List Int, σ = [some (.ref l), some (.int 140), some (.ref c), some (.int each), some (.ref p), v5, v6] ∧ zs.length ≤ 141 * i ∧ Small zs ∧ H' p = some (.lst (zs.map V.int)))
      ⟨s2, none, none, [], by rw [← hE]; rfl, Nat.zero_le _, Small.nil, upd_same⟩ (fun i σ H' _ h => h.1.seq (SqL.of hc1)) ?_ ?_
    · rintro i x σ H2 H3 hi ⟨sm, v5, v6, zs, rfl, hzl, hzs, hd⟩ ⟨rfl, hx⟩
      rw [List.length_map] at hi
      obtain ⟨z, rfl, hz⟩ := ints_get hx
      refine ⟨_, rfl, _, rfl, z, each, rfl, by omega, by omega, fun rs q H4 hrl hrs hq0 s4 hq => ?_⟩
      refine ⟨q, rfl, ⟨_, SqL.of hq⟩, ?_⟩
      have hd4 := s4 _ _ hd
      have nqp : q ≠ p := fun e => by
        rw [e, hd] at hq0
        cases hq0
      have s14 := sm.trans s4
      refine for_it (walk_list (K := K) (a := q) (xs := rs.map V.int)) (fun j σ H' => Same H1 H' ∧ H' q = some (.lst (rs.map V.int)) ∧ ∃ v6, ∃ ys : List Int, σ = [some (.ref l), some (.int 140), some (.ref c), some (.int each), some (.ref p), some (.int z), v6] ∧ ys.length = zs.length + j ∧ Small ys ∧ H' p = some (.lst (ys.map V.int)))
        ⟨s14, hq, v6, zs, rfl, rfl, hzs, hd4⟩ (fun i σ H' _ h => SqL.of h.2.1) ?_ ?_
      · rintro j x σ H5 H6 hj ⟨s5, hq5, w6, ys, rfl, hyl, hys, hd5⟩ ⟨rfl, hx⟩
        rw [List.length_map] at hj
        obtain ⟨y, rfl, hy⟩ := ints_get hx
        refine ⟨_, rfl, .inl ⟨rfl, _, SqL.of hd5⟩, _, rfl, p, _, _, rfl, rfl, hd5, ?_, ?_⟩
        · rw [List.length_map]
          exact line10k (by omega)
        · refine ⟨same_upd_new s5 hp, by rw [upd_ne nqp]; exact hq5, _, ys ++ [y], rfl, by rw [List.length_append, hyl]; rfl, hys.snoc (hrs y (List.mem_of_getElem? hy)), by rw [upd_same, lst_snoc]⟩
      · rintro σ H5 ⟨s5, hq5, w6, ys, rfl, hyl, hys, hd5⟩
        rw [List.length_map] at hyl
        refine ⟨s5, _, _, ys, rfl, by omega, hys, hd5⟩
    · rintro σ H2 ⟨sm, v5, v6, zs, rfl, hzl, hzs, hd⟩
      rw [List.length_map] at hzl
      -- while len(numbers) < many: append(0)
      refine ⟨fun m σ H' => Same H1 H' ∧ ∃ ys : List Int, σ = [some (.ref l), some (.int 140), some (.ref c), some (.int each), some (.ref p), v5, v6] ∧ ys.length ≤ 9000 ∧ Small ys ∧ H' p = some (.lst (ys.map V.int)) ∧ m = 140 - ys.length,
        ⟨_, sm, zs, rfl, by omega, hzs, hd, rfl⟩, ?_⟩
      rintro m σ H3 ⟨s3, ys, rfl, hyl, hys, hd3, rfl⟩
      refine ⟨_, rfl, p, _, rfl, .inl (SqL.of hd3), _, rfl, _, _, rfl, rfl, _, rfl, ite2 (fun e => ?_) (fun e => ?_)⟩
      · have e := of_decide_eq_true e
        rw [List.length_map] at e
        refine ⟨fun σ H' => Same H1 H' ∧ σ = [some (.ref l), some (.int 140), some (.ref c), some (.int each), some (.ref p), v5, v6] ∧ H' p = some (.lst ((ys ++ [0]).map V.int)), ?_, ?_⟩
        · rintro σ' H' ⟨s', rfl, hd'⟩
          refine ⟨140 - (ys ++ [0]).length, ?_, s', ys ++ [0], rfl, ?_, hys.snoc (by decide), hd', rfl⟩
          · rw [List.length_append, List.length_singleton]
            omega
          · rw [List.length_append, List.length_singleton]
            omega
        · refine ⟨_, rfl, .inl ⟨rfl, _, SqL.of hd3⟩, p, _, _, rfl, rfl, hd3, ?_, ?_⟩
          · rw [List.length_map]
            exact line10k (by omega)
          · exact ⟨same_upd_new s3 hp, rfl, by rw [upd_same, lst_snoc]⟩
      · have e : ¬ ((ys.map V.int).length : Int) < 140 := fun z => e (decide_eq_true z)
        rw [List.length_map] at e
        refine ⟨_, rfl, _, rfl, 140, rfl, p, _, rfl, SqL.of hd3, fun r hr0 => ?_⟩
        have ecut2 : cutV (ys.map V.int) none (some (140 : Int)) = (ys.take 140).map V.int := by
          unfold cutV
          rw [HT.sIx_none, show (140 : Int) = ((140 : Nat) : Int) from rfl, HT.sIx_nat, List.length_map, Nat.min_eq_left (by omega), List.map_take]
          rfl
        refine k (ys.take 140) r _ (by rw [List.length_take]; omega) (fun n hn => hys n (List.mem_of_mem_take hn)) ((s1.trans s3).trans (same_new hr0)) (by rw [upd_same, ecut2])
end
end Wp
/-! _law_names. -/
namespace Wp
open PySem PySem.Spec PyProof.Rows L2
section
variable {X : Cx} {st : Stmt} {rest : List Stmt} {t u : TS}
/-- the ways through a statement are joined behind it -/
def tCutW (t u : TS) : TS := fun D σ H => ∃ Mid : L2.St → Hp → Prop, t { D with nx := Mid } σ H ∧ ∀ σ' H', Mid σ' H' → u D σ' H'
theorem pss_cutW (h1 : PS X st t) (h2 : PSs X rest u) : PSs X (st :: rest) (tCutW t u) := by
  refine ⟨fun pins s σ H D I h => ?_⟩
  obtain ⟨Mid, ht, hu⟩ := h
  refine wpAny_execs_cons (thn (h1.run pins s σ H { D with nx := Mid } I ht) fun f s1 q => ?_)
  cases f with
  | next =>
    obtain ⟨σ', H', I', q⟩ := q
    exact h2.run pins s1 σ' H' D I' (hu σ' H' q)
  | ret v => exact q
  | brk => exact q
  | cont => exact q
end
/-! ### texts by their codes -/
def cds (x : Str) : List Nat := x.cps.toList
theorem cds_len (x : Str) : x.length = (cds x).length := (Array.length_toList).symm
theorem cds_app (x y : Str) : cds (x ++ y) = cds x ++ cds y := by
  show (x.cps ++ y.cps).toList = _
  rw [Array.toList_append]
  rfl
def sgn (c : Nat) : Str := ⟨#[c]⟩
theorem cds_sgn (c : Nat) : cds (sgn c) = [c] := rfl
theorem cds_join : ∀ cs : List Nat, cds (Txt.join "" (cs.map sgn)) = cs := by
  intro cs
  rw [TL.join_eq]
  induction cs with
  | nil => rfl
  | cons c cs ih =>
    cases cs with
    | nil => rfl
    | cons d cs =>
      show cds (sgn c ++ "" ++ Str.join "" ((d :: cs).map sgn)) = _
      rw [cds_app, cds_app, ih]
      rfl
def AllL (x : Str) : Prop := ∀ d ∈ cds x, LetC d
theorem cut_hi (x : Str) (n : Nat) (h : n ≤ (cds x).length) : cds (cutS x none (some (n : Int))) = (cds x).take n := by
  unfold cutS
  rw [HT.sIx_none, HT.sIx_nat, Nat.min_eq_left (by rw [cds_len]; exact h)]
  rfl
theorem cut_lo (x : Str) (n : Nat) (h : n ≤ (cds x).length) : cds (cutS x (some (n : Int)) none) = (cds x).drop n := by
  unfold cutS
  rw [HT.sIx_none, HT.sIx_nat, Nat.min_eq_left (by rw [cds_len]; exact h)]
  show ((cds x).drop n).take (x.length - n) = _
  rw [cds_len]
  exact List.take_of_length_le (by rw [List.length_drop]; exact Nat.le_refl _)
theorem letter_at (i : Int) (h0 : 0 ≤ i) (h1 : i < 36) : ∃ c, atI letters.cps.toList i = some c ∧ LetC c ∧ (i < 26 → c = 97 + i.toNat) := by
  have key : ∀ j : Fin 36, letters.cps.toList[j.val]? = some (if j.val < 26 then 97 + j.val else 48 + (j.val - 26)) := by decide +kernel
  obtain ⟨n, rfl⟩ := Int.eq_ofNat_of_zero_le h0
  have hn : n < 36 := by omega
  refine ⟨_, atI_nat (key ⟨n, hn⟩), ?_, fun h => ?_⟩
  · show LetC (if n < 26 then 97 + n else 48 + (n - 26))
    unfold LetC
    split <;> omega
  · show (if n < 26 then 97 + n else 48 + (n - 26)) = _
    rw [if_pos (by omega)]
    rfl
theorem letters_line : letters.length ≤ sizeLine := by
  have : letters.length = 36 := by decide +kernel
  rw [this]
  decide
section
variable {P : Program} {w : World} {K : PySem.W.Frag} {mg : Str → Option Value} {base : Heap} {a : Ad}
def sp_names : Sp := fun vs H Q _ => ∃ (n m : Int), vs = [.int n, .int m] ∧ 0 ≤ m ∧ m ≤ 9 ∧ ∀ (ys : List Str) p H', (ys.length : Int) = m → ys.Nodup → (∀ y ∈ ys, GoodName y) → H p = none → Same H H' → H' p = some (.lst (ys.map V.str)) → Q (.ref p) H'
/-- the first code of the j-th name -/
def fst1 (n : Int) (j : Nat) : Nat := 97 + ((n + 3 * (j : Int)) % 26).toNat
theorem names_nodup {n : Int} {ys : List Str} (hl : ys.length ≤ 9) (h : ∀ (j : Nat) y, ys[j]? = some y → ∃ r, cds y = fst1 n j :: r) : ys.Nodup := by
  refine List.pairwise_iff_getElem.mpr fun i j hi hj hij e => ?_
  have h1 : ys[i]? = some ys[i] := List.getElem?_eq_getElem hi
  have h2 : ys[j]? = some ys[j] := List.getElem?_eq_getElem hj
  obtain ⟨r, hr⟩ := h i _ h1
  obtain ⟨r', hr'⟩ := h j _ h2
  rw [e, hr'] at hr
  have := (List.cons.inj hr).1
  unfold fst1 at this
  have a1 := Int.emod_nonneg (n + 3 * (i : Int)) (show (26 : Int) ≠ 0 by decide)
  have a2 := Int.emod_nonneg (n + 3 * (j : Int)) (show (26 : Int) ≠ 0 by decide)
  have e1 := Int.mul_ediv_add_emod (n + 3 * (i : Int)) 26
  have e2 := Int.mul_ediv_add_emod (n + 3 * (j : Int)) 26
  omega
theorem ok_names (T : Txt K mg a) : FnOk P w K mg base CX0 1 a.f_l_names a.d_l_names ["_law_number", "_law_many"] sp_names := by
  refine T.l_names.fn.ok sc_l_names (fun vs H Q E h => ?_) (fun cdv A outer s H vs Q E hr h => ?_)
  · obtain ⟨n, m, rfl, _⟩ := h
    rfl
  · obtain ⟨n, m, rfl, h0, h1, k⟩ := h
    have nd := sc_l_names.nd
    refine ⟨_, pss_cons (ps_set (i := 2) nd rfl (Or.inr rfl) pe_str)
      <| pss_cons (ps_set (i := 3) nd rfl (Or.inl rfl) (pe_op op_mod (pe_callTy call_int1 (by rfl) T.z_int (by decide +kernel) (pa_cons (pv 0) pa_nil)) pe_int))
      <| pss_cons (ps_set (i := 5) nd rfl (Or.inl rfl) (pe_join pe_str (pe_lc (own := [("_law_k", 4)]) (g := gName 4) (tt := tYes) rfl nd (pi_range1 rfl T.z_range (pa_cons (pv 3) pa_nil)) (blkOk_by (own := [("_law_k", 4)]) (N := N_l_names) (sc := defScope s_l_names) (by decide +kernel))
          (fun _ _ _ _ _ => pg_name (i := 4) nd rfl (Or.inl rfl)) (fun _ _ _ _ _ => pts_nil)
          (fun _ _ _ _ _ => pe_ix ix_str (pv 2) (pe_op op_mod (pe_callTy call_int1 (by rfl) T.z_int (by decide +kernel) (pa_cons (pe_op op_add (pv 0) (pe_op op_mul (pe_op op_mul pe_int (pv 4)) (pv 4))) pa_nil)) pe_int) (fun _ _ => rfl)))))
      <| pss_cons (ps_set (i := 6) nd rfl (Or.inl rfl) (pe_op op_mod (pe_callTy call_int1 (by rfl) T.z_int (by decide +kernel) (pa_cons (pe_op op_fdiv (pv 0) pe_int) pa_nil)) (pe_op op_add (pv 3) pe_int)))
      <| pss_cons (ps_set (i := 7) nd rfl (Or.inl rfl) (pe_lst pa_nil))
      <| pss_cons (ps_for PassesOwn.never rfl (pi_range1 rfl T.z_range (pa_cons (pv 1) pa_nil)) (pg_name (i := 4) nd rfl (Or.inl rfl))
        (pss_cons (ps_set (i := 8) nd rfl (Or.inl rfl) (pv 5))
        <| pss_cutW (ps_if (pt_cmpR op_eq (pe_op op_mod (pe_callTy call_int1 (by rfl) T.z_int (by decide +kernel) (pa_cons (pe_op op_add (pe_op op_fdiv (pv 0) pe_int) (pv 4)) pa_nil)) pe_int) pe_int (nomark _))
            (pss_one (ps_set (i := 8) nd rfl (Or.inl rfl) (pe_slice sl_str (pv 5) (po_some pe_int) po_none))) pss_nil)
        <| pss_cons (ps_set (i := 9) nd rfl (Or.inl rfl) (pe_callB (call_min2 rfl) (by rfl) T.z_min (by decide +kernel) (pa_cons (pv 6) (pa_cons (pe_callB call_len_str (by rfl) T.z_len PySem.boot_len (pa_cons (pv 8) pa_nil)) pa_nil))))
        <| pss_cons (ps_set (i := 10) nd rfl (Or.inl rfl) pe_int)
        <| pss_cutW (ps_if (pt_cmpR op_eq (pe_op op_mod (pe_callTy call_int1 (by rfl) T.z_int (by decide +kernel) (pa_cons (pe_op op_fdiv (pv 0) pe_int) pa_nil)) pe_int) pe_int (nomark _))
            (pss_one (ps_set (i := 10) nd rfl (Or.inl rfl) pe_int)) pss_nil)
        <| pss_one (ps_expr (pe_bm PySem.F.plainAttrs_list PySem.F.slot_list_append PySem.F.type_list_append mt_append (pv 7) (pa_cons
            (pe_op op_add_str (pe_op op_add_str (pe_op op_add_str
                (pe_ix ix_str (pv 2) (pe_op op_mod (pe_callTy call_int1 (by rfl) T.z_int (by decide +kernel) (pa_cons (pe_op op_add (pv 0) (pe_op op_mul pe_int (pv 4))) pa_nil)) pe_int) (fun _ _ => rfl))
                (pe_slice sl_str (pv 8) po_none (po_some (pv 9))))
                (pe_ix ix_str (pv 2) (pe_op op_mod (pe_callTy call_int1 (by rfl) T.z_int (by decide +kernel) (pa_cons (pe_op op_add (pv 0) (pe_op op_mul (pv 10) (pv 4))) pa_nil)) pe_int) (fun _ _ => rfl)))
                (pe_slice sl_str (pv 8) (po_some (pv 9)) po_none)) pa_nil)))))
      <| pss_one (ps_ret (pv 7)), ?_⟩
    -- size
    refine ⟨_, rfl, .inl ⟨_, rfl, _, _, rfl, rfl, (by show (0 : Int) < 11; decide), ?_⟩⟩
    have z0 : 0 ≤ n % 11 := Int.emod_nonneg _ (by decide)
    have z1 : n % 11 < 11 := Int.emod_lt_of_pos _ (by decide)
    -- rest
    refine ⟨⟨_, rfl⟩, _, rfl, n % 11, rfl, by omega, by omega, fun D hD => ?_⟩
    refine lc_it walk_range (fun i H' => Same H H' ∧ ∃ cs : List Nat, H' D = some (.lst ((cs.map sgn).map V.str)) ∧ cs.length = i ∧ ∀ c ∈ cs, LetC c) ⟨same_new hD, [], upd_same, rfl, fun _ h => by cases h⟩ (fun _ _ _ _ => trivial) ?_ ?_
    · rintro i x H1 H2 hi ⟨sm, cs, hd, hcl, hcs⟩ ⟨rfl, rfl⟩
      have e0 := Int.emod_nonneg (n + 7 * (0 + (i : Int)) * (0 + (i : Int))) (show (36 : Int) ≠ 0 by decide)
      have e1 := Int.emod_lt_of_pos (n + 7 * (0 + (i : Int)) * (0 + (i : Int))) (show (0 : Int) < 36 by decide)
      obtain ⟨c, hc, hcl2, _⟩ := letter_at _ e0 e1
      refine ⟨rfl, _, rfl, _, rfl, _, rfl, _, _, rfl, rfl, .inl (by decide), _, rfl, _, _, rfl, rfl, .inr ⟨by omega, by omega⟩, _, _, rfl, rfl, .inl ⟨_, rfl, _, _, rfl, rfl, (by show (0 : Int) < 36; decide), ?_⟩⟩
      refine ⟨letters, _, c, rfl, rfl, letters_line, hc, _, hd, ?_, same_upd_new sm hD, cs ++ [c], ?_, ?_, ?_⟩
      · rw [List.length_map, List.length_map]
        exact line10k (by omega)
      · rw [upd_same, List.map_append, List.map_append]
        rfl
      · rw [List.length_append, hcl]
        rfl
      · intro d hd
        rcases List.mem_append.mp hd with hd | hd
        · exact hcs d hd
        · rw [List.mem_singleton.mp hd]
          exact hcl2
    rintro H1 ⟨s1, cs, hd1, hcl, hcs⟩
    have hcl10 : cs.length ≤ 10 := by omega
    refine ⟨_, D, cs.map sgn, rfl, rfl, .inl (SqL.of hd1), ?_, ?_⟩
    · have : ∀ cs : List Nat, ((cs.map sgn).map (·.length)).sum = cs.length := by
        intro cs
        induction cs with
        | nil => rfl
        | cons c cs ih =>
          rw [List.map_cons, List.map_cons, List.sum_cons, ih, List.length_cons]
          show 1 + cs.length = _
          omega
      rw [this, List.length_map]
      show cs.length + cs.length * 0 ≤ _
      omega
    have hrest : cds (Txt.join "" (cs.map sgn)) = cs := cds_join cs
    have hrA : AllL (Txt.join "" (cs.map sgn)) := by
      unfold AllL
      rw [hrest]
      exact hcs
    have hrL : (cds (Txt.join "" (cs.map sgn))).length ≤ 10 := by rw [hrest]; exact hcl10
    generalize hR : Txt.join "" (cs.map sgn) = R at hrA hrL
    -- place
    refine ⟨_, rfl, _, _, rfl, rfl, ⟨by decide, by decide⟩, .inl ⟨_, rfl, _, rfl, _, _, rfl, rfl, _, _, rfl, rfl, (by show 0 < n % 11 + 1; omega), ?_⟩⟩
    have p0 : 0 ≤ n / 11 % (n % 11 + 1) := Int.emod_nonneg _ (by omega)
    have p1 : n / 11 % (n % 11 + 1) < n % 11 + 1 := Int.emod_lt_of_pos _ (by omega)
    -- the names
    refine ⟨Nat.zero_le _, fun p hp => ?_⟩
    refine ⟨_, rfl, m, rfl, by omega, by omega, ?_⟩
    refine for_it walk_range (fun i σ H' => Same H H' ∧ ∃ v4 v8 v9 v10, ∃ ys : List Str, σ = [some (.int n), some (.int m), some (.str letters), some (.int (n % 11)), v4, some (.str R), some (.int (n / 11 % (n % 11 + 1))), some (.ref p), v8, v9, v10] ∧ ys.length = i ∧
        (∀ y ∈ ys, GoodName y) ∧ (∀ (j : Nat) y, ys[j]? = some y → ∃ r, cds y = fst1 n j :: r) ∧ H' p = some (.lst (ys.map V.str)))
      ⟨s1.trans (same_new hp), none, none, none, none, [], by rw [← hR]; rfl, rfl, (fun _ h => by cases h), (fun j y h => by simp at h), upd_same⟩ (fun _ _ _ _ _ => trivial) ?_ ?_
    · rintro i x σ H2 H3 hi ⟨sm, v4, v8, v9, v10, ys, rfl, hyl, hyg, hyf, hd⟩ ⟨rfl, rfl⟩
      refine ⟨_, rfl, ?_⟩
      -- own
      refine ⟨fun σ' H' => H' = H3 ∧ ∃ own, σ' = [some (.int n), some (.int m), some (.str letters), some (.int (n % 11)), some (.int (0 + (i : Int))), some (.str R), some (.int (n / 11 % (n % 11 + 1))), some (.ref p), some (.str own), v9, v10] ∧ AllL own ∧ (cds own).length ≤ 10, ?_, ?_⟩
      · refine ⟨_, rfl, _, _, rfl, rfl, ⟨by decide, by decide⟩, _, rfl, _, _, rfl, rfl, .inl ⟨_, rfl, _, _, rfl, rfl, (by show (0 : Int) < 3; decide), rfl, _, rfl, ite2 (fun _ => ?_) (fun _ => ?_)⟩⟩
        · refine ⟨_, rfl, 1, rfl, R, rfl, by rw [cds_len]; exact Nat.le_trans hrL (by decide), rfl, _, rfl, ?_, ?_⟩
          · by_cases hz : 1 ≤ (cds R).length
            · have := cut_lo R 1 hz
              intro d hd
              rw [show (some (1 : Int)) = some (((1 : Nat) : Int)) from rfl, this] at hd
              exact hrA d (List.mem_of_mem_drop hd)
            · intro d hd
              have := cutS_length R (some 1) none
              rw [cds_len, cds_len] at this
              have e : cds (cutS R (some 1) none) = [] := List.length_eq_zero_iff.mp (by omega)
              rw [e] at hd
              cases hd
          · have := cutS_length R (some 1) none
            rw [cds_len, cds_len] at this
            omega
        · exact ⟨rfl, R, rfl, hrA, hrL⟩
      rintro σ' H' ⟨rfl, own, rfl, hoA, hoL⟩
      -- spot
      refine ⟨_, rfl, _, rfl, own, rfl, by rw [cds_len]; exact Nat.le_trans hoL (by decide), _, _, rfl, ?_⟩
      obtain ⟨sp, hsp, hspl⟩ : ∃ sp : Nat, (if ((own.length : Nat) : Int) < n / 11 % (n % 11 + 1) then ((own.length : Nat) : Int) else n / 11 % (n % 11 + 1)) = (sp : Int) ∧ sp ≤ (cds own).length := by
        rw [cds_len]
        split
        · exact ⟨(cds own).length, rfl, Nat.le_refl _⟩
        · exact ⟨(n / 11 % (n % 11 + 1)).toNat, by omega, by omega⟩
      -- step
      refine ⟨fun σ' H2 => H2 = H' ∧ ∃ step : Int, σ' = [some (.int n), some (.int m), some (.str letters), some (.int (n % 11)), some (.int (0 + (i : Int))), some (.str R), some (.int (n / 11 % (n % 11 + 1))), some (.ref p), some (.str own), some (.int (sp : Int)), some (.int step)] ∧ -100 < step ∧ step < 100, ?_, ?_⟩
      · refine ⟨_, rfl, _, _, rfl, rfl, ⟨by decide, by decide⟩, .inl ⟨_, rfl, _, _, rfl, rfl, (by show (0 : Int) < 2; decide), rfl, _, rfl, ite2 (fun _ => ?_) (fun _ => ?_)⟩⟩
        · exact ⟨rfl, 31, by rw [← hsp]; rfl, by decide, by decide⟩
        · exact ⟨rfl, 5, by rw [← hsp]; rfl, by decide, by decide⟩
      rintro σ' H2 ⟨rfl, step, rfl, hs0, hs1⟩
      have a0 := Int.emod_nonneg (n + 3 * (0 + (i : Int))) (show (26 : Int) ≠ 0 by decide)
      have a1 := Int.emod_lt_of_pos (n + 3 * (0 + (i : Int))) (show (0 : Int) < 26 by decide)
      obtain ⟨c1, hc1, hL1, hf1⟩ := letter_at _ a0 (by omega)
      have b0 := Int.emod_nonneg (n + step * (0 + (i : Int))) (show (36 : Int) ≠ 0 by decide)
      have b1 := Int.emod_lt_of_pos (n + step * (0 + (i : Int))) (show (0 : Int) < 36 by decide)
      obtain ⟨c2, hc2, hL2, _⟩ := letter_at _ b0 b1
      have hf := hf1 a1
      have ln : ∀ {n : Nat}, n ≤ 100 → n ≤ sizeLine := fun h => Nat.le_trans h (by decide)
      have k1 := cut_hi own sp hspl
      have k2 := cut_lo own sp hspl
      have q1 : cds (sgn c1 ++ cutS own none (some (sp : Int))) = c1 :: (cds own).take sp := by rw [cds_app, k1]; rfl
      have q2 : cds (sgn c1 ++ cutS own none (some (sp : Int)) ++ sgn c2) = c1 :: (cds own).take sp ++ [c2] := by rw [cds_app, q1]; rfl
      have q3 : cds (sgn c1 ++ cutS own none (some (sp : Int)) ++ sgn c2 ++ cutS own (some (sp : Int)) none) = c1 :: ((cds own).take sp ++ c2 :: (cds own).drop sp) := by
        rw [cds_app, q2, k2]
        simp
      have t1 : ((cds own).take sp).length ≤ 10 := by rw [List.length_take]; omega
      have t2 : ((cds own).drop sp).length ≤ 10 := by rw [List.length_drop]; omega
      refine ⟨_, rfl, .inl ⟨rfl, _, SqL.of hd⟩, ?_⟩
      refine ⟨_, rfl, _, rfl, _, rfl, _, _, rfl, rfl, .inl (by decide), _, _, rfl, rfl, .inl ⟨_, rfl, _, _, rfl, rfl, (by show (0 : Int) < 26; decide), letters, _, c1, rfl, rfl, letters_line, hc1, ?_⟩⟩
      refine ⟨_, rfl, _, rfl, _, rfl, own, rfl, by rw [cds_len]; exact ln (by omega), _, _, rfl, rfl, ?_, ?_⟩
      · show (sgn c1).length + _ ≤ _
        rw [cds_len, cds_len, k1]
        exact ln (by show 1 + _ ≤ 100; omega)
      refine ⟨_, rfl, _, rfl, _, rfl, _, rfl, _, _, rfl, rfl, .inl ⟨by omega, by omega⟩, _, _, rfl, rfl, .inl ⟨_, rfl, _, _, rfl, rfl, (by show (0 : Int) < 36; decide), letters, _, c2, rfl, rfl, letters_line, hc2, _, _, rfl, rfl, ?_, ?_⟩⟩
      · show (sgn c1 ++ cutS own none (some (sp : Int))).length + (sgn c2).length ≤ _
        rw [cds_len, cds_len, q1]
        exact ln (by rw [List.length_cons]; show _ + 1 ≤ 100; omega)
      refine ⟨_, rfl, _, rfl, _, rfl, own, rfl, by rw [cds_len]; exact ln (by omega), _, _, rfl, rfl, ?_, ?_⟩
      · show (sgn c1 ++ cutS own none (some (sp : Int)) ++ sgn c2).length + _ ≤ _
        rw [cds_len, cds_len, q2, k2]
        exact ln (by rw [List.length_append, List.length_cons, List.length_singleton]; omega)
      refine ⟨p, _, _, rfl, rfl, hd, ?_, ?_⟩
      · rw [List.length_map]
        exact line10k (by omega)
      refine ⟨same_upd_new sm (s1.free hp), _, _, _, _, ys ++ [_], rfl, ?_, ?_, ?_, by rw [upd_same, List.map_append]; rfl⟩
      · rw [List.length_append, hyl]
        rfl
      · intro y hy
        rcases List.mem_append.mp hy with hy | hy
        · exact hyg y hy
        · rw [List.mem_singleton.mp hy]
          refine ⟨c1, _, q3, ?_, ?_, ?_, ?_⟩
          · omega
          · omega
          · rw [List.length_append, List.length_cons, List.length_take, List.length_drop]
            omega
          · intro d hd
            rcases List.mem_append.mp hd with hd | hd
            · exact hoA d (List.mem_of_mem_take hd)
            · rcases List.mem_cons.mp hd with rfl | hd
              · exact hL2
              · exact hoA d (List.mem_of_mem_drop hd)
      · intro j y hy
        by_cases hj : j < ys.length
        · rw [List.getElem?_append_left hj] at hy
          exact hyf j y hy
        · rw [List.getElem?_append_right (by omega)] at hy
          have hj2 : j = i := by
            have := (List.getElem?_eq_some_iff.mp hy).1
            rw [List.length_singleton] at this
            omega
          subst hj2
          rw [hyl, Nat.sub_self] at hy
          obtain rfl := Option.some.inj hy
          refine ⟨(cds own).take sp ++ c2 :: (cds own).drop sp, q3.trans ?_⟩
          rw [hf]
          unfold fst1
          rw [Int.zero_add]
    · rintro σ H2 ⟨sm, v4, v8, v9, v10, ys, rfl, hyl, hyg, hyf, hd⟩
      exact ⟨_, rfl, k ys p _ (by omega) (names_nodup (by omega) hyf) hyg (s1.free hp) sm hd⟩
end
end Wp
/-! _law_some, _law_hours. -/
namespace Wp
open PySem PySem.Spec PyProof.Rows L2
/-- a number of the list -/
theorem num_at {ns : List Int} {z : Int} (h0 : 0 ≤ z) (h1 : z < (ns.length : Nat)) : ∃ x, atI (ns.map V.int) z = some (.int x) ∧ x ∈ ns := by
  obtain ⟨j, rfl⟩ := Int.eq_ofNat_of_zero_le h0
  have hj : j < ns.length := by omega
  refine ⟨ns[j], at_of rfl ?_, List.getElem_mem hj⟩
  rw [List.getElem?_map, List.getElem?_eq_getElem hj]
  rfl
/-- a text of the list -/
theorem txt_at {xs : List Str} {z : Int} (h0 : 0 ≤ z) (h1 : z < (xs.length : Nat)) : ∃ x, atI (xs.map V.str) z = some (.str x) ∧ xs[z.toNat]? = some x := by
  obtain ⟨j, rfl⟩ := Int.eq_ofNat_of_zero_le h0
  have hj : j < xs.length := by omega
  refine ⟨xs[j], at_of rfl ?_, ?_⟩
  · rw [List.getElem?_map, List.getElem?_eq_getElem hj]
    rfl
  · rw [Int.toNat_natCast]
    exact List.getElem?_eq_getElem hj
theorem asc_snoc {day : Int} {q : Int × Int} {last : Int} : ∀ {ps : List (Int × Int)} {b : Int}, Asc day b ps → (∀ p ∈ ps, p.2 ≤ last) → b ≤ last → last < q.1 → q.1 < q.2 → q.2 ≤ day → Asc day b (ps ++ [q])
  | [], b, _, _, h2, h3, h4, h5 => ⟨by omega, h4, h5, trivial⟩
  | p :: ps, b, ⟨a1, a2, a3, a4⟩, h1, h2, h3, h4, h5 => ⟨a1, a2, a3, asc_snoc a4 (fun x hx => h1 x (List.mem_cons_of_mem _ hx)) (h1 p (List.mem_cons_self ..)) h3 h4 h5⟩
section
variable {P : Program} {w : World} {K : PySem.W.Frag} {mg : Str → Option Value} {base : Heap} {a : Ad}
def sp_some : Sp := fun vs H Q _ => ∃ (n : Int) (l : Addr) (xs : List Str), vs = [.int n, .ref l] ∧ H l = some (.lst (xs.map V.str)) ∧ xs.length ≤ 100 ∧ ∀ (ys : List Str) p H', ys.Sublist xs → Same H H' → H' p = some (.tup (ys.map V.str)) → Q (.ref p) H'
theorem ok_some (T : Txt K mg a) : FnOk P w K mg base CX0 1 a.f_l_some a.d_l_some ["_law_number", "_law_rights"] sp_some := by
  refine T.l_some.fn.ok sc_l_some (fun vs H Q E h => ?_) (fun cdv A outer s H vs Q E hr h => ?_)
  · obtain ⟨n, l, xs, rfl, _⟩ := h
    rfl
  · obtain ⟨n, l, xs, rfl, hl, hx, k⟩ := h
    have nd := sc_l_some.nd
    refine ⟨_, pss_cons (ps_set (i := 2) nd rfl (Or.inl rfl) (pe_lst pa_nil))
      <| pss_cons (ps_set (i := 3) nd rfl (Or.inl rfl) (pv 0))
      <| pss_cons (ps_for PassesOwn.never rfl (pi_list (pv 1)) (pg_name (i := 4) nd rfl (Or.inl rfl))
        (pss_cutW (ps_if (pt_cmpR op_eq (pe_op op_mod (pe_callTy call_int1 (by rfl) T.z_int (by decide +kernel) (pa_cons (pv 3) pa_nil)) pe_int) pe_int (nomark _))
            (pss_one (ps_expr (pe_bm PySem.F.plainAttrs_list PySem.F.slot_list_append PySem.F.type_list_append mt_append (pv 2) (pa_cons (pv 4) pa_nil)))) pss_nil)
        <| pss_one (ps_set (i := 3) nd rfl (Or.inl rfl) (pe_op op_fdiv (pv 3) pe_int))))
      <| pss_one (ps_ret (pe_callTy call_tuple_of (by rfl) T.z_tuple (by decide +kernel) (pa_cons (pv 2) pa_nil))), ?_⟩
    refine ⟨Nat.zero_le _, fun p hp => ?_⟩
    have s1 : Same H (upd H p (.lst [])) := same_new hp
    refine ⟨_, rfl, _, rfl, l, rfl, ⟨_, SqL.of (s1 _ _ hl)⟩, ?_⟩
    refine for_it (walk_list (K := K) (a := l) (xs := xs.map V.str)) (fun i σ H' => Same H H' ∧ ∃ r v4, ∃ ys : List Str, σ = [some (.int n), some (.ref l), some (.ref p), some (.int r), v4] ∧ ys.Sublist (xs.take i) ∧ H' p = some (.lst (ys.map V.str)))
      ⟨s1, n, none, [], rfl, List.nil_sublist _, upd_same⟩ (fun i σ H' _ h => h.1.seq (SqL.of hl)) ?_ ?_
    · rintro i x σ H1 H2 hi ⟨sm, r, v4, ys, rfl, hys, hd⟩ ⟨rfl, hx1⟩
      rw [List.length_map] at hi
      obtain ⟨y, rfl, hy⟩ : ∃ y, V.str y = x ∧ xs[i]? = some y := by
        rw [List.getElem?_map] at hx1
        cases q : xs[i]? with
        | none => rw [q] at hx1; cases hx1
        | some y => rw [q] at hx1; exact ⟨y, Option.some.inj hx1, rfl⟩
      have et : xs.take (i + 1) = xs.take i ++ [y] := by rw [List.take_add_one, hy]; rfl
      refine ⟨fun σ' H' => Same H H' ∧ ∃ ys : List Str, σ' = [some (.int n), some (.ref l), some (.ref p), some (.int r), some (.str y)] ∧ ys.Sublist (xs.take (i + 1)) ∧ H' p = some (.lst (ys.map V.str)), ?_, ?_⟩
      · refine ⟨_, rfl, .inl ⟨_, rfl, _, _, rfl, rfl, (by show (0 : Int) < 2; decide), rfl, _, rfl, ite2 (fun _ => ?_) (fun _ => ?_)⟩⟩
        · refine ⟨_, rfl, .inl ⟨rfl, _, SqL.of hd⟩, _, rfl, p, _, _, rfl, rfl, hd, ?_, ?_⟩
          · rw [List.length_map]
            have := hys.length_le
            rw [List.length_take] at this
            exact line10k (by omega)
          · refine ⟨same_upd_new sm hp, ys ++ [y], rfl, ?_, by rw [upd_same, List.map_append]; rfl⟩
            rw [et]
            exact hys.append (List.Sublist.refl _)
        · refine ⟨sm, ys, rfl, ?_, hd⟩
          rw [et]
          exact hys.trans (List.sublist_append_left _ _)
      · rintro σ' H' ⟨s', ys', rfl, hys', hd'⟩
        refine ⟨_, rfl, _, _, rfl, rfl, ⟨by decide, by decide⟩, ?_⟩
        exact ⟨s', _, _, ys', rfl, hys', hd'⟩
    · rintro σ H1 ⟨sm, r, v4, ys, rfl, hys, hd⟩
      rw [List.length_map, List.take_length] at hys
      exact ⟨_, rfl, p, _, rfl, .inl ⟨SqL.of hd, fun t ht => k ys t _ hys (sm.trans (same_new ht)) upd_same⟩⟩

/-! ### _law_hours -/
def sp_hours : Sp := fun vs H Q _ => ∃ (l : Addr) (ns : List Int) (z day : Int), vs = [.ref l, .int z, .int day] ∧ H l = some (.lst (ns.map V.int)) ∧ 0 ≤ z ∧ z + 8 ≤ (ns.length : Nat) ∧ 1 ≤ day ∧ ∀ v hs H', HoursOk day hs → Same H H' → HoursAt H' v hs → Q v H'
theorem ok_hours (T : Txt K mg a) : FnOk P w K mg base CX0 1 a.f_l_hours a.d_l_hours ["_law_numbers_here", "_law_at", "_law_day"] sp_hours := by
  refine T.l_hours.fn.ok sc_l_hours (fun vs H Q E h => ?_) (fun cdv A outer s H vs Q E hr h => ?_)
  · obtain ⟨l, ns, z, day, rfl, _⟩ := h
    rfl
  · obtain ⟨l, ns, z, day, rfl, hl, hz0, hz1, hday, k⟩ := h
    have nd := sc_l_hours.nd
    refine ⟨_, pss_cons (ps_set (i := 3) nd rfl (Or.inl rfl) (pe_op op_mod (pe_callTy call_int1 (by rfl) T.z_int (by decide +kernel) (pa_cons (pe_ix ix_list (pv 0) (pv 1) (fun _ _ => rfl)) pa_nil)) pe_int))
      <| pss_cons (ps_if (pt_cmpR op_lt (pv 3) pe_int (nomark _)) (pss_one (ps_ret pe_non)) pss_nil)
      <| pss_cons (ps_if (pt_cmpR op_eq (pv 3) pe_int (nomark _)) (pss_one (ps_ret (pe_tup pa_nil))) pss_nil)
      <| pss_cons (ps_set (i := 4) nd rfl (Or.inl rfl) (pe_lst pa_nil))
      <| pss_cons (ps_set (i := 5) nd rfl (Or.inl rfl) (pe_un un_neg pe_int))
      <| pss_cons (ps_for PassesOwn.never rfl (pi_range1 rfl T.z_range (pa_cons (pe_op op_add pe_int (pe_op op_mod (pe_callTy call_int1 (by rfl) T.z_int (by decide +kernel) (pa_cons (pe_ix ix_list (pv 0) (pe_op op_add (pv 1) pe_int) (fun _ _ => rfl)) pa_nil)) pe_int)) pa_nil)) (pg_name (i := 6) nd rfl (Or.inl rfl))
        (pss_cons (ps_set (i := 7) nd rfl (Or.inl rfl) (pe_op op_add (pe_op op_add (pv 5) pe_int) (pe_op op_mod (pe_callTy call_int1 (by rfl) T.z_int (by decide +kernel) (pa_cons (pe_op op_fdiv (pe_ix ix_list (pv 0) (pe_op op_add (pe_op op_add (pv 1) pe_int) (pv 6)) (fun _ _ => rfl)) pe_int) pa_nil)) (pe_op op_add pe_int (pe_op op_fdiv (pv 2) pe_int)))))
        <| pss_cons (ps_set (i := 8) nd rfl (Or.inl rfl) (pe_op op_add (pe_op op_add (pv 7) pe_int) (pe_op op_mod (pe_callTy call_int1 (by rfl) T.z_int (by decide +kernel) (pa_cons (pe_ix ix_list (pv 0) (pe_op op_add (pe_op op_add (pv 1) pe_int) (pv 6)) (fun _ _ => rfl)) pa_nil)) (pe_op op_add pe_int (pe_op op_fdiv (pv 2) pe_int)))))
        <| pss_one (ps_if (pt_cmpR op_le (pv 8) (pv 2) (nomark _))
            (pss_cons (ps_expr (pe_bm PySem.F.plainAttrs_list PySem.F.slot_list_append PySem.F.type_list_append mt_append (pv 4) (pa_cons (pe_tup (pa_cons (pv 7) (pa_cons (pv 8) pa_nil))) pa_nil)))
            <| pss_one (ps_set (i := 5) nd rfl (Or.inl rfl) (pv 8))) pss_nil)))
      <| pss_one (ps_ret (pe_callTy call_tuple_of (by rfl) T.z_tuple (by decide +kernel) (pa_cons (pv 4) pa_nil))), ?_⟩
    obtain ⟨x0, e0, _⟩ := num_at (ns := ns) hz0 (by omega)
    refine ⟨_, rfl, _, rfl, l, _, z, _, rfl, rfl, SqL.of hl, e0, .inl ⟨_, rfl, _, _, rfl, rfl, (by show (0 : Int) < 8; decide), ?_⟩⟩
    refine ⟨_, rfl, _, _, rfl, rfl, _, rfl, ite2 (fun _ => ?_) (fun _ => ?_)⟩
    · exact k .non none H trivial (Same.refl H) rfl
    refine ⟨_, rfl, rfl, _, rfl, ite2 (fun _ => ?_) (fun _ => ?_)⟩
    · refine ⟨Nat.zero_le _, fun q hq => ?_⟩
      exact k (.ref q) (some []) _ ⟨Nat.zero_le _, trivial⟩ (same_new hq) ⟨q, [], rfl, upd_same, .nil⟩
    refine ⟨Nat.zero_le _, fun p hp => ?_⟩
    have s1 : Same H (upd H p (.lst [])) := same_new hp
    refine ⟨1, rfl, ?_⟩
    obtain ⟨x1, e1, _⟩ := num_at (ns := ns) (z := z + 1) (by omega) (by omega)
    have m0 := Int.emod_nonneg x1 (show (3 : Int) ≠ 0 by decide)
    have m1 := Int.emod_lt_of_pos x1 (show (0 : Int) < 3 by decide)
    refine ⟨_, rfl, _, rfl, _, _, rfl, rfl, l, _, z + 1, _, rfl, rfl, SqL.of (s1 _ _ hl), e1, .inl ⟨_, rfl, _, _, rfl, rfl, (by show (0 : Int) < 3; decide), _, _, rfl, rfl, _, rfl, by omega, by omega, ?_⟩⟩
    have d4 : 0 ≤ day / 4 := Int.ediv_nonneg (by omega) (by decide)
    have d3 : 0 ≤ day / 3 := Int.ediv_nonneg (by omega) (by decide)
    refine for_it walk_range (fun i σ H' => Same H H' ∧ ∃ kd last v6 v7 v8, ∃ ps : List (Int × Int), ∃ pvs, σ = [some (.ref l), some (.int z), some (.int day), some kd, some (.ref p), some (.int last), v6, v7, v8] ∧ ps.length ≤ i ∧ Asc day (-1) ps ∧ (∀ q ∈ ps, q.2 ≤ last) ∧ -1 ≤ last ∧ Paired (PairAt H') pvs ps ∧ H' p = some (.lst pvs))
      ⟨s1, _, -1, none, none, none, [], [], rfl, Nat.zero_le _, trivial, (fun _ h => by cases h), by decide, .nil, upd_same⟩ (fun _ _ _ _ _ => trivial) ?_ ?_
    · rintro i x σ H1 H2 hi ⟨sm, kd, last, v6, v7, v8, ps, pvs, rfl, hpl, hasc, hle, hlast, hpv, hd⟩ ⟨rfl, rfl⟩
      obtain ⟨x2, e2, _⟩ := num_at (ns := ns) (z := z + 2 + (0 + (i : Int))) (by omega) (by omega)
      have hl2 := SqL.of (K := K) (sm _ _ hl)
      refine ⟨_, rfl, _, _, rfl, rfl, _, rfl, _, rfl, _, _, rfl, rfl, _, rfl, _, _, rfl, rfl, l, _, _, _, rfl, rfl, hl2, e2, _, _, rfl, rfl, ⟨by decide, by decide⟩, .inl ⟨_, rfl, _, rfl, _, _, rfl, rfl, ⟨by decide, by decide⟩, _, _, rfl, rfl, _, _, rfl, rfl, (by show 0 < 1 + day / 4; omega), _, _, rfl, rfl, ?_⟩⟩
      have o0 : 0 ≤ x2 / 29 % (1 + day / 4) := Int.emod_nonneg _ (by omega)
      have c0 : 0 ≤ x2 % (1 + day / 3) := Int.emod_nonneg _ (by omega)
      refine ⟨_, rfl, _, _, rfl, rfl, _, rfl, _, rfl, _, _, rfl, rfl, _, rfl, _, _, rfl, rfl, l, _, _, _, rfl, rfl, hl2, e2, .inl ⟨_, rfl, _, rfl, _, _, rfl, rfl, ⟨by decide, by decide⟩, _, _, rfl, rfl, _, _, rfl, rfl, (by show 0 < 1 + day / 3; omega), _, _, rfl, rfl, ?_⟩⟩
      refine ⟨_, rfl, _, rfl, _, _, rfl, rfl, _, rfl, ite2 (fun e => ?_) (fun e => ?_)⟩
      · have e := of_decide_eq_true e
        refine ⟨_, rfl, .inl ⟨rfl, _, SqL.of hd⟩, _, rfl, _, rfl, (by show 2 ≤ sizeLine; decide), fun t ht => ?_⟩
        have st := same_new (o := .tup [.int (last + 1 + x2 / 29 % (1 + day / 4)), .int (last + 1 + x2 / 29 % (1 + day / 4) + 1 + x2 % (1 + day / 3))]) ht
        refine ⟨p, _, _, rfl, rfl, st _ _ hd, ?_, ?_⟩
        · have := paired_len hpv
          exact line10k (by omega)
        refine ⟨_, rfl, ?_⟩
        have kp : Keep (upd _ t _) (upd (upd _ t (.tup [.int (last + 1 + x2 / 29 % (1 + day / 4)), .int (last + 1 + x2 / 29 % (1 + day / 4) + 1 + x2 % (1 + day / 3))])) p (.lst (pvs ++ [.ref t]))) := keep_upd (st _ _ hd) rfl
        refine ⟨same_upd_new (sm.trans st) hp, _, _, _, _, _, ps ++ [(last + 1 + x2 / 29 % (1 + day / 4), last + 1 + x2 / 29 % (1 + day / 4) + 1 + x2 % (1 + day / 3))], pvs ++ [.ref t], rfl, ?_, ?_, ?_, ?_, ?_, upd_same⟩
        · rw [List.length_append]
          show ps.length + 1 ≤ i + 1
          omega
        · exact asc_snoc hasc hle hlast (by show last < last + 1 + _; omega) (by show last + 1 + _ < last + 1 + _ + 1 + _; omega) e
        · intro q hq
          rcases List.mem_append.mp hq with hq | hq
          · have := hle q hq
            omega
          · rw [List.mem_singleton.mp hq]
            exact Int.le_refl _
        · omega
        · exact paired_snoc ⟨t, rfl, kp _ _ rfl upd_same⟩ (Paired.mapP hpv fun _ _ z => (z.keep st.keep).keep kp)
      · exact ⟨sm, _, last, _, _, _, ps, pvs, rfl, by omega, hasc, hle, hlast, hpv, hd⟩
    · rintro σ H1 ⟨sm, kd, last, v6, v7, v8, ps, pvs, rfl, hpl, hasc, hle, hlast, hpv, hd⟩
      refine ⟨_, rfl, p, _, rfl, .inl ⟨SqL.of hd, fun t ht => ?_⟩⟩
      have st := same_new (o := .tup pvs) ht
      exact k (.ref t) (some ps) _ ⟨by omega, hasc⟩ (sm.trans st) ⟨t, pvs, rfl, upd_same, Paired.mapP hpv fun _ _ z => z.keep st.keep⟩
end
end Wp
/-! _law_map. -/
namespace Wp
open PySem PySem.Spec PyProof.Rows L2
theorem gets {ns : List Int} (h : ns.length = 140) : ∃ g : Int → Int, ∀ z, 0 ≤ z → z < 140 → atI (ns.map V.int) z = some (.int (g z)) := by
  refine ⟨fun z => ns.getD z.toNat 0, fun z h0 h1 => ?_⟩
  obtain ⟨j, rfl⟩ := Int.eq_ofNat_of_zero_le h0
  have hj : j < ns.length := by omega
  refine at_of rfl ?_
  show _ = some (V.int (ns.getD (Int.toNat (j : Int)) 0))
  rw [List.getElem?_map, List.getElem?_eq_getElem hj, Int.toNat_natCast, List.getD_eq_getElem?_getD, List.getElem?_eq_getElem hj]
  rfl
theorem RoadWf.to {P P' : Parts} {r : Road} (h : RoadWf P r) (h1 : P.day = P'.day) (h2 : P.places = P'.places) (h3 : P.kinds = P'.kinds) : RoadWf P' r :=
  ⟨h.name, h2 ▸ h.start, h2 ▸ h.stop, h.mins, h.kindsN, h3 ▸ h.kinds, h1 ▸ h.hours⟩
theorem nodup_at {l : List Road} (hn : (l.map (·.name)).Nodup) {i j : Nat} {x y : Road} (h1 : l[i]? = some x) (h2 : l[j]? = some y) (e : x.name = y.name) : i = j :=
  nd_ix (x := x.name) hn (by rw [List.getElem?_map, h1]; rfl) (by rw [List.getElem?_map, h2, e]; rfl)
theorem day_at (z : Int) : ∃ d, atI [V.int 30, .int 12, .int 60, .int 1440, .int 7, .int 24, .int 1, .int 100] (z % 8) = some (.int d) ∧ 1 ≤ d ∧ d ≤ 1440 := by
  have a0 := Int.emod_nonneg z (show (8 : Int) ≠ 0 by decide)
  have a1 := Int.emod_lt_of_pos z (show (0 : Int) < 8 by decide)
  generalize z % 8 = y at a0 a1
  obtain ⟨j, rfl⟩ := Int.eq_ofNat_of_zero_le a0
  have hj : j < 8 := by omega
  rcases j with _ | _ | _ | _ | _ | _ | _ | _ | j
  · exact ⟨_, rfl, by decide, by decide⟩
  · exact ⟨_, rfl, by decide, by decide⟩
  · exact ⟨_, rfl, by decide, by decide⟩
  · exact ⟨_, rfl, by decide, by decide⟩
  · exact ⟨_, rfl, by decide, by decide⟩
  · exact ⟨_, rfl, by decide, by decide⟩
  · exact ⟨_, rfl, by decide, by decide⟩
  · exact ⟨_, rfl, by decide, by decide⟩
  · omega
/-- the bars of two roads ahead of i, j -/
def BarsOf (rs : List Road) (i j : Nat) (bs : List (Str × Str)) : Prop := bs.Nodup ∧ ∀ b ∈ bs, ∃ i' j' r o, (i' < i ∨ (i' = i ∧ j' < j)) ∧ rs[i']? = some r ∧ rs[j']? = some o ∧ r.name = b.1 ∧ o.name = b.2 ∧ r.stop = o.start
theorem BarsOf.mono {rs : List Road} {i j i2 j2 : Nat} {bs : List (Str × Str)} (h : BarsOf rs i j bs) (hl : i < i2 ∨ (i = i2 ∧ j ≤ j2)) : BarsOf rs i2 j2 bs :=
  ⟨h.1, fun b hb => let ⟨i', j', r, o, h1, h2⟩ := h.2 b hb; ⟨i', j', r, o, by omega, h2⟩⟩
theorem BarsOf.end_ {rs : List Road} {i j : Nat} {bs : List (Str × Str)} (h : BarsOf rs i j bs) (hj : rs.length ≤ j) : BarsOf rs (i + 1) 0 bs :=
  h.mono (.inl (by omega))
theorem BarsOf.snoc {rs : List Road} (hn : (rs.map (·.name)).Nodup) {i j : Nat} {bs : List (Str × Str)} (h : BarsOf rs i j bs) {r o : Road} (h1 : rs[i]? = some r) (h2 : rs[j]? = some o) (e : r.stop = o.start) : BarsOf rs i (j + 1) (bs ++ [(r.name, o.name)]) := by
  refine ⟨List.nodup_append.mpr ⟨h.1, List.nodup_cons.mpr ⟨(fun h => by cases h), List.nodup_nil⟩, fun x hx y hy q => ?_⟩, fun b hb => ?_⟩
  · rw [List.mem_singleton.mp hy] at q
    obtain ⟨i', j', r', o', hl, a1, a2, a3, a4, _⟩ := h.2 x hx
    rw [q] at a3 a4
    have := nodup_at hn a1 h1 a3
    have := nodup_at hn a2 h2 a4
    omega
  · rcases List.mem_append.mp hb with hb | hb
    · exact (h.mono (.inr ⟨rfl, Nat.le_succ _⟩)).2 b hb
    · rw [List.mem_singleton.mp hb]
      exact ⟨i, j, r, o, .inr ⟨rfl, Nat.lt_succ_self _⟩, h1, h2, rfl, rfl, e⟩
section
variable {P : Program} {w : World} {K : PySem.W.Frag} {mg : Str → Option Value} {base : Heap} {a : Ad}
def sp_map : Sp := fun vs H Q _ => ∃ (l : Addr) (ns : List Int), vs = [.ref l, .int 0] ∧ H l = some (.lst (ns.map V.int)) ∧ ns.length = 140 ∧ ∀ P p H', Wf P → Same H H' → PartsAt H' p P → Q (.ref p) H'
theorem ok_map (T : Txt K mg a) : FnOk P w K mg base CX0 2 a.f_l_map a.d_l_map ["_law_numbers_here", "_law_at"] sp_map := by
  refine T.l_map.fn.ok sc_l_map (fun vs H Q E h => ?_) (fun cdv A outer s H vs Q E hr h => ?_)
  · obtain ⟨l, ns, rfl, _⟩ := h
    rfl
  · obtain ⟨l, ns, rfl, hl, hn, k⟩ := h
    have nd := sc_l_map.nd
    obtain ⟨g, hg⟩ := gets hn
    refine ⟨_, pss_cons (ps_set (i := 2) nd rfl (Or.inl rfl) (pe_ix ix_list (pe_lst (pa_cons pe_int (pa_cons pe_int (pa_cons pe_int (pa_cons pe_int (pa_cons pe_int (pa_cons pe_int (pa_cons pe_int (pa_cons pe_int pa_nil))))))))) (pe_op op_mod (pe_callTy call_int1 (by rfl) T.z_int (by decide +kernel) (pa_cons (pe_ix ix_list (pv 0) (pv 1) (fun _ _ => rfl)) pa_nil)) pe_int) (fun _ _ => rfl)))
      <| pss_cons (ps_set (i := 3) nd rfl (Or.inl rfl) (pe_call (ok_names T) hr (by rfl) T.l_names.gl T.l_names.fn.kp T.l_names.bi .nil pass0 (pa_cons (pe_ix ix_list (pv 0) (pe_op op_add (pv 1) pe_int) (fun _ _ => rfl)) (pa_cons (pe_op op_add pe_int (pe_op op_mod (pe_callTy call_int1 (by rfl) T.z_int (by decide +kernel) (pa_cons (pe_ix ix_list (pv 0) (pe_op op_add (pv 1) pe_int) (fun _ _ => rfl)) pa_nil)) pe_int)) pa_nil))))
      <| pss_cons (ps_set (i := 4) nd rfl (Or.inl rfl) (pe_call (ok_names T) hr (by rfl) T.l_names.gl T.l_names.fn.kp T.l_names.bi .nil pass0 (pa_cons (pe_ix ix_list (pv 0) (pe_op op_add (pv 1) pe_int) (fun _ _ => rfl)) (pa_cons (pe_op op_add pe_int (pe_op op_mod (pe_callTy call_int1 (by rfl) T.z_int (by decide +kernel) (pa_cons (pe_ix ix_list (pv 0) (pe_op op_add (pv 1) pe_int) (fun _ _ => rfl)) pa_nil)) pe_int)) pa_nil))))
      <| pss_cons (ps_set (i := 5) nd rfl (Or.inl rfl) (pe_call (ok_names T) hr (by rfl) T.l_names.gl T.l_names.fn.kp T.l_names.bi .nil pass0 (pa_cons (pe_ix ix_list (pv 0) (pe_op op_add (pv 1) pe_int) (fun _ _ => rfl)) (pa_cons pe_int pa_nil))))
      <| pss_cons (ps_set (i := 6) nd rfl (Or.inl rfl) (pe_lst pa_nil))
      <| pss_cons (ps_for PassesOwn.never rfl (pi_range1 rfl T.z_range (pa_cons (pe_op op_add pe_int (pe_op op_mod (pe_callTy call_int1 (by rfl) T.z_int (by decide +kernel) (pa_cons (pe_ix ix_list (pv 0) (pe_op op_add (pv 1) pe_int) (fun _ _ => rfl)) pa_nil)) pe_int)) pa_nil)) (pg_name (i := 7) nd rfl (Or.inl rfl))
        (pss_cons (ps_set (i := 8) nd rfl (Or.inl rfl) (pe_op op_add (pe_op op_add (pv 1) pe_int) (pe_op op_mul pe_int (pv 7))))
        <| pss_cons (ps_set (i := 9) nd rfl (Or.inl rfl) (pe_ix ix_list (pv 3) (pe_op op_mod (pe_callTy call_int1 (by rfl) T.z_int (by decide +kernel) (pa_cons (pe_ix ix_list (pv 0) (pv 8) (fun _ _ => rfl)) pa_nil)) (pe_callB call_len_seq (by rfl) T.z_len PySem.boot_len (pa_cons (pv 3) pa_nil))) (fun _ _ => rfl)))
        <| pss_cons (ps_set (i := 10) nd rfl (Or.inl rfl) (pe_ix ix_list (pv 3) (pe_op op_mod (pe_callTy call_int1 (by rfl) T.z_int (by decide +kernel) (pa_cons (pe_ix ix_list (pv 0) (pe_op op_add (pv 8) pe_int) (fun _ _ => rfl)) pa_nil)) (pe_callB call_len_seq (by rfl) T.z_len PySem.boot_len (pa_cons (pv 3) pa_nil))) (fun _ _ => rfl)))
        <| pss_cons (ps_set (i := 11) nd rfl (Or.inl rfl) (pe_op op_add pe_int (pe_op op_mod (pe_callTy call_int1 (by rfl) T.z_int (by decide +kernel) (pa_cons (pe_ix ix_list (pv 0) (pe_op op_add (pv 8) pe_int) (fun _ _ => rfl)) pa_nil)) pe_int)))
        <| pss_cutW (ps_if (pt_cmpR op_eq (pe_op op_mod (pe_callTy call_int1 (by rfl) T.z_int (by decide +kernel) (pa_cons (pe_ix ix_list (pv 0) (pe_op op_add (pv 8) pe_int) (fun _ _ => rfl)) pa_nil)) pe_int) pe_int (nomark _)) (pss_one (ps_set (i := 11) nd rfl (Or.inl rfl) (pe_op op_add pe_int (pe_op op_mod (pe_callTy call_int1 (by rfl) T.z_int (by decide +kernel) (pa_cons (pe_op op_mul (pe_ix ix_list (pv 0) (pe_op op_add (pv 8) pe_int) (fun _ _ => rfl)) pe_int) pa_nil)) pe_int)))) pss_nil)
        <| pss_cons (ps_set (i := 12) nd rfl (Or.inl rfl) (pe_call (ok_some T) hr (by rfl) T.l_some.gl T.l_some.fn.kp T.l_some.bi .nil pass0 (pa_cons (pe_ix ix_list (pv 0) (pe_op op_add (pv 8) pe_int) (fun _ _ => rfl)) (pa_cons (pv 4) pa_nil))))
        <| pss_cutW (ps_if (pt_cmpR op_gt (pe_op op_mod (pe_callTy call_int1 (by rfl) T.z_int (by decide +kernel) (pa_cons (pe_op op_fdiv (pe_ix ix_list (pv 0) (pe_op op_add (pv 8) pe_int) (fun _ _ => rfl)) pe_int) pa_nil)) pe_int) pe_int (nomark _)) (pss_one (ps_set (i := 12) nd rfl (Or.inl rfl) (pe_callTy call_tuple_of (by rfl) T.z_tuple (by decide +kernel) (pa_cons (pv 4) pa_nil)))) pss_nil)
        <| pss_one (ps_expr (pe_bm PySem.F.plainAttrs_list PySem.F.slot_list_append PySem.F.type_list_append mt_append (pv 6) (pa_cons (pe_tup (pa_cons (pe_ix ix_list (pv 5) (pv 7) (fun _ _ => rfl)) (pa_cons (pv 9) (pa_cons (pv 10) (pa_cons (pv 11) (pa_cons (pv 12) (pa_cons (pe_call (ok_hours T) hr (by rfl) T.l_hours.gl T.l_hours.fn.kp T.l_hours.bi .nil pass0 (pa_cons (pv 0) (pa_cons (pe_op op_add (pv 8) pe_int) (pa_cons (pv 2) pa_nil)))) pa_nil))))))) pa_nil)))))
      <| pss_cons (ps_set (i := 13) nd rfl (Or.inl rfl) (pe_lst pa_nil))
      <| pss_cons (ps_set (i := 14) nd rfl (Or.inl rfl) (pe_ix ix_list (pv 0) (pe_op op_add (pv 1) pe_int) (fun _ _ => rfl)))
      <| pss_cons (ps_for PassesOwn.never rfl (pi_list (pv 6)) (pg_name (i := 15) nd rfl (Or.inl rfl))
        (pss_one (ps_for PassesOwn.never rfl (pi_list (pv 6)) (pg_name (i := 16) nd rfl (Or.inl rfl))
          (pss_one (ps_if (pt_cmpR op_eq (pe_ix (r := rIxT K) ix_tup (pv 15) pe_int (fun _ _ => rfl)) (pe_ix (r := rIxT K) ix_tup (pv 16) pe_int (fun _ _ => rfl)) (nomark _))
            (pss_cutW (ps_if (pt_cmpR op_eq (pe_op op_mod (pe_callTy call_int1 (by rfl) T.z_int (by decide +kernel) (pa_cons (pv 14) pa_nil)) pe_int) pe_int (nomark _)) (pss_one (ps_expr (pe_bm PySem.F.plainAttrs_list PySem.F.slot_list_append PySem.F.type_list_append mt_append (pv 13) (pa_cons (pe_tup (pa_cons (pe_ix (r := rIxT K) ix_tup (pv 15) pe_int (fun _ _ => rfl)) (pa_cons (pe_ix (r := rIxT K) ix_tup (pv 16) pe_int (fun _ _ => rfl)) pa_nil))) pa_nil)))) pss_nil)
            <| pss_one (ps_set (i := 14) nd rfl (Or.inl rfl) (pe_op op_add (pe_op op_fdiv (pv 14) pe_int) (pe_op op_mul (pe_op op_mod (pe_callTy call_int1 (by rfl) T.z_int (by decide +kernel) (pa_cons (pv 14) pa_nil)) pe_int) pe_int)))) pss_nil)))))
      <| pss_one (ps_ret (pe_lst (pa_cons (pv 2) (pa_cons (pv 3) (pa_cons (pv 4) (pa_cons (pv 6) (pa_cons (pe_slice sl_list (pv 13) po_none (po_some pe_int)) pa_nil))))))), ?_⟩
    have m8 := fun z => Int.emod_nonneg z (show (8 : Int) ≠ 0 by decide)
    -- day
    refine ⟨(by show 8 ≤ sizeLine; decide), fun p0 hp0 => ?_⟩
    have s0 := same_new (o := .lst [.int 30, .int 12, .int 60, .int 1440, .int 7, .int 24, .int 1, .int 100]) hp0
    have d0 : (upd H p0 (.lst [.int 30, .int 12, .int 60, .int 1440, .int 7, .int 24, .int 1, .int 100])) p0 = some (.lst [.int 30, .int 12, .int 60, .int 1440, .int 7, .int 24, .int 1, .int 100]) := upd_same
    generalize upd H p0 (.lst [.int 30, .int 12, .int 60, .int 1440, .int 7, .int 24, .int 1, .int 100]) = H0 at s0 d0
    have hl0 := SqL.of (K := K) (s0 _ _ hl)
    refine ⟨_, rfl, _, rfl, l, _, _, _, rfl, rfl, hl0, hg 0 (by decide) (by decide), .inl ⟨_, rfl, _, _, rfl, rfl, (by show (0 : Int) < 8; decide), ?_⟩⟩
    obtain ⟨day, ed, hd1, hd2⟩ := day_at (g 0)
    refine ⟨p0, _, _, _, rfl, rfl, SqL.of d0, ed, ?_⟩
    -- places
    refine ⟨_, rfl, _, rfl, _, _, rfl, rfl, l, _, _, _, rfl, rfl, hl0, hg (0 + 1) (by decide) (by decide), _, rfl, _, rfl, _, _, rfl, rfl, l, _, _, _, rfl, rfl, hl0, hg (0 + 2) (by decide) (by decide), .inl ⟨_, rfl, _, _, rfl, rfl, (by show (0 : Int) < 4; decide), _, _, rfl, rfl, ?_⟩⟩
    have a0 := Int.emod_nonneg (g (0 + 2)) (show (4 : Int) ≠ 0 by decide)
    have a1 := Int.emod_lt_of_pos (g (0 + 2)) (show (0 : Int) < 4 by decide)
    refine ⟨_, _, rfl, by omega, by omega, fun pls pp H1 hpll hpln hplg hp1 s1 hpl1 => ?_⟩
    -- kinds
    have hl1 := SqL.of (K := K) (s1 _ _ (s0 _ _ hl))
    refine ⟨_, rfl, _, rfl, _, _, rfl, rfl, l, _, _, _, rfl, rfl, hl1, hg (0 + 3) (by decide) (by decide), _, rfl, _, rfl, _, _, rfl, rfl, l, _, _, _, rfl, rfl, hl1, hg (0 + 4) (by decide) (by decide), .inl ⟨_, rfl, _, _, rfl, rfl, (by show (0 : Int) < 3; decide), _, _, rfl, rfl, ?_⟩⟩
    have b0 := Int.emod_nonneg (g (0 + 4)) (show (3 : Int) ≠ 0 by decide)
    have b1 := Int.emod_lt_of_pos (g (0 + 4)) (show (0 : Int) < 3 by decide)
    refine ⟨_, _, rfl, by omega, by omega, fun kds kp H2 hkdl hkdn hkdg hp2 s2 hkd2 => ?_⟩
    -- names
    have hl2 := SqL.of (K := K) (s2 _ _ (s1 _ _ (s0 _ _ hl)))
    refine ⟨_, rfl, _, rfl, _, _, rfl, rfl, l, _, _, _, rfl, rfl, hl2, hg (0 + 5) (by decide) (by decide), _, _, rfl, by decide, by decide, fun nms np H3 hnml hnmn hnmg hp3 s3 hnm3 => ?_⟩
    -- roads
    refine ⟨Nat.zero_le _, fun p hp => ?_⟩
    have s4 : Same H3 (upd H3 p (.lst [])) := same_new hp
    have s34 := (s0.trans (s1.trans (s2.trans s3)))
    have hl4 := SqL.of (K := K) (s4 _ _ (s34 _ _ hl))
    have hpl3 := s3 _ _ (s2 _ _ hpl1)
    have hkd3 := s3 _ _ hkd2
    refine ⟨_, rfl, _, rfl, _, _, rfl, rfl, l, _, _, _, rfl, rfl, hl4, hg (0 + 6) (by decide) (by decide), .inl ⟨_, rfl, _, _, rfl, rfl, (by show (0 : Int) < 9; decide), _, _, rfl, rfl, ?_⟩⟩
    have c0 := Int.emod_nonneg (g (0 + 6)) (show (9 : Int) ≠ 0 by decide)
    have c1 := Int.emod_lt_of_pos (g (0 + 6)) (show (0 : Int) < 9 by decide)
    generalize g (0 + 6) % 9 = R at c0 c1
    refine ⟨_, rfl, by omega, by omega, ?_⟩
    refine for_it walk_range (fun i σ H' => Same H3 H' ∧ ∃ v7 v8 v9 v10 v11 v12, ∃ rs : List Road, ∃ rvs, σ = [some (.ref l), some (.int 0), some (.int day), some (.ref pp), some (.ref kp), some (.ref np), some (.ref p), v7, v8, v9, v10, v11, v12, none, none, none, none] ∧
        rs.length = i ∧ rs.map (·.name) = nms.take i ∧ (∀ r ∈ rs, RoadWf ⟨day, pls, kds, [], []⟩ r) ∧ Paired (RoadAt H') rvs rs ∧ H' p = some (.lst rvs))
      ⟨s4, none, none, none, none, none, none, [], [], rfl, rfl, rfl, (fun _ h => by cases h), .nil, upd_same⟩ (fun _ _ _ _ _ => trivial) ?_ ?_
    · rintro i x σ H4 H5 hi ⟨sm, v7, v8, v9, v10, v11, v12, rs, rvs, rfl, hrl, hrn, hrw, hrp, hd⟩ ⟨rfl, rfl⟩
      have hl5 := SqL.of (K := K) (sm _ _ (s34 _ _ hl))
      have hpl5 := SqL.of (K := K) (sm _ _ hpl3)
      have hkd5 := SqL.of (K := K) (sm _ _ hkd3)
      have hnm5 := SqL.of (K := K) (sm _ _ hnm3)
      have hiR : (i : Int) < 9 := by omega
      refine ⟨_, rfl, _, _, rfl, rfl, _, rfl, _, _, rfl, rfl, .inl (by decide), _, _, rfl, rfl, ?_⟩
      have hsp : (0 : Int) ≤ 0 + 10 + 9 * (0 + (i : Int)) ∧ 0 + 10 + 9 * (0 + (i : Int)) ≤ 82 := ⟨by omega, by omega⟩
      have hlp : (0 : Int) < (pls.length : Nat) := by omega
      have hm : ∀ z : Int, 0 ≤ z % ((pls.length : Nat) : Int) ∧ z % ((pls.length : Nat) : Int) < (pls.length : Nat) := fun z => ⟨Int.emod_nonneg _ (by omega), Int.emod_lt_of_pos _ hlp⟩
      have hlm : ((pls.map V.str).length : Int) = (pls.length : Nat) := by rw [List.length_map]
      -- start
      obtain ⟨st, est, hst⟩ := txt_at (xs := pls) (hm (g (0 + 10 + 9 * (0 + (i : Int))))).1 (hm (g (0 + 10 + 9 * (0 + (i : Int))))).2
      obtain ⟨en, een, hen⟩ := txt_at (xs := pls) (hm (g ((0 + 10 + 9 * (0 + (i : Int))) + 1))).1 (hm (g ((0 + 10 + 9 * (0 + (i : Int))) + 1))).2
      have mst := List.mem_of_getElem? hst
      have men := List.mem_of_getElem? hen
      rw [← hlm] at est een
      refine ⟨_, rfl, _, rfl, _, rfl, l, _, _, _, rfl, rfl, hl5, hg (0 + 10 + 9 * (0 + (i : Int))) (by omega) (by omega), .inl ⟨_, rfl, _, rfl, pp, _, rfl, .inl hpl5, _, _, rfl, rfl, (by rw [List.length_map]; exact hlp), pp, _, _, _, rfl, rfl, hpl5, est, ?_⟩⟩
      refine ⟨_, rfl, _, rfl, _, rfl, _, _, rfl, rfl, l, _, _, _, rfl, rfl, hl5, hg ((0 + 10 + 9 * (0 + (i : Int))) + 1) (by omega) (by omega), .inl ⟨_, rfl, _, rfl, pp, _, rfl, .inl hpl5, _, _, rfl, rfl, (by rw [List.length_map]; exact hlp), pp, _, _, _, rfl, rfl, hpl5, een, ?_⟩⟩
      -- minutes
      refine ⟨_, rfl, _, rfl, _, _, rfl, rfl, l, _, _, _, rfl, rfl, hl5, hg ((0 + 10 + 9 * (0 + (i : Int))) + 2) (by omega) (by omega), .inl ⟨_, rfl, _, _, rfl, rfl, (by show (0 : Int) < 20; decide), _, _, rfl, rfl, ?_⟩⟩
      refine ⟨fun σ' H' => H' = H5 ∧ ∃ mi : Int, σ' = [some (.ref l), some (.int 0), some (.int day), some (.ref pp), some (.ref kp), some (.ref np), some (.ref p), some (.int (0 + (i : Int))), some (.int (0 + 10 + 9 * (0 + (i : Int)))), some (.str st), some (.str en), some (.int mi), v12, none, none, none, none] ∧ 1 ≤ mi ∧ mi ≤ 1000, ?_, ?_⟩
      · have x0 := Int.emod_nonneg (g ((0 + 10 + 9 * (0 + (i : Int))) + 2)) (show (20 : Int) ≠ 0 by decide)
        have x1 := Int.emod_lt_of_pos (g ((0 + 10 + 9 * (0 + (i : Int))) + 2)) (show (0 : Int) < 20 by decide)
        have y0 := Int.emod_nonneg (g ((0 + 10 + 9 * (0 + (i : Int))) + 2) * 31) (show (1000 : Int) ≠ 0 by decide)
        have y1 := Int.emod_lt_of_pos (g ((0 + 10 + 9 * (0 + (i : Int))) + 2) * 31) (show (0 : Int) < 1000 by decide)
        refine ⟨_, rfl, _, rfl, _, _, rfl, rfl, l, _, _, _, rfl, rfl, hl5, hg ((0 + 10 + 9 * (0 + (i : Int))) + 2) (by omega) (by omega), .inl ⟨_, rfl, _, _, rfl, rfl, (by show (0 : Int) < 13; decide), rfl, _, rfl, ite2 (fun _ => ?_) (fun _ => ?_)⟩⟩
        · refine ⟨_, rfl, _, rfl, _, _, rfl, rfl, l, _, _, _, rfl, rfl, hl5, hg ((0 + 10 + 9 * (0 + (i : Int))) + 2) (by omega) (by omega), _, _, rfl, rfl, .inr (by decide), .inl ⟨_, rfl, _, _, rfl, rfl, (by show (0 : Int) < 1000; decide), _, _, rfl, rfl, ?_⟩⟩
          exact ⟨rfl, _, rfl, by omega, by omega⟩
        · exact ⟨rfl, _, rfl, by omega, by omega⟩
      rintro σ' H' ⟨rfl, mi, rfl, hmi1, hmi2⟩
      -- used
      refine ⟨_, rfl, _, rfl, _, _, rfl, rfl, l, _, _, _, rfl, rfl, hl5, hg ((0 + 10 + 9 * (0 + (i : Int))) + 3) (by omega) (by omega), _, rfl, ?_⟩
      refine ⟨_, kp, kds, rfl, sm _ _ hkd3, by omega, fun us up H6 hus s6 hu6 => ?_⟩
      refine ⟨fun σ' H7 => Same H' H7 ∧ ∃ (uq : Addr) (us : List Str), σ' = [some (.ref l), some (.int 0), some (.int day), some (.ref pp), some (.ref kp), some (.ref np), some (.ref p), some (.int (0 + (i : Int))), some (.int (0 + 10 + 9 * (0 + (i : Int)))), some (.str st), some (.str en), some (.int mi), some (.ref uq), none, none, none, none] ∧ us.Sublist kds ∧ H7 uq = some (.tup (us.map V.str)), ?_, ?_⟩
      · refine ⟨_, rfl, _, rfl, _, _, rfl, rfl, l, _, _, _, rfl, rfl, s6.seq hl5, hg ((0 + 10 + 9 * (0 + (i : Int))) + 3) (by omega) (by omega), _, _, rfl, rfl, ⟨by decide, by decide⟩, .inl ⟨_, rfl, _, _, rfl, rfl, (by show (0 : Int) < 3; decide), _, _, rfl, rfl, _, rfl, ite2 (fun _ => ?_) (fun _ => ?_)⟩⟩
        · refine ⟨_, rfl, kp, _, rfl, .inl ⟨s6.seq hkd5, fun t ht => ?_⟩⟩
          exact ⟨s6.trans (same_new ht), t, kds, rfl, List.Sublist.refl _, upd_same⟩
        · exact ⟨s6, up, us, rfl, hus, hu6⟩
      rintro σ' H7 ⟨s7, uq, us, rfl, hus, huq⟩
      -- append
      have hik : i < nms.length := by omega
      have enm : atI (nms.map V.str) (0 + (i : Int)) = some (.str nms[i]) := at_of (Int.zero_add _) (by rw [List.getElem?_map, List.getElem?_eq_getElem hik]; rfl)
      refine ⟨_, rfl, .inl ⟨rfl, _, s7.seq (SqL.of hd)⟩, ?_⟩
      refine ⟨_, rfl, _, rfl, np, _, _, _, rfl, rfl, s7.seq hnm5, enm, _, rfl, _, rfl, _, rfl, _, rfl, _, rfl, _, rfl, _, _, rfl, rfl, _, rfl, ?_⟩
      refine ⟨l, ns, _, day, rfl, s7 _ _ (sm _ _ (s34 _ _ hl)), by omega, by omega, hd1, fun hv hs H8 hok s8 hat => ?_⟩
      refine ⟨(by show 6 ≤ sizeLine; decide), fun t ht => ?_⟩
      have st9 := same_new (o := .tup [.str nms[i], .str st, .str en, .int mi, .ref uq, hv]) ht
      refine ⟨p, _, _, rfl, rfl, st9 _ _ (s8 _ _ (s7 _ _ hd)), ?_, ?_⟩
      · have := paired_len hrp
        exact line10k (by omega)
      have s79 := s7.trans (s8.trans st9)
      have kp9 : Keep (upd H8 t (.tup [.str nms[i], .str st, .str en, .int mi, .ref uq, hv])) (upd (upd H8 t (.tup [.str nms[i], .str st, .str en, .int mi, .ref uq, hv])) p (.lst (rvs ++ [.ref t]))) := keep_upd (s79 _ _ hd) rfl
      refine ⟨same_upd_new (sm.trans s79) hp, _, _, _, _, _, _, rs ++ [⟨nms[i], st, en, mi, us, hs⟩], rvs ++ [.ref t], rfl, by rw [List.length_append, hrl]; rfl, ?_, ?_, ?_, upd_same⟩
      · rw [List.map_append, hrn, List.take_add_one, List.getElem?_eq_getElem hik]
        rfl
      · intro r hr
        rcases List.mem_append.mp hr with hr | hr
        · exact hrw r hr
        · rw [List.mem_singleton.mp hr]
          exact ⟨hnmg _ (List.getElem_mem hik), mst, men, ⟨hmi1, hmi2⟩, hus.nodup hkdn, fun k hk => hus.subset hk, hok⟩
      · refine paired_snoc ⟨t, uq, hv, rfl, kp9 _ _ rfl upd_same, kp9 _ _ rfl (st9 _ _ (s8 _ _ huq)), (hat.keep st9.keep).keep kp9⟩ (Paired.mapP hrp fun _ _ z => (z.keep s79.keep).keep kp9)
    · rintro σ H4 ⟨sm, v7, v8, v9, v10, v11, v12, rs, rvs, rfl, hrl, hrn, hrw, hrp, hd⟩
      have hl5 := SqL.of (K := K) (sm _ _ (s34 _ _ hl))
      have hrN : (rs.map (·.name)).Nodup := by
        rw [hrn]
        exact (List.take_sublist _ _).nodup hnmn
      have hrl9 : rs.length ≤ 9 := by omega
      have hvl := paired_len hrp
      -- bars
      refine ⟨Nat.zero_le _, fun q hq => ?_⟩
      have sq : Same H4 (upd H4 q (.lst [])) := same_new hq
      refine ⟨_, rfl, _, rfl, _, _, rfl, rfl, l, _, _, _, rfl, rfl, sq.seq hl5, hg (0 + 7) (by decide) (by decide), ?_⟩
      refine ⟨_, rfl, p, rfl, ⟨_, sq.seq (SqL.of hd)⟩, ?_⟩
      refine for_it (walk_list (K := K) (a := p) (xs := rvs)) (fun i σ H' => Same H4 H' ∧ ∃ z v15 v16, ∃ bs : List (Str × Str), ∃ bvs, σ = [some (.ref l), some (.int 0), some (.int day), some (.ref pp), some (.ref kp), some (.ref np), some (.ref p), v7, v8, v9, v10, v11, v12, some (.ref q), some (.int z), v15, v16] ∧
          BarsOf rs i 0 bs ∧ bs.length ≤ 9 * i ∧ Paired (BarAt H') bvs bs ∧ H' q = some (.lst bvs))
        ⟨sq, _, none, none, [], [], rfl, ⟨List.nodup_nil, fun _ h => by cases h⟩, Nat.zero_le _, .nil, upd_same⟩ (fun i σ H' _ h => h.1.seq (SqL.of hd)) ?_ ?_
      · rintro i x σ H5 H6 hi ⟨s5, z, v15, v16, bs, bvs, rfl, hbo, hbl, hbp, hd5⟩ ⟨rfl, hx⟩
        obtain ⟨r, hr1, t, kk, hh, rfl, ht, _, _⟩ := paired_get hrp hx
        refine ⟨_, rfl, p, rfl, ⟨_, s5.seq (SqL.of hd)⟩, ?_⟩
        refine for_it (walk_list (K := K) (a := p) (xs := rvs)) (fun j σ H' => Same H4 H' ∧ ∃ z v16, ∃ bs : List (Str × Str), ∃ bvs, σ = [some (.ref l), some (.int 0), some (.int day), some (.ref pp), some (.ref kp), some (.ref np), some (.ref p), v7, v8, v9, v10, v11, v12, some (.ref q), some (.int z), some (.ref t), v16] ∧
            BarsOf rs i j bs ∧ bs.length ≤ 9 * i + j ∧ Paired (BarAt H') bvs bs ∧ H' q = some (.lst bvs))
          ⟨s5, z, v16, bs, bvs, rfl, hbo, hbl, hbp, hd5⟩ (fun i σ H' _ h => h.1.seq (SqL.of hd)) ?_ ?_
        · rintro j x σ H7 H8 hj ⟨s7, z, v16, bs, bvs, rfl, hbo, hbl, hbp, hd7⟩ ⟨rfl, hx⟩
          obtain ⟨o, ho1, t2, kk2, hh2, rfl, ht2, _, _⟩ := paired_get hrp hx
          have ht7 := SqT.of (K := K) (s7 _ _ ht)
          have ht27 := SqT.of (K := K) (s7 _ _ ht2)
          refine ⟨_, rfl, t, _, 2, _, rfl, rfl, ht7, atI_nat (j := 2) rfl, _, rfl, t2, _, 1, _, rfl, rfl, ht27, atI_nat (j := 1) rfl, rfl, _, rfl, ite2 (fun e => ?_) (fun e => ?_)⟩
          · have hst : r.stop = o.start := by
              by_cases z : r.stop = o.start
              · exact z
              · exact absurd e (by simp [z])
            refine ⟨fun σ' H' => Same H4 H' ∧ ∃ bs : List (Str × Str), ∃ bvs, σ' = [some (.ref l), some (.int 0), some (.int day), some (.ref pp), some (.ref kp), some (.ref np), some (.ref p), v7, v8, v9, v10, v11, v12, some (.ref q), some (.int z), some (.ref t), some (.ref t2)] ∧
              BarsOf rs i (j + 1) bs ∧ bs.length ≤ 9 * i + (j + 1) ∧ Paired (BarAt H') bvs bs ∧ H' q = some (.lst bvs), ?_, ?_⟩
            · refine ⟨_, rfl, .inl ⟨_, rfl, _, _, rfl, rfl, (by show (0 : Int) < 4; decide), rfl, _, rfl, ite2 (fun _ => ?_) (fun _ => ?_)⟩⟩
              · refine ⟨_, rfl, .inl ⟨rfl, _, SqL.of hd7⟩, _, rfl, t, _, 0, _, rfl, rfl, ht7, atI_nat (j := 0) rfl, _, rfl, t2, _, 0, _, rfl, rfl, ht27, atI_nat (j := 0) rfl, (by show 2 ≤ sizeLine; decide), fun t3 ht3 => ?_⟩
                have s8 := same_new (o := .tup [.str r.name, .str o.name]) ht3
                refine ⟨q, _, _, rfl, rfl, s8 _ _ hd7, ?_, ?_⟩
                · have := paired_len hbp
                  exact line10k (by omega)
                have kp9 : Keep (upd _ t3 (.tup [.str r.name, .str o.name])) (upd (upd _ t3 (.tup [.str r.name, .str o.name])) q (.lst (bvs ++ [.ref t3]))) := keep_upd (s8 _ _ hd7) rfl
                refine ⟨same_upd_new (s7.trans s8) hq, bs ++ [(r.name, o.name)], bvs ++ [.ref t3], rfl, hbo.snoc hrN hr1 ho1 hst, ?_, ?_, upd_same⟩
                · rw [List.length_append, List.length_singleton]
                  omega
                · exact paired_snoc ⟨t3, rfl, kp9 _ _ rfl upd_same⟩ (Paired.mapP hbp fun _ _ z => (z.keep s8.keep).keep kp9)
              · exact ⟨s7, bs, bvs, rfl, hbo.mono (.inr ⟨rfl, Nat.le_succ _⟩), by omega, hbp, hd7⟩
            rintro σ' H9 ⟨s9, bs', bvs', rfl, hbo', hbl', hbp', hd'⟩
            refine ⟨_, rfl, _, _, rfl, rfl, ⟨by decide, by decide⟩, _, rfl, .inl ⟨_, rfl, _, _, rfl, rfl, (by show (0 : Int) < 4; decide), _, _, rfl, rfl, .inr (by decide), _, _, rfl, rfl, ?_⟩⟩
            exact ⟨s9, _, _, bs', bvs', rfl, hbo', hbl', hbp', hd'⟩
          · exact ⟨s7, z, _, bs, bvs, rfl, hbo.mono (.inr ⟨rfl, Nat.le_succ _⟩), by omega, hbp, hd7⟩
        · rintro σ H7 ⟨s7, z, v16, bs, bvs, rfl, hbo, hbl, hbp, hd7⟩
          exact ⟨s7, z, _, _, bs, bvs, rfl, hbo.end_ (by omega), by omega, hbp, hd7⟩
      · rintro σ H5 ⟨s5, z, v15, v16, bs, bvs, rfl, hbo, hbl, hbp, hd5⟩
        refine ⟨_, rfl, _, rfl, _, rfl, _, rfl, _, rfl, 40, rfl, q, _, rfl, SqL.of hd5, fun c hc => ?_⟩
        have ecut : cutV bvs none (some (40 : Int)) = bvs.take 40 := by
          unfold cutV
          rw [HT.sIx_none, show (40 : Int) = ((40 : Nat) : Int) from rfl, HT.sIx_nat]
          show bvs.take (min 40 bvs.length - 0) = _
          rw [Nat.sub_zero, ← List.take_eq_take_min]
        rw [ecut]
        have s6 : Same H5 (upd H5 c (.lst (bvs.take 40))) := same_new hc
        refine ⟨(by show 5 ≤ sizeLine; decide), fun f hf => ?_⟩
        have s7 := same_new (o := .lst [.int day, .ref pp, .ref kp, .ref p, .ref c]) hf
        have s57 := s6.trans s7
        have s37 := sm.trans (s5.trans s57)
        refine k ⟨day, pls, kds, rs, bs.take 40⟩ f _ ?_ (s34.trans s37) ⟨pp, kp, p, c, rvs, bvs.take 40, upd_same, s37 _ _ hpl3, s37 _ _ hkd3, (s5.trans s57) _ _ hd, Paired.mapP hrp fun _ _ z => z.keep (s5.trans s57).keep, s7 _ _ upd_same, Paired.mapP (paired_take 40 hbp) fun _ _ z => z.keep s57.keep⟩
        refine ⟨⟨hd1, hd2⟩, ⟨by show 1 ≤ pls.length; omega, by show pls.length ≤ 30; omega⟩, hpln, hplg, ⟨by show 1 ≤ kds.length; omega, by show kds.length ≤ 4; omega⟩, hkdn, hkdg, hrl9, hrN, fun r hr => (hrw r hr).to rfl rfl rfl, ?_, (List.take_sublist _ _).nodup hbo.1, ?_⟩
        · show (bs.take 40).length ≤ 40
          rw [List.length_take]
          omega
        · intro b hb
          obtain ⟨i', j', r, o, _, h1, h2, h3, h4, h5⟩ := hbo.2 b (List.mem_of_mem_take hb)
          exact ⟨r, List.mem_of_getElem? h1, o, List.mem_of_getElem? h2, h3, h4, h5⟩
end
end Wp
/-! _law_made. -/
namespace Wp
open PySem PySem.Spec PyProof.Rows L2
section
variable {P : Program} {w : World} {K : PySem.W.Frag} {mg : Str → Option Value} {base : Heap} {a : Ad}
theorem vals_app {vs : List V} {us : List Value} (h : Vals vs us) : ∀ {zs : List V} {ws : List Value}, Vals zs ws → Vals (vs ++ zs) (us ++ ws) := by
  induction h with
  | nil => intro zs ws h; exact h
  | cons r _ ih => intro zs ws h; exact .cons r (ih h)
theorem kb_init (T : Txt K mg a) : KBn K a.d_init ["self", "day", "kinds", "places", "roads", "bars"] 1 ["day", "kinds", "places", "roads", "bars"] (fun us ws => us ++ ws) (fun vs zs => vs ++ zs) := by
  obtain ⟨oc, od, kV, doc, pm, an, cdv, ct, osl, e, _, _⟩ := T.init.ex
  rw [e]
  refine ⟨fun s us ws _ h1 h2 => ?_, fun r1 r2 => vals_app r1 r2⟩
  match us, h1 with
  | [u], _ =>
    match ws, h2 with
    | [_, _, _, _, _], _ => exact BindsTo.of_eq rfl
def sp_made (C : Addr) : Sp := fun vs H Q _ => ∃ p P, vs = [.ref p] ∧ PartsAt H p P ∧ Wf P ∧ ∀ M c H', Like P M → Same H H' → ChartAt C H' c M → Q (.ref c) H'
theorem ok_made (T : Txt K mg a) : FnOk P w K mg base CX0 6 a.f_l_made a.d_l_made ["_law_parts"] (sp_made a.C) := by
  refine T.l_made.fn.ok sc_l_made (fun vs H Q E h => ?_) (fun cdv A outer s H vs Q E hr h => ?_)
  · obtain ⟨p, P, rfl, _⟩ := h
    rfl
  · obtain ⟨p, P, rfl, hp, W, k⟩ := h
    have nd := sc_l_made.nd
    refine ⟨_, pss_cons (ps_asg (pv 0) (pg_unl (n := 5) (by rfl) (pgs_cons (pg_name (i := 1) nd rfl (Or.inl rfl)) (pgs_cons (pg_name (i := 2) nd rfl (Or.inl rfl)) (pgs_cons (pg_name (i := 3) nd rfl (Or.inl rfl)) (pgs_cons (pg_name (i := 4) nd rfl (Or.inl rfl)) (pgs_cons (pg_name (i := 5) nd rfl (Or.inl rfl)) pgs_nil)))))))
      <| pss_one (ps_ret (pe_makeK0 (k := 4) T.mkC (ok_init T) hr (by rfl) T.mgC (kb_init T) pass0
        (pk_cons (pv 1) (pk_cons (pe_callTy call_list_of (by rfl) T.z_list (by decide +kernel) (pa_cons (pv 3) pa_nil)) (pk_cons (pe_callTy call_list_of (by rfl) T.z_list (by decide +kernel) (pa_cons (pv 2) pa_nil))
          (pk_cons (pe_callTy call_list_of (by rfl) T.z_list (by decide +kernel) (pa_cons (pv 4) pa_nil)) (pk_cons (pe_callTy call_list_of (by rfl) T.z_list (by decide +kernel) (pa_cons (pv 5) pa_nil)) pk_nil))))))), ?_⟩
    obtain ⟨pl, kd, rd, br, rvs, bvs, h0, h1, h2, h3, h4, h5, h6⟩ := hp.ex
    refine ⟨_, rfl, p, _, rfl, SqL.of h0, rfl, _, _, rfl, _, _, rfl, _, _, rfl, _, _, rfl, _, _, rfl, rfl, ?_⟩
    refine ⟨_, rfl, ?_⟩
    refine ⟨_, rfl, kd, _, rfl, .inl (SqL.of h2), fun q1 e1 => ?_⟩
    have s1 := same_new (o := .lst (P.kinds.map V.str)) e1
    refine ⟨_, rfl, pl, _, rfl, .inl (SqL.of (s1 _ _ h1)), fun q2 e2 => ?_⟩
    have s2 := s1.trans (same_new (o := .lst (P.places.map V.str)) e2)
    refine ⟨_, rfl, rd, _, rfl, .inl (SqL.of (s2 _ _ h3)), fun q3 e3 => ?_⟩
    have s3 := s2.trans (same_new (o := .lst rvs) e3)
    refine ⟨_, rfl, br, _, rfl, .inl (SqL.of (s3 _ _ h5)), fun q4 e4 => ?_⟩
    have s4 := s3.trans (same_new (o := .lst bvs) e4)
    refine ⟨rfl, rfl, fun x dx hx hdx hne => ?_⟩
    have t4 := same_new (o := .lst bvs) e4
    have t34 := (same_new (o := .lst rvs) e3).trans t4
    have t24 := (same_new (o := .lst (P.places.map V.str)) e2).trans t34
    refine ⟨_, x, dx, q1, q2, q3, q4, rvs, bvs, P, rfl, ?_, hx, upd_same, t34 _ _ upd_same, t24 _ _ upd_same, t4 _ _ upd_same, Paired.mapP h4 fun _ _ z => z.keep s4.keep, upd_same, Paired.mapP h6 fun _ _ z => z.keep s4.keep, W, fun M H' hL s5 hM => ?_⟩
    · refine (same_new hdx).trans (same_new ?_)
      rw [upd_ne (Ne.symm hne)]
      exact hx
    · exact ⟨rfl, k M x H' hL (s4.trans s5) hM⟩
end
end Wp
/-! _law_soon, _law_may, _law_trip. -/
namespace Wp
open PySem PySem.Spec PyProof.Rows L2

/-! ### the soonest entering -/
def soon1 (day x m : Int) (p : Int × Int) : Int := if p.2 ≤ x then m + day - x + p.1 else m + (if p.1 - x > 0 then p.1 - x else 0)
theorem soon1_pos {day x m : Int} {p : Int × Int} (h : p.2 ≤ x) : soon1 day x m p = m + day - x + p.1 := by unfold soon1; rw [if_pos h]
theorem soon1_neg {day x m : Int} {p : Int × Int} (h : ¬ p.2 ≤ x) : soon1 day x m p = m + (if p.1 - x > 0 then p.1 - x else 0) := by unfold soon1; rw [if_neg h]
theorem entX_least {day x fb m : Int} (hx : x < day) (hf : 0 ≤ fb) : ∀ {ps : List (Int × Int)} {b : Int}, fb ≤ b + 1 → Asc day b ps → ∀ p ∈ ps, m - x + entX day x fb ps ≤ soon1 day x m p
  | [], _, _, _ => fun p hp => by cases hp
  | q :: ps, b, h0, ⟨h1, h2, h3, h4⟩ => fun p hp => by
    rw [entX_cons]
    rcases List.mem_cons.mp hp with rfl | hp
    · have := entX_hi hx hf h4
      by_cases c : x < p.2
      · rw [if_pos c, soon1_neg (by omega)]
        split <;> split <;> omega
      · rw [if_neg c, soon1_pos (by omega)]
        omega
    · have ih := entX_least (m := m) hx hf (b := q.2) (by omega) h4 p hp
      by_cases c : x < q.2
      · rw [if_pos c]
        have lo : q.2 < p.1 ∧ p.1 < p.2 := by
          clear ih
          have : ∀ {ps : List (Int × Int)} {b : Int}, Asc day b ps → ∀ p ∈ ps, b < p.1 ∧ p.1 < p.2 := by
            intro ps
            induction ps with
            | nil => intro b _ p hp; cases hp
            | cons q ps ih =>
              rintro b ⟨a1, a2, a3, a4⟩ p hp
              rcases List.mem_cons.mp hp with rfl | hp
              · exact ⟨a1, a2⟩
              · have := ih a4 p hp
                exact ⟨by omega, this.2⟩
          exact this h4 p hp
        rw [soon1_neg (by omega)]
        split <;> split <;> omega
      · rw [if_neg c]
        exact ih
theorem entX_is {day x fb m : Int} : ∀ {ps : List (Int × Int)}, (∃ p ∈ ps, m - x + entX day x fb ps = soon1 day x m p) ∨ (entX day x fb ps = day + fb ∧ ∀ p ∈ ps, p.2 ≤ x)
  | [] => .inr ⟨rfl, fun p hp => by cases hp⟩
  | q :: ps => by
    rw [entX_cons]
    by_cases h : x < q.2
    · rw [if_pos h]
      refine .inl ⟨q, List.mem_cons_self .., ?_⟩
      rw [soon1_neg (by omega)]
      split <;> split <;> omega
    · rw [if_neg h]
      rcases entX_is (day := day) (x := x) (fb := fb) (m := m) (ps := ps) with ⟨p, hp, e⟩ | ⟨e, hp⟩
      · exact .inl ⟨p, List.mem_cons_of_mem _ hp, e⟩
      · refine .inr ⟨e, fun p hp' => ?_⟩
        rcases List.mem_cons.mp hp' with rfl | hp'
        · omega
        · exact hp p hp'
def Best (f : Int × Int → Int) (l : List (Int × Int)) : Option Int → Prop
  | none => l = []
  | some b => (∃ p ∈ l, b = f p) ∧ ∀ p ∈ l, b ≤ f p
theorem Best.new {f : Int × Int → Int} {l : List (Int × Int)} {p : Int × Int} {bo : Option Int} (h : Best f l bo) (hn : ∀ b, bo = some b → f p < b) : Best f (l ++ [p]) (some (f p)) := by
  refine ⟨⟨p, List.mem_append.mpr (.inr (List.mem_singleton.mpr rfl)), rfl⟩, fun q hq => ?_⟩
  rcases List.mem_append.mp hq with hq | hq
  · cases bo with
    | none => rw [show l = [] from h] at hq; cases hq
    | some b =>
      have := h.2 q hq
      have := hn b rfl
      omega
  · rw [List.mem_singleton.mp hq]
    exact Int.le_refl _
theorem Best.old {f : Int × Int → Int} {l : List (Int × Int)} {p : Int × Int} {b : Int} (h : Best f l (some b)) (hn : ¬ f p < b) : Best f (l ++ [p]) (some b) := by
  obtain ⟨⟨q, hq, e⟩, h2⟩ := h
  refine ⟨⟨q, List.mem_append.mpr (.inl hq), e⟩, fun q hq => ?_⟩
  rcases List.mem_append.mp hq with hq | hq
  · exact h2 q hq
  · rw [List.mem_singleton.mp hq]
    omega
theorem best_ent {day m : Int} (hd : 0 < day) {ps : List (Int × Int)} (ha : Asc day (-1) ps) (hne : ps ≠ []) {bo : Option Int} (h : Best (soon1 day (m % day) m) ps bo) : bo = some (ent day (some ps) m) := by
  cases bo with
  | none => exact absurd h hne
  | some b =>
    obtain ⟨⟨p, hp, e⟩, h2⟩ := h
    have hx := Int.emod_lt_of_pos m hd
    have hf := Asc.fb ha
    have fb : fbOf ps ≤ -1 + 1 ∨ True := .inr trivial
    have l1 : ∀ p ∈ ps, m - m % day + entX day (m % day) (fbOf ps) ps ≤ soon1 day (m % day) m p := by
      cases ps with
      | nil => exact absurd rfl hne
      | cons q qs =>
        obtain ⟨a1, a2, a3, a4⟩ := ha
        exact entX_least (b := q.1 - 1) hx hf (by show q.1 ≤ q.1 - 1 + 1; omega) ⟨by omega, a2, a3, a4⟩
    have l2 := l1 p hp
    have l3 : ∃ p ∈ ps, m - m % day + entX day (m % day) (fbOf ps) ps = soon1 day (m % day) m p := by
      rcases entX_is (day := day) (x := m % day) (fb := fbOf ps) (m := m) (ps := ps) with h | ⟨e, h⟩
      · exact h
      · cases ps with
        | nil => exact absurd rfl hne
        | cons q qs =>
          refine ⟨q, List.mem_cons_self .., ?_⟩
          rw [e]
          unfold soon1
          rw [if_pos (h q (List.mem_cons_self ..))]
          show m - m % day + (day + q.1) = _
          omega
    obtain ⟨q, hq, e3⟩ := l3
    have l4 := h2 q hq
    congr 1
    show b = m - m % day + entX day (m % day) (fbOf ps) ps
    omega
def bestV : Option Int → V
  | none => .non
  | some b => .int b
section
variable {P : Program} {w : World} {K : PySem.W.Frag} {mg : Str → Option Value} {base : Heap} {a : Ad}
def sp_soon : Sp := fun vs H Q _ => ∃ day hv hs m, vs = [.int day, hv, .int m] ∧ 0 < day ∧ HoursAt H hv hs ∧ HoursOk day hs ∧ hs ≠ some [] ∧ Q (.int (ent day hs m)) H
theorem ok_soon (T : Txt K mg a) : FnOk P w K mg base CX0 1 a.f_l_soon a.d_l_soon ["_law_day", "_law_hours_here", "_law_moment"] sp_soon := by
  refine T.l_soon.fn.ok sc_l_soon (fun vs H Q E h => ?_) (fun cdv A outer s H vs Q E hr h => ?_)
  · obtain ⟨day, hv, hs, m, rfl, _⟩ := h
    rfl
  · obtain ⟨day, hv, hs, m, rfl, hd, hh, hok, hne, k⟩ := h
    have nd := sc_l_soon.nd
    refine ⟨_, pss_cons (ps_if (pt_cmpR op_isN (pv 1) pe_non (nomark _)) (pss_one (ps_ret (pv 2))) pss_nil)
      <| pss_cons (ps_set (i := 3) nd rfl (Or.inl rfl) (pe_op op_mod (pe_callTy call_int1 (by rfl) T.z_int (by decide +kernel) (pa_cons (pv 2) pa_nil)) (pv 0)))
      <| pss_cons (ps_set (i := 4) nd rfl (Or.inl rfl) pe_non)
      <| pss_cons (ps_for PassesOwn.never rfl (pi_tup (pv 1)) (pg_tup (by rfl) (pgs_cons (pg_name (i := 5) nd rfl (Or.inl rfl)) (pgs_cons (pg_name (i := 6) nd rfl (Or.inl rfl)) pgs_nil)))
        (pss_cons (ps_set (i := 7) nd rfl (Or.inl rfl) (pe_op op_add (pv 2) (pe_callB (call_max2 rfl) (by rfl) T.z_max (by decide +kernel) (pa_cons pe_int (pa_cons (pe_op op_sub (pv 5) (pv 3)) pa_nil)))))
        <| pss_cutW (ps_if (pt_cmpR op_ge (pv 3) (pv 6) (nomark _)) (pss_one (ps_set (i := 7) nd rfl (Or.inl rfl) (pe_op op_add (pe_op op_sub (pe_op op_add (pv 2) (pv 0)) (pv 3)) (pv 5)))) pss_nil)
        <| pss_one (ps_if (pw_or (pt_cmpR op_isN (pv 4) pe_non (nomark _)) (pw_or1 (pt_cmpR op_lt (pv 7) (pv 4) (nomark _)))).pt (pss_one (ps_set (i := 4) nd rfl (Or.inl rfl) (pv 7))) pss_nil)))
      <| pss_one (ps_ret (pv 4)), ?_⟩
    cases hs with
    | none =>
      obtain rfl : hv = .non := hh
      exact ⟨_, rfl, rfl, _, rfl, iteT ⟨_, rfl, k⟩⟩
    | some ps =>
      obtain ⟨t, ts, rfl, ht, hp⟩ := hh
      refine ⟨_, rfl, rfl, _, rfl, iteF ?_⟩
      refine ⟨_, rfl, .inl ⟨_, rfl, _, rfl, _, _, rfl, rfl, hd, ?_⟩⟩
      refine ⟨_, rfl, t, rfl, ⟨ts, SqT.of ht⟩, ?_⟩
      have hl := paired_len hp
      refine for_it (walk_tup (K := K) (a := t) (xs := ts)) (fun i σ H' => H' = H ∧ ∃ bo v5 v6 v7, σ = [some (.int day), some (.ref t), some (.int m), some (.int (m % day)), some (bestV bo), v5, v6, v7] ∧ Best (soon1 day (m % day) m) (ps.take i) bo)
        ⟨rfl, none, none, none, none, rfl, rfl⟩ (fun i σ H' _ h => by rw [h.1]; exact SqT.of ht) ?_ ?_
      · rintro i x σ H1 H2 hi ⟨rfl, bo, v5, v6, v7, rfl, hb⟩ ⟨rfl, hx⟩
        obtain ⟨pr, hpr, t2, rfl, ht2⟩ := paired_get hp hx
        have et : ps.take (i + 1) = ps.take i ++ [pr] := by rw [List.take_add_one, hpr]; rfl
        refine ⟨t2, _, rfl, SqT.of ht2, rfl, _, _, rfl, _, _, rfl, rfl, ?_⟩
        refine ⟨_, rfl, _, rfl, _, rfl, _, _, rfl, rfl, _, _, rfl, _, _, rfl, rfl, ?_⟩
        refine ⟨fun σ' H' => H' = H2 ∧ σ' = [some (.int day), some (.ref t), some (.int m), some (.int (m % day)), some (bestV bo), some (.int pr.1), some (.int pr.2), some (.int (soon1 day (m % day) m pr))], ?_, ?_⟩
        · refine ⟨_, rfl, _, rfl, _, _, rfl, rfl, _, rfl, ite2 (fun e => ?_) (fun e => ?_)⟩
          · have e := of_decide_eq_true e
            refine ⟨_, rfl, _, rfl, _, _, rfl, rfl, _, rfl, _, _, rfl, rfl, _, rfl, _, _, rfl, rfl, ?_⟩
            refine ⟨rfl, ?_⟩
            have : soon1 day (m % day) m pr = m + day - m % day + pr.1 := by unfold soon1; rw [if_pos e]
            rw [this]
            rfl
          · have e : ¬ pr.2 ≤ m % day := fun z => e (decide_eq_true z)
            refine ⟨rfl, ?_⟩
            have : soon1 day (m % day) m pr = m + (if pr.1 - m % day > 0 then pr.1 - m % day else 0) := by unfold soon1; rw [if_neg e]
            rw [this]
            rfl
        rintro σ' H' ⟨rfl, rfl⟩
        refine ⟨_, rfl, rfl, _, rfl, ?_⟩
        cases bo with
        | none =>
          refine iteT ⟨_, rfl, rfl, some _, _, _, _, rfl, ?_⟩
          rw [et]
          exact hb.new fun b z => by cases z
        | some b =>
          refine iteF ⟨_, rfl, _, rfl, _, _, rfl, rfl, _, rfl, ite2 (fun e => ?_) (fun e => ?_)⟩
          · refine ⟨_, rfl, rfl, some _, _, _, _, rfl, ?_⟩
            rw [et]
            exact hb.new fun b' z => by cases z; exact of_decide_eq_true e
          · refine ⟨rfl, some b, _, _, _, rfl, ?_⟩
            rw [et]
            exact hb.old fun z => e (decide_eq_true z)
      · rintro σ H1 ⟨rfl, bo, v5, v6, v7, rfl, hb⟩
        rw [hl, List.take_length] at hb
        have e := best_ent hd hok.2 (fun z => hne (congrArg some z)) hb
        subst e
        exact ⟨_, rfl, k⟩

/-! ### _law_may -/
def sp_may : Sp := fun vs H Q _ => ∃ p k pl b v P r, vs = [.ref p, .str k, .str pl, befV b, v] ∧ PartsAt H p P ∧ Wf P ∧ RoadAt H v r ∧ r ∈ P.roads ∧ (∀ x, b = some x → GoodName x) ∧ ∀ c H', (c = true ↔ May P k pl b r) → Same H H' → Q (.bl c) H'
theorem ok_may (T : Txt K mg a) : FnOk P w K mg base CX0 1 a.f_l_may a.d_l_may ["_law_parts", "_law_kind", "_law_place", "_law_before", "_law_road_here"] sp_may := by
  refine T.l_may.fn.ok sc_l_may (fun vs H Q E h => ?_) (fun cdv A outer s H vs Q E hr h => ?_)
  · obtain ⟨p, k, pl, b, v, P, r, rfl, _⟩ := h
    rfl
  · obtain ⟨p, kd, pl, b, v, P, r, rfl, hP, W, ⟨t, kk, hh, rfl, ht, hk2, hhrs⟩, hrm, hb, k⟩ := h
    have nd := sc_l_may.nd
    refine ⟨_, pss_cons (ps_if (pw_or (pt_cmpR op_ne (pe_ix (r := rIxT K) ix_tup (pv 4) pe_int (fun _ _ => rfl)) (pv 2) (nomark _))
          (pw_or (pt_cmpR op_notIn_seq (pv 1) (pe_ix (r := rIxT K) ix_tup (pv 4) pe_int (fun _ _ => rfl)) (by rfl))
          (pw_or1 (pt_cmpR (op_eqD hr.units) (pe_ix (r := rIxT K) ix_tup (pv 4) pe_int (fun _ _ => rfl)) (pe_tup pa_nil) (nomark _))))).pt (pss_one (ps_ret pe_bl)) pss_nil)
      (pss_one (ps_ret (pe_or (pe_cmp (pc_isN (pv 3))) (pe_one (pe_cmpR (op_notInS (room65 hr)) (pe_tup (pa_cons (pv 3) (pa_cons (pe_ix (r := rIxT K) ix_tup (pv 4) pe_int (fun _ _ => rfl)) pa_nil))) (pe_ix ix_list (pv 0) pe_int (fun _ _ => rfl)) (by rfl)))))), ?_⟩
    refine ⟨_, rfl, t, _, 1, _, rfl, rfl, SqT.of ht, atI_nat (j := 1) rfl, _, rfl, rfl, _, rfl, ite2 (fun e => iteT ?_) (fun e => ?_)⟩
    · have hne : ¬ r.start = pl := fun z => by
        rw [z] at e
        simp at e
      exact k false H ⟨fun z => Bool.noConfusion z, fun z => absurd z.1 hne⟩ (Same.refl H)
    have hst : r.start = pl := by
      by_cases z : r.start = pl
      · exact z
      · exact absurd (by simp [z]) e
    refine ⟨_, rfl, _, rfl, t, _, 4, _, rfl, rfl, SqT.of ht, atI_nat (j := 4) rfl, kk, _, rfl, .inr (SqT.of hk2), rfl, flat_strs _, _, rfl, ?_⟩
    rw [if_pos rfl, inV_str]
    by_cases hk : kd ∈ r.kinds
    · rw [decide_eq_true hk]
      refine iteF ?_
      refine ⟨_, rfl, t, _, 5, _, rfl, rfl, SqT.of ht, atI_nat (j := 5) rfl, Nat.zero_le _, fun q hq => ?_⟩
      have sm : Same H (upd H q (.tup [])) := same_new hq
      refine ⟨encH r.hours, .tuple [], (hhrs.keep sm.keep).dp, .tup (SqT.of upd_same) .nil, encH_shaped _, nil_shaped, _, rfl, ?_⟩
      rw [encH_nil]
      refine ite2 (fun e => ?_) (fun e => ?_)
      · exact k false _ ⟨fun z => Bool.noConfusion z, fun z => absurd (of_decide_eq_true e) z.2.2.1⟩ sm
      · have hh : r.hours ≠ some [] := fun z => e (decide_eq_true z)
        refine ⟨_, rfl, _, rfl, ?_⟩
        cases b with
        | none =>
          refine iteT ?_
          exact k true _ ⟨fun _ => ⟨hst, hk, hh, fun _ z => (nomatch z)⟩, fun _ => rfl⟩ sm
        | some x =>
          refine iteF ?_
          obtain ⟨lpl, lkd, lrd, lbr, rvs, bvs, g0, g1, g2, g3, g4, g5, g6⟩ := hP.ex
          refine ⟨_, rfl, _, rfl, t, _, 0, _, rfl, rfl, SqT.of (sm _ _ ht), atI_nat (j := 0) rfl, by show 2 ≤ sizeLine; decide, fun t2 ht2 => ?_⟩
          have s2 := sm.trans (same_new (o := .tup [.str x, .str r.name]) ht2)
          refine ⟨_, rfl, p, _, 4, _, rfl, rfl, SqL.of (s2 _ _ g0), atI_nat (j := 4) rfl, ?_⟩
          refine ⟨encP (x, r.name), P.bars.map encP, BarAt.dp ⟨t2, rfl, upd_same⟩, .inl (.lst (SqL.of (s2 _ _ g5)) (bars_dp (Paired.mapP g6 fun _ _ z => z.keep s2.keep))), enc_shaped ⟨hb x rfl, (W.roads r hrm).name⟩, encs_lay W.bar, ?_⟩
          rw [if_pos rfl, any_enc]
          refine k _ _ ⟨fun z => ⟨hst, hk, hh, fun y hy => ?_⟩, fun z => ?_⟩ s2
          · cases hy
            intro hm
            rw [decide_eq_true hm] at z
            cases z
          · have := z.2.2.2 x rfl
            rw [decide_eq_false this]
            rfl
    · rw [decide_eq_false hk]
      refine iteT ?_
      exact k false H ⟨fun z => Bool.noConfusion z, fun z => absurd z.2.1 hk⟩ (Same.refl H)

/-! ### _law_trip -/
def sp_trip : Sp := fun vs H Q _ => ∃ (p l : Addr) (P : Parts) (ns : List Int), vs = [.ref p, .ref l, .int 92] ∧ PartsAt H p P ∧ Wf P ∧ H l = some (.lst (ns.map V.int)) ∧ ns.length = 140 ∧
  ∀ k s m t H', k ∈ P.kinds → s ∈ P.places → Same H H' → H' t = some (.tup [.str k, .str s, .int m]) → Q (.ref t) H'
theorem ok_trip (T : Txt K mg a) : FnOk P w K mg base CX0 1 a.f_l_trip a.d_l_trip ["_law_parts", "_law_numbers_here", "_law_at"] sp_trip := by
  refine T.l_trip.fn.ok sc_l_trip (fun vs H Q E h => ?_) (fun cdv A outer s H vs Q E hr h => ?_)
  · obtain ⟨p, l, P, ns, rfl, _⟩ := h
    rfl
  · obtain ⟨p, l, P, ns, rfl, hP, W, hl, hn, k⟩ := h
    obtain ⟨lpl, lkd, lrd, lbr, rvs, bvs, g0, g1, g2, g3, g4, g5, g6⟩ := hP.ex
    obtain ⟨g, hg⟩ := gets hn
    have nd := sc_l_trip.nd
    have hl0 := SqL.of (K := K) hl
    have h0 := SqL.of (K := K) g0
    refine ⟨_, pss_cons (ps_set (i := 3) nd rfl (Or.inl rfl) (pe_op op_mod (pe_callTy call_int1 (by rfl) T.z_int (by decide +kernel) (pa_cons (pe_ix ix_list (pv 1) (pe_op op_add (pv 2) pe_int) (fun _ _ => rfl)) pa_nil))
          (pe_op op_add (pe_op op_mul pe_int (pe_ix ix_list (pv 0) pe_int (fun _ _ => rfl))) pe_int)))
      <| pss_cutW (ps_if (pt_cmpR op_eq (pe_op op_mod (pe_callTy call_int1 (by rfl) T.z_int (by decide +kernel) (pa_cons (pe_ix ix_list (pv 1) (pe_op op_add (pv 2) pe_int) (fun _ _ => rfl)) pa_nil)) pe_int) pe_int (nomark _))
          (pss_one (ps_set (i := 3) nd rfl (Or.inl rfl) (pe_op op_mul (pe_ix ix_list (pv 1) (pe_op op_add (pv 2) pe_int) (fun _ _ => rfl)) pe_int))) pss_nil)
      <| pss_one (ps_ret (pe_tup (pa_cons (pe_ix ix_list (pe_ix ix_list (pv 0) pe_int (fun _ _ => rfl)) (pe_op op_mod (pe_callTy call_int1 (by rfl) T.z_int (by decide +kernel) (pa_cons (pe_ix ix_list (pv 1) (pv 2) (fun _ _ => rfl)) pa_nil))
            (pe_callB call_len_seq (by rfl) T.z_len PySem.boot_len (pa_cons (pe_ix ix_list (pv 0) pe_int (fun _ _ => rfl)) pa_nil))) (fun _ _ => rfl))
          (pa_cons (pe_ix ix_list (pe_ix ix_list (pv 0) pe_int (fun _ _ => rfl)) (pe_op op_mod (pe_callTy call_int1 (by rfl) T.z_int (by decide +kernel) (pa_cons (pe_ix ix_list (pv 1) (pe_op op_add (pv 2) pe_int) (fun _ _ => rfl)) pa_nil))
            (pe_callB call_len_seq (by rfl) T.z_len PySem.boot_len (pa_cons (pe_ix ix_list (pv 0) pe_int (fun _ _ => rfl)) pa_nil))) (fun _ _ => rfl)) (pa_cons (pv 3) pa_nil))))), ?_⟩
    have hday := W.day
    refine ⟨_, rfl, _, rfl, _, _, rfl, rfl, l, _, _, _, rfl, rfl, hl0, hg (92 + 2) (by decide) (by decide), .inl ⟨_, rfl, _, rfl, p, _, 0, _, rfl, rfl, h0, atI_nat (j := 0) rfl, _, _, rfl, rfl, .inl (by decide), _, _, rfl, rfl, _, _, rfl, rfl, (by show 0 < 3 * P.day + 1; omega), ?_⟩⟩
    refine ⟨fun σ' H' => H' = H ∧ ∃ m : Int, σ' = [some (.ref p), some (.ref l), some (.int 92), some (.int m)], ?_, ?_⟩
    · refine ⟨_, rfl, _, rfl, _, _, rfl, rfl, l, _, _, _, rfl, rfl, hl0, hg (92 + 3) (by decide) (by decide), .inl ⟨_, rfl, _, _, rfl, rfl, (by show (0 : Int) < 9; decide), rfl, _, rfl, ite2 (fun _ => ?_) (fun _ => ?_)⟩⟩
      · refine ⟨_, rfl, _, rfl, _, _, rfl, rfl, l, _, _, _, rfl, rfl, hl0, hg (92 + 2) (by decide) (by decide), _, _, rfl, rfl, .inr (by decide), ?_⟩
        exact ⟨rfl, _, rfl⟩
      · exact ⟨rfl, _, rfl⟩
    rintro σ' H' ⟨rfl, m, rfl⟩
    have h1 := W.kindsL
    have h2 := W.placesL
    have m1 : ∀ z : Int, 0 ≤ z % ((P.kinds.length : Nat) : Int) ∧ z % ((P.kinds.length : Nat) : Int) < (P.kinds.length : Nat) := fun z => ⟨Int.emod_nonneg _ (by omega), Int.emod_lt_of_pos _ (by omega)⟩
    have m2 : ∀ z : Int, 0 ≤ z % ((P.places.length : Nat) : Int) ∧ z % ((P.places.length : Nat) : Int) < (P.places.length : Nat) := fun z => ⟨Int.emod_nonneg _ (by omega), Int.emod_lt_of_pos _ (by omega)⟩
    obtain ⟨kk, ek, hk⟩ := txt_at (xs := P.kinds) (m1 (g 92)).1 (m1 (g 92)).2
    obtain ⟨ss, es, hs⟩ := txt_at (xs := P.places) (m2 (g (92 + 1))).1 (m2 (g (92 + 1))).2
    have l1 : ((P.kinds.map V.str).length : Int) = (P.kinds.length : Nat) := by rw [List.length_map]
    have l2 : ((P.places.map V.str).length : Int) = (P.places.length : Nat) := by rw [List.length_map]
    rw [← l1] at ek
    rw [← l2] at es
    refine ⟨_, rfl, p, _, 2, _, rfl, rfl, h0, atI_nat (j := 2) rfl, _, rfl, _, rfl, l, _, _, _, rfl, rfl, hl0, hg 92 (by decide) (by decide), .inl ⟨_, rfl, _, rfl, p, _, 2, _, rfl, rfl, h0, atI_nat (j := 2) rfl, lkd, _, rfl, .inl (SqL.of g2), _, _, rfl, rfl, (by rw [List.length_map]; omega), lkd, _, _, _, rfl, rfl, SqL.of g2, ek, ?_⟩⟩
    refine ⟨_, rfl, p, _, 1, _, rfl, rfl, h0, atI_nat (j := 1) rfl, _, rfl, _, rfl, _, _, rfl, rfl, l, _, _, _, rfl, rfl, hl0, hg (92 + 1) (by decide) (by decide), .inl ⟨_, rfl, _, rfl, p, _, 1, _, rfl, rfl, h0, atI_nat (j := 1) rfl, lpl, _, rfl, .inl (SqL.of g1), _, _, rfl, rfl, (by rw [List.length_map]; omega), lpl, _, _, _, rfl, rfl, SqL.of g1, es, ?_⟩⟩
    refine ⟨_, rfl, (by show 3 ≤ sizeLine; decide), fun t ht => ?_⟩
    exact k kk ss m t _ (List.mem_of_getElem? hk) (List.mem_of_getElem? hs) (same_new ht) upd_same
end
end Wp
/-! _law_labels. -/
namespace Wp
open PySem PySem.Spec PyProof.Rows L2
theorem nodup_len : ∀ {l1 l2 : List Str}, l1.Nodup → (∀ x ∈ l1, x ∈ l2) → l1.length ≤ l2.length
  | [], _, _, _ => Nat.zero_le _
  | x :: l, l2, h, hs => by
    rw [List.nodup_cons] at h
    have hx := hs x (List.mem_cons_self ..)
    have ih := nodup_len (l1 := l) (l2 := l2.erase x) h.2 fun y hy => (List.mem_erase_of_ne (fun (e : y = x) => h.1 (e ▸ hy))).mpr (hs y (List.mem_cons_of_mem _ hy))
    rw [List.length_erase_of_mem hx] at ih
    have := List.length_pos_of_mem hx
    rw [List.length_cons]
    omega
/-- all arrivals with at most t others ahead of them stand in D -/
structure UpTo (P : Parts) (k s : Str) (m : Int) (t : Nat) (D : Tab) : Prop where
  base : ∀ r ∈ P.roads, May P k s none r → ∃ v', v' ≤ arr P.day r m ∧ get D r.name = some v'
  all : ∀ r v, Lab P k s m r v → rank P k s m v ≤ t → ∃ v', v' ≤ v ∧ get D r.name = some v'
theorem UpTo.zero {P : Parts} (G : Good P) {k s : Str} {m : Int} {D : Tab} (h0 : ∀ r ∈ P.roads, May P k s none r → ∃ v', v' ≤ arr P.day r m ∧ get D r.name = some v') : UpTo P k s m 0 D := by
  refine ⟨h0, ?_⟩
  classical
  intro r v h hr
  cases h with
  | base h hm => exact h0 r h hm
  | @step r' o v' h hm hy =>
    exfalso
    have : 0 < rank P k s m (arr P.day r v') := by
      unfold rank
      refine List.countP_pos_iff.mpr ⟨r', h.mem, ?_⟩
      exact decide_eq_true ⟨v', h, arr_gt G hm v'⟩
    omega
/-- the roads of l that may follow r have their arrival in E -/
def Done (P : Parts) (k : Str) (D E : Tab) (r : Road) (l : List Road) : Prop := ∀ v, get D r.name = some v → ∀ o ∈ l, May P k r.stop (some r.name) o → ∃ v', v' ≤ arr P.day o v ∧ get E o.name = some v'
theorem Done.le {P : Parts} {k : Str} {D E F : Tab} {r : Road} {l : List Road} (h : Done P k D E r l) (le : Le E F) : Done P k D F r l := fun v hv o ho hm => by
  obtain ⟨v', h1, h2⟩ := h v hv o ho hm
  obtain ⟨v'', h3, h4⟩ := le _ _ h2
  exact ⟨v'', by omega, h4⟩
theorem UpTo.succ {P : Parts} (G : Good P) {k s : Str} {m : Int} {t : Nat} {D E : Tab} (h0 : UpTo P k s m t D) (le : Le D E) (hd : ∀ r ∈ P.roads, Done P k D E r P.roads) : UpTo P k s m (t + 1) E := by
  have hb : ∀ r ∈ P.roads, May P k s none r → ∃ v', v' ≤ arr P.day r m ∧ get E r.name = some v' := fun r h hm => by
    obtain ⟨v', h1, h2⟩ := h0.base r h hm
    obtain ⟨v'', h3, h4⟩ := le _ _ h2
    exact ⟨v'', by omega, h4⟩
  refine ⟨hb, ?_⟩
  classical
  intro r v h hr
  cases h with
  | base h hm => exact hb r h hm
  | @step r' o v' h hm hy =>
    obtain ⟨d, hd', hdv, hmin⟩ := h.least G _ (Nat.le_refl _)
    have hlt : rank P k s m d < rank P k s m (arr P.day r v') := by
      have g1 := arr_gt G hm v'
      unfold rank
      refine countP_lt h.mem (fun x hx => ?_) (decide_eq_true ⟨v', h, g1⟩) (decide_eq_false fun ⟨v'', a, b⟩ => ?_)
      · obtain ⟨v'', a, b⟩ := of_decide_eq_true hx
        exact decide_eq_true ⟨v'', a, by omega⟩
      · have := hmin v'' a
        omega
    obtain ⟨c, h1, h2⟩ := h0.all r' d hd' (by omega)
    obtain ⟨c', h3, h4⟩ := hd r' h.mem c h2 r hm hy
    have := arr_mono G hm (show c ≤ v' by omega)
    exact ⟨c', by omega, h4⟩
theorem UpTo.full {P : Parts} {k s : Str} {m : Int} {D : Tab} (h : UpTo P k s m P.roads.length D) : Full P k s m D := fun r v hL => h.all r v hL (rank_le P k s m v)
theorem put_le {D : Tab} {n : Str} {v : Int} (h : ∀ w, get D n = some w → v ≤ w) : Le D (put D n v) := fun j w hj => by
  rw [get_put]
  by_cases e : j = n
  · rw [if_pos e]
    exact ⟨v, h w (e ▸ hj), rfl⟩
  · rw [if_neg e]
    exact ⟨w, Int.le_refl _, hj⟩
theorem Sound.put {P : Parts} {k s : Str} {m : Int} {D : Tab} (h : Sound P k s m D) {r : Road} {v : Int} (hL : Lab P k s m r v) : Sound P k s m (put D r.name v) := fun j w hj => by
  rw [get_put] at hj
  by_cases e : j = r.name
  · rw [if_pos e] at hj
    cases hj
    exact ⟨r, hL.mem, e.symm, hL⟩
  · rw [if_neg e] at hj
    exact h j w hj
/-- what is kept of the table in hand -/
structure Fine (P : Parts) (k s : Str) (m : Int) (D : Tab) : Prop where
  sound : Sound P k s m D
  nodup : (D.map (·.1)).Nodup
theorem Fine.put {P : Parts} {k s : Str} {m : Int} {D : Tab} (h : Fine P k s m D) {r : Road} {v : Int} (hL : Lab P k s m r v) : Fine P k s m (put D r.name v) := ⟨h.sound.put hL, put_nodup h.nodup _ _⟩
theorem Fine.nil (P : Parts) (k s : Str) (m : Int) : Fine P k s m [] := ⟨(fun n v h => by cases h), List.nodup_nil⟩
theorem Fine.key {P : Parts} {k s : Str} {m : Int} {D : Tab} (h : Fine P k s m D) : ∀ x ∈ D.map (·.1), x ∈ P.roads.map (·.name) := fun x hx => by
  obtain ⟨p, hp, rfl⟩ := List.mem_map.mp hx
  obtain ⟨r, hr, e, _⟩ := h.sound p.1 p.2 (get_of_mem h.nodup (by obtain ⟨a, b⟩ := p; exact hp))
  exact List.mem_map.mpr ⟨r, hr, e⟩
theorem Fine.len {P : Parts} {k s : Str} {m : Int} {D : Tab} (h : Fine P k s m D) : D.length ≤ P.roads.length := by
  have := nodup_len h.nodup h.key
  rw [List.length_map, List.length_map] at this
  exact this
theorem Fine.lab {P : Parts} (W : Wf P) {k s : Str} {m : Int} {D : Tab} (h : Fine P k s m D) {r : Road} (hr : r ∈ P.roads) {v : Int} (hg : get D r.name = some v) : Lab P k s m r v := by
  obtain ⟨r', hr', e, hL⟩ := h.sound _ _ hg
  rw [road_inj W.roadsN hr' hr e] at hL
  exact hL
theorem take_snoc {rs : List Road} {i : Nat} {r : Road} (h : rs[i]? = some r) : rs.take (i + 1) = rs.take i ++ [r] := by rw [List.take_add_one, h]; rfl
section
variable {P : Program} {w : World} {K : PySem.W.Frag} {mg : Str → Option Value} {base : Heap} {a : Ad}
def sp_labels : Sp := fun vs H Q _ => ∃ p k s m P, vs = [.ref p, .str k, .str s, .int m] ∧ PartsAt H p P ∧ Wf P ∧ ∀ D d H', Fine P k s m D → Full P k s m D → H d = none → Same H H' → H' d = some (.dK (kvsOf D)) → Q (.ref d) H'
theorem ok_labels (T : Txt K mg a) : FnOk P w K mg base CX0 2 a.f_l_labels a.d_l_labels ["_law_parts", "_law_kind", "_law_start", "_law_moment"] sp_labels := by
  refine T.l_labels.fn.ok sc_l_labels (fun vs H Q E h => ?_) (fun cdv A outer s H vs Q E hr h => ?_)
  · obtain ⟨p, k, s, m, P, rfl, _⟩ := h
    rfl
  · obtain ⟨p, kd, st, m, P, rfl, hP, W, k⟩ := h
    have nd := sc_l_labels.nd
    have hu := hu_of hr
    have G := W.good
    refine ⟨_, pss_cons (ps_set (i := 4) nd rfl (Or.inl rfl) pe_dnewK)
      <| pss_cons (ps_for PassesOwn.never rfl (pi_list (pe_ix ix_list (pv 0) pe_int (fun _ _ => rfl))) (pg_name (i := 5) nd rfl (Or.inl rfl))
        (pss_one (ps_if (pt_val (pe_call (ok_may T) hr (by rfl) T.l_may.gl T.l_may.fn.kp T.l_may.bi .nil pass0 (pa_cons (pv 0) (pa_cons (pv 1) (pa_cons (pv 2) (pa_cons pe_non (pa_cons (pv 5) pa_nil))))))) (pss_one (ps_dput hu (pv 4) (pe_ix (r := rIxT K) ix_tup (pv 5) pe_int (fun _ _ => rfl)) (pe_op op_add (pe_call (ok_soon T) hr (by rfl) T.l_soon.gl T.l_soon.fn.kp T.l_soon.bi .nil pass0 (pa_cons (pe_ix ix_list (pv 0) pe_int (fun _ _ => rfl)) (pa_cons (pe_ix (r := rIxT K) ix_tup (pv 5) pe_int (fun _ _ => rfl)) (pa_cons (pv 3) pa_nil)))) (pe_ix (r := rIxT K) ix_tup (pv 5) pe_int (fun _ _ => rfl))) rfl)) pss_nil)))
      <| pss_cons (ps_for PassesOwn.never rfl (pi_range1 rfl T.z_range (pa_cons (pe_callB call_len_seq (by rfl) T.z_len PySem.boot_len (pa_cons (pe_ix ix_list (pv 0) pe_int (fun _ _ => rfl)) pa_nil)) pa_nil)) (pg_name (i := 6) nd rfl (Or.inl rfl))
        (pss_one (ps_for PassesOwn.never rfl (pi_list (pe_ix ix_list (pv 0) pe_int (fun _ _ => rfl))) (pg_name (i := 5) nd rfl (Or.inl rfl))
        (pss_one (ps_if (pt_cmp (pc_din hu (pe_ix (r := rIxT K) ix_tup (pv 5) pe_int (fun _ _ => rfl)) (pv 4))) (pss_one (ps_for PassesOwn.never rfl (pi_list (pe_ix ix_list (pv 0) pe_int (fun _ _ => rfl))) (pg_name (i := 7) nd rfl (Or.inl rfl))
        (pss_one (ps_if (pt_val (pe_call (ok_may T) hr (by rfl) T.l_may.gl T.l_may.fn.kp T.l_may.bi .nil pass0 (pa_cons (pv 0) (pa_cons (pv 1) (pa_cons (pe_ix (r := rIxT K) ix_tup (pv 5) pe_int (fun _ _ => rfl)) (pa_cons (pe_ix (r := rIxT K) ix_tup (pv 5) pe_int (fun _ _ => rfl)) (pa_cons (pv 7) pa_nil))))))) (pss_cons (ps_set (i := 8) nd rfl (Or.inl rfl) (pe_op op_add (pe_call (ok_soon T) hr (by rfl) T.l_soon.gl T.l_soon.fn.kp T.l_soon.bi .nil pass0 (pa_cons (pe_ix ix_list (pv 0) pe_int (fun _ _ => rfl)) (pa_cons (pe_ix (r := rIxT K) ix_tup (pv 7) pe_int (fun _ _ => rfl)) (pa_cons (pe_dget hu (pv 4) (pe_ix (r := rIxT K) ix_tup (pv 5) pe_int (fun _ _ => rfl)) (fun _ _ => rfl)) pa_nil)))) (pe_ix (r := rIxT K) ix_tup (pv 7) pe_int (fun _ _ => rfl))))
          <| pss_one (ps_if (pw_or (pt_cmp (pc_dnotin hu (pe_ix (r := rIxT K) ix_tup (pv 7) pe_int (fun _ _ => rfl)) (pv 4))) (pw_or1 (pt_cmpR op_lt (pv 8) (pe_dget hu (pv 4) (pe_ix (r := rIxT K) ix_tup (pv 7) pe_int (fun _ _ => rfl)) (fun _ _ => rfl)) (nomark _)))).pt (pss_one (ps_dput hu (pv 4) (pe_ix (r := rIxT K) ix_tup (pv 7) pe_int (fun _ _ => rfl)) (pv 8) rfl)) pss_nil)) pss_nil)))) pss_nil)))))
      <| pss_one (ps_ret (pv 4)), ?_⟩
    intro d hd
    have s0 : Same H (upd H d (.dK [])) := same_new hd
    obtain ⟨lpl, lkd, lrd, lbr, rvs, bvs, g0, g1, g2, g3, g4, g5, g6⟩ := hP.ex
    have hvl := paired_len g4
    have hr9 := W.roadsL
    have X0 : ∀ {H' : Hp}, Same H H' → SqL K H' p [.int P.day, .ref lpl, .ref lkd, .ref lrd, .ref lbr] := fun s => SqL.of (s _ _ g0)
    have X3 : ∀ {H' : Hp}, Same H H' → SqL K H' lrd rvs := fun s => SqL.of (s _ _ g3)
    have hln : ∀ {D : Tab}, Fine P kd st m D → (kvsOf D).length < sizeLine := fun h => by
      have := h.len
      rw [kvs_len]
      exact line10k (by omega)
    refine ⟨_, rfl, p, _, 3, _, rfl, rfl, X0 s0, atI_nat (j := 3) rfl, lrd, rfl, ⟨_, X3 s0⟩, ?_⟩
    refine for_it (walk_list (K := K) (a := lrd) (xs := rvs)) (fun i σ H' => Same H H' ∧ ∃ v5 D, σ = [some (.ref p), some (.str kd), some (.str st), some (.int m), some (.ref d), v5, none, none, none] ∧ H' d = some (.dK (kvsOf D)) ∧ Fine P kd st m D ∧
        ∀ r ∈ P.roads.take i, May P kd st none r → ∃ v', v' ≤ arr P.day r m ∧ get D r.name = some v')
      ⟨s0, none, [], rfl, upd_same, Fine.nil _ _ _ _, fun r hr => by cases hr⟩ (fun i σ H' _ h => X3 h.1) ?_ ?_
    · rintro i x σ H1 H2 hi ⟨sm, v5, D, rfl, hD, hF, hB⟩ ⟨rfl, hx⟩
      obtain ⟨r, hr1, hra⟩ := paired_get g4 hx
      have hrm := List.mem_of_getElem? hr1
      have hra1 := hra.keep sm.keep
      obtain ⟨t, kk, hh, rfl, ht, hkk, hhh⟩ := id hra1
      refine ⟨_, rfl, _, rfl, _, rfl, _, rfl, p, kd, st, none, _, P, r, rfl, hP.same sm, W, hra1, hrm, (fun _ z => nomatch z), fun c H3 hc s3 => ?_⟩
      have s13 := sm.trans s3
      have hD3 := s3 _ _ hD
      have ht3 := SqT.of (K := K) (s3 _ _ ht)
      refine ⟨c, rfl, ?_⟩
      cases c with
      | false =>
        refine iteF ⟨s13, _, D, rfl, hD3, hF, fun o ho hm => ?_⟩
        rw [take_snoc hr1] at ho
        rcases List.mem_append.mp ho with ho | ho
        · exact hB o ho hm
        · rw [List.mem_singleton.mp ho] at hm
          exact absurd (hc.mpr hm) Bool.false_ne_true
      | true =>
        have hm := hc.mp rfl
        refine iteT ?_
        refine ⟨_, rfl, p, _, 0, _, rfl, rfl, X0 s13, atI_nat (j := 0) rfl, _, rfl, t, _, 5, _, rfl, rfl, ht3, atI_nat (j := 5) rfl, _, rfl, P.day, hh, r.hours, m, rfl, G.day, hhh.keep s3.keep, (G.roads r hrm).hours, hm.2.2.1, ?_⟩
        refine ⟨_, rfl, t, _, 3, _, rfl, rfl, ht3, atI_nat (j := 3) rfl, _, _, rfl, rfl, ?_⟩
        refine ⟨_, rfl, _, rfl, t, _, 0, _, rfl, rfl, ht3, atI_nat (j := 0) rfl, d, _, rfl, DPut.k (k := Sum.inr r.name) hD3 (hln hF), ?_⟩
        rw [putK_kvs]
        have hL : Lab P kd st m r (arr P.day r m) := .base hrm hm
        refine ⟨same_upd_new s13 hd, _, put D r.name (arr P.day r m), rfl, upd_same, hF.put hL, fun o ho hmo => ?_⟩
        rw [take_snoc hr1] at ho
        rw [get_put]
        by_cases e : o.name = r.name
        · rw [if_pos e]
          have ho2 : o ∈ P.roads := by
            rcases List.mem_append.mp ho with ho | ho
            · exact List.mem_of_mem_take ho
            · rw [List.mem_singleton.mp ho]
              exact hrm
          rw [road_inj W.roadsN ho2 hrm e]
          exact ⟨_, Int.le_refl _, rfl⟩
        · rw [if_neg e]
          rcases List.mem_append.mp ho with ho | ho
          · exact hB o ho hmo
          · exact absurd (congrArg Road.name (List.mem_singleton.mp ho)) e
    · rintro σ H1 ⟨sm, v5, D, rfl, hD, hF, hB⟩
      rw [hvl, List.take_length] at hB
      refine ⟨_, rfl, p, _, 3, _, rfl, rfl, X0 sm, atI_nat (j := 3) rfl, lrd, _, rfl, .inl (X3 sm), _, rfl, by omega, by omega, ?_⟩
      refine for_it walk_range (fun t σ H' => Same H H' ∧ ∃ v5 v6 v7 v8 D, σ = [some (.ref p), some (.str kd), some (.str st), some (.int m), some (.ref d), v5, v6, v7, v8] ∧ H' d = some (.dK (kvsOf D)) ∧ Fine P kd st m D ∧ UpTo P kd st m t D)
        ⟨sm, v5, none, none, none, D, rfl, hD, hF, UpTo.zero G hB⟩ (fun _ _ _ _ _ => trivial) ?_ ?_
      · rintro t x σ H2 H3 ht ⟨sm, v5, v6, v7, v8, D, rfl, hD, hF, hU⟩ ⟨rfl, rfl⟩
        refine ⟨_, rfl, p, _, 3, _, rfl, rfl, X0 sm, atI_nat (j := 3) rfl, lrd, rfl, ⟨_, X3 sm⟩, ?_⟩
        refine for_it (walk_list (K := K) (a := lrd) (xs := rvs)) (fun i σ H' => Same H H' ∧ ∃ v5 v7 v8 E, σ = [some (.ref p), some (.str kd), some (.str st), some (.int m), some (.ref d), v5, some (.int (0 + (t : Int))), v7, v8] ∧ H' d = some (.dK (kvsOf E)) ∧ Fine P kd st m E ∧ Le D E ∧
            ∀ r ∈ P.roads.take i, Done P kd D E r P.roads)
          ⟨sm, v5, v7, v8, D, rfl, hD, hF, Le.refl _, fun r hr => by cases hr⟩ (fun i σ H' _ h => X3 h.1) ?_ ?_
        · rintro i x σ H4 H5 hi ⟨sm, v5, v7, v8, E, rfl, hE, hF, hle, hdn⟩ ⟨rfl, hx⟩
          obtain ⟨r, hr1, hra⟩ := paired_get g4 hx
          have hrm := List.mem_of_getElem? hr1
          obtain ⟨q, kk, hh, rfl, ht, hkk, hhh⟩ := id hra
          have T5 := SqT.of (K := K) (sm _ _ ht)
          refine ⟨_, rfl, q, _, 0, _, rfl, rfl, T5, atI_nat (j := 0) rfl, _, rfl, d, _, rfl, dget (.inl hE) r.name, _, rfl, ?_⟩
          cases hg : get E r.name with
          | none =>
            refine iteF ⟨sm, _, _, _, E, rfl, hE, hF, hle, fun o ho => ?_⟩
            rw [take_snoc hr1] at ho
            rcases List.mem_append.mp ho with ho | ho
            · exact hdn o ho
            · rw [List.mem_singleton.mp ho]
              intro v hv
              obtain ⟨v', _, h⟩ := hle _ _ hv
              rw [hg] at h
              cases h
          | some c0 =>
            refine iteT ?_
            refine ⟨_, rfl, p, _, 3, _, rfl, rfl, X0 sm, atI_nat (j := 3) rfl, lrd, rfl, ⟨_, X3 sm⟩, ?_⟩
            refine for_it (walk_list (K := K) (a := lrd) (xs := rvs)) (fun j σ H' => Same H H' ∧ ∃ v7 v8 E, σ = [some (.ref p), some (.str kd), some (.str st), some (.int m), some (.ref d), some (.ref q), some (.int (0 + (t : Int))), v7, v8] ∧ H' d = some (.dK (kvsOf E)) ∧ Fine P kd st m E ∧ Le D E ∧
                (∀ r ∈ P.roads.take i, Done P kd D E r P.roads) ∧ (∃ c, get E r.name = some c) ∧ Done P kd D E r (P.roads.take j))
              ⟨sm, v7, v8, E, rfl, hE, hF, hle, hdn, ⟨_, hg⟩, fun v hv o ho => by cases ho⟩ (fun i σ H' _ h => X3 h.1) ?_ ?_
            · rintro j x σ H6 H7 hj ⟨sm, v7, v8, E, rfl, hE, hF, hle, hdn, ⟨c, hc⟩, hdj⟩ ⟨rfl, hx⟩
              obtain ⟨o, ho1, hoa⟩ := paired_get g4 hx
              have hom := List.mem_of_getElem? ho1
              have hoa1 := hoa.keep sm.keep
              obtain ⟨q2, kk2, hh2, rfl, ht2, hkk2, hhh2⟩ := id hoa1
              have T7 := SqT.of (K := K) (sm _ _ ht)
              refine ⟨_, rfl, _, rfl, _, rfl, q, _, 2, _, rfl, rfl, T7, atI_nat (j := 2) rfl, _, rfl, q, _, 0, _, rfl, rfl, T7, atI_nat (j := 0) rfl, _, rfl, p, kd, r.stop, some r.name, _, P, o, rfl, hP.same sm, W, hoa1, hom, (fun x z => by cases z; exact (W.roads r hrm).name), fun b H8 hb s8 => ?_⟩
              have s78 := sm.trans s8
              have hE8 := s8 _ _ hE
              refine ⟨b, rfl, ?_⟩
              cases b with
              | false =>
                refine iteF ⟨s78, _, _, E, rfl, hE8, hF, hle, hdn, ⟨c, hc⟩, fun v hv o' ho' hm => ?_⟩
                rw [take_snoc ho1] at ho'
                rcases List.mem_append.mp ho' with ho' | ho'
                · exact hdj v hv o' ho' hm
                · rw [List.mem_singleton.mp ho'] at hm
                  exact absurd (hb.mpr hm) Bool.false_ne_true
              | true =>
                have hm := hb.mp rfl
                have T8 := SqT.of (K := K) (s8 _ _ (sm _ _ ht))
                have O8 := SqT.of (K := K) (s8 _ _ ht2)
                have hgc := dget (.inl hE8) r.name
                rw [hc] at hgc
                refine iteT ?_
                refine ⟨_, rfl, p, _, 0, _, rfl, rfl, X0 s78, atI_nat (j := 0) rfl, _, rfl, q2, _, 5, _, rfl, rfl, O8, atI_nat (j := 5) rfl, _, rfl, _, rfl, q, _, 0, _, rfl, rfl, T8, atI_nat (j := 0) rfl, d, _, rfl, hgc, P.day, hh2, o.hours, c, rfl, G.day, hhh2.keep s8.keep, (G.roads o hom).hours, hm.2.2.1, ?_⟩
                refine ⟨_, rfl, q2, _, 3, _, rfl, rfl, O8, atI_nat (j := 3) rfl, _, _, rfl, rfl, ?_⟩
                have hL : Lab P kd st m o (arr P.day o c) := .step (hF.lab W hrm hc) hom hm
                -- what holds behind a turn
                have fin : ∀ {F : Tab}, Le E F → (∃ w, w ≤ arr P.day o c ∧ get F o.name = some w) → Le D F ∧ (∀ r ∈ P.roads.take i, Done P kd D F r P.roads) ∧ (∃ c, get F r.name = some c) ∧ Done P kd D F r (P.roads.take (j + 1)) := by
                  intro F hEF ⟨w, hw1, hw2⟩
                  refine ⟨hle.trans hEF, fun r hr => (hdn r hr).le hEF, ?_, fun v hv o' ho' hm' => ?_⟩
                  · obtain ⟨c', _, h⟩ := hEF _ _ hc
                    exact ⟨c', h⟩
                  · rw [take_snoc ho1] at ho'
                    rcases List.mem_append.mp ho' with ho' | ho'
                    · exact (hdj.le hEF) v hv o' ho' hm'
                    · rw [List.mem_singleton.mp ho']
                      obtain ⟨c', h1, h2⟩ := hle _ _ hv
                      rw [hc] at h2
                      cases h2
                      have := arr_mono G hom h1
                      exact ⟨w, by omega, hw2⟩
                have put1 : (∀ w, get E o.name = some w → arr P.day o c ≤ w) → Le E (put E o.name (arr P.day o c)) ∧ ∃ w, w ≤ arr P.day o c ∧ get (put E o.name (arr P.day o c)) o.name = some w := fun h =>
                  ⟨put_le h, _, Int.le_refl _, by rw [get_put, if_pos rfl]⟩
                refine ⟨_, rfl, q2, _, 0, _, rfl, rfl, O8, atI_nat (j := 0) rfl, _, rfl, d, _, rfl, dget (.inl hE8) o.name, _, rfl, ?_⟩
                cases hgo : get E o.name with
                | none =>
                  refine iteT ?_
                  obtain ⟨p1, p2⟩ := put1 fun w hw => by rw [hgo] at hw; cases hw
                  obtain ⟨f1, f2, f3, f4⟩ := fin p1 p2
                  refine ⟨_, rfl, _, rfl, _, rfl, q2, _, 0, _, rfl, rfl, O8, atI_nat (j := 0) rfl, d, _, rfl, DPut.k (k := Sum.inr o.name) hE8 (hln hF), ?_⟩
                  rw [putK_kvs]
                  exact ⟨same_upd_new s78 hd, _, _, _, rfl, upd_same, hF.put hL, f1, f2, f3, f4⟩
                | some w0 =>
                  refine iteF ?_
                  have hgo8 := dget (.inl hE8) o.name
                  rw [hgo] at hgo8
                  refine ⟨_, rfl, _, rfl, _, rfl, q2, _, 0, _, rfl, rfl, O8, atI_nat (j := 0) rfl, d, _, rfl, hgo8, _, _, rfl, rfl, _, rfl, ite2 (fun e => ?_) (fun e => ?_)⟩
                  · have e : arr P.day o c < w0 := of_decide_eq_true e
                    obtain ⟨p1, p2⟩ := put1 fun w hw => by rw [hgo] at hw; cases hw; omega
                    obtain ⟨f1, f2, f3, f4⟩ := fin p1 p2
                    refine ⟨_, rfl, _, rfl, _, rfl, q2, _, 0, _, rfl, rfl, O8, atI_nat (j := 0) rfl, d, _, rfl, DPut.k (k := Sum.inr o.name) hE8 (hln hF), ?_⟩
                    rw [putK_kvs]
                    exact ⟨same_upd_new s78 hd, _, _, _, rfl, upd_same, hF.put hL, f1, f2, f3, f4⟩
                  · have e : ¬ arr P.day o c < w0 := fun z => e (decide_eq_true z)
                    obtain ⟨f1, f2, f3, f4⟩ := fin (Le.refl E) ⟨w0, by omega, hgo⟩
                    exact ⟨s78, _, _, E, rfl, hE8, hF, f1, f2, f3, f4⟩
            · rintro σ H6 ⟨sm, v7, v8, E, rfl, hE, hF, hle, hdn, _, hdj⟩
              rw [hvl, List.take_length] at hdj
              refine ⟨sm, _, _, _, E, rfl, hE, hF, hle, fun o ho => ?_⟩
              rw [take_snoc hr1] at ho
              rcases List.mem_append.mp ho with ho | ho
              · exact hdn o ho
              · rw [List.mem_singleton.mp ho]
                exact hdj
        · rintro σ H4 ⟨sm, v5, v7, v8, E, rfl, hE, hF, hle, hdn⟩
          rw [hvl, List.take_length] at hdn
          exact ⟨sm, _, _, _, _, E, rfl, hE, hF, hU.succ G hle hdn⟩
      · rintro σ H2 ⟨sm, v5, v6, v7, v8, D, rfl, hD, hF, hU⟩
        have en : ∀ n : Nat, n = P.roads.length → UpTo P kd st m n D → Full P kd st m D := fun n e h => UpTo.full (e ▸ h)
        exact ⟨_, rfl, k D d _ hF (en _ (by omega) hU) hd sm hD⟩
end
end Wp
/-! _law_reach. -/
namespace Wp
open PySem PySem.Spec PyProof.Rows L2
/-- a table of places: each moment is an arrival there (or the start) -/
structure Near (P : Parts) (k s : Str) (m : Int) (N : Tab) : Prop where
  nodup : (N.map (·.1)).Nodup
  at_ : ∀ x v, get N x = some v → (x = s ∧ v = m) ∨ ∃ r, Lab P k s m r v ∧ r.stop = x
theorem Near.put {P : Parts} {k s : Str} {m : Int} {N : Tab} (h : Near P k s m N) {r : Road} {v : Int} (hL : Lab P k s m r v) : Near P k s m (put N r.stop v) :=
  ⟨put_nodup h.nodup _ _, fun x w hx => by
    rw [get_put] at hx
    by_cases e : x = r.stop
    · rw [if_pos e] at hx
      cases hx
      exact .inr ⟨r, hL, e.symm⟩
    · rw [if_neg e] at hx
      exact h.at_ x w hx⟩
section
variable {P : Program} {w : World} {K : PySem.W.Frag} {mg : Str → Option Value} {base : Heap} {a : Ad}
def sp_reach : Sp := fun vs H Q _ => ∃ p k s m P, vs = [.ref p, .str k, .str s, .int m] ∧ PartsAt H p P ∧ Wf P ∧ ∀ N d H', Near P k s m N → N.length ≤ 10 → H d = none → Same H H' → H' d = some (.dK (kvsOf N)) → Q (.ref d) H'
theorem ok_reach (T : Txt K mg a) : FnOk P w K mg base CX0 3 a.f_l_reach a.d_l_reach ["_law_parts", "_law_kind", "_law_start", "_law_moment"] sp_reach := by
  refine T.l_reach.fn.ok sc_l_reach (fun vs H Q E h => ?_) (fun cdv A outer s H vs Q E hr h => ?_)
  · obtain ⟨p, k, s, m, P, rfl, _⟩ := h
    rfl
  · obtain ⟨p, kd, st, m, P, rfl, hP, W, k⟩ := h
    have nd := sc_l_reach.nd
    have hu := hu_of hr
    refine ⟨_, pss_cons (ps_set (i := 4) nd rfl (Or.inl rfl) (pe_call (ok_labels T) hr (by rfl) T.l_labels.gl T.l_labels.fn.kp T.l_labels.bi .nil pass0 (pa_cons (pv 0) (pa_cons (pv 1) (pa_cons (pv 2) (pa_cons (pv 3) pa_nil))))))
      <| pss_cons (ps_set (i := 5) nd rfl (Or.inl rfl) (pe_disp (pps_cons (pv 2) (pv 3) pps_nil) rfl rfl (by simp) (by decide)))
      <| pss_cons (ps_for PassesOwn.never rfl (pi_list (pe_ix ix_list (pv 0) pe_int (fun _ _ => rfl))) (pg_name (i := 6) nd rfl (Or.inl rfl))
        (pss_one (ps_if (pw_and (pt_cmp (pc_din hu (pe_ix (r := rIxT K) ix_tup (pv 6) pe_int (fun _ _ => rfl)) (pv 4))) (pw_and1 (pw_or (pt_cmp (pc_dnotin hu (pe_ix (r := rIxT K) ix_tup (pv 6) pe_int (fun _ _ => rfl)) (pv 5))) (pw_or1 (pt_cmpR op_lt (pe_dget hu (pv 4) (pe_ix (r := rIxT K) ix_tup (pv 6) pe_int (fun _ _ => rfl)) (fun _ _ => rfl)) (pe_dget hu (pv 5) (pe_ix (r := rIxT K) ix_tup (pv 6) pe_int (fun _ _ => rfl)) (fun _ _ => rfl)) (nomark _)))).pt)).pt (pss_one (ps_dput hu (pv 5) (pe_ix (r := rIxT K) ix_tup (pv 6) pe_int (fun _ _ => rfl)) (pe_dget hu (pv 4) (pe_ix (r := rIxT K) ix_tup (pv 6) pe_int (fun _ _ => rfl)) (fun _ _ => rfl)) rfl)) pss_nil)))
      <| pss_one (ps_ret (pv 5)), ?_⟩
    refine ⟨_, rfl, _, rfl, _, rfl, _, rfl, p, kd, st, m, P, rfl, hP, W, fun D e H1 hF _ he s1 hD => ?_⟩
    intro d hd
    refine ⟨_, rfl, _, rfl, upd_same, [(Sum.inr st, V.int m)], rfl, (by show 1 ≤ 15; decide), ?_⟩
    have s0 : Same H1 (upd (upd H1 d (.dK [])) d (.dK (mergeK [] [((Sum.inr st : Key), V.int m)]))) := same_upd_new (same_new hd) hd
    have hN0 : (upd (upd H1 d (.dK [])) d (.dK (mergeK [] [((Sum.inr st : Key), V.int m)]))) d = some (.dK (kvsOf [(st, m)])) := upd_same
    generalize upd (upd H1 d (.dK [])) d (.dK (mergeK [] [((Sum.inr st : Key), V.int m)])) = H2 at s0 hN0
    obtain ⟨lpl, lkd, lrd, lbr, rvs, bvs, g0, g1, g2, g3, g4, g5, g6⟩ := hP.ex
    have hvl := paired_len g4
    have hr9 := W.roadsL
    have X0 : ∀ {H' : Hp}, Same H1 H' → SqL K H' p [.int P.day, .ref lpl, .ref lkd, .ref lrd, .ref lbr] := fun s => SqL.of (s _ _ (s1 _ _ g0))
    have X3 : ∀ {H' : Hp}, Same H1 H' → SqL K H' lrd rvs := fun s => SqL.of (s _ _ (s1 _ _ g3))
    refine ⟨_, rfl, p, _, 3, _, rfl, rfl, X0 s0, atI_nat (j := 3) rfl, lrd, rfl, ⟨_, X3 s0⟩, ?_⟩
    refine for_it (walk_list (K := K) (a := lrd) (xs := rvs)) (fun i σ H' => Same H1 H' ∧ ∃ v6 N, σ = [some (.ref p), some (.str kd), some (.str st), some (.int m), some (.ref e), some (.ref d), v6] ∧ H' d = some (.dK (kvsOf N)) ∧ Near P kd st m N ∧ N.length ≤ i + 1)
      ⟨s0, none, [(st, m)], rfl, hN0, ⟨List.nodup_cons.mpr ⟨(fun h => by cases h), List.nodup_nil⟩, fun x v hx => ?_⟩, Nat.le_refl _⟩ (fun i σ H' _ h => X3 h.1) ?_ ?_
    · rw [get_cons] at hx
      by_cases q : x = st
      · rw [if_pos q] at hx
        exact .inl ⟨q, (Option.some.inj hx).symm⟩
      · rw [if_neg q] at hx
        cases hx
    · rintro i x σ H3 H4 hi ⟨sm, v6, N, rfl, hN, hNr, hNl⟩ ⟨rfl, hx⟩
      obtain ⟨r, hr1, hra⟩ := paired_get g4 hx
      have hrm := List.mem_of_getElem? hr1
      obtain ⟨t, kk, hh, rfl, ht, hkk, hhh⟩ := id hra
      have T4 := SqT.of (K := K) (sm _ _ (s1 _ _ ht))
      have hD4 := sm _ _ hD
      refine ⟨_, rfl, t, _, 0, _, rfl, rfl, T4, atI_nat (j := 0) rfl, _, rfl, e, _, rfl, dget (.inl hD4) r.name, _, rfl, ?_⟩
      cases hg : get D r.name with
      | none => exact iteF ⟨sm, _, N, rfl, hN, hNr, by omega⟩
      | some c =>
        refine iteT ?_
        have hL := hF.lab W hrm hg
        have hgD := dget (.inl hD4) r.name
        rw [hg] at hgD
        have fin : Same H1 (upd H4 d (.dK (kvsOf (put N r.stop c)))) ∧ ∃ v6 N', [some (V.ref p), some (.str kd), some (.str st), some (.int m), some (.ref e), some (.ref d), some (.ref t)] = [some (V.ref p), some (.str kd), some (.str st), some (.int m), some (.ref e), some (.ref d), v6] ∧
            (upd H4 d (.dK (kvsOf (put N r.stop c)))) d = some (.dK (kvsOf N')) ∧ Near P kd st m N' ∧ N'.length ≤ i + 1 + 1 := by
          refine ⟨same_upd_new sm hd, _, put N r.stop c, rfl, upd_same, hNr.put hL, ?_⟩
          have := put_len N r.stop c
          omega
        have hlN : (kvsOf N).length < sizeLine := by
          rw [kvs_len]
          exact line10k (by omega)
        refine ⟨_, rfl, t, _, 2, _, rfl, rfl, T4, atI_nat (j := 2) rfl, _, rfl, d, _, rfl, dget (.inl hN) r.stop, _, rfl, ?_⟩
        cases hgs : get N r.stop with
        | none =>
          refine iteT ?_
          refine ⟨_, rfl, _, rfl, t, _, 0, _, rfl, rfl, T4, atI_nat (j := 0) rfl, e, _, rfl, hgD, _, rfl, _, rfl, t, _, 2, _, rfl, rfl, T4, atI_nat (j := 2) rfl, d, _, rfl, DPut.k (k := Sum.inr r.stop) hN hlN, ?_⟩
          rw [putK_kvs]
          exact fin
        | some w0 =>
          refine iteF ?_
          have hgN := dget (.inl hN) r.stop
          rw [hgs] at hgN
          refine ⟨_, rfl, _, rfl, t, _, 0, _, rfl, rfl, T4, atI_nat (j := 0) rfl, e, _, rfl, hgD, _, rfl, _, rfl, t, _, 2, _, rfl, rfl, T4, atI_nat (j := 2) rfl, d, _, rfl, hgN, _, _, rfl, rfl, _, rfl, ite2 (fun _ => ?_) (fun _ => ?_)⟩
          · refine ⟨_, rfl, _, rfl, t, _, 0, _, rfl, rfl, T4, atI_nat (j := 0) rfl, e, _, rfl, hgD, _, rfl, _, rfl, t, _, 2, _, rfl, rfl, T4, atI_nat (j := 2) rfl, d, _, rfl, DPut.k (k := Sum.inr r.stop) hN hlN, ?_⟩
            rw [putK_kvs]
            exact fin
          · exact ⟨sm, _, N, rfl, hN, hNr, by omega⟩
    · rintro σ H3 ⟨sm, v6, N, rfl, hN, hNr, hNl⟩
      exact ⟨_, rfl, k N d _ hNr (by omega) (s1.free hd) (s1.trans sm) hN⟩
end
end Wp
/-! law. -/
namespace Wp
open PySem PySem.Spec PyProof.Rows L2
theorem seq_ix {i : Int} {n : Nat} (h0 : 0 ≤ i) (h1 : i < (n : Nat)) : seqIndex? i n = some i.toNat := by
  unfold seqIndex?
  dsimp only
  rw [if_neg (show ¬ i < 0 by omega)]
  have : (decide (0 ≤ i) && decide (i < (n : Int))) = true := by
    rw [decide_eq_true h0, decide_eq_true h1]
    rfl
  rw [if_pos this]
theorem map_erase' : ∀ (l : List Str) (j : Nat), (l.map V.str).eraseIdx j = (l.eraseIdx j).map V.str
  | [], _ => rfl
  | _ :: _, 0 => rfl
  | x :: l, j + 1 => congrArg (V.str x :: ·) (map_erase' l j)
theorem off_at (z : Int) : ∃ d, atI [V.int 0, .int 0, .int 0, .int (-1), .int (-5), .int 1] (z % 6) = some (.int d) := by
  have a0 := Int.emod_nonneg z (show (6 : Int) ≠ 0 by decide)
  have a1 := Int.emod_lt_of_pos z (show (0 : Int) < 6 by decide)
  generalize z % 6 = y at a0 a1
  obtain ⟨j, rfl⟩ := Int.eq_ofNat_of_zero_le a0
  have hj : j < 6 := by omega
  rcases j with _ | _ | _ | _ | _ | _ | j
  · exact ⟨_, rfl⟩
  · exact ⟨_, rfl⟩
  · exact ⟨_, rfl⟩
  · exact ⟨_, rfl⟩
  · exact ⟨_, rfl⟩
  · exact ⟨_, rfl⟩
  · omega
/-- a paper of all the least labels reads as their table -/
theorem least_exact {ps L D : Tab} (h : Least ps L) (hp : ∀ q ∈ ps, get D q.1 = some q.2) (hk : ∀ n v, get D n = some v → n ∈ ps.map (·.1)) (n : Str) : get L n = get D n := by
  cases q : get D n with
  | none =>
    cases q2 : get L n with
    | none => rfl
    | some v =>
      have := hp _ (h.mem _ _ q2)
      rw [q] at this
      cases this
  | some v =>
    obtain ⟨p, hm, e⟩ := List.mem_map.mp (hk n v q)
    obtain ⟨a, b⟩ := p
    have e : a = n := e
    subst e
    obtain ⟨v', h1, h2⟩ := h.le _ _ hm
    have h3 := hp _ (h.mem _ _ h2)
    rw [q] at h3
    rw [h2, Option.some.inj h3]
theorem shows_least {P : Parts} (W : Wf P) {k s : Str} {m bd : Int} {D ps L : Tab} (hF : Fine P k s m D) (hU : Full P k s m D) (h : Least ps L) (hp : ∀ q ∈ ps, get D q.1 = some q.2) (hk : ∀ n v, get D n = some v → n ∈ ps.map (·.1)) (hs : s ∈ P.places) :
    Shows P k s m bd P.places L := by
  have e := least_exact h hp hk
  refine shows_exact (fun n v hn => ?_) (fun r v hL => ?_) W.roadsN P.places hs fun r hr => (W.roads r hr).stop
  · rw [e n] at hn
    exact hF.sound n v hn
  · obtain ⟨v', h1, h2⟩ := hU r v hL
    exact ⟨v', h1, (e _).trans h2⟩
section
variable {P : Program} {w : World} {K : PySem.W.Frag} {mg : Str → Option Value} {base : Heap} {a : Ad}
def sp_law (K : PySem.W.Frag) : Sp := fun vs H Q _ => ∃ (l : Addr) (ns : List Int), vs = [.ref l] ∧ SqL K H l (ns.map V.int) ∧ ns.length ≤ 63 ∧ ∀ H', Q (.bl true) H'
theorem ok_law (T : Txt K mg a) : FnOk P w K mg base CX0 7 a.f_law a.d_law ["_law_script"] (sp_law K) := by
  refine T.law_.fn.ok sc_law (fun vs H Q E h => ?_) (fun cdv A outer s H vs Q E hr h => ?_)
  · obtain ⟨l, ns, rfl, _⟩ := h
    rfl
  · obtain ⟨l, ns, rfl, hl, hn, k⟩ := h
    have nd := sc_law.nd
    have hu := hu_of hr
    refine ⟨_, pss_cons (ps_set (i := 1) nd rfl (Or.inr rfl) (pe_call (ok_numbers T) (hr.mono (by decide)) (by rfl) T.l_numbers.gl T.l_numbers.fn.kp T.l_numbers.bi .nil pass0 (pa_cons (pv 0) (pa_cons pe_int pa_nil))))
      <| pss_cons (ps_set (i := 2) nd rfl (Or.inl rfl) (pe_call (ok_map T) (hr.mono (by decide)) (by rfl) T.l_map.gl T.l_map.fn.kp T.l_map.bi .nil pass0 (pa_cons (pv 1) (pa_cons pe_int pa_nil))))
      <| pss_cons (ps_set (i := 3) nd rfl (Or.inl rfl) (pe_call (ok_made T) (hr.mono (by decide)) (by rfl) T.l_made.gl T.l_made.fn.kp T.l_made.bi .nil pass0 (pa_cons (pv 2) pa_nil)))
      <| pss_cons (ps_asg (pe_call (ok_trip T) (hr.mono (by decide)) (by rfl) T.l_trip.gl T.l_trip.fn.kp T.l_trip.bi .nil pass0 (pa_cons (pv 2) (pa_cons (pv 1) (pa_cons pe_int pa_nil)))) (pg_tup (by rfl) (pgs_cons (pg_name (i := 4) nd rfl (Or.inl rfl)) (pgs_cons (pg_name (i := 5) nd rfl (Or.inl rfl)) (pgs_cons (pg_name (i := 6) nd rfl (Or.inr rfl)) pgs_nil)))))
      <| pss_cons (ps_set (i := 7) nd rfl (Or.inr rfl) (pe_op op_mod (pe_callTy call_int1 (by rfl) T.z_int (by decide +kernel) (pa_cons (pe_ix ix_list (pv 1) pe_int (fun _ _ => rfl)) pa_nil)) pe_int))
      <| pss_cons (ps_set (i := 8) nd rfl (Or.inr rfl) (pe_call (ok_labels T) (hr.mono (by decide)) (by rfl) T.l_labels.gl T.l_labels.fn.kp T.l_labels.bi .nil pass0 (pa_cons (pv 2) (pa_cons (pv 4) (pa_cons (pv 5) (pa_cons (pv 6) pa_nil))))))
      <| pss_cons (ps_set (i := 9) nd rfl (Or.inr rfl) (pe_call (ok_reach T) (hr.mono (by decide)) (by rfl) T.l_reach.gl T.l_reach.fn.kp T.l_reach.bi .nil pass0 (pa_cons (pv 2) (pa_cons (pv 4) (pa_cons (pv 5) (pa_cons (pv 6) pa_nil))))))
      <| pss_cons (ps_set (i := 10) nd rfl (Or.inl rfl) (pe_lst pa_nil))
      <| pss_cons (ps_for PassesOwn.never rfl (pi_range1 rfl T.z_range (pa_cons (pe_callB call_len_seq (by rfl) T.z_len PySem.boot_len (pa_cons (pe_ix ix_list (pv 2) pe_int (fun _ _ => rfl)) pa_nil)) pa_nil)) (pg_name (i := 11) nd rfl (Or.inl rfl))
        (pss_cons (ps_set (i := 12) nd rfl (Or.inl rfl) (pe_ix (r := rIxT K) ix_tup (pe_ix ix_list (pe_ix ix_list (pv 2) pe_int (fun _ _ => rfl)) (pv 11) (fun _ _ => rfl)) pe_int (fun _ _ => rfl)))
        <| pss_cons (ps_set (i := 13) nd rfl (Or.inl rfl) (pe_ix ix_list (pv 1) (pe_op op_add pe_int (pv 11)) (fun _ _ => rfl)))
        <| pss_cutW (ps_if (pt_cmpR op_gt (pe_op op_mod (pe_callTy call_int1 (by rfl) T.z_int (by decide +kernel) (pa_cons (pe_ix ix_list (pv 1) pe_int (fun _ _ => rfl)) pa_nil)) pe_int) pe_int (nomark _)) (pss_one (ps_set (i := 13) nd rfl (Or.inl rfl) (pe_callB (call_max2 rfl) (by rfl) T.z_max (by decide +kernel) (pa_cons pe_int (pa_cons (pe_op op_add (pe_dget2 hu (pv 8) (pv 12) (pe_op op_add (pe_op op_add (pv 6) (pv 7)) pe_int) ⟨rfl, rfl, rfl, rfl⟩) (pe_ix ix_list (pe_lst (pa_cons pe_int (pa_cons pe_int (pa_cons pe_int (pa_cons (pe_un un_neg pe_int) (pa_cons (pe_un un_neg pe_int) (pa_cons pe_int pa_nil))))))) (pe_op op_mod (pe_callTy call_int1 (by rfl) T.z_int (by decide +kernel) (pa_cons (pe_ix ix_list (pv 1) (pe_op op_add pe_int (pv 11)) (fun _ _ => rfl)) pa_nil)) pe_int) (fun _ _ => rfl))) pa_nil))))) pss_nil)
        <| pss_one (ps_if (pt_cmpR op_gt (pe_op op_mod (pe_callTy call_int1 (by rfl) T.z_int (by decide +kernel) (pa_cons (pe_ix ix_list (pv 1) (pe_op op_add pe_int (pv 11)) (fun _ _ => rfl)) pa_nil)) pe_int) pe_int (nomark _)) (pss_one (ps_expr (pe_bm PySem.F.plainAttrs_list PySem.F.slot_list_append PySem.F.type_list_append mt_append (pv 10) (pa_cons (pe_tup (pa_cons (pv 12) (pa_cons (pv 13) pa_nil))) pa_nil)))) pss_nil)))
      <| pss_cons (ps_set (i := 14) nd rfl (Or.inr rfl) (pe_lc (own := [("_law_place", 16)]) (g := gName 16) rfl nd (pi_list (pe_ix ix_list (pv 2) pe_int (fun _ _ => rfl)))
            (blkOk_by (own := [("_law_place", 16)]) (N := N_law) (sc := defScope s_law) (by decide +kernel)) (fun _ _ _ _ _ => pg_name (i := 16) nd rfl (Or.inl rfl)) (fun _ _ _ _ _ => pts_one (pw_and (pt_cmp (pc_din hu (pv 16) (pv 9))) (pw_and1 (pw_or (pt_cmpR op_le (pe_dget hu (pv 9) (pv 16) (fun _ _ => rfl)) (pe_op op_add (pv 6) (pv 7)) (nomark _)) (pw_or1 (pt_cmpR op_eq (pe_op op_mod (pe_callTy call_int1 (by rfl) T.z_int (by decide +kernel) (pa_cons (pe_ix (r := rIxL K) ix_list (pv 1) pe_int (fun _ _ => rfl)) pa_nil)) pe_int) pe_int (nomark _)))).pt)).pt) (fun _ _ _ _ _ => pv 16)))
      <| pss_cutW (ps_if (pw_and (pt_cmpR op_eq (pe_op op_mod (pe_callTy call_int1 (by rfl) T.z_int (by decide +kernel) (pa_cons (pe_ix ix_list (pv 1) pe_int (fun _ _ => rfl)) pa_nil)) pe_int) pe_int (nomark _)) (pw_and1 (pt_cmpR op_gt (pe_callB call_len_seq (by rfl) T.z_len PySem.boot_len (pa_cons (pv 14) pa_nil)) pe_int (nomark _)))).pt (pss_one (ps_expr (pe_bm PySem.F.plainAttrs_list PySem.F.slot_list_pop PySem.F.type_list_pop mt_popAt (pv 14) (pa_cons (pe_op op_mod (pe_callTy call_int1 (by rfl) T.z_int (by decide +kernel) (pa_cons (pe_ix ix_list (pv 1) pe_int (fun _ _ => rfl)) pa_nil)) (pe_callB call_len_seq (by rfl) T.z_len PySem.boot_len (pa_cons (pv 14) pa_nil))) pa_nil)))) pss_nil)
      <| pss_cutW (ps_if (pt_val (pe_call (ok_check_range T) (hr.mono (by decide)) (by rfl) T.check_range.gl T.check_range.fn.kp T.check_range.bi .nil pass0 (pa_cons (pv 3) (pa_cons (pv 4) (pa_cons (pv 5) (pa_cons (pv 6) (pa_cons (pv 7) (pa_cons (pe_callTy call_list_of (by rfl) T.z_list (by decide +kernel) (pa_cons (pv 14) pa_nil)) (pa_cons (pe_callTy call_list_of (by rfl) T.z_list (by decide +kernel) (pa_cons (pv 10) pa_nil)) pa_nil))))))))) (pss_one (ps_if (pt_cmpR op_gt (pe_callB call_len_seq (by rfl) T.z_len PySem.boot_len (pa_cons (pe_lock (pe_lc (own := [("_law_place", 16)]) (g := gName 16) rfl nd (pi_keys (pv 9))
            (blkOk_by (own := [("_law_place", 16)]) (N := N_law) (sc := defScope s_law) (by decide +kernel)) (fun _ _ _ _ _ => pg_name (i := 16) nd rfl (Or.inl rfl)) (fun _ _ _ _ _ => pts_one (pw_and (pt_cmpR op_le (pe_dget hu (pv 9) (pv 16) (fun _ _ => rfl)) (pe_op op_add (pv 6) (pv 7)) (nomark _)) (pw_and1 (pt_cmpR (r := rIn K true) op_notIn_seq (pv 16) (pv 14) (by rfl)))).pt) (fun _ _ _ _ _ => pv 16))) pa_nil)) pe_int (nomark _)) (pss_one (ps_ret pe_bl)) pss_nil)) pss_nil)
      <| pss_cons (ps_setLc (i := 15) (own := [("_law_name", 12)]) (g := gName 12) (tt := tYes) rfl nd rfl rfl rfl (pi_list (pe_callB cr_sortedS (by rfl) T.z_sorted (by decide +kernel) (pa_cons (pe_lock (pe_lc (own := [("_law_name", 12)]) (g := gName 12) (tt := tYes) rfl nd (pi_keys (pv 8))
            (blkOk_by (own := [("_law_name", 12)]) (N := N_law) (sc := defScope s_law) (by decide +kernel)) (fun _ _ _ _ _ => pg_name (i := 12) nd rfl (Or.inl rfl)) (fun _ _ _ _ _ => pts_nil) (fun _ _ _ _ _ => pv 12))) pa_nil)))
            (blkOk_by (own := [("_law_name", 12)]) (N := N_law) (sc := defScope s_law) (by decide +kernel)) (fun _ _ _ _ _ => pg_name (i := 12) nd rfl (Or.inl rfl)) (fun _ _ _ _ _ => pts_nil) (fun _ _ _ _ _ => pe_tup (pa_cons (pv 12) (pa_cons (pe_dget hu (pv 8) (pv 12) (fun _ _ => rfl)) pa_nil))))
      <| pss_one (ps_ret (pe_cmpR op_isBl (pe_call (ok_check_range T) (hr.mono (by decide)) (by rfl) T.check_range.gl T.check_range.fn.kp T.check_range.bi .nil pass0 (pa_cons (pv 3) (pa_cons (pv 4) (pa_cons (pv 5) (pa_cons (pv 6) (pa_cons (pv 7) (pa_cons (pe_callTy call_list_of (by rfl) T.z_list (by decide +kernel) (pa_cons (pe_ix ix_list (pv 2) pe_int (fun _ _ => rfl)) pa_nil)) (pa_cons (pv 15) pa_nil)))))))) pe_bl (nomark _))), ?_⟩
    -- the numbers
    refine ⟨_, rfl, l, ns, rfl, hl, hn, fun zs nl H1 hzl _ s1 hnl1 => ?_⟩
    obtain ⟨g, hg⟩ := gets hzl
    -- the parts, the chart
    refine ⟨_, rfl, nl, zs, rfl, hnl1, hzl, fun P p H2 W s2 hP2 => ?_⟩
    refine ⟨_, rfl, p, P, rfl, hP2, W, fun M c H3 Lk s3 hM3 => ?_⟩
    -- the trip
    refine ⟨_, rfl, _, rfl, p, nl, P, zs, rfl, hP2.same s3, W, s3 _ _ (s2 _ _ hnl1), hzl, fun kd st m t H4 hkd hst s4 ht => ?_⟩
    refine ⟨t, _, rfl, SqT.of ht, rfl, _, _, rfl, _, _, rfl, _, _, rfl, rfl, ?_⟩
    have hnl4 := s4 _ _ (s3 _ _ (s2 _ _ hnl1))
    refine ⟨_, rfl, nl, _, 100, _, rfl, rfl, SqL.of hnl4, hg 100 (by decide) (by decide), .inl ⟨_, rfl, _, _, rfl, rfl, (by show (0 : Int) < 61; decide), ?_⟩⟩
    generalize hmi : g 100 % 61 = mi
    have hP4 := (hP2.same s3).same s4
    -- labels, places
    refine ⟨_, rfl, _, rfl, _, rfl, _, rfl, p, kd, st, m, P, rfl, hP4, W, fun D d H5 hF hU _ s5 hD5 => ?_⟩
    refine ⟨_, rfl, _, rfl, _, rfl, _, rfl, p, kd, st, m, P, rfl, hP4.same s5, W, fun N e H6 hN hNl _ s6 hE6 => ?_⟩
    have hnl6 := s6 _ _ (s5 _ _ hnl4)
    have hD6 := s6 _ _ hD5
    have hM6 := hM3.keep (s4.trans (s5.trans s6)).keep
    obtain ⟨lpl, lkd, lrd, lbr, rvs, bvs, g0, g1, g2, g3, g4, g5, g6⟩ := ((hP4.same s5).same s6).ex
    have hvl := paired_len g4
    have hr9 := W.roadsL
    have X0 : ∀ {H' : Hp}, Same H6 H' → SqL K H' p [.int P.day, .ref lpl, .ref lkd, .ref lrd, .ref lbr] := fun s => SqL.of (s _ _ g0)
    have X1 : ∀ {H' : Hp}, Same H6 H' → SqL K H' lpl (P.places.map V.str) := fun s => SqL.of (s _ _ g1)
    have X3 : ∀ {H' : Hp}, Same H6 H' → SqL K H' lrd rvs := fun s => SqL.of (s _ _ g3)
    have NL : ∀ {H' : Hp}, Same H6 H' → SqL K H' nl (zs.map V.int) := fun s => SqL.of (s _ _ hnl6)
    -- the paper
    refine ⟨Nat.zero_le _, fun pp hpp => ?_⟩
    have s7 : Same H6 (upd H6 pp (.lst [])) := same_new hpp
    refine ⟨_, rfl, p, _, 3, _, rfl, rfl, X0 s7, atI_nat (j := 3) rfl, lrd, _, rfl, .inl (X3 s7), _, rfl, by omega, by omega, ?_⟩
    refine for_it walk_range (fun i σ H' => Same H6 H' ∧ ∃ v11 v12 v13 pvs, ∃ ps : Tab, σ = [some (.ref l), some (.ref nl), some (.ref p), some (.ref c), some (.str kd), some (.str st), some (.int m), some (.int mi), some (.ref d), some (.ref e), some (.ref pp), v11, v12, v13, none, none, none] ∧
        H' pp = some (.lst pvs) ∧ Paired (LabAt H') pvs ps ∧ ps.length ≤ i ∧ ∀ q ∈ ps, q.1 ∈ P.roads.map (·.name))
      ⟨s7, none, none, none, [], [], by rw [← hmi]; rfl, upd_same, .nil, Nat.zero_le _, fun _ h => by cases h⟩ (fun _ _ _ _ _ => trivial) ?_ ?_
    · rintro i x σ H7 H8 hi ⟨sm, v11, v12, v13, pvs, ps, rfl, hpv, hps, hpl, hpn⟩ ⟨rfl, rfl⟩
      have hir : i < rvs.length := by omega
      have hx : rvs[i]? = some rvs[i] := List.getElem?_eq_getElem hir
      obtain ⟨r, hr1, t, kk, hh, et, htt, _, _⟩ := paired_get g4 hx
      have hrm := List.mem_of_getElem? hr1
      rw [et] at hx
      have T8 := SqT.of (K := K) (sm _ _ htt)
      have hi9 : (i : Int) < 9 := by omega
      refine ⟨_, rfl, p, _, 3, _, rfl, rfl, X0 sm, atI_nat (j := 3) rfl, _, rfl, lrd, _, _, _, rfl, rfl, X3 sm, at_of (Int.zero_add _) hx, t, _, 0, _, rfl, rfl, T8, atI_nat (j := 0) rfl, ?_⟩
      refine ⟨_, rfl, _, rfl, _, _, rfl, rfl, nl, _, _, _, rfl, rfl, NL sm, hg (101 + (0 + (i : Int))) (by omega) (by omega), ?_⟩
      refine ⟨fun σ' H' => Same H8 H' ∧ ∃ lb : Int, σ' = [some (.ref l), some (.ref nl), some (.ref p), some (.ref c), some (.str kd), some (.str st), some (.int m), some (.int mi), some (.ref d), some (.ref e), some (.ref pp), some (.int (0 + (i : Int))), some (.str r.name), some (.int lb), none, none, none], ?_, ?_⟩
      · refine ⟨_, rfl, nl, _, 99, _, rfl, rfl, NL sm, hg 99 (by decide) (by decide), .inl ⟨_, rfl, _, _, rfl, rfl, (by show (0 : Int) < 3; decide), _, _, rfl, rfl, _, rfl, ite2 (fun _ => ?_) (fun _ => ?_)⟩⟩
        · have hD8 := sm _ _ hD6
          have eg : ∀ z : Int, ((get D r.name).map V.int).getD (.int z) = .int ((get D r.name).getD z) := fun z => by
            cases get D r.name <;> rfl
          refine ⟨_, rfl, d, rfl, .inl ⟨_, .inl hD8⟩, _, rfl, _, rfl, _, rfl, _, _, rfl, rfl, _, _, rfl, rfl, _, dget (.inl hD8) r.name, ?_⟩
          refine ⟨1, rfl, 5, rfl, (by show 6 ≤ sizeLine; decide), fun q hq => ?_⟩
          have sq := same_new (o := .lst [V.int 0, .int 0, .int 0, .int (-1), .int (-5), .int 1]) hq
          obtain ⟨o, eo⟩ := off_at (g (101 + (0 + (i : Int))))
          refine ⟨_, rfl, _, rfl, _, _, rfl, rfl, nl, _, _, _, rfl, rfl, sq.seq (NL sm), hg (101 + (0 + (i : Int))) (by omega) (by omega), .inl ⟨_, rfl, _, _, rfl, rfl, (by show (0 : Int) < 6; decide), q, _, _, _, rfl, rfl, SqL.of upd_same, eo, _, _, eg _, rfl, _, _, rfl, ?_⟩⟩
          exact ⟨sq, _, rfl⟩
        · exact ⟨Same.refl _, _, rfl⟩
      rintro σ' H9 ⟨s9, lb, rfl⟩
      have sm9 := sm.trans s9
      have hpv9 := s9 _ _ hpv
      have hps9 := Paired.mapP hps fun _ _ z => LabAt.keep s9.keep z
      refine ⟨_, rfl, _, rfl, _, _, rfl, rfl, nl, _, _, _, rfl, rfl, NL sm9, hg (112 + (0 + (i : Int))) (by omega) (by omega), .inl ⟨_, rfl, _, _, rfl, rfl, (by show (0 : Int) < 5; decide), _, _, rfl, rfl, _, rfl, ite2 (fun _ => ?_) (fun _ => ?_)⟩⟩
      · refine ⟨_, rfl, .inl ⟨rfl, _, SqL.of hpv9⟩, _, rfl, _, rfl, (by show 2 ≤ sizeLine; decide), fun t2 ht2 => ?_⟩
        have st := same_new (o := .tup [.str r.name, .int lb]) ht2
        refine ⟨pp, _, _, rfl, rfl, st _ _ hpv9, ?_, ?_⟩
        · have := paired_len hps
          exact line10k (by omega)
        have kp : Keep (upd H9 t2 (.tup [.str r.name, .int lb])) (upd (upd H9 t2 (.tup [.str r.name, .int lb])) pp (.lst (pvs ++ [.ref t2]))) := keep_upd (st _ _ hpv9) rfl
        refine ⟨same_upd_new (sm9.trans st) hpp, _, _, _, _, ps ++ [(r.name, lb)], rfl, upd_same, ?_, ?_, ?_⟩
        · exact paired_snoc ⟨t2, rfl, kp _ _ rfl upd_same⟩ (Paired.mapP hps9 fun _ _ z => (LabAt.keep st.keep z).keep kp)
        · rw [List.length_append, List.length_singleton]
          omega
        · intro q hq
          rcases List.mem_append.mp hq with hq | hq
          · exact hpn q hq
          · rw [List.mem_singleton.mp hq]
            exact List.mem_map.mpr ⟨r, hrm, rfl⟩
      · exact ⟨sm9, _, _, _, pvs, ps, rfl, hpv9, hps9, by omega, hpn⟩
    rintro σ H8 ⟨s8, v11, v12, v13, pvs, ps, rfl, hpv8, hps8, hpl, hpn⟩
    have hpl9 : ps.length ≤ 100 := by omega
    have hE8 := s8 _ _ hE6
    have hD8 := s8 _ _ hD6
    have hM8 := hM6.keep s8.keep
    have hpL := W.placesL
    have hMn : ∀ q ∈ ps, q.1 ∈ M.roads.map (·.name) := fun q hq => Lk.names.mem_iff.mpr (hpn q hq)
    -- the places
    refine ⟨_, rfl, p, _, 1, _, rfl, rfl, X0 s8, atI_nat (j := 1) rfl, lpl, rfl, ⟨_, X1 s8⟩, fun D2 hD2 => ?_⟩
    refine lc_it (walk_list (K := K) (a := lpl) (xs := P.places.map V.str)) (fun i H' => Same H8 H' ∧ ∃ xs : List Str, H' D2 = some (.lst (xs.map V.str)) ∧ xs.length ≤ i ∧ ∀ x ∈ xs, x ∈ P.places)
      ⟨same_new hD2, [], upd_same, Nat.le_refl _, fun _ h => by cases h⟩ (fun i H' _ h => X1 (s8.trans h.1)) ?_ ?_
    · rintro i x H9 H10 hi ⟨s9, xs, hxs, hxl, hxp⟩ ⟨rfl, hx⟩
      rw [List.length_map] at hi
      obtain ⟨y, rfl, hy⟩ : ∃ y, V.str y = x ∧ P.places[i]? = some y := by
        rw [List.getElem?_map] at hx
        cases q : P.places[i]? with
        | none => rw [q] at hx; cases hx
        | some y => rw [q] at hx; exact ⟨y, Option.some.inj hx, rfl⟩
      have hE9 := s9 _ _ hE8
      have hgN := dget (.inl hE9) y
      have ym := List.mem_of_getElem? hy
      have hxl9 : (xs.map V.str).length < sizeLine := by
        rw [List.length_map]
        exact line10k (by omega)
      have fin : Same H8 (upd H10 D2 (.lst (xs.map V.str ++ [.str y]))) ∧ ∃ ys : List Str, (upd H10 D2 (.lst (xs.map V.str ++ [.str y]))) D2 = some (.lst (ys.map V.str)) ∧ ys.length ≤ i + 1 ∧ ∀ x ∈ ys, x ∈ P.places := by
        refine ⟨same_upd_new s9 hD2, xs ++ [y], by rw [upd_same, List.map_append]; rfl, by rw [List.length_append, List.length_singleton]; omega, fun z hz => ?_⟩
        rcases List.mem_append.mp hz with hz | hz
        · exact hxp z hz
        · rw [List.mem_singleton.mp hz]
          exact ym
      refine ⟨rfl, _, rfl, _, rfl, e, _, rfl, hgN, _, rfl, ?_⟩
      cases hgy : get N y with
      | none => exact iteF (iteF ⟨s9, xs, hxs, by omega, hxp⟩)
      | some v =>
        rw [hgy] at hgN
        refine iteT ⟨_, rfl, _, rfl, e, _, rfl, hgN, _, rfl, _, rfl, _, _, rfl, rfl, _, _, rfl, rfl, _, rfl, ite2 (fun _ => iteT ?_) (fun _ => ?_)⟩
        · exact ⟨_, rfl, _, hxs, hxl9, fin⟩
        · refine ⟨_, rfl, nl, _, 125, _, rfl, rfl, NL (s8.trans s9), hg 125 (by decide) (by decide), .inl ⟨_, rfl, _, _, rfl, rfl, (by show (0 : Int) < 2; decide), rfl, _, rfl, ite2 (fun _ => ?_) (fun _ => ?_)⟩⟩
          · exact ⟨_, rfl, _, hxs, hxl9, fin⟩
          · exact ⟨s9, xs, hxs, by omega, hxp⟩
    rintro H9 ⟨s9, xs0, hxs0, hxl0, hxp0⟩
    rw [List.length_map] at hxl0
    -- one place less
    refine ⟨fun σ' H' => σ' = [some (.ref l), some (.ref nl), some (.ref p), some (.ref c), some (.str kd), some (.str st), some (.int m), some (.int mi), some (.ref d), some (.ref e), some (.ref pp), v11, v12, v13, some (.ref D2), none, none] ∧ Same H8 H' ∧ ∃ xs : List Str, H' D2 = some (.lst (xs.map V.str)) ∧ ∀ x ∈ xs, x ∈ P.places, ?_, ?_⟩
    · refine ⟨_, rfl, nl, _, 126, _, rfl, rfl, NL (s8.trans s9), hg 126 (by decide) (by decide), .inl ⟨_, rfl, _, _, rfl, rfl, (by show (0 : Int) < 4; decide), rfl, _, rfl, ite2 (fun _ => ?_) (fun _ => iteF ⟨rfl, s9, xs0, hxs0, hxp0⟩)⟩⟩
      refine ⟨_, rfl, D2, _, rfl, .inl (SqL.of hxs0), _, _, rfl, rfl, _, rfl, ite2 (fun q => ?_) (fun _ => ⟨rfl, s9, xs0, hxs0, hxp0⟩)⟩
      have q : (0 : Int) < ((xs0.map V.str).length : Nat) := of_decide_eq_true q
      have q0 := Int.emod_nonneg (g 127) (show (((xs0.map V.str).length : Nat) : Int) ≠ 0 by omega)
      have q1 := Int.emod_lt_of_pos (g 127) q
      have hlx : (xs0.map V.str).length ≤ 30 := by
        rw [List.length_map]
        omega
      have hj : (g 127 % (((xs0.map V.str).length : Nat) : Int)).toNat < (xs0.map V.str).length := by omega
      refine ⟨_, rfl, .inl ⟨rfl, _, SqL.of hxs0⟩, _, rfl, nl, _, 127, _, rfl, rfl, NL (s8.trans s9), hg 127 (by decide) (by decide), .inl ⟨_, rfl, _, rfl, D2, _, rfl, .inl (SqL.of hxs0), _, _, rfl, rfl, q, ?_⟩⟩
      refine ⟨D2, _, _, _, _, rfl, rfl, hxs0, ?_, ?_, seq_ix q0 q1, List.getElem?_eq_getElem hj, ?_⟩
      · exact Int.le_trans (by decide) q0
      · exact Int.lt_of_lt_of_le q1 (by omega)
      refine ⟨rfl, same_upd_new s9 hD2, xs0.eraseIdx _, by rw [upd_same, map_erase'], fun x hx => hxp0 x (List.mem_of_mem_eraseIdx hx)⟩
    rintro σ' H10 ⟨rfl, s10, xs, hxs, hxp⟩
    -- the first paper
    have s610 := s8.trans s10
    refine ⟨fun σ' H' => σ' = [some (.ref l), some (.ref nl), some (.ref p), some (.ref c), some (.str kd), some (.str st), some (.int m), some (.int mi), some (.ref d), some (.ref e), some (.ref pp), v11, v12, v13, some (.ref D2), none, none] ∧ Same H8 H', ?_, ?_⟩
    · refine ⟨_, rfl, _, rfl, _, rfl, _, rfl, _, rfl, _, rfl, D2, _, rfl, .inl (SqL.of hxs), fun q1 e1 => ?_⟩
      have t1 := same_new (o := .lst (xs.map V.str)) e1
      refine ⟨_, rfl, pp, _, rfl, .inl (SqL.of (t1 _ _ (s10 _ _ hpv8))), fun q2 e2 => ?_⟩
      have t2 := same_new (o := .lst pvs) e2
      have s12 := s10.trans (t1.trans t2)
      refine ⟨c, kd, st, m, mi, q1, q2, xs, pvs, ps, M, rfl, hM8.keep s12.keep, Lk.ok W, Lk.kinds.mem_iff.mpr hkd, Lk.places.mem_iff.mpr hst, t2 _ _ upd_same, (fun x hx => Lk.places.mem_iff.mpr (hxp x hx)), upd_same, Paired.mapP hps8 (fun _ _ z => LabAt.keep s12.keep z), hpl9, hMn, fun b L H11 s11 hle hb => ?_⟩
      have s811 := s12.trans s11
      refine ⟨b, rfl, ?_⟩
      cases b with
      | false => exact iteF ⟨rfl, s811⟩
      | true =>
        have hS := (Lk.shows W).mp (hb.mp rfl)
        refine iteT ?_
        have hE11 := s811 _ _ hE8
        have hxs11 := s11 _ _ (t2 _ _ (t1 _ _ hxs))
        refine ⟨e, _, hE11, trivial, fun od => ?_⟩
        have neD : D2 ≠ e := ne_of hxs11 hE11 (by intro z; cases z)
        have hEL : (upd H11 e (.frz od (.dK (kvsOf N)))) e = some (.frz od (.dK (kvsOf N))) := upd_same
        have hxL : (upd H11 e (.frz od (.dK (kvsOf N)))) D2 = some (.lst (xs.map V.str)) := by
          rw [upd_ne neD]
          exact hxs11
        generalize hHL : upd H11 e (.frz od (.dK (kvsOf N))) = HL at hEL hxL
        refine ⟨_, rfl, e, od, rfl, .inl ⟨kvsOf N, hEL, fun D3 hD3 => ?_⟩⟩
        refine lc_it (walk_keys (d := e) (o := od) (kvs := kvsOf N)) (fun i H' => Same HL H' ∧ H' D3 = some (.lst [])) ⟨same_new hD3, upd_same⟩ (fun i H' _ h => h.1 _ _ hEL) ?_ ?_
        · rintro i x H12 H13 hi ⟨s13, h13⟩ ⟨rfl, ky, vv, hky, rfl⟩
          obtain ⟨y, v, hyv, rfl, rfl⟩ : ∃ y v, N[i]? = some (y, v) ∧ Sum.inr y = ky ∧ V.int v = vv := by
            unfold kvsOf at hky
            rw [List.getElem?_map] at hky
            cases q : N[i]? with
            | none => rw [q] at hky; cases hky
            | some z =>
              rw [q] at hky
              have := Prod.mk.inj (Option.some.inj hky)
              exact ⟨z.1, z.2, rfl, this.1, this.2⟩
          have hgy := get_of_mem hN.nodup (List.mem_of_getElem? hyv)
          have hgN := dget (.inr ⟨od, s13 _ _ hEL⟩) y
          rw [hgy] at hgN
          refine ⟨rfl, _, rfl, _, rfl, e, _, rfl, hgN, _, rfl, _, rfl, _, _, rfl, rfl, _, _, rfl, rfl, _, rfl, ite2 (fun q => ?_) (fun _ => iteF ⟨s13, h13⟩)⟩
          have q := of_decide_eq_true q
          have yin : y ∈ xs := by
            rcases hN.at_ y v hgy with ⟨rfl, _⟩ | ⟨r, hL, rfl⟩
            · exact hS.start
            · exact hS.place W.good hL q
          refine ⟨_, rfl, _, rfl, D2, _, rfl, .inl (SqL.of (s13 _ _ hxL)), rfl, flat_strs _, _, rfl, ?_⟩
          have ein : inV (kV (Sum.inr y : Key)) (xs.map V.str) = true := show inV (V.str y) (xs.map V.str) = true by rw [inV_str, decide_eq_true yin]
          rw [if_pos rfl, ein]
          exact iteF ⟨s13, h13⟩
        · rintro H12 ⟨s13, h13⟩
          refine ⟨s13 _ _ hEL, ?_⟩
          have sb : Same H11 (upd H12 e (.dK (kvsOf N))) := same_lock hE11 (hHL ▸ s13)
          have neD3 : D3 ≠ e := fun z => by
            rw [z, hEL] at hD3
            cases hD3
          refine ⟨D3, [], rfl, .inl (SqL.of (by rw [upd_ne neD3]; exact h13)), _, _, rfl, rfl, _, rfl, iteF ⟨rfl, s811.trans sb⟩⟩
    rintro σ' H11 ⟨rfl, s11⟩
    -- the exact paper
    have s611 := s8.trans s11
    have hD11 := s11 _ _ hD8
    refine ⟨d, _, hD11, trivial, fun od => ?_⟩
    have hDL : (upd H11 d (.frz od (.dK (kvsOf D)))) d = some (.frz od (.dK (kvsOf D))) := upd_same
    generalize hHL : upd H11 d (.frz od (.dK (kvsOf D))) = HL at hDL
    have hDl := hF.len
    refine ⟨_, rfl, d, od, rfl, .inl ⟨kvsOf D, hDL, fun D3 hD3 => ?_⟩⟩
    refine lc_it (walk_keys (d := d) (o := od) (kvs := kvsOf D)) (fun i H' => Same HL H' ∧ H' D3 = some (.lst (((D.map (·.1)).take i).map V.str))) ⟨same_new hD3, upd_same⟩ (fun i H' _ h => h.1 _ _ hDL) ?_ ?_
    · rintro i x H12 H13 hi ⟨s13, h13⟩ ⟨rfl, ky, vv, hky, rfl⟩
      obtain ⟨y, v, hyv, rfl, rfl⟩ : ∃ y v, D[i]? = some (y, v) ∧ Sum.inr y = ky ∧ V.int v = vv := by
        unfold kvsOf at hky
        rw [List.getElem?_map] at hky
        cases q : D[i]? with
        | none => rw [q] at hky; cases hky
        | some z =>
          rw [q] at hky
          have := Prod.mk.inj (Option.some.inj hky)
          exact ⟨z.1, z.2, rfl, this.1, this.2⟩
      refine ⟨rfl, _, rfl, _, h13, ?_, same_upd_new s13 hD3, ?_⟩
      · rw [List.length_map, List.length_take, List.length_map]
        exact line10k (by omega)
      · have : (D.map (·.1))[i]? = some y := by rw [List.getElem?_map, hyv]; rfl
        rw [upd_same, List.take_add_one, this, List.map_append]
        rfl
    rintro H12 ⟨s13, h13⟩
    refine ⟨s13 _ _ hDL, ?_⟩
    have sb : Same H11 (upd H12 d (.dK (kvsOf D))) := same_lock hD11 (hHL ▸ s13)
    have neD3 : D3 ≠ d := fun z => by
      rw [z, hDL] at hD3
      cases hD3
    have hD3b : (upd H12 d (.dK (kvsOf D))) D3 = some (.lst ((D.map (·.1)).map V.str)) := by
      rw [upd_ne neD3, h13, kvs_len, List.take_of_length_le (by rw [List.length_map]; exact Nat.le_refl _)]
    generalize upd H12 d (.dK (kvsOf D)) = H13 at sb hD3b
    refine ⟨D3, D.map (·.1), rfl, SqL.of hD3b, by rw [List.length_map]; omega, fun ys q hperm _ hq => ?_⟩
    have sq := same_new (o := .lst (ys.map V.str)) hq
    have hyq : (upd H13 q (.lst (ys.map V.str))) q = some (.lst (ys.map V.str)) := upd_same
    generalize upd H13 q (.lst (ys.map V.str)) = H14 at sq hyq
    have s1114 := sb.trans sq
    have hyl := hperm.length_eq
    rw [List.length_map] at hyl
    refine ⟨q, rfl, ⟨_, SqL.of hyq⟩, fun D4 hD4 => ?_⟩
    refine lc_it (walk_list (K := K) (a := q) (xs := ys.map V.str)) (fun i H' => Same H14 H' ∧ ∃ pvs, ∃ ps : Tab, H' D4 = some (.lst pvs) ∧ Paired (LabAt H') pvs ps ∧ ps.map (·.1) = ys.take i ∧ ∀ q ∈ ps, get D q.1 = some q.2)
      ⟨same_new hD4, [], [], upd_same, .nil, rfl, fun _ h => by cases h⟩ (fun i H' _ h => SqL.of (h.1 _ _ hyq)) ?_ ?_
    · rintro i x H15 H16 hi ⟨s15, pvs, ps, hpv, hps, hpm, hpg⟩ ⟨rfl, hx⟩
      rw [List.length_map] at hi
      obtain ⟨y, rfl, hy⟩ : ∃ y, V.str y = x ∧ ys[i]? = some y := by
        rw [List.getElem?_map] at hx
        cases q : ys[i]? with
        | none => rw [q] at hx; cases hx
        | some y => rw [q] at hx; exact ⟨y, Option.some.inj hx, rfl⟩
      obtain ⟨⟨y', v⟩, hm, ey⟩ := List.mem_map.mp (hperm.mem_iff.mp (List.mem_of_getElem? hy))
      have ey : y' = y := ey
      subst ey
      have hgy := get_of_mem hF.nodup hm
      have hgD := dget (.inl ((s1114.trans s15) _ _ hD11)) y'
      rw [hgy] at hgD
      refine ⟨rfl, _, rfl, _, rfl, _, rfl, d, _, rfl, hgD, (by show 2 ≤ sizeLine; decide), fun t ht => ?_⟩
      have st := same_new (o := .tup [.str y', .int v]) ht
      refine ⟨_, st _ _ hpv, ?_, ?_⟩
      · have h1 := paired_len hps
        have h2 := congrArg List.length hpm
        rw [List.length_map, List.length_take] at h2
        exact line10k (by omega)
      have kp : Keep (upd H16 t (.tup [.str y', .int v])) (upd (upd H16 t (.tup [.str y', .int v])) D4 (.lst (pvs ++ [.ref t]))) := keep_upd (st _ _ hpv) rfl
      refine ⟨same_upd_new (s15.trans st) hD4, pvs ++ [.ref t], ps ++ [(y', v)], upd_same, ?_, ?_, ?_⟩
      · exact paired_snoc ⟨t, rfl, kp _ _ rfl upd_same⟩ (Paired.mapP hps fun _ _ z => (LabAt.keep st.keep z).keep kp)
      · rw [List.map_append, hpm, List.take_add_one, hy]
        rfl
      · intro q hq
        rcases List.mem_append.mp hq with hq | hq
        · exact hpg q hq
        · rw [List.mem_singleton.mp hq]
          exact hgy
    rintro H15 ⟨s15, pvs2, ps2, hpv2, hps2, hpm2, hpg2⟩
    rw [List.length_map, List.take_length] at hpm2
    have s1115 := s1114.trans s15
    have s615 := s611.trans s1115
    -- the second paper
    refine ⟨_, rfl, _, rfl, _, rfl, _, rfl, _, rfl, _, rfl, p, _, 1, _, rfl, rfl, X0 s615, atI_nat (j := 1) rfl, lpl, _, rfl, .inl (X1 s615), fun q1 e1 => ?_⟩
    have t1 := same_new (o := .lst (P.places.map V.str)) e1
    have hpl2 : ps2.length ≤ 100 := by
      have h2 := congrArg List.length hpm2
      rw [List.length_map] at h2
      omega
    refine ⟨_, rfl, c, kd, st, m, mi, q1, D4, P.places, pvs2, ps2, M, rfl, hM8.keep (s11.trans (s1115.trans t1)).keep, Lk.ok W, Lk.kinds.mem_iff.mpr hkd, Lk.places.mem_iff.mpr hst, upd_same, (fun x hx => Lk.places.mem_iff.mpr hx), t1 _ _ hpv2, Paired.mapP hps2 (fun _ _ z => LabAt.keep t1.keep z), hpl2, ?_, fun b L H16 s16 hle hb => ?_⟩
    · intro q hq
      have := hF.key q.1 (mem_of_get (hpg2 q hq))
      exact Lk.names.mem_iff.mpr this
    have hS : Shows P kd st m (m + mi) P.places L := by
      refine shows_least W hF hU hle hpg2 (fun n v hn => ?_) hst
      rw [hpm2]
      exact hperm.mem_iff.mpr (mem_of_get hn)
    obtain rfl : b = true := hb.mpr ((Lk.shows W).mpr hS)
    exact ⟨true, true, rfl, rfl, k _⟩
end
end Wp
/-! What the top has written. Printed by gen_end.py. -/
namespace Wp
open PySem PySem.Spec PyProof.Rows L2
theorem all_mk {l : PySem.W.OpenLaw} {w : World} {K : PySem.W.Frag} {h : Heap} {mg : Str → Option Value} {fa C pq f0 f1 f2 f3 f4 f5 f6 f7 f8 f9 f10 f11 f12 f13 f14 f15 f16 f17 f18 f19 f20 f21 f22 f23 f24 f25 f26 f27 f28 f29 f30 f31 f32 f33 : Addr} {rest : List Value} {tk0 tk1 tk2 tk3 tk4 tk5 tk6 tk7 tk8 tk9 : Tok} (X : K.In h) (G : h.Ns mainGlobals mg) (hfa : mg "law" = some (.ref fa))
    {od0 an0 od1 an1 od2 an2 od3 an3 od4 an4 od5 an5 od6 an6 od7 an7 od8 an8 od9 an9 od10 an10 od11 an11 od12 an12 od13 an13 od14 an14 od15 an15 od16 an16 od17 an17 od18 an18 od19 an19 od20 an20 od21 an21 od22 an22 od23 an23 od24 an24 od25 an25 od26 an26 od27 an27 od28 an28 od29 an29 od30 an30 od31 an31 od32 an32 od33 an33 : Option Addr}
    {sl0 sl1 sl2 sl3 sl4 sl5 sl6 sl7 sl8 sl9 sl10 sl11 sl12 sl13 sl14 sl15 sl16 sl17 sl18 sl19 sl20 sl21 sl22 sl23 sl24 sl25 sl26 sl27 sl28 sl29 sl30 sl31 sl32 sl33 : Array (Option Value)}
    {oc0 kV0 dc0 pm0 cd0 ct0 oc1 kV1 dc1 pm1 cd1 ct1 oc2 kV2 dc2 pm2 cd2 ct2 oc3 kV3 dc3 pm3 cd3 ct3 oc4 kV4 dc4 pm4 cd4 ct4 oc5 kV5 dc5 pm5 cd5 ct5 oc6 kV6 dc6 pm6 cd6 ct6 oc7 kV7 dc7 pm7 cd7 ct7 oc8 kV8 dc8 pm8 cd8 ct8 oc9 kV9 dc9 pm9 cd9 ct9 oc10 kV10 dc10 pm10 cd10 ct10 oc11 kV11 dc11 pm11 cd11 ct11 oc12 kV12 dc12 pm12 cd12 ct12 oc13 kV13 dc13 pm13 cd13 ct13 oc14 kV14 dc14 pm14 cd14 ct14 oc15 kV15 dc15 pm15 cd15 ct15 oc16 kV16 dc16 pm16 cd16 ct16 oc17 kV17 dc17 pm17 cd17 ct17 oc18 kV18 dc18 pm18 cd18 ct18 oc19 kV19 dc19 pm19 cd19 ct19 oc20 kV20 dc20 pm20 cd20 ct20 oc21 kV21 dc21 pm21 cd21 ct21 oc22 kV22 dc22 pm22 cd22 ct22 oc23 kV23 dc23 pm23 cd23 ct23 oc24 kV24 dc24 pm24 cd24 ct24 oc25 kV25 dc25 pm25 cd25 ct25 oc26 kV26 dc26 pm26 cd26 ct26 oc27 kV27 dc27 pm27 cd27 ct27 oc28 kV28 dc28 pm28 cd28 ct28 oc29 kV29 dc29 pm29 cd29 ct29 oc30 kV30 dc30 pm30 cd30 ct30 oc31 kV31 dc31 pm31 cd31 ct31 oc32 kV32 dc32 pm32 cd32 ct32 oc33 kV33 dc33 pm33 cd33 ct33 : Value}
    (aC : PySem.W.nsIn K mainGlobals "Map" = some (some (.ref C)))
    (a0 : PySem.W.nsIn K mainGlobals "check_kind" = some (some (.ref f0)))
    (l0 : K.lookup f0 = some ⟨oc0, od0, .func (PySem.W.fnOf "check_kind" "check_kind" (defArgs s_check_kind) (defBody s_check_kind) (defScope s_check_kind) .none kV0 dc0 pm0 an0 cd0 ct0), sl0⟩)
    (c0 : PySem.W.codeIn K cd0 "check_kind" = true)
    (k0 : PySem.W.keepIn K (.ref f0) = true)
    (a1 : PySem.W.nsIn K mainGlobals "check_trip" = some (some (.ref f1)))
    (l1 : K.lookup f1 = some ⟨oc1, od1, .func (PySem.W.fnOf "check_trip" "check_trip" (defArgs s_check_trip) (defBody s_check_trip) (defScope s_check_trip) .none kV1 dc1 pm1 an1 cd1 ct1), sl1⟩)
    (c1 : PySem.W.codeIn K cd1 "check_trip" = true)
    (k1 : PySem.W.keepIn K (.ref f1) = true)
    (a2 : PySem.W.nsIn K mainGlobals "enter" = some (some (.ref f2)))
    (l2 : K.lookup f2 = some ⟨oc2, od2, .func (PySem.W.fnOf "enter" "enter" (defArgs s_enter) (defBody s_enter) (defScope s_enter) .none kV2 dc2 pm2 an2 cd2 ct2), sl2⟩)
    (c2 : PySem.W.codeIn K cd2 "enter" = true)
    (k2 : PySem.W.keepIn K (.ref f2) = true)
    (a3 : PySem.W.nsIn K mainGlobals "arrive" = some (some (.ref f3)))
    (l3 : K.lookup f3 = some ⟨oc3, od3, .func (PySem.W.fnOf "arrive" "arrive" (defArgs s_arrive) (defBody s_arrive) (defScope s_arrive) .none kV3 dc3 pm3 an3 cd3 ct3), sl3⟩)
    (c3 : PySem.W.codeIn K cd3 "arrive" = true)
    (k3 : PySem.W.keepIn K (.ref f3) = true)
    (a4 : PySem.W.nsIn K mainGlobals "is_drivable" = some (some (.ref f4)))
    (l4 : K.lookup f4 = some ⟨oc4, od4, .func (PySem.W.fnOf "is_drivable" "is_drivable" (defArgs s_is_drivable) (defBody s_is_drivable) (defScope s_is_drivable) .none kV4 dc4 pm4 an4 cd4 ct4), sl4⟩)
    (c4 : PySem.W.codeIn K cd4 "is_drivable" = true)
    (k4 : PySem.W.keepIn K (.ref f4) = true)
    (a5 : PySem.W.nsIn K mainGlobals "least_labels" = some (some (.ref f5)))
    (l5 : K.lookup f5 = some ⟨oc5, od5, .func (PySem.W.fnOf "least_labels" "least_labels" (defArgs s_least_labels) (defBody s_least_labels) (defScope s_least_labels) .none kV5 dc5 pm5 an5 cd5 ct5), sl5⟩)
    (c5 : PySem.W.codeIn K cd5 "least_labels" = true)
    (k5 : PySem.W.keepIn K (.ref f5) = true)
    (a6 : PySem.W.nsIn K mainGlobals "check_range" = some (some (.ref f6)))
    (l6 : K.lookup f6 = some ⟨oc6, od6, .func (PySem.W.fnOf "check_range" "check_range" (defArgs s_check_range) (defBody s_check_range) (defScope s_check_range) .none kV6 dc6 pm6 an6 cd6 ct6), sl6⟩)
    (c6 : PySem.W.codeIn K cd6 "check_range" = true)
    (k6 : PySem.W.keepIn K (.ref f6) = true)
    (a7 : PySem.W.nsIn K mainGlobals "is_labelled" = some (some (.ref f7)))
    (l7 : K.lookup f7 = some ⟨oc7, od7, .func (PySem.W.fnOf "is_labelled" "is_labelled" (defArgs s_is_labelled) (defBody s_is_labelled) (defScope s_is_labelled) .none kV7 dc7 pm7 an7 cd7 ct7), sl7⟩)
    (c7 : PySem.W.codeIn K cd7 "is_labelled" = true)
    (k7 : PySem.W.keepIn K (.ref f7) = true)
    (a8 : PySem.W.nsIn K mainGlobals "is_name" = some (some (.ref f8)))
    (l8 : K.lookup f8 = some ⟨oc8, od8, .func (PySem.W.fnOf "is_name" "is_name" (defArgs s_is_name) (defBody s_is_name) (defScope s_is_name) .none kV8 dc8 pm8 an8 cd8 ct8), sl8⟩)
    (c8 : PySem.W.codeIn K cd8 "is_name" = true)
    (k8 : PySem.W.keepIn K (.ref f8) = true)
    (a9 : PySem.W.nsIn K mainGlobals "are_different" = some (some (.ref f9)))
    (l9 : K.lookup f9 = some ⟨oc9, od9, .func (PySem.W.fnOf "are_different" "are_different" (defArgs s_are_different) (defBody s_are_different) (defScope s_are_different) .none kV9 dc9 pm9 an9 cd9 ct9), sl9⟩)
    (c9 : PySem.W.codeIn K cd9 "are_different" = true)
    (k9 : PySem.W.keepIn K (.ref f9) = true)
    (a10 : PySem.W.nsIn K mainGlobals "are_hours" = some (some (.ref f10)))
    (l10 : K.lookup f10 = some ⟨oc10, od10, .func (PySem.W.fnOf "are_hours" "are_hours" (defArgs s_are_hours) (defBody s_are_hours) (defScope s_are_hours) .none kV10 dc10 pm10 an10 cd10 ct10), sl10⟩)
    (c10 : PySem.W.codeIn K cd10 "are_hours" = true)
    (k10 : PySem.W.keepIn K (.ref f10) = true)
    (a11 : PySem.W.nsIn K mainGlobals "name_of" = some (some (.ref f11)))
    (l11 : K.lookup f11 = some ⟨oc11, od11, .func (PySem.W.fnOf "name_of" "name_of" (defArgs s_name_of) (defBody s_name_of) (defScope s_name_of) .none kV11 dc11 pm11 an11 cd11 ct11), sl11⟩)
    (c11 : PySem.W.codeIn K cd11 "name_of" = true)
    (k11 : PySem.W.keepIn K (.ref f11) = true)
    (a12 : PySem.W.nsIn K mainGlobals "require" = some (some (.ref f12)))
    (l12 : K.lookup f12 = some ⟨oc12, od12, .func (PySem.W.fnOf "require" "require" (defArgs s_require) (defBody s_require) (defScope s_require) .none kV12 dc12 pm12 an12 cd12 ct12), sl12⟩)
    (c12 : PySem.W.codeIn K cd12 "require" = true)
    (k12 : PySem.W.keepIn K (.ref f12) = true)
    (a13 : PySem.W.findIn K (.ref C) "__init__" = some (some (.ref f13)))
    (i13 : PySem.W.isFn K (.ref f13) = true)
    (l13 : K.lookup f13 = some ⟨oc13, od13, .func (PySem.W.fnOf "__init__" "Map.__init__" (defArgs s_init) (defBody s_init) (defScope s_init) .none kV13 dc13 pm13 an13 cd13 ct13), sl13⟩)
    (c13 : PySem.W.codeIn K cd13 "Map.__init__" = true)
    (k13 : PySem.W.keepIn K (.ref f13) = true)
    (a14 : PySem.W.findIn K (.ref C) "checked" = some (some (.ref f14)))
    (i14 : PySem.W.isFn K (.ref f14) = true)
    (l14 : K.lookup f14 = some ⟨oc14, od14, .func (PySem.W.fnOf "checked" "Map.checked" (defArgs s_checked) (defBody s_checked) (defScope s_checked) .none kV14 dc14 pm14 an14 cd14 ct14), sl14⟩)
    (c14 : PySem.W.codeIn K cd14 "Map.checked" = true)
    (k14 : PySem.W.keepIn K (.ref f14) = true)
    (a15 : PySem.W.findIn K (.ref C) "checked_bar" = some (some (.ref f15)))
    (i15 : PySem.W.isFn K (.ref f15) = true)
    (l15 : K.lookup f15 = some ⟨oc15, od15, .func (PySem.W.fnOf "checked_bar" "Map.checked_bar" (defArgs s_checked_bar) (defBody s_checked_bar) (defScope s_checked_bar) .none kV15 dc15 pm15 an15 cd15 ct15), sl15⟩)
    (c15 : PySem.W.codeIn K cd15 "Map.checked_bar" = true)
    (k15 : PySem.W.keepIn K (.ref f15) = true)
    (pa : PySem.W.findIn K (.ref C) "road_names" = some (some (.ref pq)))
    (pb : PySem.W.specialIn K (.ref pq) "__get__" = some (some (.builtin "property.__get__")))
    (pc : PySem.W.takesIn K (.ref pq) = some true)
    (pd : PySem.W.recIn K pq "property" = some (.ref f16 :: rest))
    (l16 : K.lookup f16 = some ⟨oc16, od16, .func (PySem.W.fnOf "road_names" "Map.road_names" (defArgs s_road_names) (defBody s_road_names) (defScope s_road_names) .none kV16 dc16 pm16 an16 cd16 ct16), sl16⟩)
    (c16 : PySem.W.codeIn K cd16 "Map.road_names" = true)
    (k16 : PySem.W.keepIn K (.ref f16) = true)
    (a17 : PySem.W.findIn K (.ref C) "road" = some (some (.ref f17)))
    (i17 : PySem.W.isFn K (.ref f17) = true)
    (l17 : K.lookup f17 = some ⟨oc17, od17, .func (PySem.W.fnOf "road" "Map.road" (defArgs s_road) (defBody s_road) (defScope s_road) .none kV17 dc17 pm17 an17 cd17 ct17), sl17⟩)
    (c17 : PySem.W.codeIn K cd17 "Map.road" = true)
    (k17 : PySem.W.keepIn K (.ref f17) = true)
    (a18 : PySem.W.findIn K (.ref C) "check_place" = some (some (.ref f18)))
    (i18 : PySem.W.isFn K (.ref f18) = true)
    (l18 : K.lookup f18 = some ⟨oc18, od18, .func (PySem.W.fnOf "check_place" "Map.check_place" (defArgs s_check_place) (defBody s_check_place) (defScope s_check_place) .none kV18 dc18 pm18 an18 cd18 ct18), sl18⟩)
    (c18 : PySem.W.codeIn K cd18 "Map.check_place" = true)
    (k18 : PySem.W.keepIn K (.ref f18) = true)
    (a19 : PySem.W.findIn K (.ref C) "roads_from" = some (some (.ref f19)))
    (i19 : PySem.W.isFn K (.ref f19) = true)
    (l19 : K.lookup f19 = some ⟨oc19, od19, .func (PySem.W.fnOf "roads_from" "Map.roads_from" (defArgs s_roads_from) (defBody s_roads_from) (defScope s_roads_from) .none kV19 dc19 pm19 an19 cd19 ct19), sl19⟩)
    (c19 : PySem.W.codeIn K cd19 "Map.roads_from" = true)
    (k19 : PySem.W.keepIn K (.ref f19) = true)
    (a20 : PySem.W.findIn K (.ref C) "is_barred" = some (some (.ref f20)))
    (i20 : PySem.W.isFn K (.ref f20) = true)
    (l20 : K.lookup f20 = some ⟨oc20, od20, .func (PySem.W.fnOf "is_barred" "Map.is_barred" (defArgs s_is_barred) (defBody s_is_barred) (defScope s_is_barred) .none kV20 dc20 pm20 an20 cd20 ct20), sl20⟩)
    (c20 : PySem.W.codeIn K cd20 "Map.is_barred" = true)
    (k20 : PySem.W.keepIn K (.ref f20) = true)
    (a21 : PySem.W.nsIn K mainGlobals "_law_row" = some (some (.ref f21)))
    (l21 : K.lookup f21 = some ⟨oc21, od21, .func (PySem.W.fnOf "_law_row" "_law_row" (defArgs s_l_row) (defBody s_l_row) (defScope s_l_row) .none kV21 dc21 pm21 an21 cd21 ct21), sl21⟩)
    (c21 : PySem.W.codeIn K cd21 "_law_row" = true)
    (k21 : PySem.W.keepIn K (.ref f21) = true)
    (a22 : PySem.W.nsIn K mainGlobals "_law_numbers" = some (some (.ref f22)))
    (l22 : K.lookup f22 = some ⟨oc22, od22, .func (PySem.W.fnOf "_law_numbers" "_law_numbers" (defArgs s_l_numbers) (defBody s_l_numbers) (defScope s_l_numbers) .none kV22 dc22 pm22 an22 cd22 ct22), sl22⟩)
    (c22 : PySem.W.codeIn K cd22 "_law_numbers" = true)
    (k22 : PySem.W.keepIn K (.ref f22) = true)
    (a23 : PySem.W.nsIn K mainGlobals "_law_names" = some (some (.ref f23)))
    (l23 : K.lookup f23 = some ⟨oc23, od23, .func (PySem.W.fnOf "_law_names" "_law_names" (defArgs s_l_names) (defBody s_l_names) (defScope s_l_names) .none kV23 dc23 pm23 an23 cd23 ct23), sl23⟩)
    (c23 : PySem.W.codeIn K cd23 "_law_names" = true)
    (k23 : PySem.W.keepIn K (.ref f23) = true)
    (a24 : PySem.W.nsIn K mainGlobals "_law_some" = some (some (.ref f24)))
    (l24 : K.lookup f24 = some ⟨oc24, od24, .func (PySem.W.fnOf "_law_some" "_law_some" (defArgs s_l_some) (defBody s_l_some) (defScope s_l_some) .none kV24 dc24 pm24 an24 cd24 ct24), sl24⟩)
    (c24 : PySem.W.codeIn K cd24 "_law_some" = true)
    (k24 : PySem.W.keepIn K (.ref f24) = true)
    (a25 : PySem.W.nsIn K mainGlobals "_law_hours" = some (some (.ref f25)))
    (l25 : K.lookup f25 = some ⟨oc25, od25, .func (PySem.W.fnOf "_law_hours" "_law_hours" (defArgs s_l_hours) (defBody s_l_hours) (defScope s_l_hours) .none kV25 dc25 pm25 an25 cd25 ct25), sl25⟩)
    (c25 : PySem.W.codeIn K cd25 "_law_hours" = true)
    (k25 : PySem.W.keepIn K (.ref f25) = true)
    (a26 : PySem.W.nsIn K mainGlobals "_law_map" = some (some (.ref f26)))
    (l26 : K.lookup f26 = some ⟨oc26, od26, .func (PySem.W.fnOf "_law_map" "_law_map" (defArgs s_l_map) (defBody s_l_map) (defScope s_l_map) .none kV26 dc26 pm26 an26 cd26 ct26), sl26⟩)
    (c26 : PySem.W.codeIn K cd26 "_law_map" = true)
    (k26 : PySem.W.keepIn K (.ref f26) = true)
    (a27 : PySem.W.nsIn K mainGlobals "_law_made" = some (some (.ref f27)))
    (l27 : K.lookup f27 = some ⟨oc27, od27, .func (PySem.W.fnOf "_law_made" "_law_made" (defArgs s_l_made) (defBody s_l_made) (defScope s_l_made) .none kV27 dc27 pm27 an27 cd27 ct27), sl27⟩)
    (c27 : PySem.W.codeIn K cd27 "_law_made" = true)
    (k27 : PySem.W.keepIn K (.ref f27) = true)
    (a28 : PySem.W.nsIn K mainGlobals "_law_soon" = some (some (.ref f28)))
    (l28 : K.lookup f28 = some ⟨oc28, od28, .func (PySem.W.fnOf "_law_soon" "_law_soon" (defArgs s_l_soon) (defBody s_l_soon) (defScope s_l_soon) .none kV28 dc28 pm28 an28 cd28 ct28), sl28⟩)
    (c28 : PySem.W.codeIn K cd28 "_law_soon" = true)
    (k28 : PySem.W.keepIn K (.ref f28) = true)
    (a29 : PySem.W.nsIn K mainGlobals "_law_may" = some (some (.ref f29)))
    (l29 : K.lookup f29 = some ⟨oc29, od29, .func (PySem.W.fnOf "_law_may" "_law_may" (defArgs s_l_may) (defBody s_l_may) (defScope s_l_may) .none kV29 dc29 pm29 an29 cd29 ct29), sl29⟩)
    (c29 : PySem.W.codeIn K cd29 "_law_may" = true)
    (k29 : PySem.W.keepIn K (.ref f29) = true)
    (a30 : PySem.W.nsIn K mainGlobals "_law_labels" = some (some (.ref f30)))
    (l30 : K.lookup f30 = some ⟨oc30, od30, .func (PySem.W.fnOf "_law_labels" "_law_labels" (defArgs s_l_labels) (defBody s_l_labels) (defScope s_l_labels) .none kV30 dc30 pm30 an30 cd30 ct30), sl30⟩)
    (c30 : PySem.W.codeIn K cd30 "_law_labels" = true)
    (k30 : PySem.W.keepIn K (.ref f30) = true)
    (a31 : PySem.W.nsIn K mainGlobals "_law_reach" = some (some (.ref f31)))
    (l31 : K.lookup f31 = some ⟨oc31, od31, .func (PySem.W.fnOf "_law_reach" "_law_reach" (defArgs s_l_reach) (defBody s_l_reach) (defScope s_l_reach) .none kV31 dc31 pm31 an31 cd31 ct31), sl31⟩)
    (c31 : PySem.W.codeIn K cd31 "_law_reach" = true)
    (k31 : PySem.W.keepIn K (.ref f31) = true)
    (a32 : PySem.W.nsIn K mainGlobals "_law_trip" = some (some (.ref f32)))
    (l32 : K.lookup f32 = some ⟨oc32, od32, .func (PySem.W.fnOf "_law_trip" "_law_trip" (defArgs s_l_trip) (defBody s_l_trip) (defScope s_l_trip) .none kV32 dc32 pm32 an32 cd32 ct32), sl32⟩)
    (c32 : PySem.W.codeIn K cd32 "_law_trip" = true)
    (k32 : PySem.W.keepIn K (.ref f32) = true)
    (a33 : PySem.W.nsIn K mainGlobals "law" = some (some (.ref f33)))
    (l33 : K.lookup f33 = some ⟨oc33, od33, .func (PySem.W.fnOf "law" "law" (defArgs s_law) (defBody s_law) (defScope s_law) .none kV33 dc33 pm33 an33 cd33 ct33), sl33⟩)
    (c33 : PySem.W.codeIn K cd33 "law" = true)
    (k33 : PySem.W.keepIn K (.ref f33) = true)
    (pg : PySem.W.plainGet K C Str.empty = true)
    (hd : PySem.W.hasDictIn K C = true)
    (po : PySem.W.plainOver K C = true)
    (sa : PySem.W.findIn K (.ref C) "__setattr__" = some (some (.builtin "object.__setattr__")))
    (mk : PySem.W.makesIn K C = true)
    (kc : PySem.W.keepIn K (.ref C) = true)
    (n_day : PySem.W.findIn K (.ref C) "day" = some none)
    (n_places : PySem.W.findIn K (.ref C) "places" = some none)
    (n_kinds : PySem.W.findIn K (.ref C) "kinds" = some none)
    (n_roads : PySem.W.findIn K (.ref C) "roads" = some none)
    (n_bars : PySem.W.findIn K (.ref C) "bars" = some none)
    (co0 : PySem.W.nsIn K mainGlobals "NAME_CHARS" = some (some (.str "abcdefghijklmnopqrstuvwxyz0123456789" tk0)))
    (co1 : PySem.W.nsIn K mainGlobals "MOST_NAME_CHARS" = some (some (.int 12 tk1)))
    (co2 : PySem.W.nsIn K mainGlobals "MOST_DAY" = some (some (.int 1440 tk2)))
    (co3 : PySem.W.nsIn K mainGlobals "MOST_PLACES" = some (some (.int 30 tk3)))
    (co4 : PySem.W.nsIn K mainGlobals "MOST_KINDS" = some (some (.int 4 tk4)))
    (co5 : PySem.W.nsIn K mainGlobals "MOST_ROADS" = some (some (.int 60 tk5)))
    (co6 : PySem.W.nsIn K mainGlobals "MOST_BARS" = some (some (.int 40 tk6)))
    (co7 : PySem.W.nsIn K mainGlobals "MOST_MINUTES" = some (some (.int 1000 tk7)))
    (co8 : PySem.W.nsIn K mainGlobals "MOST_HOURS" = some (some (.int 4 tk8)))
    (co9 : PySem.W.nsIn K mainGlobals "ROAD_PARTS" = some (some (.int 6 tk9)))
    (z0 : PySem.W.nsIn K mainGlobals "abs" = some none)
    (z1 : PySem.W.nsIn K mainGlobals "all" = some none)
    (z2 : PySem.W.nsIn K mainGlobals "enumerate" = some none)
    (z3 : PySem.W.nsIn K mainGlobals "int" = some none)
    (z4 : PySem.W.nsIn K mainGlobals "len" = some none)
    (z5 : PySem.W.nsIn K mainGlobals "list" = some none)
    (z6 : PySem.W.nsIn K mainGlobals "max" = some none)
    (z7 : PySem.W.nsIn K mainGlobals "min" = some none)
    (z8 : PySem.W.nsIn K mainGlobals "range" = some none)
    (z9 : PySem.W.nsIn K mainGlobals "sorted" = some none)
    (z10 : PySem.W.nsIn K mainGlobals "tuple" = some none)
    : ∃ fd : FuncData, (∀ (s : Shared) (v : Value), BindsTo s fd ⟨[v], []⟩ [("_law_script", v)]) ∧ ∀ base : Heap, K.In base → base.Ns mainGlobals mg → FnOk l.prog w K mg base CX0 7 fa fd ["_law_script"] (sp_law K) := by
  have e := hfa.symm.trans (PySem.W.mg_of X G a33)
  cases e
  have F0 := fun_mk (st := s_check_kind) l0 c0 k0
  have F1 := fun_mk (st := s_check_trip) l1 c1 k1
  have F2 := fun_mk (st := s_enter) l2 c2 k2
  have F3 := fun_mk (st := s_arrive) l3 c3 k3
  have F4 := fun_mk (st := s_is_drivable) l4 c4 k4
  have F5 := fun_mk (st := s_least_labels) l5 c5 k5
  have F6 := fun_mk (st := s_check_range) l6 c6 k6
  have F7 := fun_mk (st := s_is_labelled) l7 c7 k7
  have F8 := fun_mk (st := s_is_name) l8 c8 k8
  have F9 := fun_mk (st := s_are_different) l9 c9 k9
  have F10 := fun_mk (st := s_are_hours) l10 c10 k10
  have F11 := fun_mk (st := s_name_of) l11 c11 k11
  have F12 := fun_mk (st := s_require) l12 c12 k12
  have F13 := fun_mk (st := s_init) l13 c13 k13
  have F14 := fun_mk (st := s_checked) l14 c14 k14
  have F15 := fun_mk (st := s_checked_bar) l15 c15 k15
  have F16 := fun_mk (st := s_road_names) l16 c16 k16
  have F17 := fun_mk (st := s_road) l17 c17 k17
  have F18 := fun_mk (st := s_check_place) l18 c18 k18
  have F19 := fun_mk (st := s_roads_from) l19 c19 k19
  have F20 := fun_mk (st := s_is_barred) l20 c20 k20
  have F21 := fun_mk (st := s_l_row) l21 c21 k21
  have F22 := fun_mk (st := s_l_numbers) l22 c22 k22
  have F23 := fun_mk (st := s_l_names) l23 c23 k23
  have F24 := fun_mk (st := s_l_some) l24 c24 k24
  have F25 := fun_mk (st := s_l_hours) l25 c25 k25
  have F26 := fun_mk (st := s_l_map) l26 c26 k26
  have F27 := fun_mk (st := s_l_made) l27 c27 k27
  have F28 := fun_mk (st := s_l_soon) l28 c28 k28
  have F29 := fun_mk (st := s_l_may) l29 c29 k29
  have F30 := fun_mk (st := s_l_labels) l30 c30 k30
  have F31 := fun_mk (st := s_l_reach) l31 c31 k31
  have F32 := fun_mk (st := s_l_trip) l32 c32 k32
  have F33 := fun_mk (st := s_law) l33 c33 k33
  have T : Txt K mg ⟨C, pq, f0, _, f1, _, f2, _, f3, _, f4, _, f5, _, f6, _, f7, _, f8, _, f9, _, f10, _, f11, _, f12, _, f13, _, f14, _, f15, _, f16, _, f17, _, f18, _, f19, _, f20, _, f21, _, f22, _, f23, _, f24, _, f25, _, f26, _, f27, _, f28, _, f29, _, f30, _, f31, _, f32, _, fa, _⟩ := {
    cl := ⟨pg, hd, po, sa⟩,
    mgC := PySem.W.mg_of X G aC,
    mkC := ⟨mk, a13, i13, kc⟩,
    pr := ⟨pa, pb, pc, _, pd⟩,
    n_day := n_day,
    n_places := n_places,
    n_kinds := n_kinds,
    n_roads := n_roads,
    n_bars := n_bars,
    check_kind := ⟨F0, PySem.W.mg_of X G a0, F0.binds (ps := ["chart", "kind"]) fun _ _ _ _ _ _ us hl => match us, hl with | [_, _], _ => rfl⟩,
    check_trip := ⟨F1, PySem.W.mg_of X G a1, F1.binds (ps := ["chart", "kind", "start"]) fun _ _ _ _ _ _ us hl => match us, hl with | [_, _, _], _ => rfl⟩,
    enter := ⟨F2, PySem.W.mg_of X G a2, F2.binds (ps := ["chart", "name", "moment"]) fun _ _ _ _ _ _ us hl => match us, hl with | [_, _, _], _ => rfl⟩,
    arrive := ⟨F3, PySem.W.mg_of X G a3, F3.binds (ps := ["chart", "name", "moment"]) fun _ _ _ _ _ _ us hl => match us, hl with | [_, _, _], _ => rfl⟩,
    is_drivable := ⟨F4, PySem.W.mg_of X G a4, F4.binds (ps := ["chart", "kind", "place", "before", "name"]) fun _ _ _ _ _ _ us hl => match us, hl with | [_, _, _, _, _], _ => rfl⟩,
    least_labels := ⟨F5, PySem.W.mg_of X G a5, F5.binds (ps := ["chart", "paper"]) fun _ _ _ _ _ _ us hl => match us, hl with | [_, _], _ => rfl⟩,
    check_range := ⟨F6, PySem.W.mg_of X G a6, F6.binds (ps := ["chart", "kind", "start", "moment", "minutes", "places", "paper"]) fun _ _ _ _ _ _ us hl => match us, hl with | [_, _, _, _, _, _, _], _ => rfl⟩,
    is_labelled := ⟨F7, PySem.W.mg_of X G a7, F7.binds (ps := ["chart", "kind", "least", "bound", "place", "moment", "name", "before"]) fun _ _ _ _ _ _ us hl => match us, hl with | [_, _, _, _, _, _, _, _], _ => rfl⟩,
    is_name := ⟨F8, PySem.W.mg_of X G a8, F8.binds (ps := ["text"]) fun _ _ _ _ _ _ us hl => match us, hl with | [_], _ => rfl⟩,
    are_different := ⟨F9, PySem.W.mg_of X G a9, F9.binds (ps := ["parts"]) fun _ _ _ _ _ _ us hl => match us, hl with | [_], _ => rfl⟩,
    are_hours := ⟨F10, PySem.W.mg_of X G a10, F10.binds (ps := ["hours", "day"]) fun _ _ _ _ _ _ us hl => match us, hl with | [_, _], _ => rfl⟩,
    name_of := ⟨F11, PySem.W.mg_of X G a11, F11.binds (ps := ["road"]) fun _ _ _ _ _ _ us hl => match us, hl with | [_], _ => rfl⟩,
    require := ⟨F12, PySem.W.mg_of X G a12, F12.binds (ps := ["holds"]) fun _ _ _ _ _ _ us hl => match us, hl with | [_], _ => rfl⟩,
    init := F13,
    checked := ⟨F14, ⟨a14, i14, k14⟩, F14.binds (ps := ["self", "road"]) fun _ _ _ _ _ _ us hl => match us, hl with | [_, _], _ => rfl⟩,
    checked_bar := ⟨F15, ⟨a15, i15, k15⟩, F15.binds (ps := ["self", "bar"]) fun _ _ _ _ _ _ us hl => match us, hl with | [_, _], _ => rfl⟩,
    road_names := F16,
    b_road_names := F16.binds (ps := ["self"]) fun _ _ _ _ _ _ us hl => match us, hl with | [_], _ => rfl,
    road := ⟨F17, ⟨a17, i17, k17⟩, F17.binds (ps := ["self", "name"]) fun _ _ _ _ _ _ us hl => match us, hl with | [_, _], _ => rfl⟩,
    check_place := ⟨F18, ⟨a18, i18, k18⟩, F18.binds (ps := ["self", "place"]) fun _ _ _ _ _ _ us hl => match us, hl with | [_, _], _ => rfl⟩,
    roads_from := ⟨F19, ⟨a19, i19, k19⟩, F19.binds (ps := ["self", "place"]) fun _ _ _ _ _ _ us hl => match us, hl with | [_, _], _ => rfl⟩,
    is_barred := ⟨F20, ⟨a20, i20, k20⟩, F20.binds (ps := ["self", "first", "second"]) fun _ _ _ _ _ _ us hl => match us, hl with | [_, _, _], _ => rfl⟩,
    l_row := ⟨F21, PySem.W.mg_of X G a21, F21.binds (ps := ["_law_cell", "_law_many"]) fun _ _ _ _ _ _ us hl => match us, hl with | [_, _], _ => rfl⟩,
    l_numbers := ⟨F22, PySem.W.mg_of X G a22, F22.binds (ps := ["_law_script", "_law_many"]) fun _ _ _ _ _ _ us hl => match us, hl with | [_, _], _ => rfl⟩,
    l_names := ⟨F23, PySem.W.mg_of X G a23, F23.binds (ps := ["_law_number", "_law_many"]) fun _ _ _ _ _ _ us hl => match us, hl with | [_, _], _ => rfl⟩,
    l_some := ⟨F24, PySem.W.mg_of X G a24, F24.binds (ps := ["_law_number", "_law_rights"]) fun _ _ _ _ _ _ us hl => match us, hl with | [_, _], _ => rfl⟩,
    l_hours := ⟨F25, PySem.W.mg_of X G a25, F25.binds (ps := ["_law_numbers_here", "_law_at", "_law_day"]) fun _ _ _ _ _ _ us hl => match us, hl with | [_, _, _], _ => rfl⟩,
    l_map := ⟨F26, PySem.W.mg_of X G a26, F26.binds (ps := ["_law_numbers_here", "_law_at"]) fun _ _ _ _ _ _ us hl => match us, hl with | [_, _], _ => rfl⟩,
    l_made := ⟨F27, PySem.W.mg_of X G a27, F27.binds (ps := ["_law_parts"]) fun _ _ _ _ _ _ us hl => match us, hl with | [_], _ => rfl⟩,
    l_soon := ⟨F28, PySem.W.mg_of X G a28, F28.binds (ps := ["_law_day", "_law_hours_here", "_law_moment"]) fun _ _ _ _ _ _ us hl => match us, hl with | [_, _, _], _ => rfl⟩,
    l_may := ⟨F29, PySem.W.mg_of X G a29, F29.binds (ps := ["_law_parts", "_law_kind", "_law_place", "_law_before", "_law_road_here"]) fun _ _ _ _ _ _ us hl => match us, hl with | [_, _, _, _, _], _ => rfl⟩,
    l_labels := ⟨F30, PySem.W.mg_of X G a30, F30.binds (ps := ["_law_parts", "_law_kind", "_law_start", "_law_moment"]) fun _ _ _ _ _ _ us hl => match us, hl with | [_, _, _, _], _ => rfl⟩,
    l_reach := ⟨F31, PySem.W.mg_of X G a31, F31.binds (ps := ["_law_parts", "_law_kind", "_law_start", "_law_moment"]) fun _ _ _ _ _ _ us hl => match us, hl with | [_, _, _, _], _ => rfl⟩,
    l_trip := ⟨F32, PySem.W.mg_of X G a32, F32.binds (ps := ["_law_parts", "_law_numbers_here", "_law_at"]) fun _ _ _ _ _ _ us hl => match us, hl with | [_, _, _], _ => rfl⟩,
    law_ := ⟨F33, PySem.W.mg_of X G a33, F33.binds (ps := ["_law_script"]) fun _ _ _ _ _ _ us hl => match us, hl with | [_], _ => rfl⟩,
    NAME_CHARS := ⟨_, PySem.W.mg_of X G co0⟩,
    MOST_NAME_CHARS := ⟨_, PySem.W.mg_of X G co1⟩,
    MOST_DAY := ⟨_, PySem.W.mg_of X G co2⟩,
    MOST_PLACES := ⟨_, PySem.W.mg_of X G co3⟩,
    MOST_KINDS := ⟨_, PySem.W.mg_of X G co4⟩,
    MOST_ROADS := ⟨_, PySem.W.mg_of X G co5⟩,
    MOST_BARS := ⟨_, PySem.W.mg_of X G co6⟩,
    MOST_MINUTES := ⟨_, PySem.W.mg_of X G co7⟩,
    MOST_HOURS := ⟨_, PySem.W.mg_of X G co8⟩,
    ROAD_PARTS := ⟨_, PySem.W.mg_of X G co9⟩,
    z_abs := PySem.W.mg_none_of X G z0,
    z_all := PySem.W.mg_none_of X G z1,
    z_enumerate := PySem.W.mg_none_of X G z2,
    z_int := PySem.W.mg_none_of X G z3,
    z_len := PySem.W.mg_none_of X G z4,
    z_list := PySem.W.mg_none_of X G z5,
    z_max := PySem.W.mg_none_of X G z6,
    z_min := PySem.W.mg_none_of X G z7,
    z_range := PySem.W.mg_none_of X G z8,
    z_sorted := PySem.W.mg_none_of X G z9,
    z_tuple := PySem.W.mg_none_of X G z10 }
  exact ⟨_, fun s v => .of_eq rfl, fun base _ _ => ok_law T⟩
end Wp
open PySem PySem.W PyProof.Rows
set_option maxRecDepth 100000 in
set_option maxHeartbeats 0 in
theorem PySem.Challenge.cw_waypapers_k77_whole_papers_of_ranges_are_holds : PySem.Challenge.rw_waypapers_k77_whole_papers_of_ranges_are.Holds := by
  w_on; o_law; k_head; (case hw => w_witness2)
  k_fill
  refine L2.walk_of (l := PySem.Challenge.rw_waypapers_k77_whole_papers_of_ranges_are) (n := 63) (k := 7) (x := "_law_script") (CX := fun _ => L2.CX0) (sp := fun w => Wp.sp_law _) rfl (by decide) rfl ⟨rfl, by decide, by decide⟩ (fun w h Y => PySem.W.kIn_of Y) ?F (fun _ _ a ns hl _ hS => ⟨a, ns, rfl, hS, hl, fun _ => rfl⟩) (fun _ _ _ _ _ h => h)
  case F =>
    intro w mg fa h KX G hmg
    refine' Wp.all_mk KX G hmg ?aC ?a0 ?l0 ?c0 ?k0 ?a1 ?l1 ?c1 ?k1 ?a2 ?l2 ?c2 ?k2 ?a3 ?l3 ?c3 ?k3 ?a4 ?l4 ?c4 ?k4 ?a5 ?l5 ?c5 ?k5 ?a6 ?l6 ?c6 ?k6 ?a7 ?l7 ?c7 ?k7 ?a8 ?l8 ?c8 ?k8 ?a9 ?l9 ?c9 ?k9 ?a10 ?l10 ?c10 ?k10 ?a11 ?l11 ?c11 ?k11 ?a12 ?l12 ?c12 ?k12 ?a13 ?i13 ?l13 ?c13 ?k13 ?a14 ?i14 ?l14 ?c14 ?k14 ?a15 ?i15 ?l15 ?c15 ?k15 ?pa ?pb ?pc ?pd ?l16 ?c16 ?k16 ?a17 ?i17 ?l17 ?c17 ?k17 ?a18 ?i18 ?l18 ?c18 ?k18 ?a19 ?i19 ?l19 ?c19 ?k19 ?a20 ?i20 ?l20 ?c20 ?k20 ?a21 ?l21 ?c21 ?k21 ?a22 ?l22 ?c22 ?k22 ?a23 ?l23 ?c23 ?k23 ?a24 ?l24 ?c24 ?k24 ?a25 ?l25 ?c25 ?k25 ?a26 ?l26 ?c26 ?k26 ?a27 ?l27 ?c27 ?k27 ?a28 ?l28 ?c28 ?k28 ?a29 ?l29 ?c29 ?k29 ?a30 ?l30 ?c30 ?k30 ?a31 ?l31 ?c31 ?k31 ?a32 ?l32 ?c32 ?k32 ?a33 ?l33 ?c33 ?k33 ?pg ?hd ?po ?sa ?mk ?kc ?n_day ?n_places ?n_kinds ?n_roads ?n_bars ?co0 ?co1 ?co2 ?co3 ?co4 ?co5 ?co6 ?co7 ?co8 ?co9 ?z0 ?z1 ?z2 ?z3 ?z4 ?z5 ?z6 ?z7 ?z8 ?z9 ?z10
    (case aC => k_is)
    (case a0 => k_is)
    (case l0 => k_is)
    (case c0 => k_is)
    (case k0 => k_is)
    (case a1 => k_is)
    (case l1 => k_is)
    (case c1 => k_is)
    (case k1 => k_is)
    (case a2 => k_is)
    (case l2 => k_is)
    (case c2 => k_is)
    (case k2 => k_is)
    (case a3 => k_is)
    (case l3 => k_is)
    (case c3 => k_is)
    (case k3 => k_is)
    (case a4 => k_is)
    (case l4 => k_is)
    (case c4 => k_is)
    (case k4 => k_is)
    (case a5 => k_is)
    (case l5 => k_is)
    (case c5 => k_is)
    (case k5 => k_is)
    (case a6 => k_is)
    (case l6 => k_is)
    (case c6 => k_is)
    (case k6 => k_is)
    (case a7 => k_is)
    (case l7 => k_is)
    (case c7 => k_is)
    (case k7 => k_is)
    (case a8 => k_is)
    (case l8 => k_is)
    (case c8 => k_is)
    (case k8 => k_is)
    (case a9 => k_is)
    (case l9 => k_is)
    (case c9 => k_is)
    (case k9 => k_is)
    (case a10 => k_is)
    (case l10 => k_is)
    (case c10 => k_is)
    (case k10 => k_is)
    (case a11 => k_is)
    (case l11 => k_is)
    (case c11 => k_is)
    (case k11 => k_is)
    (case a12 => k_is)
    (case l12 => k_is)
    (case c12 => k_is)
    (case k12 => k_is)
    (case a13 => k_is)
    (case i13 => k_is)
    (case l13 => k_is)
    (case c13 => k_is)
    (case k13 => k_is)
    (case a14 => k_is)
    (case i14 => k_is)
    (case l14 => k_is)
    (case c14 => k_is)
    (case k14 => k_is)
    (case a15 => k_is)
    (case i15 => k_is)
    (case l15 => k_is)
    (case c15 => k_is)
    (case k15 => k_is)
    (case pa => k_is)
    (case pb => k_is)
    (case pc => k_is)
    (case pd => k_is)
    (case l16 => k_is)
    (case c16 => k_is)
    (case k16 => k_is)
    (case a17 => k_is)
    (case i17 => k_is)
    (case l17 => k_is)
    (case c17 => k_is)
    (case k17 => k_is)
    (case a18 => k_is)
    (case i18 => k_is)
    (case l18 => k_is)
    (case c18 => k_is)
    (case k18 => k_is)
    (case a19 => k_is)
    (case i19 => k_is)
    (case l19 => k_is)
    (case c19 => k_is)
    (case k19 => k_is)
    (case a20 => k_is)
    (case i20 => k_is)
    (case l20 => k_is)
    (case c20 => k_is)
    (case k20 => k_is)
    (case a21 => k_is)
    (case l21 => k_is)
    (case c21 => k_is)
    (case k21 => k_is)
    (case a22 => k_is)
    (case l22 => k_is)
    (case c22 => k_is)
    (case k22 => k_is)
    (case a23 => k_is)
    (case l23 => k_is)
    (case c23 => k_is)
    (case k23 => k_is)
    (case a24 => k_is)
    (case l24 => k_is)
    (case c24 => k_is)
    (case k24 => k_is)
    (case a25 => k_is)
    (case l25 => k_is)
    (case c25 => k_is)
    (case k25 => k_is)
    (case a26 => k_is)
    (case l26 => k_is)
    (case c26 => k_is)
    (case k26 => k_is)
    (case a27 => k_is)
    (case l27 => k_is)
    (case c27 => k_is)
    (case k27 => k_is)
    (case a28 => k_is)
    (case l28 => k_is)
    (case c28 => k_is)
    (case k28 => k_is)
    (case a29 => k_is)
    (case l29 => k_is)
    (case c29 => k_is)
    (case k29 => k_is)
    (case a30 => k_is)
    (case l30 => k_is)
    (case c30 => k_is)
    (case k30 => k_is)
    (case a31 => k_is)
    (case l31 => k_is)
    (case c31 => k_is)
    (case k31 => k_is)
    (case a32 => k_is)
    (case l32 => k_is)
    (case c32 => k_is)
    (case k32 => k_is)
    (case a33 => k_is)
    (case l33 => k_is)
    (case c33 => k_is)
    (case k33 => k_is)
    (case pg => k_is)
    (case hd => k_is)
    (case po => k_is)
    (case sa => k_is)
    (case mk => k_is)
    (case kc => k_is)
    (case n_day => k_is)
    (case n_places => k_is)
    (case n_kinds => k_is)
    (case n_roads => k_is)
    (case n_bars => k_is)
    (case co0 => k_is)
    (case co1 => k_is)
    (case co2 => k_is)
    (case co3 => k_is)
    (case co4 => k_is)
    (case co5 => k_is)
    (case co6 => k_is)
    (case co7 => k_is)
    (case co8 => k_is)
    (case co9 => k_is)
    (case z0 => k_is)
    (case z1 => k_is)
    (case z2 => k_is)
    (case z3 => k_is)
    (case z4 => k_is)
    (case z5 => k_is)
    (case z6 => k_is)
    (case z7 => k_is)
    (case z8 => k_is)
    (case z9 => k_is)
    (case z10 => k_is)

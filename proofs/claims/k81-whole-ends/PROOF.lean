import PyProof.Rows.All
import Wide.All
import OpenK.AllK
import Wide.FinOn
import HandS.ForMost
import KE.KStateDown
import Lean
import HandS.WordsExc
import HandS.Defaults
import HandS.Head0
import HandS.Head1
import HandS.Head2
import HandS.HeadEnd
import HandS.HeadHook1
import HandS.HeadHook2
import KE.GoesEnum
import KE.GoesMore
import HandS.DictComp
import HandS.SetFor
import HandS.Zip
import PyProof.ReprRoads
import PyProof.ReprDict
import HandS.IsInst
import HandS.TupAny
import HandS.Flow
import PyProof.ReprText
import PyProof.ReprLen
import HandS.Walk
import HandS.Style
import HandS.Conv
import PySem.Challenge.RW_turnback_k81_whole_every_end_of_small_we
set_option Elab.async false
set_option linter.all false
set_option maxRecDepth 100000
/-! Plain mathematics of small webs: the law's own walk, events, sharings. No Python here. -/
namespace TB
abbrev Web := List (List (Option Nat))
def deg (web : Web) (x : Nat) : Nat := (web.getD x []).length
def tie (web : Web) (x c : Nat) : Option Nat := (web.getD x []).getD c none

/-- the law's own state; ways: the node where the walker stands first -/
structure St where
  marks : List Nat
  counts : List Nat
  ways : List (List Nat)
  stops : List (Option Nat)
deriving DecidableEq

/-- a step of the walker numbered i + 1, x the node where it stands, ws those behind it -/
def stepAt (web : Web) (s : St) (i x : Nat) (ws : List Nat) : Option St :=
  if s.counts.getD x 0 = deg web x then
    match ws with
    | [] => some { s with counts := s.counts.set x 0, ways := s.ways.set i [], stops := s.stops.set i (some x) }
    | b :: _ => some { s with counts := (s.counts.set x 0).set b ((s.counts.set x 0).getD b 0 + 1), ways := s.ways.set i ws }
  else match tie web x (s.counts.getD x 0) with
    | none => some { s with counts := s.counts.set x (s.counts.getD x 0 + 1) }
    | some t =>
      if s.marks.getD t 0 = 0 then some { s with marks := s.marks.set t (i + 1), ways := s.ways.set i (t :: x :: ws) }
      else some { s with counts := s.counts.set x (s.counts.getD x 0 + 1) }
/-- a step of walker w (from 1); none: a rest -/
def step (web : Web) (s : St) (w : Nat) : Option St :=
  match s.ways.getD (w - 1) [] with
  | [] => none
  | x :: ws => stepAt web s (w - 1) x ws

def over (s : St) : Bool := s.ways.all (·.isEmpty)

def begMarks : List Nat → Nat → List Nat → List Nat
  | [], _, m => m
  | r :: rs, i, m => begMarks rs (i + 1) (m.set r (i + 1))
def begun (web : Web) (roots : List Nat) : St :=
  { marks := begMarks roots 0 (List.replicate web.length 0), counts := List.replicate web.length 0, ways := roots.map ([·]), stops := roots.map fun _ => none }

/-! ### events -/
inductive Kd | down | skip | up | stop
deriving DecidableEq
abbrev Ev := Kd × Nat × Nat
/-- known nodes; the way back, the node where one stands first, each with its place -/
abbrev RF := List Nat × List (Nat × Nat)
def rfStep (web : Web) (S : List Nat) (r : Nat) : RF → Option (Ev × RF)
  | (_, []) => none
  | (kn, (x, p) :: ws) =>
    if p = deg web x then some ((if ws = [] then .stop else .up, x, p), (kn, ws))
    else match tie web x p with
      | none => some ((.skip, x, p), (kn, (x, p + 1) :: ws))
      | some t => if S.getD t 0 = S.getD r 0 ∧ t ∉ kn then some ((.down, x, p), (kn ++ [t], (t, 0) :: (x, p + 1) :: ws)) else some ((.skip, x, p), (kn, (x, p + 1) :: ws))
theorem rfStep_cons (web : Web) (S : List Nat) (r : Nat) (kn : List Nat) (x p : Nat) (ws : List (Nat × Nat)) : rfStep web S r (kn, (x, p) :: ws) =
    if p = deg web x then some ((if ws = [] then Kd.stop else Kd.up, x, p), (kn, ws))
    else match tie web x p with
      | none => some ((Kd.skip, x, p), (kn, (x, p + 1) :: ws))
      | some t => if S.getD t 0 = S.getD r 0 ∧ t ∉ kn then some ((Kd.down, x, p), (kn ++ [t], (t, 0) :: (x, p + 1) :: ws)) else some ((Kd.skip, x, p), (kn, (x, p + 1) :: ws)) := rfl
/-- the ways a step goes -/
theorem rfStep_cases {web : Web} {S : List Nat} {r : Nat} {kn : List Nat} {x p : Nat} {ws : List (Nat × Nat)} {e : Ev} {st' : RF} (h : rfStep web S r (kn, (x, p) :: ws) = some (e, st')) :
    (p = deg web x ∧ e = (if ws = [] then Kd.stop else Kd.up, x, p) ∧ st' = (kn, ws)) ∨
    (p ≠ deg web x ∧ (∀ t, tie web x p = some t → ¬ (S.getD t 0 = S.getD r 0 ∧ t ∉ kn)) ∧ e = (Kd.skip, x, p) ∧ st' = (kn, (x, p + 1) :: ws)) ∨
    (p ≠ deg web x ∧ ∃ t, tie web x p = some t ∧ (S.getD t 0 = S.getD r 0 ∧ t ∉ kn) ∧ e = (Kd.down, x, p) ∧ st' = (kn ++ [t], (t, 0) :: (x, p + 1) :: ws)) := by
  rw [rfStep_cons] at h
  by_cases c : p = deg web x
  · rw [if_pos c] at h
    cases h
    exact .inl ⟨c, rfl, rfl⟩
  · rw [if_neg c] at h
    cases ht : tie web x p with
    | none =>
      simp only [ht] at h
      cases h
      exact .inr (.inl ⟨c, nofun, rfl, rfl⟩)
    | some t =>
      simp only [ht] at h
      by_cases f : S.getD t 0 = S.getD r 0 ∧ t ∉ kn
      · rw [if_pos f] at h
        cases h
        exact .inr (.inr ⟨c, t, rfl, f, rfl, rfl⟩)
      · rw [if_neg f] at h
        cases h
        exact .inr (.inl ⟨c, fun u hu => by cases hu; exact f, rfl, rfl⟩)
theorem rfStep_some (web : Web) (S : List Nat) (r : Nat) (kn : List Nat) (x p : Nat) (ws : List (Nat × Nat)) : ∃ e st', rfStep web S r (kn, (x, p) :: ws) = some (e, st') := by
  rw [rfStep_cons]
  by_cases c : p = deg web x
  · rw [if_pos c]
    exact ⟨_, _, rfl⟩
  · rw [if_neg c]
    cases tie web x p with
    | none => exact ⟨_, _, rfl⟩
    | some t =>
      by_cases f : S.getD t 0 = S.getD r 0 ∧ t ∉ kn
      · exact ⟨_, _, if_pos f⟩
      · exact ⟨_, _, if_neg f⟩
def rfRun (web : Web) (S : List Nat) (r : Nat) : Nat → RF → List Ev
  | 0, _ => []
  | f + 1, st => match rfStep web S r st with
    | none => []
    | some (e, st') => e :: rfRun web S r f st'
def total (web : Web) : Nat := (web.map fun row => row.length + 1).sum
def rowFrom (web : Web) (S : List Nat) (r : Nat) : List Ev := rfRun web S r (total web) ([r], [(r, 0)])
def rowsAux (web : Web) (S : List Nat) : List Nat → Nat → List (List Ev)
  | [], _ => []
  | r :: rs, i => (if S.getD r 0 = i + 1 then rowFrom web S r else []) :: rowsAux web S rs (i + 1)
def rowsOf (web : Web) (roots S : List Nat) : List (List Ev) := rowsAux web S roots 0

/-- all ends, as a relation -/
inductive Runs (web : Web) (S : List Nat) (r : Nat) : RF → List Ev → Prop
  | nil {kn} : Runs web S r (kn, []) []
  | cons {st e st' es} : rfStep web S r st = some (e, st') → Runs web S r st' es → Runs web S r st (e :: es)

/-- a web, roots, a sharing as they are wanted -/
structure WebOk (web : Web) : Prop where
  pos : 1 ≤ web.length
  four : web.length ≤ 4
  two : ∀ row ∈ web, row.length ≤ 2
  ties : ∀ row ∈ web, ∀ t, some t ∈ row → t < web.length
structure RootsOk (web : Web) (roots : List Nat) : Prop where
  pos : 1 ≤ roots.length
  three : roots.length ≤ 3
  nod : roots.Nodup
  lt : ∀ r ∈ roots, r < web.length
structure ShOk (web : Web) (roots S : List Nat) : Prop where
  len : S.length = web.length
  le : ∀ x ∈ S, x ≤ roots.length

theorem WebOk.row {web : Web} (_ : WebOk web) {x : Nat} (h : x < web.length) : web.getD x [] ∈ web := by
  rw [List.getD_eq_getElem?_getD, List.getElem?_eq_getElem h]
  exact List.getElem_mem h
theorem WebOk.deg2 (W : WebOk web) (x : Nat) : deg web x ≤ 2 := by
  by_cases h : x < web.length
  · exact W.two _ (W.row h)
  · unfold deg
    rw [List.getD_eq_getElem?_getD, List.getElem?_eq_none (Nat.le_of_not_lt h)]
    exact Nat.zero_le _
theorem deg_lt {web : Web} {x p : Nat} (h : p < deg web x) : x < web.length := by
  by_cases q : x < web.length
  · exact q
  · unfold deg at h
    rw [List.getD_eq_getElem?_getD, List.getElem?_eq_none (Nat.le_of_not_lt q)] at h
    exact absurd h (Nat.not_lt_zero _)
theorem WebOk.tie_lt (W : WebOk web) {x p t : Nat} (h : tie web x p = some t) : t < web.length := by
  unfold tie at h
  have hp : p < (web.getD x []).length := by
    by_cases q : p < (web.getD x []).length
    · exact q
    · rw [List.getD_eq_getElem?_getD, List.getElem?_eq_none (Nat.le_of_not_lt q)] at h
      cases h
  have hx := deg_lt (web := web) (x := x) (p := p) hp
  refine W.ties _ (W.row hx) t ?_
  rw [List.getD_eq_getElem?_getD, List.getElem?_eq_getElem hp] at h
  have h' : (web.getD x [])[p] = some t := h
  rw [← h']
  exact List.getElem_mem hp
theorem tie_deg {web : Web} {x p t : Nat} (h : tie web x p = some t) : p < deg web x := by
  unfold tie at h
  unfold deg
  by_cases q : p < (web.getD x []).length
  · exact q
  · rw [List.getD_eq_getElem?_getD, List.getElem?_eq_none (Nat.le_of_not_lt q)] at h
    cases h

/-! ### the measure of events -/
/-- what is left of nodes that aren't known, from i on -/
def leftOf (kn : List Nat) : Web → Nat → Nat
  | [], _ => 0
  | row :: web, i => (if i ∈ kn then 0 else row.length + 1) + leftOf kn web (i + 1)
theorem leftOf_nil : ∀ (web : Web) (i : Nat), leftOf [] web i = (web.map fun row => row.length + 1).sum
  | [], _ => rfl
  | row :: web, i => by
    unfold leftOf
    rw [leftOf_nil web (i + 1)]
    simp
theorem leftOf_skip (kn : List Nat) (t : Nat) : ∀ (web : Web) (i : Nat), t < i → leftOf (kn ++ [t]) web i = leftOf kn web i
  | [], _, _ => rfl
  | row :: web, i, h => by
    unfold leftOf
    rw [leftOf_skip kn t web (i + 1) (by omega)]
    have : (i ∈ kn ++ [t]) ↔ i ∈ kn := by
      simp
      omega
    simp [this]
theorem leftOf_new (kn : List Nat) (t : Nat) (hk : t ∉ kn) : ∀ (web : Web) (i : Nat), i ≤ t → t < i + web.length → leftOf (kn ++ [t]) web i + (deg web (t - i) + 1) = leftOf kn web i
  | [], i, h1, h2 => by simp at h2; omega
  | row :: web, i, h1, h2 => by
    unfold leftOf
    by_cases e : i = t
    · subst e
      rw [leftOf_skip kn i web (i + 1) (by omega)]
      simp [deg, hk]
      omega
    · have h3 : i + 1 ≤ t := by omega
      have h4 : t < i + 1 + web.length := by
        rw [List.length_cons] at h2
        omega
      have ih := leftOf_new kn t hk web (i + 1) h3 h4
      have e1 : (i ∈ kn ++ [t]) ↔ i ∈ kn := by simp [e]
      have e2 : deg (row :: web) (t - i) = deg web (t - (i + 1)) := by
        have : t - i = (t - (i + 1)) + 1 := by omega
        rw [this]
        rfl
      rw [e2]
      simp only [e1]
      omega
def wayLeft (web : Web) : List (Nat × Nat) → Nat
  | [] => 0
  | (x, p) :: ws => (deg web x - p + 1) + wayLeft web ws
def rfLeft (web : Web) (st : RF) : Nat := leftOf st.1 web 0 + wayLeft web st.2
/-- what holds of such a state -/
structure RfOk (web : Web) (st : RF) : Prop where
  le : ∀ q ∈ st.2, q.1 < web.length ∧ q.2 ≤ deg web q.1
  inK : ∀ q ∈ st.2, q.1 ∈ st.1
  nod : (st.2.map (·.1)).Nodup
theorem rfStep_ok (W : WebOk web) {S : List Nat} {r : Nat} {st st' : RF} {e : Ev} (O : RfOk web st) (h : rfStep web S r st = some (e, st')) :
    RfOk web st' ∧ rfLeft web st' + 1 = rfLeft web st := by
  obtain ⟨kn, way⟩ := st
  cases way with
  | nil => cases h
  | cons q ws =>
    obtain ⟨x, p⟩ := q
    have hx := O.le (x, p) (by simp)
    have hxk : x ∈ kn := O.inK (x, p) (by simp)
    have hn := O.nod
    simp only [List.map_cons, List.nodup_cons] at hn
    have hws : ∀ q ∈ ws, q.1 < web.length ∧ q.2 ≤ deg web q.1 := fun q hq => O.le q (by simp [hq])
    have hwk : ∀ q ∈ ws, q.1 ∈ kn := fun q hq => O.inK q (by simp [hq])
    have skip : p ≠ deg web x → RfOk web (kn, (x, p + 1) :: ws) ∧ rfLeft web (kn, (x, p + 1) :: ws) + 1 = rfLeft web (kn, (x, p) :: ws) := fun c => by
      have hp : p < deg web x := Nat.lt_of_le_of_ne hx.2 c
      refine ⟨⟨fun q hq => ?_, fun q hq => ?_, ?_⟩, ?_⟩
      · rcases List.mem_cons.mp hq with rfl | hq
        · exact ⟨hx.1, hp⟩
        · exact hws q hq
      · rcases List.mem_cons.mp hq with rfl | hq
        · exact hxk
        · exact hwk q hq
      · simp only [List.map_cons, List.nodup_cons]
        exact hn
      · simp only [rfLeft, wayLeft]
        omega
    rcases rfStep_cases h with ⟨c, _, rfl⟩ | ⟨c, _, _, rfl⟩ | ⟨c, t, ht, f, _, rfl⟩
    · refine ⟨⟨hws, hwk, hn.2⟩, ?_⟩
      simp only [rfLeft, wayLeft]
      omega
    · exact skip c
    · have sk := skip c
      have htl := W.tie_lt ht
      refine ⟨⟨fun q hq => ?_, fun q hq => ?_, ?_⟩, ?_⟩
      · rcases List.mem_cons.mp hq with rfl | hq
        · exact ⟨htl, Nat.zero_le _⟩
        · exact sk.1.le q hq
      · rcases List.mem_cons.mp hq with rfl | hq
        · simp
        · exact List.mem_append_left _ (sk.1.inK q hq)
      · rw [List.map_cons, List.nodup_cons]
        refine ⟨fun hm => ?_, sk.1.nod⟩
        obtain ⟨q, hq, e⟩ := List.mem_map.mp hm
        have := sk.1.inK q hq
        rw [e] at this
        exact f.2 this
      · have hl := leftOf_new kn t f.2 web 0 (Nat.zero_le _) (by omega)
        have e0 : t - 0 = t := Nat.sub_zero _
        rw [e0] at hl
        have := sk.2
        simp only [rfLeft, wayLeft] at this ⊢
        omega
theorem rfOk_init {web : Web} {r : Nat} (h : r < web.length) : RfOk web ([r], [(r, 0)]) :=
  ⟨fun q hq => by simp at hq; subst hq; exact ⟨h, Nat.zero_le _⟩, fun q hq => by simp at hq; subst hq; simp, by simp⟩
theorem rfLeft_init {web : Web} {r : Nat} (h : r < web.length) : rfLeft web ([r], [(r, 0)]) = total web := by
  have hl := leftOf_new [] r (by simp) web 0 (Nat.zero_le _) (by omega)
  rw [leftOf_nil, Nat.sub_zero] at hl
  simp only [rfLeft, wayLeft, total]
  have e : ([] : List Nat) ++ [r] = [r] := rfl
  rw [e] at hl
  omega
theorem runs_rfRun (W : WebOk web) {S : List Nat} {r : Nat} : ∀ (f : Nat) (st : RF), RfOk web st → rfLeft web st ≤ f → Runs web S r st (rfRun web S r f st) ∧ (rfRun web S r f st).length ≤ f
  | 0, (kn, way), O, h => by
    cases way with
    | nil => exact ⟨.nil, Nat.le_refl _⟩
    | cons q ws =>
      obtain ⟨x, p⟩ := q
      simp only [rfLeft, wayLeft] at h
      omega
  | f + 1, (kn, way), O, h => by
    cases way with
    | nil => exact ⟨.nil, Nat.zero_le _⟩
    | cons q ws =>
      obtain ⟨x, p⟩ := q
      obtain ⟨ev, st', e⟩ := rfStep_some web S r kn x p ws
      obtain ⟨O', hl⟩ := rfStep_ok W O e
      have ih := runs_rfRun W (S := S) (r := r) f st' O' (by omega)
      have eq : rfRun web S r (f + 1) (kn, (x, p) :: ws) = ev :: rfRun web S r f st' := by
        rw [rfRun, e]
      rw [eq]
      exact ⟨.cons e ih.1, by simp [ih.2]⟩
theorem rowFrom_runs (W : WebOk web) {S : List Nat} {r : Nat} (h : r < web.length) : Runs web S r ([r], [(r, 0)]) (rowFrom web S r) :=
  (runs_rfRun W _ _ (rfOk_init h) (by rw [rfLeft_init h]; exact Nat.le_refl _)).1
theorem rowFrom_len (W : WebOk web) {S : List Nat} {r : Nat} (h : r < web.length) : (rowFrom web S r).length ≤ total web :=
  (runs_rfRun W _ _ (rfOk_init h) (by rw [rfLeft_init h]; exact Nat.le_refl _)).2
theorem total_le (W : WebOk web) : total web ≤ 12 := by
  have : ∀ l : Web, (∀ row ∈ l, row.length ≤ 2) → (l.map fun row => row.length + 1).sum ≤ 3 * l.length := by
    intro l
    induction l with
    | nil => intro _; simp
    | cons a l ih =>
      intro h
      have h1 := h a (by simp)
      have h2 := ih fun row hr => h row (by simp [hr])
      simp only [List.map_cons, List.sum_cons, List.length_cons]
      omega
  have h := this web W.two
  have := W.four
  unfold total
  omega
/-- what an event is -/
structure EvOk (web : Web) (e : Ev) : Prop where
  lt : e.2.1 < web.length
  pl : (e.1 = .skip ∨ e.1 = .down) → e.2.2 < deg web e.2.1
  ti : e.1 = .down → ∃ t, tie web e.2.1 e.2.2 = some t
theorem rfStep_ev {web : Web} {S : List Nat} {r : Nat} {st st' : RF} {e : Ev} (O : RfOk web st) (h : rfStep web S r st = some (e, st')) : EvOk web e := by
  obtain ⟨kn, way⟩ := st
  cases way with
  | nil => cases h
  | cons q ws =>
    obtain ⟨x, p⟩ := q
    have hx := O.le (x, p) (by simp)
    rcases rfStep_cases h with ⟨c, rfl, _⟩ | ⟨c, _, rfl, _⟩ | ⟨c, t, ht, _, rfl, _⟩
    · by_cases d : ws = []
      · simp only [if_pos d]
        exact ⟨hx.1, fun q => q.elim nofun nofun, nofun⟩
      · simp only [if_neg d]
        exact ⟨hx.1, fun q => q.elim nofun nofun, nofun⟩
    · exact ⟨hx.1, fun _ => Nat.lt_of_le_of_ne hx.2 c, nofun⟩
    · exact ⟨hx.1, fun _ => Nat.lt_of_le_of_ne hx.2 c, fun _ => ⟨t, ht⟩⟩
theorem runs_ev (W : WebOk web) {S : List Nat} {r : Nat} : ∀ {st : RF} {es : List Ev}, Runs web S r st es → RfOk web st → ∀ e ∈ es, EvOk web e
  | _, _, .nil, _, e, he => by cases he
  | _, _, .cons h hr, O, e, he => by
    rcases List.mem_cons.mp he with rfl | he
    · exact rfStep_ev O h
    · exact runs_ev W hr (rfStep_ok W O h).1 e he
theorem rowFrom_ev (W : WebOk web) {S : List Nat} {r : Nat} (h : r < web.length) : ∀ e ∈ rowFrom web S r, EvOk web e := runs_ev W (rowFrom_runs W h) (rfOk_init h)
end TB

/-! The law's walk and the events, step by step. -/
namespace TB
theorem getD_set_self {α : Type} {l : List α} {i : Nat} {v d : α} (h : i < l.length) : (l.set i v).getD i d = v := by
  rw [List.getD_eq_getElem?_getD, List.getElem?_set_self h]
  rfl
theorem getD_set_ne {α : Type} {l : List α} {i j : Nat} {v d : α} (h : i ≠ j) : (l.set i v).getD j d = l.getD j d := by
  rw [List.getD_eq_getElem?_getD, List.getElem?_set_ne h, ← List.getD_eq_getElem?_getD]
theorem getD_lt {l : List Nat} {i : Nat} (h : l.getD i 0 ≠ 0) : i < l.length := by
  by_cases q : i < l.length
  · exact q
  · rw [List.getD_eq_getElem?_getD, List.getElem?_eq_none (Nat.le_of_not_lt q)] at h
    exact absurd rfl h
theorem getD_ge {α : Type} {l : List α} {i : Nat} {d : α} (h : l.length ≤ i) : l.getD i d = d := by
  rw [List.getD_eq_getElem?_getD, List.getElem?_eq_none h]
  rfl
abbrev dR : RF := ([], [])
def CntOk (c : List Nat) : List (Nat × Nat) → Prop
  | [] => True
  | (x, p) :: ws => c.getD x 0 = p ∧ ∀ q ∈ ws, c.getD q.1 0 + 1 = q.2
theorem CntOk.congr {c c' : List Nat} : ∀ {way : List (Nat × Nat)}, (∀ q ∈ way, c'.getD q.1 0 = c.getD q.1 0) → CntOk c way → CntOk c' way
  | [], _, _ => trivial
  | (x, p) :: ws, h, ⟨a, b⟩ => ⟨(h (x, p) (by simp)).trans a, fun q hq => by rw [h q (by simp [hq])]; exact b q hq⟩
/-- a state of the law's walk and what each walker has done in a sharing, side by side -/
structure J (web : Web) (k : Nat) (S : List Nat) (s : St) (R : List RF) : Prop where
  lenM : s.marks.length = web.length
  lenC : s.counts.length = web.length
  lenW : s.ways.length = k
  lenR : R.length = k
  ok : ∀ w, w < k → RfOk web (R.getD w dR)
  way : ∀ w, w < k → s.ways.getD w [] = (R.getD w dR).2.map (·.1)
  cnt : ∀ w, w < k → CntOk s.counts (R.getD w dR).2
  kn : ∀ w, w < k → ∀ x, x ∈ (R.getD w dR).1 ↔ s.marks.getD x 0 = w + 1
  mle : ∀ x, s.marks.getD x 0 ≤ k
  knS : ∀ w, w < k → ∀ x, x ∈ (R.getD w dR).1 → S.getD x 0 = w + 1
  cz : ∀ x, s.marks.getD x 0 = 0 → s.counts.getD x 0 = 0
theorem J.next {web : Web} {k : Nat} {S : List Nat} {s s' : St} {R : List RF} {w : Nat} {rf : RF} (j : J web k S s R) (hw : w < k) (lenM : s'.marks.length = web.length) (lenC : s'.counts.length = web.length)
    (hways : s'.ways = s.ways.set w (rf.2.map (·.1))) (ok : RfOk web rf) (cnt : CntOk s'.counts rf.2) (other : ∀ y, s.marks.getD y 0 ≠ 0 → s.marks.getD y 0 ≠ w + 1 → s'.counts.getD y 0 = s.counts.getD y 0)
    (kn : ∀ x, x ∈ rf.1 ↔ s'.marks.getD x 0 = w + 1) (mk : ∀ x, s'.marks.getD x 0 = s.marks.getD x 0 ∨ (s.marks.getD x 0 = 0 ∧ s'.marks.getD x 0 = w + 1)) (knS : ∀ x, x ∈ rf.1 → S.getD x 0 = w + 1)
    (cz : ∀ x, s'.marks.getD x 0 = 0 → s'.counts.getD x 0 = 0) : J web k S s' (R.set w rf) := by
  have hR : w < R.length := by rw [j.lenR]; exact hw
  have hW : w < s.ways.length := by rw [j.lenW]; exact hw
  refine ⟨lenM, lenC, by rw [hways, List.length_set]; exact j.lenW, by rw [List.length_set]; exact j.lenR, fun v hv => ?_, fun v hv => ?_, fun v hv => ?_, fun v hv x => ?_, fun x => ?_, fun v hv x => ?_, cz⟩
  · by_cases e : w = v
    · subst e
      rw [getD_set_self hR]
      exact ok
    · rw [getD_set_ne e]
      exact j.ok v hv
  · by_cases e : w = v
    · subst e
      rw [hways, getD_set_self hW, getD_set_self hR]
    · rw [hways, getD_set_ne e, getD_set_ne e]
      exact j.way v hv
  · by_cases e : w = v
    · subst e
      rw [getD_set_self hR]
      exact cnt
    · rw [getD_set_ne e]
      refine (j.cnt v hv).congr fun q hq => ?_
      have hk := (j.kn v hv q.1).mp ((j.ok v hv).inK q hq)
      refine other q.1 (by omega) ?_
      rw [hk]
      omega
  · by_cases e : w = v
    · subst e
      rw [getD_set_self hR]
      exact kn x
    · rw [getD_set_ne e]
      rw [j.kn v hv x]
      rcases mk x with h | ⟨h1, h2⟩
      · rw [h]
      · omega
  · rcases mk x with h | ⟨h1, h2⟩
    · rw [h]
      exact j.mle x
    · omega
  · by_cases e : w = v
    · subst e
      rw [getD_set_self hR]
      exact knS x
    · rw [getD_set_ne e]
      exact j.knS v hv x
theorem step_cons {web : Web} {s : St} {w x : Nat} {ws : List Nat} (h : s.ways.getD w [] = x :: ws) : step web s (w + 1) = stepAt web s w x ws := by
  unfold step
  rw [Nat.add_sub_cancel, h]
theorem step_nil {web : Web} {s : St} {w : Nat} (h : s.ways.getD w [] = []) : step web s (w + 1) = none := by
  unfold step
  rw [Nat.add_sub_cancel, h]
/-- the law's step goes as the event says -/
theorem sim {web : Web} (W : WebOk web) {k : Nat} {S : List Nat} {s : St} {R : List RF} {w r : Nat} {e : Ev} {rf : RF} (j : J web k S s R) (hw : w < k) (hr : S.getD r 0 = w + 1)
    (h : rfStep web S r (R.getD w dR) = some (e, rf))
    (agree : ∀ t, (e.1 = .skip ∨ e.1 = .down) → tie web e.2.1 e.2.2 = some t → (s.marks.getD t 0 = 0 ↔ S.getD t 0 = w + 1 ∧ t ∉ (R.getD w dR).1)) :
    ∃ s', step web s (w + 1) = some s' ∧ J web k S s' (R.set w rf) := by
  have okw := j.ok w hw
  have hway := j.way w hw
  have hcnt := j.cnt w hw
  have hkn := j.kn w hw
  have hknS := j.knS w hw
  generalize hrf : R.getD w dR = rf0 at h okw hway hcnt hkn hknS agree
  obtain ⟨kn, way⟩ := rf0
  cases way with
  | nil => cases h
  | cons q ws =>
    obtain ⟨x, p⟩ := q
    have hO := (rfStep_ok W okw h).1
    obtain ⟨hc, hcs⟩ := hcnt
    have hxk : x ∈ kn := okw.inK (x, p) (by simp)
    have hxm : s.marks.getD x 0 = w + 1 := (hkn x).mp hxk
    have hxl : x < s.counts.length := by rw [j.lenC]; exact (okw.le (x, p) (by simp)).1
    have hnod := okw.nod
    simp only [List.map_cons, List.nodup_cons] at hnod
    have hwne : ∀ q ∈ ws, q.1 ≠ x := fun q hq z => hnod.1 (List.mem_map.mpr ⟨q, hq, z⟩)
    have st := step_cons (web := web) (w := w) (x := x) (ws := ws.map (·.1)) (by rw [hway]; rfl)
    unfold stepAt at st
    -- where x's count alone is another one
    have tail : ∀ v : Nat, v ≤ deg web x → (∀ q ∈ ws, (s.counts.set x v).getD q.1 0 + 1 = q.2) := fun v _ q hq => by
      rw [getD_set_ne (Ne.symm (hwne q hq))]
      exact hcs q hq
    have oth : ∀ v y, s.marks.getD y 0 ≠ w + 1 → (s.counts.set x v).getD y 0 = s.counts.getD y 0 := fun v y hy => by
      rw [getD_set_ne]
      intro z
      rw [z] at hxm
      exact hy hxm
    have czs : ∀ v y, s.marks.getD y 0 = 0 → (s.counts.set x v).getD y 0 = 0 := fun v y hy => by
      rw [oth v y (by omega)]
      exact j.cz y hy
    have ways_same : s.ways.set w ((x :: ws.map (·.1))) = s.ways := by
      have e2 : s.ways.getD w [] = x :: ws.map (·.1) := hway
      have hl : w < s.ways.length := by rw [j.lenW]; exact hw
      rw [← e2, List.getD_eq_getElem?_getD, List.getElem?_eq_getElem hl]
      exact List.set_getElem_self hl
    rcases rfStep_cases h with ⟨c, _, rfl⟩ | ⟨c, hf, rfl, rfl⟩ | ⟨c, t, ht, f, rfl, rfl⟩
    · rw [hc, if_pos c] at st
      cases ws with
      | nil =>
        refine ⟨_, st, ?_⟩
        exact j.next hw j.lenM (by show (s.counts.set x 0).length = _; rw [List.length_set]; exact j.lenC) rfl hO trivial (fun y _ hy => oth 0 y hy) hkn (fun _ => .inl rfl) hknS (czs 0)
      | cons q2 ws2 =>
        obtain ⟨b, pb⟩ := q2
        refine ⟨_, st, ?_⟩
        have hbk : b ∈ kn := okw.inK (b, pb) (by simp)
        have hbm : s.marks.getD b 0 = w + 1 := (hkn b).mp hbk
        have hbl : b < (s.counts.set x 0).length := by rw [List.length_set, j.lenC]; exact (okw.le (b, pb) (by simp)).1
        have hn2 := hnod.2
        simp only [List.map_cons, List.nodup_cons] at hn2
        have ob : ∀ v y, s.marks.getD y 0 ≠ w + 1 → ((s.counts.set x 0).set b v).getD y 0 = s.counts.getD y 0 := fun v y hy => by
          rw [getD_set_ne (fun z => by rw [z] at hbm; exact hy hbm)]
          exact oth 0 y hy
        refine j.next hw j.lenM (by show ((s.counts.set x 0).set b _).length = _; rw [List.length_set, List.length_set]; exact j.lenC) rfl hO ⟨?_, fun q hq => ?_⟩ (fun y _ hy => ob _ y hy) hkn (fun _ => .inl rfl) hknS (fun y hy => ?_)
        · show ((s.counts.set x 0).set b _).getD b 0 = pb
          rw [getD_set_self hbl]
          exact tail 0 (Nat.zero_le _) (b, pb) (by simp)
        · show ((s.counts.set x 0).set b _).getD q.1 0 + 1 = q.2
          rw [getD_set_ne (fun z => hn2.1 (List.mem_map.mpr ⟨q, hq, z.symm⟩))]
          exact tail 0 (Nat.zero_le _) q (by simp [hq])
        · show ((s.counts.set x 0).set b _).getD y 0 = 0
          rw [ob _ y (by have hy' : s.marks.getD y 0 = 0 := hy; omega)]
          exact j.cz y hy
    · rw [hc, if_neg c] at st
      have st2 : step web s (w + 1) = some { s with counts := s.counts.set x (p + 1) } := by
        rw [st]
        cases ht : tie web x p with
        | none => rfl
        | some t =>
          have hm : ¬ s.marks.getD t 0 = 0 := fun z => hf t ht (by
            have a := (agree t (.inl rfl) ht).mp z
            exact ⟨a.1.trans hr.symm, a.2⟩)
          simp only [if_neg hm]
      refine ⟨_, st2, ?_⟩
      refine j.next hw j.lenM (by show (s.counts.set x (p + 1)).length = _; rw [List.length_set]; exact j.lenC) ?_ hO ⟨?_, ?_⟩ (fun y _ hy => oth _ y hy) hkn (fun _ => .inl rfl) hknS (czs _)
      · show s.ways = s.ways.set w (x :: ws.map (·.1))
        exact ways_same.symm
      · exact getD_set_self hxl
      · intro q hq
        show (s.counts.set x (p + 1)).getD q.1 0 + 1 = q.2
        rw [getD_set_ne (Ne.symm (hwne q hq))]
        exact hcs q hq
    · rw [hc, if_neg c] at st
      have hSt : S.getD t 0 = w + 1 := f.1.trans hr
      have hm : s.marks.getD t 0 = 0 := (agree t (.inr rfl) ht).mpr ⟨hSt, f.2⟩
      have htl : t < s.marks.length := by rw [j.lenM]; exact W.tie_lt ht
      have st2 : step web s (w + 1) = some { s with marks := s.marks.set t (w + 1), ways := s.ways.set w (t :: x :: ws.map (·.1)) } := by
        rw [st, ht]
        simp only [if_pos hm]
      have htx : t ≠ x := fun z => f.2 (z ▸ hxk)
      refine ⟨_, st2, ?_⟩
      refine j.next hw (by show (s.marks.set t (w + 1)).length = _; rw [List.length_set]; exact j.lenM) j.lenC rfl hO ⟨j.cz t hm, fun q hq => ?_⟩ (fun y _ _ => rfl) (fun y => ?_) (fun y => ?_) (fun y hy => ?_) (fun y hy => ?_)
      · rcases List.mem_cons.mp hq with rfl | hq
        · show s.counts.getD x 0 + 1 = p + 1
          rw [hc]
        · exact hcs q hq
      · show y ∈ kn ++ [t] ↔ (s.marks.set t (w + 1)).getD y 0 = w + 1
        by_cases e : t = y
        · subst e
          rw [getD_set_self htl]
          simp
        · rw [getD_set_ne e, ← hkn y]
          simp
          intro z
          exact absurd z.symm e
      · show (s.marks.set t (w + 1)).getD y 0 = s.marks.getD y 0 ∨ _
        by_cases e : t = y
        · subst e
          exact .inr ⟨hm, getD_set_self htl⟩
        · exact .inl (getD_set_ne e)
      · rcases List.mem_append.mp hy with hy | hy
        · exact hknS y hy
        · rw [List.mem_singleton.mp hy]
          exact hSt
      · show s.counts.getD y 0 = 0
        have hy' : (s.marks.set t (w + 1)).getD y 0 = 0 := hy
        by_cases e : t = y
        · subst e
          exact j.cz t hm
        · rw [getD_set_ne e] at hy'
          exact j.cz y hy'
end TB

/-! Orders and events: what a walk that ends in a sharing does, and the greedy order. -/
namespace TB
def otherAt (web : Web) (S : List Nat) (wn : Nat) (e : Ev) : Option Nat :=
  if e.1 = .skip then match tie web e.2.1 e.2.2 with
    | none => none
    | some t => if S.getD t 0 = 0 ∨ S.getD t 0 = wn then none else some t
  else none
theorem otherAt_some {web : Web} {S : List Nat} {wn : Nat} {e : Ev} {t : Nat} (h : otherAt web S wn e = some t) : e.1 = .skip ∧ tie web e.2.1 e.2.2 = some t ∧ S.getD t 0 ≠ 0 ∧ S.getD t 0 ≠ wn := by
  unfold otherAt at h
  by_cases c : e.1 = .skip
  · rw [if_pos c] at h
    cases ht : tie web e.2.1 e.2.2 with
    | none =>
      rw [ht] at h
      cases h
    | some u =>
      rw [ht] at h
      by_cases d : S.getD u 0 = 0 ∨ S.getD u 0 = wn
      · simp only [if_pos d] at h
        cases h
      · simp only [if_neg d] at h
        cases h
        exact ⟨c, rfl, fun z => d (.inl z), fun z => d (.inr z)⟩
  · rw [if_neg c] at h
    cases h
theorem otherAt_of {web : Web} {S : List Nat} {wn : Nat} {e : Ev} {t : Nat} (h1 : e.1 = .skip) (h2 : tie web e.2.1 e.2.2 = some t) (h3 : S.getD t 0 ≠ 0) (h4 : S.getD t 0 ≠ wn) : otherAt web S wn e = some t := by
  unfold otherAt
  rw [if_pos h1, h2]
  have : ¬ (S.getD t 0 = 0 ∨ S.getD t 0 = wn) := fun z => z.elim h3 h4
  simp only [if_neg this]
def downs (web : Web) : List Ev → List Nat
  | [] => []
  | e :: es => (if e.1 = .down then (tie web e.2.1 e.2.2).toList else []) ++ downs web es
theorem downs_append (web : Web) : ∀ a b : List Ev, downs web (a ++ b) = downs web a ++ downs web b
  | [], b => rfl
  | e :: a, b => by
    show _ ++ downs web (a ++ b) = _
    rw [downs_append web a b]
    show _ = (_ ++ downs web a) ++ _
    rw [List.append_assoc]
abbrev Rows := List (List Ev)
def rw_ (rows : Rows) (w : Nat) : List Ev := rows.getD w []
/-- the nodes that a walker has marked behind its first d events -/
def kn_ (web : Web) (roots : List Nat) (rows : Rows) (w d : Nat) : List Nat := roots.getD w 0 :: downs web ((rw_ rows w).take d)
def Marked (web : Web) (roots : List Nat) (rows : Rows) (d : List Nat) (x : Nat) : Prop := ∃ w, w < roots.length ∧ x ∈ kn_ web roots rows w (d.getD w 0)
/-- walker w (from 0) has an event left that needn't wait -/
def May (web : Web) (roots S : List Nat) (rows : Rows) (d : List Nat) (w : Nat) : Prop :=
  ∃ e, (rw_ rows w)[d.getD w 0]? = some e ∧ ∀ t, otherAt web S (w + 1) e = some t → Marked web roots rows d t
def bump (d : List Nat) (w : Nat) : List Nat := d.set w (d.getD w 0 + 1)
def after (d : List Nat) : List Nat → List Nat
  | [] => d
  | w :: o => after (bump d (w - 1)) o
def Valid (web : Web) (roots S : List Nat) (rows : Rows) : List Nat → List Nat → Prop
  | _, [] => True
  | d, w :: o => (1 ≤ w ∧ w ≤ roots.length) ∧ May web roots S rows d (w - 1) ∧ Valid web roots S rows (bump d (w - 1)) o
def Full (roots : List Nat) (rows : Rows) (d : List Nat) : Prop := ∀ w, w < roots.length → d.getD w 0 = (rw_ rows w).length
def runO (web : Web) (k : Nat) (s : St) : List Nat → Option St
  | [] => some s
  | w :: o => if 1 ≤ w ∧ w ≤ k then (step web s w).bind fun s' => runO web k s' o else none

/-! ### a step keeps what is marked -/
theorem step_marks {web : Web} {s s' : St} {w : Nat} (h : step web s w = some s') : ∀ x, s.marks.getD x 0 ≠ 0 → s'.marks.getD x 0 = s.marks.getD x 0 := by
  intro x hx
  unfold step at h
  split at h
  · cases h
  · unfold stepAt at h
    split at h
    · split at h <;> (cases h; rfl)
    · split at h
      · cases h
        rfl
      · split at h
        · rename_i t _ ht
          cases h
          show (s.marks.set t _).getD x 0 = _
          rw [getD_set_ne]
          intro z
          rw [z] at ht
          exact hx ht
        · cases h
          rfl
theorem runO_marks {web : Web} {k : Nat} : ∀ {o : List Nat} {s sf : St}, runO web k s o = some sf → ∀ x, s.marks.getD x 0 ≠ 0 → sf.marks.getD x 0 = s.marks.getD x 0
  | [], s, sf, h, x, _ => by
    cases h
    rfl
  | w :: o, s, sf, h, x, hx => by
    unfold runO at h
    split at h
    · cases e : step web s w with
      | none =>
        rw [e] at h
        cases h
      | some s' =>
        rw [e] at h
        have h1 := step_marks e x hx
        rw [← h1] at hx ⊢
        exact runO_marks (show runO web k s' o = some sf from h) x hx
    · cases h
theorem runO_cons {web : Web} {k : Nat} {s sf : St} {w : Nat} {o : List Nat} (h : runO web k s (w :: o) = some sf) : (1 ≤ w ∧ w ≤ k) ∧ ∃ s', step web s w = some s' ∧ runO web k s' o = some sf := by
  unfold runO at h
  split at h
  · rename_i c
    cases e : step web s w with
    | none =>
      rw [e] at h
      cases h
    | some s' =>
      rw [e] at h
      exact ⟨c, s', rfl, h⟩
  · cases h
theorem runO_snoc {web : Web} {k w : Nat} (hw : 1 ≤ w ∧ w ≤ k) : ∀ (o : List Nat) (s : St), runO web k s (o ++ [w]) = (runO web k s o).bind fun s' => step web s' w
  | [], s => by
    show runO web k s [w] = step web s w
    unfold runO
    rw [if_pos hw]
    cases step web s w <;> rfl
  | v :: o, s => by
    show runO web k s (v :: (o ++ [w])) = (runO web k s (v :: o)).bind _
    unfold runO
    split
    · cases step web s v with
      | none => rfl
      | some s' => exact runO_snoc hw o s'
    · rfl
theorem runO_init {web : Web} {k w : Nat} : ∀ {o : List Nat} {s sf : St}, runO web k s (o ++ [w]) = some sf → 1 ≤ w ∧ w ≤ k
  | [], s, sf, h => (runO_cons h).1
  | v :: o, s, sf, h => by
    obtain ⟨_, s', _, h'⟩ := runO_cons (show runO web k s (v :: (o ++ [w])) = some sf from h)
    exact runO_init h'

theorem Runs.inv {web : Web} {S : List Nat} {r : Nat} {st rf : RF} {es : List Ev} {e : Ev} (hr : Runs web S r st es) (h : rfStep web S r st = some (e, rf)) : ∃ es1, es = e :: es1 ∧ Runs web S r rf es1 := by
  cases hr with
  | nil => cases h
  | cons h1 h2 =>
    rw [h] at h1
    cases h1
    exact ⟨_, rfl, h2⟩
/-- dones, and what each walker has done -/
structure DJ (web : Web) (roots S : List Nat) (rows : Rows) (d : List Nat) (R : List RF) : Prop where
  len : d.length = roots.length
  lenR : R.length = roots.length
  runs : ∀ w, w < roots.length → Runs web S (roots.getD w 0) (R.getD w dR) ((rw_ rows w).drop (d.getD w 0))
  kn : ∀ w, w < roots.length → (R.getD w dR).1 = kn_ web roots rows w (d.getD w 0)
  le : ∀ w, w < roots.length → d.getD w 0 ≤ (rw_ rows w).length
theorem DJ.next {web : Web} {roots S : List Nat} {rows : Rows} {d : List Nat} {R : List RF} {w : Nat} {e : Ev} {rf : RF} (D : DJ web roots S rows d R) (hw : w < roots.length) (h : rfStep web S (roots.getD w 0) (R.getD w dR) = some (e, rf)) :
    (rw_ rows w)[d.getD w 0]? = some e ∧ DJ web roots S rows (bump d w) (R.set w rf) := by
  have hr := D.runs w hw
  have hR : w < R.length := by rw [D.lenR]; exact hw
  have hd : w < d.length := by rw [D.len]; exact hw
  obtain ⟨es1, hes, h2⟩ := hr.inv h
  have h0 : (rw_ rows w)[d.getD w 0]? = some e := by
    have z : ((rw_ rows w).drop (d.getD w 0))[0]? = some e := by rw [hes]; rfl
    rw [List.getElem?_drop] at z
    exact z
  have hl : d.getD w 0 < (rw_ rows w).length := (List.getElem?_eq_some_iff.mp h0).1
  have htl : (rw_ rows w).drop (d.getD w 0 + 1) = es1 := by
    rw [← List.drop_drop, hes]
    rfl
  have htk : (rw_ rows w).take (d.getD w 0 + 1) = (rw_ rows w).take (d.getD w 0) ++ [e] := by
    rw [List.take_add_one, h0]
    rfl
  refine ⟨h0, by unfold bump; rw [List.length_set]; exact D.len, by rw [List.length_set]; exact D.lenR, fun v hv => ?_, fun v hv => ?_, fun v hv => ?_⟩
  · unfold bump
    by_cases c : w = v
    · subst c
      rw [getD_set_self hR, getD_set_self hd, htl]
      exact h2
    · rw [getD_set_ne c, getD_set_ne c]
      exact D.runs v hv
  · unfold bump
    by_cases c : w = v
    · subst c
      rw [getD_set_self hR, getD_set_self hd]
      have hk := D.kn w hw
      unfold kn_ at hk ⊢
      rw [htk, downs_append]
      generalize hrf : R.getD w dR = rf0 at h hk
      obtain ⟨kn, way⟩ := rf0
      cases way with
      | nil => cases h
      | cons q ws =>
        obtain ⟨x, p⟩ := q
        have hk' : kn = _ := hk
        have e0 : ∀ ev : Ev, downs web [ev] = (if ev.1 = .down then (tie web ev.2.1 ev.2.2).toList else []) := fun ev => by
          show _ ++ downs web [] = _
          exact List.append_nil _
        rw [e0]
        rcases rfStep_cases h with ⟨_, rfl, rfl⟩ | ⟨_, _, rfl, rfl⟩ | ⟨_, t, ht, _, rfl, rfl⟩
        · show kn = _
          have : ¬ ((if ws = [] then Kd.stop else Kd.up) = Kd.down) := by
            split <;> nofun
          rw [if_neg this, hk', List.append_nil]
        · show kn = _
          rw [if_neg (by nofun), hk', List.append_nil]
        · show kn ++ [t] = _
          rw [if_pos rfl, ht, hk']
          rfl
    · rw [getD_set_ne c, getD_set_ne c]
      exact D.kn v hv
  · unfold bump
    by_cases c : w = v
    · subst c
      rw [getD_set_self hd]
      exact hl
    · rw [getD_set_ne c]
      exact D.le v hv
theorem marked_iff {web : Web} {roots S : List Nat} {rows : Rows} {d : List Nat} {R : List RF} {s : St} (j : J web roots.length S s R) (D : DJ web roots S rows d R) (x : Nat) : Marked web roots rows d x ↔ s.marks.getD x 0 ≠ 0 := by
  constructor
  · rintro ⟨w, hw, hx⟩
    rw [← D.kn w hw] at hx
    have := (j.kn w hw x).mp hx
    omega
  · intro h
    have h1 := j.mle x
    have hw : s.marks.getD x 0 - 1 < roots.length := by omega
    refine ⟨s.marks.getD x 0 - 1, hw, ?_⟩
    rw [← D.kn _ hw, j.kn _ hw]
    omega
/-- roots are their walkers' own -/
def RootsOwn (roots S : List Nat) : Prop := ∀ w, w < roots.length → S.getD (roots.getD w 0) 0 = w + 1
/-- the ties at which events look or go down lead to somebody's nodes -/
def TOk (web : Web) (S : List Nat) (e : Ev) : Prop := ∀ t, (e.1 = .skip ∨ e.1 = .down) → tie web e.2.1 e.2.2 = some t → S.getD t 0 ≠ 0
def DoneOk (web : Web) (roots S : List Nat) (rows : Rows) (d : List Nat) : Prop := ∀ w, w < roots.length → ∀ e ∈ (rw_ rows w).take (d.getD w 0), TOk web S e
/-- A: a walk that ends in the sharing does the events -/
theorem simA {web : Web} (W : WebOk web) {roots S : List Nat} (hR : RootsOwn roots S) {rows : Rows} : ∀ {o : List Nat} {s sf : St} {R : List RF} {d : List Nat}, J web roots.length S s R → DJ web roots S rows d R → DoneOk web roots S rows d →
    runO web roots.length s o = some sf → (∀ x, sf.marks.getD x 0 ≠ 0 → sf.marks.getD x 0 = S.getD x 0) →
    Valid web roots S rows d o ∧ DoneOk web roots S rows (after d o) ∧ ∃ Rf, J web roots.length S sf Rf ∧ DJ web roots S rows (after d o) Rf
  | [], s, sf, R, d, j, D, hdo, h, hS => by
    cases h
    exact ⟨trivial, hdo, R, j, D⟩
  | w :: o, s, sf, R, d, j, D, hdo, h, hS => by
    obtain ⟨c, s', hs, h'⟩ := runO_cons h
    have hw : w - 1 < roots.length := by omega
    have ew : w - 1 + 1 = w := by omega
    have pre : ∀ x, s.marks.getD x 0 ≠ 0 → s.marks.getD x 0 = S.getD x 0 := fun x hx => by
      have a := runO_marks h x hx
      rw [← a]
      exact hS x (by rw [a]; exact hx)
    have pre' : ∀ x, s'.marks.getD x 0 ≠ 0 → s'.marks.getD x 0 = S.getD x 0 := fun x hx => by
      have a := runO_marks h' x hx
      rw [← a]
      exact hS x (by rw [a]; exact hx)
    have hway := j.way _ hw
    have hkn := j.kn _ hw
    have okw := j.ok _ hw
    have hcnt := j.cnt _ hw
    have hr := hR _ hw
    -- the walker has not stopped
    obtain ⟨e, rf, he, hag⟩ : ∃ e rf, rfStep web S (roots.getD (w - 1) 0) (R.getD (w - 1) dR) = some (e, rf) ∧
        ∀ t, (e.1 = .skip ∨ e.1 = .down) → tie web e.2.1 e.2.2 = some t → (s.marks.getD t 0 = 0 ↔ S.getD t 0 = w - 1 + 1 ∧ t ∉ (R.getD (w - 1) dR).1) := by
      generalize hrf : R.getD (w - 1) dR = rf0 at hway hkn okw hcnt
      obtain ⟨kn, way⟩ := rf0
      cases way with
      | nil =>
        exfalso
        have := step_nil (web := web) (s := s) (w := w - 1) hway
        rw [ew, hs] at this
        cases this
      | cons q ws =>
        obtain ⟨x, p⟩ := q
        obtain ⟨e, rf, he⟩ := rfStep_some web S (roots.getD (w - 1) 0) kn x p ws
        refine ⟨e, rf, he, fun t hk ht => ?_⟩
        have hep : e.2 = (x, p) ∧ p ≠ deg web x := by
          rcases rfStep_cases he with ⟨_, rfl, _⟩ | ⟨c1, _, rfl, _⟩ | ⟨c1, _, _, _, rfl, _⟩
          · exfalso
            rcases hk with q | q
            · split at q <;> cases q
            · split at q <;> cases q
          · exact ⟨rfl, c1⟩
          · exact ⟨rfl, c1⟩
        have ht' : tie web x p = some t := by
          have a : e.2.1 = x := by rw [hep.1]
          have b : e.2.2 = p := by rw [hep.1]
          rw [a, b] at ht
          exact ht
        constructor
        · intro hm
          have st := step_cons (web := web) (s := s) (w := w - 1) hway
          rw [ew, hs] at st
          unfold stepAt at st
          have hc : s.counts.getD x 0 = p := hcnt.1
          simp only [hc] at st
          rw [if_neg hep.2, ht'] at st
          simp only [if_pos hm] at st
          have htl : t < s.marks.length := by rw [j.lenM]; exact W.tie_lt ht'
          have hm' : s'.marks.getD t 0 = w - 1 + 1 := by
            have := Option.some.inj st
            rw [this]
            exact getD_set_self htl
          refine ⟨?_, fun z => ?_⟩
          · rw [← pre' t (by rw [hm']; omega), hm']
          · have := (hkn t).mp z
            omega
        · rintro ⟨h1, h2⟩
          rcases Nat.eq_zero_or_pos (s.marks.getD t 0) with z | z
          · exact z
          · exfalso
            have a := pre t (by omega)
            rw [h1] at a
            exact h2 ((hkn t).mpr a)
    obtain ⟨s2, hs2, j2⟩ := sim W j hw hr he hag
    rw [ew, hs] at hs2
    cases hs2
    obtain ⟨hev, D2⟩ := D.next hw he
    have hdo2 : DoneOk web roots S rows (bump d (w - 1)) := fun v hv ev hm => by
      by_cases q : w - 1 = v
      · subst q
        have hd : w - 1 < d.length := by rw [D.len]; exact hw
        have e1 : (bump d (w - 1)).getD (w - 1) 0 = d.getD (w - 1) 0 + 1 := getD_set_self hd
        rw [e1, List.take_add_one, hev] at hm
        rcases List.mem_append.mp hm with hm | hm
        · exact hdo _ hv ev hm
        · have : ev = e := by simpa using hm
          subst this
          intro t hk ht hz
          by_cases z : s.marks.getD t 0 = 0
          · have := ((hag t hk ht).mp z).1
            omega
          · have := pre t z
            omega
      · have e1 : (bump d (w - 1)).getD v 0 = d.getD v 0 := getD_set_ne q
        rw [e1] at hm
        exact hdo v hv ev hm
    obtain ⟨hv, fin⟩ := simA W hR j2 D2 hdo2 h' hS
    refine ⟨⟨c, ⟨e, hev, fun t ht => ?_⟩, hv⟩, fin⟩
    obtain ⟨a1, a2, a3, a4⟩ := otherAt_some ht
    rw [marked_iff j D]
    intro z
    exact a4 ((hag t (.inl a1) a2).mp z).1
/-- no tie leads from somebody's node to nobody's -/
def TiesIn (web : Web) (S : List Nat) : Prop := ∀ x p t, tie web x p = some t → S.getD x 0 ≠ 0 → S.getD t 0 ≠ 0
/-- B: the events make a walk -/
theorem simB {web : Web} (W : WebOk web) {roots S : List Nat} (hR : RootsOwn roots S) (hT : TiesIn web S) {rows : Rows} : ∀ {o : List Nat} {s : St} {R : List RF} {d : List Nat}, J web roots.length S s R → DJ web roots S rows d R →
    Valid web roots S rows d o → ∃ sf Rf, runO web roots.length s o = some sf ∧ J web roots.length S sf Rf ∧ DJ web roots S rows (after d o) Rf
  | [], s, R, d, j, D, _ => ⟨s, R, rfl, j, D⟩
  | w :: o, s, R, d, j, D, ⟨c, ⟨e0, he0, hm⟩, hv⟩ => by
    have hw : w - 1 < roots.length := by omega
    have ew : w - 1 + 1 = w := by omega
    have hr := hR _ hw
    have hkn := j.kn _ hw
    have hknS := j.knS _ hw
    have okw := j.ok _ hw
    obtain ⟨e, rf, he, hin⟩ : ∃ e rf, rfStep web S (roots.getD (w - 1) 0) (R.getD (w - 1) dR) = some (e, rf) ∧ ((e.1 = .skip ∨ e.1 = .down) → e.2.1 ∈ (R.getD (w - 1) dR).1) := by
      have hruns := D.runs _ hw
      generalize hrf : R.getD (w - 1) dR = rf0 at hruns okw
      obtain ⟨kn, way⟩ := rf0
      cases way with
      | nil =>
        exfalso
        generalize hes : (rw_ rows (w - 1)).drop (d.getD (w - 1) 0) = es at hruns
        cases hruns with
        | nil =>
          have hl := List.drop_eq_nil_iff.mp hes
          have := (List.getElem?_eq_some_iff.mp he0).1
          omega
        | cons h1 _ => cases h1
      | cons q ws =>
        obtain ⟨x, p⟩ := q
        obtain ⟨e, rf, he⟩ := rfStep_some web S (roots.getD (w - 1) 0) kn x p ws
        refine ⟨e, rf, he, fun _ => ?_⟩
        have : e.2.1 = x := by
          rcases rfStep_cases he with ⟨_, rfl, _⟩ | ⟨_, _, rfl, _⟩ | ⟨_, _, _, _, rfl, _⟩ <;> rfl
        rw [this]
        exact okw.inK (x, p) (by simp)
    obtain ⟨hev, D2⟩ := D.next hw he
    rw [he0] at hev
    cases hev
    have hag : ∀ t, (e0.1 = .skip ∨ e0.1 = .down) → tie web e0.2.1 e0.2.2 = some t → (s.marks.getD t 0 = 0 ↔ S.getD t 0 = w - 1 + 1 ∧ t ∉ (R.getD (w - 1) dR).1) := by
      intro t hk ht
      constructor
      · intro hz
        have hn : t ∉ (R.getD (w - 1) dR).1 := fun z => by
          have := (hkn t).mp z
          omega
        refine ⟨?_, hn⟩
        have hS0 : S.getD e0.2.1 0 ≠ 0 := by
          rw [hknS _ (hin hk)]
          omega
        have ht0 := hT _ _ t ht hS0
        rcases hk with hk | hk
        · by_cases q : S.getD t 0 = w - 1 + 1
          · exact q
          · exfalso
            have := hm t (otherAt_of hk ht ht0 q)
            rw [marked_iff j D] at this
            exact this hz
        · generalize hrf : R.getD (w - 1) dR = rf0 at he
          obtain ⟨kn, way⟩ := rf0
          cases way with
          | nil => cases he
          | cons q ws =>
            obtain ⟨x, p⟩ := q
            rcases rfStep_cases he with ⟨_, rfl, _⟩ | ⟨_, _, rfl, _⟩ | ⟨_, u, hu, f, rfl, _⟩
            · exfalso
              have hk' : (if ws = [] then Kd.stop else Kd.up) = Kd.down := hk
              split at hk' <;> cases hk'
            · cases hk
            · have ht' : tie web x p = some t := ht
              rw [hu] at ht'
              cases ht'
              exact f.1.trans hr
      · rintro ⟨h1, h2⟩
        rcases Nat.eq_zero_or_pos (s.marks.getD t 0) with z | z
        · exact z
        · exfalso
          have hv := j.mle t
          have hv' : s.marks.getD t 0 - 1 < roots.length := by omega
          have a := (j.kn _ hv' t).mpr (by omega)
          have b := j.knS _ hv' t a
          have : s.marks.getD t 0 - 1 = w - 1 := by omega
          rw [this] at a
          exact h2 a
    obtain ⟨s2, hs2, j2⟩ := sim W j hw hr he hag
    obtain ⟨sf, Rf, h1, h2, h3⟩ := simB W hR hT j2 D2 hv
    refine ⟨sf, Rf, ?_, h2, h3⟩
    unfold runO
    rw [if_pos c]
    rw [ew] at hs2
    rw [hs2]
    exact h1
end TB

/-! The greedy order is the least. -/
namespace TB
def lex : List Nat → List Nat → Bool
  | [], [] => false
  | [], _ :: _ => true
  | _ :: _, [] => false
  | x :: xs, y :: ys => if x = y then lex xs ys else decide (x < y)
theorem lex_cons (x y : Nat) (xs ys : List Nat) : lex (x :: xs) (y :: ys) = if x = y then lex xs ys else decide (x < y) := rfl
/-- a is not greater than b -/
def Le (a b : List Nat) : Prop := lex b a = false
theorem lex_irr : ∀ a : List Nat, lex a a = false
  | [] => rfl
  | x :: xs => by rw [lex_cons, if_pos rfl]; exact lex_irr xs
theorem Le.refl (a : List Nat) : Le a a := lex_irr a
theorem lex_asymm : ∀ {a b : List Nat}, lex a b = true → lex b a = false
  | [], [], h => by cases h
  | [], _ :: _, _ => rfl
  | _ :: _, [], h => by cases h
  | x :: xs, y :: ys, h => by
    rw [lex_cons] at h ⊢
    by_cases c : x = y
    · subst c
      rw [if_pos rfl] at h ⊢
      exact lex_asymm h
    · rw [if_neg c] at h
      rw [if_neg (Ne.symm c)]
      have := of_decide_eq_true h
      exact decide_eq_false (by omega)
theorem Le.antisymm : ∀ {a b : List Nat}, Le a b → Le b a → a = b
  | [], [], _, _ => rfl
  | [], _ :: _, _, h => by cases h
  | _ :: _, [], h, _ => by cases h
  | x :: xs, y :: ys, h1, h2 => by
    unfold Le at h1 h2
    rw [lex_cons] at h1 h2
    by_cases c : x = y
    · subst c
      rw [if_pos rfl] at h1 h2
      rw [Le.antisymm h1 h2]
    · rw [if_neg (Ne.symm c)] at h1
      rw [if_neg c] at h2
      have a := of_decide_eq_false h1
      have b := of_decide_eq_false h2
      omega
theorem Le.trans : ∀ {a b c : List Nat}, Le a b → Le b c → Le a c
  | [], _, c, _, _ => by
    unfold Le
    cases c <;> rfl
  | _ :: _, [], _, h, _ => by cases h
  | _ :: _, _ :: _, [], _, h => by cases h
  | x :: xs, y :: ys, z :: zs, h1, h2 => by
    unfold Le at h1 h2 ⊢
    rw [lex_cons] at h1 h2 ⊢
    by_cases c1 : y = x
    · subst c1
      rw [if_pos rfl] at h1
      by_cases c2 : z = y
      · subst c2
        rw [if_pos rfl] at h2 ⊢
        exact Le.trans h1 h2
      · rw [if_neg c2] at h2 ⊢
        exact h2
    · rw [if_neg c1] at h1
      have a := of_decide_eq_false h1
      by_cases c2 : z = y
      · subst c2
        rw [if_neg c1]
        exact h1
      · rw [if_neg c2] at h2
        have b := of_decide_eq_false h2
        rw [if_neg (by omega)]
        exact decide_eq_false (by omega)
theorem Le.snoc (w : Nat) : ∀ {a b : List Nat}, a.length = b.length → Le a b → Le (a ++ [w]) (b ++ [w])
  | [], [], _, _ => Le.refl _
  | [], _ :: _, h, _ => by cases h
  | _ :: _, [], h, _ => by cases h
  | x :: xs, y :: ys, hl, h => by
    unfold Le at h ⊢
    show lex (y :: (ys ++ [w])) (x :: (xs ++ [w])) = false
    rw [lex_cons] at h ⊢
    by_cases c : y = x
    · rw [if_pos c] at h ⊢
      exact Le.snoc w (by simpa using hl) h
    · rw [if_neg c] at h ⊢
      exact h
theorem Le.of_not {a b : List Nat} (h : ¬ lex a b = true) : Le b a := by
  unfold Le
  cases e : lex a b with
  | true => exact absurd e h
  | false => rfl
theorem Le.of_lt {a b : List Nat} (h : lex a b = true) : Le a b := lex_asymm h

/-! ### exchange -/
section
variable {web : Web} {roots S : List Nat} {rows : Rows}
theorem downs_more (n : Nat) (l : List Ev) {x : Nat} (h : x ∈ downs web (l.take n)) : x ∈ downs web (l.take (n + 1)) := by
  rw [List.take_add_one, downs_append]
  exact List.mem_append_left _ h
theorem bump_self {d : List Nat} {u : Nat} (h : u < d.length) : (bump d u).getD u 0 = d.getD u 0 + 1 := getD_set_self h
theorem bump_ne {d : List Nat} {u v : Nat} (h : u ≠ v) : (bump d u).getD v 0 = d.getD v 0 := getD_set_ne h
theorem bump_len (d : List Nat) (u : Nat) : (bump d u).length = d.length := List.length_set
theorem bump_comm {d : List Nat} {u v : Nat} (h : u ≠ v) : bump (bump d u) v = bump (bump d v) u := by
  unfold bump
  rw [getD_set_ne h, getD_set_ne (Ne.symm h), List.set_comm _ _ h]
theorem Marked.more {d : List Nat} {x u : Nat} (h : Marked web roots rows d x) : Marked web roots rows (bump d u) x := by
  obtain ⟨w, hw, hx⟩ := h
  refine ⟨w, hw, ?_⟩
  by_cases c : u = w
  · subst c
    by_cases l : u < d.length
    · rw [bump_self l]
      unfold kn_ at hx ⊢
      rcases List.mem_cons.mp hx with e | e
      · exact List.mem_cons.mpr (.inl e)
      · exact List.mem_cons.mpr (.inr (downs_more _ _ e))
    · have : bump d u = d := by
        unfold bump
        exact List.set_eq_of_length_le (Nat.le_of_not_lt l)
      rw [this]
      exact hx
  · rw [bump_ne c]
    exact hx
theorem May.more {d : List Nat} {u v : Nat} (h : u ≠ v) (m : May web roots S rows d v) : May web roots S rows (bump d u) v := by
  obtain ⟨e, he, hm⟩ := m
  exact ⟨e, by rw [bump_ne h]; exact he, fun t ht => (hm t ht).more⟩
theorem exchange {v : Nat} (hv : v < roots.length) : ∀ {o : List Nat} {d : List Nat}, d.length = roots.length → Valid web roots S rows d o → Full roots rows (after d o) → May web roots S rows d v →
    ∃ o', Valid web roots S rows (bump d v) o' ∧ Full roots rows (after (bump d v) o') ∧ o'.length + 1 = o.length
  | [], d, _, _, hF, m => by
    obtain ⟨e, he, _⟩ := m
    have h1 := hF v hv
    have h2 := (List.getElem?_eq_some_iff.mp he).1
    have h3 : (after d []).getD v 0 = d.getD v 0 := rfl
    omega
  | w :: o, d, hl, ⟨c, m1, hval⟩, hF, m => by
    by_cases e : w - 1 = v
    · rw [e] at hval
      have hF' : Full roots rows (after (bump d (w - 1)) o) := hF
      rw [e] at hF'
      exact ⟨o, hval, hF', rfl⟩
    · have hF' : Full roots rows (after (bump d (w - 1)) o) := hF
      obtain ⟨o', h1, h2, h3⟩ := exchange hv (by rw [bump_len]; exact hl) hval hF' (m.more e)
      rw [bump_comm e] at h1 h2
      exact ⟨w :: o', ⟨c, m1.more (Ne.symm e), h1⟩, h2, by simp [h3]⟩
end

/-! ### the greedy order -/
def waits (web : Web) (S : List Nat) (rows : Rows) (d mk : List Nat) (w : Nat) : Option Nat :=
  match (rw_ rows w)[d.getD w 0]? with
  | none => none
  | some e => match otherAt web S (w + 1) e with
    | none => none
    | some t => if t ∈ mk then none else some t
def mayB (web : Web) (S : List Nat) (rows : Rows) (d mk : List Nat) (w : Nat) : Bool := decide (d.getD w 0 < (rw_ rows w).length) && decide (waits web S rows d mk w = none)
/-- the walkers that may, by their numbers, from i on -/
def someFrom (web : Web) (S : List Nat) (rows : Rows) (d mk : List Nat) : Nat → Nat → List Nat
  | 0, _ => []
  | n + 1, i => if mayB web S rows d mk i = true then (i + 1) :: someFrom web S rows d mk n (i + 1) else someFrom web S rows d mk n (i + 1)
def putM (mk : List Nat) (t : Nat) : List Nat := if t ∈ mk then mk else mk ++ [t]
def markE (web : Web) (mk : List Nat) (e : Ev) : List Nat := if e.1 = .down then (match tie web e.2.1 e.2.2 with | none => mk | some t => putM mk t) else mk
def doIt (web : Web) (rows : Rows) (d mk : List Nat) (w : Nat) : List Nat × List Nat :=
  (bump d w, match (rw_ rows w)[d.getD w 0]? with
    | none => mk
    | some e => markE web mk e)
def goRun (web : Web) (k : Nat) (S : List Nat) (rows : Rows) : Nat → List Nat × List Nat → List Nat × (List Nat × List Nat)
  | 0, st => ([], st)
  | f + 1, (d, mk) => match someFrom web S rows d mk k 0 with
    | [] => ([], (d, mk))
    | v :: _ => (v :: (goRun web k S rows f (doIt web rows d mk (v - 1))).1, (goRun web k S rows f (doIt web rows d mk (v - 1))).2)
section
variable {web : Web} {roots S : List Nat} {rows : Rows}
def MkOk (web : Web) (roots : List Nat) (rows : Rows) (d mk : List Nat) : Prop := ∀ x, x ∈ mk ↔ Marked web roots rows d x
theorem mem_putM {mk : List Nat} {t x : Nat} : x ∈ putM mk t ↔ x ∈ mk ∨ x = t := by
  unfold putM
  by_cases c : t ∈ mk
  · rw [if_pos c]
    constructor
    · exact .inl
    · rintro (h | rfl)
      · exact h
      · exact c
  · rw [if_neg c]
    simp
theorem mayB_iff {d mk : List Nat} (h : MkOk web roots rows d mk) {w : Nat} : mayB web S rows d mk w = true ↔ May web roots S rows d w := by
  unfold mayB May
  rw [Bool.and_eq_true]
  constructor
  · rintro ⟨h1, h2⟩
    have h1' := of_decide_eq_true h1
    have h2' := of_decide_eq_true h2
    refine ⟨_, List.getElem?_eq_getElem h1', fun t ht => ?_⟩
    unfold waits at h2'
    rw [List.getElem?_eq_getElem h1'] at h2'
    simp only [ht] at h2'
    by_cases c : t ∈ mk
    · exact (h t).mp c
    · rw [if_neg c] at h2'
      cases h2'
  · rintro ⟨e, he, hm⟩
    refine ⟨decide_eq_true (List.getElem?_eq_some_iff.mp he).1, decide_eq_true ?_⟩
    unfold waits
    rw [he]
    cases ho : otherAt web S (w + 1) e with
    | none => simp only [ho]
    | some t =>
      simp only [ho]
      exact if_pos ((h t).mpr (hm t ho))
theorem MkOk.next {d mk : List Nat} (h : MkOk web roots rows d mk) (hl : d.length = roots.length) {w : Nat} (hw : w < roots.length) {e : Ev} (he : (rw_ rows w)[d.getD w 0]? = some e) :
    MkOk web roots rows (doIt web rows d mk w).1 (doIt web rows d mk w).2 := by
  have hd : w < d.length := by rw [hl]; exact hw
  intro x
  unfold doIt
  rw [he]
  show x ∈ markE web mk e ↔ Marked web roots rows (bump d w) x
  have htk : (rw_ rows w).take (d.getD w 0 + 1) = (rw_ rows w).take (d.getD w 0) ++ [e] := by
    rw [List.take_add_one, he]
    rfl
  have key : Marked web roots rows (bump d w) x ↔ Marked web roots rows d x ∨ x ∈ downs web [e] := by
    constructor
    · rintro ⟨v, hv, hx⟩
      by_cases c : w = v
      · subst c
        rw [bump_self hd] at hx
        unfold kn_ at hx
        rw [htk, downs_append] at hx
        rcases List.mem_cons.mp hx with q | q
        · exact .inl ⟨w, hv, List.mem_cons.mpr (.inl q)⟩
        · rcases List.mem_append.mp q with q | q
          · exact .inl ⟨w, hv, List.mem_cons.mpr (.inr q)⟩
          · exact .inr q
      · rw [bump_ne c] at hx
        exact .inl ⟨v, hv, hx⟩
    · rintro (q | q)
      · exact q.more
      · refine ⟨w, hw, ?_⟩
        rw [bump_self hd]
        unfold kn_
        rw [htk, downs_append]
        exact List.mem_cons.mpr (.inr (List.mem_append_right _ q))
  rw [key, ← h x]
  have e0 : downs web [e] = (if e.1 = .down then (tie web e.2.1 e.2.2).toList else []) := List.append_nil _
  rw [e0]
  unfold markE
  by_cases c : e.1 = .down
  · rw [if_pos c, if_pos c]
    cases ht : tie web e.2.1 e.2.2 with
    | none => simp
    | some t =>
      simp only [mem_putM]
      simp
  · rw [if_neg c, if_neg c]
    simp
theorem someFrom_mem {d mk : List Nat} : ∀ {n i v : Nat}, v ∈ someFrom web S rows d mk n i ↔ i + 1 ≤ v ∧ v ≤ i + n ∧ mayB web S rows d mk (v - 1) = true
  | 0, i, v => by
    unfold someFrom
    constructor
    · intro h
      cases h
    · rintro ⟨a, b, _⟩
      omega
  | n + 1, i, v => by
    unfold someFrom
    by_cases c : mayB web S rows d mk i = true
    · rw [if_pos c, List.mem_cons, someFrom_mem]
      constructor
      · rintro (rfl | ⟨a, b, m⟩)
        · exact ⟨Nat.le_refl _, by omega, by rw [Nat.add_sub_cancel]; exact c⟩
        · exact ⟨by omega, by omega, m⟩
      · rintro ⟨a, b, m⟩
        by_cases q : v = i + 1
        · exact .inl q
        · exact .inr ⟨by omega, by omega, m⟩
    · rw [if_neg c, someFrom_mem]
      constructor
      · rintro ⟨a, b, m⟩
        exact ⟨by omega, by omega, m⟩
      · rintro ⟨a, b, m⟩
        refine ⟨?_, by omega, m⟩
        by_cases q : v = i + 1
        · subst q
          rw [Nat.add_sub_cancel] at m
          exact absurd m c
        · omega
theorem someFrom_least {d mk : List Nat} : ∀ {n i v : Nat} {r : List Nat}, someFrom web S rows d mk n i = v :: r → ∀ u ∈ someFrom web S rows d mk n i, v ≤ u
  | 0, i, v, r, h => by cases h
  | n + 1, i, v, r, h => by
    unfold someFrom at h ⊢
    by_cases c : mayB web S rows d mk i = true
    · rw [if_pos c] at h ⊢
      cases h
      intro u hu
      rcases List.mem_cons.mp hu with rfl | hu
      · exact Nat.le_refl _
      · have := (someFrom_mem.mp hu).1
        omega
    · rw [if_neg c] at h ⊢
      exact someFrom_least h
/-- what the greedy order does, always -/
theorem goRun_valid : ∀ (f : Nat) {d mk : List Nat}, d.length = roots.length → MkOk web roots rows d mk → Valid web roots S rows d (goRun web roots.length S rows f (d, mk)).1 ∧
    (goRun web roots.length S rows f (d, mk)).2.1 = after d (goRun web roots.length S rows f (d, mk)).1 ∧ (goRun web roots.length S rows f (d, mk)).2.1.length = roots.length ∧
    MkOk web roots rows (goRun web roots.length S rows f (d, mk)).2.1 (goRun web roots.length S rows f (d, mk)).2.2
  | 0, d, mk, hl, h => ⟨trivial, rfl, hl, h⟩
  | f + 1, d, mk, hl, h => by
    unfold goRun
    cases e : someFrom web S rows d mk roots.length 0 with
    | nil => exact ⟨trivial, rfl, hl, h⟩
    | cons v r =>
      have hv : v ∈ someFrom web S rows d mk roots.length 0 := by rw [e]; exact List.mem_cons_self
      obtain ⟨a, b, m⟩ := someFrom_mem.mp hv
      have m' := (mayB_iff h).mp m
      obtain ⟨ev, hev, _⟩ := id m'
      have hl' : (doIt web rows d mk (v - 1)).1.length = roots.length := by
        show (bump d (v - 1)).length = _
        rw [bump_len]
        exact hl
      have ih := goRun_valid f hl' (h.next hl (by omega) hev)
      exact ⟨⟨by omega, m', ih.1⟩, ih.2.1, ih.2.2.1, ih.2.2.2⟩
/-- the greedy order comes to the end where some order does, and it is not greater -/
theorem goRun_least : ∀ (f : Nat) {o d mk : List Nat}, d.length = roots.length → MkOk web roots rows d mk → Valid web roots S rows d o → Full roots rows (after d o) → o.length ≤ f →
    Full roots rows (goRun web roots.length S rows f (d, mk)).2.1 ∧ Le (goRun web roots.length S rows f (d, mk)).1 o
  | 0, o, d, mk, hl, h, hv, hF, hf => by
    have : o = [] := List.length_eq_zero_iff.mp (Nat.le_zero.mp hf)
    subst this
    exact ⟨hF, Le.refl _⟩
  | f + 1, [], d, mk, hl, h, hv, hF, hf => by
    unfold goRun
    cases e : someFrom web S rows d mk roots.length 0 with
    | nil => exact ⟨hF, Le.refl _⟩
    | cons v r =>
      exfalso
      have hv : v ∈ someFrom web S rows d mk roots.length 0 := by rw [e]; exact List.mem_cons_self
      obtain ⟨a, b, m⟩ := someFrom_mem.mp hv
      obtain ⟨ev, hev, _⟩ := (mayB_iff h).mp m
      have h2 := (List.getElem?_eq_some_iff.mp hev).1
      have h1 : d.getD (v - 1) 0 = _ := hF (v - 1) (by omega)
      omega
  | f + 1, w :: o, d, mk, hl, h, hval, hF, hf => by
    obtain ⟨c, m1, hv'⟩ := id hval
    have hw : w ∈ someFrom web S rows d mk roots.length 0 := someFrom_mem.mpr ⟨by omega, by omega, (mayB_iff h).mpr m1⟩
    unfold goRun
    cases e : someFrom web S rows d mk roots.length 0 with
    | nil =>
      rw [e] at hw
      cases hw
    | cons v r =>
      have hvm : v ∈ someFrom web S rows d mk roots.length 0 := by rw [e]; exact List.mem_cons_self
      obtain ⟨a, b, m⟩ := someFrom_mem.mp hvm
      have m' := (mayB_iff h).mp m
      obtain ⟨ev, hev, _⟩ := id m'
      have hle := someFrom_least e w hw
      have hl' : (doIt web rows d mk (v - 1)).1.length = roots.length := by
        show (bump d (v - 1)).length = _
        rw [bump_len]
        exact hl
      have hmk := h.next hl (show v - 1 < roots.length by omega) hev
      have hf' : o.length ≤ f := by
        rw [List.length_cons] at hf
        omega
      by_cases q : w = v
      · subst q
        have ih := goRun_least f hl' hmk hv' hF hf'
        refine ⟨ih.1, ?_⟩
        unfold Le
        rw [lex_cons, if_pos rfl]
        exact ih.2
      · obtain ⟨o', h1, h2, h3⟩ := exchange (show v - 1 < roots.length by omega) hl hval hF m'
        rw [List.length_cons] at h3
        have ih := goRun_least f hl' hmk h1 h2 (by omega)
        refine ⟨ih.1, ?_⟩
        unfold Le
        rw [lex_cons, if_neg q]
        exact decide_eq_false (by omega)
end
/-- the events that are left -/
def remain : Rows → List Nat → Nat → Nat
  | [], _, _ => 0
  | r :: rs, d, i => (r.length - d.getD i 0) + remain rs d (i + 1)
end TB

/-! What hinders, and that nothing does just where a walk ends in the sharing. -/
namespace TB
def rootH (S : List Nat) : List Nat → Nat → Bool
  | [], _ => false
  | r :: rs, i => if S.getD r 0 = i + 1 then rootH S rs (i + 1) else true
def tieRow (S : List Nat) (x : Nat) (row : List (Option Nat)) : Bool := row.any fun t => match t with
  | none => false
  | some t => decide (S.getD x 0 ≠ 0 ∧ S.getD t 0 = 0)
def tieH (S : List Nat) : Web → Nat → Bool
  | [], _ => false
  | row :: web, i => tieRow S i row || tieH S web (i + 1)
def knownAll (web : Web) (roots S : List Nat) : List Nat := roots ++ (rowsOf web roots S).flatMap (downs web)
def farH (known : List Nat) : List Nat → Nat → Bool
  | [], _ => false
  | w :: ws, i => decide (w ≠ 0 ∧ i ∉ known) || farH known ws (i + 1)
def ownRoots (S : List Nat) : List Nat → Nat → List Nat
  | [], _ => []
  | r :: rs, i => if S.getD r 0 = i + 1 then r :: ownRoots S rs (i + 1) else ownRoots S rs (i + 1)
def fuelOf (rows : Rows) : Nat := (rows.map (·.length)).sum
def d0 (roots : List Nat) : List Nat := roots.map fun _ => 0
def goAll (web : Web) (roots S : List Nat) : List Nat × (List Nat × List Nat) :=
  goRun web roots.length S (rowsOf web roots S) (fuelOf (rowsOf web roots S)) (d0 roots, ownRoots S roots 0)
/-- somebody has an event left -/
def leftB (rows : Rows) (d : List Nat) : Nat → Bool
  | 0 => false
  | n + 1 => leftB rows d n || decide (d.getD n 0 < (rw_ rows n).length)
def hind (web : Web) (roots S : List Nat) : Bool :=
  rootH S roots 0 || (tieH S web 0 || (farH (knownAll web roots S) S 0 || leftB (rowsOf web roots S) (goAll web roots S).2.1 roots.length))
def order (web : Web) (roots S : List Nat) : List Nat := (goAll web roots S).1

theorem rootH_iff (S : List Nat) : ∀ (rs : List Nat) (i : Nat), rootH S rs i = false ↔ ∀ w, w < rs.length → S.getD (rs.getD w 0) 0 = i + w + 1
  | [], i => ⟨fun _ w h => absurd h (Nat.not_lt_zero _), fun _ => rfl⟩
  | r :: rs, i => by
    unfold rootH
    by_cases c : S.getD r 0 = i + 1
    · rw [if_pos c, rootH_iff S rs (i + 1)]
      constructor
      · intro h w hw
        cases w with
        | zero => exact c
        | succ w =>
          have := h w (by simpa using hw)
          show S.getD (rs.getD w 0) 0 = _
          omega
      · intro h w hw
        have := h (w + 1) (by simpa using hw)
        have e : S.getD ((r :: rs).getD (w + 1) 0) 0 = S.getD (rs.getD w 0) 0 := rfl
        omega
    · rw [if_neg c]
      constructor
      · intro h
        cases h
      · intro h
        exact absurd (h 0 (by simp)) c
theorem tieRow_iff {S : List Nat} {x : Nat} {row : List (Option Nat)} : tieRow S x row = false ↔ ∀ t, some t ∈ row → S.getD x 0 ≠ 0 → S.getD t 0 ≠ 0 := by
  unfold tieRow
  rw [List.any_eq_false]
  constructor
  · intro h t ht hx hz
    exact h (some t) ht (decide_eq_true ⟨hx, hz⟩)
  · intro h o ho
    cases o with
    | none => simp
    | some t =>
      have := h t ho
      simpa using this
theorem tieH_iff (S : List Nat) : ∀ (web : Web) (i : Nat), tieH S web i = false ↔ ∀ x, x < web.length → ∀ t, some t ∈ web.getD x [] → S.getD (i + x) 0 ≠ 0 → S.getD t 0 ≠ 0
  | [], i => ⟨fun _ w h => absurd h (Nat.not_lt_zero _), fun _ => rfl⟩
  | row :: web, i => by
    unfold tieH
    rw [Bool.or_eq_false_iff, tieRow_iff, tieH_iff S web (i + 1)]
    constructor
    · rintro ⟨h1, h2⟩ x hx t ht
      cases x with
      | zero => exact h1 t ht
      | succ x =>
        have := h2 x (by simpa using hx) t ht
        have e : i + 1 + x = i + (x + 1) := by omega
        rw [e] at this
        exact this
    · intro h
      refine ⟨fun t ht => h 0 (by simp) t ht, fun x hx t ht => ?_⟩
      have := h (x + 1) (by simpa using hx) t ht
      have e : i + 1 + x = i + (x + 1) := by omega
      rw [e]
      exact this
theorem tie_mem {web : Web} {x p t : Nat} (h : tie web x p = some t) : some t ∈ web.getD x [] := by
  have hp := tie_deg h
  unfold deg at hp
  unfold tie at h
  rw [List.getD_eq_getElem?_getD, List.getElem?_eq_getElem hp] at h
  have h' : (web.getD x [])[p] = some t := h
  rw [← h']
  exact List.getElem_mem hp
theorem mem_tie {web : Web} {x t : Nat} (h : some t ∈ web.getD x []) : ∃ p, p < deg web x ∧ tie web x p = some t := by
  obtain ⟨p, hp, e⟩ := List.mem_iff_getElem.mp h
  refine ⟨p, hp, ?_⟩
  unfold tie
  rw [List.getD_eq_getElem?_getD, List.getElem?_eq_getElem hp]
  exact e
theorem tieH_in {web : Web} {S : List Nat} : tieH S web 0 = false ↔ TiesIn web S := by
  rw [tieH_iff]
  constructor
  · intro h x p t ht hx
    have := h x (deg_lt (tie_deg ht)) t (tie_mem ht)
    rw [Nat.zero_add] at this
    exact this hx
  · intro h x _ t ht hx
    obtain ⟨p, _, e⟩ := mem_tie ht
    rw [Nat.zero_add] at hx
    exact h x p t e hx
theorem farH_iff (known : List Nat) : ∀ (S : List Nat) (i : Nat), farH known S i = false ↔ ∀ x, x < S.length → S.getD x 0 ≠ 0 → i + x ∈ known
  | [], i => ⟨fun _ w h => absurd h (Nat.not_lt_zero _), fun _ => rfl⟩
  | w :: ws, i => by
    unfold farH
    rw [Bool.or_eq_false_iff, decide_eq_false_iff_not, farH_iff known ws (i + 1)]
    constructor
    · rintro ⟨h1, h2⟩ x hx hz
      cases x with
      | zero =>
        by_cases c : i ∈ known
        · exact c
        · exact absurd ⟨hz, c⟩ h1
      | succ x =>
        have := h2 x (by simpa using hx) hz
        have e : i + 1 + x = i + (x + 1) := by omega
        rw [e] at this
        exact this
    · intro h
      refine ⟨fun ⟨a, b⟩ => b (h 0 (by simp) a), fun x hx hz => ?_⟩
      have := h (x + 1) (by simpa using hx) hz
      have e : i + 1 + x = i + (x + 1) := by omega
      rw [e]
      exact this
theorem leftB_iff {rows : Rows} {d : List Nat} : ∀ {n : Nat}, leftB rows d n = false ↔ ∀ w, w < n → (rw_ rows w).length ≤ d.getD w 0
  | 0 => ⟨fun _ w h => absurd h (Nat.not_lt_zero _), fun _ => rfl⟩
  | n + 1 => by
    unfold leftB
    rw [Bool.or_eq_false_iff, leftB_iff, decide_eq_false_iff_not]
    constructor
    · rintro ⟨h1, h2⟩ w hw
      by_cases c : w = n
      · subst c
        omega
      · exact h1 w (by omega)
    · intro h
      refine ⟨fun w hw => h w (by omega), ?_⟩
      have := h n (by omega)
      omega
theorem ownRoots_all (S : List Nat) : ∀ (rs : List Nat) (i : Nat), rootH S rs i = false → ownRoots S rs i = rs
  | [], _, _ => rfl
  | r :: rs, i, h => by
    unfold rootH at h
    unfold ownRoots
    by_cases c : S.getD r 0 = i + 1
    · rw [if_pos c] at h ⊢
      rw [ownRoots_all S rs (i + 1) h]
    · rw [if_neg c] at h
      cases h
theorem rowsAux_getD (web : Web) (S : List Nat) : ∀ (rs : List Nat) (i w : Nat), w < rs.length → (rowsAux web S rs i).getD w [] = if S.getD (rs.getD w 0) 0 = i + w + 1 then rowFrom web S (rs.getD w 0) else []
  | [], i, w, h => absurd h (Nat.not_lt_zero _)
  | r :: rs, i, 0, h => rfl
  | r :: rs, i, w + 1, h => by
    show (rowsAux web S rs (i + 1)).getD w [] = _
    rw [rowsAux_getD web S rs (i + 1) w (by simpa using h)]
    have e : i + 1 + w + 1 = i + (w + 1) + 1 := by omega
    rw [e]
    rfl
theorem rowsAux_len (web : Web) (S : List Nat) : ∀ (rs : List Nat) (i : Nat), (rowsAux web S rs i).length = rs.length
  | [], _ => rfl
  | r :: rs, i => by
    unfold rowsAux
    rw [List.length_cons, rowsAux_len web S rs (i + 1), List.length_cons]
theorem rows_own {web : Web} {roots S : List Nat} (h : RootsOwn roots S) {w : Nat} (hw : w < roots.length) : rw_ (rowsOf web roots S) w = rowFrom web S (roots.getD w 0) := by
  unfold rw_ rowsOf
  rw [rowsAux_getD web S roots 0 w hw, if_pos (by rw [h w hw]; omega)]
theorem begMarks_at : ∀ (rs : List Nat) (i : Nat) (m : List Nat), rs.Nodup → (∀ r ∈ rs, r < m.length) →
    (begMarks rs i m).length = m.length ∧ (∀ w, w < rs.length → (begMarks rs i m).getD (rs.getD w 0) 0 = i + w + 1) ∧ ∀ x, x ∉ rs → (begMarks rs i m).getD x 0 = m.getD x 0
  | [], i, m, _, _ => ⟨rfl, fun w h => absurd h (Nat.not_lt_zero _), fun _ _ => rfl⟩
  | r :: rs, i, m, hn, hl => by
    have hn' := List.nodup_cons.mp hn
    obtain ⟨h1, h2, h3⟩ := begMarks_at rs (i + 1) (m.set r (i + 1)) hn'.2 (fun q hq => by rw [List.length_set]; exact hl q (by simp [hq]))
    rw [List.length_set] at h1
    refine ⟨h1, fun w hw => ?_, fun x hx => ?_⟩
    · cases w with
      | zero =>
        show (begMarks rs (i + 1) (m.set r (i + 1))).getD r 0 = _
        rw [h3 r hn'.1, getD_set_self (hl r (by simp))]
      | succ w =>
        have := h2 w (by simpa using hw)
        show (begMarks rs (i + 1) (m.set r (i + 1))).getD (rs.getD w 0) 0 = _
        omega
    · have hx' : x ≠ r ∧ x ∉ rs := by simpa using hx
      show (begMarks rs (i + 1) (m.set r (i + 1))).getD x 0 = _
      rw [h3 x hx'.2, getD_set_ne (Ne.symm hx'.1)]
def R0 (roots : List Nat) : List RF := roots.map fun r => ([r], [(r, 0)])
theorem getD_map {α β : Type} (f : α → β) : ∀ {l : List α} {w : Nat} {a : α} {b : β}, w < l.length → (l.map f).getD w b = f (l.getD w a)
  | [], w, _, _, h => absurd h (Nat.not_lt_zero _)
  | _ :: _, 0, _, _, _ => rfl
  | x :: l, w + 1, a, b, h => getD_map f (l := l) (w := w) (a := a) (b := b) (by simpa using h)
theorem getD_mem : ∀ {l : List Nat} {w : Nat}, w < l.length → l.getD w 0 ∈ l
  | [], w, h => absurd h (Nat.not_lt_zero _)
  | a :: l, 0, _ => by simp
  | a :: l, w + 1, h => List.mem_cons_of_mem _ (getD_mem (l := l) (w := w) (by simpa using h))
theorem mem_getD : ∀ {l : List Nat} {x : Nat}, x ∈ l → ∃ w, w < l.length ∧ l.getD w 0 = x
  | a :: l, x, h => by
    rcases List.mem_cons.mp h with rfl | h
    · exact ⟨0, by simp, rfl⟩
    · obtain ⟨w, hw, e⟩ := mem_getD h
      exact ⟨w + 1, by simpa using hw, e⟩
theorem begun_at {web : Web} {roots : List Nat} (O : RootsOk web roots) : (begun web roots).marks.length = web.length ∧ (∀ w, w < roots.length → (begun web roots).marks.getD (roots.getD w 0) 0 = w + 1) ∧
    ∀ x, x ∉ roots → (begun web roots).marks.getD x 0 = 0 := by
  obtain ⟨h1, h2, h3⟩ := begMarks_at roots 0 (List.replicate web.length 0) O.nod (fun r hr => by rw [List.length_replicate]; exact O.lt r hr)
  refine ⟨by rw [List.length_replicate] at h1; exact h1, fun w hw => ?_, fun x hx => ?_⟩
  · have := h2 w hw
    show (begMarks roots 0 _).getD _ 0 = _
    omega
  · show (begMarks roots 0 _).getD _ 0 = _
    rw [h3 x hx]
    by_cases q : x < web.length
    · rw [List.getD_eq_getElem?_getD, List.getElem?_replicate, if_pos q]
      rfl
    · exact getD_ge (by rw [List.length_replicate]; omega)
theorem replicate_getD (n x : Nat) : (List.replicate n 0).getD x 0 = 0 := by
  by_cases q : x < n
  · rw [List.getD_eq_getElem?_getD, List.getElem?_replicate, if_pos q]
    rfl
  · exact getD_ge (by rw [List.length_replicate]; omega)
theorem J.init {web : Web} {roots S : List Nat} (O : RootsOk web roots) (h : RootsOwn roots S) : J web roots.length S (begun web roots) (R0 roots) := by
  obtain ⟨h1, h2, h3⟩ := begun_at O
  have hR : ∀ w, w < roots.length → (R0 roots).getD w dR = ([roots.getD w 0], [(roots.getD w 0, 0)]) := fun w hw => getD_map _ hw
  refine ⟨h1, List.length_replicate, by show (roots.map _).length = _; rw [List.length_map], by show (roots.map _).length = _; rw [List.length_map], fun w hw => ?_, fun w hw => ?_, fun w hw => ?_, fun w hw x => ?_, fun x => ?_, fun w hw x hx => ?_, fun x _ => replicate_getD _ _⟩
  · rw [hR w hw]
    exact rfOk_init (O.lt _ (getD_mem hw))
  · rw [hR w hw]
    show (roots.map ([·])).getD w [] = _
    rw [getD_map (a := 0) ([·]) hw]
    rfl
  · rw [hR w hw]
    exact ⟨replicate_getD _ _, fun q hq => by cases hq⟩
  · rw [hR w hw]
    show x ∈ [roots.getD w 0] ↔ _
    rw [List.mem_singleton]
    constructor
    · rintro rfl
      exact h2 w hw
    · intro hx
      by_cases c : x ∈ roots
      · obtain ⟨v, hv, e⟩ := mem_getD c
        have := h2 v hv
        rw [e, hx] at this
        have : w = v := by omega
        rw [this, e]
      · rw [h3 x c] at hx
        omega
  · by_cases c : x ∈ roots
    · obtain ⟨v, hv, e⟩ := mem_getD c
      have := h2 v hv
      rw [e] at this
      omega
    · rw [h3 x c]
      omega
  · rw [hR w hw] at hx
    rw [List.mem_singleton.mp hx]
    exact h w hw
theorem d0_getD (roots : List Nat) (w : Nat) : (d0 roots).getD w 0 = 0 := by
  by_cases q : w < roots.length
  · exact getD_map (a := 0) (fun _ => 0) q
  · exact getD_ge (by show (roots.map _).length ≤ w; rw [List.length_map]; omega)
theorem DJ.init {web : Web} (W : WebOk web) {roots S : List Nat} (O : RootsOk web roots) (h : RootsOwn roots S) : DJ web roots S (rowsOf web roots S) (d0 roots) (R0 roots) := by
  have hR : ∀ w, w < roots.length → (R0 roots).getD w dR = ([roots.getD w 0], [(roots.getD w 0, 0)]) := fun w hw => getD_map _ hw
  refine ⟨by show (roots.map _).length = _; rw [List.length_map], by show (roots.map _).length = _; rw [List.length_map], fun w hw => ?_, fun w hw => ?_, fun w hw => ?_⟩
  · rw [hR w hw, d0_getD, List.drop_zero, rows_own h hw]
    exact rowFrom_runs W (O.lt _ (getD_mem hw))
  · rw [hR w hw, d0_getD]
    rfl
  · rw [d0_getD]
    exact Nat.zero_le _
theorem marks0 {web : Web} {roots S : List Nat} (h : RootsOwn roots S) : MkOk web roots (rowsOf web roots S) (d0 roots) (ownRoots S roots 0) := by
  have e : rootH S roots 0 = false := (rootH_iff S roots 0).mpr fun w hw => by rw [h w hw]; omega
  rw [ownRoots_all S roots 0 e]
  intro x
  constructor
  · intro hx
    obtain ⟨w, hw, e⟩ := mem_getD hx
    refine ⟨w, hw, ?_⟩
    rw [d0_getD]
    unfold kn_
    rw [e]
    exact List.mem_cons_self
  · rintro ⟨w, hw, hx⟩
    rw [d0_getD] at hx
    unfold kn_ at hx
    rw [List.take_zero] at hx
    have : x = roots.getD w 0 := by simpa [downs] using hx
    rw [this]
    exact getD_mem hw
/-- the events of a walker look at every tie of each of its nodes -/
theorem runs_ties {web : Web} {S : List Nat} {r : Nat} : ∀ {st : RF} {es : List Ev}, Runs web S r st es →
    (∀ q ∈ st.2, ∀ p, q.2 ≤ p → p < deg web q.1 → ∃ e ∈ es, (e.1 = .skip ∨ e.1 = .down) ∧ e.2 = (q.1, p)) ∧ (∀ x ∈ downs web es, ∀ p, p < deg web x → ∃ e ∈ es, (e.1 = .skip ∨ e.1 = .down) ∧ e.2 = (x, p))
  | _, _, .nil => ⟨nofun, nofun⟩
  | (kn, way), _, .cons (e := e) (st' := st') (es := es) h hr => by
    obtain ⟨ih1, ih2⟩ := runs_ties hr
    have up : ∀ {x p : Nat}, (∃ e' ∈ es, (e'.1 = .skip ∨ e'.1 = .down) ∧ e'.2 = (x, p)) → ∃ e' ∈ e :: es, (e'.1 = .skip ∨ e'.1 = .down) ∧ e'.2 = (x, p) := fun ⟨e', a, b⟩ => ⟨e', List.mem_cons_of_mem _ a, b⟩
    cases way with
    | nil => cases h
    | cons q0 ws =>
      obtain ⟨x0, p0⟩ := q0
      rcases rfStep_cases h with ⟨c, rfl, rfl⟩ | ⟨c, _, rfl, rfl⟩ | ⟨c, t, ht, _, rfl, rfl⟩
      · refine ⟨fun q hq p h1 h2 => ?_, fun x hx p hp => ?_⟩
        · rcases List.mem_cons.mp hq with rfl | hq
          · exfalso
            have h1' : p0 ≤ p := h1
            have h2' : p < deg web x0 := h2
            omega
          · exact up (ih1 q hq p h1 h2)
        · have hn : ¬ ((if ws = [] then Kd.stop else Kd.up) = Kd.down) := by split <;> nofun
          have : x ∈ downs web es := by
            unfold downs at hx
            rw [if_neg hn] at hx
            exact hx
          exact up (ih2 x this p hp)
      · refine ⟨fun q hq p h1 h2 => ?_, fun x hx p hp => ?_⟩
        · rcases List.mem_cons.mp hq with rfl | hq
          · have h1' : p0 ≤ p := h1
            by_cases q : p = p0
            · subst q
              exact ⟨_, List.mem_cons_self, .inl rfl, rfl⟩
            · exact up (ih1 (x0, p0 + 1) (by simp) p (by show p0 + 1 ≤ p; omega) h2)
          · exact up (ih1 q (by simp [hq]) p h1 h2)
        · have : x ∈ downs web es := by
            unfold downs at hx
            rw [if_neg (by nofun)] at hx
            exact hx
          exact up (ih2 x this p hp)
      · refine ⟨fun q hq p h1 h2 => ?_, fun x hx p hp => ?_⟩
        · rcases List.mem_cons.mp hq with rfl | hq
          · have h1' : p0 ≤ p := h1
            by_cases q : p = p0
            · subst q
              exact ⟨_, List.mem_cons_self, .inr rfl, rfl⟩
            · exact up (ih1 (x0, p0 + 1) (by simp) p (by show p0 + 1 ≤ p; omega) h2)
          · exact up (ih1 q (by simp [hq]) p h1 h2)
        · unfold downs at hx
          rw [if_pos rfl] at hx
          rcases List.mem_append.mp hx with hx | hx
          · have : x = t := by
              have hx' : x ∈ (tie web x0 p0).toList := hx
              rw [ht] at hx'
              simpa using hx'
            subst this
            exact up (ih1 (x, 0) (by simp) p (Nat.zero_le _) hp)
          · exact up (ih2 x hx p hp)
theorem over_ways {s : St} (h : over s = true) (w : Nat) : s.ways.getD w [] = [] := by
  unfold over at h
  by_cases q : w < s.ways.length
  · have := List.all_eq_true.mp h (s.ways[w]) (List.getElem_mem q)
    rw [List.getD_eq_getElem?_getD, List.getElem?_eq_getElem q]
    exact List.isEmpty_iff.mp this
  · exact getD_ge (by omega)
theorem ways_over {s : St} {k : Nat} (hk : s.ways.length = k) (h : ∀ w, w < k → s.ways.getD w [] = []) : over s = true := by
  unfold over
  rw [List.all_eq_true]
  intro l hl
  obtain ⟨w, hw, e⟩ := List.mem_iff_getElem.mp hl
  have := h w (by omega)
  rw [List.getD_eq_getElem?_getD, List.getElem?_eq_getElem hw] at this
  have e2 : l = [] := e.symm.trans this
  rw [e2]
  rfl
theorem Valid.len {web : Web} {roots S : List Nat} {rows : Rows} (hR : rows.length = roots.length) : ∀ {o d : List Nat}, d.length = roots.length → Valid web roots S rows d o → o.length + (d.sum) ≤ (after d o).sum
  | [], d, _, _ => by show 0 + d.sum ≤ d.sum; omega
  | w :: o, d, hl, ⟨c, m, hv⟩ => by
    have ih := Valid.len hR (by rw [bump_len]; exact hl) hv
    have hs : (bump d (w - 1)).sum = d.sum + 1 := by
      have : ∀ (l : List Nat) (i : Nat), i < l.length → (l.set i (l.getD i 0 + 1)).sum = l.sum + 1 := by
        intro l
        induction l with
        | nil => intro i h; exact absurd h (Nat.not_lt_zero _)
        | cons a l ih =>
          intro i h
          cases i with
          | zero =>
            show ((a + 1) :: l).sum = _
            simp
            omega
          | succ i =>
            show (a :: l.set i (l.getD i 0 + 1)).sum = _
            rw [List.sum_cons, ih i (by simpa using h), List.sum_cons]
            omega
      exact this d (w - 1) (by omega)
    rw [hs] at ih
    rw [List.length_cons]
    show o.length + 1 + d.sum ≤ (after (bump d (w - 1)) o).sum
    omega
theorem sum_le_fuel : ∀ (rows : Rows) (d : List Nat), d.length = rows.length → (∀ w, w < rows.length → d.getD w 0 ≤ (rw_ rows w).length) → d.sum ≤ fuelOf rows
  | [], [], _, _ => Nat.le_refl _
  | [], _ :: _, h, _ => by cases h
  | _ :: _, [], h, _ => by cases h
  | r :: rows, a :: d, hl, h => by
    have h0 := h 0 (by simp)
    have ih := sum_le_fuel rows d (by simpa using hl) fun w hw => h (w + 1) (by simpa using hw)
    have h0' : a ≤ r.length := h0
    unfold fuelOf at ih ⊢
    simp only [List.sum_cons, List.map_cons]
    omega
/-- T2: a walk that ends in the sharing: nothing hinders, the greedy order isn't greater -/
theorem comes_of {web : Web} (W : WebOk web) {roots S : List Nat} (O : RootsOk web roots) {o : List Nat} {sf : St} (h : runO web roots.length (begun web roots) o = some sf) (hov : over sf = true) (hm : sf.marks = S) :
    hind web roots S = false ∧ Le (order web roots S) o := by
  obtain ⟨b1, b2, b3⟩ := begun_at O
  have own : RootsOwn roots S := fun w hw => by
    have a := b2 w hw
    have := runO_marks h (roots.getD w 0) (by rw [a]; omega)
    rw [← hm, this, a]
  have hdo : DoneOk web roots S (rowsOf web roots S) (d0 roots) := fun w hw e he => by
    rw [d0_getD, List.take_zero] at he
    cases he
  obtain ⟨hv, hd, Rf, jf, Df⟩ := simA W own (J.init O own) (DJ.init W O own) hdo h (fun x _ => by rw [hm])
  have hnil : ∀ w, w < roots.length → (Rf.getD w dR).2 = [] := fun w hw => by
    have := jf.way w hw
    rw [over_ways hov w] at this
    exact List.map_eq_nil_iff.mp this.symm
  have hfull : Full roots (rowsOf web roots S) (after (d0 roots) o) := fun w hw => by
    have hr := Df.runs w hw
    have hle := Df.le w hw
    have hn := hnil w hw
    generalize Rf.getD w dR = rf at hr hn
    obtain ⟨kn, way⟩ := rf
    obtain rfl : way = [] := hn
    generalize hes : (rw_ (rowsOf web roots S) w).drop _ = es at hr
    cases hr with
    | nil =>
      have := List.drop_eq_nil_iff.mp hes
      omega
    | cons h1 _ => cases h1
  have hlenR : (rowsOf web roots S).length = roots.length := rowsAux_len web S roots 0
  have hfuel : o.length ≤ fuelOf (rowsOf web roots S) := by
    have l0 : (d0 roots).length = roots.length := by show (roots.map _).length = _; rw [List.length_map]
    have a := hv.len hlenR l0
    have b := sum_le_fuel (rowsOf web roots S) (after (d0 roots) o) (by rw [Df.len, hlenR]) (fun w hw => Df.le w (by rw [← hlenR]; exact hw))
    omega
  have hg := goRun_least (fuelOf (rowsOf web roots S)) (by show (d0 roots).length = _; show (roots.map _).length = _; rw [List.length_map]) (marks0 own) hv hfull hfuel
  refine ⟨?_, hg.2⟩
  have hkn : ∀ w, w < roots.length → (Rf.getD w dR).1 = roots.getD w 0 :: downs web (rw_ (rowsOf web roots S) w) := fun w hw => by
    rw [Df.kn w hw]
    unfold kn_
    rw [hfull w hw, List.take_length]
  have nodeof : ∀ x, S.getD x 0 ≠ 0 → ∃ w, w < roots.length ∧ x ∈ roots.getD w 0 :: downs web (rw_ (rowsOf web roots S) w) := fun x hx => by
    have hle := jf.mle x
    rw [hm] at hle
    have hw : S.getD x 0 - 1 < roots.length := by omega
    refine ⟨S.getD x 0 - 1, hw, ?_⟩
    rw [← hkn _ hw, jf.kn _ hw, hm]
    omega
  unfold hind
  have e1 : rootH S roots 0 = false := (rootH_iff S roots 0).mpr fun w hw => by rw [own w hw]; omega
  have e2 : tieH S web 0 = false := tieH_in.mpr fun x p t ht hx => by
    obtain ⟨w, hw, hxm⟩ := nodeof x hx
    have hp := tie_deg ht
    have hrr : Runs web S (roots.getD w 0) ([roots.getD w 0], [(roots.getD w 0, 0)]) (rw_ (rowsOf web roots S) w) := by
      rw [rows_own own hw]
      exact rowFrom_runs W (O.lt _ (getD_mem hw))
    have hev : ∃ e ∈ rw_ (rowsOf web roots S) w, (e.1 = .skip ∨ e.1 = .down) ∧ e.2 = (x, p) := by
      rcases List.mem_cons.mp hxm with rfl | hxm
      · exact (runs_ties hrr).1 (roots.getD w 0, 0) (by simp) p (Nat.zero_le _) hp
      · exact (runs_ties hrr).2 x hxm p hp
    obtain ⟨e, he, hk, e2⟩ := hev
    have := hd w hw e (by rw [hfull w hw, List.take_length]; exact he) t hk (by rw [e2]; exact ht)
    exact this
  have e3 : farH (knownAll web roots S) S 0 = false := (farH_iff _ S 0).mpr fun x hx hz => by
    rw [Nat.zero_add]
    obtain ⟨w, hw, hxm⟩ := nodeof x hz
    unfold knownAll
    rcases List.mem_cons.mp hxm with rfl | hxm
    · exact List.mem_append_left _ (getD_mem hw)
    · refine List.mem_append_right _ (List.mem_flatMap.mpr ⟨rw_ (rowsOf web roots S) w, ?_, hxm⟩)
      unfold rw_
      rw [List.getD_eq_getElem?_getD, List.getElem?_eq_getElem (by rw [hlenR]; exact hw)]
      exact List.getElem_mem _
  have e4 : leftB (rowsOf web roots S) (goAll web roots S).2.1 roots.length = false := leftB_iff.mpr fun w hw => Nat.le_of_eq (hg.1 w hw).symm
  rw [e1, e2, e3, e4]
  rfl
/-- T1: nothing hinders: the greedy order ends in the sharing -/
theorem order_comes {web : Web} (W : WebOk web) {roots S : List Nat} (O : RootsOk web roots) (SO : ShOk web roots S) (h : hind web roots S = false) :
    ∃ sf, runO web roots.length (begun web roots) (order web roots S) = some sf ∧ over sf = true ∧ sf.marks = S := by
  unfold hind at h
  simp only [Bool.or_eq_false_iff] at h
  obtain ⟨e1, e2, e3, e4⟩ := h
  have own : RootsOwn roots S := fun w hw => by
    have := (rootH_iff S roots 0).mp e1 w hw
    omega
  have hlenR : (rowsOf web roots S).length = roots.length := rowsAux_len web S roots 0
  have hv := goRun_valid (S := S) (fuelOf (rowsOf web roots S)) (show (d0 roots).length = roots.length by show (roots.map _).length = _; rw [List.length_map]) (marks0 (web := web) own)
  obtain ⟨sf, Rf, hr, jf, Df⟩ := simB W own (tieH_in.mp e2) (J.init O own) (DJ.init W O own) hv.1
  have hleft := leftB_iff.mp e4
  have hfull : ∀ w, w < roots.length → (after (d0 roots) (order web roots S)).getD w 0 = (rw_ (rowsOf web roots S) w).length := fun w hw => by
    have a := hleft w hw
    have b := Df.le w hw
    have c := hv.2.1
    have a' : (rw_ (rowsOf web roots S) w).length ≤ (after (d0 roots) (order web roots S)).getD w 0 := by
      have e : (goAll web roots S).2.1 = after (d0 roots) (order web roots S) := c
      rw [← e]
      exact a
    exact Nat.le_antisymm b a'
  have hnil : ∀ w, w < roots.length → (Rf.getD w dR).2 = [] := fun w hw => by
    have hrn := Df.runs w hw
    have e : (after (d0 roots) (order web roots S)).getD w 0 = _ := hfull w hw
    have hrn' : Runs web S (roots.getD w 0) (Rf.getD w dR) ((rw_ (rowsOf web roots S) w).drop ((after (d0 roots) (order web roots S)).getD w 0)) := hrn
    rw [e, List.drop_length] at hrn'
    generalize Rf.getD w dR = rf at hrn'
    obtain ⟨kn, way⟩ := rf
    cases hrn'
    rfl
  have hkn : ∀ w, w < roots.length → (Rf.getD w dR).1 = roots.getD w 0 :: downs web (rw_ (rowsOf web roots S) w) := fun w hw => by
    have := Df.kn w hw
    rw [this]
    unfold kn_
    have e : (after (d0 roots) (order web roots S)).getD w 0 = _ := hfull w hw
    have e' : (after (d0 roots) (goRun web roots.length S (rowsOf web roots S) (fuelOf (rowsOf web roots S)) (d0 roots, ownRoots S roots 0)).1).getD w 0 = (rw_ (rowsOf web roots S) w).length := e
    rw [e', List.take_length]
  refine ⟨sf, hr, ways_over jf.lenW fun w hw => by rw [jf.way w hw, hnil w hw]; rfl, ?_⟩
  -- the marks are the sharing
  have hlen : sf.marks.length = S.length := by rw [jf.lenM, SO.len]
  refine List.ext_getElem hlen fun x h1 h2 => ?_
  have g1 : sf.marks.getD x 0 = sf.marks[x] := by rw [List.getD_eq_getElem?_getD, List.getElem?_eq_getElem h1]; rfl
  have g2 : S.getD x 0 = S[x] := by rw [List.getD_eq_getElem?_getD, List.getElem?_eq_getElem h2]; rfl
  rw [← g1, ← g2]
  by_cases z : sf.marks.getD x 0 = 0
  · rw [z]
    by_cases q : S.getD x 0 = 0
    · exact q.symm
    · exfalso
      have hk := (farH_iff _ S 0).mp e3 x h2 q
      rw [Nat.zero_add] at hk
      unfold knownAll at hk
      have hne : ∀ w, w < roots.length → x ∈ roots.getD w 0 :: downs web (rw_ (rowsOf web roots S) w) → False := fun w hw hx => by
        rw [← hkn w hw] at hx
        have := (jf.kn w hw x).mp hx
        omega
      rcases List.mem_append.mp hk with hk | hk
      · obtain ⟨w, hw, e⟩ := mem_getD hk
        exact hne w hw (by rw [e]; exact List.mem_cons_self)
      · obtain ⟨row, hrow, hx⟩ := List.mem_flatMap.mp hk
        obtain ⟨w, hw, e⟩ := List.mem_iff_getElem.mp hrow
        refine hne w (by rw [← hlenR]; exact hw) (List.mem_cons_of_mem _ ?_)
        unfold rw_
        rw [List.getD_eq_getElem?_getD, List.getElem?_eq_getElem hw]
        show x ∈ downs web (rowsOf web roots S)[w]
        rw [e]
        exact hx
  · have hle := jf.mle x
    have hw : sf.marks.getD x 0 - 1 < roots.length := by omega
    have hx := (jf.kn _ hw x).mpr (by omega)
    have := jf.knS _ hw x hx
    omega
end TB

/-! The law's own going through all states, level by level. -/
namespace TB
section
variable {κ β : Type} [DecidableEq κ]
/-- a dict's look-up and store, over pairs in their order -/
def lookA : List (κ × β) → κ → Option β
  | [], _ => none
  | e :: l, k => if e.1 = k then some e.2 else lookA l k
def setA : List (κ × β) → κ → β → List (κ × β)
  | [], _, _ => []
  | e :: l, k, v => (if e.1 = k then (e.1, v) else e) :: setA l k v
def putA (l : List (κ × β)) (k : κ) (v : β) : List (κ × β) := if (lookA l k).isSome = true then setA l k v else l ++ [(k, v)]
theorem lookA_cons (e : κ × β) (l : List (κ × β)) (k : κ) : lookA (e :: l) k = if e.1 = k then some e.2 else lookA l k := rfl
theorem lookA_none {l : List (κ × β)} {k : κ} : lookA l k = none ↔ k ∉ l.map (·.1) := by
  induction l with
  | nil => simp [lookA]
  | cons e l ih =>
    unfold lookA
    by_cases c : e.1 = k
    · rw [if_pos c]
      simp [c]
    · rw [if_neg c, ih]
      simp
      intro h
      exact fun z => c z.symm
theorem setA_keys (l : List (κ × β)) (k : κ) (v : β) : (setA l k v).map (·.1) = l.map (·.1) := by
  induction l with
  | nil => rfl
  | cons e l ih =>
    unfold setA
    rw [List.map_cons, List.map_cons, ih]
    split <;> rfl
theorem lookA_set {l : List (κ × β)} {k k' : κ} {v : β} : lookA (setA l k v) k' = if k = k' then (lookA l k').map fun _ => v else lookA l k' := by
  induction l with
  | nil => simp [setA, lookA]
  | cons e l ih =>
    unfold setA lookA
    by_cases c : e.1 = k
    · rw [if_pos c]
      by_cases d : e.1 = k'
      · have : k = k' := c.symm.trans d
        simp [d, this]
      · have : ¬ k = k' := fun z => d (c.trans z)
        simp only [if_neg d, ih, if_neg this]
    · rw [if_neg c]
      by_cases d : e.1 = k'
      · have : ¬ k = k' := fun z => c (d.trans z.symm)
        simp only [if_pos d, if_neg this]
      · simp only [if_neg d, ih]
theorem lookA_append {l l' : List (κ × β)} {k : κ} : lookA (l ++ l') k = (lookA l k).or (lookA l' k) := by
  induction l with
  | nil => simp [lookA]
  | cons e l ih =>
    show lookA (e :: (l ++ l')) k = _
    rw [lookA_cons, lookA_cons]
    by_cases c : e.1 = k
    · rw [if_pos c, if_pos c]
      rfl
    · rw [if_neg c, if_neg c, ih]
theorem lookA_put {l : List (κ × β)} {k k' : κ} {v : β} : lookA (putA l k v) k' = if k = k' then some v else lookA l k' := by
  unfold putA
  by_cases c : (lookA l k).isSome = true
  · rw [if_pos c, lookA_set]
    by_cases d : k = k'
    · subst d
      rw [if_pos rfl, if_pos rfl]
      cases e : lookA l k with
      | none => rw [e] at c; cases c
      | some _ => rfl
    · rw [if_neg d, if_neg d]
  · rw [if_neg c, lookA_append]
    have c' : lookA l k = none := by
      cases e : lookA l k with
      | none => rfl
      | some _ => rw [e] at c; exact absurd rfl c
    by_cases d : k = k'
    · subst d
      rw [if_pos rfl, c']
      simp [lookA]
    · rw [if_neg d]
      simp [lookA, d]
theorem putA_nodup {l : List (κ × β)} {k : κ} {v : β} (h : (l.map (·.1)).Nodup) : ((putA l k v).map (·.1)).Nodup := by
  unfold putA
  by_cases c : (lookA l k).isSome = true
  · rw [if_pos c, setA_keys]
    exact h
  · rw [if_neg c]
    have c' : lookA l k = none := by
      cases e : lookA l k with
      | none => rfl
      | some _ => rw [e] at c; exact absurd rfl c
    have := lookA_none.mp c'
    rw [List.map_append, List.nodup_append]
    refine ⟨h, by simp, ?_⟩
    intro a ha b hb
    have : b = k := by simpa using hb
    subst this
    rintro rfl
    contradiction
theorem putA_len (l : List (κ × β)) (k : κ) (v : β) : (putA l k v).length ≤ l.length + 1 := by
  unfold putA
  split
  · have : (setA l k v).length = l.length := by
      have := congrArg List.length (setA_keys l k v)
      simpa using this
    omega
  · simp
theorem mem_look {l : List (κ × β)} (h : (l.map (·.1)).Nodup) {k : κ} {v : β} : (k, v) ∈ l ↔ lookA l k = some v := by
  induction l with
  | nil => simp [lookA]
  | cons e l ih =>
    have hn := List.nodup_cons.mp (show (e.1 :: l.map (·.1)).Nodup from h)
    unfold lookA
    by_cases c : e.1 = k
    · rw [if_pos c, List.mem_cons]
      constructor
      · rintro (q | q)
        · rw [← q]
        · exfalso
          have : k ∈ l.map (·.1) := List.mem_map.mpr ⟨(k, v), q, rfl⟩
          rw [← c] at this
          exact hn.1 this
      · intro q
        left
        cases q
        rw [← c]
    · rw [if_neg c, List.mem_cons, ih hn.2]
      constructor
      · rintro (q | q)
        · rw [← q] at c
          exact absurd rfl c
        · exact q
      · exact .inr
end
abbrev Level := List (St × List Nat)
abbrev Found := List (List Nat × List Nat)
/-- one walker's step from an entry -/
def visit (web : Web) (fresh : Level) (e : St × List Nat) (w : Nat) : Level :=
  match step web e.1 w with
  | none => fresh
  | some s' => match lookA fresh s' with
    | none => putA fresh s' (e.2 ++ [w])
    | some o => if lex (e.2 ++ [w]) o = true then putA fresh s' (e.2 ++ [w]) else fresh
/-- all walkers' steps, n of them, from number i + 1 on -/
def visits (web : Web) (e : St × List Nat) : Nat → Nat → Level → Level
  | 0, _, fresh => fresh
  | n + 1, i, fresh => visits web e n (i + 1) (visit web fresh e (i + 1))
def nextLevel (web : Web) (k : Nat) : Level → Level → Level
  | [], fresh => fresh
  | e :: lvl, fresh => nextLevel web k lvl (visits web e k 0 fresh)
def visitF (found : Found) (e : St × List Nat) : Found :=
  if over e.1 = true then match lookA found e.1.marks with
    | none => putA found e.1.marks e.2
    | some o => if lex e.2 o = true then putA found e.1.marks e.2 else found
  else found
def nextFound : Level → Found → Found
  | [], found => found
  | e :: lvl, found => nextFound lvl (visitF found e)
def levelAt (web : Web) (roots : List Nat) : Nat → Level
  | 0 => [(begun web roots, [])]
  | n + 1 => nextLevel web roots.length (levelAt web roots n) []
def foundAt (web : Web) (roots : List Nat) : Nat → Found
  | 0 => []
  | n + 1 => nextFound (levelAt web roots n) (foundAt web roots n)
section
variable {web : Web} {k : Nat} {s0 : St}
/-- what is in a level: runs of its length -/
structure LvlOk (web : Web) (k : Nat) (s0 : St) (n : Nat) (fresh : Level) : Prop where
  nod : (fresh.map (·.1)).Nodup
  run : ∀ s o, lookA fresh s = some o → runO web k s0 o = some s ∧ o.length = n
theorem visit_ok {n : Nat} {fresh : Level} {e : St × List Nat} {w : Nat} (F : LvlOk web k s0 (n + 1) fresh) (he : runO web k s0 e.2 = some e.1 ∧ e.2.length = n) (hw : 1 ≤ w ∧ w ≤ k) :
    LvlOk web k s0 (n + 1) (visit web fresh e w) ∧ (∀ s o, lookA fresh s = some o → ∃ o', lookA (visit web fresh e w) s = some o' ∧ Le o' o) ∧
    (∀ s', step web e.1 w = some s' → ∃ o', lookA (visit web fresh e w) s' = some o' ∧ Le o' (e.2 ++ [w])) ∧ (visit web fresh e w).length ≤ fresh.length + 1 := by
  unfold visit
  cases hs : step web e.1 w with
  | none => exact ⟨F, fun s o h => ⟨o, h, Le.refl _⟩, nofun, Nat.le_succ _⟩
  | some s' =>
    have hrun : runO web k s0 (e.2 ++ [w]) = some s' := by
      rw [runO_snoc hw, he.1]
      exact hs
    have hlen : (e.2 ++ [w]).length = n + 1 := by simp [he.2]
    have put : (∀ o, lookA fresh s' = some o → Le (e.2 ++ [w]) o) → LvlOk web k s0 (n + 1) (putA fresh s' (e.2 ++ [w])) ∧ (∀ s o, lookA fresh s = some o → ∃ o', lookA (putA fresh s' (e.2 ++ [w])) s = some o' ∧ Le o' o) ∧
        (∀ s2, some s' = some s2 → ∃ o', lookA (putA fresh s' (e.2 ++ [w])) s2 = some o' ∧ Le o' (e.2 ++ [w])) ∧ (putA fresh s' (e.2 ++ [w])).length ≤ fresh.length + 1 := by
      intro hle
      refine ⟨⟨putA_nodup F.nod, fun s o h => ?_⟩, fun s o h => ?_, fun s2 h => ?_, putA_len _ _ _⟩
      · rw [lookA_put] at h
        by_cases c : s' = s
        · rw [if_pos c] at h
          cases h
          rw [← c]
          exact ⟨hrun, hlen⟩
        · rw [if_neg c] at h
          exact F.run s o h
      · rw [lookA_put]
        by_cases c : s' = s
        · rw [if_pos c]
          exact ⟨_, rfl, hle o (c ▸ h)⟩
        · rw [if_neg c]
          exact ⟨o, h, Le.refl _⟩
      · cases h
        rw [lookA_put, if_pos rfl]
        exact ⟨_, rfl, Le.refl _⟩
    cases hl : lookA fresh s' with
    | none =>
      simp only [hl]
      exact put fun o h => by rw [hl] at h; cases h
    | some o =>
      simp only [hl]
      by_cases c : lex (e.2 ++ [w]) o = true
      · rw [if_pos c]
        exact put fun o' h => by
          rw [hl] at h
          cases h
          exact Le.of_lt c
      · rw [if_neg c]
        refine ⟨F, fun s o h => ⟨o, h, Le.refl _⟩, fun s2 h => ?_, Nat.le_succ _⟩
        cases h
        exact ⟨o, hl, Le.of_not c⟩
theorem visits_ok {n : Nat} {e : St × List Nat} (he : runO web k s0 e.2 = some e.1 ∧ e.2.length = n) : ∀ (m i : Nat) {fresh : Level}, i + m ≤ k → LvlOk web k s0 (n + 1) fresh →
    LvlOk web k s0 (n + 1) (visits web e m i fresh) ∧ (∀ s o, lookA fresh s = some o → ∃ o', lookA (visits web e m i fresh) s = some o' ∧ Le o' o) ∧
    (∀ w s', i + 1 ≤ w → w ≤ i + m → step web e.1 w = some s' → ∃ o', lookA (visits web e m i fresh) s' = some o' ∧ Le o' (e.2 ++ [w])) ∧ (visits web e m i fresh).length ≤ fresh.length + m
  | 0, i, fresh, _, F => ⟨F, fun s o h => ⟨o, h, Le.refl _⟩, fun w s' a b _ => by omega, Nat.le_refl _⟩
  | m + 1, i, fresh, hi, F => by
    obtain ⟨F1, a1, b1, c1⟩ := visit_ok F he (w := i + 1) ⟨by omega, by omega⟩
    obtain ⟨F2, a2, b2, c2⟩ := visits_ok he m (i + 1) (by omega) F1
    refine ⟨F2, fun s o h => ?_, fun w s' h1 h2 hs => ?_, ?_⟩
    · obtain ⟨o1, h1, l1⟩ := a1 s o h
      obtain ⟨o2, h2, l2⟩ := a2 s o1 h1
      exact ⟨o2, h2, l2.trans l1⟩
    · by_cases c : w = i + 1
      · subst c
        obtain ⟨o1, h1, l1⟩ := b1 s' hs
        obtain ⟨o2, h2, l2⟩ := a2 s' o1 h1
        exact ⟨o2, h2, l2.trans l1⟩
      · exact b2 w s' (by omega) (by omega) hs
    · show (visits web e m (i + 1) (visit web fresh e (i + 1))).length ≤ _
      omega
theorem nextLevel_ok {n : Nat} : ∀ {lvl fresh : Level}, (∀ e ∈ lvl, runO web k s0 e.2 = some e.1 ∧ e.2.length = n) → LvlOk web k s0 (n + 1) fresh →
    LvlOk web k s0 (n + 1) (nextLevel web k lvl fresh) ∧ (∀ s o, lookA fresh s = some o → ∃ o', lookA (nextLevel web k lvl fresh) s = some o' ∧ Le o' o) ∧
    (∀ e ∈ lvl, ∀ w s', 1 ≤ w → w ≤ k → step web e.1 w = some s' → ∃ o', lookA (nextLevel web k lvl fresh) s' = some o' ∧ Le o' (e.2 ++ [w])) ∧ (nextLevel web k lvl fresh).length ≤ fresh.length + k * lvl.length
  | [], fresh, _, F => ⟨F, fun s o h => ⟨o, h, Le.refl _⟩, nofun, by simp [nextLevel]⟩
  | e :: lvl, fresh, h, F => by
    obtain ⟨F1, a1, b1, c1⟩ := visits_ok (h e (by simp)) k 0 (Nat.le_of_eq (Nat.zero_add k)) F
    obtain ⟨F2, a2, b2, c2⟩ := nextLevel_ok (lvl := lvl) (fun e' he' => h e' (by simp [he'])) F1
    refine ⟨F2, fun s o h => ?_, fun e' he' w s' h1 h2 hs => ?_, ?_⟩
    · obtain ⟨o1, h1, l1⟩ := a1 s o h
      obtain ⟨o2, h2, l2⟩ := a2 s o1 h1
      exact ⟨o2, h2, l2.trans l1⟩
    · rcases List.mem_cons.mp he' with rfl | he'
      · obtain ⟨o1, h1, l1⟩ := b1 w s' (by omega) (by omega) hs
        obtain ⟨o2, h2, l2⟩ := a2 s' o1 h1
        exact ⟨o2, h2, l2.trans l1⟩
      · exact b2 e' he' w s' h1 h2 hs
    · have e1 : k * (e :: lvl).length = k * lvl.length + k := by rw [List.length_cons, Nat.mul_succ]
      show (nextLevel web k lvl (visits web e k 0 fresh)).length ≤ _
      omega
/-- a level whole -/
structure LvlAll (web : Web) (k : Nat) (s0 : St) (n : Nat) (lvl : Level) : Prop extends LvlOk web k s0 n lvl where
  least : ∀ o s, runO web k s0 o = some s → o.length = n → ∃ o', lookA lvl s = some o' ∧ Le o' o
theorem levelAt_all (web : Web) (roots : List Nat) : ∀ n, LvlAll web roots.length (begun web roots) n (levelAt web roots n) ∧ (levelAt web roots n).length ≤ roots.length ^ n
  | 0 => by
    refine ⟨⟨⟨by simp [levelAt], fun s o h => ?_⟩, fun o s h hl => ?_⟩, by simp [levelAt]⟩
    · unfold levelAt lookA at h
      by_cases c : begun web roots = s
      · rw [if_pos c] at h
        cases h
        exact ⟨congrArg some c, rfl⟩
      · rw [if_neg c] at h
        cases h
    · have : o = [] := List.length_eq_zero_iff.mp hl
      subst this
      cases h
      exact ⟨[], by unfold levelAt lookA; rw [if_pos rfl], Le.refl _⟩
  | n + 1 => by
    obtain ⟨ih, hlen⟩ := levelAt_all web roots n
    obtain ⟨F, _, b, c⟩ := nextLevel_ok (n := n) (lvl := levelAt web roots n) (fresh := []) (fun e he => ih.run e.1 e.2 ((mem_look ih.nod).mp he)) ⟨by simp, fun s o h => by cases h⟩
    refine ⟨⟨F, fun o s h hl => ?_⟩, ?_⟩
    · have hne : o ≠ [] := by
        rintro rfl
        cases hl
      have eo : o = o.dropLast ++ [o.getLast hne] := (List.dropLast_concat_getLast hne).symm
      generalize o.dropLast = p at eo
      generalize o.getLast hne = w at eo
      subst eo
      have hw := runO_init h
      rw [runO_snoc hw] at h
      cases hp : runO web roots.length (begun web roots) p with
      | none =>
        rw [hp] at h
        cases h
      | some sp =>
        rw [hp] at h
        have hpl : p.length = n := by simpa using hl
        obtain ⟨p', hp', le1⟩ := ih.least p sp hp hpl
        obtain ⟨o', ho', le2⟩ := b (sp, p') ((mem_look ih.nod).mpr hp') w s hw.1 hw.2 h
        exact ⟨o', ho', le2.trans (le1.snoc w (by rw [(ih.run sp p' hp').2, hpl]))⟩
    · show (nextLevel web roots.length (levelAt web roots n) []).length ≤ _
      have h1 : roots.length * (levelAt web roots n).length ≤ roots.length * roots.length ^ n := Nat.mul_le_mul_left _ hlen
      have h2 : roots.length ^ (n + 1) = roots.length * roots.length ^ n := by rw [Nat.pow_succ, Nat.mul_comm]
      have h3 : ([] : Level).length = 0 := rfl
      omega
/-- what has been found: ends -/
structure FndOk (web : Web) (k : Nat) (s0 : St) (found : Found) : Prop where
  nod : (found.map (·.1)).Nodup
  run : ∀ m o, lookA found m = some o → ∃ s, runO web k s0 o = some s ∧ over s = true ∧ s.marks = m
theorem visitF_ok {found : Found} {e : St × List Nat} (F : FndOk web k s0 found) (he : runO web k s0 e.2 = some e.1) :
    FndOk web k s0 (visitF found e) ∧ (∀ m o, lookA found m = some o → ∃ o', lookA (visitF found e) m = some o' ∧ Le o' o) ∧ (over e.1 = true → ∃ o', lookA (visitF found e) e.1.marks = some o' ∧ Le o' e.2) ∧
    (visitF found e).length ≤ found.length + 1 := by
  unfold visitF
  by_cases hov : over e.1 = true
  · rw [if_pos hov]
    have put : (∀ o, lookA found e.1.marks = some o → Le e.2 o) → FndOk web k s0 (putA found e.1.marks e.2) ∧ (∀ m o, lookA found m = some o → ∃ o', lookA (putA found e.1.marks e.2) m = some o' ∧ Le o' o) ∧
        (over e.1 = true → ∃ o', lookA (putA found e.1.marks e.2) e.1.marks = some o' ∧ Le o' e.2) ∧ (putA found e.1.marks e.2).length ≤ found.length + 1 := by
      intro hle
      refine ⟨⟨putA_nodup F.nod, fun m o h => ?_⟩, fun m o h => ?_, fun _ => ?_, putA_len _ _ _⟩
      · rw [lookA_put] at h
        by_cases c : e.1.marks = m
        · rw [if_pos c] at h
          cases h
          exact ⟨e.1, he, hov, c⟩
        · rw [if_neg c] at h
          exact F.run m o h
      · rw [lookA_put]
        by_cases c : e.1.marks = m
        · rw [if_pos c]
          exact ⟨_, rfl, hle o (c ▸ h)⟩
        · rw [if_neg c]
          exact ⟨o, h, Le.refl _⟩
      · rw [lookA_put, if_pos rfl]
        exact ⟨_, rfl, Le.refl _⟩
    cases hl : lookA found e.1.marks with
    | none =>
      simp only [hl]
      exact put fun o h => by rw [hl] at h; cases h
    | some o =>
      simp only [hl]
      by_cases c : lex e.2 o = true
      · rw [if_pos c]
        exact put fun o' h => by
          rw [hl] at h
          cases h
          exact Le.of_lt c
      · rw [if_neg c]
        exact ⟨F, fun m o h => ⟨o, h, Le.refl _⟩, fun _ => ⟨o, hl, Le.of_not c⟩, Nat.le_succ _⟩
  · rw [if_neg hov]
    exact ⟨F, fun m o h => ⟨o, h, Le.refl _⟩, fun h => absurd h hov, Nat.le_succ _⟩
theorem nextFound_ok : ∀ {lvl : Level} {found : Found}, (∀ e ∈ lvl, runO web k s0 e.2 = some e.1) → FndOk web k s0 found →
    FndOk web k s0 (nextFound lvl found) ∧ (∀ m o, lookA found m = some o → ∃ o', lookA (nextFound lvl found) m = some o' ∧ Le o' o) ∧
    (∀ e ∈ lvl, over e.1 = true → ∃ o', lookA (nextFound lvl found) e.1.marks = some o' ∧ Le o' e.2) ∧ (nextFound lvl found).length ≤ found.length + lvl.length
  | [], found, _, F => ⟨F, fun m o h => ⟨o, h, Le.refl _⟩, nofun, Nat.le_refl _⟩
  | e :: lvl, found, h, F => by
    obtain ⟨F1, a1, b1, c1⟩ := visitF_ok F (h e (by simp))
    obtain ⟨F2, a2, b2, c2⟩ := nextFound_ok (lvl := lvl) (fun e' he' => h e' (by simp [he'])) F1
    refine ⟨F2, fun s o h => ?_, fun e' he' hov => ?_, ?_⟩
    · obtain ⟨o1, h1, l1⟩ := a1 s o h
      obtain ⟨o2, h2, l2⟩ := a2 s o1 h1
      exact ⟨o2, h2, l2.trans l1⟩
    · rcases List.mem_cons.mp he' with rfl | he'
      · obtain ⟨o1, h1, l1⟩ := b1 hov
        obtain ⟨o2, h2, l2⟩ := a2 _ o1 h1
        exact ⟨o2, h2, l2.trans l1⟩
      · exact b2 e' he' hov
    · show (nextFound lvl (visitF found e)).length ≤ _
      rw [List.length_cons]
      omega
theorem foundAt_all (web : Web) (roots : List Nat) : ∀ n, FndOk web roots.length (begun web roots) (foundAt web roots n) ∧
    ∀ o s, runO web roots.length (begun web roots) o = some s → over s = true → o.length < n → ∃ o', lookA (foundAt web roots n) s.marks = some o' ∧ Le o' o
  | 0 => ⟨⟨by simp [foundAt], fun m o h => by cases h⟩, fun o s _ _ h => absurd h (Nat.not_lt_zero _)⟩
  | n + 1 => by
    obtain ⟨F, ih⟩ := foundAt_all web roots n
    have L := (levelAt_all web roots n).1
    obtain ⟨F1, a, b, _⟩ := nextFound_ok (lvl := levelAt web roots n) (fun e he => (L.run e.1 e.2 ((mem_look L.nod).mp he)).1) F
    refine ⟨F1, fun o s h hov hl => ?_⟩
    by_cases c : o.length < n
    · obtain ⟨o1, h1, l1⟩ := ih o s h hov c
      obtain ⟨o2, h2, l2⟩ := a _ o1 h1
      exact ⟨o2, h2, l2.trans l1⟩
    · obtain ⟨o1, h1, l1⟩ := L.least o s h (by omega)
      obtain ⟨o2, h2, l2⟩ := b (s, o1) ((mem_look L.nod).mpr h1) hov
      exact ⟨o2, h2, l2.trans l1⟩
/-- a run has runs of every lesser length -/
theorem runO_take : ∀ {o : List Nat} {s sf : St}, runO web k s o = some sf → ∀ n, n ≤ o.length → ∃ s', runO web k s (o.take n) = some s'
  | o, s, sf, h, 0, _ => ⟨s, by rw [List.take_zero]; rfl⟩
  | w :: o, s, sf, h, n + 1, hn => by
    obtain ⟨c, s1, h1, h2⟩ := runO_cons h
    obtain ⟨s', h'⟩ := runO_take h2 n (by simpa using hn)
    refine ⟨s', ?_⟩
    rw [List.take_succ_cons]
    unfold runO
    rw [if_pos c, h1]
    exact h'
end
/-- THE LAW: where a level is empty, what has been found is what the program tells -/
theorem found_is {web : Web} (W : WebOk web) {roots S : List Nat} (O : RootsOk web roots) (SO : ShOk web roots S) {n : Nat} (h : levelAt web roots n = []) :
    lookA (foundAt web roots n) S = if hind web roots S = true then none else some (order web roots S) := by
  have L := (levelAt_all web roots n).1
  obtain ⟨F, min⟩ := foundAt_all web roots n
  have short : ∀ o s, runO web roots.length (begun web roots) o = some s → o.length < n := fun o s hr => by
    rcases Nat.lt_or_ge o.length n with q | q
    · exact q
    · exfalso
      obtain ⟨s', h'⟩ := runO_take hr n q
      obtain ⟨o', ho', _⟩ := L.least (o.take n) s' h' (by rw [List.length_take]; omega)
      rw [h] at ho'
      cases ho'
  by_cases c : hind web roots S = true
  · rw [if_pos c]
    cases e : lookA (foundAt web roots n) S with
    | none => rfl
    | some o =>
      obtain ⟨s, h1, h2, h3⟩ := F.run S o e
      have := (comes_of W O h1 h2 h3).1
      rw [c] at this
      cases this
  · rw [if_neg c]
    have c' : hind web roots S = false := by
      cases e : hind web roots S with
      | true => exact absurd e c
      | false => rfl
    obtain ⟨sf, h1, h2, h3⟩ := order_comes W O SO c'
    obtain ⟨o', ho', le1⟩ := min _ sf h1 h2 (short _ _ h1)
    rw [h3] at ho'
    obtain ⟨s, g1, g2, g3⟩ := F.run S o' ho'
    have le2 := (comes_of W O g1 g2 g3).2
    rw [ho', Le.antisymm le1 le2]

/-! ### how many steps there are -/
def clsSum (S : List Nat) (c : Nat) : Web → Nat → Nat
  | [], _ => 0
  | row :: web, i => (if S.getD i 0 = c then row.length + 1 else 0) + clsSum S c web (i + 1)
theorem leftOf_cls {S kn : List Nat} {c : Nat} (h : ∀ x ∈ kn, S.getD x 0 = c) : ∀ (web : Web) (i : Nat), (web.map fun row => row.length + 1).sum ≤ leftOf kn web i + clsSum S c web i
  | [], _ => Nat.le_refl _
  | row :: web, i => by
    have ih := leftOf_cls h web (i + 1)
    unfold leftOf clsSum
    rw [List.map_cons, List.sum_cons]
    by_cases q : i ∈ kn
    · rw [if_pos q, if_pos (h i q)]
      omega
    · rw [if_neg q]
      omega
theorem runs_len {web : Web} (W : WebOk web) {S : List Nat} {r : Nat} : ∀ {st : RF} {es : List Ev}, Runs web S r st es → RfOk web st → (∀ x ∈ st.1, S.getD x 0 = S.getD r 0) →
    ∃ kn, (∀ x ∈ kn, S.getD x 0 = S.getD r 0) ∧ es.length + leftOf kn web 0 = rfLeft web st
  | (kn, _), _, .nil, _, h => ⟨kn, h, by show 0 + _ = leftOf kn web 0 + 0; omega⟩
  | (kn, way), _, .cons (e := e) (st' := st') (es := es) hs hr, O, h => by
    obtain ⟨O', hl⟩ := rfStep_ok W O hs
    have h' : ∀ x ∈ st'.1, S.getD x 0 = S.getD r 0 := by
      cases way with
      | nil => cases hs
      | cons q ws =>
        obtain ⟨x0, p0⟩ := q
        rcases rfStep_cases hs with ⟨_, _, rfl⟩ | ⟨_, _, _, rfl⟩ | ⟨_, t, _, f, _, rfl⟩
        · exact h
        · exact h
        · intro x hx
          rcases List.mem_append.mp hx with hx | hx
          · exact h x hx
          · rw [List.mem_singleton.mp hx]
            exact f.1
    obtain ⟨kn', a, b⟩ := runs_len W hr O' h'
    exact ⟨kn', a, by rw [List.length_cons]; omega⟩
theorem row_cls {web : Web} (W : WebOk web) {S : List Nat} {r : Nat} (h : r < web.length) : (rowFrom web S r).length ≤ clsSum S (S.getD r 0) web 0 := by
  obtain ⟨kn, a, b⟩ := runs_len W (rowFrom_runs W (S := S) h) (rfOk_init h) (fun x hx => by rw [List.mem_singleton.mp hx])
  rw [rfLeft_init h] at b
  have := leftOf_cls a web 0
  unfold total at b
  omega
def sumFrom (f : Nat → Nat) : Nat → Nat → Nat
  | 0, _ => 0
  | n + 1, i => f i + sumFrom f n (i + 1)
theorem sumFrom_add (f g : Nat → Nat) : ∀ n i, sumFrom (fun w => f w + g w) n i = sumFrom f n i + sumFrom g n i
  | 0, _ => rfl
  | n + 1, i => by
    unfold sumFrom
    rw [sumFrom_add f g n (i + 1)]
    omega
theorem sumFrom_one (v a : Nat) : ∀ n i, sumFrom (fun w => if v = w + 1 then a else 0) n i ≤ a ∧ (v < i + 1 → sumFrom (fun w => if v = w + 1 then a else 0) n i = 0)
  | 0, _ => ⟨Nat.zero_le _, fun _ => rfl⟩
  | n + 1, i => by
    obtain ⟨h1, h2⟩ := sumFrom_one v a n (i + 1)
    unfold sumFrom
    by_cases c : v = i + 1
    · rw [if_pos c, h2 (by omega)]
      exact ⟨Nat.le_refl _, fun q => by omega⟩
    · rw [if_neg c]
      exact ⟨by omega, fun q => by rw [h2 (by omega)]⟩
theorem sumFrom_zero : ∀ n i, sumFrom (fun _ => 0) n i = 0
  | 0, _ => rfl
  | n + 1, i => by
    unfold sumFrom
    rw [sumFrom_zero n (i + 1)]
theorem cls_total (S : List Nat) (k : Nat) : ∀ (web : Web) (i : Nat), sumFrom (fun w => clsSum S (w + 1) web i) k 0 ≤ (web.map fun row => row.length + 1).sum
  | [], i => by
    have : sumFrom (fun w => clsSum S (w + 1) [] i) k 0 = 0 := sumFrom_zero k 0
    omega
  | row :: web, i => by
    have ih := cls_total S k web (i + 1)
    have e : sumFrom (fun w => clsSum S (w + 1) (row :: web) i) k 0 = sumFrom (fun w => if S.getD i 0 = w + 1 then row.length + 1 else 0) k 0 + sumFrom (fun w => clsSum S (w + 1) web (i + 1)) k 0 := sumFrom_add _ _ k 0
    have h1 := (sumFrom_one (S.getD i 0) (row.length + 1) k 0).1
    rw [e, List.map_cons, List.sum_cons]
    omega
theorem fuel_cls {web : Web} (W : WebOk web) (S : List Nat) : ∀ (rs : List Nat) (i : Nat), (∀ r ∈ rs, r < web.length) → fuelOf (rowsAux web S rs i) ≤ sumFrom (fun w => clsSum S (w + 1) web 0) rs.length i
  | [], _, _ => Nat.le_refl _
  | r :: rs, i, h => by
    have ih := fuel_cls W S rs (i + 1) fun q hq => h q (by simp [hq])
    have hr : (if S.getD r 0 = i + 1 then rowFrom web S r else []).length ≤ clsSum S (i + 1) web 0 := by
      by_cases c : S.getD r 0 = i + 1
      · rw [if_pos c, ← c]
        exact row_cls W (h r (by simp))
      · rw [if_neg c]
        exact Nat.zero_le _
    unfold fuelOf at ih ⊢
    unfold rowsAux
    rw [List.map_cons, List.sum_cons]
    show _ ≤ clsSum S (i + 1) web 0 + sumFrom (fun w => clsSum S (w + 1) web 0) rs.length (i + 1)
    omega
theorem fuel_total {web : Web} (W : WebOk web) {roots S : List Nat} (O : RootsOk web roots) : fuelOf (rowsOf web roots S) ≤ 12 := by
  have a := fuel_cls W S roots 0 O.lt
  have b := cls_total S roots.length web 0
  have c := total_le W
  unfold total at c
  unfold rowsOf
  omega
theorem run_len {web : Web} (W : WebOk web) {roots : List Nat} (O : RootsOk web roots) {o : List Nat} {sf : St} (h : runO web roots.length (begun web roots) o = some sf) : o.length ≤ 12 := by
  obtain ⟨b1, b2, b3⟩ := begun_at O
  have own : RootsOwn roots sf.marks := fun w hw => by
    have a := b2 w hw
    rw [runO_marks h (roots.getD w 0) (by rw [a]; omega), a]
  have hdo : DoneOk web roots sf.marks (rowsOf web roots sf.marks) (d0 roots) := fun w hw e he => by
    rw [d0_getD, List.take_zero] at he
    cases he
  obtain ⟨hv, _, Rf, _, Df⟩ := simA W own (J.init O own) (DJ.init W O own) hdo h (fun x _ => rfl)
  have hlenR : (rowsOf web roots sf.marks).length = roots.length := rowsAux_len web sf.marks roots 0
  have l0 : (d0 roots).length = roots.length := by show (roots.map _).length = _; rw [List.length_map]
  have a := hv.len hlenR l0
  have b := sum_le_fuel (rowsOf web roots sf.marks) (after (d0 roots) o) (by rw [Df.len, hlenR]) (fun w hw => Df.le w (by rw [← hlenR]; exact hw))
  have c := fuel_total W (S := sf.marks) O
  omega
theorem level_len {web : Web} (W : WebOk web) {roots : List Nat} (O : RootsOk web roots) {n : Nat} (h : levelAt web roots n ≠ []) : n ≤ 12 := by
  have L := (levelAt_all web roots n).1
  cases e : levelAt web roots n with
  | nil => exact absurd e h
  | cons q l =>
    have hq : q ∈ levelAt web roots n := by rw [e]; exact List.mem_cons_self
    obtain ⟨h1, h2⟩ := L.run q.1 q.2 ((mem_look L.nod).mp hq)
    have := run_len W O h1
    omega
theorem level_small {web : Web} (W : WebOk web) {roots : List Nat} (O : RootsOk web roots) (n : Nat) : (levelAt web roots n).length ≤ 531441 := by
  by_cases c : levelAt web roots n = []
  · rw [c]
    exact Nat.zero_le _
  · have h1 := level_len W O c
    have h2 := (levelAt_all web roots n).2
    have h3 := O.three
    have h4 : roots.length ^ n ≤ 3 ^ n := Nat.pow_le_pow_left h3 n
    have h5 : 3 ^ n ≤ 3 ^ 12 := Nat.pow_le_pow_right (by decide) h1
    have h6 : (3 : Nat) ^ 12 = 531441 := by decide
    omega
end TB

/-! More of the greedy order: it goes on till all stand still; where they do, each waits for one that has events left. -/
namespace TB
theorem someFrom_snoc {web : Web} {S : List Nat} {rows : Rows} {d mk : List Nat} : ∀ n i, someFrom web S rows d mk (n + 1) i = someFrom web S rows d mk n i ++ (if mayB web S rows d mk (i + n) = true then [i + n + 1] else [])
  | 0, i => by
    show (if mayB web S rows d mk i = true then (i + 1) :: [] else []) = [] ++ _
    rfl
  | n + 1, i => by
    have ih := someFrom_snoc (web := web) (S := S) (rows := rows) (d := d) (mk := mk) n (i + 1)
    show (if mayB web S rows d mk i = true then (i + 1) :: someFrom web S rows d mk (n + 1) (i + 1) else someFrom web S rows d mk (n + 1) (i + 1)) = _
    have e : i + 1 + n = i + (n + 1) := by omega
    rw [ih, e]
    show _ = (if mayB web S rows d mk i = true then (i + 1) :: someFrom web S rows d mk n (i + 1) else someFrom web S rows d mk n (i + 1)) ++ _
    split <;> rfl
theorem remain_bump : ∀ {rows : Rows} {d : List Nat} {i w : Nat}, i ≤ w → w < i + rows.length → w < d.length → d.getD w 0 < (rows.getD (w - i) []).length → remain rows (bump d w) i + 1 = remain rows d i
  | [], d, i, w, h1, h2, _, _ => by simp at h2; omega
  | r :: rows, d, i, w, h1, h2, h3, h4 => by
    unfold remain
    by_cases c : w = i
    · subst c
      rw [Nat.sub_self] at h4
      have h4' : d.getD w 0 < r.length := h4
      have e : remain rows (bump d w) (w + 1) = remain rows d (w + 1) := by
        have : ∀ (rs : Rows) (j : Nat), w < j → remain rs (bump d w) j = remain rs d j := by
          intro rs
          induction rs with
          | nil => intro j _; rfl
          | cons r rs ih =>
            intro j hj
            unfold remain
            rw [ih (j + 1) (by omega), bump_ne (by omega)]
        exact this rows (w + 1) (Nat.lt_succ_self _)
      rw [e, bump_self h3]
      omega
    · have h5 : (rows.getD (w - (i + 1)) []) = ((r :: rows).getD (w - i) []) := by
        have : w - i = (w - (i + 1)) + 1 := by omega
        rw [this]
        rfl
      have ih := remain_bump (rows := rows) (d := d) (i := i + 1) (w := w) (by omega) (by rw [List.length_cons] at h2; omega) h3 (by rw [h5]; exact h4)
      rw [bump_ne (show w ≠ i from c)]
      omega
theorem remain_zero : ∀ (rows : Rows) (d : List Nat) (i : Nat), (∀ w, d.getD w 0 = 0) → remain rows d i = fuelOf rows
  | [], _, _, _ => rfl
  | r :: rows, d, i, h => by
    unfold remain fuelOf
    rw [remain_zero rows d (i + 1) h, h i, List.map_cons, List.sum_cons]
    rfl
theorem remain_left : ∀ {rows : Rows} {d : List Nat} {i w : Nat}, i ≤ w → w < i + rows.length → remain rows d i = 0 → (rows.getD (w - i) []).length ≤ d.getD w 0
  | [], d, i, w, h1, h2, _ => by simp at h2; omega
  | r :: rows, d, i, w, h1, h2, h => by
    unfold remain at h
    by_cases c : w = i
    · subst c
      rw [Nat.sub_self]
      show r.length ≤ _
      omega
    · have : w - i = (w - (i + 1)) + 1 := by omega
      rw [this]
      exact remain_left (rows := rows) (d := d) (i := i + 1) (w := w) (by omega) (by rw [List.length_cons] at h2; omega) (by omega)
section
variable {web : Web} {roots S : List Nat} {rows : Rows}
theorem someFrom_none {d mk : List Nat} {n i : Nat} (h : ∀ w, i ≤ w → w < i + n → mayB web S rows d mk w = false) : someFrom web S rows d mk n i = [] := by
  cases e : someFrom web S rows d mk n i with
  | nil => rfl
  | cons v r =>
    have hv : v ∈ someFrom web S rows d mk n i := by rw [e]; exact List.mem_cons_self
    obtain ⟨a, b, c⟩ := someFrom_mem.mp hv
    rw [h (v - 1) (by omega) (by omega)] at c
    cases c
theorem mayB_left {d mk : List Nat} {w : Nat} (h : mayB web S rows d mk w = true) : d.getD w 0 < (rw_ rows w).length := by
  unfold mayB at h
  rw [Bool.and_eq_true] at h
  exact of_decide_eq_true h.1
theorem goRun_stuck (k : Nat) (hk : rows.length = k) : ∀ (f : Nat) {d mk : List Nat}, d.length = k → remain rows d 0 ≤ f → someFrom web S rows (goRun web k S rows f (d, mk)).2.1 (goRun web k S rows f (d, mk)).2.2 k 0 = []
  | 0, d, mk, hl, h => by
    refine someFrom_none fun w h1 h2 => ?_
    cases e : mayB web S rows d mk w with
    | false => exact e
    | true =>
      exfalso
      have h3 := mayB_left e
      have h4 := remain_left (rows := rows) (d := d) (i := 0) (w := w) (Nat.zero_le _) (by omega) (by omega)
      rw [Nat.sub_zero] at h4
      unfold rw_ at h3
      omega
  | f + 1, d, mk, hl, h => by
    unfold goRun
    cases e : someFrom web S rows d mk k 0 with
    | nil => exact e
    | cons v r =>
      have hv : v ∈ someFrom web S rows d mk k 0 := by rw [e]; exact List.mem_cons_self
      obtain ⟨a, b, c⟩ := someFrom_mem.mp hv
      have hr := remain_bump (rows := rows) (d := d) (i := 0) (w := v - 1) (Nat.zero_le _) (by omega) (by omega) (by rw [Nat.sub_zero]; exact mayB_left c)
      exact goRun_stuck k hk f (by show (bump d (v - 1)).length = k; rw [bump_len]; exact hl) (by show remain rows (bump d (v - 1)) 0 ≤ f; omega)
/-- what is known of a walker that stands still -/
theorem still {d mk : List Nat} {k w : Nat} (h : someFrom web S rows d mk k 0 = []) (hw : w < k) (hl : d.getD w 0 < (rw_ rows w).length) : ∃ t, waits web S rows d mk w = some t := by
  cases e : waits web S rows d mk w with
  | some t => exact ⟨t, rfl⟩
  | none =>
    exfalso
    have : w + 1 ∈ someFrom web S rows d mk k 0 := someFrom_mem.mpr ⟨by omega, by omega, by
      rw [Nat.add_sub_cancel]
      unfold mayB
      rw [decide_eq_true hl, e]
      rfl⟩
    rw [h] at this
    cases this
end
theorem waits_inv {web : Web} {S : List Nat} {rows : Rows} {d mk : List Nat} {w t : Nat} (h : waits web S rows d mk w = some t) : ∃ e, (rw_ rows w)[d.getD w 0]? = some e ∧ otherAt web S (w + 1) e = some t ∧ t ∉ mk := by
  unfold waits at h
  cases he : (rw_ rows w)[d.getD w 0]? with
  | none =>
    rw [he] at h
    cases h
  | some e =>
    rw [he] at h
    refine ⟨e, rfl, ?_⟩
    cases ho : otherAt web S (w + 1) e with
    | none =>
      simp only [ho] at h
      cases h
    | some u =>
      simp only [ho] at h
      by_cases c : u ∈ mk
      · rw [if_pos c] at h
        cases h
      · rw [if_neg c] at h
        cases h
        exact ⟨rfl, c⟩
theorem runs_downs {web : Web} {S : List Nat} {r : Nat} : ∀ {st : RF} {es : List Ev}, Runs web S r st es → ∀ x ∈ downs web es, S.getD x 0 = S.getD r 0
  | _, _, .nil, x, hx => by cases hx
  | (kn, way), _, .cons (e := e) (es := es) h hr, x, hx => by
    unfold downs at hx
    rcases List.mem_append.mp hx with hx | hx
    · cases way with
      | nil => cases h
      | cons q ws =>
        obtain ⟨x0, p0⟩ := q
        rcases rfStep_cases h with ⟨_, rfl, _⟩ | ⟨_, _, rfl, _⟩ | ⟨_, t, ht, f, rfl, _⟩
        · rw [if_neg (by split <;> nofun)] at hx
          cases hx
        · rw [if_neg (by nofun)] at hx
          cases hx
        · rw [if_pos rfl] at hx
          have hx' : x ∈ (tie web x0 p0).toList := hx
          rw [ht] at hx'
          have : x = t := by simpa using hx'
          rw [this]
          exact f.1
    · exact runs_downs hr x hx
/-- where no root, no tie, no far node hinders: each walker that stands still with events left waits for the node of a walker with events left -/
theorem ring_pre {web : Web} (W : WebOk web) {roots S : List Nat} (O : RootsOk web roots) (SO : ShOk web roots S) (own : RootsOwn roots S) (far : farH (knownAll web roots S) S 0 = false) {d mk : List Nat}
    (hd : d.length = roots.length) (hmk : MkOk web roots (rowsOf web roots S) d mk) (hst : someFrom web S (rowsOf web roots S) d mk roots.length 0 = []) :
    ∀ w, w < roots.length → d.getD w 0 < (rw_ (rowsOf web roots S) w).length → ∃ t v, waits web S (rowsOf web roots S) d mk w = some t ∧ t < S.length ∧ S.getD t 0 = v + 1 ∧ v < roots.length ∧ d.getD v 0 < (rw_ (rowsOf web roots S) v).length := by
  intro w hw hl
  obtain ⟨t, ht⟩ := still hst hw hl
  obtain ⟨e, he, ho, hn⟩ := waits_inv ht
  obtain ⟨a1, a2, a3, a4⟩ := otherAt_some ho
  have htl : t < S.length := by rw [SO.len]; exact W.tie_lt a2
  have hle : S.getD t 0 ≤ roots.length := by
    refine SO.le _ ?_
    rw [List.getD_eq_getElem?_getD, List.getElem?_eq_getElem htl]
    exact List.getElem_mem htl
  refine ⟨t, S.getD t 0 - 1, ht, htl, by omega, by omega, ?_⟩
  have hv : S.getD t 0 - 1 < roots.length := by omega
  have hk := (farH_iff _ S 0).mp far t htl a3
  rw [Nat.zero_add] at hk
  have hlenR : (rowsOf web roots S).length = roots.length := rowsAux_len web S roots 0
  -- t is known to its own walker
  have hin : t ∈ roots.getD (S.getD t 0 - 1) 0 :: downs web (rw_ (rowsOf web roots S) (S.getD t 0 - 1)) := by
    unfold knownAll at hk
    rcases List.mem_append.mp hk with hk | hk
    · obtain ⟨u, hu, eu⟩ := mem_getD hk
      have := own u hu
      rw [eu] at this
      have e2 : S.getD t 0 - 1 = u := by omega
      rw [e2, eu]
      exact List.mem_cons_self
    · obtain ⟨row, hrow, hx⟩ := List.mem_flatMap.mp hk
      obtain ⟨u, hu, eu⟩ := List.mem_iff_getElem.mp hrow
      have hu' : u < roots.length := by omega
      have er : rw_ (rowsOf web roots S) u = row := by
        unfold rw_
        rw [List.getD_eq_getElem?_getD, List.getElem?_eq_getElem hu, eu]
        rfl
      have hrr : Runs web S (roots.getD u 0) ([roots.getD u 0], [(roots.getD u 0, 0)]) row := by
        rw [← er, rows_own own hu']
        exact rowFrom_runs W (O.lt _ (getD_mem hu'))
      have h1 := runs_downs hrr t hx
      have h2 := own u hu'
      have e2 : S.getD t 0 - 1 = u := by omega
      rw [e2, er]
      exact List.mem_cons_of_mem _ hx
  rcases Nat.lt_or_ge (d.getD (S.getD t 0 - 1) 0) (rw_ (rowsOf web roots S) (S.getD t 0 - 1)).length with q | q
  · exact q
  · exfalso
    refine hn ((hmk t).mpr ⟨S.getD t 0 - 1, hv, ?_⟩)
    unfold kn_
    rw [List.take_of_length_le q]
    exact hin
theorem nodup_le : ∀ (n : Nat) (l : List Nat), l.Nodup → (∀ x ∈ l, x < n) → l.length ≤ n
  | 0, l, _, h => by
    cases l with
    | nil => exact Nat.le_refl _
    | cons a l => exact absurd (h a (by simp)) (Nat.not_lt_zero _)
  | n + 1, l, hn, h => by
    have h1 := nodup_le n (l.erase n) (hn.erase n) fun x hx => by
      have h2 := (hn.mem_erase_iff).mp hx
      have := h x h2.2
      omega
    have := List.length_erase (a := n) (l := l)
    split at this <;> omega
theorem ownRoots_sub (S : List Nat) : ∀ (rs : List Nat) (i : Nat), (ownRoots S rs i).length ≤ rs.length ∧ ∀ x ∈ ownRoots S rs i, x ∈ rs
  | [], _ => ⟨Nat.le_refl _, nofun⟩
  | r :: rs, i => by
    obtain ⟨h1, h2⟩ := ownRoots_sub S rs (i + 1)
    unfold ownRoots
    by_cases c : S.getD r 0 = i + 1
    · rw [if_pos c]
      refine ⟨by simp [h1], fun x hx => ?_⟩
      rcases List.mem_cons.mp hx with rfl | hx
      · exact List.mem_cons_self
      · exact List.mem_cons_of_mem _ (h2 x hx)
    · rw [if_neg c]
      exact ⟨by rw [List.length_cons]; omega, fun x hx => List.mem_cons_of_mem _ (h2 x hx)⟩
theorem ownRoots_snoc (S : List Nat) (r : Nat) : ∀ (rs : List Nat) (i : Nat), ownRoots S (rs ++ [r]) i = ownRoots S rs i ++ (if S.getD r 0 = i + rs.length + 1 then [r] else [])
  | [], i => by
    show (if S.getD r 0 = i + 1 then [r] else []) = [] ++ _
    rfl
  | a :: rs, i => by
    have ih := ownRoots_snoc S r rs (i + 1)
    have e : i + 1 + rs.length + 1 = i + (a :: rs).length + 1 := by rw [List.length_cons]; omega
    rw [e] at ih
    show (if S.getD a 0 = i + 1 then a :: ownRoots S (rs ++ [r]) (i + 1) else ownRoots S (rs ++ [r]) (i + 1)) = (if S.getD a 0 = i + 1 then a :: ownRoots S rs (i + 1) else ownRoots S rs (i + 1)) ++ _
    rw [ih]
    split <;> rfl
end TB

/-! What is known of the states to which the law's walk comes. -/
namespace TB
structure StOk (web : Web) (k : Nat) (s : St) : Prop where
  lenM : s.marks.length = web.length
  lenC : s.counts.length = web.length
  lenW : s.ways.length = k
  lenS : s.stops.length = k
  way : ∀ w, w < k → ∀ x ∈ s.ways.getD w [], x < web.length
  wl : ∀ w, w < k → (s.ways.getD w []).length ≤ web.length
  top : ∀ w, w < k → ∀ x ws, s.ways.getD w [] = x :: ws → s.counts.getD x 0 ≤ deg web x
  mle : ∀ x, s.marks.getD x 0 ≤ k
  cle : ∀ x, s.counts.getD x 0 ≤ 2
  sle : ∀ x, some x ∈ s.stops → x < web.length
theorem reach_J {web : Web} (W : WebOk web) {roots : List Nat} (O : RootsOk web roots) {o : List Nat} {s : St} (h : runO web roots.length (begun web roots) o = some s) : ∃ R, J web roots.length s.marks s R := by
  obtain ⟨b1, b2, b3⟩ := begun_at O
  have own : RootsOwn roots s.marks := fun w hw => by
    have a := b2 w hw
    have := runO_marks h (roots.getD w 0) (by rw [a]; omega)
    rw [this, a]
  have hdo : DoneOk web roots s.marks (rowsOf web roots s.marks) (d0 roots) := fun w hw e he => by
    rw [d0_getD, List.take_zero] at he
    cases he
  obtain ⟨hv, hd, Rf, jf, Df⟩ := simA W own (J.init O own) (DJ.init W O own) hdo h (fun x _ => rfl)
  exact ⟨Rf, jf⟩
theorem deg_two {web : Web} (W : WebOk web) {x : Nat} : deg web x ≤ 2 := by
  by_cases h : x < web.length
  · exact W.two _ (W.row h)
  · unfold deg
    rw [List.getD_eq_getElem?_getD, List.getElem?_eq_none (by omega)]
    exact Nat.zero_le _
theorem getD_set' {l : List Nat} {i j v : Nat} : (l.set i v).getD j 0 = if i = j ∧ i < l.length then v else l.getD j 0 := by
  simp only [List.getD_eq_getElem?_getD, List.getElem?_set]
  by_cases c : i = j
  · subst c
    by_cases d : i < l.length
    · simp [d]
    · simp [d, List.getElem?_eq_none (Nat.le_of_not_lt d)]
  · simp [c]
/-- what a step does to the counts and the stops -/
theorem step_small {web : Web} (W : WebOk web) {k : Nat} {S : List Nat} {s s' : St} {R : List RF} {w : Nat} (j : J web k S s R) (hw : w < k) (hc : ∀ x, s.counts.getD x 0 ≤ 2) (hl : s.stops.length = k) (hs : ∀ x, some x ∈ s.stops → x < web.length)
    (h : step web s (w + 1) = some s') : (∀ x, s'.counts.getD x 0 ≤ 2) ∧ s'.stops.length = k ∧ ∀ x, some x ∈ s'.stops → x < web.length := by
  cases e : s.ways.getD w [] with
  | nil =>
    rw [step_nil e] at h
    cases h
  | cons x ws =>
    rw [step_cons e] at h
    have hway := j.way w hw
    have hcnt := j.cnt w hw
    have hok := j.ok w hw
    rw [e] at hway
    generalize R.getD w dR = rf at hway hcnt hok
    obtain ⟨kn, way⟩ := rf
    cases way with
    | nil => cases hway
    | cons q way =>
      obtain ⟨x0, p⟩ := q
      have hx0 : x = x0 := (List.cons.inj hway).1
      have hws : ws = way.map (·.1) := (List.cons.inj hway).2
      subst hx0
      obtain ⟨c1, c2⟩ := hcnt
      have hle := hok.le (x, p) (by simp)
      have hxn : x < web.length := hle.1
      have cset : ∀ y v, v ≤ 2 → ∀ z, (s.counts.set y v).getD z 0 ≤ 2 := fun y v hv z => by
        rw [getD_set']
        split
        · exact hv
        · exact hc z
      have skip : ∀ s'', some { s with counts := s.counts.set x (s.counts.getD x 0 + 1) } = some s'' → s.counts.getD x 0 ≠ deg web x → (∀ x, s''.counts.getD x 0 ≤ 2) ∧ s''.stops.length = k ∧ ∀ x, some x ∈ s''.stops → x < web.length := fun s'' hh hne => by
        obtain rfl := Option.some.inj hh
        refine ⟨cset _ _ ?_, hl, hs⟩
        have h1 : s.counts.getD x 0 ≤ deg web x := by
          rw [c1]
          exact hle.2
        have := deg_two W (x := x)
        omega
      unfold stepAt at h
      by_cases c : s.counts.getD x 0 = deg web x
      · rw [if_pos c] at h
        cases ws with
        | nil =>
          obtain rfl := Option.some.inj h
          refine ⟨cset _ _ (Nat.zero_le _), by rw [List.length_set]; exact hl, fun y hy => ?_⟩
          rcases List.mem_or_eq_of_mem_set hy with hy | hy
          · exact hs y hy
          · cases hy
            exact hxn
        | cons b ws =>
          obtain rfl := Option.some.inj h
          refine ⟨fun z => ?_, hl, hs⟩
          cases way with
          | nil => cases hws
          | cons q2 way =>
            obtain ⟨b0, p2⟩ := q2
            have hb : b = b0 := (List.cons.inj hws).1
            subst hb
            have h2 : s.counts.getD b 0 + 1 = p2 := c2 (b, p2) (by simp)
            have h3 : p2 ≤ deg web b := (hok.le (b, p2) (by simp)).2
            have hne : x ≠ b := fun z => by
              have hn := hok.nod
              simp only [List.map_cons, List.nodup_cons, List.mem_cons] at hn
              exact hn.1 (.inl z)
            have h4 := deg_two W (x := b)
            rw [getD_set']
            split
            · rw [getD_set', if_neg (fun z => hne z.1)]
              omega
            · exact cset _ _ (Nat.zero_le _) z
      · rw [if_neg c] at h
        cases ht : tie web x (s.counts.getD x 0) with
        | none =>
          rw [ht] at h
          exact skip s' h c
        | some t =>
          rw [ht] at h
          simp only at h
          by_cases d : s.marks.getD t 0 = 0
          · rw [if_pos d] at h
            obtain rfl := Option.some.inj h
            exact ⟨hc, hl, hs⟩
          · rw [if_neg d] at h
            exact skip s' h c
theorem getD_rep (n x : Nat) : (List.replicate n 0).getD x 0 = 0 := by
  rw [List.getD_eq_getElem?_getD, List.getElem?_replicate]
  split <;> rfl
theorem reach_small {web : Web} (W : WebOk web) {roots : List Nat} (O : RootsOk web roots) : ∀ (n : Nat) {o : List Nat} {s : St}, o.length = n → runO web roots.length (begun web roots) o = some s →
    (∀ x, s.counts.getD x 0 ≤ 2) ∧ s.stops.length = roots.length ∧ ∀ x, some x ∈ s.stops → x < web.length
  | 0, o, s, hn, h => by
    obtain rfl := List.length_eq_zero_iff.mp hn
    obtain rfl : begun web roots = s := Option.some.inj h
    refine ⟨fun x => by show (List.replicate web.length 0).getD x 0 ≤ 2; rw [getD_rep]; exact Nat.zero_le _, by show (roots.map _).length = _; rw [List.length_map], fun x hx => ?_⟩
    have hx' : some x ∈ roots.map fun _ => (none : Option Nat) := hx
    obtain ⟨_, _, e⟩ := List.mem_map.mp hx'
    cases e
  | n + 1, o, s, hn, h => by
    have hne : o ≠ [] := fun z => by rw [z] at hn; cases hn
    have eo : o = o.dropLast ++ [o.getLast hne] := (List.dropLast_concat_getLast hne).symm
    have hl : o.dropLast.length = n := by rw [List.length_dropLast, hn]; rfl
    generalize o.dropLast = o1 at eo hl
    generalize o.getLast hne = w at eo
    subst eo
    have hw := runO_init h
    rw [runO_snoc hw] at h
    cases e : runO web roots.length (begun web roots) o1 with
    | none =>
      rw [e] at h
      cases h
    | some s1 =>
      rw [e] at h
      have h' : step web s1 w = some s := h
      obtain ⟨a, b, c⟩ := reach_small W O n hl e
      obtain ⟨R, j⟩ := reach_J W O e
      have ew : w = (w - 1) + 1 := by omega
      rw [ew] at h'
      exact step_small W j (by omega) a b c h'
theorem reach_ok {web : Web} (W : WebOk web) {roots : List Nat} (O : RootsOk web roots) {o : List Nat} {s : St} (h : runO web roots.length (begun web roots) o = some s) : StOk web roots.length s := by
  obtain ⟨R, j⟩ := reach_J W O h
  obtain ⟨a, b, c⟩ := reach_small W O _ rfl h
  refine ⟨j.lenM, j.lenC, j.lenW, b, fun w hw x hx => ?_, fun w hw => ?_, fun w hw x ws e => ?_, j.mle, a, c⟩
  · rw [j.way w hw] at hx
    obtain ⟨q, hq, rfl⟩ := List.mem_map.mp hx
    exact ((j.ok w hw).le q hq).1
  · rw [j.way w hw]
    refine nodup_le _ _ (j.ok w hw).nod fun x hx => ?_
    obtain ⟨q, hq, rfl⟩ := List.mem_map.mp hx
    exact ((j.ok w hw).le q hq).1
  · have h1 := j.way w hw
    have h2 := j.cnt w hw
    have h3 := (j.ok w hw).le
    rw [e] at h1
    generalize R.getD w dR = rf at h1 h2 h3
    obtain ⟨kn, way⟩ := rf
    cases way with
    | nil => cases h1
    | cons q way =>
      obtain ⟨x0, p⟩ := q
      have : x = x0 := (List.cons.inj h1).1
      subst this
      rw [h2.1]
      exact (h3 (x, p) (by simp)).2
end TB

set_option maxRecDepth 100000
/-! The text by places. -/
namespace TB
open PySem L2
def top (i : Nat) : Stmt := PySem.Challenge.pw_turnback_k81_whole_every_end_of_small_we.main.body.getD i (.Pass ⟨0, 0, 0, 0⟩)
abbrev s_is_whole : Stmt := top 6
abbrev s_is_among : Stmt := top 7
abbrev s_is_row_of : Stmt := top 11
abbrev s_need_web : Stmt := top 12
abbrev s_is_node : Stmt := top 13
abbrev s_need_roots : Stmt := top 16
abbrev s_need_sharing : Stmt := top 18
abbrev s_row_from : Stmt := top 19
abbrev s_rows_of : Stmt := top 20
abbrev s_other_at : Stmt := top 21
abbrev s_init : Stmt := inClass (top 22) 0
abbrev s_has_next : Stmt := inClass (top 22) 1
abbrev s_waits_for : Stmt := inClass (top 22) 2
abbrev s_may : Stmt := inClass (top 22) 3
abbrev s_do : Stmt := inClass (top 22) 4
abbrev s_go_on : Stmt := inClass (top 22) 5
abbrev s_ring : Stmt := inClass (top 22) 6
abbrev s_root_hindrance : Stmt := top 23
abbrev s_tie_hindrance : Stmt := top 24
abbrev s_far_hindrance : Stmt := top 25
abbrev s_hindered : Stmt := top 26
abbrev s_hindrance : Stmt := top 27
abbrev s_least_order : Stmt := top 29
abbrev s_comes : Stmt := top 30
abbrev s_which_of : Stmt := top 31
abbrev s_order_to : Stmt := top 32
abbrev s_law_draw : Stmt := top 34
abbrev s_law_begun : Stmt := top 35
abbrev s_law_step : Stmt := top 36
abbrev s_law_is_over : Stmt := top 37
abbrev s_law_small : Stmt := top 38
abbrev s_law_copied : Stmt := top 39
abbrev s_law_ends : Stmt := top 40
abbrev s_law_sharings : Stmt := top 41
abbrev s_law_ends_right : Stmt := top 42
abbrev s_law : Stmt := top 43
end TB

set_option maxRecDepth 100000
set_option maxHeartbeats 0
/-! The head: facts by names, the run. -/
namespace TB
open PySem PySem.Spec PyProof.Rows L2
def d_is_whole : He.DefD := ⟨("is_whole", none), "is_whole", "is_whole", defArgs s_is_whole, defBody s_is_whole, defScope s_is_whole, [], []⟩
def d_is_among : He.DefD := ⟨("is_among", none), "is_among", "is_among", defArgs s_is_among, defBody s_is_among, defScope s_is_among, [], []⟩
def d_is_row_of : He.DefD := ⟨("is_row_of", none), "is_row_of", "is_row_of", defArgs s_is_row_of, defBody s_is_row_of, defScope s_is_row_of, [], []⟩
def d_need_web : He.DefD := ⟨("need_web", none), "need_web", "need_web", defArgs s_need_web, defBody s_need_web, defScope s_need_web, [], []⟩
def d_is_node : He.DefD := ⟨("is_node", none), "is_node", "is_node", defArgs s_is_node, defBody s_is_node, defScope s_is_node, [], []⟩
def d_need_roots : He.DefD := ⟨("need_roots", none), "need_roots", "need_roots", defArgs s_need_roots, defBody s_need_roots, defScope s_need_roots, [], []⟩
def d_need_sharing : He.DefD := ⟨("need_sharing", none), "need_sharing", "need_sharing", defArgs s_need_sharing, defBody s_need_sharing, defScope s_need_sharing, [], []⟩
def d_row_from : He.DefD := ⟨("row_from", none), "row_from", "row_from", defArgs s_row_from, defBody s_row_from, defScope s_row_from, [], []⟩
def d_rows_of : He.DefD := ⟨("rows_of", none), "rows_of", "rows_of", defArgs s_rows_of, defBody s_rows_of, defScope s_rows_of, [], []⟩
def d_other_at : He.DefD := ⟨("other_at", none), "other_at", "other_at", defArgs s_other_at, defBody s_other_at, defScope s_other_at, [], []⟩
def d_init : He.DefD := ⟨("Doing", some "__init__"), "__init__", "Doing.__init__", defArgs s_init, defBody s_init, defScope s_init, [], []⟩
def d_has_next : He.DefD := ⟨("Doing", some "has_next"), "has_next", "Doing.has_next", defArgs s_has_next, defBody s_has_next, defScope s_has_next, [], []⟩
def d_waits_for : He.DefD := ⟨("Doing", some "waits_for"), "waits_for", "Doing.waits_for", defArgs s_waits_for, defBody s_waits_for, defScope s_waits_for, [], []⟩
def d_may : He.DefD := ⟨("Doing", some "may"), "may", "Doing.may", defArgs s_may, defBody s_may, defScope s_may, [], []⟩
def d_do : He.DefD := ⟨("Doing", some "do"), "do", "Doing.do", defArgs s_do, defBody s_do, defScope s_do, [], []⟩
def d_go_on : He.DefD := ⟨("Doing", some "go_on"), "go_on", "Doing.go_on", defArgs s_go_on, defBody s_go_on, defScope s_go_on, [], []⟩
def d_ring : He.DefD := ⟨("Doing", some "ring"), "ring", "Doing.ring", defArgs s_ring, defBody s_ring, defScope s_ring, [], []⟩
def d_root_hindrance : He.DefD := ⟨("root_hindrance", none), "root_hindrance", "root_hindrance", defArgs s_root_hindrance, defBody s_root_hindrance, defScope s_root_hindrance, [], []⟩
def d_tie_hindrance : He.DefD := ⟨("tie_hindrance", none), "tie_hindrance", "tie_hindrance", defArgs s_tie_hindrance, defBody s_tie_hindrance, defScope s_tie_hindrance, [], []⟩
def d_far_hindrance : He.DefD := ⟨("far_hindrance", none), "far_hindrance", "far_hindrance", defArgs s_far_hindrance, defBody s_far_hindrance, defScope s_far_hindrance, [], []⟩
def d_hindered : He.DefD := ⟨("hindered", none), "hindered", "hindered", defArgs s_hindered, defBody s_hindered, defScope s_hindered, [], []⟩
def d_hindrance : He.DefD := ⟨("hindrance", none), "hindrance", "hindrance", defArgs s_hindrance, defBody s_hindrance, defScope s_hindrance, [], []⟩
def d_least_order : He.DefD := ⟨("least_order", none), "least_order", "least_order", defArgs s_least_order, defBody s_least_order, defScope s_least_order, [], []⟩
def d_comes : He.DefD := ⟨("comes", none), "comes", "comes", defArgs s_comes, defBody s_comes, defScope s_comes, [], []⟩
def d_which_of : He.DefD := ⟨("which_of", none), "which_of", "which_of", defArgs s_which_of, defBody s_which_of, defScope s_which_of, [], []⟩
def d_order_to : He.DefD := ⟨("order_to", none), "order_to", "order_to", defArgs s_order_to, defBody s_order_to, defScope s_order_to, [], []⟩
def d_law_draw : He.DefD := ⟨("_law_draw", none), "_law_draw", "_law_draw", defArgs s_law_draw, defBody s_law_draw, defScope s_law_draw, [], []⟩
def d_law_begun : He.DefD := ⟨("_law_begun", none), "_law_begun", "_law_begun", defArgs s_law_begun, defBody s_law_begun, defScope s_law_begun, [], []⟩
def d_law_step : He.DefD := ⟨("_law_step", none), "_law_step", "_law_step", defArgs s_law_step, defBody s_law_step, defScope s_law_step, [], []⟩
def d_law_is_over : He.DefD := ⟨("_law_is_over", none), "_law_is_over", "_law_is_over", defArgs s_law_is_over, defBody s_law_is_over, defScope s_law_is_over, [], []⟩
def d_law_small : He.DefD := ⟨("_law_small", none), "_law_small", "_law_small", defArgs s_law_small, defBody s_law_small, defScope s_law_small, [], []⟩
def d_law_copied : He.DefD := ⟨("_law_copied", none), "_law_copied", "_law_copied", defArgs s_law_copied, defBody s_law_copied, defScope s_law_copied, [], []⟩
def d_law_ends : He.DefD := ⟨("_law_ends", none), "_law_ends", "_law_ends", defArgs s_law_ends, defBody s_law_ends, defScope s_law_ends, [], []⟩
def d_law_sharings : He.DefD := ⟨("_law_sharings", none), "_law_sharings", "_law_sharings", defArgs s_law_sharings, defBody s_law_sharings, defScope s_law_sharings, [], []⟩
def d_law_ends_right : He.DefD := ⟨("_law_ends_right", none), "_law_ends_right", "_law_ends_right", defArgs s_law_ends_right, defBody s_law_ends_right, defScope s_law_ends_right, [], []⟩
def d_law : He.DefD := ⟨("law", none), "law", "law", defArgs s_law, defBody s_law, defScope s_law, [], []⟩
def fn : List He.DefD := [d_is_whole, d_is_among, d_is_row_of, d_need_web, d_is_node, d_need_roots, d_need_sharing, d_row_from, d_rows_of, d_other_at, d_init, d_has_next, d_waits_for, d_may, d_do, d_go_on, d_ring, d_root_hindrance, d_tie_hindrance, d_far_hindrance, d_hindered, d_hindrance, d_least_order, d_comes, d_which_of, d_order_to, d_law_draw, d_law_begun, d_law_step, d_law_is_over, d_law_small, d_law_copied, d_law_ends, d_law_sharings, d_law_ends_right, d_law]
def fa : List He.Fa := [.glo "is_whole", .glo "is_among", .glo "is_row_of", .glo "need_web", .glo "is_node", .glo "need_roots", .glo "need_sharing", .glo "row_from", .glo "rows_of", .glo "other_at", .glo "root_hindrance", .glo "tie_hindrance", .glo "far_hindrance", .glo "hindered", .glo "hindrance", .glo "least_order", .glo "comes", .glo "which_of", .glo "order_to", .glo "_law_draw", .glo "_law_begun", .glo "_law_step", .glo "_law_is_over", .glo "_law_small", .glo "_law_copied", .glo "_law_ends", .glo "_law_sharings", .glo "_law_ends_right", .glo "law", .glo "Doing", .free "len", .free "isinstance", .free "int", .free "bool", .free "tuple", .free "all", .free "enumerate", .free "set", .free "dict", .free "range", .free "min", .free "max", .free "list", .free "repr", .int "MOST_NODES" 60, .int "MOST_TIES" 8, .int "MOST_WALKERS" 6, .cls "Doing", .mkr "Doing", .noat "Doing" "woven", .noat "Doing" "shared", .noat "Doing" "event_rows", .noat "Doing" "dones", .noat "Doing" "marked_nodes", .meth "Doing" "has_next", .meth "Doing" "waits_for", .meth "Doing" "may", .meth "Doing" "do", .meth "Doing" "go_on", .meth "Doing" "ring"]
abbrev R : PySem.W.OpenRow := PySem.W.OpenLaw.row PySem.Challenge.rw_turnback_k81_whole_every_end_of_small_we
abbrev hk : PySem.W.Hook := He.hookD 4 fa fn
def ob (s : PySem.W.SharedT) : He.AlD := He.obsDG 4 fa fn (HandSHeadRun.getT s)
theorem ob_eq (s : PySem.W.SharedT) : ob s = hk.obs s.abs := He.obsDG_eq (HandSHeadRun.getT_eq s)
def loose1 : List PySem.Str := ["__name__", "WebError", "BadWeb", "BadSharing", "OutOfPlace", "is_whole", "is_among", "MOST_NODES", "MOST_TIES", "is_row_of", "need_web", "is_node", "MOST_WALKERS", "need_roots", "need_sharing", "row_from", "rows_of", "other_at", "Doing", "root_hindrance"]
def loose2 : List PySem.Str := ["tie_hindrance", "far_hindrance", "hindered", "hindrance", "least_order", "comes", "which_of", "order_to", "_law_draw", "_law_begun", "_law_step", "_law_is_over", "_law_small", "_law_copied", "_law_ends", "_law_sharings", "_law_ends_right"]
theorem run (w : World) : HandSHeadRun.RunEq R (PySem.W.view R.prog [43]) hk ob 4000 (loose1 ++ loose2) w := by
  intro os
  kernel_rfl
end TB

set_option maxRecDepth 100000
/-! Rules of our own: enumerate over a tuple. -/
namespace TB
open PySem PySem.Spec PyProof.Rows L2
/-! ### enumerate(a tuple) -/
set_option maxHeartbeats 1000000 in
theorem enum_new1 {v : Value} {o : Obj} {G : Heap → Prop} (B : Begins v o G) :
    Meets (Builtin.«enumerate.__new__» ⟨[.type "enumerate", v], []⟩) (fun _ R s => G s.heap ∧
      R (.ok (.ret (.ref (s.heap.push o).objs.size))) { s with heap := (s.heap.push o).push { cls := .type "enumerate", data := .fields #[.none, .bool false, .ref s.heap.objs.size, rawInt 0, .none, .none] } }) :=
  .of_wp fun prog w A R s h => by
    obtain ⟨hp, gn, dr, tk, os⟩ := s
    obtain ⟨hG, hR⟩ := h
    have hsub := sub_enumerate
    have begin1 : ∀ {A' : Around} {E : Value → Shared → Prop} {Q : Value → Shared → Prop}, Q (.ref hp.objs.size) ⟨hp.push o, gn, dr, tk, os⟩ → wpAny (model prog w) A' (pyIter v) Q E ⟨hp, gn, dr, tk, os⟩ :=
      fun q => B.iter prog w _ _ ⟨hp, gn, dr, tk, os⟩ _ hG q
    wp_walk using begin1
    refine wpAny_stack_any fun st => wpAny_pure ?_
    split
    · rename_i c _ _ _ _ _
      cases (c == Value.type "enumerate") <;> (wp_walk using begin1; exact ⟨_, rfl, hR⟩)
    · wp_walk using begin1
      exact ⟨_, rfl, hR⟩
section
variable {prog : Program} {w : World} {A : Around} {E : Value → Shared → Prop} {s : Shared}
theorem enum_call1 {v : Value} {o : Obj} {G : Heap → Prop} {Q : Value → Shared → Prop} (B : Begins v o G) (hG : G s.heap)
    (h : ∀ h', IsEnum h' (s.heap.objs.size + 1) s.heap.objs.size 0 .none → h'.get? s.heap.objs.size = some o → (∀ b o', s.heap.get? b = some o' → h'.get? b = some o') → Q (.ref (s.heap.objs.size + 1)) { s with heap := h' }) :
    wpAny (model prog w) A (call (.type "enumerate") [v]) Q E s := by
  refine callType_new F.called_enumerate (by decide) (F.typeCall_enumerate_1 _) (F.newCall_enumerate_1 _) (fun obj => F.args_object_init_2 obj _) F.entry_enumerate_new (enum_new1 B) ⟨hG, ?_⟩
  have hz : (s.heap.push o).objs.size = s.heap.objs.size + 1 := Heap.size_push ..
  show _ ∧ _
  rw [hz]
  have he : IsEnum ((s.heap.push o).push { cls := .type "enumerate", data := .fields #[.none, .bool false, .ref s.heap.objs.size, rawInt 0, .none, .none] }) (s.heap.objs.size + 1) s.heap.objs.size 0 .none := by
    have q := Heap.get?_push_size (s.heap.push o) (o := { cls := .type "enumerate", data := .fields #[.none, .bool false, .ref s.heap.objs.size, rawInt 0, .none, .none] }) rfl
    rw [hz] at q
    exact q
  exact ⟨⟨_, he, rfl⟩, h _ he (Heap.get?_push_of_some _ (Heap.get?_push_size _ B.free)) fun b o' x => Heap.get?_push_of_some _ (Heap.get?_push_of_some _ x)⟩
end
/-- the tuple at a, its items in new pairs with their places -/
def IteT (K : PySem.W.Frag) (a : Addr) : It :=
  ⟨fun i H => ∃ (xs : List V) (x : V), SqT K H a xs ∧ xs[i]? = some x,
    fun i H v H' => ∃ T x, v = .ref T ∧ H T = none ∧ H' = upd H T (.tup [.int (i : Nat), x]) ∧ ∀ xs, SqT K H a xs → xs[i]? = some x,
    fun i H => ∃ xs : List V, SqT K H a xs ∧ xs.length = i⟩
theorem turn_enumT {P : Program} {w : World} {K : PySem.W.Frag} {elts : List Expr} {kk : Nat} {tpos : Pos} (a e it : Addr) :
    Turn P w K (.Tuple elts kk tpos) (IteT K a) [e, it] e (fun i h => (∃ old, IsEnum h e it ((i : Nat) : Int) old) ∧ h.IsTupleIter it a i ∧ e ≠ it ∧ a ≠ it ∧ a ≠ e) where
  mem := by simp
  obj := fun i h st b hb => by
    obtain ⟨⟨old, he⟩, ⟨o, ho, hc, hd⟩, _⟩ := st
    rcases (show b = e ∨ b = it by simpa using hb) with z | z
    · rw [z]
      exact ⟨_, he, fun v q => nomatch q⟩
    · rw [z]
      exact ⟨o, ho, fun v q => by rw [hd] at q; cases q⟩
  keep := fun i h h' st k => by
    obtain ⟨⟨old, he⟩, hi, hne⟩ := st
    exact ⟨⟨old, k e (by simp) _ he⟩, hi.at fun o q => k it (by simp) o q, hne⟩
  item := by
    intro X hP hw hK hc i pins s σ H E I hf st hg
    subst hP hw hK
    obtain ⟨⟨old, he⟩, hit, hne, hai, hae⟩ := st
    obtain ⟨xs, x, hq, hx⟩ := hg
    obtain ⟨its, rv, p, hz⟩ := I.tuple hq
    have hel : e < s.heap.objs.size := Heap.lt_size he
    have hil : it < s.heap.objs.size := by
      obtain ⟨_, q, _⟩ := hit
      exact Heap.lt_size q
    have hlen : i < its.toArray.size := by
      have h1 := rv.length
      have h2 := (List.getElem?_eq_some_iff.mp hx).1
      simpa [← h1] using h2
    obtain ⟨ot, hot, hoc, hon, hod⟩ := id p
    have pT : s.heap.IsTuple a its.toArray := ⟨ot, hot, hoc, hon, hod⟩
    refine wpAny_pyNext_enum_itemD (Draws.tuple (prog := X.prog) (w := X.w) (A := X.A.in1) (I.ok.hd hc) it a hai its.toArray) he ⟨hit, pT⟩ hlen hne (fun z => by
      rcases (show e = it ∨ e = a by simpa using z) with q | q
      · exact hne q
      · exact hae q.symm) fun u h' tk hu ho hst hT hsz hk => ?_
    refine ⟨_, rfl, wpAny_letOwnedTupleGo_enum (s := { s with heap := h', toks := tk + 1 }) ho fun h'' he' sb => ?_⟩
    have hT2 : h''.get? s.heap.objs.size = some { cls := .type "tuple", data := .seq #[.int i tk, u] } := (sb.2 _ (Nat.ne_of_gt hel)).trans hT
    have ru : RelV x u := by
      obtain ⟨u', hu', ru⟩ := rv.get hx
      have : its.toArray[i]? = some u' := by simpa using hu'
      rw [show its.toArray[i]? = some u from hu] at this
      cases this
      exact ru
    have new : ObjOk X.prog X.w (upd H s.heap.objs.size (.tup [.int (i : Nat), x])) h'' s.heap.objs.size (.tup [.int (i : Nat), x]) :=
      ⟨by show 2 ≤ sizeLine; decide, [.int i tk, u], .cons ⟨_, rfl⟩ (.cons ru .nil), ⟨_, hT2, rfl, _, rfl⟩⟩
    have I1 : Inv X pins σ (upd H s.heap.objs.size (.tup [.int (i : Nat), x])) { s with heap := h'', toks := tk + 1 } :=
      I.turnedNew (ch := [e, it]) (fun b ob hb q => (sb.2 b (fun z => hb (by simp [z]))).trans (hk b ob (fun z => hb (by simp [z])) (fun z => hb (by simp [z])) q)) hf (Nat.le_refl _) new
    refine ⟨.ref s.heap.objs.size, _, I1, rfl, ⟨_, x, rfl, I.hok.fresh (Nat.le_refl _), rfl, fun ys hy => by rw [I.tuple_inj hy hq]; exact hx⟩, ⟨⟨u, ?_⟩, hst.1.at fun o q => (sb.2 it (Ne.symm hne)).trans q, hne, hai, hae⟩, fun b hb => ?_⟩
    · have e1 : ((i + 1 : Nat) : Int) = (i : Int) + 1 := by omega
      rw [e1]
      exact he'
    · have hb' : b < s.heap.objs.size := by
        rcases (show b = e ∨ b = it by simpa using hb) with z | z
        · rw [z]
          exact hel
        · rw [z]
          exact hil
      rw [upd_ne (Nat.ne_of_lt hb')]
      exact (hf b hb).1
  done := by
    intro X hP hw hK hc i pins s σ H E I hf st hg
    subst hP hw hK
    obtain ⟨⟨old, he⟩, hit, hne, hai, hae⟩ := st
    obtain ⟨xs, hq, hx⟩ := hg
    obtain ⟨its, rv, p, hz⟩ := I.tuple hq
    obtain ⟨f0, f1, f2, f3, f4, f5⟩ := hf it (by simp)
    obtain ⟨ot, hot, hoc, hon, hod⟩ := id p
    have pT : s.heap.IsTuple a its.toArray := ⟨ot, hot, hoc, hon, hod⟩
    have hsz : i = its.toArray.size := by
      have h1 := rv.length
      simp [← h1, hx]
    refine wpAny_pyNext_enum_endD (Draws.tuple (prog := X.prog) (w := X.w) (A := X.A.in1) (I.ok.hd hc) it a hai its.toArray) he ⟨by rw [← hsz]; exact hit, pT⟩ fun h' eb => ⟨rfl, I.turned (t' := s.toks) (fun b o hb q => eb b o hb q) f0 f1 f3 f4 f5⟩
  self := fun A i s Q E st h => by
    obtain ⟨⟨_, he⟩, _⟩ := st
    exact wpAny_pyIter_enum he h
def iEnumT (K : PySem.W.Frag) (ta : TA) : TI := fun σ H R => ta σ H fun vs H1 => ∃ a xs, vs = [.ref a] ∧ SqT K H1 a xs ∧ R (IteT K a) H1
theorem pi_enumT {X : Cx} {e : Expr} {ta : TA} {p pos tpos : Pos} {elts : List Expr} {kk : Nat} (hg : Gl X "enumerate") (hm : X.mg "enumerate" = none) (ha : PA X [e] ta) (hs : starEach [e] X.env = [(false, eval e X.env)] := by rfl) :
    PI X (.Tuple elts kk tpos) (.Call (.Name "enumerate" p) [e] [] pos) (iEnumT X.K ta) := by
  refine ⟨fun pins s σ H R I h => ?_⟩
  refine Call_ (ld_blt I hg hm boot_enumerate (PyProof.Rows.callWith_type1 (thn (ha.run pos pins s σ H _ I h) fun us s1 hq => ?_) hs rfl))
  obtain ⟨vs, H1, I1, r1, a, xs, ex, hq, q⟩ := hq
  subst ex
  cases r1 with
  | cons r rr =>
    cases rr
    cases r
    obtain ⟨its, rv, p', hz⟩ := I1.tuple hq
    obtain ⟨ot, hot, hoc, hon, hod⟩ := id p'
    have pT : s1.heap.IsTuple a its.toArray := ⟨ot, hot, hoc, hon, hod⟩
    have hal : a < s1.heap.objs.size := Heap.lt_size hot
    refine enum_call1 (begins_tuple a its.toArray) pT fun h' he hit hk => wpAny_pyIter_enum he ?_
    have I2 : Inv X pins σ H1 { s1 with heap := h' } := I1.kept (t' := s1.toks) hk
    refine ⟨s1.heap.objs.size + 1, [s1.heap.objs.size + 1, s1.heap.objs.size], _, _, H1, rfl, I2, turn_enumT a (s1.heap.objs.size + 1) s1.heap.objs.size, ⟨⟨.none, he⟩, ⟨_, hit, rfl, rfl⟩, Nat.succ_ne_self _, Nat.ne_of_lt hal, Nat.ne_of_lt (Nat.lt_succ_of_lt hal)⟩, fun b hb => ?_, q⟩
    have hle : s1.heap.objs.size ≤ b := by
      rcases (show b = s1.heap.objs.size + 1 ∨ b = s1.heap.objs.size by simpa using hb) with z | z
      · rw [z]
        exact Nat.le_add_right _ _
      · rw [z]
        exact Nat.le_refl _
    exact I1.fpOk hle (I1.hok.fresh hle)
/-- the turns over such a tuple: each pair is a new tuple at T -/
theorem for_enumT {K : PySem.W.Frag} {a : Addr} {xs : List V} {g : TG} {tb : TS} {D : Ends} {σ : List (Option V)} {H : Hp} (Pv : Nat → List (Option V) → Hp → Prop) (h0 : Pv 0 σ H) (hl : ∀ i σ H, i ≤ xs.length → Pv i σ H → SqT K H a xs)
    (hs : ∀ i x T σ H, xs[i]? = some x → Pv i σ H → H T = none → g (.ref T) σ (upd H T (.tup [.int (i : Nat), x])) fun σ2 H2 => tb { D with nx := Pv (i + 1), ct := Pv (i + 1), bk := D.nx } σ2 H2) (hd : ∀ σ H, Pv xs.length σ H → D.nx σ H) :
    ∃ W : Nat → Nat → List (Option V) → Hp → Prop, (∃ m, W 0 m σ H) ∧ ∀ i m σ H, W i m σ H →
      ((IteT K a).stop i H ∧ D.nx σ H) ∨ ((IteT K a).go i H ∧ ∃ N : List (Option V) → Hp → Prop, (∀ σ' H', N σ' H' → ∃ m', m' < m ∧ W (i + 1) m' σ' H') ∧ ∀ x H', (IteT K a).yld i H x H' → g x σ H' fun σ2 H2 => tb { D with nx := N, ct := N, bk := D.nx } σ2 H2) := by
  refine ⟨fun i m σ H => m = xs.length - i ∧ i ≤ xs.length ∧ Pv i σ H, ⟨xs.length, by simp, Nat.zero_le _, h0⟩, ?_⟩
  rintro i m σ H ⟨rfl, hi, p⟩
  have q := hl i σ H hi p
  by_cases hlt : i < xs.length
  · refine .inr ⟨⟨xs, xs[i], q, by simp [hlt]⟩, Pv (i + 1), fun σ' H' p' => ⟨xs.length - (i + 1), by omega, rfl, hlt, p'⟩, fun x H' y => ?_⟩
    obtain ⟨T, x', e1, hT, e2, y⟩ := y
    subst e1 e2
    exact hs i x' T σ H (y xs q) p hT
  · have e : i = xs.length := by omega
    subst e
    exact .inl ⟨⟨xs, q, rfl⟩, hd σ H p⟩
end TB

set_option maxRecDepth 100000
/-! Rules of our own: dicts of unlike length, update, len(set(tuple)), xs[i] += e. -/
namespace TB
open PySem PySem.Spec PyProof.Rows L2
section
variable {X : Cx}
/-! ### d != {} -/
def rNeNil : R2 := fun x y H Q => ∃ a b ks, x = .ref a ∧ y = .ref b ∧ H a = some (.dK ks) ∧ H b = some (.dK []) ∧ Q (.bl (!ks.isEmpty)) H
theorem op_ne_nil (hu : X.A.units < cLine) : OpR X (compareOp .NotEq) rNeNil := by
  intro pins s σ H x y v u Q I rx ry h
  obtain ⟨a, b, ks, rfl, rfl, ea, eb, q⟩ := h
  obtain rfl : v = Value.ref a := rx
  obtain rfl : u = Value.ref b := ry
  obtain ⟨_, ya, va, ra, da⟩ := (show ObjOk X.prog X.w H s.heap a (.dK ks) from I.hok a _ ea)
  obtain ⟨_, yb, vb, rb, db⟩ := (show ObjOk X.prog X.w H s.heap b (.dK []) from I.hok b _ eb)
  have hlb : vb.length = 0 := by rw [← rb.length]; rfl
  have hla : va.length = ks.length := ra.length.symm
  cases ks with
  | nil => exact PySem.W.keq_ne (knd := mixKind X.prog X.w) (r := true) ya yb da db hu (fun _ => hits_all rb ra nofun) ⟨.bl _, H, I, by simp [hla, hlb, L2.RelV], q⟩
  | cons p ks =>
    refine PySem.W.keq_ne (knd := mixKind X.prog X.w) (r := false) ya yb da db hu (fun e => ?_) ⟨.bl _, H, I, by simp [L2.RelV], q⟩
    rw [hla, hlb] at e
    cases e
/-! ### d.update(e), two dicts -/
def rDUpd : V → List V → Hp → VK → Prop := fun x xs H Q => ∃ a b ks ls, x = .ref a ∧ xs = [.ref b] ∧ a ≠ b ∧ H a = some (.dK ks) ∧ H b = some (.dK ls) ∧ ks.length + ls.length ≤ sizeLine ∧ Q .non (upd H a (.dK (mergeK ks ls)))
theorem mt_dupd : MtR X "dict.update" rDUpd := by
  intro pins s σ H x xs v us Q I rx rv h
  obtain ⟨a, b, ks, ls, rfl, rfl, hne, ea, eb, hz, q⟩ := h
  obtain rfl : v = Value.ref a := rx
  obtain ⟨u, rfl, ru⟩ := vals1 rv
  obtain rfl : u = Value.ref b := ru
  obtain ⟨z1, ya, va, ra, da⟩ := (show ObjOk X.prog X.w H s.heap a (.dK ks) from I.hok a _ ea)
  obtain ⟨z2, yb, vb, rb, db⟩ := (show ObjOk X.prog X.w H s.heap b (.dK ls) from I.hok b _ eb)
  refine call_meetsIn PySem.F.slot_dict_update da.typeIs PySem.F.entry_dict_update (PySem.F.args_dict_update_2 _ _) (meets_dict_update (mixKind X.prog X.w) a b hne yb)
    ⟨va, vb, da, db, by rw [← ra.length, ← rb.length]; exact hz, fun h' da' db' sb => ?_⟩
  have hob : ∃ u, h'.get? a = some u := by
    obtain ⟨o, _, _, e, _⟩ := id da'
    exact ⟨o, e⟩
  have I' : Inv X pins σ (upd H a (.dK (mergeK ks ls))) { s with heap := h', toks := s.toks } :=
    I.write (x := a) (e := a) (by rw [ea]; trivial) (.inl rfl) (fun b' o hb e => (sb.2 b' hb).trans e) hob
      (show ObjOk X.prog X.w (upd H a (.dK (mergeK ks ls))) h' a (.dK (mergeK ks ls)) from ⟨Nat.le_trans (length_mergeK ls ks) hz, ya, _, KV.merge rb ra, da'⟩)
  exact ⟨.non, _, I', rfl, q⟩
/-! ### len(set(t)), t a tuple of unlike ints -/
def tLenSetT (K : PySem.W.Frag) (ta : TE) : TE := fun σ H Q => ta σ H fun x H1 => ∃ (l : Addr) (ns : List Int), x = .ref l ∧ SqT K H1 l (ns.map V.int) ∧ ns.Nodup ∧ ns.length ≤ 1000 ∧ Q (.int (ns.length : Nat)) H1
theorem pe_lenSetT {a : Expr} {ta : TE} {p p2 q pos : Pos} (hg : Gl X "len") (hm : X.mg "len" = none) (hg2 : Gl X "set") (hm2 : X.mg "set" = none) (ha : PE X a ta) (hc : X.calm = true := by rfl)
    (na : starEach [a] X.env = (false, eval a X.env) :: starEach [] X.env := by rfl) : PE X (.Call (.Name "len" p) [.Call (.Name "set" p2) [a] [] q] [] pos) (tLenSetT X.K ta) := by
  refine ⟨fun pins s σ H Q I h => ?_⟩
  refine Call_ (ld_blt I hg hm boot_len ?_)
  refine PyProof.Rows.callWith_builtin1 (PyProof.Rows.args_cons ?_ rfl) rfl rfl
  refine Call_ (ld_blt I hg2 hm2 boot_set ?_)
  refine PyProof.Rows.callWith_type1 (PyProof.Rows.args_cons (thn (ha.run pins s σ H _ I h) fun v s1 hq => PyProof.Rows.args_nil ?_) na) na rfl
  obtain ⟨x, H1, I1, r1, l, ns, rfl, hq, hnd, hl, q1⟩ := hq
  obtain rfl : v = Value.ref l := r1
  obtain ⟨its, r, pt, hz⟩ := I1.tuple hq
  obtain ⟨ot, hot, hoc, hon, hod⟩ := id pt
  refine call_set_tupI ns (I1.ok.hd hc) (show s1.heap.IsTuple l its.toArray from ⟨ot, hot, hoc, hon, hod⟩) (by simpa using RZ.intsAre_vals r) (by unfold scanBound; omega) fun h' tk c R1 hcn hk => ?_
  refine PyProof.Rows.args_nil ?_
  obtain ⟨o, es, ep, t, ho, hex, hd, g, nd, hm3, hb, hf, hn, _⟩ := R1
  have hsz : es.size = ns.length := by
    have hp : ((es.toList.map keyOf).Perm ns) := (List.perm_ext_iff_of_nodup nd hnd).mpr fun k => by rw [← hm3 k, decide_eq_true_eq]
    have := hp.length_eq
    simpa using this
  have I2 : Inv X pins σ H1 { s1 with heap := h', toks := tk } := I1.kept hk
  exact call_len_set ho hex hd hf (by omega) ⟨.int ns.length, H1, I2.tok _, ⟨_, by rw [hsz]⟩, q1⟩
/-! ### xs[i] op= e, a list -/
theorem get_listP : PGet X (rIxL X.K) := by
  intro pins s σ H x y v u Q I rx ry h
  obtain ⟨p, xs, i, z, rfl, rfl, hq, he, q⟩ := h
  obtain rfl : v = Value.ref p := rx
  obtain ⟨t, rfl⟩ := ry
  obtain ⟨its, r, pl, hz⟩ := I.list hq
  obtain ⟨j, h1, h2, h3, h4, h5⟩ := atI_get he
  obtain ⟨w', ew, rw'⟩ := r.get h2
  have hl := r.length
  have hn := line63
  by_cases h0 : 0 ≤ i
  · have hj : i.toNat = j := by
      rw [seqIndex_of h0 h5] at h1
      exact Option.some.inj h1
    exact wpAny_getItem_list (Q := EP X pins σ Q) pl.isList h0 (by omega) (by rw [hj]; simpa using ew) ⟨z, H, I, rw', q⟩
  · have hj : (i + (its.toArray.size : Int)).toNat = j := by
      rw [seqIndex_neg (by omega) h4] at h1
      rw [List.size_toArray, ← hl]
      exact Option.some.inj h1
    exact wpAny_getItem_list_neg (Q := EP X pins σ Q) pl.isList (by omega) (by rw [List.size_toArray] <;> omega) (by omega) (by rw [hj]; simpa using ew) ⟨z, H, I, rw', q⟩
end
end TB

set_option maxRecDepth 100000
/-! Rules of our own: repr of a dict whose values are data; defs that are called where no repr is under way. -/
namespace TB
open PySem PySem.Spec PyProof.Rows L2
/-! ### repr(d) -/
def keyD : Key → PyData
  | .inl i => .int i
  | .inr x => .str x
mutual
theorem dp_plain {K : PySem.W.Frag} {H : Hp} : ∀ (d : PyData) (v : V), Dp K H v d → d.hasDict = false
  | .none, _, _ => by simp only [PyData.hasDict]
  | .bool _, _, _ => by simp only [PyData.hasDict]
  | .int _, _, _ => by simp only [PyData.hasDict]
  | .str _, _, _ => by simp only [PyData.hasDict]
  | .list ds, _, h => by
    simp only [PyData.hasDict]
    cases h with
    | lst _ ha => exact dps_plain ds _ ha
  | .tuple ds, _, h => by
    simp only [PyData.hasDict]
    cases h with
    | tup _ ha => exact dps_plain ds _ ha
  | .dict _, _, h => by cases h
theorem dps_plain {K : PySem.W.Frag} {H : Hp} : ∀ (ds : List PyData) (vs : List V), DpAll K H vs ds → PyData.hasDictAll ds = false
  | [], _, _ => by simp only [PyData.hasDictAll]
  | d :: ds, _, h => by
    cases h with
    | cons h1 h2 =>
      simp only [PyData.hasDictAll, dp_plain d _ h1, dps_plain ds _ h2, Bool.or_false]
end
/-- the data of a dict with such keys -/
def dctD (kvs : List (Key × V)) (ds : List PyData) : PyData := .dict ((kvs.map fun q => keyD q.1).zip ds)
section
variable {X : Cx}
def rRepr (K : PySem.W.Frag) : List V → Hp → VK → Prop := fun xs H Q => ∃ a kvs ds, xs = [V.ref a] ∧ H a = some (.dK kvs) ∧ DpAll K H (kvs.map (·.2)) ds ∧
  (dctD kvs ds).showable = true ∧ (dctD kvs ds).shown.length ≤ sizeLine ∧ (dctD kvs ds).depth ≤ 30 ∧ Q (.str (dctD kvs ds).shown) H
theorem pairs_reads {prog : Program} {w : World} {h : Heap} : ∀ {es : List DictEntry} {vs : List (Key × Value)} {kvs : List (Key × V)}, Pairs (mixKind prog w) es vs → KV kvs vs →
    ReadsAll h (es.map (·.key)) (kvs.map fun q => keyD q.1) [] ∧ Vals (kvs.map (·.2)) (es.map (·.val))
  | _, _, _, .nil, .nil => ⟨.nil, .nil⟩
  | _, _, _, .cons (e := en) hk hv ht, .cons (a := q) hr htr => by
    obtain ⟨r1, r2⟩ := pairs_reads (h := h) ht htr
    refine ⟨?_, ?_⟩
    · obtain ⟨e1, _⟩ := hr
      have hk' : keyIs q.1 en.key = true := by rw [e1]; exact hk
      rcases keyIs_shape hk' with ⟨i, t, e2, e3⟩ | ⟨x, t, e2, e3⟩
      · rw [List.map_cons, List.map_cons, e3, e2]
        exact ReadsAll.cons (as := []) (bs := []) (.int i t) r1
      · rw [List.map_cons, List.map_cons, e3, e2]
        exact ReadsAll.cons (as := []) (bs := []) (.str x t) r1
    · rw [List.map_cons, List.map_cons]
      refine .cons ?_ r2
      rw [hv]
      exact hr.2
theorem call_reprD (hgd : X.A.guards = some []) (hu : X.A.units + 100 < cLine) : CallR X (.builtin "repr") (rRepr X.K) := by
  intro pins s σ H xs us Q I r h
  obtain ⟨a, kvs, ds, rfl, ha, hd, hsh, hsz, hdp, q⟩ := h
  obtain ⟨u, rfl, ru⟩ := vals1 r
  obtain rfl : u = Value.ref a := ru
  obtain ⟨z1, ya, va, ra, o, es, ep, ho, hex, hdat, hks, hps, hnd⟩ := (show ObjOk X.prog X.w H s.heap a (.dK kvs) from I.hok a _ ha)
  obtain ⟨r1, r2⟩ := pairs_reads (h := s.heap) hps ra
  obtain ⟨bs, r3⟩ := Dp.readsAll I ds _ _ hd r2
  have hlen : (kvs.map fun q => keyD q.1).length = ds.length := by
    have : ∀ {vs : List V} {ds : List PyData}, DpAll X.K H vs ds → vs.length = ds.length := by
      intro vs ds
      induction ds generalizing vs with
      | nil => intro h; cases h; rfl
      | cons d ds ih =>
        intro h
        cases h with
        | cons _ h2 => simp [ih h2]
    have := this hd
    simpa using this
  have e1 : ((kvs.map fun q => keyD q.1).zip ds).map (·.1) = kvs.map fun q => keyD q.1 := List.map_fst_zip (Nat.le_of_eq hlen)
  have e2 : ((kvs.map fun q => keyD q.1).zip ds).map (·.2) = ds := List.map_snd_zip (Nat.le_of_eq hlen.symm)
  generalize hkv : (kvs.map fun q => keyD q.1).zip ds = pkv at e1 e2
  have hD : dctD kvs ds = .dict pkv := by unfold dctD; rw [hkv]
  rw [hD] at hsh hsz hdp q
  have h4 : ReadsAll s.heap (es.toList.map (·.key)) (pkv.map (·.1)) [] := by rw [e1]; exact r1
  have h5 : ReadsAll s.heap (es.toList.map (·.val)) (pkv.map (·.2)) bs := by rw [e2]; exact r3
  have hz' : (dictText (PyData.shownKv pkv)).length ≤ sizeLine := by simpa only [PyData.shown] using hsz
  obtain ⟨hs1, hs2⟩ := PyData.showableKv_split pkv (by simpa [PyData.showable] using hsh)
  obtain ⟨b1, hb1, k1⟩ := ReprAllK.of_readsAll (prog := X.prog) (w := X.w) h4 hs1 (fun _ hm => nomatch hm) (fun t ht => by
    obtain ⟨p, hp, hl⟩ := PyData.shownKv_key_le pkv t ht
    exact Nat.le_trans hl (Nat.le_trans (dictText_mem_le hp) hz'))
  obtain ⟨b2, hb2, k2⟩ := ReprAllK.of_readsAll (prog := X.prog) (w := X.w) h5 hs2 (fun hx => by
    rw [e2, dps_plain ds _ hd] at hx
    cases hx) (fun t ht => by
    obtain ⟨p, hp, hl⟩ := PyData.shownKv_val_le pkv t ht
    exact Nat.le_trans hl (Nat.le_trans (dictText_mem_le hp) hz'))
  have hb : ReadAtMost s.heap (PyData.depthKv pkv) (b1 ++ b2) := (hb1.mono (PyData.depthAll_keys_le pkv)).append (hb2.mono (PyData.depthAll_vals_le pkv))
  have hna : a ∉ b1 ++ b2 := not_mem_of_deeper (.dict ho hex.1 hdat h4 h5) (by simp only [PyData.depth]; omega) hb
  simp only [PyData.depth] at hdp
  refine PySem.call_repr_slot (by omega) (show s.TypeIs (.ref a) "dict" from ⟨o, ho, hex.1⟩) PySem.F.slot_dict_repr ?_
  refine call_dict_reprK ho hex.1 hdat ya hna (ReprEntriesK.of_two es.toList _ _ (k1.more_le (fun b hb => List.mem_append_left _ hb) (PyData.depthAll_keys_le pkv)) (k2.more_le (fun b hb => List.mem_append_right _ hb) (PyData.depthAll_vals_le pkv)))
    (show X.A.in1.guards = some [] from hgd) (fun b _ => Clear.nil b) (by show X.A.units + 1 + _ < cLine; omega) (fun b o e => e) (fun h' u tk hk => ⟨_, _, rfl, ?_⟩) (by rw [← PyData.shownKv_eq]; exact hz')
  refine ⟨.str _, H, I.kept (t' := tk) hk, ⟨u, rfl⟩, ?_⟩
  rw [← PyData.shownKv_eq]
  simpa only [PyData.shown] using q
end
end TB

set_option maxRecDepth 100000
/-! Defs that are called while no repr is under way (A.guards = some []), and the end of the law's row over such a def. -/
namespace TB
open PySem PySem.Spec PyProof.Rows L2
/-- as FnOk, for calls where no guard stands -/
structure FnG (P : Program) (w : World) (K : PySem.W.Frag) (mg : Str → Option Value) (base : Heap) (k : Nat) (f : Addr) (fd : FuncData) (ps : List Str) (sp : Sp) : Prop where
  len : ∀ vs H Q E, sp vs H Q E → vs.length = ps.length
  run : ∀ (A : Around) (outer : List Env) (s : Shared) (H : Hp) (args : Args) (us : List Value) (vs : List V) (Q : VK) (E : XK), A.guards = some [] → Room k A → Env0 P w K mg base A outer s H →
    BindsTo s fd args (ps.zip us) → Vals vs us → sp vs H Q E → codeAny (model P w) A (.call (.ref f) args) (CR CX0 outer P w H s Q E) s
section
variable {P : Program} {w : World} {K : PySem.W.Frag} {mg : Str → Option Value} {base : Heap}
theorem okG {x qual : Str} {params : Arguments} {body : List Stmt} {scope : Scope} {dvs : List V} {kws : List (Str × V)} {f : Addr} {fd : FuncData} {N ps : List Str} {k : Nat} {sp : Sp}
    (F : FunD K x qual params body scope dvs kws f fd) (S : FnScope N ps scope) (len : ∀ vs H Q E, sp vs H Q E → vs.length = ps.length)
    (hbody : ∀ (cdv : Value) (A : Around) (outer : List Env) (s : Shared) (H : Hp) (vs : List V) (Q : VK) (E : XK), A.guards = some [] → Room k (A.deeper (envOfC qual scope s.heap.objs.size f cdv)) → sp vs H Q E →
      ∃ t, PSs (cxOf CX0 P w K mg base N qual scope f cdv A outer s H E) body t ∧ t { nx := fun _ H' => Q .non H', rt := Q } (start N vs) H) : FnG P w K mg base (k + 1) f fd ps sp := by
  obtain ⟨oc, od, dV, kV, doc, pm, an, cdv, ct, osl, hfd, lk, hcd, _, _⟩ := F.ex
  subst hfd
  refine ⟨len, fun A outer s H args us vs Q E hg hr env hb rel hsp => ?_⟩
  have inK : K.In s.heap := env.mod.kin.keeps fun b o e => (env.bs b o e).1
  have noLim : s.heap.NoLimit := env.mod.nolimit.keeps fun b o e => (env.bs b o e).1
  have kinds : ∀ y ∈ ps.zip us, scope.names.lookup y.1 = some .local ∨ (scope.names.lookup y.1 = some .cell ∧ ((cellsFrom (s.heap.objs.size + 1) scope.names []).lookup y.1).isSome = true) := by
    rintro ⟨n, v⟩ hy
    rcases S.par n (List.of_mem_zip hy).1 with z | z
    · exact .inl z
    · exact .inr ⟨z, PySem.W.cellsFrom_some _ _ _ (.inl z)⟩
  refine codeAny_call_function hr.depth (inK _ _ lk) rfl S.co S.gen rfl (PySem.W.codeRec_of inK hcd) (hb _ _ _ _ (wpAny_newFunctionEnv_cells S.kind kinds fun en hen s1 made => ?_))
  subst hen
  refine ⟨noLim.keeps made.toInCall.keep, codeAny_func ?_⟩
  obtain ⟨t, reads, holds⟩ := hbody cdv A outer s H vs Q E hg (hr.deeper _) hsp
  have I : Inv (cxOf CX0 P w K mg base N qual scope f cdv A outer s H E) [] (start N vs) H s1 := inv_start S hr.hd env (len _ _ _ _ hsp) rel made
  have out : ∀ {σ' : List (Option V)} {H' : Hp} {v : V} {u : Value} {s' : Shared}, Inv (cxOf CX0 P w K mg base N qual scope f cdv A outer s H E) [] σ' H' s' → L2.RelV v u → Q v H' → CE outer P w H s Q u s' :=
    fun {σ' H' v u s'} J rv q => ⟨v, H', J.os, J.bare, J.base, J.hok, rv, q⟩
  refine wpAny_mono (reads.run [] s1 (start N vs) H _ I holds) (fun fl s' end_ => ?_) fun _ _ z => z
  match fl, end_ with
  | .ret u, ⟨v, σ', H', J, rv, q⟩ => exact out J rv q
  | .next, ⟨σ', H', J, q⟩ => exact out (v := V.non) (u := Value.none) J rfl q
  | .brk, ⟨_, _, _, q⟩ => exact q.elim
  | .cont, ⟨_, _, _, q⟩ => exact q.elim
end
section
variable {X : Cx} {k : Nat} {f : Addr} {fd : FuncData} {ps : List Str} {sp : Sp} {E : XK} {x : Str} {p pos : Pos} {e : Expr} {es : List Expr} {t : TA}
/-- f(e, ..) of such a def -/
theorem pe_callG (F : FnG X.prog X.w X.K X.mg X.base k f fd ps sp) (hgd : X.A.guards = some []) (hr : Room k X.A) (hg : Gl X x) (hm : X.mg x = some (.ref f)) (hk : PySem.W.keepIn X.K (.ref f) = true) (hb : Binds X.K fd ps [])
    (ha : PA X (e :: es) t) (hdb : (x == ("__debug__" : Str)) = false := by decide) (he : starEach (e :: es) X.env = (false, eval e X.env) :: starEach es X.env := by rfl) (hpl : (backTo pos (starEach es X.env)).any (·.1) = false := by rfl) :
    PE X (.Call (.Name x p) (e :: es) [] pos) (tCall sp [] E0 t) := by
  refine ⟨fun pins s σ H Q I h => ?_⟩
  refine wpAny_Call_Name_kw (ld_glob I hg hm (PySem.W.callWith_K (h₀ := X.base) I.ok.mod.kin hk (thn (ha.run pos pins s σ H _ I h) fun us s1 hq => ?_) he hpl) hdb)
  obtain ⟨vs, H1, I1, rel, q⟩ := hq
  rw [List.append_nil] at q
  refine ⟨I1.kIn, wpAny_call (codeAny_mono (F.run X.A X.stack s1 H1 ⟨us, []⟩ us vs Q E0 hgd hr I1.env0 ?_ rel q) fun r s' back => ?_)⟩
  · have hl : (us ++ []).length = ps.length := by rw [List.append_nil, ← rel.length]; exact F.len _ _ _ _ q
    have := hb s1 us I1.kIn hl
    rw [List.append_nil] at this
    exact this
  · match r, back with
    | .ok (.ret u), z => exact I1.after z
    | .ok .next, z => exact False.elim z
    | .ok .brk, z => exact False.elim z
    | .ok .cont, z => exact False.elim z
    | .error _, z => exact False.elim z
end
/-- the law's call, behind the top: a def as above, handed the script -/
theorem law_callG {P : Program} {w : World} {K : PySem.W.Frag} {mg mb : Str → Option Value} {k : Nat} {fa a : Addr} {fd : FuncData} {x : Str} {sp : Sp} {s₁ : Shared} {vs : List Value} {ns : List Int}
    (KX : K.In s₁.heap) (hns : s₁.heap.Ns mainGlobals mg) (hb : s₁.heap.Ns builtinsNs mb) (hbb : ∀ x : Str, x ≠ "__name__" → mb x = bootBuiltins x) (hlim : s₁.heap.NoLimit) (hg : s₁.gens = #[])
    (ha : s₁.heap.get? a = some { cls := .type "list", data := .seq vs.toArray }) (hi : IntsAre vs ns) (hl : ns.length ≤ sizeLine) (hr : Room k callerA)
    (F : ∀ base : Heap, K.In base → base.Ns mainGlobals mg → FnG P w K mg base k fa fd [x] sp) (hbind : ∀ (s : Shared) (u : Value), BindsTo s fd ⟨[u], []⟩ [(x, u)])
    (hsp : ∀ H : Hp, Only H → SqL K H a (ns.map V.int) → sp [.ref a] H (fun v _ => v = .bl true) fun _ _ _ => False) :
    codeAny (model P w) callerA (.call (.ref fa) ⟨[.ref a], []⟩) (fun r s' => r = .ok (.ret (.bool true)) ∧ OldK s₁.heap s'.heap ∧ s'.os = s₁.os ∧ AllBare s'.gens) s₁ := by
  have rv := vals_ints hi
  have go : ∀ H : Hp, Only H → SqL K H a (ns.map V.int) → HOk P w H s₁.heap → (∀ b, H b ≠ none → b = a) → (H a ≠ none → K.lookup a = none) →
      codeAny (model P w) callerA (.call (.ref fa) ⟨[.ref a], []⟩) (fun r s' => r = .ok (.ret (.bool true)) ∧ OldK s₁.heap s'.heap ∧ s'.os = s₁.os ∧ AllBare s'.gens) s₁ := by
    intro H only hS ok atA offK
    have away : ∀ {b : Addr} {o : Obj} {es : Array DictEntry} {ep : Nat}, s₁.heap.get? b = some o → o.data = .dict es ep → H b = none := by
      intro b o es ep e d
      cases q : H b with
      | none => rfl
      | some u =>
        obtain rfl : b = a := atA b (by rw [q]; simp)
        rw [ha] at e
        cases e
        exact nomatch (show Data.seq vs.toArray _ = Data.dict es ep from d)
    have nsH : ∀ {b : Addr} {m : Str → Option Value}, s₁.heap.Ns b m → (hidT s₁.heap H).Ns b m := fun {b m} ⟨o, es, ep, e, d, r⟩ => ⟨o, es, ep, hidT_get e (away e d), d, r⟩
    have kH : K.In (hidT s₁.heap H) := fun b o e => hidT_get (KX b o e) (by
      cases q : H b with
      | none => rfl
      | some u =>
        obtain rfl : b = a := atA b (by rw [q]; simp)
        rw [offK (by rw [q]; simp)] at e
        cases e)
    obtain ⟨mc, l1, l2⟩ := hlim
    have M : Mod K mg (hidT s₁.heap H) := ⟨kH, nsH hns, ⟨mb, nsH hb, hbb⟩, ⟨mc, nsH l1, l2⟩⟩
    have env : Env0 P w K mg (hidT s₁.heap H) callerA [] s₁ H := ⟨rfl, M, fun b o e => of_hidT e, Nat.le_of_eq (hidT_size _ _), trivial, (fun b hb => absurd (show b ∈ ([] : List Addr) from hb) (by simp)), ok, .of_eq hg⟩
    refine codeAny_mono ((F _ kH (nsH hns)).run callerA [] s₁ H ⟨[.ref a], []⟩ [.ref a] [.ref a] _ _ rfl hr env (hbind s₁ (.ref a)) (.cons rfl .nil) (hsp H only hS)) fun r s' back => ?_
    match r, back with
    | .error _, z => exact False.elim z
    | .ok .next, z => exact False.elim z
    | .ok .brk, z => exact False.elim z
    | .ok .cont, z => exact False.elim z
    | .ok (.ret u), ⟨v, H', os, bare, un, ok', r', q⟩ =>
      obtain rfl : v = .bl true := q
      obtain rfl : u = Value.bool true := r'
      refine ⟨rfl, OldK.of_keep fun b o e => ?_, os, bare⟩
      cases q : H b with
      | none => exact un.keep b o e q (fun z => absurd (show b ∈ ([] : List Addr) from z) (by simp)) (fun z => absurd z (by simp))
      | some u =>
        rcases only b with z | ⟨ob, xs, z⟩
        · rw [q] at z
          cases z
        · obtain ⟨e1, _⟩ := ok b _ z
          obtain ⟨e2, _⟩ := ok' b _ (un.frzs b ob _ z)
          rw [e] at e1
          cases e1
          exact e2
  cases hk : K.lookup a with
  | some o =>
    have e := KX a o hk
    rw [ha] at e
    cases e
    exact go (fun _ => none) (fun _ => .inl rfl) (.inr ⟨_, vs.toArray, _, hk, rfl, rfl, rfl, by rw [List.size_toArray, hi.length]; exact hl, by simpa using rv⟩) (fun b u z => by cases (show (none : Option HO) = some u from z)) (fun b z => absurd rfl z) fun z => absurd rfl z
  | none =>
    refine go (fun b => if b = a then some (.frz { cls := .type "list", data := .seq vs.toArray } (.lst (ns.map V.int))) else none) (fun b => ?_) (.inl (.inr ⟨{ cls := .type "list", data := .seq vs.toArray }, if_pos rfl⟩)) (fun b u z => ?_) (fun b z => ?_) fun _ => hk
    · by_cases hb : b = a
      · exact .inr ⟨_, _, if_pos hb⟩
      · exact .inl (if_neg hb)
    · by_cases hb : b = a
      · cases (if_pos hb).symm.trans z
        subst hb
        exact ⟨ha, by rw [List.length_map]; exact hl, vs, _, rv, ha⟩
      · cases (if_neg hb).symm.trans z
    · by_cases hb : b = a
      · exact hb
      · exact absurd (if_neg hb) z
/-- the end of the row -/
theorem walk_ofG {l : PySem.W.OpenLaw} {n k : Nat} {q : Program} {loose : List Str} {XP : (Str → Option Value) → Heap → Prop} {YP : World → Heap → Prop} {d : DefRec} {x : Str}
    (hn : l.most = some n) (hn2 : n ≤ sizeLine) (hdf : d.params.defaults = []) (hr : Room k callerA)
    (F : ∀ (w : World) (mg : Str → Option Value) (fa : Addr) (h : Heap), YP w h → h.Ns mainGlobals mg → mg d.name = some (.ref fa) →
      ∃ (K : PySem.W.Frag) (fd : FuncData) (sp : Sp), K.In h ∧ (∀ (s : Shared) (u : Value), BindsTo s fd ⟨[u], []⟩ [(x, u)]) ∧
        (∀ (H : Hp) (a : Addr) (ns : List Int), ns.length ≤ n → Only H → SqL K H a (ns.map V.int) → sp [.ref a] H (fun v _ => v = .bl true) fun _ _ _ => False) ∧
        ∀ base : Heap, K.In base → base.Ns mainGlobals mg → FnG l.prog w K mg base k fa fd [x] sp) :
    PySem.W.WalkO q loose XP YP l.row.toRowW d [] (fun f vs => PySem.call f vs) := by
  refine Att.attach_call hn hdf fun w s₀ s₁ mg mb fa o pm cd doc a vs ns G Y ho hd hcd hmg hobj hints hlen hg => ?_
  obtain ⟨K, fd, sp, KX, hb, hsp, hF⟩ := F w mg fa _ Y G.T.g hmg
  exact law_callG KX G.T.g G.T.b G.T.builtins G.T.nolimit hg hobj hints (Nat.le_trans hlen hn2) hr hF hb fun H hO hS => hsp H a ns hlen hO hS
end TB

set_option maxRecDepth 100000
set_option maxHeartbeats 4000000
/-! What is said of webs on the heap; how defs are handed on. -/
namespace TB
open PySem PySem.Spec PyProof.Rows L2
abbrev SV := List (Option V)
abbrev nV (n : Nat) : V := V.int (n : Int)
def oV : Option Nat → V
  | none => .non
  | some n => nV n
/-- a tuple of numbers; a web -/
def NumsAt (H : Hp) (a : Addr) (ns : List Nat) : Prop := H a = some (.tup (ns.map nV))
def WebAt (H : Hp) (W : Addr) (web : Web) : Prop := ∃ rs : List Addr, H W = some (.tup (rs.map V.ref)) ∧ rs.length = web.length ∧ ∀ x, x < web.length → H (rs.getD x 0) = some (.tup ((web.getD x []).map oV))
theorem WebAt.same {H H' : Hp} {W : Addr} {web : Web} (h : WebAt H W web) (s : Same H H') : WebAt H' W web := by
  obtain ⟨rs, h1, h2, h3⟩ := h
  exact ⟨rs, s _ _ h1, h2, fun x hx => s _ _ (h3 x hx)⟩
theorem NumsAt.same {H H' : Hp} {a : Addr} {ns : List Nat} (h : NumsAt H a ns) (s : Same H H') : NumsAt H' a ns := s _ _ h
theorem same_new {H : Hp} {p : Addr} {o : HO} (h : H p = none) : Same H (upd H p o) := fun b o' e => by
  rw [upd_ne (ne_of_none e h)]
  exact e
theorem map_get {α : Type} (f : α → V) {l : List α} {i : Nat} {a : α} (h : l[i]? = some a) : (l.map f)[i]? = some (f a) := by
  rw [List.getElem?_map, h]
  rfl
theorem getD_get {α : Type} {l : List α} {i : Nat} {d : α} (h : i < l.length) : l[i]? = some (l.getD i d) := by
  rw [List.getD_eq_getElem?_getD, List.getElem?_eq_getElem h]
  rfl
/-- a def of the text, as it stands behind the top -/
abbrev FnP (K : PySem.W.Frag) (x q : Str) (st : Stmt) (f : Addr) (fd : FuncData) : Prop := FunD K x q (defArgs st) (defBody st) (defScope st) [] [] f fd
/-- a global name is a def that keeps a promise -/
def Has (P : Program) (w : World) (K : PySem.W.Frag) (mg : Str → Option Value) (base : Heap) (k : Nat) (x : Str) (ps : List Str) (sp : Sp) : Prop :=
  ∃ f fd, mg x = some (.ref f) ∧ PySem.W.keepIn K (.ref f) = true ∧ Binds K fd ps [] ∧ FnOk P w K mg base CX0 k f fd ps sp
/-- a global name is a def of the text -/
def Stands (K : PySem.W.Frag) (mg : Str → Option Value) (x : Str) (st : Stmt) : Prop := ∃ f fd, mg x = some (.ref f) ∧ FnP K x x st f fd
/-- the built-in names that the text doesn't bind -/
structure Tx (mg : Str → Option Value) : Prop where
  len : mg "len" = none
  isi : mg "isinstance" = none
  int : mg "int" = none
  bool : mg "bool" = none
  tuple : mg "tuple" = none
  all : mg "all" = none
  enum : mg "enumerate" = none
  set : mg "set" = none
  dict : mg "dict" = none
  range : mg "range" = none
  min : mg "min" = none
  max : mg "max" = none
  list : mg "list" = none
  repr : mg "repr" = none
  nodes : ∃ t, mg "MOST_NODES" = some (.int 60 t)
  ties : ∃ t, mg "MOST_TIES" = some (.int 8 t)
  walkers : ∃ t, mg "MOST_WALKERS" = some (.int 6 t)
section
variable {P : Program} {w : World} {K : PySem.W.Frag} {mg : Str → Option Value} {base : Heap}
/-- THE STEP from a def to what it keeps -/
theorem Stands.has {x : Str} {st : Stmt} {N ps : List Str} {k : Nat} {sp : Sp} (S : Stands K mg x st) (sc : FnScope N ps (defScope st))
    (hb : ∀ (kV doc pm : Value) (an : Option Addr) (cdv ct : Value) (us : List Value), us.length = ps.length → bindArgs (PySem.W.fnOf x x (defArgs st) (defBody st) (defScope st) .none kV doc pm an cdv ct) ⟨us, []⟩ = pure (ps.zip us))
    (len : ∀ vs H Q E, sp vs H Q E → vs.length = ps.length)
    (body : ∀ (f : Addr) (cdv : Value) (A : Around) (outer : List Env) (s : Shared) (H : Hp) (vs : List V) (Q : VK) (E : XK), Room k (A.deeper (envOfC x (defScope st) s.heap.objs.size f cdv)) → sp vs H Q E →
      ∃ t, PSs (cxOf CX0 P w K mg base N x (defScope st) f cdv A outer s H E).nox (defBody st) t ∧ t { nx := fun _ H' => Q .non H', rt := Q } (start N vs) H) : Has P w K mg base (k + 1) x ps sp := by
  obtain ⟨f, fd, hm, F⟩ := S
  refine ⟨f, fd, hm, F.kp, F.bindsN hb, F.ok sc len fun cdv A outer s H vs Q E hr h => ?_⟩
  obtain ⟨t, a, b⟩ := body f cdv A outer s H vs Q E hr h
  exact ⟨t, a.nox, b⟩
theorem Has.mono {j k : Nat} {x : Str} {ps : List Str} {sp : Sp} (h : Has P w K mg base j x ps sp) (l : j ≤ k) : Has P w K mg base k x ps sp := by
  obtain ⟨f, fd, a, b, c, d⟩ := h
  exact ⟨f, fd, a, b, c, d.mono l⟩
end
/-! ### is_whole, is_among -/
def spWhole : Sp := fun vs H Q _ => ∃ i : Int, vs = [.int i] ∧ Q (.bl true) H
def spAmong : Sp := fun vs H Q _ => ∃ i a b : Int, vs = [.int i, .int a, .int b] ∧ Q (.bl (decide (a ≤ i) && decide (i ≤ b))) H
section
variable {P : Program} {w : World} {K : PySem.W.Frag} {mg : Str → Option Value} {base : Heap}
theorem sc_is_whole : FnScope ["thing"] ["thing"] (defScope s_is_whole) := ⟨rfl, rfl, rfl, by decide +kernel, rfl, by decide +kernel, by decide +kernel⟩
theorem has_is_whole (T : Tx mg) (S : Stands K mg "is_whole" s_is_whole) : Has P w K mg base 1 "is_whole" ["thing"] spWhole := by
  refine S.has sc_is_whole (fun _ _ _ _ _ _ us hl => match us, hl with | [_], _ => rfl) (fun vs H Q E h => ?_) (fun f cdv A outer s H vs Q E hr h => ?_)
  · obtain ⟨i, rfl, _⟩ := h
    rfl
  · obtain ⟨i, rfl, k⟩ := h
    refine ⟨_, pss_one (ps_ret (pe_and (pe_callB call_isi (by rfl) T.isi boot_isinstance (pa_cons (pv 0) (pa_cons (pe_bltn (v := .ty "int") (by rfl) T.int boot_int rfl) pa_nil)))
      (pe_one (pe_not (pe_callB call_isi (by rfl) T.isi boot_isinstance (pa_cons (pv 0) (pa_cons (pe_bltn (v := .ty "bool") (by rfl) T.bool boot_bool rfl) pa_nil))))))), ?_⟩
    refine ⟨_, rfl, _, .ty "int", _, _, true, rfl, .ty _, .base (.int i), kit_ty (by decide +kernel), true, rfl, iteT ?_⟩
    exact ⟨_, rfl, _, _, _, _, false, rfl, .ty _, .base (.int i), kit_ty (by decide +kernel), false, rfl, k⟩
theorem sc_is_among : FnScope ["thing", "least", "most"] ["thing", "least", "most"] (defScope s_is_among) := ⟨rfl, rfl, rfl, by decide +kernel, rfl, by decide +kernel, by decide +kernel⟩
theorem has_is_among (T : Tx mg) (S : Stands K mg "is_among" s_is_among) (h1 : Has P w K mg base 1 "is_whole" ["thing"] spWhole) : Has P w K mg base 2 "is_among" ["thing", "least", "most"] spAmong := by
  obtain ⟨f1, fd1, g1, k1, b1, G1⟩ := h1
  refine S.has sc_is_among (fun _ _ _ _ _ _ us hl => match us, hl with | [_, _, _], _ => rfl) (fun vs H Q E h => ?_) (fun f cdv A outer s H vs Q E hr h => ?_)
  · obtain ⟨i, a, b, rfl, _⟩ := h
    rfl
  · obtain ⟨i, a, b, rfl, k⟩ := h
    refine ⟨_, pss_one (ps_ret (pe_and (pe_call G1 hr (by rfl) g1 k1 b1 .nil pass0 (pa_cons (pv 0) pa_nil)) (pe_one (pe_chain op_le op_le (pv 1) (pv 0) (pv 2))))), ?_⟩
    refine ⟨_, rfl, i, rfl, true, rfl, iteT ⟨_, rfl, _, rfl, _, _, rfl, rfl, _, rfl, ?_⟩⟩
    by_cases c : a ≤ i
    · rw [decide_eq_true c] at k ⊢
      exact iteT ⟨_, rfl, _, _, rfl, rfl, k⟩
    · rw [decide_eq_false c] at k ⊢
      exact iteF k
end
end TB

set_option maxRecDepth 100000
/-! A list of data against the empty list. -/
namespace TB
open PySem PySem.Spec PyProof.Rows L2
/-- the values are data, not deep -/
def Dat (K : PySem.W.Frag) (H : Hp) (xs : List V) : Prop := ∃ ds, DpAll K H xs ds ∧ PyData.canLayAll0 ds = true ∧ PyData.depthAll ds ≤ 8
section
variable {K : PySem.W.Frag} {H : Hp}
theorem Dat.nil : Dat K H [] := ⟨[], .nil, by simp [PyData.canLayAll0], by simp [PyData.depthAll]⟩
theorem Dat.cons {x : V} {xs : List V} {d : PyData} (h1 : Dp K H x d) (h2 : d.canLay0 = true) (h3 : d.depth ≤ 8) (h : Dat K H xs) : Dat K H (x :: xs) := by
  obtain ⟨ds, a, b, c⟩ := h
  exact ⟨d :: ds, .cons h1 a, by simp [PyData.canLayAll0, h2, b], by simp only [PyData.depthAll]; omega⟩
theorem Dat.all {f : V → Option PyData} : ∀ {xs : List V}, (∀ x ∈ xs, ∃ d, Dp K H x d ∧ d.canLay0 = true ∧ d.depth ≤ 8) → Dat K H xs
  | [], _ => Dat.nil
  | x :: xs, h => by
    obtain ⟨d, a, b, c⟩ := h x (by simp)
    exact Dat.cons a b c (Dat.all (f := f) fun y hy => h y (by simp [hy]))
theorem nums_data : ∀ ns : List Nat, DpAll K H (ns.map nV) (ns.map fun n : Nat => PyData.int n) ∧ PyData.canLayAll0 (ns.map fun n : Nat => PyData.int n) = true ∧ PyData.depthAll (ns.map fun n : Nat => PyData.int n) = 0
  | [] => ⟨.nil, by simp [PyData.canLayAll0], by simp [PyData.depthAll]⟩
  | n :: ns => by
    obtain ⟨a, b, c⟩ := nums_data ns
    refine ⟨.cons (.int n) a, ?_, ?_⟩
    · rw [List.map_cons]
      simp only [PyData.canLayAll0, PyData.canLay0, b, Bool.and_self]
    · rw [List.map_cons]
      simp only [PyData.depthAll, PyData.depth, c, Nat.max_self]
theorem Dat.nums (ns : List Nat) : Dat K H (ns.map nV) := by
  obtain ⟨a, b, c⟩ := nums_data (K := K) (H := H) ns
  exact ⟨_, a, b, by omega⟩
theorem eqv_nil (ds : List PyData) : PyData.eqv (.list ds) (.list []) = ds.isEmpty := by
  cases ds with
  | nil => simp [PyData.eqv, PyData.eqvAll]
  | cons d ds => simp [PyData.eqv, PyData.eqvAll]
theorem dpAll_len : ∀ {vs : List V} {ds : List PyData}, DpAll K H vs ds → vs.length = ds.length
  | _, [], h => by
    cases h
    rfl
  | _, _ :: _, h => by
    cases h with
    | cons _ h2 => simp [dpAll_len h2]
end
section
variable {X : Cx}
def rNeE (K : PySem.W.Frag) : R2 := fun x y H Q => ∃ a b xs, x = .ref a ∧ y = .ref b ∧ SqL K H a xs ∧ Dat K H xs ∧ SqL K H b [] ∧ Q (.bl (!xs.isEmpty)) H
def rEqE (K : PySem.W.Frag) : R2 := fun x y H Q => ∃ a b xs, x = .ref a ∧ y = .ref b ∧ SqL K H a xs ∧ Dat K H xs ∧ SqL K H b [] ∧ Q (.bl xs.isEmpty) H
theorem op_neE (hu : X.A.units + 64 < cLine) : OpR X (compareOp .NotEq) (rNeE X.K) := by
  intro pins s σ H x y v u Q I rx ry h
  obtain ⟨a, b, xs, rfl, rfl, ha, ⟨ds, h1, h2, h3⟩, hb, q⟩ := h
  refine op_neD hu pins s σ H _ _ v u Q I rx ry ⟨.list ds, .list [], .lst ha h1, .lst hb .nil, ?_, ?_, ?_⟩
  · unfold SeqAt.shaped
    rw [Bool.and_eq_true]
    exact ⟨by simp only [PyData.canLay0]; exact h2, decide_eq_true (by simp only [PyData.depth]; omega)⟩
  · unfold SeqAt.shaped
    rw [Bool.and_eq_true]
    exact ⟨by simp [PyData.canLay0, PyData.canLayAll0], decide_eq_true (by simp [PyData.depth, PyData.depthAll])⟩
  · rw [eqv_nil]
    have e : ds.isEmpty = xs.isEmpty := by
      have := dpAll_len h1
      cases ds <;> cases xs <;> simp_all
    rw [e]
    exact q
theorem op_eqE (hu : X.A.units + 64 < cLine) : OpR X (compareOp .Eq) (rEqE X.K) := by
  intro pins s σ H x y v u Q I rx ry h
  obtain ⟨a, b, xs, rfl, rfl, ha, ⟨ds, h1, h2, h3⟩, hb, q⟩ := h
  refine op_eqD hu pins s σ H _ _ v u Q I rx ry ⟨.list ds, .list [], .lst ha h1, .lst hb .nil, ?_, ?_, ?_⟩
  · unfold SeqAt.shaped
    rw [Bool.and_eq_true]
    exact ⟨by simp only [PyData.canLay0]; exact h2, decide_eq_true (by simp only [PyData.depth]; omega)⟩
  · unfold SeqAt.shaped
    rw [Bool.and_eq_true]
    exact ⟨by simp [PyData.canLay0, PyData.canLayAll0], decide_eq_true (by simp [PyData.depth, PyData.depthAll])⟩
  · rw [eqv_nil]
    have e : ds.isEmpty = xs.isEmpty := by
      have := dpAll_len h1
      cases ds <;> cases xs <;> simp_all
    rw [e]
    exact q
end
end TB

set_option maxRecDepth 100000
set_option maxHeartbeats 4000000
/-! What refuses nothing here: need_web, need_roots, need_sharing. -/
namespace TB
open PySem PySem.Spec PyProof.Rows L2
theorem same_out {H0 H : Hp} {p : Addr} {o : HO} (s : Same H0 H) (h : H0 p = none) : Same H0 (upd H p o) := fun b o' e => by
  rw [upd_ne (ne_of_none e h)]
  exact s _ _ e
theorem take_get {α : Type} {l : List α} {i : Nat} {x : α} (h : l[i]? = some x) : l.take (i + 1) = l.take i ++ [x] := by
  rw [List.take_add_one, h]
  rfl
def spRowOf : Sp := fun vs H Q _ => ∃ (a : Addr) (row : List (Option Nat)) (m : Nat), vs = [.ref a, nV m] ∧ H a = some (.tup (row.map oV)) ∧ row.length ≤ 8 ∧ (∀ t, some t ∈ row → t < m) ∧ ∀ H', Same H H' → Q (.bl true) H'
section
variable {P : Program} {w : World} {K : PySem.W.Frag} {mg : Str → Option Value} {base : Heap}
theorem sc_is_row_of : FnScope ["thing", "many", "tie"] ["thing", "many"] (defScope s_is_row_of) := ⟨rfl, rfl, rfl, by decide +kernel, rfl, by decide +kernel, by decide +kernel⟩
theorem has_is_row_of (T : Tx mg) (S : Stands K mg "is_row_of" s_is_row_of) (h1 : Has P w K mg base 2 "is_among" ["thing", "least", "most"] spAmong) : Has P w K mg base 3 "is_row_of" ["thing", "many"] spRowOf := by
  obtain ⟨f1, fd1, g1, k1, b1, G1⟩ := h1
  obtain ⟨tk, hties⟩ := T.ties
  refine S.has sc_is_row_of (fun _ _ _ _ _ _ us hl => match us, hl with | [_, _], _ => rfl) (fun vs H Q E h => ?_) (fun f cdv A outer s H vs Q E hr h => ?_)
  · obtain ⟨a, row, m, rfl, _⟩ := h
    rfl
  · obtain ⟨a, row, m, rfl, ha, hl, ht, k⟩ := h
    have nd := sc_is_row_of.nd
    refine ⟨_, pss_cons (ps_if (PW.pt (pw_or (pt_not (pt_val (pe_callB call_isi (by rfl) T.isi boot_isinstance (pa_cons (pv 0) (pa_cons (pe_bltn (v := .ty "tuple") (by rfl) T.tuple boot_tuple rfl) pa_nil)))))
        (pw_or1 (pt_cmpR op_gt (pe_callB call_len_seq (by rfl) T.len PySem.boot_len (pa_cons (pv 0) pa_nil)) (pe_glob (v := .int 8) (by rfl) hties ⟨_, rfl⟩) (nomark _))))) (pss_one (ps_ret pe_bl)) pss_nil)
      (pss_one (ps_ret (pe_callB (cr_all rfl) (by rfl) T.all boot_all (pa_cons (pe_lc (own := [("tie", 2)]) (g := gName 2) (tt := tYes) rfl nd (pi_tup (pv 0)) (blkOk_by (N := ["thing", "many", "tie"]) (sc := defScope s_is_row_of) (by decide +kernel))
        (fun _ _ _ _ _ => pg_name (i := 2) nd rfl (Or.inl rfl)) (fun _ _ _ _ _ => pts_nil)
        (fun _ _ _ _ _ => pe_or (pe_cmpR op_isN (pv 2) pe_non (nomark _)) (pe_one (pe_call G1 hr (by rfl) g1 k1 b1 .nil pass0 (pa_cons (pv 2) (pa_cons pe_int (pa_cons (pe_op op_sub (pv 1) pe_int) pa_nil)))))))
        pa_nil)))), ?_⟩
    refine ⟨_, rfl, _, _, _, _, true, rfl, .ty _, .base (.tup ha), kit_ty (by decide +kernel), true, rfl, iteF ?_⟩
    refine ⟨_, rfl, a, _, rfl, .inr (SqT.of ha), _, _, rfl, rfl, _, rfl, ?_⟩
    have hle : decide ((8 : Int) < (((row.map oV).length : Nat) : Int)) = false := decide_eq_false (by rw [List.length_map]; omega)
    rw [hle]
    refine iteF ?_
    refine ⟨_, rfl, a, rfl, ⟨_, SqT.of ha⟩, fun D hD => ?_⟩
    refine lc_tup (K := K) (a := a) (xs := row.map oV) (fun i H' => Same H H' ∧ H' D = some (.lst ((row.take i).map fun _ => V.bl true))) ⟨same_new hD, by rw [upd_same]; rfl⟩ (fun i H' _ hP => SqT.of (hP.1 _ _ ha)) (fun i x H' hx hP => ?_) (fun H' hP => ?_)
    · obtain ⟨sm, hDl⟩ := hP
      obtain ⟨o, ho, rfl⟩ : ∃ o, row[i]? = some o ∧ x = oV o := by
        rw [List.getElem?_map] at hx
        cases e : row[i]? with
        | none =>
          rw [e] at hx
          cases hx
        | some o =>
          rw [e] at hx
          exact ⟨o, rfl, (Option.some.inj hx).symm⟩
      have more : ∀ b : Bool, b = true → Same H (upd H' D (.lst ((row.take i).map (fun _ => V.bl true) ++ [V.bl b]))) ∧ upd H' D (.lst ((row.take i).map (fun _ => V.bl true) ++ [V.bl b])) D = some (.lst ((row.take (i + 1)).map fun _ => V.bl true)) := by
        intro b hb
        subst hb
        refine ⟨same_out sm hD, ?_⟩
        rw [upd_same, take_get ho, List.map_append]
        rfl
      have small : ((row.take i).map fun _ => V.bl true).length < sizeLine := by
        rw [List.length_map, List.length_take]
        exact Nat.lt_of_le_of_lt (Nat.min_le_right _ _) (Nat.lt_of_le_of_lt hl (by decide))
      refine ⟨rfl, ?_⟩
      cases o with
      | none =>
        refine ⟨_, rfl, rfl, true, rfl, iteT ⟨_, hDl, small, more _ rfl⟩⟩
      | some t =>
        refine ⟨_, rfl, rfl, false, rfl, iteF ⟨_, rfl, _, rfl, _, _, rfl, rfl, t, 0, _, rfl, _, hDl, small, more _ ?_⟩⟩
        have := ht t (List.mem_of_getElem? ho)
        rw [decide_eq_true (show (0 : Int) ≤ (t : Int) by omega), decide_eq_true (show (t : Int) ≤ (m : Int) - 1 by omega)]
        rfl
    · obtain ⟨sm, hDl⟩ := hP
      rw [List.length_map, List.take_length] at hDl
      refine ⟨_, row.map fun _ => true, rfl, .inl (.inl (by rw [hDl, List.map_map]; rfl)), ?_⟩
      have : ((row.map fun _ => true).all id) = true := by
        rw [List.all_eq_true]
        intro b hb
        obtain ⟨_, _, e⟩ := List.mem_map.mp hb
        rw [← e]
        rfl
      rw [this]
      exact k _ sm
end
end TB

set_option maxRecDepth 100000
set_option maxHeartbeats 4000000
namespace TB
open PySem PySem.Spec PyProof.Rows L2
theorem map_get_inv {α : Type} {f : α → V} {l : List α} {i : Nat} {x : V} (h : (l.map f)[i]? = some x) : ∃ a, l[i]? = some a ∧ x = f a := by
  rw [List.getElem?_map] at h
  cases e : l[i]? with
  | none =>
    rw [e] at h
    cases h
  | some a =>
    rw [e] at h
    exact ⟨a, rfl, (Option.some.inj h).symm⟩
theorem get_getD {α : Type} {l : List α} {i : Nat} {a d : α} (h : l[i]? = some a) : l.getD i d = a ∧ i < l.length := by
  rw [List.getD_eq_getElem?_getD, h]
  exact ⟨rfl, (List.getElem?_eq_some_iff.mp h).1⟩
def spNeedWeb : Sp := fun vs H Q _ => ∃ (W : Addr) (web : Web), vs = [.ref W] ∧ WebAt H W web ∧ WebOk web ∧ ∀ H', Same H H' → Q .non H'
def spIsNode : Sp := fun vs H Q _ => ∃ (W : Addr) (xs : List V) (i : Int), vs = [.ref W, .int i] ∧ H W = some (.tup xs) ∧ Q (.bl (decide (0 ≤ i) && decide (i ≤ (xs.length : Int) - 1))) H
def spNeedRoots : Sp := fun vs H Q _ => ∃ (W R : Addr) (web : Web) (roots : List Nat), vs = [.ref W, .ref R] ∧ WebAt H W web ∧ WebOk web ∧ NumsAt H R roots ∧ RootsOk web roots ∧ ∀ H', Same H H' → Q .non H'
def spNeedSharing : Sp := fun vs H Q _ => ∃ (W R Z : Addr) (web : Web) (roots S : List Nat), vs = [.ref W, .ref R, .ref Z] ∧ WebAt H W web ∧ WebOk web ∧ NumsAt H R roots ∧ RootsOk web roots ∧ NumsAt H Z S ∧ ShOk web roots S ∧ ∀ H', Same H H' → Q .non H'
section
variable {P : Program} {w : World} {K : PySem.W.Frag} {mg : Str → Option Value} {base : Heap}
theorem sc_need_web : FnScope ["thing", "node", "row"] ["thing"] (defScope s_need_web) := ⟨rfl, rfl, rfl, by decide +kernel, rfl, by decide +kernel, by decide +kernel⟩
theorem has_need_web (T : Tx mg) (S : Stands K mg "need_web" s_need_web) (h1 : Has P w K mg base 3 "is_row_of" ["thing", "many"] spRowOf) : Has P w K mg base 4 "need_web" ["thing"] spNeedWeb := by
  obtain ⟨f1, fd1, g1, k1, b1, G1⟩ := h1
  obtain ⟨tk, hnodes⟩ := T.nodes
  refine S.has sc_need_web (fun _ _ _ _ _ _ us hl => match us, hl with | [_], _ => rfl) (fun vs H Q E h => ?_) (fun f cdv A outer s H vs Q E hr h => ?_)
  · obtain ⟨W, web, rfl, _⟩ := h
    rfl
  · obtain ⟨W, web, rfl, hW, ok, k⟩ := h
    obtain ⟨rs, hW1, hW2, hW3⟩ := id hW
    have nd := sc_need_web.nd
    refine ⟨_, pss_cons (ps_if (PW.pt (pw_or (pt_not (pt_val (pe_callB call_isi (by rfl) T.isi boot_isinstance (pa_cons (pv 0) (pa_cons (pe_bltn (v := .ty "tuple") (by rfl) T.tuple boot_tuple rfl) pa_nil)))))
        (pw_or1 (pt_not (pt_chain op_le op_le pe_int (pe_callB call_len_seq (by rfl) T.len PySem.boot_len (pa_cons (pv 0) pa_nil)) (pe_glob (v := .int 60) (by rfl) hnodes ⟨_, rfl⟩)))))) (pss_one ps_never) pss_nil)
      (pss_one (ps_for PassesOwn.never rfl (pi_enumT (by rfl) T.enum (pa_cons (pv 0) pa_nil)) (pg_tup rfl (pgs_cons (pg_name (i := 1) nd rfl (Or.inl rfl)) (pgs_cons (pg_name (i := 2) nd rfl (Or.inl rfl)) pgs_nil)))
        (pss_one (ps_if (pt_not (pt_val (pe_call G1 hr (by rfl) g1 k1 b1 .nil pass0 (pa_cons (pv 2) (pa_cons (pe_callB call_len_seq (by rfl) T.len PySem.boot_len (pa_cons (pv 0) pa_nil)) pa_nil))))) (pss_one ps_never) pss_nil)))), ?_⟩
    have hlen : (rs.map V.ref).length = web.length := by rw [List.length_map, hW2]
    refine ⟨_, rfl, _, _, _, _, true, rfl, .ty _, .base (.tup hW1), kit_ty (by decide +kernel), true, rfl, iteF ?_⟩
    refine ⟨_, rfl, W, _, rfl, .inr (SqT.of hW1), _, _, rfl, rfl, _, rfl, ?_⟩
    have a1 : decide ((1 : Int) ≤ (((rs.map V.ref).length : Nat) : Int)) = true := decide_eq_true (by rw [hlen]; have := ok.pos; omega)
    have a2 : decide ((((rs.map V.ref).length : Nat) : Int) ≤ 60) = true := decide_eq_true (by rw [hlen]; have := ok.four; omega)
    rw [a1]
    refine iteT ⟨_, _, rfl, rfl, true, congrArg V.bl a2, iteF ?_⟩
    refine ⟨_, rfl, W, _, rfl, SqT.of hW1, ?_⟩
    refine for_enumT (K := K) (a := W) (xs := rs.map V.ref) (fun i σ H' => (∃ u v, σ = [some (.ref W), u, v]) ∧ Same H H') ⟨⟨_, _, rfl⟩, Same.refl H⟩ (fun i σ H' _ hP => SqT.of (hP.2 _ _ hW1)) (fun i x T0 σ H' hx hP hT0 => ?_) (fun σ H' hP => k _ hP.2)
    obtain ⟨⟨u, v, rfl⟩, sm⟩ := hP
    obtain ⟨r, hr0, rfl⟩ := map_get_inv hx
    obtain ⟨er, hi⟩ := get_getD (d := 0) hr0
    have hi' : i < web.length := by rw [← hW2]; exact hi
    have sm2 : Same H (upd H' T0 (.tup [.int (i : Nat), .ref r])) := fun b o e => by
      rw [upd_ne (ne_of_none (sm _ _ e) hT0)]
      exact sm _ _ e
    refine ⟨T0, _, rfl, SqT.of upd_same, rfl, _, _, rfl, _, _, rfl, rfl, ?_⟩
    refine ⟨_, rfl, _, rfl, W, _, rfl, .inr (SqT.of (sm2 _ _ hW1)), r, web.getD i [], web.length, by rw [List.append_nil, hlen], ?_, ?_, ?_, ?_⟩
    · have := hW3 i hi'
      rw [er] at this
      exact sm2 _ _ this
    · have := ok.two _ (ok.row hi')
      omega
    · exact fun t ht => ok.ties _ (ok.row hi') t ht
    · intro H2 s2
      exact ⟨true, rfl, iteF ⟨⟨_, _, rfl⟩, sm2.trans s2⟩⟩
theorem sc_is_node : FnScope ["web", "thing"] ["web", "thing"] (defScope s_is_node) := ⟨rfl, rfl, rfl, by decide +kernel, rfl, by decide +kernel, by decide +kernel⟩
theorem has_is_node (T : Tx mg) (S : Stands K mg "is_node" s_is_node) (h1 : Has P w K mg base 2 "is_among" ["thing", "least", "most"] spAmong) : Has P w K mg base 3 "is_node" ["web", "thing"] spIsNode := by
  obtain ⟨f1, fd1, g1, k1, b1, G1⟩ := h1
  refine S.has sc_is_node (fun _ _ _ _ _ _ us hl => match us, hl with | [_, _], _ => rfl) (fun vs H Q E h => ?_) (fun f cdv A outer s H vs Q E hr h => ?_)
  · obtain ⟨W, xs, i, rfl, _⟩ := h
    rfl
  · obtain ⟨W, xs, i, rfl, hW, k⟩ := h
    refine ⟨_, pss_one (ps_ret (pe_call G1 hr (by rfl) g1 k1 b1 .nil pass0 (pa_cons (pv 1) (pa_cons pe_int (pa_cons (pe_op op_sub (pe_callB call_len_seq (by rfl) T.len PySem.boot_len (pa_cons (pv 0) pa_nil)) pe_int) pa_nil))))), ?_⟩
    exact ⟨_, rfl, _, rfl, W, _, rfl, .inr (SqT.of hW), _, _, rfl, rfl, i, 0, _, rfl, k⟩
theorem sc_need_roots : FnScope ["web", "thing", "node"] ["web", "thing"] (defScope s_need_roots) := ⟨rfl, rfl, rfl, by decide +kernel, rfl, by decide +kernel, by decide +kernel⟩
theorem has_need_roots (T : Tx mg) (S : Stands K mg "need_roots" s_need_roots) (h1 : Has P w K mg base 4 "need_web" ["thing"] spNeedWeb) (h2 : Has P w K mg base 3 "is_node" ["web", "thing"] spIsNode) : Has P w K mg base 5 "need_roots" ["web", "thing"] spNeedRoots := by
  obtain ⟨f1, fd1, g1, k1, b1, G1⟩ := h1
  obtain ⟨f2, fd2, g2, k2, b2, G2⟩ := h2
  obtain ⟨tk, hwalk⟩ := T.walkers
  refine S.has sc_need_roots (fun _ _ _ _ _ _ us hl => match us, hl with | [_, _], _ => rfl) (fun vs H Q E h => ?_) (fun f cdv A outer s H vs Q E hr h => ?_)
  · obtain ⟨W, R, web, roots, rfl, _⟩ := h
    rfl
  · obtain ⟨W, R, web, roots, rfl, hW, ok, hR, rok, k⟩ := h
    have nd := sc_need_roots.nd
    have hr3 : Room 3 _ := hr.mono (by decide)
    refine ⟨_, pss_cons (ps_expr (pe_call G1 hr (by rfl) g1 k1 b1 .nil pass0 (pa_cons (pv 0) pa_nil)))
      (pss_cons (ps_if (PW.pt (pw_or (pt_not (pt_val (pe_callB call_isi (by rfl) T.isi boot_isinstance (pa_cons (pv 1) (pa_cons (pe_bltn (v := .ty "tuple") (by rfl) T.tuple boot_tuple rfl) pa_nil)))))
        (pw_or1 (pt_not (pt_chain op_le op_le pe_int (pe_callB call_len_seq (by rfl) T.len PySem.boot_len (pa_cons (pv 1) pa_nil)) (pe_glob (v := .int 6) (by rfl) hwalk ⟨_, rfl⟩)))))) (pss_one ps_never) pss_nil)
      (pss_one (ps_if (PW.pt (pw_or (pt_not (pt_val (pe_callB (cr_all rfl) (by rfl) T.all boot_all (pa_cons (pe_lc (own := [("node", 2)]) (g := gName 2) (tt := tYes) rfl nd (pi_tup (pv 1)) (blkOk_by (N := ["web", "thing", "node"]) (sc := defScope s_need_roots) (by decide +kernel))
          (fun _ _ _ _ _ => pg_name (i := 2) nd rfl (Or.inl rfl)) (fun _ _ _ _ _ => pts_nil)
          (fun _ _ _ _ _ => pe_call G2 hr3 (by rfl) g2 k2 b2 .nil pass0 (pa_cons (pv 0) (pa_cons (pv 2) pa_nil)))) pa_nil))))
        (pw_or1 (pt_cmpR op_lt (pe_lenSetT (by rfl) T.len (by rfl) T.set (pv 1)) (pe_callB call_len_seq (by rfl) T.len PySem.boot_len (pa_cons (pv 1) pa_nil)) (nomark _))))) (pss_one ps_never) pss_nil))), ?_⟩
    refine ⟨_, rfl, W, web, rfl, hW, ok, fun H1 s1 => ?_⟩
    have hR1 := hR.same s1
    obtain ⟨rs, hW1, hW2, hW3⟩ := hW.same s1
    have hlen : (rs.map V.ref).length = web.length := by rw [List.length_map, hW2]
    refine ⟨_, rfl, _, _, _, _, true, rfl, .ty _, .base (.tup hR1), kit_ty (by decide +kernel), true, rfl, iteF ?_⟩
    refine ⟨_, rfl, R, _, rfl, .inr (SqT.of hR1), _, _, rfl, rfl, _, rfl, ?_⟩
    have a1 : decide ((1 : Int) ≤ (((roots.map nV).length : Nat) : Int)) = true := decide_eq_true (by rw [List.length_map]; have := rok.pos; omega)
    have a2 : decide ((((roots.map nV).length : Nat) : Int) ≤ 6) = true := decide_eq_true (by rw [List.length_map]; have := rok.three; omega)
    rw [a1]
    refine iteT ⟨_, _, rfl, rfl, true, congrArg V.bl a2, iteF ?_⟩
    refine ⟨_, rfl, R, rfl, ⟨_, SqT.of hR1⟩, fun D hD => ?_⟩
    refine lc_tup (K := K) (a := R) (xs := roots.map nV) (fun i H' => Same H1 H' ∧ H' D = some (.lst ((roots.take i).map fun _ => V.bl true))) ⟨same_new hD, by rw [upd_same]; rfl⟩ (fun i H' _ hP => SqT.of (hP.1 _ _ hR1)) (fun i x H' hx hP => ?_) (fun H' hP => ?_)
    · obtain ⟨sm, hDl⟩ := hP
      obtain ⟨r, hr0, rfl⟩ := map_get_inv hx
      have small : ((roots.take i).map fun _ => V.bl true).length < sizeLine := by
        rw [List.length_map, List.length_take]
        exact Nat.lt_of_le_of_lt (Nat.min_le_right _ _) (Nat.lt_of_le_of_lt rok.three (by decide))
      refine ⟨rfl, _, rfl, _, rfl, W, _, _, rfl, sm _ _ hW1, _, hDl, small, same_out sm hD, ?_⟩
      have hlt := rok.lt r (List.mem_of_getElem? hr0)
      rw [upd_same, decide_eq_true (show (0 : Int) ≤ (r : Int) by omega), decide_eq_true (show (r : Int) ≤ ((rs.map V.ref).length : Int) - 1 by rw [hlen]; omega), take_get hr0, List.map_append]
      rfl
    · obtain ⟨sm, hDl⟩ := hP
      rw [List.length_map, List.take_length] at hDl
      refine ⟨_, roots.map fun _ => true, rfl, .inl (.inl (by rw [hDl, List.map_map]; rfl)), ?_⟩
      have : ((roots.map fun _ => true).all id) = true := by
        rw [List.all_eq_true]
        intro b hb
        obtain ⟨_, _, e⟩ := List.mem_map.mp hb
        rw [← e]
        rfl
      rw [this]
      refine ⟨true, rfl, iteF ?_⟩
      refine ⟨_, rfl, R, roots.map (fun n : Nat => (n : Int)), rfl, SqT.of (by rw [List.map_map]; exact sm _ _ hR1), ?_, by rw [List.length_map]; have := rok.three; omega, ?_⟩
      · have inj : ∀ l : List Nat, l.Nodup → (l.map fun n : Nat => (n : Int)).Nodup := by
          intro l
          induction l with
          | nil => intro _; simp
          | cons a l ih =>
            intro hn
            rw [List.nodup_cons] at hn
            rw [List.map_cons, List.nodup_cons]
            refine ⟨fun hm => ?_, ih hn.2⟩
            obtain ⟨b, hb, e⟩ := List.mem_map.mp hm
            have : b = a := by omega
            rw [this] at hb
            exact hn.1 hb
        exact inj roots rok.nod
      · refine ⟨_, rfl, R, _, rfl, .inr (SqT.of (sm _ _ hR1)), _, _, rfl, rfl, _, rfl, ?_⟩
        have : decide ((((roots.map fun n : Nat => (n : Int)).length : Nat) : Int) < (((roots.map nV).length : Nat) : Int)) = false := decide_eq_false (by rw [List.length_map, List.length_map]; omega)
        rw [this]
        exact iteF (k _ (s1.trans sm))
theorem sc_need_sharing : FnScope ["web", "roots", "thing", "node", "walker"] ["web", "roots", "thing"] (defScope s_need_sharing) := ⟨rfl, rfl, rfl, by decide +kernel, rfl, by decide +kernel, by decide +kernel⟩
theorem has_need_sharing (T : Tx mg) (S : Stands K mg "need_sharing" s_need_sharing) (h1 : Has P w K mg base 4 "need_web" ["thing"] spNeedWeb) (h2 : Has P w K mg base 5 "need_roots" ["web", "thing"] spNeedRoots)
    (h3 : Has P w K mg base 2 "is_among" ["thing", "least", "most"] spAmong) : Has P w K mg base 6 "need_sharing" ["web", "roots", "thing"] spNeedSharing := by
  obtain ⟨f1, fd1, g1, k1, b1, G1⟩ := h1
  obtain ⟨f2, fd2, g2, k2, b2, G2⟩ := h2
  obtain ⟨f3, fd3, g3, k3, b3, G3⟩ := h3
  refine S.has sc_need_sharing (fun _ _ _ _ _ _ us hl => match us, hl with | [_, _, _], _ => rfl) (fun vs H Q E h => ?_) (fun f cdv A outer s H vs Q E hr h => ?_)
  · obtain ⟨W, R, Z, web, roots, Sh, rfl, _⟩ := h
    rfl
  · obtain ⟨W, R, Z, web, roots, Sh, rfl, hW, ok, hR, rok, hZ, sok, k⟩ := h
    have nd := sc_need_sharing.nd
    have hr4 : Room 4 _ := hr.mono (by decide)
    have hr2 : Room 2 _ := hr.mono (by decide)
    refine ⟨_, pss_cons (ps_expr (pe_call G1 hr4 (by rfl) g1 k1 b1 .nil pass0 (pa_cons (pv 0) pa_nil)))
      (pss_cons (ps_expr (pe_call G2 hr (by rfl) g2 k2 b2 .nil pass0 (pa_cons (pv 0) (pa_cons (pv 1) pa_nil))))
      (pss_cons (ps_if (PW.pt (pw_or (pt_not (pt_val (pe_callB call_isi (by rfl) T.isi boot_isinstance (pa_cons (pv 2) (pa_cons (pe_bltn (v := .ty "tuple") (by rfl) T.tuple boot_tuple rfl) pa_nil)))))
        (pw_or1 (pt_cmpR op_ne (pe_callB call_len_seq (by rfl) T.len PySem.boot_len (pa_cons (pv 2) pa_nil)) (pe_callB call_len_seq (by rfl) T.len PySem.boot_len (pa_cons (pv 0) pa_nil)) (nomark _))))) (pss_one ps_never) pss_nil)
      (pss_one (ps_for PassesOwn.never rfl (pi_enumT (by rfl) T.enum (pa_cons (pv 2) pa_nil)) (pg_tup rfl (pgs_cons (pg_name (i := 3) nd rfl (Or.inl rfl)) (pgs_cons (pg_name (i := 4) nd rfl (Or.inl rfl)) pgs_nil)))
        (pss_one (ps_if (pt_not (pt_val (pe_call G3 hr2 (by rfl) g3 k3 b3 .nil pass0 (pa_cons (pv 4) (pa_cons pe_int (pa_cons (pe_callB call_len_seq (by rfl) T.len PySem.boot_len (pa_cons (pv 1) pa_nil)) pa_nil)))))) (pss_one ps_never) pss_nil)))))), ?_⟩
    refine ⟨_, rfl, W, web, rfl, hW, ok, fun H1 s1 => ?_⟩
    refine ⟨_, rfl, _, rfl, W, R, web, roots, rfl, hW.same s1, ok, hR.same s1, rok, fun H2 s2 => ?_⟩
    have s12 := s1.trans s2
    have hZ2 := hZ.same s12
    have hR2 := hR.same s12
    obtain ⟨rs, hW1, hW2, hW3⟩ := hW.same s12
    refine ⟨_, rfl, _, _, _, _, true, rfl, .ty _, .base (.tup hZ2), kit_ty (by decide +kernel), true, rfl, iteF ?_⟩
    refine ⟨_, rfl, Z, _, rfl, .inr (SqT.of hZ2), _, rfl, W, _, rfl, .inr (SqT.of hW1), rfl, _, rfl, ?_⟩
    have e : decide (V.int (((Sh.map nV).length : Nat) : Int) = V.int (((rs.map V.ref).length : Nat) : Int)) = true := decide_eq_true (by rw [List.length_map, List.length_map, sok.len, hW2])
    rw [e]
    refine iteF ?_
    refine ⟨_, rfl, Z, _, rfl, SqT.of hZ2, ?_⟩
    refine for_enumT (K := K) (a := Z) (xs := Sh.map nV) (fun i σ H' => (∃ u v, σ = [some (.ref W), some (.ref R), some (.ref Z), u, v]) ∧ Same H2 H') ⟨⟨_, _, rfl⟩, Same.refl _⟩ (fun i σ H' _ hP => SqT.of (hP.2 _ _ hZ2)) (fun i x T0 σ H' hx hP hT0 => ?_) (fun σ H' hP => k _ (s12.trans hP.2))
    obtain ⟨⟨u, v, rfl⟩, sm⟩ := hP
    obtain ⟨z, hz0, rfl⟩ := map_get_inv hx
    have sm2 : Same H2 (upd H' T0 (.tup [.int (i : Nat), nV z])) := sm.trans (same_new hT0)
    refine ⟨T0, _, rfl, SqT.of upd_same, rfl, _, _, rfl, _, _, rfl, rfl, ?_⟩
    refine ⟨_, rfl, _, rfl, R, _, rfl, .inr (SqT.of (sm2 _ _ hR2)), z, 0, _, rfl, true, ?_, iteF ⟨⟨_, _, rfl⟩, sm2⟩⟩
    have := sok.le z (List.mem_of_getElem? hz0)
    rw [decide_eq_true (show (0 : Int) ≤ (z : Int) by omega), decide_eq_true (show (z : Int) ≤ (((roots.map nV).length : Nat) : Int) by rw [List.length_map]; omega)]
    rfl
end
end TB

set_option maxRecDepth 100000
set_option maxHeartbeats 4000000
/-! Events: row_from. -/
namespace TB
open PySem PySem.Spec PyProof.Rows L2
/-- all tuples stand -/
def Tsame (H H' : Hp) : Prop := ∀ t xs, H t = some (.tup xs) → H' t = some (.tup xs)
theorem Same.ts {H H' : Hp} (s : Same H H') : Tsame H H' := fun t xs h => s _ _ h
theorem Tsame.refl (H : Hp) : Tsame H H := fun _ _ h => h
theorem Tsame.trans {H H1 H2 : Hp} (a : Tsame H H1) (b : Tsame H1 H2) : Tsame H H2 := fun t xs h => b t xs (a t xs h)
theorem Tsame.new {H : Hp} {p : Addr} {o : HO} (h : H p = none) : Tsame H (upd H p o) := Same.ts (same_new h)
theorem Tsame.mut {H : Hp} {a : Addr} {o : HO} (m : Mut (H a)) : Tsame H (upd H a o) := fun t xs h => by
  have : t ≠ a := fun z => by
    rw [← z, h] at m
    exact m
  rw [upd_ne this]
  exact h
theorem Tsame.lst {H : Hp} {a : Addr} {o : HO} {xs : List V} (m : H a = some (.lst xs)) : Tsame H (upd H a o) := Tsame.mut (by rw [m]; trivial)
theorem Tsame.dK {H : Hp} {a : Addr} {o : HO} {xs : List (Key × V)} (m : H a = some (.dK xs)) : Tsame H (upd H a o) := Tsame.mut (by rw [m]; trivial)
theorem WebAt.ts {H H' : Hp} {W : Addr} {web : Web} (h : WebAt H W web) (s : Tsame H H') : WebAt H' W web := by
  obtain ⟨rs, h1, h2, h3⟩ := h
  exact ⟨rs, s _ _ h1, h2, fun x hx => s _ _ (h3 x hx)⟩
theorem NumsAt.ts {H H' : Hp} {a : Addr} {ns : List Nat} (h : NumsAt H a ns) (s : Tsame H H') : NumsAt H' a ns := s _ _ h
def kS : Kd → Str
  | .down => "down"
  | .skip => "skip"
  | .up => "up"
  | .stop => "stop"
def evV (e : Ev) : List V := [.str (kS e.1), nV e.2.1, nV e.2.2]
def Evs (H : Hp) (as : List Addr) (es : List Ev) : Prop := Paired (fun a e => H a = some (.tup (evV e))) as es
def RowAt (H : Hp) (r : Addr) (es : List Ev) : Prop := ∃ as, H r = some (.tup (as.map V.ref)) ∧ Evs H as es
theorem paired_snoc {α β : Type} {F : α → β → Prop} {a : α} {b : β} (h : F a b) : ∀ {l1 : List α} {l2 : List β}, Paired F l1 l2 → Paired F (l1 ++ [a]) (l2 ++ [b])
  | _, _, .nil => .cons h .nil
  | _, _, .cons r t => .cons r (paired_snoc h t)
theorem paired_get {α β : Type} {F : α → β → Prop} : ∀ {l1 : List α} {l2 : List β} {i : Nat} {b : β}, Paired F l1 l2 → l2[i]? = some b → ∃ a, l1[i]? = some a ∧ F a b
  | _, _, _, _, .nil, h => by simp at h
  | _, _, 0, _, .cons r t, h => ⟨_, rfl, by
      have := Option.some.inj h
      rw [← this]
      exact r⟩
  | _, _, i + 1, b, .cons r t, h => paired_get (i := i) t (by simpa using h)
theorem Evs.ts {H H' : Hp} {as : List Addr} {es : List Ev} (h : Evs H as es) (s : Tsame H H') : Evs H' as es := Paired.mapP h fun _ _ q => s _ _ q
theorem RowAt.ts {H H' : Hp} {r : Addr} {es : List Ev} (h : RowAt H r es) (s : Tsame H H') : RowAt H' r es := by
  obtain ⟨as, h1, h2⟩ := h
  exact ⟨as, s _ _ h1, h2.ts s⟩
theorem Evs.snoc {H : Hp} {as : List Addr} {es : List Ev} {a : Addr} {e : Ev} (h : Evs H as es) (ha : H a = some (.tup (evV e))) : Evs H (as ++ [a]) (es ++ [e]) := paired_snoc (F := fun a e => H a = some (.tup (evV e))) ha h
/-- pairs (node, place) -/
def Prs (H : Hp) (ts : List Addr) (way : List (Nat × Nat)) : Prop := Paired (fun a q => H a = some (.tup [nV q.1, nV q.2])) ts way
theorem Prs.ts {H H' : Hp} {as : List Addr} {es : List (Nat × Nat)} (h : Prs H as es) (s : Tsame H H') : Prs H' as es := Paired.mapP h fun _ _ q => s _ _ q
theorem prs_dat {K : PySem.W.Frag} {H : Hp} : ∀ {ts : List Addr} {way : List (Nat × Nat)}, Prs H ts way → ∀ x ∈ ts.map V.ref, ∃ d, Dp K H x d ∧ d.canLay0 = true ∧ d.depth ≤ 8
  | _, _, .nil, x, h => by cases h
  | _, _, .cons (a := t) (b := q) r p, x, h => by
    rcases List.mem_cons.mp h with rfl | h
    · exact ⟨.tuple [.int q.1, .int q.2], .tup (SqT.of r) (.cons (.int _) (.cons (.int _) .nil)), by simp [PyData.canLay0, PyData.canLayAll0], by simp [PyData.depth, PyData.depthAll]⟩
    · exact prs_dat p x h
/-- a dict of known nodes -/
def knK (kn : List Nat) : List (Key × V) := kn.map fun x : Nat => ((Sum.inl (x : Int) : Key), V.bl true)
theorem valV_kn (kn : List Nat) (x : Nat) : valV (knK kn) (Sum.inl (x : Int)) = if x ∈ kn then some (.bl true) else none := by
  induction kn with
  | nil => rfl
  | cons a kn ih =>
    unfold knK at ih ⊢
    rw [List.map_cons]
    by_cases c : a = x
    · subst c
      rw [valV_pos rfl, if_pos (by simp)]
    · rw [valV_neg (fun z => c (by have := Sum.inl.inj z; omega)), ih]
      have : ¬ x = a := fun z => c z.symm
      simp [this]
theorem putK_kn {kn : List Nat} {x : Nat} (h : x ∉ kn) : putK (knK kn) (Sum.inl (x : Int)) (.bl true) = knK (kn ++ [x]) := by
  rw [putK_new _ (by rw [valV_kn, if_neg h])]
  unfold knK
  rw [List.map_append]
  rfl
theorem knK_len (kn : List Nat) : (knK kn).length = kn.length := List.length_map ..
/-! ### the loop's heap -/
structure RfHeap (H0 H : Hp) (kd wy fo : Addr) (ts eas : List Addr) (kn : List Nat) (way : List (Nat × Nat)) (evs : List Ev) : Prop where
  sm : Same H0 H
  kd : H kd = some (.dK (knK kn))
  wy : H wy = some (.lst (ts.reverse.map V.ref))
  fo : H fo = some (.lst (eas.map V.ref))
  prs : Prs H ts way
  evs : Evs H eas evs
structure RfNew (H0 : Hp) (kd wy fo : Addr) : Prop where
  kd : H0 kd = none
  wy : H0 wy = none
  fo : H0 fo = none
section
variable {H0 H : Hp} {kd wy fo : Addr} {ts eas : List Addr} {kn : List Nat} {way : List (Nat × Nat)} {evs : List Ev}
theorem RfHeap.kw (h : RfHeap H0 H kd wy fo ts eas kn way evs) : kd ≠ wy := ne_of h.kd h.wy (by intro z; cases z)
theorem RfHeap.kf (h : RfHeap H0 H kd wy fo ts eas kn way evs) : kd ≠ fo := ne_of h.kd h.fo (by intro z; cases z)
theorem RfHeap.toNew (h : RfHeap H0 H kd wy fo ts eas kn way evs) {p : Addr} {o : HO} (hp : H p = none) : RfHeap H0 (upd H p o) kd wy fo ts eas kn way evs :=
  ⟨h.sm.trans (same_new hp), by rw [upd_ne (ne_of_none h.kd hp)]; exact h.kd, by rw [upd_ne (ne_of_none h.wy hp)]; exact h.wy, by rw [upd_ne (ne_of_none h.fo hp)]; exact h.fo, h.prs.ts (.new hp), h.evs.ts (.new hp)⟩
theorem RfHeap.toWay (h : RfHeap H0 H kd wy fo ts eas kn way evs) (n : RfNew H0 kd wy fo) (wf : wy ≠ fo) {ts' : List Addr} {way' : List (Nat × Nat)} (hp : Prs H ts' way') : RfHeap H0 (upd H wy (.lst (ts'.reverse.map V.ref))) kd wy fo ts' eas kn way' evs :=
  ⟨same_out h.sm n.wy, by rw [upd_ne h.kw]; exact h.kd, upd_same, by rw [upd_ne (Ne.symm wf)]; exact h.fo, hp.ts (.lst h.wy), h.evs.ts (.lst h.wy)⟩
theorem RfHeap.toFound (h : RfHeap H0 H kd wy fo ts eas kn way evs) (n : RfNew H0 kd wy fo) (wf : wy ≠ fo) {a : Addr} {e : Ev} (ha : H a = some (.tup (evV e))) : RfHeap H0 (upd H fo (.lst (eas.map V.ref ++ [V.ref a]))) kd wy fo ts (eas ++ [a]) kn way (evs ++ [e]) :=
  ⟨same_out h.sm n.fo, by rw [upd_ne h.kf]; exact h.kd, by rw [upd_ne wf]; exact h.wy, by rw [upd_same, List.map_append]; rfl, h.prs.ts (.lst h.fo), (h.evs.ts (.lst h.fo)).snoc ((Tsame.lst h.fo) _ _ ha)⟩
theorem RfHeap.toKnown (h : RfHeap H0 H kd wy fo ts eas kn way evs) (n : RfNew H0 kd wy fo) {x : Nat} (hx : x ∉ kn) : RfHeap H0 (upd H kd (.dK (putK (knK kn) (Sum.inl (x : Int)) (.bl true)))) kd wy fo ts eas (kn ++ [x]) way evs :=
  ⟨same_out h.sm n.kd, by rw [upd_same, putK_kn hx], by rw [upd_ne (Ne.symm h.kw)]; exact h.wy, by rw [upd_ne (Ne.symm h.kf)]; exact h.fo, h.prs.ts (.dK h.kd), h.evs.ts (.dK h.kd)⟩
end
/-- an expression by another reading -/
theorem _root_.L2.PE.imp {X : Cx} {e : Expr} {t t' : TE} (h : PE X e t) (f : ∀ σ H Q, t' σ H Q → t σ H Q) : PE X e t' := ⟨fun pins s σ H Q I q => h.run pins s σ H Q I (f σ H Q q)⟩
def frB (S kn : List Nat) (r : Nat) : Option Nat → Bool
  | none => false
  | some t => decide (S.getD t 0 = S.getD r 0) && decide (t ∉ kn)
theorem frB_none (S kn : List Nat) (r : Nat) : frB S kn r none = false := rfl
theorem frB_some (S kn : List Nat) (r t : Nat) : frB S kn r (some t) = (decide (S.getD t 0 = S.getD r 0) && decide (t ∉ kn)) := rfl
def tFresh (K : PySem.W.Frag) : TE := fun σ H Q => ∃ (Z kd : Addr) (S kn : List Nat) (r : Nat) (o : Option Nat), σ[1]? = some (some (.ref Z)) ∧ σ[2]? = some (some (nV r)) ∧ σ[3]? = some (some (.ref kd)) ∧ σ[8]? = some (some (oV o)) ∧
  SqT K H Z (S.map nV) ∧ H kd = some (.dK (knK kn)) ∧ r < S.length ∧ (∀ t, o = some t → t < S.length) ∧ Q (.bl (frB S kn r o)) H
def spRowFrom : Sp := fun vs H Q _ => ∃ (W Z : Addr) (web : Web) (S : List Nat) (r : Nat), vs = [.ref W, .ref Z, nV r] ∧ WebAt H W web ∧ WebOk web ∧ NumsAt H Z S ∧ S.length = web.length ∧ r < web.length ∧
  ∀ H' p, Same H H' → RowAt H' p (rowFrom web S r) → Q (.ref p) H'
section
variable {P : Program} {w : World} {K : PySem.W.Frag} {mg : Str → Option Value} {base : Heap}
theorem sc_row_from : FnScope ["web", "sharing", "root", "known", "way", "found", "node", "place", "tie", "is_fresh"] ["web", "sharing", "root"] (defScope s_row_from) := ⟨rfl, rfl, rfl, by decide +kernel, rfl, by decide +kernel, by decide +kernel⟩
theorem has_row_from (T : Tx mg) (S : Stands K mg "row_from" s_row_from) : Has P w K mg base 1 "row_from" ["web", "sharing", "root"] spRowFrom := by
  refine S.has sc_row_from (fun _ _ _ _ _ _ us hl => match us, hl with | [_, _, _], _ => rfl) (fun vs H Q E h => ?_) (fun f cdv A outer s H vs Q E hr h => ?_)
  · obtain ⟨W, Z, web, Sh, r, rfl, _⟩ := h
    rfl
  · obtain ⟨W, Z, web, Sh, r, rfl, hW, ok, hZ, hlen, hr0, k⟩ := h
    have nd := sc_row_from.nd
    have hu := hr.units
    have hu1 := hu_of hr
    refine ⟨_, pss_cons (ps_set (i := 3) nd rfl (Or.inl rfl) (pe_disp (pps_cons (pv 2) pe_bl pps_nil) (by rfl) (by rfl) (fun z => by cases z) (by decide)))
      (pss_cons (ps_set (i := 4) nd rfl (Or.inl rfl) (pe_lst (pa_cons (pe_tup (pa_cons (pv 2) (pa_cons pe_int pa_nil))) pa_nil)))
      (pss_cons (ps_set (i := 5) nd rfl (Or.inl rfl) (pe_lst pa_nil))
      (pss_cons (ps_while PassesOwn.never (pt_cmpR (op_neE hu) (pv 4) (pe_lst pa_nil) (nomark _))
        (pss_cons (ps_asg (pe_bm0 PySem.F.plainAttrs_list PySem.F.slot_list_pop PySem.F.type_list_pop mt_pop (pv 4)) (pg_tup rfl (pgs_cons (pg_name (i := 6) nd rfl (Or.inl rfl)) (pgs_cons (pg_name (i := 7) nd rfl (Or.inl rfl)) pgs_nil))))
        (pss_one (ps_if (pt_cmpR op_eq (pv 7) (pe_callB call_len_seq (by rfl) T.len PySem.boot_len (pa_cons (pe_ix ix_tup (pv 0) (pv 6) (fun _ _ => rfl)) pa_nil)) (nomark _))
          (pss_one (ps_expr (pe_bm PySem.F.plainAttrs_list PySem.F.slot_list_append PySem.F.type_list_append mt_append (pv 5) (pa_cons (pe_tup (pa_cons (pe_ifExp (pt_cmpR (op_neE hu) (pv 4) (pe_lst pa_nil) (nomark _)) pe_str pe_str) (pa_cons (pv 6) (pa_cons (pv 7) pa_nil)))) pa_nil))))
          (pss_cons (ps_expr (pe_bm PySem.F.plainAttrs_list PySem.F.slot_list_append PySem.F.type_list_append mt_append (pv 4) (pa_cons (pe_tup (pa_cons (pv 6) (pa_cons (pe_op op_add (pv 7) pe_int) pa_nil))) pa_nil)))
          (pss_cons (ps_set (i := 8) nd rfl (Or.inl rfl) (pe_ix ix_tup (pe_ix ix_tup (pv 0) (pv 6) (fun _ _ => rfl)) (pv 7) (fun _ _ => rfl)))
          (pss_cons (ps_set (i := 9) nd rfl (Or.inl rfl) (PE.imp (t' := tFresh K) (pe_and (pe_cmpR op_notN (pv 8) pe_non (nomark _)) (pe_and (pe_cmpR op_eq (pe_ix ix_tup (pv 1) (pv 8) (fun _ _ => rfl)) (pe_ix ix_tup (pv 1) (pv 2) (fun _ _ => rfl)) (nomark _)) (pe_one (pe_cmp (pc_dnotin hu1 (pv 8) (pv 3)) rfl)))) (by
            rintro σ H Q ⟨Z, kd, S, kn, r, o, e1, e2, e3, e8, hZ, hkd, hr0, ho, q⟩
            refine ⟨_, e8, rfl, ?_⟩
            cases o with
            | none => exact ⟨false, rfl, iteF q⟩
            | some t =>
              refine ⟨true, rfl, iteT ⟨_, e1, _, e8, Z, _, _, nV (S.getD t 0), rfl, rfl, hZ, atI_nat (map_get nV (getD_get (ho t rfl))), _, e1, _, e2, Z, _, _, nV (S.getD r 0), rfl, rfl, hZ, atI_nat (map_get nV (getD_get hr0)), rfl, _, rfl, ?_⟩⟩
              by_cases c : S.getD t 0 = S.getD r 0
              · rw [decide_eq_true (show nV (S.getD t 0) = nV (S.getD r 0) by rw [c])]
                refine iteT ⟨_, e8, _, e3, kd, _, rfl, DGet.k (k := Sum.inl (t : Int)) hkd, ?_⟩
                rw [valV_kn]
                by_cases d : t ∈ kn
                · rw [if_pos d]
                  have : frB S kn r (some t) = false := by simp [frB, d]
                  rw [this] at q
                  exact q
                · rw [if_neg d]
                  have : frB S kn r (some t) = true := by
                    rw [frB_some, decide_eq_true c, decide_eq_true d]
                    rfl
                  rw [this] at q
                  exact q
              · rw [decide_eq_false (show ¬ nV (S.getD t 0) = nV (S.getD r 0) from fun z => c (by have := V.int.inj z; omega))]
                have : frB S kn r (some t) = false := by
                  rw [frB_some, decide_eq_false c]
                  rfl
                rw [this] at q
                exact iteF q)))
          (pss_cons (ps_expr (pe_bm PySem.F.plainAttrs_list PySem.F.slot_list_append PySem.F.type_list_append mt_append (pv 5) (pa_cons (pe_tup (pa_cons (pe_ifExp (pt_val (pv 9)) pe_str pe_str) (pa_cons (pv 6) (pa_cons (pv 7) pa_nil)))) pa_nil)))
          (pss_one (ps_if (pt_val (pv 9)) (pss_cons (ps_dput hu1 (pv 3) (pv 8) pe_bl rfl) (pss_one (ps_expr (pe_bm PySem.F.plainAttrs_list PySem.F.slot_list_append PySem.F.type_list_append mt_append (pv 4) (pa_cons (pe_tup (pa_cons (pv 8) (pa_cons pe_int pa_nil))) pa_nil))))) pss_nil))))))))))
      (pss_one (ps_ret (pe_callTy call_tuple_of (by rfl) T.tuple boot_tuple (pa_cons (pv 5) pa_nil))))))), ?_⟩
    intro kd hkd
    refine ⟨_, rfl, upd_same, [(Sum.inl (r : Int), .bl true)], rfl, (by show 1 ≤ 15; decide), ?_⟩
    refine ⟨_, rfl, (by show 2 ≤ sizeLine; decide), fun t1 ht1 => ⟨(by show 1 ≤ sizeLine; decide), fun wy hwy => ⟨Nat.zero_le _, fun fo hfo => ?_⟩⟩⟩
    rw [upd_upd] at ht1 hwy hfo ⊢
    have e1 : mergeK [] [((Sum.inl (r : Int) : Key), V.bl true)] = knK [r] := rfl
    rw [e1] at ht1 hwy hfo ⊢
    have nkd : (upd H kd (.dK (knK [r]))) kd = some (.dK (knK [r])) := upd_same
    have nk1 : kd ≠ t1 := ne_of_none nkd ht1
    have g1 : (upd (upd H kd (.dK (knK [r]))) t1 (.tup [nV r, nV 0])) kd = some (.dK (knK [r])) := by rw [upd_ne nk1, upd_same]
    have g2 : (upd (upd H kd (.dK (knK [r]))) t1 (.tup [nV r, nV 0])) t1 = some (.tup [nV r, nV 0]) := upd_same
    have hwy' : (upd (upd H kd (.dK (knK [r]))) t1 (.tup [nV r, nV 0])) wy = none := hwy
    have hfo' : (upd (upd (upd H kd (.dK (knK [r]))) t1 (.tup [nV r, nV 0])) wy (.lst [V.ref t1])) fo = none := hfo
    have wf : wy ≠ fo := fun z => by
      rw [← z, upd_same] at hfo'
      cases hfo'
    have sm1 : Same H (upd (upd H kd (.dK (knK [r]))) t1 (.tup [nV r, nV 0])) := (same_new hkd).trans (same_new ht1)
    have sm2 := sm1.trans (same_new (o := .lst [V.ref t1]) hwy')
    have R0 : RfHeap H (upd (upd (upd (upd H kd (.dK (knK [r]))) t1 (.tup [nV r, nV 0])) wy (.lst [V.ref t1])) fo (.lst [])) kd wy fo [t1] [] [r] [(r, 0)] [] :=
      ⟨sm2.trans (same_new hfo'), by rw [upd_ne (ne_of_none (by rw [upd_ne (ne_of_none g1 hwy')]; exact g1) hfo'), upd_ne (ne_of_none g1 hwy')]; exact g1, by rw [upd_ne wf, upd_same]; rfl, upd_same,
        .cons (by rw [upd_ne (ne_of_none (by rw [upd_ne (ne_of_none g2 hwy')]; exact g2) hfo'), upd_ne (ne_of_none g2 hwy')]; exact g2) .nil, .nil⟩
    have N0 : RfNew H kd wy fo := ⟨hkd, sm1.free hwy', sm2.free hfo'⟩
    obtain ⟨rs, hW1, hW2, hW3⟩ := id hW
    refine ⟨fun m σ H' => ∃ (ts eas : List Addr) (kn : List Nat) (way : List (Nat × Nat)) (evs : List Ev) (u6 u7 u8 u9 : Option V),
      σ = [some (.ref W), some (.ref Z), some (nV r), some (.ref kd), some (.ref wy), some (.ref fo), u6, u7, u8, u9] ∧ RfHeap H H' kd wy fo ts eas kn way evs ∧ RfOk web (kn, way) ∧ rfLeft web (kn, way) = m ∧ kn.length + m ≤ 13 ∧ evs ++ rfRun web Sh r m (kn, way) = rowFrom web Sh r,
      ⟨total web, [t1], [], [r], [(r, 0)], [], none, none, none, none, rfl, R0, rfOk_init hr0, rfLeft_init hr0, by have := total_le ok; show 1 + total web ≤ 13; omega, rfl⟩, ?_⟩
    rintro m σ H' ⟨ts, eas, kn, way, evs, u6, u7, u8, u9, rfl, R, O, hm, hkl, hev⟩
    refine ⟨_, rfl, Nat.zero_le _, fun l hl => ?_⟩
    have R1 := R.toNew (o := .lst []) hl
    refine ⟨wy, l, _, rfl, rfl, SqL.of R1.wy, Dat.all (f := fun _ => none) (fun x hx => prs_dat R1.prs x (by
      obtain ⟨a, ha, e⟩ := List.mem_map.mp hx
      exact List.mem_map.mpr ⟨a, List.mem_reverse.mp ha, e⟩)), SqL.of upd_same, _, rfl, ?_⟩
    cases way with
    | nil =>
      have ets : ts = [] := by
        have := Paired.length R.prs
        exact List.length_eq_zero_iff.mp this
      subst ets
      refine iteF ?_
      refine ⟨_, rfl, fo, _, rfl, .inl ⟨SqL.of R1.fo, fun q hq => ?_⟩⟩
      have e0 : rfRun web Sh r m (kn, []) = [] := by
        cases m <;> rfl
      rw [e0, List.append_nil] at hev
      refine k _ q (R1.sm.trans (same_new hq)) ⟨eas, upd_same, ?_⟩
      rw [← hev]
      exact R1.evs.ts (.new hq)
    | cons q0 ws =>
      obtain ⟨x, p⟩ := q0
      obtain ⟨t, ts', rfl, ht, hts⟩ : ∃ t ts', ts = t :: ts' ∧ upd H' l (.lst []) t = some (.tup [nV x, nV p]) ∧ Prs (upd H' l (.lst [])) ts' ws := by
        have := R1.prs
        cases this with
        | cons a b => exact ⟨_, _, rfl, a, b⟩
      have hrev : ((t :: ts').reverse.map V.ref) = ts'.reverse.map V.ref ++ [V.ref t] := by simp
      have hb : (!((t :: ts').reverse.map V.ref).isEmpty) = true := by rw [hrev]; simp
      rw [hb]
      refine iteT ⟨_, fun _ _ z => z, ?_⟩
      have hwyR := R1.wy
      rw [hrev] at hwyR
      refine ⟨_, rfl, .inl ⟨rfl, _, SqL.of hwyR⟩, wy, _, .ref t, rfl, rfl, hwyR, by simp, ?_⟩
      rw [List.dropLast_concat]
      have R2 := R1.toWay N0 wf hts
      have hx := O.le (x, p) (by simp)
      have hx1 : x < web.length := hx.1
      have wR2 : Tsame H _ := Same.ts R2.sm
      have ht2 := Tsame.lst R1.wy (o := .lst (ts'.reverse.map V.ref)) _ _ ht
      have hrow := wR2 _ _ (hW3 x hx1)
      refine ⟨t, _, rfl, SqT.of ht2, rfl, _, _, rfl, _, _, rfl, rfl, ?_⟩
      refine ⟨_, rfl, _, rfl, _, rfl, W, _, _, .ref (rs.getD x 0), rfl, rfl, SqT.of (wR2 _ _ hW1), atI_nat (map_get V.ref (getD_get (by rw [hW2]; exact hx1))), _, _, rfl, .inr (SqT.of hrow), rfl, _, rfl, ?_⟩
      have hdeg : ((web.getD x []).map oV).length = deg web x := List.length_map ..
      have hm1 : 1 ≤ m := by
        simp only [rfLeft, wayLeft] at hm
        omega
      obtain ⟨m', rfl⟩ : ∃ m', m = m' + 1 := ⟨m - 1, by omega⟩
      -- what is left behind the event e
      have go : ∀ {e : Ev} {st' : RF}, rfStep web Sh r (kn, (x, p) :: ws) = some (e, st') → RfOk web st' ∧ rfLeft web st' = m' ∧ (evs ++ [e]) ++ rfRun web Sh r m' st' = rowFrom web Sh r := fun {e st'} hs => by
        obtain ⟨O', hl'⟩ := rfStep_ok ok O hs
        refine ⟨O', by omega, ?_⟩
        rw [← hev]
        have : rfRun web Sh r (m' + 1) (kn, (x, p) :: ws) = e :: rfRun web Sh r m' st' := by
          rw [rfRun, hs]
        rw [this, List.append_assoc]
        rfl
      have evl : evs.length ≤ 12 := by
        have h1 := rowFrom_len ok (S := Sh) hr0
        have h2 := total_le ok
        have h3 := congrArg List.length hev
        rw [List.length_append] at h3
        omega
      have easl : eas.length = evs.length := Paired.length R.evs
      by_cases c : p = deg web x
      · rw [hdeg, decide_eq_true (show V.int ((p : Nat) : Int) = V.int ((deg web x : Nat) : Int) by rw [c])]
        refine iteT ?_
        have hst : rfStep web Sh r (kn, (x, p) :: ws) = some ((if ws = [] then Kd.stop else Kd.up, x, p), (kn, ws)) := by
          rw [rfStep_cons, if_pos c]
        obtain ⟨O', hl', hev'⟩ := go hst
        refine ⟨_, rfl, .inl ⟨rfl, _, SqL.of R2.fo⟩, ?_⟩
        refine ⟨_, rfl, Nat.zero_le _, fun l2 hl2 => ?_⟩
        have R3 := R2.toNew (o := .lst []) hl2
        refine ⟨wy, l2, _, rfl, rfl, SqL.of R3.wy, Dat.all (f := fun _ => none) (fun x hx => prs_dat R3.prs x (by
          obtain ⟨a, ha, e⟩ := List.mem_map.mp hx
          exact List.mem_map.mpr ⟨a, List.mem_reverse.mp ha, e⟩)), SqL.of upd_same, _, rfl, ?_⟩
        have hws : ts'.length = ws.length := Paired.length hts
        by_cases d : ws = []
        · have ets : ts' = [] := List.length_eq_zero_iff.mp (by rw [hws, d]; rfl)
          rw [ets]
          refine iteF ⟨_, rfl, _, rfl, (by show 3 ≤ sizeLine; decide), fun q hq => ?_⟩
          rw [ets] at R3
          have R4 := R3.toNew (o := .tup [.str "stop", nV x, nV p]) hq
          refine ⟨fo, _, .ref q, rfl, rfl, R4.fo, by rw [List.length_map, easl]; exact Nat.lt_of_le_of_lt evl (by decide), m', Nat.lt_succ_self _, [], _, kn, ws, _, _, _, _, _, rfl, R4.toFound N0 wf (e := (if ws = [] then Kd.stop else Kd.up, x, p)) (by rw [if_pos d]; exact upd_same), O', hl', by omega, hev'⟩
        · obtain ⟨t2, ts2, ets⟩ : ∃ t2 ts2, ts' = t2 :: ts2 := by
            cases ts' with
            | nil => exact absurd (List.length_eq_zero_iff.mp hws.symm) d
            | cons a b => exact ⟨a, b, rfl⟩
          have hb2 : (!(ts'.reverse.map V.ref).isEmpty) = true := by rw [ets]; simp
          rw [hb2]
          refine iteT ⟨_, rfl, _, rfl, (by show 3 ≤ sizeLine; decide), fun q hq => ?_⟩
          have R4 := R3.toNew (o := .tup [.str "up", nV x, nV p]) hq
          refine ⟨fo, _, .ref q, rfl, rfl, R4.fo, by rw [List.length_map, easl]; exact Nat.lt_of_le_of_lt evl (by decide), m', Nat.lt_succ_self _, ts', _, kn, ws, _, _, _, _, _, rfl, R4.toFound N0 wf (e := (if ws = [] then Kd.stop else Kd.up, x, p)) (by rw [if_neg d]; exact upd_same), O', hl', by omega, hev'⟩
      · rw [hdeg, decide_eq_false (show ¬ V.int ((p : Nat) : Int) = V.int ((deg web x : Nat) : Int) from fun z => c (by have := V.int.inj z; omega))]
        refine iteF ?_
        have hp : p < deg web x := Nat.lt_of_le_of_ne hx.2 c
        have way100 : ts'.length ≤ 100 := by
          have h1 : ts'.length = ws.length := Paired.length hts
          have h3 : ∀ l : List (Nat × Nat), l.length ≤ wayLeft web l := by
            intro l
            induction l with
            | nil => exact Nat.zero_le _
            | cons a l ih =>
              obtain ⟨a1, a2⟩ := a
              simp only [wayLeft, List.length_cons]
              omega
          have h4 := h3 ((x, p) :: ws)
          rw [List.length_cons] at h4
          simp only [rfLeft] at hm
          omega
        have wayl : (ts'.reverse.map V.ref).length < sizeLine := by
          rw [List.length_map, List.length_reverse]
          exact Nat.lt_of_le_of_lt way100 (by decide)
        -- way.append((node, place + 1))
        refine ⟨_, rfl, .inl ⟨rfl, _, SqL.of R2.wy⟩, _, rfl, _, rfl, _, _, rfl, rfl, (by show 2 ≤ sizeLine; decide), fun q1 hq1 => ?_⟩
        have ep : V.int ((p : Int) + 1) = nV (p + 1) := congrArg V.int (by omega)
        have R3 := R2.toNew (o := .tup [nV x, .int ((p : Int) + 1)]) hq1
        refine ⟨wy, _, .ref q1, rfl, rfl, R3.wy, wayl, ?_⟩
        have R4 := R3.toWay N0 wf (ts' := q1 :: ts') (way' := (x, p + 1) :: ws) (.cons (by rw [upd_same, ep]) R3.prs)
        have hrev1 : ((q1 :: ts').reverse.map V.ref) = ts'.reverse.map V.ref ++ [V.ref q1] := by simp
        rw [hrev1] at R4
        have wR4 : Tsame H _ := Same.ts R4.sm
        -- tie = web[node][place]
        refine ⟨_, rfl, _, rfl, W, _, _, .ref (rs.getD x 0), rfl, rfl, SqT.of (wR4 _ _ hW1), atI_nat (map_get V.ref (getD_get (by rw [hW2]; exact hx1))), _, rfl, rs.getD x 0, _, _, oV (tie web x p), rfl, rfl, SqT.of (wR4 _ _ (hW3 x hx1)), atI_nat (map_get oV (getD_get hp)), ?_⟩
        -- is_fresh
        refine ⟨Z, kd, Sh, kn, r, tie web x p, rfl, rfl, rfl, rfl, SqT.of (wR4 _ _ hZ), R4.kd, by rw [hlen]; exact hr0, fun t ht => by rw [hlen]; exact ok.tie_lt ht, ?_⟩
        -- found.append(..)
        refine ⟨_, rfl, .inl ⟨rfl, _, SqL.of R4.fo⟩, ?_⟩
        cases hb3 : frB Sh kn r (tie web x p) with
        | false =>
          have hst : rfStep web Sh r (kn, (x, p) :: ws) = some ((Kd.skip, x, p), (kn, (x, p + 1) :: ws)) := by
            rw [rfStep_cons, if_neg c]
            cases ht : tie web x p with
            | none => rfl
            | some t =>
              have : ¬ (Sh.getD t 0 = Sh.getD r 0 ∧ t ∉ kn) := fun z => by
                rw [ht] at hb3
                rw [frB_some, decide_eq_true z.1, decide_eq_true z.2] at hb3
                cases hb3
              simp only [if_neg this]
          obtain ⟨O', hl', hev'⟩ := go hst
          refine ⟨_, rfl, false, rfl, iteF ⟨_, rfl, _, rfl, (by show 3 ≤ sizeLine; decide), fun q hq => ?_⟩⟩
          have R5 := R4.toNew (o := .tup [.str "skip", nV x, nV p]) hq
          refine ⟨fo, _, .ref q, rfl, rfl, R5.fo, by rw [List.length_map, easl]; exact Nat.lt_of_le_of_lt evl (by decide), ?_⟩
          refine ⟨_, rfl, false, rfl, iteF ⟨m', Nat.lt_succ_self _, q1 :: ts', eas ++ [q], kn, (x, p + 1) :: ws, _, _, _, _, _, rfl, ?_, O', hl', by omega, hev'⟩⟩
          have R6 := R5.toFound N0 wf (e := (Kd.skip, x, p)) upd_same
          exact R6
        | true =>
          obtain ⟨tt, ht, f1, f2⟩ : ∃ tt, tie web x p = some tt ∧ Sh.getD tt 0 = Sh.getD r 0 ∧ tt ∉ kn := by
            cases ht : tie web x p with
            | none =>
              rw [ht, frB_none] at hb3
              cases hb3
            | some tt =>
              rw [ht, frB_some, Bool.and_eq_true] at hb3
              exact ⟨tt, rfl, of_decide_eq_true hb3.1, of_decide_eq_true hb3.2⟩
          have hst : rfStep web Sh r (kn, (x, p) :: ws) = some ((Kd.down, x, p), (kn ++ [tt], (tt, 0) :: (x, p + 1) :: ws)) := by
            rw [rfStep_cons, if_neg c, ht]
            simp only [if_pos (show Sh.getD tt 0 = Sh.getD r 0 ∧ tt ∉ kn from ⟨f1, f2⟩)]
          obtain ⟨O', hl', hev'⟩ := go hst
          refine ⟨_, rfl, true, rfl, iteT ⟨_, rfl, _, rfl, (by show 3 ≤ sizeLine; decide), fun q hq => ?_⟩⟩
          have R5 := R4.toNew (o := .tup [.str "down", nV x, nV p]) hq
          refine ⟨fo, _, .ref q, rfl, rfl, R5.fo, by rw [List.length_map, easl]; exact Nat.lt_of_le_of_lt evl (by decide), ?_⟩
          have R6 := R5.toFound N0 wf (e := (Kd.down, x, p)) upd_same
          -- known[tie] = True; way.append((tie, 0))
          refine ⟨_, rfl, true, rfl, iteT ?_⟩
          refine ⟨_, rfl, _, rfl, kd, upd _ kd (.dK (putK (knK kn) (Sum.inl (tt : Int)) (.bl true))), rfl, by rw [ht]; exact DPut.k (k := Sum.inl (tt : Int)) R6.kd (by rw [knK_len]; exact Nat.lt_of_le_of_lt (show kn.length ≤ 13 by omega) (by decide)), ?_⟩
          have R7 := R6.toKnown N0 f2
          refine ⟨_, rfl, .inl ⟨rfl, _, SqL.of R7.wy⟩, _, rfl, (by show 2 ≤ sizeLine; decide), fun q2 hq2 => ?_⟩
          have R8 := R7.toNew (o := .tup [oV (tie web x p), .int 0]) hq2
          refine ⟨wy, _, .ref q2, rfl, rfl, R8.wy, ?_, m', Nat.lt_succ_self _, q2 :: q1 :: ts', eas ++ [q], kn ++ [tt], (tt, 0) :: (x, p + 1) :: ws, _, _, _, _, _, rfl, ?_, O', hl', by rw [List.length_append, List.length_singleton]; omega, hev'⟩
          · rw [hrev1, List.length_append, List.length_singleton]
            have : (ts'.reverse.map V.ref).length ≤ 100 := by
              rw [List.length_map, List.length_reverse]
              exact way100
            exact Nat.lt_of_le_of_lt (show _ ≤ 101 by omega) (by decide)
          · have R9 := R8.toWay N0 wf (ts' := q2 :: q1 :: ts') (way' := (tt, 0) :: (x, p + 1) :: ws) (.cons (by rw [upd_same, ht]; rfl) R8.prs)
            have hrev2 : ((q2 :: q1 :: ts').reverse.map V.ref) = (q1 :: ts').reverse.map V.ref ++ [V.ref q2] := by simp
            rw [hrev2] at R9
            exact R9
end
end TB

set_option maxRecDepth 100000
set_option maxHeartbeats 4000000
/-! rows_of, other_at; what a Doing holds; its short methods. -/
namespace TB
open PySem PySem.Spec PyProof.Rows L2
def RowsL (H : Hp) (as : List Addr) (rows : Rows) : Prop := Paired (fun a es => RowAt H a es) as rows
theorem RowsL.ts {H H' : Hp} {as : List Addr} {rows : Rows} (h : RowsL H as rows) (s : Tsame H H') : RowsL H' as rows := Paired.mapP h fun _ _ q => RowAt.ts q s
theorem RowsL.snoc {H : Hp} {as : List Addr} {rows : Rows} {a : Addr} {es : List Ev} (h : RowsL H as rows) (ha : RowAt H a es) : RowsL H (as ++ [a]) (rows ++ [es]) := paired_snoc (F := fun a es => RowAt H a es) ha h
def RowsAt (H : Hp) (p : Addr) (rows : Rows) : Prop := ∃ as, H p = some (.lst (as.map V.ref)) ∧ RowsL H as rows
theorem rowsAux_get (web : Web) (S : List Nat) : ∀ (rs : List Nat) (i w r : Nat), rs[w]? = some r → (rowsAux web S rs i)[w]? = some (if S.getD r 0 = i + w + 1 then rowFrom web S r else [])
  | [], i, w, r, h => by simp at h
  | a :: rs, i, 0, r, h => by
    have : a = r := Option.some.inj h
    subst this
    rfl
  | a :: rs, i, w + 1, r, h => by
    have e : i + 1 + w + 1 = i + (w + 1) + 1 := by omega
    have := rowsAux_get web S rs (i + 1) w r (by simpa using h)
    rw [e] at this
    exact this
def spRowsOf : Sp := fun vs H Q _ => ∃ (W R Z : Addr) (web : Web) (roots S : List Nat), vs = [.ref W, .ref R, .ref Z] ∧ WebAt H W web ∧ WebOk web ∧ NumsAt H R roots ∧ RootsOk web roots ∧ NumsAt H Z S ∧ S.length = web.length ∧
  ∀ H' p, Same H H' → H p = none → RowsAt H' p (rowsOf web roots S) → Q (.ref p) H'
def spOtherAt : Sp := fun vs H Q _ => ∃ (W Z a : Addr) (web : Web) (S : List Nat) (wn : Nat) (e : Ev), vs = [.ref W, .ref Z, nV wn, .ref a] ∧ WebAt H W web ∧ WebOk web ∧ NumsAt H Z S ∧ S.length = web.length ∧ H a = some (.tup (evV e)) ∧ EvOk web e ∧
  ∀ H', Same H H' → Q (oV (otherAt web S wn e)) H'
theorem kS_skip (k : Kd) : decide (V.str (kS k) = V.str "skip") = decide (k = .skip) := by
  cases k <;> decide +kernel
theorem kS_down (k : Kd) : decide (V.str (kS k) = V.str "down") = decide (k = .down) := by
  cases k <;> decide +kernel
section
variable {P : Program} {w : World} {K : PySem.W.Frag} {mg : Str → Option Value} {base : Heap}
theorem sc_rows_of : FnScope ["web", "roots", "sharing", "found", "place", "root"] ["web", "roots", "sharing"] (defScope s_rows_of) := ⟨rfl, rfl, rfl, by decide +kernel, rfl, by decide +kernel, by decide +kernel⟩
theorem has_rows_of (T : Tx mg) (S : Stands K mg "rows_of" s_rows_of) (h1 : Has P w K mg base 1 "row_from" ["web", "sharing", "root"] spRowFrom) : Has P w K mg base 2 "rows_of" ["web", "roots", "sharing"] spRowsOf := by
  obtain ⟨f1, fd1, g1, k1, b1, G1⟩ := h1
  refine S.has sc_rows_of (fun _ _ _ _ _ _ us hl => match us, hl with | [_, _, _], _ => rfl) (fun vs H Q E h => ?_) (fun f cdv A outer s H vs Q E hr h => ?_)
  · obtain ⟨W, R, Z, web, roots, Sh, rfl, _⟩ := h
    rfl
  · obtain ⟨W, R, Z, web, roots, Sh, rfl, hW, ok, hR, rok, hZ, hlen, k⟩ := h
    have nd := sc_rows_of.nd
    refine ⟨_, pss_cons (ps_set (i := 3) nd rfl (Or.inl rfl) (pe_lst pa_nil))
      (pss_cons (ps_for PassesOwn.never rfl (pi_enumT (by rfl) T.enum (pa_cons (pv 1) pa_nil)) (pg_tup rfl (pgs_cons (pg_name (i := 4) nd rfl (Or.inl rfl)) (pgs_cons (pg_name (i := 5) nd rfl (Or.inl rfl)) pgs_nil)))
        (pss_one (ps_expr (pe_bm PySem.F.plainAttrs_list PySem.F.slot_list_append PySem.F.type_list_append mt_append (pv 3) (pa_cons
          (pe_ifExp (pt_cmpR op_eq (pe_ix ix_tup (pv 2) (pv 5) (fun _ _ => rfl)) (pe_op op_add (pv 4) pe_int) (nomark _)) (pe_call G1 hr (by rfl) g1 k1 b1 .nil pass0 (pa_cons (pv 0) (pa_cons (pv 2) (pa_cons (pv 5) pa_nil)))) (pe_tup pa_nil)) pa_nil)))))
      (pss_one (ps_ret (pv 3)))), ?_⟩
    refine ⟨Nat.zero_le _, fun fo hfo => ?_⟩
    refine ⟨_, rfl, R, _, rfl, SqT.of ((same_new hfo) _ _ hR), ?_⟩
    have hRl : (rowsOf web roots Sh).length = roots.length := rowsAux_len web Sh roots 0
    refine for_enumT (K := K) (a := R) (xs := roots.map nV) (fun i σ H' => ∃ as u v, σ = [some (.ref W), some (.ref R), some (.ref Z), some (.ref fo), u, v] ∧ Same H H' ∧ H' fo = some (.lst (as.map V.ref)) ∧ RowsL H' as ((rowsOf web roots Sh).take i))
      ⟨[], _, _, rfl, same_new hfo, upd_same, .nil⟩ (fun i σ H' _ ⟨_, _, _, _, sm, _⟩ => SqT.of (sm _ _ hR)) ?_ ?_
    · rintro i x T0 σ H' hx ⟨as, u, v, rfl, sm, hL, hP⟩ hT0
      obtain ⟨r, hr0, rfl⟩ := map_get_inv hx
      have hnext := take_get (rowsAux_get web Sh roots 0 i r hr0)
      have hmem := List.mem_of_getElem? hr0
      have hrl := rok.lt r hmem
      have sm2 : Same H (upd H' T0 (.tup [.int (i : Nat), nV r])) := sm.trans (same_new hT0)
      have hL2 : upd H' T0 (.tup [.int (i : Nat), nV r]) fo = some (.lst (as.map V.ref)) := (same_new hT0) _ _ hL
      have hP2 := hP.ts (.new (o := .tup [.int (i : Nat), nV r]) hT0)
      refine ⟨T0, _, rfl, SqT.of upd_same, rfl, _, _, rfl, _, _, rfl, rfl, ?_⟩
      refine ⟨_, rfl, .inl ⟨rfl, _, SqL.of hL2⟩, ?_⟩
      refine ⟨_, rfl, _, rfl, Z, _, _, nV (Sh.getD r 0), rfl, rfl, SqT.of (sm2 _ _ hZ), atI_nat (map_get nV (getD_get (by rw [hlen]; exact hrl))), _, rfl, _, _, rfl, rfl, rfl, _, rfl, ?_⟩
      have asl : (as.map V.ref).length < sizeLine := by
        have h1 := Paired.length hP
        rw [List.length_map, h1, List.length_take]
        have := rok.three
        exact Nat.lt_of_le_of_lt (show _ ≤ 3 by omega) (by decide)
      have fin : ∀ (H2 : Hp) (p : Addr), Same (upd H' T0 (.tup [.int (i : Nat), nV r])) H2 → RowAt H2 p (if Sh.getD r 0 = 0 + i + 1 then rowFrom web Sh r else []) →
          Same H (upd H2 fo (.lst (as.map V.ref ++ [V.ref p]))) ∧ upd H2 fo (.lst (as.map V.ref ++ [V.ref p])) fo = some (.lst ((as ++ [p]).map V.ref)) ∧ RowsL (upd H2 fo (.lst (as.map V.ref ++ [V.ref p]))) (as ++ [p]) ((rowsOf web roots Sh).take (i + 1)) := fun H2 p s2 hrow => by
        have hfo2 := s2 _ _ hL2
        refine ⟨same_out (sm2.trans s2) hfo, by rw [upd_same, List.map_append]; rfl, ?_⟩
        rw [show (rowsOf web roots Sh).take (i + 1) = _ from hnext]
        exact RowsL.snoc ((hP2.ts (Same.ts s2)).ts (.lst hfo2)) (RowAt.ts hrow (.lst hfo2))
      by_cases c : Sh.getD r 0 = i + 1
      · rw [decide_eq_true (show nV (Sh.getD r 0) = V.int ((i : Nat) + 1 : Int) from congrArg V.int (by omega))]
        refine iteT ⟨_, rfl, _, rfl, _, rfl, W, Z, web, Sh, r, rfl, WebAt.same hW sm2, ok, NumsAt.same hZ sm2, hlen, hrl, fun H2 p s2 hrow => ?_⟩
        refine ⟨fo, _, .ref p, rfl, rfl, s2 _ _ hL2, asl, as ++ [p], _, _, rfl, fin H2 p s2 ?_⟩
        rw [if_pos (by omega)]
        exact hrow
      · rw [decide_eq_false (show ¬ nV (Sh.getD r 0) = V.int ((i : Nat) + 1 : Int) from fun z => c (by have := V.int.inj z; omega))]
        refine iteF ⟨Nat.zero_le _, fun p hp => ?_⟩
        refine ⟨fo, _, .ref p, rfl, rfl, (same_new hp) _ _ hL2, asl, as ++ [p], _, _, rfl, fin _ p (same_new hp) ?_⟩
        rw [if_neg (by omega)]
        exact ⟨[], upd_same, .nil⟩
    · rintro σ H' ⟨as, u, v, rfl, sm, hL, hP⟩
      rw [List.length_map, ← hRl, List.take_length] at hP
      exact ⟨_, rfl, k _ fo sm hfo ⟨as, hL, hP⟩⟩
theorem sc_other_at : FnScope ["web", "sharing", "walker", "event", "kind", "node", "place", "tie"] ["web", "sharing", "walker", "event"] (defScope s_other_at) := ⟨rfl, rfl, rfl, by decide +kernel, rfl, by decide +kernel, by decide +kernel⟩
theorem has_other_at (T : Tx mg) (S : Stands K mg "other_at" s_other_at) : Has P w K mg base 1 "other_at" ["web", "sharing", "walker", "event"] spOtherAt := by
  refine S.has sc_other_at (fun _ _ _ _ _ _ us hl => match us, hl with | [_, _, _, _], _ => rfl) (fun vs H Q E h => ?_) (fun f cdv A outer s H vs Q E hr h => ?_)
  · obtain ⟨W, Z, a, web, Sh, wn, e, rfl, _⟩ := h
    rfl
  · obtain ⟨W, Z, a, web, Sh, wn, e, rfl, hW, ok, hZ, hlen, ha, eok, k⟩ := h
    obtain ⟨kd, x, p⟩ := e
    have nd := sc_other_at.nd
    obtain ⟨rs, hW1, hW2, hW3⟩ := id hW
    have hx : x < web.length := eok.lt
    refine ⟨_, pss_cons (ps_asg (pv 3) (pg_tup rfl (pgs_cons (pg_name (i := 4) nd rfl (Or.inl rfl)) (pgs_cons (pg_name (i := 5) nd rfl (Or.inl rfl)) (pgs_cons (pg_name (i := 6) nd rfl (Or.inl rfl)) pgs_nil)))))
      (pss_cons (ps_set (i := 7) nd rfl (Or.inl rfl) (pe_ifExp (pt_cmpR op_eq (pv 4) pe_str (nomark _)) (pe_ix ix_tup (pe_ix ix_tup (pv 0) (pv 5) (fun _ _ => rfl)) (pv 6) (fun _ _ => rfl)) pe_non))
      (pss_one (ps_ret (pe_ifExp (PW.pt (pw_and (pt_cmpR op_notN (pv 7) pe_non (nomark _)) (pw_and1 (pt_cmpR op_notIn_seq (pe_ix ix_tup (pv 1) (pv 7) (fun _ _ => rfl)) (pe_tup (pa_cons pe_int (pa_cons (pv 2) pa_nil))) (by rfl))))) (pv 7) pe_non)))), ?_⟩
    refine ⟨_, rfl, a, _, rfl, SqT.of ha, rfl, _, _, rfl, _, _, rfl, _, _, rfl, rfl, ?_⟩
    refine ⟨_, rfl, rfl, _, rfl, ?_⟩
    rw [kS_skip]
    by_cases c : kd = .skip
    · rw [decide_eq_true c]
      have hp : p < deg web x := eok.pl (.inl c)
      refine iteT ⟨_, rfl, _, rfl, W, _, _, .ref (rs.getD x 0), rfl, rfl, SqT.of hW1, atI_nat (map_get V.ref (getD_get (by rw [hW2]; exact hx))), _, rfl, rs.getD x 0, _, _, oV (tie web x p), rfl, rfl, SqT.of (hW3 x hx), atI_nat (map_get oV (getD_get hp)), ?_⟩
      refine ⟨_, rfl, rfl, _, rfl, ?_⟩
      have eo : otherAt web Sh wn (kd, x, p) = match tie web x p with
          | none => none
          | some t => if Sh.getD t 0 = 0 ∨ Sh.getD t 0 = wn then none else some t := by
        unfold otherAt
        rw [if_pos c]
        all_goals rfl
      cases ht : tie web x p with
      | none =>
        refine iteF (iteF ?_)
        have := k H (Same.refl H)
        rw [eo, ht] at this
        exact this
      | some t =>
        refine iteT ?_
        have htl : t < Sh.length := by rw [hlen]; exact ok.tie_lt ht
        refine ⟨_, rfl, _, rfl, Z, _, _, nV (Sh.getD t 0), rfl, rfl, SqT.of hZ, atI_nat (map_get nV (getD_get htl)), _, rfl, (by show 2 ≤ sizeLine; decide), fun q hq => ?_⟩
        refine ⟨q, [.int 0, nV wn], rfl, .inr (SqT.of upd_same), rfl, rfl, _, rfl, ?_⟩
        have e2 : inV (nV (Sh.getD t 0)) [.int 0, nV wn] = decide (Sh.getD t 0 = 0 ∨ Sh.getD t 0 = wn) := by
          show (((0 : Int) == ((Sh.getD t 0 : Nat) : Int)) || ((((wn : Nat) : Int) == ((Sh.getD t 0 : Nat) : Int)) || false)) = _
          by_cases c1 : Sh.getD t 0 = 0
          · rw [c1]
            simp
          · by_cases c2 : Sh.getD t 0 = wn
            · rw [c2]
              simp
            · have h1 : ((0 : Int) == ((Sh.getD t 0 : Nat) : Int)) = false := beq_eq_false_iff_ne.mpr (by omega)
              have h2 : (((wn : Nat) : Int) == ((Sh.getD t 0 : Nat) : Int)) = false := beq_eq_false_iff_ne.mpr (by omega)
              rw [h1, h2, decide_eq_false (fun z => z.elim c1 c2)]
              rfl
        have kq := k _ (same_new (o := .tup [.int 0, nV wn]) hq)
        rw [eo, ht] at kq
        show if (!inV (nV (Sh.getD t 0)) [.int 0, nV wn]) = true then _ else _
        rw [e2]
        by_cases d : Sh.getD t 0 = 0 ∨ Sh.getD t 0 = wn
        · rw [decide_eq_true d]
          simp only [if_pos d] at kq
          exact iteF kq
        · rw [decide_eq_false d]
          simp only [if_neg d] at kq
          exact iteT ⟨_, rfl, kq⟩
    · rw [decide_eq_false c]
      refine iteF ⟨_, rfl, rfl, _, rfl, iteF (iteF ?_)⟩
      have := k H (Same.refl H)
      have eo : otherAt web Sh wn (kd, x, p) = none := by
        unfold otherAt
        rw [if_neg c]
      rw [eo] at this
      exact this
end
end TB

set_option maxRecDepth 100000
set_option maxHeartbeats 4000000
/-! A Doing: its fields, its short methods. -/
namespace TB
open PySem PySem.Spec PyProof.Rows L2
def dof (W Z er dn mk : Addr) : List (Str × V) := [("woven", .ref W), ("shared", .ref Z), ("event_rows", .ref er), ("dones", .ref dn), ("marked_nodes", .ref mk)]
section
variable (W Z er dn mk : Addr)
theorem dof_w : (dof W Z er dn mk).lookup ("woven" : Str) = some (.ref W) := by rfl
theorem dof_z : (dof W Z er dn mk).lookup ("shared" : Str) = some (.ref Z) := by rfl
theorem dof_e : (dof W Z er dn mk).lookup ("event_rows" : Str) = some (.ref er) := by rfl
theorem dof_d : (dof W Z er dn mk).lookup ("dones" : Str) = some (.ref dn) := by rfl
theorem dof_m : (dof W Z er dn mk).lookup ("marked_nodes" : Str) = some (.ref mk) := by rfl
theorem dof_n1 : (dof W Z er dn mk).lookup ("has_next" : Str) = none := by rfl
theorem dof_n2 : (dof W Z er dn mk).lookup ("waits_for" : Str) = none := by rfl
theorem dof_n3 : (dof W Z er dn mk).lookup ("may" : Str) = none := by rfl
theorem dof_n4 : (dof W Z er dn mk).lookup ("do" : Str) = none := by rfl
theorem dof_n5 : (dof W Z er dn mk).lookup ("go_on" : Str) = none := by rfl
theorem dof_n6 : (dof W Z er dn mk).lookup ("ring" : Str) = none := by rfl
end
theorem putK_m (m : List Nat) (t : Nat) : putK (knK m) (Sum.inl (t : Int)) (.bl true) = knK (putM m t) := by
  unfold putM
  by_cases c : t ∈ m
  · rw [if_pos c]
    unfold putK
    rw [valV_any, valV_kn, if_pos c]
    show (knK m).map _ = knK m
    have : ∀ l : List Nat, (knK l).map (fun kv => if kv.1 = (Sum.inl (t : Int) : Key) then (kv.1, V.bl true) else kv) = knK l := by
      intro l
      induction l with
      | nil => rfl
      | cons a l ih =>
        show (if (Sum.inl (a : Int) : Key) = Sum.inl (t : Int) then ((Sum.inl (a : Int) : Key), V.bl true) else (Sum.inl (a : Int), V.bl true)) :: _ = _
        rw [ite_self]
        exact congrArg _ ih
    exact this m
  · rw [if_neg c]
    exact putK_kn c
structure DoAt (C : Addr) (H : Hp) (p W Z er dn mk : Addr) (rows : Rows) (d m : List Nat) : Prop where
  ins : ∃ dx, H p = some (.ins C dx (dof W Z er dn mk))
  rows : RowsAt H er rows
  dn : H dn = some (.lst (d.map nV))
  mks : H mk = some (.dK (knK m))
/-- the class Doing, as it stands behind the top -/
structure Dx (K : PySem.W.Frag) (mg : Str → Option Value) (C : Addr) : Prop where
  cl : Cls K C
  mgC : mg "Doing" = some (.ref C)
  nW : NoAttr K C "woven"
  nS : NoAttr K C "shared"
  nE : NoAttr K C "event_rows"
  nD : NoAttr K C "dones"
  nM : NoAttr K C "marked_nodes"
def HasM (P : Program) (w : World) (K : PySem.W.Frag) (mg : Str → Option Value) (base : Heap) (C : Addr) (k : Nat) (m : Str) (ps : List Str) (sp : Sp) : Prop :=
  ∃ f fd, Meth K C m f ∧ Binds K fd ps [] ∧ FnOk P w K mg base CX0 k f fd ps sp
def StandsM (K : PySem.W.Frag) (C : Addr) (m q : Str) (st : Stmt) : Prop := ∃ f fd, Meth K C m f ∧ FnP K m q st f fd
section
variable {P : Program} {w : World} {K : PySem.W.Frag} {mg : Str → Option Value} {base : Heap} {C : Addr}
theorem StandsM.has {m q : Str} {st : Stmt} {N ps : List Str} {k : Nat} {sp : Sp} (S : StandsM K C m q st) (sc : FnScope N ps (defScope st))
    (hb : ∀ (kV doc pm : Value) (an : Option Addr) (cdv ct : Value) (us : List Value), us.length = ps.length → bindArgs (PySem.W.fnOf m q (defArgs st) (defBody st) (defScope st) .none kV doc pm an cdv ct) ⟨us, []⟩ = pure (ps.zip us))
    (len : ∀ vs H Q E, sp vs H Q E → vs.length = ps.length)
    (body : ∀ (f : Addr) (cdv : Value) (A : Around) (outer : List Env) (s : Shared) (H : Hp) (vs : List V) (Q : VK) (E : XK), Room k (A.deeper (envOfC q (defScope st) s.heap.objs.size f cdv)) → sp vs H Q E →
      ∃ t, PSs (cxOf CX0 P w K mg base N q (defScope st) f cdv A outer s H E).nox (defBody st) t ∧ t { nx := fun _ H' => Q .non H', rt := Q } (start N vs) H) : HasM P w K mg base C (k + 1) m ps sp := by
  obtain ⟨f, fd, hm, F⟩ := S
  refine ⟨f, fd, hm, F.bindsN hb, F.ok sc len fun cdv A outer s H vs Q E hr h => ?_⟩
  obtain ⟨t, a, b⟩ := body f cdv A outer s H vs Q E hr h
  exact ⟨t, a.nox, b⟩
end
theorem kn1 (w : Nat) : (nV (w + 1)) = V.int ((w : Int) + 1) := congrArg V.int (by omega)
/-- walker numbers: w from 0 -/
def spHasNext (C : Addr) : Sp := fun vs H Q _ => ∃ (p W Z er dn mk : Addr) (rows : Rows) (d m : List Nat) (w : Nat), vs = [.ref p, nV (w + 1)] ∧ DoAt C H p W Z er dn mk rows d m ∧ w < rows.length ∧ w < d.length ∧
  Q (.bl (decide (d.getD w 0 < (rw_ rows w).length))) H
structure Wov (H : Hp) (W Z : Addr) (web : Web) (S : List Nat) (rows : Rows) : Prop where
  wat : WebAt H W web
  ok : WebOk web
  nums : NumsAt H Z S
  len : S.length = web.length
  ev : ∀ w, ∀ e ∈ rw_ rows w, EvOk web e
def spWaits (C : Addr) : Sp := fun vs H Q _ => ∃ (p W Z er dn mk : Addr) (web : Web) (S : List Nat) (rows : Rows) (d m : List Nat) (w : Nat) (e : Ev), vs = [.ref p, nV (w + 1)] ∧ DoAt C H p W Z er dn mk rows d m ∧ Wov H W Z web S rows ∧ w < rows.length ∧ w < d.length ∧
  (rw_ rows w)[d.getD w 0]? = some e ∧ ∀ H', Same H H' → Q (oV (waits web S rows d m w)) H'
def spMay (C : Addr) : Sp := fun vs H Q _ => ∃ (p W Z er dn mk : Addr) (web : Web) (S : List Nat) (rows : Rows) (d m : List Nat) (w : Nat), vs = [.ref p, nV (w + 1)] ∧ DoAt C H p W Z er dn mk rows d m ∧ Wov H W Z web S rows ∧ w < rows.length ∧ w < d.length ∧
  ∀ H', Same H H' → Q (.bl (mayB web S rows d m w)) H'
def spDo (C : Addr) : Sp := fun vs H Q _ => ∃ (p W Z er dn mk : Addr) (web : Web) (S : List Nat) (rows : Rows) (d m : List Nat) (w : Nat) (e : Ev), vs = [.ref p, nV (w + 1)] ∧ DoAt C H p W Z er dn mk rows d m ∧ Wov H W Z web S rows ∧ w < rows.length ∧ w < d.length ∧
  (rw_ rows w)[d.getD w 0]? = some e ∧ m.length ≤ 1000 ∧ ∀ H', (∀ b o, b ≠ dn → b ≠ mk → H b = some o → H' b = some o) → DoAt C H' p W Z er dn mk rows (doIt web rows d m w).1 (doIt web rows d m w).2 → Q .non H'
theorem Wov.same {H H' : Hp} {W Z : Addr} {web : Web} {S : List Nat} {rows : Rows} (h : Wov H W Z web S rows) (s : Tsame H H') : Wov H' W Z web S rows := ⟨h.wat.ts s, h.ok, h.nums.ts s, h.len, h.ev⟩
theorem DoAt.same {C : Addr} {H H' : Hp} {p W Z er dn mk : Addr} {rows : Rows} {d m : List Nat} (h : DoAt C H p W Z er dn mk rows d m) (s : Same H H') : DoAt C H' p W Z er dn mk rows d m := by
  obtain ⟨dx, hi⟩ := h.ins
  obtain ⟨as, h1, h2⟩ := h.rows
  exact ⟨⟨dx, s _ _ hi⟩, ⟨as, s _ _ h1, h2.ts (Same.ts s)⟩, s _ _ h.dn, s _ _ h.mks⟩
theorem RowsL.get {H : Hp} {as : List Addr} {rows : Rows} (h : RowsL H as rows) {w : Nat} (hw : w < rows.length) : as[w]? = some (as.getD w 0) ∧ RowAt H (as.getD w 0) (rw_ rows w) := by
  obtain ⟨a, h1, h2⟩ := paired_get h (getD_get (d := []) hw)
  have := (get_getD (d := 0) h1).1
  rw [this]
  exact ⟨h1, h2⟩
section
variable {P : Program} {w : World} {K : PySem.W.Frag} {mg : Str → Option Value} {base : Heap} {C : Addr}
theorem sc_has_next : FnScope ["self", "walker"] ["self", "walker"] (defScope s_has_next) := ⟨rfl, rfl, rfl, by decide +kernel, rfl, by decide +kernel, by decide +kernel⟩
theorem has_has_next (T : Tx mg) (D : Dx K mg C) (S : StandsM K C "has_next" "Doing.has_next" s_has_next) : HasM P w K mg base C 1 "has_next" ["self", "walker"] (spHasNext C) := by
  refine S.has sc_has_next (fun _ _ _ _ _ _ us hl => match us, hl with | [_, _], _ => rfl) (fun vs H Q E h => ?_) (fun f cdv A outer s H vs Q E hr h => ?_)
  · obtain ⟨p, W, Z, er, dn, mk, rows, d, m, wi, rfl, _⟩ := h
    rfl
  · obtain ⟨p, W, Z, er, dn, mk, rows, d, m, wi, rfl, O, h1, h2, k⟩ := h
    obtain ⟨dx, hi⟩ := O.ins
    obtain ⟨as, hr1, hr2⟩ := O.rows
    obtain ⟨ga, es, hes1, hes2⟩ := hr2.get h1
    have hwl : (wi : Int) < 2 ^ 63 → True := fun _ => trivial
    have ei : ((wi + 1 : Nat) : Int) - 1 = (wi : Int) := by omega
    refine ⟨_, pss_one (ps_ret (pe_cmpR op_lt (pe_ix ix_list (pe_fld (pv 0) rfl) (pe_op op_sub (pv 1) pe_int) (fun _ _ => rfl))
      (pe_callB call_len_seq (by rfl) T.len PySem.boot_len (pa_cons (pe_ix ix_list (pe_fld (pv 0) rfl) (pe_op op_sub (pv 1) pe_int) (fun _ _ => rfl)) pa_nil)) (nomark _))), ?_⟩
    refine ⟨_, rfl, p, C, dx, _, _, rfl, hi, D.cl, D.nD, dof_d _ _ _ _ _, _, rfl, _, _, rfl, rfl, dn, _, (wi : Int), nV (d.getD wi 0), rfl, congrArg V.int ei, SqL.of O.dn, atI_nat (map_get nV (getD_get h2)), ?_⟩
    refine ⟨_, rfl, p, C, dx, _, _, rfl, hi, D.cl, D.nE, dof_e _ _ _ _ _, _, rfl, _, _, rfl, rfl, er, _, (wi : Int), .ref (as.getD wi 0), rfl, congrArg V.int ei, SqL.of hr1, atI_nat (map_get V.ref ga), ?_⟩
    refine ⟨_, _, rfl, .inr (SqT.of hes1), _, _, rfl, rfl, ?_⟩
    have hl : (es.map V.ref).length = (rw_ rows wi).length := by
      rw [List.length_map]
      exact Paired.length hes2
    have e : decide (((d.getD wi 0 : Nat) : Int) < (((es.map V.ref).length : Nat) : Int)) = decide (d.getD wi 0 < (rw_ rows wi).length) := by
      rw [hl]
      exact decide_eq_decide.mpr (by omega)
    show Q (V.bl (decide (((d.getD wi 0 : Nat) : Int) < (((es.map V.ref).length : Nat) : Int)))) H
    rw [e]
    exact k
theorem sc_waits_for : FnScope ["self", "walker", "other"] ["self", "walker"] (defScope s_waits_for) := ⟨rfl, rfl, rfl, by decide +kernel, rfl, by decide +kernel, by decide +kernel⟩
theorem has_waits_for (T : Tx mg) (D : Dx K mg C) (S : StandsM K C "waits_for" "Doing.waits_for" s_waits_for) (h1 : Has P w K mg base 1 "other_at" ["web", "sharing", "walker", "event"] spOtherAt) : HasM P w K mg base C 2 "waits_for" ["self", "walker"] (spWaits C) := by
  obtain ⟨f1, fd1, g1, k1, b1, G1⟩ := h1
  refine S.has sc_waits_for (fun _ _ _ _ _ _ us hl => match us, hl with | [_, _], _ => rfl) (fun vs H Q E h => ?_) (fun f cdv A outer s H vs Q E hr h => ?_)
  · obtain ⟨p, W, Z, er, dn, mk, web, Sh, rows, d, m, wi, e, rfl, _⟩ := h
    rfl
  · obtain ⟨p, W, Z, er, dn, mk, web, Sh, rows, d, m, wi, e, rfl, O, Wv, h1, h2, he, k⟩ := h
    obtain ⟨dx, hi⟩ := O.ins
    obtain ⟨as, hr1, hr2⟩ := O.rows
    obtain ⟨ga, es, hes1, hes2⟩ := hr2.get h1
    obtain ⟨a, ha1, ha2⟩ := paired_get hes2 he
    have nd := sc_waits_for.nd
    have hu1 := hu_of hr
    have ei : ((wi + 1 : Nat) : Int) - 1 = (wi : Int) := by omega
    refine ⟨_, pss_cons (ps_set (i := 2) nd rfl (Or.inl rfl) (pe_call G1 hr (by rfl) g1 k1 b1 .nil pass0 (pa_cons (pe_fld (pv 0) rfl) (pa_cons (pe_fld (pv 0) rfl) (pa_cons (pv 1) (pa_cons
        (pe_ix ix_tup (pe_ix ix_list (pe_fld (pv 0) rfl) (pe_op op_sub (pv 1) pe_int) (fun _ _ => rfl)) (pe_ix ix_list (pe_fld (pv 0) rfl) (pe_op op_sub (pv 1) pe_int) (fun _ _ => rfl)) (fun _ _ => rfl)) pa_nil))))))
      (pss_one (ps_ret (pe_ifExp (PW.pt (pw_and (pt_cmpR op_notN (pv 2) pe_non (nomark _)) (pw_and1 (pt_cmp (pc_dnotin hu1 (pv 2) (pe_fld (pv 0) rfl)) rfl)))) (pv 2) pe_non))), ?_⟩
    refine ⟨_, rfl, p, C, dx, _, _, rfl, hi, D.cl, D.nW, dof_w _ _ _ _ _, _, rfl, p, C, dx, _, _, rfl, hi, D.cl, D.nS, dof_z _ _ _ _ _, _, rfl, ?_⟩
    refine ⟨_, rfl, p, C, dx, _, _, rfl, hi, D.cl, D.nE, dof_e _ _ _ _ _, _, rfl, _, _, rfl, rfl, er, _, (wi : Int), .ref (as.getD wi 0), rfl, congrArg V.int ei, SqL.of hr1, atI_nat (map_get V.ref ga), ?_⟩
    refine ⟨_, rfl, p, C, dx, _, _, rfl, hi, D.cl, D.nD, dof_d _ _ _ _ _, _, rfl, _, _, rfl, rfl, dn, _, (wi : Int), nV (d.getD wi 0), rfl, congrArg V.int ei, SqL.of O.dn, atI_nat (map_get nV (getD_get h2)), ?_⟩
    refine ⟨as.getD wi 0, _, _, .ref a, rfl, rfl, SqT.of hes1, atI_nat (map_get V.ref ha1), ?_⟩
    refine ⟨W, Z, a, web, Sh, wi + 1, e, rfl, Wv.wat, Wv.ok, Wv.nums, Wv.len, ha2, Wv.ev wi e (List.mem_of_getElem? he), fun H1 s1 => ?_⟩
    have hw : waits web Sh rows d m wi = match otherAt web Sh (wi + 1) e with
        | none => none
        | some t => if t ∈ m then none else some t := by
      unfold waits
      rw [he]
      all_goals rfl
    have kq := k H1 s1
    refine ⟨_, rfl, rfl, _, rfl, ?_⟩
    cases ho : otherAt web Sh (wi + 1) e with
    | none =>
      rw [hw, ho] at kq
      exact iteF (iteF kq)
    | some t =>
      rw [hw, ho] at kq
      refine iteT ⟨_, rfl, _, rfl, p, C, dx, _, _, rfl, s1 _ _ hi, D.cl, D.nM, dof_m _ _ _ _ _, mk, _, rfl, DGet.k (k := Sum.inl (t : Int)) (s1 _ _ O.mks), _, rfl, ?_⟩
      rw [valV_kn]
      by_cases c : t ∈ m
      · rw [if_pos c]
        simp only [if_pos c] at kq
        exact iteF kq
      · rw [if_neg c]
        simp only [if_neg c] at kq
        exact iteT ⟨_, rfl, kq⟩
theorem sc_may : FnScope ["self", "walker"] ["self", "walker"] (defScope s_may) := ⟨rfl, rfl, rfl, by decide +kernel, rfl, by decide +kernel, by decide +kernel⟩
theorem has_may (T : Tx mg) (D : Dx K mg C) (S : StandsM K C "may" "Doing.may" s_may) (h1 : HasM P w K mg base C 1 "has_next" ["self", "walker"] (spHasNext C)) (h2 : HasM P w K mg base C 2 "waits_for" ["self", "walker"] (spWaits C)) : HasM P w K mg base C 3 "may" ["self", "walker"] (spMay C) := by
  obtain ⟨f1, fd1, m1, b1, G1⟩ := h1
  obtain ⟨f2, fd2, m2, b2, G2⟩ := h2
  refine S.has sc_may (fun _ _ _ _ _ _ us hl => match us, hl with | [_, _], _ => rfl) (fun vs H Q E h => ?_) (fun f cdv A outer s H vs Q E hr h => ?_)
  · obtain ⟨p, W, Z, er, dn, mk, web, Sh, rows, d, m, wi, rfl, _⟩ := h
    rfl
  · obtain ⟨p, W, Z, er, dn, mk, web, Sh, rows, d, m, wi, rfl, O, Wv, h1, h2, k⟩ := h
    obtain ⟨dx, hi⟩ := O.ins
    have hr1 : Room 1 _ := hr.mono (by decide)
    refine ⟨_, pss_one (ps_ret (pe_and (pe_meth (pv 0) D.cl m1 G1 hr1 b1 .nil pass0 (pa_cons (pv 1) pa_nil)) (pe_one (pe_cmpR op_isN (pe_meth (pv 0) D.cl m2 G2 hr b2 .nil pass0 (pa_cons (pv 1) pa_nil)) pe_non (nomark _))))), ?_⟩
    refine ⟨_, rfl, p, dx, _, rfl, hi, dof_n1 _ _ _ _ _, _, rfl, p, W, Z, er, dn, mk, rows, d, m, wi, rfl, O, h1, h2, _, rfl, ?_⟩
    by_cases c : d.getD wi 0 < (rw_ rows wi).length
    · rw [decide_eq_true c]
      refine iteT ⟨_, rfl, p, dx, _, rfl, hi, dof_n2 _ _ _ _ _, _, rfl, p, W, Z, er, dn, mk, web, Sh, rows, d, m, wi, (rw_ rows wi)[d.getD wi 0], rfl, O, Wv, h1, h2, List.getElem?_eq_getElem c, fun H1 s1 => ⟨rfl, ?_⟩⟩
      have kq := k H1 s1
      have e : mayB web Sh rows d m wi = decide (oV (waits web Sh rows d m wi) = .non) := by
        unfold mayB
        rw [decide_eq_true c]
        cases waits web Sh rows d m wi <;> rfl
      rw [e] at kq
      exact kq
    · rw [decide_eq_false c]
      have kq := k H (Same.refl H)
      have e : mayB web Sh rows d m wi = false := by
        unfold mayB
        rw [decide_eq_false c]
        rfl
      rw [e] at kq
      exact iteF kq
theorem sc_do : FnScope ["self", "walker", "kind", "node", "place"] ["self", "walker"] (defScope s_do) := ⟨rfl, rfl, rfl, by decide +kernel, rfl, by decide +kernel, by decide +kernel⟩
theorem has_do (T : Tx mg) (D : Dx K mg C) (S : StandsM K C "do" "Doing.do" s_do) : HasM P w K mg base C 1 "do" ["self", "walker"] (spDo C) := by
  refine S.has sc_do (fun _ _ _ _ _ _ us hl => match us, hl with | [_, _], _ => rfl) (fun vs H Q E h => ?_) (fun f cdv A outer s H vs Q E hr h => ?_)
  · obtain ⟨p, W, Z, er, dn, mk, web, Sh, rows, d, m, wi, e, rfl, _⟩ := h
    rfl
  · obtain ⟨p, W, Z, er, dn, mk, web, Sh, rows, d, m, wi, e, rfl, O, Wv, h1, h2, he, hm, k⟩ := h
    obtain ⟨dx, hi⟩ := O.ins
    obtain ⟨as, hr1, hr2⟩ := O.rows
    obtain ⟨ga, es, hes1, hes2⟩ := hr2.get h1
    obtain ⟨a, ha1, ha2⟩ := paired_get hes2 he
    obtain ⟨rs, hW1, hW2, hW3⟩ := id Wv.wat
    have eok := Wv.ev wi e (List.mem_of_getElem? he)
    obtain ⟨kd, x, pl⟩ := e
    have hx : x < web.length := eok.lt
    have nd := sc_do.nd
    have hu1 := hu_of hr
    have ei : ((wi + 1 : Nat) : Int) - 1 = (wi : Int) := by omega
    have nmd : mk ≠ dn := ne_of O.mks O.dn (by intro z; cases z)
    have npm : p ≠ mk := ne_of hi O.mks (by intro z; cases z)
    have npd : p ≠ dn := ne_of hi O.dn (by intro z; cases z)
    have nem : er ≠ mk := ne_of hr1 O.mks (by intro z; cases z)
    refine ⟨_, pss_cons (ps_asg (pe_ix ix_tup (pe_ix ix_list (pe_fld (pv 0) rfl) (pe_op op_sub (pv 1) pe_int) (fun _ _ => rfl)) (pe_ix ix_list (pe_fld (pv 0) rfl) (pe_op op_sub (pv 1) pe_int) (fun _ _ => rfl)) (fun _ _ => rfl))
        (pg_tup rfl (pgs_cons (pg_name (i := 2) nd rfl (Or.inl rfl)) (pgs_cons (pg_name (i := 3) nd rfl (Or.inl rfl)) (pgs_cons (pg_name (i := 4) nd rfl (Or.inl rfl)) pgs_nil)))))
      (pss_cons (ps_if (pt_cmpR op_eq (pv 2) pe_str (nomark _)) (pss_one (ps_dput hu1 (pe_fld (pv 0) rfl) (pe_ix ix_tup (pe_ix ix_tup (pe_fld (pv 0) rfl) (pv 3) (fun _ _ => rfl)) (pv 4) (fun _ _ => rfl)) pe_bl rfl)) pss_nil)
      (pss_one (ps_augS (pe_fld (pv 0) rfl) (pe_op op_sub (pv 1) pe_int) get_listP pe_int ip_add set_list))), ?_⟩
    refine ⟨_, rfl, p, C, dx, _, _, rfl, hi, D.cl, D.nE, dof_e _ _ _ _ _, _, rfl, _, _, rfl, rfl, er, _, (wi : Int), .ref (as.getD wi 0), rfl, congrArg V.int ei, SqL.of hr1, atI_nat (map_get V.ref ga), ?_⟩
    refine ⟨_, rfl, p, C, dx, _, _, rfl, hi, D.cl, D.nD, dof_d _ _ _ _ _, _, rfl, _, _, rfl, rfl, dn, _, (wi : Int), nV (d.getD wi 0), rfl, congrArg V.int ei, SqL.of O.dn, atI_nat (map_get nV (getD_get h2)), ?_⟩
    refine ⟨as.getD wi 0, _, _, .ref a, rfl, rfl, SqT.of hes1, atI_nat (map_get V.ref ha1), ?_⟩
    refine ⟨a, _, rfl, SqT.of ha2, rfl, _, _, rfl, _, _, rfl, _, _, rfl, rfl, ?_⟩
    refine ⟨_, rfl, rfl, _, rfl, ?_⟩
    rw [kS_down]
    -- self.dones[walker - 1] += 1, whatever stands at mk
    have fin : ∀ (H1 : Hp) (m' : List Nat), (∀ b o, b ≠ mk → H b = some o → H1 b = some o) → H1 mk = some (.dK (knK m')) → m' = (doIt web rows d m wi).2 → RowsAt H1 er rows →
        Q .non (upd H1 dn (.lst ((d.map nV).set wi (.int ((d.getD wi 0 : Int) + 1))))) := fun H1 m' hk hmk em hrows => by
      have hdn1 := hk _ _ (Ne.symm nmd) O.dn
      refine k _ (fun b o hb1 hb2 hb => by rw [upd_ne hb1]; exact hk b o hb2 hb) ⟨⟨dx, by rw [upd_ne npd]; exact hk _ _ npm hi⟩, ?_, ?_, by rw [upd_ne nmd, ← em]; exact hmk⟩
      · obtain ⟨as', q1, q2⟩ := hrows
        have ned : er ≠ dn := fun z => by
          rw [z, O.dn] at hr1
          have hr1' : d.map nV = as.map V.ref := by injection (Option.some.inj hr1)
          have h0 : (d.map nV)[wi]? = (as.map V.ref)[wi]? := by rw [hr1']
          rw [map_get nV (getD_get (d := 0) h2), map_get V.ref ga] at h0
          cases h0
        exact ⟨as', by rw [upd_ne ned]; exact q1, q2.ts (.lst hdn1)⟩
      · rw [upd_same]
        have : (d.map nV).set wi (.int ((d.getD wi 0 : Int) + 1)) = (bump d wi).map nV := by
          unfold bump
          rw [List.map_set]
          exact congrArg _ (congrArg V.int (by omega))
        rw [this]
        rfl
    have ix : ixN ((d.map nV).length) (wi : Int) = some wi := by
      have := atI_nat (map_get nV (getD_get (d := 0) h2))
      unfold atI at this
      cases e : ixN (d.map nV).length (wi : Int) with
      | none =>
        rw [e] at this
        cases this
      | some j =>
        have hj := ixN_seq e
        have h0 : (0 : Int) ≤ (wi : Int) := by omega
        rw [seqIndex_of h0 (by rw [List.length_map]; omega)] at hj
        have := Option.some.inj hj.1
        rw [← this]
        rfl
    by_cases c : kd = .down
    · rw [decide_eq_true c]
      obtain ⟨t, ht⟩ := eok.ti c
      have hp : pl < deg web x := tie_deg ht
      refine iteT ?_
      have ht' : tie web x pl = some t := ht
      refine ⟨_, rfl, p, C, dx, _, _, rfl, hi, D.cl, D.nM, dof_m _ _ _ _ _, ?_⟩
      refine ⟨_, rfl, p, C, dx, _, _, rfl, hi, D.cl, D.nW, dof_w _ _ _ _ _, _, rfl, W, _, _, .ref (rs.getD x 0), rfl, rfl, SqT.of hW1, atI_nat (map_get V.ref (getD_get (by rw [hW2]; exact hx))), _, rfl, rs.getD x 0, _, _, oV (tie web x pl), rfl, rfl, SqT.of (hW3 x hx), atI_nat (map_get oV (getD_get hp)), ?_⟩
      refine ⟨mk, upd H mk (.dK (putK (knK m) (Sum.inl (t : Int)) (.bl true))), rfl, by rw [ht']; exact DPut.k (k := Sum.inl (t : Int)) O.mks (by rw [knK_len]; exact small1000 hm), ?_⟩
      rw [putK_m]
      have kp : ∀ b o, b ≠ mk → H b = some o → upd H mk (.dK (knK (putM m t))) b = some o := fun b o hb e => by
        rw [upd_ne hb]
        exact e
      refine ⟨_, rfl, p, C, dx, _, _, rfl, kp _ _ npm hi, D.cl, D.nD, dof_d _ _ _ _ _, _, rfl, _, _, rfl, rfl, dn, _, (wi : Int), nV (d.getD wi 0), rfl, congrArg V.int ei, SqL.of (kp _ _ (Ne.symm nmd) O.dn), atI_nat (map_get nV (getD_get h2)), _, _, rfl, rfl, dn, _, (wi : Int), wi, rfl, congrArg V.int ei, kp _ _ (Ne.symm nmd) O.dn, ix, ?_⟩
      refine fin _ (putM m t) kp upd_same ?_ ⟨as, kp _ _ nem hr1, hr2.ts (.dK O.mks)⟩
      unfold doIt
      rw [he]
      show putM m t = markE web m (kd, x, pl)
      unfold markE
      rw [if_pos c]
      show putM m t = match tie web x pl with | none => m | some t => putM m t
      rw [ht']
    · rw [decide_eq_false c]
      refine iteF ?_
      refine ⟨_, rfl, p, C, dx, _, _, rfl, hi, D.cl, D.nD, dof_d _ _ _ _ _, _, rfl, _, _, rfl, rfl, dn, _, (wi : Int), nV (d.getD wi 0), rfl, congrArg V.int ei, SqL.of O.dn, atI_nat (map_get nV (getD_get h2)), _, _, rfl, rfl, dn, _, (wi : Int), wi, rfl, congrArg V.int ei, O.dn, ix, ?_⟩
      refine fin H m (fun b o _ hb => hb) O.mks ?_ O.rows
      unfold doIt
      rw [he]
      show m = markE web m (kd, x, pl)
      unfold markE
      rw [if_neg c]
end
end TB

set_option maxRecDepth 100000
set_option maxHeartbeats 4000000
/-! go_on: the greedy order. -/
namespace TB
open PySem PySem.Spec PyProof.Rows L2

/-- a statement by another reading -/
theorem _root_.L2.PS.imp {X : Cx} {st : Stmt} {t t' : TS} (h : PS X st t) (f : ∀ D σ H, t' D σ H → t D σ H) : PS X st t' := ⟨fun pins s σ H D I q => h.run pins s σ H D I (f D σ H q)⟩
theorem someFrom_len {web : Web} {S : List Nat} {rows : Rows} {d mk : List Nat} : ∀ n i, (someFrom web S rows d mk n i).length ≤ n
  | 0, _ => Nat.le_refl _
  | n + 1, i => by
    have := someFrom_len (web := web) (S := S) (rows := rows) (d := d) (mk := mk) n (i + 1)
    unfold someFrom
    split
    · rw [List.length_cons]
      omega
    · omega
theorem doIt_len {web : Web} {rows : Rows} {d m : List Nat} {w : Nat} : (doIt web rows d m w).2.length ≤ m.length + 1 := by
  unfold doIt
  split
  · show m.length ≤ _
    omega
  · rename_i e he
    show (markE web m e).length ≤ _
    unfold markE
    split
    · split
      · omega
      · unfold putM
        split
        · omega
        · rw [List.length_append]
          exact Nat.le_refl _
    · omega
/-- some = [..] -/
def tSome (C : Addr) : TS := fun D σ H => ∃ (p W Z er dn mk : Addr) (web : Web) (S : List Nat) (rows : Rows) (d m : List Nat) (u1 u2 u3 : Option V), σ = [some (.ref p), u1, u2, u3] ∧ DoAt C H p W Z er dn mk rows d m ∧ Wov H W Z web S rows ∧ d.length = rows.length ∧ rows.length ≤ 1000 ∧
  ∀ so H', Same H H' → H so = none → H' so = some (.lst ((someFrom web S rows d m rows.length 0).map nV)) → D.nx [some (.ref p), u1, some (.ref so), u3] H'
def spGoOn (C : Addr) : Sp := fun vs H Q _ => ∃ (p W Z er dn mk : Addr) (web : Web) (S : List Nat) (rows : Rows) (d m : List Nat) (F : Nat), vs = [.ref p] ∧ DoAt C H p W Z er dn mk rows d m ∧ Wov H W Z web S rows ∧ d.length = rows.length ∧ rows.length ≤ 1000 ∧
  remain rows d 0 ≤ F ∧ m.length + F ≤ 500 ∧
  ∀ H' q, (∀ b o, b ≠ dn → b ≠ mk → H b = some o → H' b = some o) → DoAt C H' p W Z er dn mk rows (goRun web rows.length S rows F (d, m)).2.1 (goRun web rows.length S rows F (d, m)).2.2 →
    H' q = some (.tup ((goRun web rows.length S rows F (d, m)).1.map nV)) → Q (.ref q) H'
section
variable {P : Program} {w : World} {K : PySem.W.Frag} {mg : Str → Option Value} {base : Heap} {C : Addr}
theorem sc_go_on : FnScope ["self", "found", "some", "walker"] ["self"] (defScope s_go_on) := ⟨rfl, rfl, rfl, by decide +kernel, rfl, by decide +kernel, by decide +kernel⟩
theorem has_go_on (T : Tx mg) (D : Dx K mg C) (S : StandsM K C "go_on" "Doing.go_on" s_go_on) (h1 : HasM P w K mg base C 3 "may" ["self", "walker"] (spMay C)) (h2 : HasM P w K mg base C 1 "do" ["self", "walker"] (spDo C)) : HasM P w K mg base C 4 "go_on" ["self"] (spGoOn C) := by
  obtain ⟨f1, fd1, m1, b1, G1⟩ := h1
  obtain ⟨f2, fd2, m2, b2, G2⟩ := h2
  refine S.has sc_go_on (fun _ _ _ _ _ _ us hl => match us, hl with | [_], _ => rfl) (fun vs H Q E h => ?_) (fun f cdv A outer s H vs Q E hr h => ?_)
  · obtain ⟨p, W, Z, er, dn, mk, web, Sh, rows, d, m, F, rfl, _⟩ := h
    rfl
  · obtain ⟨p, W, Z, er, dn, mk, web, Sh, rows, d, m, F, rfl, O, Wv, hdl, hrl, hrem, hml, k⟩ := h
    have nd := sc_go_on.nd
    have hu := hr.units
    have hr1 : Room 1 _ := hr.mono (by decide)
    refine ⟨_, pss_cons (ps_set (i := 1) nd rfl (Or.inl rfl) (pe_lst pa_nil))
      (pss_cons (PS.imp (t' := tSome C) (ps_setLc (i := 2) (own := [("walker", 3)]) (g := gName 3) rfl nd rfl rfl (sw_true rfl rfl rfl (by decide +kernel)) (pi_range2 (by rfl) T.range (pa_cons pe_int (pa_cons (pe_op op_add (pe_callB call_len_seq (by rfl) T.len PySem.boot_len (pa_cons (pe_fld (pv 0) rfl) pa_nil)) pe_int) pa_nil)))
        (blkOk_by (N := ["self", "found", "some", "walker"]) (sc := defScope s_go_on) (by decide +kernel)) (fun _ _ _ _ _ => pg_name (i := 3) nd rfl (Or.inl rfl))
        (fun _ _ _ _ _ => pts_one (pt_val (pe_meth (pv 0) D.cl m1 G1 hr b1 .nil pass0 (pa_cons (pv 3) pa_nil)))) (fun _ _ _ _ _ => pv 3)) (by
          rintro D0 σ H ⟨p, W, Z, er, dn, mk, web, Sh, rows, d, m, u1, u2, u3, rfl, O, Wv, hdl, hrl, kq⟩
          obtain ⟨dx, hi⟩ := O.ins
          obtain ⟨as, hr1, hr2⟩ := O.rows
          have hasl : (as.map V.ref).length = rows.length := by
            rw [List.length_map]
            exact Paired.length hr2
          refine ⟨_, rfl, p, C, dx, _, _, rfl, hi, D.cl, D.nE, dof_e _ _ _ _ _, _, _, rfl, .inl (SqL.of hr1), _, _, rfl, rfl, 1, _, rfl, ?_, fun D1 hD1 => ?_⟩
          · rw [hasl]
            omega
          · have en : ((((as.map V.ref).length : Nat) : Int) + 1 - 1).toNat = rows.length := by rw [hasl]; omega
            rw [en]
            refine lc_range (lo := 1) (n := rows.length) (fun i H' => Same H H' ∧ H' D1 = some (.lst ((someFrom web Sh rows d m i 0).map nV))) ⟨same_new hD1, by rw [upd_same]; rfl⟩ (fun i H' hi' hP => ?_) (fun H' hP => kq D1 H' hP.1 hD1 hP.2)
            obtain ⟨sm, hL⟩ := hP
            obtain ⟨dx', hi2⟩ := (O.same sm).ins
            have small : ((someFrom web Sh rows d m i 0).map nV).length < sizeLine := by
              rw [List.length_map]
              exact Nat.lt_of_le_of_lt (Nat.le_trans (someFrom_len i 0) (by omega)) (show 1000 < sizeLine by decide)
            refine ⟨rfl, _, rfl, p, dx', _, rfl, hi2, dof_n3 _ _ _ _ _, _, rfl, p, W, Z, er, dn, mk, web, Sh, rows, d, m, i, congrArg (fun z => [V.ref p, V.int z]) (by omega), O.same sm, Wv.same (Same.ts sm), hi', by omega, fun H2 s2 => ⟨_, rfl, ?_⟩⟩
            have hsn := someFrom_snoc (web := web) (S := Sh) (rows := rows) (d := d) (mk := m) i 0
            rw [Nat.zero_add] at hsn
            cases hb : mayB web Sh rows d m i with
            | true =>
              rw [hb, if_pos rfl] at hsn
              refine iteT ⟨_, rfl, _, s2 _ _ hL, small, same_out (sm.trans s2) hD1, ?_⟩
              rw [upd_same, hsn, List.map_append]
              exact congrArg (fun z => some (HO.lst (_ ++ [V.int z]))) (by omega)
            | false =>
              rw [hb, if_neg Bool.false_ne_true, List.append_nil] at hsn
              refine iteF ⟨sm.trans s2, ?_⟩
              rw [hsn]
              exact s2 _ _ hL))
      (pss_cons (ps_while PassesOwn.never (pt_cmpR (op_neE hu) (pv 2) (pe_lst pa_nil) (nomark _))
        (pss_cons (ps_expr (pe_bm PySem.F.plainAttrs_list PySem.F.slot_list_append PySem.F.type_list_append mt_append (pv 1) (pa_cons (pe_ix ix_list (pv 2) pe_int (fun _ _ => rfl)) pa_nil)))
        (pss_cons (ps_expr (pe_meth (pv 0) D.cl m2 G2 hr1 b2 .nil pass0 (pa_cons (pe_ix ix_list (pv 2) pe_int (fun _ _ => rfl)) pa_nil)))
        (pss_one (PS.imp (t' := tSome C) (ps_setLc (i := 2) (own := [("walker", 3)]) (g := gName 3) rfl nd rfl rfl (sw_true rfl rfl rfl (by decide +kernel)) (pi_range2 (by rfl) T.range (pa_cons pe_int (pa_cons (pe_op op_add (pe_callB call_len_seq (by rfl) T.len PySem.boot_len (pa_cons (pe_fld (pv 0) rfl) pa_nil)) pe_int) pa_nil)))
        (blkOk_by (N := ["self", "found", "some", "walker"]) (sc := defScope s_go_on) (by decide +kernel)) (fun _ _ _ _ _ => pg_name (i := 3) nd rfl (Or.inl rfl))
        (fun _ _ _ _ _ => pts_one (pt_val (pe_meth (pv 0) D.cl m1 G1 hr b1 .nil pass0 (pa_cons (pv 3) pa_nil)))) (fun _ _ _ _ _ => pv 3)) (by
          rintro D0 σ H ⟨p, W, Z, er, dn, mk, web, Sh, rows, d, m, u1, u2, u3, rfl, O, Wv, hdl, hrl, kq⟩
          obtain ⟨dx, hi⟩ := O.ins
          obtain ⟨as, hr1, hr2⟩ := O.rows
          have hasl : (as.map V.ref).length = rows.length := by
            rw [List.length_map]
            exact Paired.length hr2
          refine ⟨_, rfl, p, C, dx, _, _, rfl, hi, D.cl, D.nE, dof_e _ _ _ _ _, _, _, rfl, .inl (SqL.of hr1), _, _, rfl, rfl, 1, _, rfl, ?_, fun D1 hD1 => ?_⟩
          · rw [hasl]
            omega
          · have en : ((((as.map V.ref).length : Nat) : Int) + 1 - 1).toNat = rows.length := by rw [hasl]; omega
            rw [en]
            refine lc_range (lo := 1) (n := rows.length) (fun i H' => Same H H' ∧ H' D1 = some (.lst ((someFrom web Sh rows d m i 0).map nV))) ⟨same_new hD1, by rw [upd_same]; rfl⟩ (fun i H' hi' hP => ?_) (fun H' hP => kq D1 H' hP.1 hD1 hP.2)
            obtain ⟨sm, hL⟩ := hP
            obtain ⟨dx', hi2⟩ := (O.same sm).ins
            have small : ((someFrom web Sh rows d m i 0).map nV).length < sizeLine := by
              rw [List.length_map]
              exact Nat.lt_of_le_of_lt (Nat.le_trans (someFrom_len i 0) (by omega)) (show 1000 < sizeLine by decide)
            refine ⟨rfl, _, rfl, p, dx', _, rfl, hi2, dof_n3 _ _ _ _ _, _, rfl, p, W, Z, er, dn, mk, web, Sh, rows, d, m, i, congrArg (fun z => [V.ref p, V.int z]) (by omega), O.same sm, Wv.same (Same.ts sm), hi', by omega, fun H2 s2 => ⟨_, rfl, ?_⟩⟩
            have hsn := someFrom_snoc (web := web) (S := Sh) (rows := rows) (d := d) (mk := m) i 0
            rw [Nat.zero_add] at hsn
            cases hb : mayB web Sh rows d m i with
            | true =>
              rw [hb, if_pos rfl] at hsn
              refine iteT ⟨_, rfl, _, s2 _ _ hL, small, same_out (sm.trans s2) hD1, ?_⟩
              rw [upd_same, hsn, List.map_append]
              exact congrArg (fun z => some (HO.lst (_ ++ [V.int z]))) (by omega)
            | false =>
              rw [hb, if_neg Bool.false_ne_true, List.append_nil] at hsn
              refine iteF ⟨sm.trans s2, ?_⟩
              rw [hsn]
              exact s2 _ _ hL))))))
      (pss_one (ps_ret (pe_callTy call_tuple_of (by rfl) T.tuple boot_tuple (pa_cons (pv 1) pa_nil)))))), ?_⟩
    refine ⟨Nat.zero_le _, fun fo hfo => ?_⟩
    have nfp : fo ≠ p := fun z => by
      obtain ⟨dx, hi⟩ := O.ins
      rw [z] at hfo
      rw [hi] at hfo
      cases hfo
    have nfe : fo ≠ er := fun z => by
      obtain ⟨as, h1, _⟩ := O.rows
      rw [z] at hfo
      rw [h1] at hfo
      cases hfo
    have nfd : fo ≠ dn := fun z => by
      have := O.dn
      rw [← z, hfo] at this
      cases this
    have nfm : fo ≠ mk := fun z => by
      have := O.mks
      rw [← z, hfo] at this
      cases this
    have s0 : Same H (upd H fo (.lst [])) := same_new hfo
    refine ⟨p, W, Z, er, dn, mk, web, Sh, rows, d, m, some (.ref fo), none, none, rfl, O.same s0, Wv.same (Same.ts s0), hdl, hrl, fun so H1 s1 hso hL => ?_⟩
    refine ⟨fun μ σ H1 => ∃ (d1 m1 acc : List Nat) (so : Addr) (u3 : Option V), σ = [some (.ref p), some (.ref fo), some (.ref so), u3] ∧ (∀ b o, b ≠ dn → b ≠ mk → H b = some o → H1 b = some o) ∧ DoAt C H1 p W Z er dn mk rows d1 m1 ∧ Wov H1 W Z web Sh rows ∧ d1.length = rows.length ∧
      H1 fo = some (.lst (acc.map nV)) ∧ H1 so = some (.lst ((someFrom web Sh rows d1 m1 rows.length 0).map nV)) ∧ so ≠ fo ∧ remain rows d1 0 ≤ μ ∧ m1.length + μ ≤ 500 ∧ acc.length + μ ≤ 500 ∧
      acc ++ (goRun web rows.length Sh rows μ (d1, m1)).1 = (goRun web rows.length Sh rows F (d, m)).1 ∧ (goRun web rows.length Sh rows μ (d1, m1)).2 = (goRun web rows.length Sh rows F (d, m)).2,
      ⟨F, d, m, [], so, _, rfl, fun b o _ _ hb => s1 _ _ (s0 _ _ hb), (O.same s0).same s1, (Wv.same (Same.ts s0)).same (Same.ts s1), hdl, s1 _ _ upd_same, hL, (ne_of_none (upd_same (o := .lst [])) hso).symm, hrem, hml, by rw [List.length_nil]; omega, rfl, rfl⟩, ?_⟩
    clear hL hso s1 H1 so
    rintro μ σ H1 ⟨d1, m1, acc, so, u3, rfl, kp, O1, Wv1, hd1, hfo1, hso1, nso, hrm, hmm, hacc, e1, e2⟩
    refine ⟨_, rfl, Nat.zero_le _, fun nl hnl => ⟨so, nl, (someFrom web Sh rows d1 m1 rows.length 0).map nV, rfl, rfl, SqL.of (same_new hnl _ _ hso1), Dat.nums _, SqL.of upd_same, _, rfl, ?_⟩⟩
    have sn : Same H1 (upd H1 nl (.lst [])) := same_new hnl
    cases hsf : someFrom web Sh rows d1 m1 rows.length 0 with
    | nil =>
      have em : goRun web rows.length Sh rows μ (d1, m1) = ([], (d1, m1)) := by
        cases μ with
        | zero => rfl
        | succ μ =>
          unfold goRun
          rw [hsf]
      rw [em] at e1 e2
      have e1' : acc = (goRun web rows.length Sh rows F (d, m)).1 := by
        rw [← e1]
        exact (List.append_nil acc).symm
      have e2' : (d1, m1) = (goRun web rows.length Sh rows F (d, m)).2 := e2
      refine iteF ⟨_, rfl, fo, _, rfl, .inl ⟨SqL.of (sn _ _ hfo1), fun q hq => ?_⟩⟩
      refine k _ q (fun b o hb1 hb2 hb => ?_) ?_ ?_
      · exact same_new hq _ _ (sn _ _ (kp b o hb1 hb2 hb))
      · rw [← e2']
        exact (O1.same sn).same (same_new hq)
      · rw [upd_same, ← e1']
    | cons v r =>
      have hv : v ∈ someFrom web Sh rows d1 m1 rows.length 0 := by
        rw [hsf]
        exact List.mem_cons_self
      obtain ⟨a1, a2, a3⟩ := someFrom_mem.mp hv
      have hleft := mayB_left a3
      have hrb := remain_bump (rows := rows) (d := d1) (i := 0) (w := v - 1) (Nat.zero_le _) (by omega) (by omega) (by rw [Nat.sub_zero]; exact hleft)
      obtain ⟨μ', rfl⟩ : ∃ μ', μ = μ' + 1 := ⟨μ - 1, by omega⟩
      have em : goRun web rows.length Sh rows (μ' + 1) (d1, m1) = (v :: (goRun web rows.length Sh rows μ' (doIt web rows d1 m1 (v - 1))).1, (goRun web rows.length Sh rows μ' (doIt web rows d1 m1 (v - 1))).2) := by
        show (match someFrom web Sh rows d1 m1 rows.length 0 with | [] => _ | v :: _ => _) = _
        rw [hsf]
      rw [em] at e1 e2
      rw [hsf] at hso1
      have ev : (V.int (v : Int)) = nV ((v - 1) + 1) := congrArg V.int (by omega)
      have aix : atI ((v :: r).map nV) ((0 : Nat) : Int) = some (nV v) := atI_nat rfl
      have s2 : ∀ b o, b ≠ fo → H1 b = some o → upd (upd H1 nl (.lst [])) fo (.lst (acc.map nV ++ [nV v])) b = some o := fun b o hb e => by
        rw [upd_ne hb]
        exact sn _ _ e
      have hdo : ∃ e, (rw_ rows (v - 1))[d1.getD (v - 1) 0]? = some e := ⟨_, List.getElem?_eq_getElem hleft⟩
      obtain ⟨e, he⟩ := hdo
      refine iteT ⟨_, fun σ' H' h => ⟨μ', Nat.lt_succ_self _, h⟩, ?_⟩
      refine ⟨_, rfl, .inl ⟨rfl, _, SqL.of (sn _ _ hfo1)⟩, _, rfl, so, _, 0, nV v, rfl, rfl, SqL.of (sn _ _ hso1), aix, fo, _, nV v, rfl, rfl, sn _ _ hfo1, ?_, ?_⟩
      · rw [List.length_map]
        exact Nat.lt_of_le_of_lt (show acc.length ≤ 500 by omega) (show 500 < sizeLine by decide)
      have s2 : ∀ b o, b ≠ fo → H1 b = some o → upd (upd H1 nl (.lst [])) fo (.lst (acc.map nV ++ [nV v])) b = some o := fun b o hb e => by
        rw [upd_ne hb]
        exact sn _ _ e
      have t2 : Tsame H1 (upd (upd H1 nl (.lst [])) fo (.lst (acc.map nV ++ [nV v]))) := (Tsame.new hnl).trans (.lst (sn _ _ hfo1))
      have O2 : DoAt C (upd (upd H1 nl (.lst [])) fo (.lst (acc.map nV ++ [nV v]))) p W Z er dn mk rows d1 m1 := by
        obtain ⟨dx, hi⟩ := O1.ins
        obtain ⟨as, hr1, hr2⟩ := O1.rows
        exact ⟨⟨dx, s2 _ _ nfp.symm hi⟩, ⟨as, s2 _ _ nfe.symm hr1, hr2.ts t2⟩, s2 _ _ nfd.symm O1.dn, s2 _ _ nfm.symm O1.mks⟩
      obtain ⟨dx2, hi2⟩ := O2.ins
      refine ⟨_, rfl, p, dx2, _, rfl, hi2, dof_n4 _ _ _ _ _, _, rfl, so, _, ((0 : Nat) : Int), nV v, rfl, rfl, SqL.of (s2 _ _ nso hso1), aix, ?_⟩
      refine ⟨p, W, Z, er, dn, mk, web, Sh, rows, d1, m1, v - 1, e, congrArg (fun z => [V.ref p, z]) ev, O2, Wv1.same t2, by omega, by omega, he, by omega, fun H3 k3 O3 => ?_⟩
      have hmk2 : (doIt web rows d1 m1 (v - 1)).2.length ≤ m1.length + 1 := doIt_len
      have hd2 : (doIt web rows d1 m1 (v - 1)).1.length = rows.length := by
        show (bump d1 (v - 1)).length = _
        rw [bump_len]
        exact hd1
      have t3 : Tsame (upd (upd H1 nl (.lst [])) fo (.lst (acc.map nV ++ [nV v]))) H3 := fun b xs hb => k3 b _ (ne_of hb O2.dn nofun) (ne_of hb O2.mks nofun) hb
      have hfo3 : H3 fo = some (.lst ((acc ++ [v]).map nV)) := by
        rw [List.map_append]
        exact k3 _ _ nfd nfm upd_same
      refine ⟨p, W, Z, er, dn, mk, web, Sh, rows, _, _, some (.ref fo), some (.ref so), u3, rfl, O3, Wv1.same (t2.trans t3), hd2, hrl, fun so2 H4 s4 hso4 hL4 => ?_⟩
      refine ⟨_, _, acc ++ [v], so2, _, rfl, fun b o hb1 hb2 hb => ?_, O3.same s4, (Wv1.same (t2.trans t3)).same (Same.ts s4), hd2, s4 _ _ hfo3, hL4, (ne_of_none hfo3 hso4).symm, ?_, by omega, by rw [List.length_append, List.length_singleton]; omega, ?_, e2⟩
      · refine s4 _ _ (k3 _ _ hb1 hb2 (s2 _ _ (fun z => ?_) (kp _ _ hb1 hb2 hb)))
        rw [z, hfo] at hb
        cases hb
      · show remain rows (bump d1 (v - 1)) 0 ≤ μ'
        omega
      · rw [List.append_assoc]
        exact e1
end
end TB

set_option maxRecDepth 100000
set_option maxHeartbeats 4000000
/-! ring. -/
namespace TB
open PySem PySem.Spec PyProof.Rows L2
/-- the walkers with events left -/
def leftL (rows : Rows) (d : List Nat) : Nat → List Nat
  | 0 => []
  | n + 1 => leftL rows d n ++ (if d.getD n 0 < (rw_ rows n).length then [n + 1] else [])
def Lf (rows : Rows) (d : List Nat) (w : Nat) : Prop := 1 ≤ w ∧ w ≤ rows.length ∧ d.getD (w - 1) 0 < (rw_ rows (w - 1)).length
theorem leftL_len {rows : Rows} {d : List Nat} : ∀ n, (leftL rows d n).length ≤ n
  | 0 => Nat.le_refl _
  | n + 1 => by
    have := leftL_len (rows := rows) (d := d) n
    unfold leftL
    rw [List.length_append]
    split
    · rw [List.length_singleton]
      omega
    · rw [List.length_nil]
      omega
theorem leftL_mem {rows : Rows} {d : List Nat} : ∀ {n w : Nat}, n ≤ rows.length → w ∈ leftL rows d n → Lf rows d w
  | 0, w, _, h => by cases h
  | n + 1, w, hn, h => by
    unfold leftL at h
    rcases List.mem_append.mp h with h | h
    · exact leftL_mem (Nat.le_of_succ_le hn) h
    · by_cases c : d.getD n 0 < (rw_ rows n).length
      · rw [if_pos c] at h
        have e : w = n + 1 := by simpa using h
        subst e
        exact ⟨by omega, hn, c⟩
      · rw [if_neg c] at h
        cases h
theorem leftL_nil {rows : Rows} {d : List Nat} : ∀ n, (leftL rows d n).isEmpty = !leftB rows d n
  | 0 => rfl
  | n + 1 => by
    have := leftL_nil (rows := rows) (d := d) n
    unfold leftL leftB
    by_cases c : d.getD n 0 < (rw_ rows n).length
    · rw [if_pos c, decide_eq_true c, Bool.or_true]
      cases leftL rows d n <;> rfl
    · rw [if_neg c, decide_eq_false c, Bool.or_false, List.append_nil]
      exact this
theorem flat_nums (l : List Nat) : (l.map nV).all flatV = true := by
  rw [List.all_eq_true]
  intro x hx
  obtain ⟨n, _, rfl⟩ := List.mem_map.mp hx
  rfl
theorem eqV_n (a b : Nat) : eqV (nV a) (nV b) = decide (a = b) := by
  show ((a : Int) == (b : Int)) = _
  by_cases c : a = b
  · subst c
    simp
  · rw [decide_eq_false c]
    exact beq_false_of_ne (by omega)
theorem inV_n (a : Nat) : ∀ l : List Nat, inV (nV a) (l.map nV) = decide (a ∈ l)
  | [] => by simp [inV]
  | b :: l => by
    have := inV_n a l
    unfold inV at this ⊢
    rw [List.map_cons, List.any_cons, this, eqV_n]
    by_cases c : b = a
    · subst c
      simp
    · have c' : a ≠ b := fun e => c e.symm
      simp [c, c']
theorem first_at {a : Nat} : ∀ {l : List Nat}, a ∈ l → ∃ j : Nat, l[j]? = some a ∧ ∀ m z, m < j → l[m]? = some z → z ≠ a
  | [], h => by cases h
  | b :: l, h => by
    by_cases c : b = a
    · exact ⟨0, by rw [c]; rfl, fun m z hm => absurd hm (Nat.not_lt_zero _)⟩
    · have h' : a ∈ l := by
        rcases List.mem_cons.mp h with e | e
        · exact absurd e.symm c
        · exact e
      obtain ⟨j, h1, h2⟩ := first_at h'
      refine ⟨j + 1, h1, fun m z hm hz => ?_⟩
      cases m with
      | zero =>
        have : b = z := by simpa using hz
        rw [← this]
        exact c
      | succ m => exact h2 m z (by omega) hz
theorem cut_from (l : List Nat) (j : Nat) : cutV (l.map nV) (some (j : Int)) none = (l.drop j).map nV := by
  unfold cutV
  rw [HT.sIx_nat, HT.sIx_none, List.length_map, ← List.map_drop, ← List.map_take]
  by_cases c : j ≤ l.length
  · rw [Nat.min_eq_left c, List.take_of_length_le (by rw [List.length_drop]; exact Nat.le_refl _)]
  · rw [Nat.min_eq_right (by omega), List.drop_of_length_le (Nat.le_refl _), List.drop_of_length_le (by omega)]
    rw [List.take_nil]
theorem cut_to (l : List Nat) (j : Nat) : cutV (l.map nV) none (some (j : Int)) = (l.take j).map nV := by
  unfold cutV
  rw [HT.sIx_nat, HT.sIx_none, List.length_map, List.drop_zero, Nat.sub_zero, ← List.map_take]
  by_cases c : j ≤ l.length
  · rw [Nat.min_eq_left c]
  · rw [Nat.min_eq_right (by omega), List.take_of_length_le (Nat.le_refl _), List.take_of_length_le (by omega)]
/-- a field, the pieces named by themselves -/
theorem PE.key {X : Cx} {K : PySem.W.Frag} {e : Expr} {ta : TE} {f : Str} (hK : X.K = K) (h : PE X e (tFld X.K ta f)) : PE X e (tFld K ta f) := by
  subst hK
  exact h
def spRing (C : Addr) : Sp := fun vs H Q _ => ∃ (p W Z er dn mk : Addr) (web : Web) (S : List Nat) (rows : Rows) (d m : List Nat), vs = [.ref p] ∧ DoAt C H p W Z er dn mk rows d m ∧ Wov H W Z web S rows ∧ d.length = rows.length ∧ rows.length ≤ 1000 ∧
  (∀ w, Lf rows d w → ∃ t, waits web S rows d m (w - 1) = some t ∧ t < S.length ∧ Lf rows d (S.getD t 0)) ∧
  (leftB rows d rows.length = false → ∀ H', Same H H' → Q .non H') ∧ (leftB rows d rows.length = true → ∀ H' q, Same H H' → Q (.ref q) H')
section
variable {P : Program} {w : World} {K : PySem.W.Frag} {mg : Str → Option Value} {base : Heap} {C : Addr}
theorem sc_ring : FnScope ["self", "walker", "left", "seen", "found", "at", "own"] ["self"] (defScope s_ring) := ⟨rfl, rfl, rfl, by decide +kernel, rfl, by decide +kernel, by decide +kernel⟩
theorem has_ring (T : Tx mg) (D : Dx K mg C) (S : StandsM K C "ring" "Doing.ring" s_ring) (h1 : HasM P w K mg base C 1 "has_next" ["self", "walker"] (spHasNext C)) (h2 : HasM P w K mg base C 2 "waits_for" ["self", "walker"] (spWaits C)) : HasM P w K mg base C 3 "ring" ["self"] (spRing C) := by
  obtain ⟨f1, fd1, m1, b1, G1⟩ := h1
  obtain ⟨f2, fd2, m2, b2, G2⟩ := h2
  refine S.has sc_ring (fun _ _ _ _ _ _ us hl => match us, hl with | [_], _ => rfl) (fun vs H Q E h => ?_) (fun f cdv A outer s H vs Q E hr h => ?_)
  · obtain ⟨p, W, Z, er, dn, mk, web, Sh, rows, d, m, rfl, _⟩ := h
    rfl
  · obtain ⟨p, W, Z, er, dn, mk, web, Sh, rows, d, m, rfl, O, Wv, hdl, hrl, hw, k0, k1⟩ := h
    have nd := sc_ring.nd
    have hu := hr.units
    have hr1 : Room 1 _ := hr.mono (by decide)
    refine ⟨_, pss_cons (ps_setLc (i := 2) (own := [("walker", 1)]) (g := gName 1) rfl nd rfl rfl (sw_true rfl rfl rfl (by decide +kernel)) (pi_range2 (by rfl) T.range (pa_cons pe_int (pa_cons (pe_op op_add (pe_callB call_len_seq (by rfl) T.len PySem.boot_len (pa_cons (pe_fld (pv 0) rfl) pa_nil)) pe_int) pa_nil)))
        (blkOk_by (N := ["self", "walker", "left", "seen", "found", "at", "own"]) (sc := defScope s_ring) (by decide +kernel)) (fun _ _ _ _ _ => pg_name (i := 1) nd rfl (Or.inl rfl))
        (fun _ _ _ _ _ => pts_one (pt_val (pe_meth (pv 0) D.cl m1 G1 hr1 b1 .nil pass0 (pa_cons (pv 1) pa_nil)))) (fun _ _ _ _ _ => pv 1))
      (pss_cons (ps_if (pt_cmpR (op_eqE hu) (pv 2) (pe_lst pa_nil) (nomark _)) (pss_one (ps_ret pe_non)) pss_nil)
      (pss_cons (ps_set (i := 3) nd rfl (Or.inl rfl) (pe_lst pa_nil))
      (pss_cons (ps_set (i := 1) nd rfl (Or.inl rfl) (pe_ix ix_list (pv 2) pe_int (fun _ _ => rfl)))
      (pss_cons (ps_while PassesOwn.never (pt_cmpR op_notIn_seq (pv 1) (pv 3) rfl)
        (pss_cons (ps_expr (pe_bm PySem.F.plainAttrs_list PySem.F.slot_list_append PySem.F.type_list_append mt_append (pv 3) (pa_cons (pv 1) pa_nil)))
        (pss_one (ps_set (i := 1) nd rfl (Or.inl rfl) (pe_ix ix_tup (pe_fld (pv 0) rfl) (pe_meth (pv 0) D.cl m2 G2 hr b2 .nil pass0 (pa_cons (pv 1) pa_nil)) (fun _ _ => rfl))))))
      (pss_cons (ps_set (i := 4) nd rfl (Or.inl rfl) (pe_slice sl_list (pv 3) (po_some (pe_bm PySem.F.plainAttrs_list PySem.F.slot_list_index PySem.F.type_list_index mt_index (pv 3) (pa_cons (pv 1) pa_nil))) po_none))
      (pss_cons (ps_set (i := 5) nd rfl (Or.inl rfl) (pe_bm PySem.F.plainAttrs_list PySem.F.slot_list_index PySem.F.type_list_index mt_index (pv 4) (pa_cons (pe_callB (cr_min rfl) (by rfl) T.min boot_min (pa_cons (pv 4) pa_nil)) pa_nil)))
      (pss_one (ps_ret (pe_callTy call_tuple_of (by rfl) T.tuple boot_tuple (pa_cons (pe_lc (own := [("own", 6)]) (g := gName 6) (tt := tYes) rfl nd
          (pi_list (pe_op op_cat (pe_slice sl_list (pv 4) (po_some (pv 5)) po_none) (pe_slice sl_list (pv 4) po_none (po_some (pv 5)))))
          (blkOk_by (N := ["self", "walker", "left", "seen", "found", "at", "own"]) (sc := defScope s_ring) (by decide +kernel)) (fun _ _ _ _ _ => pg_name (i := 6) nd rfl (Or.inl rfl)) (fun _ _ _ _ _ => pts_nil)
          (fun _ _ _ _ _ => pe_slice (r := rSlT K) sl_tup (pe_ix (r := rIxT K) ix_tup (pe_ix (r := rIxL K) ix_list (PE.key (K := K) rfl (pe_fld (pv 0) rfl)) (pe_op op_sub (pv 6) pe_int) (fun _ _ => rfl)) (pe_ix (r := rIxL K) ix_list (PE.key (K := K) rfl (pe_fld (pv 0) rfl)) (pe_op op_sub (pv 6) pe_int) (fun _ _ => rfl)) (fun _ _ => rfl)) (po_some pe_int) po_none)) pa_nil)))))))))), ?_⟩
    obtain ⟨dx, hi⟩ := O.ins
    obtain ⟨as, hq1, hq2⟩ := O.rows
    have hasl : (as.map V.ref).length = rows.length := by
      rw [List.length_map]
      exact Paired.length hq2
    have none_of : ∀ {H' : Hp} {q : Addr}, Same H H' → H' q = none → H q = none := fun {H' q} s e => by
      cases h : H q with
      | none => rfl
      | some o =>
        rw [s _ _ h] at e
        cases e
    have small : ∀ {n : Nat}, n ≤ 1003 → n < sizeLine := fun {n} h => Nat.lt_of_le_of_lt h (show 1003 < sizeLine by decide)
    refine ⟨_, rfl, p, C, dx, _, _, rfl, hi, D.cl, D.nE, dof_e _ _ _ _ _, _, _, rfl, .inl (SqL.of hq1), _, _, rfl, rfl, 1, _, rfl, ?_, fun D1 hD1 => ?_⟩
    · rw [hasl]
      omega
    · have en : ((((as.map V.ref).length : Nat) : Int) + 1 - 1).toNat = rows.length := by rw [hasl]; omega
      rw [en]
      refine lc_range (lo := 1) (n := rows.length) (fun i H' => Same H H' ∧ H' D1 = some (.lst ((leftL rows d i).map nV))) ⟨same_new hD1, by rw [upd_same]; rfl⟩ (fun i H' hi' hP => ?_) (fun H1 hP => ?_)
      · obtain ⟨sm, hL⟩ := hP
        obtain ⟨dx', hi2⟩ := (O.same sm).ins
        have sml : ((leftL rows d i).map nV).length < sizeLine := by
          rw [List.length_map]
          exact small (Nat.le_trans (leftL_len i) (by omega))
        refine ⟨rfl, _, rfl, p, dx', _, rfl, hi2, dof_n1 _ _ _ _ _, _, rfl, p, W, Z, er, dn, mk, rows, d, m, i, congrArg (fun z => [V.ref p, V.int z]) (by omega), O.same sm, hi', by omega, _, rfl, ?_⟩
        have hsn : leftL rows d (i + 1) = leftL rows d i ++ (if d.getD i 0 < (rw_ rows i).length then [i + 1] else []) := rfl
        by_cases c : d.getD i 0 < (rw_ rows i).length
        · rw [decide_eq_true c]
          rw [if_pos c] at hsn
          refine iteT ⟨_, rfl, _, hL, sml, same_out sm hD1, ?_⟩
          rw [upd_same, hsn, List.map_append]
          exact congrArg (fun z => some (HO.lst (_ ++ [V.int z]))) (by omega)
        · rw [decide_eq_false c]
          rw [if_neg c, List.append_nil] at hsn
          refine iteF ⟨sm, ?_⟩
          rw [hsn]
          exact hL
      · obtain ⟨s1, hL⟩ := hP
        refine ⟨_, rfl, Nat.zero_le _, fun nl hnl => ⟨D1, nl, (leftL rows d rows.length).map nV, rfl, rfl, SqL.of (same_new hnl _ _ hL), Dat.nums _, SqL.of upd_same, _, rfl, ?_⟩⟩
        have hlb := leftL_nil (rows := rows) (d := d) rows.length
        have s2 := s1.trans (same_new (o := .lst []) hnl)
        cases hlf : leftL rows d rows.length with
        | nil =>
          rw [hlf] at hlb
          have : leftB rows d rows.length = false := by
            cases e : leftB rows d rows.length with
            | false => rfl
            | true =>
              rw [e] at hlb
              cases hlb
          exact iteT (k0 this _ s2)
        | cons v r =>
          have hlt : leftB rows d rows.length = true := by
            rw [hlf] at hlb
            cases e : leftB rows d rows.length with
            | true => rfl
            | false =>
              rw [e] at hlb
              cases hlb
          have hv : Lf rows d v := leftL_mem (n := rows.length) (Nat.le_refl _) (by rw [hlf]; exact List.mem_cons_self)
          have hL2 := same_new (o := .lst []) hnl _ _ hL
          rw [hlf] at hL2
          refine iteF ⟨Nat.zero_le _, fun se hse => ?_⟩
          have s3 := s2.trans (same_new (o := .lst []) hse)
          have hs0 := none_of s2 hse
          refine ⟨_, rfl, D1, _, ((0 : Nat) : Int), nV v, rfl, rfl, SqL.of (same_new hse _ _ hL2), atI_nat rfl, ?_⟩
          refine ⟨fun μ σ H1 => ∃ (wk : Nat) (sn : List Nat), σ = [some (.ref p), some (nV wk), some (.ref D1), some (.ref se), none, none, none] ∧ Same H H1 ∧ H1 se = some (.lst (sn.map nV)) ∧ Lf rows d wk ∧ sn.Nodup ∧ (∀ x ∈ sn, Lf rows d x) ∧ sn.length + μ = rows.length + 2, ⟨rows.length + 2, v, [], rfl, s3, upd_same, hv, List.nodup_nil, nofun, by rw [List.length_nil]; omega⟩, ?_⟩
          clear hL2 hL hlb hlf hnl hse s3 s2 s1 H1
          rintro μ σ H1 ⟨wk, sn, rfl, s1, hse, hwk, hnd, hsn, hμ⟩
          refine ⟨_, rfl, _, rfl, se, _, rfl, .inl (SqL.of hse), rfl, flat_nums sn, _, rfl, ?_⟩
          rw [inV_n]
          have hsnl : sn.length ≤ rows.length + 1 := nodup_le _ sn hnd fun x hx => Nat.lt_succ_of_le (hsn x hx).2.1
          by_cases c : wk ∈ sn
          · rw [decide_eq_true c]
            refine iteF ?_
            obtain ⟨j, hj1, hj2⟩ := first_at c
            have hjl : j < sn.length := (List.getElem?_eq_some_iff.mp hj1).1
            refine ⟨_, rfl, _, rfl, .inl ⟨rfl, _, SqL.of hse⟩, _, rfl, se, _, nV wk, j, nV wk, rfl, rfl, SqL.of hse, rfl, flat_nums sn, map_get nV hj1, by rw [eqV_n]; exact decide_eq_true rfl, fun n z hn hz => ?_, _, rfl, se, _, rfl, SqL.of hse, fun fo hfo => ?_⟩
            · rw [List.getElem?_map] at hz
              cases e : sn[n]? with
              | none =>
                rw [e] at hz
                cases hz
              | some x =>
                rw [e] at hz
                rw [← Option.some.inj hz, eqV_n]
                exact decide_eq_false (hj2 n x hn e)
            · rw [cut_from]
              have s2 := s1.trans (same_new (o := .lst ((sn.drop j).map nV)) hfo)
              have hfo2 : upd H1 fo (.lst ((sn.drop j).map nV)) fo = some (.lst (((sn.drop j).map fun n : Nat => (n : Int)).map V.int)) := by
                rw [upd_same, List.map_map]
                rfl
              refine ⟨_, rfl, .inl ⟨rfl, _, SqL.of upd_same⟩, _, rfl, fo, _, rfl, SqL.of hfo2, by rw [List.length_map, List.length_drop]; omega, fun mn hmn _ => ?_⟩
              obtain ⟨x, hx, rfl⟩ := List.mem_map.mp hmn
              obtain ⟨a, ha1, ha2⟩ := first_at hx
              refine ⟨fo, _, nV x, a, nV x, rfl, rfl, SqL.of upd_same, rfl, flat_nums _, map_get nV ha1, by rw [eqV_n]; exact decide_eq_true rfl, fun n z hn hz => ?_, ?_⟩
              · rw [List.getElem?_map] at hz
                cases e : (sn.drop j)[n]? with
                | none =>
                  rw [e] at hz
                  cases hz
                | some y =>
                  rw [e] at hz
                  rw [← Option.some.inj hz, eqV_n]
                  exact decide_eq_false (ha2 n y hn e)
              · refine ⟨_, rfl, _, rfl, _, rfl, fo, _, rfl, SqL.of upd_same, fun a1 hb1 => ?_⟩
                rw [cut_from]
                have nfa : fo ≠ a1 := fun z => by
                  rw [← z, upd_same] at hb1
                  cases hb1
                refine ⟨_, rfl, _, rfl, _, rfl, fo, _, rfl, SqL.of (same_new hb1 _ _ upd_same), fun a2 hb2 => ?_⟩
                rw [cut_to]
                have h1 := same_new (o := .lst (((sn.drop j).take a).map nV)) hb2 _ _ (upd_same (H := upd H1 fo (.lst ((sn.drop j).map nV))) (a := a1) (o := .lst (((sn.drop j).drop a).map nV)))
                refine ⟨a1, a2, _, _, rfl, rfl, h1, upd_same, ?_, fun l hl => ?_⟩
                · rw [List.length_map, List.length_map, List.length_drop, List.length_take, List.length_drop]
                  exact Nat.le_of_lt (small (by omega))
                · rw [← List.map_append]
                  have hall : ∀ x ∈ (sn.drop j).drop a ++ (sn.drop j).take a, Lf rows d x := fun x hx => by
                    rcases List.mem_append.mp hx with h | h
                    · exact hsn x (List.mem_of_mem_drop (List.mem_of_mem_drop h))
                    · exact hsn x (List.mem_of_mem_drop (List.mem_of_mem_take h))
                  have hlen : ((sn.drop j).drop a ++ (sn.drop j).take a).length ≤ 1003 := by
                    rw [List.length_append, List.length_drop, List.length_take, List.length_drop]
                    omega
                  generalize (sn.drop j).drop a ++ (sn.drop j).take a = ow at hall hlen ⊢
                  have s5 := ((s2.trans (same_new (o := .lst (((sn.drop j).drop a).map nV)) hb1)).trans (same_new (o := .lst (((sn.drop j).take a).map nV)) hb2)).trans (same_new (o := .lst (ow.map nV)) hl)
                  refine ⟨l, rfl, ⟨_, SqL.of upd_same⟩, fun D2 hD2 => ?_⟩
                  refine lc_list (K := K) (a := l) (xs := ow.map nV) (fun i H' => Same H H' ∧ H' l = some (.lst (ow.map nV)) ∧ ∃ vs, H' D2 = some (.lst vs) ∧ vs.length = i)
                    ⟨s5.trans (same_new hD2), same_new hD2 _ _ upd_same, [], upd_same, rfl⟩ (fun i H' _ hP => SqL.of hP.2.1) (fun i x H' hx hP => ?_) (fun H' hP => ?_)
                  · obtain ⟨sm, hl', vs, hvs, hvl⟩ := hP
                    obtain ⟨w0, hw0, rfl⟩ : ∃ w0, ow[i]? = some w0 ∧ x = nV w0 := by
                      rw [List.getElem?_map] at hx
                      cases e : ow[i]? with
                      | none =>
                        rw [e] at hx
                        cases hx
                      | some o =>
                        rw [e] at hx
                        exact ⟨o, rfl, (Option.some.inj hx).symm⟩
                    have hil : i < ow.length := (List.getElem?_eq_some_iff.mp hw0).1
                    obtain ⟨q1, q2, q3⟩ := hall w0 (List.mem_of_getElem? hw0)
                    have ei : (w0 : Int) - 1 = ((w0 - 1 : Nat) : Int) := by omega
                    have hwl : w0 - 1 < rows.length := by omega
                    obtain ⟨ga, es, hes1, hes2⟩ := hq2.get hwl
                    obtain ⟨ea, he1, he2⟩ := paired_get hes2 (List.getElem?_eq_getElem q3)
                    refine ⟨rfl, ?_⟩
                    refine ⟨_, rfl, p, C, dx, _, _, rfl, sm _ _ hi, D.cl, D.nE, dof_e _ _ _ _ _, _, rfl, _, _, rfl, rfl, er, _, ((w0 - 1 : Nat) : Int), .ref (as.getD (w0 - 1) 0), rfl, congrArg V.int ei, SqL.of (sm _ _ hq1), atI_nat (map_get V.ref ga), ?_⟩
                    refine ⟨_, rfl, p, C, dx, _, _, rfl, sm _ _ hi, D.cl, D.nD, dof_d _ _ _ _ _, _, rfl, _, _, rfl, rfl, dn, _, ((w0 - 1 : Nat) : Int), nV (d.getD (w0 - 1) 0), rfl, congrArg V.int ei, SqL.of (sm _ _ O.dn), atI_nat (map_get nV (getD_get (by omega))), ?_⟩
                    refine ⟨as.getD (w0 - 1) 0, _, _, .ref ea, rfl, rfl, SqT.of (sm _ _ hes1), atI_nat (map_get V.ref he1), ?_⟩
                    refine ⟨1, rfl, ea, _, rfl, SqT.of (sm _ _ he2), fun z => (nomatch z.1), fun q hq => ?_⟩
                    have nDq : D2 ≠ q := fun z => by
                      rw [← z, hvs] at hq
                      cases hq
                    have nlD : l ≠ D2 := fun z => by
                      rw [← z, upd_same] at hD2
                      cases hD2
                    refine ⟨vs, by rw [upd_ne nDq]; exact hvs, small (by omega), same_out (sm.trans (same_new hq)) (none_of s5 hD2), ?_, _, upd_same, by rw [List.length_append, hvl]; rfl⟩
                    rw [upd_ne nlD]
                    exact same_new hq _ _ hl'
                  · obtain ⟨sm, hl', vs, hvs, hvl⟩ := hP
                    exact ⟨D2, _, rfl, .inl ⟨SqL.of hvs, fun q hq => k1 hlt _ q (sm.trans (same_new hq))⟩⟩
          · rw [decide_eq_false c]
            obtain ⟨t, ht1, ht2, ht3⟩ := hw wk hwk
            obtain ⟨q1, q2, q3⟩ := id hwk
            have s2 : Same H (upd H1 se (.lst (sn.map nV ++ [nV wk]))) := same_out s1 hs0
            have hmu : sn.length + 1 ≤ rows.length + 1 := by
              have := nodup_le (rows.length + 1) (sn ++ [wk]) (by
                rw [List.nodup_append]
                refine ⟨hnd, (by simp), fun x hx y hy e => ?_⟩
                have : y = wk := by simpa using hy
                rw [← this, ← e] at c
                exact c hx) fun x hx => by
                  rcases List.mem_append.mp hx with h | h
                  · exact Nat.lt_succ_of_le (hsn x h).2.1
                  · have : x = wk := by simpa using h
                    rw [this]
                    exact Nat.lt_succ_of_le q2
              rw [List.length_append] at this
              exact this
            obtain ⟨e, he, _, _⟩ := waits_inv ht1
            refine iteT ⟨_, fun σ' H' h => ⟨μ - 1, by omega, h⟩, ?_⟩
            refine ⟨_, rfl, .inl ⟨rfl, _, SqL.of hse⟩, _, rfl, se, _, nV wk, rfl, rfl, hse, by rw [List.length_map]; exact small (by omega), ?_⟩
            obtain ⟨dx2, hi2⟩ := (O.same s2).ins
            refine ⟨_, rfl, p, C, dx, _, _, rfl, s2 _ _ hi, D.cl, D.nS, dof_z _ _ _ _ _, _, rfl, p, dx2, _, rfl, hi2, dof_n2 _ _ _ _ _, _, rfl, p, W, Z, er, dn, mk, web, Sh, rows, d, m, wk - 1, e, congrArg (fun z => [V.ref p, V.int z]) (by omega), O.same s2, Wv.same (Same.ts s2), by omega, by omega, he, fun H2 s4 => ?_⟩
            rw [ht1]
            refine ⟨Z, _, (t : Int), nV (Sh.getD t 0), rfl, rfl, SqT.of ((s2.trans s4) _ _ Wv.nums), atI_nat (map_get nV (getD_get ht2)), ?_⟩
            refine ⟨Sh.getD t 0, sn ++ [wk], rfl, s2.trans s4, ?_, ht3, ?_, ?_, by rw [List.length_append, List.length_singleton]; omega⟩
            · rw [List.map_append]
              exact s4 _ _ upd_same
            · rw [List.nodup_append]
              refine ⟨hnd, (by simp), fun x hx y hy e => ?_⟩
              have : y = wk := by simpa using hy
              rw [← this, ← e] at c
              exact c hx
            · intro x hx
              rcases List.mem_append.mp hx with h | h
              · exact hsn x h
              · have : x = wk := by simpa using h
                rw [this]
                exact hwk
end
end TB

set_option maxRecDepth 100000
set_option maxHeartbeats 4000000
/-! Doing.__init__. -/
namespace TB
open PySem PySem.Spec PyProof.Rows L2
/-- a comprehension over enumerate(a tuple) -/
theorem lc_enumT {K : PySem.W.Frag} {a : Addr} {xs : List V} {g : TG} {tt : TT} {te : TE} {vs : List Nat} {σ : List (Option V)} {H1 : Hp} {D : Addr} {Qd : Hp → Prop} (Pv : Nat → Hp → Prop) (h0 : Pv 0 (upd H1 D (.lst []))) (hl : ∀ i H, i ≤ xs.length → Pv i H → SqT K H a xs)
    (hs : ∀ i x T H, xs[i]? = some x → Pv i H → H T = none → g (.ref T) (wipe σ vs) (upd H T (.tup [.int (i : Nat), x])) fun σ2 H2 => wipe σ2 vs = wipe σ vs ∧ tt σ2 H2 fun b H3 =>
      if b = true then te σ2 H3 fun y H4 => ∃ acc, H4 D = some (.lst acc) ∧ acc.length < sizeLine ∧ Pv (i + 1) (upd H4 D (.lst (acc ++ [y]))) else Pv (i + 1) H3) (hd : ∀ H, Pv xs.length H → Qd H) :
    ∃ W : Nat → Nat → Hp → Prop, (∃ m, W 0 m (upd H1 D (.lst []))) ∧ ∀ i m H, W i m H →
      ((IteT K a).stop i H ∧ Qd H) ∨ ((IteT K a).go i H ∧ ∃ Nx : Hp → Prop, (∀ H', Nx H' → ∃ m', m' < m ∧ W (i + 1) m' H') ∧ ∀ x H', (IteT K a).yld i H x H' → g x (wipe σ vs) H' fun σ2 H2 => wipe σ2 vs = wipe σ vs ∧ tt σ2 H2 fun b H3 =>
        if b = true then te σ2 H3 fun y H4 => ∃ acc, H4 D = some (.lst acc) ∧ acc.length < sizeLine ∧ Nx (upd H4 D (.lst (acc ++ [y]))) else Nx H3) := by
  refine ⟨fun i m H => m = xs.length - i ∧ i ≤ xs.length ∧ Pv i H, ⟨xs.length, by simp, Nat.zero_le _, h0⟩, ?_⟩
  rintro i m H ⟨rfl, hi, p⟩
  have q := hl i H hi p
  by_cases hlt : i < xs.length
  · refine .inr ⟨⟨xs, xs[i], q, by simp [hlt]⟩, Pv (i + 1), fun H' p' => ⟨xs.length - (i + 1), by omega, rfl, hlt, p'⟩, fun x H' y => ?_⟩
    obtain ⟨T, x', e1, hT, e2, y⟩ := y
    subst e1 e2
    exact hs i x' T H (y xs q) p hT
  · have e : i = xs.length := by omega
    subst e
    exact .inl ⟨⟨xs, q, rfl⟩, hd H p⟩
theorem none_of {H H' : Hp} {q : Addr} (s : Same H H') (e : H' q = none) : H q = none := by
  cases h : H q with
  | none => rfl
  | some o =>
    rw [s _ _ h] at e
    cases e
theorem mergeK_kn : ∀ (l k : List Nat), (k ++ l).Nodup → mergeK (knK k) (knK l) = knK (k ++ l)
  | [], k, _ => by rw [List.append_nil]; rfl
  | a :: l, k, h => by
    have ha : a ∉ k := fun hk => by
      have := (List.nodup_append.mp h).2.2 a hk a List.mem_cons_self
      exact this rfl
    have e : mergeK (knK k) (knK (a :: l)) = mergeK (putK (knK k) (Sum.inl (a : Int)) (.bl true)) (knK l) := rfl
    rw [e, putK_kn ha]
    have := mergeK_kn l (k ++ [a]) (by rw [List.append_assoc]; exact h)
    rw [List.append_assoc] at this
    exact this
theorem small1003 {n : Nat} (h : n ≤ 1003) : n < sizeLine := Nat.lt_of_le_of_lt h (show 1003 < sizeLine by decide)
/-- new pairs (x, True) -/
def PrK (H : Hp) (ps : List Addr) (xs : List Nat) : Prop := Paired (fun p (x : Nat) => H p = some (.tup [nV x, .bl true])) ps xs
theorem PrK.ts {H H' : Hp} {ps : List Addr} {xs : List Nat} (h : PrK H ps xs) (s : Tsame H H') : PrK H' ps xs := Paired.mapP h fun _ _ q => s _ _ q
theorem PrK.dict {K : PySem.W.Frag} {H : Hp} : ∀ {ps : List Addr} {xs : List Nat}, PrK H ps xs → Paired (fun p (kv : Key × V) => SqT K H p [kV kv.1, kv.2]) ps (knK xs)
  | _, _, .nil => .nil
  | _, _, .cons h t => .cons (SqT.of h) (PrK.dict t)
theorem ownRoots_nod {S : List Nat} : ∀ {rs : List Nat} {i : Nat}, rs.Nodup → (ownRoots S rs i).Nodup
  | [], _, _ => List.nodup_nil
  | r :: rs, i, h => by
    obtain ⟨h1, h2⟩ := List.nodup_cons.mp h
    unfold ownRoots
    split
    · exact List.nodup_cons.mpr ⟨fun hm => h1 ((ownRoots_sub S rs (i + 1)).2 r hm), ownRoots_nod h2⟩
    · exact ownRoots_nod h2
def spInit (C : Addr) : Sp := fun vs H Q _ => ∃ (p W rt Z dx : Addr) (web : Web) (roots S : List Nat), vs = [.ref p, .ref W, .ref rt, .ref Z] ∧ H p = some (.ins C dx []) ∧ WebAt H W web ∧ WebOk web ∧ NumsAt H rt roots ∧ RootsOk web roots ∧ NumsAt H Z S ∧ S.length = web.length ∧
  ∀ H' er dn mk, (∀ b o, b ≠ p → H b = some o → H' b = some o) → H dn = none → H mk = none → DoAt C H' p W Z er dn mk (rowsOf web roots S) (d0 roots) (ownRoots S roots 0) → Q .non H'
section
variable {P : Program} {w : World} {K : PySem.W.Frag} {mg : Str → Option Value} {base : Heap} {C : Addr}
theorem sc_init : FnScope ["self", "web", "roots", "sharing", "root", "place"] ["self", "web", "roots", "sharing"] (defScope s_init) := ⟨rfl, rfl, rfl, by decide +kernel, rfl, by decide +kernel, by decide +kernel⟩
/-- the class's first def keeps a promise -/
def HasI (P : Program) (w : World) (K : PySem.W.Frag) (mg : Str → Option Value) (base : Heap) (C : Addr) (k : Nat) (ps : List Str) (sp : Sp) : Prop :=
  ∃ f fd, Mk K C f ∧ Binds K fd ps [] ∧ FnOk P w K mg base CX0 k f fd ps sp
def StandsI (K : PySem.W.Frag) (C : Addr) (q : Str) (st : Stmt) : Prop := ∃ f fd, Mk K C f ∧ FnP K "__init__" q st f fd
theorem StandsI.has {q : Str} {st : Stmt} {N ps : List Str} {k : Nat} {sp : Sp} (S : StandsI K C q st) (sc : FnScope N ps (defScope st))
    (hb : ∀ (kV doc pm : Value) (an : Option Addr) (cdv ct : Value) (us : List Value), us.length = ps.length → bindArgs (PySem.W.fnOf "__init__" q (defArgs st) (defBody st) (defScope st) .none kV doc pm an cdv ct) ⟨us, []⟩ = pure (ps.zip us))
    (len : ∀ vs H Q E, sp vs H Q E → vs.length = ps.length)
    (body : ∀ (f : Addr) (cdv : Value) (A : Around) (outer : List Env) (s : Shared) (H : Hp) (vs : List V) (Q : VK) (E : XK), Room k (A.deeper (envOfC q (defScope st) s.heap.objs.size f cdv)) → sp vs H Q E →
      ∃ t, PSs (cxOf CX0 P w K mg base N q (defScope st) f cdv A outer s H E).nox (defBody st) t ∧ t { nx := fun _ H' => Q .non H', rt := Q } (start N vs) H) : HasI P w K mg base C (k + 1) ps sp := by
  obtain ⟨f, fd, hm, F⟩ := S
  refine ⟨f, fd, hm, F.bindsN hb, F.ok sc len fun cdv A outer s H vs Q E hr h => ?_⟩
  obtain ⟨t, a, b⟩ := body f cdv A outer s H vs Q E hr h
  exact ⟨t, a.nox, b⟩
theorem has_init (T : Tx mg) (D : Dx K mg C) (S : StandsI K C "Doing.__init__" s_init) (h1 : Has P w K mg base 2 "rows_of" ["web", "roots", "sharing"] spRowsOf) : HasI P w K mg base C 3 ["self", "web", "roots", "sharing"] (spInit C) := by
  obtain ⟨f1, fd1, g1, k1, b1, G1⟩ := h1
  refine S.has sc_init (fun _ _ _ _ _ _ us hl => match us, hl with | [_, _, _, _], _ => rfl) (fun vs H Q E h => ?_) (fun f cdv A outer s H vs Q E hr h => ?_)
  · obtain ⟨p, W, rt, Z, dx, web, roots, Sh, rfl, _⟩ := h
    rfl
  · obtain ⟨p, W, rt, Z, dx, web, roots, Sh, rfl, hi, hW, ok, hR, rok, hZ, hlen, k⟩ := h
    have nd := sc_init.nd
    refine ⟨_, pss_cons (ps_fld (pv 0) (pv 1) rfl) (pss_cons (ps_fld (pv 0) (pv 3) rfl) (pss_cons (ps_fld (pv 0) (pe_call G1 hr (by rfl) g1 k1 b1 .nil pass0 (pa_cons (pv 1) (pa_cons (pv 2) (pa_cons (pv 3) pa_nil)))) rfl)
      (pss_cons (ps_fld (pv 0) (pe_lc (own := [("root", 4)]) (g := gName 4) (tt := tYes) rfl nd (pi_tup (pv 2)) (blkOk_by (N := ["self", "web", "roots", "sharing", "root", "place"]) (sc := defScope s_init) (by decide +kernel))
          (fun _ _ _ _ _ => pg_name (i := 4) nd rfl (Or.inl rfl)) (fun _ _ _ _ _ => pts_nil) (fun _ _ _ _ _ => pe_int)) rfl)
      (pss_one (ps_fld (pv 0) (pe_callTy (call_dictP rfl) (by rfl) T.dict boot_dict (pa_cons (pe_lc (own := [("place", 5), ("root", 4)]) (g := gTup K 2 (gCons (gName 5) (gCons (gName 4) gNil))) rfl nd (pi_enumT (by rfl) T.enum (pa_cons (pv 2) pa_nil)) (blkOk_by (N := ["self", "web", "roots", "sharing", "root", "place"]) (sc := defScope s_init) (by decide +kernel))
          (fun _ _ _ _ _ => pg_tup rfl (pgs_cons (pg_name (i := 5) nd rfl (Or.inl rfl)) (pgs_cons (pg_name (i := 4) nd rfl (Or.inl rfl)) pgs_nil)))
          (fun _ _ _ _ _ => pts_one (pt_cmpR op_eq (pe_ix (r := rIxT K) ix_tup (pv 3) (pv 4) (fun _ _ => rfl)) (pe_op op_add (pv 5) pe_int) (nomark _)))
          (fun _ _ _ _ _ => pe_tup (pa_cons (pv 4) (pa_cons pe_bl pa_nil)))) pa_nil)) rfl))))), ?_⟩
    have tins : ∀ {H1 : Hp} {fs gs : List (Str × V)}, H1 p = some (.ins C dx fs) → Tsame H1 (upd H1 p (.ins C dx gs)) := fun {H1 fs gs} h t xs ht => by
      rw [upd_ne (fun z => by rw [z, h] at ht; cases ht)]
      exact ht
    have kins : ∀ {H1 : Hp} {gs : List (Str × V)}, (∀ b o, b ≠ p → H b = some o → H1 b = some o) → ∀ b o, b ≠ p → H b = some o → upd H1 p (.ins C dx gs) b = some o := fun {H1 gs} h b o hb e => by
      rw [upd_ne hb]
      exact h b o hb e
    refine ⟨_, rfl, _, rfl, p, C, dx, _, rfl, hi, D.cl, D.nW, (show 0 < 1000 by decide), ?_⟩
    refine ⟨_, rfl, _, rfl, p, C, dx, _, rfl, upd_same, D.cl, D.nS, (show 1 < 1000 by decide), ?_⟩
    have t2 : Tsame H (upd (upd H p (.ins C dx (putF "woven" (.ref W) []))) p (.ins C dx (putF "shared" (.ref Z) (putF "woven" (.ref W) [])))) := (tins hi).trans (tins upd_same)
    have e2 : (upd (upd H p (.ins C dx (putF "woven" (.ref W) []))) p (.ins C dx (putF "shared" (.ref Z) (putF "woven" (.ref W) [])))) p = some (.ins C dx [("woven", .ref W), ("shared", .ref Z)]) := upd_same
    have k2 : ∀ b o, b ≠ p → H b = some o → (upd (upd H p (.ins C dx (putF "woven" (.ref W) []))) p (.ins C dx (putF "shared" (.ref Z) (putF "woven" (.ref W) [])))) b = some o := kins (kins fun b o _ e => e)
    generalize (upd (upd H p (.ins C dx (putF "woven" (.ref W) []))) p (.ins C dx (putF "shared" (.ref Z) (putF "woven" (.ref W) [])))) = H2 at t2 e2 k2 ⊢
    refine ⟨_, rfl, _, rfl, _, rfl, W, rt, Z, web, roots, Sh, rfl, hW.ts t2, ok, hR.ts t2, rok, hZ.ts t2, hlen, fun H3 er s3 her hrows => ?_⟩
    refine ⟨_, rfl, p, C, dx, _, rfl, s3 _ _ e2, D.cl, D.nE, (show 2 < 1000 by decide), ?_⟩
    have ner : er ≠ p := fun z => by
      rw [z, e2] at her
      cases her
    have t4 : Tsame H (upd H3 p (.ins C dx (putF "event_rows" (.ref er) [("woven", .ref W), ("shared", .ref Z)]))) := (t2.trans (Same.ts s3)).trans (tins (s3 _ _ e2))
    have e4 : (upd H3 p (.ins C dx (putF "event_rows" (.ref er) [("woven", .ref W), ("shared", .ref Z)]))) p = some (.ins C dx [("woven", .ref W), ("shared", .ref Z), ("event_rows", .ref er)]) := upd_same
    have k4 := kins (gs := putF "event_rows" (.ref er) [("woven", .ref W), ("shared", .ref Z)]) (H1 := H3) fun b o hb e => s3 _ _ (k2 b o hb e)
    obtain ⟨as, hr1, hr2⟩ := hrows
    have r4 : RowsAt (upd H3 p (.ins C dx (putF "event_rows" (.ref er) [("woven", .ref W), ("shared", .ref Z)]))) er (rowsOf web roots Sh) := ⟨as, by rw [upd_ne ner]; exact hr1, hr2.ts (tins (s3 _ _ e2))⟩
    generalize (upd H3 p (.ins C dx (putF "event_rows" (.ref er) [("woven", .ref W), ("shared", .ref Z)]))) = H4 at t4 e4 k4 r4 ⊢
    clear hr1 hr2 as
    refine ⟨_, rfl, rt, rfl, ⟨_, SqT.of (t4 _ _ hR)⟩, fun dn hdn => ?_⟩
    have hlt : ∀ {n : Nat}, n ≤ roots.length → n < sizeLine := fun {n} h => small1003 (by have := rok.three; omega)
    refine lc_tup (K := K) (a := rt) (xs := roots.map nV) (fun i H' => Same H4 H' ∧ H' dn = some (.lst ((roots.take i).map fun _ => V.int 0))) ⟨same_new hdn, by rw [upd_same]; rfl⟩ (fun i H' _ hP => SqT.of (hP.1 _ _ (t4 _ _ hR))) (fun i x H' hx hP => ?_) (fun H5 hP => ?_)
    · obtain ⟨sm, hL⟩ := hP
      obtain ⟨r, hr0, rfl⟩ := map_get_inv hx
      refine ⟨rfl, _, hL, hlt (by rw [List.length_map, List.length_take]; omega), same_out sm hdn, ?_⟩
      rw [upd_same, take_get hr0, List.map_append]
      rfl
    · obtain ⟨s5, hL5⟩ := hP
      rw [List.length_map, List.take_length] at hL5
      have hL5' : H5 dn = some (.lst ((d0 roots).map nV)) := by
        rw [hL5]
        unfold d0
        rw [List.map_map]
        rfl
      have ndn : dn ≠ p := fun z => by
        rw [z, e4] at hdn
        cases hdn
      have nde : dn ≠ er := fun z => by
        obtain ⟨as, h1, _⟩ := r4
        rw [z, h1] at hdn
        cases hdn
      refine ⟨_, rfl, p, C, dx, _, rfl, s5 _ _ e4, D.cl, D.nD, (show 3 < 1000 by decide), ?_⟩
      have t6 : Tsame H (upd H5 p (.ins C dx (putF "dones" (.ref dn) [("woven", .ref W), ("shared", .ref Z), ("event_rows", .ref er)]))) := (t4.trans (Same.ts s5)).trans (tins (s5 _ _ e4))
      have e6 : (upd H5 p (.ins C dx (putF "dones" (.ref dn) [("woven", .ref W), ("shared", .ref Z), ("event_rows", .ref er)]))) p = some (.ins C dx [("woven", .ref W), ("shared", .ref Z), ("event_rows", .ref er), ("dones", .ref dn)]) := upd_same
      have k6 := kins (gs := putF "dones" (.ref dn) [("woven", .ref W), ("shared", .ref Z), ("event_rows", .ref er)]) (H1 := H5) fun b o hb e => s5 _ _ (k4 b o hb e)
      have r6 : RowsAt (upd H5 p (.ins C dx (putF "dones" (.ref dn) [("woven", .ref W), ("shared", .ref Z), ("event_rows", .ref er)]))) er (rowsOf web roots Sh) := by
        obtain ⟨as, h1, h2⟩ := r4
        exact ⟨as, by rw [upd_ne ner]; exact s5 _ _ h1, (h2.ts (Same.ts s5)).ts (tins (s5 _ _ e4))⟩
      have d6 : (upd H5 p (.ins C dx (putF "dones" (.ref dn) [("woven", .ref W), ("shared", .ref Z), ("event_rows", .ref er)]))) dn = some (.lst ((d0 roots).map nV)) := by
        rw [upd_ne ndn]
        exact hL5'
      generalize (upd H5 p (.ins C dx (putF "dones" (.ref dn) [("woven", .ref W), ("shared", .ref Z), ("event_rows", .ref er)]))) = H6 at t6 e6 k6 r6 d6 ⊢
      refine ⟨_, rfl, rt, _, rfl, SqT.of (t6 _ _ hR), fun D2 hD2 => ?_⟩
      refine lc_enumT (K := K) (a := rt) (xs := roots.map nV) (fun i H' => Same H6 H' ∧ ∃ ps : List Addr, H' D2 = some (.lst (ps.map V.ref)) ∧ PrK H' ps (ownRoots Sh (roots.take i) 0))
        ⟨same_new hD2, [], upd_same, .nil⟩ (fun i H' _ hP => SqT.of (hP.1 _ _ (t6 _ _ hR))) (fun i x T0 H' hx hP hT0 => ?_) (fun H7 hP => ?_)
      · obtain ⟨sm, ps, hL, hps⟩ := hP
        obtain ⟨r, hr0, rfl⟩ := map_get_inv hx
        have hil : i < roots.length := (List.getElem?_eq_some_iff.mp hr0).1
        have hrl := rok.lt r (List.mem_of_getElem? hr0)
        have sT := sm.trans (same_new (o := .tup [.int (i : Nat), nV r]) hT0)
        refine ⟨T0, _, rfl, SqT.of upd_same, rfl, _, _, rfl, _, _, rfl, rfl, rfl, ?_⟩
        have hsn : ownRoots Sh (roots.take (i + 1)) 0 = ownRoots Sh (roots.take i) 0 ++ (if Sh.getD r 0 = i + 1 then [r] else []) := by
          rw [take_get hr0, ownRoots_snoc, List.length_take, Nat.min_eq_left (by omega), Nat.zero_add]
        have hpl : ps.length ≤ roots.length := by
          rw [Paired.length hps]
          have h1 := (ownRoots_sub Sh (roots.take i) 0).1
          rw [List.length_take] at h1
          omega
        refine ⟨_, rfl, _, rfl, Z, _, _, nV (Sh.getD r 0), rfl, rfl, SqT.of (sT _ _ (t6 _ _ hZ)), atI_nat (map_get nV (getD_get (by rw [hlen]; exact hrl))), _, rfl, _, _, rfl, rfl, rfl, _, rfl, ?_⟩
        by_cases c : Sh.getD r 0 = i + 1
        · rw [decide_eq_true (show nV (Sh.getD r 0) = V.int ((i : Nat) + 1 : Int) from congrArg V.int (by omega))]
          rw [if_pos c] at hsn
          refine iteT ⟨_, rfl, (by show 2 ≤ sizeLine; decide), fun q hq => ?_⟩
          have hL' := same_new (o := .tup [nV r, .bl true]) hq _ _ (same_new (o := .tup [.int (i : Nat), nV r]) hT0 _ _ hL)
          refine ⟨_, hL', hlt (by rw [List.length_map]; exact hpl), same_out (sT.trans (same_new hq)) hD2, ps ++ [q], by rw [upd_same, List.map_append]; rfl, ?_⟩
          rw [hsn]
          have nq : q ≠ D2 := fun z => by
            rw [z] at hq
            rw [same_new (o := .tup [.int (i : Nat), nV r]) hT0 _ _ hL] at hq
            cases hq
          refine paired_snoc ?_ ((((hps.ts (Tsame.new hT0)).ts (Tsame.new hq))).ts (.lst hL'))
          rw [upd_ne nq, upd_same]
        · rw [decide_eq_false (show ¬ nV (Sh.getD r 0) = V.int ((i : Nat) + 1 : Int) from fun z => c (by have := V.int.inj z; omega))]
          rw [if_neg c, List.append_nil] at hsn
          refine iteF ⟨sT, ps, same_new hT0 _ _ hL, ?_⟩
          rw [hsn]
          exact hps.ts (Tsame.new hT0)
      · obtain ⟨s7, ps, hL7, hps⟩ := hP
        rw [List.length_map, List.take_length] at hps
        refine ⟨D2, ps, _, rfl, SqL.of hL7, hps.dict, fun mk hmk => ?_⟩
        have hnd : (ownRoots Sh roots 0).Nodup := ownRoots_nod rok.nod
        have em := mergeK_kn (ownRoots Sh roots 0) [] (by rw [List.nil_append]; exact hnd)
        rw [List.nil_append] at em
        have em' : mergeK [] (knK (ownRoots Sh roots 0)) = knK (ownRoots Sh roots 0) := em
        rw [em']
        have s8 := s7.trans (same_new (o := .dK (knK (ownRoots Sh roots 0))) hmk)
        refine ⟨_, rfl, p, C, dx, _, rfl, s8 _ _ e6, D.cl, D.nM, (show 4 < 1000 by decide), ?_⟩
        have nmp : mk ≠ p := fun z => by
          rw [z, s7 _ _ e6] at hmk
          cases hmk
        have hdn0 : H dn = none := by
          cases h : H dn with
          | none => rfl
          | some o =>
            have := k4 dn o ndn h
            rw [hdn] at this
            cases this
        have hmk0 : H mk = none := by
          cases h : H mk with
          | none => rfl
          | some o =>
            have := s7 _ _ (k6 mk o nmp h)
            rw [hmk] at this
            cases this
        refine k _ er dn mk (kins fun b o hb e => s8 _ _ (k6 b o hb e)) hdn0 hmk0 ⟨⟨dx, upd_same⟩, ?_, by rw [upd_ne ndn]; exact s8 _ _ d6, by rw [upd_ne nmp, upd_same]⟩
        obtain ⟨as, h1, h2⟩ := r6
        exact ⟨as, by rw [upd_ne ner]; exact s8 _ _ h1, (h2.ts (Same.ts s8)).ts (tins (s8 _ _ e6))⟩
end
end TB

set_option maxRecDepth 100000
set_option maxHeartbeats 4000000
/-! What hinders: root, tie, far. -/
namespace TB
open PySem PySem.Spec PyProof.Rows L2
/-- None, or a tuple with something in it -/
def HindOut (H : Hp) (Q : VK) (b : Bool) : Prop := (b = false → ∀ H', Same H H' → Q .non H') ∧ (b = true → ∀ H' q x xs, Same H H' → H' q = some (.tup (x :: xs)) → Q (.ref q) H')
theorem HindOut.same {H H' : Hp} {Q : VK} {b : Bool} (h : HindOut H Q b) (s : Same H H') : HindOut H' Q b := ⟨fun e H2 s2 => h.1 e H2 (s.trans s2), fun e H2 q x xs s2 => h.2 e H2 q x xs (s.trans s2)⟩
def spRootH : Sp := fun vs H Q _ => ∃ (rt Z : Addr) (roots S : List Nat), vs = [.ref rt, .ref Z] ∧ NumsAt H rt roots ∧ NumsAt H Z S ∧ (∀ r ∈ roots, r < S.length) ∧ HindOut H Q (rootH S roots 0)
def spTieH : Sp := fun vs H Q _ => ∃ (W Z : Addr) (web : Web) (S : List Nat), vs = [.ref W, .ref Z] ∧ WebAt H W web ∧ WebOk web ∧ NumsAt H Z S ∧ S.length = web.length ∧ HindOut H Q (tieH S web 0)
def spFarH : Sp := fun vs H Q _ => ∃ (W rt Z : Addr) (web : Web) (roots S : List Nat), vs = [.ref W, .ref rt, .ref Z] ∧ WebAt H W web ∧ WebOk web ∧ NumsAt H rt roots ∧ RootsOk web roots ∧ NumsAt H Z S ∧ ShOk web roots S ∧ HindOut H Q (farH (knownAll web roots S) S 0)
/-! dicts of known nodes -/
def putAll (k l : List Nat) : List Nat := l.foldl putM k
theorem mem_putAll : ∀ {l k : List Nat} {x : Nat}, x ∈ putAll k l ↔ x ∈ k ∨ x ∈ l
  | [], k, x => by simp [putAll]
  | a :: l, k, x => by
    have := mem_putAll (l := l) (k := putM k a) (x := x)
    show x ∈ putAll (putM k a) l ↔ _
    rw [this, mem_putM, List.mem_cons, or_assoc]
theorem putAll_len : ∀ {l k : List Nat}, (putAll k l).length ≤ k.length + l.length
  | [], k => by simp [putAll]
  | a :: l, k => by
    have h := putAll_len (l := l) (k := putM k a)
    have : (putM k a).length ≤ k.length + 1 := by
      unfold putM
      split
      · omega
      · rw [List.length_append]
        exact Nat.le_refl _
    show (putAll (putM k a) l).length ≤ _
    rw [List.length_cons]
    omega
theorem mergeK_all : ∀ (l k : List Nat), mergeK (knK k) (knK l) = knK (putAll k l)
  | [], k => rfl
  | a :: l, k => by
    have e : mergeK (knK k) (knK (a :: l)) = mergeK (putK (knK k) (Sum.inl (a : Int)) (.bl true)) (knK l) := rfl
    rw [e, putK_m, mergeK_all l (putM k a)]
    rfl
theorem flatMap_take {α β : Type} (f : α → List β) {l : List α} {i : Nat} {x : α} (h : l[i]? = some x) : (l.take (i + 1)).flatMap f = (l.take i).flatMap f ++ f x := by
  rw [take_get h, List.flatMap_append]
  simp
theorem downs_take {web : Web} {es : List Ev} {i : Nat} {e : Ev} (h : es[i]? = some e) : downs web (es.take (i + 1)) = downs web (es.take i) ++ (if e.1 = .down then (tie web e.2.1 e.2.2).toList else []) := by
  rw [take_get h, downs_append]
  simp [downs]
theorem downs_len (web : Web) : ∀ es : List Ev, (downs web es).length ≤ es.length
  | [] => Nat.le_refl _
  | e :: es => by
    have := downs_len web es
    unfold downs
    rw [List.length_append, List.length_cons]
    have h2 : (if e.1 = Kd.down then (tie web e.2.1 e.2.2).toList else []).length ≤ 1 := by
      split
      · cases tie web e.2.1 e.2.2 <;> simp
      · simp
    omega
section
variable {P : Program} {w : World} {K : PySem.W.Frag} {mg : Str → Option Value} {base : Heap}
theorem sc_root_hindrance : FnScope ["roots", "sharing", "place", "root"] ["roots", "sharing"] (defScope s_root_hindrance) := ⟨rfl, rfl, rfl, by decide +kernel, rfl, by decide +kernel, by decide +kernel⟩
theorem has_root_hindrance (T : Tx mg) (S : Stands K mg "root_hindrance" s_root_hindrance) : Has P w K mg base 1 "root_hindrance" ["roots", "sharing"] spRootH := by
  refine S.has sc_root_hindrance (fun _ _ _ _ _ _ us hl => match us, hl with | [_, _], _ => rfl) (fun vs H Q E h => ?_) (fun f cdv A outer s H vs Q E hr h => ?_)
  · obtain ⟨rt, Z, roots, Sh, rfl, _⟩ := h
    rfl
  · obtain ⟨rt, Z, roots, Sh, rfl, hR, hZ, hrl, k0, k1⟩ := h
    have nd := sc_root_hindrance.nd
    refine ⟨_, pss_cons (ps_for PassesOwn.never rfl (pi_enumT (by rfl) T.enum (pa_cons (pv 0) pa_nil)) (pg_tup rfl (pgs_cons (pg_name (i := 2) nd rfl (Or.inl rfl)) (pgs_cons (pg_name (i := 3) nd rfl (Or.inl rfl)) pgs_nil)))
        (pss_one (ps_if (pt_cmpR op_ne (pe_ix ix_tup (pv 1) (pv 3) (fun _ _ => rfl)) (pe_op op_add (pv 2) pe_int) (nomark _)) (pss_one (ps_ret (pe_tup (pa_cons pe_str (pa_cons (pe_op op_add (pv 2) pe_int) pa_nil))))) pss_nil)))
      (pss_one (ps_ret pe_non)), ?_⟩
    refine ⟨_, rfl, rt, _, rfl, SqT.of hR, ?_⟩
    refine for_enumT (K := K) (a := rt) (xs := roots.map nV) (fun i σ H' => (∃ u v, σ = [some (.ref rt), some (.ref Z), u, v]) ∧ Same H H' ∧ ∀ x, x < i → Sh.getD (roots.getD x 0) 0 = x + 1) ⟨⟨_, _, rfl⟩, Same.refl _, fun x h => absurd h (Nat.not_lt_zero _)⟩ (fun i σ H' _ hP => SqT.of (hP.2.1 _ _ hR)) (fun i x T0 σ H' hx hP hT0 => ?_) (fun σ H' hP => ?_)
    · obtain ⟨⟨u, v, rfl⟩, sm, hin⟩ := hP
      obtain ⟨r, hr0, rfl⟩ := map_get_inv hx
      have hrm := hrl r (List.mem_of_getElem? hr0)
      have sm2 : Same H (upd H' T0 (.tup [.int (i : Nat), nV r])) := sm.trans (same_new hT0)
      refine ⟨T0, _, rfl, SqT.of upd_same, rfl, _, _, rfl, _, _, rfl, rfl, ?_⟩
      refine ⟨_, rfl, _, rfl, Z, _, _, nV (Sh.getD r 0), rfl, rfl, SqT.of (sm2 _ _ hZ), atI_nat (map_get nV (getD_get hrm)), _, rfl, _, _, rfl, rfl, rfl, _, rfl, ?_⟩
      have er : roots.getD i 0 = r := (get_getD (d := 0) hr0).1
      by_cases c : Sh.getD r 0 = i + 1
      · rw [decide_eq_true (show nV (Sh.getD r 0) = V.int ((i : Nat) + 1 : Int) from congrArg V.int (by omega))]
        refine iteF ⟨⟨_, _, rfl⟩, sm2, fun x hx => ?_⟩
        by_cases d : x < i
        · exact hin x d
        · have : x = i := by omega
          rw [this, er]
          exact c
      · rw [decide_eq_false (show ¬ nV (Sh.getD r 0) = V.int ((i : Nat) + 1 : Int) from fun z => c (by have := V.int.inj z; omega))]
        refine iteT ⟨_, rfl, _, _, rfl, rfl, (by show 2 ≤ sizeLine; decide), fun q hq => ?_⟩
        refine k1 ?_ _ q _ _ (sm2.trans (same_new hq)) upd_same
        cases e : rootH Sh roots 0 with
        | true => rfl
        | false =>
          have := (rootH_iff Sh roots 0).mp e i (List.getElem?_eq_some_iff.mp hr0).1
          rw [er] at this
          exact absurd (by omega) c
    · obtain ⟨_, sm, hin⟩ := hP
      refine k0 ((rootH_iff Sh roots 0).mpr fun x hx => ?_) _ sm
      rw [hin x (by rw [List.length_map]; exact hx)]
      omega
theorem sc_tie_hindrance : FnScope ["web", "sharing", "node", "row", "place", "tie"] ["web", "sharing"] (defScope s_tie_hindrance) := ⟨rfl, rfl, rfl, by decide +kernel, rfl, by decide +kernel, by decide +kernel⟩
theorem has_tie_hindrance (T : Tx mg) (S : Stands K mg "tie_hindrance" s_tie_hindrance) : Has P w K mg base 1 "tie_hindrance" ["web", "sharing"] spTieH := by
  refine S.has sc_tie_hindrance (fun _ _ _ _ _ _ us hl => match us, hl with | [_, _], _ => rfl) (fun vs H Q E h => ?_) (fun f cdv A outer s H vs Q E hr h => ?_)
  · obtain ⟨W, Z, web, Sh, rfl, _⟩ := h
    rfl
  · obtain ⟨W, Z, web, Sh, rfl, hW, ok, hZ, hlen, k0, k1⟩ := h
    have nd := sc_tie_hindrance.nd
    obtain ⟨rs, hW1, hW2, hW3⟩ := id hW
    refine ⟨_, pss_cons (ps_for PassesOwn.never rfl (pi_enumT (by rfl) T.enum (pa_cons (pv 0) pa_nil)) (pg_tup rfl (pgs_cons (pg_name (i := 2) nd rfl (Or.inl rfl)) (pgs_cons (pg_name (i := 3) nd rfl (Or.inl rfl)) pgs_nil)))
        (pss_one (ps_for PassesOwn.never rfl (pi_enumT (by rfl) T.enum (pa_cons (pv 3) pa_nil)) (pg_tup rfl (pgs_cons (pg_name (i := 4) nd rfl (Or.inl rfl)) (pgs_cons (pg_name (i := 5) nd rfl (Or.inl rfl)) pgs_nil)))
          (pss_one (ps_if (PW.pt (pw_and (pt_cmpR op_ne (pe_ix ix_tup (pv 1) (pv 2) (fun _ _ => rfl)) pe_int (nomark _)) (pw_and (pt_cmpR op_notN (pv 5) pe_non (nomark _)) (pw_and1 (pt_cmpR op_eq (pe_ix ix_tup (pv 1) (pv 5) (fun _ _ => rfl)) pe_int (nomark _))))))
            (pss_one (ps_ret (pe_tup (pa_cons pe_str (pa_cons (pv 2) (pa_cons (pv 4) pa_nil)))))) pss_nil)))))
      (pss_one (ps_ret pe_non)), ?_⟩
    refine ⟨_, rfl, W, _, rfl, SqT.of hW1, ?_⟩
    refine for_enumT (K := K) (a := W) (xs := rs.map V.ref) (fun i σ H' => (∃ u v x y, σ = [some (.ref W), some (.ref Z), u, v, x, y]) ∧ Same H H' ∧ ∀ x, x < i → ∀ t, some t ∈ web.getD x [] → Sh.getD x 0 ≠ 0 → Sh.getD t 0 ≠ 0)
      ⟨⟨_, _, _, _, rfl⟩, Same.refl _, fun x h => absurd h (Nat.not_lt_zero _)⟩ (fun i σ H' _ hP => SqT.of (hP.2.1 _ _ hW1)) (fun i x T0 σ H' hx hP hT0 => ?_) (fun σ H' hP => ?_)
    · obtain ⟨⟨u, v, x1, y1, rfl⟩, sm, hin⟩ := hP
      obtain ⟨ra, hra, rfl⟩ := map_get_inv hx
      have hil : i < web.length := by
        rw [← hW2]
        exact (List.getElem?_eq_some_iff.mp hra).1
      have era : rs.getD i 0 = ra := (get_getD (d := 0) hra).1
      have hrow := hW3 i hil
      rw [era] at hrow
      have sm2 : Same H (upd H' T0 (.tup [.int (i : Nat), .ref ra])) := sm.trans (same_new hT0)
      refine ⟨T0, _, rfl, SqT.of upd_same, rfl, _, _, rfl, _, _, rfl, rfl, ?_⟩
      refine ⟨_, rfl, ra, _, rfl, SqT.of (sm2 _ _ hrow), ?_⟩
      generalize (upd H' T0 (.tup [.int (i : Nat), .ref ra])) = H2 at sm2 ⊢
      refine for_enumT (K := K) (a := ra) (xs := (web.getD i []).map oV) (fun j σ H' => (∃ u v, σ = [some (.ref W), some (.ref Z), some (nV i), some (.ref ra), u, v]) ∧ Same H H' ∧ ∀ j', j' < j → ∀ t, (web.getD i [])[j']? = some (some t) → Sh.getD i 0 ≠ 0 → Sh.getD t 0 ≠ 0)
        ⟨⟨_, _, rfl⟩, sm2, fun x h => absurd h (Nat.not_lt_zero _)⟩ (fun i σ H' _ hP => SqT.of (hP.2.1 _ _ hrow)) (fun j x T1 σ H' hx hP hT1 => ?_) (fun σ H' hP => ?_)
      · obtain ⟨⟨u, v, rfl⟩, sm3, hin2⟩ := hP
        obtain ⟨o, ho, rfl⟩ := map_get_inv hx
        have sm4 : Same H (upd H' T1 (.tup [.int (j : Nat), oV o])) := sm3.trans (same_new hT1)
        refine ⟨T1, _, rfl, SqT.of upd_same, rfl, _, _, rfl, _, _, rfl, rfl, ?_⟩
        generalize (upd H' T1 (.tup [.int (j : Nat), oV o])) = H3 at sm4 ⊢
        have next : (∀ t, o = some t → Sh.getD i 0 ≠ 0 → Sh.getD t 0 ≠ 0) → ∀ j', j' < j + 1 → ∀ t, (web.getD i [])[j']? = some (some t) → Sh.getD i 0 ≠ 0 → Sh.getD t 0 ≠ 0 := fun ht j' hj t e => by
          by_cases c : j' < j
          · exact hin2 j' c t e
          · have : j' = j := by omega
            rw [this, ho] at e
            exact ht t (Option.some.inj e)
        refine ⟨_, rfl, _, rfl, Z, _, _, nV (Sh.getD i 0), rfl, rfl, SqT.of (sm4 _ _ hZ), atI_nat (map_get nV (getD_get (by rw [hlen]; exact hil))), rfl, _, rfl, ?_⟩
        by_cases c0 : Sh.getD i 0 = 0
        · rw [decide_eq_true (show nV (Sh.getD i 0) = V.int 0 from congrArg V.int (by omega))]
          exact iteF (iteF ⟨⟨_, _, rfl⟩, sm4, next fun t _ h => absurd c0 h⟩)
        · rw [decide_eq_false (show ¬ nV (Sh.getD i 0) = V.int 0 from fun z => c0 (by have := V.int.inj z; omega))]
          refine iteT ?_
          cases o with
          | none => exact ⟨_, rfl, rfl, _, rfl, iteF (iteF ⟨⟨_, _, rfl⟩, sm4, next nofun⟩)⟩
          | some t =>
            have htl : t < Sh.length := by
              rw [hlen]
              exact ok.ties _ (ok.row hil) t (List.mem_of_getElem? ho)
            refine ⟨_, rfl, rfl, _, rfl, iteT ⟨_, rfl, _, rfl, Z, _, _, nV (Sh.getD t 0), rfl, rfl, SqT.of (sm4 _ _ hZ), atI_nat (map_get nV (getD_get htl)), rfl, _, rfl, ?_⟩⟩
            by_cases c1 : Sh.getD t 0 = 0
            · rw [decide_eq_true (show nV (Sh.getD t 0) = V.int 0 from congrArg V.int (by omega))]
              refine iteT ⟨_, rfl, _, rfl, (by show 3 ≤ sizeLine; decide), fun q hq => ?_⟩
              refine k1 ?_ _ q _ _ (sm4.trans (same_new hq)) upd_same
              cases e : tieH Sh web 0 with
              | true => rfl
              | false =>
                have := (tieH_iff Sh web 0).mp e i hil t (List.mem_of_getElem? ho)
                rw [Nat.zero_add] at this
                exact absurd c1 (this c0)
            · rw [decide_eq_false (show ¬ nV (Sh.getD t 0) = V.int 0 from fun z => c1 (by have := V.int.inj z; omega))]
              exact iteF ⟨⟨_, _, rfl⟩, sm4, next fun t' e _ => by cases e; exact c1⟩
      · obtain ⟨⟨u, v, rfl⟩, sm3, hin2⟩ := hP
        refine ⟨⟨_, _, _, _, rfl⟩, sm3, fun x hx t ht h0 => ?_⟩
        by_cases c : x < i
        · exact hin x c t ht h0
        · have : x = i := by omega
          rw [this] at ht h0
          obtain ⟨j, hj, e⟩ := List.mem_iff_getElem.mp ht
          exact hin2 j (by rw [List.length_map]; exact hj) t (by rw [List.getElem?_eq_getElem hj, e]) h0
    · obtain ⟨_, sm, hin⟩ := hP
      refine k0 ((tieH_iff Sh web 0).mpr fun x hx t ht h0 => ?_) _ sm
      rw [Nat.zero_add] at h0
      exact hin x (by rw [List.length_map, hW2]; exact hx) t ht h0
theorem sc_far_hindrance : FnScope ["web", "roots", "sharing", "known", "row", "node", "walker", "root", "kind", "place"] ["web", "roots", "sharing"] (defScope s_far_hindrance) := ⟨rfl, rfl, rfl, by decide +kernel, rfl, by decide +kernel, by decide +kernel⟩
theorem has_far_hindrance (T : Tx mg) (S : Stands K mg "far_hindrance" s_far_hindrance) (h1 : Has P w K mg base 2 "rows_of" ["web", "roots", "sharing"] spRowsOf) : Has P w K mg base 3 "far_hindrance" ["web", "roots", "sharing"] spFarH := by
  obtain ⟨f1, fd1, g1, k1, b1, G1⟩ := h1
  refine S.has sc_far_hindrance (fun _ _ _ _ _ _ us hl => match us, hl with | [_, _, _], _ => rfl) (fun vs H Q E h => ?_) (fun f cdv A outer s H vs Q E hr h => ?_)
  · obtain ⟨W, rt, Z, web, roots, Sh, rfl, _⟩ := h
    rfl
  · obtain ⟨W, rt, Z, web, roots, Sh, rfl, hW, ok, hR, rok, hZ, sok, k0, k1'⟩ := h
    have nd := sc_far_hindrance.nd
    have hu1 := hu_of hr
    refine ⟨_, pss_cons (ps_set (i := 3) nd rfl (Or.inl rfl) (pe_callTy (call_dictP rfl) (by rfl) T.dict boot_dict (pa_cons (pe_lc (own := [("root", 7)]) (g := gName 7) (tt := tYes) rfl nd (pi_tup (pv 1)) (blkOk_by (N := ["web", "roots", "sharing", "known", "row", "node", "walker", "root", "kind", "place"]) (sc := defScope s_far_hindrance) (by decide +kernel))
          (fun _ _ _ _ _ => pg_name (i := 7) nd rfl (Or.inl rfl)) (fun _ _ _ _ _ => pts_nil) (fun _ _ _ _ _ => pe_tup (pa_cons (pv 7) (pa_cons pe_bl pa_nil)))) pa_nil)))
      (pss_cons (ps_for PassesOwn.never rfl (pi_list (pe_call G1 hr (by rfl) g1 k1 b1 .nil pass0 (pa_cons (pv 0) (pa_cons (pv 1) (pa_cons (pv 2) pa_nil))))) (pg_name (i := 4) nd rfl (Or.inl rfl))
        (pss_one (ps_expr (pe_bm PySem.F.plainAttrs_dict PySem.F.slot_dict_update PySem.F.type_dict_update mt_dupd (pv 3) (pa_cons (pe_callTy (call_dictP rfl) (by rfl) T.dict boot_dict (pa_cons
          (pe_lc (own := [("kind", 8), ("node", 5), ("place", 9)]) (g := gTup K 3 (gCons (gName 8) (gCons (gName 5) (gCons (gName 9) gNil)))) rfl nd (pi_tup (pv 4)) (blkOk_by (N := ["web", "roots", "sharing", "known", "row", "node", "walker", "root", "kind", "place"]) (sc := defScope s_far_hindrance) (by decide +kernel))
          (fun _ _ _ _ _ => pg_tup rfl (pgs_cons (pg_name (i := 8) nd rfl (Or.inl rfl)) (pgs_cons (pg_name (i := 5) nd rfl (Or.inl rfl)) (pgs_cons (pg_name (i := 9) nd rfl (Or.inl rfl)) pgs_nil))))
          (fun _ _ _ _ _ => pts_one (pt_cmpR op_eq (pv 8) pe_str (nomark _)))
          (fun _ _ _ _ _ => pe_tup (pa_cons (pe_ix (r := rIxT K) ix_tup (pe_ix (r := rIxT K) ix_tup (pv 0) (pv 5) (fun _ _ => rfl)) (pv 9) (fun _ _ => rfl)) (pa_cons pe_bl pa_nil)))) pa_nil)) pa_nil)))))
      (pss_cons (ps_for PassesOwn.never rfl (pi_enumT (by rfl) T.enum (pa_cons (pv 2) pa_nil)) (pg_tup rfl (pgs_cons (pg_name (i := 5) nd rfl (Or.inl rfl)) (pgs_cons (pg_name (i := 6) nd rfl (Or.inl rfl)) pgs_nil)))
        (pss_one (ps_if (PW.pt (pw_and (pt_cmpR op_ne (pv 6) pe_int (nomark _)) (pw_and1 (pt_cmp (pc_dnotin hu1 (pv 5) (pv 3)) rfl)))) (pss_one (ps_ret (pe_tup (pa_cons pe_str (pa_cons (pv 5) pa_nil))))) pss_nil)))
      (pss_one (ps_ret pe_non)))), ?_⟩
    obtain ⟨rs, hW1, hW2, hW3⟩ := id hW
    have hpos := rok.three
    refine ⟨_, rfl, rt, rfl, ⟨_, SqT.of hR⟩, fun D1 hD1 => ?_⟩
    refine lc_tup (K := K) (a := rt) (xs := roots.map nV) (fun i H' => Same H H' ∧ ∃ ps : List Addr, H' D1 = some (.lst (ps.map V.ref)) ∧ PrK H' ps (roots.take i)) ⟨same_new hD1, [], upd_same, .nil⟩ (fun i H' _ hP => SqT.of (hP.1 _ _ hR)) (fun i x H' hx hP => ?_) (fun H1 hP => ?_)
    · obtain ⟨sm, ps, hL, hps⟩ := hP
      obtain ⟨r, hr0, rfl⟩ := map_get_inv hx
      refine ⟨rfl, _, rfl, (by show 2 ≤ sizeLine; decide), fun q hq => ?_⟩
      have hL' := same_new (o := .tup [nV r, .bl true]) hq _ _ hL
      have hpl : ps.length ≤ 1003 := by
        rw [Paired.length hps, List.length_take]
        omega
      refine ⟨_, hL', small1003 (by rw [List.length_map]; exact hpl), same_out (sm.trans (same_new hq)) hD1, ps ++ [q], by rw [upd_same, List.map_append]; rfl, ?_⟩
      have nq : q ≠ D1 := fun z => by
        rw [z, hL] at hq
        cases hq
      rw [take_get hr0]
      refine paired_snoc ?_ ((hps.ts (Tsame.new hq)).ts (.lst hL'))
      rw [upd_ne nq, upd_same]
    · obtain ⟨s1, ps, hL1, hps⟩ := hP
      rw [List.length_map, List.take_length] at hps
      refine ⟨D1, ps, _, rfl, SqL.of hL1, hps.dict, fun kd hkd => ?_⟩
      have em : mergeK [] (knK roots) = knK (putAll [] roots) := mergeK_all roots []
      rw [em]
      have s2 := s1.trans (same_new (o := .dK (knK (putAll [] roots))) hkd)
      have hkd0 : H kd = none := none_of s1 hkd
      have hk2 : (upd H1 kd (.dK (knK (putAll [] roots)))) kd = some (.dK (knK (putAll [] roots))) := upd_same
      generalize (upd H1 kd (.dK (knK (putAll [] roots)))) = H2 at s2 hk2 ⊢
      refine ⟨_, rfl, _, rfl, _, rfl, W, rt, Z, web, roots, Sh, rfl, hW.same s2, ok, hR.same s2, rok, hZ.same s2, sok.len, fun H3 er s3 her hrows => ?_⟩
      obtain ⟨as, hr1, hr2⟩ := hrows
      have hRl : (rowsOf web roots Sh).length = roots.length := rowsAux_len web Sh roots 0
      have s23 := s2.trans s3
      have hk3 := s3 _ _ hk2
      have nek : er ≠ kd := fun z => by
        rw [z, hk2] at her
        cases her
      have hal : as.length = (rowsOf web roots Sh).length := Paired.length hr2
      refine ⟨er, rfl, ⟨_, SqL.of hr1⟩, ?_⟩
      refine for_list (K := K) (a := er) (xs := as.map V.ref) (fun i σ H' => ∃ kn u, σ = [some (.ref W), some (.ref rt), some (.ref Z), some (.ref kd), u, none, none, none, none, none] ∧ (∀ b o, b ≠ kd → H3 b = some o → H' b = some o) ∧ H' kd = some (.dK (knK kn)) ∧
        (∀ x, x ∈ kn ↔ x ∈ roots ∨ x ∈ ((rowsOf web roots Sh).take i).flatMap (downs web)) ∧ kn.length ≤ 3 + 12 * i)
        ⟨putAll [] roots, _, rfl, fun b o _ e => e, hk3, fun x => by rw [mem_putAll]; simp, by have := putAll_len (l := roots) (k := []); rw [List.length_nil] at this; omega⟩
        (fun i σ H' _ hP => by
          obtain ⟨kn, u, _, kp, _⟩ := hP
          exact SqL.of (kp _ _ nek hr1)) (fun i x σ H' hx hP => ?_) (fun σ H' hP => ?_)
      · obtain ⟨kn, u, rfl, kp, hk, hkn, hkl⟩ := hP
        obtain ⟨ra, hra, rfl⟩ := map_get_inv hx
        obtain ⟨row, hrow, es, hes1, hes2⟩ : ∃ row, (rowsOf web roots Sh)[i]? = some row ∧ RowAt H3 ra row := by
          have hi : i < (rowsOf web roots Sh).length := by
            rw [← hal]
            exact (List.getElem?_eq_some_iff.mp hra).1
          have e := List.getElem?_eq_getElem hi
          obtain ⟨a', e1, e2⟩ := paired_get hr2 e
          rw [hra] at e1
          cases e1
          exact ⟨_, e, e2⟩
        have hil : i < roots.length := by
          rw [← hRl]
          exact (List.getElem?_eq_some_iff.mp hrow).1
        have hfact : (∀ e ∈ row, EvOk web e) ∧ row.length ≤ 12 := by
          have e := rowsAux_get web Sh roots 0 i (roots.getD i 0) (getD_get hil)
          have e' : (rowsOf web roots Sh)[i]? = _ := e
          rw [hrow] at e'
          have e2 := Option.some.inj e'
          have hrl := rok.lt (roots.getD i 0) (getD_mem hil)
          rw [e2]
          split
          · exact ⟨rowFrom_ev ok hrl, Nat.le_trans (rowFrom_len ok hrl) (total_le ok)⟩
          · exact ⟨nofun, Nat.zero_le _⟩
        obtain ⟨hev, hr12⟩ := hfact
        have hesl : es.length = row.length := Paired.length hes2
        have t3 : Tsame H3 H' := fun b xs e => kp _ _ (fun z => by rw [z, hk3] at e; cases e) e
        have sH : Same H H' := fun b o e => kp _ _ (ne_of_none e hkd0) (s23 _ _ e)
        refine ⟨_, rfl, .inr (.inr (.inl ⟨rfl, .inl ⟨_, hk⟩⟩)), _, rfl, ra, rfl, ⟨_, SqT.of (t3 _ _ hes1)⟩, fun D2 hD2 => ?_⟩
        refine lc_tup (K := K) (a := ra) (xs := es.map V.ref) (fun j H'' => Same H' H'' ∧ ∃ ps : List Addr, H'' D2 = some (.lst (ps.map V.ref)) ∧ PrK H'' ps (downs web (row.take j))) ⟨same_new hD2, [], upd_same, .nil⟩ (fun j H'' _ hP => SqT.of (hP.1 _ _ (t3 _ _ hes1))) (fun j x H'' hx hP => ?_) (fun H4 hP => ?_)
        · obtain ⟨sm, ps, hL, hps⟩ := hP
          obtain ⟨ea, hea, rfl⟩ := map_get_inv hx
          obtain ⟨e, he, hee⟩ : ∃ e, row[j]? = some e ∧ H3 ea = some (.tup (evV e)) := by
            have hj : j < row.length := by
              rw [← hesl]
              exact (List.getElem?_eq_some_iff.mp hea).1
            have e := List.getElem?_eq_getElem hj
            obtain ⟨a', e1, e2⟩ := paired_get hes2 e
            rw [hea] at e1
            cases e1
            exact ⟨_, e, e2⟩
          have eok := hev e (List.mem_of_getElem? he)
          obtain ⟨k0, x0, p0⟩ := e
          have hx0 : x0 < web.length := eok.lt
          have hdt := downs_take (web := web) he
          have hpl : ps.length ≤ 1003 := by
            rw [Paired.length hps]
            have := downs_len web (row.take j)
            rw [List.length_take] at this
            omega
          refine ⟨ea, _, rfl, SqT.of (sm _ _ (t3 _ _ hee)), rfl, _, _, rfl, _, _, rfl, _, _, rfl, rfl, rfl, ?_⟩
          refine ⟨_, rfl, rfl, _, rfl, ?_⟩
          rw [kS_down]
          by_cases c : k0 = .down
          · rw [decide_eq_true c]
            obtain ⟨t, ht⟩ := eok.ti c
            have ht' : tie web x0 p0 = some t := ht
            have hp : p0 < deg web x0 := tie_deg ht
            rw [if_pos c] at hdt
            have hdt' : downs web (row.take (j + 1)) = downs web (row.take j) ++ (tie web x0 p0).toList := hdt
            rw [ht'] at hdt'
            have sHH := sH.trans sm
            refine iteT ⟨_, rfl, _, rfl, W, _, _, .ref (rs.getD x0 0), rfl, rfl, SqT.of (sHH _ _ hW1), atI_nat (map_get V.ref (getD_get (by rw [hW2]; exact hx0))), _, rfl, rs.getD x0 0, _, _, oV (tie web x0 p0), rfl, rfl, SqT.of (sHH _ _ (hW3 x0 hx0)), atI_nat (map_get oV (getD_get hp)), (by show 2 ≤ sizeLine; decide), fun q hq => ?_⟩
            rw [ht']
            have hL' := same_new (o := .tup [oV (some t), .bl true]) hq _ _ hL
            refine ⟨_, hL', small1003 (by rw [List.length_map]; exact hpl), same_out (sm.trans (same_new hq)) hD2, ps ++ [q], by rw [upd_same, List.map_append]; rfl, ?_⟩
            have nq : q ≠ D2 := fun z => by
              rw [z, hL] at hq
              cases hq
            rw [hdt']
            refine paired_snoc ?_ ((hps.ts (Tsame.new hq)).ts (.lst hL'))
            rw [upd_ne nq, upd_same]
            rfl
          · rw [decide_eq_false c]
            rw [if_neg c, List.append_nil] at hdt
            refine iteF ⟨sm, ps, hL, ?_⟩
            rw [hdt]
            exact hps
        · obtain ⟨s4, ps, hL4, hps⟩ := hP
          rw [List.length_map, hesl, List.take_length] at hps
          refine ⟨D2, ps, _, rfl, SqL.of hL4, hps.dict, fun nd' hnd => ?_⟩
          have em : mergeK [] (knK (downs web row)) = knK (putAll [] (downs web row)) := mergeK_all _ []
          rw [em]
          have hk4 := s4 _ _ hk
          have nnd : kd ≠ nd' := ne_of_none hk4 hnd
          have hp1 := putAll_len (l := downs web row) (k := [])
          rw [List.length_nil] at hp1
          have hp2 := putAll_len (l := putAll [] (downs web row)) (k := kn)
          have hdl := downs_len web row
          have hk5 := same_new (o := .dK (knK (putAll [] (downs web row)))) hnd _ _ hk4
          refine ⟨kd, nd', knK kn, _, rfl, rfl, nnd, hk5, upd_same, by rw [knK_len, knK_len]; exact Nat.le_of_lt (small1003 (by omega)), putAll kn (putAll [] (downs web row)), _, rfl, fun b o hb e => ?_, ?_, fun x => ?_, by omega⟩
          · rw [upd_ne hb]
            exact same_new hnd _ _ (s4 _ _ (kp _ _ hb e))
          · rw [upd_same, mergeK_all]
          · rw [mem_putAll, mem_putAll, hkn x, flatMap_take _ hrow, List.mem_append]
            simp only [List.not_mem_nil, false_or, or_assoc]
      · obtain ⟨kn, u, rfl, kp, hk, hkn, hkl⟩ := hP
        have sH : Same H H' := fun b o e => kp _ _ (ne_of_none e hkd0) (s23 _ _ e)
        rw [List.length_map, hal, List.take_length] at hkn
        have hall : ∀ x, x ∈ kn ↔ x ∈ knownAll web roots Sh := fun x => by
          rw [hkn x]
          unfold knownAll
          rw [List.mem_append]
        refine ⟨_, rfl, Z, _, rfl, SqT.of (sH _ _ hZ), ?_⟩
        refine for_enumT (K := K) (a := Z) (xs := Sh.map nV) (fun i σ H'' => (∃ u1 v, σ = [some (.ref W), some (.ref rt), some (.ref Z), some (.ref kd), u, u1, v, none, none, none]) ∧ Same H' H'' ∧ ∀ x, x < i → Sh.getD x 0 ≠ 0 → x ∈ knownAll web roots Sh)
          ⟨⟨_, _, rfl⟩, Same.refl _, fun x h => absurd h (Nat.not_lt_zero _)⟩ (fun i σ H'' _ hP => SqT.of (hP.2.1 _ _ (sH _ _ hZ))) (fun i x T0 σ H'' hx hP hT0 => ?_) (fun σ H'' hP => ?_)
        · obtain ⟨⟨u1, v, rfl⟩, sm, hin⟩ := hP
          obtain ⟨z, hz0, rfl⟩ := map_get_inv hx
          have hil := (List.getElem?_eq_some_iff.mp hz0).1
          have ez : Sh.getD i 0 = z := (get_getD (d := 0) hz0).1
          have sm2 : Same H' (upd H'' T0 (.tup [.int (i : Nat), nV z])) := sm.trans (same_new hT0)
          refine ⟨T0, _, rfl, SqT.of upd_same, rfl, _, _, rfl, _, _, rfl, rfl, ?_⟩
          generalize (upd H'' T0 (.tup [.int (i : Nat), nV z])) = H5 at sm2 ⊢
          have next : (z ≠ 0 → i ∈ knownAll web roots Sh) → ∀ x, x < i + 1 → Sh.getD x 0 ≠ 0 → x ∈ knownAll web roots Sh := fun h x hx h0 => by
            by_cases c : x < i
            · exact hin x c h0
            · have : x = i := by omega
              rw [this] at h0 ⊢
              rw [ez] at h0
              exact h h0
          refine ⟨_, rfl, rfl, _, rfl, ?_⟩
          by_cases c : z = 0
          · rw [decide_eq_true (show nV z = V.int 0 from congrArg V.int (by omega))]
            exact iteF (iteF ⟨⟨_, _, rfl⟩, sm2, next fun h => absurd c h⟩)
          · rw [decide_eq_false (show ¬ nV z = V.int 0 from fun e => c (by have := V.int.inj e; omega))]
            refine iteT ⟨_, rfl, _, rfl, kd, _, rfl, DGet.k (k := Sum.inl (i : Int)) (sm2 _ _ hk), _, rfl, ?_⟩
            rw [valV_kn]
            by_cases d : i ∈ kn
            · rw [if_pos d]
              exact iteF ⟨⟨_, _, rfl⟩, sm2, next fun _ => (hall i).mp d⟩
            · rw [if_neg d]
              refine iteT ⟨_, rfl, (by show 2 ≤ sizeLine; decide), fun q hq => ?_⟩
              refine k1' ?_ _ q _ _ ((sH.trans sm2).trans (same_new hq)) upd_same
              cases e : farH (knownAll web roots Sh) Sh 0 with
              | true => rfl
              | false =>
                have := (farH_iff (knownAll web roots Sh) Sh 0).mp e i hil (by rw [ez]; exact c)
                rw [Nat.zero_add] at this
                exact absurd ((hall i).mpr this) d
        · obtain ⟨⟨u1, v, rfl⟩, sm, hin⟩ := hP
          refine k0 ((farH_iff (knownAll web roots Sh) Sh 0).mpr fun x hx h0 => ?_) _ (sH.trans sm)
          rw [Nat.zero_add]
          exact hin x (by rw [List.length_map]; exact hx) h0
end
end TB

set_option maxRecDepth 100000
set_option maxHeartbeats 4000000
/-! hindered and what calls it. -/
namespace TB
open PySem PySem.Spec PyProof.Rows L2
structure At3 (H : Hp) (W rt Z : Addr) (web : Web) (roots S : List Nat) : Prop where
  wat : WebAt H W web
  ok : WebOk web
  nr : NumsAt H rt roots
  rok : RootsOk web roots
  nz : NumsAt H Z S
  sok : ShOk web roots S
theorem At3.same {H H' : Hp} {W rt Z : Addr} {web : Web} {roots S : List Nat} (h : At3 H W rt Z web roots S) (s : Same H H') : At3 H' W rt Z web roots S := ⟨h.wat.same s, h.ok, h.nr.same s, h.rok, h.nz.same s, h.sok⟩
theorem rows_ev {web : Web} (W : WebOk web) {roots S : List Nat} (O : RootsOk web roots) : ∀ w, ∀ e ∈ rw_ (rowsOf web roots S) w, EvOk web e := by
  intro w e he
  by_cases hw : w < roots.length
  · have h := rowsAux_get web S roots 0 w (roots.getD w 0) (getD_get hw)
    have h1 : rw_ (rowsOf web roots S) w = if S.getD (roots.getD w 0) 0 = 0 + w + 1 then rowFrom web S (roots.getD w 0) else [] := (get_getD (d := []) h).1
    rw [h1] at he
    split at he
    · exact rowFrom_ev W (O.lt _ (getD_mem hw)) e he
    · cases he
  · have hl : (rowsOf web roots S).length = roots.length := rowsAux_len web S roots 0
    unfold rw_ at he
    rw [List.getD_eq_getElem?_getD, List.getElem?_eq_none (by omega)] at he
    cases he
theorem d0_len (roots : List Nat) : (d0 roots).length = roots.length := by
  unfold d0
  rw [List.length_map]
theorem init_ok {C : Addr} {H : Hp} {W rt Z : Addr} {web : Web} {roots S : List Nat} {Q : VK} {E : XK} (h : At3 H W rt Z web roots S) {x dx : Addr} (hx : H x = none) (hdx : H dx = none) (hne : dx ≠ x)
    (k : ∀ H' er dn mk, Same H H' → H dn = none → H mk = none → H' x ≠ none → DoAt C H' x W Z er dn mk (rowsOf web roots S) (d0 roots) (ownRoots S roots 0) → Wov H' W Z web S (rowsOf web roots S) → Q .non H') :
    spInit C [.ref x, .ref W, .ref rt, .ref Z] (upd (upd H dx (.own x)) x (.ins C dx [])) Q E := by
  have hx1 : upd H dx (.own x) x = none := by
    rw [upd_ne (Ne.symm hne)]
    exact hx
  have s2 : Same H (upd (upd H dx (.own x)) x (.ins C dx [])) := (same_new hdx).trans (same_new hx1)
  have h2 := h.same s2
  refine ⟨x, W, rt, Z, dx, web, roots, S, rfl, upd_same, h2.wat, h2.ok, h2.nr, h2.rok, h2.nz, h2.sok.len, fun H' er dn mk kp hdn hmk D => ?_⟩
  have s3 : Same H H' := fun b o e => kp b o (ne_of_none e hx) (s2 _ _ e)
  have h3 := h.same s3
  obtain ⟨dx', hi⟩ := id D.ins
  exact k H' er dn mk s3 (none_of s2 hdn) (none_of s2 hmk) (by rw [hi]; nofun) D ⟨h3.wat, h3.ok, h3.nz, h3.sok.len, rows_ev h3.ok h3.rok⟩
theorem go_ok {C : Addr} {H H1 : Hp} {x W rt Z er dn mk : Addr} {web : Web} {roots S : List Nat} {Q : VK} {E : XK} (h : At3 H W rt Z web roots S) (s1 : Same H H1) (hdn : H dn = none) (hmk : H mk = none)
    (D : DoAt C H1 x W Z er dn mk (rowsOf web roots S) (d0 roots) (ownRoots S roots 0)) (V : Wov H1 W Z web S (rowsOf web roots S))
    (k : ∀ H' q, Same H H' → DoAt C H' x W Z er dn mk (rowsOf web roots S) (goAll web roots S).2.1 (goAll web roots S).2.2 → H' q = some (.tup ((order web roots S).map nV)) → Q (.ref q) H') :
    spGoOn C [.ref x] H1 Q E := by
  have hl : (rowsOf web roots S).length = roots.length := rowsAux_len web S roots 0
  have h3 := h.rok.three
  have hf := fuel_total h.ok h.rok (S := S)
  have ho := (ownRoots_sub S roots 0).1
  refine ⟨x, W, Z, er, dn, mk, web, S, rowsOf web roots S, d0 roots, ownRoots S roots 0, fuelOf (rowsOf web roots S), rfl, D, V, by rw [hl, d0_len], by omega, ?_, by omega, fun H' q kp D' hq => ?_⟩
  · rw [remain_zero _ _ _ fun w => d0_getD roots w]
    exact Nat.le_refl _
  · rw [hl] at D' hq
    exact k H' q (fun b o e => kp b o (ne_of_none e hdn) (ne_of_none e hmk) (s1 _ _ e)) D' hq
theorem ring_ok {C : Addr} {H : Hp} {x W rt Z er dn mk : Addr} {web : Web} {roots S : List Nat} {Q : VK} {E : XK} (h : At3 H W rt Z web roots S) (e1 : rootH S roots 0 = false) (e3 : farH (knownAll web roots S) S 0 = false)
    (D : DoAt C H x W Z er dn mk (rowsOf web roots S) (goAll web roots S).2.1 (goAll web roots S).2.2)
    (k0 : leftB (rowsOf web roots S) (goAll web roots S).2.1 roots.length = false → ∀ H', Same H H' → Q .non H') (k1 : leftB (rowsOf web roots S) (goAll web roots S).2.1 roots.length = true → ∀ H' q, Same H H' → Q (.ref q) H') :
    spRing C [.ref x] H Q E := by
  have hl : (rowsOf web roots S).length = roots.length := rowsAux_len web S roots 0
  have h3 := h.rok.three
  have own : RootsOwn roots S := fun w hw => by
    have := (rootH_iff S roots 0).mp e1 w hw
    omega
  have hv := goRun_valid (web := web) (S := S) (fuelOf (rowsOf web roots S)) (d0_len roots) (marks0 (web := web) own)
  have hst := goRun_stuck (web := web) (S := S) (rows := rowsOf web roots S) roots.length hl (fuelOf (rowsOf web roots S)) (mk := ownRoots S roots 0) (d0_len roots) (by rw [remain_zero _ _ _ fun w => d0_getD roots w]; exact Nat.le_refl _)
  have hp := ring_pre h.ok h.rok h.sok own e3 hv.2.2.1 hv.2.2.2 hst
  refine ⟨x, W, Z, er, dn, mk, web, S, rowsOf web roots S, _, _, rfl, D, ⟨h.wat, h.ok, h.nz, h.sok.len, rows_ev h.ok h.rok⟩, ?_, by omega, fun w hw => ?_, by rw [hl]; exact k0, by rw [hl]; exact k1⟩
  · rw [hl]
    exact hv.2.2.1
  · obtain ⟨q1, q2, q3⟩ := hw
    obtain ⟨t, v, p1, p2, p3, p4, p5⟩ := hp (w - 1) (by omega) q3
    exact ⟨t, p1, p2, by omega, by omega, by rw [p3]; exact p5⟩
theorem tnil {σ : List (Option V)} {H : Hp} {Q : List V → Hp → Prop} (h : Q [] H) : tNil σ H Q := h
def spHindered : Sp := fun vs H Q _ => ∃ (W rt Z : Addr) (web : Web) (roots S : List Nat), vs = [.ref W, .ref rt, .ref Z] ∧ At3 H W rt Z web roots S ∧ HindOut H Q (hind web roots S)
def spOrder : Sp := fun vs H Q _ => ∃ (W rt Z : Addr) (web : Web) (roots S : List Nat), vs = [.ref W, .ref rt, .ref Z] ∧ At3 H W rt Z web roots S ∧ ∀ H' q, Same H H' → H' q = some (.tup ((order web roots S).map nV)) → Q (.ref q) H'
def spComes : Sp := fun vs H Q _ => ∃ (W rt Z : Addr) (web : Web) (roots S : List Nat), vs = [.ref W, .ref rt, .ref Z] ∧ At3 H W rt Z web roots S ∧ ∀ H', Same H H' → Q (.bl (!hind web roots S)) H'
def spWhich : Sp := fun vs H Q _ => ∃ (W rt Z : Addr) (web : Web) (roots S : List Nat), vs = [.ref W, .ref rt, .ref Z] ∧ At3 H W rt Z web roots S ∧
  (hind web roots S = true → ∀ H' q v, Same H H' → H' q = some (.tup [.str "hindrance", v]) → Q (.ref q) H') ∧
  (hind web roots S = false → ∀ H' q o, Same H H' → H' o = some (.tup ((order web roots S).map nV)) → H' q = some (.tup [.str "order", .ref o]) → Q (.ref q) H')
def spOrderTo : Sp := fun vs H Q _ => ∃ (W rt Z : Addr) (web : Web) (roots S : List Nat), vs = [.ref W, .ref rt, .ref Z] ∧ At3 H W rt Z web roots S ∧
  (hind web roots S = true → ∀ H', Same H H' → Q .non H') ∧ (hind web roots S = false → ∀ H' o, Same H H' → H' o = some (.tup ((order web roots S).map nV)) → Q (.ref o) H')
section
variable {P : Program} {w : World} {K : PySem.W.Frag} {mg : Str → Option Value} {base : Heap} {C : Addr}
theorem sc_hindered : FnScope ["web", "roots", "sharing", "found", "doing", "ring"] ["web", "roots", "sharing"] (defScope s_hindered) := ⟨rfl, rfl, rfl, by decide +kernel, rfl, by decide +kernel, by decide +kernel⟩
theorem has_hindered (T : Tx mg) (D : Dx K mg C) (S : Stands K mg "hindered" s_hindered) (h1 : Has P w K mg base 1 "root_hindrance" ["roots", "sharing"] spRootH) (h2 : Has P w K mg base 1 "tie_hindrance" ["web", "sharing"] spTieH) (h3 : Has P w K mg base 3 "far_hindrance" ["web", "roots", "sharing"] spFarH)
    (h4 : HasI P w K mg base C 3 ["self", "web", "roots", "sharing"] (spInit C)) (h5 : HasM P w K mg base C 4 "go_on" ["self"] (spGoOn C)) (h6 : HasM P w K mg base C 3 "ring" ["self"] (spRing C)) : Has P w K mg base 5 "hindered" ["web", "roots", "sharing"] spHindered := by
  obtain ⟨f1, fd1, g1, k1, b1, G1⟩ := h1
  obtain ⟨f2, fd2, g2, k2, b2, G2⟩ := h2
  obtain ⟨f3, fd3, g3, k3, b3, G3⟩ := h3
  obtain ⟨f4, fd4, m4, b4, G4⟩ := h4
  obtain ⟨f5, fd5, m5, b5, G5⟩ := h5
  obtain ⟨f6, fd6, m6, b6, G6⟩ := h6
  refine S.has sc_hindered (fun _ _ _ _ _ _ us hl => match us, hl with | [_, _, _], _ => rfl) (fun vs H Q E h => ?_) (fun f cdv A outer s H vs Q E hr h => ?_)
  · obtain ⟨W, rt, Z, web, roots, Sh, rfl, _⟩ := h
    rfl
  · obtain ⟨W, rt, Z, web, roots, Sh, rfl, A3, ko⟩ := h
    have nd := sc_hindered.nd
    have hr1 : Room 1 _ := hr.mono (by decide)
    have hr3 : Room 3 _ := hr.mono (by decide)
    refine ⟨_, pss_cons (ps_set (i := 3) nd rfl (Or.inl rfl) (pe_orT (pe_call G1 hr1 (by rfl) g1 k1 b1 .nil pass0 (pa_cons (pv 1) (pa_cons (pv 2) pa_nil))) (pe_orT (pe_call G2 hr1 (by rfl) g2 k2 b2 .nil pass0 (pa_cons (pv 0) (pa_cons (pv 2) pa_nil)))
        (pe_one (pe_call G3 hr3 (by rfl) g3 k3 b3 .nil pass0 (pa_cons (pv 0) (pa_cons (pv 1) (pa_cons (pv 2) pa_nil))))))))
      (pss_cons (ps_if (pt_cmpR op_notN (pv 3) pe_non (nomark _)) (pss_one (ps_ret (pv 3))) pss_nil)
      (pss_cons (ps_set (i := 4) nd rfl (Or.inl rfl) (pe_make m4 G4 hr (by rfl) D.mgC b4 .nil pass0 (pa_cons (pv 0) (pa_cons (pv 1) (pa_cons (pv 2) pa_nil)))))
      (pss_cons (ps_expr (pe_meth0 (pv 4) D.cl m5 G5 hr b5 .nil pass0))
      (pss_cons (ps_set (i := 5) nd rfl (Or.inl rfl) (pe_meth0 (pv 4) D.cl m6 G6 hr3 b6 .nil pass0))
      (pss_one (ps_ret (pe_ifExp (pt_cmpR op_isN (pv 5) pe_non (nomark _)) pe_non (pe_tup (pa_cons pe_str (pa_cons (pv 5) pa_nil)))))))))), ?_⟩
    have hroots : ∀ r ∈ roots, r < Sh.length := fun r hr => by
      rw [A3.sok.len]
      exact A3.rok.lt r hr
    refine ⟨_, rfl, _, rfl, rt, Z, roots, Sh, rfl, A3.nr, A3.nz, hroots, fun e1 H1 s1 => ?_, fun e1 H1 q x xs s1 hq => ?_⟩
    · refine ⟨false, rfl, iteF ?_⟩
      have A1 := A3.same s1
      refine ⟨_, rfl, _, rfl, W, Z, web, Sh, rfl, A1.wat, A1.ok, A1.nz, A1.sok.len, fun e2 H2 s2 => ?_, fun e2 H2 q x xs s2 hq => ?_⟩
      · refine ⟨false, rfl, iteF ?_⟩
        have A2 := A1.same s2
        have s12 := s1.trans s2
        refine ⟨_, rfl, _, rfl, _, rfl, W, rt, Z, web, roots, Sh, rfl, A2.wat, A2.ok, A2.nr, A2.rok, A2.nz, A2.sok, fun e3 H3 s3 => ?_, fun e3 H3 q x xs s3 hq => ?_⟩
        · have s123 := s12.trans s3
          have A4 := A2.same s3
          refine ⟨_, rfl, rfl, _, rfl, iteF ?_⟩
          refine ⟨_, rfl, _, rfl, _, rfl, fun p dx hp hdx hne => init_ok A4 hp hdx hne fun H5 er dn mk s5 hdn hmk hpn D5 V5 => ⟨rfl, ?_⟩⟩
          obtain ⟨dx5, hi5⟩ := id D5.ins
          refine ⟨_, rfl, p, dx5, _, rfl, hi5, dof_n5 _ _ _ _ _, ?_⟩
          refine tnil ?_
          refine go_ok A4 s5 hdn hmk D5 V5 fun H6 q6 s6 D6 hq6 => ?_
          obtain ⟨dx6, hi6⟩ := id D6.ins
          have A6 := A4.same s6
          have eh : hind web roots Sh = leftB (rowsOf web roots Sh) (goAll web roots Sh).2.1 roots.length := by
            unfold hind
            rw [e1, e2, e3]
            rfl
          have s16 := s123.trans s6
          refine ⟨_, rfl, p, dx6, _, rfl, hi6, dof_n6 _ _ _ _ _, ?_⟩
          refine tnil ?_
          refine ring_ok A6 e1 e3 D6 (fun e H7 s7 => ?_) (fun e H7 q7 s7 => ?_)
          · exact ⟨_, rfl, rfl, _, rfl, iteT (ko.1 (eh.trans e) _ (s16.trans s7))⟩
          · exact ⟨_, rfl, rfl, _, rfl, iteF ⟨_, rfl, (by show 2 ≤ sizeLine; decide), fun q8 hq8 => ko.2 (eh.trans e) _ q8 _ _ ((s16.trans s7).trans (same_new hq8)) upd_same⟩⟩
        · refine ⟨_, rfl, rfl, _, rfl, iteT ⟨_, rfl, ko.2 ?_ _ q x xs (s12.trans s3) hq⟩⟩
          unfold hind
          rw [e3]
          simp
      · refine ⟨true, .inr (.inl ⟨_, SqT.of hq, rfl⟩), iteT ⟨_, rfl, rfl, _, rfl, iteT ⟨_, rfl, ko.2 ?_ _ q x xs (s1.trans s2) hq⟩⟩⟩
        unfold hind
        rw [e2]
        simp
    · refine ⟨true, .inr (.inl ⟨_, SqT.of hq, rfl⟩), iteT ⟨_, rfl, rfl, _, rfl, iteT ⟨_, rfl, ko.2 ?_ _ q x xs s1 hq⟩⟩⟩
      unfold hind
      rw [e1]
      rfl
theorem sc_hindrance : FnScope ["web", "roots", "sharing"] ["web", "roots", "sharing"] (defScope s_hindrance) := ⟨rfl, rfl, rfl, by decide +kernel, rfl, by decide +kernel, by decide +kernel⟩
theorem has_hindrance (T : Tx mg) (S : Stands K mg "hindrance" s_hindrance) (h1 : Has P w K mg base 6 "need_sharing" ["web", "roots", "thing"] spNeedSharing) (h2 : Has P w K mg base 5 "hindered" ["web", "roots", "sharing"] spHindered) : Has P w K mg base 7 "hindrance" ["web", "roots", "sharing"] spHindered := by
  obtain ⟨f1, fd1, g1, k1, b1, G1⟩ := h1
  obtain ⟨f2, fd2, g2, k2, b2, G2⟩ := h2
  refine S.has sc_hindrance (fun _ _ _ _ _ _ us hl => match us, hl with | [_, _, _], _ => rfl) (fun vs H Q E h => ?_) (fun f cdv A outer s H vs Q E hr h => ?_)
  · obtain ⟨W, rt, Z, web, roots, Sh, rfl, _⟩ := h
    rfl
  · obtain ⟨W, rt, Z, web, roots, Sh, rfl, A3, ko⟩ := h
    have hr5 : Room 5 _ := hr.mono (by decide)
    refine ⟨_, pss_cons (ps_expr (pe_call G1 hr (by rfl) g1 k1 b1 .nil pass0 (pa_cons (pv 0) (pa_cons (pv 1) (pa_cons (pv 2) pa_nil)))))
      (pss_one (ps_ret (pe_call G2 hr5 (by rfl) g2 k2 b2 .nil pass0 (pa_cons (pv 0) (pa_cons (pv 1) (pa_cons (pv 2) pa_nil)))))), ?_⟩
    refine ⟨_, rfl, _, rfl, _, rfl, W, rt, Z, web, roots, Sh, rfl, A3.wat, A3.ok, A3.nr, A3.rok, A3.nz, A3.sok, fun H1 s1 => ?_⟩
    exact ⟨_, rfl, _, rfl, _, rfl, W, rt, Z, web, roots, Sh, rfl, A3.same s1, ko.same s1⟩
theorem sc_least_order : FnScope ["web", "roots", "sharing"] ["web", "roots", "sharing"] (defScope s_least_order) := ⟨rfl, rfl, rfl, by decide +kernel, rfl, by decide +kernel, by decide +kernel⟩
theorem has_least_order (T : Tx mg) (D : Dx K mg C) (S : Stands K mg "least_order" s_least_order) (h4 : HasI P w K mg base C 3 ["self", "web", "roots", "sharing"] (spInit C)) (h5 : HasM P w K mg base C 4 "go_on" ["self"] (spGoOn C)) : Has P w K mg base 5 "least_order" ["web", "roots", "sharing"] spOrder := by
  obtain ⟨f4, fd4, m4, b4, G4⟩ := h4
  obtain ⟨f5, fd5, m5, b5, G5⟩ := h5
  refine S.has sc_least_order (fun _ _ _ _ _ _ us hl => match us, hl with | [_, _, _], _ => rfl) (fun vs H Q E h => ?_) (fun f cdv A outer s H vs Q E hr h => ?_)
  · obtain ⟨W, rt, Z, web, roots, Sh, rfl, _⟩ := h
    rfl
  · obtain ⟨W, rt, Z, web, roots, Sh, rfl, A3, ko⟩ := h
    refine ⟨_, pss_one (ps_ret (pe_meth0 (pe_make m4 G4 hr (by rfl) D.mgC b4 .nil pass0 (pa_cons (pv 0) (pa_cons (pv 1) (pa_cons (pv 2) pa_nil)))) D.cl m5 G5 hr b5 .nil pass0)), ?_⟩
    refine ⟨_, rfl, _, rfl, _, rfl, fun p dx hp hdx hne => init_ok A3 hp hdx hne fun H5 er dn mk s5 hdn hmk hpn D5 V5 => ⟨rfl, ?_⟩⟩
    obtain ⟨dx5, hi5⟩ := id D5.ins
    refine ⟨p, dx5, _, rfl, hi5, dof_n5 _ _ _ _ _, ?_⟩
    show spGoOn C [V.ref p] H5 _ E0
    exact go_ok A3 s5 hdn hmk D5 V5 fun H6 q6 s6 D6 hq6 => ko H6 q6 s6 hq6
theorem sc_comes : FnScope ["web", "roots", "sharing"] ["web", "roots", "sharing"] (defScope s_comes) := ⟨rfl, rfl, rfl, by decide +kernel, rfl, by decide +kernel, by decide +kernel⟩
theorem has_comes (T : Tx mg) (S : Stands K mg "comes" s_comes) (h1 : Has P w K mg base 6 "need_sharing" ["web", "roots", "thing"] spNeedSharing) (h2 : Has P w K mg base 5 "hindered" ["web", "roots", "sharing"] spHindered) : Has P w K mg base 7 "comes" ["web", "roots", "sharing"] spComes := by
  obtain ⟨f1, fd1, g1, k1, b1, G1⟩ := h1
  obtain ⟨f2, fd2, g2, k2, b2, G2⟩ := h2
  refine S.has sc_comes (fun _ _ _ _ _ _ us hl => match us, hl with | [_, _, _], _ => rfl) (fun vs H Q E h => ?_) (fun f cdv A outer s H vs Q E hr h => ?_)
  · obtain ⟨W, rt, Z, web, roots, Sh, rfl, _⟩ := h
    rfl
  · obtain ⟨W, rt, Z, web, roots, Sh, rfl, A3, ko⟩ := h
    have hr5 : Room 5 _ := hr.mono (by decide)
    refine ⟨_, pss_cons (ps_expr (pe_call G1 hr (by rfl) g1 k1 b1 .nil pass0 (pa_cons (pv 0) (pa_cons (pv 1) (pa_cons (pv 2) pa_nil)))))
      (pss_one (ps_ret (pe_cmpR op_isN (pe_call G2 hr5 (by rfl) g2 k2 b2 .nil pass0 (pa_cons (pv 0) (pa_cons (pv 1) (pa_cons (pv 2) pa_nil)))) pe_non (nomark _)))), ?_⟩
    refine ⟨_, rfl, _, rfl, _, rfl, W, rt, Z, web, roots, Sh, rfl, A3.wat, A3.ok, A3.nr, A3.rok, A3.nz, A3.sok, fun H1 s1 => ?_⟩
    refine ⟨_, rfl, _, rfl, _, rfl, W, rt, Z, web, roots, Sh, rfl, A3.same s1, fun e H2 s2 => ⟨rfl, ?_⟩, fun e H2 q x xs s2 hq => ⟨rfl, ?_⟩⟩
    · have := ko H2 (s1.trans s2)
      rw [e] at this
      exact this
    · have := ko H2 (s1.trans s2)
      rw [e] at this
      exact this
theorem sc_which_of : FnScope ["web", "roots", "sharing", "what"] ["web", "roots", "sharing"] (defScope s_which_of) := ⟨rfl, rfl, rfl, by decide +kernel, rfl, by decide +kernel, by decide +kernel⟩
theorem has_which_of (T : Tx mg) (S : Stands K mg "which_of" s_which_of) (h1 : Has P w K mg base 6 "need_sharing" ["web", "roots", "thing"] spNeedSharing) (h2 : Has P w K mg base 5 "hindered" ["web", "roots", "sharing"] spHindered) (h3 : Has P w K mg base 5 "least_order" ["web", "roots", "sharing"] spOrder) :
    Has P w K mg base 7 "which_of" ["web", "roots", "sharing"] spWhich := by
  obtain ⟨f1, fd1, g1, k1, b1, G1⟩ := h1
  obtain ⟨f2, fd2, g2, k2, b2, G2⟩ := h2
  obtain ⟨f3, fd3, g3, k3, b3, G3⟩ := h3
  refine S.has sc_which_of (fun _ _ _ _ _ _ us hl => match us, hl with | [_, _, _], _ => rfl) (fun vs H Q E h => ?_) (fun f cdv A outer s H vs Q E hr h => ?_)
  · obtain ⟨W, rt, Z, web, roots, Sh, rfl, _⟩ := h
    rfl
  · obtain ⟨W, rt, Z, web, roots, Sh, rfl, A3, ko1, ko0⟩ := h
    have nd := sc_which_of.nd
    have hr5 : Room 5 _ := hr.mono (by decide)
    refine ⟨_, pss_cons (ps_expr (pe_call G1 hr (by rfl) g1 k1 b1 .nil pass0 (pa_cons (pv 0) (pa_cons (pv 1) (pa_cons (pv 2) pa_nil)))))
      (pss_cons (ps_set (i := 3) nd rfl (Or.inl rfl) (pe_call G2 hr5 (by rfl) g2 k2 b2 .nil pass0 (pa_cons (pv 0) (pa_cons (pv 1) (pa_cons (pv 2) pa_nil)))))
      (pss_one (ps_ret (pe_ifExp (pt_cmpR op_notN (pv 3) pe_non (nomark _)) (pe_tup (pa_cons pe_str (pa_cons (pv 3) pa_nil))) (pe_tup (pa_cons pe_str (pa_cons (pe_call G3 hr5 (by rfl) g3 k3 b3 .nil pass0 (pa_cons (pv 0) (pa_cons (pv 1) (pa_cons (pv 2) pa_nil)))) pa_nil))))))), ?_⟩
    refine ⟨_, rfl, _, rfl, _, rfl, W, rt, Z, web, roots, Sh, rfl, A3.wat, A3.ok, A3.nr, A3.rok, A3.nz, A3.sok, fun H1 s1 => ?_⟩
    refine ⟨_, rfl, _, rfl, _, rfl, W, rt, Z, web, roots, Sh, rfl, A3.same s1, fun e H2 s2 => ⟨_, rfl, rfl, _, rfl, iteF ?_⟩, fun e H2 q x xs s2 hq => ⟨_, rfl, rfl, _, rfl, iteT ⟨_, rfl, (by show 2 ≤ sizeLine; decide), fun q3 hq3 => ?_⟩⟩⟩
    · refine ⟨_, rfl, _, rfl, _, rfl, W, rt, Z, web, roots, Sh, rfl, (A3.same s1).same s2, fun H3 o s3 ho => ⟨(by show 2 ≤ sizeLine; decide), fun q3 hq3 => ?_⟩⟩
      exact ko0 e _ q3 o (((s1.trans s2).trans s3).trans (same_new hq3)) (same_new hq3 _ _ ho) upd_same
    · exact ko1 e _ q3 _ ((s1.trans s2).trans (same_new hq3)) upd_same
theorem sc_order_to : FnScope ["web", "roots", "sharing", "word", "found"] ["web", "roots", "sharing"] (defScope s_order_to) := ⟨rfl, rfl, rfl, by decide +kernel, rfl, by decide +kernel, by decide +kernel⟩
theorem has_order_to (T : Tx mg) (S : Stands K mg "order_to" s_order_to) (h1 : Has P w K mg base 7 "which_of" ["web", "roots", "sharing"] spWhich) : Has P w K mg base 8 "order_to" ["web", "roots", "sharing"] spOrderTo := by
  obtain ⟨f1, fd1, g1, k1, b1, G1⟩ := h1
  refine S.has sc_order_to (fun _ _ _ _ _ _ us hl => match us, hl with | [_, _, _], _ => rfl) (fun vs H Q E h => ?_) (fun f cdv A outer s H vs Q E hr h => ?_)
  · obtain ⟨W, rt, Z, web, roots, Sh, rfl, _⟩ := h
    rfl
  · obtain ⟨W, rt, Z, web, roots, Sh, rfl, A3, ko1, ko0⟩ := h
    have nd := sc_order_to.nd
    refine ⟨_, pss_cons (ps_asg (pe_call G1 hr (by rfl) g1 k1 b1 .nil pass0 (pa_cons (pv 0) (pa_cons (pv 1) (pa_cons (pv 2) pa_nil)))) (pg_tup rfl (pgs_cons (pg_name (i := 3) nd rfl (Or.inl rfl)) (pgs_cons (pg_name (i := 4) nd rfl (Or.inl rfl)) pgs_nil))))
      (pss_one (ps_ret (pe_ifExp (pt_cmpR op_eq (pv 3) pe_str (nomark _)) (pv 4) pe_non))), ?_⟩
    refine ⟨_, rfl, _, rfl, _, rfl, W, rt, Z, web, roots, Sh, rfl, A3, fun e H1 q v s1 hq => ?_, fun e H1 q o s1 ho hq => ?_⟩
    · exact ⟨q, _, rfl, SqT.of hq, rfl, _, _, rfl, _, _, rfl, rfl, _, rfl, rfl, _, rfl, iteF (ko1 e _ s1)⟩
    · exact ⟨q, _, rfl, SqT.of hq, rfl, _, _, rfl, _, _, rfl, rfl, _, rfl, rfl, _, rfl, iteT ⟨_, rfl, ko0 e _ o s1 ho⟩⟩
end
end TB

set_option maxRecDepth 100000
set_option maxHeartbeats 4000000
/-! The law's draws. -/
namespace TB
open PySem PySem.Spec PyProof.Rows L2
theorem ints_data {K : PySem.W.Frag} {H : Hp} : ∀ ns : List Int, DpAll K H (ns.map V.int) (ns.map PyData.int) ∧ PyData.canLayAll0 (ns.map PyData.int) = true ∧ PyData.depthAll (ns.map PyData.int) = 0
  | [] => ⟨.nil, by simp [PyData.canLayAll0], by simp [PyData.depthAll]⟩
  | n :: ns => by
    obtain ⟨a, b, c⟩ := ints_data (K := K) (H := H) ns
    refine ⟨.cons (.int n) a, ?_, ?_⟩
    · rw [List.map_cons]
      simp only [PyData.canLayAll0, PyData.canLay0, b, Bool.and_self]
    · rw [List.map_cons]
      simp only [PyData.depthAll, PyData.depth, c, Nat.max_self]
theorem Dat.ints {K : PySem.W.Frag} {H : Hp} (ns : List Int) : Dat K H (ns.map V.int) := by
  obtain ⟨a, b, c⟩ := ints_data (K := K) (H := H) ns
  exact ⟨_, a, b, by omega⟩
theorem SqL.keep {K : PySem.W.Frag} {H H' : Hp} {a : Addr} {xs : List V} (h : SqL K H a xs) (k : ∀ o, H a = some o → H' a = some o) : SqL K H' a xs := by
  rcases h with (h | ⟨o, h⟩) | h
  · exact .inl (.inl (k _ h))
  · exact .inl (.inr ⟨o, k _ h⟩)
  · exact .inr h
/-- the tape: two whole numbers -/
def TapeAt (H : Hp) (tp : Addr) (a : Nat) : Prop := ∃ b : Int, H tp = some (.lst [nV a, .int b])
def KeptBut (p : Addr) (H H' : Hp) : Prop := ∀ b o, b ≠ p → H b = some o → H' b = some o
theorem KeptBut.trans {p : Addr} {H H1 H2 : Hp} (a : KeptBut p H H1) (b : KeptBut p H1 H2) : KeptBut p H H2 := fun x o hx e => b x o hx (a x o hx e)
theorem Same.but {H H' : Hp} (s : Same H H') (p : Addr) : KeptBut p H H' := fun b o _ e => s b o e
/-- the script, whatever becomes of the tape -/
def Scr (K : PySem.W.Frag) (H : Hp) (tp sc : Addr) (ns : List Int) : Prop := ∀ H', KeptBut tp H H' → SqL K H' sc (ns.map V.int)
theorem Scr.but {K : PySem.W.Frag} {H H1 : Hp} {tp sc : Addr} {ns : List Int} (h : Scr K H tp sc ns) (k : KeptBut tp H H1) : Scr K H1 tp sc ns := fun H' k' => h H' (k.trans k')
def spDraw (K : PySem.W.Frag) : Sp := fun vs H Q _ => ∃ (sc tp : Addr) (ns : List Int) (a many : Nat), vs = [.ref sc, .ref tp, nV many] ∧ Scr K H tp sc ns ∧ TapeAt H tp a ∧ a ≤ 1000000 ∧ 1 ≤ many ∧ many ≤ 1000 ∧
  ∀ H' a' r, KeptBut tp H H' → TapeAt H' tp a' → a' ≤ a + 1 → r < many → Q (nV r) H'
section
variable {P : Program} {w : World} {K : PySem.W.Frag} {mg : Str → Option Value} {base : Heap}
theorem sc_law_draw : FnScope ["_law_script", "_law_tape", "_law_many", "_law_cell", "_law_number", "_law_digit"] ["_law_script", "_law_tape", "_law_many"] (defScope s_law_draw) := ⟨rfl, rfl, rfl, by decide +kernel, rfl, by decide +kernel, by decide +kernel⟩
theorem has_law_draw (T : Tx mg) (S : Stands K mg "_law_draw" s_law_draw) : Has P w K mg base 1 "_law_draw" ["_law_script", "_law_tape", "_law_many"] (spDraw K) := by
  refine S.has sc_law_draw (fun _ _ _ _ _ _ us hl => match us, hl with | [_, _, _], _ => rfl) (fun vs H Q E h => ?_) (fun f cdv A outer s H vs Q E hr h => ?_)
  · obtain ⟨sc, tp, ns, a, many, rfl, _⟩ := h
    rfl
  · obtain ⟨sc, tp, ns, a, many, rfl, hS, ⟨b, hT⟩, ha, hm1, hm2, k⟩ := h
    have nd := sc_law_draw.nd
    have hu := hr.units
    refine ⟨_, pss_cons (ps_if (pt_cmpR op_eq (pe_ix ix_list (pv 1) pe_int (fun _ _ => rfl)) pe_int (nomark _))
        (pss_cons (ps_set (i := 3) nd rfl (Or.inl rfl) (pe_ifExp (pt_cmpR (op_neE hu) (pv 0) (pe_lst pa_nil) (nomark _)) (pe_ix ix_list (pv 0) (pe_op op_mod (pe_ix ix_list (pv 1) pe_int (fun _ _ => rfl)) (pe_callB call_len_seq (by rfl) T.len PySem.boot_len (pa_cons (pv 0) pa_nil))) (fun _ _ => rfl)) pe_int))
        (pss_cons (ps_asg (pe_op op_add (pe_ix ix_list (pv 1) pe_int (fun _ _ => rfl)) pe_int) (pg_sub (pv 1) pe_int set_list))
        (pss_cons (ps_if (PW.pt (pw_or (pt_cmpR op_lt (pv 3) (pe_op op_pow pe_int pe_int) (nomark _)) (pw_or1 (pt_cmpR op_gt (pe_ix ix_list (pv 1) pe_int (fun _ _ => rfl)) (pe_callB call_len_seq (by rfl) T.len PySem.boot_len (pa_cons (pv 0) pa_nil)) (nomark _)))))
            (pss_cons (ps_set (i := 4) nd rfl (Or.inl rfl) (pe_op op_add (pe_op op_mul (pe_op op_mod (pv 3) pe_int) pe_int) (pe_op op_mod (pe_op op_fdiv (pv 3) pe_int) pe_int)))
            (pss_cons (ps_set (i := 4) nd rfl (Or.inl rfl) (pe_op op_mod (pe_op op_add (pe_op op_add (pv 4) (pe_op op_mul (pe_op op_mul pe_int (pe_ix ix_list (pv 1) pe_int (fun _ _ => rfl))) (pe_ix ix_list (pv 1) pe_int (fun _ _ => rfl)))) (pe_op op_mul pe_int (pe_ix ix_list (pv 1) pe_int (fun _ _ => rfl)))) pe_int))
            (pss_one (ps_ret (pe_op op_mod (pe_op op_fdiv (pe_op op_mod (pe_op op_mul (pe_op op_mod (pe_op op_mul (pv 4) (pv 4)) pe_int) pe_int) pe_int) pe_int) (pv 2)))))) pss_nil)
        (pss_one (ps_asg (pv 3) (pg_sub (pv 1) pe_int set_list)))))) pss_nil)
      (pss_cons (ps_set (i := 5) nd rfl (Or.inl rfl) (pe_op op_mod (pe_ix ix_list (pv 1) pe_int (fun _ _ => rfl)) (pv 2)))
      (pss_cons (ps_asg (pe_op op_fdiv (pe_ix ix_list (pv 1) pe_int (fun _ _ => rfl)) (pv 2)) (pg_sub (pv 1) pe_int set_list))
      (pss_one (ps_ret (pv 5))))), ?_⟩
    have hmp : (0 : Int) < ((many : Nat) : Int) := by omega
    have hmd : CDiv b ((many : Nat) : Int) := ⟨hmp, by omega⟩
    have hres : ∀ y : Int, ∃ r, r < many ∧ V.int (y % (many : Int)) = nV r := fun y => by
      have h1 := Int.emod_nonneg y (show (many : Int) ≠ 0 by omega)
      have h2 := Int.emod_lt_of_pos y hmp
      exact ⟨(y % (many : Int)).toNat, by omega, congrArg V.int (by omega)⟩
    have hout : ∀ (y : Int) (H1 : Hp) (a' : Nat), KeptBut tp H H1 → TapeAt H1 tp a' → a' ≤ a + 1 → Q (.int (y % (many : Int))) H1 := fun y H1 a' h1 h2 h3 => by
      obtain ⟨r, hr1, hr2⟩ := hres y
      rw [hr2]
      exact k H1 a' r h1 h2 h3 hr1
    have cm : ∀ y : Int, CMul (y % 2147483647) (y % 2147483647) := fun y => by
      have h1 := Int.emod_nonneg y (show (2147483647 : Int) ≠ 0 by omega)
      have h2 := Int.emod_lt_of_pos y (show (0 : Int) < 2147483647 by omega)
      exact .inl ⟨by omega, by omega⟩
    have cm2 : ∀ y : Int, CMul y 16807 := fun y => .inr ⟨by omega, by omega⟩
    have kset : ∀ (H1 : Hp) (o : HO), KeptBut tp H1 (upd H1 tp o) := fun H1 o x u hx e => by
      rw [upd_ne hx]
      exact e
    have keepS : ∀ {H1 : Hp}, KeptBut tp H H1 → SqL K H1 sc (ns.map V.int) := fun {H1} kp => hS H1 kp
    have s0 : KeptBut tp H H := fun _ _ _ e => e
    refine ⟨_, rfl, tp, _, ((1 : Nat) : Int), .int b, rfl, rfl, SqL.of hT, atI_nat rfl, rfl, _, rfl, ?_⟩
    by_cases c : b = 0
    · rw [decide_eq_true (show V.int b = V.int 0 from congrArg V.int c)]
      refine iteT ?_
      -- what is read of the script
      have step2 : ∀ (H1 : Hp) (cell : Int), KeptBut tp H H1 → H1 tp = some (.lst [nV a, .int b]) → True := fun _ _ _ _ => trivial
      refine ⟨_, rfl, Nat.zero_le _, fun nl hnl => ⟨sc, nl, ns.map V.int, rfl, rfl, keepS (Same.but (same_new hnl) tp), Dat.ints _, SqL.of upd_same, _, rfl, ?_⟩⟩
      have kn : KeptBut tp H (upd H nl (.lst [])) := Same.but (same_new hnl) tp
      have hT1 := same_new (o := .lst []) hnl _ _ hT
      generalize (upd H nl (.lst [])) = H1 at kn hT1 ⊢
      have fin : ∀ cell : Int, True := fun _ => trivial
      cases hns : (ns.map V.int).isEmpty with
      | true =>
        refine iteF ?_
        refine ⟨_, rfl, tp, _, ((0 : Nat) : Int), nV a, rfl, rfl, SqL.of hT1, atI_nat rfl, _, _, rfl, rfl, _, rfl, tp, _, ((0 : Nat) : Int), 0, rfl, rfl, hT1, rfl, ?_⟩
        have kn2 := kn.trans (kset H1 (.lst ([nV a, .int b].set 0 (.int ((a : Int) + 1)))))
        have hT2 : (upd H1 tp (.lst ([nV a, .int b].set 0 (.int ((a : Int) + 1))))) tp = some (.lst [nV (a + 1), .int b]) := by
          rw [upd_same]
          exact congrArg (fun z => some (HO.lst [V.int z, .int b])) (by omega)
        generalize (upd H1 tp (.lst ([nV a, .int b].set 0 (.int ((a : Int) + 1))))) = H2 at kn2 hT2 ⊢
        have small : ∀ y : Int, CMul (y % 1000003) 48271 := fun y => by
          have h1 := Int.emod_nonneg y (show (1000003 : Int) ≠ 0 by omega)
          have h2 := Int.emod_lt_of_pos y (show (0 : Int) < 1000003 by omega)
          exact .inl ⟨by omega, by omega⟩
        have ret : ∀ u : Int, ∃ n : Int, u = n := fun u => ⟨u, rfl⟩
        refine ⟨_, rfl, _, _, rfl, rfl, ⟨by omega, by omega, by decide⟩, _, _, rfl, rfl, _, rfl, ?_⟩
        by_cases d : (0 : Int) < 10 ^ (18 : Int).toNat
        · rw [decide_eq_true d]
          refine iteT (iteT ?_)
          refine ⟨_, rfl, _, _, rfl, rfl, (show (0 : Int) < 1000003 by omega), _, _, rfl, rfl, small _, _, rfl, _, _, rfl, rfl, (⟨by omega, by omega⟩ : CDiv 0 1000003), _, _, rfl, rfl, (show (0 : Int) < 1000003 by omega), _, _, rfl, rfl, ?_⟩
          refine ⟨_, rfl, _, rfl, tp, _, ((0 : Nat) : Int), nV (a + 1), rfl, rfl, SqL.of hT2, atI_nat rfl, _, _, rfl, rfl, .inl ⟨by omega, by omega⟩, _, rfl, tp, _, ((0 : Nat) : Int), nV (a + 1), rfl, rfl, SqL.of hT2, atI_nat rfl, _, _, rfl, rfl, .inr ⟨by omega, by omega⟩, _, _, rfl, rfl, _, rfl, tp, _, ((0 : Nat) : Int), nV (a + 1), rfl, rfl, SqL.of hT2, atI_nat rfl, _, _, rfl, rfl, .inl ⟨by omega, by omega⟩, _, _, rfl, rfl, _, _, rfl, rfl, (show (0 : Int) < 2147483647 by omega), ?_⟩
          exact ⟨_, rfl, _, rfl, _, _, rfl, rfl, cm _, _, _, rfl, rfl, (show (0 : Int) < 1000000007 by omega), _, _, rfl, rfl, cm2 _, _, _, rfl, rfl, (show (0 : Int) < 2147483629 by omega), _, _, rfl, rfl, ⟨by omega, by omega⟩, _, rfl, _, _, rfl, rfl, hmp, hout _ _ _ kn2 ⟨_, hT2⟩ (Nat.le_refl _)⟩
        · rw [decide_eq_false d]
          refine iteF ⟨_, rfl, tp, _, ((0 : Nat) : Int), nV (a + 1), rfl, rfl, SqL.of hT2, atI_nat rfl, _, rfl, sc, _, rfl, .inl (keepS kn2), _, _, rfl, rfl, _, rfl, ?_⟩
          by_cases e : (((ns.map V.int).length : Nat) : Int) < ((a + 1 : Nat) : Int)
          · rw [decide_eq_true e]
            refine iteT ?_
            refine ⟨_, rfl, _, _, rfl, rfl, (show (0 : Int) < 1000003 by omega), _, _, rfl, rfl, small _, _, rfl, _, _, rfl, rfl, (⟨by omega, by omega⟩ : CDiv 0 1000003), _, _, rfl, rfl, (show (0 : Int) < 1000003 by omega), _, _, rfl, rfl, ?_⟩
            refine ⟨_, rfl, _, rfl, tp, _, ((0 : Nat) : Int), nV (a + 1), rfl, rfl, SqL.of hT2, atI_nat rfl, _, _, rfl, rfl, .inl ⟨by omega, by omega⟩, _, rfl, tp, _, ((0 : Nat) : Int), nV (a + 1), rfl, rfl, SqL.of hT2, atI_nat rfl, _, _, rfl, rfl, .inr ⟨by omega, by omega⟩, _, _, rfl, rfl, _, rfl, tp, _, ((0 : Nat) : Int), nV (a + 1), rfl, rfl, SqL.of hT2, atI_nat rfl, _, _, rfl, rfl, .inl ⟨by omega, by omega⟩, _, _, rfl, rfl, _, _, rfl, rfl, (show (0 : Int) < 2147483647 by omega), ?_⟩
            exact ⟨_, rfl, _, rfl, _, _, rfl, rfl, cm _, _, _, rfl, rfl, (show (0 : Int) < 1000000007 by omega), _, _, rfl, rfl, cm2 _, _, _, rfl, rfl, (show (0 : Int) < 2147483629 by omega), _, _, rfl, rfl, ⟨by omega, by omega⟩, _, rfl, _, _, rfl, rfl, hmp, hout _ _ _ kn2 ⟨_, hT2⟩ (Nat.le_refl _)⟩
          · rw [decide_eq_false e]
            refine iteF ⟨_, rfl, _, rfl, tp, _, ((1 : Nat) : Int), 1, rfl, rfl, hT2, rfl, ?_⟩
            have hT3 : (upd H2 tp (.lst ([nV (a + 1), .int b].set 1 (.int 0)))) tp = some (.lst [nV (a + 1), .int 0]) := upd_same
            have kn3 := kn2.trans (kset H2 (.lst ([nV (a + 1), .int b].set 1 (.int 0))))
            generalize (upd H2 tp (.lst ([nV (a + 1), .int b].set 1 (.int 0)))) = H3 at kn3 hT3 ⊢
            refine ⟨_, rfl, tp, _, ((1 : Nat) : Int), .int (0 : Int), rfl, rfl, SqL.of hT3, atI_nat rfl, _, rfl, _, _, rfl, rfl, hmp, ?_⟩
            refine ⟨_, rfl, tp, _, ((1 : Nat) : Int), .int (0 : Int), rfl, rfl, SqL.of hT3, atI_nat rfl, _, rfl, _, _, rfl, rfl, (⟨hmp, by omega⟩ : CDiv 0 (many : Int)), _, rfl, tp, _, ((1 : Nat) : Int), 1, rfl, rfl, hT3, rfl, ?_⟩
            exact ⟨_, rfl, hout (0 : Int) _ (a + 1) (kn3.trans (kset _ _)) ⟨_, upd_same⟩ (by omega)⟩
      | false =>
        refine iteT ?_
        have hl : 0 < ns.length := by
          cases ns with
          | nil => cases hns
          | cons n ns => exact Nat.succ_pos _
        have hlm : (ns.map V.int).length = ns.length := List.length_map ..
        have hm0 : (0 : Int) < (((ns.map V.int).length : Nat) : Int) := by omega
        have hq1 := Int.emod_nonneg (a : Int) (show (((ns.map V.int).length : Nat) : Int) ≠ 0 by omega)
        have hq2 := Int.emod_lt_of_pos (a : Int) hm0
        have hj : ((a : Int) % (((ns.map V.int).length : Nat) : Int)).toNat < ns.length := by omega
        refine ⟨_, rfl, _, rfl, tp, _, ((0 : Nat) : Int), nV a, rfl, rfl, SqL.of hT1, atI_nat rfl, _, rfl, sc, _, rfl, .inl (keepS kn), _, _, rfl, rfl, hm0, sc, _, _, .int (ns.getD ((a : Int) % (((ns.map V.int).length : Nat) : Int)).toNat 0), rfl, congrArg V.int (show (a : Int) % (((ns.map V.int).length : Nat) : Int) = ((((a : Int) % (((ns.map V.int).length : Nat) : Int)).toNat : Nat) : Int) by omega), keepS kn, atI_nat (map_get V.int (getD_get hj)), ?_⟩
        generalize ns.getD ((a : Int) % (((ns.map V.int).length : Nat) : Int)).toNat 0 = cell
        refine ⟨_, rfl, tp, _, ((0 : Nat) : Int), nV a, rfl, rfl, SqL.of hT1, atI_nat rfl, _, _, rfl, rfl, _, rfl, tp, _, ((0 : Nat) : Int), 0, rfl, rfl, hT1, rfl, ?_⟩
        have kn2 := kn.trans (kset H1 (.lst ([nV a, .int b].set 0 (.int ((a : Int) + 1)))))
        have hT2 : (upd H1 tp (.lst ([nV a, .int b].set 0 (.int ((a : Int) + 1))))) tp = some (.lst [nV (a + 1), .int b]) := by
          rw [upd_same]
          exact congrArg (fun z => some (HO.lst [V.int z, .int b])) (by omega)
        generalize (upd H1 tp (.lst ([nV a, .int b].set 0 (.int ((a : Int) + 1))))) = H2 at kn2 hT2 ⊢
        have small : ∀ y : Int, CMul (y % 1000003) 48271 := fun y => by
          have h1 := Int.emod_nonneg y (show (1000003 : Int) ≠ 0 by omega)
          have h2 := Int.emod_lt_of_pos y (show (0 : Int) < 1000003 by omega)
          exact .inl ⟨by omega, by omega⟩
        have ret : ∀ u : Int, ∃ n : Int, u = n := fun u => ⟨u, rfl⟩
        refine ⟨_, rfl, _, _, rfl, rfl, ⟨by omega, by omega, by decide⟩, _, _, rfl, rfl, _, rfl, ?_⟩
        by_cases d : (cell : Int) < 10 ^ (18 : Int).toNat
        · rw [decide_eq_true d]
          refine iteT (iteT ?_)
          refine ⟨_, rfl, _, _, rfl, rfl, (show (0 : Int) < 1000003 by omega), _, _, rfl, rfl, small _, _, rfl, _, _, rfl, rfl, (⟨by omega, by omega⟩ : CDiv cell 1000003), _, _, rfl, rfl, (show (0 : Int) < 1000003 by omega), _, _, rfl, rfl, ?_⟩
          refine ⟨_, rfl, _, rfl, tp, _, ((0 : Nat) : Int), nV (a + 1), rfl, rfl, SqL.of hT2, atI_nat rfl, _, _, rfl, rfl, .inl ⟨by omega, by omega⟩, _, rfl, tp, _, ((0 : Nat) : Int), nV (a + 1), rfl, rfl, SqL.of hT2, atI_nat rfl, _, _, rfl, rfl, .inr ⟨by omega, by omega⟩, _, _, rfl, rfl, _, rfl, tp, _, ((0 : Nat) : Int), nV (a + 1), rfl, rfl, SqL.of hT2, atI_nat rfl, _, _, rfl, rfl, .inl ⟨by omega, by omega⟩, _, _, rfl, rfl, _, _, rfl, rfl, (show (0 : Int) < 2147483647 by omega), ?_⟩
          exact ⟨_, rfl, _, rfl, _, _, rfl, rfl, cm _, _, _, rfl, rfl, (show (0 : Int) < 1000000007 by omega), _, _, rfl, rfl, cm2 _, _, _, rfl, rfl, (show (0 : Int) < 2147483629 by omega), _, _, rfl, rfl, ⟨by omega, by omega⟩, _, rfl, _, _, rfl, rfl, hmp, hout _ _ _ kn2 ⟨_, hT2⟩ (Nat.le_refl _)⟩
        · rw [decide_eq_false d]
          refine iteF ⟨_, rfl, tp, _, ((0 : Nat) : Int), nV (a + 1), rfl, rfl, SqL.of hT2, atI_nat rfl, _, rfl, sc, _, rfl, .inl (keepS kn2), _, _, rfl, rfl, _, rfl, ?_⟩
          by_cases e : (((ns.map V.int).length : Nat) : Int) < ((a + 1 : Nat) : Int)
          · rw [decide_eq_true e]
            refine iteT ?_
            refine ⟨_, rfl, _, _, rfl, rfl, (show (0 : Int) < 1000003 by omega), _, _, rfl, rfl, small _, _, rfl, _, _, rfl, rfl, (⟨by omega, by omega⟩ : CDiv cell 1000003), _, _, rfl, rfl, (show (0 : Int) < 1000003 by omega), _, _, rfl, rfl, ?_⟩
            refine ⟨_, rfl, _, rfl, tp, _, ((0 : Nat) : Int), nV (a + 1), rfl, rfl, SqL.of hT2, atI_nat rfl, _, _, rfl, rfl, .inl ⟨by omega, by omega⟩, _, rfl, tp, _, ((0 : Nat) : Int), nV (a + 1), rfl, rfl, SqL.of hT2, atI_nat rfl, _, _, rfl, rfl, .inr ⟨by omega, by omega⟩, _, _, rfl, rfl, _, rfl, tp, _, ((0 : Nat) : Int), nV (a + 1), rfl, rfl, SqL.of hT2, atI_nat rfl, _, _, rfl, rfl, .inl ⟨by omega, by omega⟩, _, _, rfl, rfl, _, _, rfl, rfl, (show (0 : Int) < 2147483647 by omega), ?_⟩
            exact ⟨_, rfl, _, rfl, _, _, rfl, rfl, cm _, _, _, rfl, rfl, (show (0 : Int) < 1000000007 by omega), _, _, rfl, rfl, cm2 _, _, _, rfl, rfl, (show (0 : Int) < 2147483629 by omega), _, _, rfl, rfl, ⟨by omega, by omega⟩, _, rfl, _, _, rfl, rfl, hmp, hout _ _ _ kn2 ⟨_, hT2⟩ (Nat.le_refl _)⟩
          · rw [decide_eq_false e]
            refine iteF ⟨_, rfl, _, rfl, tp, _, ((1 : Nat) : Int), 1, rfl, rfl, hT2, rfl, ?_⟩
            have hT3 : (upd H2 tp (.lst ([nV (a + 1), .int b].set 1 (.int cell)))) tp = some (.lst [nV (a + 1), .int cell]) := upd_same
            have kn3 := kn2.trans (kset H2 (.lst ([nV (a + 1), .int b].set 1 (.int cell))))
            generalize (upd H2 tp (.lst ([nV (a + 1), .int b].set 1 (.int cell)))) = H3 at kn3 hT3 ⊢
            refine ⟨_, rfl, tp, _, ((1 : Nat) : Int), .int cell, rfl, rfl, SqL.of hT3, atI_nat rfl, _, rfl, _, _, rfl, rfl, hmp, ?_⟩
            refine ⟨_, rfl, tp, _, ((1 : Nat) : Int), .int cell, rfl, rfl, SqL.of hT3, atI_nat rfl, _, rfl, _, _, rfl, rfl, (⟨hmp, by omega⟩ : CDiv cell (many : Int)), _, rfl, tp, _, ((1 : Nat) : Int), 1, rfl, rfl, hT3, rfl, ?_⟩
            exact ⟨_, rfl, hout cell _ (a + 1) (kn3.trans (kset _ _)) ⟨_, upd_same⟩ (by omega)⟩
    · rw [decide_eq_false (show ¬ V.int b = V.int 0 from fun e => c (V.int.inj e))]
      refine iteF ?_
      refine ⟨_, rfl, tp, _, ((1 : Nat) : Int), .int b, rfl, rfl, SqL.of hT, atI_nat rfl, _, rfl, _, _, rfl, rfl, hmp, ?_⟩
      refine ⟨_, rfl, tp, _, ((1 : Nat) : Int), .int b, rfl, rfl, SqL.of hT, atI_nat rfl, _, rfl, _, _, rfl, rfl, hmd, _, rfl, tp, _, ((1 : Nat) : Int), 1, rfl, rfl, hT, rfl, ?_⟩
      exact ⟨_, rfl, hout b _ a (s0.trans (kset _ _)) ⟨_, upd_same⟩ (by omega)⟩
end
end TB

set_option maxRecDepth 100000
set_option maxHeartbeats 4000000
/-! The law's own walk: begun, a step, is it over, a copy. -/
namespace TB
open PySem PySem.Spec PyProof.Rows L2
def ownK (ma ca wa sa : Addr) : List (Key × V) := [(Sum.inr "marks", .ref ma), (Sum.inr "counts", .ref ca), (Sum.inr "ways", .ref wa), (Sum.inr "stops", .ref sa)]
def Ways (H : Hp) (ws : List Addr) (ways : List (List Nat)) : Prop := Paired (fun a (way : List Nat) => H a = some (.lst (way.reverse.map nV))) ws ways
structure OwnAt (H : Hp) (o ma ca wa sa : Addr) (ws : List Addr) (s : St) : Prop where
  own : H o = some (.dK (ownK ma ca wa sa))
  mks : H ma = some (.lst (s.marks.map nV))
  cts : H ca = some (.lst (s.counts.map nV))
  wyl : H wa = some (.lst (ws.map V.ref))
  sts : H sa = some (.lst (s.stops.map oV))
  wys : Ways H ws s.ways
  nod : (ma :: ca :: wa :: sa :: ws).Nodup
def NewOwn (H : Hp) (o ma ca wa sa : Addr) (ws : List Addr) : Prop := H o = none ∧ H ma = none ∧ H ca = none ∧ H wa = none ∧ H sa = none ∧ ∀ a ∈ ws, H a = none
def rListOf (K : PySem.W.Frag) : List V → Hp → VK → Prop := fun xs H Q => ∃ p ys, xs = [.ref p] ∧ (SqL K H p ys ∨ SqT K H p ys) ∧ ∀ l, H l = none → Q (.ref l) (upd H l (.lst ys))
theorem ownK_m (ma ca wa sa : Addr) : valV (ownK ma ca wa sa) (Sum.inr "marks") = some (.ref ma) := by rfl
theorem ownK_c (ma ca wa sa : Addr) : valV (ownK ma ca wa sa) (Sum.inr "counts") = some (.ref ca) := by rfl
theorem ownK_w (ma ca wa sa : Addr) : valV (ownK ma ca wa sa) (Sum.inr "ways") = some (.ref wa) := by rfl
theorem ownK_s (ma ca wa sa : Addr) : valV (ownK ma ca wa sa) (Sum.inr "stops") = some (.ref sa) := by rfl
section
variable {H : Hp} {o ma ca wa sa : Addr}
theorem getM (h : H o = some (.dK (ownK ma ca wa sa))) : DGet H o (.str "marks") (some (.ref ma)) := by
  rw [← ownK_m ma ca wa sa]
  exact DGet.k (k := Sum.inr "marks") h
theorem getC (h : H o = some (.dK (ownK ma ca wa sa))) : DGet H o (.str "counts") (some (.ref ca)) := by
  rw [← ownK_c ma ca wa sa]
  exact DGet.k (k := Sum.inr "counts") h
theorem getW (h : H o = some (.dK (ownK ma ca wa sa))) : DGet H o (.str "ways") (some (.ref wa)) := by
  rw [← ownK_w ma ca wa sa]
  exact DGet.k (k := Sum.inr "ways") h
theorem getS (h : H o = some (.dK (ownK ma ca wa sa))) : DGet H o (.str "stops") (some (.ref sa)) := by
  rw [← ownK_s ma ca wa sa]
  exact DGet.k (k := Sum.inr "stops") h
end
theorem nod5 {a b c d : Addr} {ws : List Addr} (ab : a ≠ b) (ac : a ≠ c) (ad : a ≠ d) (aw : a ∉ ws) (bc : b ≠ c) (bd : b ≠ d) (bw : b ∉ ws) (cd : c ≠ d) (cw : c ∉ ws) (dw : d ∉ ws) (w : ws.Nodup) : (a :: b :: c :: d :: ws).Nodup := by
  simp only [List.nodup_cons, List.mem_cons, not_or]
  exact ⟨⟨ab, ac, ad, aw⟩, ⟨bc, bd, bw⟩, ⟨cd, cw⟩, dw, w⟩
theorem Ways.at {H : Hp} {ws : List Addr} {ways : List (List Nat)} (h : Ways H ws ways) {a : Addr} (ha : a ∈ ws) : ∃ way : List Nat, H a = some (.lst (way.reverse.map nV)) := by
  obtain ⟨i, hi, e⟩ := List.mem_iff_getElem.mp ha
  have hl : ws.length = ways.length := Paired.length h
  obtain ⟨b, e1, e2⟩ := paired_get h (List.getElem?_eq_getElem (show i < ways.length by omega))
  rw [List.getElem?_eq_getElem hi, e] at e1
  cases e1
  exact ⟨_, e2⟩
theorem Ways.kept {H H' : Hp} : ∀ {ws : List Addr} {ways : List (List Nat)}, Ways H ws ways → (∀ a ∈ ws, ∀ x, H a = some x → H' a = some x) → Ways H' ws ways
  | _, _, .nil, _ => .nil
  | _, _, .cons h t, k => .cons (k _ List.mem_cons_self _ h) (Ways.kept t fun a ha => k a (List.mem_cons_of_mem _ ha))
theorem OwnAt.same {H H' : Hp} {o ma ca wa sa : Addr} {ws : List Addr} {s : St} (h : OwnAt H o ma ca wa sa ws s) (e : Same H H') : OwnAt H' o ma ca wa sa ws s :=
  ⟨e _ _ h.own, e _ _ h.mks, e _ _ h.cts, e _ _ h.wyl, e _ _ h.sts, h.wys.kept fun a _ x hx => e _ _ hx, h.nod⟩
theorem Ways.set {H H' : Hp} : ∀ {ws : List Addr} {ways : List (List Nat)} {i : Nat} {a : Addr} {way : List Nat}, Ways H ws ways → ws[i]? = some a → ws.Nodup → H' a = some (.lst (way.reverse.map nV)) → (∀ b x, b ≠ a → H b = some x → H' b = some x) → Ways H' ws (ways.set i way)
  | [], _, i, a, way, _, h, _, _, _ => by cases h
  | b :: ws, _ :: _, 0, a, way, .cons h t, e, hn, h1, h2 => by
    have : b = a := Option.some.inj e
    subst this
    obtain ⟨q1, q2⟩ := List.nodup_cons.mp hn
    exact .cons h1 (Ways.kept t fun c hc x hx => h2 c x (fun z => q1 (by rw [← z]; exact hc)) hx)
  | b :: ws, _ :: _, i + 1, a, way, .cons h t, e, hn, h1, h2 => by
    obtain ⟨q1, q2⟩ := List.nodup_cons.mp hn
    have e' : ws[i]? = some a := e
    exact .cons (h2 b _ (fun z => q1 (by rw [z]; exact List.mem_of_getElem? e')) h) (Ways.set t e' q2 h1 h2)
section
variable {H : Hp} {o ma ca wa sa : Addr} {ws : List Addr} {s : St}
theorem OwnAt.ne (h : OwnAt H o ma ca wa sa ws s) : (ma ≠ ca ∧ ma ≠ wa ∧ ma ≠ sa ∧ ma ∉ ws) ∧ (ca ≠ wa ∧ ca ≠ sa ∧ ca ∉ ws) ∧ (wa ≠ sa ∧ wa ∉ ws) ∧ sa ∉ ws ∧ ws.Nodup := by
  have := h.nod
  simp only [List.nodup_cons, List.mem_cons, not_or] at this
  exact this
theorem OwnAt.oNe (h : OwnAt H o ma ca wa sa ws s) : o ≠ ma ∧ o ≠ ca ∧ o ≠ wa ∧ o ≠ sa ∧ o ∉ ws := by
  refine ⟨ne_of h.own h.mks nofun, ne_of h.own h.cts nofun, ne_of h.own h.wyl nofun, ne_of h.own h.sts nofun, fun z => ?_⟩
  obtain ⟨w0, h0⟩ := h.wys.at z
  rw [h.own] at h0
  cases h0
theorem OwnAt.setM (h : OwnAt H o ma ca wa sa ws s) (c : List Nat) : OwnAt (upd H ma (.lst (c.map nV))) o ma ca wa sa ws { s with marks := c } := by
  obtain ⟨⟨n1, n2, n3, n4⟩, ⟨n5, n6, n7⟩, ⟨n8, n9⟩, n10, n11⟩ := h.ne
  obtain ⟨m1, m2, m3, m4, m5⟩ := h.oNe
  exact ⟨by rw [upd_ne m1]; exact h.own, upd_same, by rw [upd_ne n1.symm]; exact h.cts, by rw [upd_ne n2.symm]; exact h.wyl, by rw [upd_ne n3.symm]; exact h.sts, h.wys.kept fun b hb x hx => by rw [upd_ne (fun z => n4 (by rw [← z]; exact hb))]; exact hx, h.nod⟩
theorem OwnAt.setC (h : OwnAt H o ma ca wa sa ws s) (c : List Nat) : OwnAt (upd H ca (.lst (c.map nV))) o ma ca wa sa ws { s with counts := c } := by
  obtain ⟨⟨n1, n2, n3, n4⟩, ⟨n5, n6, n7⟩, ⟨n8, n9⟩, n10, n11⟩ := h.ne
  obtain ⟨m1, m2, m3, m4, m5⟩ := h.oNe
  exact ⟨by rw [upd_ne m2]; exact h.own, by rw [upd_ne n1]; exact h.mks, upd_same, by rw [upd_ne n5.symm]; exact h.wyl, by rw [upd_ne n6.symm]; exact h.sts, h.wys.kept fun b hb x hx => by rw [upd_ne (fun z => n7 (by rw [← z]; exact hb))]; exact hx, h.nod⟩
theorem OwnAt.setS (h : OwnAt H o ma ca wa sa ws s) (c : List (Option Nat)) : OwnAt (upd H sa (.lst (c.map oV))) o ma ca wa sa ws { s with stops := c } := by
  obtain ⟨⟨n1, n2, n3, n4⟩, ⟨n5, n6, n7⟩, ⟨n8, n9⟩, n10, n11⟩ := h.ne
  obtain ⟨m1, m2, m3, m4, m5⟩ := h.oNe
  exact ⟨by rw [upd_ne m4]; exact h.own, by rw [upd_ne n3]; exact h.mks, by rw [upd_ne n6]; exact h.cts, by rw [upd_ne n8]; exact h.wyl, upd_same, h.wys.kept fun b hb x hx => by rw [upd_ne (fun z => n10 (by rw [← z]; exact hb))]; exact hx, h.nod⟩
theorem OwnAt.setW (h : OwnAt H o ma ca wa sa ws s) {i : Nat} {a : Addr} (ha : ws[i]? = some a) (way : List Nat) : OwnAt (upd H a (.lst (way.reverse.map nV))) o ma ca wa sa ws { s with ways := s.ways.set i way } := by
  obtain ⟨⟨n1, n2, n3, n4⟩, ⟨n5, n6, n7⟩, ⟨n8, n9⟩, n10, n11⟩ := h.ne
  obtain ⟨m1, m2, m3, m4, m5⟩ := h.oNe
  have hm := List.mem_of_getElem? ha
  exact ⟨by rw [upd_ne (fun z => m5 (by rw [z]; exact hm))]; exact h.own, by rw [upd_ne (fun z => n4 (by rw [z]; exact hm))]; exact h.mks, by rw [upd_ne (fun z => n7 (by rw [z]; exact hm))]; exact h.cts, by rw [upd_ne (fun z => n9 (by rw [z]; exact hm))]; exact h.wyl, by rw [upd_ne (fun z => n10 (by rw [z]; exact hm))]; exact h.sts,
    Ways.set h.wys ha n11 upd_same fun b x hb hx => by rw [upd_ne hb]; exact hx, h.nod⟩
end
theorem ixN_nat {n i : Nat} (h : i < n) : ixN n (i : Int) = some i := by
  unfold ixN
  rw [if_pos (by omega), if_pos (by omega)]
  rfl
theorem rev_cons (x : Nat) (xs : List Nat) : (x :: xs).reverse.map nV = xs.reverse.map nV ++ [nV x] := by
  rw [List.reverse_cons, List.map_append]
  rfl
theorem begMarks_snoc (r : Nat) : ∀ (rs : List Nat) (i : Nat) (m : List Nat), begMarks (rs ++ [r]) i m = (begMarks rs i m).set r (i + rs.length + 1)
  | [], i, m => rfl
  | a :: rs, i, m => by
    have := begMarks_snoc r rs (i + 1) (m.set a (i + 1))
    show begMarks (rs ++ [r]) (i + 1) (m.set a (i + 1)) = (begMarks rs (i + 1) (m.set a (i + 1))).set r _
    rw [this, List.length_cons]
    congr 1
    omega
theorem begMarks_len : ∀ (rs : List Nat) (i : Nat) (m : List Nat), (begMarks rs i m).length = m.length
  | [], _, _ => rfl
  | r :: rs, i, m => by
    show (begMarks rs (i + 1) (m.set r (i + 1))).length = _
    rw [begMarks_len, List.length_set]
theorem rep_snoc (i : Nat) : (List.replicate i 0).map nV ++ [V.int 0] = (List.replicate (i + 1) 0).map nV := by
  rw [List.replicate_succ', List.map_append]
  rfl
theorem atI_last {v : V} {l : List V} : atI (l ++ [v]) (-1) = some v := by
  have e : ixN (l ++ [v]).length (-1) = some l.length := by
    unfold ixN
    rw [if_neg (by omega), List.length_append, List.length_singleton, if_pos (by omega)]
    congr 1
    omega
  unfold atI
  rw [e]
  show (l ++ [v])[l.length]? = some v
  rw [List.getElem?_append_right (Nat.le_refl _), Nat.sub_self]
  rfl
def spBegun : Sp := fun vs H Q _ => ∃ (W rt : Addr) (web : Web) (roots : List Nat), vs = [.ref W, .ref rt] ∧ WebAt H W web ∧ WebOk web ∧ NumsAt H rt roots ∧ RootsOk web roots ∧
  ∀ H' o ma ca wa sa ws, Same H H' → NewOwn H o ma ca wa sa ws → OwnAt H' o ma ca wa sa ws (begun web roots) → Q (.ref o) H'
def spCopied : Sp := fun vs H Q _ => ∃ (o0 ma0 ca0 wa0 sa0 : Addr) (ws0 : List Addr) (s : St), vs = [.ref o0] ∧ OwnAt H o0 ma0 ca0 wa0 sa0 ws0 s ∧ s.ways.length ≤ 1000 ∧
  ∀ H' o ma ca wa sa ws, Same H H' → NewOwn H o ma ca wa sa ws → OwnAt H' o ma ca wa sa ws s → Q (.ref o) H'
def spIsOver : Sp := fun vs H Q _ => ∃ (o ma ca wa sa : Addr) (ws : List Addr) (s : St), vs = [.ref o] ∧ OwnAt H o ma ca wa sa ws s ∧ s.ways.length ≤ 1000 ∧ ∀ H', Same H H' → Q (.bl (over s)) H'
def spStep : Sp := fun vs H Q _ => ∃ (W o ma ca wa sa : Addr) (ws : List Addr) (web : Web) (k w : Nat) (s : St), vs = [.ref W, .ref o, nV (w + 1)] ∧ WebAt H W web ∧ WebOk web ∧ OwnAt H o ma ca wa sa ws s ∧ StOk web k s ∧ k ≤ 3 ∧ w < k ∧
  (step web s (w + 1) = none → ∀ H', Same H H' → Q (.bl false) H') ∧
  ∀ s', step web s (w + 1) = some s' → ∀ H', (∀ b x, b ∉ (ma :: ca :: wa :: sa :: ws) → H b = some x → H' b = some x) → OwnAt H' o ma ca wa sa ws s' → Q (.bl true) H'
section
variable {P : Program} {w : World} {K : PySem.W.Frag} {mg : Str → Option Value} {base : Heap}
theorem sc_law_begun : FnScope ["_law_web", "_law_roots", "_law_marks", "_law_number", "_law_root", "_law_ways", "_law_found", "_law_row"] ["_law_web", "_law_roots"] (defScope s_law_begun) := ⟨rfl, rfl, rfl, by decide +kernel, rfl, by decide +kernel, by decide +kernel⟩
theorem has_law_begun (T : Tx mg) (S : Stands K mg "_law_begun" s_law_begun) : Has P w K mg base 1 "_law_begun" ["_law_web", "_law_roots"] spBegun := by
  refine S.has sc_law_begun (fun _ _ _ _ _ _ us hl => match us, hl with | [_, _], _ => rfl) (fun vs H Q E h => ?_) (fun f cdv A outer s H vs Q E hr h => ?_)
  · obtain ⟨W, rt, web, roots, rfl, _⟩ := h
    rfl
  · obtain ⟨W, rt, web, roots, rfl, hW, ok, hR, rok, k⟩ := h
    have nd := sc_law_begun.nd
    have hu1 := hu_of hr
    have bo : ∀ {e1 : Unit}, True := fun {_} => trivial
    refine ⟨_, pss_cons (ps_setLc (i := 2) (own := [("_law_row", 7)]) (g := gName 7) (tt := tYes) rfl nd rfl rfl (sw_true rfl rfl rfl (by decide +kernel)) (pi_tup (pv 0))
        (blkOk_by (N := ["_law_web", "_law_roots", "_law_marks", "_law_number", "_law_root", "_law_ways", "_law_found", "_law_row"]) (sc := defScope s_law_begun) (by decide +kernel)) (fun _ _ _ _ _ => pg_name (i := 7) nd rfl (Or.inl rfl)) (fun _ _ _ _ _ => pts_nil) (fun _ _ _ _ _ => pe_int))
      (pss_cons (ps_for PassesOwn.never rfl (pi_enumT (by rfl) T.enum (pa_cons (pv 1) pa_nil)) (pg_tup rfl (pgs_cons (pg_name (i := 3) nd rfl (Or.inl rfl)) (pgs_cons (pg_name (i := 4) nd rfl (Or.inl rfl)) pgs_nil)))
        (pss_one (ps_asg (pe_op op_add (pv 3) pe_int) (pg_sub (pv 2) (pv 4) set_list))))
      (pss_cons (ps_setLc (i := 5) (own := [("_law_root", 4)]) (g := gName 4) (tt := tYes) rfl nd rfl rfl (sw_true rfl rfl rfl (by decide +kernel)) (pi_tup (pv 1))
        (blkOk_by (N := ["_law_web", "_law_roots", "_law_marks", "_law_number", "_law_root", "_law_ways", "_law_found", "_law_row"]) (sc := defScope s_law_begun) (by decide +kernel)) (fun _ _ _ _ _ => pg_name (i := 4) nd rfl (Or.inl rfl)) (fun _ _ _ _ _ => pts_nil) (fun _ _ _ _ _ => pe_lst (pa_cons (pv 4) pa_nil)))
      (pss_cons (ps_set (i := 6) nd rfl (Or.inl rfl) (pe_disp (pps_cons pe_str (pv 2) (pps_cons pe_str (pe_lc (own := [("_law_row", 7)]) (g := gName 7) (tt := tYes) rfl nd (pi_tup (pv 0))
          (blkOk_by (N := ["_law_web", "_law_roots", "_law_marks", "_law_number", "_law_root", "_law_ways", "_law_found", "_law_row"]) (sc := defScope s_law_begun) (by decide +kernel)) (fun _ _ _ _ _ => pg_name (i := 7) nd rfl (Or.inl rfl)) (fun _ _ _ _ _ => pts_nil) (fun _ _ _ _ _ => pe_int)) (pps_cons pe_str (pv 5) pps_nil))) (by rfl) (by rfl) (fun z => by cases z) (by decide)))
      (pss_cons (ps_dput hu1 (pv 6) pe_str (pe_lc (own := [("_law_root", 4)]) (g := gName 4) (tt := tYes) rfl nd (pi_tup (pv 1))
          (blkOk_by (N := ["_law_web", "_law_roots", "_law_marks", "_law_number", "_law_root", "_law_ways", "_law_found", "_law_row"]) (sc := defScope s_law_begun) (by decide +kernel)) (fun _ _ _ _ _ => pg_name (i := 4) nd rfl (Or.inl rfl)) (fun _ _ _ _ _ => pts_nil) (fun _ _ _ _ _ => pe_non)) rfl)
      (pss_one (ps_ret (pv 6))))))), ?_⟩
    obtain ⟨rs, hW1, hW2, hW3⟩ := id hW
    have h3 := rok.three
    have h4 := ok.four
    have hrl : (rs.map V.ref).length = web.length := by rw [List.length_map, hW2]
    refine ⟨_, rfl, W, rfl, ⟨_, SqT.of hW1⟩, fun ma hma => ?_⟩
    refine lc_tup (K := K) (a := W) (xs := rs.map V.ref) (fun i H' => Same H H' ∧ H' ma = some (.lst ((List.replicate i 0).map nV))) ⟨same_new hma, upd_same⟩ (fun i H' _ hP => SqT.of (hP.1 _ _ hW1)) (fun i x H' hx hP => ?_) (fun H1 hP => ?_)
    · obtain ⟨sm, hL⟩ := hP
      have hil : i < web.length := by
        rw [← hrl]
        exact (List.getElem?_eq_some_iff.mp hx).1
      refine ⟨rfl, _, hL, small1003 (by rw [List.length_map, List.length_replicate]; omega), same_out sm hma, ?_⟩
      rw [upd_same, rep_snoc]
    · obtain ⟨s1, hL1⟩ := hP
      rw [hrl] at hL1
      refine ⟨_, rfl, rt, _, rfl, SqT.of (s1 _ _ hR), ?_⟩
      refine for_enumT (K := K) (a := rt) (xs := roots.map nV) (fun i σ H' => (∃ u v, σ = [some (.ref W), some (.ref rt), some (.ref ma), u, v, none, none, none]) ∧ Same H H' ∧ H' ma = some (.lst ((begMarks (roots.take i) 0 (List.replicate web.length 0)).map nV)))
        ⟨⟨_, _, rfl⟩, s1, hL1⟩ (fun i σ H' _ hP => SqT.of (hP.2.1 _ _ hR)) (fun i x T0 σ H' hx hP hT0 => ?_) (fun σ H' hP => ?_)
      · obtain ⟨⟨u, v, rfl⟩, sm, hL⟩ := hP
        obtain ⟨r, hr0, rfl⟩ := map_get_inv hx
        have hil : i < roots.length := (List.getElem?_eq_some_iff.mp hr0).1
        have hrlt := rok.lt r (List.mem_of_getElem? hr0)
        have sm2 : Same H (upd H' T0 (.tup [.int (i : Nat), nV r])) := sm.trans (same_new hT0)
        have hL2 := same_new (o := .tup [.int (i : Nat), nV r]) hT0 _ _ hL
        refine ⟨T0, _, rfl, SqT.of upd_same, rfl, _, _, rfl, _, _, rfl, rfl, ?_⟩
        have ix : ixN (((begMarks (roots.take i) 0 (List.replicate web.length 0)).map nV).length) (r : Int) = some r := by
          unfold ixN
          rw [if_pos (by omega), if_pos (by rw [List.length_map, begMarks_len, List.length_replicate]; omega)]
          rfl
        refine ⟨_, rfl, _, _, rfl, rfl, _, rfl, _, rfl, ma, _, (r : Int), r, rfl, rfl, hL2, ix, ⟨_, _, rfl⟩, same_out sm2 hma, ?_⟩
        rw [upd_same, take_get hr0, begMarks_snoc, List.length_take, Nat.min_eq_left (by omega), List.map_set]
        exact congrArg (fun z => some (HO.lst (List.set _ r (V.int z)))) (by omega)
      · obtain ⟨⟨u, v, rfl⟩, s2, hL2⟩ := hP
        rw [List.length_map, List.take_length] at hL2
        refine ⟨_, rfl, rt, rfl, ⟨_, SqT.of (s2 _ _ hR)⟩, fun D1 hD1 => ?_⟩
        refine lc_tup (K := K) (a := rt) (xs := roots.map nV) (fun i H'' => Same H' H'' ∧ ∃ as : List Addr, H'' D1 = some (.lst (as.map V.ref)) ∧ Ways H'' as ((roots.take i).map ([·])) ∧ (∀ a ∈ as, H' a = none) ∧ as.Nodup ∧ D1 ∉ as)
          ⟨same_new hD1, [], upd_same, .nil, nofun, List.nodup_nil, nofun⟩ (fun i H'' _ hP => SqT.of (hP.1 _ _ (s2 _ _ hR))) (fun i x H'' hx hP => ?_) (fun H3 hP => ?_)
        · obtain ⟨sm, as, hL, hway, hnew, hnod, hD⟩ := hP
          obtain ⟨r, hr0, rfl⟩ := map_get_inv hx
          refine ⟨rfl, _, rfl, (by show 1 ≤ sizeLine; decide), fun l hl => ?_⟩
          have hL3 := same_new (o := .lst [nV r]) hl _ _ hL
          have nl : l ≠ D1 := fun z => by
            rw [z, hL] at hl
            cases hl
          have nla : l ∉ as := fun z => by
            obtain ⟨w0, h0⟩ := hway.at z
            rw [h0] at hl
            cases hl
          have hasl : as.length = ((roots.take i).map ([·])).length := Paired.length hway
          rw [List.length_map, List.length_take] at hasl
          refine ⟨_, hL3, small1003 (by rw [List.length_map]; omega), same_out (sm.trans (same_new hl)) hD1, as ++ [l], by rw [upd_same, List.map_append]; rfl, ?_, fun b hb => ?_, ?_, fun z => ?_⟩
          · rw [take_get hr0, List.map_append]
            refine paired_snoc ?_ (hway.kept fun b hb x hx => ?_)
            · rw [upd_ne nl, upd_same]
              rfl
            · rw [upd_ne (fun z => hD (by rw [← z]; exact hb))]
              exact same_new hl _ _ hx
          · rcases List.mem_append.mp hb with h | h
            · exact hnew b h
            · have : b = l := by simpa using h
              rw [this]
              exact none_of sm hl
          · rw [List.nodup_append]
            refine ⟨hnod, by simp, fun x hx y hy e => ?_⟩
            have : y = l := by simpa using hy
            rw [← this, ← e] at nla
            exact nla hx
          · rcases List.mem_append.mp z with h | h
            · exact hD h
            · have : D1 = l := by simpa using h
              exact nl this.symm
        · obtain ⟨s3, as, hL, hway, hnew, hnod, hD⟩ := hP
          rw [List.length_map, List.take_length] at hway
          have m3 := s3 _ _ hL2
          intro od hod
          have a4 := same_new (o := .dK []) hod
          have m4 := a4 _ _ m3
          have e4 : (upd H3 od (.dK [])) od = some (.dK []) := upd_same
          have s4 := (s2.trans s3).trans a4
          have d4 := a4 _ _ hL
          have w4 := hway.kept fun a _ x hx => a4 _ _ hx
          have hod0 := none_of (s2.trans s3) hod
          have mo : ma ≠ od := ne_of_none m3 hod
          have dod : D1 ≠ od := ne_of_none hL hod
          have md : ma ≠ D1 := ne_of_none hL2 hD1
          have wm : ma ∉ as := fun z => by
            have := hnew _ z
            rw [hL2] at this
            cases this
          have wo : od ∉ as := fun z => by
            obtain ⟨w0, h0⟩ := hway.at z
            rw [h0] at hod
            cases hod
          generalize (upd H3 od (.dK [])) = H4 at a4 m4 e4 s4 d4 w4 ⊢
          refine ⟨_, rfl, _, rfl, W, rfl, ⟨_, SqT.of (s4 _ _ hW1)⟩, fun ca hca => ?_⟩
          refine lc_tup (K := K) (a := W) (xs := rs.map V.ref) (fun i H' => Same H4 H' ∧ H' ca = some (.lst ((List.replicate i 0).map nV))) ⟨same_new hca, upd_same⟩ (fun i H' _ hP => SqT.of (hP.1 _ _ (s4 _ _ hW1))) (fun i x H' hx hP => ?_) (fun H5 hP => ?_)
          · obtain ⟨sm, hL⟩ := hP
            have hil : i < web.length := by
              rw [← hrl]
              exact (List.getElem?_eq_some_iff.mp hx).1
            refine ⟨rfl, _, hL, small1003 (by rw [List.length_map, List.length_replicate]; omega), same_out sm hca, ?_⟩
            rw [upd_same, rep_snoc]
          · obtain ⟨s5, hL5⟩ := hP
            rw [hrl] at hL5
            refine ⟨_, rfl, s5 _ _ e4, [(Sum.inr "marks", .ref ma), (Sum.inr "counts", .ref ca), (Sum.inr "ways", .ref D1)], rfl, (by show 3 ≤ 15; decide), ?_⟩
            have cm : ma ≠ ca := ne_of_none m4 hca
            have dc : D1 ≠ ca := ne_of_none d4 hca
            have co : ca ≠ od := (ne_of_none e4 hca).symm
            have hca0 := none_of s4 hca
            have wc : ca ∉ as := fun z => by
              obtain ⟨w0, h0⟩ := w4.at z
              rw [h0] at hca
              cases hca
            have k6 : ∀ {o' : HO} b x, b ≠ od → H5 b = some x → upd H5 od o' b = some x := fun {o'} b x hb e => by
              rw [upd_ne hb]
              exact e
            have s45 := s4.trans s5
            have s6 : Same H (upd H5 od (.dK (mergeK [] [(Sum.inr "marks", .ref ma), (Sum.inr "counts", .ref ca), (Sum.inr "ways", .ref D1)]))) := fun b x e => k6 b x (ne_of_none e hod0) (s45 _ _ e)
            have od6 : upd H5 od (.dK (mergeK [] [(Sum.inr "marks", .ref ma), (Sum.inr "counts", .ref ca), (Sum.inr "ways", .ref D1)])) od = some (.dK [(Sum.inr "marks", .ref ma), (Sum.inr "counts", .ref ca), (Sum.inr "ways", .ref D1)]) := upd_same
            have m6 := k6 (o' := .dK (mergeK [] [(Sum.inr "marks", .ref ma), (Sum.inr "counts", .ref ca), (Sum.inr "ways", .ref D1)])) _ _ mo (s5 _ _ m4)
            have c6 := k6 (o' := .dK (mergeK [] [(Sum.inr "marks", .ref ma), (Sum.inr "counts", .ref ca), (Sum.inr "ways", .ref D1)])) _ _ co hL5
            have d6 := k6 (o' := .dK (mergeK [] [(Sum.inr "marks", .ref ma), (Sum.inr "counts", .ref ca), (Sum.inr "ways", .ref D1)])) _ _ dod (s5 _ _ d4)
            have w6 := w4.kept fun a ha x hx => k6 (o' := .dK (mergeK [] [(Sum.inr "marks", .ref ma), (Sum.inr "counts", .ref ca), (Sum.inr "ways", .ref D1)])) a x (fun z => wo (by rw [← z]; exact ha)) (s5 _ _ hx)
            generalize upd H5 od (.dK (mergeK [] [(Sum.inr "marks", .ref ma), (Sum.inr "counts", .ref ca), (Sum.inr "ways", .ref D1)])) = H6 at s6 od6 m6 c6 d6 w6 ⊢
            refine ⟨_, rfl, rt, rfl, ⟨_, SqT.of (s6 _ _ hR)⟩, fun sa hsa => ?_⟩
            refine lc_tup (K := K) (a := rt) (xs := roots.map nV) (fun i H' => Same H6 H' ∧ H' sa = some (.lst (((roots.take i).map fun _ => (none : Option Nat)).map oV))) ⟨same_new hsa, upd_same⟩ (fun i H' _ hP => SqT.of (hP.1 _ _ (s6 _ _ hR))) (fun i x H' hx hP => ?_) (fun H7 hP => ?_)
            · obtain ⟨sm, hL⟩ := hP
              obtain ⟨r, hr0, rfl⟩ := map_get_inv hx
              have hil : i < roots.length := (List.getElem?_eq_some_iff.mp hr0).1
              refine ⟨rfl, _, hL, small1003 (by rw [List.length_map, List.length_map, List.length_take]; omega), same_out sm hsa, ?_⟩
              rw [upd_same, take_get hr0, List.map_append, List.map_append]
              rfl
            · obtain ⟨s7, hL7⟩ := hP
              rw [List.length_map, List.take_length] at hL7
              refine ⟨_, rfl, od, _, rfl, DPut.k (k := Sum.inr "stops") (s7 _ _ od6) (by show 3 < sizeLine; decide), _, rfl, ?_⟩
              have so : sa ≠ od := (ne_of_none od6 hsa).symm
              have hsa0 := none_of s6 hsa
              have k8 : ∀ {o' : HO} b x, b ≠ od → H6 b = some x → upd H7 od o' b = some x := fun {o'} b x hb e => by
                rw [upd_ne hb]
                exact s7 _ _ e
              refine k _ od ma ca D1 sa as (fun b x e => ?_) ⟨hod0, none_of (Same.refl H) hma, hca0, none_of s2 hD1, hsa0, fun a ha => none_of s2 (hnew a ha)⟩ ⟨by rw [upd_same]; rfl, k8 _ _ mo m6, k8 _ _ co c6, k8 _ _ dod d6, by rw [upd_ne so]; exact hL7, w6.kept fun a ha x hx => k8 a x (fun z => wo (by rw [← z]; exact ha)) hx, ?_⟩
              · exact k8 b x (ne_of_none e hod0) (s6 _ _ e)
              · refine nod5 cm md (ne_of_none m6 hsa) wm dc.symm (ne_of_none c6 hsa) wc (ne_of_none d6 hsa) hD (fun z => ?_) hnod
                obtain ⟨w0, h0⟩ := w6.at z
                rw [h0] at hsa
                cases hsa
theorem sc_law_step : FnScope ["_law_web", "_law_own", "_law_walker", "_law_way", "_law_here", "_law_count", "_law_tie"] ["_law_web", "_law_own", "_law_walker"] (defScope s_law_step) := ⟨rfl, rfl, rfl, by decide +kernel, rfl, by decide +kernel, by decide +kernel⟩
theorem has_law_step (T : Tx mg) (S : Stands K mg "_law_step" s_law_step) : Has P w K mg base 1 "_law_step" ["_law_web", "_law_own", "_law_walker"] spStep := by
  refine S.has sc_law_step (fun _ _ _ _ _ _ us hl => match us, hl with | [_, _, _], _ => rfl) (fun vs H Q E h => ?_) (fun f cdv A outer s H vs Q E hr h => ?_)
  · obtain ⟨W, o, ma, ca, wa, sa, ws, web, k, wi, st, rfl, _⟩ := h
    rfl
  · obtain ⟨W, o, ma, ca, wa, sa, ws, web, k, wi, st, rfl, hW, ok, O, so, hk3, hwk, k0, k1⟩ := h
    have nd := sc_law_step.nd
    have hu := hr.units
    have hu1 := hu_of hr
    refine ⟨_, pss_cons (ps_set (i := 3) nd rfl (Or.inl rfl) (pe_ix ix_list (pe_dget hu1 (pv 1) pe_str (fun _ _ => rfl)) (pe_op op_sub (pv 2) pe_int) (fun _ _ => rfl)))
      (pss_cons (ps_if (pt_cmpR (op_eqE hu) (pv 3) (pe_lst pa_nil) (nomark _)) (pss_one (ps_ret pe_bl)) pss_nil)
      (pss_cons (ps_set (i := 4) nd rfl (Or.inl rfl) (pe_ix ix_list (pv 3) (pe_un un_neg pe_int) (fun _ _ => rfl)))
      (pss_cons (ps_set (i := 5) nd rfl (Or.inl rfl) (pe_ix ix_list (pe_dget hu1 (pv 1) pe_str (fun _ _ => rfl)) (pv 4) (fun _ _ => rfl)))
      (pss_cons (ps_if (pt_cmpR op_eq (pv 5) (pe_callB call_len_seq (by rfl) T.len PySem.boot_len (pa_cons (pe_ix ix_tup (pv 0) (pv 4) (fun _ _ => rfl)) pa_nil)) (nomark _))
          (pss_cons (ps_asg pe_int (pg_sub (pe_dget hu1 (pv 1) pe_str (fun _ _ => rfl)) (pv 4) set_list))
          (pss_cons (ps_expr (pe_bm0 PySem.F.plainAttrs_list PySem.F.slot_list_pop PySem.F.type_list_pop mt_pop (pv 3)))
          (pss_cons (ps_if (pt_cmpR (op_eqE hu) (pv 3) (pe_lst pa_nil) (nomark _))
              (pss_one (ps_asg (pv 4) (pg_sub (pe_dget hu1 (pv 1) pe_str (fun _ _ => rfl)) (pe_op op_sub (pv 2) pe_int) set_list)))
              (pss_one (ps_asg (pe_op op_add (pe_ix ix_list (pe_dget hu1 (pv 1) pe_str (fun _ _ => rfl)) (pe_ix ix_list (pv 3) (pe_un un_neg pe_int) (fun _ _ => rfl)) (fun _ _ => rfl)) pe_int) (pg_sub (pe_dget hu1 (pv 1) pe_str (fun _ _ => rfl)) (pe_ix ix_list (pv 3) (pe_un un_neg pe_int) (fun _ _ => rfl)) set_list))))
          (pss_one (ps_ret pe_bl))))) pss_nil)
      (pss_cons (ps_set (i := 6) nd rfl (Or.inl rfl) (pe_ix ix_tup (pe_ix ix_tup (pv 0) (pv 4) (fun _ _ => rfl)) (pv 5) (fun _ _ => rfl)))
      (pss_cons (ps_if (PW.pt (pw_or (pt_cmpR op_isN (pv 6) pe_non (nomark _)) (pw_or1 (pt_cmpR op_ne (pe_ix ix_list (pe_dget hu1 (pv 1) pe_str (fun _ _ => rfl)) (pv 6) (fun _ _ => rfl)) pe_int (nomark _)))))
          (pss_one (ps_asg (pe_op op_add (pv 5) pe_int) (pg_sub (pe_dget hu1 (pv 1) pe_str (fun _ _ => rfl)) (pv 4) set_list)))
          (pss_cons (ps_asg (pv 2) (pg_sub (pe_dget hu1 (pv 1) pe_str (fun _ _ => rfl)) (pv 6) set_list))
          (pss_one (ps_expr (pe_bm PySem.F.plainAttrs_list PySem.F.slot_list_append PySem.F.type_list_append mt_append (pv 3) (pa_cons (pv 6) pa_nil))))))
      (pss_one (ps_ret pe_bl)))))))), ?_⟩
    obtain ⟨rs, hW1, hW2, hW3⟩ := id hW
    have h4 := ok.four
    have hwl : wi < st.ways.length := by
      rw [so.lenW]
      exact hwk
    obtain ⟨a, hwa, hal⟩ := paired_get O.wys (getD_get (d := []) hwl)
    have ha := List.mem_of_getElem? hwa
    have ei : ((wi + 1 : Nat) : Int) - 1 = (wi : Int) := by omega
    refine ⟨_, rfl, o, _, rfl, getW O.own, _, rfl, _, _, rfl, rfl, wa, _, (wi : Int), .ref a, rfl, congrArg V.int ei, SqL.of O.wyl, atI_nat (map_get V.ref hwa), ?_⟩
    refine ⟨_, rfl, Nat.zero_le _, fun nl hnl => ⟨a, nl, _, rfl, rfl, SqL.of (same_new hnl _ _ hal), Dat.nums _, SqL.of upd_same, _, rfl, ?_⟩⟩
    have s1 : Same H (upd H nl (.lst [])) := same_new hnl
    have hkept : ∀ (H2 : Hp) (p : Addr) (x : HO), p ∈ (ma :: ca :: wa :: sa :: ws) → ∀ b y, b ∉ (ma :: ca :: wa :: sa :: ws) → H2 b = some y → upd H2 p x b = some y := fun H2 p x hp b y hb e => by
      rw [upd_ne (fun z => hb (by rw [z]; exact hp))]
      exact e
    have inC : ca ∈ (ma :: ca :: wa :: sa :: ws) := by simp
    have inM : ma ∈ (ma :: ca :: wa :: sa :: ws) := by simp
    have inS : sa ∈ (ma :: ca :: wa :: sa :: ws) := by simp
    have inA : a ∈ (ma :: ca :: wa :: sa :: ws) := by simp [ha]
    have O1 := O.same s1
    have hal1 := s1 _ _ hal
    generalize (upd H nl (.lst [])) = H1 at s1 O1 hal1 ⊢
    have hWe : ∀ x, x < web.length → (H1 W = some (.tup (rs.map V.ref))) := fun _ _ => s1 _ _ hW1
    have elen : (((st.ways.getD wi []).reverse.map nV).isEmpty) = (st.ways.getD wi []).isEmpty := by cases st.ways.getD wi [] <;> simp
    rw [elen]
    cases e : st.ways.getD wi [] with
    | nil => exact iteT (k0 (step_nil e) _ s1)
    | cons x xs =>
      rw [e] at hal1 hal
      have hx : x < web.length := so.way wi hwk x (by rw [e]; exact List.mem_cons_self)
      have htop := so.top wi hwk x xs e
      have hwl4 := so.wl wi hwk
      rw [e, List.length_cons] at hwl4
      have est := step_cons (web := web) e
      have hxC : x < st.counts.length := by
        rw [so.lenC]
        exact hx
      have hal2 : H1 a = some (.lst (xs.reverse.map nV ++ [nV x])) := by rw [hal1, rev_cons]
      refine iteF ⟨_, rfl, 1, rfl, a, _, (-1 : Int), nV x, rfl, rfl, SqL.of hal2, atI_last, ?_⟩
      refine ⟨_, rfl, o, _, rfl, getC O1.own, _, rfl, ca, _, (x : Int), nV (st.counts.getD x 0), rfl, rfl, SqL.of O1.cts, atI_nat (map_get nV (getD_get hxC)), ?_⟩
      refine ⟨_, rfl, _, rfl, _, rfl, W, _, _, .ref (rs.getD x 0), rfl, rfl, SqT.of (s1 _ _ hW1), atI_nat (map_get V.ref (getD_get (by rw [hW2]; exact hx))), rs.getD x 0, _, rfl, .inr (SqT.of (s1 _ _ (hW3 x hx))), rfl, _, rfl, ?_⟩
      have hdeg : ((web.getD x []).map oV).length = deg web x := by
        rw [List.length_map]
        rfl
      rw [hdeg]
      by_cases c : st.counts.getD x 0 = deg web x
      · rw [decide_eq_true (show nV (st.counts.getD x 0) = V.int (deg web x : Nat) from congrArg V.int (by omega))]
        refine iteT ?_
        refine ⟨_, rfl, o, _, rfl, getC O1.own, _, rfl, ca, _, (x : Int), x, rfl, rfl, O1.cts, ixN_nat (by rw [List.length_map]; exact hxC), ?_⟩
        have eset : (st.counts.map nV).set x (.int 0) = (st.counts.set x 0).map nV := by
          rw [List.map_set]
          rfl
        rw [eset]
        have O2 := O1.setC (st.counts.set x 0)
        have n7 := O1.ne.2.1.2.2
        have hal3 : upd H1 ca (.lst ((st.counts.set x 0).map nV)) a = some (.lst (xs.reverse.map nV ++ [nV x])) := by
          rw [upd_ne (fun z => n7 (by rw [← z]; exact ha))]
          exact hal2
        have kp2 : ∀ b y, b ∉ (ma :: ca :: wa :: sa :: ws) → H b = some y → upd H1 ca (.lst ((st.counts.set x 0).map nV)) b = some y := fun b y hb hy => hkept H1 ca _ inC b y hb (s1 _ _ hy)
        generalize upd H1 ca (.lst ((st.counts.set x 0).map nV)) = H2 at O2 hal3 kp2 ⊢
        refine ⟨_, rfl, .inl ⟨rfl, _, SqL.of hal3⟩, a, _, nV x, rfl, rfl, hal3, by simp, ?_⟩
        have edrop : (xs.reverse.map nV ++ [nV x]).dropLast = xs.reverse.map nV := List.dropLast_concat
        rw [edrop]
        have O3 := O2.setW hwa xs
        have hal4 : upd H2 a (.lst (xs.reverse.map nV)) a = some (.lst (xs.reverse.map nV)) := upd_same
        have kp3 : ∀ b y, b ∉ (ma :: ca :: wa :: sa :: ws) → H b = some y → upd H2 a (.lst (xs.reverse.map nV)) b = some y := fun b y hb hy => hkept H2 a _ inA b y hb (kp2 b y hb hy)
        generalize upd H2 a (.lst (xs.reverse.map nV)) = H3 at O3 hal4 kp3 ⊢
        refine ⟨_, rfl, Nat.zero_le _, fun nl2 hnl2 => ⟨a, nl2, _, rfl, rfl, SqL.of (same_new hnl2 _ _ hal4), Dat.nums _, SqL.of upd_same, _, rfl, ?_⟩⟩
        have O4 := O3.same (same_new (o := .lst []) hnl2)
        have hal5 := same_new (o := .lst []) hnl2 _ _ hal4
        have kp4 : ∀ b y, b ∉ (ma :: ca :: wa :: sa :: ws) → H b = some y → upd H3 nl2 (.lst []) b = some y := fun b y hb hy => same_new (o := .lst []) hnl2 _ _ (kp3 b y hb hy)
        generalize upd H3 nl2 (.lst []) = H4 at O4 hal5 kp4 ⊢
        cases xs with
        | nil =>
          refine iteT ⟨_, rfl, _, rfl, o, _, rfl, getS O4.own, _, rfl, _, _, rfl, rfl, sa, _, (wi : Int), wi, rfl, congrArg V.int ei, O4.sts, ixN_nat (by rw [List.length_map]; show wi < st.stops.length; rw [so.lenS]; exact hwk), ?_⟩
          have eset2 : (st.stops.map oV).set wi (nV x) = (st.stops.set wi (some x)).map oV := by
            rw [List.map_set]
            rfl
          have O5 := O4.setS (st.stops.set wi (some x))
          refine k1 _ (est.trans ?_) _ (fun b y hb hy => hkept H4 sa _ inS b y hb (kp4 b y hb hy)) (by
            show OwnAt (upd H4 sa (.lst ((st.stops.map oV).set wi (nV x)))) o ma ca wa sa ws _
            rw [eset2]
            exact O5)
          unfold stepAt
          rw [if_pos c]
        | cons b bs =>
          have hb : b < web.length := so.way wi hwk b (by rw [e]; simp)
          have hbC : b < (st.counts.set x 0).length := by
            rw [List.length_set, so.lenC]
            exact hb
          have hal6 : H4 a = some (.lst (bs.reverse.map nV ++ [nV b])) := by rw [hal5, rev_cons]
          have ee : (((b :: bs).reverse.map nV).isEmpty) = false := by simp
          rw [ee]
          refine iteF ⟨_, rfl, o, _, rfl, getC O4.own, _, rfl, 1, rfl, a, _, (-1 : Int), nV b, rfl, rfl, SqL.of hal6, atI_last, ca, _, (b : Int), nV ((st.counts.set x 0).getD b 0), rfl, rfl, SqL.of O4.cts, atI_nat (map_get nV (getD_get hbC)), _, _, rfl, rfl, ?_⟩
          refine ⟨_, rfl, o, _, rfl, getC O4.own, _, rfl, 1, rfl, a, _, (-1 : Int), nV b, rfl, rfl, SqL.of hal6, atI_last, ca, _, (b : Int), b, rfl, rfl, O4.cts, ixN_nat (by rw [List.length_map]; exact hbC), ?_⟩
          have eset2 : ((st.counts.set x 0).map nV).set b (V.int (((st.counts.set x 0).getD b 0 : Nat) + 1 : Int)) = ((st.counts.set x 0).set b ((st.counts.set x 0).getD b 0 + 1)).map nV := by
            have e1 : V.int (((st.counts.set x 0).getD b 0 : Nat) + 1 : Int) = nV ((st.counts.set x 0).getD b 0 + 1) := congrArg V.int (by omega)
            rw [e1]
            exact (List.map_set ..).symm
          have O5 := O4.setC ((st.counts.set x 0).set b ((st.counts.set x 0).getD b 0 + 1))
          refine k1 _ (est.trans ?_) _ (fun d y hd hy => hkept H4 ca _ inC d y hd (kp4 d y hd hy)) (by
            show OwnAt (upd H4 ca (.lst (((st.counts.set x 0).map nV).set b (V.int (((st.counts.set x 0).getD b 0 : Nat) + 1 : Int))))) o ma ca wa sa ws _
            rw [eset2]
            exact O5)
          unfold stepAt
          rw [if_pos c]
      · rw [decide_eq_false (show ¬ nV (st.counts.getD x 0) = V.int (deg web x : Nat) from fun z => c (by have := V.int.inj z; omega))]
        have hcd : st.counts.getD x 0 < deg web x := by omega
        refine iteF ⟨_, rfl, _, rfl, W, _, _, .ref (rs.getD x 0), rfl, rfl, SqT.of (s1 _ _ hW1), atI_nat (map_get V.ref (getD_get (by rw [hW2]; exact hx))), _, rfl, rs.getD x 0, _, _, oV (tie web x (st.counts.getD x 0)), rfl, rfl, SqT.of (s1 _ _ (hW3 x hx)), atI_nat (map_get oV (getD_get hcd)), ?_⟩
        have kp1 : ∀ b y, b ∉ (ma :: ca :: wa :: sa :: ws) → H b = some y → H1 b = some y := fun b y _ hy => s1 _ _ hy
        have eset : (st.counts.map nV).set x (V.int ((st.counts.getD x 0 : Nat) + 1 : Int)) = (st.counts.set x (st.counts.getD x 0 + 1)).map nV := by
          rw [List.map_set]
          exact congrArg (fun z => List.set _ x (V.int z)) (by omega)
        have O5 := O1.setC (st.counts.set x (st.counts.getD x 0 + 1))
        cases ht : tie web x (st.counts.getD x 0) with
        | none =>
          refine ⟨_, rfl, rfl, _, rfl, iteT (iteT ⟨_, rfl, _, _, rfl, rfl, _, rfl, o, _, rfl, getC O1.own, _, rfl, ca, _, (x : Int), x, rfl, rfl, O1.cts, ixN_nat (by rw [List.length_map]; exact hxC), ?_⟩)⟩
          refine k1 _ (est.trans ?_) _ (fun b y hb hy => hkept H1 ca _ inC b y hb (kp1 b y hb hy)) (by
            show OwnAt (upd H1 ca (.lst ((st.counts.map nV).set x (V.int ((st.counts.getD x 0 : Nat) + 1 : Int))))) o ma ca wa sa ws _
            rw [eset]
            exact O5)
          unfold stepAt
          rw [if_neg c, ht]
        | some t =>
          have htl : t < web.length := ok.tie_lt ht
          have htM : t < st.marks.length := by
            rw [so.lenM]
            exact htl
          refine ⟨_, rfl, rfl, _, rfl, iteF ⟨_, rfl, o, _, rfl, getM O1.own, _, rfl, ma, _, (t : Int), nV (st.marks.getD t 0), rfl, rfl, SqL.of O1.mks, atI_nat (map_get nV (getD_get htM)), rfl, _, rfl, ?_⟩⟩
          by_cases d : st.marks.getD t 0 = 0
          · rw [decide_eq_true (show nV (st.marks.getD t 0) = V.int 0 from congrArg V.int (by omega))]
            refine iteF ⟨_, rfl, _, rfl, o, _, rfl, getM O1.own, _, rfl, ma, _, (t : Int), t, rfl, rfl, O1.mks, ixN_nat (by rw [List.length_map]; exact htM), ?_⟩
            have eset3 : (st.marks.map nV).set t (nV (wi + 1)) = (st.marks.set t (wi + 1)).map nV := by
              rw [List.map_set]
            have O6 := O1.setM (st.marks.set t (wi + 1))
            have n4 := O1.ne.1.2.2.2
            have hal7 : upd H1 ma (.lst ((st.marks.map nV).set t (nV (wi + 1)))) a = some (.lst (xs.reverse.map nV ++ [nV x])) := by
              rw [upd_ne (fun z => n4 (by rw [← z]; exact ha))]
              exact hal2
            rw [← eset3] at O6
            have kp6 : ∀ b y, b ∉ (ma :: ca :: wa :: sa :: ws) → H b = some y → upd H1 ma (.lst ((st.marks.map nV).set t (nV (wi + 1)))) b = some y := fun b y hb hy => hkept H1 ma _ inM b y hb (kp1 b y hb hy)
            generalize upd H1 ma (.lst ((st.marks.map nV).set t (nV (wi + 1)))) = H6 at O6 hal7 kp6 ⊢
            refine ⟨_, rfl, .inl ⟨rfl, _, SqL.of hal7⟩, _, rfl, a, _, nV t, rfl, rfl, hal7, small1003 (by rw [List.length_append, List.length_map, List.length_reverse, List.length_singleton]; omega), ?_⟩
            have O7 := O6.setW hwa (t :: x :: xs)
            have eap : xs.reverse.map nV ++ [nV x] ++ [nV t] = (t :: x :: xs).reverse.map nV := by
              rw [rev_cons, rev_cons]
            refine k1 _ (est.trans ?_) _ (fun b y hb hy => hkept H6 a _ inA b y hb (kp6 b y hb hy)) (by
              show OwnAt (upd H6 a (.lst (xs.reverse.map nV ++ [nV x] ++ [nV t]))) o ma ca wa sa ws _
              rw [eap]
              exact O7)
            unfold stepAt
            rw [if_neg c, ht]
            simp only
            rw [if_pos d]
          · rw [decide_eq_false (show ¬ nV (st.marks.getD t 0) = V.int 0 from fun z => d (by have := V.int.inj z; omega))]
            refine iteT ⟨_, rfl, _, _, rfl, rfl, _, rfl, o, _, rfl, getC O1.own, _, rfl, ca, _, (x : Int), x, rfl, rfl, O1.cts, ixN_nat (by rw [List.length_map]; exact hxC), ?_⟩
            refine k1 _ (est.trans ?_) _ (fun b y hb hy => hkept H1 ca _ inC b y hb (kp1 b y hb hy)) (by
              show OwnAt (upd H1 ca (.lst ((st.counts.map nV).set x (V.int ((st.counts.getD x 0 : Nat) + 1 : Int))))) o ma ca wa sa ws _
              rw [eset]
              exact O5)
            unfold stepAt
            rw [if_neg c, ht]
            simp only
            rw [if_neg d]
theorem sc_law_is_over : FnScope ["_law_own", "_law_way"] ["_law_own"] (defScope s_law_is_over) := ⟨rfl, rfl, rfl, by decide +kernel, rfl, by decide +kernel, by decide +kernel⟩
theorem has_law_is_over (T : Tx mg) (S : Stands K mg "_law_is_over" s_law_is_over) : Has P w K mg base 1 "_law_is_over" ["_law_own"] spIsOver := by
  refine S.has sc_law_is_over (fun _ _ _ _ _ _ us hl => match us, hl with | [_], _ => rfl) (fun vs H Q E h => ?_) (fun f cdv A outer s H vs Q E hr h => ?_)
  · obtain ⟨o, ma, ca, wa, sa, ws, st, rfl, _⟩ := h
    rfl
  · obtain ⟨o, ma, ca, wa, sa, ws, st, rfl, O, hl3, k⟩ := h
    have nd := sc_law_is_over.nd
    have hu := hr.units
    have hu1 := hu_of hr
    refine ⟨_, pss_one (ps_ret (pe_cmpR (op_eqE hu) (pe_lc (own := [("_law_way", 1)]) (g := gName 1) rfl nd (pi_list (pe_dget hu1 (pv 0) pe_str (fun _ _ => rfl)))
        (blkOk_by (N := ["_law_own", "_law_way"]) (sc := defScope s_law_is_over) (by decide +kernel)) (fun _ _ _ _ _ => pg_name (i := 1) nd rfl (Or.inl rfl))
        (fun _ _ _ _ _ => pts_one (pt_cmpR (r := rNeE K) (op_neE hu) (pv 1) (pe_lst pa_nil) (nomark _))) (fun _ _ _ _ _ => pv 1)) (pe_lst pa_nil) (nomark _))), ?_⟩
    refine ⟨_, rfl, o, _, rfl, getW O.own, wa, rfl, ⟨_, SqL.of O.wyl⟩, fun D1 hD1 => ?_⟩
    have hwl : ws.length = st.ways.length := Paired.length O.wys
    refine lc_list (K := K) (a := wa) (xs := ws.map V.ref) (fun i H' => Same H H' ∧ ∃ as : List Addr, H' D1 = some (.lst (as.map V.ref)) ∧ as.length ≤ i ∧ (∀ a ∈ as, ∃ way : List Nat, H a = some (.lst (way.map nV))) ∧ as.isEmpty = (st.ways.take i).all (·.isEmpty))
      ⟨same_new hD1, [], upd_same, Nat.le_refl _, nofun, rfl⟩ (fun i H' _ hP => SqL.of (hP.1 _ _ O.wyl)) (fun i x H' hx hP => ?_) (fun H' hP => ?_)
    · obtain ⟨sm, as, hL, hal, haw, hae⟩ := hP
      obtain ⟨a, ha0, rfl⟩ := map_get_inv hx
      have hil : i < st.ways.length := by
        rw [← hwl]
        exact (List.getElem?_eq_some_iff.mp ha0).1
      have hwi := List.getElem?_eq_getElem hil
      obtain ⟨b, e1, hwy⟩ := paired_get O.wys hwi
      rw [ha0] at e1
      cases e1
      generalize st.ways[i] = way at hwi hwy
      refine ⟨rfl, _, rfl, Nat.zero_le _, fun nl hnl => ⟨a, nl, _, rfl, rfl, SqL.of (same_new hnl _ _ (sm _ _ hwy)), Dat.nums _, SqL.of upd_same, _, rfl, ?_⟩⟩
      have sm2 := sm.trans (same_new (o := .lst []) hnl)
      have hL2 := same_new (o := .lst []) hnl _ _ hL
      have ee : ((way.reverse.map nV).isEmpty) = way.isEmpty := by cases way <;> simp
      rw [ee]
      cases way with
      | nil =>
        refine iteF ⟨sm2, as, hL2, by omega, haw, ?_⟩
        rw [hae, take_get hwi, List.all_append]
        simp
      | cons x xs =>
        refine iteT ⟨_, rfl, _, hL2, small1003 (by rw [List.length_map]; omega), same_out sm2 hD1, as ++ [a], by rw [upd_same, List.map_append]; rfl, by rw [List.length_append]; exact Nat.succ_le_succ hal, fun b hb => ?_, ?_⟩
        · rcases List.mem_append.mp hb with h | h
          · exact haw b h
          · have : b = a := by simpa using h
            rw [this]
            exact ⟨_, hwy⟩
        · rw [take_get hwi, List.all_append]
          cases as <;> simp
    · obtain ⟨sm, as, hL, hal, haw, hae⟩ := hP
      rw [List.length_map, hwl, List.take_length] at hae
      refine ⟨Nat.zero_le _, fun nl hnl => ⟨D1, nl, as.map V.ref, rfl, rfl, SqL.of (same_new hnl _ _ hL), Dat.all (f := fun _ => none) fun x hx => ?_, SqL.of upd_same, ?_⟩⟩
      · obtain ⟨a, ha, rfl⟩ := List.mem_map.mp hx
        obtain ⟨way, hway⟩ := haw a ha
        obtain ⟨d1, d2, d3⟩ := nums_data (K := K) (H := upd H' nl (.lst [])) way
        refine ⟨_, .lst (SqL.of (same_new hnl _ _ (sm _ _ hway))) d1, by simp only [PyData.canLay0]; exact d2, by simp only [PyData.depth]; omega⟩
      · have e : (as.map V.ref).isEmpty = over st := by
          unfold over
          rw [← hae]
          cases as <;> rfl
        rw [e]
        exact k _ (sm.trans (same_new hnl))
theorem sc_law_copied : FnScope ["_law_own", "_law_ways", "_law_found", "_law_way"] ["_law_own"] (defScope s_law_copied) := ⟨rfl, rfl, rfl, by decide +kernel, rfl, by decide +kernel, by decide +kernel⟩
theorem has_law_copied (T : Tx mg) (S : Stands K mg "_law_copied" s_law_copied) : Has P w K mg base 1 "_law_copied" ["_law_own"] spCopied := by
  refine S.has sc_law_copied (fun _ _ _ _ _ _ us hl => match us, hl with | [_], _ => rfl) (fun vs H Q E h => ?_) (fun f cdv A outer s H vs Q E hr h => ?_)
  · obtain ⟨o, ma, ca, wa, sa, ws, st, rfl, _⟩ := h
    rfl
  · obtain ⟨o, ma, ca, wa, sa, ws, st, rfl, O, hl3, k⟩ := h
    have nd := sc_law_copied.nd
    have hu1 := hu_of hr
    refine ⟨_, pss_cons (ps_setLc (i := 1) (own := [("_law_way", 3)]) (g := gName 3) (tt := tYes) rfl nd rfl rfl (sw_true rfl rfl rfl (by decide +kernel)) (pi_list (pe_dget hu1 (pv 0) pe_str (fun _ _ => rfl)))
        (blkOk_by (N := ["_law_own", "_law_ways", "_law_found", "_law_way"]) (sc := defScope s_law_copied) (by decide +kernel)) (fun _ _ _ _ _ => pg_name (i := 3) nd rfl (Or.inl rfl)) (fun _ _ _ _ _ => pts_nil)
        (fun _ _ _ _ _ => pe_callTy (r := rListOf K) call_list_of (by rfl) T.list boot_list (pa_cons (pv 3) pa_nil)))
      (pss_cons (ps_set (i := 2) nd rfl (Or.inl rfl) (pe_disp (pps_cons pe_str (pe_callTy call_list_of (by rfl) T.list boot_list (pa_cons (pe_dget hu1 (pv 0) pe_str (fun _ _ => rfl)) pa_nil))
          (pps_cons pe_str (pe_callTy call_list_of (by rfl) T.list boot_list (pa_cons (pe_dget hu1 (pv 0) pe_str (fun _ _ => rfl)) pa_nil)) (pps_cons pe_str (pv 1) pps_nil))) (by rfl) (by rfl) (fun z => by cases z) (by decide)))
      (pss_cons (ps_dput hu1 (pv 2) pe_str (pe_callTy call_list_of (by rfl) T.list boot_list (pa_cons (pe_dget hu1 (pv 0) pe_str (fun _ _ => rfl)) pa_nil)) rfl)
      (pss_one (ps_ret (pv 2))))), ?_⟩
    have hwl : ws.length = st.ways.length := Paired.length O.wys
    refine ⟨_, rfl, o, _, rfl, getW O.own, wa, rfl, ⟨_, SqL.of O.wyl⟩, fun D1 hD1 => ?_⟩
    refine lc_list (K := K) (a := wa) (xs := ws.map V.ref) (fun i H' => Same H H' ∧ ∃ as : List Addr, H' D1 = some (.lst (as.map V.ref)) ∧ Ways H' as (st.ways.take i) ∧ (∀ a ∈ as, H a = none) ∧ as.Nodup ∧ D1 ∉ as)
      ⟨same_new hD1, [], upd_same, .nil, nofun, List.nodup_nil, nofun⟩ (fun i H' _ hP => SqL.of (hP.1 _ _ O.wyl)) (fun i x H' hx hP => ?_) (fun H1 hP => ?_)
    · obtain ⟨sm, as, hL, hway, hnew, hnod, hD⟩ := hP
      obtain ⟨a, ha0, rfl⟩ := map_get_inv hx
      have hil : i < st.ways.length := by
        rw [← hwl]
        exact (List.getElem?_eq_some_iff.mp ha0).1
      have hwi := List.getElem?_eq_getElem hil
      obtain ⟨b, e1, hwy⟩ := paired_get O.wys hwi
      rw [ha0] at e1
      cases e1
      generalize st.ways[i] = way at hwi hwy
      refine ⟨rfl, _, rfl, a, _, rfl, .inl (SqL.of (sm _ _ hwy)), fun l hl => ?_⟩
      have hL2 := same_new (o := .lst (way.reverse.map nV)) hl _ _ hL
      have nl : l ≠ D1 := fun z => by
        rw [z, hL] at hl
        cases hl
      have nla : l ∉ as := fun z => by
        obtain ⟨w0, h0⟩ := hway.at z
        rw [h0] at hl
        cases hl
      have hasl : as.length = (st.ways.take i).length := Paired.length hway
      rw [List.length_take] at hasl
      refine ⟨_, hL2, small1003 (by rw [List.length_map]; omega), same_out (sm.trans (same_new hl)) hD1, as ++ [l], by rw [upd_same, List.map_append]; rfl, ?_, fun b hb => ?_, ?_, fun z => ?_⟩
      · rw [take_get hwi]
        refine paired_snoc ?_ (hway.kept fun b hb x hx => ?_)
        · rw [upd_ne nl, upd_same]
        · rw [upd_ne (fun z => hD (by rw [← z]; exact hb))]
          exact same_new hl _ _ hx
      · rcases List.mem_append.mp hb with h | h
        · exact hnew b h
        · have : b = l := by simpa using h
          rw [this]
          exact none_of sm hl
      · rw [List.nodup_append]
        refine ⟨hnod, by simp, fun x hx y hy e => ?_⟩
        have : y = l := by simpa using hy
        rw [← this, ← e] at nla
        exact nla hx
      · rcases List.mem_append.mp z with h | h
        · exact hD h
        · have : D1 = l := by simpa using h
          exact nl this.symm
    · obtain ⟨s1, as, hL, hway, hnew, hnod, hD⟩ := hP
      rw [List.length_map, hwl, List.take_length] at hway
      intro od hod
      have O2 := O.same (s1.trans (same_new (o := .dK []) hod))
      refine ⟨_, rfl, o, _, rfl, getM O2.own, ma, _, rfl, .inl (SqL.of O2.mks), fun ma' hma => ?_⟩
      have O3 := O2.same (same_new (o := .lst (st.marks.map nV)) hma)
      refine ⟨_, rfl, o, _, rfl, getC O3.own, ca, _, rfl, .inl (SqL.of O3.cts), fun ca' hca => ?_⟩
      have O4 := O3.same (same_new (o := .lst (st.counts.map nV)) hca)
      have a2 := same_new (o := .dK []) hod
      have a3 := same_new (o := .lst (st.marks.map nV)) hma
      have a4 := same_new (o := .lst (st.counts.map nV)) hca
      refine ⟨_, rfl, a4 _ _ (a3 _ _ upd_same), [(Sum.inr "marks", .ref ma'), (Sum.inr "counts", .ref ca'), (Sum.inr "ways", .ref D1)], rfl, (by show 3 ≤ 15; decide), ?_⟩
      have e2 : (upd H1 od (.dK [])) od = some (.dK []) := upd_same
      have e3 : (upd (upd H1 od (.dK [])) ma' (.lst (st.marks.map nV))) ma' = some (.lst (st.marks.map nV)) := upd_same
      have e4 : (upd (upd (upd H1 od (.dK [])) ma' (.lst (st.marks.map nV))) ca' (.lst (st.counts.map nV))) ca' = some (.lst (st.counts.map nV)) := upd_same
      have hma0 := none_of (s1.trans a2) hma
      have hca0 := none_of ((s1.trans a2).trans a3) hca
      have hod0 := none_of s1 hod
      have mo : ma' ≠ od := (ne_of_none e2 hma).symm
      have cm : ma' ≠ ca' := ne_of_none e3 hca
      have co : ca' ≠ od := (ne_of_none (a3 _ _ e2) hca).symm
      have dm : D1 ≠ ma' := ne_of_none (a2 _ _ hL) hma
      have dc : D1 ≠ ca' := ne_of_none (a3 _ _ (a2 _ _ hL)) hca
      have dod : D1 ≠ od := ne_of_none hL hod
      have s4 := (s1.trans a2).trans (a3.trans a4)
      have m4 : (upd (upd (upd H1 od (.dK [])) ma' (.lst (st.marks.map nV))) ca' (.lst (st.counts.map nV))) ma' = _ := a4 _ _ e3
      have d4 := a4 _ _ (a3 _ _ (a2 _ _ hL))
      have w4 := hway.kept fun a _ x hx => a4 _ _ (a3 _ _ (a2 _ _ hx))
      have wm : ma' ∉ as := fun z => by
        obtain ⟨w0, h0⟩ := hway.at z
        rw [a2 _ _ h0] at hma
        cases hma
      have wc : ca' ∉ as := fun z => by
        obtain ⟨w0, h0⟩ := hway.at z
        rw [a3 _ _ (a2 _ _ h0)] at hca
        cases hca
      have wo : od ∉ as := fun z => by
        obtain ⟨w0, h0⟩ := hway.at z
        rw [h0] at hod
        cases hod
      generalize (upd (upd (upd H1 od (.dK [])) ma' (.lst (st.marks.map nV))) ca' (.lst (st.counts.map nV))) = H4 at O4 s4 e4 m4 d4 w4 ⊢
      clear hma hca hod e2 e3 a2 a3 a4 O2 O3
      have k5 : ∀ {o' : HO} b x, b ≠ od → H4 b = some x → upd H4 od o' b = some x := fun {o'} b x hb e => by
        rw [upd_ne hb]
        exact e
      have s5 : Same H (upd H4 od (.dK (mergeK [] [(Sum.inr "marks", .ref ma'), (Sum.inr "counts", .ref ca'), (Sum.inr "ways", .ref D1)]))) := fun b x e => k5 b x (ne_of_none e hod0) (s4 _ _ e)
      have O5 := O.same s5
      have od5 : upd H4 od (.dK (mergeK [] [(Sum.inr "marks", .ref ma'), (Sum.inr "counts", .ref ca'), (Sum.inr "ways", .ref D1)])) od = some (.dK [(Sum.inr "marks", .ref ma'), (Sum.inr "counts", .ref ca'), (Sum.inr "ways", .ref D1)]) := upd_same
      have m5 := k5 (o' := .dK (mergeK [] [(Sum.inr "marks", .ref ma'), (Sum.inr "counts", .ref ca'), (Sum.inr "ways", .ref D1)])) _ _ mo m4
      have c5 := k5 (o' := .dK (mergeK [] [(Sum.inr "marks", .ref ma'), (Sum.inr "counts", .ref ca'), (Sum.inr "ways", .ref D1)])) _ _ co e4
      have d5 := k5 (o' := .dK (mergeK [] [(Sum.inr "marks", .ref ma'), (Sum.inr "counts", .ref ca'), (Sum.inr "ways", .ref D1)])) _ _ dod d4
      have w5 := w4.kept fun a ha x hx => k5 (o' := .dK (mergeK [] [(Sum.inr "marks", .ref ma'), (Sum.inr "counts", .ref ca'), (Sum.inr "ways", .ref D1)])) a x (fun z => wo (by rw [← z]; exact ha)) hx
      generalize upd H4 od (.dK (mergeK [] [(Sum.inr "marks", .ref ma'), (Sum.inr "counts", .ref ca'), (Sum.inr "ways", .ref D1)])) = H5 at s5 O5 od5 m5 c5 d5 w5 ⊢
      refine ⟨_, rfl, o, _, rfl, getS O5.own, sa, _, rfl, .inl (SqL.of O5.sts), fun sa' hsa => ?_⟩
      have a6 := same_new (o := .lst (st.stops.map oV)) hsa
      refine ⟨_, rfl, od, _, rfl, DPut.k (k := Sum.inr "stops") (a6 _ _ od5) (by show 3 < sizeLine; decide), _, rfl, ?_⟩
      have so : sa' ≠ od := (ne_of_none od5 hsa).symm
      have hsa0 := none_of s5 hsa
      have k7 : ∀ {o' : HO} b x, b ≠ od → H5 b = some x → upd (upd H5 sa' (.lst (st.stops.map oV))) od o' b = some x := fun {o'} b x hb e => by
        rw [upd_ne hb]
        exact a6 _ _ e
      refine k _ od ma' ca' D1 sa' as (fun b x e => ?_) ⟨hod0, hma0, hca0, none_of (Same.refl H) hD1, hsa0, hnew⟩ ⟨by rw [upd_same]; rfl, k7 _ _ mo m5, k7 _ _ co c5, k7 _ _ dod d5, by rw [upd_ne so, upd_same], w5.kept fun a ha x hx => k7 a x (fun z => wo (by rw [← z]; exact ha)) hx, ?_⟩
      · exact k7 b x (ne_of_none e hod0) (s5 _ _ e)
      · refine nod5 cm dm.symm (ne_of_none m5 hsa) wm dc.symm (ne_of_none c5 hsa) wc (ne_of_none d5 hsa) hD (fun z => ?_) hnod
        obtain ⟨w0, h0⟩ := w5.at z
        rw [h0] at hsa
        cases hsa
end
end TB

set_option maxRecDepth 100000
set_option maxHeartbeats 4000000
/-! repr of a state tells the state. -/
namespace TB
open PySem PySem.Spec PyProof.Rows L2
def cp (s : Str) : List Nat := s.cps.toList
theorem cp_app (a b : Str) : cp (a ++ b) = cp a ++ cp b := by
  show (a.cps ++ b.cps).toList = _
  rw [Array.toList_append]
  rfl
theorem cp_len (s : Str) : (cp s).length = s.length := by
  unfold cp Str.length
  simp
/-- what stands between brackets -/
def JJ : List (List Nat) → List Nat
  | [] => []
  | [x] => x
  | x :: y :: r => x ++ (cp ", " ++ JJ (y :: r))
theorem cp_join : ∀ ts : List Str, cp (Str.join ", " ts) = JJ (ts.map cp)
  | [] => rfl
  | [x] => rfl
  | x :: y :: r => by
    have := cp_join (y :: r)
    show cp (x ++ ", " ++ Str.join ", " (y :: r)) = cp x ++ (cp ", " ++ JJ ((y :: r).map cp))
    rw [cp_app, cp_app, this, List.append_assoc]
def PF {α : Type} (P : α → Prop) (enc : α → List Nat) : Prop := ∀ a b, P a → P b → ∀ r r', enc a ++ r = enc b ++ r' → a = b ∧ r = r'
def HD {α : Type} (P : α → Prop) (enc : α → List Nat) : Prop := ∀ a, P a → ∃ c l, enc a = c :: l ∧ c ≠ 93
def TT {α : Type} (enc : α → List Nat) : List α → List Nat
  | [] => [93]
  | a :: l => cp ", " ++ (enc a ++ TT enc l)
theorem JJ_TT {α : Type} (enc : α → List Nat) : ∀ (a : α) (l : List α), JJ ((a :: l).map enc) ++ [93] = enc a ++ TT enc l
  | a, [] => rfl
  | a, b :: l => by
    have := JJ_TT enc b l
    show enc a ++ (cp ", " ++ JJ ((b :: l).map enc)) ++ [93] = enc a ++ (cp ", " ++ (enc b ++ TT enc l))
    rw [List.append_assoc, List.append_assoc, this]
theorem comma : ∃ c l, cp ", " = c :: l ∧ c ≠ 93 := ⟨44, [32], by decide +kernel, by decide⟩
theorem TT_pf {α : Type} {P : α → Prop} {enc : α → List Nat} (h : PF P enc) : ∀ (l m : List α), (∀ x ∈ l, P x) → (∀ x ∈ m, P x) → ∀ r r', TT enc l ++ r = TT enc m ++ r' → l = m ∧ r = r'
  | [], [], _, _, r, r', e => ⟨rfl, (List.cons.inj e).2⟩
  | [], b :: m, _, _, r, r', e => by
    obtain ⟨c, l, h1, h2⟩ := comma
    have e' : 93 :: r = (cp ", " ++ (enc b ++ TT enc m)) ++ r' := e
    rw [h1] at e'
    exact absurd (List.cons.inj e').1.symm h2
  | a :: l, [], _, _, r, r', e => by
    obtain ⟨c, l', h1, h2⟩ := comma
    have e' : (cp ", " ++ (enc a ++ TT enc l)) ++ r = 93 :: r' := e
    rw [h1] at e'
    exact absurd (List.cons.inj e').1 h2
  | a :: l, b :: m, hl, hm, r, r', e => by
    have e' : (cp ", " ++ (enc a ++ TT enc l)) ++ r = (cp ", " ++ (enc b ++ TT enc m)) ++ r' := e
    rw [List.append_assoc, List.append_assoc, List.append_assoc, List.append_assoc] at e'
    obtain ⟨h1, h2⟩ := h a b (hl a (by simp)) (hm b (by simp)) _ _ (List.append_cancel_left e')
    obtain ⟨h3, h4⟩ := TT_pf h l m (fun x hx => hl x (by simp [hx])) (fun x hx => hm x (by simp [hx])) r r' h2
    exact ⟨by rw [h1, h3], h4⟩
/-- a list of such -/
def encL {α : Type} (enc : α → List Nat) (l : List α) : List Nat := 91 :: (JJ (l.map enc) ++ [93])
theorem encL_pf {α : Type} {P : α → Prop} {enc : α → List Nat} (h : PF P enc) (hd : HD P enc) : PF (fun l => ∀ x ∈ l, P x) (encL enc) := by
  intro l m hl hm r r' e
  have e1 : (JJ (l.map enc) ++ [93]) ++ r = (JJ (m.map enc) ++ [93]) ++ r' := (List.cons.inj e).2
  cases l with
  | nil =>
    cases m with
    | nil => exact ⟨rfl, (List.cons.inj e1).2⟩
    | cons b m =>
      obtain ⟨c, l, h1, h2⟩ := hd b (hm b (by simp))
      rw [JJ_TT, h1] at e1
      exact absurd (List.cons.inj (show 93 :: r = c :: (l ++ TT enc m ++ r') from e1)).1.symm h2
  | cons a l =>
    cases m with
    | nil =>
      obtain ⟨c, l', h1, h2⟩ := hd a (hl a (by simp))
      rw [JJ_TT, h1] at e1
      exact absurd (List.cons.inj (show c :: (l' ++ TT enc l ++ r) = 93 :: r' from e1)).1 h2
    | cons b m =>
      rw [JJ_TT, JJ_TT, List.append_assoc, List.append_assoc] at e1
      obtain ⟨h1, h2⟩ := h a b (hl a (by simp)) (hm b (by simp)) _ _ e1
      obtain ⟨h3, h4⟩ := TT_pf h l m (fun x hx => hl x (by simp [hx])) (fun x hx => hm x (by simp [hx])) r r' h2
      exact ⟨by rw [h1, h3], h4⟩
theorem cp_list (ds : List PyData) : cp (PyData.list ds).shown = encL (fun d => cp d.shown) ds := by
  have h : ∀ ds : List PyData, (PyData.shownAll ds).map cp = ds.map fun d => cp d.shown := by
    intro ds
    induction ds with
    | nil => simp [PyData.shownAll]
    | cons d ds ih => simp [PyData.shownAll, ih]
  simp only [PyData.shown]
  rw [listText_eq_join, cp_app, cp_app, cp_join, h]
  have e1 : cp ("[" : Str) = [91] := by decide +kernel
  have e2 : cp ("]" : Str) = [93] := by decide +kernel
  rw [e1, e2]
  rfl
/-! numbers of one digit -/
def dN (n : Nat) : PyData := .int (n : Int)
def dO : Option Nat → PyData
  | none => .none
  | some n => dN n
theorem ten {n : Nat} (h : n ≤ 9) : n = 0 ∨ n = 1 ∨ n = 2 ∨ n = 3 ∨ n = 4 ∨ n = 5 ∨ n = 6 ∨ n = 7 ∨ n = 8 ∨ n = 9 := by omega
theorem cp_dig {n : Nat} (h : n ≤ 9) : cp (dN n).shown = [48 + n] := by
  unfold dN
  simp only [PyData.shown]
  rcases ten h with e | e | e | e | e | e | e | e | e | e <;> subst e <;> decide +kernel
theorem cp_none : cp (PyData.none).shown = [78, 111, 110, 101] := by
  simp only [PyData.shown]
  decide +kernel
theorem dig_pf : PF (fun n : Nat => n ≤ 9) (fun n => cp (dN n).shown) := by
  intro a b ha hb r r' e
  simp only at e
  rw [cp_dig ha, cp_dig hb] at e
  have := List.cons.inj e
  exact ⟨by omega, this.2⟩
theorem dig_hd : HD (fun n : Nat => n ≤ 9) (fun n => cp (dN n).shown) := fun a ha => ⟨48 + a, [], cp_dig ha, by omega⟩
theorem opt_pf : PF (fun o : Option Nat => ∀ n, o = some n → n ≤ 9) (fun o => cp (dO o).shown) := by
  intro a b ha hb r r' e
  cases a with
  | none =>
    cases b with
    | none => exact ⟨rfl, List.append_cancel_left e⟩
    | some n =>
      have e' : cp (PyData.none).shown ++ r = cp (dN n).shown ++ r' := e
      rw [cp_none, cp_dig (hb n rfl)] at e'
      have := (List.cons.inj e').1
      have := hb n rfl
      omega
  | some m =>
    cases b with
    | none =>
      have e' : cp (dN m).shown ++ r = cp (PyData.none).shown ++ r' := e
      rw [cp_none, cp_dig (ha m rfl)] at e'
      have := (List.cons.inj e').1
      have := ha m rfl
      omega
    | some n =>
      obtain ⟨h1, h2⟩ := dig_pf m n (ha m rfl) (hb n rfl) r r' e
      exact ⟨by rw [h1], h2⟩
theorem opt_hd : HD (fun o : Option Nat => ∀ n, o = some n → n ≤ 9) (fun o => cp (dO o).shown) := fun a ha => by
  cases a with
  | none => exact ⟨78, _, cp_none, by decide⟩
  | some n => exact dig_hd n (ha n rfl)
def dL (l : List Nat) : PyData := .list (l.map dN)
def encN (l : List Nat) : List Nat := encL (fun n => cp (dN n).shown) l
theorem encL_map {α β : Type} (f : α → β) (enc : β → List Nat) (l : List α) : encL enc (l.map f) = encL (fun a => enc (f a)) l := by
  unfold encL
  rw [List.map_map]
  rfl
theorem cp_dL (l : List Nat) : cp (dL l).shown = encN l := by
  unfold dL
  rw [cp_list, encL_map]
  rfl
def ownData (s : St) : List PyData := [dL s.marks, dL s.counts, .list (s.ways.map fun w => dL w.reverse), .list (s.stops.map dO)]
def rep (s : St) : Str := (dctD (ownK 0 0 0 0) (ownData s)).shown
theorem rep_own (ma ca wa sa : Addr) (s : St) : dctD (ownK ma ca wa sa) (ownData s) = dctD (ownK 0 0 0 0) (ownData s) := rfl
structure Small (s : St) : Prop where
  m : ∀ x ∈ s.marks, x ≤ 9
  c : ∀ x ∈ s.counts, x ≤ 9
  w : ∀ w ∈ s.ways, ∀ x ∈ w, x ≤ 9
  s : ∀ o ∈ s.stops, ∀ n, o = some n → n ≤ 9
def encW (w : List Nat) : List Nat := encN w.reverse
theorem encW_pf : PF (fun w : List Nat => ∀ x ∈ w, x ≤ 9) encW := by
  intro a b ha hb r r' e
  obtain ⟨h1, h2⟩ := encL_pf dig_pf dig_hd a.reverse b.reverse (fun x hx => ha x (by simpa using hx)) (fun x hx => hb x (by simpa using hx)) r r' e
  exact ⟨List.reverse_inj.mp h1, h2⟩
theorem cp_rep (s : St) : ∃ a b c d z : List Nat, ∀ t : St, cp (rep t) = a ++ (encN t.marks ++ (b ++ (encN t.counts ++ (c ++ (encL encW t.ways ++ (d ++ (encL (fun o => cp (dO o).shown) t.stops ++ z))))))) := by
  refine ⟨cp "{" ++ (cp (PyData.str "marks").shown ++ cp ": "), cp ", " ++ (cp (PyData.str "counts").shown ++ cp ": "), cp ", " ++ (cp (PyData.str "ways").shown ++ cp ": "), cp ", " ++ (cp (PyData.str "stops").shown ++ cp ": "), cp "}", fun t => ?_⟩
  have hw : cp (PyData.list (t.ways.map fun w => dL w.reverse)).shown = encL encW t.ways := by
    rw [cp_list, encL_map]
    have : (fun w : List Nat => cp (dL w.reverse).shown) = encW := funext fun w => cp_dL _
    rw [this]
  have hs : cp (PyData.list (t.stops.map dO)).shown = encL (fun o => cp (dO o).shown) t.stops := by
    rw [cp_list, encL_map]
  have hr : rep t = dictText [(PyData.str "marks").shown ++ ": " ++ (dL t.marks).shown, (PyData.str "counts").shown ++ ": " ++ (dL t.counts).shown, (PyData.str "ways").shown ++ ": " ++ (PyData.list (t.ways.map fun w => dL w.reverse)).shown, (PyData.str "stops").shown ++ ": " ++ (PyData.list (t.stops.map dO)).shown] := by
    unfold rep dctD
    simp only [PyData.shown, ownK, ownData, List.map_cons, List.map_nil, List.zip_cons_cons, List.zip_nil_right, PyData.shownKv, keyD]
  rw [hr]
  unfold dictText
  rw [cp_app, cp_app, cp_join]
  simp only [List.map_cons, List.map_nil, JJ, cp_app, cp_dL, hw, hs, List.append_assoc]
theorem cp_rep' (s : St) : ∃ a b c d z : List Nat, cp (rep s) = a ++ (encN s.marks ++ (b ++ (encN s.counts ++ (c ++ (encL encW s.ways ++ (d ++ (encL (fun o => cp (dO o).shown) s.stops ++ z))))))) ∧ a.length + b.length + c.length + d.length + z.length ≤ 200 := by
  have hw : ∀ t : St, cp (PyData.list (t.ways.map fun w => dL w.reverse)).shown = encL encW t.ways := fun t => by
    rw [cp_list, encL_map]
    have : (fun w : List Nat => cp (dL w.reverse).shown) = encW := funext fun w => cp_dL _
    rw [this]
  have hs : cp (PyData.list (s.stops.map dO)).shown = encL (fun o => cp (dO o).shown) s.stops := by
    rw [cp_list, encL_map]
  have hr : rep s = dictText [(PyData.str "marks").shown ++ ": " ++ (dL s.marks).shown, (PyData.str "counts").shown ++ ": " ++ (dL s.counts).shown, (PyData.str "ways").shown ++ ": " ++ (PyData.list (s.ways.map fun w => dL w.reverse)).shown, (PyData.str "stops").shown ++ ": " ++ (PyData.list (s.stops.map dO)).shown] := by
    unfold rep dctD
    simp only [PyData.shown, ownK, ownData, List.map_cons, List.map_nil, List.zip_cons_cons, List.zip_nil_right, PyData.shownKv, keyD]
  refine ⟨cp "{" ++ (cp (PyData.str "marks").shown ++ cp ": "), cp ", " ++ (cp (PyData.str "counts").shown ++ cp ": "), cp ", " ++ (cp (PyData.str "ways").shown ++ cp ": "), cp ", " ++ (cp (PyData.str "stops").shown ++ cp ": "), cp "}", ?_, ?_⟩
  · rw [hr]
    unfold dictText
    rw [cp_app, cp_app, cp_join]
    simp only [List.map_cons, List.map_nil, JJ, cp_app, cp_dL, hw, hs, List.append_assoc]
  · simp only [PyData.shown]
    decide +kernel
theorem rep_inj {s t : St} (hs : Small s) (ht : Small t) (e : rep s = rep t) : s = t := by
  obtain ⟨a, b, c, d, z, h⟩ := cp_rep s
  have e1 : cp (rep s) = cp (rep t) := by rw [e]
  rw [h s, h t] at e1
  obtain ⟨m1, e2⟩ := encL_pf dig_pf dig_hd _ _ hs.m ht.m _ _ (List.append_cancel_left e1)
  obtain ⟨m2, e3⟩ := encL_pf dig_pf dig_hd _ _ hs.c ht.c _ _ (List.append_cancel_left e2)
  obtain ⟨m3, e4⟩ := encL_pf encW_pf (fun w _ => ⟨91, _, rfl, by decide⟩) _ _ hs.w ht.w _ _ (List.append_cancel_left e3)
  obtain ⟨m4, _⟩ := encL_pf opt_pf opt_hd _ _ hs.s ht.s _ _ (List.append_cancel_left e4)
  cases s
  cases t
  simp only at m1 m2 m3 m4
  subst m1 m2 m3 m4
  rfl
end TB

set_option maxRecDepth 100000
set_option maxHeartbeats 4000000
/-! Dicts as pairs; what is laid in levels. -/
namespace TB
open PySem PySem.Spec PyProof.Rows L2
section
variable {κ β K' : Type} [DecidableEq κ] [DecidableEq K']
def RelD (f : κ → K') (G : V → κ → β → Prop) (kvs : List (K' × V)) (l : List (κ × β)) : Prop := Paired (fun kv e => kv.1 = f e.1 ∧ G kv.2 e.1 e.2) kvs l
variable {f : κ → K'} {G : V → κ → β → Prop}
theorem RelD.look {k : κ} : ∀ {kvs : List (K' × V)} {l : List (κ × β)}, RelD f G kvs l → (∀ e ∈ l, f e.1 = f k → e.1 = k) → (lookA l k = none ∧ valV kvs (f k) = none) ∨ ∃ b v, lookA l k = some b ∧ valV kvs (f k) = some v ∧ G v k b
  | [], [], _, _ => .inl ⟨rfl, rfl⟩
  | kv :: kvs, e :: l, .cons h t, hi => by
    obtain ⟨h1, h2⟩ := h
    by_cases c : e.1 = k
    · refine .inr ⟨e.2, kv.2, by rw [lookA_cons, if_pos c], valV_pos (by rw [h1, c]), ?_⟩
      rw [← c]
      exact h2
    · have hn : ¬ kv.1 = f k := fun z => c (hi e List.mem_cons_self (by rw [← h1, z]))
      rcases RelD.look t (fun e' he' => hi e' (List.mem_cons_of_mem _ he')) with ⟨a1, a2⟩ | ⟨b, v, a1, a2, a3⟩
      · exact .inl ⟨by rw [lookA_cons, if_neg c, a1], by rw [valV_neg hn, a2]⟩
      · exact .inr ⟨b, v, by rw [lookA_cons, if_neg c, a1], by rw [valV_neg hn, a2], a3⟩
theorem RelD.any {k : κ} : ∀ {kvs : List (K' × V)} {l : List (κ × β)}, RelD f G kvs l → (∀ e ∈ l, f e.1 = f k → e.1 = k) → (kvs.any fun kv => decide (kv.1 = f k)) = (lookA l k).isSome
  | [], [], _, _ => rfl
  | kv :: kvs, e :: l, .cons h t, hi => by
    obtain ⟨h1, h2⟩ := h
    have ih := RelD.any t (fun e' he' => hi e' (List.mem_cons_of_mem _ he'))
    rw [List.any_cons, ih, lookA_cons]
    by_cases c : e.1 = k
    · rw [if_pos c, decide_eq_true (by rw [h1, c])]
      rfl
    · rw [if_neg c, decide_eq_false (fun z => c (hi e List.mem_cons_self (by rw [← h1, z])))]
      rfl
theorem RelD.set {k : κ} {v : V} {b : β} (g : G v k b) : ∀ {kvs : List (K' × V)} {l : List (κ × β)}, RelD f G kvs l → (∀ e ∈ l, f e.1 = f k → e.1 = k) → RelD f G (kvs.map fun kv => if kv.1 = f k then (kv.1, v) else kv) (setA l k b)
  | [], [], _, _ => .nil
  | kv :: kvs, e :: l, .cons h t, hi => by
    have ih := RelD.set g t (fun e' he' => hi e' (List.mem_cons_of_mem _ he'))
    obtain ⟨h1, h2⟩ := h
    refine .cons ?_ ih
    show (if kv.1 = f k then (kv.1, v) else kv).1 = f (if e.1 = k then (e.1, b) else e).1 ∧ G (if kv.1 = f k then (kv.1, v) else kv).2 (if e.1 = k then (e.1, b) else e).1 (if e.1 = k then (e.1, b) else e).2
    by_cases c : e.1 = k
    · rw [if_pos c, if_pos (by rw [h1, c])]
      refine ⟨h1, ?_⟩
      show G v e.1 b
      rw [c]
      exact g
    · rw [if_neg c, if_neg (fun z => c (hi e List.mem_cons_self (by rw [← h1, z])))]
      exact ⟨h1, h2⟩
theorem RelD.put {k : κ} {v : V} {b : β} {kvs : List (K' × V)} {l : List (κ × β)} (h : RelD f G kvs l) (hi : ∀ e ∈ l, f e.1 = f k → e.1 = k) (g : G v k b) : RelD f G (putK kvs (f k) v) (putA l k b) := by
  unfold putK putA
  rw [RelD.any h hi]
  split
  · exact RelD.set g h hi
  · exact paired_snoc ⟨rfl, g⟩ h
theorem RelD.mono {G' : V → κ → β → Prop} {kvs : List (K' × V)} {l : List (κ × β)} (h : RelD f G kvs l) (m : ∀ v k b, G v k b → G' v k b) : RelD f G' kvs l := Paired.mapP h fun _ _ q => ⟨q.1, m _ _ _ q.2⟩
end
/-! ### what lies in the dicts -/
def LvlG (p : Addr) (H : Hp) : V → St → List Nat → Prop := fun v s o => ∃ T q od ma ca wa sa ws, v = .ref T ∧ H T = some (.tup [.ref od, .ref q]) ∧ OwnAt H od ma ca wa sa ws s ∧ H q = some (.tup (o.map nV)) ∧ od ≠ p
def FndG (H : Hp) : V → List Nat → List Nat → Prop := fun v _ o => ∃ q, v = .ref q ∧ H q = some (.tup (o.map nV))
def keyS (s : St) : Key := Sum.inr (rep s)
def keyM (m : List Nat) : List Key := m.map fun n : Nat => (Sum.inl (n : Int) : Key)
theorem keyM_inj : ∀ {a b : List Nat}, keyM a = keyM b → a = b
  | [], [], _ => rfl
  | [], _ :: _, h => by cases h
  | _ :: _, [], h => by cases h
  | x :: a, y :: b, h => by
    have h1 := (List.cons.inj h).1
    have h2 := keyM_inj (List.cons.inj h).2
    have h3 := Sum.inl.inj h1
    have : x = y := by omega
    rw [this, h2]
theorem keyM_kV (m : List Nat) : (keyM m).map kV = m.map nV := by
  unfold keyM
  rw [List.map_map]
  rfl
theorem OwnAt.kept {H H' : Hp} {o ma ca wa sa : Addr} {ws : List Addr} {s : St} (h : OwnAt H o ma ca wa sa ws s) (k : ∀ b x, H b = some x → (b = o ∨ ∃ xs, x = .lst xs) → H' b = some x) : OwnAt H' o ma ca wa sa ws s :=
  ⟨k _ _ h.own (.inl rfl), k _ _ h.mks (.inr ⟨_, rfl⟩), k _ _ h.cts (.inr ⟨_, rfl⟩), k _ _ h.wyl (.inr ⟨_, rfl⟩), k _ _ h.sts (.inr ⟨_, rfl⟩), Paired.mapP h.wys fun _ _ q => k _ _ q (.inr ⟨_, rfl⟩), h.nod⟩
/-- kept where only what is no list, no tuple and not the dict itself is changed -/
theorem LvlG.kept {p p' : Addr} {H H' : Hp} {v : V} {s : St} {o : List Nat} (h : LvlG p H v s o) (k : ∀ b x, H b = some x → ((∃ xs, x = .lst xs) ∨ ∃ xs, x = .tup xs) → H' b = some x) (kd : ∀ b x, b ≠ p → H b = some (.dK x) → H' b = some (.dK x) ∧ b ≠ p') : LvlG p' H' v s o := by
  obtain ⟨T, q, od, ma, ca, wa, sa, ws, e1, e2, e3, e4, e5⟩ := h
  obtain ⟨d1, d2⟩ := kd od _ e5 e3.own
  refine ⟨T, q, od, ma, ca, wa, sa, ws, e1, k _ _ e2 (.inr ⟨_, rfl⟩), e3.kept fun b x hb hx => ?_, k _ _ e4 (.inr ⟨_, rfl⟩), d2⟩
  rcases hx with rfl | ⟨xs, rfl⟩
  · rw [e3.own] at hb
    cases hb
    exact d1
  · exact k _ _ hb (.inl ⟨_, rfl⟩)
theorem FndG.kept {H H' : Hp} {v : V} {m o : List Nat} (h : FndG H v m o) (k : Tsame H H') : FndG H' v m o := by
  obtain ⟨q, e1, e2⟩ := h
  exact ⟨q, e1, k _ _ e2⟩
theorem lexLt_n : ∀ a b : List Nat, HT.lexLt (a.map fun n : Nat => (n : Int)) (b.map fun n : Nat => (n : Int)) = lex a b
  | [], [] => rfl
  | [], _ :: _ => rfl
  | _ :: _, [] => rfl
  | x :: a, y :: b => by
    have := lexLt_n a b
    rw [lex_cons]
    by_cases c : x = y
    · subst c
      rw [if_pos rfl, ← this]
      simp [HT.lexLt]
    · rw [if_neg c]
      by_cases d : x < y
      · have d' : (x : Int) < (y : Int) := by omega
        have c' : ¬ (x : Int) = (y : Int) := by omega
        simp [HT.lexLt, d, d', c']
      · have d' : ¬ (x : Int) < (y : Int) := by omega
        have c' : ¬ (x : Int) = (y : Int) := by omega
        have d2 : (y : Int) < (x : Int) := by omega
        simp [HT.lexLt, d, d', c', c]
/-! ### the mathematics turn by turn -/
theorem nextLevel_snoc (web : Web) (k : Nat) (e : St × List Nat) : ∀ (l : Level) (fresh : Level), nextLevel web k (l ++ [e]) fresh = visits web e k 0 (nextLevel web k l fresh)
  | [], _ => rfl
  | a :: l, fresh => nextLevel_snoc web k e l (visits web a k 0 fresh)
theorem nextFound_snoc (e : St × List Nat) : ∀ (l : Level) (found : Found), nextFound (l ++ [e]) found = visitF (nextFound l found) e
  | [], _ => rfl
  | a :: l, found => nextFound_snoc e l (visitF found a)
theorem visits_snoc (web : Web) (e : St × List Nat) : ∀ (n i : Nat) (fresh : Level), visits web e (n + 1) i fresh = visit web (visits web e n i fresh) e (i + n + 1)
  | 0, i, fresh => rfl
  | n + 1, i, fresh => by
    have := visits_snoc web e n (i + 1) (visit web fresh e (i + 1))
    show visits web e (n + 1) (i + 1) (visit web fresh e (i + 1)) = _
    rw [this]
    have e1 : i + 1 + n + 1 = i + (n + 1) + 1 := by omega
    rw [e1]
    rfl
/-! ### repr, ready -/
theorem JJ_len {B : Nat} : ∀ ls : List (List Nat), (∀ l ∈ ls, l.length ≤ B) → (JJ ls).length ≤ ls.length * (B + 2)
  | [], _ => Nat.zero_le _
  | [x], h => by
    have := h x (by simp)
    show x.length ≤ 1 * (B + 2)
    omega
  | x :: y :: r, h => by
    have h1 := h x (by simp)
    have h2 := JJ_len (y :: r) (fun l hl => h l (List.mem_cons_of_mem _ hl))
    have hc : (cp ", ").length = 2 := by decide +kernel
    show (x ++ (cp ", " ++ JJ (y :: r))).length ≤ _
    rw [List.length_append, List.length_append, hc]
    simp only [List.length_cons, Nat.add_mul, Nat.one_mul] at h2 ⊢
    omega
theorem encL_len {α : Type} {enc : α → List Nat} {l : List α} {B n : Nat} (h : ∀ a ∈ l, (enc a).length ≤ B) (hl : l.length ≤ n) : (encL enc l).length ≤ n * (B + 2) + 2 := by
  have h1 := JJ_len (B := B) (l.map enc) (fun x hx => by
    obtain ⟨a, ha, rfl⟩ := List.mem_map.mp hx
    exact h a ha)
  rw [List.length_map] at h1
  have h2 : l.length * (B + 2) ≤ n * (B + 2) := Nat.mul_le_mul_right _ hl
  unfold encL
  rw [List.length_cons, List.length_append, List.length_singleton]
  omega
theorem StOk.small {web : Web} {k : Nat} {s : St} (W : WebOk web) (h : StOk web k s) (hk : k ≤ 3) : Small s := by
  have h4 := W.four
  refine ⟨fun x hx => ?_, fun x hx => ?_, fun w hw x hx => ?_, fun o ho n e => ?_⟩
  · obtain ⟨i, _, e⟩ := mem_getD hx
    have := h.mle i
    omega
  · obtain ⟨i, _, e⟩ := mem_getD hx
    have := h.cle i
    omega
  · obtain ⟨i, hi, e⟩ := List.mem_iff_getElem.mp hw
    have := h.way i (by rw [← h.lenW]; exact hi) x (by rw [(get_getD (d := []) (List.getElem?_eq_getElem hi)).1, e]; exact hx)
    omega
  · have := h.sle n (by rw [← e]; exact ho)
    omega
theorem StOk.len {web : Web} {k : Nat} {s : St} (W : WebOk web) (h : StOk web k s) (hk : k ≤ 3) : (rep s).length ≤ sizeLine := by
  have h4 := W.four
  have sm := h.small W hk
  have l1 : (encN s.marks).length ≤ 4 * (1 + 2) + 2 := encL_len (fun a ha => by rw [cp_dig (sm.m a ha)]; exact Nat.le_refl _) (by rw [h.lenM]; omega)
  have l2 : (encN s.counts).length ≤ 4 * (1 + 2) + 2 := encL_len (fun a ha => by rw [cp_dig (sm.c a ha)]; exact Nat.le_refl _) (by rw [h.lenC]; omega)
  have l3 : (encL encW s.ways).length ≤ 3 * (14 + 2) + 2 := encL_len (fun a ha => by
    obtain ⟨i, hi, e⟩ := List.mem_iff_getElem.mp ha
    have hw := h.wl i (by rw [← h.lenW]; exact hi)
    rw [(get_getD (d := []) (List.getElem?_eq_getElem hi)).1, e] at hw
    exact encL_len (n := 4) (B := 1) (fun b hb => by rw [cp_dig (sm.w a ha b (by simpa using hb))]; exact Nat.le_refl _) (by rw [List.length_reverse]; omega)) (by rw [h.lenW]; omega)
  have l4 : (encL (fun o => cp (dO o).shown) s.stops).length ≤ 3 * (4 + 2) + 2 := encL_len (fun a ha => by
    cases a with
    | none => show (cp (PyData.none).shown).length ≤ 4; rw [cp_none]; exact Nat.le_refl _
    | some n => show (cp (dN n).shown).length ≤ 4; rw [cp_dig (sm.s _ ha n rfl)]; exact (show 1 ≤ 4 by decide)) (by rw [h.lenS]; omega)
  rw [← cp_len]
  obtain ⟨a, b, c, d, z, hh, hlen⟩ := cp_rep' s
  rw [hh]
  simp only [List.length_append]
  exact Nat.le_trans (show _ ≤ 1000 by omega) (by decide)
theorem data_ok {s : St} (sm : Small s) (ma ca wa sa : Addr) : (dctD (ownK ma ca wa sa) (ownData s)).showable = true ∧ (dctD (ownK ma ca wa sa) (ownData s)).depth ≤ 30 := by
  have nS : ∀ l : List Nat, (∀ x ∈ l, x ≤ 9) → (dL l).showable = true ∧ (dL l).depth ≤ 1 := by
    intro l hl
    unfold dL
    constructor
    · simp only [PyData.showable]
      induction l with
      | nil => simp [PyData.showableAll]
      | cons a l ih =>
        have := hl a (by simp)
        simp only [List.map_cons, PyData.showableAll, ih (fun x hx => hl x (by simp [hx])), Bool.and_true, dN, PyData.showable, decide_eq_true_eq]
        have h1 : ((a : Int).natAbs) = a := Int.natAbs_natCast a
        rw [h1]
        exact Nat.lt_of_le_of_lt (Nat.log2_le_self a) (by omega)
    · simp only [PyData.depth]
      have : ∀ l : List Nat, PyData.depthAll (l.map dN) = 0 := by
        intro l
        induction l with
        | nil => simp [PyData.depthAll]
        | cons a l ih => simp [PyData.depthAll, ih, dN, PyData.depth]
      rw [this]
      exact Nat.le_refl _
  have wS : ∀ l : List (List Nat), (∀ w ∈ l, ∀ x ∈ w, x ≤ 9) → PyData.showableAll (l.map fun w => dL w.reverse) = true ∧ PyData.depthAll (l.map fun w => dL w.reverse) ≤ 1 := by
    intro l hl
    induction l with
    | nil => simp [PyData.showableAll, PyData.depthAll]
    | cons a l ih =>
      obtain ⟨i1, i2⟩ := ih fun w hw => hl w (by simp [hw])
      obtain ⟨j1, j2⟩ := nS a.reverse fun x hx => hl a (by simp) x (by simpa using hx)
      refine ⟨by simp [PyData.showableAll, i1, j1], ?_⟩
      simp only [List.map_cons, PyData.depthAll]
      omega
  have oS : ∀ l : List (Option Nat), (∀ o ∈ l, ∀ n, o = some n → n ≤ 9) → PyData.showableAll (l.map dO) = true ∧ PyData.depthAll (l.map dO) = 0 := by
    intro l hl
    induction l with
    | nil => simp [PyData.showableAll, PyData.depthAll]
    | cons a l ih =>
      obtain ⟨i1, i2⟩ := ih fun w hw => hl w (by simp [hw])
      cases a with
      | none => simp [PyData.showableAll, PyData.depthAll, i1, i2, dO, PyData.showable, PyData.depth]
      | some n =>
        have hn := hl _ List.mem_cons_self n rfl
        have h1 : ((n : Int).natAbs) = n := Int.natAbs_natCast n
        refine ⟨?_, by simp [PyData.depthAll, i2, dO, dN, PyData.depth]⟩
        simp only [List.map_cons, PyData.showableAll, i1, Bool.and_true, dO, dN, PyData.showable, decide_eq_true_eq]
        rw [h1]
        exact Nat.lt_of_le_of_lt (Nat.log2_le_self n) (by omega)
  obtain ⟨a1, a2⟩ := nS s.marks sm.m
  obtain ⟨b1, b2⟩ := nS s.counts sm.c
  obtain ⟨c1, c2⟩ := wS s.ways sm.w
  obtain ⟨d1, d2⟩ := oS s.stops sm.s
  unfold dctD
  simp only [ownK, ownData, List.map_cons, List.map_nil, List.zip_cons_cons, List.zip_nil_right, keyD]
  constructor
  · simp only [PyData.showable, PyData.showableKv, a1, b1, c1, d1, Bool.and_self]
  · simp only [PyData.depth, PyData.depthKv]
    omega
theorem own_data {K : PySem.W.Frag} {H : Hp} {o ma ca wa sa : Addr} {ws : List Addr} {s : St} (h : OwnAt H o ma ca wa sa ws s) : DpAll K H ((ownK ma ca wa sa).map (·.2)) (ownData s) := by
  have hn : ∀ {a : Addr} {l : List Nat}, H a = some (.lst (l.map nV)) → Dp K H (.ref a) (dL l) := fun {a l} e => .lst (SqL.of e) (nums_data l).1
  refine .cons (hn h.mks) (.cons (hn h.cts) (.cons (.lst (SqL.of h.wyl) ?_) (.cons (.lst (SqL.of h.sts) ?_) .nil)))
  · have : ∀ {ws : List Addr} {ways : List (List Nat)}, Ways H ws ways → DpAll K H (ws.map V.ref) (ways.map fun w => dL w.reverse) := by
      intro ws ways hw
      induction hw with
      | nil => exact .nil
      | cons h t ih => exact .cons (hn h) ih
    exact this h.wys
  · have : ∀ l : List (Option Nat), DpAll K H (l.map oV) (l.map dO) := by
      intro l
      induction l with
      | nil => exact .nil
      | cons a l ih =>
        cases a with
        | none => exact .cons .non ih
        | some n => exact .cons (.int _) ih
    exact this _
end TB

set_option maxRecDepth 100000
set_option maxHeartbeats 4000000
/-! The heap within the loops. -/
namespace TB
open PySem PySem.Spec PyProof.Rows L2
structure In (H0 H : Hp) (lv fo fr : Addr) (lo : Obj) (kvsL : List (Key × V)) (lvl : Level) (fnd : Found) (fsh : Level) : Prop where
  sm : Same H0 H
  lv : H lv = some (.frz lo (.dK kvsL))
  lvl : RelD keyS (LvlG fr H) kvsL lvl
  fo : ∃ kvs, H fo = some (.dT kvs) ∧ RelD keyM (FndG H) kvs fnd
  fr : ∃ kvs, H fr = some (.dK kvs) ∧ RelD keyS (LvlG fr H) kvs fsh
section
variable {H0 H H' : Hp} {lv fo fr : Addr} {lo : Obj} {kvsL : List (Key × V)} {lvl : Level} {fnd : Found} {fsh : Level}
theorem LvlG.same {p : Addr} {v : V} {s : St} {o : List Nat} (h : LvlG p H v s o) (e : Same H H') : LvlG p H' v s o := h.kept (fun b x hb _ => e b x hb) fun b x hb hx => ⟨e _ _ hx, hb⟩
theorem In.same (h : In H0 H lv fo fr lo kvsL lvl fnd fsh) (s : Same H H') : In H0 H' lv fo fr lo kvsL lvl fnd fsh := by
  obtain ⟨k1, a1, a2⟩ := h.fo
  obtain ⟨k2, b1, b2⟩ := h.fr
  exact ⟨h.sm.trans s, s _ _ h.lv, h.lvl.mono fun _ _ _ g => g.same s, ⟨k1, s _ _ a1, a2.mono fun _ _ _ g => g.kept (Same.ts s)⟩, ⟨k2, s _ _ b1, b2.mono fun _ _ _ g => g.same s⟩⟩
theorem In.putF (h : In H0 H lv fo fr lo kvsL lvl fnd fsh) (h0 : H0 fo = none) {kvs : List (List Key × V)} (hk : H fo = some (.dT kvs)) (hr : RelD keyM (FndG H) kvs fnd) {v : V} {m o : List Nat} (g : FndG H v m o) :
    In H0 (upd H fo (.dT (putK kvs (keyM m) v))) lv fo fr lo kvsL lvl (putA fnd m o) fsh := by
  have nl : lv ≠ fo := ne_of h.lv hk nofun
  have ts : Tsame H (upd H fo (.dT (putK kvs (keyM m) v))) := fun b xs e => by
    rw [upd_ne (ne_of e hk nofun)]
    exact e
  have kept : ∀ v' s' o', LvlG fr H v' s' o' → LvlG fr (upd H fo (.dT (putK kvs (keyM m) v))) v' s' o' := fun v' s' o' g => g.kept (fun b x hb hx => by
    rw [upd_ne (fun z => by
      rw [z, hk] at hb
      rcases hx with ⟨xs, rfl⟩ | ⟨xs, rfl⟩ <;> cases hb)]
    exact hb) fun b x hb hx => ⟨by rw [upd_ne (ne_of hx hk nofun)]; exact hx, hb⟩
  obtain ⟨k2, b1, b2⟩ := h.fr
  have nf : fr ≠ fo := ne_of b1 hk nofun
  refine ⟨same_out h.sm h0, by rw [upd_ne nl]; exact h.lv, h.lvl.mono kept, ⟨_, upd_same, ?_⟩, ⟨k2, by rw [upd_ne nf]; exact b1, b2.mono kept⟩⟩
  exact (hr.put (fun e _ he => keyM_inj he) g).mono fun _ _ _ g => g.kept ts
theorem In.putL (h : In H0 H lv fo fr lo kvsL lvl fnd fsh) (h0 : H0 fr = none) {kvs : List (Key × V)} (hk : H fr = some (.dK kvs)) (hr : RelD keyS (LvlG fr H) kvs fsh) {v : V} {s : St} {o : List Nat} (hi : ∀ e ∈ fsh, keyS e.1 = keyS s → e.1 = s) (g : LvlG fr H v s o) :
    In H0 (upd H fr (.dK (putK kvs (keyS s) v))) lv fo fr lo kvsL lvl fnd (putA fsh s o) := by
  have nl : lv ≠ fr := ne_of h.lv hk nofun
  obtain ⟨k1, a1, a2⟩ := h.fo
  have nf : fo ≠ fr := ne_of a1 hk nofun
  have ts : Tsame H (upd H fr (.dK (putK kvs (keyS s) v))) := fun b xs e => by
    rw [upd_ne (ne_of e hk nofun)]
    exact e
  have kept : ∀ v' s' o', LvlG fr H v' s' o' → LvlG fr (upd H fr (.dK (putK kvs (keyS s) v))) v' s' o' := fun v' s' o' g => g.kept (fun b x hb hx => by
    rw [upd_ne (fun z => by
      rw [z, hk] at hb
      rcases hx with ⟨xs, rfl⟩ | ⟨xs, rfl⟩ <;> cases hb)]
    exact hb) fun b x hb hx => ⟨by rw [upd_ne hb]; exact hx, hb⟩
  exact ⟨same_out h.sm h0, by rw [upd_ne nl]; exact h.lv, h.lvl.mono kept, ⟨k1, by rw [upd_ne nf]; exact a1, a2.mono fun _ _ _ g => g.kept ts⟩, ⟨_, upd_same, (hr.put hi g).mono kept⟩⟩
/-- an own beside the dicts -/
theorem OwnAt.putF {o ma ca wa sa : Addr} {ws : List Addr} {s : St} {kvs : List (List Key × V)} {u : HO} (h : OwnAt H o ma ca wa sa ws s) (hk : H fo = some (.dT kvs)) : OwnAt (upd H fo u) o ma ca wa sa ws s := h.kept fun b x hb hx => by
  rw [upd_ne (fun z => by
    rw [z, hk] at hb
    rcases hx with rfl | ⟨xs, rfl⟩
    · rw [← z, h.own] at hk
      cases hk
    · cases hb)]
  exact hb
theorem OwnAt.putL {o ma ca wa sa : Addr} {ws : List Addr} {s : St} {kvs : List (Key × V)} {u : HO} (h : OwnAt H o ma ca wa sa ws s) (hk : H fr = some (.dK kvs)) (hne : o ≠ fr) : OwnAt (upd H fr u) o ma ca wa sa ws s := h.kept fun b x hb hx => by
  rw [upd_ne (fun z => by
    rcases hx with rfl | ⟨xs, rfl⟩
    · exact hne z
    · rw [z, hk] at hb
      cases hb)]
  exact hb
end
theorem putA_all {κ β : Type} [DecidableEq κ] {P : κ → Prop} {l : List (κ × β)} {k : κ} {v : β} (h : ∀ e ∈ l, P e.1) (hk : P k) : ∀ e ∈ putA l k v, P e.1 := by
  have hm : ∀ e ∈ putA l k v, e.1 ∈ l.map (·.1) ∨ e.1 = k := by
    intro e he
    unfold putA at he
    split at he
    · refine .inl ?_
      rw [← setA_keys l k v]
      exact List.mem_map_of_mem he
    · rcases List.mem_append.mp he with q | q
      · exact .inl (List.mem_map_of_mem q)
      · have : e = (k, v) := by simpa using q
        exact .inr (by rw [this])
  intro e he
  rcases hm e he with q | q
  · obtain ⟨e', h1, h2⟩ := List.mem_map.mp q
    rw [← h2]
    exact h e' h1
  · rw [q]
    exact hk
/-- t + u, u not empty -/
def rCatN : R2 := fun x y H Q => ∃ a b xs ys, x = .ref a ∧ y = .ref b ∧ H a = some (.tup xs) ∧ H b = some (.tup ys) ∧ ys ≠ [] ∧ xs.length + ys.length ≤ sizeLine ∧ ∀ H' p, Same H H' → H' p = some (.tup (xs ++ ys)) → Q (.ref p) H'
theorem op_catN {X : Cx} : OpR X (binaryOp .Add) rCatN := by
  intro pins s σ H x y v u Q I rx ry h
  obtain ⟨a, b, xs, ys, rfl, rfl, ha, hb, hne, hz, q⟩ := h
  refine op_catA pins s σ H _ _ v u Q I rx ry ⟨a, b, xs, ys, rfl, rfl, SqT.of ha, SqT.of hb, hz, fun e => ?_, fun _ e => absurd e hne, fun _ _ p hp => q _ p (same_new hp) upd_same⟩
  subst e
  exact q _ b (Same.refl H) hb
end TB

set_option maxRecDepth 100000
set_option maxHeartbeats 4000000
/-! The law's going through all states. -/
namespace TB
open PySem PySem.Spec PyProof.Rows L2
def HasG (P : Program) (w : World) (K : PySem.W.Frag) (mg : Str → Option Value) (base : Heap) (k : Nat) (x : Str) (ps : List Str) (sp : Sp) : Prop :=
  ∃ f fd, mg x = some (.ref f) ∧ PySem.W.keepIn K (.ref f) = true ∧ Binds K fd ps [] ∧ FnG P w K mg base k f fd ps sp
section
variable {P : Program} {w : World} {K : PySem.W.Frag} {mg : Str → Option Value} {base : Heap}
theorem Stands.hasG {x : Str} {st : Stmt} {N ps : List Str} {k : Nat} {sp : Sp} (S : Stands K mg x st) (sc : FnScope N ps (defScope st))
    (hb : ∀ (kV doc pm : Value) (an : Option Addr) (cdv ct : Value) (us : List Value), us.length = ps.length → bindArgs (PySem.W.fnOf x x (defArgs st) (defBody st) (defScope st) .none kV doc pm an cdv ct) ⟨us, []⟩ = pure (ps.zip us))
    (len : ∀ vs H Q E, sp vs H Q E → vs.length = ps.length)
    (body : ∀ (f : Addr) (cdv : Value) (A : Around) (outer : List Env) (s : Shared) (H : Hp) (vs : List V) (Q : VK) (E : XK), A.guards = some [] → Room k (A.deeper (envOfC x (defScope st) s.heap.objs.size f cdv)) → sp vs H Q E →
      ∃ t, PSs (cxOf CX0 P w K mg base N x (defScope st) f cdv A outer s H E).nox (defBody st) t ∧ t { nx := fun _ H' => Q .non H', rt := Q } (start N vs) H) : HasG P w K mg base (k + 1) x ps sp := by
  obtain ⟨f, fd, hm, F⟩ := S
  refine ⟨f, fd, hm, F.kp, F.bindsN hb, okG F sc len fun cdv A outer s H vs Q E hgd hr h => ?_⟩
  obtain ⟨t, a, b⟩ := body f cdv A outer s H vs Q E hgd hr h
  exact ⟨t, a.nox, b⟩
end
/-- if over: .. -/
def tOver (K : PySem.W.Frag) : TS := fun D σ H => ∃ (H0 : Hp) (lv fo fr : Addr) (lo : Obj) (kvsL : List (Key × V)) (lvl : Level) (fnd : Found) (fsh : Level) (s : St) (o : List Nat) (od q ma ca wa sa : Addr) (ws : List Addr) (x0 x1 x6 x8 x9 x10 x11 : Option V),
  σ = [x0, x1, some (.ref lv), some (.ref od), some (.ref fo), some (.ref fr), x6, some (.ref q), x8, x9, x10, x11] ∧ In H0 H lv fo fr lo kvsL lvl fnd fsh ∧ H0 fo = none ∧ OwnAt H od ma ca wa sa ws s ∧ od ≠ fr ∧ H q = some (.tup (o.map nV)) ∧ s.ways.length ≤ 1000 ∧ fnd.length < sizeLine ∧
  ∀ H' y8, In H0 H' lv fo fr lo kvsL lvl (visitF fnd (s, o)) fsh → OwnAt H' od ma ca wa sa ws s → H' q = some (.tup (o.map nV)) → D.nx [x0, x1, some (.ref lv), some (.ref od), some (.ref fo), some (.ref fr), x6, some (.ref q), y8, x9, x10, x11] H'
/-- the dict of ends -/
def EndsAt (H : Hp) (e : Addr) (found : Found) : Prop := ∃ kvs, H e = some (.dT kvs) ∧ RelD keyM (FndG H) kvs found
def spEnds : Sp := fun vs H Q _ => ∃ (W rt : Addr) (web : Web) (roots : List Nat), vs = [.ref W, .ref rt] ∧ WebAt H W web ∧ WebOk web ∧ NumsAt H rt roots ∧ RootsOk web roots ∧
  ∀ H' e n, Same H H' → levelAt web roots n = [] → EndsAt H' e (foundAt web roots n) → Q (.ref e) H'
section
variable {P : Program} {w : World} {K : PySem.W.Frag} {mg : Str → Option Value} {base : Heap}
theorem sc_law_ends : FnScope ["_law_web", "_law_roots", "_law_level", "_law_own", "_law_found", "_law_fresh", "_law_key", "_law_order", "_law_marks", "_law_walker", "_law_more", "_law_longer"] ["_law_web", "_law_roots"] (defScope s_law_ends) := ⟨rfl, rfl, rfl, by decide +kernel, rfl, by decide +kernel, by decide +kernel⟩
theorem has_law_ends (T : Tx mg) (S : Stands K mg "_law_ends" s_law_ends) (h1 : Has P w K mg base 1 "_law_begun" ["_law_web", "_law_roots"] spBegun) (h2 : Has P w K mg base 1 "_law_is_over" ["_law_own"] spIsOver) (h3 : Has P w K mg base 1 "_law_copied" ["_law_own"] spCopied)
    (h4 : Has P w K mg base 1 "_law_step" ["_law_web", "_law_own", "_law_walker"] spStep) : HasG P w K mg base 2 "_law_ends" ["_law_web", "_law_roots"] spEnds := by
  obtain ⟨f1, fd1, g1, k1, b1, G1⟩ := h1
  obtain ⟨f2, fd2, g2, k2, b2, G2⟩ := h2
  obtain ⟨f3, fd3, g3, k3, b3, G3⟩ := h3
  obtain ⟨f4, fd4, g4, k4, b4, G4⟩ := h4
  refine S.hasG sc_law_ends (fun _ _ _ _ _ _ us hl => match us, hl with | [_, _], _ => rfl) (fun vs H Q E h => ?_) (fun f cdv A outer s H vs Q E hgd hr h => ?_)
  · obtain ⟨W, rt, web, roots, rfl, _⟩ := h
    rfl
  · obtain ⟨W, rt, web, roots, rfl, hW, ok, hR, rok, k⟩ := h
    have nd := sc_law_ends.nd
    have hu := hr.units
    have hu0 := hr.units0
    have hu1 := hu_of hr
    have hu100 : (A.deeper (envOfC "_law_ends" (defScope s_law_ends) s.heap.objs.size f cdv)).units + 100 < cLine := by have := hr.un; omega
    refine ⟨_, pss_cons (ps_set (i := 2) nd rfl (Or.inl rfl) pe_dnewK)
      (pss_cons (ps_set (i := 3) nd rfl (Or.inl rfl) (pe_call G1 hr (by rfl) g1 k1 b1 .nil pass0 (pa_cons (pv 0) (pa_cons (pv 1) pa_nil))))
      (pss_cons (ps_dput hu1 (pv 2) (pe_callB (call_reprD hgd hu100) (by rfl) T.repr boot_repr (pa_cons (pv 3) pa_nil)) (pe_tup (pa_cons (pv 3) (pa_cons (pe_tup pa_nil) pa_nil))) rfl)
      (pss_cons (ps_set (i := 4) nd rfl (Or.inl rfl) pe_dnewT)
      (pss_cons (ps_while PassesOwn.never (pt_cmpR (op_ne_nil hu0) (pv 2) pe_dnewK (nomark _))
        (pss_cons (ps_set (i := 5) nd rfl (Or.inl rfl) pe_dnewK)
        (pss_cons (ps_lock (ps_for PassesOwn.never rfl (pi_keys (pv 2)) (pg_name (i := 6) nd rfl (Or.inl rfl))
          (pss_cons (ps_asg (pe_dget hu1 (pv 2) (pv 6) (fun _ _ => rfl)) (pg_tup rfl (pgs_cons (pg_name (i := 3) nd rfl (Or.inl rfl)) (pgs_cons (pg_name (i := 7) nd rfl (Or.inl rfl)) pgs_nil))))
          (pss_cons (PS.imp (t' := tOver K) (ps_if (pt_val (pe_call G2 hr (by rfl) g2 k2 b2 .nil pass0 (pa_cons (pv 3) pa_nil)))
              (pss_cons (ps_set (i := 8) nd rfl (Or.inl rfl) (pe_callTy call_tuple_of (by rfl) T.tuple boot_tuple (pa_cons (pe_dget hu1 (pv 3) pe_str (fun _ _ => rfl)) pa_nil)))
              (pss_one (ps_if (PW.pt (pw_or (pt_cmp (pc_dnotin hu1 (pv 8) (pv 4)) rfl) (pw_or1 (pt_cmpR (op_ltT hu0) (pv 7) (pe_dget hu1 (pv 4) (pv 8) (fun _ _ => rfl)) (nomark _)))))
                (pss_one (ps_dput hu1 (pv 4) (pv 8) (pv 7) rfl)) pss_nil))) pss_nil) (by
              rintro D σ H ⟨H0, lv, fo, fr, lo, kvsL, lvl, fnd, fsh, s, o, od, q, ma, ca, wa, sa, ws, x0, x1, x6, x8, x9, x10, x11, rfl, I, hfo0, O, hne, hq, hl, hz, k⟩
              refine ⟨_, rfl, od, ma, ca, wa, sa, ws, s, rfl, O, hl, fun H2 s2 => ⟨_, rfl, ?_⟩⟩
              have I2 := I.same s2
              have O2 := O.same s2
              have hq2 := s2 _ _ hq
              cases hov : over s with
              | false =>
                have ev : visitF fnd (s, o) = fnd := by
                  unfold visitF
                  rw [if_neg (by rw [hov]; nofun)]
                rw [ev] at k
                exact iteF (k _ _ I2 O2 hq2)
              | true =>
                refine iteT ⟨_, rfl, od, _, rfl, getM O2.own, ma, _, rfl, .inl ⟨SqL.of O2.mks, fun mt hmt => ?_⟩⟩
                have s3 : Same H2 (upd H2 mt (.tup (s.marks.map nV))) := same_new hmt
                have hmt3 : (upd H2 mt (.tup (s.marks.map nV))) mt = some (.tup ((keyM s.marks).map kV)) := by
                  rw [upd_same, keyM_kV]
                have I3 := I2.same s3
                have O3 := O2.same s3
                have hq3 := s3 _ _ hq2
                generalize (upd H2 mt (.tup (s.marks.map nV))) = H3 at s3 hmt3 I3 O3 hq3 ⊢
                obtain ⟨kvF, hF, rF⟩ := I3.fo
                have hlen : kvF.length = fnd.length := Paired.length rF
                have store : ∀ e : visitF fnd (s, o) = putA fnd s.marks o, D.nx [x0, x1, some (.ref lv), some (.ref od), some (.ref fo), some (.ref fr), x6, some (.ref q), some (.ref mt), x9, x10, x11] (upd H3 fo (.dT (putK kvF (keyM s.marks) (.ref q)))) := fun e => by
                  refine k _ _ ?_ (O3.putF hF) (by rw [upd_ne (ne_of hq3 hF nofun)]; exact hq3)
                  rw [e]
                  exact I3.putF hfo0 hF rF ⟨q, rfl, hq3⟩
                refine ⟨_, rfl, _, rfl, fo, _, rfl, DGet.t (k := keyM s.marks) hF hmt3, _, rfl, ?_⟩
                rcases rF.look (k := s.marks) (fun e _ he => keyM_inj he) with ⟨a1, a2⟩ | ⟨b, v, a1, a2, q', rfl, a3⟩
                · rw [a2]
                  refine iteT (iteT ⟨_, rfl, _, rfl, _, rfl, fo, _, rfl, DPut.t (k := keyM s.marks) hF hmt3 (by omega), store ?_⟩)
                  unfold visitF
                  rw [if_pos hov]
                  show (match lookA fnd s.marks with | none => _ | some _ => _) = _
                  rw [a1]
                · rw [a2]
                  have hq4 : H3 q = some (.tup ((o.map fun n : Nat => (n : Int)).map V.int)) := by
                    rw [hq3, List.map_map]
                    rfl
                  have hb4 : H3 q' = some (.tup ((b.map fun n : Nat => (n : Int)).map V.int)) := by
                    rw [a3, List.map_map]
                    rfl
                  refine iteF ⟨_, rfl, _, rfl, _, rfl, fo, .ref q', rfl, (by rw [← a2]; exact DGet.t (k := keyM s.marks) hF hmt3), q, q', _, _, rfl, rfl, SqT.of hq4, SqT.of hb4, _, rfl, ?_⟩
                  rw [lexLt_n]
                  have ev : visitF fnd (s, o) = if lex o b = true then putA fnd s.marks o else fnd := by
                    unfold visitF
                    rw [if_pos hov]
                    show (match lookA fnd s.marks with | none => _ | some _ => _) = _
                    rw [a1]
                  cases hx : lex o b with
                  | true =>
                    rw [hx, if_pos rfl] at ev
                    exact iteT ⟨_, rfl, _, rfl, _, rfl, fo, _, rfl, DPut.t (k := keyM s.marks) hF hmt3 (by omega), store ev⟩
                  | false =>
                    rw [hx, if_neg nofun] at ev
                    rw [ev] at k
                    exact iteF (k _ _ I3 O3 hq3)))
          (pss_one (ps_for PassesOwn.never rfl (pi_range2 (by rfl) T.range (pa_cons pe_int (pa_cons (pe_op op_add (pe_callB call_len_seq (by rfl) T.len PySem.boot_len (pa_cons (pv 1) pa_nil)) pe_int) pa_nil))) (pg_name (i := 9) nd rfl (Or.inl rfl))
            (pss_cons (ps_set (i := 10) nd rfl (Or.inl rfl) (pe_call G3 hr (by rfl) g3 k3 b3 .nil pass0 (pa_cons (pv 3) pa_nil)))
            (pss_one (ps_if (pt_val (pe_call G4 hr (by rfl) g4 k4 b4 .nil pass0 (pa_cons (pv 0) (pa_cons (pv 10) (pa_cons (pv 9) pa_nil)))))
              (pss_cons (ps_set (i := 11) nd rfl (Or.inl rfl) (pe_op op_catN (pv 7) (pe_tup (pa_cons (pv 9) pa_nil))))
              (pss_one (ps_if (PW.pt (pw_or (pt_cmp (pc_dnotin hu1 (pe_callB (call_reprD hgd hu100) (by rfl) T.repr boot_repr (pa_cons (pv 10) pa_nil)) (pv 5)) rfl)
                  (pw_or1 (pt_cmpR (op_ltT hu0) (pv 11) (pe_ix ix_tup (pe_dget hu1 (pv 5) (pe_callB (call_reprD hgd hu100) (by rfl) T.repr boot_repr (pa_cons (pv 10) pa_nil)) (fun _ _ => rfl)) pe_int (fun _ _ => rfl)) (nomark _)))))
                (pss_one (ps_dput hu1 (pv 5) (pe_callB (call_reprD hgd hu100) (by rfl) T.repr boot_repr (pa_cons (pv 10) pa_nil)) (pe_tup (pa_cons (pv 10) (pa_cons (pv 11) pa_nil))) rfl)) pss_nil))) pss_nil)))))))))
        (pss_one (ps_set (i := 2) nd rfl (Or.inl rfl) (pv 5))))))
      (pss_one (ps_ret (pv 4))))))), ?_⟩
    have hk3 := rok.three
    have hs2 : (2 : Nat) ≤ sizeLine := by decide
    have small0 : StOk web roots.length (begun web roots) := reach_ok ok rok (o := []) rfl
    refine fun lv hlv => ?_
    have s1 : Same H (upd H lv (.dK [])) := same_new hlv
    have lv1 : (upd H lv (.dK [])) lv = some (.dK []) := upd_same
    generalize (upd H lv (.dK [])) = H1 at s1 lv1 ⊢
    refine ⟨_, rfl, _, rfl, W, rt, web, roots, rfl, hW.same s1, ok, hR.same s1, rok, fun H2 od ma ca wa sa ws s2 new O2 => ?_⟩
    have odlv : od ≠ lv := (ne_of_none lv1 new.1).symm
    refine ⟨_, rfl, Nat.zero_le _, fun q0 hq0 => ⟨hs2, fun T0 hT0 => ?_⟩⟩
    have s3 := same_new (o := .tup []) hq0
    have s4 := same_new (o := .tup [.ref od, .ref q0]) hT0
    have q4 := s4 _ _ (upd_same (H := H2) (a := q0) (o := .tup []))
    have T4 : (upd (upd H2 q0 (.tup [])) T0 (.tup [.ref od, .ref q0])) T0 = some (.tup [.ref od, .ref q0]) := upd_same
    have O4 := (O2.same s3).same s4
    have lv4 := s4 _ _ (s3 _ _ (s2 _ _ lv1))
    have s14 := (s1.trans s2).trans (s3.trans s4)
    generalize (upd (upd H2 q0 (.tup [])) T0 (.tup [.ref od, .ref q0])) = H4 at q4 T4 O4 lv4 s14 ⊢
    refine ⟨_, rfl, _, rfl, od, ownK ma ca wa sa, ownData (begun web roots), rfl, O4.own, own_data O4, (data_ok (small0.small ok hk3) _ _ _ _).1, small0.len ok hk3, (data_ok (small0.small ok hk3) _ _ _ _).2, lv, _, rfl, DPut.k (k := keyS (begun web roots)) lv4 (by decide), ?_⟩
    have s5 : Same H (upd H4 lv (.dK (putK [] (keyS (begun web roots)) (.ref T0)))) := same_out s14 hlv
    have lv5 : (upd H4 lv (.dK (putK [] (keyS (begun web roots)) (.ref T0)))) lv = some (.dK [(keyS (begun web roots), .ref T0)]) := upd_same
    have g5 : LvlG lv (upd H4 lv (.dK (putK [] (keyS (begun web roots)) (.ref T0)))) (.ref T0) (begun web roots) [] :=
      ⟨T0, q0, od, ma, ca, wa, sa, ws, rfl, by rw [upd_ne (ne_of T4 lv4 nofun)]; exact T4, O4.putL lv4 odlv, by rw [upd_ne (ne_of q4 lv4 nofun)]; exact q4, odlv⟩
    generalize (upd H4 lv (.dK (putK [] (keyS (begun web roots)) (.ref T0)))) = H5 at s5 lv5 g5 ⊢
    refine fun fo hfo => ?_
    have hfo0 : H fo = none := none_of s5 hfo
    have s6 := same_new (o := .dT []) hfo
    have fo6 : (upd H5 fo (.dT [])) fo = some (.dT []) := upd_same
    refine ⟨fun μ σ H1 => ∃ (n : Nat) (lv : Addr) (kvsL : List (Key × V)) (kvF : List (List Key × V)) (x3 x5 x6 x7 x8 x9 x10 x11 : Option V), σ = [some (.ref W), some (.ref rt), some (.ref lv), x3, some (.ref fo), x5, x6, x7, x8, x9, x10, x11] ∧ Same H H1 ∧ H lv = none ∧
      H1 lv = some (.dK kvsL) ∧ RelD keyS (LvlG lv H1) kvsL (levelAt web roots n) ∧ H1 fo = some (.dT kvF) ∧ RelD keyM (FndG H1) kvF (foundAt web roots n) ∧ (foundAt web roots n).length ≤ n * 531441 ∧ n + μ = 13,
      ⟨13, 0, lv, _, _, _, _, _, _, _, _, _, _, rfl, s5.trans s6, hlv, s6 _ _ lv5, .cons ⟨rfl, g5.same s6⟩ .nil, fo6, .nil, Nat.zero_le _, rfl⟩, ?_⟩
    clear fo6 s6 hfo g5 lv5 s5 H5 s14 lv4 O4 T4 q4 s4 s3 hT0 hq0 odlv new O2 s2 H2 lv1 s1 H1 H4 hlv lv
    rintro μ σ H1 ⟨n, lv, kvsL, kvF, x3, x5, x6, x7, x8, x9, x10, x11, rfl, s1, hlv0, hlv, rL, hF, rF, hfl, hμ⟩
    have hlL : kvsL.length = (levelAt web roots n).length := Paired.length rL
    refine ⟨_, rfl, fun nl hnl => ⟨lv, nl, kvsL, rfl, rfl, same_new hnl _ _ hlv, upd_same, _, rfl, ?_⟩⟩
    have s2 : Same H1 (upd H1 nl (.dK [])) := same_new hnl
    generalize (upd H1 nl (.dK [])) = H2 at s2 ⊢
    by_cases hne : levelAt web roots n = []
    · have ek : kvsL = [] := List.eq_nil_of_length_eq_zero (by rw [hlL, hne]; rfl)
      subst ek
      exact iteF ⟨_, rfl, k _ fo n (s1.trans s2) hne ⟨kvF, s2 _ _ hF, rF.mono fun _ _ _ g => g.kept (Same.ts s2)⟩⟩
    · have hn12 := level_len ok rok hne
      have hls := level_small ok rok (roots := roots) n
      have LO := (levelAt_all web roots n).1
      have ek : (!kvsL.isEmpty) = true := by
        cases kvsL with
        | nil => exact absurd (List.eq_nil_of_length_eq_zero hlL.symm) hne
        | cons _ _ => rfl
      rw [ek]
      refine iteT ⟨_, fun σ' H' h => ⟨μ - 1, by omega, h⟩, ?_⟩
      refine fun fr hfr => ?_
      have hfr0 : H fr = none := none_of (s1.trans s2) hfr
      have s3 : Same H2 (upd H2 fr (.dK [])) := same_new hfr
      have fr3 : (upd H2 fr (.dK [])) fr = some (.dK []) := upd_same
      have lv2 := s2 _ _ hlv
      have fo2 := s2 _ _ hF
      have lv3 := s3 _ _ lv2
      have lvfr : lv ≠ fr := ne_of_none lv2 hfr
      have keep2 : ∀ (lo : Obj), ∀ b x, b ≠ lv → H2 b = some x → upd (upd H2 fr (.dK [])) lv (.frz lo (.dK kvsL)) b = some x := fun lo b x hb e => by
        rw [upd_ne hb]
        exact s3 _ _ e
      generalize hH3 : (upd H2 fr (.dK [])) = H3 at s3 fr3 lv3 keep2 ⊢
      refine ⟨lv, .dK kvsL, lv3, trivial, fun lo => ?_⟩
      refine ⟨_, rfl, lv, lo, rfl, .inl ⟨kvsL, upd_same, ?_⟩⟩
      have I0 : In H (upd H3 lv (.frz lo (.dK kvsL))) lv fo fr lo kvsL (levelAt web roots n) (foundAt web roots n) [] := by
        refine ⟨same_out ((s1.trans s2).trans s3) hlv0, upd_same, rL.mono fun v s o g => (g.same s2).kept (fun b x hb hx => keep2 lo b x (fun z => by
            rw [z, lv2] at hb
            rcases hx with ⟨xs, rfl⟩ | ⟨xs, rfl⟩ <;> cases hb) hb) fun b x hb hx => ⟨keep2 lo b _ hb hx, ne_of_none hx hfr⟩, ⟨kvF, keep2 lo _ _ (ne_of fo2 lv2 nofun) fo2, rF.mono fun _ _ _ g => (g.kept (Same.ts s2)).kept fun b xs e => keep2 lo _ _ (ne_of e lv2 nofun) e⟩, ⟨[], by rw [upd_ne lvfr.symm]; exact fr3, .nil⟩⟩
      generalize upd H3 lv (.frz lo (.dK kvsL)) = H4 at I0 ⊢
      clear keep2
      generalize hlvl : levelAt web roots n = lvl at I0 hlL hls LO hne
      refine for_it (walk_keys (d := lv) (o := lo) (kvs := kvsL)) (fun i σ H' => ∃ (x3 x6 x7 x8 x9 x10 x11 : Option V), σ = [some (.ref W), some (.ref rt), some (.ref lv), x3, some (.ref fo), some (.ref fr), x6, x7, x8, x9, x10, x11] ∧
          In H H' lv fo fr lo kvsL lvl (nextFound (lvl.take i) (foundAt web roots n)) (nextLevel web roots.length (lvl.take i) []) ∧ (nextFound (lvl.take i) (foundAt web roots n)).length ≤ n * 531441 + i ∧ (nextLevel web roots.length (lvl.take i) []).length ≤ 3 * i ∧ ∀ e ∈ nextLevel web roots.length (lvl.take i) [], StOk web roots.length e.1)
        ⟨_, _, _, _, _, _, _, rfl, I0, Nat.le_trans hfl (Nat.le_add_right _ 0), Nat.zero_le _, nofun⟩ (fun i σ H' _ hP => by
          obtain ⟨_, _, _, _, _, _, _, _, I, _⟩ := hP
          exact I.lv) ?_ ?_
      · rintro i x σ H' H'' hi ⟨x3, x6, x7, x8, x9, x10, x11, rfl, I, hl1, hl2, hall⟩ ⟨rfl, kk, vv, hkk, rfl⟩
        have hil : i < lvl.length := by omega
        have hei := List.getElem?_eq_getElem hil
        obtain ⟨kv, hkv1, hkv2, _⟩ := paired_get I.lvl hei
        rw [hkk] at hkv1
        cases hkv1
        have hmem : lvl[i] ∈ lvl := List.getElem_mem hil
        generalize lvl[i] = e at hei hkv2 hmem
        obtain ⟨s, o⟩ := e
        obtain rfl : kk = keyS s := hkv2
        have hrun := LO.run s o ((mem_look LO.nod).mp hmem)
        have sok := reach_ok ok rok hrun.1
        have injL : ∀ e ∈ lvl, keyS e.1 = keyS s → e.1 = s := fun e he z => by
          have h1 := LO.run e.1 e.2 ((mem_look LO.nod).mp he)
          exact rep_inj ((reach_ok ok rok h1.1).small ok hk3) (sok.small ok hk3) (Sum.inr.inj z)
        have olen : o.length ≤ 12 := by
          rw [hrun.2]
          exact hn12
        rcases I.lvl.look (k := s) injL with ⟨a1, _⟩ | ⟨b, v, a1, a2, T, q, od, ma, ca, wa, sa, ws, rfl, hT, O, hq, hodfr⟩
        · rw [(mem_look LO.nod).mp hmem] at a1
          cases a1
        · rw [(mem_look LO.nod).mp hmem] at a1
          cases a1
          refine ⟨_, rfl, _, rfl, lv, .ref T, rfl, .inl ⟨kvsL, keyS s, .inr ⟨lo, I.lv⟩, rfl, a2.symm⟩, T, _, rfl, SqT.of hT, rfl, _, _, rfl, _, _, rfl, rfl, ?_⟩
          have hz1 : (nextFound (lvl.take i) (foundAt web roots n)).length < sizeLine := Nat.lt_of_le_of_lt (show _ ≤ 7000000 by omega) (by decide)
          refine ⟨H, lv, fo, fr, lo, kvsL, lvl, _, _, s, o, od, q, ma, ca, wa, sa, ws, _, _, _, _, _, _, _, rfl, I, hfo0, O, hodfr, hq, by rw [sok.lenW]; omega, hz1, fun H6 y8 I6 O6 hq6 => ?_⟩
          have eF : nextFound (lvl.take (i + 1)) (foundAt web roots n) = visitF (nextFound (lvl.take i) (foundAt web roots n)) (s, o) := by
            rw [take_get hei, nextFound_snoc]
          have eL : nextLevel web roots.length (lvl.take (i + 1)) [] = visits web (s, o) roots.length 0 (nextLevel web roots.length (lvl.take i) []) := by
            rw [take_get hei, nextLevel_snoc]
          have hlF : (visitF (nextFound (lvl.take i) (foundAt web roots n)) (s, o)).length ≤ n * 531441 + (i + 1) := by
            have hp := putA_len (nextFound (lvl.take i) (foundAt web roots n)) s.marks o
            unfold visitF
            split
            · split
              · show (putA _ s.marks o).length ≤ _
                omega
              · split
                · show (putA _ s.marks o).length ≤ _
                  omega
                · omega
            · omega
          generalize visitF (nextFound (lvl.take i) (foundAt web roots n)) (s, o) = fnd1 at I6 eF hlF
          generalize hfs : nextLevel web roots.length (lvl.take i) [] = fsh0 at I6 eL hl2 hall
          clear hfs I hT O hq hz1 hl1
          have hrl : (roots.map nV).length = roots.length := List.length_map ..
          refine ⟨_, rfl, rt, _, rfl, .inr (SqT.of (I6.sm _ _ hR)), _, _, rfl, rfl, 1, _, rfl, ?_, ?_⟩
          · rw [hrl]
            omega
          · have en : ((((roots.map nV).length : Nat) : Int) + 1 - 1).toNat = roots.length := by rw [hrl]; omega
            rw [en]
            refine for_range (lo := 1) (n := roots.length) (fun j σ H' => ∃ (x9 x10 x11 : Option V), σ = [some (.ref W), some (.ref rt), some (.ref lv), some (.ref od), some (.ref fo), some (.ref fr), some (kV (keyS s)), some (.ref q), y8, x9, x10, x11] ∧
                In H H' lv fo fr lo kvsL lvl fnd1 (visits web (s, o) j 0 fsh0) ∧ OwnAt H' od ma ca wa sa ws s ∧ H' q = some (.tup (o.map nV)) ∧ (visits web (s, o) j 0 fsh0).length ≤ 3 * i + j ∧ ∀ e ∈ visits web (s, o) j 0 fsh0, StOk web roots.length e.1)
              ⟨_, _, _, rfl, I6, O6, hq6, hl2, hall⟩ ?_ ?_
            · rintro j σ H7 hj ⟨x9, x10, x11, rfl, I7, O7, hq7, hl7, hall7⟩
              have ej : V.int (1 + (j : Int)) = nV (j + 1) := congrArg V.int (by omega)
              have esn := visits_snoc web (s, o) j 0 fsh0
              rw [Nat.zero_add] at esn
              refine ⟨_, rfl, od, ma, ca, wa, sa, ws, s, rfl, O7, by rw [sok.lenW]; omega, fun H8 mo ma' ca' wa' sa' ws' s8 new O8 => ?_⟩
              have I8 := I7.same s8
              refine ⟨_, rfl, _, rfl, _, rfl, W, mo, ma', ca', wa', sa', ws', web, roots.length, j, s, congrArg (fun z => [V.ref W, V.ref mo, z]) ej, hW.same I8.sm, ok, O8, sok, hk3, hj, fun hst H9 s9 => ⟨false, rfl, iteF ?_⟩, fun s' hst H9 kp O9 => ⟨true, rfl, iteT ?_⟩⟩
              · have ev : visits web (s, o) (j + 1) 0 fsh0 = visits web (s, o) j 0 fsh0 := by
                  rw [esn]
                  unfold visit
                  rw [hst]
                have s79 := s8.trans s9
                rw [ev]
                exact ⟨_, _, _, rfl, I7.same s79, O7.same s79, s79 _ _ hq7, by omega, hall7⟩
              · have s79 : Same H7 H9 := fun b x e => kp b x (fun hb => by
                  obtain ⟨n1, n2, n3, n4, n5, n6⟩ := new
                  simp only [List.mem_cons] at hb
                  rcases hb with rfl | rfl | rfl | rfl | hb
                  · rw [n2] at e; cases e
                  · rw [n3] at e; cases e
                  · rw [n4] at e; cases e
                  · rw [n5] at e; cases e
                  · rw [n6 _ hb] at e; cases e) (s8 _ _ e)
                have I9 := I7.same s79
                have Os9 := O7.same s79
                have hq9 := s79 _ _ hq7
                obtain ⟨kf7, frk7, _⟩ := I7.fr
                have mofr : mo ≠ fr := (ne_of_none frk7 new.1).symm
                have hrun' : runO web roots.length (begun web roots) (o ++ [j + 1]) = some s' := by
                  rw [runO_snoc (by omega), hrun.1]
                  exact hst
                have sok' := reach_ok ok rok hrun'
                have small' := sok'.small ok hk3
                refine ⟨_, rfl, _, rfl, (by show 1 ≤ sizeLine; decide), fun t1 ht1 => ?_⟩
                rw [ej]
                have st1 : Same H9 (upd H9 t1 (.tup [nV (j + 1)])) := same_new ht1
                refine ⟨q, t1, _, _, rfl, rfl, st1 _ _ hq9, upd_same, nofun, by rw [List.length_map]; exact Nat.le_of_lt (small1003 (show o.length + 1 ≤ 1003 by omega)), fun H10 lg s10 hlg => ?_⟩
                have sA := st1.trans s10
                have I10 := I9.same sA
                have Os10 := Os9.same sA
                have Om10 := O9.same sA
                have hq10 := sA _ _ hq9
                have hlg' : H10 lg = some (.tup ((o ++ [j + 1]).map nV)) := by
                  rw [hlg, List.map_append]
                  rfl
                clear hlg
                obtain ⟨kf, hfrk, rfr⟩ := I10.fr
                have hkl : kf.length = (visits web (s, o) j 0 fsh0).length := Paired.length rfr
                have hkz : kf.length < sizeLine := Nat.lt_of_le_of_lt (show _ ≤ 1700000 by omega) (by decide)
                have injF : ∀ e ∈ visits web (s, o) j 0 fsh0, keyS e.1 = keyS s' → e.1 = s' := fun e he z => rep_inj ((hall7 e he).small ok hk3) small' (Sum.inr.inj z)
                -- the store's end
                have fin : visits web (s, o) (j + 1) 0 fsh0 = putA (visits web (s, o) j 0 fsh0) s' (o ++ [j + 1]) → ∀ T, H10 T = none →
                    ∃ (x9 x10 x11 : Option V), [some (.ref W), some (.ref rt), some (.ref lv), some (.ref od), some (.ref fo), some (.ref fr), some (kV (keyS s)), some (.ref q), y8, some (nV (j + 1)), some (.ref mo), some (.ref lg)] = [some (.ref W), some (.ref rt), some (.ref lv), some (.ref od), some (.ref fo), some (.ref fr), some (kV (keyS s)), some (.ref q), y8, x9, x10, x11] ∧
                      In H (upd (upd H10 T (.tup [.ref mo, .ref lg])) fr (.dK (putK kf (keyS s') (.ref T)))) lv fo fr lo kvsL lvl fnd1 (visits web (s, o) (j + 1) 0 fsh0) ∧ OwnAt (upd (upd H10 T (.tup [.ref mo, .ref lg])) fr (.dK (putK kf (keyS s') (.ref T)))) od ma ca wa sa ws s ∧
                      upd (upd H10 T (.tup [.ref mo, .ref lg])) fr (.dK (putK kf (keyS s') (.ref T))) q = some (.tup (o.map nV)) ∧ (visits web (s, o) (j + 1) 0 fsh0).length ≤ 3 * i + (j + 1) ∧ ∀ e ∈ visits web (s, o) (j + 1) 0 fsh0, StOk web roots.length e.1 := fun ev T hT => by
                  have sT : Same H10 (upd H10 T (.tup [.ref mo, .ref lg])) := same_new hT
                  have I11 := I10.same sT
                  have fr11 := sT _ _ hfrk
                  have r11 := rfr.mono fun _ _ _ g => g.same sT
                  have hp := putA_len (visits web (s, o) j 0 fsh0) s' (o ++ [j + 1])
                  rw [ev]
                  refine ⟨_, _, _, rfl, I11.putL hfr0 fr11 r11 injF ⟨T, lg, mo, ma', ca', wa', sa', ws', rfl, upd_same, Om10.same sT, sT _ _ hlg', mofr⟩, (Os10.same sT).putL fr11 hodfr, ?_, by omega, putA_all hall7 sok'⟩
                  rw [upd_ne (ne_of (sT _ _ hq10) fr11 nofun)]
                  exact sT _ _ hq10
                refine ⟨_, rfl, mo, ownK ma' ca' wa' sa', ownData s', rfl, Om10.own, own_data Om10, (data_ok (sok'.small ok hk3) _ _ _ _).1, sok'.len ok hk3, (data_ok (sok'.small ok hk3) _ _ _ _).2, _, rfl, fr, _, rfl, DGet.k (k := keyS s') hfrk, _, rfl, ?_⟩
                rcases rfr.look (k := s') injF with ⟨a1, a2⟩ | ⟨b, v, a1, a2, T', q', od', ma2, ca2, wa2, sa2, ws2, rfl, hT', O', hq', _⟩
                · rw [a2]
                  have ev : visits web (s, o) (j + 1) 0 fsh0 = putA (visits web (s, o) j 0 fsh0) s' (o ++ [j + 1]) := by
                    rw [esn]
                    unfold visit
                    rw [hst]
                    show (match lookA (visits web (s, o) j 0 fsh0) s' with | none => _ | some _ => _) = _
                    rw [a1]
                  refine iteT (iteT ⟨_, rfl, _, rfl, hs2, fun T hT => ⟨_, rfl, _, rfl, mo, ownK ma' ca' wa' sa', ownData s', rfl, (Om10.same (same_new hT)).own, own_data (Om10.same (same_new hT)), (data_ok (sok'.small ok hk3) _ _ _ _).1, sok'.len ok hk3, (data_ok (sok'.small ok hk3) _ _ _ _).2, fr, _, rfl, DPut.k (k := keyS s') (same_new hT _ _ hfrk) hkz, fin ev T hT⟩⟩)
                · rw [a2]
                  have hl4 : H10 lg = some (.tup (((o ++ [j + 1]).map fun n : Nat => (n : Int)).map V.int)) := by
                    rw [hlg', List.map_map]
                    rfl
                  have hb4 : H10 q' = some (.tup ((b.map fun n : Nat => (n : Int)).map V.int)) := by
                    rw [hq', List.map_map]
                    rfl
                  refine iteF ⟨_, rfl, _, rfl, _, rfl, mo, ownK ma' ca' wa' sa', ownData s', rfl, Om10.own, own_data Om10, (data_ok (sok'.small ok hk3) _ _ _ _).1, sok'.len ok hk3, (data_ok (sok'.small ok hk3) _ _ _ _).2, fr, .ref T', rfl, (by rw [← a2]; exact DGet.k (k := keyS s') hfrk), T', _, ((1 : Nat) : Int), .ref q', rfl, rfl, SqT.of hT', atI_nat rfl, lg, q', _, _, rfl, rfl, SqT.of hl4, SqT.of hb4, _, rfl, ?_⟩
                  rw [lexLt_n]
                  have ev : visits web (s, o) (j + 1) 0 fsh0 = if lex (o ++ [j + 1]) b = true then putA (visits web (s, o) j 0 fsh0) s' (o ++ [j + 1]) else visits web (s, o) j 0 fsh0 := by
                    rw [esn]
                    unfold visit
                    rw [hst]
                    show (match lookA (visits web (s, o) j 0 fsh0) s' with | none => _ | some _ => _) = _
                    rw [a1]
                  cases hx : lex (o ++ [j + 1]) b with
                  | true =>
                    rw [hx, if_pos rfl] at ev
                    exact iteT ⟨_, rfl, _, rfl, hs2, fun T hT => ⟨_, rfl, _, rfl, mo, ownK ma' ca' wa' sa', ownData s', rfl, (Om10.same (same_new hT)).own, own_data (Om10.same (same_new hT)), (data_ok (sok'.small ok hk3) _ _ _ _).1, sok'.len ok hk3, (data_ok (sok'.small ok hk3) _ _ _ _).2, fr, _, rfl, DPut.k (k := keyS s') (same_new hT _ _ hfrk) hkz, fin ev T hT⟩⟩
                  | false =>
                    rw [hx, if_neg nofun] at ev
                    rw [ev]
                    exact iteF ⟨_, _, _, rfl, I10, Os10, hq10, by omega, hall7⟩
            · rintro σ H7 ⟨x9, x10, x11, rfl, I7, O7, hq7, hl7, hall7⟩
              rw [← eL] at I7 hl7 hall7
              rw [← eF] at I7 hlF
              exact ⟨_, _, _, _, _, _, _, rfl, I7, hlF, by omega, hall7⟩
      · rintro σ H7 ⟨x3, x6, x7, x8, x9, x10, x11, rfl, I, hl1, hl2, hall⟩
        rw [hlL, List.take_length] at I hl1 hl2 hall
        obtain ⟨kF, f1, f2⟩ := I.fo
        obtain ⟨kL, l1, l2⟩ := I.fr
        have ilv := I.lv
        have keep : ∀ b x, b ≠ lv → H7 b = some x → upd H7 lv (.dK kvsL) b = some x := fun b x hb e => by
          rw [upd_ne hb]
          exact e
        have frlv : fr ≠ lv := ne_of l1 ilv nofun
        have e1 : levelAt web roots (n + 1) = nextLevel web roots.length lvl [] := by
          rw [← hlvl]
          rfl
        have e2 : foundAt web roots (n + 1) = nextFound lvl (foundAt web roots n) := by
          rw [← hlvl]
          rfl
        refine ⟨ilv, _, rfl, n + 1, fr, kL, kF, _, _, _, _, _, _, _, _, rfl, same_out I.sm hlv0, hfr0, keep _ _ frlv l1, ?_, keep _ _ (ne_of f1 ilv nofun) f1, ?_, by rw [e2]; omega, by omega⟩
        · rw [e1]
          refine l2.mono fun v s o g => g.kept (fun b x hb hx => keep b x (fun z => by
            rw [z, ilv] at hb
            rcases hx with ⟨xs, rfl⟩ | ⟨xs, rfl⟩ <;> cases hb) hb) fun b x hb hx => ⟨keep b _ (ne_of hx ilv nofun) hx, hb⟩
        · rw [e2]
          exact f2.mono fun _ _ _ g => g.kept fun b xs e => keep _ _ (ne_of e ilv nofun) e
end
end TB

set_option maxRecDepth 100000
set_option maxHeartbeats 4000000
/-! All sharings; the ends against the program. -/
namespace TB
open PySem PySem.Spec PyProof.Rows L2
def ShL (H : Hp) (as : List Addr) (Ss : List (List Nat)) : Prop := Paired (fun a (S : List Nat) => H a = some (.tup (S.map nV))) as Ss
theorem ShL.ts {H H' : Hp} {as : List Addr} {Ss : List (List Nat)} (h : ShL H as Ss) (s : Tsame H H') : ShL H' as Ss := Paired.mapP h fun _ _ q => s _ _ q
def ShAll (n k : Nat) (Ss : List (List Nat)) : Prop := ∀ S ∈ Ss, S.length = n ∧ ∀ x ∈ S, x ≤ k
theorem paired_append {α β : Type} {F : α → β → Prop} : ∀ {a1 a2 : List α} {b1 b2 : List β}, Paired F a1 b1 → Paired F a2 b2 → Paired F (a1 ++ a2) (b1 ++ b2)
  | [], _, [], _, .nil, h => h
  | _ :: _, _, _ :: _, _, .cons h t, h2 => .cons h (paired_append t h2)
def spSharings : Sp := fun vs H Q _ => ∃ (W rt : Addr) (web : Web) (roots : List Nat), vs = [.ref W, .ref rt] ∧ WebAt H W web ∧ WebOk web ∧ NumsAt H rt roots ∧ RootsOk web roots ∧
  ∀ H' p as Ss, Same H H' → H' p = some (.lst (as.map V.ref)) → ShL H' as Ss → ShAll web.length roots.length Ss → Q (.ref p) H'
section
variable {P : Program} {w : World} {K : PySem.W.Frag} {mg : Str → Option Value} {base : Heap}
theorem sc_law_sharings : FnScope ["_law_web", "_law_roots", "_law_found", "_law_row", "_law_fresh", "_law_one", "_law_walker"] ["_law_web", "_law_roots"] (defScope s_law_sharings) := ⟨rfl, rfl, rfl, by decide +kernel, rfl, by decide +kernel, by decide +kernel⟩
theorem has_law_sharings (T : Tx mg) (S : Stands K mg "_law_sharings" s_law_sharings) : Has P w K mg base 1 "_law_sharings" ["_law_web", "_law_roots"] spSharings := by
  refine S.has sc_law_sharings (fun _ _ _ _ _ _ us hl => match us, hl with | [_, _], _ => rfl) (fun vs H Q E h => ?_) (fun f cdv A outer s H vs Q E hr h => ?_)
  · obtain ⟨W, rt, web, roots, rfl, _⟩ := h
    rfl
  · obtain ⟨W, rt, web, roots, rfl, hW, ok, hR, rok, k⟩ := h
    have nd := sc_law_sharings.nd
    refine ⟨_, pss_cons (ps_set (i := 2) nd rfl (Or.inl rfl) (pe_lst (pa_cons (pe_tup pa_nil) pa_nil)))
      (pss_cons (ps_for PassesOwn.never rfl (pi_tup (pv 0)) (pg_name (i := 3) nd rfl (Or.inl rfl))
        (pss_cons (ps_set (i := 4) nd rfl (Or.inl rfl) (pe_lst pa_nil))
        (pss_cons (ps_for PassesOwn.never rfl (pi_list (pv 2)) (pg_name (i := 5) nd rfl (Or.inr rfl))
          (pss_one (ps_set (i := 4) nd rfl (Or.inl rfl) (pe_op op_cat (pv 4) (pe_lc (own := [("_law_walker", 6)]) (g := gName 6) (tt := tYes) rfl nd (pi_range1 (by rfl) T.range (pa_cons (pe_op op_add (pe_callB call_len_seq (by rfl) T.len PySem.boot_len (pa_cons (pv 1) pa_nil)) pe_int) pa_nil))
            (blkOk_by (N := ["_law_web", "_law_roots", "_law_found", "_law_row", "_law_fresh", "_law_one", "_law_walker"]) (sc := defScope s_law_sharings) (by decide +kernel)) (fun _ _ _ _ _ => pg_name (i := 6) nd rfl (Or.inl rfl)) (fun _ _ _ _ _ => pts_nil)
            (fun _ _ _ _ _ => pe_op (r := rCatN) op_catN (pv 5) (pe_tup (pa_cons (pv 6) pa_nil))))))))
        (pss_one (ps_set (i := 2) nd rfl (Or.inl rfl) (pv 4))))))
      (pss_one (ps_ret (pv 2)))), ?_⟩
    obtain ⟨rs, hW1, hW2, hW3⟩ := id hW
    have h4 := ok.four
    have h3 := rok.three
    have hrl : (rs.map V.ref).length = web.length := by rw [List.length_map, hW2]
    have rlen : (roots.map nV).length = roots.length := List.length_map ..
    refine ⟨Nat.zero_le _, fun q0 hq0 => ⟨(by show 1 ≤ sizeLine; decide), fun f0 hf0 => ?_⟩⟩
    have s1 := same_new (o := .tup []) hq0
    have s2 := same_new (o := .lst [.ref q0]) hf0
    have q2 := s2 _ _ (upd_same (H := H) (a := q0) (o := .tup []))
    have f2 : (upd (upd H q0 (.tup [])) f0 (.lst [.ref q0])) f0 = some (.lst [.ref q0]) := upd_same
    have s12 := s1.trans s2
    generalize (upd (upd H q0 (.tup [])) f0 (.lst [.ref q0])) = H2 at q2 f2 s12 ⊢
    refine ⟨_, rfl, W, rfl, ⟨_, SqT.of (s12 _ _ hW1)⟩, ?_⟩
    refine for_tup (K := K) (a := W) (xs := rs.map V.ref) (fun i σ H' => ∃ (fo : Addr) (as : List Addr) (Ss : List (List Nat)) (x3 x4 x5 x6 : Option V), σ = [some (.ref W), some (.ref rt), some (.ref fo), x3, x4, x5, x6] ∧ Same H H' ∧ H' fo = some (.lst (as.map V.ref)) ∧ ShL H' as Ss ∧ ShAll i roots.length Ss ∧ Ss.length ≤ 4 ^ i)
      ⟨f0, [q0], [[]], _, _, _, _, rfl, s12, f2, .cons q2 .nil, fun S hS => by
        have : S = [] := by simpa using hS
        subst this
        exact ⟨rfl, nofun⟩, Nat.le_refl _⟩ (fun i σ H' _ hP => by
        obtain ⟨_, _, _, _, _, _, _, _, sm, _⟩ := hP
        exact SqT.of (sm _ _ hW1)) ?_ ?_
    · rintro i x σ H' hx ⟨fo, as, Ss, x3, x4, x5, x6, rfl, sm, hfo, hsh, hall, hlen⟩
      have hil : i < web.length := by
        rw [← hrl]
        exact (List.getElem?_eq_some_iff.mp hx).1
      have h4i : 4 ^ i ≤ 64 := by
        have : i = 0 ∨ i = 1 ∨ i = 2 ∨ i = 3 := by omega
        rcases this with rfl | rfl | rfl | rfl <;> decide
      have hasl : as.length = Ss.length := Paired.length hsh
      refine ⟨Nat.zero_le _, fun e0 he0 => ?_⟩
      have s3 := same_new (o := .lst []) he0
      have e3 : (upd H' e0 (.lst [])) e0 = some (.lst []) := upd_same
      generalize (upd H' e0 (.lst [])) = H3 at s3 e3 ⊢
      refine ⟨_, rfl, fo, rfl, ⟨_, SqL.of (s3 _ _ hfo)⟩, ?_⟩
      refine for_list (K := K) (a := fo) (xs := as.map V.ref) (fun j σ H'' => ∃ (fr : Addr) (bs : List Addr) (Ts : List (List Nat)) (x5 x6 : Option V), σ = [some (.ref W), some (.ref rt), some (.ref fo), some x, some (.ref fr), x5, x6] ∧ Same H3 H'' ∧ H'' fr = some (.lst (bs.map V.ref)) ∧ ShL H'' bs Ts ∧ ShAll (i + 1) roots.length Ts ∧ Ts.length ≤ 4 * j)
        ⟨e0, [], [], _, _, rfl, Same.refl _, e3, .nil, nofun, Nat.le_refl _⟩ (fun j σ H'' _ hP => by
          obtain ⟨_, _, _, _, _, _, sm', _⟩ := hP
          exact SqL.of (sm' _ _ (s3 _ _ hfo))) ?_ ?_
      · rintro j y σ H'' hy ⟨fr, bs, Ts, x5, x6, rfl, sm', hfr, hTs, hTall, hTlen⟩
        obtain ⟨a, ha0, rfl⟩ := map_get_inv hy
        have hjl : j < Ss.length := by
          rw [← hasl]
          exact (List.getElem?_eq_some_iff.mp ha0).1
        have hSj := List.getElem?_eq_getElem hjl
        obtain ⟨a', e1, hSa⟩ := paired_get hsh hSj
        rw [ha0] at e1
        cases e1
        obtain ⟨hS1, hS2⟩ := hall _ (List.getElem_mem hjl)
        generalize Ss[j] = S1 at hSj hSa hS1 hS2
        have hSa3 := sm' _ _ (s3 _ _ hSa)
        have smH := (sm.trans s3).trans sm'
        refine ⟨_, rfl, _, rfl, rt, _, rfl, .inr (SqT.of (smH _ _ hR)), _, _, rfl, rfl, _, rfl, ?_, ?_, fun D hD => ?_⟩
        · rw [rlen]
          omega
        · rw [rlen]
          omega
        · have en : (((roots.map nV).length : Nat) : Int) + 1 = ((roots.length + 1 : Nat) : Int) := by rw [rlen]; omega
          rw [en, Int.toNat_natCast]
          refine lc_range (lo := 0) (n := roots.length + 1) (fun m G => Same H'' G ∧ ∃ (cs : List Addr) (Us : List (List Nat)), G D = some (.lst (cs.map V.ref)) ∧ ShL G cs Us ∧ ShAll (i + 1) roots.length Us ∧ Us.length = m) ⟨same_new hD, [], [], upd_same, .nil, nofun, rfl⟩ (fun m G hm hP => ?_) (fun G hP => ?_)
          · obtain ⟨sg, cs, Us, hcs, hUs, hUall, hUl⟩ := hP
            have hcl : cs.length = Us.length := Paired.length hUs
            have em : V.int (0 + (m : Int)) = nV m := congrArg V.int (by omega)
            refine ⟨rfl, _, rfl, _, rfl, (by show 1 ≤ sizeLine; decide), fun t1 ht1 => ?_⟩
            rw [em]
            have st1 : Same G (upd G t1 (.tup [nV m])) := same_new ht1
            refine ⟨a, t1, _, _, rfl, rfl, st1 _ _ (sg _ _ hSa3), upd_same, nofun, by rw [List.length_map, hS1]; exact Nat.le_of_lt (small1003 (show i + 1 ≤ 1003 by omega)), fun G' p sG hp => ?_⟩
            have sGG := st1.trans sG
            have hcs' := sGG _ _ hcs
            refine ⟨_, hcs', small1003 (by rw [List.length_map]; omega), same_out (sg.trans sGG) hD, cs ++ [p], Us ++ [S1 ++ [m]], by rw [upd_same, List.map_append]; rfl, ?_, fun S hS => ?_, by rw [List.length_append, hUl]; rfl⟩
            · refine paired_snoc ?_ ((hUs.ts (Same.ts sGG)).ts (.lst hcs'))
              rw [upd_ne (ne_of hp hcs' nofun), hp, List.map_append]
              rfl
            · rcases List.mem_append.mp hS with h | h
              · exact hUall S h
              · have : S = S1 ++ [m] := by simpa using h
                rw [this]
                refine ⟨by rw [List.length_append, hS1]; rfl, fun x hx => ?_⟩
                rcases List.mem_append.mp hx with q | q
                · exact hS2 x q
                · have : x = m := by simpa using q
                  omega
          · obtain ⟨sg, cs, Us, hcs, hUs, hUall, hUl⟩ := hP
            have hcl : cs.length = Us.length := Paired.length hUs
            have hbl : bs.length = Ts.length := Paired.length hTs
            refine ⟨fr, D, _, _, rfl, rfl, sg _ _ hfr, hcs, by rw [List.length_map, List.length_map]; exact Nat.le_of_lt (small1003 (by omega)), fun l hl => ?_⟩
            have sl := same_new (o := .lst (bs.map V.ref ++ cs.map V.ref)) hl
            refine ⟨l, bs ++ cs, Ts ++ Us, _, _, rfl, sm'.trans (sg.trans sl), by rw [upd_same, List.map_append], paired_append ((hTs.ts (Same.ts sg)).ts (Same.ts sl)) (hUs.ts (Same.ts sl)), fun S hS => ?_, by rw [List.length_append, hUl]; omega⟩
            rcases List.mem_append.mp hS with h | h
            · exact hTall S h
            · exact hUall S h
      · rintro σ H'' ⟨fr, bs, Ts, x5, x6, rfl, sm', hfr, hTs, hTall, hTlen⟩
        refine ⟨_, rfl, fr, bs, Ts, _, _, _, _, rfl, (sm.trans s3).trans sm', hfr, hTs, hTall, ?_⟩
        rw [List.length_map, hasl] at hTlen
        have : 4 ^ (i + 1) = 4 * 4 ^ i := by rw [Nat.pow_succ, Nat.mul_comm]
        omega
    · rintro σ H' ⟨fo, as, Ss, x3, x4, x5, x6, rfl, sm, hfo, hsh, hall, hlen⟩
      rw [hrl] at hall
      exact ⟨_, rfl, k _ fo as Ss sm hfo hsh hall⟩
end
end TB

set_option maxRecDepth 100000
set_option maxHeartbeats 4000000
/-! The ends against the program. -/
namespace TB
open PySem PySem.Spec PyProof.Rows L2
def spEndsRight : Sp := fun vs H Q _ => ∃ (W rt ed : Addr) (web : Web) (roots : List Nat) (n : Nat), vs = [.ref W, .ref rt, .ref ed] ∧ WebAt H W web ∧ WebOk web ∧ NumsAt H rt roots ∧ RootsOk web roots ∧ levelAt web roots n = [] ∧ EndsAt H ed (foundAt web roots n) ∧
  ∀ H', Same H H' → Q (.bl true) H'
theorem EndsAt.same {H H' : Hp} {e : Addr} {f : Found} (h : EndsAt H e f) (s : Same H H') : EndsAt H' e f := by
  obtain ⟨k, a, b⟩ := h
  exact ⟨k, s _ _ a, b.mono fun _ _ _ g => g.kept (Same.ts s)⟩
theorem nums_eqv (l : List Nat) : PyData.eqv (.tuple (l.map fun n : Nat => PyData.int n)) (.tuple (l.map fun n : Nat => PyData.int n)) = true := by
  have : PyData.eqvAll (l.map fun n : Nat => PyData.int n) (l.map fun n : Nat => PyData.int n) = true := by
    induction l with
    | nil => simp [PyData.eqvAll]
    | cons a l ih =>
      rw [List.map_cons]
      simp only [PyData.eqvAll, PyData.eqv, ih]
      simp
  rw [PyData.eqv]
  exact this
theorem nums_shaped (l : List Nat) : SeqAt.shaped (.tuple (l.map fun n : Nat => PyData.int n)) = true := by
  obtain ⟨_, b, c⟩ := nums_data (K := []) (H := fun _ => none) l
  unfold SeqAt.shaped
  rw [Bool.and_eq_true]
  exact ⟨by simp only [PyData.canLay0]; exact b, decide_eq_true (by simp only [PyData.depth]; omega)⟩
section
variable {P : Program} {w : World} {K : PySem.W.Frag} {mg : Str → Option Value} {base : Heap}
theorem sc_law_ends_right : FnScope ["_law_web", "_law_roots", "_law_ends_here", "_law_sharing", "_law_due"] ["_law_web", "_law_roots", "_law_ends_here"] (defScope s_law_ends_right) := ⟨rfl, rfl, rfl, by decide +kernel, rfl, by decide +kernel, by decide +kernel⟩
theorem has_law_ends_right (T : Tx mg) (S : Stands K mg "_law_ends_right" s_law_ends_right) (h1 : Has P w K mg base 1 "_law_sharings" ["_law_web", "_law_roots"] spSharings) (h2 : Has P w K mg base 8 "order_to" ["web", "roots", "sharing"] spOrderTo)
    (h3 : Has P w K mg base 7 "comes" ["web", "roots", "sharing"] spComes) (h4 : Has P w K mg base 7 "hindrance" ["web", "roots", "sharing"] spHindered) : Has P w K mg base 9 "_law_ends_right" ["_law_web", "_law_roots", "_law_ends_here"] spEndsRight := by
  obtain ⟨f1, fd1, g1, k1, b1, G1⟩ := h1
  obtain ⟨f2, fd2, g2, k2, b2, G2⟩ := h2
  obtain ⟨f3, fd3, g3, k3, b3, G3⟩ := h3
  obtain ⟨f4, fd4, g4, k4, b4, G4⟩ := h4
  refine S.has sc_law_ends_right (fun _ _ _ _ _ _ us hl => match us, hl with | [_, _, _], _ => rfl) (fun vs H Q E h => ?_) (fun f cdv A outer s H vs Q E hr h => ?_)
  · obtain ⟨W, rt, ed, web, roots, n, rfl, _⟩ := h
    rfl
  · obtain ⟨W, rt, ed, web, roots, n, rfl, hW, ok, hR, rok, hn, hE, k⟩ := h
    have nd := sc_law_ends_right.nd
    have hu := hr.units
    have hu1 := hu_of hr
    have hr1 : Room 1 _ := hr.mono (by decide)
    have hr7 : Room 7 _ := hr.mono (by decide)
    refine ⟨_, pss_cons (ps_for PassesOwn.never rfl (pi_list (pe_call G1 hr1 (by rfl) g1 k1 b1 .nil pass0 (pa_cons (pv 0) (pa_cons (pv 1) pa_nil)))) (pg_name (i := 3) nd rfl (Or.inl rfl))
        (pss_cons (ps_set (i := 4) nd rfl (Or.inl rfl) (pe_dget2 hu1 (pv 2) (pv 3) pe_non ⟨rfl, rfl, rfl, rfl⟩))
        (pss_cons (ps_if (PW.pt (pw_or (pt_cmpR (op_neD hu) (pe_call G2 hr (by rfl) g2 k2 b2 .nil pass0 (pa_cons (pv 0) (pa_cons (pv 1) (pa_cons (pv 3) pa_nil)))) (pv 4) (nomark _))
            (pw_or1 (pt_cmpR op_ne (pe_call G3 hr7 (by rfl) g3 k3 b3 .nil pass0 (pa_cons (pv 0) (pa_cons (pv 1) (pa_cons (pv 3) pa_nil)))) (pe_cmpR op_notN (pv 4) pe_non (nomark _)) (nomark _))))) (pss_one (ps_ret pe_bl)) pss_nil)
        (pss_one (ps_if (pt_cmpR op_ne (pe_cmpR op_isN (pe_call G4 hr7 (by rfl) g4 k4 b4 .nil pass0 (pa_cons (pv 0) (pa_cons (pv 1) (pa_cons (pv 3) pa_nil)))) pe_non (nomark _)) (pe_cmpR op_notN (pv 4) pe_non (nomark _)) (nomark _)) (pss_one (ps_ret pe_bl)) pss_nil)))))
      (pss_one (ps_ret pe_bl)), ?_⟩
    refine ⟨_, rfl, _, rfl, W, rt, web, roots, rfl, hW, ok, hR, rok, fun H1 p as Ss s1 hp hSs hall => ?_⟩
    have hasl : as.length = Ss.length := Paired.length hSs
    refine ⟨p, rfl, ⟨_, SqL.of hp⟩, ?_⟩
    refine for_list (K := K) (a := p) (xs := as.map V.ref) (fun i σ H' => (∃ x3 x4, σ = [some (.ref W), some (.ref rt), some (.ref ed), x3, x4]) ∧ Same H1 H') ⟨⟨_, _, rfl⟩, Same.refl _⟩ (fun i σ H' _ hP => SqL.of (hP.2 _ _ hp)) ?_ ?_
    · rintro i x σ H' hx ⟨⟨x3, x4, rfl⟩, sm⟩
      obtain ⟨a, ha0, rfl⟩ := map_get_inv hx
      have hil : i < Ss.length := by
        rw [← hasl]
        exact (List.getElem?_eq_some_iff.mp ha0).1
      have hSi := List.getElem?_eq_getElem hil
      obtain ⟨a', e1, hSa⟩ := paired_get hSs hSi
      rw [ha0] at e1
      cases e1
      obtain ⟨hS1, hS2⟩ := hall _ (List.getElem_mem hil)
      generalize Ss[i] = Sh at hSi hSa hS1 hS2
      have sH := s1.trans sm
      have A3 : At3 H' W rt a web roots Sh := ⟨hW.same sH, ok, hR.same sH, rok, sm _ _ hSa, ⟨hS1, hS2⟩⟩
      obtain ⟨kvs, hed, rel⟩ := hE.same sH
      have hfi := found_is ok rok A3.sok hn
      have hkey : H' a = some (.tup ((keyM Sh).map kV)) := by
        rw [keyM_kV]
        exact sm _ _ hSa
      refine ⟨_, rfl, ed, rfl, .inr ⟨kvs, .inl hed⟩, _, rfl, _, DGet.t (k := keyM Sh) hed hkey, ?_⟩
      rcases rel.look (k := Sh) (fun e _ he => keyM_inj he) with ⟨a1, a2⟩ | ⟨b, v, a1, a2, q, rfl, hq⟩
      · rw [a2]
        rw [a1] at hfi
        have hh : hind web roots Sh = true := by
          cases e : hind web roots Sh with
          | true => rfl
          | false =>
            rw [e] at hfi
            cases hfi
        refine ⟨_, rfl, _, rfl, _, rfl, W, rt, a, web, roots, Sh, rfl, A3, fun _ H2 s2 => ?_, fun e => Bool.noConfusion (hh.symm.trans e)⟩
        refine ⟨_, rfl, .none, .none, .non, .non, by decide +kernel, by decide +kernel, _, rfl, ?_⟩
        have e0 : PyData.eqv .none .none = true := by simp [PyData.eqv]
        rw [e0]
        refine iteF ⟨_, rfl, _, rfl, _, rfl, W, rt, a, web, roots, Sh, rfl, A3.same s2, fun H3 s3 => ?_⟩
        rw [hh]
        refine ⟨_, rfl, rfl, rfl, _, rfl, iteF ?_⟩
        refine ⟨_, rfl, _, rfl, _, rfl, W, rt, a, web, roots, Sh, rfl, (A3.same s2).same s3, fun e => Bool.noConfusion (hh.symm.trans e), fun _ H4 q y ys s4 hq => ?_⟩
        exact ⟨rfl, _, rfl, rfl, rfl, _, rfl, iteF ⟨⟨_, _, rfl⟩, sm.trans ((s2.trans s3).trans s4)⟩⟩
      · rw [a2]
        rw [a1] at hfi
        have hh : hind web roots Sh = false := by
          cases e : hind web roots Sh with
          | false => rfl
          | true =>
            rw [e] at hfi
            cases hfi
        rw [hh] at hfi
        have hb : b = order web roots Sh := Option.some.inj hfi
        subst hb
        refine ⟨_, rfl, _, rfl, _, rfl, W, rt, a, web, roots, Sh, rfl, A3, fun e => Bool.noConfusion (hh.symm.trans e), fun _ H2 o s2 ho => ?_⟩
        have hq2 := s2 _ _ hq
        have n1 : ∀ {p : Addr}, H2 p = some (.tup ((order web roots Sh).map nV)) → Dp K H2 (.ref p) (.tuple ((order web roots Sh).map fun n : Nat => PyData.int n)) := fun {p} e => .tup (SqT.of e) (nums_data _).1
        refine ⟨_, rfl, _, _, n1 ho, n1 hq2, nums_shaped _, nums_shaped _, _, rfl, ?_⟩
        rw [nums_eqv]
        refine iteF ⟨_, rfl, _, rfl, _, rfl, W, rt, a, web, roots, Sh, rfl, A3.same s2, fun H3 s3 => ?_⟩
        rw [hh]
        refine ⟨_, rfl, rfl, rfl, _, rfl, iteF ?_⟩
        refine ⟨_, rfl, _, rfl, _, rfl, W, rt, a, web, roots, Sh, rfl, (A3.same s2).same s3, fun _ H4 s4 => ?_, fun e => Bool.noConfusion (hh.symm.trans e)⟩
        exact ⟨rfl, _, rfl, rfl, rfl, _, rfl, iteF ⟨⟨_, _, rfl⟩, sm.trans ((s2.trans s3).trans s4)⟩⟩
    · rintro σ H' ⟨_, sm⟩
      exact k _ (s1.trans sm)
end
end TB

set_option maxRecDepth 100000
set_option maxHeartbeats 4000000
/-! The law's webs. -/
namespace TB
open PySem PySem.Spec PyProof.Rows L2
def spSmall (K : PySem.W.Frag) : Sp := fun vs H Q _ => ∃ (sc tp : Addr) (ns : List Int) (a : Nat), vs = [.ref sc, .ref tp] ∧ Scr K H tp sc ns ∧ TapeAt H tp a ∧ a ≤ 900000 ∧
  ∀ H' q W rt web roots a', KeptBut tp H H' → TapeAt H' tp a' → a' ≤ a + 30 → H' q = some (.tup [.ref W, .ref rt]) → WebAt H' W web → WebOk web → NumsAt H' rt roots → RootsOk web roots → Q (.ref q) H'
/-- if .. == 1: roots = roots[::-1] -/
def tRev (K : PySem.W.Frag) : TS := fun D σ H => ∃ (sc tp : Addr) (ns : List Int) (a m : Nat) (q : Addr) (x2 x4 x5 x6 x7 x8 : Option V), σ = [some (.ref sc), some (.ref tp), x2, some (.ref q), x4, x5, x6, x7, x8] ∧ Scr K H tp sc ns ∧ TapeAt H tp a ∧ a ≤ 1000000 ∧ H q = some (.lst ((List.range m).map nV)) ∧ q ≠ tp ∧
  ∀ H' a' q' (r0 : List Nat), KeptBut tp H H' → TapeAt H' tp a' → a' ≤ a + 1 → H' q' = some (.lst (r0.map nV)) → q' ≠ tp → r0.length = m → r0.Nodup → (∀ x ∈ r0, x < m) → D.nx [some (.ref sc), some (.ref tp), x2, some (.ref q'), x4, x5, x6, x7, x8] H'
def RowsT (H : Hp) (as : List Addr) (rows : Web) : Prop := Paired (fun a (row : List (Option Nat)) => H a = some (.tup (row.map oV))) as rows
theorem RowsT.ts {H H' : Hp} {as : List Addr} {rows : Web} (h : RowsT H as rows) (s : Tsame H H') : RowsT H' as rows := Paired.mapP h fun _ _ q => s _ _ q
theorem KeptBut.ts {tp : Addr} {a : Nat} {H H' : Hp} (h : KeptBut tp H H') (ht : TapeAt H tp a) : Tsame H H' := fun b xs e => h b _ (by
  obtain ⟨y, hy⟩ := ht
  exact ne_of e hy nofun) e
section
variable {P : Program} {w : World} {K : PySem.W.Frag} {mg : Str → Option Value} {base : Heap}
theorem sc_law_small : FnScope ["_law_script", "_law_tape", "_law_many", "_law_roots", "_law_web", "_law_node", "_law_row", "_law_place", "_law_way"] ["_law_script", "_law_tape"] (defScope s_law_small) := ⟨rfl, rfl, rfl, by decide +kernel, rfl, by decide +kernel, by decide +kernel⟩
theorem has_law_small (T : Tx mg) (S : Stands K mg "_law_small" s_law_small) (h1 : Has P w K mg base 1 "_law_draw" ["_law_script", "_law_tape", "_law_many"] (spDraw K)) : Has P w K mg base 2 "_law_small" ["_law_script", "_law_tape"] (spSmall K) := by
  obtain ⟨f1, fd1, g1, k1, b1, G1⟩ := h1
  refine S.has sc_law_small (fun _ _ _ _ _ _ us hl => match us, hl with | [_, _], _ => rfl) (fun vs H Q E h => ?_) (fun f cdv A outer s H vs Q E hr h => ?_)
  · obtain ⟨sc, tp, ns, a, rfl, _⟩ := h
    rfl
  · obtain ⟨sc, tp, ns, a, rfl, hS, hT, ha, k⟩ := h
    have nd := sc_law_small.nd
    refine ⟨_, pss_cons (ps_set (i := 2) nd rfl (Or.inl rfl) (pe_op op_add pe_int (pe_call G1 hr (by rfl) g1 k1 b1 .nil pass0 (pa_cons (pv 0) (pa_cons (pv 1) (pa_cons pe_int pa_nil))))))
      (pss_cons (ps_set (i := 3) nd rfl (Or.inl rfl) (pe_listRg rfl (by rfl) T.list (prg_1 (by rfl) T.range (pv 2))))
      (pss_cons (PS.imp (t' := tRev K) (ps_if (pt_cmpR op_eq (pe_call G1 hr (by rfl) g1 k1 b1 .nil pass0 (pa_cons (pv 0) (pa_cons (pv 1) (pa_cons pe_int pa_nil)))) pe_int (nomark _)) (pss_one (ps_set (i := 3) nd rfl (Or.inl rfl) (pe_revL (pv 3)))) pss_nil) (by
          rintro D σ H ⟨sc, tp, ns, a, m, q, x2, x4, x5, x6, x7, x8, rfl, hS, hT, ha, hq, hqt, k⟩
          refine ⟨_, rfl, _, rfl, sc, tp, ns, a, 2, rfl, hS, hT, ha, by decide, by decide, fun H1 a1 r kp hT1 ha1 hr1 => ⟨rfl, _, rfl, ?_⟩⟩
          have hq1 := kp _ _ hqt hq
          by_cases c : r = 1
          · rw [decide_eq_true (show nV r = V.int 1 from congrArg V.int (by omega))]
            refine iteT ⟨_, rfl, q, _, rfl, SqL.of hq1, fun p hp => ?_⟩
            obtain ⟨y, hy⟩ := hT1
            have sp := same_new (o := .lst ((List.range m).map nV).reverse) hp
            refine k _ a1 p (List.range m).reverse (kp.trans (Same.but sp tp)) ⟨y, sp _ _ hy⟩ ha1 (by rw [upd_same, List.map_reverse]) (ne_of_none hy hp).symm (by rw [List.length_reverse, List.length_range]) (by unfold List.Nodup; rw [List.pairwise_reverse]; exact (List.nodup_range).imp fun h => Ne.symm h) fun x hx => ?_
            simpa using hx
          · rw [decide_eq_false (show ¬ nV r = V.int 1 from fun e => c (by have := V.int.inj e; omega))]
            exact iteF (k _ a1 q (List.range m) kp hT1 ha1 hq1 hqt List.length_range List.nodup_range fun x hx => by simpa using hx)))
      (pss_cons (ps_set (i := 3) nd rfl (Or.inl rfl) (pe_callTy call_tuple_of (by rfl) T.tuple boot_tuple (pa_cons (pe_slice sl_list (pv 3) po_none (po_some (pe_op op_add pe_int (pe_call G1 hr (by rfl) g1 k1 b1 .nil pass0 (pa_cons (pv 0) (pa_cons (pv 1) (pa_cons pe_int pa_nil))))))) pa_nil)))
      (pss_cons (ps_set (i := 4) nd rfl (Or.inl rfl) (pe_lst pa_nil))
      (pss_cons (ps_for PassesOwn.never rfl (pi_range1 (by rfl) T.range (pa_cons (pv 2) pa_nil)) (pg_name (i := 5) nd rfl (Or.inl rfl))
        (pss_cons (ps_set (i := 6) nd rfl (Or.inl rfl) (pe_lst pa_nil))
        (pss_cons (ps_for PassesOwn.never rfl (pi_range1 (by rfl) T.range (pa_cons (pe_call G1 hr (by rfl) g1 k1 b1 .nil pass0 (pa_cons (pv 0) (pa_cons (pv 1) (pa_cons pe_int pa_nil)))) pa_nil)) (pg_name (i := 7) nd rfl (Or.inl rfl))
          (pss_cons (ps_set (i := 8) nd rfl (Or.inl rfl) (pe_call G1 hr (by rfl) g1 k1 b1 .nil pass0 (pa_cons (pv 0) (pa_cons (pv 1) (pa_cons pe_int pa_nil)))))
          (pss_one (ps_if (pt_cmpR op_lt (pv 8) pe_int (nomark _))
            (pss_one (ps_expr (pe_bm PySem.F.plainAttrs_list PySem.F.slot_list_append PySem.F.type_list_append mt_append (pv 6) (pa_cons (pe_ix ix_tup (pv 3) (pe_call G1 hr (by rfl) g1 k1 b1 .nil pass0 (pa_cons (pv 0) (pa_cons (pv 1) (pa_cons (pe_callB call_len_seq (by rfl) T.len PySem.boot_len (pa_cons (pv 3) pa_nil)) pa_nil)))) (fun _ _ => rfl)) pa_nil))))
            (pss_one (ps_expr (pe_bm PySem.F.plainAttrs_list PySem.F.slot_list_append PySem.F.type_list_append mt_append (pv 6) (pa_cons (pe_ix ix_list (pe_lst (pa_cons pe_non (pa_cons (pv 5) (pa_cons (pe_call G1 hr (by rfl) g1 k1 b1 .nil pass0 (pa_cons (pv 0) (pa_cons (pv 1) (pa_cons (pv 2) pa_nil)))) pa_nil)))) (pe_op op_sub (pv 8) pe_int) (fun _ _ => rfl)) pa_nil))))))))
        (pss_one (ps_expr (pe_bm PySem.F.plainAttrs_list PySem.F.slot_list_append PySem.F.type_list_append mt_append (pv 4) (pa_cons (pe_callTy call_tuple_of (by rfl) T.tuple boot_tuple (pa_cons (pv 6) pa_nil)) pa_nil)))))))
      (pss_one (ps_ret (pe_tup (pa_cons (pe_callTy call_tuple_of (by rfl) T.tuple boot_tuple (pa_cons (pv 4) pa_nil)) (pa_cons (pv 3) pa_nil)))))))))), ?_⟩
    have keepS : ∀ {H1 : Hp}, KeptBut tp H H1 → Scr K H1 tp sc ns := fun {H1} kp => hS.but kp
    have tb : ∀ {H1 : Hp} {p : Addr} {o : HO} {a : Nat}, TapeAt H1 tp a → H1 p = none → TapeAt (upd H1 p o) tp a := fun {H1 p o a} ⟨y, hy⟩ hp => ⟨y, same_new hp _ _ hy⟩
    refine ⟨_, rfl, _, rfl, sc, tp, ns, a, 4, rfl, hS, hT, by omega, by decide, by decide, fun H1 a1 r1 kp1 hT1 ha1 hr1 => ⟨_, _, rfl, rfl, ?_⟩⟩
    refine ⟨_, rfl, _, rfl, RgOk.of_le (Int.le_refl 0) (show (1 : Int) + (r1 : Int) ≤ 16777216 by omega) (by decide) (show (0 : Int) ≤ 1 + (r1 : Int) by omega), fun q1 hq1 => ?_⟩
    have erg : rgV 0 (1 + (r1 : Int)) = (List.range (r1 + 1)).map nV := by
      unfold rgV
      have : ((1 + (r1 : Int)) - 0).toNat = r1 + 1 := by omega
      rw [this]
      exact List.map_congr_left fun i _ => congrArg V.int (by omega)
    have kp2 : KeptBut tp H (upd H1 q1 (.lst (rgV 0 (1 + (r1 : Int))))) := kp1.trans (Same.but (same_new hq1) tp)
    have hT2 : TapeAt (upd H1 q1 (.lst (rgV 0 (1 + (r1 : Int))))) tp a1 := tb hT1 hq1
    have hq2 : (upd H1 q1 (.lst (rgV 0 (1 + (r1 : Int))))) q1 = some (.lst ((List.range (r1 + 1)).map nV)) := by rw [upd_same, erg]
    have qt2 : q1 ≠ tp := by
      obtain ⟨y, hy⟩ := hT1
      exact (ne_of_none hy hq1).symm
    generalize (upd H1 q1 (.lst (rgV 0 (1 + (r1 : Int))))) = H2 at kp2 hT2 hq2 ⊢
    refine ⟨sc, tp, ns, a1, r1 + 1, q1, _, _, _, _, _, _, rfl, keepS kp2, hT2, by omega, hq2, qt2, fun H3 a3 q3 r0 kp3 hT3 ha3 hq3 qt3 h0l h0n h0x => ?_⟩
    have kp03 := kp2.trans kp3
    refine ⟨_, rfl, _, rfl, _, rfl, sc, tp, ns, a3, 2, rfl, keepS kp03, hT3, by omega, by decide, by decide, fun H4 a4 r4 kp4 hT4 ha4 hr4 => ⟨_, _, rfl, rfl, _, rfl, q3, _, rfl, SqL.of (kp4 _ _ qt3 hq3), fun p hp => ⟨p, _, rfl, .inl ⟨SqL.of upd_same, fun rt hrt => ?_⟩⟩⟩⟩
    have e24 : (2 : Int) + (r4 : Int) = ((2 + r4 : Nat) : Int) := by omega
    rw [e24, cut_to] at hrt ⊢
    have kp5 : KeptBut tp H (upd (upd H4 p (.lst ((r0.take (2 + r4)).map nV))) rt (.tup ((r0.take (2 + r4)).map nV))) := ((kp03.trans kp4).trans (Same.but (same_new hp) tp)).trans (Same.but (same_new hrt) tp)
    have hT5 : TapeAt (upd (upd H4 p (.lst ((r0.take (2 + r4)).map nV))) rt (.tup ((r0.take (2 + r4)).map nV))) tp a4 := tb (tb hT4 hp) hrt
    have hR5 : (upd (upd H4 p (.lst ((r0.take (2 + r4)).map nV))) rt (.tup ((r0.take (2 + r4)).map nV))) rt = some (.tup ((r0.take (2 + r4)).map nV)) := upd_same
    have hlt : ∀ x ∈ r0.take (2 + r4), x < r1 + 1 := fun x hx => h0x x (List.mem_of_mem_take hx)
    have hln : (r0.take (2 + r4)).length ≤ 3 ∧ 1 ≤ (r0.take (2 + r4)).length := by
      rw [List.length_take, h0l]
      omega
    have hnod : (r0.take (2 + r4)).Nodup := h0n.sublist (List.take_sublist _ _)
    generalize (upd (upd H4 p (.lst ((r0.take (2 + r4)).map nV))) rt (.tup ((r0.take (2 + r4)).map nV))) = B at kp5 hT5 hR5 ⊢
    generalize r0.take (2 + r4) = roots at hR5 hlt hln hnod ⊢
    clear hp hrt
    have rtt : rt ≠ tp := by
      obtain ⟨y, hy⟩ := hT5
      exact ne_of hR5 hy nofun
    refine ⟨Nat.zero_le _, fun wl hwl => ?_⟩
    have kb6 : KeptBut tp B (upd B wl (.lst [])) := Same.but (same_new hwl) tp
    have wlt : wl ≠ tp := by
      obtain ⟨y, hy⟩ := hT5
      exact (ne_of_none hy hwl).symm
    have hT6 : TapeAt (upd B wl (.lst [])) tp a4 := tb hT5 hwl
    have hw6 : (upd B wl (.lst [])) wl = some (.lst []) := upd_same
    generalize (upd B wl (.lst [])) = H6 at kb6 hT6 hw6 ⊢
    have kall : ∀ {H1 : Hp}, KeptBut tp B H1 → KeptBut tp H H1 := fun {H1} h => kp5.trans h
    refine ⟨_, rfl, _, rfl, by omega, by omega, ?_⟩
    have emn : (1 + (r1 : Int)).toNat = r1 + 1 := by omega
    rw [emn]
    refine for_range (lo := 0) (n := r1 + 1) (fun i σ H' => ∃ (as : List Addr) (rows : Web) (a' : Nat) (x5 x6 x7 x8 : Option V), σ = [some (.ref sc), some (.ref tp), some (V.int (1 + (r1 : Int))), some (.ref rt), some (.ref wl), x5, x6, x7, x8] ∧ KeptBut tp B H' ∧ TapeAt H' tp a' ∧ a' ≤ a4 + 5 * i ∧
        H' wl = some (.lst (as.map V.ref)) ∧ RowsT H' as rows ∧ rows.length = i ∧ ∀ row ∈ rows, row.length ≤ 2 ∧ ∀ t, some t ∈ row → t < r1 + 1)
      ⟨[], [], a4, _, _, _, _, rfl, kb6, hT6, Nat.le_refl _, hw6, .nil, rfl, nofun⟩ ?_ ?_
    · rintro i σ H7 hi ⟨as, rows, a7, x5, x6, x7, x8, rfl, kb7, hT7, ha7, hw7, hrows, hrl, hrall⟩
      refine ⟨Nat.zero_le _, fun rl hrl7 => ?_⟩
      have s8 := same_new (o := .lst []) hrl7
      have hT8 : TapeAt (upd H7 rl (.lst [])) tp a7 := tb hT7 hrl7
      have hr8 : (upd H7 rl (.lst [])) rl = some (.lst []) := upd_same
      have kb8 := kb7.trans (Same.but s8 tp)
      have hw8 := s8 _ _ hw7
      have rlw : rl ≠ wl := (ne_of_none hw7 hrl7).symm
      have rlt : rl ≠ tp := by
        obtain ⟨y, hy⟩ := hT7
        exact (ne_of_none hy hrl7).symm
      have hrows8 := hrows.ts (Same.ts s8)
      have hrlB : B rl = none := by
        cases e : B rl with
        | none => rfl
        | some o =>
          rw [kb7 _ _ rlt e] at hrl7
          cases hrl7
      generalize (upd H7 rl (.lst [])) = H8 at s8 hT8 hr8 kb8 hw8 hrows8 ⊢
      refine ⟨_, rfl, _, rfl, sc, tp, ns, a7, 3, rfl, keepS (kall kb8), hT8, by omega, by decide, by decide, fun H9 a9 r9 kp9 hT9 ha9 hr9 => ⟨_, rfl, by omega, by omega, ?_⟩⟩
      rw [Int.toNat_natCast]
      refine for_range (lo := 0) (n := r9) (fun j σ H' => ∃ (row : List (Option Nat)) (a' : Nat) (x7 x8 : Option V), σ = [some (.ref sc), some (.ref tp), some (V.int (1 + (r1 : Int))), some (.ref rt), some (.ref wl), some (V.int (0 + (i : Int))), some (.ref rl), x7, x8] ∧ KeptBut tp B H' ∧ TapeAt H' tp a' ∧ a' ≤ a9 + 2 * j ∧
          H' wl = some (.lst (as.map V.ref)) ∧ RowsT H' as rows ∧ H' rl = some (.lst (row.map oV)) ∧ row.length = j ∧ ∀ t, some t ∈ row → t < r1 + 1)
        ⟨[], a9, _, _, rfl, kb8.trans kp9, hT9, Nat.le_refl _, kp9 _ _ wlt hw8, hrows8.ts (kp9.ts hT8), kp9 _ _ rlt hr8, rfl, nofun⟩ ?_ ?_
      · rintro j σ H10 hj ⟨row, a10, x7, x8, rfl, kb10, hT10, ha10, hw10, hrows10, hr10, hrowl, hrow⟩
        refine ⟨_, rfl, _, rfl, sc, tp, ns, a10, 6, rfl, keepS (kall kb10), hT10, by omega, by decide, by decide, fun H11 a11 r11 kp11 hT11 ha11 hr11 => ?_⟩
        refine ⟨_, rfl, _, _, rfl, rfl, _, rfl, ?_⟩
        have hr11' := kp11 _ _ rlt hr10
        have hw11 := kp11 _ _ wlt hw10
        have hrows11 := hrows10.ts (kp11.ts hT10)
        have kb11 := kb10.trans kp11
        -- what is appended
        generalize hrA : row = rowA at hr10 hrowl hrow hr11'
        clear hrA
        have fin : ∀ (H12 : Hp) (a12 : Nat) (o : Option Nat) (x7 x8 : Option V), KeptBut tp B H12 → TapeAt H12 tp a12 → a12 ≤ a9 + 2 * (j + 1) → H12 wl = some (.lst (as.map V.ref)) → RowsT H12 as rows → H12 rl = some (.lst (rowA.map oV)) → (∀ t, o = some t → t < r1 + 1) →
            ∃ (row : List (Option Nat)) (a' : Nat) (y7 y8 : Option V), [some (.ref sc), some (.ref tp), some (V.int (1 + (r1 : Int))), some (.ref rt), some (.ref wl), some (V.int (0 + (i : Int))), some (.ref rl), x7, x8] = [some (.ref sc), some (.ref tp), some (V.int (1 + (r1 : Int))), some (.ref rt), some (.ref wl), some (V.int (0 + (i : Int))), some (.ref rl), y7, y8] ∧
              KeptBut tp B (upd H12 rl (.lst (List.map oV rowA ++ [oV o]))) ∧ TapeAt (upd H12 rl (.lst (List.map oV rowA ++ [oV o]))) tp a' ∧ a' ≤ a9 + 2 * (j + 1) ∧
              upd H12 rl (.lst (List.map oV rowA ++ [oV o])) wl = some (.lst (as.map V.ref)) ∧ RowsT (upd H12 rl (.lst (List.map oV rowA ++ [oV o]))) as rows ∧ upd H12 rl (.lst (List.map oV rowA ++ [oV o])) rl = some (.lst (row.map oV)) ∧ row.length = j + 1 ∧ ∀ t, some t ∈ row → t < r1 + 1 := fun H12 a12 o x7 x8 kb hT ha hw hrows hr ho => by
          refine ⟨rowA ++ [o], a12, _, _, rfl, fun b x hb e => ?_, ?_, ha, by rw [upd_ne rlw.symm]; exact hw, hrows.ts (.lst hr), by rw [upd_same, List.map_append]; rfl, by rw [List.length_append, hrowl]; rfl, fun t ht => ?_⟩
          · rw [upd_ne (ne_of_none e hrlB)]
            exact kb _ _ hb e
          · obtain ⟨y, hy⟩ := hT
            exact ⟨y, by rw [upd_ne rlt.symm]; exact hy⟩
          · rcases List.mem_append.mp ht with h | h
            · exact hrow t h
            · have : some t = o := by simpa using h
              exact ho t this.symm
        have hsm : (rowA.map oV).length < sizeLine := small1003 (by rw [List.length_map]; omega)
        by_cases c : r11 < 3
        · rw [decide_eq_true (show (r11 : Int) < 3 by omega)]
          have hR11 := kb11 _ _ rtt hR5
          refine iteT ⟨_, rfl, .inl ⟨rfl, _, SqL.of hr11'⟩, _, rfl, _, rfl, _, rfl, _, rfl, rt, _, rfl, .inr (SqT.of hR11), sc, tp, ns, a11, roots.length, congrArg (fun z : Nat => [V.ref sc, V.ref tp, V.int (z : Int)]) (List.length_map ..), keepS (kall kb11), hT11, by omega, hln.2, by omega, fun H12 a12 r12 kp12 hT12 ha12 hr12 => ?_⟩
          have hxx := hlt (roots.getD r12 0) (getD_mem hr12)
          refine ⟨rt, _, (r12 : Int), nV (roots.getD r12 0), rfl, rfl, SqT.of (kp12 _ _ rtt hR11), atI_nat (map_get nV (getD_get hr12)), rl, _, _, rfl, rfl, kp12 _ _ rlt hr11', hsm, ?_⟩
          exact fin H12 a12 (some (roots.getD r12 0)) _ _ (kb11.trans kp12) hT12 (by omega) (kp12 _ _ wlt hw11) (hrows11.ts (kp12.ts hT11)) (kp12 _ _ rlt hr11') fun t e => by cases e; exact hxx
        · rw [decide_eq_false (show ¬ (r11 : Int) < 3 by omega)]
          refine iteF ⟨_, rfl, .inl ⟨rfl, _, SqL.of hr11'⟩, _, rfl, _, rfl, _, rfl, _, rfl, sc, tp, ns, a11, r1 + 1, congrArg (fun z => [V.ref sc, V.ref tp, V.int z]) (by omega), keepS (kall kb11), hT11, by omega, by omega, by omega, fun H12 a12 r12 kp12 hT12 ha12 hr12 => ⟨(by show 3 ≤ sizeLine; decide), fun l hl => ?_⟩⟩
          have sl := same_new (o := .lst [.non, .int (0 + (i : Int)), nV r12]) hl
          have kp13 := kp12.trans (Same.but sl tp)
          have hT13 : TapeAt (upd H12 l (.lst [.non, .int (0 + (i : Int)), nV r12])) tp a12 := tb hT12 hl
          have hl13 : (upd H12 l (.lst [.non, .int (0 + (i : Int)), nV r12])) l = some (.lst [.non, .int (0 + (i : Int)), nV r12]) := upd_same
          generalize (upd H12 l (.lst [.non, .int (0 + (i : Int)), nV r12])) = H13 at kp13 hT13 hl13 ⊢
          obtain ⟨o, ho1, ho2⟩ : ∃ o : Option Nat, [V.non, V.int (0 + (i : Int)), nV r12][r11 - 3]? = some (oV o) ∧ ∀ t, o = some t → t < r1 + 1 := by
            have : r11 = 3 ∨ r11 = 4 ∨ r11 = 5 := by omega
            rcases this with rfl | rfl | rfl
            · exact ⟨none, rfl, nofun⟩
            · exact ⟨some i, congrArg (fun z => some (V.int z)) (by omega), fun t e => by cases e; exact hi⟩
            · exact ⟨some r12, rfl, fun t e => by cases e; exact hr12⟩
          refine ⟨_, rfl, _, _, rfl, rfl, l, _, ((r11 - 3 : Nat) : Int), oV o, rfl, congrArg V.int (by omega), SqL.of hl13, atI_nat ho1, rl, _, _, rfl, rfl, kp13 _ _ rlt hr11', hsm, ?_⟩
          exact fin H13 a12 o _ _ (kb11.trans kp13) hT13 (by omega) (kp13 _ _ wlt hw11) (hrows11.ts (kp13.ts hT11)) (kp13 _ _ rlt hr11') ho2
      · rintro σ H10 ⟨row, a10, x7, x8, rfl, kb10, hT10, ha10, hw10, hrows10, hr10, hrowl, hrow⟩
        refine ⟨_, rfl, .inl ⟨rfl, _, SqL.of hw10⟩, _, rfl, rl, _, rfl, .inl ⟨SqL.of hr10, fun t1 ht1 => ?_⟩⟩
        have st := same_new (o := .tup (row.map oV)) ht1
        have hw11 := st _ _ hw10
        have hasl : as.length = rows.length := Paired.length hrows
        have hwB : B wl = none := hwl
        refine ⟨wl, _, .ref t1, rfl, rfl, hw11, small1003 (by rw [List.length_map]; omega), as ++ [t1], rows ++ [row], a10, _, _, _, _, rfl, fun b x hb e => ?_, ?_, by omega, by rw [upd_same, List.map_append]; rfl, ?_, by rw [List.length_append, hrl]; rfl, fun r hr => ?_⟩
        · rw [upd_ne (ne_of_none e hwB)]
          exact st _ _ (kb10 _ _ hb e)
        · obtain ⟨y, hy⟩ := hT10
          exact ⟨y, by rw [upd_ne wlt.symm]; exact st _ _ hy⟩
        · refine paired_snoc ?_ ((hrows10.ts (Same.ts st)).ts (.lst hw11))
          rw [upd_ne (ne_of_none hw10 ht1).symm, upd_same]
        · rcases List.mem_append.mp hr with h | h
          · exact hrall r h
          · have : r = row := by simpa using h
            rw [this]
            exact ⟨by omega, hrow⟩
    · rintro σ H7 ⟨as, rows, a7, x5, x6, x7, x8, rfl, kb7, hT7, ha7, hw7, hrows, hrl, hrall⟩
      have hasl : as.length = rows.length := Paired.length hrows
      refine ⟨_, rfl, wl, _, rfl, .inl ⟨SqL.of hw7, fun W hWn => ⟨_, rfl, (by show 2 ≤ sizeLine; decide), fun q hq => ?_⟩⟩⟩
      have sW := same_new (o := .tup (as.map V.ref)) hWn
      have sq := same_new (o := .tup [.ref W, .ref rt]) hq
      have hW8 := sq _ _ (upd_same (H := H7) (a := W) (o := .tup (as.map V.ref)))
      have sWq := sW.trans sq
      refine k _ q W rt rows roots a7 (kall (kb7.trans (Same.but sWq tp))) (tb (tb hT7 hWn) hq) (by omega) upd_same ⟨as, hW8, hasl, fun x hx => ?_⟩ ⟨by omega, by omega, fun row hr => (hrall row hr).1, fun row hr t ht => by rw [hrl]; exact (hrall row hr).2 t ht⟩ (sWq _ _ (kb7 _ _ rtt hR5)) ⟨hln.2, hln.1, hnod, fun r hr => by rw [hrl]; exact hlt r hr⟩
      obtain ⟨b, e1, e2⟩ := paired_get hrows (getD_get (d := []) hx)
      rw [(get_getD (d := 0) e1).1]
      exact sWq _ _ e2
end
end TB

set_option maxRecDepth 100000
set_option maxHeartbeats 4000000
/-! The law. -/
namespace TB
open PySem PySem.Spec PyProof.Rows L2
def spLaw (K : PySem.W.Frag) : Sp := fun vs H Q _ => ∃ (sc : Addr) (ns : List Int), vs = [.ref sc] ∧ SqL K H sc (ns.map V.int) ∧ ∀ H', Q (.bl true) H'
section
variable {P : Program} {w : World} {K : PySem.W.Frag} {mg : Str → Option Value} {base : Heap}
theorem sc_law : FnScope ["_law_script", "_law_tape", "_law_k", "_law_web", "_law_roots"] ["_law_script"] (defScope s_law) := ⟨rfl, rfl, rfl, by decide +kernel, rfl, by decide +kernel, by decide +kernel⟩
theorem ok_law {f : Addr} {fd : FuncData} (T : Tx mg) (F : FnP K "law" "law" s_law f fd) (h1 : Has P w K mg base 2 "_law_small" ["_law_script", "_law_tape"] (spSmall K)) (h2 : HasG P w K mg base 2 "_law_ends" ["_law_web", "_law_roots"] spEnds)
    (h3 : Has P w K mg base 9 "_law_ends_right" ["_law_web", "_law_roots", "_law_ends_here"] spEndsRight) : FnG P w K mg base 10 f fd ["_law_script"] (spLaw K) := by
  obtain ⟨f1, fd1, g1, k1, b1, G1⟩ := h1
  obtain ⟨f2, fd2, g2, k2, b2, G2⟩ := h2
  obtain ⟨f3, fd3, g3, k3, b3, G3⟩ := h3
  refine okG F sc_law (fun vs H Q E h => ?_) (fun cdv A outer s H vs Q E hgd hr h => ?_)
  · obtain ⟨sc, ns, rfl, _⟩ := h
    rfl
  · suffices hx : ∃ t, PSs (cxOf CX0 P w K mg base ["_law_script", "_law_tape", "_law_k", "_law_web", "_law_roots"] "law" (defScope s_law) f cdv A outer s H E).nox (defBody s_law) t ∧ t { nx := fun _ H' => Q .non H', rt := Q } (start ["_law_script", "_law_tape", "_law_k", "_law_web", "_law_roots"] vs) H by
      obtain ⟨t, a, b⟩ := hx
      exact ⟨t, a.nox, b⟩
    obtain ⟨sc, ns, rfl, hS, k⟩ := h
    have nd := sc_law.nd
    have hr2 : Room 2 _ := hr.mono (by decide)
    refine ⟨_, pss_cons (ps_set (i := 1) nd rfl (Or.inl rfl) (pe_lst (pa_cons pe_int (pa_cons pe_int pa_nil))))
      (pss_cons (ps_for PassesOwn.never rfl (pi_range1 (by rfl) T.range (pa_cons (pe_callB (call_min2 rfl) (by rfl) T.min boot_min (pa_cons pe_int (pa_cons (pe_callB (call_max2 rfl) (by rfl) T.max boot_max (pa_cons pe_int (pa_cons (pe_callB call_len_seq (by rfl) T.len PySem.boot_len (pa_cons (pv 0) pa_nil)) pa_nil))) pa_nil))) pa_nil)) (pg_name (i := 2) nd rfl (Or.inl rfl))
        (pss_cons (ps_asg (pe_call G1 hr2 (by rfl) g1 k1 b1 .nil pass0 (pa_cons (pv 0) (pa_cons (pv 1) pa_nil))) (pg_tup rfl (pgs_cons (pg_name (i := 3) nd rfl (Or.inl rfl)) (pgs_cons (pg_name (i := 4) nd rfl (Or.inl rfl)) pgs_nil))))
        (pss_one (ps_if (pt_not (pt_val (pe_call G3 hr (by rfl) g3 k3 b3 .nil pass0 (pa_cons (pv 3) (pa_cons (pv 4) (pa_cons (pe_callG G2 hgd hr2 (by rfl) g2 k2 b2 (pa_cons (pv 3) (pa_cons (pv 4) pa_nil))) pa_nil)))))) (pss_one (ps_ret pe_bl)) pss_nil))))
      (pss_one (ps_ret pe_bl))), ?_⟩
    refine ⟨(by show 2 ≤ sizeLine; decide), fun tp htp => ?_⟩
    have s1 : Same H (upd H tp (.lst [.int 0, .int 0])) := same_new htp
    have hT1 : TapeAt (upd H tp (.lst [.int 0, .int 0])) tp 0 := ⟨0, upd_same⟩
    have scr1 : Scr K (upd H tp (.lst [.int 0, .int 0])) tp sc ns := fun H' kp => TB.SqL.keep hS fun o e => kp _ _ (ne_of_none e htp) (s1 _ _ e)
    generalize (upd H tp (.lst [.int 0, .int 0])) = H1 at hT1 scr1 ⊢
    refine ⟨_, rfl, sc, _, rfl, .inl (scr1 H1 fun _ _ _ e => e), _, _, rfl, _, _, rfl, _, rfl, ?_, ?_, ?_⟩
    · split <;> split <;> omega
    · split <;> split <;> omega
    · generalize hN : Int.toNat _ = N
      have hN6 : N ≤ 6 := by
        rw [← hN]
        split <;> split <;> omega
      clear hN
      refine for_range (lo := 0) (n := N) (fun i σ H' => ∃ (a : Nat) (x2 x3 x4 : Option V), σ = [some (.ref sc), some (.ref tp), x2, x3, x4] ∧ Scr K H' tp sc ns ∧ TapeAt H' tp a ∧ a ≤ 30 * i) ⟨0, _, _, _, rfl, scr1, hT1, Nat.le_refl _⟩ ?_ ?_
      · rintro i σ H2 hi ⟨a, x2, x3, x4, rfl, scr2, hT2, ha⟩
        refine ⟨_, rfl, _, rfl, sc, tp, ns, a, rfl, scr2, hT2, by omega, fun H3 q W rt web roots a3 kp3 hT3 ha3 hq hW ok hR rok => ?_⟩
        refine ⟨q, _, rfl, SqT.of hq, rfl, _, _, rfl, _, _, rfl, rfl, ?_⟩
        refine ⟨_, rfl, _, rfl, _, rfl, _, rfl, W, rt, web, roots, rfl, hW, ok, hR, rok, fun H4 ed n s4 hn hE => ?_⟩
        refine ⟨W, rt, ed, web, roots, n, rfl, hW.same s4, ok, hR.same s4, rok, hn, hE, fun H5 s5 => ⟨true, rfl, iteF ?_⟩⟩
        obtain ⟨y, hy⟩ := hT3
        have s45 := s4.trans s5
        exact ⟨a3, _, _, _, rfl, (scr2.but kp3).but (Same.but s45 tp), ⟨y, s45 _ _ hy⟩, by omega⟩
      · rintro σ H2 ⟨a, x2, x3, x4, rfl, _⟩
        exact k _
end
end TB

set_option maxRecDepth 100000
set_option maxHeartbeats 0
/-! The end: the head and the walk. -/
namespace TB
open PySem PySem.Spec PyProof.Rows L2
theorem facts {P : Program} {w : World} {K : PySem.W.Frag} {h : Heap} {mg : Str → Option Value} {f : Addr} (X : K.In h) (G : h.Ns mainGlobals mg) (hfa : mg ("law" : Str) = some (.ref f)) (c : He.SaysD fa fn K) :
    ∃ fd : FuncData, (∀ (s : Shared) (v : Value), BindsTo s fd ⟨[v], []⟩ [("_law_script", v)]) ∧ ∀ base : Heap, K.In base → base.Ns mainGlobals mg → FnG P w K mg base 10 f fd ["_law_script"] (spLaw K) := by
  have T : Tx mg := ⟨He.free_ok X G (c.fact 30 (f := .free "len") rfl), He.free_ok X G (c.fact 31 (f := .free "isinstance") rfl), He.free_ok X G (c.fact 32 (f := .free "int") rfl), He.free_ok X G (c.fact 33 (f := .free "bool") rfl), He.free_ok X G (c.fact 34 (f := .free "tuple") rfl), He.free_ok X G (c.fact 35 (f := .free "all") rfl), He.free_ok X G (c.fact 36 (f := .free "enumerate") rfl), He.free_ok X G (c.fact 37 (f := .free "set") rfl), He.free_ok X G (c.fact 38 (f := .free "dict") rfl), He.free_ok X G (c.fact 39 (f := .free "range") rfl), He.free_ok X G (c.fact 40 (f := .free "min") rfl), He.free_ok X G (c.fact 41 (f := .free "max") rfl), He.free_ok X G (c.fact 42 (f := .free "list") rfl), He.free_ok X G (c.fact 43 (f := .free "repr") rfl), He.int_ok X G (c.fact 44 (f := .int "MOST_NODES" 60) rfl), He.int_ok X G (c.fact 45 (f := .int "MOST_TIES" 8) rfl), He.int_ok X G (c.fact 46 (f := .int "MOST_WALKERS" 6) rfl)⟩
  have D : Dx K mg (He.ga K "Doing") := ⟨He.cls_ok (c.fact 47 (f := .cls "Doing") rfl), He.glo_ok X G (c.fact 29 (f := .glo "Doing") rfl), He.noat_ok (c.fact 49 (f := .noat "Doing" "woven") rfl), He.noat_ok (c.fact 50 (f := .noat "Doing" "shared") rfl), He.noat_ok (c.fact 51 (f := .noat "Doing" "event_rows") rfl), He.noat_ok (c.fact 52 (f := .noat "Doing" "dones") rfl), He.noat_ok (c.fact 53 (f := .noat "Doing" "marked_nodes") rfl)⟩
  have S_is_whole : Stands K mg "is_whole" s_is_whole := by
    obtain ⟨fd, F⟩ := c.def_ 0 (d := d_is_whole) rfl
    exact ⟨_, fd, He.glo_ok X G (c.fact 0 (f := .glo "is_whole") rfl), F⟩
  have S_is_among : Stands K mg "is_among" s_is_among := by
    obtain ⟨fd, F⟩ := c.def_ 1 (d := d_is_among) rfl
    exact ⟨_, fd, He.glo_ok X G (c.fact 1 (f := .glo "is_among") rfl), F⟩
  have S_is_row_of : Stands K mg "is_row_of" s_is_row_of := by
    obtain ⟨fd, F⟩ := c.def_ 2 (d := d_is_row_of) rfl
    exact ⟨_, fd, He.glo_ok X G (c.fact 2 (f := .glo "is_row_of") rfl), F⟩
  have S_need_web : Stands K mg "need_web" s_need_web := by
    obtain ⟨fd, F⟩ := c.def_ 3 (d := d_need_web) rfl
    exact ⟨_, fd, He.glo_ok X G (c.fact 3 (f := .glo "need_web") rfl), F⟩
  have S_is_node : Stands K mg "is_node" s_is_node := by
    obtain ⟨fd, F⟩ := c.def_ 4 (d := d_is_node) rfl
    exact ⟨_, fd, He.glo_ok X G (c.fact 4 (f := .glo "is_node") rfl), F⟩
  have S_need_roots : Stands K mg "need_roots" s_need_roots := by
    obtain ⟨fd, F⟩ := c.def_ 5 (d := d_need_roots) rfl
    exact ⟨_, fd, He.glo_ok X G (c.fact 5 (f := .glo "need_roots") rfl), F⟩
  have S_need_sharing : Stands K mg "need_sharing" s_need_sharing := by
    obtain ⟨fd, F⟩ := c.def_ 6 (d := d_need_sharing) rfl
    exact ⟨_, fd, He.glo_ok X G (c.fact 6 (f := .glo "need_sharing") rfl), F⟩
  have S_row_from : Stands K mg "row_from" s_row_from := by
    obtain ⟨fd, F⟩ := c.def_ 7 (d := d_row_from) rfl
    exact ⟨_, fd, He.glo_ok X G (c.fact 7 (f := .glo "row_from") rfl), F⟩
  have S_rows_of : Stands K mg "rows_of" s_rows_of := by
    obtain ⟨fd, F⟩ := c.def_ 8 (d := d_rows_of) rfl
    exact ⟨_, fd, He.glo_ok X G (c.fact 8 (f := .glo "rows_of") rfl), F⟩
  have S_other_at : Stands K mg "other_at" s_other_at := by
    obtain ⟨fd, F⟩ := c.def_ 9 (d := d_other_at) rfl
    exact ⟨_, fd, He.glo_ok X G (c.fact 9 (f := .glo "other_at") rfl), F⟩
  have S_root_hindrance : Stands K mg "root_hindrance" s_root_hindrance := by
    obtain ⟨fd, F⟩ := c.def_ 17 (d := d_root_hindrance) rfl
    exact ⟨_, fd, He.glo_ok X G (c.fact 10 (f := .glo "root_hindrance") rfl), F⟩
  have S_tie_hindrance : Stands K mg "tie_hindrance" s_tie_hindrance := by
    obtain ⟨fd, F⟩ := c.def_ 18 (d := d_tie_hindrance) rfl
    exact ⟨_, fd, He.glo_ok X G (c.fact 11 (f := .glo "tie_hindrance") rfl), F⟩
  have S_far_hindrance : Stands K mg "far_hindrance" s_far_hindrance := by
    obtain ⟨fd, F⟩ := c.def_ 19 (d := d_far_hindrance) rfl
    exact ⟨_, fd, He.glo_ok X G (c.fact 12 (f := .glo "far_hindrance") rfl), F⟩
  have S_hindered : Stands K mg "hindered" s_hindered := by
    obtain ⟨fd, F⟩ := c.def_ 20 (d := d_hindered) rfl
    exact ⟨_, fd, He.glo_ok X G (c.fact 13 (f := .glo "hindered") rfl), F⟩
  have S_hindrance : Stands K mg "hindrance" s_hindrance := by
    obtain ⟨fd, F⟩ := c.def_ 21 (d := d_hindrance) rfl
    exact ⟨_, fd, He.glo_ok X G (c.fact 14 (f := .glo "hindrance") rfl), F⟩
  have S_least_order : Stands K mg "least_order" s_least_order := by
    obtain ⟨fd, F⟩ := c.def_ 22 (d := d_least_order) rfl
    exact ⟨_, fd, He.glo_ok X G (c.fact 15 (f := .glo "least_order") rfl), F⟩
  have S_comes : Stands K mg "comes" s_comes := by
    obtain ⟨fd, F⟩ := c.def_ 23 (d := d_comes) rfl
    exact ⟨_, fd, He.glo_ok X G (c.fact 16 (f := .glo "comes") rfl), F⟩
  have S_which_of : Stands K mg "which_of" s_which_of := by
    obtain ⟨fd, F⟩ := c.def_ 24 (d := d_which_of) rfl
    exact ⟨_, fd, He.glo_ok X G (c.fact 17 (f := .glo "which_of") rfl), F⟩
  have S_order_to : Stands K mg "order_to" s_order_to := by
    obtain ⟨fd, F⟩ := c.def_ 25 (d := d_order_to) rfl
    exact ⟨_, fd, He.glo_ok X G (c.fact 18 (f := .glo "order_to") rfl), F⟩
  have S_law_draw : Stands K mg "_law_draw" s_law_draw := by
    obtain ⟨fd, F⟩ := c.def_ 26 (d := d_law_draw) rfl
    exact ⟨_, fd, He.glo_ok X G (c.fact 19 (f := .glo "_law_draw") rfl), F⟩
  have S_law_begun : Stands K mg "_law_begun" s_law_begun := by
    obtain ⟨fd, F⟩ := c.def_ 27 (d := d_law_begun) rfl
    exact ⟨_, fd, He.glo_ok X G (c.fact 20 (f := .glo "_law_begun") rfl), F⟩
  have S_law_step : Stands K mg "_law_step" s_law_step := by
    obtain ⟨fd, F⟩ := c.def_ 28 (d := d_law_step) rfl
    exact ⟨_, fd, He.glo_ok X G (c.fact 21 (f := .glo "_law_step") rfl), F⟩
  have S_law_is_over : Stands K mg "_law_is_over" s_law_is_over := by
    obtain ⟨fd, F⟩ := c.def_ 29 (d := d_law_is_over) rfl
    exact ⟨_, fd, He.glo_ok X G (c.fact 22 (f := .glo "_law_is_over") rfl), F⟩
  have S_law_small : Stands K mg "_law_small" s_law_small := by
    obtain ⟨fd, F⟩ := c.def_ 30 (d := d_law_small) rfl
    exact ⟨_, fd, He.glo_ok X G (c.fact 23 (f := .glo "_law_small") rfl), F⟩
  have S_law_copied : Stands K mg "_law_copied" s_law_copied := by
    obtain ⟨fd, F⟩ := c.def_ 31 (d := d_law_copied) rfl
    exact ⟨_, fd, He.glo_ok X G (c.fact 24 (f := .glo "_law_copied") rfl), F⟩
  have S_law_ends : Stands K mg "_law_ends" s_law_ends := by
    obtain ⟨fd, F⟩ := c.def_ 32 (d := d_law_ends) rfl
    exact ⟨_, fd, He.glo_ok X G (c.fact 25 (f := .glo "_law_ends") rfl), F⟩
  have S_law_sharings : Stands K mg "_law_sharings" s_law_sharings := by
    obtain ⟨fd, F⟩ := c.def_ 33 (d := d_law_sharings) rfl
    exact ⟨_, fd, He.glo_ok X G (c.fact 26 (f := .glo "_law_sharings") rfl), F⟩
  have S_law_ends_right : Stands K mg "_law_ends_right" s_law_ends_right := by
    obtain ⟨fd, F⟩ := c.def_ 34 (d := d_law_ends_right) rfl
    exact ⟨_, fd, He.glo_ok X G (c.fact 27 (f := .glo "_law_ends_right") rfl), F⟩
  have M_has_next : StandsM K (He.ga K "Doing") "has_next" "Doing.has_next" s_has_next := by
    obtain ⟨fd, F⟩ := c.def_ 11 (d := d_has_next) rfl
    exact ⟨_, fd, He.meth_ok (c.fact 54 (f := .meth "Doing" "has_next") rfl), F⟩
  have M_waits_for : StandsM K (He.ga K "Doing") "waits_for" "Doing.waits_for" s_waits_for := by
    obtain ⟨fd, F⟩ := c.def_ 12 (d := d_waits_for) rfl
    exact ⟨_, fd, He.meth_ok (c.fact 55 (f := .meth "Doing" "waits_for") rfl), F⟩
  have M_may : StandsM K (He.ga K "Doing") "may" "Doing.may" s_may := by
    obtain ⟨fd, F⟩ := c.def_ 13 (d := d_may) rfl
    exact ⟨_, fd, He.meth_ok (c.fact 56 (f := .meth "Doing" "may") rfl), F⟩
  have M_do : StandsM K (He.ga K "Doing") "do" "Doing.do" s_do := by
    obtain ⟨fd, F⟩ := c.def_ 14 (d := d_do) rfl
    exact ⟨_, fd, He.meth_ok (c.fact 57 (f := .meth "Doing" "do") rfl), F⟩
  have M_go_on : StandsM K (He.ga K "Doing") "go_on" "Doing.go_on" s_go_on := by
    obtain ⟨fd, F⟩ := c.def_ 15 (d := d_go_on) rfl
    exact ⟨_, fd, He.meth_ok (c.fact 58 (f := .meth "Doing" "go_on") rfl), F⟩
  have M_ring : StandsM K (He.ga K "Doing") "ring" "Doing.ring" s_ring := by
    obtain ⟨fd, F⟩ := c.def_ 16 (d := d_ring) rfl
    exact ⟨_, fd, He.meth_ok (c.fact 59 (f := .meth "Doing" "ring") rfl), F⟩
  have I_init : StandsI K (He.ga K "Doing") "Doing.__init__" s_init := by
    obtain ⟨fd, F⟩ := c.def_ 10 (d := d_init) rfl
    exact ⟨_, fd, He.mkr_ok (c.fact 48 (f := .mkr "Doing") rfl), F⟩
  obtain ⟨fd, F⟩ := c.def_ 35 (d := d_law) rfl
  have e := hfa.symm.trans (He.glo_ok X G (c.fact 28 (f := .glo "law") rfl))
  cases e
  have b := FunD.bindsA (ps := ["_law_script"]) F fun _ _ _ _ _ _ us hl => match us, hl with | [_], _ => rfl
  refine ⟨fd, fun s v => b s [v] rfl, fun base _ _ => ?_⟩
  · show FnG P w K mg base 10 _ fd ["_law_script"] (spLaw K)
    have h_is_whole := has_is_whole (P := P) (w := w) (base := base) T S_is_whole
    have h_is_among := has_is_among T S_is_among h_is_whole
    have h_is_row_of := has_is_row_of T S_is_row_of h_is_among
    have h_need_web := has_need_web T S_need_web h_is_row_of
    have h_is_node := has_is_node T S_is_node h_is_among
    have h_need_roots := has_need_roots T S_need_roots h_need_web h_is_node
    have h_need_sharing := has_need_sharing T S_need_sharing h_need_web h_need_roots h_is_among
    have h_row_from := has_row_from (P := P) (w := w) (base := base) T S_row_from
    have h_rows_of := has_rows_of T S_rows_of h_row_from
    have h_other_at := has_other_at (P := P) (w := w) (base := base) T S_other_at
    have h_has_next := has_has_next (P := P) (w := w) (base := base) T D M_has_next
    have h_waits_for := has_waits_for T D M_waits_for h_other_at
    have h_may := has_may T D M_may h_has_next h_waits_for
    have h_do := has_do (P := P) (w := w) (base := base) T D M_do
    have h_go_on := has_go_on T D M_go_on h_may h_do
    have h_ring := has_ring T D M_ring h_has_next h_waits_for
    have h_init := has_init T D I_init h_rows_of
    have h_root := has_root_hindrance (P := P) (w := w) (base := base) T S_root_hindrance
    have h_tie := has_tie_hindrance (P := P) (w := w) (base := base) T S_tie_hindrance
    have h_far := has_far_hindrance T S_far_hindrance h_rows_of
    have h_hindered := has_hindered T D S_hindered h_root h_tie h_far h_init h_go_on h_ring
    have h_hindrance := has_hindrance T S_hindrance h_need_sharing h_hindered
    have h_least := has_least_order T D S_least_order h_init h_go_on
    have h_comes := has_comes T S_comes h_need_sharing h_hindered
    have h_which := has_which_of T S_which_of h_need_sharing h_hindered h_least
    have h_order_to := has_order_to T S_order_to h_which
    have h_draw := has_law_draw (P := P) (w := w) (base := base) T S_law_draw
    have h_begun := has_law_begun (P := P) (w := w) (base := base) T S_law_begun
    have h_step := has_law_step (P := P) (w := w) (base := base) T S_law_step
    have h_is_over := has_law_is_over (P := P) (w := w) (base := base) T S_law_is_over
    have h_copied := has_law_copied (P := P) (w := w) (base := base) T S_law_copied
    have h_small := has_law_small T S_law_small h_draw
    have h_ends := has_law_ends T S_law_ends h_begun h_is_over h_copied h_step
    have h_sharings := has_law_sharings (P := P) (w := w) (base := base) T S_law_sharings
    have h_right := has_law_ends_right T S_law_ends_right h_sharings h_order_to h_comes h_hindrance
    exact ok_law T F h_small h_ends h_right
end TB
open PySem PySem.W PySem.Calls PyProof.Rows
theorem PySem.Challenge.cw_turnback_k81_whole_every_end_of_small_we_holds : PySem.Challenge.rw_turnback_k81_whole_every_end_of_small_we.Holds := by
  w_on; o_law
  refine HandSHeadRun.head_any (r := OpenLaw.row PySem.Challenge.rw_turnback_k81_whole_every_end_of_small_we) (q := view (OpenLaw.row PySem.Challenge.rw_turnback_k81_whole_every_end_of_small_we).prog [43]) (H := TB.hk) (ob := TB.ob) (M := 4000) (loose := TB.loose1 ++ TB.loose2) (d := HandSHeadRun.topDef (OpenLaw.row PySem.Challenge.rw_turnback_k81_whole_every_end_of_small_we).prog 43) (kwd := []) TB.ob_eq
    (by kernel_rfl) (fun s => by kernel_rfl) TB.run (by kernel_rfl) (by kernel_rfl) (by kernel_rfl) (by rfl) (by first | assumption | decide +kernel) (by decide +kernel) ⟨rfl, rfl, rfl, rfl, rfl, by decide +kernel⟩ ?hw ?hc
  case hw => w_witness2
  case hc =>
    refine TB.walk_ofG (l := PySem.Challenge.rw_turnback_k81_whole_every_end_of_small_we) (n := 63) (k := 10) (x := "_law_script") rfl (by decide) (by kernel_rfl) ⟨rfl, by decide, by decide⟩ ?F
    intro w mg fa h Y G hmg0
    obtain ⟨K, KX, c⟩ := Y
    have hmg : mg ("law" : PySem.Str) = some (.ref fa) := by
      have e : (HandSHeadRun.topDef (OpenLaw.row PySem.Challenge.rw_turnback_k81_whole_every_end_of_small_we).prog 43).name = ("law" : PySem.Str) := by kernel_rfl
      rw [← e]
      exact hmg0
    obtain ⟨fd, hb, hF⟩ := TB.facts (P := (PySem.Challenge.rw_turnback_k81_whole_every_end_of_small_we).prog) (w := w) KX G hmg c
    exact ⟨K, fd, TB.spLaw K, KX, hb, fun H a ns hl _ hS => ⟨a, ns, rfl, hS, fun _ => rfl⟩, hF⟩

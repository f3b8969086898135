import PyProof.Rows.All
import HandS.ForMost
import HandS.ForExc
import HandS.Walk
import HandS.Defaults
import HandS.MakeKwOnly
import HandS.DictComp
import HandS.TupSets
import HandS.IsInst
import HandS.Deep
import HandS.StrMore
import HandS.Replace
import HandS.Strs
import HandS.Wide
import HandS.Flow
import HandS.Codes
import KE.GoesEnum
import HandS.HeadHook2
import PySem.Challenge.RW_onehand_k19_whole_a_walk_is_a_bookless_o
import HandS.Head0
import HandS.Head1
import HandS.Head2
import HandS.HeadEnd
import HandS.HeadHook1
set_option Elab.async false
set_option linter.all false
set_option maxRecDepth 100000
set_option maxHeartbeats 0
namespace Oh
open PySem
/-- a text by its signs -/
def sx (l : List Nat) : Str := ⟨l.toArray⟩
theorem sx_tl (l : List Nat) : (sx l).cps.toList = l := rfl
theorem sx_len (l : List Nat) : (sx l).length = l.length := by simp [sx, Str.length]
theorem sx_inj {a b : List Nat} (h : sx a = sx b) : a = b := by
  have e : (sx a).cps.toList = (sx b).cps.toList := by rw [h]
  exact e
theorem sx_iff {a b : List Nat} : sx a = sx b ↔ a = b := ⟨sx_inj, fun h => by rw [h]⟩
def DL : List Nat := [117, 114, 100, 108]
def turnsL : List (List Nat) := [[117, 114, 100, 108], [114, 100, 108, 117], [100, 108, 117, 114], [108, 117, 114, 100], [117, 108, 100, 114], [100, 114, 117, 108], [108, 100, 114, 117], [114, 117, 108, 100]]
def ixd (c : Nat) : Nat := if c = 117 then 0 else if c = 114 then 1 else if c = 100 then 2 else 3
def wayN (t : List Nat) (c : Nat) : Nat := t.getD (ixd c) 0
def thenL (a b : List Nat) : List Nat := a.map (wayN b)
theorem DL_turn : DL ∈ turnsL := by decide
theorem way_deed : ∀ t ∈ turnsL, ∀ c ∈ DL, wayN t c ∈ DL := by decide
theorem then_turn : ∀ a ∈ turnsL, ∀ b ∈ turnsL, thenL a b ∈ turnsL := by decide
theorem then_urdl : ∀ a ∈ turnsL, thenL a DL = a := by decide
theorem way_urdl : ∀ c ∈ DL, wayN DL c = c := by decide
theorem turn_len : ∀ t ∈ turnsL, t.length = 4 := by decide
theorem turn_deeds : ∀ t ∈ turnsL, ∀ c ∈ t, c ∈ DL := by decide
theorem ixd_lt (c : Nat) : ixd c < 4 := by
  unfold ixd
  repeat' split
  all_goals omega
theorem way_get {t : List Nat} (h : t ∈ turnsL) (c : Nat) : t[ixd c]? = some (wayN t c) := by
  have h1 := turn_len t h
  have h2 := ixd_lt c
  unfold wayN
  rw [List.getD_eq_getElem?_getD, List.getElem?_eq_getElem (by omega)]
  rfl
abbrev Pl := Int × Int
abbrev Tx := List (List Nat)
def cols (ts : Tx) : Nat := (ts.headD []).length
def has (ts : Tx) (p : Pl) : Bool := decide (0 ≤ p.1 ∧ p.1 ≤ (ts.length : Int) - 1) && decide (0 ≤ p.2 ∧ p.2 ≤ (cols ts : Int) - 1)
def seen (ts : Tx) (p : Pl) : Nat := if has ts p = true then (ts.getD p.1.toNat []).getD p.2.toNat 0 else 35
def lets : List Nat := [97, 98, 99, 100]
def opens : List Nat := [46, 97, 98, 99, 100]
def signs : List Nat := [35, 126, 120, 46, 97, 98, 99, 100]
structure TsOk (ts : Tx) : Prop where
  l1 : 1 ≤ ts.length
  l6 : ts.length ≤ 6
  c1 : 1 ≤ cols ts
  c6 : cols ts ≤ 6
  each : ∀ t ∈ ts, t.length = cols ts
  sg : ∀ t ∈ ts, ∀ c ∈ t, c ∈ signs
def dirY (w : Nat) : Int := if w = 117 then -1 else if w = 114 then 0 else if w = 100 then 1 else 0
def dirX (w : Nat) : Int := if w = 117 then 0 else if w = 114 then 1 else if w = 100 then 0 else -1
def nxt (p : Pl) (w : Nat) : Pl := (p.1 + dirY w, p.2 + dirX w)
def slide (ts : Tx) (w : Nat) : Nat → Pl → Pl → Pl × Pl
  | 0, h, t => (h, t)
  | n + 1, h, t => if seen ts t = 126 then slide ts w n t (nxt t w) else (h, t)
def goes (ts : Tx) (p : Pl) (w : Nat) : Option Pl :=
  let r := slide ts w 12 p (nxt p w)
  if seen ts r.2 = 35 then some r.1 else if seen ts r.2 = 120 then none else some r.2
def canStand (ts : Tx) (p : Pl) : Bool := has ts p && decide (seen ts p ∈ (opens ++ [126]))
def mu (w : Nat) (t : Pl) : Int := 6 - (dirY w * t.1 + dirX w * t.2)
theorem has_iff {ts : Tx} {p : Pl} : has ts p = true ↔ (0 ≤ p.1 ∧ p.1 ≤ (ts.length : Int) - 1) ∧ 0 ≤ p.2 ∧ p.2 ≤ (cols ts : Int) - 1 := by
  unfold has
  rw [Bool.and_eq_true, decide_eq_true_eq, decide_eq_true_eq]
theorem seen_has {ts : Tx} {p : Pl} (h : seen ts p ≠ 35) : has ts p = true := by
  cases e : has ts p with
  | true => rfl
  | false =>
    unfold seen at h
    rw [e] at h
    exact absurd rfl h
theorem nxt_mu {w : Nat} (h : w ∈ DL) (t : Pl) : mu w (nxt t w) = mu w t - 1 := by
  unfold DL at h
  simp only [List.mem_cons, List.not_mem_nil, or_false] at h
  unfold mu nxt dirY dirX
  rcases h with rfl | rfl | rfl | rfl
  all_goals simp
  all_goals omega
theorem mu_in {ts : Tx} {w : Nat} {t : Pl} (T : TsOk ts) (h : w ∈ DL) (hh : has ts t = true) : 1 ≤ mu w t ∧ mu w t ≤ 11 := by
  have h1 := T.l6
  have h2 := T.c6
  obtain ⟨⟨a, b⟩, c, d⟩ := has_iff.mp hh
  unfold DL at h
  simp only [List.mem_cons, List.not_mem_nil, or_false] at h
  unfold mu dirY dirX
  rcases h with rfl | rfl | rfl | rfl
  all_goals simp
  all_goals omega
theorem slide_step {ts : Tx} {w n : Nat} {h t : Pl} (e : seen ts t = 126) : slide ts w (n + 1) h t = slide ts w n t (nxt t w) := by
  show (if seen ts t = 126 then slide ts w n t (nxt t w) else (h, t)) = _
  rw [if_pos e]
theorem slide_stop {ts : Tx} {w : Nat} {h t : Pl} (e : seen ts t ≠ 126) : ∀ n, slide ts w n h t = (h, t)
  | 0 => rfl
  | n + 1 => by
    show (if seen ts t = 126 then slide ts w n t (nxt t w) else (h, t)) = _
    rw [if_neg e]
theorem slide_end {ts : Tx} {w : Nat} (T : TsOk ts) (hw : w ∈ DL) : ∀ (n : Nat) (h t : Pl), mu w t ≤ (n : Int) → seen ts (slide ts w n h t).2 ≠ 126
  | 0, h, t, hm => fun e => by
    have e1 : seen ts t = 126 := e
    have e2 := (mu_in T hw (seen_has (by rw [e1]; decide))).1
    omega
  | n + 1, h, t, hm => by
    by_cases e : seen ts t = 126
    · rw [slide_step e]
      exact slide_end T hw n t _ (by rw [nxt_mu hw]; omega)
    · rw [slide_stop e]
      exact e
theorem can_ice {ts : Tx} {t : Pl} (e : seen ts t = 126) : canStand ts t = true := by
  unfold canStand
  rw [seen_has (by rw [e]; decide), e]
  decide
theorem slide_can {ts : Tx} {w : Nat} : ∀ (n : Nat) (h t : Pl), canStand ts h = true → canStand ts (slide ts w n h t).1 = true
  | 0, h, t, hc => hc
  | n + 1, h, t, hc => by
    by_cases e : seen ts t = 126
    · rw [slide_step e]
      exact slide_can n t _ (can_ice e)
    · rw [slide_stop e]
      exact hc
theorem seen_signs {ts : Tx} (T : TsOk ts) {p : Pl} (h : has ts p = true) : seen ts p ∈ signs := by
  obtain ⟨⟨a, b⟩, c, d⟩ := has_iff.mp h
  unfold seen
  rw [if_pos h]
  have h1 : p.1.toNat < ts.length := by omega
  have e1 : ts.getD p.1.toNat [] = ts[p.1.toNat] := by
    rw [List.getD_eq_getElem?_getD, List.getElem?_eq_getElem h1]
    rfl
  rw [e1]
  have hm : ts[p.1.toNat] ∈ ts := List.getElem_mem h1
  have h2 : p.2.toNat < ts[p.1.toNat].length := by
    rw [T.each _ hm]
    omega
  rw [List.getD_eq_getElem?_getD, List.getElem?_eq_getElem h2]
  exact T.sg _ hm _ (List.getElem_mem h2)
theorem open_of {c : Nat} (h : c ∈ signs) (h1 : c ≠ 35) (h2 : c ≠ 120) (h3 : c ≠ 126) : c ∈ opens := by
  unfold signs at h
  unfold opens
  simp only [List.mem_cons, List.not_mem_nil, or_false] at h ⊢
  omega
theorem can_has {ts : Tx} {p : Pl} (h : canStand ts p = true) : has ts p = true := (Bool.and_eq_true_iff.mp h).1
theorem start_mu {ts : Tx} {w : Nat} {p : Pl} (T : TsOk ts) (hw : w ∈ DL) (hc : canStand ts p = true) : mu w (nxt p w) ≤ ((12 : Nat) : Int) := by
  have h := (mu_in T hw (can_has hc)).2
  rw [nxt_mu hw]
  omega
/-- what goes tells one can stand at -/
theorem goes_can {ts : Tx} {w : Nat} {p q : Pl} (T : TsOk ts) (hw : w ∈ DL) (hc : canStand ts p = true) (h : goes ts p w = some q) : canStand ts q = true := by
  have h1 := slide_end T hw 12 p (nxt p w) (start_mu T hw hc)
  have h2 := slide_can (ts := ts) (w := w) 12 p (nxt p w) hc
  unfold goes at h
  generalize slide ts w 12 p (nxt p w) = r at h h1 h2
  by_cases e1 : seen ts r.2 = 35
  · simp only [if_pos e1] at h
    cases h
    exact h2
  · by_cases e2 : seen ts r.2 = 120
    · simp only [if_neg e1, if_pos e2] at h
      cases h
    · simp only [if_neg e1, if_neg e2] at h
      cases h
      have h3 := seen_has e1
      unfold canStand
      rw [h3, Bool.true_and, decide_eq_true_eq]
      exact List.mem_append_left _ (open_of (seen_signs T h3) e1 e2 h1)
/-- a stand: None, or the place and the turn -/
abbrev Sd := Option (Pl × List Nat)
def beh (ts : Tx) (pg : Nat → List Nat) (s : Sd) (d : Nat) : Sd := match s with
  | none => none
  | some (p, t) => match goes ts p (wayN t d) with
    | none => none
    | some q => if q = p then some (p, t) else some (q, if seen ts q ∈ lets then thenL t (pg (seen ts q)) else t)
/-- the stand behind i deeds -/
def stAt (ts : Tx) (pg : Nat → List Nat) (s : Sd) (row : List Nat) (i : Nat) : Sd := (row.take i).foldl (beh ts pg) s
def gone (ts : Tx) (pg : Nat → List Nat) (s : Sd) (row : List Nat) : List Sd := (List.range (row.length + 1)).map (stAt ts pg s row)
def spots (ss : List Sd) : List (Option Pl) := ss.map (Option.map Prod.fst)
structure PgOk (pg : Nat → List Nat) : Prop where
  turn : ∀ c ∈ lets, pg c ∈ turnsL
def SdOk (ts : Tx) (s : Sd) : Prop := ∀ p t, s = some (p, t) → canStand ts p = true ∧ t ∈ turnsL
section
variable {ts : Tx} {pg : Nat → List Nat}
theorem stAt_zero (s : Sd) (row : List Nat) : stAt ts pg s row 0 = s := rfl
theorem stAt_succ {s : Sd} {row : List Nat} {i d : Nat} (h : row[i]? = some d) : stAt ts pg s row (i + 1) = beh ts pg (stAt ts pg s row i) d := by
  unfold stAt
  rw [List.take_add_one, h, List.foldl_append]
  rfl
theorem gone_len (s : Sd) (row : List Nat) : (gone ts pg s row).length = row.length + 1 := by
  unfold gone
  rw [List.length_map, List.length_range]
theorem gone_get {s : Sd} {row : List Nat} {i : Nat} (h : i ≤ row.length) : (gone ts pg s row)[i]? = some (stAt ts pg s row i) := by
  unfold gone
  rw [List.getElem?_map, List.getElem?_range (by omega)]
  rfl
theorem beh_none (d : Nat) : beh ts pg none d = none := rfl
theorem beh_lost {p : Pl} {t : List Nat} {d : Nat} (h : goes ts p (wayN t d) = none) : beh ts pg (some (p, t)) d = none := by
  unfold beh
  simp only [h]
theorem beh_some {p q : Pl} {t : List Nat} {d : Nat} (h : goes ts p (wayN t d) = some q) : beh ts pg (some (p, t)) d = if q = p then some (p, t) else some (q, if seen ts q ∈ lets then thenL t (pg (seen ts q)) else t) := by
  unfold beh
  simp only [h]
theorem beh_ok (T : TsOk ts) (G : PgOk pg) {s : Sd} {d : Nat} (hd : d ∈ DL) (h : SdOk ts s) : SdOk ts (beh ts pg s d) := by
  cases s with
  | none => exact h
  | some pt =>
    obtain ⟨p, t⟩ := pt
    obtain ⟨hc, ht⟩ := h p t rfl
    have hw := way_deed t ht d hd
    cases e : goes ts p (wayN t d) with
    | none =>
      rw [beh_lost e]
      intro p t h
      cases h
    | some q =>
      rw [beh_some e]
      by_cases eq : q = p
      · rw [if_pos eq]
        exact h
      · rw [if_neg eq]
        intro p' t' h'
        injection h' with h'
        injection h' with e1 e2
        subst e1 e2
        refine ⟨goes_can T hw hc e, ?_⟩
        by_cases el : seen ts q ∈ lets
        · rw [if_pos el]
          exact then_turn t ht _ (G.turn _ el)
        · rw [if_neg el]
          exact ht
theorem stAt_ok (T : TsOk ts) (G : PgOk pg) {s : Sd} {row : List Nat} (hr : ∀ c ∈ row, c ∈ DL) (h : SdOk ts s) : ∀ i, i ≤ row.length → SdOk ts (stAt ts pg s row i)
  | 0, _ => h
  | i + 1, hi => by
    have e : row[i]? = some row[i] := List.getElem?_eq_getElem (by omega)
    rw [stAt_succ e]
    exact beh_ok T G (hr _ (List.getElem_mem _)) (stAt_ok T G hr h i (by omega))
theorem stAt_lost {s : Sd} {row : List Nat} {i : Nat} (h : stAt ts pg s row i = none) : ∀ k, i + k ≤ row.length → stAt ts pg s row (i + k) = none
  | 0, _ => h
  | k + 1, hk => by
    have e : row[i + k]? = some row[i + k] := List.getElem?_eq_getElem (by omega)
    rw [← Nat.add_assoc, stAt_succ e, stAt_lost h k (by omega)]
    rfl
def wayAt (s : Sd) (d : Nat) : Nat := match s with
  | none => d
  | some (_, t) => wayN t d
def waysL (ts : Tx) (pg : Nat → List Nat) (s : Sd) (row : List Nat) : List Nat := (List.range row.length).map fun i => wayAt (stAt ts pg s row i) (row.getD i 0)
theorem ways_len (s : Sd) (row : List Nat) : (waysL ts pg s row).length = row.length := by
  unfold waysL
  rw [List.length_map, List.length_range]
theorem ways_get {s : Sd} {row : List Nat} {i d : Nat} (h : row[i]? = some d) : (waysL ts pg s row)[i]? = some (wayAt (stAt ts pg s row i) d) := by
  have hi : i < row.length := (List.getElem?_eq_some_iff.mp h).1
  unfold waysL
  rw [List.getElem?_map, List.getElem?_range hi]
  show some (wayAt _ (row.getD i 0)) = _
  rw [List.getD_eq_getElem?_getD, h]
  rfl
theorem wayAt_deed {s : Sd} {d : Nat} (h : SdOk ts s) (hd : d ∈ DL) : wayAt s d ∈ DL := by
  cases s with
  | none => exact hd
  | some pt => exact way_deed _ (h pt.1 pt.2 rfl).2 d hd
theorem ways_deeds (T : TsOk ts) (G : PgOk pg) {s : Sd} {row : List Nat} (hr : ∀ c ∈ row, c ∈ DL) (h : SdOk ts s) : ∀ c ∈ waysL ts pg s row, c ∈ DL := fun c hc => by
  obtain ⟨i, hi⟩ := List.getElem?_of_mem hc
  have hl : i < row.length := by
    have := (List.getElem?_eq_some_iff.mp hi).1
    rw [ways_len] at this
    exact this
  have e : row[i]? = some row[i] := List.getElem?_eq_getElem hl
  rw [ways_get e] at hi
  rw [← Option.some.inj hi]
  exact wayAt_deed (stAt_ok T G hr h i (by omega)) (hr _ (List.getElem_mem _))
/-- the stand without its turn -/
def bare (s : Sd) : Sd := s.map fun x => (x.1, DL)
def noPg : Nat → List Nat := fun _ => DL
theorem beh_bare (s : Sd) (d : Nat) (h : SdOk ts s) (hd : d ∈ DL) : beh ts noPg (bare s) (wayAt s d) = bare (beh ts pg s d) := by
  cases s with
  | none => rfl
  | some pt =>
    obtain ⟨p, t⟩ := pt
    have ht := (h p t rfl).2
    have hw : wayN DL (wayN t d) = wayN t d := way_urdl _ (way_deed t ht d hd)
    show beh ts noPg (some (p, DL)) (wayN t d) = _
    cases e : goes ts p (wayN t d) with
    | none =>
      rw [beh_lost e, beh_lost (by rw [hw]; exact e)]
      rfl
    | some q =>
      rw [beh_some e, beh_some (by rw [hw]; exact e)]
      by_cases eq : q = p
      · rw [if_pos eq, if_pos eq]
        rfl
      · rw [if_neg eq, if_neg eq]
        have e2 : (if seen ts q ∈ lets then thenL DL (noPg (seen ts q)) else DL) = DL := by
          split
          · exact then_urdl DL DL_turn
          · rfl
        rw [e2]
        rfl
theorem ways_walk (T : TsOk ts) (G : PgOk pg) {s : Sd} {row : List Nat} (hr : ∀ c ∈ row, c ∈ DL) (h : SdOk ts s) : ∀ i, i ≤ row.length → stAt ts noPg (bare s) (waysL ts pg s row) i = bare (stAt ts pg s row i)
  | 0, _ => rfl
  | i + 1, hi => by
    have e : row[i]? = some row[i] := List.getElem?_eq_getElem (by omega)
    rw [stAt_succ (ways_get e), stAt_succ e, ways_walk T G hr h i (by omega)]
    exact beh_bare _ _ (stAt_ok T G hr h i (by omega)) (hr _ (List.getElem_mem _))
theorem spot_bare (s : Sd) : (bare s).map Prod.fst = s.map Prod.fst := by
  cases s <;> rfl
/-- THE FIRST HALF: the places by the ways -/
theorem ways_spots (T : TsOk ts) (G : PgOk pg) {s : Sd} {row : List Nat} (hr : ∀ c ∈ row, c ∈ DL) (h : SdOk ts s) : spots (gone ts noPg (bare s) (waysL ts pg s row)) = spots (gone ts pg s row) := by
  unfold spots gone
  rw [ways_len, List.map_map, List.map_map]
  apply List.map_congr_left
  intro i hi
  have hi : i < row.length + 1 := List.mem_range.mp hi
  show (stAt ts noPg (bare s) (waysL ts pg s row) i).map Prod.fst = (stAt ts pg s row i).map Prod.fst
  rw [ways_walk T G hr h i (by omega), spot_bare]
/-- at beat i + 1 the walker comes to a plate -/
def comes (ts : Tx) (a b : Sd) : Option Nat := match a, b with
  | some (p, _), some (q, _) => if q ≠ p ∧ seen ts q ∈ lets then some (seen ts q) else none
  | _, _ => none
theorem comes_beh {p q : Pl} {t u : List Nat} {d : Nat} (h : beh ts pg (some (p, t)) d = some (q, u)) : u = match comes ts (some (p, t)) (some (q, u)) with
    | some c => thenL t (pg c)
    | none => t := by
  cases e : goes ts p (wayN t d) with
  | none =>
    rw [beh_lost e] at h
    cases h
  | some r =>
    rw [beh_some e] at h
    by_cases er : r = p
    · rw [if_pos er] at h
      cases h
      unfold comes
      simp
    · rw [if_neg er] at h
      injection h with h
      injection h with e1 e2
      subst e1
      by_cases el : seen ts r ∈ lets
      · rw [if_pos el] at e2
        unfold comes
        simp only [if_pos (show r ≠ p ∧ seen ts r ∈ lets from ⟨er, el⟩)]
        exact e2.symm
      · rw [if_neg el] at e2
        unfold comes
        simp only [if_neg (show ¬ (r ≠ p ∧ seen ts r ∈ lets) from fun z => el z.2)]
        exact e2.symm
theorem beh_turn {p q : Pl} {t u : List Nat} {d : Nat} (h : beh ts pg (some (p, t)) d = some (q, u)) (hc : comes ts (some (p, t)) (some (q, u)) = none) : u = t := by
  have e := comes_beh h
  rw [hc] at e
  exact e
theorem beh_from {s : Sd} {q : Pl} {u : List Nat} {d : Nat} (h : beh ts pg s d = some (q, u)) : ∃ p t, s = some (p, t) := by
  cases s with
  | none => cases h
  | some pt => exact ⟨pt.1, pt.2, rfl⟩
/-- no coming strictly between low and high: one turn through the stretch -/
theorem one_turn {s : Sd} {row : List Nat} {low : Nat} {p0 : Pl} {t0 : List Nat} (h0 : stAt ts pg s row low = some (p0, t0)) : ∀ k, low + k ≤ row.length → (∀ b, low ≤ b → b + 1 ≤ low + k → comes ts (stAt ts pg s row b) (stAt ts pg s row (b + 1)) = none) →
    ∀ p t, stAt ts pg s row (low + k) = some (p, t) → t = t0
  | 0, _, _, p, t, e => by
    have e' : stAt ts pg s row low = some (p, t) := e
    rw [h0] at e'
    injection e' with e'
    injection e' with _ e2
    exact e2.symm
  | k + 1, hk, hc, p, t, e => by
    have eg : row[low + k]? = some row[low + k] := List.getElem?_eq_getElem (by omega)
    have e1 : stAt ts pg s row (low + k + 1) = some (p, t) := e
    have hb := stAt_succ (ts := ts) (pg := pg) (s := s) eg
    rw [hb] at e1
    obtain ⟨p', t', e2⟩ := beh_from e1
    have ih := one_turn h0 k (by omega) (fun b h1 h2 => hc b h1 (by omega)) p' t' e2
    have hcm := hc (low + k) (by omega) (by omega)
    rw [hb, e2] at hcm
    rw [e2] at e1
    rw [e1] at hcm
    rw [beh_turn e1 hcm, ih]
/-- THE SECOND HALF: a stretch is the walk without a book by its one turn -/
theorem stretch_walk (T : TsOk ts) (G : PgOk pg) {s : Sd} {row : List Nat} (hr : ∀ c ∈ row, c ∈ DL) (hs : SdOk ts s) {low high : Nat} {p0 : Pl} {t0 : List Nat} (h0 : stAt ts pg s row low = some (p0, t0)) (hlh : low ≤ high) (hl : high ≤ row.length)
    (hc : ∀ b, low ≤ b → b + 1 < high → comes ts (stAt ts pg s row b) (stAt ts pg s row (b + 1)) = none) :
    ∀ k, low + k ≤ high → stAt ts noPg (some (p0, DL)) (((row.drop low).take (high - low)).map (wayN t0)) k = bare (stAt ts pg s row (low + k))
  | 0, _ => by
    show some (p0, DL) = bare (stAt ts pg s row low)
    rw [h0]
    rfl
  | k + 1, hk => by
    have eg : row[low + k]? = some row[low + k] := List.getElem?_eq_getElem (by omega)
    have e2 : (((row.drop low).take (high - low)).map (wayN t0))[k]? = some (wayN t0 row[low + k]) := by
      rw [List.getElem?_map, List.getElem?_take_of_lt (by omega), List.getElem?_drop, eg]
      rfl
    rw [stAt_succ e2, stretch_walk T G hr hs h0 hlh hl hc k (by omega), ← Nat.add_assoc, stAt_succ eg]
    have ok := stAt_ok T G hr hs (low + k) (by omega)
    have hd := hr _ (List.getElem_mem (show low + k < row.length by omega))
    cases e : stAt ts pg s row (low + k) with
    | none => rfl
    | some pt =>
      obtain ⟨p, t⟩ := pt
      have et := one_turn h0 k (by omega) (fun b h1 h2 => hc b h1 (by omega)) p t e
      subst et
      rw [e] at ok
      exact beh_bare (pg := pg) (some (p, t)) _ ok hd
/-- the walk's comings: (beat, letter), rising -/
def comings (ts : Tx) (ss : List Sd) : List (Nat × Nat) := (List.range (ss.length - 1)).filterMap fun i => (comes ts (ss.getD i none) (ss.getD (i + 1) none)).map fun c => (i + 1, c)
def cuts (ts : Tx) (ss : List Sd) (n : Nat) : List Nat := [0] ++ (comings ts ss).map Prod.fst ++ [n]
end
end Oh
namespace Oh
open PySem PySem.Spec PyProof.Rows L2
def ItS (x : Str) : It :=
  ⟨fun i _ => i < x.cps.size, fun i H v H' => ∃ T c, v = .ref T ∧ H T = none ∧ H' = upd H T (.tup [.int (i : Nat), .str ⟨#[c]⟩]) ∧ x.cps[i]? = some c, fun i _ => i = x.cps.size⟩
theorem turn_enumS {P : Program} {w : World} {K : PySem.W.Frag} {elts : List Expr} {kk : Nat} {tpos : Pos} (x : Str) (t : Tok) (e it : Addr) :
    Turn P w K (.Tuple elts kk tpos) (ItS x) [e, it] e (fun i h => (∃ old, IsEnum h e it ((i : Nat) : Int) old) ∧ h.IsStrIter it (strIterType x) x t i ∧ e ≠ it) where
  mem := by simp
  obj := fun i h st b hb => by
    obtain ⟨⟨old, he⟩, ⟨o, ho, hc, hd⟩, _⟩ := st
    have e' : b = e ∨ b = it := by simpa using hb
    rcases e' with z | z
    · rw [z]; exact ⟨_, he, fun v q => nomatch q⟩
    · rw [z]; exact ⟨o, ho, fun v q => by rw [hd] at q; cases q⟩
  keep := fun i h h' st k => by
    obtain ⟨⟨old, he⟩, ⟨o, ho, r⟩, hne⟩ := st
    exact ⟨⟨old, k e (by simp) _ he⟩, ⟨o, k it (by simp) o ho, r⟩, hne⟩
  item := by
    intro X hP hw hK hc i pins s σ H E I hf st hg
    subst hP hw hK
    obtain ⟨⟨old, he⟩, hit, hne⟩ := st
    have hel : e < s.heap.objs.size := Heap.lt_size he
    have hil : it < s.heap.objs.size := by obtain ⟨_, q, _⟩ := hit; exact Heap.lt_size q
    have D : Draws X.prog X.w X.A.in1 it [it] x.cps.size (fun i v => ∃ c u, x.cps[i]? = some c ∧ v = .str ⟨#[c]⟩ u) (fun i h => h.IsStrIter it (strIterType x) x t i) := Draws.text (A := X.A.in1) (I.ok.hd hc) it x t
    refine wpAny_pyNext_enum_itemD D he hit hg hne (by simpa using hne) fun y h' tk hy ho hit' hT hsz hk => ?_
    obtain ⟨c, u, hcx, rfl⟩ := hy
    refine ⟨_, rfl, wpAny_letOwnedTupleGo_enum (s := { s with heap := h', toks := tk + 1 }) ho fun h'' he' sb => ?_⟩
    have hT2 : h''.get? s.heap.objs.size = some { cls := .type "tuple", data := .seq #[.int i tk, .str ⟨#[c]⟩ u] } := (sb.2 _ (Nat.ne_of_gt hel)).trans hT
    have new : ObjOk X.prog X.w (upd H s.heap.objs.size (.tup [.int (i : Nat), .str ⟨#[c]⟩])) h'' s.heap.objs.size (.tup [.int (i : Nat), .str ⟨#[c]⟩]) :=
      ⟨by show 2 ≤ sizeLine; decide, [.int i tk, .str ⟨#[c]⟩ u], .cons ⟨_, rfl⟩ (.cons ⟨_, rfl⟩ .nil), ⟨_, hT2, rfl, _, rfl⟩⟩
    have I1 : Inv X pins σ (upd H s.heap.objs.size (.tup [.int (i : Nat), .str ⟨#[c]⟩])) { s with heap := h'', toks := tk + 1 } :=
      I.turnedNew (ch := [e, it]) (fun b ob hb q => (sb.2 b (fun z => hb (by simp [z]))).trans (hk b ob (fun z => hb (by simp [z])) (fun z => hb (by simp [z])) q)) hf (Nat.le_refl _) new
    refine ⟨.ref s.heap.objs.size, _, I1, rfl, ⟨_, c, rfl, I.hok.fresh (Nat.le_refl _), rfl, hcx⟩, ⟨⟨.str ⟨#[c]⟩ u, ?_⟩, ?_, hne⟩, fun b hb => ?_⟩
    · have e1 : ((i + 1 : Nat) : Int) = (i : Int) + 1 := by omega
      rw [e1]; exact he'
    · obtain ⟨o, q, r⟩ := hit'
      exact ⟨o, (sb.2 it (Ne.symm hne)).trans q, r⟩
    · have hb' : b < s.heap.objs.size := by
        have e' : b = e ∨ b = it := by simpa using hb
        rcases e' with z | z
        · rw [z]; exact hel
        · rw [z]; exact hil
      rw [upd_ne (Nat.ne_of_lt hb')]
      exact (hf b hb).1
  done := by
    intro X hP hw hK hc i pins s σ H E I hf st hg
    subst hP hw hK
    obtain ⟨⟨old, he⟩, hit, hne⟩ := st
    have hg : i = x.cps.size := hg
    obtain ⟨f0, f1, f2, f3, f4, f5⟩ := hf it (by simp)
    have hit2 : s.heap.IsStrIter it (strIterType x) x t x.cps.size := by rw [← hg]; exact hit
    have D : Draws X.prog X.w X.A.in1 it [it] x.cps.size (fun i v => ∃ c u, x.cps[i]? = some c ∧ v = .str ⟨#[c]⟩ u) (fun i h => h.IsStrIter it (strIterType x) x t i) := Draws.text (A := X.A.in1) (I.ok.hd hc) it x t
    exact wpAny_pyNext_enum_endD D he hit2 fun h' eb => ⟨rfl, I.turned (t' := s.toks) (fun b o hb q => eb b o hb q) f0 f1 f3 f4 f5⟩
  self := fun A i s Q E st h => let ⟨⟨_, he⟩, _⟩ := st; wpAny_pyIter_enum he h
def iEnumS (ta : TA) : TI := fun σ H R => ta σ H fun vs H1 => ∃ x, vs = [.str x] ∧ R (ItS x) H1
theorem pi_enumS {X : Cx} {e : Expr} {ta : TA} {p pos tpos : Pos} {elts : List Expr} {kk : Nat} (hg : Gl X "enumerate") (hm : X.mg "enumerate" = none) (ha : PA X [e] ta) (hs : starEach [e] X.env = [(false, eval e X.env)] := by rfl) :
    PI X (.Tuple elts kk tpos) (.Call (.Name "enumerate" p) [e] [] pos) (iEnumS ta) := by
  refine ⟨fun pins s σ H R I h => ?_⟩
  refine Call_ (ld_blt I hg hm boot_enumerate (PyProof.Rows.callWith_type1 (thn (ha.run pos pins s σ H _ I h) fun us s1 ⟨vs, H1, I1, r1, q1⟩ => ?_) hs rfl))
  obtain ⟨x, ex, q⟩ := q1
  subst ex
  cases r1 with
  | cons r rr =>
    cases rr
    obtain ⟨t, rfl⟩ := r
    refine call_enumerate_str fun h' he hit hsz hk => wpAny_pyIter_enum he ?_
    have I2 : Inv X pins σ H1 { s1 with heap := h' } := I1.kept (t' := s1.toks) hk
    refine ⟨s1.heap.objs.size + 1, [s1.heap.objs.size + 1, s1.heap.objs.size], _, _, H1, rfl, I2, turn_enumS x t (s1.heap.objs.size + 1) s1.heap.objs.size, ⟨⟨.none, he⟩, hit, Nat.succ_ne_self _⟩, fun b hb => ?_, q⟩
    have e' : b = s1.heap.objs.size + 1 ∨ b = s1.heap.objs.size := by simpa using hb
    have hle : s1.heap.objs.size ≤ b := by
      rcases e' with z | z
      · rw [z]; exact Nat.le_add_right _ _
      · rw [z]; exact Nat.le_refl _
    exact I1.fpOk hle (I1.hok.fresh hle)
theorem walk_enumS {x : Str} : Walk (ItS x) x.cps.size (fun _ => True) (fun i H v H' => ∃ T c, v = .ref T ∧ H T = none ∧ H' = upd H T (.tup [.int (i : Nat), .str ⟨#[c]⟩]) ∧ x.cps[i]? = some c) :=
  ⟨fun _ _ hi _ => hi, fun _ _ => rfl, fun _ _ _ _ _ _ y => y⟩
def ItzLS (K : PySem.W.Frag) (a : Addr) (x : Str) : It :=
  ⟨fun i H => ∃ (xs : List V), SqL K H a xs ∧ i < xs.length ∧ i < x.cps.size,
    fun i H v H' => ∃ T v1 c, v = .ref T ∧ H T = none ∧ H' = upd H T (.tup [v1, .str ⟨#[c]⟩]) ∧ (∀ xs, SqL K H a xs → xs[i]? = some v1) ∧ x.cps[i]? = some c,
    fun i H => ∃ xs : List V, SqL K H a xs ∧ i ≤ xs.length ∧ i ≤ x.cps.size ∧ (i = xs.length ∨ i = x.cps.size)⟩
theorem turn_zipLS {P : Program} {w : World} {K : PySem.W.Frag} {elts : List Expr} {kk : Nat} {tpos : Pos} {a z TI TO i1 i2 : Addr} (x : Str) (t : Tok) (S : ZipSep2 z TI TO i1 i2 [i1, a] [i2]) :
    Turn P w K (.Tuple elts kk tpos) (ItzLS K a x) [z, TI, TO, i1, i2] z (fun i h => IsZip h z TI TO .none ∧ IsTupOf2 h TI (.ref i1) (.ref i2) ∧ (∃ x y, IsTupOf2 h TO x y) ∧ h.IsListIter i1 a i ∧ h.IsStrIter i2 (strIterType x) x t i) where
  mem := by simp
  obj := fun i h st c hc => by
    obtain ⟨hz, hTI, ⟨x, y, hTO⟩, ⟨o1, e1, _, d1⟩, ⟨o2, e2, _, d2⟩⟩ := st
    have e' : c = z ∨ c = TI ∨ c = TO ∨ c = i1 ∨ c = i2 := by simpa using hc
    rcases e' with q | q | q | q | q
    · rw [q]; exact ⟨_, hz, fun v q => nomatch q⟩
    · rw [q]; exact ⟨_, hTI, fun v q => nomatch q⟩
    · rw [q]; exact ⟨_, hTO, fun v q => nomatch q⟩
    · rw [q]; exact ⟨o1, e1, fun v q => by rw [d1] at q; cases q⟩
    · rw [q]; exact ⟨o2, e2, fun v q => by rw [d2] at q; cases q⟩
  keep := fun i h h' st k => by
    obtain ⟨hz, hTI, ⟨x, y, hTO⟩, h1, ⟨o, ho, r⟩⟩ := st
    exact ⟨k z (by simp) _ hz, k TI (by simp) _ hTI, ⟨x, y, k TO (by simp) _ hTO⟩, h1.at fun o q => k i1 (by simp) o q, ⟨o, k i2 (by simp) o ho, r⟩⟩
  item := by
    intro X hP hw hK hc i pins s σ H E I hf st hg
    subst hP hw hK
    obtain ⟨hz, hTI, ⟨x0, y0, hTO⟩, h1, h2⟩ := st
    obtain ⟨xs, hqx, hx, hy⟩ := hg
    obtain ⟨its, rv, p, _⟩ := I.list hqx
    obtain ⟨u, hu, ru⟩ := rv.get (List.getElem?_eq_getElem hx)
    have hzl : z < s.heap.objs.size := Heap.lt_size hz
    have hlen := rv.length
    have na : a ≠ i1 := fun e => by
      have q := hf i1 (by simp)
      have q0 : H i1 = none := q.1
      rw [← e] at q
      obtain ⟨o1, e1, c1, _⟩ := h1
      obtain ⟨o2, e2, c2, _⟩ := p.isList
      rw [← e, e2] at e1
      cases e1
      rw [c1] at c2
      injection c2 with c3
      exact absurd c3 (by decide)
    have D1 : Draws X.prog X.w X.A.in1 i1 [i1, a] its.toArray.size (fun i v => its.toArray[i]? = some v) (fun i h => h.IsListIter i1 a i ∧ h.IsList a its.toArray) := Draws.list (A := X.A.in1) (I.ok.hd hc) i1 a na its.toArray
    have D2 : Draws X.prog X.w X.A.in1 i2 [i2] x.cps.size (fun i v => ∃ c u, x.cps[i]? = some c ∧ v = .str ⟨#[c]⟩ u) (fun i h => h.IsStrIter i2 (strIterType x) x t i) := Draws.text (A := X.A.in1) (I.ok.hd hc) i2 x t
    refine wpAny_pyNext_zipD2_item S D1 D2 hz hTI hTO ⟨h1, p.isList⟩ h2 (by simp; omega) hy fun v1 v2 h' tk hv1 hv2 z' TO' h1' h2' hT hsz hk => ?_
    have ev1 : v1 = u := by
      have q : its.toArray[i]? = some v1 := hv1
      rw [List.getElem?_toArray, hu] at q
      exact (Option.some.inj q).symm
    subst ev1
    obtain ⟨c, tc, hcx, rfl⟩ := hv2
    refine ⟨_, rfl, wpAny_letOwnedTupleGo_zip (s := { s with heap := h', toks := tk }) z' fun h'' z'' sb => ?_⟩
    have hT2 : h''.get? s.heap.objs.size = some { cls := .type "tuple", data := .seq #[v1, .str ⟨#[c]⟩ tc] } := (sb.2 _ (Nat.ne_of_gt hzl)).trans hT
    have new : ObjOk X.prog X.w (upd H s.heap.objs.size (.tup [xs[i], .str ⟨#[c]⟩])) h'' s.heap.objs.size (.tup [xs[i], .str ⟨#[c]⟩]) :=
      ⟨by show 2 ≤ sizeLine; decide, [v1, .str ⟨#[c]⟩ tc], .cons ru (.cons ⟨_, rfl⟩ .nil), ⟨_, hT2, rfl, _, rfl⟩⟩
    have I1 : Inv X pins σ (upd H s.heap.objs.size (.tup [xs[i], .str ⟨#[c]⟩])) { s with heap := h'', toks := tk } :=
      I.turnedNew (ch := [z, TI, TO, i1, i2]) (fun c o hb q => (sb.2 c (fun q' => hb (by simp [q']))).trans (hk c o (fun q' => hb (by simp [q'])) (fun q' => hb (by simp [q'])) (fun q' => hb (by simp [q'])) (fun q' => hb (by simp [q'])) q)) hf (Nat.le_refl _) new
    refine ⟨.ref s.heap.objs.size, _, I1, rfl, ⟨_, xs[i], c, rfl, I.hok.fresh (Nat.le_refl _), rfl, fun l hl => by rw [I.list_inj hl hqx]; exact List.getElem?_eq_getElem hx, hcx⟩, ⟨z'', ?_, ⟨v1, .str ⟨#[c]⟩ tc, ?_⟩, ?_, ?_⟩, fun c hcm => ?_⟩
    · exact (sb.2 _ S.TIz).trans (hk _ _ S.TIz S.TITO S.TIi1 S.TIi2 hTI)
    · exact (sb.2 _ S.TOz).trans TO'
    · exact h1'.1.at fun o q => (sb.2 _ (Ne.symm S.zi1)).trans q
    · obtain ⟨o, q, r⟩ := h2'
      exact ⟨o, (sb.2 _ (Ne.symm S.zi2)).trans q, r⟩
    · have hlt : c < s.heap.objs.size := by
        have e' : c = z ∨ c = TI ∨ c = TO ∨ c = i1 ∨ c = i2 := by simpa using hcm
        rcases e' with q | q | q | q | q
        · rw [q]; exact hzl
        · rw [q]; exact Heap.lt_size hTI
        · rw [q]; exact Heap.lt_size hTO
        · rw [q]; obtain ⟨_, e1, _⟩ := h1; exact Heap.lt_size e1
        · rw [q]; obtain ⟨_, e2, _⟩ := h2; exact Heap.lt_size e2
      rw [upd_ne (Nat.ne_of_lt hlt)]
      exact (hf c hcm).1
  done := by
    intro X hP hw hK hc i pins s σ H E I hf st hg
    subst hP hw hK
    obtain ⟨hz, hTI, ⟨x0, y0, hTO⟩, h1, h2⟩ := st
    obtain ⟨xs, hqx, hl1, hl2, hend⟩ := hg
    obtain ⟨its, rv, p, _⟩ := I.list hqx
    have l1 := rv.length
    have na : a ≠ i1 := fun e => by
      obtain ⟨o1, e1, c1, _⟩ := h1
      obtain ⟨o2, e2, c2, _⟩ := p.isList
      rw [← e, e2] at e1
      cases e1
      rw [c1] at c2
      injection c2 with c3
      exact absurd c3 (by decide)
    have D1 : Draws X.prog X.w X.A.in1 i1 [i1, a] its.toArray.size (fun i v => its.toArray[i]? = some v) (fun i h => h.IsListIter i1 a i ∧ h.IsList a its.toArray) := Draws.list (A := X.A.in1) (I.ok.hd hc) i1 a na its.toArray
    have D2 : Draws X.prog X.w X.A.in1 i2 [i2] x.cps.size (fun i v => ∃ c u, x.cps[i]? = some c ∧ v = .str ⟨#[c]⟩ u) (fun i h => h.IsStrIter i2 (strIterType x) x t i) := Draws.text (A := X.A.in1) (I.ok.hd hc) i2 x t
    exact wpAny_pyNext_zipD2_end S D1 D2 hz hTI hTO ⟨h1, p.isList⟩ h2 (by simp; omega) hl2 (by simp; omega) fun h' tk hk => ⟨rfl, I.turnedL (ch := [z, TI, TO, i1, i2]) (fun c o hb q =>
      hk c o (fun q' => hb (by simp [q'])) (fun q' => hb (by simp [q'])) (fun q' => hb (by simp [q'])) (fun q' => hb (by simp [q'])) q) hf⟩
  self := fun A i s Q E st h => wpAny_pyIter_zip st.1 h
def iZipLS (K : PySem.W.Frag) (ta : TA) : TI := fun σ H R => ta σ H fun vs H1 => ∃ a x xs, vs = [.ref a, .str x] ∧ SqL K H1 a xs ∧ R (ItzLS K a x) H1
theorem pi_zipLS {X : Cx} {e e2 : Expr} {ta : TA} {p pos tpos : Pos} {elts : List Expr} {kk : Nat} (hg : Gl X "zip") (hm : X.mg "zip" = none) (ha : PA X [e, e2] ta)
    (hs : starEach [e, e2] X.env = (false, eval e X.env) :: starEach [e2] X.env := by rfl) (hpl : (backTo pos (starEach [e2] X.env)).any (·.1) = false := by rfl) :
    PI X (.Tuple elts kk tpos) (.Call (.Name "zip" p) [e, e2] [] pos) (iZipLS X.K ta) := by
  refine ⟨fun pins s σ H R I h => ?_⟩
  refine Call_ (ld_blt I hg hm PyProof.Rows.boot_zip (PyProof.Rows.callWith_type1 (thn (ha.run pos pins s σ H _ I h) fun us s1 ⟨vs, H1, I1, r1, q1⟩ => ?_) hs hpl))
  obtain ⟨a, x, xs, ex, hqx, q⟩ := q1
  subst ex
  obtain ⟨u1, u2, rfl, r1, r2⟩ := vals2 r1
  cases (show u1 = Value.ref a from r1)
  obtain ⟨t, rfl⟩ := r2
  obtain ⟨its, rv, p1, _⟩ := I1.list hqx
  have la : a < s1.heap.objs.size := p1.lt
  refine zip_begins2 (begins_list a its.toArray) (begins_text x t) p1.isList trivial fun h' hz hTI hTO h1 h2 hsz hk => wpAny_pyIter_zip hz ?_
  have I2 : Inv X pins σ H1 { s1 with heap := h' } := I1.kept (t' := s1.toks) hk
  refine ⟨s1.heap.objs.size + 4, [s1.heap.objs.size + 4, s1.heap.objs.size + 2, s1.heap.objs.size + 3, s1.heap.objs.size, s1.heap.objs.size + 1], _, _, H1, rfl, I2, turn_zipLS x t (zip_sep2 (fp1 := [a]) (fp2 := []) (fun b hb => ?_) (fun b hb => absurd hb (by simp))), ⟨hz, hTI, ⟨_, _, hTO⟩, ⟨_, h1, rfl, rfl⟩, ⟨_, h2, rfl, rfl⟩⟩, fun c hcm => ?_, q⟩
  · have e : b = a := by simpa using hb
    rw [e]
    exact la
  · have e' : c = s1.heap.objs.size + 4 ∨ c = s1.heap.objs.size + 2 ∨ c = s1.heap.objs.size + 3 ∨ c = s1.heap.objs.size ∨ c = s1.heap.objs.size + 1 := by simpa using hcm
    have hle : s1.heap.objs.size ≤ c := by
      rcases e' with z | z | z | z | z
      · rw [z]; exact Nat.le_add_right _ _
      · rw [z]; exact Nat.le_add_right _ _
      · rw [z]; exact Nat.le_add_right _ _
      · rw [z]; exact Nat.le_refl _
      · rw [z]; exact Nat.le_add_right _ _
    exact I1.fpOk hle (I1.hok.fresh hle)
theorem walk_zipLS {K : PySem.W.Frag} {a : Addr} {xs : List V} {x : Str} {n : Nat} (hn : n = min xs.length x.cps.size) : Walk (ItzLS K a x) n (fun H => SqL K H a xs)
    (fun i H v H' => ∃ T v1 c, v = .ref T ∧ H T = none ∧ H' = upd H T (.tup [v1, .str ⟨#[c]⟩]) ∧ xs[i]? = some v1 ∧ x.cps[i]? = some c) := by
  refine ⟨fun i H hi q => ⟨xs, q, by omega, by omega⟩, fun H q => ⟨xs, q, by omega, by omega, by omega⟩, fun i H v H' hi q y => ?_⟩
  obtain ⟨T, v1, c, h1, h2, h3, h4, h5⟩ := y
  exact ⟨T, v1, c, h1, h2, h3, h4 xs q, h5⟩
theorem CallR_or {X : Cx} {f : Value} {r r' : List V → Hp → VK → Prop} (h : CallR X f r) (h' : CallR X f r') : CallR X f (fun xs H Q => r xs H Q ∨ r' xs H Q) := by
  intro pins s σ H xs us Q I rx q
  rcases q with q | q
  · exact h pins s σ H xs us Q I rx q
  · exact h' pins s σ H xs us Q I rx q
theorem PE_or {X : Cx} {e : Expr} {t t' : TE} (h : PE X e t) (h' : PE X e t') : PE X e (fun σ H Q => t σ H Q ∨ t' σ H Q) := by
  refine ⟨fun pins s σ H Q I q => ?_⟩
  rcases q with q | q
  · exact h.run pins s σ H Q I q
  · exact h'.run pins s σ H Q I q
theorem cr_sorted0 {X : Cx} : CallR X (.builtin "sorted") (fun vs H Q => ∃ a, vs = [V.ref a] ∧ SqT X.K H a [] ∧ ∀ p, H p = none → Q (.ref p) (upd H p (.lst []))) := by
  intro pins s σ H vs us Q I r q
  obtain ⟨a, rfl, ht, q⟩ := q
  rw [Vals.ref1 r]
  obtain ⟨its, rv, ⟨⟨oc, od, dt, sl⟩, ho, hc, n, hd⟩, hz⟩ := I.tuple ht
  cases rv
  refine Calls.call_function_entry PyProof.Rows.kind_sorted PyProof.Rows.plain_sorted PyProof.Rows.entry_sorted (PyProof.Rows.args_sorted1 _) ?_
  unfold Builtin.«sorted»
  refine wpAny_bind (m := checkCount "sorted" 1 1 _) (wpAny_pure ?_)
  refine wpAny_bind (wpAny_collect_seq a (.inr rfl) ho hc hd (fun h' hk => ?_) (by show 0 ≤ sizeLine; exact Nat.zero_le _))
  have I1 : Inv X pins σ H { s with heap := h' } := I.kept (t' := s.toks) hk
  refine wpAny_bind (wpAny_newList ?_ (by show 0 ≤ sizeLine; exact Nat.zero_le _))
  have hn : H h'.objs.size = none := I1.hok.fresh (Nat.le_refl _)
  have hoL : (h'.push (seqObj "list" ([] : List Value).toArray 0)).get? h'.objs.size = some (seqObj "list" ([] : List Value).toArray 0) := Heap.get?_push_size _ rfl
  refine wpAny_bind (wpAny_holding (wpAny_call_entry PyProof.Rows.slot_list_sort ⟨_, hoL, rfl⟩ PyProof.Rows.entry_list_sort (Srt.list_sort_any hoL (Nat.zero_le _) (fun h2 => absurd h2 (by decide)) fun out hp => ⟨_, rfl, ?_⟩) (PyProof.Rows.args_list_sort _)))
  have e0 : out = [] := List.Perm.eq_nil hp
  subst e0
  refine wpAny_pure ⟨_, rfl, ?_⟩
  obtain ⟨ep, he'⟩ := PyProof.Rows.sortedHeap_at (vs := ([] : List Value)) (out := ([] : List Value).toArray) hoL
  refine ⟨.ref h'.objs.size, upd H h'.objs.size (.lst []), I1.laid (t' := s.toks) (fun b o e => ?_) (Nat.le_refl _) ⟨Nat.zero_le _, [], ep, .nil, he'⟩, rfl, q _ hn⟩
  have hlt : b < h'.objs.size := Heap.lt_size e
  have e2 : (h'.push (seqObj "list" ([] : List Value).toArray 0)).get? b = some o := Heap.get?_push_of_some _ e
  rw [PyProof.Rows.sortedHeap_old (Nat.ne_of_lt hlt) (Heap.lt_size e2)]
  exact e2
end Oh
namespace Oh
open PySem PySem.Spec PyProof.Rows L2
def topS (i : Nat) : Stmt := PySem.Challenge.pw_onehand_k19_whole_a_walk_is_a_bookless_o.main.body.getD i (.Pass ⟨0, 0, 0, 0⟩)
abbrev FnP (K : PySem.W.Frag) (x qual : Str) (st : Stmt) (f : Addr) (fd : FuncData) : Prop := FunD K x qual (defArgs st) (defBody st) (defScope st) [] [] f fd
structure DfG (K : PySem.W.Frag) (mg : Str → Option Value) (x : Str) (st : Stmt) : Prop where
  ex : ∃ f fd, mg x = some (.ref f) ∧ FnP K x x st f fd
structure DfM (K : PySem.W.Frag) (C : Addr) (m qual : Str) (st : Stmt) : Prop where
  ex : ∃ f fd, Meth K C m f ∧ FnP K m qual st f fd
/-- a def that may be called by its name -/
structure Cal (P : Program) (w : World) (K : PySem.W.Frag) (mg : Str → Option Value) (base : Heap) (k : Nat) (x : Str) (sp : Sp) : Prop where
  ex : ∃ (f : Addr) (fd : FuncData) (ps : List Str), FnOk P w K mg base CX0 k f fd ps sp ∧ mg x = some (.ref f) ∧ PySem.W.keepIn K (.ref f) = true ∧ Binds K fd ps []
/-- a method -/
structure Met (P : Program) (w : World) (K : PySem.W.Frag) (mg : Str → Option Value) (base : Heap) (k : Nat) (C : Addr) (m : Str) (sp : Sp) : Prop where
  ex : ∃ (f : Addr) (fd : FuncData) (ps : List Str), Cls K C ∧ Meth K C m f ∧ FnOk P w K mg base CX0 k f fd ps sp ∧ Binds K fd ps []
section
variable {P : Program} {w : World} {K : PySem.W.Frag} {mg : Str → Option Value} {base : Heap}
theorem cal_mk {x : Str} {st : Stmt} {N ps : List Str} {k : Nat} {sp : Sp} (F : DfG K mg x st) (S : FnScope N ps (defScope st))
    (hb : ∀ (kV doc pm : Value) (an : Option Addr) (cdv ct : Value) (us : List Value), us.length = ps.length → bindArgs (PySem.W.fnOf x x (defArgs st) (defBody st) (defScope st) .none kV doc pm an cdv ct) ⟨us, []⟩ = pure (ps.zip us))
    (len : ∀ vs H Q E, sp vs H Q E → vs.length = ps.length)
    (hbody : ∀ (f : Addr) (cdv : Value) (A : Around) (outer : List Env) (s : Shared) (H : Hp) (vs : List V) (Q : VK) (E : XK), Room k (A.deeper (envOfC x (defScope st) s.heap.objs.size f cdv)) → sp vs H Q E →
      ∃ t, PSs (cxOf CX0 P w K mg base N x (defScope st) f cdv A outer s H E).nox (defBody st) t ∧ t { nx := fun _ H' => Q .non H', rt := Q } (start N vs) H) : Cal P w K mg base (k + 1) x sp := by
  obtain ⟨f, fd, hm, F⟩ := F.ex
  refine ⟨f, fd, ps, F.ok S len fun cdv A outer s H vs Q E hr h => ?_, hm, F.kp, F.bindsN hb⟩
  obtain ⟨t, h1, h2⟩ := hbody f cdv A outer s H vs Q E hr h
  exact ⟨t, h1.nox, h2⟩
theorem met_mk {C : Addr} {m qual : Str} {st : Stmt} {N ps : List Str} {k : Nat} {sp : Sp} (F : DfM K C m qual st) (c : Cls K C) (S : FnScope N ps (defScope st))
    (hb : ∀ (kV doc pm : Value) (an : Option Addr) (cdv ct : Value) (us : List Value), us.length = ps.length → bindArgs (PySem.W.fnOf m qual (defArgs st) (defBody st) (defScope st) .none kV doc pm an cdv ct) ⟨us, []⟩ = pure (ps.zip us))
    (len : ∀ vs H Q E, sp vs H Q E → vs.length = ps.length)
    (hbody : ∀ (f : Addr) (cdv : Value) (A : Around) (outer : List Env) (s : Shared) (H : Hp) (vs : List V) (Q : VK) (E : XK), Room k (A.deeper (envOfC qual (defScope st) s.heap.objs.size f cdv)) → sp vs H Q E →
      ∃ t, PSs (cxOf CX0 P w K mg base N qual (defScope st) f cdv A outer s H E).nox (defBody st) t ∧ t { nx := fun _ H' => Q .non H', rt := Q } (start N vs) H) : Met P w K mg base (k + 1) C m sp := by
  obtain ⟨f, fd, hm, F⟩ := F.ex
  refine ⟨f, fd, ps, c, hm, F.ok S len fun cdv A outer s H vs Q E hr h => ?_, F.bindsN hb⟩
  obtain ⟨t, h1, h2⟩ := hbody f cdv A outer s H vs Q E hr h
  exact ⟨t, h1.nox, h2⟩
end
section
variable {X : Cx} {k j : Nat} {C : Addr} {x m : Str} {sp : Sp} {p pos apos : Pos} {e o : Expr} {es : List Expr} {ta : TE} {t : TA}
theorem pe_c (c : Cal X.prog X.w X.K X.mg X.base k x sp) (hr : Room j X.A) (hk : k ≤ j) (hg : Gl X x) (ha : PA X (e :: es) t)
    (hdb : (x == ("__debug__" : Str)) = false := by decide) (he : starEach (e :: es) X.env = (false, eval e X.env) :: starEach es X.env := by rfl) (hpl : (backTo pos (starEach es X.env)).any (·.1) = false := by rfl) :
    PE X (.Call (.Name x p) (e :: es) [] pos) (tCall sp [] E0 t) := by
  obtain ⟨f, fd, ps, F, hm, kp, b⟩ := c.ex
  exact pe_call F (hr.mono hk) hg hm kp b .nil pass0 ha hdb he hpl
theorem pe_mt {pl : Sem Bool} (c : Met X.prog X.w X.K X.mg X.base k C m sp) (hr : Room j X.A) (hk : k ≤ j) (he : PE X o ta) (ha : PA X (e :: es) t)
    (hst : starEach (e :: es) X.env = (false, eval e X.env) :: starEach es X.env := by rfl) (hpl : (backTo pos (starEach es X.env)).any (·.1) = false := by rfl)
    (ht : eval (.Call (.Attribute o m apos) (e :: es) [] pos) X.env = (do
      let ov ← eval o X.env
      standAt apos.atName
      let (f, first) ← holding [ov] (getMethod ov m pl)
      callWith pos f first (backTo pos (starEach (e :: es) X.env)) (backToKw pos (keywordEach [] X.env))) := by rfl) :
    PE X (.Call (.Attribute o m apos) (e :: es) [] pos) (tMeth C m sp [] E0 ta t) := by
  obtain ⟨f, fd, ps, hc, hm, F, b⟩ := c.ex
  exact pe_meth (pl := pl) he hc hm F (hr.mono hk) b .nil pass0 ha hst hpl ht
theorem pe_mt0 {pl : Sem Bool} (c : Met X.prog X.w X.K X.mg X.base k C m sp) (hr : Room j X.A) (hk : k ≤ j) (he : PE X o ta)
    (ht : eval (.Call (.Attribute o m apos) [] [] pos) X.env = (do
      let ov ← eval o X.env
      standAt apos.atName
      let (f, first) ← holding [ov] (getMethod ov m pl)
      callWith pos f first (backTo pos (starEach [] X.env)) (backToKw pos (keywordEach [] X.env))) := by rfl) :
    PE X (.Call (.Attribute o m apos) [] [] pos) (tMeth C m sp [] E0 ta tNil) := by
  obtain ⟨f, fd, ps, hc, hm, F, b⟩ := c.ex
  exact pe_meth0 (pl := pl) he hc hm F (hr.mono hk) b .nil pass0 ht
/-- a name of the module, by its value -/
theorem pe_gc {v : V} (h : ∃ u, X.mg x = some u ∧ RelV v u) (hg : Gl X x) (hd : (x == ("__debug__" : Str)) = false := by decide) : PE X (.Name x pos) (tC v) := by
  obtain ⟨u, hm, r⟩ := h
  exact pe_glob hg hm r hd
end
structure Txt (K : PySem.W.Frag) (mg : Str → Option Value) (CF CW : Addr) : Prop where
  isi : mg "isinstance" = none
  int : mg "int" = none
  bool : mg "bool" = none
  tuple : mg "tuple" = none
  str : mg "str" = none
  len : mg "len" = none
  enum : mg "enumerate" = none
  all : mg "all" = none
  any : mg "any" = none
  list : mg "list" = none
  dict : mg "dict" = none
  range : mg "range" = none
  set : mg "set" = none
  sorted : mg "sorted" = none
  zip : mg "zip" = none
  DEEDS : ∃ u, mg "DEEDS" = some u ∧ RelV (.str (sx DL)) u
  WALL : ∃ u, mg "WALL" = some u ∧ RelV (.str (sx [35])) u
  ICE : ∃ u, mg "ICE" = some u ∧ RelV (.str (sx [126])) u
  PIT : ∃ u, mg "PIT" = some u ∧ RelV (.str (sx [120])) u
  LETTERS : ∃ u, mg "LETTERS" = some u ∧ RelV (.str (sx lets)) u
  OPEN : ∃ u, mg "OPEN" = some u ∧ RelV (.str (sx opens)) u
  SIGNS : ∃ u, mg "SIGNS" = some u ∧ RelV (.str (sx signs)) u
  MOST : ∃ u, mg "MOST" = some u ∧ RelV (.int 6) u
  TURNS : ∃ a, (∃ u, mg "TURNS" = some u ∧ RelV (.ref a) u) ∧ ∀ H, SqT K H a (turnsL.map fun t => V.str (sx t))
  STEPS : ∃ a a0 a1 a2 a3, (∃ u, mg "STEPS" = some u ∧ RelV (.ref a) u) ∧ (∀ H, SqT K H a [.ref a0, .ref a1, .ref a2, .ref a3]) ∧
    (∀ H, SqT K H a0 [.int (-1), .int 0]) ∧ (∀ H, SqT K H a1 [.int 0, .int 1]) ∧ (∀ H, SqT K H a2 [.int 1, .int 0]) ∧ (∀ H, SqT K H a3 [.int 0, .int (-1)])
  Floor : ∃ u, mg "Floor" = some u ∧ RelV (.ref CF) u
  World : ∃ u, mg "World" = some u ∧ RelV (.ref CW) u
  clF : Cls K CF
  clW : Cls K CW
  insF : C8.InsC K CF
  nTexts : NoAttr K CF "texts"
  nGround : NoAttr K CW "ground"
  nPages : NoAttr K CW "pages"
  nGoals : NoAttr K CW "goals"
  nOpening : NoAttr K CW "opening"
  nFirst : NoAttr K CW "first"
  mkF : ∃ f fd, Mk K CF f ∧ mg "Floor" = some (.ref CF) ∧ FnP K "__init__" "Floor.__init__" (inClass (topS 35) 0) f fd
  mkW : ∃ f fd d, Mk K CW f ∧ mg "World" = some (.ref CW) ∧ (∀ H, SqT K H d []) ∧
    FunD K "__init__" "World.__init__" (defArgs (inClass (topS 41) 0)) (defBody (inClass (topS 41) 0)) (defScope (inClass (topS 41) 0)) [] [("turn", .str (sx DL)), ("book", .non), ("wishes", .ref d)] f fd
  is_whole : DfG K mg "is_whole" (topS 10)
  is_from : DfG K mg "is_from" (topS 11)
  is_place : DfG K mg "is_place" (topS 12)
  is_turn : DfG K mg "is_turn" (topS 16)
  want_turn : DfG K mg "want_turn" (topS 17)
  want_row : DfG K mg "want_row" (topS 18)
  want_deed : DfG K mg "want_deed" (topS 19)
  way : DfG K mg "way" (topS 20)
  row_turned : DfG K mg "row_turned" (topS 21)
  then_ : DfG K mg "then" (topS 22)
  is_text : DfG K mg "is_text" (topS 32)
  want_rows : DfG K mg "want_rows" (topS 33)
  next_to : DfG K mg "next_to" (topS 34)
  f_size : DfM K CF "size" "Floor.size" (inClass (topS 35) 4)
  f_has : DfM K CF "has" "Floor.has" (inClass (topS 35) 5)
  f_seen : DfM K CF "seen" "Floor.seen" (inClass (topS 35) 6)
  f_letters : DfM K CF "letters" "Floor.letters" (inClass (topS 35) 8)
  f_places : DfM K CF "places" "Floor.places" (inClass (topS 35) 9)
  f_open_places : DfM K CF "open_places" "Floor.open_places" (inClass (topS 35) 10)
  f_can_stand : DfM K CF "can_stand" "Floor.can_stand" (inClass (topS 35) 11)
  f_goes : DfM K CF "goes" "Floor.goes" (inClass (topS 35) 12)
  is_stand : DfG K mg "is_stand" (topS 37)
  is_book : DfG K mg "is_book" (topS 38)
  are_wishes : DfG K mg "are_wishes" (topS 39)
  first_wrong : DfG K mg "first_wrong" (topS 40)
  w_want_stand : DfM K CW "want_stand" "World.want_stand" (inClass (topS 41) 6)
  w_begun : DfM K CW "begun" "World.begun" (inClass (topS 41) 7)
  w_behind : DfM K CW "behind" "World.behind" (inClass (topS 41) 8)
  w_gone : DfM K CW "gone" "World.gone" (inClass (topS 41) 10)
  w_walk : DfM K CW "walk" "World.walk" (inClass (topS 41) 11)
  w_comings : DfM K CW "comings" "World.comings" (inClass (topS 41) 12)
  w_ways : DfM K CW "ways" "World.ways" (inClass (topS 41) 13)
  l_mixed : DfG K mg "_law_mixed" (topS 43)
  l_source : DfG K mg "_law_source" (topS 44)
  l_take : DfG K mg "_law_take" (topS 45)
  l_one : DfG K mg "_law_one" (topS 46)
  l_texts : DfG K mg "_law_texts" (topS 47)
  l_swing : DfG K mg "_law_swing" (topS 48)
  l_spots : DfG K mg "_law_spots" (topS 49)
  l_plan : DfG K mg "_law_plan" (topS 50)
  l_made : DfG K mg "_law_made" (topS 51)
  l_deeds : DfG K mg "_law_deeds" (topS 52)
  l_spots_of : DfG K mg "_law_spots_of" (topS 53)
  l_stretch : DfG K mg "_law_stretch_right" (topS 54)
  l_right : DfG K mg "_law_right" (topS 55)
  l_law : DfG K mg "law" (topS 56)
theorem same_new {H : Hp} {p : Addr} {o : HO} (h : H p = none) : Same H (upd H p o) := fun b x e => by
  rw [upd_ne (ne_of_none e h)]
  exact e
/-- an object that H does not know may change -/
theorem same_mut {H H' : Hp} {p : Addr} {o : HO} (e : Same H H') (h : H p = none) : Same H (upd H' p o) := fun a u ha => by
  rw [upd_ne (ne_of_none ha h)]
  exact e a u ha
theorem same_tup {K : PySem.W.Frag} {H H' : Hp} {a : Addr} {xs : List V} (e : Same H H') (h : SqT K H a xs) : SqT K H' a xs := by
  rcases h with (h | ⟨o, h⟩) | h
  · exact .inl (.inl (e _ _ h))
  · exact .inl (.inr ⟨o, e _ _ h⟩)
  · exact .inr h
theorem sz_ok {n : Nat} (h : n ≤ 100000) : n ≤ sizeLine := Nat.le_trans h (by decide)
theorem sz_lt {n : Nat} (h : n < 100000) : n < sizeLine := Nat.lt_of_lt_of_le h (by decide)
/-- a place -/
def PlAt (K : PySem.W.Frag) (H : Hp) (v : V) (p : Pl) : Prop := ∃ t, v = .ref t ∧ SqT K H t [.int p.1, .int p.2]
/-- a place or None -/
def OpAt (K : PySem.W.Frag) (H : Hp) (v : V) : Option Pl → Prop
  | none => v = .non
  | some p => PlAt K H v p
/-- a stand -/
def SdAt (K : PySem.W.Frag) (H : Hp) (v : V) : Sd → Prop
  | none => v = .non
  | some (p, t) => ∃ a u, v = .ref a ∧ SqT K H a [u, .str (sx t)] ∧ PlAt K H u p
/-- a list of such -/
def LsAt {α : Type} (K : PySem.W.Frag) (R : Hp → V → α → Prop) (H : Hp) (v : V) (xs : List α) : Prop := ∃ l vs, v = .ref l ∧ SqL K H l vs ∧ Paired (R H) vs xs
/-- a list of texts -/
def TsAt (K : PySem.W.Frag) (H : Hp) (v : V) (ts : Tx) : Prop := ∃ l, v = .ref l ∧ SqL K H l (ts.map fun t => V.str (sx t))
theorem PlAt.mono {K : PySem.W.Frag} {H H' : Hp} {v : V} {p : Pl} (e : Same H H') (h : PlAt K H v p) : PlAt K H' v p := by
  obtain ⟨t, h1, h2⟩ := h
  exact ⟨t, h1, same_tup e h2⟩
theorem OpAt.mono {K : PySem.W.Frag} {H H' : Hp} {v : V} {p : Option Pl} (e : Same H H') (h : OpAt K H v p) : OpAt K H' v p := by
  cases p with
  | none => exact h
  | some p => exact PlAt.mono e h
theorem SdAt.mono {K : PySem.W.Frag} {H H' : Hp} {v : V} {s : Sd} (e : Same H H') (h : SdAt K H v s) : SdAt K H' v s := by
  cases s with
  | none => exact h
  | some pt =>
    obtain ⟨a, u, h1, h2, h3⟩ := h
    exact ⟨a, u, h1, same_tup e h2, h3.mono e⟩
theorem LsAt.mono {α : Type} {K : PySem.W.Frag} {R : Hp → V → α → Prop} {H H' : Hp} {v : V} {xs : List α} (hR : ∀ v x, R H v x → R H' v x) (e : Same H H') (h : LsAt K R H v xs) : LsAt K R H' v xs := by
  obtain ⟨l, vs, h1, h2, h3⟩ := h
  exact ⟨l, vs, h1, e.seq h2, Paired.mapP h3 hR⟩
theorem TsAt.mono {K : PySem.W.Frag} {H H' : Hp} {v : V} {ts : Tx} (e : Same H H') (h : TsAt K H v ts) : TsAt K H' v ts := by
  obtain ⟨l, h1, h2⟩ := h
  exact ⟨l, h1, e.seq h2⟩
theorem paired_get' {α β : Type} {G : α → β → Prop} {l1 : List α} {l2 : List β} (h : Paired G l1 l2) : ∀ {i : Nat} {b : β}, l2[i]? = some b → ∃ a, l1[i]? = some a ∧ G a b := by
  induction h with
  | nil => intro i b e; simp at e
  | cons r t ih =>
    intro i b e
    cases i with
    | zero =>
      have e' := Option.some.inj e
      exact ⟨_, rfl, by rw [← e']; exact r⟩
    | succ i => exact ih (i := i) (b := b) (by simpa using e)
theorem paired_len {α β : Type} {G : α → β → Prop} {l1 : List α} {l2 : List β} (h : Paired G l1 l2) : l1.length = l2.length := Paired.length h
theorem paired_snoc {α β : Type} {G : α → β → Prop} {l1 : List α} {l2 : List β} {a : α} {b : β} (h : Paired G l1 l2) (r : G a b) : Paired G (l1 ++ [a]) (l2 ++ [b]) := Paired.snoc h r
theorem paired_app {α β : Type} {G : α → β → Prop} : ∀ {l1 m1 : List α} {l2 m2 : List β}, Paired G l1 l2 → Paired G m1 m2 → Paired G (l1 ++ m1) (l2 ++ m2)
  | _, _, _, _, .nil, h => h
  | _, _, _, _, .cons r t, h => .cons r (paired_app t h)
theorem paired_take {α β : Type} {G : α → β → Prop} : ∀ {l1 : List α} {l2 : List β} (n : Nat), Paired G l1 l2 → Paired G (l1.take n) (l2.take n)
  | _, _, 0, _ => .nil
  | _, _, _ + 1, .nil => .nil
  | _, _, n + 1, .cons r t => .cons r (paired_take n t)
theorem paired_drop {α β : Type} {G : α → β → Prop} : ∀ {l1 : List α} {l2 : List β} (n : Nat), Paired G l1 l2 → Paired G (l1.drop n) (l2.drop n)
  | _, _, 0, h => h
  | _, _, _ + 1, .nil => .nil
  | _, _, n + 1, .cons _ t => paired_drop n t
/-- a floor -/
def FlAt (K : PySem.W.Frag) (CF : Addr) (H : Hp) (f : Addr) (ts : Tx) : Prop :=
  ∃ dx fs T, H f = some (.ins CF dx fs) ∧ fs.lookup ("texts" : Str) = some (.ref T) ∧ (∀ m : Str, m ≠ "texts" → fs.lookup m = none) ∧ SqT K H T (ts.map fun t => V.str (sx t))
theorem FlAt.mono {K : PySem.W.Frag} {CF : Addr} {H H' : Hp} {f : Addr} {ts : Tx} (e : Same H H') (h : FlAt K CF H f ts) : FlAt K CF H' f ts := by
  obtain ⟨dx, fs, T, h1, h2, h3, h4⟩ := h
  exact ⟨dx, fs, T, e _ _ h1, h2, h3, same_tup e h4⟩
/-- a dict from letters to turns -/
def PgAt (H : Hp) (d : Addr) (ts : Tx) (pg : Nat → List Nat) : Prop := ∃ kvs, H d = some (.dK kvs) ∧ kvs.length = (lets.filter fun c => ts.any fun t => decide (c ∈ t)).length ∧
  ∀ c ∈ lets, (ts.any fun t => decide (c ∈ t)) = true → valV kvs (Sum.inr (sx [c])) = some (.str (sx (pg c)))
theorem PgAt.mono {H H' : Hp} {d : Addr} {ts : Tx} {pg : Nat → List Nat} (e : Same H H') (h : PgAt H d ts pg) : PgAt H' d ts pg := by
  obtain ⟨kvs, h1, h2⟩ := h
  exact ⟨kvs, e _ _ h1, h2⟩
def wNames : List Str := ["ground", "pages", "goals", "opening", "first"]
/-- a world -/
def WdAt (K : PySem.W.Frag) (CF CW : Addr) (H : Hp) (a : Addr) (ts : Tx) (pg : Nat → List Nat) (p0 : Pl) (gs : List V) (s : Sd) : Prop :=
  ∃ dx fs g d go op fv, H a = some (.ins CW dx fs) ∧ fs.length < 1000 ∧ fs.lookup ("ground" : Str) = some (.ref g) ∧ fs.lookup ("pages" : Str) = some (.ref d) ∧ fs.lookup ("goals" : Str) = some (.ref go) ∧
    fs.lookup ("opening" : Str) = some op ∧ fs.lookup ("first" : Str) = some fv ∧ (∀ m : Str, m ∉ wNames → fs.lookup m = none) ∧ FlAt K CF H g ts ∧ PgAt H d ts pg ∧ SqT K H go gs ∧ PlAt K H op p0 ∧ SdAt K H fv s
theorem WdAt.mono {K : PySem.W.Frag} {CF CW : Addr} {H H' : Hp} {a : Addr} {ts : Tx} {pg : Nat → List Nat} {p0 : Pl} {gs : List V} {s : Sd} (e : Same H H') (h : WdAt K CF CW H a ts pg p0 gs s) : WdAt K CF CW H' a ts pg p0 gs s := by
  obtain ⟨dx, fs, g, d, go, op, fv, h1, h2, h3, h4, h5, h6, h7, h8, h9, h10, h11, h12, h13⟩ := h
  exact ⟨dx, fs, g, d, go, op, fv, e _ _ h1, h2, h3, h4, h5, h6, h7, h8, h9.mono e, h10.mono e, same_tup e h11, h12.mono e, h13.mono e⟩
theorem s_e : ("" : Str) = sx [] := by decide +kernel
theorem ty_tup {K : PySem.W.Frag} {H : Hp} {a : Addr} {xs : List V} (h : SqT K H a xs) : TyX K H (.ref a) (.type "tuple") := by
  rcases h with (h | ⟨o, h⟩) | ⟨o, its, n, h, hc, _⟩
  · exact .base (.tup h)
  · exact .fTuple h
  · exact .kTuple h hc
theorem ty_list {K : PySem.W.Frag} {H : Hp} {a : Addr} {xs : List V} (h : SqL K H a xs) : TyX K H (.ref a) (.type "list") := by
  rcases h with (h | ⟨o, h⟩) | ⟨o, its, n, h, hc, _⟩
  · exact .base (.lst h)
  · exact .base (.frz h)
  · exact .kList h hc
theorem k_si : PySem.W.kitOne [] (.type "str") (.type "str") = some true := kit_ty (by decide +kernel)
end Oh
namespace Oh
open PySem PySem.Spec PyProof.Rows L2
theorem bt_isi : bootBuiltins "isinstance" = some (.builtin "isinstance") := by decide +kernel
theorem bt_int : bootBuiltins "int" = some (.type "int") := by decide +kernel
theorem bt_bool : bootBuiltins "bool" = some (.type "bool") := by decide +kernel
theorem bt_str : bootBuiltins "str" = some (.type "str") := by decide +kernel
theorem bt_tuple : bootBuiltins "tuple" = some (.type "tuple") := by decide +kernel
theorem bt_list : bootBuiltins "list" = some (.type "list") := by decide +kernel
theorem bt_dict : bootBuiltins "dict" = some (.type "dict") := by decide +kernel
theorem bt_set : bootBuiltins "set" = some (.type "set") := by decide +kernel
theorem bt_len : bootBuiltins "len" = some (.builtin "len") := by decide +kernel
theorem bt_all : bootBuiltins "all" = some (.builtin "all") := by decide +kernel
theorem bt_any : bootBuiltins "any" = some (.builtin "any") := by decide +kernel
theorem bt_sorted : bootBuiltins "sorted" = some (.builtin "sorted") := by decide +kernel
theorem pe_bty {X : Cx} {x : Str} {n : String} {pos : Pos} (hm : X.mg x = none) (hv : bootBuiltins x = some (.type n)) (hg : Gl X x) (hn : x ≠ "__name__" := by decide) (hd : (x == ("__debug__" : Str)) = false := by decide) : PE X (.Name x pos) (tC (.ty n)) :=
  pe_bltn hg hm hv rfl hn hd
section
variable {P : Program} {w : World} {K : PySem.W.Frag} {mg : Str → Option Value} {base : Heap} {CF CW : Addr}
def spWhole : Sp := fun vs H Q _ => ∃ n : Int, vs = [.int n] ∧ Q (.bl true) H
theorem sc_is_whole : FnScope ["thing"] ["thing"] (defScope (topS 10)) := ⟨rfl, rfl, rfl, by decide +kernel, rfl, by decide +kernel, by decide +kernel⟩
theorem c_is_whole (T : Txt K mg CF CW) : Cal P w K mg base 1 "is_whole" spWhole := by
  refine cal_mk T.is_whole sc_is_whole (fun _ _ _ _ _ _ us hl => match us, hl with | [_], _ => rfl) (fun vs H Q E h => ?_) (fun f cdv A outer s H vs Q E hr h => ?_)
  · obtain ⟨n, rfl, _⟩ := h
    rfl
  · obtain ⟨n, rfl, k⟩ := h
    refine ⟨_, pss_one (ps_ret (pe_and (pe_callB call_isi rfl T.isi bt_isi (pa_cons (pv 0) (pa_cons (pe_bty T.int bt_int rfl) pa_nil)))
      (pe_one (pe_not (pe_callB call_isi rfl T.isi bt_isi (pa_cons (pv 0) (pa_cons (pe_bty T.bool bt_bool rfl) pa_nil))))))), ?_⟩
    refine ⟨_, rfl, _, _, _, _, true, rfl, .ty _, .base (.int n), kit_ty (by decide +kernel), true, rfl, iteT ?_⟩
    exact ⟨_, rfl, _, _, _, _, false, rfl, .ty _, .base (.int n), kit_ty (by decide +kernel), false, rfl, k⟩
def spFrom : Sp := fun vs H Q _ => ∃ n a b : Int, vs = [.int n, .int a, .int b] ∧ Q (.bl (decide (a ≤ n ∧ n ≤ b))) H
theorem sc_is_from : FnScope ["thing", "least", "most"] ["thing", "least", "most"] (defScope (topS 11)) := ⟨rfl, rfl, rfl, by decide +kernel, rfl, by decide +kernel, by decide +kernel⟩
theorem c_is_from (T : Txt K mg CF CW) : Cal P w K mg base 2 "is_from" spFrom := by
  refine cal_mk T.is_from sc_is_from (fun _ _ _ _ _ _ us hl => match us, hl with | [_, _, _], _ => rfl) (fun vs H Q E h => ?_) (fun f cdv A outer s H vs Q E hr h => ?_)
  · obtain ⟨n, a, b, rfl, _⟩ := h
    rfl
  · obtain ⟨n, a, b, rfl, k⟩ := h
    refine ⟨_, pss_one (ps_ret (pe_and (pe_c (c_is_whole T) hr (by decide) rfl (pa_cons (pv 0) pa_nil)) (pe_one (pe_chain op_le op_le (pv 1) (pv 0) (pv 2))))), ?_⟩
    refine ⟨_, rfl, n, rfl, true, rfl, iteT ?_⟩
    refine ⟨_, rfl, _, rfl, _, _, rfl, rfl, _, rfl, ite2 (fun h1 => ?_) (fun h1 => ?_)⟩
    · refine ⟨_, rfl, _, _, rfl, rfl, ?_⟩
      have h2 : a ≤ n := of_decide_eq_true h1
      have e : decide (a ≤ n ∧ n ≤ b) = decide (n ≤ b) := decide_eq_decide.mpr ⟨fun z => z.2, fun z => ⟨h2, z⟩⟩
      rw [e] at k
      exact k
    · have h2 : ¬ a ≤ n := fun z => h1 (decide_eq_true z)
      have e : decide (a ≤ n ∧ n ≤ b) = false := decide_eq_false fun z => h2 z.1
      rw [e] at k
      exact k
def spPlace (K : PySem.W.Frag) : Sp := fun vs H Q _ => ∃ (v : V) (p : Pl) (r c : Int), vs = [v, .int r, .int c] ∧ PlAt K H v p ∧ Q (.bl (decide (0 ≤ p.1 ∧ p.1 ≤ r - 1) && decide (0 ≤ p.2 ∧ p.2 ≤ c - 1))) H
theorem sc_is_place : FnScope ["thing", "rows", "columns", "row", "column"] ["thing", "rows", "columns"] (defScope (topS 12)) := ⟨rfl, rfl, rfl, by decide +kernel, rfl, by decide +kernel, by decide +kernel⟩
theorem c_is_place (T : Txt K mg CF CW) : Cal P w K mg base 3 "is_place" (spPlace K) := by
  refine cal_mk T.is_place sc_is_place (fun _ _ _ _ _ _ us hl => match us, hl with | [_, _, _], _ => rfl) (fun vs H Q E h => ?_) (fun f cdv A outer s H vs Q E hr h => ?_)
  · obtain ⟨v, p, r, c, rfl, _⟩ := h
    rfl
  · obtain ⟨v, p, r, c, rfl, ⟨t, rfl, ht⟩, k⟩ := h
    refine ⟨_, pss_cons (ps_if (PW.pt (pw_or (pt_not (pt_val (pe_callB call_isi rfl T.isi bt_isi (pa_cons (pv 0) (pa_cons (pe_bty T.tuple bt_tuple rfl) pa_nil))))) (pw_or1 (pt_cmpR op_ne (pe_callB call_len rfl T.len bt_len (pa_cons (pv 0) pa_nil)) pe_int (nomark _))))) pss_never pss_nil)
      (pss_cons (ps_asg (pv 0) (pg_tup rfl (pgs_cons (pg_name (i := 3) sc_is_place.nd rfl (.inl rfl)) (pgs_cons (pg_name (i := 4) sc_is_place.nd rfl (.inl rfl)) pgs_nil))))
      (pss_one (ps_ret (pe_and (pe_c (c_is_from T) hr (by decide) rfl (pa_cons (pv 3) (pa_cons pe_int (pa_cons (pe_op op_sub (pv 1) pe_int) pa_nil)))) (pe_one (pe_c (c_is_from T) hr (by decide) rfl (pa_cons (pv 4) (pa_cons pe_int (pa_cons (pe_op op_sub (pv 2) pe_int) pa_nil))))))))), ?_⟩
    refine ⟨_, rfl, _, _, _, _, true, rfl, .ty _, ty_tup ht, kit_ty (by decide +kernel), true, rfl, iteF ?_⟩
    refine ⟨_, rfl, _, _, rfl, .inr ⟨_, ht, rfl⟩, rfl, _, rfl, ?_⟩
    refine iteNS rfl ?_
    refine ⟨_, rfl, _, _, rfl, ht, rfl, _, _, rfl, _, _, rfl, rfl, ?_⟩
    refine ⟨_, rfl, _, rfl, _, _, rfl, rfl, _, _, _, rfl, _, rfl, ?_⟩
    refine ite2 (fun h1 => ?_) (fun h1 => ?_)
    · refine ⟨_, rfl, _, rfl, _, _, rfl, rfl, _, _, _, rfl, ?_⟩
      rw [h1, Bool.true_and] at k
      exact k
    · rw [Bool.eq_false_iff.mpr h1, Bool.false_and] at k
      exact k
theorem inV_turns : ∀ t ∈ turnsL, inV (.str (sx t)) (turnsL.map fun t => V.str (sx t)) = true := by decide +kernel
theorem flat_turns : (turnsL.map fun t => V.str (sx t)).all flatV = true := by decide
def spIsTurn : Sp := fun vs H Q _ => ∃ t, vs = [.str (sx t)] ∧ t ∈ turnsL ∧ Q (.bl true) H
theorem sc_is_turn : FnScope ["thing"] ["thing"] (defScope (topS 16)) := ⟨rfl, rfl, rfl, by decide +kernel, rfl, by decide +kernel, by decide +kernel⟩
theorem c_is_turn (T : Txt K mg CF CW) : Cal P w K mg base 1 "is_turn" spIsTurn := by
  refine cal_mk T.is_turn sc_is_turn (fun _ _ _ _ _ _ us hl => match us, hl with | [_], _ => rfl) (fun vs H Q E h => ?_) (fun f cdv A outer s H vs Q E hr h => ?_)
  · obtain ⟨t, rfl, _⟩ := h
    rfl
  · obtain ⟨t, rfl, ht, k⟩ := h
    obtain ⟨a, ha, hT⟩ := T.TURNS
    refine ⟨_, pss_one (ps_ret (pe_and (pe_callB call_isi rfl T.isi bt_isi (pa_cons (pv 0) (pa_cons (pe_bty T.str bt_str rfl) pa_nil))) (pe_one (pe_cmpR op_in_seq (pv 0) (pe_gc ha rfl) rfl)))), ?_⟩
    refine ⟨_, rfl, _, _, _, _, true, rfl, .ty _, .base (.str _), kit_ty (by decide +kernel), true, rfl, iteT ?_⟩
    refine ⟨_, rfl, a, _, rfl, .inr (hT _), rfl, flat_turns, ?_⟩
    show Q (.bl (inV (.str (sx t)) _)) H
    rw [inV_turns t ht]
    exact k
def spWantTurn : Sp := fun vs H Q _ => ∃ t, vs = [.str (sx t)] ∧ t ∈ turnsL ∧ Q .non H
theorem sc_want_turn : FnScope ["thing"] ["thing"] (defScope (topS 17)) := ⟨rfl, rfl, rfl, by decide +kernel, rfl, by decide +kernel, by decide +kernel⟩
theorem c_want_turn (T : Txt K mg CF CW) : Cal P w K mg base 2 "want_turn" spWantTurn := by
  refine cal_mk T.want_turn sc_want_turn (fun _ _ _ _ _ _ us hl => match us, hl with | [_], _ => rfl) (fun vs H Q E h => ?_) (fun f cdv A outer s H vs Q E hr h => ?_)
  · obtain ⟨t, rfl, _⟩ := h
    rfl
  · obtain ⟨t, rfl, ht, k⟩ := h
    refine ⟨_, pss_one (ps_if (pt_not (pt_val (pe_c (c_is_turn T) hr (by decide) rfl (pa_cons (pv 0) pa_nil)))) pss_never pss_nil), ?_⟩
    exact ⟨_, rfl, t, rfl, ht, true, rfl, iteF k⟩
theorem occ_none {a b : Str} : True := trivial
def spWantRow : Sp := fun vs H Q _ => ∃ row : List Nat, vs = [.str (sx row)] ∧ (∀ c ∈ row, c ∈ DL) ∧ ∀ H', Same H H' → Q .non H'
theorem sc_want_row : FnScope ["thing", "at", "deed"] ["thing"] (defScope (topS 18)) := ⟨rfl, rfl, rfl, by decide +kernel, rfl, by decide +kernel, by decide +kernel⟩
theorem c_want_row (T : Txt K mg CF CW) : Cal P w K mg base 1 "want_row" spWantRow := by
  refine cal_mk T.want_row sc_want_row (fun _ _ _ _ _ _ us hl => match us, hl with | [_], _ => rfl) (fun vs H Q E h => ?_) (fun f cdv A outer s H vs Q E hr h => ?_)
  · obtain ⟨t, rfl, _⟩ := h
    rfl
  · obtain ⟨row, rfl, hrow, k⟩ := h
    refine ⟨_, pss_cons (ps_if (pt_not (pt_val (pe_callB call_isi rfl T.isi bt_isi (pa_cons (pv 0) (pa_cons (pe_bty T.str bt_str rfl) pa_nil))))) pss_never pss_nil)
      (pss_one (ps_for PassesOwn.never rfl (pi_enumS rfl T.enum (pa_cons (pv 0) pa_nil)) (pg_tup rfl (pgs_cons (pg_name (i := 1) sc_want_row.nd rfl (.inl rfl)) (pgs_cons (pg_name (i := 2) sc_want_row.nd rfl (.inl rfl)) pgs_nil)))
        (pss_one (ps_if (pt_cmpR op_notIn_sign (pv 2) (pe_gc T.DEEDS rfl) rfl) pss_never pss_nil)))), ?_⟩
    refine ⟨_, rfl, _, _, _, _, true, rfl, .ty _, .base (.str _), kit_ty (by decide +kernel), true, rfl, iteF ?_⟩
    refine ⟨_, rfl, _, rfl, ?_⟩
    refine for_it walk_enumS (fun i σ H' => (∃ a b, σ = [some (.str (sx row)), a, b]) ∧ Same H H') ⟨⟨_, _, rfl⟩, Same.refl H⟩ (fun _ _ _ _ _ => trivial) ?_ ?_
    · rintro i x σ H1 H2 hi ⟨⟨a, b, rfl⟩, e1⟩ ⟨t, c, rfl, hn, rfl, hc⟩
      refine ⟨t, _, rfl, .inl (.inl upd_same), rfl, _, _, rfl, _, _, rfl, rfl, ?_⟩
      have hm : c ∈ row := by
        have q : row.toArray[i]? = some c := hc
        rw [List.getElem?_toArray] at q
        exact List.mem_of_getElem? q
      refine ⟨_, rfl, c, sx DL, rfl, rfl, _, rfl, ?_⟩
      refine iteNS (show c ∈ (sx DL).cps.toList from hrow c hm) ?_
      exact ⟨⟨_, _, rfl⟩, e1.trans (same_new hn)⟩
    · rintro σ H1 ⟨_, e1⟩
      exact k _ e1
def spWantDeed : Sp := fun vs H Q _ => ∃ c : Nat, vs = [.str (sx [c])] ∧ c ∈ DL ∧ Q .non H
theorem sc_want_deed : FnScope ["thing"] ["thing"] (defScope (topS 19)) := ⟨rfl, rfl, rfl, by decide +kernel, rfl, by decide +kernel, by decide +kernel⟩
theorem c_want_deed (T : Txt K mg CF CW) : Cal P w K mg base 1 "want_deed" spWantDeed := by
  refine cal_mk T.want_deed sc_want_deed (fun _ _ _ _ _ _ us hl => match us, hl with | [_], _ => rfl) (fun vs H Q E h => ?_) (fun f cdv A outer s H vs Q E hr h => ?_)
  · obtain ⟨t, rfl, _⟩ := h
    rfl
  · obtain ⟨c, rfl, hc, k⟩ := h
    refine ⟨_, pss_cons (ps_if (pt_not (pt_val (pe_callB call_isi rfl T.isi bt_isi (pa_cons (pv 0) (pa_cons (pe_bty T.str bt_str rfl) pa_nil))))) pss_never pss_nil)
      (pss_one (ps_if (PW.pt (pw_or (pt_cmpR op_ne (pe_callB call_len rfl T.len bt_len (pa_cons (pv 0) pa_nil)) pe_int (nomark _)) (pw_or1 (pt_cmpR op_notIn_sign (pv 0) (pe_gc T.DEEDS rfl) rfl)))) pss_never pss_nil)), ?_⟩
    refine ⟨_, rfl, _, _, _, _, true, rfl, .ty _, .base (.str _), kit_ty (by decide +kernel), true, rfl, iteF ?_⟩
    refine ⟨_, rfl, _, 1, rfl, ⟨by show 1 ≤ sizeLine; decide, rfl⟩, rfl, _, rfl, ?_⟩
    refine iteF ?_
    refine ⟨_, rfl, c, sx DL, rfl, rfl, _, rfl, ?_⟩
    exact iteNS (show c ∈ (sx DL).cps.toList from hc) k
theorem occ_deed : ∀ c ∈ DL, ∃ rest, Builtin.Str.occurrences (sx DL) (sx [c]) 0 (sx DL).length 1 = ixd c :: rest := by
  intro c hc
  have h : c = 117 ∨ c = 114 ∨ c = 100 ∨ c = 108 := by simpa [DL] using hc
  rcases h with rfl | rfl | rfl | rfl
  · exact ⟨_, (by decide +kernel : Builtin.Str.occurrences (sx DL) (sx [117]) 0 (sx DL).length 1 = [0])⟩
  · exact ⟨_, (by decide +kernel : Builtin.Str.occurrences (sx DL) (sx [114]) 0 (sx DL).length 1 = [1])⟩
  · exact ⟨_, (by decide +kernel : Builtin.Str.occurrences (sx DL) (sx [100]) 0 (sx DL).length 1 = [2])⟩
  · exact ⟨_, (by decide +kernel : Builtin.Str.occurrences (sx DL) (sx [108]) 0 (sx DL).length 1 = [3])⟩
def spWay : Sp := fun vs H Q _ => ∃ (t : List Nat) (c : Nat), vs = [.str (sx t), .str (sx [c])] ∧ t ∈ turnsL ∧ c ∈ DL ∧ Q (.str (sx [wayN t c])) H
theorem sc_way : FnScope ["turn", "deed"] ["turn", "deed"] (defScope (topS 20)) := ⟨rfl, rfl, rfl, by decide +kernel, rfl, by decide +kernel, by decide +kernel⟩
theorem c_way (T : Txt K mg CF CW) : Cal P w K mg base 3 "way" spWay := by
  refine cal_mk T.way sc_way (fun _ _ _ _ _ _ us hl => match us, hl with | [_, _], _ => rfl) (fun vs H Q E h => ?_) (fun f cdv A outer s H vs Q E hr h => ?_)
  · obtain ⟨t, c, rfl, _⟩ := h
    rfl
  · obtain ⟨t, c, rfl, ht, hc, k⟩ := h
    refine ⟨_, pss_cons (ps_expr (pe_c (c_want_turn T) hr (by decide) rfl (pa_cons (pv 0) pa_nil))) (pss_cons (ps_expr (pe_c (c_want_deed T) hr (by decide) rfl (pa_cons (pv 1) pa_nil)))
      (pss_one (ps_ret (pe_ix ix_str (pv 0) (pe_m1 PySem.F.slot_str_index PySem.F.type_str_index mt_sindex (pe_gc T.DEEDS rfl) (pv 1)) (fun _ _ => rfl))))), ?_⟩
    refine ⟨_, rfl, t, rfl, ht, _, rfl, c, rfl, hc, ?_⟩
    obtain ⟨rest, ho⟩ := occ_deed c hc
    refine ⟨_, rfl, ⟨_, rfl⟩, _, rfl, _, _, _, rest, rfl, rfl, ho, ?_⟩
    refine ⟨_, _, wayN t c, rfl, rfl, ?_, ?_, k⟩
    · rw [sx_len, turn_len t ht]
      decide
    · exact atI_nat (way_get ht c)
end
end Oh
namespace Oh
open PySem PySem.Spec PyProof.Rows L2
/-- a comprehension whose turns keep all that stands: out the items so far -/
theorem lc_same {α : Type} {J : It} {n : Nat} {G : Hp → Prop} {Y : Nat → Hp → V → Hp → Prop} (w : Walk J n G Y) {g : TG} {tt : TT} {te : TE} {vs : List Nat} {σ : L2.St} {H1 : Hp} {D : Addr} {Qd : Hp → Prop} (hD : H1 D = none)
    (R : Hp → V → α → Prop) (out : Nat → List α) (o0 : out 0 = [])
    (hm : ∀ H H' v x, Same H H' → R H v x → R H' v x) (hu : ∀ H l l' v x, H D = some (.lst l) → R H v x → R (upd H D (.lst l')) v x)
    (hG : ∀ H, Same H1 H → G H) (hlen : ∀ i, i ≤ n → (out i).length ≤ 100000)
    (hs : ∀ i x H H', i < n → Same H1 H → Y i H x H' → ∀ (k : V → Hp → Prop) (k' : Hp → Prop), (∀ y H4 a, Same H H4 → out (i + 1) = out i ++ [a] → R H4 y a → k y H4) → (∀ H3, Same H H3 → out (i + 1) = out i → k' H3) →
      g x (wipe σ vs) H' fun σ2 H2 => wipe σ2 vs = wipe σ vs ∧ tt σ2 H2 fun b H3 => if b = true then te σ2 H3 k else k' H3)
    (hd : ∀ H l, Same H1 H → H D = some (.lst l) → Paired (R H) l (out n) → Qd H) :
    ∃ W : Nat → Nat → Hp → Prop, (∃ m, W 0 m (upd H1 D (.lst []))) ∧ ∀ i m H, W i m H →
      (J.stop i H ∧ Qd H) ∨ (J.go i H ∧ ∃ Nx : Hp → Prop, (∀ H', Nx H' → ∃ m', m' < m ∧ W (i + 1) m' H') ∧ ∀ x H', J.yld i H x H' → g x (wipe σ vs) H' fun σ2 H2 => wipe σ2 vs = wipe σ vs ∧ tt σ2 H2 fun b H3 =>
        if b = true then te σ2 H3 fun y H4 => ∃ acc, H4 D = some (.lst acc) ∧ acc.length < sizeLine ∧ Nx (upd H4 D (.lst (acc ++ [y]))) else Nx H3) := by
  refine lc_it w (fun i H => Same H1 H ∧ ∃ l, H D = some (.lst l) ∧ Paired (R H) l (out i)) ⟨same_new hD, [], upd_same, by rw [o0]; exact .nil⟩ (fun i H _ p => hG H p.1) ?_ (fun H p => ?_)
  · rintro i x H H' hi ⟨e1, l, hl, hp⟩ y
    refine hs i x H H' hi e1 y _ _ (fun y H4 a e2 eo r => ?_) (fun H3 e2 eo => ?_)
    · have h4 : H4 D = some (.lst l) := e2 _ _ hl
      have hz : l.length ≤ 100000 := by
        rw [paired_len hp]
        exact hlen i (by omega)
      refine ⟨l, h4, Nat.lt_of_le_of_lt hz (by decide), same_mut (e1.trans e2) hD, _, upd_same, ?_⟩
      rw [eo]
      exact paired_snoc (Paired.mapP hp fun v x q => hu _ _ _ _ _ h4 (hm _ _ _ _ e2 q)) (hu _ _ _ _ _ h4 r)
    · refine ⟨e1.trans e2, l, e2 _ _ hl, ?_⟩
      rw [eo]
      exact Paired.mapP hp fun v x q => hm _ _ _ _ e2 q
  · obtain ⟨e1, l, hl, hp⟩ := p
    exact hd H l e1 hl hp
/-- .. without a test -/
theorem lc_sameY {α : Type} {J : It} {n : Nat} {G : Hp → Prop} {Y : Nat → Hp → V → Hp → Prop} (w : Walk J n G Y) {g : TG} {te : TE} {vs : List Nat} {σ : L2.St} {H1 : Hp} {D : Addr} {Qd : Hp → Prop} (hD : H1 D = none)
    (R : Hp → V → α → Prop) (out : Nat → List α) (o0 : out 0 = [])
    (hm : ∀ H H' v x, Same H H' → R H v x → R H' v x) (hu : ∀ H l l' v x, H D = some (.lst l) → R H v x → R (upd H D (.lst l')) v x)
    (hG : ∀ H, Same H1 H → G H) (hlen : ∀ i, i ≤ n → (out i).length ≤ 100000)
    (hs : ∀ i x H H', i < n → Same H1 H → Y i H x H' → ∀ (k : V → Hp → Prop), (∀ y H4 a, Same H H4 → out (i + 1) = out i ++ [a] → R H4 y a → k y H4) →
      g x (wipe σ vs) H' fun σ2 H2 => wipe σ2 vs = wipe σ vs ∧ te σ2 H2 k)
    (hd : ∀ H l, Same H1 H → H D = some (.lst l) → Paired (R H) l (out n) → Qd H)
    (hgm : ∀ x σ' H' (A B : L2.St → Hp → Prop), (∀ σ2 H2, A σ2 H2 → B σ2 H2) → g x σ' H' A → g x σ' H' B) :
    ∃ W : Nat → Nat → Hp → Prop, (∃ m, W 0 m (upd H1 D (.lst []))) ∧ ∀ i m H, W i m H →
      (J.stop i H ∧ Qd H) ∨ (J.go i H ∧ ∃ Nx : Hp → Prop, (∀ H', Nx H' → ∃ m', m' < m ∧ W (i + 1) m' H') ∧ ∀ x H', J.yld i H x H' → g x (wipe σ vs) H' fun σ2 H2 => wipe σ2 vs = wipe σ vs ∧ tYes σ2 H2 fun b H3 =>
        if b = true then te σ2 H3 fun y H4 => ∃ acc, H4 D = some (.lst acc) ∧ acc.length < sizeLine ∧ Nx (upd H4 D (.lst (acc ++ [y]))) else Nx H3) := by
  refine lc_same w hD R out o0 hm hu hG hlen (fun i x H H' hi e y k k' hk _ => ?_) hd
  refine hgm _ _ _ _ _ (fun σ2 H2 q => ⟨q.1, ?_⟩) (hs i x H H' hi e y k hk)
  show (if true = true then te σ2 H2 k else k' H2)
  rw [if_pos rfl]
  exact q.2
theorem gm_name {i : Nat} : ∀ x σ' H' (A B : L2.St → Hp → Prop), (∀ σ2 H2, A σ2 H2 → B σ2 H2) → gName i x σ' H' A → gName i x σ' H' B := fun x σ' H' A B h q => h _ _ q
theorem paired_eq {α β : Type} {f : β → α} : ∀ {l : List α} {xs : List β}, Paired (fun v x => v = f x) l xs → l = xs.map f
  | _, _, .nil => rfl
  | _, _, .cons r t => by rw [r, paired_eq t]; rfl
theorem take_snoc {α : Type} {l : List α} {i : Nat} {x : α} (h : l[i]? = some x) : l.take (i + 1) = l.take i ++ [x] := by
  rw [List.take_add_one, h]
  rfl
theorem sx_get {l : List Nat} {i c : Nat} (h : (sx l).cps[i]? = some c) : l[i]? = some c := by
  have q : l.toArray[i]? = some c := h
  rw [List.getElem?_toArray] at q
  exact q
theorem joinL_flat : ∀ ps : List (List Nat), TL.joinL [] ps = ps.flatten
  | [] => rfl
  | [p] => by simp [TL.joinL]
  | p :: q :: r => by
    show p ++ ([] ++ TL.joinL [] (q :: r)) = _
    rw [joinL_flat (q :: r)]
    simp
theorem join_sx (ps : List (List Nat)) : Txt.join (sx []) (ps.map sx) = sx ps.flatten := by
  rw [TL.join_eq]
  refine TL.ext_tl ?_
  rw [TL.tl_join, List.map_map]
  have e : (TL.tl ∘ sx) = id := by
    funext l
    rfl
  rw [e, List.map_id]
  exact joinL_flat ps
theorem join_signs (l : List Nat) : Txt.join (sx []) (l.map fun c => sx [c]) = sx l := by
  have e : (l.map fun c => sx [c]) = (l.map fun c => [c]).map sx := by
    rw [List.map_map]
    rfl
  rw [e, join_sx]
  congr 1
  induction l with
  | nil => rfl
  | cons a r ih =>
    show [a] ++ (r.map fun c => [c]).flatten = a :: r
    rw [ih (by rw [List.map_map]; rfl)]
    rfl
theorem sum_signs (l : List Nat) : ((l.map fun c => sx [c]).map (·.length)).sum = l.length := by
  induction l with
  | nil => rfl
  | cons a r ih =>
    rw [List.map_cons, List.map_cons, List.sum_cons, ih, sx_len]
    simp only [List.length_cons, List.length_nil]
    omega
section
variable {P : Program} {w : World} {K : PySem.W.Frag} {mg : Str → Option Value} {base : Heap} {CF CW : Addr}
def spRowTurned : Sp := fun vs H Q _ => ∃ (t row : List Nat), vs = [.str (sx t), .str (sx row)] ∧ t ∈ turnsL ∧ (∀ c ∈ row, c ∈ DL) ∧ row.length ≤ 1000 ∧ ∀ H', Same H H' → Q (.str (sx (row.map (wayN t)))) H'
theorem sc_row_turned : FnScope ["turn", "row", "deed"] ["turn", "row"] (defScope (topS 21)) := ⟨rfl, rfl, rfl, by decide +kernel, rfl, by decide +kernel, by decide +kernel⟩
theorem c_row_turned (T : Txt K mg CF CW) : Cal P w K mg base 4 "row_turned" spRowTurned := by
  refine cal_mk T.row_turned sc_row_turned (fun _ _ _ _ _ _ us hl => match us, hl with | [_, _], _ => rfl) (fun vs H Q E h => ?_) (fun f cdv A outer s H vs Q E hr h => ?_)
  · obtain ⟨t, row, rfl, _⟩ := h
    rfl
  · obtain ⟨t, row, rfl, ht, hrow, hlen, k⟩ := h
    refine ⟨_, pss_cons (ps_expr (pe_c (c_want_turn T) hr (by decide) rfl (pa_cons (pv 0) pa_nil))) (pss_cons (ps_expr (pe_c (c_want_row T) hr (by decide) rfl (pa_cons (pv 1) pa_nil)))
      (pss_one (ps_ret (pe_join pe_str (pe_lc (own := [("deed", 2)]) (g := gName 2) (tt := tYes) rfl sc_row_turned.nd (pi_str (pv 1)) (blkOk_by (own := [("deed", 2)]) (N := ["turn", "row", "deed"]) (sc := defScope (topS 21)) (by decide +kernel))
        (fun _ _ _ _ _ => pg_name (i := 2) sc_row_turned.nd rfl (Or.inl rfl)) (fun _ _ _ _ _ => pts_nil) (fun _ _ _ _ _ => pe_c (c_way T) hr (by decide) rfl (pa_cons (pv 0) (pa_cons (pv 2) pa_nil)))))))), ?_⟩
    refine ⟨_, rfl, t, rfl, ht, _, rfl, row, rfl, hrow, fun H1 e1 => ?_⟩
    refine ⟨⟨_, rfl⟩, _, rfl, sx row, rfl, fun D hD => ?_⟩
    refine lc_sameY walk_str hD (fun _ v c => v = .str (sx [c])) (fun i => (row.take i).map (wayN t)) rfl (fun _ _ _ _ _ h => h) (fun _ _ _ _ _ _ h => h) (fun _ _ => trivial) (fun i _ => ?_) ?_ ?_ gm_name
    · rw [List.length_map, List.length_take]
      omega
    · rintro i x H2 H3 hi e2 ⟨rfl, c, hc, rfl⟩ k1 hk1
      have hc' := sx_get hc
      refine ⟨rfl, ?_⟩
      refine ⟨_, rfl, _, rfl, t, c, rfl, ht, hrow c (List.mem_of_getElem? hc'), ?_⟩
      refine hk1 _ _ (wayN t c) (Same.refl _) ?_ rfl
      show (row.take (i + 1)).map (wayN t) = _
      rw [take_snoc hc', List.map_append]
      rfl
    · intro H2 l e2 hl hp
      have hn : (sx row).cps.size = row.length := by simp [sx]
      have hp' : Paired (fun v c => v = V.str (sx [c])) l ((row.take (sx row).cps.size).map (wayN t)) := hp
      rw [hn, List.take_length] at hp'
      have el := paired_eq hp'
      refine ⟨("" : Str), D, (row.map (wayN t)).map fun c => sx [c], rfl, rfl, .inl ?_, ?_, ?_⟩
      · rw [List.map_map]
        exact SqL.of (by rw [hl, el]; rfl)
      · rw [sum_signs, s_e, sx_len, List.length_map]
        simp only [List.length_nil, Nat.mul_zero]
        omega
      · rw [s_e, join_signs]
        exact k _ (e1.trans e2)
def spThen : Sp := fun vs H Q _ => ∃ (a b : List Nat), vs = [.str (sx a), .str (sx b)] ∧ a ∈ turnsL ∧ b ∈ turnsL ∧ ∀ H', Same H H' → Q (.str (sx (thenL a b))) H'
theorem sc_then : FnScope ["one", "other"] ["one", "other"] (defScope (topS 22)) := ⟨rfl, rfl, rfl, by decide +kernel, rfl, by decide +kernel, by decide +kernel⟩
theorem c_then (T : Txt K mg CF CW) : Cal P w K mg base 5 "then" spThen := by
  refine cal_mk T.then_ sc_then (fun _ _ _ _ _ _ us hl => match us, hl with | [_, _], _ => rfl) (fun vs H Q E h => ?_) (fun f cdv A outer s H vs Q E hr h => ?_)
  · obtain ⟨t, row, rfl, _⟩ := h
    rfl
  · obtain ⟨a, b, rfl, ha, hb, k⟩ := h
    refine ⟨_, pss_cons (ps_expr (pe_c (c_want_turn T) hr (by decide) rfl (pa_cons (pv 0) pa_nil))) (pss_cons (ps_expr (pe_c (c_want_turn T) hr (by decide) rfl (pa_cons (pv 1) pa_nil)))
      (pss_one (ps_ret (pe_c (c_row_turned T) hr (by decide) rfl (pa_cons (pv 1) (pa_cons (pv 0) pa_nil)))))), ?_⟩
    refine ⟨_, rfl, a, rfl, ha, _, rfl, b, rfl, hb, ?_⟩
    exact ⟨_, rfl, _, rfl, b, a, rfl, hb, turn_deeds a ha, by rw [turn_len a ha]; decide, k⟩
def spText : Sp := fun vs H Q _ => ∃ l : List Nat, vs = [.str (sx l)] ∧ 1 ≤ l.length ∧ l.length ≤ 6 ∧ (∀ c ∈ l, c ∈ signs) ∧ ∀ H', Same H H' → Q (.bl true) H'
theorem sc_is_text : FnScope ["thing", "sign"] ["thing"] (defScope (topS 32)) := ⟨rfl, rfl, rfl, by decide +kernel, rfl, by decide +kernel, by decide +kernel⟩
theorem all_true {α : Type} {l : List α} {f : α → Bool} (h : ∀ x ∈ l, f x = true) : (l.map f).all id = true := by
  rw [List.all_map, List.all_eq_true]
  exact h
theorem c_is_text (T : Txt K mg CF CW) : Cal P w K mg base 1 "is_text" spText := by
  refine cal_mk T.is_text sc_is_text (fun _ _ _ _ _ _ us hl => match us, hl with | [_], _ => rfl) (fun vs H Q E h => ?_) (fun f cdv A outer s H vs Q E hr h => ?_)
  · obtain ⟨t, rfl, _⟩ := h
    rfl
  · obtain ⟨l, rfl, h1, h6, hs, k⟩ := h
    refine ⟨_, pss_cons (ps_if (PW.pt (pw_or (pt_not (pt_val (pe_callB call_isi rfl T.isi bt_isi (pa_cons (pv 0) (pa_cons (pe_bty T.str bt_str rfl) pa_nil)))))
        (pw_or1 (pt_not (pt_chain op_le op_le pe_int (pe_callB call_len rfl T.len bt_len (pa_cons (pv 0) pa_nil)) (pe_gc T.MOST rfl)))))) pss_never pss_nil)
      (pss_one (ps_ret (pe_callB (cr_all rfl) rfl T.all bt_all (pa_cons (pe_lc (own := [("sign", 1)]) (g := gName 1) (tt := tYes) rfl sc_is_text.nd (pi_str (pv 0)) (blkOk_by (own := [("sign", 1)]) (N := ["thing", "sign"]) (sc := defScope (topS 32)) (by decide +kernel))
        (fun _ _ _ _ _ => pg_name (i := 1) sc_is_text.nd rfl (Or.inl rfl)) (fun _ _ _ _ _ => pts_nil) (fun _ _ _ _ _ => pe_cmpR op_in_sign (pv 1) (pe_gc T.SIGNS rfl) rfl)) pa_nil)))), ?_⟩
    refine ⟨_, rfl, _, _, _, _, true, rfl, .ty _, .base (.str _), kit_ty (by decide +kernel), true, rfl, iteF ?_⟩
    refine ⟨_, rfl, _, l.length, rfl, ⟨by rw [sx_len]; exact sz_ok (by omega), (sx_len l).symm⟩, _, _, rfl, rfl, _, rfl, ?_⟩
    have g1 : decide ((1 : Int) ≤ (l.length : Int)) = true := decide_eq_true (by omega)
    have g2 : decide ((l.length : Int) ≤ 6) = true := decide_eq_true (by omega)
    rw [g1]
    refine iteT ⟨_, _, rfl, rfl, true, ?_, ?_⟩
    · exact congrArg V.bl g2
    refine iteF ?_
    refine ⟨_, rfl, sx l, rfl, fun D hD => ?_⟩
    refine lc_sameY walk_str hD (fun _ v b => v = .bl b) (fun i => (l.take i).map fun c => decide (c ∈ signs)) rfl (fun _ _ _ _ _ h => h) (fun _ _ _ _ _ _ h => h) (fun _ _ => trivial) (fun i _ => ?_) ?_ ?_ gm_name
    · rw [List.length_map, List.length_take]
      omega
    · rintro i x H2 H3 hi e2 ⟨rfl, c, hc, rfl⟩ k1 hk1
      have hc' := sx_get hc
      refine ⟨rfl, ?_⟩
      refine ⟨_, rfl, c, sx signs, rfl, rfl, ?_⟩
      refine hk1 _ _ (decide (c ∈ signs)) (Same.refl _) ?_ rfl
      show (l.take (i + 1)).map _ = _
      rw [take_snoc hc', List.map_append]
      rfl
    · intro H2 bs e2 hl hp
      have hn : (sx l).cps.size = l.length := by simp [sx]
      have hp' : Paired (fun v b => v = V.bl b) bs ((l.take (sx l).cps.size).map fun c => decide (c ∈ signs)) := hp
      rw [hn, List.take_length] at hp'
      have el := paired_eq hp'
      refine ⟨D, l.map fun c => decide (c ∈ signs), rfl, SqL.of (by rw [hl, el]), ?_⟩
      rw [all_true fun c hc => decide_eq_true (hs c hc)]
      exact k _ e2
def spWantRows (K : PySem.W.Frag) : Sp := fun vs H Q _ => ∃ (v : V) (ts : Tx), vs = [v] ∧ TsAt K H v ts ∧ TsOk ts ∧ ∀ H', Same H H' → Q .non H'
theorem sc_want_rows : FnScope ["thing", "at", "text"] ["thing"] (defScope (topS 33)) := ⟨rfl, rfl, rfl, by decide +kernel, rfl, by decide +kernel, by decide +kernel⟩
theorem ts_head {ts : Tx} (h : 1 ≤ ts.length) : ∃ t, ts[0]? = some t ∧ t.length = cols ts := by
  cases ts with
  | nil => simp at h
  | cons t r => exact ⟨t, rfl, rfl⟩
theorem c_want_rows (T : Txt K mg CF CW) : Cal P w K mg base 2 "want_rows" (spWantRows K) := by
  refine cal_mk T.want_rows sc_want_rows (fun _ _ _ _ _ _ us hl => match us, hl with | [_], _ => rfl) (fun vs H Q E h => ?_) (fun f cdv A outer s H vs Q E hr h => ?_)
  · obtain ⟨t, _, rfl, _⟩ := h
    rfl
  · obtain ⟨v, ts, rfl, ⟨a, rfl, hL⟩, ok, k⟩ := h
    refine ⟨_, pss_cons (ps_if (PW.pt (pw_or (pt_not (pt_val (pe_callB call_isi rfl T.isi bt_isi (pa_cons (pv 0) (pa_cons (pe_bty T.list bt_list rfl) pa_nil)))))
        (pw_or1 (pt_not (pt_chain op_le op_le pe_int (pe_callB call_len rfl T.len bt_len (pa_cons (pv 0) pa_nil)) (pe_gc T.MOST rfl)))))) pss_never pss_nil)
      (pss_one (ps_for PassesOwn.never rfl (pi_enum rfl T.enum (pa_cons (pv 0) pa_nil)) (pg_tup rfl (pgs_cons (pg_name (i := 1) sc_want_rows.nd rfl (.inl rfl)) (pgs_cons (pg_name (i := 2) sc_want_rows.nd rfl (.inl rfl)) pgs_nil)))
        (pss_one (ps_if (PW.pt (pw_or (pt_not (pt_val (pe_c (c_is_text T) hr (by decide) rfl (pa_cons (pv 2) pa_nil)))) (pw_or1 (pt_cmpR op_ne (pe_callB call_len rfl T.len bt_len (pa_cons (pv 2) pa_nil))
          (pe_callB call_len rfl T.len bt_len (pa_cons (pe_ix ix_list (pv 0) pe_int (fun _ _ => rfl)) pa_nil)) (nomark _))))) pss_never pss_nil)))), ?_⟩
    refine ⟨_, rfl, _, _, _, _, true, rfl, .ty _, ty_list hL, kit_ty (by decide +kernel), true, rfl, iteF ?_⟩
    refine ⟨_, rfl, _, ts.length, rfl, .inl ⟨_, hL, by rw [List.length_map]⟩, _, _, rfl, rfl, _, rfl, ?_⟩
    have g1 : decide ((1 : Int) ≤ (ts.length : Int)) = true := decide_eq_true (by have := ok.l1; omega)
    have g2 : decide ((ts.length : Int) ≤ 6) = true := decide_eq_true (by have := ok.l6; omega)
    rw [g1]
    refine iteT ⟨_, _, rfl, rfl, true, ?_, ?_⟩
    · exact congrArg V.bl g2
    refine iteF ?_
    refine ⟨_, rfl, a, _, rfl, hL, ?_⟩
    refine for_it (walk_enum (xs := ts.map fun t => V.str (sx t))) (fun i σ H' => (∃ x y, σ = [some (.ref a), x, y]) ∧ Same H H') ⟨⟨_, _, rfl⟩, Same.refl H⟩ (fun _ _ H' _ p => p.2.seq hL) ?_ ?_
    · rintro i x σ H1 H2 hi ⟨⟨y1, y2, rfl⟩, e1⟩ ⟨t, x1, x2, rfl, hn, rfl, q1, q2⟩
      have q1' := Option.some.inj q1
      subst q1'
      obtain ⟨r, hr0, rfl⟩ : ∃ r, ts[i]? = some r ∧ x2 = V.str (sx r) := by
        have q3 : (ts.map fun t => V.str (sx t))[i]? = some x2 := q2
        rw [List.getElem?_map] at q3
        cases e : ts[i]? with
        | none =>
          rw [e] at q3
          cases q3
        | some r =>
          rw [e] at q3
          exact ⟨r, rfl, (Option.some.inj q3).symm⟩
      have hm : r ∈ ts := List.mem_of_getElem? hr0
      have hl := ok.each r hm
      have h1 := ok.c1
      have h6 := ok.c6
      obtain ⟨r0, hr1, hl0⟩ := ts_head ok.l1
      refine ⟨t, _, rfl, .inl (.inl upd_same), rfl, _, _, rfl, _, _, rfl, rfl, ?_⟩
      refine ⟨_, rfl, r, rfl, by omega, by omega, ok.sg r hm, fun H3 e3 => ?_⟩
      have e4 : Same H H3 := (e1.trans (same_new hn)).trans e3
      refine ⟨true, rfl, iteF ?_⟩
      refine ⟨_, rfl, _, cols ts, rfl, ⟨by rw [sx_len]; exact sz_ok (by omega), by rw [sx_len, hl]⟩, ?_⟩
      refine ⟨_, rfl, a, _, 0, .str (sx r0), rfl, rfl, e4.seq hL, atI_nat (j := 0) (by rw [List.getElem?_map, hr1]; rfl), ?_⟩
      refine ⟨_, cols ts, rfl, ⟨by rw [sx_len]; exact sz_ok (by omega), by rw [sx_len, hl0]⟩, rfl, _, rfl, ?_⟩
      exact iteNS rfl ⟨⟨_, _, rfl⟩, e4⟩
    · rintro σ H1 ⟨_, e1⟩
      exact k _ e1
def spNext (K : PySem.W.Frag) : Sp := fun vs H Q _ => ∃ (v : V) (p : Pl) (c : Nat), vs = [v, .str (sx [c])] ∧ PlAt K H v p ∧ c ∈ DL ∧ ∀ v' H', Same H H' → PlAt K H' v' (nxt p c) → Q v' H'
theorem sc_next_to : FnScope ["place", "way", "down", "along"] ["place", "way"] (defScope (topS 34)) := ⟨rfl, rfl, rfl, by decide +kernel, rfl, by decide +kernel, by decide +kernel⟩
theorem c_next_to (T : Txt K mg CF CW) : Cal P w K mg base 1 "next_to" (spNext K) := by
  refine cal_mk T.next_to sc_next_to (fun _ _ _ _ _ _ us hl => match us, hl with | [_, _], _ => rfl) (fun vs H Q E h => ?_) (fun f cdv A outer s H vs Q E hr h => ?_)
  · obtain ⟨t, _, _, rfl, _⟩ := h
    rfl
  · obtain ⟨v, p, c, rfl, ⟨t, rfl, ht⟩, hc, k⟩ := h
    obtain ⟨a, a0, a1, a2, a3, ha, hA, h0, h1, h2, h3⟩ := T.STEPS
    refine ⟨_, pss_cons (ps_asg (pe_ix ix_tup (pe_gc ha rfl) (pe_m1 PySem.F.slot_str_index PySem.F.type_str_index mt_sindex (pe_gc T.DEEDS rfl) (pv 1)) (fun _ _ => rfl))
        (pg_tup rfl (pgs_cons (pg_name (i := 2) sc_next_to.nd rfl (.inl rfl)) (pgs_cons (pg_name (i := 3) sc_next_to.nd rfl (.inl rfl)) pgs_nil))))
      (pss_one (ps_ret (pe_tup (pa_cons (pe_op op_add (pe_ix ix_tup (pv 0) pe_int (fun _ _ => rfl)) (pv 2)) (pa_cons (pe_op op_add (pe_ix ix_tup (pv 0) pe_int (fun _ _ => rfl)) (pv 3)) pa_nil))))), ?_⟩
    obtain ⟨rest, ho⟩ := occ_deed c hc
    refine ⟨⟨_, rfl⟩, _, rfl, _, _, _, rest, rfl, rfl, ho, ?_⟩
    obtain ⟨b, hb, hB⟩ : ∃ b, ([.ref a0, .ref a1, .ref a2, .ref a3] : List V)[ixd c]? = some (.ref b) ∧ SqT K H b [.int (dirY c), .int (dirX c)] := by
      have h : c = 117 ∨ c = 114 ∨ c = 100 ∨ c = 108 := by simpa [DL] using hc
      rcases h with rfl | rfl | rfl | rfl
      · exact ⟨a0, rfl, h0 H⟩
      · exact ⟨a1, rfl, h1 H⟩
      · exact ⟨a2, rfl, h2 H⟩
      · exact ⟨a3, rfl, h3 H⟩
    refine ⟨a, _, _, _, rfl, rfl, hA H, atI_nat hb, ?_⟩
    refine ⟨b, _, rfl, hB, rfl, _, _, rfl, _, _, rfl, rfl, ?_⟩
    refine ⟨_, rfl, t, _, 0, _, rfl, rfl, ht, atI_nat (j := 0) rfl, _, rfl, _, _, rfl, rfl, ?_⟩
    refine ⟨_, rfl, t, _, 1, _, rfl, rfl, ht, atI_nat (j := 1) rfl, _, rfl, _, _, rfl, rfl, ?_⟩
    refine ⟨by show 2 ≤ sizeLine; decide, fun q hq => ?_⟩
    exact k _ _ (same_new hq) ⟨q, rfl, SqT.of upd_same⟩
end
end Oh
namespace Oh
open PySem PySem.Spec PyProof.Rows L2
def lcScope : Expr → Scope
  | .ListComp _ _ sc _ => sc
  | .DictComp _ _ _ sc _ => sc
  | _ => { kind := .function, names := [], isGenerator := false, isCoroutine := false }
def retE : List Stmt → Expr
  | [.Return (some e) _] => e
  | _ :: r => retE r
  | _ => .Constant .none 0 ⟨0, 0, 0, 0⟩
def arg0 : Expr → Expr
  | .Call _ (a :: _) _ _ => a
  | e => e
theorem sqT_upd {K : PySem.W.Frag} {H : Hp} {D t : Addr} {l l' xs : List V} (h : H D = some (.lst l)) (q : SqT K H t xs) : SqT K (upd H D (.lst l')) t xs := by
  rcases q with (q | ⟨o, q⟩) | q
  · exact .inl (.inl (by rw [upd_ne (ne_of q h (by intro z; cases z))]; exact q))
  · exact .inl (.inr ⟨o, by rw [upd_ne (ne_of q h (by intro z; cases z))]; exact q⟩)
  · exact .inr q
theorem pl_upd {K : PySem.W.Frag} {H : Hp} {D : Addr} {l l' : List V} {v : V} {p : Pl} (h : H D = some (.lst l)) (q : PlAt K H v p) : PlAt K (upd H D (.lst l')) v p := by
  obtain ⟨t, e, q⟩ := q
  exact ⟨t, e, sqT_upd h q⟩
theorem dec_sign {a b : Nat} : decide (V.str (sx [a]) = V.str (sx [b])) = decide (a = b) :=
  decide_eq_decide.mpr ⟨fun h => by
    injection h with h
    have := sx_inj h
    injection this, fun h => by rw [h]⟩
theorem filter_yes {α : Type} {l : List α} {i : Nat} {c : α} (p : α → Bool) (hc : l[i]? = some c) (h : p c = true) : (l.take (i + 1)).filter p = (l.take i).filter p ++ [c] := by
  rw [take_snoc hc, List.filter_append, List.filter_cons_of_pos h]
  rfl
theorem filter_no {α : Type} {l : List α} {i : Nat} {c : α} (p : α → Bool) (hc : l[i]? = some c) (h : ¬ p c = true) : (l.take (i + 1)).filter p = (l.take i).filter p := by
  rw [take_snoc hc, List.filter_append, List.filter_cons_of_neg h]
  simp
theorem cr_anyK {X : Cx} {K : PySem.W.Frag} (h : X.K = K) (hc : X.calm = true) : CallR X (.builtin "any") (rAny K) := by subst h; exact cr_any hc
theorem pi_tupK {X : Cx} {K : PySem.W.Frag} {tg l : Expr} {tl : TE} (h : X.K = K) (hl : PE X l tl) : PI X tg l (iTup K tl) := by subst h; exact pi_tup hl
theorem pe_fldK {X : Cx} {K : PySem.W.Frag} {e : Expr} {f : Str} {pos : Pos} {ta : TE} (h : X.K = K) (he : PE X e ta) (hb : attributeBase e f X.env (eval e X.env) = eval e X.env) : PE X (.Attribute e f pos) (tFld K ta f) := by subst h; exact pe_fld he hb
/-- a class that may be made by its name -/
structure Mak (P : Program) (w : World) (K : PySem.W.Frag) (mg : Str → Option Value) (base : Heap) (k : Nat) (x : Str) (C : Addr) (sp : Sp) : Prop where
  ex : ∃ (f : Addr) (fd : FuncData) (ps : List Str), Mk K C f ∧ FnOk P w K mg base CX0 k f fd ps sp ∧ mg x = some (.ref C) ∧ Binds K fd ps []
theorem pe_mk {X : Cx} {k j : Nat} {C : Addr} {x : Str} {sp : Sp} {p pos : Pos} {e : Expr} {es : List Expr} {t : TA} (c : Mak X.prog X.w X.K X.mg X.base k x C sp) (hr : Room j X.A) (hk : k + 1 ≤ j) (hg : Gl X x) (ha : PA X (e :: es) t)
    (hdb : (x == ("__debug__" : Str)) = false := by decide) (he : starEach (e :: es) X.env = (false, eval e X.env) :: starEach es X.env := by rfl) (hpl : (backTo pos (starEach es X.env)).any (·.1) = false := by rfl) :
    PE X (.Call (.Name x p) (e :: es) [] pos) (tMake C sp [] E0 t) := by
  obtain ⟨f, fd, ps, M, F, hm, b⟩ := c.ex
  exact pe_make M F (hr.mono hk) hg hm b .nil pass0 ha hdb he hpl
section
variable {P : Program} {w : World} {K : PySem.W.Frag} {mg : Str → Option Value} {base : Heap} {CF CW : Addr}
def spFInit (K : PySem.W.Frag) (CF : Addr) : Sp := fun vs H Q _ => ∃ (x dx : Addr) (v : V) (ts : Tx), vs = [.ref x, v] ∧ H x = some (.ins CF dx []) ∧ TsAt K H v ts ∧ TsOk ts ∧ ∀ H', (∀ b o, H b = some o → b ≠ x → H' b = some o) → FlAt K CF H' x ts → Q .non H'
theorem sc_finit : FnScope ["self", "rows"] ["self", "rows"] (defScope (inClass (topS 35) 0)) := ⟨rfl, rfl, rfl, by decide +kernel, rfl, by decide +kernel, by decide +kernel⟩
theorem c_finit (T : Txt K mg CF CW) : Mak P w K mg base 3 "Floor" CF (spFInit K CF) := by
  obtain ⟨f, fd, M, hm, F⟩ := T.mkF
  refine ⟨f, fd, ["self", "rows"], M, F.ok sc_finit (fun vs H Q E h => ?_) (fun cdv A outer s H vs Q E hr h => ?_), hm, F.bindsN fun _ _ _ _ _ _ us hl => match us, hl with | [_, _], _ => rfl⟩
  · obtain ⟨_, _, _, _, rfl, _⟩ := h
    rfl
  · obtain ⟨x, dx, v, ts, rfl, hx, ⟨l, rfl, hL⟩, ok, k⟩ := h
    refine ⟨_, PSs.nox (pss_cons (ps_expr (pe_c (c_want_rows T) hr (by decide) rfl (pa_cons (pv 1) pa_nil))) (pss_one (ps_fld (pv 0) (pe_callTy call_tuple_of rfl T.tuple bt_tuple (pa_cons (pv 1) pa_nil)) rfl))), ?_⟩
    refine ⟨_, rfl, _, ts, rfl, ⟨l, rfl, hL⟩, ok, fun H1 e1 => ?_⟩
    refine ⟨_, rfl, l, _, rfl, .inl ⟨e1.seq hL, fun t ht => ?_⟩⟩
    have hx1 : H1 x = some (.ins CF dx []) := e1 _ _ hx
    have nxt : x ≠ t := ne_of_none hx1 ht
    refine ⟨_, rfl, x, CF, dx, [], rfl, by rw [upd_ne nxt]; exact hx1, T.clF, T.nTexts, by show 0 < 1000; decide, ?_⟩
    refine k _ (fun b o hb hne => ?_) ⟨dx, _, t, upd_same, by rw [lookup_putF, if_pos rfl], fun m hm => by rw [lookup_putF, if_neg hm]; rfl, SqT.of (by rw [upd_ne (Ne.symm nxt)]; exact upd_same)⟩
    rw [upd_ne hne, upd_ne (ne_of_none (e1 _ _ hb) ht)]
    exact e1 _ _ hb
def spSize (K : PySem.W.Frag) (CF : Addr) : Sp := fun vs H Q _ => ∃ (f : Addr) (ts : Tx), vs = [.ref f] ∧ FlAt K CF H f ts ∧ TsOk ts ∧ ∀ t H', Same H H' → SqT K H' t [.int (ts.length : Int), .int (cols ts : Int)] → Q (.ref t) H'
theorem sc_size : FnScope ["self"] ["self"] (defScope (inClass (topS 35) 4)) := ⟨rfl, rfl, rfl, by decide +kernel, rfl, by decide +kernel, by decide +kernel⟩
theorem c_size (T : Txt K mg CF CW) : Met P w K mg base 1 CF "size" (spSize K CF) := by
  refine met_mk T.f_size T.clF sc_size (fun _ _ _ _ _ _ us hl => match us, hl with | [_], _ => rfl) (fun vs H Q E h => ?_) (fun f cdv A outer s H vs Q E hr h => ?_)
  · obtain ⟨t, _, rfl, _⟩ := h
    rfl
  · obtain ⟨f, ts, rfl, ⟨dx, fs, a, hf, hl, hm, ht⟩, ok, k⟩ := h
    refine ⟨_, pss_one (ps_ret (pe_tup (pa_cons (pe_callB call_len rfl T.len bt_len (pa_cons (pe_fld (pv 0) rfl) pa_nil)) (pa_cons (pe_callB call_len rfl T.len bt_len (pa_cons (pe_ix ix_tup (pe_fld (pv 0) rfl) pe_int (fun _ _ => rfl)) pa_nil)) pa_nil)))), ?_⟩
    obtain ⟨r0, hr1, hl0⟩ := ts_head ok.l1
    have h6 := ok.c6
    refine ⟨_, rfl, f, CF, dx, _, _, rfl, hf, T.clF, T.nTexts, hl, _, ts.length, rfl, .inr ⟨_, ht, by rw [List.length_map]⟩, ?_⟩
    refine ⟨_, rfl, f, CF, dx, _, _, rfl, hf, T.clF, T.nTexts, hl, a, _, 0, .str (sx r0), rfl, rfl, ht, atI_nat (j := 0) (by rw [List.getElem?_map, hr1]; rfl), ?_⟩
    refine ⟨_, cols ts, rfl, ⟨by rw [sx_len]; exact sz_ok (by omega), by rw [sx_len, hl0]⟩, ?_⟩
    refine ⟨by show 2 ≤ sizeLine; decide, fun p hp => ?_⟩
    exact k _ _ (same_new hp) (SqT.of upd_same)
def spHas (K : PySem.W.Frag) (CF : Addr) : Sp := fun vs H Q _ => ∃ (f : Addr) (ts : Tx) (v : V) (p : Pl), vs = [.ref f, v] ∧ FlAt K CF H f ts ∧ TsOk ts ∧ PlAt K H v p ∧ ∀ H', Same H H' → Q (.bl (has ts p)) H'
theorem sc_has : FnScope ["self", "thing", "rows", "columns"] ["self", "thing"] (defScope (inClass (topS 35) 5)) := ⟨rfl, rfl, rfl, by decide +kernel, rfl, by decide +kernel, by decide +kernel⟩
theorem c_has (T : Txt K mg CF CW) : Met P w K mg base 4 CF "has" (spHas K CF) := by
  refine met_mk T.f_has T.clF sc_has (fun _ _ _ _ _ _ us hl => match us, hl with | [_, _], _ => rfl) (fun vs H Q E h => ?_) (fun f cdv A outer s H vs Q E hr h => ?_)
  · obtain ⟨t, _, _, _, rfl, _⟩ := h
    rfl
  · obtain ⟨f, ts, v, p, rfl, hF, ok, hv, k⟩ := h
    refine ⟨_, pss_cons (ps_asg (pe_mt0 (c_size T) hr (by decide) (pv 0)) (pg_tup rfl (pgs_cons (pg_name (i := 2) sc_has.nd rfl (.inl rfl)) (pgs_cons (pg_name (i := 3) sc_has.nd rfl (.inl rfl)) pgs_nil))))
      (pss_one (ps_ret (pe_c (c_is_place T) hr (by decide) rfl (pa_cons (pv 1) (pa_cons (pv 2) (pa_cons (pv 3) pa_nil)))))), ?_⟩
    obtain ⟨dx, fs, a, hf, hl, hm, ht⟩ := id hF
    refine ⟨_, rfl, f, dx, fs, rfl, hf, hm _ (by decide +kernel), f, ts, rfl, hF, ok, fun t H1 e1 q1 => ?_⟩
    refine ⟨t, _, rfl, q1, rfl, _, _, rfl, _, _, rfl, rfl, ?_⟩
    exact ⟨_, rfl, _, rfl, _, rfl, v, p, _, _, rfl, hv.mono e1, k _ e1⟩
def spSeen (K : PySem.W.Frag) (CF : Addr) : Sp := fun vs H Q _ => ∃ (f : Addr) (ts : Tx) (v : V) (p : Pl), vs = [.ref f, v] ∧ FlAt K CF H f ts ∧ TsOk ts ∧ PlAt K H v p ∧ ∀ H', Same H H' → Q (.str (sx [seen ts p])) H'
theorem sc_seen : FnScope ["self", "place"] ["self", "place"] (defScope (inClass (topS 35) 6)) := ⟨rfl, rfl, rfl, by decide +kernel, rfl, by decide +kernel, by decide +kernel⟩
theorem has_sign {ts : Tx} (T : TsOk ts) {p : Pl} (h : has ts p = true) : ∃ t, ts[p.1.toNat]? = some t ∧ t ∈ ts ∧ t[p.2.toNat]? = some (seen ts p) ∧ p.1 = (p.1.toNat : Int) ∧ p.2 = (p.2.toNat : Int) := by
  obtain ⟨⟨a, b⟩, c, d⟩ := has_iff.mp h
  have h1 : p.1.toNat < ts.length := by omega
  have hm : ts[p.1.toNat] ∈ ts := List.getElem_mem h1
  have h2 : p.2.toNat < ts[p.1.toNat].length := by
    rw [T.each _ hm]
    omega
  refine ⟨ts[p.1.toNat], List.getElem?_eq_getElem h1, hm, ?_, by omega, by omega⟩
  unfold seen
  rw [if_pos h]
  have e1 : ts.getD p.1.toNat [] = ts[p.1.toNat] := by
    rw [List.getD_eq_getElem?_getD, List.getElem?_eq_getElem h1]
    rfl
  rw [e1, List.getD_eq_getElem?_getD, List.getElem?_eq_getElem h2]
  rfl
theorem c_seen (T : Txt K mg CF CW) : Met P w K mg base 5 CF "seen" (spSeen K CF) := by
  refine met_mk T.f_seen T.clF sc_seen (fun _ _ _ _ _ _ us hl => match us, hl with | [_, _], _ => rfl) (fun vs H Q E h => ?_) (fun f cdv A outer s H vs Q E hr h => ?_)
  · obtain ⟨t, _, _, _, rfl, _⟩ := h
    rfl
  · obtain ⟨f, ts, v, p, rfl, hF, ok, hv, k⟩ := h
    refine ⟨_, pss_cons (ps_if (pt_not (pt_val (pe_mt (c_has T) hr (by decide) (pv 0) (pa_cons (pv 1) pa_nil)))) (pss_one (ps_ret (pe_gc T.WALL rfl))) pss_nil)
      (pss_one (ps_ret (pe_ix ix_str (pe_ix ix_tup (pe_fld (pv 0) rfl) (pe_ix ix_tup (pv 1) pe_int (fun _ _ => rfl)) (fun _ _ => rfl)) (pe_ix ix_tup (pv 1) pe_int (fun _ _ => rfl)) (fun _ _ => rfl)))), ?_⟩
    obtain ⟨dx, fs, a, hf, hl, hm, ht⟩ := id hF
    refine ⟨_, rfl, f, dx, fs, rfl, hf, hm _ (by decide +kernel), _, rfl, f, ts, v, p, rfl, hF, ok, hv, fun H1 e1 => ?_⟩
    refine ⟨has ts p, rfl, ?_⟩
    by_cases hh : has ts p = true
    · rw [hh]
      refine iteF ?_
      obtain ⟨t, h1, h2, h3, h4, h5⟩ := has_sign ok hh
      have hv1 := hv.mono e1
      obtain ⟨q, rfl, hq⟩ := hv1
      have hlen := ok.each t h2
      have h6 := ok.c6
      refine ⟨_, rfl, f, CF, dx, _, _, rfl, e1 _ _ hf, T.clF, T.nTexts, hl, ?_⟩
      refine ⟨_, rfl, q, _, 0, _, rfl, rfl, hq, atI_nat (j := 0) rfl, ?_⟩
      refine ⟨a, _, p.1, .str (sx t), rfl, rfl, same_tup e1 ht, by rw [h4]; exact atI_nat (by rw [List.getElem?_map, h1]; rfl), ?_⟩
      refine ⟨_, rfl, q, _, 1, _, rfl, rfl, hq, atI_nat (j := 1) rfl, ?_⟩
      refine ⟨_, p.2, seen ts p, rfl, rfl, by rw [sx_len]; exact sz_ok (by omega), by rw [h5]; exact atI_nat h3, ?_⟩
      exact k _ e1
    · rw [Bool.eq_false_iff.mpr hh]
      refine iteT ?_
      have e : seen ts p = 35 := by
        unfold seen
        rw [if_neg hh]
      have q := k _ e1
      rw [e] at q
      exact q
def letL (ts : Tx) : List Nat := lets.filter fun c => ts.any fun t => decide (c ∈ t)
def spLetters (K : PySem.W.Frag) (CF : Addr) : Sp := fun vs H Q _ => ∃ (f : Addr) (ts : Tx), vs = [.ref f] ∧ FlAt K CF H f ts ∧ TsOk ts ∧ ∀ H', Same H H' → Q (.str (sx (letL ts))) H'
abbrev sLetters : Stmt := inClass (topS 35) 8
theorem sc_letters : FnScope ["self", "letter", "text"] ["self"] (defScope sLetters) := ⟨rfl, rfl, rfl, by decide +kernel, rfl, by decide +kernel, by decide +kernel⟩
theorem any_map {α : Type} {l : List α} {f : α → Bool} : (l.map f).any id = l.any f := by
  rw [List.any_map]
  rfl
theorem c_letters (T : Txt K mg CF CW) : Met P w K mg base 1 CF "letters" (spLetters K CF) := by
  refine met_mk T.f_letters T.clF sc_letters (fun _ _ _ _ _ _ us hl => match us, hl with | [_], _ => rfl) (fun vs H Q E h => ?_) (fun f cdv A outer s H vs Q E hr h => ?_)
  · obtain ⟨t, _, rfl, _⟩ := h
    rfl
  · obtain ⟨f, ts, rfl, hF, ok, k⟩ := h
    obtain ⟨dx, fs, a, hf, hl, hm, ht⟩ := id hF
    refine ⟨_, pss_one (ps_ret (pe_join pe_str (pe_lc (own := [("letter", 1)]) (g := gName 1) rfl sc_letters.nd (pi_str (pe_gc T.LETTERS rfl)) (blkOk_by (own := [("letter", 1)]) (N := ["self", "letter", "text"]) (sc := defScope sLetters) (by decide +kernel))
        (fun _ _ _ _ _ => pg_name (i := 1) sc_letters.nd rfl (Or.inr rfl))
        (fun _ _ _ _ _ => pts_one (pt_val (pe_callB (cr_anyK (K := K) rfl rfl) rfl T.any bt_any (pa_cons (pe_lc (own := [("text", 2)]) (g := gName 2) (tt := tYes) rfl sc_letters.nd (pi_tupK (K := K) rfl (pe_fldK (K := K) rfl (pv 0) rfl))
            (blkOk_by (own := [("text", 2)]) (N := ["self", "letter", "text"]) (sc := relS (lcScope (arg0 (retE (defBody sLetters)))) (defScope sLetters)) (by decide +kernel))
            (fun _ _ _ _ _ => pg_name (i := 2) sc_letters.nd rfl (Or.inl rfl)) (fun _ _ _ _ _ => pts_nil) (fun _ _ _ _ _ => pe_cmpR op_in_sign (pv 1) (pv 2) rfl)) pa_nil))))
        (fun _ _ _ _ _ => pv 1)))), ?_⟩
    refine ⟨⟨_, rfl⟩, sx lets, rfl, fun D hD => ?_⟩
    refine lc_same walk_str hD (fun _ v c => v = .str (sx [c])) (fun i => (lets.take i).filter fun c => ts.any fun t => decide (c ∈ t)) rfl (fun _ _ _ _ _ h => h) (fun _ _ _ _ _ _ h => h) (fun _ _ => trivial) (fun i _ => ?_) ?_ ?_
    · refine Nat.le_trans (List.length_filter_le _ _) ?_
      rw [List.length_take]
      exact Nat.le_trans (Nat.min_le_right _ _) (by decide)
    · rintro i x H2 H3 hi e2 ⟨rfl, c, hc, rfl⟩ k1 k2 hk1 hk2
      have hc' := sx_get hc
      refine ⟨rfl, ?_⟩
      refine ⟨_, rfl, f, CF, dx, _, _, rfl, e2 _ _ hf, T.clF, T.nTexts, hl, a, rfl, ⟨_, same_tup e2 ht⟩, fun D1 hD1 => ?_⟩
      refine lc_sameY (walk_tup (xs := ts.map fun t => V.str (sx t))) hD1 (fun _ v b => v = .bl b) (fun i => (ts.take i).map fun t => decide (c ∈ t)) rfl (fun _ _ _ _ _ h => h) (fun _ _ _ _ _ _ h => h) (fun _ e => same_tup e (same_tup e2 ht)) (fun i _ => ?_) ?_ ?_ gm_name
      · rw [List.length_map, List.length_take]
        have := ok.l6
        omega
      · rintro j y H4 H5 hj e4 ⟨rfl, hy⟩ k3 hk3
        obtain ⟨t, ht', rfl⟩ : ∃ t, ts[j]? = some t ∧ y = V.str (sx t) := by
          have q3 : (ts.map fun t => V.str (sx t))[j]? = some y := hy
          rw [List.getElem?_map] at q3
          cases e : ts[j]? with
          | none =>
            rw [e] at q3
            cases q3
          | some r =>
            rw [e] at q3
            exact ⟨r, rfl, (Option.some.inj q3).symm⟩
        refine ⟨rfl, ?_⟩
        refine ⟨_, rfl, _, rfl, c, sx t, rfl, rfl, ?_⟩
        refine hk3 _ _ (decide (c ∈ t)) (Same.refl _) ?_ rfl
        show (ts.take (j + 1)).map _ = _
        rw [take_snoc ht', List.map_append]
        rfl
      · intro H4 bs e4 hl4 hp
        have hp' : Paired (fun v b => v = V.bl b) bs ((ts.take (ts.map fun t => V.str (sx t)).length).map fun t => decide (c ∈ t)) := hp
        rw [List.length_map, List.take_length] at hp'
        have el := paired_eq hp'
        refine ⟨D1, ts.map fun t => decide (c ∈ t), rfl, SqL.of (by rw [hl4, el]), ?_⟩
        rw [any_map]
        refine ⟨_, rfl, ?_⟩
        by_cases ha : (ts.any fun t => decide (c ∈ t)) = true
        · rw [ha]
          refine iteT ⟨_, rfl, ?_⟩
          exact hk1 _ _ c e4 (filter_yes (fun c => ts.any fun t => decide (c ∈ t)) hc' ha) rfl
        · rw [Bool.eq_false_iff.mpr ha]
          exact iteF (hk2 _ e4 (filter_no (fun c => ts.any fun t => decide (c ∈ t)) hc' ha))
    · intro H2 l e2 hl2 hp
      have hn : (sx lets).cps.size = lets.length := by simp [sx]
      have hp' : Paired (fun v c => v = V.str (sx [c])) l ((lets.take (sx lets).cps.size).filter fun c => ts.any fun t => decide (c ∈ t)) := hp
      rw [hn, List.take_length] at hp'
      have el := paired_eq hp'
      have hlen : (letL ts).length ≤ 4 := Nat.le_trans (List.length_filter_le _ _) (by decide)
      refine ⟨("" : Str), D, (letL ts).map fun c => sx [c], rfl, rfl, .inl ?_, ?_, ?_⟩
      · rw [List.map_map]
        exact SqL.of (by rw [hl2, el]; rfl)
      · rw [sum_signs, s_e, sx_len]
        simp only [List.length_nil, Nat.mul_zero]
        omega
      · rw [s_e, join_signs]
        exact k _ e2
def placesL (r c : Nat) : List Pl := (List.range r).flatMap fun (y : Nat) => (List.range c).map fun (x : Nat) => ((y : Int), (x : Int))
theorem mem_places {r c : Nat} {p : Pl} (h : (0 ≤ p.1 ∧ p.1 ≤ (r : Int) - 1) ∧ 0 ≤ p.2 ∧ p.2 ≤ (c : Int) - 1) : p ∈ placesL r c := by
  unfold placesL
  rw [List.mem_flatMap]
  refine ⟨p.1.toNat, List.mem_range.mpr (by omega), ?_⟩
  rw [List.mem_map]
  refine ⟨p.2.toNat, List.mem_range.mpr (by omega), ?_⟩
  obtain ⟨y, x⟩ := p
  show ((y.toNat : Int), (x.toNat : Int)) = (y, x)
  rw [show (y.toNat : Int) = y by omega, show (x.toNat : Int) = x by omega]
theorem len_row (y n : Nat) : ((List.range n).map fun (x : Nat) => (((y : Nat) : Int), (x : Int))).length = n := by
  rw [List.length_map, List.length_range]
theorem len_rows (n : Nat) : ∀ i : Nat, (placesL i n).length = i * n
  | 0 => by simp [placesL]
  | i + 1 => by
    have ih := len_rows n i
    unfold placesL at ih ⊢
    rw [List.range_succ, List.flatMap_append, List.length_append, ih, Nat.succ_mul, List.flatMap_cons, List.flatMap_nil, List.append_nil, len_row]
def spPlaces (K : PySem.W.Frag) (CF : Addr) : Sp := fun vs H Q _ => ∃ (f : Addr) (ts : Tx), vs = [.ref f] ∧ FlAt K CF H f ts ∧ TsOk ts ∧ ∀ v H', Same H H' → LsAt K (PlAt K) H' v (placesL ts.length (cols ts)) → Q v H'
abbrev sPlaces : Stmt := inClass (topS 35) 9
theorem sc_places : FnScope ["self", "rows", "columns", "row", "column"] ["self"] (defScope sPlaces) := ⟨rfl, rfl, rfl, by decide +kernel, rfl, by decide +kernel, by decide +kernel⟩
theorem c_places (T : Txt K mg CF CW) : Met P w K mg base 2 CF "places" (spPlaces K CF) := by
  refine met_mk T.f_places T.clF sc_places (fun _ _ _ _ _ _ us hl => match us, hl with | [_], _ => rfl) (fun vs H Q E h => ?_) (fun f cdv A outer s H vs Q E hr h => ?_)
  · obtain ⟨t, _, rfl, _⟩ := h
    rfl
  · obtain ⟨f, ts, rfl, hF, ok, k⟩ := h
    refine ⟨_, pss_cons (ps_asg (pe_mt0 (c_size T) hr (by decide) (pv 0)) (pg_tup rfl (pgs_cons (pg_name (i := 1) sc_places.nd rfl (.inl rfl)) (pgs_cons (pg_name (i := 2) sc_places.nd rfl (.inr rfl)) pgs_nil))))
      (pss_one (ps_ret (pe_lc2 (own := [("row", 3), ("column", 4)]) (vs1 := [4]) (g := gName 3) (tt := tYes) (g1 := gName 4) (tt1 := tYes) rfl sc_places.nd (pi_range1 rfl T.range (pa_cons (pv 1) pa_nil)) (blkOk_by (own := [("row", 3), ("column", 4)]) (N := ["self", "rows", "columns", "row", "column"]) (sc := defScope sPlaces) (by decide +kernel)) (by decide)
        (fun _ _ _ _ _ => pg_name (i := 3) sc_places.nd rfl (Or.inl rfl)) (fun _ _ _ _ _ => pts_nil) (fun _ _ _ _ _ => pi_range1 rfl T.range (pa_cons (pv 2) pa_nil))
        (fun _ _ _ _ _ => pg_name (i := 4) sc_places.nd rfl (Or.inl rfl)) (fun _ _ _ _ _ => pts_nil) (fun _ _ _ _ _ => pe_tup (pa_cons (pv 3) (pa_cons (pv 4) pa_nil)))))), ?_⟩
    obtain ⟨dx, fs, a, hf, hl, hm, ht⟩ := id hF
    have l6 := ok.l6
    have c6 := ok.c6
    refine ⟨_, rfl, f, dx, fs, rfl, hf, hm _ (by decide +kernel), f, ts, rfl, hF, ok, fun t H1 e1 q1 => ?_⟩
    refine ⟨t, _, rfl, q1, rfl, _, _, rfl, _, _, rfl, rfl, ?_⟩
    refine ⟨_, rfl, _, rfl, by omega, by omega, fun D hD => ?_⟩
    refine ⟨fun i m H' => m = ts.length - i ∧ i ≤ ts.length ∧ Same H1 H' ∧ ∃ l, H' D = some (.lst l) ∧ Paired (PlAt K H') l (placesL i (cols ts)), ⟨ts.length, by simp, Nat.zero_le _, same_new hD, [], upd_same, .nil⟩, ?_⟩
    rintro i m H2 ⟨rfl, hi, e2, l, hl2, hp⟩
    by_cases hlt : i < ts.length
    · refine .inr ⟨by show i < ((ts.length : Int)).toNat; omega, fun H' => Same H1 H' ∧ ∃ l, H' D = some (.lst l) ∧ Paired (PlAt K H') l (placesL (i + 1) (cols ts)), fun H' p' => ⟨ts.length - (i + 1), by omega, rfl, hlt, p'⟩, ?_⟩
      rintro x H3 ⟨rfl, rfl⟩
      refine ⟨rfl, ?_⟩
      refine ⟨_, rfl, _, rfl, by omega, by omega, ?_⟩
      refine ⟨fun j k H' => k = cols ts - j ∧ j ≤ cols ts ∧ Same H1 H' ∧ ∃ l, H' D = some (.lst l) ∧ Paired (PlAt K H') l (placesL i (cols ts) ++ (List.range j).map fun (x : Nat) => ((i : Int), (x : Int))), ⟨cols ts, by simp, Nat.zero_le _, e2, l, hl2, by simpa using hp⟩, ?_⟩
      rintro j k2 H4 ⟨rfl, hj, e4, l4, hl4, hp4⟩
      by_cases hjl : j < cols ts
      · refine .inr ⟨by show j < ((cols ts : Int)).toNat; omega, fun H' => Same H1 H' ∧ ∃ l, H' D = some (.lst l) ∧ Paired (PlAt K H') l (placesL i (cols ts) ++ (List.range (j + 1)).map fun (x : Nat) => ((i : Int), (x : Int))), fun H' p' => ⟨cols ts - (j + 1), by omega, rfl, hjl, p'⟩, ?_⟩
        rintro y H5 ⟨rfl, rfl⟩
        refine ⟨rfl, ?_⟩
        refine ⟨_, rfl, _, rfl, by show 2 ≤ sizeLine; decide, fun q hq => ?_⟩
        have e5 : Same H5 (upd H5 q (.tup [.int ((0 : Int) + (i : Nat)), .int ((0 : Int) + (j : Nat))])) := same_new hq
        have h5 := e5 _ _ hl4
        have hlen : l4.length ≤ 36 := by
          rw [paired_len hp4, List.length_append, List.length_map, List.length_range, len_rows]
          have := Nat.mul_le_mul (show i ≤ 5 by omega) c6
          omega
        refine ⟨l4, h5, Nat.lt_of_le_of_lt hlen (by decide), same_mut (e4.trans e5) hD, _, upd_same, ?_⟩
        rw [List.range_succ, List.map_append, ← List.append_assoc]
        refine paired_snoc (Paired.mapP hp4 fun v p z => pl_upd h5 (z.mono e5)) (pl_upd h5 ⟨q, rfl, SqT.of ?_⟩)
        rw [upd_same, Int.zero_add, Int.zero_add]
      · have ej : j = cols ts := by omega
        subst ej
        refine .inl ⟨by show ((cols ts : Int)).toNat ≤ cols ts; omega, e4, l4, hl4, ?_⟩
        have e6 : placesL (i + 1) (cols ts) = placesL i (cols ts) ++ (List.range (cols ts)).map fun (x : Nat) => ((i : Int), (x : Int)) := by
          unfold placesL
          rw [List.range_succ, List.flatMap_append]
          simp
        rw [e6]
        exact hp4
    · have ei : i = ts.length := by omega
      subst ei
      exact .inl ⟨by show ((ts.length : Int)).toNat ≤ ts.length; omega, k _ _ (e1.trans e2) ⟨D, l, rfl, SqL.of hl2, hp⟩⟩
def openL (ts : Tx) : List Pl := (placesL ts.length (cols ts)).filter fun p => decide (seen ts p ∈ opens)
def spOpens (K : PySem.W.Frag) (CF : Addr) : Sp := fun vs H Q _ => ∃ (f : Addr) (ts : Tx), vs = [.ref f] ∧ FlAt K CF H f ts ∧ TsOk ts ∧ ∀ v H', Same H H' → LsAt K (PlAt K) H' v (openL ts) → Q v H'
abbrev sOpens : Stmt := inClass (topS 35) 10
theorem sc_opens : FnScope ["self", "place"] ["self"] (defScope sOpens) := ⟨rfl, rfl, rfl, by decide +kernel, rfl, by decide +kernel, by decide +kernel⟩
theorem c_opens (T : Txt K mg CF CW) : Met P w K mg base 6 CF "open_places" (spOpens K CF) := by
  refine met_mk T.f_open_places T.clF sc_opens (fun _ _ _ _ _ _ us hl => match us, hl with | [_], _ => rfl) (fun vs H Q E h => ?_) (fun f cdv A outer s H vs Q E hr h => ?_)
  · obtain ⟨t, _, rfl, _⟩ := h
    rfl
  · obtain ⟨f, ts, rfl, hF, ok, k⟩ := h
    refine ⟨_, pss_one (ps_ret (pe_lc (own := [("place", 1)]) (g := gName 1) rfl sc_opens.nd (pi_list (pe_mt0 (c_places T) hr (by decide) (pv 0))) (blkOk_by (own := [("place", 1)]) (N := ["self", "place"]) (sc := defScope sOpens) (by decide +kernel))
        (fun _ _ _ _ _ => pg_name (i := 1) sc_opens.nd rfl (Or.inl rfl)) (fun _ _ _ _ _ => pts_one (pt_cmpR op_in_sign (pe_mt (c_seen T) hr (by decide) (pv 0) (pa_cons (pv 1) pa_nil)) (pe_gc T.OPEN rfl) rfl)) (fun _ _ _ _ _ => pv 1))), ?_⟩
    obtain ⟨dx, fs, a, hf, hl, hm, ht⟩ := id hF
    refine ⟨_, rfl, f, dx, fs, rfl, hf, hm _ (by decide +kernel), f, ts, rfl, hF, ok, fun v H1 e1 q1 => ?_⟩
    obtain ⟨l, xs, rfl, hxs, hp⟩ := q1
    refine ⟨l, rfl, ⟨_, hxs⟩, fun D hD => ?_⟩
    have hlen := paired_len hp
    have l6 := ok.l6
    have c6 := ok.c6
    refine lc_same walk_list hD (PlAt K) (fun i => ((placesL ts.length (cols ts)).take i).filter fun p => decide (seen ts p ∈ opens)) rfl (fun _ _ _ _ e h => h.mono e) (fun _ _ _ _ _ h q => pl_upd h q) (fun _ e => e.seq hxs) (fun i _ => ?_) ?_ ?_
    · refine Nat.le_trans (List.length_filter_le _ _) ?_
      rw [List.length_take, len_rows]
      have := Nat.mul_le_mul l6 c6
      omega
    · rintro i x H2 H3 hi e2 ⟨rfl, hx⟩ k1 k2 hk1 hk2
      obtain ⟨p, hpi, hpx⟩ := L2.paired_get hp hx
      have hF2 := hF.mono (e1.trans e2)
      refine ⟨rfl, ?_⟩
      refine ⟨_, rfl, f, dx, fs, rfl, (e1.trans e2) _ _ hf, hm _ (by decide +kernel), _, rfl, f, ts, x, p, rfl, hF2, ok, hpx.mono e2, fun H4 e4 => ?_⟩
      refine ⟨seen ts p, sx opens, rfl, rfl, _, rfl, ?_⟩
      refine ite2 (fun h1 => ?_) (fun h1 => ?_)
      · exact ⟨_, rfl, hk1 _ _ p e4 (filter_yes (fun p => decide (seen ts p ∈ opens)) hpi h1) (hpx.mono (e2.trans e4))⟩
      · exact hk2 _ e4 (filter_no (fun p => decide (seen ts p ∈ opens)) hpi h1)
    · intro H2 l2 e2 hl2 hp2
      have ex : ((placesL ts.length (cols ts)).take xs.length) = placesL ts.length (cols ts) := by rw [hlen, List.take_length]
      rw [ex] at hp2
      exact k _ _ (e1.trans e2) ⟨D, l2, rfl, SqL.of hl2, hp2⟩
def spCan (K : PySem.W.Frag) (CF : Addr) : Sp := fun vs H Q _ => ∃ (f : Addr) (ts : Tx) (v : V) (p : Pl), vs = [.ref f, v] ∧ FlAt K CF H f ts ∧ TsOk ts ∧ PlAt K H v p ∧ ∀ H', Same H H' → Q (.bl (canStand ts p)) H'
theorem sc_can : FnScope ["self", "thing"] ["self", "thing"] (defScope (inClass (topS 35) 11)) := ⟨rfl, rfl, rfl, by decide +kernel, rfl, by decide +kernel, by decide +kernel⟩
theorem c_can (T : Txt K mg CF CW) : Met P w K mg base 6 CF "can_stand" (spCan K CF) := by
  refine met_mk T.f_can_stand T.clF sc_can (fun _ _ _ _ _ _ us hl => match us, hl with | [_, _], _ => rfl) (fun vs H Q E h => ?_) (fun f cdv A outer s H vs Q E hr h => ?_)
  · obtain ⟨t, _, _, _, rfl, _⟩ := h
    rfl
  · obtain ⟨f, ts, v, p, rfl, hF, ok, hv, k⟩ := h
    refine ⟨_, pss_one (ps_ret (pe_and (pe_mt (c_has T) hr (by decide) (pv 0) (pa_cons (pv 1) pa_nil)) (pe_one (pe_cmpR op_in_sign (pe_mt (c_seen T) hr (by decide) (pv 0) (pa_cons (pv 1) pa_nil)) (pe_op op_add_str (pe_gc T.OPEN rfl) (pe_gc T.ICE rfl)) rfl)))), ?_⟩
    obtain ⟨dx, fs, a, hf, hl, hm, ht⟩ := id hF
    refine ⟨_, rfl, f, dx, fs, rfl, hf, hm _ (by decide +kernel), _, rfl, f, ts, v, p, rfl, hF, ok, hv, fun H1 e1 => ?_⟩
    refine ⟨has ts p, rfl, ?_⟩
    by_cases hh : has ts p = true
    · rw [hh]
      refine iteT ⟨_, rfl, f, dx, fs, rfl, e1 _ _ hf, hm _ (by decide +kernel), _, rfl, f, ts, v, p, rfl, hF.mono e1, ok, hv.mono e1, fun H2 e2 => ?_⟩
      refine ⟨_, _, rfl, rfl, by rw [sx_len, sx_len]; decide, seen ts p, sx opens ++ sx [126], rfl, rfl, ?_⟩
      have es : (sx opens ++ sx [126]).cps.toList = opens ++ [126] := by decide +kernel
      have q := k _ (e1.trans e2)
      unfold canStand at q
      rw [hh, Bool.true_and] at q
      rw [es]
      exact q
    · have e : canStand ts p = false := by
        unfold canStand
        rw [Bool.eq_false_iff.mpr hh, Bool.false_and]
      have q := k _ e1
      rw [e] at q
      rw [Bool.eq_false_iff.mpr hh]
      exact iteF q
def spGoes (K : PySem.W.Frag) (CF : Addr) : Sp := fun vs H Q _ => ∃ (f : Addr) (ts : Tx) (v : V) (p : Pl) (c : Nat), vs = [.ref f, v, .str (sx [c])] ∧ FlAt K CF H f ts ∧ TsOk ts ∧ PlAt K H v p ∧ canStand ts p = true ∧ c ∈ DL ∧
  ∀ v' H', Same H H' → OpAt K H' v' (goes ts p c) → Q v' H'
theorem sc_goes : FnScope ["self", "place", "way", "here", "there"] ["self", "place", "way"] (defScope (inClass (topS 35) 12)) := ⟨rfl, rfl, rfl, by decide +kernel, rfl, by decide +kernel, by decide +kernel⟩
theorem c_goes (T : Txt K mg CF CW) : Met P w K mg base 7 CF "goes" (spGoes K CF) := by
  refine met_mk T.f_goes T.clF sc_goes (fun _ _ _ _ _ _ us hl => match us, hl with | [_, _, _], _ => rfl) (fun vs H Q E h => ?_) (fun f cdv A outer s H vs Q E hr h => ?_)
  · obtain ⟨t, _, _, _, _, rfl, _⟩ := h
    rfl
  · obtain ⟨f, ts, v, p, c, rfl, hF, ok, hv, hc, hd, k⟩ := h
    refine ⟨_, pss_cons (ps_if (pt_not (pt_val (pe_mt (c_can T) hr (by decide) (pv 0) (pa_cons (pv 1) pa_nil)))) pss_never pss_nil)
      (pss_cons (ps_expr (pe_c (c_want_deed T) hr (by decide) rfl (pa_cons (pv 2) pa_nil)))
      (pss_cons (ps_par (i := 3) (j := 4) (by rfl) sc_goes.nd rfl rfl (by decide) rfl rfl (pa_cons (pv 1) (pa_cons (pe_c (c_next_to T) hr (by decide) rfl (pa_cons (pv 1) (pa_cons (pv 2) pa_nil))) pa_nil)) (by rfl))
      (pss_cons (ps_while PassesOwn.never (pt_cmpR op_eq (pe_mt (c_seen T) hr (by decide) (pv 0) (pa_cons (pv 4) pa_nil)) (pe_gc T.ICE rfl) (nomark _))
        (pss_one (ps_par (i := 3) (j := 4) (by rfl) sc_goes.nd rfl rfl (by decide) rfl rfl (pa_cons (pv 4) (pa_cons (pe_c (c_next_to T) hr (by decide) rfl (pa_cons (pv 4) (pa_cons (pv 2) pa_nil))) pa_nil)) (by rfl))))
      (pss_cons (ps_if (pt_cmpR op_eq (pe_mt (c_seen T) hr (by decide) (pv 0) (pa_cons (pv 4) pa_nil)) (pe_gc T.WALL rfl) (nomark _)) (pss_one (ps_ret (pv 3))) pss_nil)
      (pss_one (ps_ret (pe_ifExp (pt_cmpR op_eq (pe_mt (c_seen T) hr (by decide) (pv 0) (pa_cons (pv 4) pa_nil)) (pe_gc T.PIT rfl) (nomark _)) pe_non (pv 4)))))))), ?_⟩
    obtain ⟨dx, fs, a, hf, hl, hm, ht⟩ := id hF
    refine ⟨_, rfl, f, dx, fs, rfl, hf, hm _ (by decide +kernel), _, rfl, f, ts, v, p, rfl, hF, ok, hv, fun H1 e1 => ?_⟩
    refine ⟨true, by rw [hc], iteF ?_⟩
    refine ⟨_, rfl, c, rfl, hd, ?_⟩
    refine ⟨_, rfl, _, rfl, _, rfl, v, p, c, rfl, hv.mono e1, hd, fun v1 H2 e2 q1 => ?_⟩
    refine ⟨_, _, rfl, ?_⟩
    refine ⟨fun n σ H' => ∃ hv tv h t, σ = [some (.ref f), some v, some (.str (sx [c])), some hv, some tv] ∧ PlAt K H' hv h ∧ PlAt K H' tv t ∧ slide ts c n h t = slide ts c 12 p (nxt p c) ∧ mu c t ≤ (n : Int) ∧ Same H H',
      ⟨12, _, _, p, nxt p c, rfl, hv.mono (e1.trans e2), q1, rfl, start_mu ok hd hc, e1.trans e2⟩, ?_⟩
    rintro n σ H3 ⟨hv3, tv3, h, t, rfl, qh, qt, es, hmu, e3⟩
    have hF3 := hF.mono e3
    have hf3 := e3 _ _ hf
    refine ⟨_, rfl, f, dx, fs, rfl, hf3, hm _ (by decide +kernel), _, rfl, f, ts, tv3, t, rfl, hF3, ok, qt, fun H4 e4 => ?_⟩
    refine ⟨rfl, _, rfl, ?_⟩
    rw [dec_sign]
    by_cases hi : seen ts t = 126
    · rw [decide_eq_true hi]
      refine iteT ?_
      have hpos := (mu_in ok hd (seen_has (by rw [hi]; decide))).1
      obtain ⟨n', rfl⟩ : ∃ n', n = n' + 1 := ⟨n - 1, by omega⟩
      refine ⟨fun σ H' => ∃ hv tv h t, σ = [some (.ref f), some v, some (.str (sx [c])), some hv, some tv] ∧ PlAt K H' hv h ∧ PlAt K H' tv t ∧ slide ts c n' h t = slide ts c 12 p (nxt p c) ∧ mu c t ≤ (n' : Int) ∧ Same H H', fun σ' H' z => ⟨n', Nat.lt_succ_self _, z⟩, ?_⟩
      refine ⟨_, rfl, _, rfl, _, rfl, tv3, t, c, rfl, qt.mono e4, hd, fun v5 H5 e5 q5 => ?_⟩
      refine ⟨_, _, rfl, _, _, t, nxt t c, rfl, (qt.mono e4).mono e5, q5, ?_, ?_, (e3.trans e4).trans e5⟩
      · rw [← slide_step hi]
        exact es
      · rw [nxt_mu hd]
        omega
    · rw [decide_eq_false hi]
      refine iteF ?_
      rw [slide_stop hi] at es
      have e34 := e3.trans e4
      refine ⟨_, rfl, f, dx, fs, rfl, e34 _ _ hf, hm _ (by decide +kernel), _, rfl, f, ts, tv3, t, rfl, hF.mono e34, ok, qt.mono e4, fun H5 e5 => ?_⟩
      refine ⟨rfl, _, rfl, ?_⟩
      rw [dec_sign]
      have eg : goes ts p c = if seen ts t = 35 then some h else if seen ts t = 120 then none else some t := by
        unfold goes
        rw [← es]
      by_cases h1 : seen ts t = 35
      · rw [decide_eq_true h1]
        refine iteT ⟨_, rfl, ?_⟩
        refine k _ _ (e34.trans e5) ?_
        rw [eg, if_pos h1]
        exact (qh.mono e4).mono e5
      · rw [decide_eq_false h1]
        refine iteF ?_
        have e35 := e34.trans e5
        refine ⟨_, rfl, f, dx, fs, rfl, e35 _ _ hf, hm _ (by decide +kernel), _, rfl, f, ts, tv3, t, rfl, hF.mono e35, ok, (qt.mono e4).mono e5, fun H6 e6 => ?_⟩
        refine ⟨rfl, _, rfl, ?_⟩
        rw [dec_sign]
        by_cases h2 : seen ts t = 120
        · rw [decide_eq_true h2]
          refine iteT ?_
          refine k _ _ (e35.trans e6) ?_
          rw [eg, if_neg h1, if_pos h2]
          rfl
        · rw [decide_eq_false h2]
          refine iteF ⟨_, rfl, ?_⟩
          refine k _ _ (e35.trans e6) ?_
          rw [eg, if_neg h1, if_neg h2]
          exact ((qt.mono e4).mono e5).mono e6
end
end Oh
namespace Oh
open PySem PySem.Spec PyProof.Rows L2
theorem PI_or {X : Cx} {tg e : Expr} {t t' : TI} (h : PI X tg e t) (h' : PI X tg e t') : PI X tg e (fun σ H R => t σ H R ∨ t' σ H R) := by
  refine ⟨fun pins s σ H R I q => ?_⟩
  rcases q with q | q
  · exact h.run pins s σ H R I q
  · exact h'.run pins s σ H R I q
theorem nodup_len {α : Type} [DecidableEq α] : ∀ (l D : List α), l.Nodup → (∀ x ∈ l, x ∈ D) → l.length ≤ D.length
  | [], _, _, _ => Nat.zero_le _
  | x :: l, D, h, hs => by
    obtain ⟨hx, hl⟩ := List.nodup_cons.mp h
    have hm := hs x List.mem_cons_self
    have ih := nodup_len l (D.erase x) hl fun y hy => by
      have hne : y ≠ x := fun e => hx (e ▸ hy)
      exact (List.mem_erase_of_ne hne).mpr (hs y (List.mem_cons_of_mem _ hy))
    rw [List.length_erase_of_mem hm] at ih
    have := List.length_pos_of_mem hm
    rw [List.length_cons]
    omega
/-- len(set(xs)), xs a list of distinct tuples of ints -/
def tLenSetT (K : PySem.W.Frag) (ta : TE) : TE := fun σ H Q => ta σ H fun x H1 => ∃ (l : Addr) (ks : List (Addr × List Int)), x = V.ref l ∧ SqL K H1 l (ks.map fun p => V.ref p.1) ∧ (∀ p ∈ ks, SqT K H1 p.1 (p.2.map V.int)) ∧ ks.length < 64 ∧ (ks.map (·.2)).Nodup ∧ Q (.int ks.length) H1
theorem pe_lenSetT {X : Cx} {a : Expr} {ta : TE} {p p2 q pos : Pos} (hc : X.calm = true) (hu : X.A.units + 64 < cLine) (hg : Gl X "len") (hm : X.mg "len" = none) (hg2 : Gl X "set") (hm2 : X.mg "set" = none) (ha : PE X a ta)
    (na : starEach [a] X.env = (false, eval a X.env) :: starEach [] X.env := by rfl) : PE X (.Call (.Name "len" p) [.Call (.Name "set" p2) [a] [] q] [] pos) (tLenSetT X.K ta) := by
  refine ⟨fun pins s σ H Q I h => ?_⟩
  refine Call_ (ld_blt I hg hm PySem.boot_len ?_)
  refine PyProof.Rows.callWith_builtin1 (PyProof.Rows.args_cons ?_ rfl) rfl rfl
  refine Call_ (ld_blt I hg2 hm2 PyProof.Rows.boot_set ?_)
  refine PyProof.Rows.callWith_type1 (PyProof.Rows.args_cons (thn (ha.run pins s σ H _ I h) fun v s1 ⟨x, H1, I1, r1, q1⟩ => PyProof.Rows.args_nil ?_) na) na rfl
  obtain ⟨l, ks, rfl, hq, hk, h1, hnd, q1⟩ := q1
  cases r1
  obtain ⟨its, r, pl, hz⟩ := I1.list hq
  refine call_set_tups (P := X.prog) (w := X.w) ks (I1.ok.hd hc) pl.isList (by simpa using refs_of_vals r) (fun p hp => I1.isT (hk p hp)) h1 (by omega) fun h' tk L es ep t R g k => ?_
  refine PyProof.Rows.args_nil ?_
  have I2 : Inv X pins σ H1 { s1 with heap := h', toks := tk } := I1.kept fun b o e => k b o e
  have hlen : L.length = ks.length := by
    have h2 : ks.length ≤ L.length := by
      have := nodup_len (ks.map (·.2)) (L.map (·.2)) hnd fun x hx => by
        obtain ⟨p, hp, rfl⟩ := List.mem_map.mp hx
        exact g.all p (by rw [List.take_length]; exact hp)
      rw [List.length_map, List.length_map] at this
      exact this
    exact Nat.le_antisymm g.len h2
  have hsz : es.size = L.length := by
    have q := congrArg List.length R.rows
    rw [Array.length_toList] at q
    rw [q]
    simp [rowsOf]
  obtain ⟨o, ho, hex, hd⟩ := R.ob
  have hf : t.fits es.size = true := SetTR.fits (s := { s1 with heap := h', toks := tk }) R
  refine call_len_set ho hex hd hf (by rw [hsz, hlen]; omega) ⟨.int ks.length, H1, I2.tok _, ⟨_, by rw [hsz, hlen]⟩, q1⟩
def plD (p : Pl) : PyData := .tuple [.int p.1, .int p.2]
theorem plD_shaped (p : Pl) : SeqAt.shaped (plD p) = true := by
  show ((plD p).canLay0 && decide ((plD p).depth ≤ 64)) = true
  rw [Bool.and_eq_true]
  exact ⟨by simp [plD, PyData.canLay0, PyData.canLayAll0], decide_eq_true (by simp [plD, PyData.depth, PyData.depthAll])⟩
theorem plD_eqv (p q : Pl) : PyData.eqv (plD p) (plD q) = decide (p = q) := by
  obtain ⟨a, b⟩ := p
  obtain ⟨c, d⟩ := q
  have e : PyData.eqv (plD (a, b)) (plD (c, d)) = ((a == c) && ((b == d) && true)) := by simp only [plD, PyData.eqv, PyData.eqvAll]
  rw [e]
  by_cases h1 : a = c
  · by_cases h2 : b = d
    · rw [decide_eq_true (by rw [h1, h2])]
      simp [h1, h2]
    · rw [decide_eq_false fun z => h2 (by injection z)]
      simp [h2]
  · rw [decide_eq_false fun z => h1 (by injection z)]
    simp [h1]
theorem plD_dp {K : PySem.W.Frag} {H : Hp} {v : V} {p : Pl} (h : PlAt K H v p) : Dp K H v (plD p) := by
  obtain ⟨t, rfl, ht⟩ := h
  exact .tup ht (.cons (.int _) (.cons (.int _) .nil))
theorem pls_depth : ∀ ps : List Pl, PyData.depthAll (ps.map plD) ≤ 1
  | [] => by simp [PyData.depthAll]
  | p :: ps => by
    have h1 := pls_depth ps
    have h2 : (plD p).depth = 1 := by simp [plD, PyData.depth, PyData.depthAll]
    simp only [List.map_cons, PyData.depthAll]
    omega
theorem pls_lay : ∀ ps : List Pl, PyData.canLayAll0 (ps.map plD) = true
  | [] => by simp [PyData.canLayAll0]
  | p :: ps => by
    have h2 : (plD p).canLay0 = true := by simp [plD, PyData.canLay0, PyData.canLayAll0]
    simp [PyData.canLayAll0, h2, pls_lay ps]
theorem pls_shaped (ps : List Pl) : SeqAt.shaped (.list (ps.map plD)) = true := by
  have h1 := pls_depth ps
  show (PyData.canLay0 (.list (ps.map plD)) && decide (PyData.depth (.list (ps.map plD)) ≤ 64)) = true
  rw [Bool.and_eq_true]
  exact ⟨by simp only [PyData.canLay0]; exact pls_lay ps, decide_eq_true (by simp only [PyData.depth]; omega)⟩
theorem pls_dp {K : PySem.W.Frag} {H : Hp} : ∀ {vs : List V} {ps : List Pl}, Paired (PlAt K H) vs ps → DpAll K H vs (ps.map plD)
  | _, _, .nil => .nil
  | _, _, .cons r t => .cons (plD_dp r) (pls_dp t)
theorem any_eqv {ps : List Pl} {p : Pl} (h : p ∈ ps) : ((ps.map plD).any fun z => PyData.eqv z (plD p)) = true := by
  rw [List.any_eq_true]
  exact ⟨plD p, List.mem_map.mpr ⟨p, h, rfl⟩, by rw [plD_eqv]; exact decide_eq_true rfl⟩
section
variable {P : Program} {w : World} {K : PySem.W.Frag} {mg : Str → Option Value} {base : Heap} {CF CW : Addr}
def spStand (K : PySem.W.Frag) (CF : Addr) : Sp := fun vs H Q _ => ∃ (f : Addr) (ts : Tx) (v : V) (p : Pl) (t : List Nat), vs = [.ref f, v] ∧ FlAt K CF H f ts ∧ TsOk ts ∧ SdAt K H v (some (p, t)) ∧ canStand ts p = true ∧ t ∈ turnsL ∧ ∀ H', Same H H' → Q (.bl true) H'
theorem sc_is_stand : FnScope ["floor", "thing"] ["floor", "thing"] (defScope (topS 37)) := ⟨rfl, rfl, rfl, by decide +kernel, rfl, by decide +kernel, by decide +kernel⟩
theorem c_is_stand (T : Txt K mg CF CW) : Cal P w K mg base 7 "is_stand" (spStand K CF) := by
  refine cal_mk T.is_stand sc_is_stand (fun _ _ _ _ _ _ us hl => match us, hl with | [_, _], _ => rfl) (fun vs H Q E h => ?_) (fun f cdv A outer s H vs Q E hr h => ?_)
  · obtain ⟨_, _, _, _, _, rfl, _⟩ := h
    rfl
  · obtain ⟨f, ts, v, p, t, rfl, hF, ok, ⟨a, u, rfl, ha, hu⟩, hc, ht, k⟩ := h
    refine ⟨_, pss_cons (ps_if (pt_cmp (pc_isN (pv 1))) pss_never pss_nil) (pss_cons (ps_if (PW.pt (pw_or (pt_not (pt_val (pe_callB call_isi rfl T.isi bt_isi (pa_cons (pv 1) (pa_cons (pe_bty T.tuple bt_tuple rfl) pa_nil)))))
        (pw_or1 (pt_cmpR op_ne (pe_callB call_len rfl T.len bt_len (pa_cons (pv 1) pa_nil)) pe_int (nomark _))))) pss_never pss_nil)
      (pss_one (ps_ret (pe_and (pe_mt (c_can T) hr (by decide) (pv 0) (pa_cons (pe_ix ix_tup (pv 1) pe_int (fun _ _ => rfl)) pa_nil)) (pe_one (pe_c (c_is_turn T) hr (by decide) rfl (pa_cons (pe_ix ix_tup (pv 1) pe_int (fun _ _ => rfl)) pa_nil))))))), ?_⟩
    obtain ⟨dx, fs, a', hf, hl, hm, ht'⟩ := id hF
    refine ⟨_, rfl, false, rfl, iteF ?_⟩
    refine ⟨_, rfl, _, _, _, _, true, rfl, .ty _, ty_tup ha, kit_ty (by decide +kernel), true, rfl, iteF ?_⟩
    refine ⟨_, rfl, _, 2, rfl, .inr ⟨_, ha, rfl⟩, rfl, _, rfl, iteNS rfl ?_⟩
    refine ⟨_, rfl, f, dx, fs, rfl, hf, hm _ (by decide +kernel), _, rfl, a, _, 0, u, rfl, rfl, ha, atI_nat (j := 0) rfl, ?_⟩
    refine ⟨f, ts, u, p, rfl, hF, ok, hu, fun H1 e1 => ⟨true, by rw [hc], iteT ?_⟩⟩
    refine ⟨_, rfl, a, _, 1, _, rfl, rfl, same_tup e1 ha, atI_nat (j := 1) rfl, t, rfl, ht, k _ e1⟩
def spBook (K : PySem.W.Frag) (CF : Addr) : Sp := fun vs H Q _ => ∃ (f : Addr) (ts : Tx) (v : V) (pg : Nat → List Nat), vs = [.ref f, v] ∧ FlAt K CF H f ts ∧ TsOk ts ∧ (v = .non ∨ ∃ d, v = .ref d ∧ PgAt H d ts pg) ∧ PgOk pg ∧ ∀ H', Same H H' → Q (.bl true) H'
theorem sc_is_book : FnScope ["floor", "thing", "letters", "letter"] ["floor", "thing"] (defScope (topS 38)) := ⟨rfl, rfl, rfl, by decide +kernel, rfl, by decide +kernel, by decide +kernel⟩
theorem mem_letL {ts : Tx} {c : Nat} (h : c ∈ letL ts) : c ∈ lets ∧ (ts.any fun t => decide (c ∈ t)) = true := List.mem_filter.mp h
theorem letL_len (ts : Tx) : (letL ts).length ≤ 4 := Nat.le_trans (List.length_filter_le _ _) (by decide)
theorem c_is_book (T : Txt K mg CF CW) : Cal P w K mg base 2 "is_book" (spBook K CF) := by
  refine cal_mk T.is_book sc_is_book (fun _ _ _ _ _ _ us hl => match us, hl with | [_, _], _ => rfl) (fun vs H Q E h => ?_) (fun f cdv A outer s H vs Q E hr h => ?_)
  · obtain ⟨_, _, _, _, rfl, _⟩ := h
    rfl
  · obtain ⟨f, ts, v, pg, rfl, hF, ok, hv, hp, k⟩ := h
    refine ⟨_, pss_cons (ps_if (pt_cmp (pc_isN (pv 1))) (pss_one (ps_ret pe_bl)) pss_nil) (pss_cons (ps_set (i := 2) sc_is_book.nd rfl (.inl rfl) (pe_mt0 (c_letters T) hr (by decide) (pv 0)))
      (pss_cons (ps_if (PW.pt (pw_or (pt_not (pt_val (pe_callB call_isi rfl T.isi bt_isi (pa_cons (pv 1) (pa_cons (pe_bty T.dict bt_dict rfl) pa_nil)))))
        (pw_or1 (pt_cmpR op_ne (pe_callB call_lenD rfl T.len bt_len (pa_cons (pv 1) pa_nil)) (pe_callB call_len rfl T.len bt_len (pa_cons (pv 2) pa_nil)) (nomark _))))) pss_never pss_nil)
      (pss_one (ps_ret (pe_callB (cr_all rfl) rfl T.all bt_all (pa_cons (pe_lc (own := [("letter", 3)]) (g := gName 3) (tt := tYes) rfl sc_is_book.nd (pi_str (pv 2)) (blkOk_by (own := [("letter", 3)]) (N := ["floor", "thing", "letters", "letter"]) (sc := defScope (topS 38)) (by decide +kernel))
        (fun _ _ _ _ _ => pg_name (i := 3) sc_is_book.nd rfl (Or.inl rfl)) (fun _ _ _ _ _ => pts_nil)
        (fun _ _ _ _ _ => pe_and (pe_cmp (pc_din (hu_of hr) (pv 3) (pv 1)) rfl) (pe_one (pe_c (c_is_turn T) hr (by decide) rfl (pa_cons (pe_dget (hu_of hr) (pv 1) (pv 3) (fun _ _ => rfl)) pa_nil))))) pa_nil)))))), ?_⟩
    obtain ⟨dx, fs, a', hf, hl, hm, ht'⟩ := id hF
    rcases hv with rfl | ⟨d, rfl, hd⟩
    · exact ⟨_, rfl, true, rfl, iteT (k _ (Same.refl _))⟩
    · refine ⟨_, rfl, false, rfl, iteF ?_⟩
      refine ⟨_, rfl, f, dx, fs, rfl, hf, hm _ (by decide +kernel), f, ts, rfl, hF, ok, fun H1 e1 => ?_⟩
      obtain ⟨kvs, hk1, hk2, hk3⟩ := hd.mono e1
      have h4 := letL_len ts
      refine ⟨_, rfl, _, _, _, _, true, rfl, .ty _, .base (.dK hk1), kit_ty (by decide +kernel), true, rfl, iteF ?_⟩
      refine ⟨_, rfl, d, kvs, rfl, hk1, _, rfl, _, (letL ts).length, rfl, ⟨by rw [sx_len]; exact sz_ok (by omega), (sx_len _).symm⟩, rfl, _, rfl, iteNS (congrArg (fun n : Nat => V.int (n : Int)) hk2) ?_⟩
      refine ⟨_, rfl, sx (letL ts), rfl, fun D hD => ?_⟩
      refine lc_sameY walk_str hD (fun _ v b => v = .bl b) (fun i => ((letL ts).take i).map fun _ => true) rfl (fun _ _ _ _ _ h => h) (fun _ _ _ _ _ _ h => h) (fun _ _ => trivial) (fun i _ => ?_) ?_ ?_ gm_name
      · rw [List.length_map, List.length_take]
        omega
      · rintro i x H2 H3 hi e2 ⟨rfl, c, hc, rfl⟩ k1 hk
        have hc' := sx_get hc
        obtain ⟨hm1, hm2⟩ := mem_letL (List.mem_of_getElem? hc')
        refine ⟨rfl, ?_⟩
        have hg := DGet.k (k := Sum.inr (sx [c])) (e2 _ _ hk1)
        rw [hk3 c hm1 hm2] at hg
        refine ⟨_, rfl, _, rfl, d, _, rfl, hg, true, rfl, iteT ?_⟩
        refine ⟨_, rfl, _, rfl, d, _, rfl, hg, pg c, rfl, hp.turn c hm1, ?_⟩
        refine hk _ _ true (Same.refl _) ?_ rfl
        show ((letL ts).take (i + 1)).map _ = _
        rw [take_snoc hc', List.map_append]
        rfl
      · intro H2 bs e2 hl2 hp2
        have hn : (sx (letL ts)).cps.size = (letL ts).length := by simp [sx]
        have hp' : Paired (fun v b => v = V.bl b) bs (((letL ts).take (sx (letL ts)).cps.size).map fun _ => true) := hp2
        rw [hn, List.take_length] at hp'
        have el := paired_eq hp'
        refine ⟨D, (letL ts).map fun _ => true, rfl, SqL.of (by rw [hl2, el]), ?_⟩
        rw [all_true fun c hc => rfl]
        exact k _ (e1.trans e2)
/-- the wishes: a list of unlike places of the floor, or the empty tuple -/
def WsAt (K : PySem.W.Frag) (H : Hp) (v : V) (ts : Tx) : Prop := (∃ (l : Addr) (vs : List V) (ps : List Pl), v = .ref l ∧ SqL K H l vs ∧ Paired (PlAt K H) vs ps ∧ ps.Nodup ∧ (∀ p ∈ ps, has ts p = true) ∧ ps.length < 64) ∨ ∃ d, v = .ref d ∧ SqT K H d []
theorem WsAt.mono {K : PySem.W.Frag} {H H' : Hp} {v : V} {ts : Tx} (e : Same H H') (h : WsAt K H v ts) : WsAt K H' v ts := by
  rcases h with ⟨l, vs, ps, h1, h2, h3, h4⟩ | ⟨d, h1, h2⟩
  · exact .inl ⟨l, vs, ps, h1, e.seq h2, Paired.mapP h3 fun v p q => q.mono e, h4⟩
  · exact .inr ⟨d, h1, same_tup e h2⟩
def spWishes (K : PySem.W.Frag) (CF : Addr) : Sp := fun vs H Q _ => ∃ (f : Addr) (ts : Tx) (v : V), vs = [.ref f, v] ∧ FlAt K CF H f ts ∧ TsOk ts ∧ WsAt K H v ts ∧ ∀ H', Same H H' → Q (.bl true) H'
theorem sc_are_wishes : FnScope ["floor", "thing", "place"] ["floor", "thing"] (defScope (topS 39)) := ⟨rfl, rfl, rfl, by decide +kernel, rfl, by decide +kernel, by decide +kernel⟩
def keyOfP (v : V) (p : Pl) : Addr × List Int := (match v with | .ref a => a | _ => 0, [p.1, p.2])
theorem keys_of {K : PySem.W.Frag} {H : Hp} : ∀ {vs : List V} {ps : List Pl}, Paired (PlAt K H) vs ps → ∃ ks : List (Addr × List Int), vs = ks.map (fun p => V.ref p.1) ∧ (∀ p ∈ ks, SqT K H p.1 (p.2.map V.int)) ∧ ks.map (·.2) = ps.map fun p => [p.1, p.2]
  | _, _, .nil => ⟨[], rfl, fun p hp => absurd hp (by simp), rfl⟩
  | _, p :: _, .cons r t => by
    obtain ⟨ks, h1, h2, h3⟩ := keys_of t
    obtain ⟨a, e, ha⟩ := r
    refine ⟨(a, [p.1, p.2]) :: ks, by rw [h1, e]; rfl, fun q hq => ?_, by rw [List.map_cons, h3]; rfl⟩
    rcases List.mem_cons.mp hq with e | hq
    · rw [e]
      exact ha
    · exact h2 q hq
theorem nodup_pairs {ps : List Pl} (h : ps.Nodup) : (ps.map fun p => [p.1, p.2]).Nodup := by
  rw [List.nodup_iff_pairwise_ne] at h ⊢
  rw [List.pairwise_map]
  exact h.imp fun {a b} hne e => hne (by
    injection e with e1 e2
    injection e2 with e2 _
    exact Prod.ext e1 e2)
theorem c_are_wishes (T : Txt K mg CF CW) : Cal P w K mg base 5 "are_wishes" (spWishes K CF) := by
  refine cal_mk T.are_wishes sc_are_wishes (fun _ _ _ _ _ _ us hl => match us, hl with | [_, _], _ => rfl) (fun vs H Q E h => ?_) (fun f cdv A outer s H vs Q E hr h => ?_)
  · obtain ⟨_, _, _, rfl, _⟩ := h
    rfl
  · obtain ⟨f, ts, v, rfl, hF, ok, hv, k⟩ := h
    refine ⟨_, pss_cons (ps_if (PW.pt (pw_or (pt_not (pt_val (pe_callB call_isiT rfl T.isi bt_isi (pa_cons (pv 1) (pa_cons (pe_tup (pa_cons (pe_bty T.list bt_list rfl) (pa_cons (pe_bty T.tuple bt_tuple rfl) pa_nil))) pa_nil)))))
        (pw_or1 (pt_not (pt_val (pe_callB (cr_all rfl) rfl T.all bt_all (pa_cons (pe_lc (own := [("place", 2)]) (g := gName 2) (tt := tYes) rfl sc_are_wishes.nd (PI_or (pi_list (pv 1)) (pi_tup (pv 1))) (blkOk_by (own := [("place", 2)]) (N := ["floor", "thing", "place"]) (sc := defScope (topS 39)) (by decide +kernel))
          (fun _ _ _ _ _ => pg_name (i := 2) sc_are_wishes.nd rfl (Or.inl rfl)) (fun _ _ _ _ _ => pts_nil) (fun _ _ _ _ _ => pe_mt (c_has T) hr (by decide) (pv 0) (pa_cons (pv 2) pa_nil))) pa_nil))))))) pss_never pss_nil)
      (pss_one (ps_ret (pe_cmpR op_eq (PE_or (pe_lenSetT rfl hr.units rfl T.len rfl T.set (pv 1)) (pe_lenSet rfl rfl T.len rfl T.set (pv 1))) (pe_callB call_len rfl T.len bt_len (pa_cons (pv 1) pa_nil)) (nomark _)))), ?_⟩
    obtain ⟨dx, fs, a', hf, hl, hm, ht'⟩ := id hF
    rcases hv with ⟨l, vs, ps, rfl, hL, hp, hnd, hall, h64⟩ | ⟨d, rfl, hd⟩
    · have hlen := paired_len hp
      refine ⟨_, rfl, by show 2 ≤ sizeLine; decide, fun q hq => ?_⟩
      have e1 : Same H (upd H q (.tup [.ty "list", .ty "tuple"])) := same_new hq
      refine ⟨_, q, _, .type "list", [.type "list", .type "tuple"], true, rfl, upd_same, .cons (.ty _) (.cons (.ty _) .nil), ty_list (e1.seq hL), kitAny_cons (b := true) (kit_ty (by decide +kernel)) (fun z => by cases z) (fun _ => rfl), true, rfl, iteF ?_⟩
      refine .inl ⟨_, rfl, l, rfl, ⟨_, e1.seq hL⟩, fun D hD => ?_⟩
      refine lc_sameY walk_list hD (fun _ v b => v = .bl b) (fun i => (ps.take i).map fun _ => true) rfl (fun _ _ _ _ _ h => h) (fun _ _ _ _ _ _ h => h) (fun _ e => e.seq (e1.seq hL)) (fun i _ => ?_) ?_ ?_ gm_name
      · rw [List.length_map, List.length_take]
        omega
      · rintro i x H2 H3 hi e2 ⟨rfl, hx⟩ k1 hk
        obtain ⟨p, hpi, hpx⟩ := L2.paired_get hp hx
        have e12 := e1.trans e2
        refine ⟨rfl, ?_⟩
        refine ⟨_, rfl, f, dx, fs, rfl, e12 _ _ hf, hm _ (by decide +kernel), _, rfl, f, ts, x, p, rfl, hF.mono e12, ok, hpx.mono e12, fun H4 e4 => ?_⟩
        rw [hall p (List.mem_of_getElem? hpi)]
        refine hk _ _ true e4 ?_ rfl
        show (ps.take (i + 1)).map _ = _
        rw [take_snoc hpi, List.map_append]
        rfl
      · intro H2 bs e2 hl2 hp2
        have hp' : Paired (fun v b => v = V.bl b) bs ((ps.take vs.length).map fun _ => true) := hp2
        rw [hlen, List.take_length] at hp'
        have el := paired_eq hp'
        refine ⟨D, ps.map fun _ => true, rfl, SqL.of (by rw [hl2, el]), ?_⟩
        rw [all_true fun c hc => rfl]
        refine ⟨true, rfl, iteF ?_⟩
        have e12 := e1.trans e2
        obtain ⟨ks, h1, h2, h3⟩ := keys_of (Paired.mapP hp fun v p q => q.mono e12)
        have hkl : ks.length = ps.length := by
          have := congrArg List.length h3
          rw [List.length_map, List.length_map] at this
          exact this
        refine .inl ⟨_, rfl, l, ks, rfl, by rw [← h1]; exact e12.seq hL, h2, by omega, by rw [h3]; exact nodup_pairs hnd, ?_⟩
        refine ⟨_, rfl, _, vs.length, rfl, .inl ⟨_, e12.seq hL, rfl⟩, rfl, ?_⟩
        have e : decide (V.int (ks.length : Nat) = V.int (vs.length : Nat)) = true := decide_eq_true (by rw [hkl, hlen])
        show Q (.bl (decide (V.int (ks.length : Nat) = V.int (vs.length : Nat)))) _
        rw [e]
        exact k _ e12
    · refine ⟨_, rfl, by show 2 ≤ sizeLine; decide, fun q hq => ?_⟩
      have e1 : Same H (upd H q (.tup [.ty "list", .ty "tuple"])) := same_new hq
      refine ⟨_, q, _, .type "tuple", [.type "list", .type "tuple"], true, rfl, upd_same, .cons (.ty _) (.cons (.ty _) .nil), ty_tup (same_tup e1 hd), kitAny_cons (b := false) (kit_ty (by decide +kernel)) (fun _ => kitAny_cons (b := true) (kit_ty (by decide +kernel)) (fun z => by cases z) (fun _ => rfl)) (fun z => by cases z), true, rfl, iteF ?_⟩
      refine .inr ⟨_, rfl, d, rfl, ⟨_, same_tup e1 hd⟩, fun D hD => ?_⟩
      refine lc_sameY (walk_tup (xs := [])) hD (fun _ v b => v = .bl b) (fun i => []) rfl (fun _ _ _ _ _ h => h) (fun _ _ _ _ _ _ h => h) (fun _ e => same_tup e (same_tup e1 hd)) (fun i _ => Nat.zero_le _) ?_ ?_ gm_name
      · rintro i x H2 H3 hi
        exact absurd hi (Nat.not_lt_zero _)
      · intro H2 bs e2 hl2 hp2
        cases hp2
        refine ⟨D, [], rfl, SqL.of hl2, ?_⟩
        refine ⟨true, rfl, iteF ?_⟩
        have e12 := e1.trans e2
        refine .inr ⟨_, rfl, d, [], rfl, .inr (same_tup e12 hd), Nat.zero_le _, ?_⟩
        exact ⟨_, rfl, _, 0, rfl, .inr ⟨_, same_tup e12 hd, rfl⟩, rfl, k _ e12⟩
end
end Oh
namespace Oh
open PySem PySem.Spec PyProof.Rows L2
def cut (x : Addr) (H : Hp) : Hp := fun b => if b = x then none else H b
theorem cut_self {x : Addr} {H : Hp} : cut x H x = none := by
  unfold cut
  rw [if_pos rfl]
theorem cut_ne {x b : Addr} {H : Hp} (h : b ≠ x) : cut x H b = H b := by
  unfold cut
  rw [if_neg h]
theorem cut_same {x : Addr} {H : Hp} : Same (cut x H) H := fun b o e => by
  by_cases h : b = x
  · rw [h, cut_self] at e
    cases e
  · rw [cut_ne h] at e
    exact e
theorem cut_tup {K : PySem.W.Frag} {x t : Addr} {H : Hp} {xs : List V} {o : HO} (hx : H x = some o) (ho : ∀ ys, o ≠ .tup ys) (hf : ∀ q u, o ≠ .frz q u) (h : SqT K H t xs) : SqT K (cut x H) t xs := by
  rcases h with (h | ⟨q, h⟩) | h
  · exact .inl (.inl (by rw [cut_ne (ne_of h hx fun z => ho _ z.symm)]; exact h))
  · exact .inl (.inr ⟨q, by rw [cut_ne (ne_of h hx fun z => hf _ _ z.symm)]; exact h⟩)
  · exact .inr h
theorem cut_lst {K : PySem.W.Frag} {x t : Addr} {H : Hp} {xs : List V} {o : HO} (hx : H x = some o) (ho : ∀ ys, o ≠ .lst ys) (hf : ∀ q u, o ≠ .frz q u) (h : SqL K H t xs) : SqL K (cut x H) t xs := by
  rcases h with (h | ⟨q, h⟩) | h
  · exact .inl (.inl (by rw [cut_ne (ne_of h hx fun z => ho _ z.symm)]; exact h))
  · exact .inl (.inr ⟨q, by rw [cut_ne (ne_of h hx fun z => hf _ _ z.symm)]; exact h⟩)
  · exact .inr h
section
variable {K : PySem.W.Frag} {CF CW x : Addr} {H : Hp} {C dx : Addr} {fs : List (Str × V)}
theorem cut_pl {v : V} {p : Pl} (hx : H x = some (.ins C dx fs)) (h : PlAt K H v p) : PlAt K (cut x H) v p := by
  obtain ⟨t, e, h⟩ := h
  exact ⟨t, e, cut_tup hx (fun _ z => by cases z) (fun _ _ z => by cases z) h⟩
theorem cut_fl {f : Addr} {ts : Tx} (hx : H x = some (.ins C dx [])) (h : FlAt K CF H f ts) : FlAt K CF (cut x H) f ts := by
  obtain ⟨d, gs, t, h1, h2, h3, h4⟩ := h
  have hne : f ≠ x := fun e => by
    rw [e, hx] at h1
    injection h1 with h1
    injection h1 with _ _ h1
    rw [← h1] at h2
    cases h2
  exact ⟨d, gs, t, by rw [cut_ne hne]; exact h1, h2, h3, cut_tup hx (fun _ z => by cases z) (fun _ _ z => by cases z) h4⟩
theorem cut_pg {d : Addr} {ts : Tx} {pg : Nat → List Nat} (hx : H x = some (.ins C dx fs)) (h : PgAt H d ts pg) : PgAt (cut x H) d ts pg := by
  obtain ⟨kvs, h1, h2⟩ := h
  exact ⟨kvs, by rw [cut_ne (ne_of h1 hx (by intro z; cases z))]; exact h1, h2⟩
theorem cut_ws {v : V} {ts : Tx} (hx : H x = some (.ins C dx fs)) (h : WsAt K H v ts) : WsAt K (cut x H) v ts := by
  rcases h with ⟨l, vs, ps, h1, h2, h3, h4⟩ | ⟨d, h1, h2⟩
  · exact .inl ⟨l, vs, ps, h1, cut_lst hx (fun _ z => by cases z) (fun _ _ z => by cases z) h2, Paired.mapP h3 fun v p q => cut_pl hx q, h4⟩
  · exact .inr ⟨d, h1, cut_tup hx (fun _ z => by cases z) (fun _ _ z => by cases z) h2⟩
end
/-- a thing written at x stands behind all else -/
theorem cut_put {x : Addr} {H H' : Hp} {o : HO} (e : Same (cut x H) H') : Same (cut x H) (upd H' x o) := same_mut e cut_self
def kvsOf (pg : Nat → List Nat) (l : List Nat) : List (Key × V) := l.map fun c => (Sum.inr (sx [c]), V.str (sx (pg c)))
theorem valV_kvs (pg : Nat → List Nat) (a : Nat) : ∀ l : List Nat, valV (kvsOf pg l) (Sum.inr (sx [a])) = if a ∈ l then some (V.str (sx (pg a))) else none
  | [] => rfl
  | c :: r => by
    have ih := valV_kvs pg a r
    by_cases h : c = a
    · subst h
      rw [if_pos List.mem_cons_self]
      exact valV_pos (p := ((Sum.inr (sx [c]) : Key), V.str (sx (pg c)))) rfl
    · have hne : ¬ (Sum.inr (sx [c]) : Key) = Sum.inr (sx [a]) := fun e => h (by
        have e1 := sx_inj (Sum.inr.inj e)
        injection e1)
      have e2 : valV (kvsOf pg (c :: r)) (Sum.inr (sx [a])) = valV (kvsOf pg r) (Sum.inr (sx [a])) := valV_neg (p := ((Sum.inr (sx [c]) : Key), V.str (sx (pg c)))) hne
      rw [e2, ih]
      by_cases h2 : a ∈ r
      · rw [if_pos h2, if_pos (List.mem_cons_of_mem _ h2)]
      · rw [if_neg h2, if_neg]
        intro z
        rcases List.mem_cons.mp z with z | z
        · exact h z.symm
        · exact h2 z
theorem letL_nodup (ts : Tx) : (letL ts).Nodup := List.Pairwise.filter _ (by decide : lets.Nodup)
theorem not_mem_take {l : List Nat} (h : l.Nodup) {i c : Nat} (hc : l[i]? = some c) : c ∉ l.take i := fun hm => by
  have h1 : (l.take (i + 1)).Nodup := List.Sublist.nodup (List.take_sublist _ _) h
  rw [take_snoc hc] at h1
  exact (List.nodup_append.mp h1).2.2 c hm c (List.mem_singleton.mpr rfl) rfl
/-- wishes, with a mark that tells that none is wished -/
def WsC (K : PySem.W.Frag) (H : Hp) (v : V) (ts : Tx) (wk : Bool) : Prop := (wk = false ∧ WsAt K H v ts) ∨ ∃ d, v = .ref d ∧ SqT K H d []
theorem WsC.ws {K : PySem.W.Frag} {H : Hp} {v : V} {ts : Tx} {wk : Bool} (h : WsC K H v ts wk) : WsAt K H v ts := by
  rcases h with h | h
  · exact h.2
  · exact .inr h
section
variable {P : Program} {w : World} {K : PySem.W.Frag} {mg : Str → Option Value} {base : Heap} {CF CW : Addr}
def IsOpen (ts : Tx) (p : Pl) : Prop := has ts p = true ∧ seen ts p ∈ opens
theorem open_mem {ts : Tx} {p : Pl} (h : IsOpen ts p) : p ∈ openL ts := List.mem_filter.mpr ⟨mem_places (has_iff.mp h.1), decide_eq_true h.2⟩
def BkAt (H : Hp) (v : V) (ts : Tx) (pg : Nat → List Nat) : Prop := (v = .non ∧ pg = noPg) ∨ ∃ d, v = .ref d ∧ PgAt H d ts pg
theorem BkAt.mono {H H' : Hp} {v : V} {ts : Tx} {pg : Nat → List Nat} (e : Same H H') (h : BkAt H v ts pg) : BkAt H' v ts pg := by
  rcases h with h | ⟨d, h1, h2⟩
  · exact .inl h
  · exact .inr ⟨d, h1, h2.mono e⟩
theorem BkAt.or {H : Hp} {v : V} {ts : Tx} {pg : Nat → List Nat} (h : BkAt H v ts pg) : v = .non ∨ ∃ d, v = .ref d ∧ PgAt H d ts pg := by
  rcases h with h | h
  · exact .inl h.1
  · exact .inr h
def spFirst (K : PySem.W.Frag) (CF : Addr) : Sp := fun vs H Q _ => ∃ (f : Addr) (ts : Tx) (bv : V) (p0 : Pl) (t : List Nat) (bk : V) (pg : Nat → List Nat) (wv : V), vs = [.ref f, bv, .str (sx t), bk, wv] ∧ FlAt K CF H f ts ∧ TsOk ts ∧ PlAt K H bv p0 ∧ IsOpen ts p0 ∧ t ∈ turnsL ∧
  BkAt H bk ts pg ∧ PgOk pg ∧ WsAt K H wv ts ∧ ∀ H', Same H H' → Q .non H'
theorem sc_first_wrong : FnScope ["floor", "begin", "turn", "book", "wishes"] ["floor", "begin", "turn", "book", "wishes"] (defScope (topS 40)) := ⟨rfl, rfl, rfl, by decide +kernel, rfl, by decide +kernel, by decide +kernel⟩
theorem c_first_wrong (T : Txt K mg CF CW) : Cal P w K mg base 7 "first_wrong" (spFirst K CF) := by
  refine cal_mk T.first_wrong sc_first_wrong (fun _ _ _ _ _ _ us hl => match us, hl with | [_, _, _, _, _], _ => rfl) (fun vs H Q E h => ?_) (fun F0 cdv A outer s H vs Q E hr h => ?_)
  · obtain ⟨_, _, _, _, _, _, _, _, rfl, _⟩ := h
    rfl
  · obtain ⟨f, ts, bv, p0, t, bk, pg, wv, rfl, hF, ok, hb, ho, ht, hbk, hpg, hw, k⟩ := h
    have hu := hr.un
    have hu : (A.deeper (envOfC (Str.ofString "first_wrong") (defScope (topS 40)) s.heap.objs.size F0 cdv)).units + 65 < cLine := by omega
    refine ⟨_, pss_cons (ps_if (pt_not (pt_val (pe_callB (C8.call_isC T.insF) rfl T.isi bt_isi (pa_cons (pv 0) (pa_cons (pe_gc T.Floor rfl) pa_nil))))) pss_never pss_nil)
      (pss_cons (ps_if (PW.pt (pw_or (pt_not (pt_val (pe_mt (c_has T) hr (by decide) (pv 0) (pa_cons (pv 1) pa_nil)))) (pw_or1 (pt_cmpR (op_notInD hu) (pv 1) (pe_mt0 (c_opens T) hr (by decide) (pv 0)) rfl)))) pss_never pss_nil)
      (pss_cons (ps_if (pt_not (pt_val (pe_c (c_is_turn T) hr (by decide) rfl (pa_cons (pv 2) pa_nil)))) pss_never pss_nil)
      (pss_cons (ps_if (pt_not (pt_val (pe_c (c_is_book T) hr (by decide) rfl (pa_cons (pv 0) (pa_cons (pv 3) pa_nil))))) pss_never pss_nil)
      (pss_one (ps_ret (pe_ifExp (pt_val (pe_c (c_are_wishes T) hr (by decide) rfl (pa_cons (pv 0) (pa_cons (pv 4) pa_nil)))) pe_non pe_str)))))), ?_⟩
    obtain ⟨dx, fs, a', hf, hl, hm, ht'⟩ := id hF
    refine ⟨_, rfl, f, dx, fs, rfl, hf, true, rfl, iteF ?_⟩
    refine ⟨_, rfl, f, dx, fs, rfl, hf, hm _ (by decide +kernel), _, rfl, f, ts, bv, p0, rfl, hF, ok, hb, fun H1 e1 => ?_⟩
    refine ⟨true, by rw [ho.1], iteF ?_⟩
    refine ⟨_, rfl, _, rfl, f, dx, fs, rfl, e1 _ _ hf, hm _ (by decide +kernel), f, ts, rfl, hF.mono e1, ok, fun v2 H2 e2 q2 => ?_⟩
    obtain ⟨l, xs, rfl, hxs, hp⟩ := q2
    have e12 := e1.trans e2
    refine ⟨plD p0, (openL ts).map plD, plD_dp (hb.mono e12), .lst hxs (pls_dp hp), plD_shaped _, pls_shaped _, false, ?_, iteF ?_⟩
    · rw [any_eqv (open_mem ho)]
      rfl
    refine ⟨_, rfl, t, rfl, ht, true, rfl, iteF ?_⟩
    refine ⟨_, rfl, _, rfl, f, ts, bk, pg, rfl, hF.mono e12, ok, (hbk.mono e12).or, hpg, fun H3 e3 => ?_⟩
    have e13 := e12.trans e3
    refine ⟨true, rfl, iteF ?_⟩
    refine ⟨_, rfl, _, rfl, f, ts, wv, rfl, hF.mono e13, ok, hw.mono e13, fun H4 e4 => ?_⟩
    exact ⟨true, rfl, iteT (k _ (e13.trans e4))⟩
def spWInit (K : PySem.W.Frag) (CF CW : Addr) : Sp := fun vs H Q _ => ∃ (x dx f : Addr) (ts : Tx) (bv : V) (p0 : Pl) (t : List Nat) (bk : V) (pg : Nat → List Nat) (wv : V) (wk : Bool), vs = [.ref x, .ref f, bv, .str (sx t), bk, wv] ∧ H x = some (.ins CW dx []) ∧ FlAt K CF H f ts ∧ TsOk ts ∧ PlAt K H bv p0 ∧ IsOpen ts p0 ∧ t ∈ turnsL ∧
  BkAt H bk ts pg ∧ PgOk pg ∧ WsC K H wv ts wk ∧ ∀ H' gs, Same (cut x H) H' → WdAt K CF CW H' x ts pg p0 gs (some (p0, t)) → (wk = true → gs = []) → Q .non H'
abbrev sWInit : Stmt := inClass (topS 41) 0
theorem sc_winit : FnScope ["self", "floor", "begin", "turn", "book", "wishes", "wrong", "letter"] ["self", "floor", "begin", "turn", "book", "wishes"] (defScope sWInit) := ⟨rfl, rfl, rfl, by decide +kernel, rfl, by decide +kernel, by decide +kernel⟩
def wfs (g d go op fv : V) : List (Str × V) := putF "first" fv (putF "opening" op (putF "goals" go (putF "pages" d (putF "ground" g []))))
theorem wfs_len (g d go op fv : V) : (wfs g d go op fv).length ≤ 5 := by
  unfold wfs
  have h1 := length_putF ("ground" : Str) g []
  have h2 := length_putF ("pages" : Str) d (putF "ground" g [])
  have h3 := length_putF ("goals" : Str) go (putF "pages" d (putF "ground" g []))
  have h4 := length_putF ("opening" : Str) op (putF "goals" go (putF "pages" d (putF "ground" g [])))
  have h5 := length_putF ("first" : Str) fv (putF "opening" op (putF "goals" go (putF "pages" d (putF "ground" g []))))
  simp only [List.length_nil] at h1
  omega
theorem wfs_ground (g d go op fv : V) : (wfs g d go op fv).lookup ("ground" : Str) = some g := by
  unfold wfs
  rw [lookup_putF, if_neg (by decide +kernel), lookup_putF, if_neg (by decide +kernel), lookup_putF, if_neg (by decide +kernel), lookup_putF, if_neg (by decide +kernel), lookup_putF, if_pos rfl]
theorem wfs_pages (g d go op fv : V) : (wfs g d go op fv).lookup ("pages" : Str) = some d := by
  unfold wfs
  rw [lookup_putF, if_neg (by decide +kernel), lookup_putF, if_neg (by decide +kernel), lookup_putF, if_neg (by decide +kernel), lookup_putF, if_pos rfl]
theorem wfs_goals (g d go op fv : V) : (wfs g d go op fv).lookup ("goals" : Str) = some go := by
  unfold wfs
  rw [lookup_putF, if_neg (by decide +kernel), lookup_putF, if_neg (by decide +kernel), lookup_putF, if_pos rfl]
theorem wfs_opening (g d go op fv : V) : (wfs g d go op fv).lookup ("opening" : Str) = some op := by
  unfold wfs
  rw [lookup_putF, if_neg (by decide +kernel), lookup_putF, if_pos rfl]
theorem wfs_first (g d go op fv : V) : (wfs g d go op fv).lookup ("first" : Str) = some fv := by
  unfold wfs
  rw [lookup_putF, if_pos rfl]
theorem wfs_no (g d go op fv : V) (m : Str) (h : m ∉ wNames) : (wfs g d go op fv).lookup m = none := by
  unfold wNames at h
  simp only [List.mem_cons, List.not_mem_nil, or_false, not_or] at h
  obtain ⟨h1, h2, h3, h4, h5⟩ := h
  unfold wfs
  rw [lookup_putF, if_neg h5, lookup_putF, if_neg h4, lookup_putF, if_neg h3, lookup_putF, if_neg h2, lookup_putF, if_neg h1]
  rfl
theorem bd_has {ts : Tx} (ok : TsOk ts) {p : Pl} (h : has ts p = true) : TS.Bd 64 [p.1, p.2] := by
  obtain ⟨⟨a, b⟩, c, d⟩ := has_iff.mp h
  have h1 := ok.l6
  have h2 := ok.c6
  intro n hn
  have e : n = p.1 ∨ n = p.2 := by simpa using hn
  rcases e with e | e
  · rw [e]
    constructor <;> omega
  · rw [e]
    constructor <;> omega
theorem winit_ok (T : Txt K mg CF CW) {f d : Addr} {fd : FuncData} (F : FunD K "__init__" "World.__init__" (defArgs sWInit) (defBody sWInit) (defScope sWInit) [] [("turn", .str (sx DL)), ("book", .non), ("wishes", .ref d)] f fd) :
    FnOk P w K mg base CX0 8 f fd ["self", "floor", "begin", "turn", "book", "wishes"] (spWInit K CF CW) := by
  refine F.ok sc_winit (fun vs H Q E h => ?_) (fun cdv A outer s H vs Q E hr h => ?_)
  · obtain ⟨_, _, _, _, _, _, _, _, _, _, _, rfl, _⟩ := h
    rfl
  · obtain ⟨x, dx, f, ts, bv, p0, t, bk, pg, wv, wk, rfl, hx, hF, ok, hb, ho, ht, hbk, hpg, hwc, k⟩ := h
    refine ⟨_, PSs.nox (pss_cons (ps_set (i := 6) sc_winit.nd rfl (.inl rfl) (pe_c (c_first_wrong T) hr (by decide) rfl (pa_cons (pv 1) (pa_cons (pv 2) (pa_cons (pv 3) (pa_cons (pv 4) (pa_cons (pv 5) pa_nil)))))))
      (pss_cons (ps_if (pt_cmp (pc_notN (pv 6))) pss_never pss_nil)
      (pss_cons (ps_fld (pv 0) (pv 1) rfl)
      (pss_cons (ps_fld (pv 0) (pe_dc (own := [("letter", 7)]) (g := gName 7) (tt := tYes) rfl sc_winit.nd (pi_str (pe_mt0 (c_letters T) hr (by decide) (pv 1))) (blkOk_by (own := [("letter", 7)]) (N := ["self", "floor", "begin", "turn", "book", "wishes", "wrong", "letter"]) (sc := defScope sWInit) (by decide +kernel))
        (fun _ _ _ _ _ => pg_name (i := 7) sc_winit.nd rfl (Or.inl rfl)) (fun _ _ _ _ _ => pts_nil) (fun _ _ _ _ _ => pv 7)
        (fun _ _ _ _ _ => pe_ifExp (pt_cmp (pc_isN (pv 4))) (pe_gc T.DEEDS rfl) (pe_dget (hu_of hr) (pv 4) (pv 7) (fun _ _ => rfl)))) rfl)
      (pss_cons (ps_fld (pv 0) (pe_callTy call_tuple_of rfl T.tuple bt_tuple (pa_cons (pe_callB (CallR_or (cr_sortT (d := 2) (B := 64) (by decide)) cr_sorted0) rfl T.sorted bt_sorted (pa_cons (pv 5) pa_nil)) pa_nil)) rfl)
      (pss_cons (ps_fld (pv 0) (pv 2) rfl)
      (pss_one (ps_fld (pv 0) (pe_tup (pa_cons (pv 2) (pa_cons (pv 3) pa_nil))) rfl)))))))), ?_⟩
    have hF0 := cut_fl hx hF
    have hb0 := cut_pl hx hb
    have hw := hwc.ws
    have hbk0 : BkAt (cut x H) bk ts pg := by
      rcases hbk with h | ⟨d, h1, h2⟩
      · exact .inl h
      · exact .inr ⟨d, h1, cut_pg hx h2⟩
    refine ⟨_, rfl, _, rfl, _, rfl, _, rfl, _, rfl, f, ts, bv, p0, t, bk, pg, wv, rfl, hF, ok, hb, ho, ht, hbk, hpg, hw, fun H1 e1 => ?_⟩
    refine ⟨_, rfl, false, rfl, iteF ?_⟩
    have g1 : Same (cut x H) H1 := cut_same.trans e1
    have x1 := e1 _ _ hx
    -- self.ground = floor
    refine ⟨_, rfl, _, rfl, x, CW, dx, [], rfl, x1, T.clW, T.nGround, by show 0 < 1000; decide, ?_⟩
    have g2 := cut_put (o := .ins CW dx (putF "ground" (.ref f) [])) g1
    have x2 : (upd H1 x (.ins CW dx (putF "ground" (.ref f) []))) x = some (.ins CW dx (putF "ground" (.ref f) [])) := upd_same
    generalize upd H1 x (.ins CW dx (putF "ground" (.ref f) [])) = H2 at g2 x2
    -- self.pages = ..
    obtain ⟨fdx, ffs, fa, hf, hl, hm, hft⟩ := id (hF0.mono g2)
    refine ⟨_, rfl, f, fdx, ffs, rfl, hf, hm _ (by decide +kernel), f, ts, rfl, hF0.mono g2, ok, fun H3 e3 => ?_⟩
    have g3 := g2.trans e3
    have x3 := e3 _ _ x2
    refine ⟨sx (letL ts), rfl, fun D hD => ?_⟩
    have hnl : (sx (letL ts)).cps.size = (letL ts).length := by simp [sx]
    refine ⟨fun i m H' => m = (letL ts).length - i ∧ i ≤ (letL ts).length ∧ Same H3 H' ∧ H' D = some (.dK (kvsOf pg ((letL ts).take i))), ⟨(letL ts).length, by simp, Nat.zero_le _, same_new hD, upd_same⟩, ?_⟩
    rintro i m H4 ⟨rfl, hi, e4, hd4⟩
    by_cases hlt : i < (letL ts).length
    · refine .inr ⟨by show i < (sx (letL ts)).cps.size; omega, fun H' => Same H3 H' ∧ H' D = some (.dK (kvsOf pg ((letL ts).take (i + 1)))), fun H' p' => ⟨(letL ts).length - (i + 1), by omega, rfl, hlt, p'⟩, ?_⟩
      rintro y H5 ⟨rfl, c, hc, rfl⟩
      have hc' := sx_get hc
      obtain ⟨hm1, hm2⟩ := mem_letL (List.mem_of_getElem? hc')
      have hlen : (kvsOf pg ((letL ts).take i)).length < sizeLine := by
        unfold kvsOf
        rw [List.length_map, List.length_take]
        have := letL_len ts
        exact sz_lt (by omega)
      have hput : putK (kvsOf pg ((letL ts).take i)) (Sum.inr (sx [c])) (V.str (sx (pg c))) = kvsOf pg ((letL ts).take (i + 1)) := by
        rw [putK_new _ (by rw [valV_kvs, if_neg (not_mem_take (letL_nodup ts) hc')]), take_snoc hc']
        unfold kvsOf
        rw [List.map_append]
        rfl
      refine ⟨rfl, ?_⟩
      refine ⟨_, rfl, ?_⟩
      have fin : (upd H5 D (.dK (putK (kvsOf pg ((letL ts).take i)) (Sum.inr (sx [c])) (V.str (sx (pg c)))))) D = some (.dK (kvsOf pg ((letL ts).take (i + 1)))) := by rw [upd_same, hput]
      rcases hbk0 with ⟨rfl, rfl⟩ | ⟨d, rfl, hd⟩
      · exact ⟨_, rfl, true, rfl, iteT ⟨_, Sum.inr (sx [c]), rfl, hd4, hlen, same_mut e4 hD, fin⟩⟩
      · refine ⟨_, rfl, false, rfl, iteF ?_⟩
        obtain ⟨kvs, hk1, hk2, hk3⟩ := hd.mono (g3.trans e4)
        have hg := DGet.k (k := Sum.inr (sx [c])) hk1
        rw [hk3 c hm1 hm2] at hg
        exact ⟨_, rfl, _, rfl, d, _, rfl, hg, _, Sum.inr (sx [c]), rfl, hd4, hlen, same_mut e4 hD, fin⟩
    · have ei : i = (letL ts).length := by omega
      subst ei
      refine .inl ⟨by show (sx (letL ts)).cps.size ≤ (letL ts).length; omega, ?_⟩
      rw [List.take_length] at hd4
      have g4 := g3.trans e4
      have x4 := e4 _ _ x3
      have l1 := length_putF ("ground" : Str) (.ref f) []
      have l2 := length_putF ("pages" : Str) (.ref D) (putF "ground" (.ref f) [])
      simp only [List.length_nil] at l1
      refine ⟨_, rfl, x, CW, dx, _, rfl, x4, T.clW, T.nPages, by omega, ?_⟩
      have hD0 : cut x H D = none := by
        have := g3.free hD
        exact this
      have hpgD : PgAt (upd (cut x H) D (.dK (kvsOf pg (letL ts)))) D ts pg := by
        refine ⟨_, upd_same, by unfold kvsOf; rw [List.length_map]; rfl, fun c h1 h2 => ?_⟩
        rw [valV_kvs, if_pos (show c ∈ letL ts from List.mem_filter.mpr ⟨h1, h2⟩)]
      have nDx : D ≠ x := fun e => by
        rw [e, x3] at hD
        cases hD
      -- G: what stands, with the new dict
      have g5 : Same (upd (cut x H) D (.dK (kvsOf pg (letL ts)))) (upd H4 x (.ins CW dx (putF "pages" (.ref D) (putF "ground" (.ref f) [])))) := fun b o hb => by
        by_cases hbD : b = D
        · subst hbD
          rw [upd_same] at hb
          rw [upd_ne nDx, ← hb]
          exact hd4
        · rw [upd_ne hbD] at hb
          exact cut_put g4 b o hb
      have x5 : (upd H4 x (.ins CW dx (putF "pages" (.ref D) (putF "ground" (.ref f) [])))) x = some (.ins CW dx (putF "pages" (.ref D) (putF "ground" (.ref f) []))) := upd_same
      generalize upd H4 x (.ins CW dx (putF "pages" (.ref D) (putF "ground" (.ref f) []))) = H5 at g5 x5
      have c5 : Same (cut x H) (upd (cut x H) D (.dK (kvsOf pg (letL ts)))) := same_new hD0
      have nx5 : (upd (cut x H) D (.dK (kvsOf pg (letL ts)))) x = none := by rw [upd_ne (Ne.symm nDx)]; exact cut_self
      generalize upd (cut x H) D (.dK (kvsOf pg (letL ts))) = G at g5 c5 nx5 hpgD
      -- self.goals = tuple(sorted(wishes))
      have rest : ∀ (gs : List V) (go : Addr) (H6 : Hp), Same H5 H6 → SqT K H6 go gs → (wk = true → gs = []) →
          ∃ a C dx' fs', V.ref x = .ref a ∧ H6 a = some (.ins C dx' fs') ∧ Cls K C ∧ NoAttr K C "goals" ∧ fs'.length < 1000 ∧
            (tSeq (sFld K (tVar 0) (tVar 2) "opening") (sFld K (tVar 0) (tTup (tCons (tVar 2) (tCons (tVar 3) tNil))) "first")) { nx := fun _ H' => Q .non H', rt := Q } [some (.ref x), some (.ref f), some bv, some (.str (sx t)), some bk, some wv, some .non, none] (upd H6 a (.ins C dx' (putF "goals" (.ref go) fs'))) := by
        intro gs go H6 e6 hgo hgs
        have g6 := g5.trans e6
        have x6 := e6 _ _ x5
        have l3 := length_putF ("goals" : Str) (.ref go) (putF "pages" (.ref D) (putF "ground" (.ref f) []))
        have l4 := length_putF ("opening" : Str) bv (putF "goals" (.ref go) (putF "pages" (.ref D) (putF "ground" (.ref f) [])))
        refine ⟨x, CW, dx, _, rfl, x6, T.clW, T.nGoals, by omega, ?_⟩
        have hgo' : SqT K (cut x H6) go gs := cut_tup x6 (fun _ z => by cases z) (fun _ _ z => by cases z) hgo
        have g7 : Same (cut x H6) (upd H6 x (.ins CW dx (putF "goals" (.ref go) (putF "pages" (.ref D) (putF "ground" (.ref f) []))))) := cut_put cut_same
        have g7' : Same G (cut x H6) := fun b o hb => by
          have hne : b ≠ x := fun e => by
            rw [e, nx5] at hb
            cases hb
          rw [cut_ne hne]
          exact g6 b o hb
        refine ⟨_, rfl, _, rfl, x, CW, dx, _, rfl, upd_same, T.clW, T.nOpening, by omega, ?_⟩
        have g8 : Same (cut x H6) (upd (upd H6 x (.ins CW dx (putF "goals" (.ref go) (putF "pages" (.ref D) (putF "ground" (.ref f) []))))) x (.ins CW dx (putF "opening" bv (putF "goals" (.ref go) (putF "pages" (.ref D) (putF "ground" (.ref f) [])))))) := same_mut g7 cut_self
        have x8 : (upd (upd H6 x (.ins CW dx (putF "goals" (.ref go) (putF "pages" (.ref D) (putF "ground" (.ref f) []))))) x (.ins CW dx (putF "opening" bv (putF "goals" (.ref go) (putF "pages" (.ref D) (putF "ground" (.ref f) [])))))) x = some (.ins CW dx (putF "opening" bv (putF "goals" (.ref go) (putF "pages" (.ref D) (putF "ground" (.ref f) []))))) := upd_same
        generalize upd (upd H6 x (.ins CW dx (putF "goals" (.ref go) (putF "pages" (.ref D) (putF "ground" (.ref f) []))))) x (.ins CW dx (putF "opening" bv (putF "goals" (.ref go) (putF "pages" (.ref D) (putF "ground" (.ref f) []))))) = H8 at g8 x8
        refine ⟨_, rfl, _, rfl, by show 2 ≤ sizeLine; decide, fun q hq => ?_⟩
        have e9 : Same H8 (upd H8 q (.tup [bv, .str (sx t)])) := same_new hq
        have g9 := g8.trans e9
        refine ⟨_, rfl, x, CW, dx, _, rfl, e9 _ _ x8, T.clW, T.nFirst, by omega, ?_⟩
        have g10 : Same (cut x H6) (upd (upd H8 q (.tup [bv, .str (sx t)])) x (.ins CW dx (wfs (.ref f) (.ref D) (.ref go) bv (.ref q)))) := same_mut g9 cut_self
        have gG := g7'.trans g10
        have gH := c5.trans gG
        have nqx : q ≠ x := fun e => by
          rw [e, x8] at hq
          cases hq
        refine k _ gs gH ⟨dx, wfs (.ref f) (.ref D) (.ref go) bv (.ref q), f, D, go, bv, .ref q, upd_same, by have := wfs_len (.ref f) (.ref D) (.ref go) bv (.ref q); omega, wfs_ground _ _ _ _ _, wfs_pages _ _ _ _ _, wfs_goals _ _ _ _ _, wfs_opening _ _ _ _ _, wfs_first _ _ _ _ _, wfs_no _ _ _ _ _,
          hF0.mono gH, hpgD.mono gG, same_tup g10 hgo', hb0.mono gH, ⟨q, bv, rfl, SqT.of (by rw [upd_ne nqx]; exact upd_same), hb0.mono gH⟩⟩ hgs
      refine ⟨_, rfl, ?_⟩
      have hw5 : (wk = false ∧ ∃ l vs ps, wv = .ref l ∧ SqL K H5 l vs ∧ Paired (PlAt K H5) vs ps ∧ (∀ p ∈ ps, has ts p = true) ∧ ps.length < 64) ∨ ∃ d, wv = .ref d ∧ SqT K H5 d [] := by
        have up : ∀ d, wv = .ref d → SqT K H d [] → SqT K H5 d [] := fun d _ hd => same_tup (c5.trans g5) (cut_tup hx (fun _ z => by cases z) (fun _ _ z => by cases z) hd)
        rcases hwc with ⟨hk, hw⟩ | ⟨d, h1, h2⟩
        · have hw5 := (cut_ws hx hw).mono (c5.trans g5)
          rcases hw5 with ⟨l, vs, ps, hwv, h2, h3, _, h5, h6⟩ | ⟨d, hwv, h2⟩
          · exact .inl ⟨hk, l, vs, ps, hwv, h2, h3, h5, h6⟩
          · exact .inr ⟨d, hwv, h2⟩
        · exact .inr ⟨d, h1, up d h1 h2⟩
      rcases hw5 with ⟨hk, l, vs, ps, hwv, h2, h3, h5, h6⟩ | ⟨d, hwv, h2⟩
      · subst hwv
        refine .inl ⟨l, vs, rfl, h2, by rw [paired_len h3]; exact h6, fun v hv => ?_, fun ys q hperm _ hq => ?_⟩
        · obtain ⟨i, hi⟩ := List.getElem?_of_mem hv
          obtain ⟨p, hp1, hp2⟩ := L2.paired_get h3 hi
          obtain ⟨a, rfl, ha⟩ := hp2
          exact ⟨[p.1, p.2], ⟨a, rfl, ha⟩, rfl, bd_has ok (h5 p (List.mem_of_getElem? hp1))⟩
        · have e6 : Same H5 (upd H5 q (.lst ys)) := same_new hq
          refine ⟨q, ys, rfl, .inl ⟨SqL.of upd_same, fun r hr' => ?_⟩⟩
          refine ⟨_, rfl, rest ys r _ (e6.trans (same_new hr')) (SqT.of upd_same) fun e => ?_⟩
          rw [hk] at e
          cases e
      · subst hwv
        refine .inr ⟨d, rfl, h2, fun q hq => ?_⟩
        have e6 : Same H5 (upd H5 q (.lst [])) := same_new hq
        refine ⟨q, [], rfl, .inl ⟨SqL.of upd_same, fun r hr' => ?_⟩⟩
        exact ⟨_, rfl, rest [] r _ (e6.trans (same_new hr')) (SqT.of upd_same) fun _ => rfl⟩
end
end Oh
namespace Oh
open PySem PySem.Spec PyProof.Rows L2
section
variable {P : Program} {w : World} {K : PySem.W.Frag} {mg : Str → Option Value} {base : Heap} {CF CW : Addr}
abbrev wPs : List Str := ["self", "floor", "begin", "turn", "book", "wishes"]
structure WKit (P : Program) (w : World) (K : PySem.W.Frag) (mg : Str → Option Value) (base : Heap) (CF CW : Addr) (d : Addr) : Prop where
  e : ∀ H, SqT K H d []
  ex : ∃ (f : Addr) (fd : FuncData) (ds mv mv' : List Value), Mk K CW f ∧ FnOk P w K mg base CX0 8 f fd wPs (spWInit K CF CW) ∧ mg "World" = some (.ref CW) ∧ Vals [.str (sx DL), .non, .ref d] ds ∧ Binds K fd wPs ds ∧
    KBn K fd wPs 3 ["turn", "book", "wishes"] (fun us ws => us ++ ws) (fun vs zs => vs ++ zs) ∧ KBn K fd wPs 3 ["book", "wishes"] (fun us ws => us ++ (mv' ++ ws)) (fun vs zs => vs ++ ([.str (sx DL)] ++ zs))
theorem w_kit (T : Txt K mg CF CW) : ∃ d, WKit P w K mg base CF CW d := by
  obtain ⟨f, fd, d, M, hm, hd, F⟩ := T.mkW
  refine ⟨d, hd, ?_⟩
  obtain ⟨ds, h1, h2⟩ := F.binds0 (ps := wPs) 3 (by simp) rfl (fun D doc pm an cdv ct us ks hu hk => by
    match us, hu, ks, hk with
    | [u1, u2, u3], _, [k1, k2, k3], _ => exact ⟨_, _, _, _, _, _, rfl, rfl, _, _, _, _, _, _, rfl, rfl, _, _, _, _, _, _, rfl, rfl, rfl⟩)
  obtain ⟨mv, h3⟩ := F.kbinds0 (ps := wPs) 3 ["turn", "book", "wishes"] [] (fun us _ ws => us ++ ws) (by simp) (fun q hq => by cases hq) (fun a _ c => a.append c) (fun D doc pm an cdv ct us mv ws hu hm hw => by
    match us, hu, ws, hw with
    | [u1, u2, u3], _, [k1, k2, k3], _ => exact rfl)
  obtain ⟨mv', h4⟩ := F.kbinds0 (ps := wPs) 3 ["book", "wishes"] [("turn", .str (sx DL))] (fun us mv ws => us ++ (mv ++ ws)) (by simp) (fun q hq => by rw [List.mem_singleton.mp hq]; exact List.mem_cons_self ..) (fun a b c => a.append (b.append c)) (fun D doc pm an cdv ct us mv ws hu hm hw => by
    match us, hu, mv, hm, ws, hw with
    | [u1, u2, u3], _, [m], _, [k1, k2], _ => exact ⟨_, _, _, _, _, _, rfl, rfl, rfl⟩)
  exact ⟨f, fd, ds, mv, mv', M, winit_ok T F, hm, h1, h2, h3, h4⟩
end
section
variable {X : Cx} {j : Nat} {CF CW d : Addr} {p pos : Pos} {e : Expr} {es : List Expr} {kws : List Keyword} {t tk : TA}
theorem pe_w2 (c : WKit X.prog X.w X.K X.mg X.base CF CW d) (hr : Room j X.A) (hk : 9 ≤ j) (hg : Gl X "World") (ha : PA X (e :: es) t)
    (he : starEach (e :: es) X.env = (false, eval e X.env) :: starEach es X.env := by rfl) (hpl : (backTo pos (starEach es X.env)).any (·.1) = false := by rfl) :
    PE X (.Call (.Name "World" p) (e :: es) [] pos) (tMake CW (spWInit X.K CF CW) [.str (sx DL), .non, .ref d] E0 t) := by
  obtain ⟨f, fd, ds, mv, mv', M, F, hm, h1, h2, h3, h4⟩ := c.ex
  exact pe_make M F (hr.mono hk) hg hm h2 h1 pass0 ha (by decide) he hpl
theorem pe_w5 (c : WKit X.prog X.w X.K X.mg X.base CF CW d) (hr : Room j X.A) (hk : 9 ≤ j) (hg : Gl X "World") (ha : PA X (e :: es) t) (hkw : PK X kws tk)
    (hall : (backToKw pos (keywordEach kws X.env)).all (·.1.isSome) = true := by rfl) (hks : (backToKw pos (keywordEach kws X.env)).filterMap (·.1) = (["turn", "book", "wishes"] : List Str) := by rfl)
    (he : starEach (e :: es) X.env = (false, eval e X.env) :: starEach es X.env := by rfl) (hpl : ((backTo pos (starEach (e :: es) X.env)).any (·.1) || (backToKw pos (keywordEach kws X.env)).any (·.1.isNone)) = false := by rfl) :
    PE X (.Call (.Name "World" p) (e :: es) kws pos) (tMakeK CW 2 3 (spWInit X.K CF CW) (fun vs zs => vs ++ zs) E0 t tk) := by
  obtain ⟨f, fd, ds, mv, mv', M, F, hm, h1, h2, h3, h4⟩ := c.ex
  exact pe_makeK M F (hr.mono hk) hg hm h3 pass0 ha hkw hall hks (by decide) he hpl
theorem pe_w4 (c : WKit X.prog X.w X.K X.mg X.base CF CW d) (hr : Room j X.A) (hk : 9 ≤ j) (hg : Gl X "World") (ha : PA X (e :: es) t) (hkw : PK X kws tk)
    (hall : (backToKw pos (keywordEach kws X.env)).all (·.1.isSome) = true := by rfl) (hks : (backToKw pos (keywordEach kws X.env)).filterMap (·.1) = (["book", "wishes"] : List Str) := by rfl)
    (he : starEach (e :: es) X.env = (false, eval e X.env) :: starEach es X.env := by rfl) (hpl : ((backTo pos (starEach (e :: es) X.env)).any (·.1) || (backToKw pos (keywordEach kws X.env)).any (·.1.isNone)) = false := by rfl) :
    PE X (.Call (.Name "World" p) (e :: es) kws pos) (tMakeK CW 2 2 (spWInit X.K CF CW) (fun vs zs => vs ++ ([.str (sx DL)] ++ zs)) E0 t tk) := by
  obtain ⟨f, fd, ds, mv, mv', M, F, hm, h1, h2, h3, h4⟩ := c.ex
  exact pe_makeK M F (hr.mono hk) hg hm h4 pass0 ha hkw hall hks (by decide) he hpl
end
end Oh
namespace Oh
open PySem PySem.Spec PyProof.Rows L2
theorem putF_same_len (f : Str) (v : V) : ∀ (fs : List (Str × V)) (u : V), fs.lookup f = some u → (putF f v fs).length = fs.length
  | [], u, h => by cases h
  | (k, x) :: r, u, h => by
    unfold putF
    by_cases e : k = f
    · rw [if_pos e]
      rfl
    · rw [if_neg e]
      have h2 : r.lookup f = some u := by
        rw [List.lookup_cons] at h
        have : (f == k) = false := by
          rw [beq_eq_false_iff_ne]
          exact fun z => e z.symm
        rw [this] at h
        exact h
      show (putF f v r).length + 1 = r.length + 1
      rw [putF_same_len f v r u h2]
section
variable {P : Program} {w : World} {K : PySem.W.Frag} {mg : Str → Option Value} {base : Heap} {CF CW : Addr}
theorem tup_ins {H : Hp} {a t C C' dx dx' : Addr} {fs fs' : List (Str × V)} {xs : List V} (h : H a = some (.ins C dx fs)) (q : SqT K H t xs) : SqT K (upd H a (.ins C' dx' fs')) t xs := by
  rcases q with (q | ⟨o, q⟩) | q
  · exact .inl (.inl (by rw [upd_ne (ne_of q h (by intro z; cases z))]; exact q))
  · exact .inl (.inr ⟨o, by rw [upd_ne (ne_of q h (by intro z; cases z))]; exact q⟩)
  · exact .inr q
theorem pl_ins {H : Hp} {a C C' dx dx' : Addr} {fs fs' : List (Str × V)} {v : V} {p : Pl} (h : H a = some (.ins C dx fs)) (q : PlAt K H v p) : PlAt K (upd H a (.ins C' dx' fs')) v p := by
  obtain ⟨t, e, q⟩ := q
  exact ⟨t, e, tup_ins h q⟩
theorem sd_ins {H : Hp} {a C C' dx dx' : Addr} {fs fs' : List (Str × V)} {v : V} {s : Sd} (h : H a = some (.ins C dx fs)) (q : SdAt K H v s) : SdAt K (upd H a (.ins C' dx' fs')) v s := by
  cases s with
  | none => exact q
  | some pt =>
    obtain ⟨b, u, h1, h2, h3⟩ := q
    exact ⟨b, u, h1, tup_ins h h2, pl_ins h h3⟩
/-- self.first = v -/
theorem wd_first {H : Hp} {a : Addr} {ts : Tx} {pg : Nat → List Nat} {p0 : Pl} {gs : List V} {s s' : Sd} {v : V} (h : WdAt K CF CW H a ts pg p0 gs s) (hv : SdAt K H v s') :
    ∃ dx fs, H a = some (.ins CW dx fs) ∧ fs.length < 1000 ∧ WdAt K CF CW (upd H a (.ins CW dx (putF "first" v fs))) a ts pg p0 gs s' := by
  obtain ⟨dx, fs, g, d, go, op, fv, h1, h2, h3, h4, h5, h6, h7, h8, ⟨gdx, gfs, T, g1, g2, g3, g4⟩, ⟨kvs, d1, d2⟩, h11, h12, h13⟩ := h
  refine ⟨dx, fs, h1, h2, dx, putF "first" v fs, g, d, go, op, v, upd_same, ?_, ?_, ?_, ?_, ?_, ?_, ?_, ⟨gdx, gfs, T, ?_, g2, g3, tup_ins h1 g4⟩, ⟨kvs, ?_, d2⟩, tup_ins h1 h11, pl_ins h1 h12, sd_ins h1 hv⟩
  · rw [putF_same_len _ _ _ _ h7]
    exact h2
  · rw [lookup_putF, if_neg (by decide +kernel)]
    exact h3
  · rw [lookup_putF, if_neg (by decide +kernel)]
    exact h4
  · rw [lookup_putF, if_neg (by decide +kernel)]
    exact h5
  · rw [lookup_putF, if_neg (by decide +kernel)]
    exact h6
  · rw [lookup_putF, if_pos rfl]
  · intro m hm
    rw [lookup_putF, if_neg (fun e => hm (by rw [e]; decide +kernel))]
    exact h8 m hm
  · rw [upd_ne]
    · exact g1
    · intro e
      rw [e, h1] at g1
      injection g1 with g1
      injection g1 with _ _ g1
      rw [← g1, h8 _ (by decide +kernel)] at g2
      cases g2
  · rw [upd_ne (ne_of d1 h1 (by intro z; cases z))]
    exact d1
def spWantStand (K : PySem.W.Frag) (CF CW : Addr) : Sp := fun vs H Q _ => ∃ (a : Addr) (v : V) (ts : Tx) (pg : Nat → List Nat) (p0 : Pl) (gs : List V) (s : Sd) (p : Pl) (t : List Nat), vs = [.ref a, v] ∧ WdAt K CF CW H a ts pg p0 gs s ∧ TsOk ts ∧ SdAt K H v (some (p, t)) ∧ canStand ts p = true ∧ t ∈ turnsL ∧ ∀ H', Same H H' → Q .non H'
theorem sc_want_stand : FnScope ["self", "thing"] ["self", "thing"] (defScope (inClass (topS 41) 6)) := ⟨rfl, rfl, rfl, by decide +kernel, rfl, by decide +kernel, by decide +kernel⟩
theorem c_want_stand (T : Txt K mg CF CW) : Met P w K mg base 8 CW "want_stand" (spWantStand K CF CW) := by
  refine met_mk T.w_want_stand T.clW sc_want_stand (fun _ _ _ _ _ _ us hl => match us, hl with | [_, _], _ => rfl) (fun vs H Q E h => ?_) (fun f cdv A outer s H vs Q E hr h => ?_)
  · obtain ⟨_, _, _, _, _, _, _, _, _, rfl, _⟩ := h
    rfl
  · obtain ⟨a, v, ts, pg, p0, gs, s, p, t, rfl, hW, ok, hv, hc, ht, k⟩ := h
    refine ⟨_, pss_one (ps_if (pt_not (pt_val (pe_c (c_is_stand T) hr (by decide) rfl (pa_cons (pe_fld (pv 0) rfl) (pa_cons (pv 1) pa_nil))))) pss_never pss_nil), ?_⟩
    obtain ⟨dx, fs, g, d, go, op, fv, h1, h2, h3, h4, h5, h6, h7, h8, h9, h10, h11, h12, h13⟩ := id hW
    refine ⟨_, rfl, a, CW, dx, fs, _, rfl, h1, T.clW, T.nGround, h3, _, rfl, g, ts, v, p, t, rfl, h9, ok, hv, hc, ht, fun H1 e1 => ?_⟩
    exact ⟨true, rfl, iteF (k _ e1)⟩
def spBegun (K : PySem.W.Frag) (CF CW : Addr) : Sp := fun vs H Q _ => ∃ (a : Addr) (v : V) (ts : Tx) (pg : Nat → List Nat) (p0 : Pl) (s : Sd) (p : Pl) (t : List Nat), vs = [.ref a, v] ∧ WdAt K CF CW H a ts pg p0 [] s ∧ TsOk ts ∧ IsOpen ts p0 ∧ PgOk pg ∧ SdAt K H v (some (p, t)) ∧ canStand ts p = true ∧ t ∈ turnsL ∧
  ∀ a' H', Same H H' → WdAt K CF CW H' a' ts pg p0 [] (some (p, t)) → Q (.ref a') H'
theorem sc_begun : FnScope ["self", "stand", "found"] ["self", "stand"] (defScope (inClass (topS 41) 7)) := ⟨rfl, rfl, rfl, by decide +kernel, rfl, by decide +kernel, by decide +kernel⟩
theorem c_begun (T : Txt K mg CF CW) : Met P w K mg base 10 CW "begun" (spBegun K CF CW) := by
  obtain ⟨dw, wk⟩ := w_kit (P := P) (w := w) (base := base) T
  refine met_mk T.w_begun T.clW sc_begun (fun _ _ _ _ _ _ us hl => match us, hl with | [_, _], _ => rfl) (fun vs H Q E h => ?_) (fun f cdv A outer s H vs Q E hr h => ?_)
  · obtain ⟨_, _, _, _, _, _, _, _, rfl, _⟩ := h
    rfl
  · obtain ⟨a, v, ts, pg, p0, s, p, t, rfl, hW, ok, ho, hpg, hv, hc, ht, k⟩ := h
    refine ⟨_, pss_cons (ps_expr (pe_mt (c_want_stand T) hr (by decide) (pv 0) (pa_cons (pv 1) pa_nil)))
      (pss_cons (ps_set (i := 2) sc_begun.nd rfl (.inl rfl) (pe_w4 wk hr (by decide) rfl (pa_cons (pe_fld (pv 0) rfl) (pa_cons (pe_fld (pv 0) rfl) pa_nil)) (pk_cons (pe_fld (pv 0) rfl) (pk_cons (pe_fld (pv 0) rfl) pk_nil))))
      (pss_cons (ps_fld (pv 2) (pv 1) rfl) (pss_one (ps_ret (pv 2))))), ?_⟩
    obtain ⟨dx, fs, g, d, go, op, fv, h1, h2, h3, h4, h5, h6, h7, h8, h9, h10, h11, h12, h13⟩ := id hW
    refine ⟨_, rfl, a, dx, fs, rfl, h1, h8 _ (by decide +kernel), _, rfl, a, v, ts, pg, p0, [], s, p, t, rfl, hW, ok, hv, hc, ht, fun H1 e1 => ?_⟩
    have h1' := e1 _ _ h1
    refine ⟨_, rfl, a, CW, dx, fs, _, rfl, h1', T.clW, T.nGround, h3, ?_⟩
    refine ⟨_, rfl, a, CW, dx, fs, _, rfl, h1', T.clW, T.nOpening, h6, ?_⟩
    refine ⟨_, rfl, a, CW, dx, fs, _, rfl, h1', T.clW, T.nPages, h4, ?_⟩
    refine ⟨_, rfl, a, CW, dx, fs, _, rfl, h1', T.clW, T.nGoals, h5, rfl, rfl, fun x xd hx hxd hne => ?_⟩
    have e2 : Same H1 (upd (upd H1 xd (.own x)) x (.ins CW xd [])) := (same_new hxd).trans (same_new (by rw [upd_ne (Ne.symm hne)]; exact hx))
    have e12 := e1.trans e2
    refine ⟨x, xd, g, ts, op, p0, DL, .ref d, pg, .ref go, true, rfl, upd_same, h9.mono e12, ok, h12.mono e12, ho, DL_turn, .inr ⟨d, rfl, h10.mono e12⟩, hpg, .inr ⟨go, rfl, same_tup e12 h11⟩, fun H3 gs e3 hW3 hgs => ?_⟩
    have e3' : Same H1 H3 := fun b o hb => e3 b o (by rw [cut_ne (ne_of_none hb hx)]; exact e2 b o hb)
    obtain rfl := hgs rfl
    have e13 := e1.trans e3'
    obtain ⟨dx3, fs3, w1, w2, w3⟩ := wd_first hW3 (hv.mono e13)
    refine ⟨rfl, ?_⟩
    refine ⟨_, rfl, _, rfl, x, CW, dx3, fs3, rfl, w1, T.clW, T.nFirst, w2, ?_⟩
    refine ⟨_, rfl, k _ _ ?_ w3⟩
    exact e1.trans (same_mut e3' hx)
def spBehind (K : PySem.W.Frag) (CF CW : Addr) : Sp := fun vs H Q _ => ∃ (a : Addr) (v : V) (c : Nat) (ts : Tx) (pg : Nat → List Nat) (p0 : Pl) (gs : List V) (s0 s : Sd), vs = [.ref a, v, .str (sx [c])] ∧ WdAt K CF CW H a ts pg p0 gs s0 ∧ TsOk ts ∧ PgOk pg ∧ SdAt K H v s ∧ SdOk ts s ∧ c ∈ DL ∧
  ∀ u H', Same H H' → SdAt K H' u (beh ts pg s c) → Q u H'
theorem sc_behind : FnScope ["self", "stand", "deed", "place", "turn", "there", "letter"] ["self", "stand", "deed"] (defScope (inClass (topS 41) 8)) := ⟨rfl, rfl, rfl, by decide +kernel, rfl, by decide +kernel, by decide +kernel⟩
theorem dget_pg {H : Hp} {d : Addr} {ts : Tx} {pg : Nat → List Nat} (h : PgAt H d ts pg) {c : Nat} (h1 : c ∈ lets) (h2 : (ts.any fun t => decide (c ∈ t)) = true) : DGet H d (.str (sx [c])) (some (.str (sx (pg c)))) := by
  obtain ⟨kvs, hk1, hk2, hk3⟩ := h
  have hg := DGet.k (k := Sum.inr (sx [c])) hk1
  rw [hk3 c h1 h2] at hg
  exact hg
theorem seen_any {ts : Tx} (ok : TsOk ts) {p : Pl} (h : has ts p = true) : (ts.any fun t => decide (seen ts p ∈ t)) = true := by
  obtain ⟨t, h1, h2, h3, _⟩ := has_sign ok h
  exact List.any_eq_true.mpr ⟨t, h2, decide_eq_true (List.mem_of_getElem? h3)⟩
theorem c_behind (T : Txt K mg CF CW) : Met P w K mg base 8 CW "behind" (spBehind K CF CW) := by
  refine met_mk T.w_behind T.clW sc_behind (fun _ _ _ _ _ _ us hl => match us, hl with | [_, _, _], _ => rfl) (fun vs H Q E h => ?_) (fun F0 cdv A outer s H vs Q E hr h => ?_)
  · obtain ⟨_, _, _, _, _, _, _, _, _, rfl, _⟩ := h
    rfl
  · obtain ⟨a, v, c, ts, pg, p0, gs, s0, st, rfl, hW, ok, hpg, hv, hs, hd, k⟩ := h
    have hu := hr.un
    have hu : (A.deeper (envOfC (Str.ofString "World.behind") (defScope (inClass (topS 41) 8)) s.heap.objs.size F0 cdv)).units + 64 < cLine := by omega
    refine ⟨_, pss_cons (ps_if (pt_cmp (pc_isN (pv 1))) (pss_one (ps_ret pe_non)) pss_nil)
      (pss_cons (ps_asg (pv 1) (pg_tup rfl (pgs_cons (pg_name (i := 3) sc_behind.nd rfl (.inl rfl)) (pgs_cons (pg_name (i := 4) sc_behind.nd rfl (.inl rfl)) pgs_nil))))
      (pss_cons (ps_set (i := 5) sc_behind.nd rfl (.inl rfl) (pe_mt (c_goes T) hr (by decide) (pe_fld (pv 0) rfl) (pa_cons (pv 3) (pa_cons (pe_c (c_way T) hr (by decide) rfl (pa_cons (pv 4) (pa_cons (pv 2) pa_nil))) pa_nil))))
      (pss_cons (ps_if (PW.pt (pw_or (pt_cmp (pc_isN (pv 5))) (pw_or1 (pt_cmpR (op_eqD hu) (pv 5) (pv 3) rfl)))) (pss_one (ps_ret (pe_ifExp (pt_cmp (pc_isN (pv 5))) pe_non (pv 1)))) pss_nil)
      (pss_cons (ps_set (i := 6) sc_behind.nd rfl (.inl rfl) (pe_mt (c_seen T) hr (by decide) (pe_fld (pv 0) rfl) (pa_cons (pv 5) pa_nil)))
      (pss_one (ps_ret (pe_tup (pa_cons (pv 5) (pa_cons (pe_ifExp (pt_cmpR op_in_sign (pv 6) (pe_gc T.LETTERS rfl) rfl) (pe_c (c_then T) hr (by decide) rfl (pa_cons (pv 4) (pa_cons (pe_dget (hu_of hr) (pe_fld (pv 0) rfl) (pv 6) (fun _ _ => rfl)) pa_nil))) (pv 4)) pa_nil))))))))), ?_⟩
    obtain ⟨dx, fs, g, d, go, op, fv, h1, h2, h3, h4, h5, h6, h7, h8, h9, h10, h11, h12, h13⟩ := id hW
    cases st with
    | none =>
      obtain rfl := hv
      exact ⟨_, rfl, true, rfl, iteT (k _ _ (.refl _) rfl)⟩
    | some pt =>
      obtain ⟨p, t⟩ := pt
      obtain ⟨hc, ht⟩ := hs p t rfl
      obtain ⟨sa, u, rfl, ha, hpl⟩ := id hv
      refine ⟨_, rfl, false, rfl, iteF ?_⟩
      refine ⟨_, rfl, sa, _, rfl, ha, rfl, _, _, rfl, _, _, rfl, rfl, ?_⟩
      obtain ⟨fdx, ffs, fa, hf, hl, hm, hft⟩ := id h9
      refine ⟨_, rfl, a, CW, dx, fs, _, rfl, h1, T.clW, T.nGround, h3, g, fdx, ffs, rfl, hf, hm _ (by decide +kernel), _, rfl, _, rfl, _, rfl, t, c, rfl, ht, hd, ?_⟩
      have hwd := way_deed t ht c hd
      refine ⟨g, ts, u, p, wayN t c, rfl, h9, ok, hpl, hc, hwd, fun tv H1 e1 q1 => ?_⟩
      refine ⟨_, rfl, ?_⟩
      cases eg : goes ts p (wayN t c) with
      | none =>
        rw [eg] at q1
        obtain rfl := q1
        refine ⟨true, rfl, iteT ?_⟩
        exact ⟨_, rfl, true, rfl, iteT (k _ _ e1 (by rw [beh_lost eg]; rfl))⟩
      | some q =>
        rw [eg] at q1
        obtain ⟨qa, rfl, hq⟩ := id q1
        refine ⟨false, rfl, iteF ?_⟩
        refine ⟨_, rfl, _, rfl, plD q, plD p, plD_dp q1, plD_dp (hpl.mono e1), plD_shaped _, plD_shaped _, _, rfl, ?_⟩
        rw [plD_eqv]
        have eb := beh_some (pg := pg) eg
        by_cases e : q = p
        · rw [decide_eq_true e]
          refine iteT ⟨_, rfl, false, rfl, iteF ⟨_, rfl, k _ _ e1 ?_⟩⟩
          rw [eb, if_pos e]
          exact hv.mono e1
        · rw [decide_eq_false e]
          rw [if_neg e] at eb
          refine iteF ?_
          have hW1 := hW.mono e1
          refine ⟨_, rfl, a, CW, dx, fs, _, rfl, e1 _ _ h1, T.clW, T.nGround, h3, g, fdx, ffs, rfl, e1 _ _ hf, hm _ (by decide +kernel), _, rfl, g, ts, .ref qa, q, rfl, h9.mono e1, ok, q1, fun H2 e2 => ?_⟩
          have e12 := e1.trans e2
          refine ⟨_, rfl, _, rfl, seen ts q, sx lets, rfl, rfl, _, rfl, ?_⟩
          have hhas := can_has (goes_can ok hwd hc eg)
          refine ite2 (fun hi => ?_) (fun hi => ?_)
          · have hi' : seen ts q ∈ lets := of_decide_eq_true hi
            rw [if_pos hi'] at eb
            refine ⟨_, rfl, _, rfl, a, CW, dx, fs, _, rfl, e12 _ _ h1, T.clW, T.nPages, h4, _, rfl, d, _, rfl, dget_pg (h10.mono e12) hi' (seen_any ok hhas), ?_⟩
            refine ⟨t, pg (seen ts q), rfl, ht, hpg.turn _ hi', fun H3 e3 => ?_⟩
            refine ⟨by show 2 ≤ sizeLine; decide, fun r hr' => ?_⟩
            have e4 := same_new (o := .tup [.ref qa, .str (sx (thenL t (pg (seen ts q))))]) hr'
            refine k _ _ ((e12.trans e3).trans e4) ?_
            rw [eb]
            exact ⟨r, .ref qa, rfl, SqT.of upd_same, ((q1.mono e2).mono e3).mono e4⟩
          · have hi' : ¬ seen ts q ∈ lets := fun z => hi (decide_eq_true z)
            rw [if_neg hi'] at eb
            refine ⟨_, rfl, ?_⟩
            refine ⟨by show 2 ≤ sizeLine; decide, fun r hr' => ?_⟩
            have e4 := same_new (o := .tup [.ref qa, .str (sx t)]) hr'
            refine k _ _ (e12.trans e4) ?_
            rw [eb]
            exact ⟨r, .ref qa, rfl, SqT.of upd_same, (q1.mono e2).mono e4⟩
end
end Oh
namespace Oh
open PySem PySem.Spec PyProof.Rows L2
section
variable {P : Program} {w : World} {K : PySem.W.Frag} {mg : Str → Option Value} {base : Heap} {CF CW : Addr}
theorem sd_upd {H : Hp} {D : Addr} {l l' : List V} {v : V} {s : Sd} (h : H D = some (.lst l)) (q : SdAt K H v s) : SdAt K (upd H D (.lst l')) v s := by
  cases s with
  | none => exact q
  | some pt =>
    obtain ⟨a, u, h1, h2, h3⟩ := q
    exact ⟨a, u, h1, sqT_upd h h2, pl_upd h h3⟩
def spGone (K : PySem.W.Frag) (CF CW : Addr) : Sp := fun vs H Q _ => ∃ (a : Addr) (v : V) (row : List Nat) (ts : Tx) (pg : Nat → List Nat) (p0 : Pl) (gs : List V) (s0 s : Sd), vs = [.ref a, v, .str (sx row)] ∧ WdAt K CF CW H a ts pg p0 gs s0 ∧ TsOk ts ∧ PgOk pg ∧ SdAt K H v s ∧ SdOk ts s ∧ (∀ c ∈ row, c ∈ DL) ∧ row.length ≤ 1000 ∧
  ∀ u H', Same H H' → LsAt K (SdAt K) H' u (gone ts pg s row) → Q u H'
theorem sc_gone : FnScope ["self", "stand", "row", "found", "deed"] ["self", "stand", "row"] (defScope (inClass (topS 41) 10)) := ⟨rfl, rfl, rfl, by decide +kernel, rfl, by decide +kernel, by decide +kernel⟩
theorem c_gone (T : Txt K mg CF CW) : Met P w K mg base 9 CW "gone" (spGone K CF CW) := by
  refine met_mk T.w_gone T.clW sc_gone (fun _ _ _ _ _ _ us hl => match us, hl with | [_, _, _], _ => rfl) (fun vs H Q E h => ?_) (fun F0 cdv A outer s H vs Q E hr h => ?_)
  · obtain ⟨_, _, _, _, _, _, _, _, _, rfl, _⟩ := h
    rfl
  · obtain ⟨a, v, row, ts, pg, p0, gs, s0, st, rfl, hW, ok, hpg, hv, hs, hd, hlen, k⟩ := h
    refine ⟨_, pss_cons (ps_set (i := 3) sc_gone.nd rfl (.inl rfl) (pe_lst (pa_cons (pv 1) pa_nil)))
      (pss_cons (ps_for PassesOwn.never rfl (pi_str (pv 2)) (pg_name (i := 4) sc_gone.nd rfl (.inl rfl))
        (pss_one (ps_expr (pe_bm PySem.F.plainAttrs_list PySem.F.slot_list_append PySem.F.type_list_append mt_append (pv 3)
          (pa_cons (pe_mt (c_behind T) hr (by decide) (pv 0) (pa_cons (pe_ix ix_list (pv 3) (pe_un un_neg pe_int) (fun _ _ => rfl)) (pa_cons (pv 4) pa_nil))) pa_nil)))))
      (pss_one (ps_ret (pv 3)))), ?_⟩
    obtain ⟨dx, fs, g, d, go, op, fv, h1, h2, h3, h4, h5, h6, h7, h8, h9⟩ := id hW
    refine ⟨_, rfl, by show 1 ≤ sizeLine; decide, fun D hD => ?_⟩
    refine ⟨_, rfl, sx row, rfl, ?_⟩
    have hn : (sx row).cps.size = row.length := by simp [sx]
    refine for_it walk_str (fun i σ H' => (∃ b, σ = [some (.ref a), some v, some (.str (sx row)), some (.ref D), b]) ∧ Same H H' ∧ ∃ l, H' D = some (.lst l) ∧ Paired (SdAt K H') l ((gone ts pg st row).take (i + 1)))
      ⟨⟨_, rfl⟩, same_new hD, [v], upd_same, ?_⟩ (fun _ _ _ _ _ => trivial) ?_ ?_
    · have e : (gone ts pg st row).take (0 + 1) = [st] := by
        rw [take_snoc (gone_get (Nat.zero_le _)), List.take_zero]
        rfl
      rw [e]
      exact .cons (hv.mono (same_new hD)) .nil
    · rintro i x σ H1 H2 hi ⟨⟨b, rfl⟩, e1, l, hl, hp⟩ ⟨rfl, c, hc, rfl⟩
      have hc' := sx_get hc
      have hi' : i < row.length := by omega
      have ll : l.length = i + 1 := by
        rw [paired_len hp, List.length_take, gone_len]
        omega
      have hg : ((gone ts pg st row).take (i + 1))[i]? = some (stAt ts pg st row i) := by
        rw [List.getElem?_take, if_pos (by omega), gone_get (by omega)]
      obtain ⟨y, hy, hsy⟩ := paired_get' hp hg
      have hlast : atI l (-1) = some y := by
        have e : l = l.take i ++ [y] := by
          rw [← take_snoc hy, List.take_of_length_le (by omega)]
        rw [e]
        exact atI_last _ _
      refine ⟨_, rfl, .inl ⟨rfl, l, SqL.of hl⟩, _, rfl, ?_⟩
      refine ⟨a, dx, fs, rfl, e1 _ _ h1, h8 _ (by decide +kernel), ?_⟩
      refine ⟨_, rfl, 1, rfl, D, l, -1, y, rfl, rfl, SqL.of hl, hlast, ?_⟩
      refine ⟨_, rfl, a, y, c, ts, pg, p0, gs, s0, _, rfl, hW.mono e1, ok, hpg, hsy, stAt_ok ok hpg hd hs i (by omega), hd c (List.mem_of_getElem? hc'), fun u H3 e3 q3 => ?_⟩
      have hl3 := e3 _ _ hl
      refine ⟨D, l, u, rfl, rfl, hl3, by rw [ll]; exact sz_lt (by omega), ⟨_, rfl⟩, same_mut (e1.trans e3) hD, _, upd_same, ?_⟩
      have e : (gone ts pg st row).take (i + 1 + 1) = (gone ts pg st row).take (i + 1) ++ [beh ts pg (stAt ts pg st row i) c] := by
        rw [take_snoc (gone_get (by omega)), stAt_succ hc']
      rw [e]
      exact paired_snoc (Paired.mapP hp fun v x q => sd_upd hl3 (q.mono e3)) (sd_upd hl3 q3)
    · rintro σ H1 ⟨⟨b, rfl⟩, e1, l, hl, hp⟩
      refine ⟨_, rfl, k _ _ e1 ⟨D, l, rfl, SqL.of hl, ?_⟩⟩
      have e : (gone ts pg st row).take ((sx row).cps.size + 1) = gone ts pg st row := by
        rw [hn, ← gone_len (ts := ts) (pg := pg) st row, List.take_length]
      rw [← e]
      exact hp
def spWalk (K : PySem.W.Frag) (CF CW : Addr) : Sp := fun vs H Q _ => ∃ (a : Addr) (row : List Nat) (ts : Tx) (pg : Nat → List Nat) (p0 : Pl) (gs : List V) (s : Sd), vs = [.ref a, .str (sx row)] ∧ WdAt K CF CW H a ts pg p0 gs s ∧ TsOk ts ∧ PgOk pg ∧ SdOk ts s ∧ (∀ c ∈ row, c ∈ DL) ∧ row.length ≤ 1000 ∧
  ∀ u H', Same H H' → LsAt K (SdAt K) H' u (gone ts pg s row) → Q u H'
theorem sc_walk : FnScope ["self", "row"] ["self", "row"] (defScope (inClass (topS 41) 11)) := ⟨rfl, rfl, rfl, by decide +kernel, rfl, by decide +kernel, by decide +kernel⟩
theorem c_walk (T : Txt K mg CF CW) : Met P w K mg base 10 CW "walk" (spWalk K CF CW) := by
  refine met_mk T.w_walk T.clW sc_walk (fun _ _ _ _ _ _ us hl => match us, hl with | [_, _], _ => rfl) (fun vs H Q E h => ?_) (fun F0 cdv A outer s H vs Q E hr h => ?_)
  · obtain ⟨_, _, _, _, _, _, _, rfl, _⟩ := h
    rfl
  · obtain ⟨a, row, ts, pg, p0, gs, st, rfl, hW, ok, hpg, hs, hd, hlen, k⟩ := h
    refine ⟨_, pss_cons (ps_expr (pe_c (c_want_row T) hr (by decide) rfl (pa_cons (pv 1) pa_nil))) (pss_one (ps_ret (pe_mt (c_gone T) hr (by decide) (pv 0) (pa_cons (pe_fld (pv 0) rfl) (pa_cons (pv 1) pa_nil))))), ?_⟩
    obtain ⟨dx, fs, g, d, go, op, fv, h1, h2, h3, h4, h5, h6, h7, h8, h9, h10, h11, h12, h13⟩ := id hW
    refine ⟨_, rfl, row, rfl, hd, fun H1 e1 => ?_⟩
    have h1' := e1 _ _ h1
    refine ⟨_, rfl, a, dx, fs, rfl, h1', h8 _ (by decide +kernel), _, rfl, a, CW, dx, fs, _, rfl, h1', T.clW, T.nFirst, h7, _, rfl, ?_⟩
    exact ⟨a, fv, row, ts, pg, p0, gs, st, st, rfl, hW.mono e1, ok, hpg, h13.mono e1, hs, hd, hlen, fun u H2 e2 q2 => k _ _ (e1.trans e2) q2⟩
def CmAt (K : PySem.W.Frag) (H : Hp) (v : V) (bc : Nat × Nat) : Prop := ∃ t, v = .ref t ∧ SqT K H t [.int (bc.1 : Int), .str (sx [bc.2])]
theorem CmAt.mono {H H' : Hp} {v : V} {bc : Nat × Nat} (e : Same H H') (h : CmAt K H v bc) : CmAt K H' v bc := by
  obtain ⟨t, h1, h2⟩ := h
  exact ⟨t, h1, same_tup e h2⟩
theorem cm_upd {H : Hp} {D : Addr} {l l' : List V} {v : V} {bc : Nat × Nat} (h : H D = some (.lst l)) (q : CmAt K H v bc) : CmAt K (upd H D (.lst l')) v bc := by
  obtain ⟨t, h1, h2⟩ := q
  exact ⟨t, h1, sqT_upd h h2⟩
def cmF (ts : Tx) (ss : List Sd) (i : Nat) : Option (Nat × Nat) := (comes ts (ss.getD i none) (ss.getD (i + 1) none)).map fun c => (i + 1, c)
theorem comings_eq (ts : Tx) (ss : List Sd) : comings ts ss = (List.range (ss.length - 1)).filterMap (cmF ts ss) := rfl
theorem fm_some {f : Nat → Option (Nat × Nat)} {i : Nat} {y : Nat × Nat} (h : f i = some y) : (List.range (i + 1)).filterMap f = (List.range i).filterMap f ++ [y] := by
  rw [List.range_succ, List.filterMap_append, List.filterMap_cons_some h]
  rfl
theorem fm_none {f : Nat → Option (Nat × Nat)} {i : Nat} (h : f i = none) : (List.range (i + 1)).filterMap f = (List.range i).filterMap f := by
  rw [List.range_succ, List.filterMap_append, List.filterMap_cons_none h]
  simp
theorem gone_getD {ts : Tx} {pg : Nat → List Nat} {s : Sd} {row : List Nat} {i : Nat} (h : i ≤ row.length) : (gone ts pg s row).getD i none = stAt ts pg s row i := by
  rw [List.getD_eq_getElem?_getD, gone_get h]
  rfl
def spComings (K : PySem.W.Frag) (CF CW : Addr) : Sp := fun vs H Q _ => ∃ (a : Addr) (row : List Nat) (ts : Tx) (pg : Nat → List Nat) (p0 : Pl) (gs : List V) (s : Sd), vs = [.ref a, .str (sx row)] ∧ WdAt K CF CW H a ts pg p0 gs s ∧ TsOk ts ∧ PgOk pg ∧ SdOk ts s ∧ (∀ c ∈ row, c ∈ DL) ∧ row.length ≤ 1000 ∧
  ∀ u H', Same H H' → LsAt K (CmAt K) H' u (comings ts (gone ts pg s row)) → Q u H'
theorem sc_comings : FnScope ["self", "row", "stands", "found", "beat", "ahead", "now"] ["self", "row"] (defScope (inClass (topS 41) 12)) := ⟨rfl, rfl, rfl, by decide +kernel, rfl, by decide +kernel, by decide +kernel⟩
theorem c_comings (T : Txt K mg CF CW) : Met P w K mg base 11 CW "comings" (spComings K CF CW) := by
  refine met_mk T.w_comings T.clW sc_comings (fun _ _ _ _ _ _ us hl => match us, hl with | [_, _], _ => rfl) (fun vs H Q E h => ?_) (fun F0 cdv A outer s H vs Q E hr h => ?_)
  · obtain ⟨_, _, _, _, _, _, _, rfl, _⟩ := h
    rfl
  · obtain ⟨a, row, ts, pg, p0, gs, st, rfl, hW, ok, hpg, hs, hd, hlen, k⟩ := h
    have hu := hr.un
    have hu : (A.deeper (envOfC (Str.ofString "World.comings") (defScope (inClass (topS 41) 12)) s.heap.objs.size F0 cdv)).units + 64 < cLine := by omega
    refine ⟨_, pss_cons (ps_set (i := 2) sc_comings.nd rfl (.inl rfl) (pe_mt (c_walk T) hr (by decide) (pv 0) (pa_cons (pv 1) pa_nil)))
      (pss_cons (ps_set (i := 3) sc_comings.nd rfl (.inl rfl) (pe_lst pa_nil))
      (pss_cons (ps_for PassesOwn.never rfl (pi_range2 rfl T.range (pa_cons pe_int (pa_cons (pe_callB call_len rfl T.len bt_len (pa_cons (pv 2) pa_nil)) pa_nil))) (pg_name (i := 4) sc_comings.nd rfl (.inl rfl))
        (pss_cons (ps_par (i := 5) (j := 6) (by rfl) sc_comings.nd rfl rfl (by decide) rfl rfl (pa_cons (pe_ix ix_list (pv 2) (pe_op op_sub (pv 4) pe_int) (fun _ _ => rfl)) (pa_cons (pe_ix ix_list (pv 2) (pv 4) (fun _ _ => rfl)) pa_nil)) (by rfl))
        (pss_one (ps_if (PW.pt (pw_and (pt_cmp (pc_notN (pv 6))) (pw_and (pt_cmpR (op_neD hu) (pe_ix ix_tup (pv 6) pe_int (fun _ _ => rfl)) (pe_ix ix_tup (pv 5) pe_int (fun _ _ => rfl)) rfl)
            (pw_and1 (pt_cmpR op_in_sign (pe_mt (c_seen T) hr (by decide) (pe_fld (pv 0) rfl) (pa_cons (pe_ix ix_tup (pv 6) pe_int (fun _ _ => rfl)) pa_nil)) (pe_gc T.LETTERS rfl) rfl)))))
          (pss_one (ps_expr (pe_bm PySem.F.plainAttrs_list PySem.F.slot_list_append PySem.F.type_list_append mt_append (pv 3) (pa_cons (pe_tup (pa_cons (pv 4) (pa_cons (pe_mt (c_seen T) hr (by decide) (pe_fld (pv 0) rfl) (pa_cons (pe_ix ix_tup (pv 6) pe_int (fun _ _ => rfl)) pa_nil)) pa_nil))) pa_nil))))
          pss_nil))))
      (pss_one (ps_ret (pv 3))))), ?_⟩
    obtain ⟨dx, fs, g, d, go, op, fv, h1, h2, h3, h4, h5, h6, h7, h8, h9, h10, h11, h12, h13⟩ := id hW
    refine ⟨_, rfl, a, dx, fs, rfl, h1, h8 _ (by decide +kernel), _, rfl, a, row, ts, pg, p0, gs, st, rfl, hW, ok, hpg, hs, hd, hlen, fun u1 H1 e1 q1 => ?_⟩
    obtain ⟨sl, vs, rfl, hsl, hp⟩ := q1
    have hvl : vs.length = row.length + 1 := by rw [paired_len hp, gone_len]
    refine ⟨by show 0 ≤ sizeLine; exact Nat.zero_le _, fun D hD => ?_⟩
    have eD := same_new (o := .lst []) hD
    refine ⟨_, rfl, _, row.length + 1, rfl, .inl ⟨_, eD.seq hsl, hvl.symm⟩, ?_⟩
    refine ⟨1, _, rfl, ⟨by decide, by decide, by omega, by omega⟩, ?_⟩
    have en : (((row.length + 1 : Nat) : Int) - 1).toNat = row.length := by omega
    refine for_it walk_range (fun i σ H' => (∃ b1 b2 b3, σ = [some (.ref a), some (.str (sx row)), some (.ref sl), some (.ref D), b1, b2, b3]) ∧ Same H1 H' ∧ ∃ l, H' D = some (.lst l) ∧ Paired (CmAt K H') l ((List.range i).filterMap (cmF ts (gone ts pg st row))))
      ⟨⟨_, _, _, rfl⟩, eD, [], upd_same, .nil⟩ (fun _ _ _ _ _ => trivial) ?_ ?_
    · rintro i x σ H2 H3 hi ⟨⟨b1, b2, b3, rfl⟩, e2, l, hl, hpl⟩ ⟨rfl, rfl⟩
      rw [en] at hi
      have e12 := e1.trans e2
      have ei : cmF ts (gone ts pg st row) i = (comes ts (stAt ts pg st row i) (stAt ts pg st row (i + 1))).map fun c => (i + 1, c) := by
        unfold cmF
        rw [gone_getD (by omega), gone_getD (by omega)]
      have ll : l.length ≤ i := by
        rw [paired_len hpl]
        exact Nat.le_trans (List.length_filterMap_le _ _) (by rw [List.length_range]; exact Nat.le_refl _)
      obtain ⟨y0, hy0, hs0⟩ := paired_get' hp (gone_get (ts := ts) (pg := pg) (s := st) (show i ≤ row.length by omega))
      obtain ⟨y1, hy1, hs1⟩ := paired_get' hp (gone_get (ts := ts) (pg := pg) (s := st) (show i + 1 ≤ row.length by omega))
      have x0 : atI vs (1 + (i : Int) - 1) = some y0 := by
        have e : (1 + (i : Int) - 1) = ((i : Nat) : Int) := by omega
        rw [e]
        exact atI_nat hy0
      have x1 : atI vs (1 + (i : Int)) = some y1 := by
        have e : (1 + (i : Int)) = ((i + 1 : Nat) : Int) := by omega
        rw [e]
        exact atI_nat hy1
      refine ⟨_, rfl, _, rfl, _, _, rfl, rfl, sl, vs, _, y0, rfl, rfl, e2.seq hsl, x0, ?_⟩
      refine ⟨_, rfl, _, rfl, sl, vs, _, y1, rfl, rfl, e2.seq hsl, x1, ?_⟩
      refine ⟨_, _, rfl, ?_⟩
      have hr0 : row[i]? = some row[i] := List.getElem?_eq_getElem hi
      have hso := stAt_ok ok hpg hd hs (i + 1) (by omega)
      have stop : cmF ts (gone ts pg st row) i = none → (∃ b1 b2 b3, [some (V.ref a), some (.str (sx row)), some (.ref sl), some (.ref D), some (V.int (1 + (i : Int))), some y0, some y1] = [some (.ref a), some (.str (sx row)), some (.ref sl), some (.ref D), b1, b2, b3]) ∧ Same H1 H3 ∧ ∃ l, H3 D = some (.lst l) ∧ Paired (CmAt K H3) l ((List.range (i + 1)).filterMap (cmF ts (gone ts pg st row))) := by
        intro hno
        refine ⟨⟨_, _, _, rfl⟩, e2, l, hl, ?_⟩
        rw [fm_none hno]
        exact hpl
      cases es1 : stAt ts pg st row (i + 1) with
      | none =>
        rw [es1] at hs1
        obtain rfl := hs1
        refine ⟨_, rfl, false, rfl, iteF ?_⟩
        refine stop ?_
        rw [ei, es1]
        unfold comes
        cases stAt ts pg st row i <;> rfl
      | some qt =>
        obtain ⟨q, t1⟩ := qt
        rw [es1] at hs1 hso
        obtain ⟨p, t0, es0⟩ := beh_from (by rw [← stAt_succ hr0]; exact es1)
        rw [es0] at hs0
        obtain ⟨sa1, u1, rfl, ha1, hq1⟩ := hs1
        obtain ⟨sa0, u0, rfl, ha0, hq0⟩ := hs0
        refine ⟨_, rfl, true, rfl, iteT ?_⟩
        refine ⟨_, rfl, sa1, _, 0, u1, rfl, rfl, same_tup e2 ha1, atI_nat (j := 0) rfl, ?_⟩
        refine ⟨_, rfl, sa0, _, 0, u0, rfl, rfl, same_tup e2 ha0, atI_nat (j := 0) rfl, ?_⟩
        refine ⟨plD q, plD p, plD_dp (hq1.mono e2), plD_dp (hq0.mono e2), plD_shaped _, plD_shaped _, _, rfl, ?_⟩
        rw [plD_eqv]
        by_cases eqp : q = p
        · rw [decide_eq_true eqp]
          refine iteF ?_
          refine iteF ?_
          refine stop ?_
          rw [ei, es0, es1]
          unfold comes
          simp only [if_neg (show ¬ (q ≠ p ∧ seen ts q ∈ lets) from fun z => z.1 eqp)]
          rfl
        · rw [decide_eq_false eqp]
          refine iteT ?_
          obtain ⟨fdx, ffs, fa, hf, hfl, hm, hft⟩ := id (h9.mono e12)
          refine ⟨_, rfl, a, CW, dx, fs, _, rfl, e12 _ _ h1, T.clW, T.nGround, h3, g, fdx, ffs, rfl, hf, hm _ (by decide +kernel), ?_⟩
          refine ⟨_, rfl, sa1, _, 0, u1, rfl, rfl, same_tup e2 ha1, atI_nat (j := 0) rfl, ?_⟩
          refine ⟨g, ts, u1, q, rfl, h9.mono e12, ok, hq1.mono e2, fun H4 e4 => ?_⟩
          refine ⟨seen ts q, sx lets, rfl, rfl, _, rfl, ?_⟩
          by_cases hi2 : seen ts q ∈ lets
          · rw [decide_eq_true (show seen ts q ∈ (sx lets).cps.toList from hi2)]
            refine iteT ?_
            have hl4 := e4 _ _ hl
            have e14 := e12.trans e4
            refine ⟨_, rfl, .inl ⟨rfl, l, SqL.of hl4⟩, ?_⟩
            refine ⟨_, rfl, _, rfl, a, CW, dx, fs, _, rfl, e14 _ _ h1, T.clW, T.nGround, h3, g, fdx, ffs, rfl, e4 _ _ hf, hm _ (by decide +kernel), ?_⟩
            refine ⟨_, rfl, sa1, _, 0, u1, rfl, rfl, same_tup (e2.trans e4) ha1, atI_nat (j := 0) rfl, ?_⟩
            refine ⟨g, ts, u1, q, rfl, h9.mono e14, ok, (hq1.mono e2).mono e4, fun H5 e5 => ?_⟩
            refine ⟨by show 2 ≤ sizeLine; decide, fun r hr' => ?_⟩
            have e6 := same_new (o := .tup [.int (1 + (i : Int)), .str (sx [seen ts q])]) hr'
            have e46 := (e4.trans e5).trans e6
            have hl6 := e46 _ _ hl
            refine ⟨D, l, .ref r, rfl, rfl, hl6, sz_lt (by omega), ⟨_, _, _, rfl⟩, same_mut (e2.trans e46) hD, _, upd_same, ?_⟩
            have hsome : cmF ts (gone ts pg st row) i = some (i + 1, seen ts q) := by
              rw [ei, es0, es1]
              unfold comes
              simp only [if_pos (show q ≠ p ∧ seen ts q ∈ lets from ⟨eqp, hi2⟩)]
              rfl
            rw [fm_some hsome]
            refine paired_snoc (Paired.mapP hpl fun v x q => cm_upd hl6 (q.mono e46)) (cm_upd hl6 ⟨r, rfl, SqT.of ?_⟩)
            have e : ((i + 1 : Nat) : Int) = 1 + (i : Int) := by omega
            show upd H5 r _ r = some (.tup [.int ((i + 1 : Nat) : Int), _])
            rw [e]
            exact upd_same
          · rw [decide_eq_false (show ¬ seen ts q ∈ (sx lets).cps.toList from hi2)]
            refine iteF ?_
            have e24 := e2.trans e4
            obtain ⟨s1, s2, l', s3, s4⟩ := stop (by
              rw [ei, es0, es1]
              unfold comes
              simp only [if_neg (show ¬ (q ≠ p ∧ seen ts q ∈ lets) from fun z => hi2 z.2)]
              rfl)
            exact ⟨s1, e24, l', e4 _ _ s3, Paired.mapP s4 fun v x q => q.mono e4⟩
    · rintro σ H2 ⟨⟨b1, b2, b3, rfl⟩, e2, l, hl, hpl⟩
      rw [en] at hpl
      refine ⟨_, rfl, k _ _ (e1.trans e2) ⟨D, l, rfl, SqL.of hl, ?_⟩⟩
      rw [comings_eq, gone_len]
      exact hpl
end
end Oh
namespace Oh
open PySem PySem.Spec PyProof.Rows L2
theorem ix_tupK {X : Cx} {K : PySem.W.Frag} (h : X.K = K) : IxR X (rIxT K) := by subst h; exact ix_tup
theorem ix_listK {X : Cx} {K : PySem.W.Frag} (h : X.K = K) : IxR X (rIxL K) := by subst h; exact ix_list
theorem pg_tupK {X : Cx} {K : PySem.W.Frag} {es : List Expr} {k : Nat} {t : TGs} {n : Nat} {pos : Pos} (h : X.K = K) (hc : X.calm = true) (ht : PGs X es t)
    (hn : (assignEach es X.env).length = n := by rfl) (hst : (assignEach es X.env).findIdx? (·.1) = none := by rfl) : PG X (.Tuple es k pos) (gTup K n t) := by subst h; exact pg_tup hc ht hn hst
abbrev gTwo (K : PySem.W.Frag) (i j : Nat) : TG := gTup K 2 (gCons (gName i) (gCons (gName j) gNil))
theorem gm_two {K : PySem.W.Frag} {i j : Nat} : ∀ x σ' H' (A B : L2.St → Hp → Prop), (∀ σ2 H2, A σ2 H2 → B σ2 H2) → gTwo K i j x σ' H' A → gTwo K i j x σ' H' B := by
  intro x σ' H' A B h q
  obtain ⟨a, xs, h1, h2, h3, v, r, h4, v2, r2, h5, h6, q⟩ := q
  exact ⟨a, xs, h1, h2, h3, v, r, h4, v2, r2, h5, h6, h _ _ q⟩
section
variable {P : Program} {w : World} {K : PySem.W.Frag} {mg : Str → Option Value} {base : Heap} {CF CW : Addr}
def spWays (K : PySem.W.Frag) (CF CW : Addr) : Sp := fun vs H Q _ => ∃ (a : Addr) (row : List Nat) (ts : Tx) (pg : Nat → List Nat) (p0 : Pl) (gs : List V) (s : Sd), vs = [.ref a, .str (sx row)] ∧ WdAt K CF CW H a ts pg p0 gs s ∧ TsOk ts ∧ PgOk pg ∧ SdOk ts s ∧ (∀ c ∈ row, c ∈ DL) ∧ row.length ≤ 1000 ∧
  ∀ H', Same H H' → Q (.str (sx (waysL ts pg s row))) H'
abbrev sWays : Stmt := inClass (topS 41) 13
theorem sc_ways : FnScope ["self", "row", "stands", "stand", "deed"] ["self", "row"] (defScope sWays) := ⟨rfl, rfl, rfl, by decide +kernel, rfl, by decide +kernel, by decide +kernel⟩
theorem c_ways (T : Txt K mg CF CW) : Met P w K mg base 11 CW "ways" (spWays K CF CW) := by
  refine met_mk T.w_ways T.clW sc_ways (fun _ _ _ _ _ _ us hl => match us, hl with | [_, _], _ => rfl) (fun vs H Q E h => ?_) (fun F0 cdv A outer s H vs Q E hr h => ?_)
  · obtain ⟨_, _, _, _, _, _, _, rfl, _⟩ := h
    rfl
  · obtain ⟨a, row, ts, pg, p0, gs, st, rfl, hW, ok, hpg, hs, hd, hlen, k⟩ := h
    refine ⟨_, pss_cons (ps_set (i := 2) sc_ways.nd rfl (.inl rfl) (pe_mt (c_walk T) hr (by decide) (pv 0) (pa_cons (pv 1) pa_nil)))
      (pss_one (ps_ret (pe_join pe_str (pe_lc (own := [("stand", 3), ("deed", 4)]) (g := gTwo K 3 4) (tt := tYes) rfl sc_ways.nd (pi_zipLS rfl T.zip (pa_cons (pv 2) (pa_cons (pv 1) pa_nil))) (blkOk_by (own := [("stand", 3), ("deed", 4)]) (N := ["self", "row", "stands", "stand", "deed"]) (sc := defScope sWays) (by decide +kernel))
        (fun _ _ _ _ _ => pg_tupK rfl rfl (pgs_cons (pg_name (i := 3) sc_ways.nd rfl (.inl rfl)) (pgs_cons (pg_name (i := 4) sc_ways.nd rfl (.inl rfl)) pgs_nil))) (fun _ _ _ _ _ => pts_nil)
        (fun _ _ _ _ _ => pe_ifExp (pt_cmp (pc_isN (pv 3))) (pv 4) (pe_c (c_way T) hr (by decide) rfl (pa_cons (pe_ix (ix_tupK (K := K) rfl) (pv 3) pe_int (fun _ _ => rfl)) (pa_cons (pv 4) pa_nil)))))))), ?_⟩
    obtain ⟨dx, fs, g, d, go, op, fv, h1, h2, h3, h4, h5, h6, h7, h8, h9, h10, h11, h12, h13⟩ := id hW
    refine ⟨_, rfl, a, dx, fs, rfl, h1, h8 _ (by decide +kernel), _, rfl, a, row, ts, pg, p0, gs, st, rfl, hW, ok, hpg, hs, hd, hlen, fun u1 H1 e1 q1 => ?_⟩
    obtain ⟨sl, vs, rfl, hsl, hp⟩ := q1
    have hvl : vs.length = row.length + 1 := by rw [paired_len hp, gone_len]
    have hn : (sx row).cps.size = row.length := by simp [sx]
    refine ⟨⟨_, rfl⟩, _, rfl, _, rfl, sl, sx row, vs, rfl, hsl, fun D hD => ?_⟩
    refine lc_sameY (n := row.length) (walk_zipLS (xs := vs) (by omega)) hD (fun _ v c => v = .str (sx [c])) (fun i => (waysL ts pg st row).take i) rfl (fun _ _ _ _ _ h => h) (fun _ _ _ _ _ _ h => h) (fun _ e => e.seq hsl) (fun i _ => ?_) ?_ ?_ gm_two
    · rw [List.length_take, ways_len]
      omega
    · rintro i x H2 H3 hi e2 ⟨t, v1, c, rfl, hn', rfl, hv1, hc⟩ k1 hk1
      have hc' := sx_get hc
      have e3 := same_new (o := .tup [v1, .str ⟨#[c]⟩]) hn'
      obtain ⟨sd, hsd1, hsd2⟩ := L2.paired_get hp hv1
      rw [gone_get (by omega)] at hsd1
      injection hsd1 with hsd1
      subst hsd1
      have hd' := hd c (List.mem_of_getElem? hc')
      refine ⟨t, _, rfl, .inl (.inl upd_same), rfl, _, _, rfl, _, _, rfl, rfl, rfl, ?_⟩
      have eo : (waysL ts pg st row).take (i + 1) = (waysL ts pg st row).take i ++ [wayAt (stAt ts pg st row i) c] := take_snoc (ways_get hc')
      cases es : stAt ts pg st row i with
      | none =>
        rw [es] at hsd2 eo
        obtain rfl := hsd2
        refine ⟨_, rfl, true, rfl, iteT ⟨_, rfl, ?_⟩⟩
        exact hk1 _ _ c e3 eo rfl
      | some pt =>
        obtain ⟨p, tt⟩ := pt
        have hso := stAt_ok ok hpg hd hs i (by omega)
        rw [es] at hsd2 eo hso
        obtain ⟨sa, u, rfl, ha, hu⟩ := hsd2
        refine ⟨_, rfl, false, rfl, iteF ?_⟩
        refine ⟨_, rfl, sa, _, 1, _, rfl, rfl, same_tup (e2.trans e3) ha, atI_nat (j := 1) rfl, _, rfl, tt, c, rfl, (hso p tt rfl).2, hd', ?_⟩
        exact hk1 _ _ (wayN tt c) e3 eo rfl
    · intro H2 l e2 hl hp2
      have hp' : Paired (fun v c => v = V.str (sx [c])) l ((waysL ts pg st row).take row.length) := hp2
      rw [← ways_len (ts := ts) (pg := pg) st row, List.take_length] at hp'
      have el := paired_eq hp'
      refine ⟨("" : Str), D, (waysL ts pg st row).map fun c => sx [c], rfl, rfl, .inl ?_, ?_, ?_⟩
      · rw [List.map_map]
        exact SqL.of (by rw [hl, el]; rfl)
      · rw [sum_signs, s_e, sx_len, List.length_map, ways_len]
        simp only [List.length_nil, Nat.mul_zero]
        omega
      · rw [s_e, join_signs]
        exact k _ (e1.trans e2)
end
end Oh
namespace Oh
open PySem PySem.Spec PyProof.Rows L2
def ExS (a : Addr) (H H' : Hp) : Prop := Same (cut a H) (cut a H')
theorem ExS.refl {a : Addr} {H : Hp} : ExS a H H := Same.refl _
theorem ExS.trans {a : Addr} {H1 H2 H3 : Hp} (e : ExS a H1 H2) (f : ExS a H2 H3) : ExS a H1 H3 := Same.trans e f
theorem ExS.of {a : Addr} {H H' : Hp} (e : Same H H') : ExS a H H' := fun b o h => by
  by_cases hb : b = a
  · rw [hb, cut_self] at h
    cases h
  · rw [cut_ne hb] at h ⊢
    exact e _ _ h
theorem ExS.put {a : Addr} {H : Hp} {o : HO} : ExS a H (upd H a o) := fun b x h => by
  by_cases hb : b = a
  · rw [hb, cut_self] at h
    cases h
  · rw [cut_ne hb] at h ⊢
    rw [upd_ne hb]
    exact h
/-- a change at D, which the old heap does not know -/
theorem ExS.mut {a D : Addr} {H H' : Hp} {o : HO} (e : ExS a H H') (h : H D = none) : ExS a H (upd H' D o) := fun b x hb => by
  have h2 := e b x hb
  by_cases hba : b = a
  · rw [hba, cut_self] at hb
    cases hb
  · rw [cut_ne hba] at h2 hb ⊢
    rw [upd_ne (ne_of_none hb h)]
    exact h2
theorem ExS.at {a b : Addr} {H H' : Hp} {o : HO} (e : ExS a H H') (h : H b = some o) (hne : b ≠ a) : H' b = some o := by
  have q := e b o (by rw [cut_ne hne]; exact h)
  rw [cut_ne hne] at q
  exact q
theorem cut_new {a p : Addr} {H : Hp} {o : HO} (h : p ≠ a) : cut a (upd H p o) p = some o := by
  rw [cut_ne h]
  exact upd_same
theorem cut_upd {a p : Addr} {H : Hp} {o : HO} (h : p ≠ a) : cut a (upd H p o) = upd (cut a H) p o := by
  funext b
  by_cases hb : b = a
  · rw [hb, cut_self, upd_ne (Ne.symm h), cut_self]
  · rw [cut_ne hb]
    by_cases hp : b = p
    · rw [hp, upd_same, upd_same]
    · rw [upd_ne hp, upd_ne hp, cut_ne hb]
/-- the source -/
def SrcAt (H : Hp) (a : Addr) : Prop := ∃ x c k : Int, H a = some (.lst [.int x, .int c, .int k])
theorem SrcAt.mono {H H' : Hp} {a : Addr} (e : Same H H') (h : SrcAt H a) : SrcAt H' a := by
  obtain ⟨x, c, k, h⟩ := h
  exact ⟨x, c, k, e _ _ h⟩
theorem SrcAt.ne {H : Hp} {a D : Addr} (h : SrcAt H a) (hD : H D = none) : D ≠ a := by
  obtain ⟨x, c, k, h⟩ := h
  exact Ne.symm (ne_of_none h hD)
theorem SrcAt.upd {H : Hp} {a D : Addr} {o : HO} (h : SrcAt H a) (hD : D ≠ a) : SrcAt (upd H D o) a := by
  obtain ⟨x, c, k, h⟩ := h
  exact ⟨x, c, k, by rw [upd_ne (Ne.symm hD)]; exact h⟩
section
variable {P : Program} {w : World} {K : PySem.W.Frag} {mg : Str → Option Value} {base : Heap} {CF CW : Addr}
def spMixed : Sp := fun vs H Q _ => ∃ c k : Int, vs = [.int c, .int k] ∧ ∀ n : Int, Q (.int n) H
theorem sc_mixed : FnScope ["_law_cell", "_law_k", "_law_number"] ["_law_cell", "_law_k"] (defScope (topS 43)) := ⟨rfl, rfl, rfl, by decide +kernel, rfl, by decide +kernel, by decide +kernel⟩
theorem c_mixed (T : Txt K mg CF CW) : Cal P w K mg base 1 "_law_mixed" spMixed := by
  refine cal_mk T.l_mixed sc_mixed (fun _ _ _ _ _ _ us hl => match us, hl with | [_, _], _ => rfl) (fun vs H Q E h => ?_) (fun F0 cdv A outer s H vs Q E hr h => ?_)
  · obtain ⟨_, _, rfl, _⟩ := h
    rfl
  · obtain ⟨c, k, rfl, q⟩ := h
    refine ⟨_, pss_cons (ps_set (i := 2) sc_mixed.nd rfl (.inl rfl) (pe_op op_mod (pe_op op_mul (pe_op op_add (pe_op op_mod (pv 0) pe_int) pe_int) (pe_op op_add (pe_op op_mul (pv 1) pe_int) pe_int)) pe_int))
      (pss_cons (ps_set (i := 2) sc_mixed.nd rfl (.inl rfl) (pe_op op_mod (pe_op op_mul (pe_op op_add (pv 2) (pe_op op_mul (pe_op op_mod (pe_op op_fdivW (pv 0) pe_int) pe_int) (pe_op op_add (pv 1) pe_int))) pe_int) pe_int))
      (pss_cons (ps_set (i := 2) sc_mixed.nd rfl (.inl rfl) (pe_op op_mod (pe_op op_mul (pv 2) (pe_op op_add (pe_op op_add (pe_op op_fdiv (pv 2) pe_int) pe_int) (pv 1))) pe_int))
      (pss_one (ps_ret (pe_op op_mod (pe_op op_mul (pv 2) (pe_op op_add (pe_op op_fdiv (pv 2) pe_int) pe_int)) pe_int))))), ?_⟩
    have bd : ∀ (x m : Int), 0 < m → m < 2147483648 → 0 ≤ x % m ∧ x % m < 2147483648 := fun x m h0 h1 => ⟨Int.emod_nonneg _ (by omega), Int.lt_trans (Int.emod_lt_of_pos _ h0) h1⟩
    have b1 := bd c 2147483646 (by decide) (by decide)
    refine ⟨_, rfl, c, 2147483646, rfl, rfl, show (0 : Int) < 2147483646 by decide, _, _, rfl, rfl, _, rfl, k, 7919, rfl, rfl, .inr ⟨by decide, by decide⟩, _, _, rfl, rfl, ?_⟩
    refine ⟨_, _, rfl, rfl, .inl ⟨by omega, by omega⟩, _, 2147483647, rfl, rfl, show (0 : Int) < 2147483647 by decide, ?_⟩
    refine ⟨_, rfl, _, rfl, c, 2147483646, rfl, rfl, wide_div (b := 31) (by decide) (by decide) (by decide) (by decide), _, 1000003, rfl, rfl, show (0 : Int) < 1000003 by decide, _, rfl, k, 31, rfl, rfl, ?_⟩
    have b2 := bd (c / 2147483646) 1000003 (by decide) (by decide)
    refine ⟨_, _, rfl, rfl, .inl ⟨by omega, by omega⟩, _, _, rfl, rfl, _, 48271, rfl, rfl, .inr ⟨by decide, by decide⟩, _, 2147483629, rfl, rfl, show (0 : Int) < 2147483629 by decide, ?_⟩
    generalize ((_ : Int) * 48271) = y
    have b3 := bd y 2147483629 (by decide) (by decide)
    refine ⟨_, rfl, _, rfl, _, 1013, rfl, rfl, ⟨by decide, by decide⟩, _, 69621, rfl, rfl, _, rfl, _, _, rfl, rfl, ?_⟩
    refine ⟨_, _, rfl, rfl, .inl ⟨by omega, by omega⟩, _, 2147483587, rfl, rfl, show (0 : Int) < 2147483587 by decide, ?_⟩
    generalize (y % 2147483629 * _ : Int) = z
    have b4 := bd z 2147483587 (by decide) (by decide)
    refine ⟨_, rfl, _, rfl, _, 2003, rfl, rfl, ⟨by decide, by decide⟩, _, 40692, rfl, rfl, ?_⟩
    refine ⟨_, _, rfl, rfl, .inl ⟨by omega, by omega⟩, _, 2147483563, rfl, rfl, show (0 : Int) < 2147483563 by decide, ?_⟩
    exact q _
def spSource : Sp := fun vs H Q _ => ∃ c : Int, vs = [.int c] ∧ ∀ a H', H a = none → Same H H' → SrcAt H' a → Q (.ref a) H'
theorem sc_source : FnScope ["_law_cell"] ["_law_cell"] (defScope (topS 44)) := ⟨rfl, rfl, rfl, by decide +kernel, rfl, by decide +kernel, by decide +kernel⟩
theorem c_source (T : Txt K mg CF CW) : Cal P w K mg base 1 "_law_source" spSource := by
  refine cal_mk T.l_source sc_source (fun _ _ _ _ _ _ us hl => match us, hl with | [_], _ => rfl) (fun vs H Q E h => ?_) (fun F0 cdv A outer s H vs Q E hr h => ?_)
  · obtain ⟨_, rfl, _⟩ := h
    rfl
  · obtain ⟨c, rfl, q⟩ := h
    refine ⟨_, pss_one (ps_ret (pe_lst (pa_cons (pv 0) (pa_cons (pv 0) (pa_cons pe_int pa_nil))))), ?_⟩
    refine ⟨_, rfl, _, rfl, by show 3 ≤ sizeLine; decide, fun p hp => ?_⟩
    exact q _ _ hp (same_new hp) ⟨c, c, 0, upd_same⟩
def spTake : Sp := fun vs H Q _ => ∃ (a : Addr) (m : Int), vs = [.ref a, .int m] ∧ SrcAt H a ∧ 0 < m ∧ m < 1073741824 ∧ ∀ (n : Nat) H', ExS a H H' → SrcAt H' a → (n : Int) < m → Q (.int (n : Int)) H'
theorem sc_take : FnScope ["_law_source_here", "_law_many", "_law_found"] ["_law_source_here", "_law_many"] (defScope (topS 45)) := ⟨rfl, rfl, rfl, by decide +kernel, rfl, by decide +kernel, by decide +kernel⟩
theorem c_take (T : Txt K mg CF CW) : Cal P w K mg base 2 "_law_take" spTake := by
  refine cal_mk T.l_take sc_take (fun _ _ _ _ _ _ us hl => match us, hl with | [_, _], _ => rfl) (fun vs H Q E h => ?_) (fun F0 cdv A outer s H vs Q E hr h => ?_)
  · obtain ⟨_, _, rfl, _⟩ := h
    rfl
  · obtain ⟨a, m, rfl, hs, hm, hm2, q⟩ := h
    refine ⟨_, pss_cons (ps_if (pt_cmpR op_ge (pe_ix ix_list (pv 0) pe_int (fun _ _ => rfl)) (pe_op op_pow pe_int pe_int) (nomark _))
        (pss_cons (ps_set (i := 2) sc_take.nd rfl (.inl rfl) (pe_op op_mod (pe_ix ix_list (pv 0) pe_int (fun _ _ => rfl)) (pv 1)))
        (pss_cons (ps_asg (pe_op op_fdiv (pe_ix ix_list (pv 0) pe_int (fun _ _ => rfl)) (pv 1)) (pg_sub (pv 0) pe_int set_list)) (pss_one (ps_ret (pv 2))))) pss_nil)
      (pss_cons (ps_asg (pe_op op_add (pe_ix ix_list (pv 0) pe_int (fun _ _ => rfl)) pe_int) (pg_sub (pv 0) pe_int set_list))
      (pss_one (ps_ret (pe_op op_mod (pe_c (c_mixed T) hr (by decide) rfl (pa_cons (pe_ix ix_list (pv 0) pe_int (fun _ _ => rfl)) (pa_cons (pe_ix ix_list (pv 0) pe_int (fun _ _ => rfl)) pa_nil))) (pv 1))))), ?_⟩
    obtain ⟨x, c, k, ha⟩ := hs
    have fin : ∀ (y : Int) H', ExS a H H' → SrcAt H' a → Q (.int (y % m)) H' := fun y H' e s => by
      have h1 := Int.emod_nonneg y (show m ≠ 0 by omega)
      have h2 := Int.emod_lt_of_pos y hm
      have e3 : y % m = ((y % m).toNat : Int) := by omega
      have qq := q (y % m).toNat H' e s (by omega)
      rw [← e3] at qq
      exact qq
    refine ⟨_, rfl, a, _, 0, _, rfl, rfl, SqL.of ha, atI_nat (j := 0) rfl, 10, 18, rfl, rfl, ⟨by decide, by decide, by decide⟩, _, _, rfl, rfl, _, rfl, ?_⟩
    refine ite2 (fun _ => ?_) (fun _ => ?_)
    · refine ⟨_, rfl, a, _, 0, _, rfl, rfl, SqL.of ha, atI_nat (j := 0) rfl, _, rfl, _, _, rfl, rfl, hm, ?_⟩
      refine ⟨_, rfl, a, _, 0, _, rfl, rfl, SqL.of ha, atI_nat (j := 0) rfl, _, rfl, _, _, rfl, rfl, ⟨hm, hm2⟩, ?_⟩
      refine ⟨_, rfl, a, _, 0, 0, rfl, rfl, ha, rfl, ?_⟩
      exact ⟨_, rfl, fin _ _ ExS.put ⟨_, _, _, upd_same⟩⟩
    · refine ⟨_, rfl, a, _, 2, _, rfl, rfl, SqL.of ha, atI_nat (j := 2) rfl, _, _, rfl, rfl, ?_⟩
      refine ⟨_, rfl, a, _, 2, 2, rfl, rfl, ha, rfl, ?_⟩
      refine ⟨_, rfl, a, _, 1, _, rfl, rfl, SqL.of upd_same, atI_nat (j := 1) rfl, ?_⟩
      refine ⟨_, rfl, a, _, 2, _, rfl, rfl, SqL.of upd_same, atI_nat (j := 2) rfl, ?_⟩
      refine ⟨_, _, rfl, fun n => ?_⟩
      exact ⟨_, rfl, _, _, rfl, rfl, hm, fin _ _ ExS.put ⟨_, _, _, upd_same⟩⟩
def spOne (K : PySem.W.Frag) : Sp := fun vs H Q _ => ∃ (a : Addr) (v : V), vs = [.ref a, v] ∧ SrcAt H a ∧
  ((∃ z : List Nat, v = .str (sx z) ∧ 0 < z.length ∧ z.length ≤ 1000 ∧ ∀ c ∈ z, ∀ H', ExS a H H' → SrcAt H' a → Q (.str (sx [c])) H') ∨
   (∃ l xs, v = .ref l ∧ SqL K (cut a H) l xs ∧ 0 < xs.length ∧ xs.length ≤ 1000 ∧ ∀ y ∈ xs, ∀ H', ExS a H H' → SrcAt H' a → Q y H'))
theorem sc_one : FnScope ["_law_source_here", "_law_some"] ["_law_source_here", "_law_some"] (defScope (topS 46)) := ⟨rfl, rfl, rfl, by decide +kernel, rfl, by decide +kernel, by decide +kernel⟩
theorem c_one (T : Txt K mg CF CW) : Cal P w K mg base 3 "_law_one" (spOne K) := by
  refine cal_mk T.l_one sc_one (fun _ _ _ _ _ _ us hl => match us, hl with | [_, _], _ => rfl) (fun vs H Q E h => ?_) (fun F0 cdv A outer s H vs Q E hr h => ?_)
  · obtain ⟨_, _, rfl, _⟩ := h
    rfl
  · obtain ⟨a, v, rfl, hs, h⟩ := h
    refine ⟨_, pss_one (ps_ret (pe_ix ix_seq (pv 1) (pe_c (c_take T) hr (by decide) rfl (pa_cons (pv 0) (pa_cons (pe_callB call_len rfl T.len bt_len (pa_cons (pv 1) pa_nil)) pa_nil))) (fun _ _ => rfl))), ?_⟩
    rcases h with ⟨z, rfl, h0, h1, q⟩ | ⟨l, xs, rfl, hl, h0, h1, q⟩
    · refine ⟨_, rfl, _, rfl, _, rfl, _, z.length, rfl, ⟨by rw [sx_len]; exact sz_ok (by omega), by rw [sx_len]⟩, ?_⟩
      refine ⟨a, _, rfl, hs, by omega, by omega, fun n H' e s' hn => ?_⟩
      have hn' : n < z.length := by omega
      refine .inr (.inr ⟨sx z, (n : Int), z[n], rfl, rfl, by rw [sx_len]; exact sz_ok (by omega), atI_nat (j := n) (List.getElem?_eq_getElem hn'), ?_⟩)
      exact q _ (List.getElem_mem hn') H' e s'
    · have hl0 : SqL K H l xs := cut_same.seq hl
      refine ⟨_, rfl, _, rfl, _, rfl, _, xs.length, rfl, .inl ⟨_, hl0, rfl⟩, ?_⟩
      refine ⟨a, _, rfl, hs, by omega, by omega, fun n H' e s' hn => ?_⟩
      have hn' : n < xs.length := by omega
      refine .inl ⟨l, xs, (n : Int), xs[n], rfl, rfl, cut_same.seq (Same.seq e hl), atI_nat (j := n) (List.getElem?_eq_getElem hn'), ?_⟩
      exact q _ (List.getElem_mem hn') H' e s'
def spSwing : Sp := fun vs H Q _ => ∃ (a : Addr), vs = [.ref a] ∧ SrcAt H a ∧ ∀ t ∈ turnsL, ∀ H', ExS a H H' → SrcAt H' a → Q (.str (sx t)) H'
theorem sc_swing : FnScope ["_law_source_here"] ["_law_source_here"] (defScope (topS 48)) := ⟨rfl, rfl, rfl, by decide +kernel, rfl, by decide +kernel, by decide +kernel⟩
theorem c_swing (T : Txt K mg CF CW) : Cal P w K mg base 4 "_law_swing" spSwing := by
  refine cal_mk T.l_swing sc_swing (fun _ _ _ _ _ _ us hl => match us, hl with | [_], _ => rfl) (fun vs H Q E h => ?_) (fun F0 cdv A outer s H vs Q E hr h => ?_)
  · obtain ⟨_, rfl, _⟩ := h
    rfl
  · obtain ⟨a, rfl, hs, q⟩ := h
    refine ⟨_, pss_one (ps_ret (pe_c (c_one T) hr (by decide) rfl (pa_cons (pv 0) (pa_cons (pe_lst (pa_cons pe_str (pa_cons pe_str (pa_cons pe_str (pa_cons pe_str (pa_cons pe_str (pa_cons pe_str (pa_cons pe_str (pa_cons pe_str (pa_cons pe_str (pa_cons pe_str pa_nil))))))))))) pa_nil)))), ?_⟩
    refine ⟨_, rfl, by show 10 ≤ sizeLine; decide, fun p hp => ?_⟩
    have hpa := hs.ne hp
    have e1 : ExS a H (upd H p (.lst ((turnsL ++ [DL, DL]).map fun t => V.str (sx t)))) := ExS.of (same_new hp)
    have el : ([.str "urdl", .str "rdlu", .str "dlur", .str "lurd", .str "uldr", .str "drul", .str "ldru", .str "ruld", .str "urdl", .str "urdl"] : List V) = (turnsL ++ [DL, DL]).map fun t => V.str (sx t) := by decide +kernel
    show spOne K [.ref a, .ref p] (upd H p (.lst [.str "urdl", .str "rdlu", .str "dlur", .str "lurd", .str "uldr", .str "drul", .str "ldru", .str "ruld", .str "urdl", .str "urdl"])) Q E0
    rw [el]
    refine ⟨a, _, rfl, hs.upd hpa, .inr ⟨p, _, rfl, SqL.of (cut_new hpa), by decide, by decide, fun y hy H' e s' => ?_⟩⟩
    obtain ⟨t, ht, rfl⟩ := List.mem_map.mp hy
    refine q t ?_ H' (e1.trans e) s'
    rcases List.mem_append.mp ht with h | h
    · exact h
    · have : t = DL := by
        rcases List.mem_cons.mp h with h | h
        · exact h
        · exact List.mem_singleton.mp h
      rw [this]
      exact DL_turn
end
end Oh
namespace Oh
open PySem PySem.Spec PyProof.Rows L2
def rowSpots (y : Nat) (t sg : List Nat) (n : Nat) : List Pl := ((List.range n).filter fun x => decide (t.getD x 0 ∈ sg)).map fun (x : Nat) => ((y : Int), (x : Int))
def spotsN (ts : Tx) (sg : List Nat) (i : Nat) : List Pl := (List.range i).flatMap fun y => rowSpots y (ts.getD y []) sg (ts.getD y []).length
def spotsL (ts : Tx) (sg : List Nat) : List Pl := spotsN ts sg ts.length
theorem spotsN_succ {ts : Tx} {sg : List Nat} {i : Nat} {t : List Nat} (h : ts[i]? = some t) : spotsN ts sg (i + 1) = spotsN ts sg i ++ rowSpots i t sg t.length := by
  unfold spotsN
  rw [List.range_succ, List.flatMap_append, List.flatMap_singleton, List.getD_eq_getElem?_getD, h]
  rfl
theorem rowSpots_yes {y x c : Nat} {t sg : List Nat} (hc : t[x]? = some c) (h : c ∈ sg) : rowSpots y t sg (x + 1) = rowSpots y t sg x ++ [((y : Int), (x : Int))] := by
  unfold rowSpots
  rw [List.range_succ, List.filter_append, List.filter_cons_of_pos (by rw [List.getD_eq_getElem?_getD, hc]; exact decide_eq_true h), List.map_append]
  rfl
theorem rowSpots_no {y x c : Nat} {t sg : List Nat} (hc : t[x]? = some c) (h : ¬ c ∈ sg) : rowSpots y t sg (x + 1) = rowSpots y t sg x := by
  unfold rowSpots
  rw [List.range_succ, List.filter_append, List.filter_cons_of_neg (by rw [List.getD_eq_getElem?_getD, hc]; exact fun z => h (of_decide_eq_true z)), List.map_append]
  simp
theorem rowSpots_len (y : Nat) (t sg : List Nat) (n : Nat) : (rowSpots y t sg n).length ≤ n := by
  unfold rowSpots
  rw [List.length_map]
  exact Nat.le_trans (List.length_filter_le _ _) (by rw [List.length_range]; exact Nat.le_refl _)
theorem ts_getD {ts : Tx} (ok : TsOk ts) {y : Nat} (h : y < ts.length) : ts[y]? = some (ts.getD y []) ∧ (ts.getD y []).length = cols ts := by
  have e : ts[y]? = some ts[y] := List.getElem?_eq_getElem h
  have e2 : ts.getD y [] = ts[y] := by rw [List.getD_eq_getElem?_getD, e]; rfl
  rw [e2]
  exact ⟨e, ok.each _ (List.getElem_mem h)⟩
theorem spotsN_len {ts : Tx} (ok : TsOk ts) (sg : List Nat) : ∀ i, i ≤ ts.length → (spotsN ts sg i).length ≤ i * 6
  | 0, _ => Nat.le_refl _
  | i + 1, h => by
    have ⟨e1, e2⟩ := ts_getD ok (show i < ts.length by omega)
    rw [spotsN_succ e1, List.length_append]
    have h1 := spotsN_len ok sg i (by omega)
    have h2 := rowSpots_len i (ts.getD i []) sg (ts.getD i []).length
    have := ok.c6
    omega
theorem spots_len {ts : Tx} (ok : TsOk ts) (sg : List Nat) : (spotsL ts sg).length ≤ 36 := by
  have h := spotsN_len ok sg ts.length (Nat.le_refl _)
  have := ok.l6
  unfold spotsL
  omega
theorem spots_mem {ts : Tx} (ok : TsOk ts) {sg : List Nat} {p : Pl} (h : p ∈ spotsL ts sg) : has ts p = true ∧ seen ts p ∈ sg := by
  unfold spotsL spotsN rowSpots at h
  obtain ⟨y, hy, h⟩ := List.mem_flatMap.mp h
  obtain ⟨x, hx, rfl⟩ := List.mem_map.mp h
  obtain ⟨hx1, hx2⟩ := List.mem_filter.mp hx
  have hy' := List.mem_range.mp hy
  have hx' := List.mem_range.mp hx1
  obtain ⟨e1, e2⟩ := ts_getD ok hy'
  have hh : has ts ((y : Int), (x : Int)) = true := has_iff.mpr ⟨⟨by show (0 : Int) ≤ (y : Int); omega, by show (y : Int) ≤ _; omega⟩, by show (0 : Int) ≤ (x : Int); omega, by show (x : Int) ≤ _; omega⟩
  refine ⟨hh, ?_⟩
  unfold seen
  rw [if_pos hh]
  exact of_decide_eq_true hx2
theorem mem_spots {ts : Tx} (ok : TsOk ts) {sg : List Nat} {p : Pl} (h : has ts p = true) (hs : seen ts p ∈ sg) : p ∈ spotsL ts sg := by
  obtain ⟨t, h1, h2, h3, h4, h5⟩ := has_sign ok h
  have hy : p.1.toNat < ts.length := (List.getElem?_eq_some_iff.mp h1).1
  have hx : p.2.toNat < t.length := (List.getElem?_eq_some_iff.mp h3).1
  have et : ts.getD p.1.toNat [] = t := by rw [List.getD_eq_getElem?_getD, h1]; rfl
  unfold spotsL spotsN rowSpots
  refine List.mem_flatMap.mpr ⟨p.1.toNat, List.mem_range.mpr hy, List.mem_map.mpr ⟨p.2.toNat, List.mem_filter.mpr ⟨List.mem_range.mpr (by rw [et]; exact hx), ?_⟩, ?_⟩⟩
  · rw [et, List.getD_eq_getElem?_getD, h3]
    exact decide_eq_true hs
  · rw [← h4, ← h5]
section
variable {P : Program} {w : World} {K : PySem.W.Frag} {mg : Str → Option Value} {base : Heap} {CF CW : Addr}
def spSpots (K : PySem.W.Frag) : Sp := fun vs H Q _ => ∃ (v : V) (sg : List Nat) (ts : Tx), vs = [v, .str (sx sg)] ∧ TsAt K H v ts ∧ TsOk ts ∧ ∀ l vs H', H l = none → Same H H' → H' l = some (.lst vs) → Paired (PlAt K H') vs (spotsL ts sg) → Q (.ref l) H'
theorem sc_spots : FnScope ["_law_texts_here", "_law_signs", "_law_found", "_law_y", "_law_text", "_law_x", "_law_sign"] ["_law_texts_here", "_law_signs"] (defScope (topS 49)) := ⟨rfl, rfl, rfl, by decide +kernel, rfl, by decide +kernel, by decide +kernel⟩
theorem c_spots (T : Txt K mg CF CW) : Cal P w K mg base 1 "_law_spots" (spSpots K) := by
  refine cal_mk T.l_spots sc_spots (fun _ _ _ _ _ _ us hl => match us, hl with | [_, _], _ => rfl) (fun vs H Q E h => ?_) (fun F0 cdv A outer s H vs Q E hr h => ?_)
  · obtain ⟨_, _, _, rfl, _⟩ := h
    rfl
  · obtain ⟨v, sg, ts, rfl, ⟨tl, rfl, hL⟩, ok, q⟩ := h
    refine ⟨_, pss_cons (ps_set (i := 2) sc_spots.nd rfl (.inl rfl) (pe_lst pa_nil))
      (pss_cons (ps_for PassesOwn.never rfl (pi_enum rfl T.enum (pa_cons (pv 0) pa_nil)) (pg_tup rfl (pgs_cons (pg_name (i := 3) sc_spots.nd rfl (.inr rfl)) (pgs_cons (pg_name (i := 4) sc_spots.nd rfl (.inl rfl)) pgs_nil)))
        (pss_one (ps_expr (pe_bm PySem.F.plainAttrs_list PySem.F.slot_list_extend PySem.F.type_list_extend mt_extend (pv 2)
          (pa_cons (pe_lc (own := [("_law_x", 5), ("_law_sign", 6)]) (g := gTwo K 5 6) rfl sc_spots.nd (pi_enumS rfl T.enum (pa_cons (pv 4) pa_nil)) (blkOk_by (own := [("_law_x", 5), ("_law_sign", 6)]) (N := ["_law_texts_here", "_law_signs", "_law_found", "_law_y", "_law_text", "_law_x", "_law_sign"]) (sc := defScope (topS 49)) (by decide +kernel))
            (fun _ _ _ _ _ => pg_tupK rfl rfl (pgs_cons (pg_name (i := 5) sc_spots.nd rfl (.inl rfl)) (pgs_cons (pg_name (i := 6) sc_spots.nd rfl (.inl rfl)) pgs_nil))) (fun _ _ _ _ _ => pts_one (pt_cmpR op_in_sign (pv 6) (pv 1) rfl))
            (fun _ _ _ _ _ => pe_tup (pa_cons (pv 3) (pa_cons (pv 5) pa_nil)))) pa_nil)))))
      (pss_one (ps_ret (pv 2)))), ?_⟩
    have l6 := ok.l6
    have c6 := ok.c6
    refine ⟨by show 0 ≤ sizeLine; exact Nat.zero_le _, fun D hD => ?_⟩
    have eD := same_new (o := .lst []) hD
    refine ⟨_, rfl, tl, _, rfl, eD.seq hL, ?_⟩
    refine for_it (n := ts.length) (by have := walk_enum (K := K) (a := tl) (xs := ts.map fun t => V.str (sx t)); rw [List.length_map] at this; exact this)
      (fun i σ H' => (∃ b1 b2, σ = [some (.ref tl), some (.str (sx sg)), some (.ref D), b1, b2, none, none]) ∧ Same H H' ∧ ∃ l, H' D = some (.lst l) ∧ Paired (PlAt K H') l (spotsN ts sg i))
      ⟨⟨_, _, rfl⟩, eD, [], upd_same, .nil⟩ (fun _ _ H' _ p => p.2.1.seq hL) ?_ ?_
    · rintro i x σ H1 H2 hi ⟨⟨b1, b2, rfl⟩, e1, l, hl, hp⟩ ⟨t, x1, x2, rfl, hn, rfl, q1, q2⟩
      have q1' := Option.some.inj q1
      subst q1'
      obtain ⟨r, hr0, rfl⟩ : ∃ r, ts[i]? = some r ∧ x2 = V.str (sx r) := by
        have q3 : (ts.map fun t => V.str (sx t))[i]? = some x2 := q2
        rw [List.getElem?_map] at q3
        cases e : ts[i]? with
        | none =>
          rw [e] at q3
          cases q3
        | some r =>
          rw [e] at q3
          exact ⟨r, rfl, (Option.some.inj q3).symm⟩
      have hm : r ∈ ts := List.mem_of_getElem? hr0
      have hrl := ok.each r hm
      have e2 := same_new (o := .tup [.int (i : Nat), .str (sx r)]) hn
      refine ⟨t, _, rfl, .inl (.inl upd_same), rfl, _, _, rfl, _, _, rfl, rfl, ?_⟩
      have hl2 := e2 _ _ hl
      refine ⟨_, rfl, .inl ⟨rfl, l, SqL.of hl2⟩, ?_⟩
      refine ⟨_, rfl, _, rfl, fun D2 hD2 => ?_⟩
      have hn2 : (sx r).cps.size = r.length := by simp [sx]
      refine lc_same walk_enumS hD2 (PlAt K) (fun j => rowSpots i r sg j) rfl (fun _ _ _ _ e h => h.mono e) (fun _ _ _ _ _ h q => pl_upd h q) (fun _ _ => trivial) (fun j hj => ?_) ?_ ?_
      · exact Nat.le_trans (rowSpots_len _ _ _ _) (by omega)
      · rintro j y H4 H5 hj e4 ⟨t', c, rfl, hn', rfl, hc⟩ k1 k2 hk1 hk2
        have hc' := sx_get hc
        have e5 := same_new (o := .tup [.int (j : Nat), .str ⟨#[c]⟩]) hn'
        refine ⟨t', _, rfl, .inl (.inl upd_same), rfl, _, _, rfl, _, _, rfl, rfl, rfl, ?_⟩
        refine ⟨_, rfl, _, rfl, c, sx sg, rfl, rfl, _, rfl, ?_⟩
        refine ite2 (fun h1 => ?_) (fun h1 => ?_)
        · refine ⟨_, rfl, _, rfl, by show 2 ≤ sizeLine; decide, fun z hz => ?_⟩
          exact hk1 _ _ _ (e5.trans (same_new hz)) (rowSpots_yes hc' (of_decide_eq_true h1)) ⟨z, rfl, SqT.of upd_same⟩
        · exact hk2 _ e5 (rowSpots_no hc' fun z => h1 (decide_eq_true z))
      · intro H4 l4 e4 hl4 hp4
        have hl5 := e4 _ _ hl2
        have hp4' : Paired (PlAt K H4) l4 (rowSpots i r sg (sx r).cps.size) := hp4
        rw [hn2] at hp4'
        have el := spotsN_succ (sg := sg) hr0
        refine ⟨D, D2, l, l4, rfl, rfl, hl5, hl4, ?_, ⟨_, _, rfl⟩, same_mut ((e1.trans e2).trans e4) hD, _, upd_same, ?_⟩
        · rw [paired_len hp, paired_len hp4']
          have h1 := spotsN_len ok sg i (by omega)
          have h2 := rowSpots_len i r sg r.length
          exact sz_ok (by omega)
        · rw [el]
          exact paired_app (Paired.mapP hp fun v x q => pl_upd hl5 ((q.mono e2).mono e4)) (Paired.mapP hp4' fun v x q => pl_upd hl5 q)
    · rintro σ H1 ⟨⟨b1, b2, rfl⟩, e1, l, hl, hp⟩
      exact ⟨_, rfl, q _ _ _ hD e1 hl hp⟩
end
end Oh
namespace Oh
open PySem PySem.Spec PyProof.Rows L2
theorem lc_ex {α : Type} {J : It} {n : Nat} {G : Hp → Prop} {Y : Nat → Hp → V → Hp → Prop} (w : Walk J n G Y) {g : TG} {tt : TT} {te : TE} {vs : List Nat} {σ : L2.St} {H1 : Hp} {D : Addr} {Qd : Hp → Prop} (hD : H1 D = none) {a : Addr} (hs0 : SrcAt H1 a)
    (R : Hp → V → α → Prop) (out : Nat → List α) (o0 : out 0 = [])
    (hm : ∀ H H' v x, ExS a H H' → R H v x → R H' v x) (hu : ∀ H l l' v x, D ≠ a → H D = some (.lst l) → R H v x → R (upd H D (.lst l')) v x)
    (hG : ∀ H, ExS a H1 H → G H) (hlen : ∀ i, i ≤ n → (out i).length ≤ 100000)
    (hs : ∀ i x H H', i < n → ExS a H1 H → SrcAt H a → (∃ l, H D = some (.lst l)) → Y i H x H' → ∀ (k : V → Hp → Prop) (k' : Hp → Prop), (∀ y H4 z, ExS a H H4 → SrcAt H4 a → out (i + 1) = out i ++ [z] → R H4 y z → k y H4) → (∀ H3, ExS a H H3 → SrcAt H3 a → out (i + 1) = out i → k' H3) →
      g x (wipe σ vs) H' fun σ2 H2 => wipe σ2 vs = wipe σ vs ∧ tt σ2 H2 fun b H3 => if b = true then te σ2 H3 k else k' H3)
    (hd : ∀ H l, ExS a H1 H → SrcAt H a → H D = some (.lst l) → Paired (R H) l (out n) → Qd H) :
    ∃ W : Nat → Nat → Hp → Prop, (∃ m, W 0 m (upd H1 D (.lst []))) ∧ ∀ i m H, W i m H →
      (J.stop i H ∧ Qd H) ∨ (J.go i H ∧ ∃ Nx : Hp → Prop, (∀ H', Nx H' → ∃ m', m' < m ∧ W (i + 1) m' H') ∧ ∀ x H', J.yld i H x H' → g x (wipe σ vs) H' fun σ2 H2 => wipe σ2 vs = wipe σ vs ∧ tt σ2 H2 fun b H3 =>
        if b = true then te σ2 H3 fun y H4 => ∃ acc, H4 D = some (.lst acc) ∧ acc.length < sizeLine ∧ Nx (upd H4 D (.lst (acc ++ [y]))) else Nx H3) := by
  have hDa := hs0.ne hD
  refine lc_it w (fun i H => ExS a H1 H ∧ SrcAt H a ∧ ∃ l, H D = some (.lst l) ∧ Paired (R H) l (out i)) ⟨ExS.of (same_new hD), hs0.upd hDa, [], upd_same, by rw [o0]; exact .nil⟩ (fun i H _ p => hG H p.1) ?_ (fun H p => ?_)
  · rintro i x H H' hi ⟨e1, s1, l, hl, hp⟩ y
    refine hs i x H H' hi e1 s1 ⟨l, hl⟩ y _ _ (fun y H4 z e2 s2 eo r => ?_) (fun H3 e2 s2 eo => ?_)
    · have h4 : H4 D = some (.lst l) := e2.at hl hDa
      have hz : l.length ≤ 100000 := by
        rw [paired_len hp]
        exact hlen i (by omega)
      refine ⟨l, h4, Nat.lt_of_le_of_lt hz (by decide), (e1.trans e2).mut hD, s2.upd hDa, _, upd_same, ?_⟩
      rw [eo]
      exact paired_snoc (Paired.mapP hp fun v x q => hu _ _ _ _ _ hDa h4 (hm _ _ _ _ e2 q)) (hu _ _ _ _ _ hDa h4 r)
    · refine ⟨e1.trans e2, s2, l, e2.at hl hDa, ?_⟩
      rw [eo]
      exact Paired.mapP hp fun v x q => hm _ _ _ _ e2 q
  · obtain ⟨e1, s1, l, hl, hp⟩ := p
    exact hd H l e1 s1 hl hp
theorem lc_exY {α : Type} {J : It} {n : Nat} {G : Hp → Prop} {Y : Nat → Hp → V → Hp → Prop} (w : Walk J n G Y) {g : TG} {te : TE} {vs : List Nat} {σ : L2.St} {H1 : Hp} {D : Addr} {Qd : Hp → Prop} (hD : H1 D = none) {a : Addr} (hs0 : SrcAt H1 a)
    (R : Hp → V → α → Prop) (out : Nat → List α) (o0 : out 0 = [])
    (hm : ∀ H H' v x, ExS a H H' → R H v x → R H' v x) (hu : ∀ H l l' v x, D ≠ a → H D = some (.lst l) → R H v x → R (upd H D (.lst l')) v x)
    (hG : ∀ H, ExS a H1 H → G H) (hlen : ∀ i, i ≤ n → (out i).length ≤ 100000)
    (hs : ∀ i x H H', i < n → ExS a H1 H → SrcAt H a → (∃ l, H D = some (.lst l)) → Y i H x H' → ∀ (k : V → Hp → Prop), (∀ y H4 z, ExS a H H4 → SrcAt H4 a → out (i + 1) = out i ++ [z] → R H4 y z → k y H4) →
      g x (wipe σ vs) H' fun σ2 H2 => wipe σ2 vs = wipe σ vs ∧ te σ2 H2 k)
    (hd : ∀ H l, ExS a H1 H → SrcAt H a → H D = some (.lst l) → Paired (R H) l (out n) → Qd H)
    (hgm : ∀ x σ' H' (A B : L2.St → Hp → Prop), (∀ σ2 H2, A σ2 H2 → B σ2 H2) → g x σ' H' A → g x σ' H' B) :
    ∃ W : Nat → Nat → Hp → Prop, (∃ m, W 0 m (upd H1 D (.lst []))) ∧ ∀ i m H, W i m H →
      (J.stop i H ∧ Qd H) ∨ (J.go i H ∧ ∃ Nx : Hp → Prop, (∀ H', Nx H' → ∃ m', m' < m ∧ W (i + 1) m' H') ∧ ∀ x H', J.yld i H x H' → g x (wipe σ vs) H' fun σ2 H2 => wipe σ2 vs = wipe σ vs ∧ tYes σ2 H2 fun b H3 =>
        if b = true then te σ2 H3 fun y H4 => ∃ acc, H4 D = some (.lst acc) ∧ acc.length < sizeLine ∧ Nx (upd H4 D (.lst (acc ++ [y]))) else Nx H3) := by
  refine lc_ex w hD hs0 R out o0 hm hu hG hlen (fun i x H H' hi e s1 hl y k k' hk _ => ?_) hd
  refine hgm _ _ _ _ _ (fun σ2 H2 q => ⟨q.1, ?_⟩) (hs i x H H' hi e s1 hl y k hk)
  show (if true = true then te σ2 H2 k else k' H2)
  rw [if_pos rfl]
  exact q.2
def rJoinK (K : PySem.W.Frag) : V → List V → Hp → VK → Prop := fun x xs H Q => ∃ a p, ∃ ys : List Str, x = .str a ∧ xs = [.ref p] ∧ (SqL K H p (ys.map V.str) ∨ SqT K H p (ys.map V.str)) ∧ (ys.map (·.length)).sum + ys.length * a.length ≤ 16777216 ∧ Q (.str (Txt.join a ys)) H
theorem pe_joinK {X : Cx} {K : PySem.W.Frag} {o e : Expr} {to te : TE} {apos pos : Pos} (h : X.K = K) (ho : PE X o to) (he : PE X e te) (hs : starEach [e] X.env = [(false, eval e X.env)] := by rfl) (hbase : attributeBase o "join" X.env (eval o X.env) = eval o X.env := by rfl) (hline : (apos.endLine == pos.line) = true := by rfl) :
    PE X (.Call (.Attribute o "join" apos) [e] [] pos) (tM1 (rJoinK K) to te) := by subst h; exact pe_join ho he hs hbase hline
def signSets : List (List Nat) := [[46, 46, 46, 46, 126, 126, 126, 35, 120, 97, 98, 99, 100], [126, 126, 126, 126, 46, 35, 97, 98], [46, 46, 46, 46, 46, 46], [46, 46, 126, 35, 99, 100, 35], [126, 126, 126, 46, 120, 35], [46, 97, 98, 46, 99, 100], [46, 46, 46, 46, 35]]
theorem signSets_ok : ∀ z ∈ signSets, 0 < z.length ∧ z.length ≤ 1000 ∧ ∀ c ∈ z, c ∈ signs := by decide
def chV (c : Nat) : V := .str (sx [c])
theorem chV_inj {s t : List Nat} (h : s.map chV = t.map chV) : s = t := by
  have inj : ∀ a b, chV a = chV b → a = b := fun a b e => by
    unfold chV at e
    injection e with e
    have := sx_inj e
    injection this
  induction s generalizing t with
  | nil => cases t with
    | nil => rfl
    | cons c r => simp at h
  | cons c r ih => cases t with
    | nil => simp at h
    | cons c' r' =>
      simp only [List.map_cons] at h
      injection h with h1 h2
      rw [inj _ _ h1, ih h2]
/-- a row of cells at r -/
def RowAt (a D : Addr) (B : Hp) (n : Nat) (H : Hp) (v : V) (t : List Nat) : Prop := ∃ r, v = .ref r ∧ r ≠ D ∧ r ≠ a ∧ H r = some (.lst (t.map chV)) ∧ B r = none ∧ t.length = n ∧ ∀ c ∈ t, c ∈ signs
theorem ExS.free {a p : Addr} {H H' : Hp} (e : ExS a H H') (h : H' p = none) (hne : p ≠ a) : H p = none := by
  cases hp : H p with
  | none => rfl
  | some o =>
    rw [e.at hp hne] at h
    cases h
theorem ixN_nat {n j : Nat} (h : j < n) : ixN n (j : Int) = some j := by
  unfold ixN
  rw [if_pos (by omega), if_pos (by omega)]
  simp
theorem paired_all {α β : Type} {G : α → β → Prop} : ∀ {l : List α}, (∀ x ∈ l, ∃ y, G x y) → ∃ ys, Paired G l ys
  | [], _ => ⟨[], .nil⟩
  | x :: l, h => by
    obtain ⟨y, hy⟩ := h x (List.mem_cons_self ..)
    obtain ⟨ys, hys⟩ := paired_all fun z hz => h z (List.mem_cons_of_mem _ hz)
    exact ⟨y :: ys, .cons hy hys⟩
theorem paired_exists {α β : Type} {G : α → β → Prop} {l : List α} {ys : List β} (h : Paired G l ys) : ∀ x ∈ l, ∃ y, G x y := fun x hx => by
  obtain ⟨i, hi⟩ := List.getElem?_of_mem hx
  obtain ⟨y, _, hy⟩ := L2.paired_get h hi
  exact ⟨y, hy⟩
section
variable {P : Program} {w : World} {K : PySem.W.Frag} {mg : Str → Option Value} {base : Heap} {CF CW : Addr}
def spTexts (K : PySem.W.Frag) : Sp := fun vs H Q _ => ∃ (a : Addr), vs = [.ref a, .int 6, .int 6] ∧ SrcAt H a ∧ ∀ ts u H', TsOk ts → (∃ p, has ts p = true ∧ seen ts p ∈ opens) → ExS a H H' → SrcAt H' a → TsAt K (cut a H') u ts → Q u H'
abbrev nTexts : List Str := ["_law_source_here", "_law_high", "_law_wide", "_law_down", "_law_along", "_law_signs", "_law_cells", "_law_k", "_law_j", "_law_line"]
theorem sc_texts : FnScope nTexts ["_law_source_here", "_law_high", "_law_wide"] (defScope (topS 47)) := ⟨rfl, rfl, rfl, by decide +kernel, rfl, by decide +kernel, by decide +kernel⟩
def asgE : List Stmt → Nat → Expr
  | .Assign _ e _ :: _, 0 => e
  | _ :: r, n + 1 => asgE r n
  | _, _ => .Constant .none 0 ⟨0, 0, 0, 0⟩
def eltE : Expr → Expr
  | .ListComp e _ _ _ => e
  | e => e
theorem c_texts (T : Txt K mg CF CW) : Cal P w K mg base 4 "_law_texts" (spTexts K) := by
  refine cal_mk T.l_texts sc_texts (fun _ _ _ _ _ _ us hl => match us, hl with | [_, _, _], _ => rfl) (fun vs H Q E h => ?_) (fun F0 cdv A outer s H vs Q E hr h => ?_)
  · obtain ⟨_, rfl, _⟩ := h
    rfl
  · obtain ⟨a, rfl, hs, q⟩ := h
    refine ⟨_, pss_cons (ps_asg (pe_tup (pa_cons (pe_op op_add pe_int (pe_c (c_take T) hr (by decide) rfl (pa_cons (pv 0) (pa_cons (pv 1) pa_nil)))) (pa_cons (pe_op op_add pe_int (pe_c (c_take T) hr (by decide) rfl (pa_cons (pv 0) (pa_cons (pv 2) pa_nil)))) pa_nil)))
        (pg_tup rfl (pgs_cons (pg_name (i := 3) sc_texts.nd rfl (.inl rfl)) (pgs_cons (pg_name (i := 4) sc_texts.nd rfl (.inr rfl)) pgs_nil))))
      (pss_cons (ps_set (i := 5) sc_texts.nd rfl (.inr rfl) (pe_c (c_one T) hr (by decide) rfl (pa_cons (pv 0) (pa_cons (pe_lst (pa_cons pe_str (pa_cons pe_str (pa_cons pe_str (pa_cons pe_str (pa_cons pe_str (pa_cons pe_str (pa_cons pe_str pa_nil)))))))) pa_nil))))
      (pss_cons (ps_setLc (i := 6) (own := [("_law_j", 8)]) (g := gName 8) (tt := tYes) rfl sc_texts.nd rfl rfl rfl (pi_range1 rfl T.range (pa_cons (pv 3) pa_nil)) (blkOk_by (own := [("_law_j", 8)]) (N := nTexts) (sc := defScope (topS 47)) (by decide +kernel))
          (fun _ _ _ _ _ => pg_name (i := 8) sc_texts.nd rfl (Or.inl rfl)) (fun _ _ _ _ _ => pts_nil)
          (fun _ _ _ _ _ => pe_lc (own := [("_law_k", 7)]) (g := gName 7) (tt := tYes) rfl sc_texts.nd (pi_range1 rfl T.range (pa_cons (pv 4) pa_nil)) (blkOk_by (own := [("_law_k", 7)]) (N := nTexts) (sc := relS (lcScope (asgE (defBody (topS 47)) 2)) (defScope (topS 47))) (by decide +kernel))
            (fun _ _ _ _ _ => pg_name (i := 7) sc_texts.nd rfl (Or.inl rfl)) (fun _ _ _ _ _ => pts_nil) (fun _ _ _ _ _ => pe_c (c_one T) hr (by decide) rfl (pa_cons (pv 0) (pa_cons (pv 5) pa_nil)))))
      (pss_cons (ps_asg (pe_c (c_one T) hr (by decide) rfl (pa_cons (pv 0) (pa_cons (pe_lst (pa_cons pe_str (pa_cons pe_str pa_nil))) pa_nil)))
        (pg_sub (pe_ix ix_list (pv 6) (pe_c (c_take T) hr (by decide) rfl (pa_cons (pv 0) (pa_cons (pv 3) pa_nil))) (fun _ _ => rfl)) (pe_c (c_take T) hr (by decide) rfl (pa_cons (pv 0) (pa_cons (pv 4) pa_nil))) set_list))
      (pss_one (ps_ret (pe_lc (own := [("_law_line", 9)]) (g := gName 9) (tt := tYes) rfl sc_texts.nd (pi_list (pv 6)) (blkOk_by (own := [("_law_line", 9)]) (N := nTexts) (sc := defScope (topS 47)) (by decide +kernel))
          (fun _ _ _ _ _ => pg_name (i := 9) sc_texts.nd rfl (Or.inl rfl)) (fun _ _ _ _ _ => pts_nil) (fun _ _ _ _ _ => pe_joinK (K := K) rfl pe_str (pv 9)))))))), ?_⟩
    -- down, along
    refine ⟨_, rfl, _, rfl, a, 6, rfl, hs, by decide, by decide, fun d0 H1 e1 s1 hd0 => ?_⟩
    refine ⟨1, _, rfl, rfl, _, rfl, _, rfl, a, 6, rfl, s1, by decide, by decide, fun w0 H2 e2 s2 hw0 => ?_⟩
    refine ⟨1, _, rfl, rfl, by show 2 ≤ sizeLine; decide, fun tp htp => ?_⟩
    have e3 : ExS a H2 (upd H2 tp (.tup [.int (1 + (d0 : Int)), .int (1 + (w0 : Int))])) := ExS.of (same_new htp)
    have s3 := s2.upd (o := .tup [.int (1 + (d0 : Int)), .int (1 + (w0 : Int))]) (s2.ne htp)
    refine ⟨tp, _, rfl, .inl (.inl upd_same), rfl, _, _, rfl, _, _, rfl, rfl, ?_⟩
    have e03 := (e1.trans e2).trans e3
    generalize upd H2 tp (.tup [.int (1 + (d0 : Int)), .int (1 + (w0 : Int))]) = H3 at e3 s3 e03
    -- signs
    refine ⟨_, rfl, by show 7 ≤ sizeLine; decide, fun sp hsp => ?_⟩
    have hspa := s3.ne hsp
    have el : ([.str "....~~~#xabcd", .str "~~~~.#ab", .str "......", .str "..~#cd#", .str "~~~.x#", .str ".ab.cd", .str "....#"] : List V) = signSets.map fun t => V.str (sx t) := by decide +kernel
    have e4 : ExS a H3 (upd H3 sp (.lst [.str "....~~~#xabcd", .str "~~~~.#ab", .str "......", .str "..~#cd#", .str "~~~.x#", .str ".ab.cd", .str "....#"])) := ExS.of (same_new hsp)
    refine ⟨a, _, rfl, s3.upd hspa, .inr ⟨sp, _, rfl, SqL.of (cut_new hspa), by show 0 < 7; decide, by show 7 ≤ 1000; decide, fun y hy H4 e5 s4 => ?_⟩⟩
    rw [el] at hy
    obtain ⟨z, hz, rfl⟩ := List.mem_map.mp hy
    obtain ⟨z1, z2, z3⟩ := signSets_ok z hz
    have e04 := (e03.trans e4).trans e5
    -- cells
    refine ⟨_, rfl, 1 + (d0 : Int), rfl, by omega, by omega, fun D hD => ?_⟩
    have ed : (1 + (d0 : Int)).toNat = d0 + 1 := by omega
    have ew : (1 + (w0 : Int)).toNat = w0 + 1 := by omega
    rw [ed]
    refine lc_exY walk_range hD s4 (fun H' v _ => ∃ t, RowAt a D H (w0 + 1) H' v t) (fun i => List.range i) rfl (fun H H' v x e h => ?_) (fun H l l' v x hDa hl h => ?_) (fun _ _ => trivial) (fun i hi => ?_) ?_ ?_ gm_name
    · obtain ⟨t, r, h1, h2, h3, h4, h5⟩ := h
      exact ⟨t, r, h1, h2, h3, e.at h4 h3, h5⟩
    · obtain ⟨t, r, h1, h2, h3, h4, h5⟩ := h
      exact ⟨t, r, h1, h2, h3, by rw [upd_ne h2]; exact h4, h5⟩
    · rw [List.length_range]
      omega
    · rintro i x H5 H6 hi e6 s5 ⟨lD, hlD⟩ ⟨rfl, rfl⟩ k hk
      refine ⟨rfl, ?_⟩
      refine ⟨_, rfl, 1 + (w0 : Int), rfl, by omega, by omega, fun D2 hD2 => ?_⟩
      rw [ew]
      have hD2a := s5.ne hD2
      refine lc_exY walk_range hD2 s5 (fun _ v _ => ∃ c, v = chV c ∧ c ∈ signs) (fun i => List.range i) rfl (fun H H' v x e h => h) (fun H l l' v x hDa hl h => h) (fun _ _ => trivial) (fun i hi => ?_) ?_ ?_ gm_name
      · rw [List.length_range]
        omega
      · rintro j y H7 H8 hj e7 s7 hl2 ⟨rfl, rfl⟩ k2 hk2
        refine ⟨rfl, ?_⟩
        refine ⟨_, rfl, _, rfl, a, _, rfl, s7, .inl ⟨z, rfl, z1, z2, fun c hc H9 e9 s9 => ?_⟩⟩
        exact hk2 _ _ j e9 s9 List.range_succ ⟨c, rfl, z3 c hc⟩
      · intro H7 l7 e7 s7 hl7 hp7
        obtain ⟨t, ht⟩ := paired_all (G := fun v c => v = chV c ∧ c ∈ signs) (l := l7) (fun v hv => by
          obtain ⟨j, c, hc⟩ := paired_exists hp7 v hv
          exact ⟨c, hc⟩)
        have el7 : l7 = t.map chV := paired_eq (Paired.mapP ht fun v c q => q.1)
        have hlen : t.length = w0 + 1 := by
          rw [← paired_len ht, paired_len hp7, List.length_range]
        refine hk _ _ i e7 s7 List.range_succ ⟨t, D2, rfl, Ne.symm (ne_of_none hlD hD2), hD2a, by rw [hl7, el7], (e04.trans e6).free hD2 hD2a, hlen, fun c hc => ?_⟩
        obtain ⟨i', hi'⟩ := List.getElem?_of_mem hc
        obtain ⟨v, _, hv⟩ := paired_get' ht hi'
        exact hv.2
    · intro H5 l5 e6 s5 hl5 hp5
      have hDa := s4.ne hD
      have hll5 : l5.length = d0 + 1 := by rw [paired_len hp5, List.length_range]
      refine ⟨_, rfl, by show 2 ≤ sizeLine; decide, fun vp hvp => ?_⟩
      have hva := s5.ne hvp
      have e7 : ExS a H5 (upd H5 vp (.lst [.str ".", .str "a"])) := ExS.of (same_new hvp)
      refine ⟨a, _, rfl, s5.upd hva, .inr ⟨vp, _, rfl, SqL.of (cut_new hva), by show 0 < 2; decide, by show 2 ≤ 1000; decide, fun y hy H6 e8 s6 => ?_⟩⟩
      obtain ⟨c0, hc0, hc1, rfl⟩ : ∃ c, c ∈ opens ∧ c ∈ signs ∧ y = chV c := by
        have el2 : ([.str ".", .str "a"] : List V) = [chV 46, chV 97] := by decide +kernel
        rw [el2] at hy
        rcases List.mem_cons.mp hy with h | h
        · exact ⟨46, by decide, by decide, h⟩
        · exact ⟨97, by decide, by decide, List.mem_singleton.mp h⟩
      refine ⟨_, rfl, _, rfl, _, rfl, a, _, rfl, s6, by omega, by omega, fun n1 H7 e9 s7 hn1 => ?_⟩
      have e57 := (e7.trans e8).trans e9
      have hl7 := e57.at hl5 hDa
      have hn1' : n1 < l5.length := by omega
      have hg1 : l5[n1]? = some l5[n1] := List.getElem?_eq_getElem hn1'
      obtain ⟨_, _, t0, hrow⟩ := L2.paired_get hp5 hg1
      obtain ⟨r, hr1, hr2, hr3, hr4, hr5, hr6, hr7⟩ := hrow
      refine ⟨D, l5, (n1 : Int), l5[n1], rfl, rfl, SqL.of hl7, atI_nat hg1, ?_⟩
      refine ⟨_, rfl, _, rfl, a, _, rfl, s7, by omega, by omega, fun n2 H8 e10 s8 hn2 => ?_⟩
      have e58 := e57.trans e10
      have hr8 := e58.at hr4 hr3
      refine ⟨r, _, (n2 : Int), n2, hr1, rfl, hr8, ixN_nat (by rw [List.length_map]; omega), ?_⟩
      have es : (t0.map chV).set n2 (chV c0) = (t0.set n2 c0).map chV := by rw [List.map_set]
      rw [es]
      have e08 := (e04.trans e6).trans e58
      have e09 : ExS a H (upd H8 r (.lst ((t0.set n2 c0).map chV))) := e08.mut hr5
      have s9 : SrcAt (upd H8 r (.lst ((t0.set n2 c0).map chV))) a := s8.upd hr3
      have hl9 : (upd H8 r (.lst ((t0.set n2 c0).map chV))) D = some (.lst l5) := by
        rw [upd_ne (Ne.symm hr2)]
        exact e10.at hl7 hDa
      have hr9 : (upd H8 r (.lst ((t0.set n2 c0).map chV))) r = some (.lst ((t0.set n2 c0).map chV)) := upd_same
      have hall : ∀ y ∈ l5, ∃ t, RowAt a D H (w0 + 1) (upd H8 r (.lst ((t0.set n2 c0).map chV))) y t := by
        intro y hy
        obtain ⟨_, t, r', q1, q2, q3, q4, q5, q6, q7⟩ := paired_exists hp5 y hy
        by_cases er : r' = r
        · subst er
          refine ⟨t0.set n2 c0, r', q1, q2, q3, upd_same, q5, by rw [List.length_set]; exact hr6, fun c hc => ?_⟩
          rcases List.mem_or_eq_of_mem_set hc with h | h
          · exact hr7 c h
          · rw [h]
            exact hc1
        · exact ⟨t, r', q1, q2, q3, by rw [upd_ne er]; exact e58.at q4 q3, q5, q6, q7⟩
      generalize upd H8 r (.lst ((t0.set n2 c0).map chV)) = H9 at e09 s9 hl9 hr9 hall ⊢
      obtain ⟨ts, hts⟩ := paired_all hall
      have htl : ts.length = d0 + 1 := by rw [← paired_len hts, hll5]
      have heach : ∀ t ∈ ts, t.length = w0 + 1 ∧ ∀ c ∈ t, c ∈ signs := fun t ht => by
        obtain ⟨i, hi⟩ := List.getElem?_of_mem ht
        obtain ⟨v, _, r', q1, q2, q3, q4, q5, q6, q7⟩ := paired_get' hts hi
        exact ⟨q6, q7⟩
      have hcols : cols ts = w0 + 1 := by
        unfold cols
        cases ts with
        | nil => simp at htl
        | cons t r => exact (heach t (List.mem_cons_self ..)).1
      have ok : TsOk ts := ⟨by omega, by omega, by omega, by omega, fun t ht => by rw [hcols]; exact (heach t ht).1, fun t ht => (heach t ht).2⟩
      have hopen : ∃ p, has ts p = true ∧ seen ts p ∈ opens := by
        have hh : has ts ((n1 : Int), (n2 : Int)) = true := has_iff.mpr ⟨⟨by show (0 : Int) ≤ (n1 : Int); omega, by show (n1 : Int) ≤ _; omega⟩, by show (0 : Int) ≤ (n2 : Int); omega, by show (n2 : Int) ≤ _; omega⟩
        refine ⟨_, hh, ?_⟩
        unfold seen
        rw [if_pos hh]
        obtain ⟨t', ht1, r', q1, q2, q3, q4, q5, q6, q7⟩ := L2.paired_get hts hg1
        rw [hr1] at q1
        injection q1 with q1
        rw [← q1, hr9] at q4
        injection q4 with q4
        injection q4 with q4
        have et := chV_inj q4
        have e1 : ts.getD (((n1 : Int), (n2 : Int)) : Pl).1.toNat [] = t' := by
          show ts.getD (n1 : Int).toNat [] = t'
          rw [Int.toNat_natCast, List.getD_eq_getElem?_getD, ht1]
          rfl
        rw [e1, ← et]
        show (t0.set n2 c0).getD (n2 : Int).toNat 0 ∈ opens
        rw [Int.toNat_natCast, List.getD_eq_getElem?_getD, List.getElem?_set_self (by omega)]
        exact hc0
      refine ⟨_, rfl, D, rfl, ⟨_, SqL.of hl9⟩, fun D3 hD3 => ?_⟩
      have hD3a := s9.ne hD3
      refine lc_sameY (walk_list (xs := l5)) hD3 (fun _ v t => v = .str (sx t)) (fun i => ts.take i) rfl (fun _ _ _ _ _ h => h) (fun _ _ _ _ _ _ h => h) (fun _ e => e.seq (SqL.of hl9)) (fun i _ => ?_) ?_ ?_ gm_name
      · rw [List.length_take]
        omega
      · rintro i x Ha Hb hi ea ⟨rfl, hx⟩ k hk
        obtain ⟨t, ht1, r', rfl, q2, q3, q4, q5, q6, q7⟩ := L2.paired_get hts hx
        refine ⟨rfl, ?_⟩
        refine ⟨⟨_, rfl⟩, _, rfl, ("" : Str), r', t.map (fun c => sx [c]), rfl, rfl, .inl (SqL.of ?_), ?_, ?_⟩
        · rw [List.map_map]
          exact ea _ _ q4
        · rw [sum_signs, s_e, sx_len]
          simp only [List.length_nil, Nat.mul_zero]
          omega
        · rw [s_e, join_signs]
          exact hk _ _ t (Same.refl _) (take_snoc ht1) rfl
      · intro Hz lz ez hlz hpz
        have hpz' : Paired (fun v t => v = V.str (sx t)) lz (ts.take l5.length) := hpz
        rw [paired_len hts, List.take_length] at hpz'
        have elz := paired_eq hpz'
        exact q ts _ _ ok hopen (e09.trans (ExS.of ez)) (s9.mono ez) ⟨D3, rfl, SqL.of (by rw [cut_ne hD3a, hlz, elz])⟩
end
end Oh
namespace Oh
open PySem PySem.Spec PyProof.Rows L2
section
variable {P : Program} {w : World} {K : PySem.W.Frag} {mg : Str → Option Value} {base : Heap} {CF CW : Addr}
theorem s_urdl : ("urdl" : Str) = sx DL := by decide +kernel
def spDeeds : Sp := fun vs H Q _ => ∃ (a : Addr), vs = [.ref a, .int 20] ∧ SrcAt H a ∧ ∀ (row : List Nat) H', ExS a H H' → SrcAt H' a → (∀ c ∈ row, c ∈ DL) → row.length ≤ 1000 → Q (.str (sx row)) H'
theorem sc_deeds : FnScope ["_law_source_here", "_law_most", "_law_k"] ["_law_source_here", "_law_most"] (defScope (topS 52)) := ⟨rfl, rfl, rfl, by decide +kernel, rfl, by decide +kernel, by decide +kernel⟩
theorem c_deeds (T : Txt K mg CF CW) : Cal P w K mg base 4 "_law_deeds" spDeeds := by
  refine cal_mk T.l_deeds sc_deeds (fun _ _ _ _ _ _ us hl => match us, hl with | [_, _], _ => rfl) (fun vs H Q E h => ?_) (fun F0 cdv A outer s H vs Q E hr h => ?_)
  · obtain ⟨_, rfl, _⟩ := h
    rfl
  · obtain ⟨a, rfl, hs, q⟩ := h
    refine ⟨_, pss_one (ps_ret (pe_join pe_str (pe_lc (own := [("_law_k", 2)]) (g := gName 2) (tt := tYes) rfl sc_deeds.nd (pi_range1 rfl T.range (pa_cons (pe_c (c_take T) hr (by decide) rfl (pa_cons (pv 0) (pa_cons (pe_op op_add (pv 1) pe_int) pa_nil))) pa_nil)) (blkOk_by (own := [("_law_k", 2)]) (N := ["_law_source_here", "_law_most", "_law_k"]) (sc := defScope (topS 52)) (by decide +kernel))
      (fun _ _ _ _ _ => pg_name (i := 2) sc_deeds.nd rfl (Or.inl rfl)) (fun _ _ _ _ _ => pts_nil) (fun _ _ _ _ _ => pe_c (c_one T) hr (by decide) rfl (pa_cons (pv 0) (pa_cons pe_str pa_nil)))))), ?_⟩
    refine ⟨⟨_, rfl⟩, _, rfl, _, rfl, 20, 1, rfl, rfl, a, 21, rfl, hs, by decide, by decide, fun m H1 e1 s1 hm => ?_⟩
    refine ⟨(m : Int), rfl, by omega, by omega, fun D hD => ?_⟩
    rw [Int.toNat_natCast]
    refine lc_exY walk_range hD s1 (fun _ v _ => ∃ c, v = chV c ∧ c ∈ DL) (fun i => List.range i) rfl (fun H H' v x e h => h) (fun H l l' v x hDa hl h => h) (fun _ _ => trivial) (fun i hi => ?_) ?_ ?_ gm_name
    · rw [List.length_range]
      omega
    · rintro j y H7 H8 hj e7 s7 hl2 ⟨rfl, rfl⟩ k2 hk2
      refine ⟨rfl, ?_⟩
      refine ⟨_, rfl, a, .str "urdl", rfl, s7, .inl ⟨DL, congrArg V.str s_urdl, by decide, by decide, fun c hc H9 e9 s9 => ?_⟩⟩
      exact hk2 _ _ j e9 s9 List.range_succ ⟨c, rfl, hc⟩
    · intro H7 l7 e7 s7 hl7 hp7
      obtain ⟨t, ht⟩ := paired_all (G := fun v c => v = chV c ∧ c ∈ DL) (l := l7) (fun v hv => by
          obtain ⟨j, c, hc⟩ := paired_exists hp7 v hv
          exact ⟨c, hc⟩)
      have el7 : l7 = t.map chV := paired_eq (Paired.mapP ht fun v c q => q.1)
      have hlen : t.length = m := by
        rw [← paired_len ht, paired_len hp7, List.length_range]
      refine ⟨("" : Str), D, t.map (fun c => sx [c]), rfl, rfl, .inl (SqL.of ?_), ?_, ?_⟩
      · rw [List.map_map, hl7, el7]
        rfl
      · rw [sum_signs, s_e, sx_len]
        simp only [List.length_nil, Nat.mul_zero]
        omega
      · rw [s_e, join_signs]
        refine q t _ (e1.trans e7) s7 (fun c hc => ?_) (by omega)
        obtain ⟨i', hi'⟩ := List.getElem?_of_mem hc
        obtain ⟨v, _, hv⟩ := paired_get' ht hi'
        exact hv.2
def spSpotsOf (K : PySem.W.Frag) : Sp := fun vs H Q _ => ∃ (v : V) (ss : List Sd), vs = [v] ∧ LsAt K (SdAt K) H v ss ∧ ss.length ≤ 2000 ∧ ∀ u H', Same H H' → LsAt K (OpAt K) H' u (spots ss) → Q u H'
theorem sc_spots_of : FnScope ["_law_stands", "_law_at"] ["_law_stands"] (defScope (topS 53)) := ⟨rfl, rfl, rfl, by decide +kernel, rfl, by decide +kernel, by decide +kernel⟩
theorem op_upd {H : Hp} {D : Addr} {l l' : List V} {v : V} {p : Option Pl} (h : H D = some (.lst l)) (q : OpAt K H v p) : OpAt K (upd H D (.lst l')) v p := by
  cases p with
  | none => exact q
  | some p => exact pl_upd h q
theorem c_spots_of (T : Txt K mg CF CW) : Cal P w K mg base 1 "_law_spots_of" (spSpotsOf K) := by
  refine cal_mk T.l_spots_of sc_spots_of (fun _ _ _ _ _ _ us hl => match us, hl with | [_], _ => rfl) (fun vs H Q E h => ?_) (fun F0 cdv A outer s H vs Q E hr h => ?_)
  · obtain ⟨_, _, rfl, _⟩ := h
    rfl
  · obtain ⟨v, ss, rfl, ⟨l, xs, rfl, hxs, hp⟩, hlen, q⟩ := h
    refine ⟨_, pss_one (ps_ret (pe_lc (own := [("_law_at", 1)]) (g := gName 1) (tt := tYes) rfl sc_spots_of.nd (pi_list (pv 0)) (blkOk_by (own := [("_law_at", 1)]) (N := ["_law_stands", "_law_at"]) (sc := defScope (topS 53)) (by decide +kernel))
      (fun _ _ _ _ _ => pg_name (i := 1) sc_spots_of.nd rfl (Or.inl rfl)) (fun _ _ _ _ _ => pts_nil) (fun _ _ _ _ _ => pe_ifExp (pt_cmp (pc_isN (pv 1))) pe_non (pe_ix (ix_tupK (K := K) rfl) (pv 1) pe_int (fun _ _ => rfl))))), ?_⟩
    refine ⟨_, rfl, l, rfl, ⟨_, hxs⟩, fun D hD => ?_⟩
    refine lc_sameY (walk_list (xs := xs)) hD (OpAt K) (fun i => (spots ss).take i) rfl (fun _ _ _ _ e h => h.mono e) (fun _ _ _ _ _ h q => op_upd h q) (fun _ e => e.seq hxs) (fun i _ => ?_) ?_ ?_ gm_name
    · rw [List.length_take]
      unfold spots
      rw [List.length_map]
      omega
    · rintro i x H2 H3 hi e2 ⟨rfl, hx⟩ k hk
      obtain ⟨sd, hsd, hxx⟩ := L2.paired_get hp hx
      have hsp : (spots ss)[i]? = some (sd.map Prod.fst) := by
        unfold spots
        rw [List.getElem?_map, hsd]
        rfl
      refine ⟨rfl, ?_⟩
      cases sd with
      | none =>
        obtain rfl := hxx
        exact ⟨_, rfl, true, rfl, iteT (hk _ _ none (Same.refl _) (take_snoc hsp) rfl)⟩
      | some pt =>
        obtain ⟨p, t⟩ := pt
        obtain ⟨sa, u, rfl, ha, hu⟩ := hxx
        refine ⟨_, rfl, false, rfl, iteF ?_⟩
        refine ⟨_, rfl, sa, _, 0, u, rfl, rfl, same_tup e2 ha, atI_nat (j := 0) rfl, ?_⟩
        exact hk _ _ (some p) (Same.refl _) (take_snoc hsp) (hu.mono e2)
    · intro H2 l2 e2 hl2 hp2
      have hp' : Paired (OpAt K H2) l2 ((spots ss).take xs.length) := hp2
      have e : (spots ss).take xs.length = spots ss := by
        rw [paired_len hp]
        unfold spots
        rw [← List.length_map (f := Option.map Prod.fst), List.take_length]
      rw [e] at hp'
      exact q _ _ e2 ⟨D, l2, rfl, SqL.of hl2, hp'⟩
end
theorem paired_congr {α β : Type} {G G' : α → β → Prop} : ∀ {l : List α} {xs : List β}, Paired G l xs → (∀ v, ∀ x ∈ xs, G v x → G' v x) → Paired G' l xs
  | _, _, .nil, _ => .nil
  | _, _, .cons r t, h => .cons (h _ _ (List.mem_cons_self ..) r) (paired_congr t fun v x hx => h v x (List.mem_cons_of_mem _ hx))
theorem pages_of {G : V → Nat → List Nat → Prop} : ∀ {l : List V} {cs : List Nat}, Paired (fun v c => ∃ t, t ∈ turnsL ∧ G v c t) l cs → cs.Nodup → ∃ pg : Nat → List Nat, (∀ c, pg c ∈ turnsL) ∧ Paired (fun v c => G v c (pg c)) l cs
  | _, _, .nil, _ => ⟨fun _ => DL, fun _ => DL_turn, .nil⟩
  | _, _, .cons (b := c) (l₂ := cs) ⟨t, ht, hg⟩ hr, hn => by
    have hn' := List.nodup_cons.mp hn
    obtain ⟨pg, h1, h2⟩ := pages_of hr hn'.2
    refine ⟨fun x => if x = c then t else pg x, fun x => ?_, .cons (show G _ c (if c = c then t else pg c) by rw [if_pos rfl]; exact hg) (paired_congr h2 fun v x hx q => ?_)⟩
    · show (if x = c then t else pg x) ∈ turnsL
      by_cases e : x = c
      · rw [if_pos e]
        exact ht
      · rw [if_neg e]
        exact h1 x
    · show G v x (if x = c then t else pg x)
      rw [if_neg (show ¬ x = c from fun e => hn'.1 (by rw [← e]; exact hx))]
      exact q
theorem merge_kvs (pg : Nat → List Nat) : ∀ (l2 l1 : List Nat), (l1 ++ l2).Nodup → mergeK (kvsOf pg l1) (kvsOf pg l2) = kvsOf pg (l1 ++ l2)
  | [], l1, _ => by rw [List.append_nil]; rfl
  | c :: r, l1, h => by
    have hc : c ∉ l1 := fun hm => (List.nodup_append.mp h).2.2 c hm c (List.mem_cons_self ..) rfl
    have e : kvsOf pg l1 ++ [(Sum.inr (sx [c]), V.str (sx (pg c)))] = kvsOf pg (l1 ++ [c]) := by
      unfold kvsOf
      rw [List.map_append]
      rfl
    have e1 : mergeK (kvsOf pg l1) (kvsOf pg (c :: r)) = mergeK (kvsOf pg (l1 ++ [c])) (kvsOf pg r) := by
      show mergeK (putK (kvsOf pg l1) (Sum.inr (sx [c])) (V.str (sx (pg c)))) (kvsOf pg r) = _
      rw [putK_new _ (by rw [valV_kvs, if_neg hc]), e]
    rw [e1, merge_kvs pg r (l1 ++ [c]) (by rw [List.append_assoc]; exact h), List.append_assoc]
    rfl
theorem pages_addr {K : PySem.W.Frag} {H : Hp} {pg : Nat → List Nat} : ∀ {l : List V} {cs : List Nat}, Paired (fun v c => ∃ tp, v = V.ref tp ∧ SqT K H tp [.str (sx [c]), .str (sx (pg c))]) l cs →
    ∃ ps : List Addr, l = ps.map V.ref ∧ Paired (fun p (kv : Key × V) => SqT K H p [kV kv.1, kv.2]) ps (kvsOf pg cs)
  | _, _, .nil => ⟨[], rfl, .nil⟩
  | _, _, .cons (b := c) ⟨tp, e, h⟩ hr => by
    obtain ⟨ps, h1, h2⟩ := pages_addr hr
    exact ⟨tp :: ps, by rw [e, h1]; rfl, .cons h h2⟩
/-- what the plan's dict holds -/
def mKvs (tl : Addr) (fv : V) (t : List Nat) (pd gl : Addr) : List (Key × V) := [(Sum.inr "texts", .ref tl), (Sum.inr "from", fv), (Sum.inr "swing", .str (sx t)), (Sum.inr "pages", .ref pd), (Sum.inr "goals", .ref gl)]
def MAt (K : PySem.W.Frag) (H : Hp) (M : Addr) (ts : Tx) (p0 : Pl) (t : List Nat) (pg : Nat → List Nat) (gs : List Pl) : Prop :=
  ∃ tl fv pd gl, H M = some (.dK (mKvs tl fv t pd gl)) ∧ SqL K H tl (ts.map fun t => V.str (sx t)) ∧ PlAt K H fv p0 ∧ (∃ kvs, H pd = some (.dK kvs)) ∧ PgAt H pd ts pg ∧ ∃ vs, SqL K H gl vs ∧ Paired (PlAt K H) vs gs
theorem MAt.mono {K : PySem.W.Frag} {H H' : Hp} {M : Addr} {ts : Tx} {p0 : Pl} {t : List Nat} {pg : Nat → List Nat} {gs : List Pl} (e : Same H H') (h : MAt K H M ts p0 t pg gs) : MAt K H' M ts p0 t pg gs := by
  obtain ⟨tl, fv, pd, gl, h1, h2, h3, ⟨kvs, h4⟩, h5, vs, h6, h7⟩ := h
  exact ⟨tl, fv, pd, gl, e _ _ h1, e.seq h2, h3.mono e, ⟨kvs, e _ _ h4⟩, h5.mono e, vs, e.seq h6, Paired.mapP h7 fun v p q => q.mono e⟩
def plOf (q : Addr × List Int) : Pl := match q.2 with
  | [y, x] => (y, x)
  | _ => (0, 0)
theorem any_flat (ts : Tx) (c : Nat) : (ts.any fun t => decide (c ∈ t)) = decide (c ∈ ts.flatten) := by
  by_cases h : c ∈ ts.flatten
  · rw [decide_eq_true h]
    obtain ⟨t, h1, h2⟩ := List.mem_flatten.mp h
    exact List.any_eq_true.mpr ⟨t, h1, decide_eq_true h2⟩
  · rw [decide_eq_false h, List.any_eq_false]
    intro t ht hc
    exact h (List.mem_flatten.mpr ⟨t, ht, of_decide_eq_true hc⟩)
end Oh
namespace Oh
open PySem PySem.Spec PyProof.Rows L2
theorem cut_mono {x : Addr} {H H' : Hp} (e : Same H H') : Same (cut x H) (cut x H') := fun b o h => by
  by_cases hb : b = x
  · rw [hb, cut_self] at h
    cases h
  · rw [cut_ne hb] at h ⊢
    exact e _ _ h
theorem cut_put_eq {x : Addr} {H : Hp} {o : HO} : cut x (upd H x o) = cut x H := by
  funext b
  by_cases hb : b = x
  · rw [hb, cut_self, cut_self]
  · rw [cut_ne hb, cut_ne hb, upd_ne hb]
theorem cut_free {x : Addr} {H : Hp} (h : H x = none) : Same H (cut x H) := fun b o hb => by
  rw [cut_ne (ne_of_none hb h)]
  exact hb
abbrev cut2 (M a : Addr) (H : Hp) : Hp := cut M (cut a H)
theorem cut2_put {M a : Addr} {H : Hp} {o : HO} (h : M ≠ a) : cut2 M a (upd H M o) = cut2 M a H := by
  unfold cut2
  rw [cut_upd h, cut_put_eq]
theorem cut2_at {M a b : Addr} {H : Hp} (h1 : b ≠ M) (h2 : b ≠ a) : cut2 M a H b = H b := by
  unfold cut2
  rw [cut_ne h1, cut_ne h2]
theorem valV_none {kvs : List (Key × V)} {k : Key} : (∀ p ∈ kvs, p.1 ≠ k) → valV kvs k = none := by
  induction kvs with
  | nil => intro _; rfl
  | cons p r ih =>
    intro h
    rw [show valV (p :: r) k = valV r k from valV_neg (h p (List.mem_cons_self ..))]
    exact ih fun q hq => h q (List.mem_cons_of_mem _ hq)
theorem putK_fresh {kvs : List (Key × V)} {k : Key} (v : V) (h : ∀ p ∈ kvs, p.1 ≠ k) : putK kvs k v = kvs ++ [(k, v)] := putK_new v (valV_none h)
abbrev ky (s : Str) : Key := Sum.inr s
def mKvs3 (u fv : V) (t : List Nat) : List (Key × V) := [(Sum.inr "texts", u), (Sum.inr "from", fv), (Sum.inr "swing", .str (sx t))]
theorem k_ne1 : ("texts" : Str) ≠ "from" := by decide +kernel
theorem k_ne2 : ("texts" : Str) ≠ "swing" := by decide +kernel
theorem k_ne3 : ("from" : Str) ≠ "swing" := by decide +kernel
theorem k_ne4 : ("texts" : Str) ≠ "pages" := by decide +kernel
theorem k_ne5 : ("from" : Str) ≠ "pages" := by decide +kernel
theorem k_ne6 : ("swing" : Str) ≠ "pages" := by decide +kernel
theorem k_ne7 : ("texts" : Str) ≠ "goals" := by decide +kernel
theorem k_ne8 : ("from" : Str) ≠ "goals" := by decide +kernel
theorem k_ne9 : ("swing" : Str) ≠ "goals" := by decide +kernel
theorem k_ne10 : ("pages" : Str) ≠ "goals" := by decide +kernel
theorem inr_ne {a b : Str} (h : a ≠ b) : (Sum.inr a : Key) ≠ Sum.inr b := fun e => h (Sum.inr.inj e)
theorem merge3 (u fv : V) (t : List Nat) : mergeK [] (mKvs3 u fv t) = mKvs3 u fv t := by
  show putK (putK (putK [] (ky "texts") u) (ky "from") fv) (ky "swing") (V.str (sx t)) = _
  rw [putK_fresh u (by intro p hp; cases hp), putK_fresh fv, putK_fresh]
  · rfl
  · intro p hp
    simp only [List.nil_append, List.cons_append, List.mem_cons, List.not_mem_nil, or_false] at hp
    rcases hp with rfl | rfl
    · exact inr_ne k_ne2
    · exact inr_ne k_ne3
  · intro p hp
    simp only [List.nil_append, List.mem_cons, List.not_mem_nil, or_false] at hp
    rw [hp]
    exact inr_ne k_ne1
theorem put4 (u fv : V) (t : List Nat) (pd : Addr) : putK (mKvs3 u fv t) (ky "pages") (V.ref pd) = mKvs3 u fv t ++ [(ky "pages", V.ref pd)] := by
  refine putK_fresh _ fun p hp => ?_
  unfold mKvs3 at hp
  simp only [List.mem_cons, List.not_mem_nil, or_false] at hp
  rcases hp with rfl | rfl | rfl
  · exact inr_ne k_ne4
  · exact inr_ne k_ne5
  · exact inr_ne k_ne6
theorem put5 (tl : Addr) (fv : V) (t : List Nat) (pd gl : Addr) : putK (mKvs3 (.ref tl) fv t ++ [(ky "pages", V.ref pd)]) (ky "goals") (V.ref gl) = mKvs tl fv t pd gl := by
  rw [putK_fresh]
  · rfl
  · intro p hp
    unfold mKvs3 at hp
    simp only [List.cons_append, List.nil_append, List.mem_cons, List.not_mem_nil, or_false] at hp
    rcases hp with rfl | rfl | rfl | rfl
    · exact inr_ne k_ne7
    · exact inr_ne k_ne8
    · exact inr_ne k_ne9
    · exact inr_ne k_ne10
theorem flat_sum (ts : Tx) : ((ts.map sx).map (·.length)).sum = ts.flatten.length := by
  rw [List.length_flatten, List.map_map]
  have e : (ts.map ((fun x => Str.length x) ∘ sx)) = ts.map List.length := by
    apply List.map_congr_left
    intro t _
    exact sx_len t
  rw [← e]
theorem flat_len {ts : Tx} (ok : TsOk ts) : ts.flatten.length ≤ 36 := by
  have h : ∀ l : Tx, (∀ t ∈ l, t.length ≤ 6) → l.flatten.length ≤ l.length * 6 := by
    intro l
    induction l with
    | nil => intro _; exact Nat.le_refl _
    | cons t r ih =>
      intro h
      have h1 := h t (List.mem_cons_self ..)
      have h2 := ih fun x hx => h x (List.mem_cons_of_mem _ hx)
      rw [List.flatten_cons, List.length_append, List.length_cons]
      omega
  have h1 := h ts fun t ht => by rw [ok.each t ht]; exact ok.c6
  have := ok.l6
  omega
theorem s_opens : (".abcd" : Str) = sx opens := by decide +kernel
theorem s_lets : ("abcd" : Str) = sx lets := by decide +kernel
def allS : List Nat := [35, 46, 126, 120, 97, 98, 99, 100]
theorem s_all : ("#.~xabcd" : Str) = sx allS := by decide +kernel
theorem opens_all : ∀ c ∈ opens, c ∈ allS := by decide
section
variable {P : Program} {w : World} {K : PySem.W.Frag} {mg : Str → Option Value} {base : Heap} {CF CW : Addr}
theorem pl_src {H : Hp} {a : Addr} {v : V} {p : Pl} (hs : SrcAt H a) (h : PlAt K H v p) : PlAt K (cut a H) v p := by
  obtain ⟨x, c, k, hs⟩ := hs
  obtain ⟨t, e, h⟩ := h
  exact ⟨t, e, cut_tup hs (fun _ z => by cases z) (fun _ _ z => by cases z) h⟩
structure PlanOk (ts : Tx) (p0 : Pl) (t : List Nat) (pg : Nat → List Nat) (gs : List Pl) : Prop where
  op : IsOpen ts p0
  tn : t ∈ turnsL
  pgs : PgOk pg
  nd : gs.Nodup
  inn : ∀ p ∈ gs, has ts p = true
  few : gs.length < 64
def spPlan (K : PySem.W.Frag) : Sp := fun vs H Q _ => ∃ (a : Addr) (u : V) (ts : Tx), vs = [.ref a, u] ∧ SrcAt H a ∧ TsAt K (cut a H) u ts ∧ TsOk ts ∧ (∃ p, has ts p = true ∧ seen ts p ∈ opens) ∧
  ∀ M p0 t pg gs H', ExS a H H' → SrcAt H' a → MAt K (cut a H') M ts p0 t pg gs → PlanOk ts p0 t pg gs → Q (.ref M) H'
abbrev nPlan : List Str := ["_law_source_here", "_law_texts_here", "_law_some", "_law_m", "_law_goals", "_law_sign", "_law_k"]
theorem sc_plan : FnScope nPlan ["_law_source_here", "_law_texts_here"] (defScope (topS 50)) := ⟨rfl, rfl, rfl, by decide +kernel, rfl, by decide +kernel, by decide +kernel⟩
theorem c_plan (T : Txt K mg CF CW) : Cal P w K mg base 5 "_law_plan" (spPlan K) := by
  refine cal_mk T.l_plan sc_plan (fun _ _ _ _ _ _ us hl => match us, hl with | [_, _], _ => rfl) (fun vs H Q E h => ?_) (fun F0 cdv A outer s H vs Q E hr h => ?_)
  · obtain ⟨_, _, _, rfl, _⟩ := h
    rfl
  · obtain ⟨a, u, ts, rfl, hs, hT, ok, hopen, q⟩ := h
    have hu := hr.un
    have hu : (A.deeper (envOfC (Str.ofString "_law_plan") (defScope (topS 50)) s.heap.objs.size F0 cdv)).units + 64 < cLine := by omega
    refine ⟨_, pss_cons (ps_set (i := 2) sc_plan.nd rfl (.inl rfl) (pe_c (c_spots T) hr (by decide) rfl (pa_cons (pv 1) (pa_cons pe_str pa_nil))))
      (pss_cons (ps_set (i := 3) sc_plan.nd rfl (.inl rfl) (pe_disp (pps_cons pe_str (pv 1) (pps_cons pe_str (pe_c (c_one T) hr (by decide) rfl (pa_cons (pv 0) (pa_cons (pv 2) pa_nil))) (pps_cons pe_str (pe_c (c_swing T) hr (by decide) rfl (pa_cons (pv 0) pa_nil)) pps_nil))) rfl rfl (by simp) (by show 3 ≤ 15; decide)))
      (pss_cons (ps_dput (hu_of hr) (pv 3) pe_str (pe_callTy (call_dictP rfl) rfl T.dict bt_dict (pa_cons (pe_lc (own := [("_law_sign", 5)]) (g := gName 5) rfl sc_plan.nd (pi_str pe_str) (blkOk_by (own := [("_law_sign", 5)]) (N := nPlan) (sc := defScope (topS 50)) (by decide +kernel))
          (fun _ _ _ _ _ => pg_name (i := 5) sc_plan.nd rfl (Or.inl rfl)) (fun _ _ _ _ _ => pts_one (pt_cmpR op_in_sign (pv 5) (pe_joinK (K := K) rfl pe_str (pv 1)) rfl)) (fun _ _ _ _ _ => pe_tup (pa_cons (pv 5) (pa_cons (pe_c (c_swing T) hr (by decide) rfl (pa_cons (pv 0) pa_nil)) pa_nil)))) pa_nil)) rfl)
      (pss_cons (ps_setLc (i := 4) (own := [("_law_k", 6)]) (g := gName 6) (tt := tYes) rfl sc_plan.nd rfl rfl rfl (pi_range1 rfl T.range (pa_cons (pe_c (c_take T) hr (by decide) rfl (pa_cons (pv 0) (pa_cons pe_int pa_nil))) pa_nil)) (blkOk_by (own := [("_law_k", 6)]) (N := nPlan) (sc := defScope (topS 50)) (by decide +kernel))
          (fun _ _ _ _ _ => pg_name (i := 6) sc_plan.nd rfl (Or.inl rfl)) (fun _ _ _ _ _ => pts_nil) (fun _ _ _ _ _ => pe_c (c_one T) hr (by decide) rfl (pa_cons (pv 0) (pa_cons (pe_c (c_spots T) hr (by decide) rfl (pa_cons (pv 1) (pa_cons pe_str pa_nil))) pa_nil))))
      (pss_cons (ps_dput (hu_of hr) (pv 3) pe_str (pe_callB (cr_sortedT rfl) rfl T.sorted bt_sorted (pa_cons (pe_callTy (cr_setOfT rfl hu) rfl T.set bt_set (pa_cons (pv 4) pa_nil)) pa_nil)) rfl)
      (pss_one (ps_ret (pv 3))))))), ?_⟩
    refine ⟨_, rfl, u, opens, ts, congrArg (fun z => [u, V.str z]) s_opens, ?_, ok, fun sl svs H1 hsl e1 hl1 hp1 => ?_⟩
    · obtain ⟨tl, h1, h2⟩ := hT
      exact ⟨tl, h1, cut_same.seq h2⟩
    obtain ⟨tl, rfl, hTl⟩ := hT
    -- the dict
    refine fun M hM => ?_
    have hMH : H M = none := e1.free hM
    have hMa : M ≠ a := hs.ne hMH
    have hsla : sl ≠ a := hs.ne hsl
    have s1 := (hs.mono e1).upd (o := .dK []) hMa
    have eM : ExS a H1 (upd H1 M (.dK [])) := ExS.of (same_new hM)
    have slM : sl ≠ M := fun e => by
      rw [e, hM] at hl1
      cases hl1
    have lsp := spots_len ok opens
    have lsv := paired_len hp1
    have ne0 : 0 < (spotsL ts opens).length := by
      obtain ⟨p, h1, h2⟩ := hopen
      exact List.length_pos_of_mem (mem_spots ok h1 h2)
    refine ⟨_, rfl, _, rfl, _, rfl, a, .ref sl, rfl, s1, .inr ⟨sl, svs, rfl, SqL.of (by rw [cut_ne hsla, upd_ne slM]; exact hl1), by omega, by omega, fun y hy H2 e2 s2 => ?_⟩⟩
    obtain ⟨iy, hiy⟩ := List.getElem?_of_mem hy
    obtain ⟨p0, hp0, hyp⟩ := L2.paired_get hp1 hiy
    obtain ⟨p0h, p0s⟩ := spots_mem ok (List.mem_of_getElem? hp0)
    refine ⟨_, rfl, a, rfl, s2, fun t ht H3 e3 s3 => ?_⟩
    have eM3 := e2.trans e3
    have hM3 : H3 M = some (.dK []) := eM3.at upd_same hMa
    refine ⟨hM3, mKvs3 (.ref tl) y t, rfl, by show 3 ≤ 15; decide, ?_⟩
    rw [merge3]
    -- what stands but for M and the source
    have g1 : Same (cut a H) (cut2 M a H1) := (cut_mono e1).trans (cut_free (by rw [cut_ne hMa]; exact hM))
    have g2 : Same (cut2 M a H1) (cut2 M a H3) := by
      have := cut_mono (x := M) (eM.trans eM3)
      exact this
    have hTl3 := g2.seq (g1.seq hTl)
    have hy3 : PlAt K (cut2 M a H3) y p0 := (PlAt.mono (cut_free (by rw [cut_ne hMa]; exact hM)) (pl_src (hs.mono e1) hyp)).mono g2
    have e03 : ExS a H H3 := (ExS.of e1).trans (eM.trans eM3)
    have e04 : ExS a H (upd H3 M (.dK (mKvs3 (.ref tl) y t))) := e03.mut hMH
    have s4 : SrcAt (upd H3 M (.dK (mKvs3 (.ref tl) y t))) a := s3.upd hMa
    have hM4 : (upd H3 M (.dK (mKvs3 (.ref tl) y t))) M = some (.dK (mKvs3 (.ref tl) y t)) := upd_same
    rw [← cut2_put hMa (o := .dK (mKvs3 (.ref tl) y t))] at hTl3 hy3
    generalize upd H3 M (.dK (mKvs3 (.ref tl) y t)) = H4 at e04 s4 hM4 hTl3 hy3 ⊢
    -- pages
    refine ⟨sx lets, congrArg V.str s_lets, fun D hD => ?_⟩
    have hDa := s4.ne hD
    have hn4 : (sx lets).cps.size = lets.length := by simp [sx]
    refine lc_ex walk_str hD s4 (fun H v c => ∃ t', t' ∈ turnsL ∧ ∃ tp, v = V.ref tp ∧ SqT K (cut a H) tp [.str (sx [c]), .str (sx t')]) (fun i => (lets.take i).filter fun c => ts.any fun t => decide (c ∈ t)) rfl (fun H H' v x e h => ?_) (fun H l l' v x hDa hl h => ?_) (fun _ _ => trivial) (fun i _ => ?_) ?_ ?_
    · obtain ⟨t', h1, tp, h2, h3⟩ := h
      exact ⟨t', h1, tp, h2, same_tup e h3⟩
    · obtain ⟨t', h1, tp, h2, h3⟩ := h
      exact ⟨t', h1, tp, h2, by rw [cut_upd hDa]; exact sqT_upd (by rw [cut_ne hDa]; exact hl) h3⟩
    · refine Nat.le_trans (List.length_filter_le _ _) ?_
      rw [List.length_take]
      exact Nat.le_trans (Nat.min_le_right _ _) (by decide)
    · rintro i x H5 H6 hi e5 s5 _ ⟨rfl, c, hc, rfl⟩ k k' hk hk'
      have hc' := sx_get hc
      have hT5 : SqL K H6 tl (ts.map fun t => V.str (sx t)) := cut_same.seq (Same.seq e5 (cut_same.seq hTl3))
      refine ⟨rfl, ?_⟩
      refine ⟨_, rfl, ⟨_, rfl⟩, _, rfl, ("" : Str), tl, ts.map sx, rfl, rfl, .inl (by rw [List.map_map]; exact hT5), ?_, ?_⟩
      · rw [flat_sum, s_e, sx_len]
        have := flat_len ok
        simp only [List.length_nil, Nat.mul_zero]
        omega
      rw [s_e, join_sx]
      refine ⟨c, sx ts.flatten, rfl, rfl, _, rfl, ?_⟩
      have ea : decide (c ∈ (sx ts.flatten).cps.toList) = (ts.any fun t => decide (c ∈ t)) := (any_flat ts c).symm
      rw [ea]
      by_cases ha : (ts.any fun t => decide (c ∈ t)) = true
      · rw [ha]
        refine iteT ?_
        refine ⟨_, rfl, _, rfl, a, rfl, s5, fun t' ht' H7 e7 s7 => ⟨by show 2 ≤ sizeLine; decide, fun tp htp => ?_⟩⟩
        exact hk _ _ c (e7.trans (ExS.of (same_new htp))) (s7.upd (s7.ne htp)) (filter_yes (fun c => ts.any fun t => decide (c ∈ t)) hc' ha) ⟨t', ht', tp, rfl, SqT.of (cut_new (s7.ne htp))⟩
      · rw [Bool.eq_false_iff.mpr ha]
        exact iteF (hk' _ ExS.refl s5 (filter_no (fun c => ts.any fun t => decide (c ∈ t)) hc' ha))
    intro H5 l5 e5 s5 hl5 hp5
    have hp5' : Paired (fun v c => ∃ t', t' ∈ turnsL ∧ ∃ tp, v = V.ref tp ∧ SqT K (cut a H5) tp [.str (sx [c]), .str (sx t')]) l5 ((lets.take (sx lets).cps.size).filter fun c => ts.any fun t => decide (c ∈ t)) := hp5
    rw [hn4, List.take_length] at hp5'
    obtain ⟨pg, hpg1, hpg2⟩ := pages_of (G := fun v c t' => ∃ tp, v = V.ref tp ∧ SqT K (cut a H5) tp [.str (sx [c]), .str (sx t')]) hp5' (letL_nodup ts)
    obtain ⟨ps, hps1, hps2⟩ := pages_addr hpg2
    refine ⟨D, ps, kvsOf pg (letL ts), rfl, SqL.of (by rw [hl5, hps1]), Paired.mapP hps2 fun p kv q => same_tup cut_same q, fun pd hpd => ?_⟩
    rw [show mergeK [] (kvsOf pg (letL ts)) = kvsOf pg (letL ts) from merge_kvs pg (letL ts) [] (letL_nodup ts)]
    have hpda := s5.ne hpd
    have hM5 : H5 M = some (.dK (mKvs3 (.ref tl) y t)) := e5.at hM4 hMa
    have hpdM : pd ≠ M := fun e => by
      rw [e, hM5] at hpd
      cases hpd
    refine ⟨_, rfl, M, _, rfl, DPut.k (k := ky "pages") (by rw [upd_ne (Ne.symm hpdM)]; exact hM5) (by show 3 < sizeLine; decide), ?_⟩
    rw [put4]
    have ep : ExS a H5 (upd H5 pd (.dK (kvsOf pg (letL ts)))) := ExS.of (same_new hpd)
    have e06 : ExS a H (upd (upd H5 pd (.dK (kvsOf pg (letL ts)))) M (.dK (mKvs3 (.ref tl) y t ++ [(ky "pages", V.ref pd)]))) := ((e04.trans e5).trans ep).mut hMH
    have s6 : SrcAt (upd (upd H5 pd (.dK (kvsOf pg (letL ts)))) M (.dK (mKvs3 (.ref tl) y t ++ [(ky "pages", V.ref pd)]))) a := (s5.upd hpda).upd hMa
    have hM6 : (upd (upd H5 pd (.dK (kvsOf pg (letL ts)))) M (.dK (mKvs3 (.ref tl) y t ++ [(ky "pages", V.ref pd)]))) M = some (.dK (mKvs3 (.ref tl) y t ++ [(ky "pages", V.ref pd)])) := upd_same
    have g6 : Same (cut2 M a H4) (cut2 M a (upd (upd H5 pd (.dK (kvsOf pg (letL ts)))) M (.dK (mKvs3 (.ref tl) y t ++ [(ky "pages", V.ref pd)])))) := by
      rw [cut2_put hMa]
      exact cut_mono (e5.trans ep)
    have hpd6 : (cut2 M a (upd (upd H5 pd (.dK (kvsOf pg (letL ts)))) M (.dK (mKvs3 (.ref tl) y t ++ [(ky "pages", V.ref pd)])))) pd = some (.dK (kvsOf pg (letL ts))) := by
      rw [cut2_put hMa, cut2_at hpdM hpda]
      exact upd_same
    have hTl6 := g6.seq hTl3
    have hy6 := hy3.mono g6
    generalize upd (upd H5 pd (.dK (kvsOf pg (letL ts)))) M (.dK (mKvs3 (.ref tl) y t ++ [(ky "pages", V.ref pd)])) = H6 at e06 s6 hM6 hpd6 hTl6 hy6 ⊢
    -- goals
    refine ⟨_, rfl, a, 3, rfl, s6, by decide, by decide, fun m H7 e7 s7 hm => ?_⟩
    refine ⟨(m : Int), rfl, by omega, by omega, fun D2 hD2 => ?_⟩
    rw [Int.toNat_natCast]
    have hD2a := s7.ne hD2
    have hTl7 : SqL K (cut a H7) tl (ts.map fun t => V.str (sx t)) := Same.seq e7 (cut_same.seq hTl6)
    refine lc_exY walk_range hD2 s7 (fun H v _ => ∃ p, PlAt K (cut a H) v p ∧ has ts p = true) (fun i => List.range i) rfl (fun H H' v x e h => ?_) (fun H l l' v x hDa hl h => ?_) (fun _ _ => trivial) (fun i hi => ?_) ?_ ?_ gm_name
    · obtain ⟨p, h1, h2⟩ := h
      exact ⟨p, h1.mono e, h2⟩
    · obtain ⟨p, h1, h2⟩ := h
      exact ⟨p, by rw [cut_upd hDa]; exact pl_upd (by rw [cut_ne hDa]; exact hl) h1, h2⟩
    · rw [List.length_range]
      omega
    · rintro j x H8 H9 hj e8 s8 hl2 ⟨rfl, rfl⟩ k2 hk2
      refine ⟨rfl, ?_⟩
      refine ⟨_, rfl, _, rfl, .ref tl, allS, ts, congrArg (fun z => [V.ref tl, V.str z]) s_all, ⟨tl, rfl, cut_same.seq (Same.seq e8 hTl7)⟩, ok, fun sl2 svs2 H10 hsl2 e10 hl10 hp10 => ?_⟩
      have lsp2 := spots_len ok allS
      have lsv2 := paired_len hp10
      have ne2 : 0 < (spotsL ts allS).length := List.length_pos_of_mem (mem_spots ok p0h (opens_all _ p0s))
      refine ⟨a, .ref sl2, rfl, s8.mono e10, .inr ⟨sl2, svs2, rfl, SqL.of (by rw [cut_ne (s8.ne hsl2)]; exact hl10), by omega, by omega, fun y2 hy2 H11 e11 s11 => ?_⟩⟩
      obtain ⟨iy2, hiy2⟩ := List.getElem?_of_mem hy2
      obtain ⟨p, hp, hyp2⟩ := L2.paired_get hp10 hiy2
      exact hk2 _ _ j ((ExS.of e10).trans e11) s11 List.range_succ ⟨p, (pl_src (s8.mono e10) hyp2).mono e11, (spots_mem ok (List.mem_of_getElem? hp)).1⟩
    intro H8 l8 e8 s8 hl8 hp8
    obtain ⟨gl0, hgl0⟩ := paired_all (G := fun v p => PlAt K (cut a H8) v p ∧ has ts p = true) (l := l8) (fun v hv => by
          obtain ⟨j, p, hc⟩ := paired_exists hp8 v hv
          exact ⟨p, hc⟩)
    have hin0 : ∀ p ∈ gl0, has ts p = true := fun p hp => by
      obtain ⟨i, hi⟩ := List.getElem?_of_mem hp
      obtain ⟨v, _, hv⟩ := paired_get' hgl0 hi
      exact hv.2
    have hglen : gl0.length ≤ 3 := by
      rw [← paired_len hgl0, paired_len hp8, List.length_range]
      omega
    obtain ⟨ks, hks1, hks2, hks3⟩ := keys_of (Paired.mapP hgl0 fun v p q => q.1)
    have hksl : ks.length = gl0.length := by
      have := congrArg List.length hks3
      rw [List.length_map, List.length_map] at this
      exact this
    -- sorted(set(goals))
    refine ⟨_, rfl, D2, ks, rfl, SqL.of (by rw [hl8, hks1]), fun p hp => same_tup cut_same (hks2 p hp), by omega, fun sa L hsa hL1 hL2 => ?_⟩
    have eset := same_new (o := SetTO P w sa L) hsa
    have k2 : ∀ p ∈ ks, ∃ r ∈ gl0, p.2 = [r.1, r.2] := fun p hp => by
      have h1 : p.2 ∈ ks.map (·.2) := List.mem_map.mpr ⟨p, hp, rfl⟩
      rw [hks3] at h1
      obtain ⟨r, hr1, hr2⟩ := List.mem_map.mp h1
      exact ⟨r, hr1, hr2.symm⟩
    refine ⟨sa, L, 2, 64, rfl, upd_same, fun p hp => same_tup eset (same_tup cut_same (hks2 p (hL1 p hp))), by decide, fun p hp => ?_, fun L' gl hperm hnd hfew hpw hgl => ?_⟩
    · obtain ⟨r, hr1, hr2⟩ := k2 p (hL1 p hp)
      rw [hr2]
      exact ⟨rfl, bd_has ok (hin0 r hr1)⟩
    have hM8 : H8 M = some (.dK (mKvs3 (.ref tl) y t ++ [(ky "pages", V.ref pd)])) := e8.at (e7.at hM6 hMa) hMa
    have hsM : sa ≠ M := fun e => by
      rw [e, hM8] at hsa
      cases hsa
    have hglM : gl ≠ M := fun e => by
      rw [e, upd_ne (Ne.symm hsM), hM8] at hgl
      cases hgl
    have hsaa := s8.ne hsa
    have s9 := s8.upd (o := SetTO P w sa L) hsaa
    have hgla := s9.ne hgl
    refine ⟨_, rfl, M, _, rfl, DPut.k (k := ky "goals") (by rw [upd_ne (Ne.symm hglM), upd_ne (Ne.symm hsM)]; exact hM8) (by show 4 < sizeLine; decide), ?_⟩
    rw [put5]
    have e9 : ExS a H8 (upd (upd H8 sa (SetTO P w sa L)) gl (.lst (L'.map fun q => V.ref q.1))) := (ExS.of eset).trans (ExS.of (same_new hgl))
    have g10 : Same (cut2 M a H6) (cut2 M a (upd (upd (upd H8 sa (SetTO P w sa L)) gl (.lst (L'.map fun q => V.ref q.1))) M (.dK (mKvs tl y t pd gl)))) := by
      rw [cut2_put hMa]
      exact cut_mono ((e7.trans e8).trans e9)
    have hgl10 : (cut2 M a (upd (upd (upd H8 sa (SetTO P w sa L)) gl (.lst (L'.map fun q => V.ref q.1))) M (.dK (mKvs tl y t pd gl)))) gl = some (.lst (L'.map fun q => V.ref q.1)) := by
      rw [cut2_put hMa, cut2_at hglM hgla]
      exact upd_same
    have g8 : Same (cut a H8) (cut a (upd (upd (upd H8 sa (SetTO P w sa L)) gl (.lst (L'.map fun q => V.ref q.1))) M (.dK (mKvs tl y t pd gl)))) → True := fun _ => trivial
    have hLk : ∀ q ∈ L', q ∈ ks := fun q hq => hL1 q (hperm.mem_iff.mp hq)
    have hpl : ∀ q ∈ L', q.2 = [(plOf q).1, (plOf q).2] ∧ has ts (plOf q) = true := fun q hq => by
      obtain ⟨r, hr1, hr2⟩ := k2 q (hLk q hq)
      have : plOf q = r := by
        unfold plOf
        rw [hr2]
      rw [this]
      exact ⟨hr2, hin0 r hr1⟩
    have hsd : ∀ q ∈ L', SqT K (cut2 M a (upd (upd (upd H8 sa (SetTO P w sa L)) gl (.lst (L'.map fun q => V.ref q.1))) M (.dK (mKvs tl y t pd gl)))) q.1 (q.2.map V.int) := fun q hq => by
      rw [cut2_put hMa]
      have h1 : SqT K (cut a H8) q.1 (q.2.map V.int) := hks2 q (hLk q hq)
      have h2 : SqT K (cut2 M a H8) q.1 (q.2.map V.int) := cut_tup (show cut a H8 M = some _ by rw [cut_ne hMa]; exact hM8) (fun _ z => by cases z) (fun _ _ z => by cases z) h1
      exact same_tup (cut_mono e9) h2
    have hpairs : ∀ l : List (Addr × List Int), (∀ q ∈ l, q ∈ L') → Paired (PlAt K (cut2 M a (upd (upd (upd H8 sa (SetTO P w sa L)) gl (.lst (L'.map fun q => V.ref q.1))) M (.dK (mKvs tl y t pd gl))))) (l.map fun q => V.ref q.1) (l.map plOf) := by
      intro l
      induction l with
      | nil => intro _; exact .nil
      | cons q r ih =>
        intro h
        have hq := h q (List.mem_cons_self ..)
        refine .cons ⟨q.1, rfl, ?_⟩ (ih fun z hz => h z (List.mem_cons_of_mem _ hz))
        have h1 := hsd q hq
        rw [(hpl q hq).1] at h1
        exact h1
    have hgp := hpairs L' fun _ h => h
    have hndg : (L'.map plOf).Nodup := by
      have e : L'.map (·.2) = (L'.map plOf).map fun p => [p.1, p.2] := by
        rw [List.map_map]
        apply List.map_congr_left
        intro q hq
        exact (hpl q hq).1
      rw [e] at hnd
      exact List.Pairwise.of_map (fun p : Pl => [p.1, p.2]) (fun a b h e => h (by rw [e])) hnd
    refine ⟨_, rfl, q M p0 t pg (L'.map plOf) _ ((e06.trans (e7.trans e8)).trans e9 |>.mut hMH) ((s9.upd hgla).upd hMa) ⟨tl, y, pd, gl, by rw [cut_ne hMa]; exact upd_same, cut_same.seq (g10.seq hTl6), (hy6.mono g10).mono cut_same, ⟨_, cut_same _ _ (g10 _ _ hpd6)⟩, ⟨_, cut_same _ _ (g10 _ _ hpd6), by unfold kvsOf; rw [List.length_map]; rfl, fun c h1 h2 => ?_⟩, _, cut_same.seq (SqL.of hgl10), Paired.mapP hgp fun v p q => q.mono cut_same⟩ ⟨⟨p0h, p0s⟩, ht, ⟨fun c _ => hpg1 c⟩, hndg, fun p hp => ?_, by rw [List.length_map]; exact hfew⟩⟩
    · rw [valV_kvs, if_pos (show c ∈ letL ts from List.mem_filter.mpr ⟨h1, h2⟩)]
    · obtain ⟨q', hq', rfl⟩ := List.mem_map.mp hp
      exact (hpl q' hq').2
end
end Oh
namespace Oh
open PySem PySem.Spec PyProof.Rows L2
theorem mk_texts (tl : Addr) (fv : V) (t : List Nat) (pd gl : Addr) : valV (mKvs tl fv t pd gl) (ky "texts") = some (.ref tl) := valV_pos (p := (ky "texts", V.ref tl)) rfl
theorem mk_from (tl : Addr) (fv : V) (t : List Nat) (pd gl : Addr) : valV (mKvs tl fv t pd gl) (ky "from") = some fv :=
  (valV_neg (p := (ky "texts", V.ref tl)) (inr_ne (by decide +kernel))).trans (valV_pos (p := (ky "from", fv)) rfl)
theorem mk_swing (tl : Addr) (fv : V) (t : List Nat) (pd gl : Addr) : valV (mKvs tl fv t pd gl) (ky "swing") = some (.str (sx t)) :=
  (valV_neg (p := (ky "texts", V.ref tl)) (inr_ne (by decide +kernel))).trans ((valV_neg (p := (ky "from", fv)) (inr_ne (by decide +kernel))).trans (valV_pos (p := (ky "swing", V.str (sx t))) rfl))
theorem mk_pages (tl : Addr) (fv : V) (t : List Nat) (pd gl : Addr) : valV (mKvs tl fv t pd gl) (ky "pages") = some (.ref pd) :=
  (valV_neg (p := (ky "texts", V.ref tl)) (inr_ne (by decide +kernel))).trans ((valV_neg (p := (ky "from", fv)) (inr_ne (by decide +kernel))).trans ((valV_neg (p := (ky "swing", V.str (sx t))) (inr_ne (by decide +kernel))).trans (valV_pos (p := (ky "pages", V.ref pd)) rfl)))
theorem mk_goals (tl : Addr) (fv : V) (t : List Nat) (pd gl : Addr) : valV (mKvs tl fv t pd gl) (ky "goals") = some (.ref gl) :=
  (valV_neg (p := (ky "texts", V.ref tl)) (inr_ne (by decide +kernel))).trans ((valV_neg (p := (ky "from", fv)) (inr_ne (by decide +kernel))).trans ((valV_neg (p := (ky "swing", V.str (sx t))) (inr_ne (by decide +kernel))).trans ((valV_neg (p := (ky "pages", V.ref pd)) (inr_ne (by decide +kernel))).trans (valV_pos (p := (ky "goals", V.ref gl)) rfl))))
theorem dget_m {H : Hp} {M : Addr} {kvs : List (Key × V)} {x : Str} {v : V} (h : H M = some (.dK kvs)) (e : valV kvs (ky x) = some v) : DGet H M (.str x) (some v) := by
  have := DGet.k (k := ky x) h
  rw [e] at this
  exact this
def rCatS (K : PySem.W.Frag) : R2 := fun x y H Q => ∃ l b xs zs, x = .ref l ∧ y = .ref b ∧ SqL K H l xs ∧ SqL K H b zs ∧ xs.length + zs.length ≤ sizeLine ∧ ∀ p, H p = none → Q (.ref p) (upd H p (.lst (xs ++ zs)))
theorem op_catS {X : Cx} : OpR X (binaryOp .Add) (rCatS X.K) := by
  intro pins s σ H x y v u Q I rx ry h
  obtain ⟨l, b, xs, zs, rfl, rfl, hL, hB, hz, q⟩ := h
  cases rx
  cases ry
  obtain ⟨its, r, ⟨⟨cls, dd, data, sl⟩, n, ho, hc, hdn, hd⟩, hlen⟩ := I.list hL
  obtain ⟨its2, r2, ⟨⟨cls2, dd2, data2, sl2⟩, n2, ho2, hc2, hdn2, hd2⟩, hlen2⟩ := I.list hB
  simp only at hc hd hc2 hd2
  subst hc hd hc2 hd2
  have l1 := r.length
  have l2 := r2.length
  have ea : its.toArray ++ its2.toArray = (its ++ its2).toArray := by simp
  refine concat_meets ⟨_, ho, rfl⟩ ⟨_, ho2, rfl⟩ noFill_list_add seq_list_add PySem.F.slot_list_add PySem.F.entry_list_add (PySem.F.args_list_add_2 _ _) (list_addW l b its.toArray its2.toArray n n2 dd dd2 sl sl2 (by rw [List.size_toArray, List.size_toArray]; omega)) ⟨ho, ho2, ?_⟩
  rw [ea]
  exact ⟨.ref _, _, I.lnew (t' := s.toks) (r.append r2) (by rw [List.length_append]; omega), rfl, q _ I.fresh⟩
def opD : Option Pl → PyData
  | none => .none
  | some p => plD p
theorem op_dp {K : PySem.W.Frag} {H : Hp} {v : V} {p : Option Pl} (h : OpAt K H v p) : Dp K H v (opD p) := by
  cases p with
  | none =>
    obtain rfl := h
    exact .non
  | some p => exact plD_dp h
theorem ops_dp {K : PySem.W.Frag} {H : Hp} : ∀ {vs : List V} {ps : List (Option Pl)}, Paired (OpAt K H) vs ps → DpAll K H vs (ps.map opD)
  | _, _, .nil => .nil
  | _, _, .cons r t => .cons (op_dp r) (ops_dp t)
theorem ops_depth : ∀ ps : List (Option Pl), PyData.depthAll (ps.map opD) ≤ 1
  | [] => by simp [PyData.depthAll]
  | p :: ps => by
    have h1 := ops_depth ps
    have h2 : (opD p).depth ≤ 1 := by
      cases p with
      | none => simp [opD, PyData.depth]
      | some p => simp [opD, plD, PyData.depth, PyData.depthAll]
    simp only [List.map_cons, PyData.depthAll]
    omega
theorem ops_lay : ∀ ps : List (Option Pl), PyData.canLayAll0 (ps.map opD) = true
  | [] => by simp [PyData.canLayAll0]
  | p :: ps => by
    have h2 : (opD p).canLay0 = true := by
      cases p with
      | none => simp [opD, PyData.canLay0]
      | some p => simp [opD, plD, PyData.canLay0, PyData.canLayAll0]
    simp [PyData.canLayAll0, h2, ops_lay ps]
theorem ops_shaped (ps : List (Option Pl)) : SeqAt.shaped (.list (ps.map opD)) = true := by
  have h1 := ops_depth ps
  show (PyData.canLay0 (.list (ps.map opD)) && decide (PyData.depth (.list (ps.map opD)) ≤ 64)) = true
  rw [Bool.and_eq_true]
  exact ⟨by simp only [PyData.canLay0]; exact ops_lay ps, decide_eq_true (by simp only [PyData.depth]; omega)⟩
theorem ops_refl (ps : List (Option Pl)) : PyData.eqv (.list (ps.map opD)) (.list (ps.map opD)) = true := SeqAt.eqv_refl _ (SeqAt.canLay_of_shaped (ops_shaped ps))
section
variable {P : Program} {w : World} {K : PySem.W.Frag} {mg : Str → Option Value} {base : Heap} {CF CW : Addr}
def spMade (K : PySem.W.Frag) (CF CW : Addr) : Sp := fun vs H Q _ => ∃ (M : Addr) (ts : Tx) (p0 : Pl) (t : List Nat) (pg : Nat → List Nat) (gs : List Pl), vs = [.ref M] ∧ MAt K H M ts p0 t pg gs ∧ TsOk ts ∧ PlanOk ts p0 t pg gs ∧
  ∀ x gv H', Same H H' → WdAt K CF CW H' x ts pg p0 gv (some (p0, t)) → Q (.ref x) H'
theorem sc_made : FnScope ["_law_m", "_law_ground"] ["_law_m"] (defScope (topS 51)) := ⟨rfl, rfl, rfl, by decide +kernel, rfl, by decide +kernel, by decide +kernel⟩
theorem c_made (T : Txt K mg CF CW) : Cal P w K mg base 10 "_law_made" (spMade K CF CW) := by
  obtain ⟨dw, wk⟩ := w_kit (P := P) (w := w) (base := base) T
  refine cal_mk T.l_made sc_made (fun _ _ _ _ _ _ us hl => match us, hl with | [_], _ => rfl) (fun vs H Q E h => ?_) (fun F0 cdv A outer s H vs Q E hr h => ?_)
  · obtain ⟨_, _, _, _, _, _, rfl, _⟩ := h
    rfl
  · obtain ⟨M, ts, p0, t, pg, gs, rfl, hM, ok, hp, q⟩ := h
    refine ⟨_, pss_cons (ps_set (i := 1) sc_made.nd rfl (.inl rfl) (pe_mk (c_finit T) hr (by decide) rfl (pa_cons (pe_callTy call_list_of rfl T.list bt_list (pa_cons (pe_dget (hu_of hr) (pv 0) pe_str (fun _ _ => rfl)) pa_nil)) pa_nil)))
      (pss_one (ps_ret (pe_w5 wk hr (by decide) rfl (pa_cons (pv 1) (pa_cons (pe_dget (hu_of hr) (pv 0) pe_str (fun _ _ => rfl)) pa_nil))
        (pk_cons (pe_dget (hu_of hr) (pv 0) pe_str (fun _ _ => rfl)) (pk_cons (pe_callTy call_dictD rfl T.dict bt_dict (pa_cons (pe_dget (hu_of hr) (pv 0) pe_str (fun _ _ => rfl)) pa_nil)) (pk_cons (pe_callTy call_list_of rfl T.list bt_list (pa_cons (pe_dget (hu_of hr) (pv 0) pe_str (fun _ _ => rfl)) pa_nil)) pk_nil)))))), ?_⟩
    obtain ⟨tl, fv, pd, gl, m1, m2, m3, ⟨kvs, m4⟩, m5, gvs, m6, m7⟩ := id hM
    refine ⟨_, rfl, M, _, rfl, dget_m m1 (mk_texts _ _ _ _ _), tl, _, rfl, .inl m2, fun l hl => ?_⟩
    have e1 := same_new (o := .lst (ts.map fun t => V.str (sx t))) hl
    intro x xd hx hxd hne
    have e2 : Same (upd H l (.lst (ts.map fun t => V.str (sx t)))) (upd (upd (upd H l (.lst (ts.map fun t => V.str (sx t)))) xd (.own x)) x (.ins CF xd [])) := (same_new hxd).trans (same_new (by rw [upd_ne (Ne.symm hne)]; exact hx))
    refine ⟨x, xd, .ref l, ts, rfl, upd_same, ⟨l, rfl, SqL.of (e2 _ _ upd_same)⟩, ok, fun H2 k2 hF => ⟨rfl, ?_⟩⟩
    have e3 : Same H H2 := fun b o hb => k2 b o ((e1.trans e2) b o hb) (ne_of_none (e1 _ _ hb) hx)
    have m1' := e3 _ _ m1
    refine ⟨_, rfl, ?_⟩
    refine ⟨_, rfl, M, _, rfl, dget_m m1' (mk_from _ _ _ _ _), ?_⟩
    refine ⟨_, rfl, M, _, rfl, dget_m m1' (mk_swing _ _ _ _ _), ?_⟩
    refine ⟨_, rfl, M, _, rfl, dget_m m1' (mk_pages _ _ _ _ _), pd, kvs, rfl, .inl (e3 _ _ m4), fun pd2 hpd2 => ?_⟩
    have e4 := same_new (o := .dK kvs) hpd2
    refine ⟨_, rfl, M, _, rfl, dget_m (e4 _ _ m1') (mk_goals _ _ _ _ _), gl, gvs, rfl, .inl ((e3.trans e4).seq m6), fun gl2 hgl2 => ?_⟩
    have e5 := same_new (o := .lst gvs) hgl2
    refine ⟨rfl, rfl, fun y yd hy hyd hne2 => ?_⟩
    have e6 : Same (upd (upd H2 pd2 (.dK kvs)) gl2 (.lst gvs)) (upd (upd (upd (upd H2 pd2 (.dK kvs)) gl2 (.lst gvs)) yd (.own y)) y (.ins CW yd [])) := (same_new hyd).trans (same_new (by rw [upd_ne (Ne.symm hne2)]; exact hy))
    have e36 := ((e3.trans e4).trans e5).trans e6
    have hpg2 : PgAt (upd (upd (upd (upd H2 pd2 (.dK kvs)) gl2 (.lst gvs)) yd (.own y)) y (.ins CW yd [])) pd2 ts pg := by
      obtain ⟨kvs', n1, n2, n3⟩ := m5
      rw [m4] at n1
      injection n1 with n1
      injection n1 with n1
      subst n1
      exact ⟨_, (e5.trans e6) _ _ upd_same, n2, n3⟩
    refine ⟨y, yd, x, ts, fv, p0, t, .ref pd2, pg, .ref gl2, false, rfl, upd_same, hF.mono ((e4.trans e5).trans e6), ok, m3.mono e36, hp.op, hp.tn, .inr ⟨pd2, rfl, hpg2⟩, hp.pgs,
      .inl ⟨rfl, .inl ⟨gl2, gvs, gs, rfl, SqL.of (e6 _ _ upd_same), Paired.mapP m7 fun v p z => z.mono e36, hp.nd, hp.inn, hp.few⟩⟩, fun H7 gv e7 hW _ => ⟨rfl, ?_⟩⟩
    refine q y gv H7 (fun b o hb => e7 b o ?_) hW
    have hb5 := ((e3.trans e4).trans e5) b o hb
    rw [cut_ne (ne_of_none hb5 hy)]
    exact e36 b o hb
end
end Oh
namespace Oh
open PySem PySem.Spec PyProof.Rows L2
theorem cutV_nat {xs : List V} {low high : Nat} (h1 : low ≤ xs.length) (h2 : high ≤ xs.length) : cutV xs (some (low : Int)) (some (high : Int)) = (xs.drop low).take (high - low) := by
  unfold cutV
  rw [HT.sIx_nat, HT.sIx_nat, Nat.min_eq_left h1, Nat.min_eq_left h2]
theorem cutS_nat {l : List Nat} {low high : Nat} (h1 : low ≤ l.length) (h2 : high ≤ l.length) : cutS (sx l) (some (low : Int)) (some (high : Int)) = sx ((l.drop low).take (high - low)) := by
  unfold cutS
  rw [HT.sIx_nat, HT.sIx_nat, sx_len, Nat.min_eq_left h1, Nat.min_eq_left h2]
  rfl
theorem spots_get {ts : Tx} {pg : Nat → List Nat} {s : Sd} {row : List Nat} {i : Nat} (h : i ≤ row.length) : (spots (gone ts pg s row))[i]? = some ((stAt ts pg s row i).map Prod.fst) := by
  unfold spots
  rw [List.getElem?_map, gone_get h]
  rfl
theorem noPg_ok : PgOk noPg := ⟨fun _ _ => DL_turn⟩
theorem stretch_spots {ts : Tx} {pg : Nat → List Nat} (T : TsOk ts) (G : PgOk pg) {s : Sd} {row : List Nat} (hr : ∀ c ∈ row, c ∈ DL) (hs : SdOk ts s) {low high : Nat} {p0 : Pl} {t0 : List Nat} (h0 : stAt ts pg s row low = some (p0, t0)) (hlh : low ≤ high) (hl : high ≤ row.length)
    (hc : ∀ b, low ≤ b → b + 1 < high → comes ts (stAt ts pg s row b) (stAt ts pg s row (b + 1)) = none) :
    spots (gone ts noPg (some (p0, DL)) (((row.drop low).take (high - low)).map (wayN t0))) = spots (((gone ts pg s row).drop low).take (high + 1 - low)) := by
  have hlen : (((row.drop low).take (high - low)).map (wayN t0)).length = high - low := by
    rw [List.length_map, List.length_take, List.length_drop]
    omega
  apply List.ext_getElem?
  intro k
  by_cases hk : k ≤ high - low
  · rw [spots_get (by omega), stretch_walk T G hr hs h0 hlh hl hc k (by omega), spot_bare]
    unfold spots
    rw [List.getElem?_map, List.getElem?_take_of_lt (by omega), List.getElem?_drop, gone_get (by omega)]
    rfl
  · rw [List.getElem?_eq_none, List.getElem?_eq_none]
    · unfold spots
      rw [List.length_map, List.length_take, List.length_drop]
      omega
    · unfold spots
      rw [List.length_map, gone_len, hlen]
      omega
section
variable {P : Program} {w : World} {K : PySem.W.Frag} {mg : Str → Option Value} {base : Heap} {CF CW : Addr}
def spStretch (K : PySem.W.Frag) (CF CW : Addr) : Sp := fun vs H Q _ => ∃ (a : Addr) (sv : V) (row : List Nat) (low high : Nat) (ts : Tx) (pg : Nat → List Nat) (p0 : Pl) (s s' : Sd), vs = [.ref a, sv, .str (sx row), .int (low : Int), .int (high : Int)] ∧
  WdAt K CF CW H a ts noPg p0 [] s' ∧ TsOk ts ∧ IsOpen ts p0 ∧ PgOk pg ∧ SdOk ts s ∧ LsAt K (SdAt K) H sv (gone ts pg s row) ∧ (∀ c ∈ row, c ∈ DL) ∧ row.length ≤ 1000 ∧ low ≤ high ∧ high ≤ row.length ∧
  (∀ b, low ≤ b → b + 1 < high → comes ts (stAt ts pg s row b) (stAt ts pg s row (b + 1)) = none) ∧ ∀ H', Same H H' → Q (.bl true) H'
abbrev nStretch : List Str := ["_law_plain", "_law_stands", "_law_deeds_here", "_law_low", "_law_high", "_law_at", "_law_spot", "_law_swing_here", "_law_begun"]
theorem sc_stretch : FnScope nStretch ["_law_plain", "_law_stands", "_law_deeds_here", "_law_low", "_law_high"] (defScope (topS 54)) := ⟨rfl, rfl, rfl, by decide +kernel, rfl, by decide +kernel, by decide +kernel⟩
theorem c_stretch (T : Txt K mg CF CW) : Cal P w K mg base 11 "_law_stretch_right" (spStretch K CF CW) := by
  refine cal_mk T.l_stretch sc_stretch (fun _ _ _ _ _ _ us hl => match us, hl with | [_, _, _, _, _], _ => rfl) (fun vs H Q E h => ?_) (fun F0 cdv A outer s H vs Q E hr h => ?_)
  · obtain ⟨_, _, _, _, _, _, _, _, _, _, rfl, _⟩ := h
    rfl
  · obtain ⟨a, sv, row, low, high, ts, pg, p0, st, s', rfl, hW, ok, ho, hpg, hs, hL, hd, hlen, hlh, hhl, hc, q⟩ := h
    have hu := hr.un
    have hu : (A.deeper (envOfC (Str.ofString "_law_stretch_right") (defScope (topS 54)) s.heap.objs.size F0 cdv)).units + 64 < cLine := by omega
    refine ⟨_, pss_cons (ps_if (pt_cmp (pc_isN (pe_ix ix_list (pv 1) (pv 3) (fun _ _ => rfl))))
        (pss_one (ps_ret (pe_callB (cr_all rfl) rfl T.all bt_all (pa_cons (pe_lc (own := [("_law_at", 5)]) (g := gName 5) (tt := tYes) rfl sc_stretch.nd (pi_list (pe_slice sl_list (pv 1) (po_some (pv 3)) (po_some (pe_op op_add (pv 4) pe_int)))) (blkOk_by (own := [("_law_at", 5)]) (N := nStretch) (sc := defScope (topS 54)) (by decide +kernel))
          (fun _ _ _ _ _ => pg_name (i := 5) sc_stretch.nd rfl (Or.inl rfl)) (fun _ _ _ _ _ => pts_nil) (fun _ _ _ _ _ => pe_cmp (pc_isN (pv 5)) rfl)) pa_nil)))) pss_nil)
      (pss_cons (ps_asg (pe_ix ix_list (pv 1) (pv 3) (fun _ _ => rfl)) (pg_tup rfl (pgs_cons (pg_name (i := 6) sc_stretch.nd rfl (.inl rfl)) (pgs_cons (pg_name (i := 7) sc_stretch.nd rfl (.inl rfl)) pgs_nil))))
      (pss_cons (ps_for PassesOwn.never rfl (pi_list (pe_slice sl_list (pv 1) (po_some (pv 3)) (po_some (pv 4)))) (pg_name (i := 5) sc_stretch.nd rfl (.inl rfl))
        (pss_one (ps_if (PW.pt (pw_and (pt_cmp (pc_notN (pv 5))) (pw_and1 (pt_cmpR op_ne (pe_ix ix_tup (pv 5) pe_int (fun _ _ => rfl)) (pv 7) (nomark _))))) (pss_one (ps_ret pe_bl)) pss_nil)))
      (pss_cons (ps_set (i := 8) sc_stretch.nd rfl (.inl rfl) (pe_mt (c_begun T) hr (by decide) (pv 0) (pa_cons (pe_tup (pa_cons (pv 6) (pa_cons pe_str pa_nil))) pa_nil)))
      (pss_one (ps_ret (pe_cmpR (op_eqD hu) (pe_c (c_spots_of T) hr (by decide) rfl (pa_cons (pe_mt (c_walk T) hr (by decide) (pv 8) (pa_cons (pe_c (c_row_turned T) hr (by decide) rfl (pa_cons (pv 7) (pa_cons (pe_slice sl_str (pv 2) (po_some (pv 3)) (po_some (pv 4))) pa_nil))) pa_nil)) pa_nil))
        (pe_c (c_spots_of T) hr (by decide) rfl (pa_cons (pe_slice sl_list (pv 1) (po_some (pv 3)) (po_some (pe_op op_add (pv 4) pe_int))) pa_nil)) rfl)))))), ?_⟩
    obtain ⟨l, vs, rfl, hl, hp⟩ := hL
    have hvl : vs.length = row.length + 1 := by rw [paired_len hp, gone_len]
    obtain ⟨v0, hv0, hs0⟩ := paired_get' hp (gone_get (ts := ts) (pg := pg) (s := st) (show low ≤ row.length by omega))
    refine ⟨_, rfl, _, rfl, l, vs, (low : Int), v0, rfl, rfl, hl, atI_nat hv0, ?_⟩
    have eh : ((high : Int) + 1) = ((high + 1 : Nat) : Int) := by omega
    have cut1 : cutV vs (some (low : Int)) (some ((high : Int) + 1)) = (vs.drop low).take (high + 1 - low) := by rw [eh]; exact cutV_nat (by omega) (by omega)
    have cut0 : cutV vs (some (low : Int)) (some (high : Int)) = (vs.drop low).take (high - low) := cutV_nat (by omega) (by omega)
    cases es0 : stAt ts pg st row low with
    | none =>
      rw [es0] at hs0
      obtain rfl := hs0
      refine ⟨true, rfl, iteT ?_⟩
      refine ⟨_, rfl, _, rfl, _, rfl, _, rfl, (high : Int), 1, rfl, rfl, _, rfl, l, vs, rfl, hl, fun c hc' => ?_⟩
      rw [cut1]
      have e1 := same_new (o := .lst ((vs.drop low).take (high + 1 - low))) hc'
      refine ⟨c, rfl, ⟨_, SqL.of upd_same⟩, fun D hD => ?_⟩
      refine lc_sameY (walk_list (xs := (vs.drop low).take (high + 1 - low))) hD (fun _ v b => v = .bl b) (fun i => List.replicate i true) rfl (fun _ _ _ _ _ h => h) (fun _ _ _ _ _ _ h => h) (fun _ e => e.seq (SqL.of upd_same)) (fun i hi => ?_) ?_ ?_ gm_name
      · rw [List.length_take, List.length_drop] at hi
        rw [List.length_replicate]
        omega
      · rintro i x H2 H3 hi e2 ⟨rfl, hx⟩ k hk
        rw [List.length_take, List.length_drop] at hi
        have hx' : vs[low + i]? = some x := by
          rw [List.getElem?_take_of_lt (by omega), List.getElem?_drop] at hx
          exact hx
        obtain ⟨sd, hsd, hxx⟩ := L2.paired_get hp hx'
        rw [gone_get (by omega), stAt_lost es0 i (by omega)] at hsd
        injection hsd with hsd
        subst hsd
        obtain rfl := hxx
        refine ⟨rfl, ?_⟩
        exact ⟨_, rfl, hk _ _ true (Same.refl _) List.replicate_succ' rfl⟩
      · intro H2 bs e2 hl2 hp2
        have el := paired_eq hp2
        refine ⟨D, _, rfl, SqL.of (by rw [hl2, el]), ?_⟩
        have ea : (List.replicate ((vs.drop low).take (high + 1 - low)).length true).all id = true := by
          rw [List.all_eq_true]
          intro x hx
          rw [List.eq_of_mem_replicate hx]
          rfl
        rw [ea]
        exact q _ (e1.trans e2)
    | some pt =>
      obtain ⟨p, t0⟩ := pt
      have hso := stAt_ok ok hpg hd hs low (by omega)
      rw [es0] at hs0 hso
      obtain ⟨hcan, ht0⟩ := hso p t0 rfl
      obtain ⟨sa, u, rfl, ha, hpl⟩ := hs0
      refine ⟨false, rfl, iteF ?_⟩
      refine ⟨_, rfl, _, rfl, l, vs, (low : Int), _, rfl, rfl, hl, atI_nat hv0, ?_⟩
      refine ⟨sa, _, rfl, ha, rfl, _, _, rfl, _, _, rfl, rfl, ?_⟩
      refine ⟨_, rfl, _, rfl, _, rfl, _, rfl, _, rfl, l, vs, rfl, hl, fun c hc' => ?_⟩
      rw [cut0]
      have e1 := same_new (o := .lst ((vs.drop low).take (high - low))) hc'
      refine ⟨c, rfl, ⟨_, SqL.of upd_same⟩, ?_⟩
      have hW1 := hW.mono e1
      have hl1 := e1.seq hl
      have hpl1 := hpl.mono e1
      have hp1 := Paired.mapP hp fun v x (q : SdAt K H v x) => q.mono e1
      have hc1 : (upd H c (.lst ((vs.drop low).take (high - low)))) c = some (.lst ((vs.drop low).take (high - low))) := upd_same
      generalize upd H c (.lst ((vs.drop low).take (high - low))) = H1 at e1 hW1 hl1 hpl1 hp1 hc1 ⊢
      refine for_it (walk_list (xs := (vs.drop low).take (high - low))) (fun i σ H' => H' = H1 ∧ ∃ b, σ = [some (.ref a), some (.ref l), some (.str (sx row)), some (.int (low : Int)), some (.int (high : Int)), b, some u, some (.str (sx t0)), none]) ⟨rfl, _, rfl⟩ (fun _ _ H' _ p => by rw [p.1]; exact SqL.of hc1) ?_ ?_
      · rintro i x σ H2 H3 hi ⟨rfl, b, rfl⟩ ⟨rfl, hx⟩
        rw [List.length_take, List.length_drop] at hi
        have hx' : vs[low + i]? = some x := by
          rw [List.getElem?_take_of_lt (by omega), List.getElem?_drop] at hx
          exact hx
        obtain ⟨sd, hsd, hxx⟩ := L2.paired_get hp1 hx'
        rw [gone_get (by omega)] at hsd
        injection hsd with hsd
        cases sd with
        | none =>
          obtain rfl := hxx
          exact ⟨_, rfl, false, rfl, iteF (iteF ⟨rfl, _, rfl⟩)⟩
        | some pt' =>
          obtain ⟨p', t'⟩ := pt'
          have et := one_turn es0 i (by omega) (fun b h1 h2 => hc b h1 (by omega)) p' t' hsd
          subst et
          obtain ⟨xa, xu, rfl, hxa, hxu⟩ := hxx
          refine ⟨_, rfl, true, rfl, iteT ?_⟩
          refine ⟨_, rfl, xa, _, 1, _, rfl, rfl, hxa, atI_nat (j := 1) rfl, _, rfl, rfl, _, rfl, ?_⟩
          exact iteNS rfl ⟨rfl, _, rfl⟩
      · rintro σ H2 ⟨rfl, b, rfl⟩
        obtain ⟨dx, fs, g, d, go, op, fv, h1, h2, h3, h4, h5, h6, h7, h8, h9, h10, h11, h12, h13⟩ := id hW1
        refine ⟨_, rfl, a, dx, fs, rfl, h1, h8 _ (by decide +kernel), ?_⟩
        refine ⟨_, rfl, by show 2 ≤ sizeLine; decide, fun r hr' => ?_⟩
        have e2 := same_new (o := .tup [u, .str "urdl"]) hr'
        refine ⟨a, .ref r, ts, noPg, p0, s', p, DL, rfl, hW1.mono e2, ok, ho, noPg_ok, ⟨r, u, rfl, SqT.of (by rw [upd_same, s_urdl]), hpl1.mono e2⟩, hcan, DL_turn, fun a' H3 e3 hW3 => ?_⟩
        have e23 := e2.trans e3
        obtain ⟨dx', fs', g', d', go', op', fv', w1, w2, w3, w4, w5, w6, w7, w8, _⟩ := id hW3
        refine ⟨_, rfl, a', dx', fs', rfl, w1, w8 _ (by decide +kernel), ?_⟩
        refine ⟨_, rfl, _, rfl, _, rfl, _, rfl, _, rfl, _, rfl, sx row, rfl, by rw [sx_len]; exact sz_ok (by omega), ?_⟩
        rw [cutS_nat (by omega) hhl]
        have hrow2 : ∀ c ∈ (row.drop low).take (high - low), c ∈ DL := fun c hc => hd c (List.mem_of_mem_drop (List.mem_of_mem_take hc))
        have hlen2 : ((row.drop low).take (high - low)).length ≤ 1000 := by
          rw [List.length_take, List.length_drop]
          omega
        refine ⟨t0, _, rfl, ht0, hrow2, hlen2, fun H4 e4 => ?_⟩
        have hso2 : SdOk ts (some (p, DL)) := fun p' t' h => by
          injection h with h
          injection h with h1 h2
          subst h1 h2
          exact ⟨hcan, DL_turn⟩
        have hrow3 : ∀ c ∈ ((row.drop low).take (high - low)).map (wayN t0), c ∈ DL := fun c hc => by
          obtain ⟨c', hc', rfl⟩ := List.mem_map.mp hc
          exact way_deed t0 ht0 c' (hrow2 c' hc')
        refine ⟨a', _, ts, noPg, p0, [], some (p, DL), rfl, hW3.mono e4, ok, noPg_ok, hso2, hrow3, by rw [List.length_map]; exact hlen2, fun u5 H5 e5 q5 => ?_⟩
        refine ⟨u5, _, rfl, q5, by rw [gone_len, List.length_map]; omega, fun u6 H6 e6 q6 => ?_⟩
        have e16 := ((e23.trans e4).trans e5).trans e6
        refine ⟨_, rfl, _, rfl, _, rfl, _, rfl, (high : Int), 1, rfl, rfl, _, rfl, l, vs, rfl, e16.seq hl1, fun c2 hc2 => ?_⟩
        rw [cut1]
        have e7 := same_new (o := .lst ((vs.drop low).take (high + 1 - low))) hc2
        have e17 := e16.trans e7
        refine ⟨.ref c2, ((gone ts pg st row).drop low).take (high + 1 - low), rfl, ⟨c2, _, rfl, SqL.of upd_same, paired_take _ (paired_drop _ (Paired.mapP hp1 fun v x q => q.mono e17))⟩, ?_, fun u8 H8 e8 q8 => ?_⟩
        · rw [List.length_take, List.length_drop, gone_len]
          omega
        obtain ⟨l6, xs6, rfl, hl6, hp6⟩ := q6
        obtain ⟨l8, xs8, rfl, hl8, hp8⟩ := q8
        refine ⟨.list ((spots (gone ts noPg (some (p, DL)) (((row.drop low).take (high - low)).map (wayN t0)))).map opD), .list ((spots (((gone ts pg st row).drop low).take (high + 1 - low))).map opD), .lst ((e7.trans e8).seq hl6) (ops_dp (Paired.mapP hp6 fun v x q => q.mono (e7.trans e8))), .lst hl8 (ops_dp hp8), ops_shaped _, ops_shaped _, ?_⟩
        rw [stretch_spots ok hpg hd hs es0 hlh hhl hc, ops_refl]
        exact q _ ((e1.trans e17).trans e8)
end
end Oh
namespace Oh
open PySem PySem.Spec PyProof.Rows L2
theorem cm_some {ts : Tx} {ss : List Sd} {i : Nat} {b : Nat × Nat} (h : cmF ts ss i = some b) : b.1 = i + 1 ∧ comes ts (ss.getD i none) (ss.getD (i + 1) none) = some b.2 := by
  unfold cmF at h
  cases e : comes ts (ss.getD i none) (ss.getD (i + 1) none) with
  | none =>
    rw [e] at h
    cases h
  | some c =>
    rw [e] at h
    injection h with h
    rw [← h]
    exact ⟨rfl, rfl⟩
theorem comings_mem {ts : Tx} {ss : List Sd} {b : Nat × Nat} (h : b ∈ comings ts ss) : ∃ i, i < ss.length - 1 ∧ b.1 = i + 1 ∧ comes ts (ss.getD i none) (ss.getD (i + 1) none) = some b.2 := by
  rw [comings_eq] at h
  obtain ⟨i, hi, hb⟩ := List.mem_filterMap.mp h
  obtain ⟨h1, h2⟩ := cm_some hb
  exact ⟨i, List.mem_range.mp hi, h1, h2⟩
theorem cuts_sorted {ts : Tx} {ss : List Sd} {n : Nat} (hn : ss.length - 1 ≤ n) : (cuts ts ss n).Pairwise (· ≤ ·) := by
  unfold cuts
  rw [List.append_assoc, List.singleton_append, List.pairwise_cons]
  refine ⟨fun _ _ => Nat.zero_le _, List.pairwise_append.mpr ⟨?_, List.pairwise_singleton _ _, fun a ha b hb => ?_⟩⟩
  · rw [List.pairwise_map, comings_eq]
    refine List.pairwise_filterMap.mpr (List.Pairwise.imp ?_ List.pairwise_lt_range)
    intro i j hij x hx y hy
    rw [(cm_some hx).1, (cm_some hy).1]
    omega
  · rw [List.mem_singleton.mp hb]
    obtain ⟨x, hx, rfl⟩ := List.mem_map.mp ha
    obtain ⟨i, h1, h2, _⟩ := comings_mem hx
    omega
theorem cuts_free {ts : Tx} {pg : Nat → List Nat} {s : Sd} {row : List Nat} {i low high : Nat} (h1 : (cuts ts (gone ts pg s row) row.length)[i]? = some low) (h2 : (cuts ts (gone ts pg s row) row.length)[i + 1]? = some high) :
    low ≤ high ∧ high ≤ row.length ∧ ∀ b, low ≤ b → b + 1 < high → comes ts (stAt ts pg s row b) (stAt ts pg s row (b + 1)) = none := by
  have hl : (gone ts pg s row).length - 1 = row.length := by rw [gone_len]; rfl
  have hsort := cuts_sorted (ts := ts) (ss := gone ts pg s row) (n := row.length) (by omega)
  obtain ⟨b1, e1⟩ := List.getElem?_eq_some_iff.mp h1
  obtain ⟨b2, e2⟩ := List.getElem?_eq_some_iff.mp h2
  have mono : ∀ (j k : Nat) (hj : j < (cuts ts (gone ts pg s row) row.length).length) (hk : k < (cuts ts (gone ts pg s row) row.length).length), j < k → (cuts ts (gone ts pg s row) row.length)[j] ≤ (cuts ts (gone ts pg s row) row.length)[k] := fun j k hj hk h => List.pairwise_iff_getElem.mp hsort j k hj hk h
  have hle : ∀ x ∈ cuts ts (gone ts pg s row) row.length, x ≤ row.length := by
    intro x hx
    unfold cuts at hx
    rw [List.append_assoc, List.singleton_append] at hx
    rcases List.mem_cons.mp hx with h | h
    · omega
    rcases List.mem_append.mp h with h | h
    · obtain ⟨y, hy, rfl⟩ := List.mem_map.mp h
      obtain ⟨k, h1, h2, _⟩ := comings_mem hy
      omega
    · rw [List.mem_singleton.mp h]
      exact Nat.le_refl _
  have hhi : high ≤ row.length := hle high (List.mem_of_getElem? h2)
  refine ⟨by rw [← e1, ← e2]; exact mono i (i + 1) b1 b2 (by omega), hhi, fun b hb1 hb2 => ?_⟩
  cases e : comes ts (stAt ts pg s row b) (stAt ts pg s row (b + 1)) with
  | none => rfl
  | some c =>
    have hm : b + 1 ∈ cuts ts (gone ts pg s row) row.length := by
      unfold cuts
      refine List.mem_append_left _ (List.mem_append_right _ (List.mem_map.mpr ⟨(b + 1, c), ?_, rfl⟩))
      rw [comings_eq]
      refine List.mem_filterMap.mpr ⟨b, List.mem_range.mpr (by omega), ?_⟩
      unfold cmF
      rw [gone_getD (by omega), gone_getD (by omega), e]
      rfl
    obtain ⟨j, hj, ej⟩ := List.mem_iff_getElem.mp hm
    by_cases hji : j ≤ i
    · have : b + 1 ≤ low := by
        rw [← ej, ← e1]
        rcases Nat.lt_or_ge j i with h | h
        · exact mono j i hj b1 h
        · have : j = i := by omega
          subst this
          exact Nat.le_refl _
      omega
    · have : high ≤ b + 1 := by
        rw [← ej, ← e2]
        rcases Nat.lt_or_ge (i + 1) j with h | h
        · exact mono (i + 1) j b2 hj h
        · have : j = i + 1 := by omega
          subst this
          exact Nat.le_refl _
      omega
theorem cuts_len (ts : Tx) (ss : List Sd) (n : Nat) : (cuts ts ss n).length = (comings ts ss).length + 2 := by
  unfold cuts
  rw [List.length_append, List.length_append, List.length_map]
  simp only [List.length_singleton]
  omega
theorem comings_len (ts : Tx) (ss : List Sd) : (comings ts ss).length ≤ ss.length - 1 := by
  rw [comings_eq]
  exact Nat.le_trans (List.length_filterMap_le _ _) (by rw [List.length_range]; exact Nat.le_refl _)
theorem cutV_from1 {xs : List V} (h : 1 ≤ xs.length) : cutV xs (some 1) none = xs.drop 1 := by
  have e : HT.sIx xs.length 0 (some (1 : Int)) = min 1 xs.length := HT.sIx_nat xs.length 0 1
  unfold cutV
  rw [e, HT.sIx_none, Nat.min_eq_left h]
  exact List.take_of_length_le (by rw [List.length_drop]; exact Nat.le_refl _)
/-- a coming, and what it does -/
theorem coming_turn {ts : Tx} {pg : Nat → List Nat} (T : TsOk ts) (G : PgOk pg) {s : Sd} {row : List Nat} (hr : ∀ c ∈ row, c ∈ DL) (hs : SdOk ts s) {bc : Nat × Nat} (h : bc ∈ comings ts (gone ts pg s row)) :
    ∃ i p t q, bc.1 = i + 1 ∧ i + 1 ≤ row.length ∧ stAt ts pg s row i = some (p, t) ∧ stAt ts pg s row (i + 1) = some (q, thenL t (pg bc.2)) ∧ t ∈ turnsL ∧ bc.2 ∈ lets ∧ (ts.any fun t => decide (bc.2 ∈ t)) = true := by
  obtain ⟨i, h1, h2, h3⟩ := comings_mem h
  rw [gone_len] at h1
  rw [gone_getD (by omega), gone_getD (by omega)] at h3
  have eg : row[i]? = some row[i] := List.getElem?_eq_getElem (by omega)
  cases e0 : stAt ts pg s row i with
  | none =>
    rw [e0] at h3
    unfold comes at h3
    cases h3
  | some pt =>
    obtain ⟨p, t⟩ := pt
    cases e1 : stAt ts pg s row (i + 1) with
    | none =>
      rw [e0, e1] at h3
      unfold comes at h3
      cases h3
    | some qu =>
      obtain ⟨q, u⟩ := qu
      have hb : beh ts pg (some (p, t)) row[i] = some (q, u) := by rw [← e0, ← stAt_succ eg]; exact e1
      rw [e0, e1] at h3
      have ht := (stAt_ok T G hr hs i (by omega) p t e0).2
      have hq := (stAt_ok T G hr hs (i + 1) (by omega) q u e1).1
      have hu := comes_beh hb
      rw [h3] at hu
      have hu' : u = thenL t (pg bc.2) := hu
      have hc : q ≠ p ∧ seen ts q ∈ lets ∧ seen ts q = bc.2 := by
        unfold comes at h3
        by_cases hh : q ≠ p ∧ seen ts q ∈ lets
        · simp only [if_pos hh] at h3
          exact ⟨hh.1, hh.2, Option.some.inj h3⟩
        · simp only [if_neg hh] at h3
          cases h3
      refine ⟨i, p, t, q, h2, by omega, e0, by rw [e1, hu'], ht, by rw [← hc.2.2]; exact hc.2.1, ?_⟩
      rw [← hc.2.2]
      exact seen_any T (can_has hq)
end Oh
namespace Oh
open PySem PySem.Spec PyProof.Rows L2
abbrev iV (n : Nat) : V := .int (n : Int)
section
variable {P : Program} {w : World} {K : PySem.W.Frag} {mg : Str → Option Value} {base : Heap} {CF CW : Addr}
def spRight (K : PySem.W.Frag) (CF CW : Addr) : Sp := fun vs H Q _ => ∃ (o pl M : Addr) (row : List Nat) (ts : Tx) (pg : Nat → List Nat) (p0 : Pl) (t : List Nat) (gs : List Pl) (gv : List V), vs = [.ref o, .ref pl, .ref M, .str (sx row)] ∧
  WdAt K CF CW H o ts pg p0 gv (some (p0, t)) ∧ WdAt K CF CW H pl ts noPg p0 [] (some (p0, DL)) ∧ MAt K H M ts p0 t pg gs ∧ TsOk ts ∧ PlanOk ts p0 t pg gs ∧ (∀ c ∈ row, c ∈ DL) ∧ row.length ≤ 1000 ∧ ∀ H', Same H H' → Q (.bl true) H'
abbrev nRight : List Str := ["_law_one_here", "_law_plain", "_law_m", "_law_deeds_here", "_law_stands", "_law_beat", "_law_sign", "_law_cuts", "_law_low", "_law_high"]
theorem sc_right : FnScope nRight ["_law_one_here", "_law_plain", "_law_m", "_law_deeds_here"] (defScope (topS 55)) := ⟨rfl, rfl, rfl, by decide +kernel, rfl, by decide +kernel, by decide +kernel⟩
theorem c_right (T : Txt K mg CF CW) : Cal P w K mg base 12 "_law_right" (spRight K CF CW) := by
  refine cal_mk T.l_right sc_right (fun _ _ _ _ _ _ us hl => match us, hl with | [_, _, _, _], _ => rfl) (fun vs H Q E h => ?_) (fun F0 cdv A outer s H vs Q E hr h => ?_)
  · obtain ⟨_, _, _, _, _, _, _, _, _, _, rfl, _⟩ := h
    rfl
  · obtain ⟨o, pl, M, row, ts, pg, p0, t, gs, gv, rfl, hO, hP, hM, ok, hp, hd, hlen, q⟩ := h
    have hu := hr.un
    have hu : (A.deeper (envOfC (Str.ofString "_law_right") (defScope (topS 55)) s.heap.objs.size F0 cdv)).units + 64 < cLine := by omega
    refine ⟨_, pss_cons (ps_set (i := 4) sc_right.nd rfl (.inl rfl) (pe_mt (c_walk T) hr (by decide) (pv 0) (pa_cons (pv 3) pa_nil)))
      (pss_cons (ps_if (pt_cmpR (op_neD hu) (pe_c (c_spots_of T) hr (by decide) rfl (pa_cons (pe_mt (c_walk T) hr (by decide) (pv 1) (pa_cons (pe_mt (c_ways T) hr (by decide) (pv 0) (pa_cons (pv 3) pa_nil)) pa_nil)) pa_nil)) (pe_c (c_spots_of T) hr (by decide) rfl (pa_cons (pv 4) pa_nil)) rfl) (pss_one (ps_ret pe_bl)) pss_nil)
      (pss_cons (ps_set (i := 7) sc_right.nd rfl (.inl rfl) (pe_op op_catS (pe_op op_catS (pe_lst (pa_cons pe_int pa_nil))
          (pe_lc (own := [("_law_beat", 5), ("_law_sign", 6)]) (g := gTwo K 5 6) (tt := tYes) rfl sc_right.nd (pi_list (pe_mt (c_comings T) hr (by decide) (pv 0) (pa_cons (pv 3) pa_nil))) (blkOk_by (own := [("_law_beat", 5), ("_law_sign", 6)]) (N := nRight) (sc := defScope (topS 55)) (by decide +kernel))
            (fun _ _ _ _ _ => pg_tupK rfl rfl (pgs_cons (pg_name (i := 5) sc_right.nd rfl (.inl rfl)) (pgs_cons (pg_name (i := 6) sc_right.nd rfl (.inl rfl)) pgs_nil))) (fun _ _ _ _ _ => pts_nil) (fun _ _ _ _ _ => pv 5)))
          (pe_lst (pa_cons (pe_callB call_len rfl T.len bt_len (pa_cons (pv 3) pa_nil)) pa_nil))))
      (pss_cons (ps_for PassesOwn.never rfl (pi_zip rfl T.zip (pa_cons (pv 7) (pa_cons (pe_slice sl_list (pv 7) (po_some pe_int) po_none) pa_nil))) (pg_tup rfl (pgs_cons (pg_name (i := 8) sc_right.nd rfl (.inl rfl)) (pgs_cons (pg_name (i := 9) sc_right.nd rfl (.inl rfl)) pgs_nil)))
          (pss_one (ps_if (pt_not (pt_val (pe_c (c_stretch T) hr (by decide) rfl (pa_cons (pv 1) (pa_cons (pv 4) (pa_cons (pv 3) (pa_cons (pv 8) (pa_cons (pv 9) pa_nil)))))))) (pss_one (ps_ret pe_bl)) pss_nil)))
      (pss_cons (ps_for PassesOwn.never rfl (pi_list (pe_mt (c_comings T) hr (by decide) (pv 0) (pa_cons (pv 3) pa_nil))) (pg_tup rfl (pgs_cons (pg_name (i := 5) sc_right.nd rfl (.inl rfl)) (pgs_cons (pg_name (i := 6) sc_right.nd rfl (.inl rfl)) pgs_nil)))
          (pss_one (ps_if (pt_cmpR op_ne (pe_ix ix_tup (pe_ix ix_list (pv 4) (pv 5) (fun _ _ => rfl)) pe_int (fun _ _ => rfl))
            (pe_c (c_then T) hr (by decide) rfl (pa_cons (pe_ix ix_tup (pe_ix ix_list (pv 4) (pe_op op_sub (pv 5) pe_int) (fun _ _ => rfl)) pe_int (fun _ _ => rfl)) (pa_cons (pe_dget (hu_of hr) (pe_dget (hu_of hr) (pv 2) pe_str (fun _ _ => rfl)) (pv 6) (fun _ _ => rfl)) pa_nil))) (nomark _)) (pss_one (ps_ret pe_bl)) pss_nil)))
      (pss_one (ps_ret pe_bl)))))), ?_⟩
    have hso : SdOk ts (some (p0, t)) := fun p' t' h => by
      injection h with h
      injection h with h1 h2
      subst h1 h2
      refine ⟨?_, hp.tn⟩
      unfold canStand
      rw [hp.op.1, Bool.true_and]
      exact decide_eq_true (List.mem_append_left _ hp.op.2)
    have hso2 : SdOk ts (some (p0, DL)) := fun p' t' h => by
      injection h with h
      injection h with h1 h2
      subst h1 h2
      exact ⟨(hso p0 t rfl).1, DL_turn⟩
    obtain ⟨dx, fs, g, d, go, op, fv, w1, w2, w3, w4, w5, w6, w7, w8, _⟩ := id hO
    obtain ⟨dx', fs', g', d', go', op', fv', x1, x2, x3, x4, x5, x6, x7, x8, _⟩ := id hP
    -- stands
    refine ⟨_, rfl, o, dx, fs, rfl, w1, w8 _ (by decide +kernel), _, rfl, o, row, ts, pg, p0, gv, some (p0, t), rfl, hO, ok, hp.pgs, hso, hd, hlen, fun u1 H1 e1 q1 => ?_⟩
    obtain ⟨sl, svs, rfl, hsl, hsp⟩ := id q1
    -- spots_of(plain.walk(one.ways(deeds))) != spots_of(stands)
    refine ⟨_, rfl, pl, dx', fs', rfl, e1 _ _ x1, x8 _ (by decide +kernel), ?_⟩
    refine ⟨_, rfl, o, dx, fs, rfl, e1 _ _ w1, w8 _ (by decide +kernel), _, rfl, o, row, ts, pg, p0, gv, some (p0, t), rfl, hO.mono e1, ok, hp.pgs, hso, hd, hlen, fun H2 e2 => ?_⟩
    have e12 := e1.trans e2
    refine ⟨pl, _, ts, noPg, p0, [], some (p0, DL), rfl, hP.mono e12, ok, noPg_ok, hso2, ways_deeds ok hp.pgs hd hso, by rw [ways_len]; exact hlen, fun u3 H3 e3 q3 => ?_⟩
    refine ⟨u3, _, rfl, q3, by rw [gone_len, ways_len]; omega, fun u4 H4 e4 q4 => ?_⟩
    have e24 := (e2.trans e3).trans e4
    refine ⟨_, rfl, .ref sl, _, rfl, q1.mono (fun _ _ z => z.mono e24) e24, by rw [gone_len]; omega, fun u5 H5 e5 q5 => ?_⟩
    obtain ⟨l4, xs4, rfl, hl4, hp4⟩ := q4
    obtain ⟨l5, xs5, rfl, hl5, hp5⟩ := q5
    refine ⟨.list ((spots (gone ts noPg (some (p0, DL)) (waysL ts pg (some (p0, t)) row))).map opD), .list ((spots (gone ts pg (some (p0, t)) row)).map opD), .lst (e5.seq hl4) (ops_dp (Paired.mapP hp4 fun v x q => q.mono e5)), .lst hl5 (ops_dp hp5), ops_shaped _, ops_shaped _, _, rfl, ?_⟩
    rw [show spots (gone ts noPg (some (p0, DL)) (waysL ts pg (some (p0, t)) row)) = spots (gone ts pg (some (p0, t)) row) from ways_spots ok hp.pgs hd hso, ops_refl]
    refine iteF ?_
    have e15 := e24.trans e5
    have e05 := e1.trans e15
    -- cuts
    refine ⟨by show 1 ≤ sizeLine; decide, fun z hz => ?_⟩
    have e6 := same_new (o := .lst [.int 0]) hz
    have e06 := e05.trans e6
    refine ⟨_, rfl, o, dx, fs, rfl, e06 _ _ w1, w8 _ (by decide +kernel), _, rfl, o, row, ts, pg, p0, gv, some (p0, t), rfl, hO.mono e06, ok, hp.pgs, hso, hd, hlen, fun u7 H7 e7 q7 => ?_⟩
    obtain ⟨cl, cvs, rfl, hcl, hcp⟩ := q7
    refine ⟨cl, rfl, ⟨_, hcl⟩, fun D hD => ?_⟩
    have clen := comings_len ts (gone ts pg (some (p0, t)) row)
    rw [gone_len] at clen
    refine lc_sameY (walk_list (xs := cvs)) hD (fun _ v b => v = iV b) (fun i => ((comings ts (gone ts pg (some (p0, t)) row)).take i).map Prod.fst) rfl (fun _ _ _ _ _ h => h) (fun _ _ _ _ _ _ h => h) (fun _ e => e.seq hcl) (fun i hi => ?_) ?_ ?_ gm_two
    · rw [List.length_map, List.length_take]
      omega
    · rintro i x Ha Hb hi ea ⟨rfl, hx⟩ k hk
      obtain ⟨bc, hbc, tp, rfl, htp⟩ := L2.paired_get hcp hx
      refine ⟨tp, _, rfl, same_tup ea htp, rfl, _, _, rfl, _, _, rfl, rfl, rfl, ?_⟩
      refine ⟨_, rfl, hk _ _ bc.1 (Same.refl _) ?_ rfl⟩
      show ((comings ts (gone ts pg (some (p0, t)) row)).take (i + 1)).map Prod.fst = _
      rw [take_snoc hbc, List.map_append]
      rfl
    intro H8 l8 e8 hl8 hp8
    have hp8' : Paired (fun v b => v = iV b) l8 (((comings ts (gone ts pg (some (p0, t)) row)).take cvs.length).map Prod.fst) := hp8
    rw [paired_len hcp, List.take_length] at hp8'
    have el8 := paired_eq hp8'
    have hl8n : l8.length ≤ 1000 := by
      rw [el8, List.length_map, List.length_map]
      omega
    have e68 := e7.trans e8
    refine ⟨z, D, [.int 0], l8, rfl, rfl, SqL.of (e68 _ _ upd_same), SqL.of hl8, sz_ok (by show 1 + l8.length ≤ 100000; omega), fun z2 hz2 => ?_⟩
    have e9 := same_new (o := .lst ([.int 0] ++ l8)) hz2
    refine ⟨_, rfl, _, row.length, rfl, ⟨by rw [sx_len]; exact sz_ok (by omega), (sx_len row).symm⟩, by show 1 ≤ sizeLine; decide, fun z3 hz3 => ?_⟩
    have e10 := same_new (o := .lst [.int (row.length : Int)]) hz3
    refine ⟨z2, z3, [.int 0] ++ l8, [.int (row.length : Int)], rfl, rfl, SqL.of (e10 _ _ upd_same), SqL.of upd_same, sz_ok (by rw [List.length_append]; show 1 + l8.length + 1 ≤ 100000; omega), fun cu hcu => ?_⟩
    have ecu : [V.int 0] ++ l8 ++ [V.int (row.length : Int)] = (cuts ts (gone ts pg (some (p0, t)) row) row.length).map iV := by
      unfold cuts
      rw [el8, List.map_append, List.map_append]
      rfl
    rw [ecu]
    have e11 := same_new (o := .lst ((cuts ts (gone ts pg (some (p0, t)) row) row.length).map iV)) hcu
    have e111 := (((((e15.trans e6).trans e68).trans e9).trans e10).trans e11)
    have hcu' : (upd _ cu (.lst ((cuts ts (gone ts pg (some (p0, t)) row) row.length).map iV))) cu = some (.lst ((cuts ts (gone ts pg (some (p0, t)) row) row.length).map iV)) := upd_same (H := upd (upd H8 z2 (.lst ([.int 0] ++ l8))) z3 (.lst [.int (row.length : Int)]))
    generalize upd (upd (upd H8 z2 (.lst ([.int 0] ++ l8))) z3 (.lst [.int (row.length : Int)])) cu (.lst ((cuts ts (gone ts pg (some (p0, t)) row) row.length).map iV)) = H11 at e111 hcu' ⊢
    have hcl1 : 1 ≤ ((cuts ts (gone ts pg (some (p0, t)) row) row.length).map iV).length := by
      rw [List.length_map, cuts_len]
      omega
    -- the stretches
    refine ⟨_, rfl, _, rfl, 1, rfl, cu, _, rfl, SqL.of hcu', fun c2 hc2 => ?_⟩
    rw [cutV_from1 hcl1]
    have e12' := same_new (o := .lst (((cuts ts (gone ts pg (some (p0, t)) row) row.length).map iV).drop 1)) hc2
    refine ⟨cu, c2, _, _, rfl, SqL.of (e12' _ _ hcu'), SqL.of upd_same, ?_⟩
    have e112 := e111.trans e12'
    have hcu2 := e12' _ _ hcu'
    have hc22 : (upd H11 c2 (.lst (((cuts ts (gone ts pg (some (p0, t)) row) row.length).map iV).drop 1))) c2 = some (.lst (((cuts ts (gone ts pg (some (p0, t)) row) row.length).map iV).drop 1)) := upd_same
    generalize upd H11 c2 (.lst (((cuts ts (gone ts pg (some (p0, t)) row) row.length).map iV).drop 1)) = H12 at e112 hcu2 hc22 ⊢
    have hP12 := hP.mono (e1.trans e112)
    have hO12 := hO.mono (e1.trans e112)
    have hS12 := q1.mono (fun _ _ z => z.mono e112) e112
    refine for_it (walk_zip (K := K) (a := cu) (b := c2) (xs := (cuts ts (gone ts pg (some (p0, t)) row) row.length).map iV) (ys := ((cuts ts (gone ts pg (some (p0, t)) row) row.length).map iV).drop 1) (n := (cuts ts (gone ts pg (some (p0, t)) row) row.length).length - 1) (by rw [List.length_drop, List.length_map]; omega))
      (fun i σ H' => (∃ b1 b2 b3 b4, σ = [some (.ref o), some (.ref pl), some (.ref M), some (.str (sx row)), some (.ref sl), b1, b2, some (.ref cu), b3, b4]) ∧ Same H12 H') ⟨⟨_, _, _, _, rfl⟩, Same.refl _⟩ (fun _ _ H' _ p => ⟨p.2.seq (SqL.of hcu2), p.2.seq (SqL.of hc22)⟩) ?_ ?_
    · rintro i x σ Ha Hb hi ⟨⟨b1, b2, b3, b4, rfl⟩, ea⟩ ⟨tp, x1, x2, rfl, hn, rfl, r1, r2⟩
      obtain ⟨low, hlow, rfl⟩ : ∃ low, (cuts ts (gone ts pg (some (p0, t)) row) row.length)[i]? = some low ∧ x1 = iV low := by
        have r1 : ((cuts ts (gone ts pg (some (p0, t)) row) row.length).map iV)[i]? = some x1 := r1
        rw [List.getElem?_map] at r1
        cases e : (cuts ts (gone ts pg (some (p0, t)) row) row.length)[i]? with
        | none =>
          rw [e] at r1
          cases r1
        | some c =>
          rw [e] at r1
          exact ⟨c, rfl, (Option.some.inj r1).symm⟩
      obtain ⟨high, hhigh, rfl⟩ : ∃ high, (cuts ts (gone ts pg (some (p0, t)) row) row.length)[i + 1]? = some high ∧ x2 = iV high := by
        have r2 : (((cuts ts (gone ts pg (some (p0, t)) row) row.length).map iV).drop 1)[i]? = some x2 := r2
        rw [List.getElem?_drop, List.getElem?_map, Nat.add_comm] at r2
        cases e : (cuts ts (gone ts pg (some (p0, t)) row) row.length)[i + 1]? with
        | none =>
          rw [e] at r2
          cases r2
        | some c =>
          rw [e] at r2
          exact ⟨c, rfl, (Option.some.inj r2).symm⟩
      obtain ⟨f1, f2, f3⟩ := cuts_free hlow hhigh
      have eb := ea.trans (same_new (o := .tup [iV low, iV high]) hn)
      refine ⟨tp, _, rfl, .inl (.inl upd_same), rfl, _, _, rfl, _, _, rfl, rfl, ?_⟩
      refine ⟨_, rfl, _, rfl, _, rfl, _, rfl, _, rfl, pl, .ref sl, row, low, high, ts, pg, p0, some (p0, t), some (p0, DL), rfl, hP12.mono eb, ok, hp.op, hp.pgs, hso, hS12.mono (fun _ _ z => z.mono eb) eb, hd, hlen, f1, f2, f3, fun Hc ec => ?_⟩
      exact ⟨true, rfl, iteF ⟨⟨_, _, _, _, rfl⟩, eb.trans ec⟩⟩
    · rintro σ Ha ⟨⟨b1, b2, b3, b4, rfl⟩, ea⟩
      have e0a := (e1.trans e112).trans ea
      refine ⟨_, rfl, o, dx, fs, rfl, e0a _ _ w1, w8 _ (by decide +kernel), _, rfl, o, row, ts, pg, p0, gv, some (p0, t), rfl, hO12.mono ea, ok, hp.pgs, hso, hd, hlen, fun uc Hc ec qc => ?_⟩
      obtain ⟨cl2, cvs2, rfl, hcl2, hcp2⟩ := qc
      refine ⟨cl2, rfl, ⟨_, hcl2⟩, ?_⟩
      have e0c := e0a.trans ec
      refine for_it (walk_list (xs := cvs2)) (fun i σ H' => (∃ b1 b2 b3 b4, σ = [some (.ref o), some (.ref pl), some (.ref M), some (.str (sx row)), some (.ref sl), b1, b2, some (.ref cu), b3, b4]) ∧ Same Hc H') ⟨⟨_, _, _, _, rfl⟩, Same.refl _⟩ (fun _ _ H' _ p => p.2.seq hcl2) ?_ ?_
      · rintro i x σ Hd He hi ⟨⟨b1, b2, b3, b4, rfl⟩, ed⟩ ⟨rfl, hx⟩
        obtain ⟨bc, hbc, tp, rfl, htp⟩ := L2.paired_get hcp2 hx
        obtain ⟨j, p, tt, q', hb1, hb2, es0, es1, htt, hlet, hany⟩ := coming_turn ok hp.pgs hd hso (List.mem_of_getElem? hbc)
        have e0e := e0c.trans ed
        have e1e : Same H1 He := (((e112).trans ea).trans ec).trans ed
        obtain ⟨v0, hv0, hs0⟩ := paired_get' hsp (gone_get (ts := ts) (pg := pg) (s := some (p0, t)) (show j ≤ row.length by omega))
        obtain ⟨v1, hv1, hs1⟩ := paired_get' hsp (gone_get (ts := ts) (pg := pg) (s := some (p0, t)) hb2)
        rw [es0] at hs0
        rw [es1] at hs1
        obtain ⟨sa0, u0, rfl, ha0, _⟩ := hs0.mono e1e
        obtain ⟨sa1, u1, rfl, ha1, _⟩ := hs1.mono e1e
        have x0 : atI svs ((bc.1 : Int) - 1) = some (.ref sa0) := by
          have e : ((bc.1 : Int) - 1) = ((j : Nat) : Int) := by omega
          rw [e]
          exact atI_nat hv0
        have x1 : atI svs (bc.1 : Int) = some (.ref sa1) := by
          rw [hb1]
          exact atI_nat hv1
        obtain ⟨tl, fv2, pd, gl, m1, m2, m3, m4, m5, m6⟩ := id (hM.mono e0e)
        refine ⟨tp, _, rfl, same_tup ed htp, rfl, _, _, rfl, _, _, rfl, rfl, ?_⟩
        refine ⟨_, rfl, _, rfl, sl, svs, _, _, rfl, rfl, e1e.seq hsl, x1, sa1, _, 1, _, rfl, rfl, ha1, atI_nat (j := 1) rfl, ?_⟩
        refine ⟨_, rfl, _, rfl, _, _, rfl, rfl, sl, svs, _, _, rfl, rfl, e1e.seq hsl, x0, sa0, _, 1, _, rfl, rfl, ha0, atI_nat (j := 1) rfl, ?_⟩
        refine ⟨_, rfl, M, _, rfl, dget_m m1 (mk_pages _ _ _ _ _), _, rfl, pd, _, rfl, dget_pg m5 hlet hany, ?_⟩
        refine ⟨tt, pg bc.2, rfl, htt, hp.pgs.turn _ hlet, fun Hf ef => ?_⟩
        exact ⟨rfl, _, rfl, iteNS rfl ⟨⟨_, _, _, _, rfl⟩, ed.trans ef⟩⟩
      · rintro σ Hd ⟨⟨b1, b2, b3, b4, rfl⟩, ed⟩
        exact q _ (e0c.trans ed)
end
end Oh
namespace Oh
open PySem PySem.Spec PyProof.Rows L2
section
variable {P : Program} {w : World} {K : PySem.W.Frag} {mg : Str → Option Value} {base : Heap} {CF CW : Addr}
theorem tup_src {H : Hp} {a t : Addr} {xs : List V} (hs : SrcAt H a) (h : SqT K H t xs) : SqT K (cut a H) t xs := by
  obtain ⟨x, c, k, hs⟩ := hs
  exact cut_tup hs (fun _ z => by cases z) (fun _ _ z => by cases z) h
theorem sd_src {H : Hp} {a : Addr} {v : V} {s : Sd} (hs : SrcAt H a) (h : SdAt K H v s) : SdAt K (cut a H) v s := by
  cases s with
  | none => exact h
  | some pt =>
    obtain ⟨b, u, h1, h2, h3⟩ := h
    exact ⟨b, u, h1, tup_src hs h2, pl_src hs h3⟩
theorem wd_src {H : Hp} {a x : Addr} {ts : Tx} {pg : Nat → List Nat} {p0 : Pl} {gs : List V} {s : Sd} (hs : SrcAt H a) (h : WdAt K CF CW H x ts pg p0 gs s) : WdAt K CF CW (cut a H) x ts pg p0 gs s := by
  obtain ⟨dx, fs, g, d, go, op, fv, h1, h2, h3, h4, h5, h6, h7, h8, ⟨gdx, gfs, T, g1, g2, g3, g4⟩, ⟨kvs, d1, d2⟩, h11, h12, h13⟩ := h
  have at' : ∀ {b : Addr} {o : HO}, H b = some o → (∀ l, o ≠ .lst l) → cut a H b = some o := fun {b o} hb ho => by
    obtain ⟨y, c, k, hs⟩ := hs
    rw [cut_ne (ne_of hb hs (ho _))]
    exact hb
  exact ⟨dx, fs, g, d, go, op, fv, at' h1 (fun _ z => by cases z), h2, h3, h4, h5, h6, h7, h8, ⟨gdx, gfs, T, at' g1 (fun _ z => by cases z), g2, g3, tup_src hs g4⟩, ⟨kvs, at' d1 (fun _ z => by cases z), d2⟩, tup_src hs h11, pl_src hs h12, sd_src hs h13⟩
theorem ExS.same {a : Addr} {H H' : Hp} (e : ExS a H H') (h : H a = none) : Same H H' := (cut_free h).trans (Same.trans e cut_same)
def spLaw (K : PySem.W.Frag) : Sp := fun vs H Q _ => ∃ (a : Addr) (ns : List Int), vs = [.ref a] ∧ SqL K H a (ns.map V.int) ∧ ns.length ≤ 1000 ∧ ∀ H', Q (.bl true) H'
abbrev nLaw : List Str := ["_law_script", "_law_cell", "_law_source_here", "_law_m", "_law_one_here", "_law_plain", "_law_k"]
theorem sc_law : FnScope nLaw ["_law_script"] (defScope (topS 56)) := ⟨rfl, rfl, rfl, by decide +kernel, rfl, by decide +kernel, by decide +kernel⟩
theorem law_ok (T : Txt K mg CF CW) {f0 : Addr} {fd0 : FuncData} (F : FnP K "law" "law" (topS 56) f0 fd0) : FnOk P w K mg base CX0 13 f0 fd0 ["_law_script"] (spLaw K) := by
  obtain ⟨dw, wk⟩ := w_kit (P := P) (w := w) (base := base) T
  refine F.ok sc_law (fun vs H Q E h => ?_) (fun cdv A outer s H vs Q E hr h => ?_)
  · obtain ⟨_, _, rfl, _⟩ := h
    rfl
  · obtain ⟨a, ns, rfl, hL, hlen, q⟩ := h
    refine ⟨_, PSs.nox (pss_cons (ps_for PassesOwn.never rfl (pi_list (pe_slice sl_list (pe_op op_catS (pv 0) (pe_lst (pa_cons pe_int pa_nil))) po_none (po_some pe_int))) (pg_name (i := 1) sc_law.nd rfl (.inl rfl))
        (pss_cons (ps_set (i := 2) sc_law.nd rfl (.inl rfl) (pe_c (c_source T) hr (by decide) rfl (pa_cons (pv 1) pa_nil)))
        (pss_cons (ps_set (i := 3) sc_law.nd rfl (.inl rfl) (pe_c (c_plan T) hr (by decide) rfl (pa_cons (pv 2) (pa_cons (pe_c (c_texts T) hr (by decide) rfl (pa_cons (pv 2) (pa_cons pe_int (pa_cons pe_int pa_nil)))) pa_nil))))
        (pss_cons (ps_set (i := 4) sc_law.nd rfl (.inl rfl) (pe_c (c_made T) hr (by decide) rfl (pa_cons (pv 3) pa_nil)))
        (pss_cons (ps_set (i := 5) sc_law.nd rfl (.inl rfl) (pe_w2 wk hr (by decide) rfl (pa_cons (pe_mk (c_finit T) hr (by decide) rfl (pa_cons (pe_dget (hu_of hr) (pv 3) pe_str (fun _ _ => rfl)) pa_nil)) (pa_cons (pe_dget (hu_of hr) (pv 3) pe_str (fun _ _ => rfl)) pa_nil))))
        (pss_one (ps_for PassesOwn.never rfl (pi_range1 rfl T.range (pa_cons pe_int pa_nil)) (pg_name (i := 6) sc_law.nd rfl (.inl rfl))
          (pss_one (ps_if (pt_not (pt_val (pe_c (c_right T) hr (by decide) rfl (pa_cons (pv 4) (pa_cons (pv 5) (pa_cons (pv 3) (pa_cons (pe_c (c_deeds T) hr (by decide) rfl (pa_cons (pv 2) (pa_cons pe_int pa_nil))) pa_nil))))))) (pss_one (ps_ret pe_bl)) pss_nil)))))))))
      (pss_one (ps_ret pe_bl))), ?_⟩
    refine ⟨_, rfl, by show 1 ≤ sizeLine; decide, fun z hz => ?_⟩
    have e1 := same_new (o := .lst [.int 0]) hz
    refine ⟨a, z, ns.map V.int, [.int 0], rfl, rfl, e1.seq hL, SqL.of upd_same, sz_ok (by rw [List.length_map]; show ns.length + 1 ≤ 100000; omega), fun z2 hz2 => ?_⟩
    refine ⟨3, rfl, z2, _, rfl, SqL.of upd_same, fun c hc => ?_⟩
    have ec : ∃ ms : List Int, cutV (ns.map V.int ++ [.int 0]) none (some 3) = ms.map V.int := by
      have e : ns.map V.int ++ [V.int 0] = (ns ++ [0]).map V.int := by
        rw [List.map_append]
        rfl
      rw [e]
      unfold cutV
      rw [← List.map_drop, ← List.map_take]
      exact ⟨_, rfl⟩
    obtain ⟨ms, ems⟩ := ec
    rw [ems]
    have hcm : (upd (upd (upd H z (.lst [.int 0])) z2 (.lst (ns.map V.int ++ [.int 0]))) c (.lst (ms.map V.int))) c = some (.lst (ms.map V.int)) := upd_same
    generalize upd (upd (upd H z (.lst [.int 0])) z2 (.lst (ns.map V.int ++ [.int 0]))) c (.lst (ms.map V.int)) = H1 at hcm ⊢
    refine ⟨c, rfl, ⟨_, SqL.of hcm⟩, ?_⟩
    refine for_it (walk_list (xs := ms.map V.int)) (fun i σ H' => (∃ b1 b2 b3 b4 b5 b6, σ = [some (.ref a), b1, b2, b3, b4, b5, b6]) ∧ Same H1 H') ⟨⟨_, _, _, _, _, _, rfl⟩, Same.refl _⟩ (fun _ _ H' _ p => p.2.seq (SqL.of hcm)) ?_ ?_
    · rintro i x σ H2 H2' hi ⟨⟨b1, b2, b3, b4, b5, b6, rfl⟩, e2⟩ ⟨rfl, hx⟩
      obtain ⟨n, rfl⟩ : ∃ n, x = V.int n := by
        rw [List.getElem?_map] at hx
        cases e : ms[i]? with
        | none =>
          rw [e] at hx
          cases hx
        | some n =>
          rw [e] at hx
          exact ⟨n, (Option.some.inj hx).symm⟩
      -- source
      refine ⟨_, rfl, n, rfl, fun sa H3 hsa e3 s3 => ?_⟩
      -- texts, plan
      refine ⟨_, rfl, _, rfl, sa, rfl, s3, fun ts u H4 ok hopen e4 s4 hT => ?_⟩
      refine ⟨sa, u, ts, rfl, s4, hT, ok, hopen, fun M p0 t pg gs H5 e5 s5 hM hp => ?_⟩
      -- made
      refine ⟨_, rfl, M, ts, p0, t, pg, gs, rfl, hM.mono cut_same, ok, hp, fun o gv H6 e6 hO => ?_⟩
      have s6 := s5.mono e6
      have hM6 := (hM.mono cut_same).mono e6
      -- plain
      obtain ⟨tl, fv, pd, gl, m1, m2, m3, m4, m5, m6⟩ := id hM6
      refine ⟨_, rfl, M, _, rfl, dget_m m1 (mk_texts _ _ _ _ _), ?_⟩
      intro f fd hf hfd hne
      have e7 : Same H6 (upd (upd H6 fd (.own f)) f (.ins CF fd [])) := (same_new hfd).trans (same_new (by rw [upd_ne (Ne.symm hne)]; exact hf))
      refine ⟨f, fd, .ref tl, ts, rfl, upd_same, ⟨tl, rfl, e7.seq m2⟩, ok, fun H7 k7 hF => ⟨rfl, ?_⟩⟩
      have e67 : Same H6 H7 := fun b o hb => k7 b o (e7 b o hb) (ne_of_none hb hf)
      refine ⟨_, rfl, M, _, rfl, dget_m (e67 _ _ m1) (mk_from _ _ _ _ _), ?_⟩
      intro y yd hy hyd hne2
      have e8 : Same H7 (upd (upd H7 yd (.own y)) y (.ins CW yd [])) := (same_new hyd).trans (same_new (by rw [upd_ne (Ne.symm hne2)]; exact hy))
      refine ⟨y, yd, f, ts, fv, p0, DL, .non, noPg, .ref dw, true, rfl, upd_same, hF.mono e8, ok, m3.mono (e67.trans e8), hp.op, DL_turn, .inl ⟨rfl, rfl⟩, noPg_ok, .inr ⟨dw, rfl, wk.e _⟩, fun H8 gv2 e9 hP hg2 => ⟨rfl, ?_⟩⟩
      obtain rfl := hg2 rfl
      have e78 : Same H7 H8 := fun b o hb => e9 b o (by rw [cut_ne (ne_of_none hb hy)]; exact e8 b o hb)
      have e68 := e67.trans e78
      have s8 := s6.mono e68
      have hO8 := wd_src s8 (hO.mono e68)
      have hP8 := wd_src s8 hP
      have hM8 : MAt K (cut sa H8) M ts p0 t pg gs := hM.mono (cut_mono (e6.trans e68))
      have e28 : Same H1 H8 := by
        refine e2.trans ?_
        have : ExS sa H2' H8 := (ExS.of e3).trans ((e4.trans e5).trans (ExS.of (e6.trans e68)))
        exact this.same hsa
      have hsa1 : H1 sa = none := e2.free hsa
      -- three walks
      refine ⟨3, rfl, by decide, by decide, ?_⟩
      refine for_it walk_range (fun i σ H' => (∃ b1 b6, σ = [some (.ref a), b1, some (.ref sa), some (.ref M), some (.ref o), some (.ref y), b6]) ∧ ExS sa H8 H' ∧ SrcAt H' sa) ⟨⟨_, _, rfl⟩, ExS.refl, s8⟩ (fun _ _ _ _ _ => trivial) ?_ ?_
      · rintro j x σ Ha Hb hj ⟨⟨b1, b6, rfl⟩, ea, sa'⟩ ⟨rfl, rfl⟩
        refine ⟨_, rfl, _, rfl, _, rfl, _, rfl, sa, rfl, sa', fun row Hc ec sc hrow hrl => ?_⟩
        have e8c := ea.trans ec
        refine ⟨o, y, M, row, ts, pg, p0, t, gs, gv, rfl, (hO8.mono e8c).mono cut_same, (hP8.mono e8c).mono cut_same, (hM8.mono e8c).mono cut_same, ok, hp, hrow, hrl, fun Hd ed => ?_⟩
        exact ⟨true, rfl, iteF ⟨⟨_, _, rfl⟩, e8c.trans (ExS.of ed), sc.mono ed⟩⟩
      · rintro σ Ha ⟨⟨b1, b6, rfl⟩, ea, sa'⟩
        refine ⟨⟨_, _, _, _, _, _, rfl⟩, ?_⟩
        have : ExS sa H1 Ha := (ExS.of e28).trans ea
        exact this.same hsa1
    · rintro σ H2 ⟨⟨b1, b2, b3, b4, b5, b6, rfl⟩, e2⟩
      exact q _
end
end Oh
namespace Oh
open PySem PySem.Spec PyProof.Rows L2
def tupA (K : PySem.W.Frag) (a : Addr) (vs : List He.Dv) : Bool := match K.lookup a with
  | some ⟨.type c, _, .seq its _, _⟩ => decide (c = "tuple") && (decide (its.size ≤ sizeLine) && He.relAll (vs.map (He.Dv.v K)) its.toList)
  | _ => false
theorem tupA_ok {K : PySem.W.Frag} {a : Addr} {vs : List He.Dv} (h : tupA K a vs = true) (H : Hp) : SqT K H a (vs.map (He.Dv.v K)) := by
  unfold tupA at h
  cases q : K.lookup a with
  | none =>
    rw [q] at h
    cases h
  | some o =>
    obtain ⟨oc, od, dt, osl⟩ := o
    rw [q] at h
    cases oc with
    | type c =>
      cases dt with
      | seq its n =>
        obtain ⟨h1, h2⟩ := He.ba (show (decide (c = "tuple") && (decide (its.size ≤ sizeLine) && He.relAll (vs.map (He.Dv.v K)) its.toList)) = true from h)
        obtain ⟨h3, h4⟩ := He.ba h2
        exact .inr ⟨_, its, n, q, congrArg Value.type (of_decide_eq_true h1), rfl, of_decide_eq_true h3, He.relAll_ok h4⟩
      | _ => cases h
    | _ => cases dt <;> cases h
/-- the i-th of STEPS -/
def stepAd (i : Nat) (K : PySem.W.Frag) : Addr := match K.lookup (He.ga K "STEPS") with
  | some ⟨_, _, .seq its _, _⟩ => (match its.toList[i]? with
    | some (.ref a) => a
    | _ => 0)
  | _ => 0
/-- World.__init__'s default of wishes -/
def wishAd (K : PySem.W.Frag) : Addr := match K.lookup (He.fAd K ("World", some "__init__")) with
  | some ⟨_, _, .func fd, _⟩ => (match fd.kwdefaults with
    | .ref D => (match PySem.W.nsIn K D "wishes" with
      | some (some (.ref a)) => a
      | _ => 0)
    | _ => 0)
  | _ => 0
def insB (K : PySem.W.Frag) (C : Addr) : Bool := He.eqO (PySem.W.findIn K (.ref C) "__class__") (some (some (.builtin "object.__class__"))) && (He.eqO (PySem.W.specialIn K (.builtin "object.__class__") "__get__") (some (some (.builtin "getset_descriptor.__get__"))) &&
  (decide (PySem.W.takesIn K (.builtin "object.__class__") = some true) && (decide (PySem.W.mroIn K C (.type "object") = some true) && decide (PySem.W.kitOne K (.ref C) (.ref C) = some true))))
theorem insB_ok {K : PySem.W.Frag} {C : Addr} (c : Cls K C) (h : insB K C = true) : C8.InsC K C := by
  obtain ⟨h1, h⟩ := He.ba h
  obtain ⟨h2, h⟩ := He.ba h
  obtain ⟨h3, h⟩ := He.ba h
  obtain ⟨h4, h5⟩ := He.ba h
  exact ⟨c, He.eqO_ok h1, He.eqO_ok h2, of_decide_eq_true h3, of_decide_eq_true h4, of_decide_eq_true h5⟩
def extra (K : PySem.W.Frag) : Bool := (tupA K (He.ga K "TURNS") (turnsL.map fun t => He.Dv.str (sx t)) && tupA K (He.ga K "STEPS") [.adr (stepAd 0), .adr (stepAd 1), .adr (stepAd 2), .adr (stepAd 3)]) &&
  ((tupA K (stepAd 0 K) [.int (-1), .int 0] && tupA K (stepAd 1 K) [.int 0, .int 1]) && ((tupA K (stepAd 2 K) [.int 1, .int 0] && tupA K (stepAd 3 K) [.int 0, .int (-1)]) && (tupA K (wishAd K) [] && insB K (He.ga K "Floor"))))
def fa0 : List He.Fa := [.glo "is_whole", .glo "is_from", .glo "is_place", .glo "is_turn", .glo "want_turn", .glo "want_row", .glo "want_deed", .glo "way", .glo "row_turned", .glo "then", .glo "is_text", .glo "want_rows", .glo "next_to", .glo "is_stand", .glo "is_book", .glo "are_wishes", .glo "first_wrong", .glo "_law_mixed", .glo "_law_source", .glo "_law_take"]
def fa1 : List He.Fa := [.glo "_law_one", .glo "_law_texts", .glo "_law_swing", .glo "_law_spots", .glo "_law_plan", .glo "_law_made", .glo "_law_deeds", .glo "_law_spots_of", .glo "_law_stretch_right", .glo "_law_right", .glo "law", .glo "Floor", .glo "World", .glo "TURNS", .glo "STEPS", .free "isinstance", .free "int", .free "bool", .free "tuple", .free "str"]
def fa2 : List He.Fa := [.free "len", .free "enumerate", .free "all", .free "any", .free "list", .free "dict", .free "range", .free "set", .free "sorted", .free "zip", .str "DEEDS" (sx DL), .str "WALL" (sx [35]), .str "ICE" (sx [126]), .str "PIT" (sx [120]), .str "LETTERS" (sx lets), .str "OPEN" (sx opens), .str "SIGNS" (sx signs), .int "MOST" 6, .cls "Floor", .cls "World"]
def fa3 : List He.Fa := [.noat "Floor" "texts", .noat "World" "ground", .noat "World" "pages", .noat "World" "goals", .noat "World" "opening", .noat "World" "first", .meth "Floor" "size", .meth "Floor" "has", .meth "Floor" "seen", .meth "Floor" "letters", .meth "Floor" "places", .meth "Floor" "open_places", .meth "Floor" "can_stand", .meth "Floor" "goes", .meth "World" "want_stand", .meth "World" "begun", .meth "World" "behind", .meth "World" "gone", .meth "World" "walk", .meth "World" "comings"]
def fa4 : List He.Fa := [.meth "World" "ways", .mkr "Floor", .mkr "World"]
def fa : List He.Fa := fa0 ++ (fa1 ++ (fa2 ++ (fa3 ++ (fa4))))
def fn0 : List He.DefD := [⟨("is_whole", none), "is_whole", "is_whole", defArgs (topS 10), defBody (topS 10), defScope (topS 10), [], []⟩,
  ⟨("is_from", none), "is_from", "is_from", defArgs (topS 11), defBody (topS 11), defScope (topS 11), [], []⟩,
  ⟨("is_place", none), "is_place", "is_place", defArgs (topS 12), defBody (topS 12), defScope (topS 12), [], []⟩,
  ⟨("is_turn", none), "is_turn", "is_turn", defArgs (topS 16), defBody (topS 16), defScope (topS 16), [], []⟩,
  ⟨("want_turn", none), "want_turn", "want_turn", defArgs (topS 17), defBody (topS 17), defScope (topS 17), [], []⟩,
  ⟨("want_row", none), "want_row", "want_row", defArgs (topS 18), defBody (topS 18), defScope (topS 18), [], []⟩,
  ⟨("want_deed", none), "want_deed", "want_deed", defArgs (topS 19), defBody (topS 19), defScope (topS 19), [], []⟩,
  ⟨("way", none), "way", "way", defArgs (topS 20), defBody (topS 20), defScope (topS 20), [], []⟩,
  ⟨("row_turned", none), "row_turned", "row_turned", defArgs (topS 21), defBody (topS 21), defScope (topS 21), [], []⟩,
  ⟨("then", none), "then", "then", defArgs (topS 22), defBody (topS 22), defScope (topS 22), [], []⟩,
  ⟨("is_text", none), "is_text", "is_text", defArgs (topS 32), defBody (topS 32), defScope (topS 32), [], []⟩,
  ⟨("want_rows", none), "want_rows", "want_rows", defArgs (topS 33), defBody (topS 33), defScope (topS 33), [], []⟩]
def fn1 : List He.DefD := [⟨("next_to", none), "next_to", "next_to", defArgs (topS 34), defBody (topS 34), defScope (topS 34), [], []⟩,
  ⟨("is_stand", none), "is_stand", "is_stand", defArgs (topS 37), defBody (topS 37), defScope (topS 37), [], []⟩,
  ⟨("is_book", none), "is_book", "is_book", defArgs (topS 38), defBody (topS 38), defScope (topS 38), [], []⟩,
  ⟨("are_wishes", none), "are_wishes", "are_wishes", defArgs (topS 39), defBody (topS 39), defScope (topS 39), [], []⟩,
  ⟨("first_wrong", none), "first_wrong", "first_wrong", defArgs (topS 40), defBody (topS 40), defScope (topS 40), [], []⟩,
  ⟨("_law_mixed", none), "_law_mixed", "_law_mixed", defArgs (topS 43), defBody (topS 43), defScope (topS 43), [], []⟩,
  ⟨("_law_source", none), "_law_source", "_law_source", defArgs (topS 44), defBody (topS 44), defScope (topS 44), [], []⟩,
  ⟨("_law_take", none), "_law_take", "_law_take", defArgs (topS 45), defBody (topS 45), defScope (topS 45), [], []⟩,
  ⟨("_law_one", none), "_law_one", "_law_one", defArgs (topS 46), defBody (topS 46), defScope (topS 46), [], []⟩,
  ⟨("_law_texts", none), "_law_texts", "_law_texts", defArgs (topS 47), defBody (topS 47), defScope (topS 47), [], []⟩,
  ⟨("_law_swing", none), "_law_swing", "_law_swing", defArgs (topS 48), defBody (topS 48), defScope (topS 48), [], []⟩,
  ⟨("_law_spots", none), "_law_spots", "_law_spots", defArgs (topS 49), defBody (topS 49), defScope (topS 49), [], []⟩]
def fn2 : List He.DefD := [⟨("_law_plan", none), "_law_plan", "_law_plan", defArgs (topS 50), defBody (topS 50), defScope (topS 50), [], []⟩,
  ⟨("_law_made", none), "_law_made", "_law_made", defArgs (topS 51), defBody (topS 51), defScope (topS 51), [], []⟩,
  ⟨("_law_deeds", none), "_law_deeds", "_law_deeds", defArgs (topS 52), defBody (topS 52), defScope (topS 52), [], []⟩,
  ⟨("_law_spots_of", none), "_law_spots_of", "_law_spots_of", defArgs (topS 53), defBody (topS 53), defScope (topS 53), [], []⟩,
  ⟨("_law_stretch_right", none), "_law_stretch_right", "_law_stretch_right", defArgs (topS 54), defBody (topS 54), defScope (topS 54), [], []⟩,
  ⟨("_law_right", none), "_law_right", "_law_right", defArgs (topS 55), defBody (topS 55), defScope (topS 55), [], []⟩,
  ⟨("law", none), "law", "law", defArgs (topS 56), defBody (topS 56), defScope (topS 56), [], []⟩,
  ⟨("Floor", some "size"), "size", "Floor.size", defArgs (inClass (topS 35) 4), defBody (inClass (topS 35) 4), defScope (inClass (topS 35) 4), [], []⟩,
  ⟨("Floor", some "has"), "has", "Floor.has", defArgs (inClass (topS 35) 5), defBody (inClass (topS 35) 5), defScope (inClass (topS 35) 5), [], []⟩,
  ⟨("Floor", some "seen"), "seen", "Floor.seen", defArgs (inClass (topS 35) 6), defBody (inClass (topS 35) 6), defScope (inClass (topS 35) 6), [], []⟩,
  ⟨("Floor", some "letters"), "letters", "Floor.letters", defArgs (inClass (topS 35) 8), defBody (inClass (topS 35) 8), defScope (inClass (topS 35) 8), [], []⟩,
  ⟨("Floor", some "places"), "places", "Floor.places", defArgs (inClass (topS 35) 9), defBody (inClass (topS 35) 9), defScope (inClass (topS 35) 9), [], []⟩]
def fn3 : List He.DefD := [⟨("Floor", some "open_places"), "open_places", "Floor.open_places", defArgs (inClass (topS 35) 10), defBody (inClass (topS 35) 10), defScope (inClass (topS 35) 10), [], []⟩,
  ⟨("Floor", some "can_stand"), "can_stand", "Floor.can_stand", defArgs (inClass (topS 35) 11), defBody (inClass (topS 35) 11), defScope (inClass (topS 35) 11), [], []⟩,
  ⟨("Floor", some "goes"), "goes", "Floor.goes", defArgs (inClass (topS 35) 12), defBody (inClass (topS 35) 12), defScope (inClass (topS 35) 12), [], []⟩,
  ⟨("World", some "want_stand"), "want_stand", "World.want_stand", defArgs (inClass (topS 41) 6), defBody (inClass (topS 41) 6), defScope (inClass (topS 41) 6), [], []⟩,
  ⟨("World", some "begun"), "begun", "World.begun", defArgs (inClass (topS 41) 7), defBody (inClass (topS 41) 7), defScope (inClass (topS 41) 7), [], []⟩,
  ⟨("World", some "behind"), "behind", "World.behind", defArgs (inClass (topS 41) 8), defBody (inClass (topS 41) 8), defScope (inClass (topS 41) 8), [], []⟩,
  ⟨("World", some "gone"), "gone", "World.gone", defArgs (inClass (topS 41) 10), defBody (inClass (topS 41) 10), defScope (inClass (topS 41) 10), [], []⟩,
  ⟨("World", some "walk"), "walk", "World.walk", defArgs (inClass (topS 41) 11), defBody (inClass (topS 41) 11), defScope (inClass (topS 41) 11), [], []⟩,
  ⟨("World", some "comings"), "comings", "World.comings", defArgs (inClass (topS 41) 12), defBody (inClass (topS 41) 12), defScope (inClass (topS 41) 12), [], []⟩,
  ⟨("World", some "ways"), "ways", "World.ways", defArgs (inClass (topS 41) 13), defBody (inClass (topS 41) 13), defScope (inClass (topS 41) 13), [], []⟩,
  ⟨("Floor", some "__init__"), "__init__", "Floor.__init__", defArgs (inClass (topS 35) 0), defBody (inClass (topS 35) 0), defScope (inClass (topS 35) 0), [], []⟩,
  ⟨("World", some "__init__"), "__init__", "World.__init__", defArgs (inClass (topS 41) 0), defBody (inClass (topS 41) 0), defScope (inClass (topS 41) 0), [], [("turn", .str (sx DL)), ("book", .non), ("wishes", .adr wishAd)]⟩]
def fn : List He.DefD := fn0 ++ (fn1 ++ (fn2 ++ (fn3)))
def loose0 : List Str := ["_wall", "__name__", "HandError", "NoTurn", "NoRow", "NoFloor", "NoPlace", "NoWorld", "NoStand", "is_whole", "is_from", "is_place", "DEEDS", "TURNS", "is_turn", "want_turn", "want_row", "want_deed", "way", "row_turned"]
def loose1 : List Str := ["then", "WALL", "ICE", "PIT", "LETTERS", "OPEN", "SIGNS", "MOST", "STEPS", "is_text", "want_rows", "next_to", "Floor", "is_stand", "is_book", "are_wishes", "first_wrong", "World", "_law_mixed", "_law_source"]
def loose2 : List Str := ["_law_take", "_law_one", "_law_texts", "_law_swing", "_law_spots", "_law_plan", "_law_made", "_law_deeds", "_law_spots_of", "_law_stretch_right", "_law_right"]
def looseL : List Str := loose0 ++ (loose1 ++ (loose2))
abbrev AlX : Type := Bool × He.AlD
def obsX (K : PySem.W.Frag) : AlX := (extra K, He.obsD fa fn K)
def obsXG (g : Addr → Option Obj) : AlX := obsX (He.frG g (He.asD g 5))
def SaysX (K : PySem.W.Frag) : Prop := extra K = true ∧ He.SaysD fa fn K
def hk : PySem.W.Hook where
  α := AlX
  obs := fun s => obsXG s.heap.get?
  val := fun _ => (true, He.valD fn)
  says := fun _ h => ∃ K : PySem.W.Frag, K.In h ∧ SaysX K
  of := fun _ _ e => ⟨_, He.frG_in, congrArg (fun z : AlX => z.1) e, congrArg (fun z : AlX => z.2) e⟩
  keeps := fun _ _ _ ⟨K, hK, c⟩ k => ⟨K, PySem.W.Frag.In.keeps hK k, c⟩
def ob (s : PySem.W.SharedT) : AlX := obsXG (HandSHeadRun.getT s)
theorem ob_eq (s : PySem.W.SharedT) : ob s = hk.obs s.abs := by
  have e : HandSHeadRun.getT s = s.abs.heap.get? := funext (HandSHeadRun.getT_eq s)
  show obsXG (HandSHeadRun.getT s) = obsXG s.abs.heap.get?
  rw [e]
abbrev RW : PySem.W.OpenRow := PySem.W.OpenLaw.row PySem.Challenge.rw_onehand_k19_whole_a_walk_is_a_bookless_o
theorem run (w : World) : HandSHeadRun.RunEq RW (PySem.W.view RW.prog [56]) hk ob 20000 looseL w := by
  intro os
  kernel_rfl
section
variable {K : PySem.W.Frag} {h : Heap} {mg : Str → Option Value}
theorem txt_of (X : K.In h) (G : h.Ns mainGlobals mg) (s : SaysX K) : Txt K mg (He.ga K "Floor") (He.ga K "World") := by
  obtain ⟨ex, c⟩ := s
  obtain ⟨x1, ex⟩ := He.ba ex
  obtain ⟨x1, x2⟩ := He.ba x1
  obtain ⟨x3, ex⟩ := He.ba ex
  obtain ⟨x3, x4⟩ := He.ba x3
  obtain ⟨x5, ex⟩ := He.ba ex
  obtain ⟨x5, x6⟩ := He.ba x5
  obtain ⟨x7, x8⟩ := He.ba ex
  have cF : Cls K (He.ga K "Floor") := He.cls_ok (c.fact 58 (f := .cls "Floor") rfl)
  have cW : Cls K (He.ga K "World") := He.cls_ok (c.fact 59 (f := .cls "World") rfl)
  refine { 
isi := He.free_ok X G (c.fact 35 (f := .free "isinstance") rfl),
    int := He.free_ok X G (c.fact 36 (f := .free "int") rfl),
    bool := He.free_ok X G (c.fact 37 (f := .free "bool") rfl),
    tuple := He.free_ok X G (c.fact 38 (f := .free "tuple") rfl),
    str := He.free_ok X G (c.fact 39 (f := .free "str") rfl),
    len := He.free_ok X G (c.fact 40 (f := .free "len") rfl),
    enum := He.free_ok X G (c.fact 41 (f := .free "enumerate") rfl),
    all := He.free_ok X G (c.fact 42 (f := .free "all") rfl),
    any := He.free_ok X G (c.fact 43 (f := .free "any") rfl),
    list := He.free_ok X G (c.fact 44 (f := .free "list") rfl),
    dict := He.free_ok X G (c.fact 45 (f := .free "dict") rfl),
    range := He.free_ok X G (c.fact 46 (f := .free "range") rfl),
    set := He.free_ok X G (c.fact 47 (f := .free "set") rfl),
    sorted := He.free_ok X G (c.fact 48 (f := .free "sorted") rfl),
    zip := He.free_ok X G (c.fact 49 (f := .free "zip") rfl),
    DEEDS := (He.str_ok X G (c.fact 50 (f := .str "DEEDS" (sx DL)) rfl)).elim fun t e => ⟨_, e, t, rfl⟩,
    WALL := (He.str_ok X G (c.fact 51 (f := .str "WALL" (sx [35])) rfl)).elim fun t e => ⟨_, e, t, rfl⟩,
    ICE := (He.str_ok X G (c.fact 52 (f := .str "ICE" (sx [126])) rfl)).elim fun t e => ⟨_, e, t, rfl⟩,
    PIT := (He.str_ok X G (c.fact 53 (f := .str "PIT" (sx [120])) rfl)).elim fun t e => ⟨_, e, t, rfl⟩,
    LETTERS := (He.str_ok X G (c.fact 54 (f := .str "LETTERS" (sx lets)) rfl)).elim fun t e => ⟨_, e, t, rfl⟩,
    OPEN := (He.str_ok X G (c.fact 55 (f := .str "OPEN" (sx opens)) rfl)).elim fun t e => ⟨_, e, t, rfl⟩,
    SIGNS := (He.str_ok X G (c.fact 56 (f := .str "SIGNS" (sx signs)) rfl)).elim fun t e => ⟨_, e, t, rfl⟩,
    MOST := (He.int_ok X G (c.fact 57 (f := .int "MOST" 6) rfl)).elim fun t e => ⟨_, e, t, rfl⟩,
    TURNS := ⟨He.ga K "TURNS", ⟨_, He.glo_ok X G (c.fact 33 (f := .glo "TURNS") rfl), rfl⟩, fun H => tupA_ok x1 H⟩,
    STEPS := ⟨He.ga K "STEPS", stepAd 0 K, stepAd 1 K, stepAd 2 K, stepAd 3 K, ⟨_, He.glo_ok X G (c.fact 34 (f := .glo "STEPS") rfl), rfl⟩, fun H => tupA_ok x2 H, fun H => tupA_ok x3 H, fun H => tupA_ok x4 H, fun H => tupA_ok x5 H, fun H => tupA_ok x6 H⟩,
    Floor := ⟨_, He.glo_ok X G (c.fact 31 (f := .glo "Floor") rfl), rfl⟩,
    World := ⟨_, He.glo_ok X G (c.fact 32 (f := .glo "World") rfl), rfl⟩,
    clF := cF,
    clW := cW,
    insF := insB_ok cF x8,
    nTexts := He.noat_ok (c.fact 60 (f := .noat "Floor" "texts") rfl),
    nGround := He.noat_ok (c.fact 61 (f := .noat "World" "ground") rfl),
    nPages := He.noat_ok (c.fact 62 (f := .noat "World" "pages") rfl),
    nGoals := He.noat_ok (c.fact 63 (f := .noat "World" "goals") rfl),
    nOpening := He.noat_ok (c.fact 64 (f := .noat "World" "opening") rfl),
    nFirst := He.noat_ok (c.fact 65 (f := .noat "World" "first") rfl),
    mkF := (c.def_ 46 rfl).elim fun fd F => ⟨_, fd, He.mkr_ok (c.fact 81 (f := .mkr "Floor") rfl), He.glo_ok X G (c.fact 31 (f := .glo "Floor") rfl), F⟩,
    mkW := (c.def_ 47 rfl).elim fun fd F => ⟨_, fd, wishAd K, He.mkr_ok (c.fact 82 (f := .mkr "World") rfl), He.glo_ok X G (c.fact 32 (f := .glo "World") rfl), fun H => tupA_ok x7 H, F⟩,
    is_whole := ⟨(c.def_ 0 rfl).elim fun fd F => ⟨_, fd, He.glo_ok X G (c.fact 0 (f := .glo "is_whole") rfl), F⟩⟩,
    is_from := ⟨(c.def_ 1 rfl).elim fun fd F => ⟨_, fd, He.glo_ok X G (c.fact 1 (f := .glo "is_from") rfl), F⟩⟩,
    is_place := ⟨(c.def_ 2 rfl).elim fun fd F => ⟨_, fd, He.glo_ok X G (c.fact 2 (f := .glo "is_place") rfl), F⟩⟩,
    is_turn := ⟨(c.def_ 3 rfl).elim fun fd F => ⟨_, fd, He.glo_ok X G (c.fact 3 (f := .glo "is_turn") rfl), F⟩⟩,
    want_turn := ⟨(c.def_ 4 rfl).elim fun fd F => ⟨_, fd, He.glo_ok X G (c.fact 4 (f := .glo "want_turn") rfl), F⟩⟩,
    want_row := ⟨(c.def_ 5 rfl).elim fun fd F => ⟨_, fd, He.glo_ok X G (c.fact 5 (f := .glo "want_row") rfl), F⟩⟩,
    want_deed := ⟨(c.def_ 6 rfl).elim fun fd F => ⟨_, fd, He.glo_ok X G (c.fact 6 (f := .glo "want_deed") rfl), F⟩⟩,
    way := ⟨(c.def_ 7 rfl).elim fun fd F => ⟨_, fd, He.glo_ok X G (c.fact 7 (f := .glo "way") rfl), F⟩⟩,
    row_turned := ⟨(c.def_ 8 rfl).elim fun fd F => ⟨_, fd, He.glo_ok X G (c.fact 8 (f := .glo "row_turned") rfl), F⟩⟩,
    then_ := ⟨(c.def_ 9 rfl).elim fun fd F => ⟨_, fd, He.glo_ok X G (c.fact 9 (f := .glo "then") rfl), F⟩⟩,
    is_text := ⟨(c.def_ 10 rfl).elim fun fd F => ⟨_, fd, He.glo_ok X G (c.fact 10 (f := .glo "is_text") rfl), F⟩⟩,
    want_rows := ⟨(c.def_ 11 rfl).elim fun fd F => ⟨_, fd, He.glo_ok X G (c.fact 11 (f := .glo "want_rows") rfl), F⟩⟩,
    next_to := ⟨(c.def_ 12 rfl).elim fun fd F => ⟨_, fd, He.glo_ok X G (c.fact 12 (f := .glo "next_to") rfl), F⟩⟩,
    is_stand := ⟨(c.def_ 13 rfl).elim fun fd F => ⟨_, fd, He.glo_ok X G (c.fact 13 (f := .glo "is_stand") rfl), F⟩⟩,
    is_book := ⟨(c.def_ 14 rfl).elim fun fd F => ⟨_, fd, He.glo_ok X G (c.fact 14 (f := .glo "is_book") rfl), F⟩⟩,
    are_wishes := ⟨(c.def_ 15 rfl).elim fun fd F => ⟨_, fd, He.glo_ok X G (c.fact 15 (f := .glo "are_wishes") rfl), F⟩⟩,
    first_wrong := ⟨(c.def_ 16 rfl).elim fun fd F => ⟨_, fd, He.glo_ok X G (c.fact 16 (f := .glo "first_wrong") rfl), F⟩⟩,
    l_mixed := ⟨(c.def_ 17 rfl).elim fun fd F => ⟨_, fd, He.glo_ok X G (c.fact 17 (f := .glo "_law_mixed") rfl), F⟩⟩,
    l_source := ⟨(c.def_ 18 rfl).elim fun fd F => ⟨_, fd, He.glo_ok X G (c.fact 18 (f := .glo "_law_source") rfl), F⟩⟩,
    l_take := ⟨(c.def_ 19 rfl).elim fun fd F => ⟨_, fd, He.glo_ok X G (c.fact 19 (f := .glo "_law_take") rfl), F⟩⟩,
    l_one := ⟨(c.def_ 20 rfl).elim fun fd F => ⟨_, fd, He.glo_ok X G (c.fact 20 (f := .glo "_law_one") rfl), F⟩⟩,
    l_texts := ⟨(c.def_ 21 rfl).elim fun fd F => ⟨_, fd, He.glo_ok X G (c.fact 21 (f := .glo "_law_texts") rfl), F⟩⟩,
    l_swing := ⟨(c.def_ 22 rfl).elim fun fd F => ⟨_, fd, He.glo_ok X G (c.fact 22 (f := .glo "_law_swing") rfl), F⟩⟩,
    l_spots := ⟨(c.def_ 23 rfl).elim fun fd F => ⟨_, fd, He.glo_ok X G (c.fact 23 (f := .glo "_law_spots") rfl), F⟩⟩,
    l_plan := ⟨(c.def_ 24 rfl).elim fun fd F => ⟨_, fd, He.glo_ok X G (c.fact 24 (f := .glo "_law_plan") rfl), F⟩⟩,
    l_made := ⟨(c.def_ 25 rfl).elim fun fd F => ⟨_, fd, He.glo_ok X G (c.fact 25 (f := .glo "_law_made") rfl), F⟩⟩,
    l_deeds := ⟨(c.def_ 26 rfl).elim fun fd F => ⟨_, fd, He.glo_ok X G (c.fact 26 (f := .glo "_law_deeds") rfl), F⟩⟩,
    l_spots_of := ⟨(c.def_ 27 rfl).elim fun fd F => ⟨_, fd, He.glo_ok X G (c.fact 27 (f := .glo "_law_spots_of") rfl), F⟩⟩,
    l_stretch := ⟨(c.def_ 28 rfl).elim fun fd F => ⟨_, fd, He.glo_ok X G (c.fact 28 (f := .glo "_law_stretch_right") rfl), F⟩⟩,
    l_right := ⟨(c.def_ 29 rfl).elim fun fd F => ⟨_, fd, He.glo_ok X G (c.fact 29 (f := .glo "_law_right") rfl), F⟩⟩,
    l_law := ⟨(c.def_ 30 rfl).elim fun fd F => ⟨_, fd, He.glo_ok X G (c.fact 30 (f := .glo "law") rfl), F⟩⟩,
    f_size := ⟨(c.def_ 31 rfl).elim fun fd F => ⟨_, fd, He.meth_ok (c.fact 66 (f := .meth "Floor" "size") rfl), F⟩⟩,
    f_has := ⟨(c.def_ 32 rfl).elim fun fd F => ⟨_, fd, He.meth_ok (c.fact 67 (f := .meth "Floor" "has") rfl), F⟩⟩,
    f_seen := ⟨(c.def_ 33 rfl).elim fun fd F => ⟨_, fd, He.meth_ok (c.fact 68 (f := .meth "Floor" "seen") rfl), F⟩⟩,
    f_letters := ⟨(c.def_ 34 rfl).elim fun fd F => ⟨_, fd, He.meth_ok (c.fact 69 (f := .meth "Floor" "letters") rfl), F⟩⟩,
    f_places := ⟨(c.def_ 35 rfl).elim fun fd F => ⟨_, fd, He.meth_ok (c.fact 70 (f := .meth "Floor" "places") rfl), F⟩⟩,
    f_open_places := ⟨(c.def_ 36 rfl).elim fun fd F => ⟨_, fd, He.meth_ok (c.fact 71 (f := .meth "Floor" "open_places") rfl), F⟩⟩,
    f_can_stand := ⟨(c.def_ 37 rfl).elim fun fd F => ⟨_, fd, He.meth_ok (c.fact 72 (f := .meth "Floor" "can_stand") rfl), F⟩⟩,
    f_goes := ⟨(c.def_ 38 rfl).elim fun fd F => ⟨_, fd, He.meth_ok (c.fact 73 (f := .meth "Floor" "goes") rfl), F⟩⟩,
    w_want_stand := ⟨(c.def_ 39 rfl).elim fun fd F => ⟨_, fd, He.meth_ok (c.fact 74 (f := .meth "World" "want_stand") rfl), F⟩⟩,
    w_begun := ⟨(c.def_ 40 rfl).elim fun fd F => ⟨_, fd, He.meth_ok (c.fact 75 (f := .meth "World" "begun") rfl), F⟩⟩,
    w_behind := ⟨(c.def_ 41 rfl).elim fun fd F => ⟨_, fd, He.meth_ok (c.fact 76 (f := .meth "World" "behind") rfl), F⟩⟩,
    w_gone := ⟨(c.def_ 42 rfl).elim fun fd F => ⟨_, fd, He.meth_ok (c.fact 77 (f := .meth "World" "gone") rfl), F⟩⟩,
    w_walk := ⟨(c.def_ 43 rfl).elim fun fd F => ⟨_, fd, He.meth_ok (c.fact 78 (f := .meth "World" "walk") rfl), F⟩⟩,
    w_comings := ⟨(c.def_ 44 rfl).elim fun fd F => ⟨_, fd, He.meth_ok (c.fact 79 (f := .meth "World" "comings") rfl), F⟩⟩,
    w_ways := ⟨(c.def_ 45 rfl).elim fun fd F => ⟨_, fd, He.meth_ok (c.fact 80 (f := .meth "World" "ways") rfl), F⟩⟩ }
end
end Oh
namespace Oh
open PySem PySem.W PySem.Calls PyProof.Rows
abbrev dLaw : DefRec := HandSHeadRun.topDef RW.prog 56
theorem e_opening : opening RW.prog = plainProg RW.prog.main.scope.names := by kernel_rfl
theorem e_fence : ∀ s, fenceModules? RW.prog s = some s := fun s => by kernel_rfl
theorem e_def : defOf (view RW.prog [56]) RW.name = some (dLaw, []) := by kernel_rfl
theorem e_the : RW.prog.theDef RW.name = some (dLaw.params, dLaw.body, dLaw.scope) := by kernel_rfl
theorem e_kw : kwWritten? dLaw.params.kwonlyargs dLaw.params.kw_defaults = some [] := by kernel_rfl
theorem e_wr : (!RW.writes || RW.records.isEmpty) = true := by kernel_rfl
theorem e_name : dLaw.name = ("law" : PySem.Str) := by kernel_rfl
theorem e_dfl : dLaw.params.defaults = [] := by kernel_rfl
end Oh
namespace Oh
open PySem PySem.W PySem.Calls PyProof.Rows
theorem e_well : RW.wellSaid = true := by decide +kernel
theorem e_ok : (chainsOk (view RW.prog [56]) && opensWell RW.prog && (frees RW.toRowW && RW.within.isEmpty)) = true := by decide +kernel
end Oh
namespace Oh
open PySem PySem.W PySem.Calls PyProof.Rows
theorem e_bare : RW.prog.bare := ⟨rfl, rfl, rfl, rfl, rfl, by decide +kernel⟩
end Oh
namespace Oh
open PySem PySem.W PySem.Calls PyProof.Rows
theorem e_lsaid : OpenLaw.wellSaid PySem.Challenge.rw_onehand_k19_whole_a_walk_is_a_bookless_o = true := by kernel_rfl
theorem e_prom : RW.toRowW.promised := ⟨[.list []], by kernel_rfl, by kernel_rfl⟩
end Oh
namespace Oh
open PySem PySem.W PySem.Calls PyProof.Rows
theorem e_call : WalkO (view RW.prog [56]) looseL (XL (view RW.prog [56]) []) hk.says RW.toRowW dLaw [] (fun f vs => PySem.call f vs) := by
  refine L2.walk_ofE (l := PySem.Challenge.rw_onehand_k19_whole_a_walk_is_a_bookless_o) (n := 63) (k := 13) (x := "_law_script") (CX := L2.CX0) rfl (by decide) e_dfl ⟨rfl, by decide, by decide⟩ ?F (fun _ _ _ _ z => z)
  intro w mg fa h Y G hmg0
  obtain ⟨K, KX, c⟩ := Y
  have hmg : mg ("law" : PySem.Str) = some (.ref fa) := by
    rw [← e_name]
    exact hmg0
  have T := txt_of KX G c
  obtain ⟨f0, fd, hm, F⟩ := T.l_law.ex
  have ef : f0 = fa := by
    rw [hm] at hmg
    injection hmg with hmg
    injection hmg
  subst ef
  have hb := L2.FunD.bindsA (ps := ["_law_script"]) F fun _ _ _ _ _ _ us hl => match us, hl with | [_], _ => rfl
  exact ⟨K, fd, spLaw K, KX, fun s v => hb s [v] rfl, fun H a ns hl _ hS => ⟨a, ns, rfl, hS, by omega, fun _ => rfl⟩, fun base _ _ => law_ok T F⟩
end Oh
open PySem PySem.W PySem.Calls PyProof.Rows
theorem PySem.Challenge.cw_onehand_k19_whole_a_walk_is_a_bookless_o_holds : PySem.Challenge.rw_onehand_k19_whole_a_walk_is_a_bookless_o.Holds :=
  holds_law Oh.e_lsaid fun said => HandSHeadRun.head_any (r := Oh.RW) (q := view Oh.RW.prog [56]) (H := Oh.hk) (ob := Oh.ob) (M := 20000) (loose := Oh.looseL) (d := Oh.dLaw) (kwd := []) Oh.ob_eq
    Oh.e_opening Oh.e_fence Oh.run Oh.e_def Oh.e_the Oh.e_kw Oh.e_wr said Oh.e_ok Oh.e_bare Oh.e_prom Oh.e_call
